import PyProof.Rows.All
import HandS.ForExc
import HandS.ForMost
import HandS.TupAny
import HandS.Deep
import HandS.Wide
import KE.DataCmp
import HandS.Defaults
import HandS.Zip
import HandS.WideBits
import KE.SortData
import HandS.IsInst
import HandS.WordsDict
import PyProof.ReprRoads
import PyProof.StrOps2
import HandS.More
import HandS.Small
import HandS.Text
import HandS.TupSets
import HandS.SetBool
import HandS.SetKeys
import PyProof.Rows.FactsN_isinstance
import HandS.Ends
import HandS.EndBits
import Wide.All
import OpenK.AllK
import Wide.FinOn
import KE.KStateDown
import HandS.Words
import HandS.WordsExc
import HandS.Head0
import HandS.Head1
import HandS.Head2
import HandS.HeadEnd
import HandS.HeadHook1
import HandS.HeadHook2
import PySem.Challenge.RW_sayloom_k04_rows_known
import HandS.NoneIn
import HandS.DeepEq
import PyProof.NeKinds
import HandS.TryOnly
import HandS.ExcOwn
import PyProof.ExcBaseAll.ValueError
import PyProof.StrLawsRepr
section
set_option Elab.async false
set_option linter.all false
set_option maxRecDepth 100000
set_option maxHeartbeats 4000000
namespace Dn
open PySem PySem.Spec PyProof.Rows L2
inductive D where
  | non | bl (b : Bool) | int (i : Int) | str (x : List Nat) | tup (ds : List D) | ref (n : Nat) | cst (v : V) | tl (ds : List D)
  deriving Inhabited
inductive MO where
  | lst (ds : List D)
  | rol (ds : List D)
  | dct (kvs : List (D × D))
  | ins (C : Addr) (fs : List (Str × D))
  deriving Inhabited
def MO.mu : MO → Bool
  | .rol _ => false
  | _ => true
abbrev MH := List MO
abbrev Sg := List (Option D)
structure MX where
  cls : Str
  fs : Option (List (Str × D))
inductive R (α : Type) where
  | ok (a : α) (h : MH)
  | exc (x : MX) (h : MH)
  | stuck
abbrev M (α : Type) := Sg → MH → R α
def mx (l : List Nat) : Str := ⟨l.toArray⟩
def okS (l : List Nat) : Bool := l.all fun c => decide (c < 0x110000)
section
variable (K : PySem.W.Frag) (ρ : Nat → Addr) (N : Nat) (H : Hp)
mutual
inductive RD : D → V → Prop
  | non : RD .non .non
  | bl (b : Bool) : RD (.bl b) (.bl b)
  | int (i : Int) : RD (.int i) (.int i)
  | str (x : List Nat) : okS x = true → RD (.str x) (.str (mx x))
  | ref (n : Nat) : n < N → RD (.ref n) (.ref (ρ n))
  | cst (v : V) : RD (.cst v) v
  | tup {a : Addr} {xs : List V} {ds : List D} : SqT K H a xs → RDs ds xs → RD (.tup ds) (.ref a)
inductive RDs : List D → List V → Prop
  | nil : RDs [] []
  | cons {d : D} {v : V} {ds : List D} {vs : List V} : RD d v → RDs ds vs → RDs (d :: ds) (v :: vs)
end
def keyD : D → Option Key
  | .int i => some (.inl i)
  | .str x => some (.inr (mx x))
  | _ => none
inductive RK : List (D × D) → List (Key × V) → Prop
  | nil : RK [] []
  | cons {k d : D} {q : Key} {v : V} {kvs : List (D × D)} {qs : List (Key × V)} : keyD k = some q → RD K ρ N H k (kV q) → RD K ρ N H d v → RK kvs qs → RK ((k, d) :: kvs) ((q, v) :: qs)
inductive RF : List (Str × D) → List (Str × V) → Prop
  | nil : RF [] []
  | cons {x : Str} {d : D} {v : V} {fs : List (Str × D)} {gs : List (Str × V)} : RD K ρ N H d v → RF fs gs → RF ((x, d) :: fs) ((x, v) :: gs)
def RO : MO → Addr → Prop
  | .lst ds, a => ∃ xs, H a = some (.lst xs) ∧ RDs K ρ N H ds xs
  | .rol ds, a => ∃ xs, ((∃ o, H a = some (.frz o (.lst xs))) ∨ (∀ H', SqL K H' a xs)) ∧ RDs K ρ N H ds xs
  | .dct kvs, a => ∃ qs, H a = some (.dK qs) ∧ RK K ρ N H kvs qs
  | .ins C fs, a => ∃ dx gs, H a = some (.ins C dx gs) ∧ H dx = some (.own a) ∧ RF K ρ N H fs gs
def clsA (K : PySem.W.Frag) (x : Str) : Addr := match PySem.W.nsIn K mainGlobals x with
  | some (some (.ref a)) => a
  | _ => 0
def RX (x : MX) (cls : Value) (dx : Option Addr) : Prop := cls = .ref (clsA K x.cls) ∧ match x.fs with
  | none => dx = none
  | some fs => ∃ d gs, dx = some d ∧ H d = some (.xd gs) ∧ RF K ρ N H fs gs
end
def Mu (h : MH) (n : Nat) : Prop := ∃ o, h[n]? = some o ∧ o.mu = true
structure RH (K : PySem.W.Frag) (ρ : Nat → Addr) (h : MH) (H : Hp) : Prop where
  obj : ∀ n o, h[n]? = some o → RO K ρ h.length H o (ρ n)
  inj : ∀ m n, Mu h m → Mu h n → ρ m = ρ n → m = n
structure Step (ρ : Nat → Addr) (h : MH) (H : Hp) (ρ' : Nat → Addr) (h' : MH) (H' : Hp) : Prop where
  ag : ∀ n, n < h.length → ρ' n = ρ n
  fresh : ∀ n, h.length ≤ n → n < h'.length → H (ρ' n) = none
  fr : ∀ a o, H a = some o → (∀ n, Mu h n → ρ n ≠ a) → H' a = some o
structure MonoH (h h' : MH) : Prop where
  len : h.length ≤ h'.length
  kind : ∀ n, n < h.length → (h'[n]?.map MO.mu) = (h[n]?.map MO.mu)
section
variable {K : PySem.W.Frag} {ρ ρ' ρ1 ρ2 : Nat → Addr} {N N' : Nat} {H H' H1 H2 : Hp} {h h' h1 h2 : MH}
theorem MonoH.refl (h : MH) : MonoH h h := ⟨Nat.le_refl _, fun _ _ => rfl⟩
theorem MonoH.trans (a : MonoH h h1) (b : MonoH h1 h2) : MonoH h h2 :=
  ⟨Nat.le_trans a.len b.len, fun n hn => (b.kind n (Nat.lt_of_lt_of_le hn a.len)).trans (a.kind n hn)⟩
theorem Mu.lt {n : Nat} (m : Mu h n) : n < h.length := by
  obtain ⟨o, e, _⟩ := m
  exact (List.getElem?_eq_some_iff.mp e).1
theorem MonoH.mu {n : Nat} (a : MonoH h h') (m : Mu h n) : Mu h' n := by
  have e := a.kind n m.lt
  obtain ⟨o, e1, e2⟩ := m
  rw [e1] at e
  cases q : h'[n]? with
  | none => rw [q] at e; cases e
  | some o' =>
    rw [q] at e
    exact ⟨o', q, (Option.some.inj e).trans e2⟩
theorem MonoH.mu' {n : Nat} (a : MonoH h h') (hn : n < h.length) (m : Mu h' n) : Mu h n := by
  have e := a.kind n hn
  obtain ⟨o, e1, e2⟩ := m
  rw [e1] at e
  cases q : h[n]? with
  | none => rw [q] at e; cases e
  | some o' =>
    rw [q] at e
    exact ⟨o', q, (Option.some.inj e).symm.trans e2⟩
theorem RH.at (r : RH K ρ h H) {n : Nat} (m : Mu h n) : (∃ xs, H (ρ n) = some (.lst xs)) ∨ (∃ qs, H (ρ n) = some (.dK qs)) ∨ ∃ C dx gs, H (ρ n) = some (.ins C dx gs) := by
  obtain ⟨o, e, q⟩ := m
  have z := r.obj n o e
  cases o with
  | lst ds => obtain ⟨xs, z, _⟩ := z; exact .inl ⟨xs, z⟩
  | rol ds => cases q
  | dct kvs => obtain ⟨qs, z, _⟩ := z; exact .inr (.inl ⟨qs, z⟩)
  | ins C fs => obtain ⟨dx, gs, z, _⟩ := z; exact .inr (.inr ⟨C, dx, gs, z⟩)
theorem RH.nn (r : RH K ρ h H) {n : Nat} (m : Mu h n) : H (ρ n) ≠ none := by
  rcases r.at m with ⟨_, z⟩ | ⟨_, z⟩ | ⟨_, _, _, z⟩ <;> (rw [z]; intro q; cases q)
theorem RH.ne (r : RH K ρ h H) {n : Nat} {a : Addr} {o : HO} (m : Mu h n) (e : H a = some o) (h1 : ∀ xs, o ≠ .lst xs) (h2 : ∀ xs, o ≠ .dK xs) (h3 : ∀ C dx gs, o ≠ .ins C dx gs) : ρ n ≠ a := by
  rintro rfl
  rcases r.at m with ⟨_, z⟩ | ⟨_, z⟩ | ⟨_, _, _, z⟩ <;> (rw [e] at z; cases z)
  · exact h1 _ rfl
  · exact h2 _ rfl
  · exact h3 _ _ _ rfl
theorem sqT_step (r : RH K ρ h H) (s : Step ρ h H ρ' h' H') {a : Addr} {xs : List V} (q : SqT K H a xs) : SqT K H' a xs := by
  rcases q with (q | ⟨o, q⟩) | q
  · exact .inl (.inl (s.fr a _ q fun n m => r.ne m q (fun _ z => nomatch z) (fun _ z => nomatch z) fun _ _ _ z => nomatch z))
  · exact .inl (.inr ⟨o, s.fr a _ q fun n m => r.ne m q (fun _ z => nomatch z) (fun _ z => nomatch z) fun _ _ _ z => nomatch z⟩)
  · exact .inr q
structure Grow (K : PySem.W.Frag) (ρ : Nat → Addr) (N : Nat) (H : Hp) (ρ' : Nat → Addr) (N' : Nat) (H' : Hp) : Prop where
  le : N ≤ N'
  ag : ∀ n, n < N → ρ' n = ρ n
  tup : ∀ a xs, SqT K H a xs → SqT K H' a xs
mutual
theorem RD.grow (g : Grow K ρ N H ρ' N' H') : ∀ {d : D} {v : V}, RD K ρ N H d v → RD K ρ' N' H' d v
  | _, _, .non => .non
  | _, _, .bl b => .bl b
  | _, _, .int i => .int i
  | _, _, .str x q => .str x q
  | _, _, .ref n q => by
    have z := RD.ref (K := K) (ρ := ρ') (N := N') (H := H') n (Nat.lt_of_lt_of_le q g.le)
    rw [g.ag n q] at z
    exact z
  | _, _, .cst v => .cst v
  | _, _, .tup q t => .tup (g.tup _ _ q) (RDs.grow g t)
theorem RDs.grow (g : Grow K ρ N H ρ' N' H') : ∀ {ds : List D} {vs : List V}, RDs K ρ N H ds vs → RDs K ρ' N' H' ds vs
  | _, _, .nil => .nil
  | _, _, .cons a t => .cons (RD.grow g a) (RDs.grow g t)
end
theorem RK.grow (g : Grow K ρ N H ρ' N' H') : ∀ {kvs : List (D × D)} {qs : List (Key × V)}, RK K ρ N H kvs qs → RK K ρ' N' H' kvs qs
  | _, _, .nil => .nil
  | _, _, .cons e a b t => .cons e (a.grow g) (b.grow g) (RK.grow g t)
theorem RF.grow (g : Grow K ρ N H ρ' N' H') : ∀ {fs : List (Str × D)} {gs : List (Str × V)}, RF K ρ N H fs gs → RF K ρ' N' H' fs gs
  | _, _, .nil => .nil
  | _, _, .cons a t => .cons (a.grow g) (RF.grow g t)
theorem Step.grow (r : RH K ρ h H) (s : Step ρ h H ρ' h' H') (m : MonoH h h') : Grow K ρ h.length H ρ' h'.length H' := ⟨m.len, s.ag, fun _ _ q => sqT_step r s q⟩
theorem Step.refl : Step ρ h H ρ h H := ⟨fun _ _ => rfl, fun n a b => absurd (Nat.lt_of_lt_of_le b a) (Nat.lt_irrefl _), fun _ _ e _ => e⟩
theorem Step.trans (r1 : RH K ρ1 h1 H1) (a : Step ρ h H ρ1 h1 H1) (ma : MonoH h h1) (b : Step ρ1 h1 H1 ρ2 h2 H2) : Step ρ h H ρ2 h2 H2 := by
  have back : ∀ x, (∀ n, Mu h n → ρ n ≠ x) → H1 x = none → H x = none := fun x hx e => by
    cases q : H x with
    | none => rfl
    | some o => rw [a.fr x o q hx] at e; cases e
  refine ⟨fun n hn => (b.ag n (Nat.lt_of_lt_of_le hn ma.len)).trans (a.ag n hn), fun n h1' h2' => ?_, fun x o e hx => ?_⟩
  · by_cases hn : n < h1.length
    · rw [b.ag n hn]; exact a.fresh n h1' hn
    · have z := b.fresh n (Nat.le_of_not_lt hn) h2'
      refine back _ (fun k mk e => ?_) z
      have mk1 := ma.mu mk
      have := r1.nn mk1
      rw [a.ag k mk.lt, e] at this
      exact this z
  · refine b.fr x o (a.fr x o e hx) fun n mn e1 => ?_
    by_cases hn : n < h.length
    · rw [a.ag n hn] at e1
      exact hx n (ma.mu' hn mn) e1
    · have z := a.fresh n (Nat.le_of_not_lt hn) mn.lt
      rw [e1, e] at z
      cases z
theorem RO.keep (k : ∀ a o, H a = some o → H' a = some o) (g : Grow K ρ N H ρ' N' H') {o : MO} {a : Addr} (r : RO K ρ N H o a) : RO K ρ' N' H' o a := by
  cases o with
  | lst ds => obtain ⟨xs, e, q⟩ := r; exact ⟨xs, k _ _ e, q.grow g⟩
  | rol ds =>
    obtain ⟨xs, e, q⟩ := r
    refine ⟨xs, ?_, q.grow g⟩
    rcases e with ⟨o, e⟩ | e
    · exact .inl ⟨o, k _ _ e⟩
    · exact .inr e
  | dct kvs => obtain ⟨qs, e, q⟩ := r; exact ⟨qs, k _ _ e, q.grow g⟩
  | ins C fs => obtain ⟨dx, gs, e, e2, q⟩ := r; exact ⟨dx, gs, k _ _ e, k _ _ e2, q.grow g⟩
theorem grow_keep (k : ∀ a o, H a = some o → H' a = some o) : Grow K ρ N H ρ N H' := ⟨Nat.le_refl _, fun _ _ => rfl, fun a xs q => by
  rcases q with (q | ⟨o, q⟩) | q
  · exact .inl (.inl (k _ _ q))
  · exact .inl (.inr ⟨o, k _ _ q⟩)
  · exact .inr q⟩
theorem RH.keep (r : RH K ρ h H) (k : ∀ a o, H a = some o → H' a = some o) : RH K ρ h H' := ⟨fun n o e => (r.obj n o e).keep k (grow_keep k), r.inj⟩
theorem Step.keep (k : ∀ a o, H a = some o → H' a = some o) : Step ρ h H ρ h H' := ⟨fun _ _ => rfl, fun n a b => absurd (Nat.lt_of_lt_of_le b a) (Nat.lt_irrefl _), fun a o e _ => k a o e⟩
theorem keep_new {p : Addr} {o : HO} (hp : H p = none) : ∀ a u, H a = some u → upd H p o a = some u := fun a u e => by rw [upd_ne (ne_of_none e hp)]; exact e
def put (ρ : Nat → Addr) (n : Nat) (p : Addr) : Nat → Addr := fun i => if i = n then p else ρ i
theorem put_ne {n i : Nat} {p : Addr} (e : i ≠ n) : put ρ n p i = ρ i := if_neg e
theorem put_eq {n : Nat} {p : Addr} : put ρ n p n = p := if_pos rfl
theorem mono_new {o : MO} : MonoH h (h ++ [o]) := ⟨by simp, fun n hn => by rw [List.getElem?_append_left hn]⟩
theorem grow_new {p : Addr} {ho : HO} {o : MO} (hp : H p = none) : Grow K ρ h.length H (put ρ h.length p) (h ++ [o]).length (upd H p ho) :=
  ⟨by simp, fun n hn => put_ne (Nat.ne_of_lt hn), (grow_keep (ρ := ρ) (N := h.length) (keep_new hp)).tup⟩
theorem RH.new {p : Addr} {ho : HO} {o : MO} (r : RH K ρ h H) (hp : H p = none) (q : RO K (put ρ h.length p) (h ++ [o]).length (upd H p ho) o p) : RH K (put ρ h.length p) (h ++ [o]) (upd H p ho) := by
  have pn : ∀ n, Mu h n → ρ n ≠ p := fun n m e => r.nn m (by rw [e]; exact hp)
  have back : ∀ n, Mu (h ++ [o]) n → n ≠ h.length → Mu h n := fun n m hn => by
    have l := m.lt
    rw [List.length_append] at l
    exact mono_new.mu' (by simp at l; omega) m
  refine ⟨fun n u e => ?_, fun m n hm hn e => ?_⟩
  · by_cases hn : n = h.length
    · subst hn
      rw [List.getElem?_concat_length] at e
      cases e
      rw [put_eq]
      exact q
    · have l : n < h.length := by
        have z := (List.getElem?_eq_some_iff.mp e).1
        rw [List.length_append] at z
        simp at z
        omega
      rw [List.getElem?_append_left l] at e
      rw [put_ne hn]
      exact (r.obj n u e).keep (keep_new hp) (grow_new hp)
  · by_cases h1 : m = h.length
    · by_cases h2 : n = h.length
      · rw [h1, h2]
      · rw [h1, put_eq, put_ne h2] at e
        exact absurd e.symm (pn n (back n hn h2))
    · by_cases h2 : n = h.length
      · rw [h2, put_eq, put_ne h1] at e
        exact absurd e (pn m (back m hm h1))
      · rw [put_ne h1, put_ne h2] at e
        exact r.inj m n (back m hm h1) (back n hn h2) e
theorem Step.new {p : Addr} {ho : HO} {o : MO} (hp : H p = none) : Step ρ h H (put ρ h.length p) (h ++ [o]) (upd H p ho) := by
  refine ⟨fun n hn => put_ne (Nat.ne_of_lt hn), fun n h1 h2 => ?_, fun a u e _ => keep_new hp a u e⟩
  have : n = h.length := by rw [List.length_append] at h2; simp at h2; omega
  subst this
  rw [put_eq]
  exact hp
theorem mono_set {n : Nat} {o o' : MO} (e : h[n]? = some o) (k : o'.mu = o.mu) : MonoH h (h.set n o') := by
  refine ⟨by simp, fun i hi => ?_⟩
  by_cases hn : i = n
  · subst hn
    rw [List.getElem?_set_self hi, e]
    exact congrArg some k
  · rw [List.getElem?_set_ne (Ne.symm hn)]
theorem grow_set {n : Nat} {o o' : MO} {ho : HO} (r : RH K ρ h H) (e : h[n]? = some o) (k : o.mu = true) : Grow K ρ h.length H ρ (h.set n o').length (upd H (ρ n) ho) := by
  have m : Mu h n := ⟨o, e, k⟩
  refine ⟨by simp, fun _ _ => rfl, fun a xs q => ?_⟩
  rcases q with (q | ⟨u, q⟩) | q
  · exact .inl (.inl (by rw [upd_ne (Ne.symm (r.ne m q (fun _ z => nomatch z) (fun _ z => nomatch z) fun _ _ _ z => nomatch z))]; exact q))
  · exact .inl (.inr ⟨u, by rw [upd_ne (Ne.symm (r.ne m q (fun _ z => nomatch z) (fun _ z => nomatch z) fun _ _ _ z => nomatch z))]; exact q⟩)
  · exact .inr q
theorem RH.set {n : Nat} {o o' : MO} {ho : HO} (r : RH K ρ h H) (e : h[n]? = some o) (k : o.mu = true) (k' : o'.mu = true) (q : RO K ρ (h.set n o').length (upd H (ρ n) ho) o' (ρ n)) : RH K ρ (h.set n o') (upd H (ρ n) ho) := by
  have m : Mu h n := ⟨o, e, k⟩
  have ms : MonoH h (h.set n o') := mono_set e (k'.trans k.symm)
  have g : Grow K ρ h.length H ρ (h.set n o').length (upd H (ρ n) ho) := grow_set r e k
  have back : ∀ i, Mu (h.set n o') i → Mu h i := fun i mi => ms.mu' (by have := mi.lt; rw [List.length_set] at this; exact this) mi
  refine ⟨fun i u ei => ?_, fun a b ma mb => r.inj a b (back a ma) (back b mb)⟩
  by_cases hi : i = n
  · subst hi
    rw [List.getElem?_set_self m.lt] at ei
    cases ei
    exact q
  · rw [List.getElem?_set_ne (Ne.symm hi)] at ei
    have z := r.obj i u ei
    have ne : u.mu = true → ρ i ≠ ρ n := fun hu x => hi (r.inj i n ⟨u, ei, hu⟩ m x)
    cases u with
    | lst ds => obtain ⟨xs, a, b⟩ := z; exact ⟨xs, by rw [upd_ne (ne rfl)]; exact a, b.grow g⟩
    | rol ds =>
      obtain ⟨xs, a, b⟩ := z
      refine ⟨xs, ?_, b.grow g⟩
      rcases a with ⟨w, a⟩ | a
      · exact .inl ⟨w, by rw [upd_ne (Ne.symm (r.ne m a (fun _ z => nomatch z) (fun _ z => nomatch z) fun _ _ _ z => nomatch z))]; exact a⟩
      · exact .inr a
    | dct kvs => obtain ⟨xs, a, b⟩ := z; exact ⟨xs, by rw [upd_ne (ne rfl)]; exact a, b.grow g⟩
    | ins C fs =>
      obtain ⟨dx, gs, a, a2, b⟩ := z
      exact ⟨dx, gs, by rw [upd_ne (ne rfl)]; exact a, by rw [upd_ne (Ne.symm (r.ne m a2 (fun _ z => nomatch z) (fun _ z => nomatch z) fun _ _ _ z => nomatch z))]; exact a2, b.grow g⟩
theorem Step.set {n : Nat} {o o' : MO} {ho : HO} (e : h[n]? = some o) (k : o.mu = true) : Step ρ h H ρ (h.set n o') (upd H (ρ n) ho) :=
  ⟨fun _ _ => rfl, fun i a b => absurd (Nat.lt_of_lt_of_le (by rw [List.length_set] at b; exact b) a) (Nat.lt_irrefl _), fun a u q ne => by rw [upd_ne (Ne.symm (ne n ⟨o, e, k⟩))]; exact q⟩
def RT (K : PySem.W.Frag) (ρ : Nat → Addr) (h : MH) (H : Hp) (d : D) (v : V) : Prop := match d with
  | .tl ds => ∃ p xs, v = .ref p ∧ H p = some (.lst xs) ∧ RDs K ρ h.length H ds xs ∧ ∀ n, Mu h n → ρ n ≠ p
  | d => RD K ρ h.length H d v
def Fr0 (H : Hp) (d : D) (v : V) : Prop := ∀ ds, d = .tl ds → ∀ p, v = .ref p → H p = none
theorem RD.rt {d : D} {v : V} (q : RD K ρ h.length H d v) : RT K ρ h H d v := by
  cases d <;> first | exact q | cases q
theorem RD.fr0 {d : D} {v : V} (q : RD K ρ N H d v) : Fr0 H' d v := fun ds e => by
  subst e
  cases q
theorem RT.rd {d : D} {v : V} (q : RT K ρ h H d v) (hd : ∀ ds, d ≠ .tl ds) : RD K ρ h.length H d v := by
  cases d <;> first | exact q | exact absurd rfl (hd _)
theorem RT.step {d : D} {v : V} (q : RT K ρ h H d v) (r : RH K ρ h H) (s : Step ρ h H ρ' h' H') (m : MonoH h h') : RT K ρ' h' H' d v := by
  cases d with
  | tl ds =>
    obtain ⟨p, xs, rfl, a, b, c⟩ := q
    refine ⟨p, xs, rfl, s.fr p _ a c, b.grow (s.grow r m), fun n mn e => ?_⟩
    by_cases hn : n < h.length
    · rw [s.ag n hn] at e
      exact c n (m.mu' hn mn) e
    · have z := s.fresh n (Nat.le_of_not_lt hn) mn.lt
      rw [e, a] at z
      cases z
  | _ => exact RD.rt (RD.grow (s.grow r m) q)
theorem Step.back (r1 : RH K ρ1 h1 H1) (a : Step ρ h H ρ1 h1 H1) (ma : MonoH h h1) {x : Addr} (e : H1 x = none) : H x = none := by
  cases q : H x with
  | none => rfl
  | some o =>
    rw [← q]
    by_cases hx : ∀ n, Mu h n → ρ n ≠ x
    · rw [a.fr x o q hx] at e; cases e
    · exfalso
      refine hx fun n mn e1 => ?_
      have := r1.nn (ma.mu mn)
      rw [a.ag n mn.lt, e1] at this
      exact this e
theorem RH.adopt {p : Addr} {xs : List V} {ds : List D} (r : RH K ρ h H) (e : H p = some (.lst xs)) (q : RDs K ρ h.length H ds xs) (ne : ∀ n, Mu h n → ρ n ≠ p) : RH K (put ρ h.length p) (h ++ [.lst ds]) H := by
  have g : Grow K ρ h.length H (put ρ h.length p) (h ++ [MO.lst ds]).length H := ⟨by simp, fun n hn => put_ne (Nat.ne_of_lt hn), fun _ _ z => z⟩
  have back : ∀ n, Mu (h ++ [MO.lst ds]) n → n ≠ h.length → Mu h n := fun n m hn => by
    have l := m.lt
    rw [List.length_append] at l
    exact mono_new.mu' (by simp at l; omega) m
  refine ⟨fun n u eu => ?_, fun m n hm hn e => ?_⟩
  · by_cases hn : n = h.length
    · subst hn
      rw [List.getElem?_concat_length] at eu
      cases eu
      rw [put_eq]
      exact ⟨xs, e, q.grow g⟩
    · have l : n < h.length := by
        have z := (List.getElem?_eq_some_iff.mp eu).1
        rw [List.length_append] at z
        simp at z
        omega
      rw [List.getElem?_append_left l] at eu
      rw [put_ne hn]
      exact (r.obj n u eu).keep (fun _ _ z => z) g
  · by_cases h1 : m = h.length
    · by_cases h2 : n = h.length
      · rw [h1, h2]
      · rw [h1, put_eq, put_ne h2] at e
        exact absurd e.symm (ne n (back n hn h2))
    · by_cases h2 : n = h.length
      · rw [h2, put_eq, put_ne h1] at e
        exact absurd e (ne m (back m hm h1))
      · rw [put_ne h1, put_ne h2] at e
        exact r.inj m n (back m hm h1) (back n hn h2) e
theorem Step.adopt {p : Addr} {o : MO} (s : Step ρ h H ρ1 h1 H1) (hp : H p = none) (m : MonoH h h1) : Step ρ h H (put ρ1 h1.length p) (h1 ++ [o]) H1 := by
  refine ⟨fun n hn => (put_ne (Nat.ne_of_lt (Nat.lt_of_lt_of_le hn m.len))).trans (s.ag n hn), fun n a b => ?_, s.fr⟩
  by_cases e : n = h1.length
  · rw [e, put_eq]; exact hp
  · rw [put_ne e]
    refine s.fresh n a ?_
    rw [List.length_append] at b
    simp at b
    omega
end
end Dn
end
section
set_option Elab.async false
set_option linter.all false
set_option maxRecDepth 100000
set_option maxHeartbeats 4000000
namespace Dn
open PySem PySem.Spec PyProof.Rows L2
def R.heap? {α : Type} : R α → Option MH
  | .ok _ h => some h
  | .exc _ h => some h
  | .stuck => none
def bindM {α β : Type} (m : M α) (f : α → M β) : M β := fun σ h => match m σ h with
  | .ok a h1 => f a σ h1
  | .exc x h1 => .exc x h1
  | .stuck => .stuck
def retM {α : Type} (a : α) : M α := fun _ h => .ok a h
def Mono {α : Type} (m : M α) : Prop := ∀ σ h, match m σ h with
  | .ok _ h1 => MonoH h h1
  | .exc _ h1 => MonoH h h1
  | .stuck => True
theorem Mono.ok {α : Type} {m : M α} (x : Mono m) {σ : Sg} {h h1 : MH} {a : α} (e : m σ h = .ok a h1) : MonoH h h1 := by
  have z := x σ h
  rw [e] at z
  exact z
theorem Mono.exc {α : Type} {m : M α} (x : Mono m) {σ : Sg} {h h1 : MH} {a : MX} (e : m σ h = .exc a h1) : MonoH h h1 := by
  have z := x σ h
  rw [e] at z
  exact z
theorem Mono.ret {α : Type} (a : α) : Mono (retM a) := fun _ h => MonoH.refl h
theorem Mono.bind {α β : Type} {m : M α} {f : α → M β} (x : Mono m) (y : ∀ a, Mono (f a)) : Mono (bindM m f) := fun σ h => by
  unfold bindM
  cases e : m σ h with
  | ok a h1 =>
    have m1 := x.ok e
    have z := y a σ h1
    show match f a σ h1 with | .ok _ h2 => MonoH h h2 | .exc _ h2 => MonoH h h2 | .stuck => True
    cases q : f a σ h1 with
    | ok b h2 => rw [q] at z; exact m1.trans z
    | exc b h2 => rw [q] at z; exact m1.trans z
    | stuck => trivial
  | exc b h1 => exact x.exc e
  | stuck => trivial
section
variable (K : PySem.W.Frag)
def Post (ρ : Nat → Addr) (h : MH) (H : Hp) (W : Value → Option Addr → Hp → Prop) (r : R D) (Q : V → Hp → Prop) : Prop := match r with
  | .ok d h' => ∀ ρ' v H', Step ρ h H ρ' h' H' → RH K ρ' h' H' → RT K ρ' h' H' d v → Fr0 H d v → Q v H'
  | .exc x h' => ∀ ρ' cls dx H', Step ρ h H ρ' h' H' → RH K ρ' h' H' → RX K ρ' h'.length H' x cls dx → W cls dx H'
  | .stuck => False
def PostB (ρ : Nat → Addr) (h : MH) (H : Hp) (W : Value → Option Addr → Hp → Prop) (r : R Bool) (Q : Bool → Hp → Prop) : Prop := match r with
  | .ok b h' => ∀ ρ' H', Step ρ h H ρ' h' H' → RH K ρ' h' H' → Q b H'
  | .exc x h' => ∀ ρ' cls dx H', Step ρ h H ρ' h' H' → RH K ρ' h' H' → RX K ρ' h'.length H' x cls dx → W cls dx H'
  | .stuck => False
def PostL (ρ : Nat → Addr) (h : MH) (H : Hp) (W : Value → Option Addr → Hp → Prop) (r : R (List D)) (Q : List V → Hp → Prop) : Prop := match r with
  | .ok ds h' => ∀ ρ' vs H', Step ρ h H ρ' h' H' → RH K ρ' h' H' → RDs K ρ' h'.length H' ds vs → Q vs H'
  | .exc x h' => ∀ ρ' cls dx H', Step ρ h H ρ' h' H' → RH K ρ' h' H' → RX K ρ' h'.length H' x cls dx → W cls dx H'
  | .stuck => False
structure RS (ρ : Nat → Addr) (σm : Sg) (h : MH) (σ : L2.St) (H : Hp) : Prop where
  heap : RH K ρ h H
  env : ∀ (i : Nat) (d : D), σm[i]? = some (some d) → ∃ v, σ[i]? = some (some v) ∧ RD K ρ h.length H d v
  len : σ.length = σm.length
def rdE (W : WX) (m : M D) : TE := fun σ H Q => ∃ ρ σm h, RS K ρ σm h σ H ∧ Post K ρ h H (fun c d => W c d σ) (m σm h) Q
def rdB (W : WX) (m : M Bool) : TT := fun σ H Q => ∃ ρ σm h, RS K ρ σm h σ H ∧ PostB K ρ h H (fun c d => W c d σ) (m σm h) Q
def rdA (W : WX) (m : M (List D)) : TA := fun σ H Q => ∃ ρ σm h, RS K ρ σm h σ H ∧ PostL K ρ h H (fun c d => W c d σ) (m σm h) Q
end
section
variable {K : PySem.W.Frag} {ρ ρ1 : Nat → Addr} {h h1 : MH} {H H1 : Hp} {σm : Sg} {σ : L2.St}
theorem RS.step (r : RS K ρ σm h σ H) (s : Step ρ h H ρ1 h1 H1) (m : MonoH h h1) (r1 : RH K ρ1 h1 H1) : RS K ρ1 σm h1 σ H1 := ⟨r1, fun i d e => by
  obtain ⟨v, a, b⟩ := r.env i d e
  exact ⟨v, a, b.grow (s.grow r.heap m)⟩, r.len⟩
theorem Post.of_step {W : Value → Option Addr → Hp → Prop} {r : R D} {Q : V → Hp → Prop} (rh1 : RH K ρ1 h1 H1) (s : Step ρ h H ρ1 h1 H1) (m : MonoH h h1) (p : Post K ρ h H W r Q) : Post K ρ1 h1 H1 W r Q := by
  cases r with
  | ok d h2 => exact fun ρ' v H' s' r' t' f' => p ρ' v H' (s.trans rh1 m s') r' t' fun ds e1 x e2 => s.back rh1 m (f' ds e1 x e2)
  | exc x h2 => exact fun ρ' c d H' s' => p ρ' c d H' (s.trans rh1 m s')
  | stuck => exact p
theorem PostB.of_step {W : Value → Option Addr → Hp → Prop} {r : R Bool} {Q : Bool → Hp → Prop} (rh1 : RH K ρ1 h1 H1) (s : Step ρ h H ρ1 h1 H1) (m : MonoH h h1) (p : PostB K ρ h H W r Q) : PostB K ρ1 h1 H1 W r Q := by
  cases r with
  | ok d h2 => exact fun ρ' H' s' => p ρ' H' (s.trans rh1 m s')
  | exc x h2 => exact fun ρ' c d H' s' => p ρ' c d H' (s.trans rh1 m s')
  | stuck => exact p
theorem PostL.of_step {W : Value → Option Addr → Hp → Prop} {r : R (List D)} {Q : List V → Hp → Prop} (rh1 : RH K ρ1 h1 H1) (s : Step ρ h H ρ1 h1 H1) (m : MonoH h h1) (p : PostL K ρ h H W r Q) : PostL K ρ1 h1 H1 W r Q := by
  cases r with
  | ok d h2 => exact fun ρ' v H' s' => p ρ' v H' (s.trans rh1 m s')
  | exc x h2 => exact fun ρ' c d H' s' => p ρ' c d H' (s.trans rh1 m s')
  | stuck => exact p
end
structure SE (X : Cx) (W : WX) (e : Expr) (m : M D) : Prop where
  mono : Mono m
  pe : PE X e (rdE X.K W m)
structure SB (X : Cx) (W : WX) (e : Expr) (m : M Bool) : Prop where
  mono : Mono m
  pt : PT X e (rdB X.K W m)
structure SA (X : Cx) (W : WX) (es : List Expr) (m : M (List D)) : Prop where
  mono : Mono m
  pa : PA X es (rdA X.K W m)
theorem weakE {X : Cx} {e : Expr} {t t' : TE} (h : PE X e t) (w : ∀ σ H Q, t' σ H Q → t σ H Q) : PE X e t' := ⟨fun pins s σ H Q I q => h.run pins s σ H Q I (w σ H Q q)⟩
theorem weakT {X : Cx} {e : Expr} {t t' : TT} (h : PT X e t) (w : ∀ σ H Q, t' σ H Q → t σ H Q) : PT X e t' := ⟨fun pins s σ H Q I q => h.run pins s σ H Q I (w σ H Q q)⟩
theorem weakA {X : Cx} {es : List Expr} {t t' : TA} (h : PA X es t) (w : ∀ σ H Q, t' σ H Q → t σ H Q) : PA X es t' := ⟨fun pos pins s σ H Q I q => h.run pos pins s σ H Q I (w σ H Q q)⟩
theorem weakS {X : Cx} {st : Stmt} {t t' : TS} (h : PS X st t) (w : ∀ D σ H, t' D σ H → t D σ H) : PS X st t' := ⟨fun pins s σ H D I q => h.run pins s σ H D I (w D σ H q)⟩
theorem weakSs {X : Cx} {st : List Stmt} {t t' : TS} (h : PSs X st t) (w : ∀ D σ H, t' D σ H → t D σ H) : PSs X st t' := ⟨fun pins s σ H D I q => h.run pins s σ H D I (w D σ H q)⟩
section
variable {K : PySem.W.Frag} {W : WX} {σ : L2.St} {H : Hp}
def At (K : PySem.W.Frag) (W : WX) (σ : L2.St) (H : Hp) (v : V) (f : D → M D) (Q : VK) : Prop := ∃ ρ σm h d, RS K ρ σm h σ H ∧ RT K ρ h H d v ∧ Post K ρ h H (fun c x => W c x σ) (f d σm h) Q
theorem rd_bind {m : M D} {f : D → M D} {Q : VK} (mm : Mono m) (q : rdE K W (bindM m f) σ H Q) : rdE K W m σ H fun v H1 => At K W σ H1 v f Q := by
  obtain ⟨ρ, σm, h, r, p⟩ := q
  refine ⟨ρ, σm, h, r, ?_⟩
  unfold bindM at p
  cases e : m σm h with
  | ok d h1 =>
    rw [e] at p
    intro ρ1 v H1 s1 r1 d1 _
    have mh := mm.ok e
    exact ⟨ρ1, σm, h1, d, r.step s1 mh r1, d1, Post.of_step r1 s1 mh p⟩
  | exc x h1 => rw [e] at p; exact p
  | stuck => rw [e] at p; exact p
theorem rd_bindB {m : M D} {f : D → M Bool} {Q : Bool → Hp → Prop} (mm : Mono m) (q : rdB K W (bindM m f) σ H Q) : rdE K W m σ H fun v H1 => ∃ ρ σm h d, RS K ρ σm h σ H1 ∧ RT K ρ h H1 d v ∧ PostB K ρ h H1 (fun c x => W c x σ) (f d σm h) Q := by
  obtain ⟨ρ, σm, h, r, p⟩ := q
  refine ⟨ρ, σm, h, r, ?_⟩
  unfold bindM at p
  cases e : m σm h with
  | ok d h1 =>
    rw [e] at p
    intro ρ1 v H1 s1 r1 d1 _
    have mh := mm.ok e
    exact ⟨ρ1, σm, h1, d, r.step s1 mh r1, d1, PostB.of_step r1 s1 mh p⟩
  | exc x h1 => rw [e] at p; exact p
  | stuck => rw [e] at p; exact p
theorem rd_bind2 {ma mb : M D} {f : D → D → M D} {Q : VK} (m1 : Mono ma) (m2 : Mono mb) (q : rdE K W (bindM ma fun a => bindM mb fun b => f a b) σ H Q) :
    rdE K W ma σ H fun x H1 => rdE K W mb σ H1 fun y H2 => ∃ ρ σm h a b, RS K ρ σm h σ H2 ∧ RT K ρ h H2 a x ∧ RT K ρ h H2 b y ∧ Post K ρ h H2 (fun c x => W c x σ) (f a b σm h) Q := by
  obtain ⟨ρ, σm, h, r, p⟩ := rd_bind m1 q
  refine ⟨ρ, σm, h, r, ?_⟩
  cases e : ma σm h with
  | ok a h1 =>
    rw [e] at p
    intro ρ1 x H1 s1 r1 d1 f1
    obtain ⟨ρ2, σm2, h2, a2, r2, d2, p2⟩ := p ρ1 x H1 s1 r1 d1 f1
    refine ⟨ρ2, σm2, h2, r2, ?_⟩
    dsimp only [bindM] at p2
    cases e2 : mb σm2 h2 with
    | ok b h3 =>
      rw [e2] at p2
      intro ρ3 y H3 s3 r3 d3 _
      have mh := m2.ok e2
      exact ⟨ρ3, σm2, h3, a2, b, r2.step s3 mh r3, d2.step r2.heap s3 mh, d3, Post.of_step r3 s3 mh p2⟩
    | exc z h3 => rw [e2] at p2; exact p2
    | stuck => rw [e2] at p2; exact p2
  | exc z h1 => rw [e] at p; exact p
  | stuck => rw [e] at p; exact p
theorem rd_bind2B {ma mb : M D} {f : D → D → M Bool} {Q : Bool → Hp → Prop} (m1 : Mono ma) (m2 : Mono mb) (q : rdB K W (bindM ma fun a => bindM mb fun b => f a b) σ H Q) :
    rdE K W ma σ H fun x H1 => rdE K W mb σ H1 fun y H2 => ∃ ρ σm h a b, RS K ρ σm h σ H2 ∧ RT K ρ h H2 a x ∧ RT K ρ h H2 b y ∧ PostB K ρ h H2 (fun c x => W c x σ) (f a b σm h) Q := by
  obtain ⟨ρ, σm, h, r, p⟩ := rd_bindB m1 q
  refine ⟨ρ, σm, h, r, ?_⟩
  cases e : ma σm h with
  | ok a h1 =>
    rw [e] at p
    intro ρ1 x H1 s1 r1 d1 f1
    obtain ⟨ρ2, σm2, h2, a2, r2, d2, p2⟩ := p ρ1 x H1 s1 r1 d1 f1
    refine ⟨ρ2, σm2, h2, r2, ?_⟩
    dsimp only [bindM] at p2
    cases e2 : mb σm2 h2 with
    | ok b h3 =>
      rw [e2] at p2
      intro ρ3 y H3 s3 r3 d3 _
      have mh := m2.ok e2
      exact ⟨ρ3, σm2, h3, a2, b, r2.step s3 mh r3, d2.step r2.heap s3 mh, d3, PostB.of_step r3 s3 mh p2⟩
    | exc z h3 => rw [e2] at p2; exact p2
    | stuck => rw [e2] at p2; exact p2
  | exc z h1 => rw [e] at p; exact p
  | stuck => rw [e] at p; exact p
theorem Post.val {ρ : Nat → Addr} {h : MH} {Wx : Value → Option Addr → Hp → Prop} {d : D} {v : V} {Q : VK} (r : RH K ρ h H) (p : Post K ρ h H Wx (.ok d h) Q) (q : RD K ρ h.length H d v) : Q v H := p ρ v H Step.refl r q.rt q.fr0
end
section
variable {X : Cx} {W : WX}
def mVar (i : Nat) : M D := fun σ h => match σ[i]? with
  | some (some d) => .ok d h
  | _ => .stuck
theorem mono_var (i : Nat) : Mono (mVar i) := fun σ h => by
  unfold mVar
  cases e : σ[i]? with
  | none => trivial
  | some o => cases o with
    | none => trivial
    | some d => exact MonoH.refl h
theorem sv (i : Nat) {x : Str} {pos : Pos} (hN : X.N[i]? = some x := by rfl) (hv : Vis X.env.scope x := by first | exact Or.inl rfl | exact Or.inr (Or.inl rfl) | exact Or.inr (Or.inr rfl)) (hd : (x == ("__debug__" : Str)) = false := by decide)
    (hcd : (x == ("__classdict__" : Str)) = false := by decide) : SE X W (.Name x pos) (mVar i) := ⟨mono_var i, weakE (pe_var hN hv hd hcd) fun σ H Q q => by
  obtain ⟨ρ, σm, h, r, p⟩ := q
  unfold mVar at p
  cases e : σm[i]? with
  | none => rw [e] at p; exact p.elim
  | some o => cases o with
    | none => rw [e] at p; exact p.elim
    | some d =>
      rw [e] at p
      obtain ⟨v, a, b⟩ := r.env i d e
      exact ⟨v, a, Post.val r.heap p b⟩⟩
theorem se_const {e : Expr} {v : V} {d : D} (he : PE X e (tC v)) (hd : ∀ ρ N H, RD X.K ρ N H d v) : SE X W e (retM d) := ⟨Mono.ret d, weakE he fun σ H Q q => by
  obtain ⟨ρ, σm, h, r, p⟩ := q
  exact Post.val r.heap p (hd _ _ _)⟩
theorem se_int {i j pos} : SE X W (.Constant (.int i) j pos) (retM (.int i)) := se_const pe_int fun _ _ _ => .int i
theorem se_bl {b j pos} : SE X W (.Constant (.bool b) j pos) (retM (.bl b)) := se_const pe_bl fun _ _ _ => .bl b
theorem se_non {j pos} : SE X W (.Constant .none j pos) (retM .non) := se_const pe_non fun _ _ _ => .non
theorem se_str (l : List Nat) {x j pos} (e : x = mx l := by rfl) (ok : okS l = true := by decide) : SE X W (.Constant (.str x) j pos) (retM (.str l)) := by
  subst e
  exact se_const pe_str fun _ _ _ => .str l ok
end
end Dn
end
section
set_option Elab.async false
set_option linter.all false
set_option maxRecDepth 100000
set_option maxHeartbeats 4000000
namespace Dn
open PySem PySem.Spec PyProof.Rows L2
def MonoR {α : Type} (h : MH) (r : R α) : Prop := match r with
  | .ok _ h1 => MonoH h h1
  | .exc _ h1 => MonoH h h1
  | .stuck => True
theorem MonoR.same {α : Type} {h : MH} (a : α) : MonoR h (.ok a h) := MonoH.refl h
def op1 {α : Type} (g : D → MH → R α) (m : M D) : M α := bindM m fun x _ h => g x h
def op2 {α : Type} (g : D → D → MH → R α) (ma mb : M D) : M α := bindM ma fun x => bindM mb fun y _ h => g x y h
theorem mono_op1 {α : Type} {g : D → MH → R α} {m : M D} (x : Mono m) (y : ∀ a h, MonoR h (g a h)) : Mono (op1 g m) := x.bind fun a _ h => y a h
theorem mono_op2 {α : Type} {g : D → D → MH → R α} {ma mb : M D} (x : Mono ma) (z : Mono mb) (y : ∀ a b h, MonoR h (g a b h)) : Mono (op2 g ma mb) := x.bind fun a => z.bind fun b _ h => y a b h
structure Lift1 (K : PySem.W.Frag) (r : V → Hp → VK → Prop) (g : D → MH → R D) : Prop where
  mono : ∀ a h, MonoR h (g a h)
  run : ∀ {ρ : Nat → Addr} {h : MH} {H : Hp} {W : Value → Option Addr → Hp → Prop} {a : D} {x : V} {Q : VK}, RH K ρ h H → RT K ρ h H a x → Post K ρ h H W (g a h) Q → r x H Q
structure Lift2 (K : PySem.W.Frag) (r : R2) (g : D → D → MH → R D) : Prop where
  mono : ∀ a b h, MonoR h (g a b h)
  run : ∀ {ρ : Nat → Addr} {h : MH} {H : Hp} {W : Value → Option Addr → Hp → Prop} {a b : D} {x y : V} {Q : VK}, RH K ρ h H → RT K ρ h H a x → RT K ρ h H b y → Post K ρ h H W (g a b h) Q → r x y H Q
section
variable {X : Cx} {W : WX} {a b e : Expr} {ma mb m : M D} {pos : Pos}
theorem se_op {op : Operator} {r : R2} {g : D → D → MH → R D} (ho : OpR X (binaryOp op) r) (L : Lift2 X.K r g) (ha : SE X W a ma) (hb : SE X W b mb) : SE X W (.BinOp a op b pos) (op2 g ma mb) :=
  ⟨mono_op2 ha.mono hb.mono L.mono, weakE (pe_op ho ha.pe hb.pe) fun σ H Q q => by
    obtain ⟨ρ, σm, h, r1, p⟩ := rd_bind2 (f := fun x y => fun _ h => g x y h) ha.mono hb.mono q
    refine ⟨ρ, σm, h, r1, ?_⟩
    cases e : ma σm h with
    | ok d h1 =>
      rw [e] at p
      refine fun ρ1 v H1 s1 rh1 t1 f1 => ?_
      obtain ⟨ρ2, σ2, h2, r2, p2⟩ := p ρ1 v H1 s1 rh1 t1 f1
      refine ⟨ρ2, σ2, h2, r2, ?_⟩
      cases e2 : mb σ2 h2 with
      | ok d2 h3 =>
        rw [e2] at p2
        refine fun ρ3 v3 H3 s3 rh3 t3 f3 => ?_
        obtain ⟨ρ4, σ4, h4, x, y, r4, tx, ty, p4⟩ := p2 ρ3 v3 H3 s3 rh3 t3 f3
        exact L.run r4.heap tx ty p4
      | exc x h3 => rw [e2] at p2; exact p2
      | stuck => rw [e2] at p2; exact p2
    | exc x h1 => rw [e] at p; exact p
    | stuck => rw [e] at p; exact p⟩
theorem se_un {op : UnaryOp} {r : V → Hp → VK → Prop} {g : D → MH → R D} (ho : UnR X (unaryOp op) r) (L : Lift1 X.K r g) (ha : SE X W a ma) : SE X W (.UnaryOp op a pos) (op1 g ma) :=
  ⟨mono_op1 ha.mono L.mono, weakE (pe_un ho ha.pe) fun σ H Q q => by
    obtain ⟨ρ, σm, h, r1, p⟩ := rd_bind (f := fun x => fun _ h => g x h) ha.mono q
    refine ⟨ρ, σm, h, r1, ?_⟩
    cases e : ma σm h with
    | ok d h1 =>
      rw [e] at p
      refine fun ρ1 v H1 s1 rh1 t1 f1 => ?_
      obtain ⟨ρ2, σ2, h2, x, r2, tx, p2⟩ := p ρ1 v H1 s1 rh1 t1 f1
      exact L.run r2.heap tx p2
    | exc x h1 => rw [e] at p; exact p
    | stuck => rw [e] at p; exact p⟩
theorem se_cmp {op : CmpOp} {r : R2} {g : D → D → MH → R D} (ho : OpR X (compareOp op) r) (L : Lift2 X.K r g) (ha : SE X W a ma) (hb : SE X W b mb) (hm : behindInMarks op b = false := by first | exact nobehind _ (by decide) (by decide) | rfl) : SE X W (.Compare a [op] [b] pos) (op2 g ma mb) :=
  ⟨mono_op2 ha.mono hb.mono L.mono, weakE (pe_cmpR ho ha.pe hb.pe hm) fun σ H Q q => by
    obtain ⟨ρ, σm, h, r1, p⟩ := rd_bind2 (f := fun x y => fun _ h => g x y h) ha.mono hb.mono q
    refine ⟨ρ, σm, h, r1, ?_⟩
    cases e : ma σm h with
    | ok d h1 =>
      rw [e] at p
      refine fun ρ1 v H1 s1 rh1 t1 f1 => ?_
      obtain ⟨ρ2, σ2, h2, r2, p2⟩ := p ρ1 v H1 s1 rh1 t1 f1
      refine ⟨ρ2, σ2, h2, r2, ?_⟩
      cases e2 : mb σ2 h2 with
      | ok d2 h3 =>
        rw [e2] at p2
        refine fun ρ3 v3 H3 s3 rh3 t3 f3 => ?_
        obtain ⟨ρ4, σ4, h4, x, y, r4, tx, ty, p4⟩ := p2 ρ3 v3 H3 s3 rh3 t3 f3
        exact L.run r4.heap tx ty p4
      | exc x h3 => rw [e2] at p2; exact p2
      | stuck => rw [e2] at p2; exact p2
    | exc x h1 => rw [e] at p; exact p
    | stuck => rw [e] at p; exact p⟩
def asB (m : M D) : M Bool := bindM m fun x _ h => match x with
  | .bl b => .ok b h
  | _ => .stuck
theorem mono_asB (x : Mono m) : Mono (asB m) := x.bind fun a _ h => by
  cases a <;> first | exact MonoH.refl h | trivial
theorem asB_run {K : PySem.W.Frag} {σ : L2.St} {H : Hp} {Q : Bool → Hp → Prop} (x : Mono m) (q : rdB K W (asB m) σ H Q) : rdE K W m σ H fun x H1 => ∃ c, x = .bl c ∧ Q c H1 := by
  obtain ⟨ρ, σm, h, r1, p⟩ := rd_bindB x q
  refine ⟨ρ, σm, h, r1, ?_⟩
  cases e : m σm h with
  | ok d h1 =>
    rw [e] at p
    refine fun ρ1 v H1 s1 rh1 t1 f1 => ?_
    obtain ⟨ρ2, σ2, h2, y, r2, ty, p2⟩ := p ρ1 v H1 s1 rh1 t1 f1
    cases y with
    | bl b =>
      cases ty
      exact ⟨b, rfl, p2 ρ2 H1 Step.refl r2.heap⟩
    | _ => exact p2.elim
  | exc x h1 => rw [e] at p; exact p
  | stuck => rw [e] at p; exact p
theorem sb_cmp {op : CmpOp} {g : D → D → MH → R D} {r : R2} (ho : OpR X (compareOp op) r) (L : Lift2 X.K r g) (ha : SE X W a ma) (hb : SE X W b mb) (hm : behindInMarks op b = false := by first | exact nobehind _ (by decide) (by decide) | rfl) : SB X W (.Compare a [op] [b] pos) (asB (op2 g ma mb)) :=
  ⟨mono_asB (mono_op2 ha.mono hb.mono L.mono), weakT (pt_cmpR ho ha.pe hb.pe hm) fun σ H Q q => by
    obtain ⟨ρ, σm, h, r1, p⟩ := rd_bind2 (f := fun x y => fun _ h => g x y h) ha.mono hb.mono (asB_run (mono_op2 ha.mono hb.mono L.mono) q)
    refine ⟨ρ, σm, h, r1, ?_⟩
    cases e : ma σm h with
    | ok d h1 =>
      rw [e] at p
      refine fun ρ1 v H1 s1 rh1 t1 f1 => ?_
      obtain ⟨ρ2, σ2, h2, r2, p2⟩ := p ρ1 v H1 s1 rh1 t1 f1
      refine ⟨ρ2, σ2, h2, r2, ?_⟩
      cases e2 : mb σ2 h2 with
      | ok d2 h3 =>
        rw [e2] at p2
        refine fun ρ3 v3 H3 s3 rh3 t3 f3 => ?_
        obtain ⟨ρ4, σ4, h4, x, y, r4, tx, ty, p4⟩ := p2 ρ3 v3 H3 s3 rh3 t3 f3
        exact L.run r4.heap tx ty p4
      | exc x h3 => rw [e2] at p2; exact p2
      | stuck => rw [e2] at p2; exact p2
    | exc x h1 => rw [e] at p; exact p
    | stuck => rw [e] at p; exact p⟩
theorem sb_val (ha : SE X W a ma) (he : ∀ whole, isTrue a X.env whole = (do let v ← whole; standAt a.pos; holding [v] (truthy v)) := by intro _; rfl) : SB X W a (asB ma) :=
  ⟨mono_asB ha.mono, weakT (pt_val ha.pe he) fun σ H Q q => asB_run ha.mono q⟩
def andB (t u : M Bool) : M Bool := bindM t fun c => if c then u else retM false
def orB (t u : M Bool) : M Bool := bindM t fun c => if c then retM true else u
def notB (t : M Bool) : M Bool := bindM t fun c => retM (!c)
variable {t u : M Bool} {rest : List Expr}
theorem mono_ite {α : Type} {c : Bool} {f g : M α} (x : Mono f) (y : Mono g) : Mono (if c = true then f else g) := by cases c <;> assumption
theorem mono_and (x : Mono t) (y : Mono u) : Mono (andB t u) := x.bind fun c => mono_ite y (Mono.ret _)
theorem mono_or (x : Mono t) (y : Mono u) : Mono (orB t u) := x.bind fun c => mono_ite (Mono.ret _) y
theorem mono_not (x : Mono t) : Mono (notB t) := x.bind fun c => Mono.ret _
theorem rdB_bind {K : PySem.W.Frag} {σ : L2.St} {H : Hp} {Q : Bool → Hp → Prop} {f : Bool → M Bool} (mm : Mono t) (q : rdB K W (bindM t f) σ H Q) : rdB K W t σ H fun b H1 => rdB K W (f b) σ H1 Q := by
  obtain ⟨ρ, σm, h, r, p⟩ := q
  refine ⟨ρ, σm, h, r, ?_⟩
  dsimp only [bindM] at p
  cases e : t σm h with
  | ok d h1 =>
    rw [e] at p
    intro ρ1 H1 s1 r1
    have mh := mm.ok e
    exact ⟨ρ1, σm, h1, r.step s1 mh r1, PostB.of_step r1 s1 mh p⟩
  | exc x h1 => rw [e] at p; exact p
  | stuck => rw [e] at p; exact p
theorem rdB_ret {K : PySem.W.Frag} {σ : L2.St} {H : Hp} {Q : Bool → Hp → Prop} {b : Bool} (q : rdB K W (retM b) σ H Q) : Q b H := by
  obtain ⟨ρ, σm, h, r, p⟩ := q
  exact p ρ H Step.refl r.heap
theorem rdB_mono {K : PySem.W.Frag} {σ : L2.St} {H : Hp} {Q Q' : Bool → Hp → Prop} (q : rdB K W t σ H Q) (k : ∀ b H', Q b H' → Q' b H') : rdB K W t σ H Q' := by
  obtain ⟨ρ, σm, h, r, p⟩ := q
  refine ⟨ρ, σm, h, r, ?_⟩
  cases e : t σm h with
  | ok d h1 => rw [e] at p; exact fun ρ' H' s r => k _ _ (p ρ' H' s r)
  | exc x h1 => rw [e] at p; exact p
  | stuck => rw [e] at p; exact p
structure SW (X : Cx) (W : WX) (e : Expr) (m : M Bool) : Prop where
  mono : Mono m
  pw : PW X e (rdB X.K W m)
theorem weakW {t t' : TT} (h : PW X e t) (w : ∀ σ H Q, t' σ H Q → t σ H Q) : PW X e t' := ⟨fun wh pins s σ H Q I q => h.run wh pins s σ H Q I (w σ H Q q)⟩
theorem sw_and1 (ha : SB X W a t) : SW X W (.BoolOp .And [a] pos) t := ⟨ha.mono, pw_and1 ha.pt⟩
theorem sw_or1 (ha : SB X W a t) : SW X W (.BoolOp .Or [a] pos) t := ⟨ha.mono, pw_or1 ha.pt⟩
theorem sw_and (ha : SB X W a t) (hb : SW X W (.BoolOp .And (b :: rest) pos) u) : SW X W (.BoolOp .And (a :: b :: rest) pos) (andB t u) :=
  ⟨mono_and ha.mono hb.mono, weakW (pw_and ha.pt hb.pw) fun σ H Q q => rdB_mono (rdB_bind ha.mono q) fun c H' z => by
    cases c with
    | true => exact z
    | false => exact rdB_ret z⟩
theorem sw_or (ha : SB X W a t) (hb : SW X W (.BoolOp .Or (b :: rest) pos) u) : SW X W (.BoolOp .Or (a :: b :: rest) pos) (orB t u) :=
  ⟨mono_or ha.mono hb.mono, weakW (pw_or ha.pt hb.pw) fun σ H Q q => rdB_mono (rdB_bind ha.mono q) fun c H' z => by
    cases c with
    | true => exact rdB_ret z
    | false => exact z⟩
theorem SW.sb (h : SW X W e t) : SB X W e t := ⟨h.mono, h.pw.pt⟩
theorem sb_not (ha : SB X W a t) : SB X W (.UnaryOp .Not a pos) (notB t) :=
  ⟨mono_not ha.mono, weakT (pt_not ha.pt) fun σ H Q q => rdB_mono (rdB_bind ha.mono q) fun c H' z => rdB_ret z⟩
end
end Dn
end
section
set_option Elab.async false
set_option linter.all false
set_option maxRecDepth 100000
set_option maxHeartbeats 4000000
namespace Dn
open PySem PySem.Spec PyProof.Rows L2
section
variable {K : PySem.W.Frag} {W : WX} {σ : L2.St} {H : Hp}
theorem rd_test {t : M Bool} {f : Bool → M D} {Q : VK} (mm : Mono t) (q : rdE K W (bindM t f) σ H Q) : rdB K W t σ H fun b H1 => rdE K W (f b) σ H1 Q := by
  obtain ⟨ρ, σm, h, r, p⟩ := q
  refine ⟨ρ, σm, h, r, ?_⟩
  dsimp only [bindM] at p
  cases e : t σm h with
  | ok d h1 =>
    rw [e] at p
    intro ρ1 H1 s1 r1
    have mh := mm.ok e
    exact ⟨ρ1, σm, h1, r.step s1 mh r1, Post.of_step r1 s1 mh p⟩
  | exc x h1 => rw [e] at p; exact p
  | stuck => rw [e] at p; exact p
theorem rd_ret {d : D} {Q : VK} (q : rdE K W (retM d) σ H Q) (k : ∀ ρ N H', ∃ v, RD K ρ N H' d v ∧ (Q v H → Q v H)) : True := trivial
theorem rd_mono {m : M D} {Q Q' : VK} (q : rdE K W m σ H Q) (k : ∀ v H', Q v H' → Q' v H') : rdE K W m σ H Q' := by
  obtain ⟨ρ, σm, h, r, p⟩ := q
  refine ⟨ρ, σm, h, r, ?_⟩
  cases e : m σm h with
  | ok d h1 => rw [e] at p; exact fun ρ' v H' s r t f => k _ _ (p ρ' v H' s r t f)
  | exc x h1 => rw [e] at p; exact p
  | stuck => rw [e] at p; exact p
end
def ifM {α : Type} (t : M Bool) (f g : M α) : M α := bindM t fun c => if c then f else g
def andV (ma mb : M D) : M D := bindM (asB ma) fun c => if c then mb else retM (.bl false)
def orV (ma mb : M D) : M D := bindM (asB ma) fun c => if c then retM (.bl true) else mb
def notV (ma : M D) : M D := bindM (asB ma) fun c => retM (.bl !c)
section
variable {X : Cx} {W : WX} {a b c e : Expr} {ma mb mc m : M D} {t : M Bool} {pos : Pos} {rest : List Expr}
theorem rd_bl {K : PySem.W.Frag} {σ : L2.St} {H : Hp} {k : Bool} {Q : VK} (q : rdE K W (retM (.bl k)) σ H Q) : Q (.bl k) H := by
  obtain ⟨ρ, σm, h, r, p⟩ := q
  exact Post.val r.heap p (.bl k)
theorem se_if (hc : SB X W c t) (ha : SE X W a ma) (hb : SE X W b mb) : SE X W (.IfExp c a b pos) (ifM t ma mb) :=
  ⟨hc.mono.bind fun k => mono_ite ha.mono hb.mono, weakE (pe_ifExp hc.pt ha.pe hb.pe) fun σ H Q q => rdB_mono (rd_test hc.mono q) fun k H' z => by
    cases k with
    | true => exact z
    | false => exact z⟩
theorem se_one {op : BoolOp} (ha : SE X W a ma) : SE X W (.BoolOp op [a] pos) ma := ⟨ha.mono, pe_one ha.pe⟩
theorem se_and (ha : SE X W a ma) (hb : SE X W (.BoolOp .And (b :: rest) pos) mb) : SE X W (.BoolOp .And (a :: b :: rest) pos) (andV ma mb) :=
  ⟨(mono_asB ha.mono).bind fun k => mono_ite hb.mono (Mono.ret _), weakE (pe_and ha.pe hb.pe) fun σ H Q q => rd_mono (asB_run ha.mono (rd_test (mono_asB ha.mono) q)) fun x H' ⟨k, e, z⟩ => ⟨k, e, by
    cases k with
    | true => exact z
    | false => exact rd_bl z⟩⟩
theorem se_or (ha : SE X W a ma) (hb : SE X W (.BoolOp .Or (b :: rest) pos) mb) : SE X W (.BoolOp .Or (a :: b :: rest) pos) (orV ma mb) :=
  ⟨(mono_asB ha.mono).bind fun k => mono_ite (Mono.ret _) hb.mono, weakE (pe_or ha.pe hb.pe) fun σ H Q q => rd_mono (asB_run ha.mono (rd_test (mono_asB ha.mono) q)) fun x H' ⟨k, e, z⟩ => ⟨k, e, by
    cases k with
    | true => exact rd_bl z
    | false => exact z⟩⟩
theorem se_not (ha : SE X W a ma) : SE X W (.UnaryOp .Not a pos) (notV ma) :=
  ⟨(mono_asB ha.mono).bind fun k => Mono.ret _, weakE (pe_not ha.pe) fun σ H Q q => rd_mono (asB_run ha.mono (rd_test (mono_asB ha.mono) q)) fun x H' ⟨k, e, z⟩ => ⟨k, e, rd_bl z⟩⟩
def chain (g g' : D → D → MH → R D) (ma mb mc : M D) : M D := bindM ma fun x => bindM mb fun y => bindM (asB fun _ h => g x y h) fun k => if k then bindM mc fun z _ h => g' y z h else retM (.bl false)
theorem chain_run {K : PySem.W.Frag} {r r' : R2} {g g' : D → D → MH → R D} (L : Lift2 K r g) (L' : Lift2 K r' g') (m1 : Mono ma) (m2 : Mono mb) (m3 : Mono mc) {σ : L2.St} {H : Hp} {Q : VK} (q : rdE K W (chain g g' ma mb mc) σ H Q) :
    tChain r r' (rdE K W ma) (rdE K W mb) (rdE K W mc) σ H Q := by
  obtain ⟨ρ, σm, h, r1, p⟩ := rd_bind2 (f := fun x y => bindM (asB fun _ h => g x y h) fun k => if k then bindM mc fun z _ h => g' y z h else retM (.bl false)) m1 m2 q
  refine ⟨ρ, σm, h, r1, ?_⟩
  cases e : ma σm h with
  | ok d h1 =>
    rw [e] at p
    refine fun ρ1 v H1 s1 rh1 t1 f1 => ?_
    obtain ⟨ρ2, σ2, h2, r2, p2⟩ := p ρ1 v H1 s1 rh1 t1 f1
    refine ⟨ρ2, σ2, h2, r2, ?_⟩
    cases e2 : mb σ2 h2 with
    | ok d2 h3 =>
      rw [e2] at p2
      refine fun ρ3 v3 H3 s3 rh3 t3 f3 => ?_
      obtain ⟨ρ4, σ4, h4, x, y, r4, tx, ty, p4⟩ := p2 ρ3 v3 H3 s3 rh3 t3 f3
      have L1 := L.run (W := fun c z => W c z σ) (Q := fun z H3 => ∃ k, z = .bl k ∧ if k = true then rdE K W mc σ H3 fun w H4 => r' v3 w H4 Q else Q (.bl false) H3) r4.heap tx ty
      refine L1 ?_
      dsimp only [bindM, asB] at p4
      have mg := L.mono x y h4
      cases e5 : g x y h4 with
      | ok d5 h5 =>
        rw [e5] at p4 mg
        cases d5 with
        | bl k =>
          refine fun ρ5 v5 H5 s5 rh5 t5 f5 => ?_
          cases t5
          refine ⟨k, rfl, ?_⟩
          have ty5 := ty.step r4.heap s5 mg
          cases k with
          | true =>
            show rdE K W mc σ H5 fun w H4 => r' v3 w H4 Q
            have p6 : Post K ρ4 h4 H3 (fun c x => W c x σ) (bindM mc (fun z _ h => g' y z h) σ4 h5) Q := p4
            refine ⟨ρ5, σ4, h5, r4.step s5 mg rh5, ?_⟩
            have p7 := Post.of_step rh5 s5 mg p6
            dsimp only [bindM] at p7
            cases e7 : mc σ4 h5 with
            | ok d7 h7 =>
              rw [e7] at p7
              have m7 := m3.ok e7
              refine fun ρ7 v7 H7 s7 rh7 t7 f7 => ?_
              exact L'.run rh7 (ty5.step rh5 s7 m7) t7 (Post.of_step rh7 s7 m7 p7)
            | exc x h7 => rw [e7] at p7; exact p7
            | stuck => rw [e7] at p7; exact p7
          | false =>
            have p6 : Post K ρ4 h4 H3 (fun c x => W c x σ) (.ok (.bl false) h5) Q := p4
            exact p6 ρ5 _ H5 s5 rh5 (RD.bl false).rt (RD.bl (K := K) (ρ := ρ5) (N := h5.length) (H := H5) false).fr0
        | _ => exact p4.elim
      | exc x h5 => rw [e5] at p4; exact p4
      | stuck => rw [e5] at p4; exact p4
    | exc x h3 => rw [e2] at p2; exact p2
    | stuck => rw [e2] at p2; exact p2
  | exc x h1 => rw [e] at p; exact p
  | stuck => rw [e] at p; exact p
theorem mono_chain {g g' : D → D → MH → R D} (l : ∀ a b h, MonoR h (g a b h)) (l' : ∀ a b h, MonoR h (g' a b h)) (m1 : Mono ma) (m2 : Mono mb) (m3 : Mono mc) : Mono (chain g g' ma mb mc) :=
  m1.bind fun x => m2.bind fun y => (mono_asB fun _ h => l x y h).bind fun k => mono_ite (m3.bind fun z _ h => l' y z h) (Mono.ret _)
theorem se_chain {op op' : CmpOp} {r r' : R2} {g g' : D → D → MH → R D} (ho : OpR X (compareOp op) r) (ho' : OpR X (compareOp op') r') (L : Lift2 X.K r g) (L' : Lift2 X.K r' g') (ha : SE X W a ma) (hb : SE X W b mb) (hc : SE X W c mc)
    (hm : lastMarks [op, op'] [b, c] = false := by with_unfolding_all rfl) :
    SE X W (.Compare a [op, op'] [b, c] pos) (chain g g' ma mb mc) :=
  ⟨mono_chain L.mono L'.mono ha.mono hb.mono hc.mono, weakE (pe_chain ho ho' ha.pe hb.pe hc.pe hm) fun σ H Q q => chain_run L L' ha.mono hb.mono hc.mono q⟩
theorem sb_chain {op op' : CmpOp} {r r' : R2} {g g' : D → D → MH → R D} (ho : OpR X (compareOp op) r) (ho' : OpR X (compareOp op') r') (L : Lift2 X.K r g) (L' : Lift2 X.K r' g') (ha : SE X W a ma) (hb : SE X W b mb) (hc : SE X W c mc)
    (hm : lastMarks [op, op'] [b, c] = false := by with_unfolding_all rfl) :
    SB X W (.Compare a [op, op'] [b, c] pos) (asB (chain g g' ma mb mc)) :=
  ⟨mono_asB (mono_chain L.mono L'.mono ha.mono hb.mono hc.mono), weakT (pt_chain ho ho' ha.pe hb.pe hc.pe hm) fun σ H Q q =>
    chain_run L L' ha.mono hb.mono hc.mono (asB_run (mono_chain L.mono L'.mono ha.mono hb.mono hc.mono) q)⟩
end
end Dn
end
section
set_option Elab.async false
set_option linter.all false
set_option maxRecDepth 100000
set_option maxHeartbeats 4000000
namespace Dn
open PySem PySem.Spec PyProof.Rows L2
inductive RTs (K : PySem.W.Frag) (ρ : Nat → Addr) (h : MH) (H : Hp) : List D → List V → Prop
  | nil : RTs K ρ h H [] []
  | cons {d : D} {v : V} {ds : List D} {vs : List V} : RT K ρ h H d v → RTs K ρ h H ds vs → RTs K ρ h H (d :: ds) (v :: vs)
section
variable {K : PySem.W.Frag} {ρ ρ' : Nat → Addr} {h h' : MH} {H H' : Hp}
theorem RTs.step (r : RH K ρ h H) (s : Step ρ h H ρ' h' H') (m : MonoH h h') : ∀ {ds : List D} {vs : List V}, RTs K ρ h H ds vs → RTs K ρ' h' H' ds vs
  | _, _, .nil => .nil
  | _, _, .cons a t => .cons (a.step r s m) (RTs.step r s m t)
theorem RTs.length : ∀ {ds : List D} {vs : List V}, RTs K ρ h H ds vs → vs.length = ds.length
  | _, _, .nil => rfl
  | _, _, .cons _ t => congrArg Nat.succ t.length
def D.st : D → Bool
  | .tl _ => false
  | _ => true
theorem RT.rdS {d : D} {v : V} (q : RT K ρ h H d v) (hd : d.st = true) : RD K ρ h.length H d v := q.rd fun ds e => by
  subst e
  cases hd
theorem RTs.rds : ∀ {ds : List D} {vs : List V}, RTs K ρ h H ds vs → ds.all D.st = true → RDs K ρ h.length H ds vs
  | _, _, .nil, _ => .nil
  | _, _, .cons a t, e => by
    rw [List.all_cons, Bool.and_eq_true] at e
    exact .cons (a.rdS e.1) (t.rds e.2)
theorem RD.st {N : Nat} {d : D} {v : V} (q : RD K ρ N H d v) : d.st = true := by cases q <;> rfl
theorem RDs.st {N : Nat} : ∀ {ds : List D} {vs : List V}, RDs K ρ N H ds vs → ds.all D.st = true
  | _, _, .nil => rfl
  | _, _, .cons a t => by rw [List.all_cons, a.st, t.st]; rfl
theorem RDs.rts : ∀ {ds : List D} {vs : List V}, RDs K ρ h.length H ds vs → RTs K ρ h H ds vs
  | _, _, .nil => .nil
  | _, _, .cons a t => .cons a.rt t.rts
theorem RDs.length {N : Nat} : ∀ {ds : List D} {vs : List V}, RDs K ρ N H ds vs → vs.length = ds.length
  | _, _, .nil => rfl
  | _, _, .cons _ t => congrArg Nat.succ t.length
def PostT (K : PySem.W.Frag) (ρ : Nat → Addr) (h : MH) (H : Hp) (W : Value → Option Addr → Hp → Prop) (r : R (List D)) (Q : List V → Hp → Prop) : Prop := match r with
  | .ok ds h' => ∀ ρ' vs H', Step ρ h H ρ' h' H' → RH K ρ' h' H' → RTs K ρ' h' H' ds vs → Q vs H'
  | .exc x h' => ∀ ρ' cls dx H', Step ρ h H ρ' h' H' → RH K ρ' h' H' → RX K ρ' h'.length H' x cls dx → W cls dx H'
  | .stuck => False
theorem PostT.of_step {ρ1 : Nat → Addr} {h1 : MH} {H1 : Hp} {W : Value → Option Addr → Hp → Prop} {r : R (List D)} {Q : List V → Hp → Prop} (rh1 : RH K ρ1 h1 H1) (s : Step ρ h H ρ1 h1 H1) (m : MonoH h h1) (p : PostT K ρ h H W r Q) : PostT K ρ1 h1 H1 W r Q := by
  cases r with
  | ok d h2 => exact fun ρ' v H' s' => p ρ' v H' (s.trans rh1 m s')
  | exc x h2 => exact fun ρ' c d H' s' => p ρ' c d H' (s.trans rh1 m s')
  | stuck => exact p
def rdT (K : PySem.W.Frag) (W : WX) (m : M (List D)) : TA := fun σ H Q => ∃ ρ σm h, RS K ρ σm h σ H ∧ PostT K ρ h H (fun c d => W c d σ) (m σm h) Q
end
structure ST (X : Cx) (W : WX) (es : List Expr) (m : M (List D)) : Prop where
  mono : Mono m
  pa : PA X es (rdT X.K W m)
def consM (m : M D) (ms : M (List D)) : M (List D) := bindM m fun x => bindM ms fun xs => retM (x :: xs)
def nilM : M (List D) := retM []
section
variable {X : Cx} {W : WX} {e : Expr} {es : List Expr} {m : M D} {ms : M (List D)} {pos : Pos}
theorem st_nil : ST X W [] nilM := ⟨Mono.ret _, weakA pa_nil fun σ H Q q => by
  obtain ⟨ρ, σm, h, r, p⟩ := q
  exact p ρ [] H Step.refl r.heap .nil⟩
theorem st_cons (ha : SE X W e m) (hr : ST X W es ms) (hs : starEach (e :: es) X.env = (false, eval e X.env) :: starEach es X.env := by rfl) : ST X W (e :: es) (consM m ms) :=
  ⟨ha.mono.bind fun x => hr.mono.bind fun xs => Mono.ret _, weakA (pa_cons ha.pe hr.pa hs) fun σ H Q q => by
    obtain ⟨ρ, σm, h, r, p⟩ := q
    refine ⟨ρ, σm, h, r, ?_⟩
    dsimp only [consM, bindM, retM] at p
    cases e1 : m σm h with
    | ok d h1 =>
      rw [e1] at p
      have mh := ha.mono.ok e1
      refine fun ρ1 v H1 s1 rh1 t1 f1 => ⟨ρ1, σm, h1, r.step s1 mh rh1, ?_⟩
      have p1 := PostT.of_step rh1 s1 mh p
      dsimp only at p1
      cases e2 : ms σm h1 with
      | ok ds h2 =>
        rw [e2] at p1
        have mh2 := hr.mono.ok e2
        exact fun ρ2 vs H2 s2 rh2 t2 => p1 ρ2 (v :: vs) H2 s2 rh2 (.cons (t1.step rh1 s2 mh2) t2)
      | exc x h2 => rw [e2] at p1; exact p1
      | stuck => rw [e2] at p1; exact p1
    | exc x h1 => rw [e1] at p; exact p
    | stuck => rw [e1] at p; exact p⟩
def ownM (m : M D) : M D := fun σ h => match m σ h with
  | .ok (.tl ds) h1 => .ok (.ref h1.length) (h1 ++ [.lst ds])
  | r => r
theorem mono_own (x : Mono m) : Mono (ownM m) := fun σ h => by
  unfold ownM
  cases e : m σ h with
  | ok d h1 =>
    have mh := x.ok e
    cases d <;> first | exact mh.trans mono_new | exact mh
  | exc y h1 => exact x.exc e
  | stuck => trivial
theorem se_own (ha : SE X W e m) : SE X W e (ownM m) := ⟨mono_own ha.mono, weakE ha.pe fun σ H Q q => by
  obtain ⟨ρ, σm, h, r, p⟩ := q
  refine ⟨ρ, σm, h, r, ?_⟩
  unfold ownM at p
  cases e1 : m σm h with
  | ok d h1 =>
    rw [e1] at p
    have mh := ha.mono.ok e1
    cases d with
    | tl ds =>
      intro ρ1 v H1 s1 rh1 t1 f1
      obtain ⟨a, xs, rfl, b, c, ne⟩ := t1
      have hp := f1 ds rfl a rfl
      have z := RD.ref (K := X.K) (ρ := put ρ1 h1.length a) (N := (h1 ++ [MO.lst ds]).length) (H := H1) h1.length (by simp)
      rw [put_eq] at z
      exact p (put ρ1 h1.length a) (.ref a) H1 (s1.adopt hp mh) (rh1.adopt b c ne) z.rt z.fr0
    | _ => exact p
  | exc y h1 => rw [e1] at p; exact p
  | stuck => rw [e1] at p; exact p⟩
def line : Nat := 16777216
theorem line_eq : line = sizeLine := by rw [sizeLine_eq]; rfl
def lstM (ms : M (List D)) : M D := bindM ms fun ds _ h => if ds.all D.st = true ∧ ds.length ≤ line then .ok (.tl ds) h else .stuck
def tupM (ms : M (List D)) : M D := bindM ms fun ds _ h => if ds.all D.st = true ∧ ds.length ≤ line then .ok (.tup ds) h else .stuck
theorem rdT_bind {K : PySem.W.Frag} {σ : L2.St} {H : Hp} {f : List D → M D} {Q : VK} (mm : Mono ms) (q : rdE K W (bindM ms f) σ H Q) : rdT K W ms σ H fun vs H1 => ∃ ρ σm h ds, RS K ρ σm h σ H1 ∧ RTs K ρ h H1 ds vs ∧ Post K ρ h H1 (fun c x => W c x σ) (f ds σm h) Q := by
  obtain ⟨ρ, σm, h, r, p⟩ := q
  refine ⟨ρ, σm, h, r, ?_⟩
  dsimp only [bindM] at p
  cases e : ms σm h with
  | ok d h1 =>
    rw [e] at p
    intro ρ1 v H1 s1 r1 d1
    have mh := mm.ok e
    exact ⟨ρ1, σm, h1, d, r.step s1 mh r1, d1, Post.of_step r1 s1 mh p⟩
  | exc x h1 => rw [e] at p; exact p
  | stuck => rw [e] at p; exact p
theorem rdT_mono {K : PySem.W.Frag} {σ : L2.St} {H : Hp} {Q Q' : List V → Hp → Prop} (q : rdT K W ms σ H Q) (k : ∀ b H', Q b H' → Q' b H') : rdT K W ms σ H Q' := by
  obtain ⟨ρ, σm, h, r, p⟩ := q
  refine ⟨ρ, σm, h, r, ?_⟩
  cases e : ms σm h with
  | ok d h1 => rw [e] at p; exact fun ρ' v H' s r t => k _ _ (p ρ' v H' s r t)
  | exc x h1 => rw [e] at p; exact p
  | stuck => rw [e] at p; exact p
theorem mono_if {α : Type} {c : Prop} [Decidable c] {h : MH} {a : R α} (x : MonoR h a) : MonoR h (if c then a else .stuck) := by
  by_cases hc : c
  · rw [if_pos hc]; exact x
  · rw [if_neg hc]; trivial
theorem post_if {K : PySem.W.Frag} {ρ : Nat → Addr} {h : MH} {H : Hp} {Wx : Value → Option Addr → Hp → Prop} {c : Prop} [Decidable c] {a : R D} {Q : VK} (p : Post K ρ h H Wx (if c then a else .stuck) Q) : c ∧ Post K ρ h H Wx a Q := by
  by_cases hc : c
  · rw [if_pos hc] at p; exact ⟨hc, p⟩
  · rw [if_neg hc] at p; exact p.elim
theorem Post.newTup {K : PySem.W.Frag} {ρ : Nat → Addr} {h : MH} {H : Hp} {Wx : Value → Option Addr → Hp → Prop} {ds : List D} {xs : List V} {Q : VK} (r : RH K ρ h H) (t : RDs K ρ h.length H ds xs) (p : Post K ρ h H Wx (.ok (.tup ds) h) Q) {a : Addr} (ha : H a = none) : Q (.ref a) (upd H a (.tup xs)) := by
  have k := keep_new (o := HO.tup xs) ha
  have z : RD K ρ h.length (upd H a (.tup xs)) (.tup ds) (.ref a) := .tup (SqT.of upd_same) (t.grow (grow_keep k))
  exact p ρ _ _ (Step.keep k) (r.keep k) z.rt z.fr0
theorem Post.newLst {K : PySem.W.Frag} {ρ : Nat → Addr} {h : MH} {H : Hp} {Wx : Value → Option Addr → Hp → Prop} {ds : List D} {xs : List V} {Q : VK} (r : RH K ρ h H) (t : RDs K ρ h.length H ds xs) (p : Post K ρ h H Wx (.ok (.tl ds) h) Q) {a : Addr} (ha : H a = none) : Q (.ref a) (upd H a (.lst xs)) := by
  have k := keep_new (o := HO.lst xs) ha
  refine p ρ _ _ (Step.keep k) (r.keep k) ⟨a, xs, rfl, upd_same, t.grow (grow_keep k), fun n m e => r.nn m (by rw [e]; exact ha)⟩ fun ds' _ b e => ?_
  cases e
  exact ha
theorem se_lst (ha : ST X W es ms) : SE X W (.List es pos) (lstM ms) := ⟨ha.mono.bind fun ds _ h => mono_if (MonoH.refl h), weakE (pe_lst ha.pa) fun σ H Q q => rdT_mono (rdT_bind ha.mono q) fun vs H1 z => by
  obtain ⟨ρ, σm, h, ds, r, t, p⟩ := z
  obtain ⟨⟨c1, c2⟩, p⟩ := post_if p
  exact ⟨by rw [t.length, ← line_eq]; exact c2, fun a hp => Post.newLst r.heap (t.rds c1) p hp⟩⟩
theorem se_tup {x1} (ha : ST X W es ms) : SE X W (.Tuple es x1 pos) (tupM ms) := ⟨ha.mono.bind fun ds _ h => mono_if (MonoH.refl h), weakE (pe_tup ha.pa) fun σ H Q q => rdT_mono (rdT_bind ha.mono q) fun vs H1 z => by
  obtain ⟨ρ, σm, h, ds, r, t, p⟩ := z
  obtain ⟨⟨c1, c2⟩, p⟩ := post_if p
  exact ⟨by rw [t.length, ← line_eq]; exact c2, fun a hp => Post.newTup r.heap (t.rds c1) p hp⟩⟩
structure LiftC (K : PySem.W.Frag) (r : List V → Hp → VK → Prop) (g : List D → MH → R D) : Prop where
  mono : ∀ ds h, MonoR h (g ds h)
  run : ∀ {ρ : Nat → Addr} {h : MH} {H : Hp} {W : Value → Option Addr → Hp → Prop} {ds : List D} {vs : List V} {Q : VK}, RH K ρ h H → RTs K ρ h H ds vs → Post K ρ h H W (g ds h) Q → r vs H Q
def callM (g : List D → MH → R D) (ms : M (List D)) : M D := bindM ms fun ds _ h => g ds h
theorem se_callB {id : String} {r : List V → Hp → VK → Prop} {g : List D → MH → R D} {x : Str} {p : Pos} (hc : CallR X (.builtin id) r) (L : LiftC X.K r g) (hg : Gl X x) (hm : X.mg x = none) (hv : bootBuiltins x = some (.builtin id)) (ha : ST X W (e :: es) ms) (hn : x ≠ "__name__" := by decide) (hdb : (x == ("__debug__" : Str)) = false := by decide)
    (he : starEach (e :: es) X.env = (false, eval e X.env) :: starEach es X.env := by rfl) (hpl : (backTo pos (starEach es X.env)).any (·.1) = false := by rfl) : SE X W (.Call (.Name x p) (e :: es) [] pos) (callM g ms) :=
  ⟨ha.mono.bind fun ds _ h => L.mono ds h, weakE (pe_callB hc hg hm hv ha.pa hn hdb he hpl) fun σ H Q q => rdT_mono (rdT_bind ha.mono q) fun vs H1 z => by
    obtain ⟨ρ, σm, h, ds, r, t, p⟩ := z
    exact L.run r.heap t p⟩
theorem se_callTy {T : String} {r : List V → Hp → VK → Prop} {g : List D → MH → R D} {x : Str} {p : Pos} (hc : CallR X (.type T) r) (L : LiftC X.K r g) (hg : Gl X x) (hm : X.mg x = none) (hv : bootBuiltins x = some (.type T)) (ha : ST X W (e :: es) ms) (hn : x ≠ "__name__" := by decide) (hdb : (x == ("__debug__" : Str)) = false := by decide)
    (he : starEach (e :: es) X.env = (false, eval e X.env) :: starEach es X.env := by rfl) (hpl : (backTo pos (starEach es X.env)).any (·.1) = false := by rfl) : SE X W (.Call (.Name x p) (e :: es) [] pos) (callM g ms) :=
  ⟨ha.mono.bind fun ds _ h => L.mono ds h, weakE (pe_callTy hc hg hm hv ha.pa hn hdb he hpl) fun σ H Q q => rdT_mono (rdT_bind ha.mono q) fun vs H1 z => by
    obtain ⟨ρ, σm, h, ds, r, t, p⟩ := z
    exact L.run r.heap t p⟩
end
end Dn
end
section
set_option Elab.async false
set_option linter.all false
set_option maxRecDepth 100000
set_option maxHeartbeats 4000000
namespace Dn
open PySem PySem.Spec PyProof.Rows L2
inductive Fl where
  | nx (σ : Sg) (h : MH)
  | rt (d : D) (h : MH)
  | bk (σ : Sg) (h : MH)
  | ct (σ : Sg) (h : MH)
  | ex (x : MX) (σ : Sg) (h : MH)
  | stuck
abbrev MS := Sg → MH → Fl
def Fl.mono (h : MH) : Fl → Prop
  | .nx _ h1 => MonoH h h1
  | .rt _ h1 => MonoH h h1
  | .bk _ h1 => MonoH h h1
  | .ct _ h1 => MonoH h h1
  | .ex _ _ h1 => MonoH h h1
  | .stuck => True
theorem Fl.mono.trans {h h1 : MH} (a : MonoH h h1) : ∀ {r : Fl}, r.mono h1 → r.mono h
  | .nx _ _, b => a.trans b
  | .rt _ _, b => a.trans b
  | .bk _ _, b => a.trans b
  | .ct _ _, b => a.trans b
  | .ex _ _ _, b => a.trans b
  | .stuck, _ => trivial
def MonoS (m : MS) : Prop := ∀ σ h, (m σ h).mono h
def PostS (K : PySem.W.Frag) (W : WX) (ρ : Nat → Addr) (h : MH) (H : Hp) (r : Fl) (E : Ends) : Prop := match r with
  | .nx σ' h' => ∀ ρ' σ2 H', Step ρ h H ρ' h' H' → RS K ρ' σ' h' σ2 H' → E.nx σ2 H'
  | .rt d h' => ∀ ρ' v H', Step ρ h H ρ' h' H' → RH K ρ' h' H' → RD K ρ' h'.length H' d v → E.rt v H'
  | .bk σ' h' => ∀ ρ' σ2 H', Step ρ h H ρ' h' H' → RS K ρ' σ' h' σ2 H' → E.bk σ2 H'
  | .ct σ' h' => ∀ ρ' σ2 H', Step ρ h H ρ' h' H' → RS K ρ' σ' h' σ2 H' → E.ct σ2 H'
  | .ex x σ' h' => ∀ ρ' cls dx σ2 H', Step ρ h H ρ' h' H' → RS K ρ' σ' h' σ2 H' → RX K ρ' h'.length H' x cls dx → W cls dx σ2 H'
  | .stuck => False
def rdS (K : PySem.W.Frag) (W : WX) (m : MS) : TS := fun E σ H => ∃ ρ σm h, RS K ρ σm h σ H ∧ PostS K W ρ h H (m σm h) E
theorem PostS.of_step {K : PySem.W.Frag} {W : WX} {ρ ρ1 : Nat → Addr} {h h1 : MH} {H H1 : Hp} {r : Fl} {E : Ends} (rh1 : RH K ρ1 h1 H1) (s : Step ρ h H ρ1 h1 H1) (m : MonoH h h1) (p : PostS K W ρ h H r E) : PostS K W ρ1 h1 H1 r E := by
  cases r with
  | nx d h2 => exact fun ρ' v H' s' => p ρ' v H' (s.trans rh1 m s')
  | rt d h2 => exact fun ρ' v H' s' => p ρ' v H' (s.trans rh1 m s')
  | bk d h2 => exact fun ρ' v H' s' => p ρ' v H' (s.trans rh1 m s')
  | ct d h2 => exact fun ρ' v H' s' => p ρ' v H' (s.trans rh1 m s')
  | ex x d h2 => exact fun ρ' c d σ2 H' s' => p ρ' c d σ2 H' (s.trans rh1 m s')
  | stuck => exact p
structure SS (X : Cx) (W : WX) (st : Stmt) (m : MS) : Prop where
  mono : MonoS m
  ps : PS X st (rdS X.K W m)
structure SSs (X : Cx) (W : WX) (st : List Stmt) (m : MS) : Prop where
  mono : MonoS m
  pss : PSs X st (rdS X.K W m)
def skipS : MS := fun σ h => .nx σ h
def seqS (m n : MS) : MS := fun σ h => match m σ h with
  | .nx σ1 h1 => n σ1 h1
  | r => r
theorem mono_seq {m n : MS} (a : MonoS m) (b : MonoS n) : MonoS (seqS m n) := fun σ h => by
  have z := a σ h
  unfold seqS
  cases e : m σ h with
  | nx σ1 h1 => rw [e] at z; exact Fl.mono.trans z (b σ1 h1)
  | _ => rw [e] at z; exact z
def runS {α : Type} (m : M α) (f : α → MS) : MS := fun σ h => match m σ h with
  | .ok d h1 => f d σ h1
  | .exc x h1 => .ex x σ h1
  | .stuck => .stuck
theorem mono_run {α : Type} {m : M α} {f : α → MS} (a : Mono m) (b : ∀ d, MonoS (f d)) : MonoS (runS m f) := fun σ h => by
  have z := a σ h
  unfold runS
  cases e : m σ h with
  | ok d h1 => rw [e] at z; exact Fl.mono.trans z (b d σ h1)
  | exc x h1 => rw [e] at z; exact z
  | stuck => trivial
def setS (i : Nat) (m : M D) : MS := runS m fun d σ h => if d.st = true then .nx (σ.set i (some d)) h else .stuck
def exprS (m : M D) : MS := runS m fun _ σ h => .nx σ h
def retS (m : M D) : MS := runS m fun d _ h => if d.st = true then .rt d h else .stuck
def retN : MS := fun _ h => .rt .non h
def brkS : MS := fun σ h => .bk σ h
def contS : MS := fun σ h => .ct σ h
def ifS (t : M Bool) (a b : MS) : MS := runS t fun c => if c then a else b
def nevS : MS := fun _ _ => .stuck
section
variable {K : PySem.W.Frag} {W : WX} {σ : L2.St} {H : Hp}
theorem rdS_run {m : M D} {f : D → MS} {E : Ends} (mm : Mono m) (q : rdS K W (runS m f) E σ H) : rdE K W m σ H fun v H1 => ∃ ρ σm h d, RS K ρ σm h σ H1 ∧ RT K ρ h H1 d v ∧ PostS K W ρ h H1 (f d σm h) E := by
  obtain ⟨ρ, σm, h, r, p⟩ := q
  refine ⟨ρ, σm, h, r, ?_⟩
  dsimp only [runS] at p
  cases e : m σm h with
  | ok d h1 =>
    rw [e] at p
    intro ρ1 v H1 s1 r1 d1 _
    have mh := mm.ok e
    exact ⟨ρ1, σm, h1, d, r.step s1 mh r1, d1, PostS.of_step r1 s1 mh p⟩
  | exc x h1 =>
    rw [e] at p
    intro ρ1 c d H1 s1 r1 x1
    exact p ρ1 c d σ H1 s1 (r.step s1 (mm.exc e) r1) x1
  | stuck => rw [e] at p; exact p
theorem rdS_test {t : M Bool} {f : Bool → MS} {E : Ends} (mm : Mono t) (q : rdS K W (runS t f) E σ H) : rdB K W t σ H fun b H1 => rdS K W (f b) E σ H1 := by
  obtain ⟨ρ, σm, h, r, p⟩ := q
  refine ⟨ρ, σm, h, r, ?_⟩
  dsimp only [runS] at p
  cases e : t σm h with
  | ok d h1 =>
    rw [e] at p
    intro ρ1 H1 s1 r1
    have mh := mm.ok e
    exact ⟨ρ1, σm, h1, r.step s1 mh r1, PostS.of_step r1 s1 mh p⟩
  | exc x h1 =>
    rw [e] at p
    intro ρ1 c d H1 s1 r1 x1
    exact p ρ1 c d σ H1 s1 (r.step s1 (mm.exc e) r1) x1
  | stuck => rw [e] at p; exact p
theorem postS_if {ρ : Nat → Addr} {h : MH} {c : Prop} [Decidable c] {a : Fl} {E : Ends} (p : PostS K W ρ h H (if c then a else .stuck) E) : c ∧ PostS K W ρ h H a E := by
  by_cases hc : c
  · rw [if_pos hc] at p; exact ⟨hc, p⟩
  · rw [if_neg hc] at p; exact p.elim
theorem RS.set {ρ : Nat → Addr} {σm : Sg} {h : MH} {i : Nat} {d : D} {v : V} (r : RS K ρ σm h σ H) (q : RD K ρ h.length H d v) : RS K ρ (σm.set i (some d)) h (σ.set i (some v)) H := by
  refine ⟨r.heap, fun j e he => ?_, by rw [List.length_set, List.length_set, r.len]⟩
  by_cases hj : i = j
  · subst hj
    rw [List.getElem?_set] at he ⊢
    rw [if_pos rfl] at he ⊢
    by_cases hl : i < σm.length
    · rw [if_pos hl] at he
      rw [if_pos (by rw [r.len]; exact hl)]
      cases he
      exact ⟨v, rfl, q⟩
    · rw [if_neg hl] at he; cases he
  · rw [List.getElem?_set_ne hj] at he ⊢
    exact r.env j e he
end
section
variable {X : Cx} {W : WX} {st : Stmt} {rest body orelse : List Stmt} {e c : Expr} {m : M D} {t : M Bool} {a b : MS} {pos : Pos}
theorem sss_nil : SSs X W [] skipS := ⟨fun σ h => MonoH.refl h, weakSs pss_nil fun E σ H q => by
  obtain ⟨ρ, σm, h, r, p⟩ := q
  exact p ρ σ H Step.refl r⟩
theorem rdS_seq {K : PySem.W.Frag} {E : Ends} {σ : L2.St} {H : Hp} (ma : MonoS a) (q : rdS K W (seqS a b) E σ H) : rdS K W a { E with nx := rdS K W b E } σ H := by
  obtain ⟨ρ, σm, h, r, p⟩ := q
  refine ⟨ρ, σm, h, r, ?_⟩
  have z := ma σm h
  unfold seqS at p
  cases e : a σm h with
  | nx σ1 h1 =>
    rw [e] at p z
    exact fun ρ' σ2 H' s r' => ⟨ρ', σ1, h1, r', PostS.of_step r'.heap s z p⟩
  | rt d h1 => rw [e] at p; exact p
  | bk d h1 => rw [e] at p; exact p
  | ct d h1 => rw [e] at p; exact p
  | ex x d h1 => rw [e] at p; exact p
  | stuck => rw [e] at p; exact p
theorem sss_cons (h1 : SS X W st a) (h2 : SSs X W rest b) : SSs X W (st :: rest) (seqS a b) := ⟨mono_seq h1.mono h2.mono, weakSs (pss_cons h1.ps h2.pss) fun E σ H q => rdS_seq h1.mono q⟩
theorem sss_one (h1 : SS X W st a) : SSs X W [st] a := ⟨h1.mono, pss_one h1.ps⟩
theorem ss_pass : SS X W (.Pass pos) skipS := ⟨fun σ h => MonoH.refl h, weakS ps_pass fun E σ H q => by
  obtain ⟨ρ, σm, h, r, p⟩ := q
  exact p ρ σ H Step.refl r⟩
theorem ss_break : SS X W (.Break pos) brkS := ⟨fun σ h => MonoH.refl h, weakS ps_break fun E σ H q => by
  obtain ⟨ρ, σm, h, r, p⟩ := q
  exact p ρ σ H Step.refl r⟩
theorem ss_continue : SS X W (.Continue pos) contS := ⟨fun σ h => MonoH.refl h, weakS ps_continue fun E σ H q => by
  obtain ⟨ρ, σm, h, r, p⟩ := q
  exact p ρ σ H Step.refl r⟩
theorem ss_never : SS X W st nevS := ⟨fun σ h => trivial, weakS ps_never fun E σ H q => by
  obtain ⟨ρ, σm, h, r, p⟩ := q
  exact p⟩
theorem ss_set {i : Nat} {x : Str} {pos' : Pos} (hN : X.N.Nodup) (hi : X.N[i]? = some x) (hx : Loc X.env.scope x) (he : SE X W e m) (hs : swapsWith e (some (.Name x pos')) pos.line X.env = pure false := by rfl) (hf : X.fn x = true ∨ X.env.scope.names.lookup x = some .local := by first | exact .inl rfl | exact .inr rfl | assumption) :
    SS X W (.Assign [.Name x pos'] e pos) (setS i m) :=
  ⟨mono_run he.mono fun d σ h => by
    by_cases z : d.st = true
    · rw [if_pos z]; exact MonoH.refl h
    · rw [if_neg z]; trivial, weakS (ps_set hN hi hx he.pe hs hf) fun E σ H q => rd_mono (rdS_run he.mono q) fun v H1 z => by
    obtain ⟨ρ, σm, h, d, r, t, p⟩ := z
    obtain ⟨c, p⟩ := postS_if p
    exact p ρ _ H1 Step.refl (r.set (t.rdS c))⟩
theorem ss_expr (he : SE X W e m) (hs : swapsWith e none pos.line X.env = pure false := by rfl) : SS X W (.Expr e pos) (exprS m) :=
  ⟨mono_run he.mono fun d σ h => MonoH.refl h, weakS (ps_expr he.pe hs) fun E σ H q => rd_mono (rdS_run he.mono q) fun v H1 z => by
    obtain ⟨ρ, σm, h, d, r, t, p⟩ := z
    exact p ρ _ H1 Step.refl r⟩
theorem ss_ret (he : SE X W e m) : SS X W (.Return (some e) pos) (retS m) :=
  ⟨mono_run he.mono fun d σ h => by
    by_cases z : d.st = true
    · rw [if_pos z]; exact MonoH.refl h
    · rw [if_neg z]; trivial, weakS (ps_ret he.pe) fun E σ H q => rd_mono (rdS_run he.mono q) fun v H1 z => by
    obtain ⟨ρ, σm, h, d, r, t, p⟩ := z
    obtain ⟨c, p⟩ := postS_if p
    exact p ρ v H1 Step.refl r.heap (t.rdS c)⟩
theorem ss_retN : SS X W (.Return none pos) retN := ⟨fun σ h => MonoH.refl h, weakS ps_retN fun E σ H q => by
  obtain ⟨ρ, σm, h, r, p⟩ := q
  exact p ρ .non H Step.refl r.heap .non⟩
theorem ss_if (hc : SB X W c t) (ha : SSs X W body a) (hb : SSs X W orelse b) : SS X W (.If c body orelse pos) (ifS t a b) :=
  ⟨mono_run hc.mono fun k => by cases k <;> first | exact ha.mono | exact hb.mono, weakS (ps_if hc.pt ha.pss hb.pss) fun E σ H q => rdB_mono (rdS_test hc.mono q) fun k H1 z => by
    cases k with
    | true => exact z
    | false => exact z⟩
end
inductive Pat where
  | nm (i : Nat)
  | tu (ps : List Pat)
mutual
def Pat.slots : Pat → List Nat
  | .nm i => [i]
  | .tu ps => slotsL ps
def slotsL : List Pat → List Nat
  | [] => []
  | p :: ps => p.slots ++ slotsL ps
end
mutual
def Pat.put : Pat → D → Sg → Option Sg
  | .nm i, d, σ => if d.st = true then some (σ.set i (some d)) else none
  | .tu ps, .tup ds, σ => if ds.length = ps.length then putL ps ds σ else none
  | .tu _, _, _ => none
def putL : List Pat → List D → Sg → Option Sg
  | [], [], σ => some σ
  | p :: ps, d :: ds, σ => (p.put d σ).bind fun σ' => putL ps ds σ'
  | _, _, _ => none
end
mutual
def Pat.rd (K : PySem.W.Frag) : Pat → TG
  | .nm i => gName i
  | .tu ps => gTup K ps.length (rdL K ps)
def rdL (K : PySem.W.Frag) : List Pat → TGs
  | [] => gNil
  | p :: ps => gCons (p.rd K) (rdL K ps)
end
theorem wipe_same {σ : L2.St} {i : Nat} {o : Option V} : ∀ vs : List Nat, (wipe (σ.set i o) vs).set i none = (wipe σ vs).set i none
  | [] => by
    show (σ.set i o).set i none = σ.set i none
    rw [List.set_set]
  | j :: vs => by
    show ((wipe (σ.set i o) vs).set j none).set i none = ((wipe σ vs).set j none).set i none
    by_cases e : j = i
    · subst e
      rw [List.set_set, List.set_set, wipe_same vs]
    · rw [List.set_comm _ _ e, List.set_comm _ _ e, wipe_same vs]
theorem wipe_set {σ : L2.St} {i : Nat} {o : Option V} : ∀ {vs : List Nat}, i ∈ vs → wipe (σ.set i o) vs = wipe σ vs
  | j :: vs, h => by
    show (wipe (σ.set i o) vs).set j none = (wipe σ vs).set j none
    rcases List.mem_cons.mp h with z | z
    · subst z
      exact wipe_same vs
    · rw [wipe_set z]
section
variable {K : PySem.W.Frag} {ρ : Nat → Addr} {h : MH} {H : Hp}
mutual
theorem Pat.ok : ∀ {p : Pat} {d : D} {v : V} {σm σm' : Sg} {σ : L2.St} {Q : L2.St → Hp → Prop}, RS K ρ σm h σ H → RD K ρ h.length H d v → p.put d σm = some σm' →
    (∀ σ2, RS K ρ σm' h σ2 H → (∀ vs, (∀ i ∈ p.slots, i ∈ vs) → wipe σ2 vs = wipe σ vs) → Q σ2 H) → p.rd K v σ H Q
  | .nm i, d, v, σm, σm', σ, Q, r, q, e, k => by
    simp only [Pat.put] at e
    rw [if_pos q.st] at e
    cases e
    exact k _ (r.set q) fun vs hv => wipe_set (hv i (by simp [Pat.slots]))
  | .tu ps, d, v, σm, σm', σ, Q, r, q, e, k => by
    cases q with
    | @tup a xs ds s t =>
      simp only [Pat.put] at e
      by_cases hl : ds.length = ps.length
      · rw [if_pos hl] at e
        exact ⟨_, _, rfl, s, by rw [t.length]; exact hl, patL_ok r t e fun σ2 r2 w => k σ2 r2 fun vs hv => w vs (by simpa [Pat.slots] using hv)⟩
      · rw [if_neg hl] at e
        cases e
    | _ => simp [Pat.put] at e
theorem patL_ok : ∀ {ps : List Pat} {ds : List D} {vs : List V} {σm σm' : Sg} {σ : L2.St} {Q : L2.St → Hp → Prop}, RS K ρ σm h σ H → RDs K ρ h.length H ds vs → putL ps ds σm = some σm' →
    (∀ σ2, RS K ρ σm' h σ2 H → (∀ us, (∀ i ∈ slotsL ps, i ∈ us) → wipe σ2 us = wipe σ us) → Q σ2 H) → rdL K ps vs σ H Q
  | [], _, _, σm, σm', σ, Q, r, .nil, e, k => by
    simp only [putL] at e
    cases e
    exact ⟨rfl, k σ r fun us _ => rfl⟩
  | p :: ps, _, _, σm, σm', σ, Q, r, .cons a t, e, k => by
    simp only [putL] at e
    obtain ⟨σ1, e1, e2⟩ := Option.bind_eq_some_iff.mp e
    refine ⟨_, _, rfl, Pat.ok r a e1 fun σ2 r2 w => patL_ok r2 t e2 fun σ3 r3 w3 => k σ3 r3 fun us hu => ?_⟩
    rw [w3 us fun i hi => hu i (by simp [slotsL, hi]), w us fun i hi => hu i (by simp [slotsL, hi])]
  | [], _, _, _, _, _, _, _, .cons _ _, e, _ => by simp [putL] at e
  | _ :: _, _, _, _, _, _, _, _, .nil, e, _ => by simp [putL] at e
end
end
def SG (X : Cx) (tg : Expr) (p : Pat) : Prop := PG X tg (p.rd X.K)
def SGs (X : Cx) (ts : List Expr) (ps : List Pat) : Prop := PGs X ts (rdL X.K ps)
section
variable {X : Cx} {W : WX} {pos : Pos} {tg e : Expr} {es : List Expr} {p : Pat} {ps : List Pat} {m : M D}
theorem sg_name {i : Nat} {x : Str} (hN : X.N.Nodup) (hi : X.N[i]? = some x) (hx : Loc X.env.scope x) (hf : X.fn x = true ∨ X.env.scope.names.lookup x = some .local := by first | exact .inl rfl | exact .inr rfl | assumption) : SG X (.Name x pos) (.nm i) := by
  have z := pg_name (pos := pos) hN hi hx hf
  unfold SG
  simpa only [Pat.rd] using z
theorem sgs_nil : SGs X [] [] := by
  have z := pgs_nil (X := X)
  unfold SGs
  simpa only [rdL] using z
theorem sgs_cons (h1 : SG X e p) (h2 : SGs X es ps) (hs : (assignEach (e :: es) X.env).map (·.2) = assign e X.env :: (assignEach es X.env).map (·.2) := by rfl) : SGs X (e :: es) (p :: ps) := by
  have z := pgs_cons (X := X) h1 h2 hs
  unfold SGs
  simpa only [rdL] using z
theorem sg_tup {k : Nat} (hc : X.calm = true) (h : SGs X es ps) (hn : (assignEach es X.env).length = ps.length := by rfl) (hst : (assignEach es X.env).findIdx? (·.1) = none := by rfl) : SG X (.Tuple es k pos) (.tu ps) := by
  have z := pg_tup (pos := pos) (k := k) hc h hn hst
  unfold SG
  simpa only [Pat.rd] using z
def asgS (p : Pat) (m : M D) : MS := runS m fun d σ h => match p.put d σ with
  | some σ' => .nx σ' h
  | none => .stuck
theorem ss_asg (he : SE X W e m) (hg : SG X tg p) (hs : swapsWithSole [tg] e pos.line X.env = pure false := by rfl) (hw : swappedStores [tg] e X.env = pure none := by rfl)
    (h1 : (assignEach [tg] X.env).map (·.2) = [assign tg X.env] := by rfl) : SS X W (.Assign [tg] e pos) (asgS p m) :=
  ⟨mono_run he.mono fun d σ h => by
    cases p.put d σ with
    | some σ' => exact MonoH.refl h
    | none => trivial, weakS (ps_asg he.pe hg hs hw h1) fun E σ H q => rd_mono (rdS_run he.mono q) fun v H1 z => by
    obtain ⟨ρ, σm, h, d, r, t, pq⟩ := z
    cases e1 : p.put d σm with
    | some σ' =>
      rw [e1] at pq
      have hd : d.st = true := by
        cases d with
        | tl ds =>
          cases p with
          | nm i => simp [Pat.put, D.st] at e1
          | tu ps => simp [Pat.put] at e1
        | _ => rfl
      exact Pat.ok r (t.rdS hd) e1 fun σ2 r2 _ => pq ρ σ2 H1 Step.refl r2
    | none => rw [e1] at pq; exact pq.elim⟩
end
end Dn
end
section
set_option Elab.async false
set_option linter.all false
set_option maxRecDepth 100000
set_option maxHeartbeats 4000000
namespace Dn
open PySem PySem.Spec PyProof.Rows L2
abbrev W0 : WX := fun _ _ _ _ => False
structure FnM (P : Program) (w : World) (K : PySem.W.Frag) (mg : Str → Option Value) (base : Heap) (k : Nat) (f : Addr) (fd : FuncData) (ps : List Str) (F : List D → MH → R D) : Prop where
  mono : ∀ ds h, MonoR h (F ds h)
  len : ∀ ds h, F ds h ≠ .stuck → ds.length = ps.length
  run : ∀ (A : Around) (outer : List Env) (s : Shared) (H : Hp) (args : Args) (us : List Value) (vs : List V) (ρ : Nat → Addr) (h : MH) (ds : List D) (Q : VK), A.guards = some [] → Room k A → Env0 P w K mg base A outer s H →
    BindsTo s fd args (ps.zip us) → Vals vs us → RH K ρ h H → RDs K ρ h.length H ds vs → Post K ρ h H (fun _ _ _ => False) (F ds h) Q → codeAny (model P w) A (.call (.ref f) args) (CR CX0 outer P w H s Q E0) s
theorem FnM.more {P : Program} {w : World} {K : PySem.W.Frag} {mg : Str → Option Value} {base : Heap} {j k : Nat} {f : Addr} {fd : FuncData} {ps : List Str} {F : List D → MH → R D} (x : FnM P w K mg base j f fd ps F) (h : j ≤ k) : FnM P w K mg base k f fd ps F :=
  ⟨x.mono, x.len, fun A outer s H args us vs ρ h' ds Q g hr => x.run A outer s H args us vs ρ h' ds Q g (hr.mono h)⟩
def begin_ (n : Nat) (ds : List D) : Sg := ds.map some ++ List.replicate (n - ds.length) none
def endR : Fl → R D
  | .rt d h => .ok d h
  | .nx _ h => .ok .non h
  | .ex x _ h => .exc x h
  | _ => .stuck
def fnD (np n : Nat) (m : MS) : List D → MH → R D := fun ds h => if ds.length = np then endR (m (begin_ n ds) h) else .stuck
theorem mono_fnD {np n : Nat} {m : MS} (mm : MonoS m) (ds : List D) (h : MH) : MonoR h (fnD np n m ds h) := by
  unfold fnD
  by_cases e : ds.length = np
  · rw [if_pos e]
    have z := mm (begin_ n ds) h
    cases q : m (begin_ n ds) h with
    | nx _ _ => rw [q] at z; exact z
    | rt _ _ => rw [q] at z; exact z
    | ex _ _ _ => rw [q] at z; exact z
    | _ => trivial
  · rw [if_neg e]; trivial
theorem RDs.get {K : PySem.W.Frag} {ρ : Nat → Addr} {N : Nat} {H : Hp} : ∀ {ds : List D} {vs : List V} {i : Nat} {d : D}, RDs K ρ N H ds vs → ds[i]? = some d → ∃ v, vs[i]? = some v ∧ RD K ρ N H d v
  | _, _, 0, _, .cons a t, e => by
    simp at e
    subst e
    exact ⟨_, rfl, a⟩
  | _, _, i + 1, _, .cons a t, e => RDs.get (i := i) t (by simpa using e)
  | _, _, _, _, .nil, e => by simp at e
theorem RS.begin_ {K : PySem.W.Frag} {ρ : Nat → Addr} {h : MH} {H : Hp} {N : List Str} {ds : List D} {vs : List V} (r : RH K ρ h H) (q : RDs K ρ h.length H ds vs) : RS K ρ (Dn.begin_ N.length ds) h (L2.start N vs) H := by
  have hl := q.length
  refine ⟨r, fun i d e => ?_, by unfold L2.start Dn.begin_; simp [hl]⟩
  unfold Dn.begin_ at e
  unfold L2.start
  by_cases hi : i < ds.length
  · rw [List.getElem?_append_left (by simpa using hi), List.getElem?_map] at e
    rw [List.getElem?_append_left (by simp [hl]; exact hi), List.getElem?_map]
    cases x : ds[i]? with
    | none => rw [x] at e; cases e
    | some d' =>
      rw [x] at e
      have ed : d' = d := by simpa using e
      subst ed
      obtain ⟨v, ev, rv⟩ := q.get x
      exact ⟨v, by rw [ev]; rfl, rv⟩
  · rw [List.getElem?_append_right (by simp; omega)] at e
    simp [List.getElem?_replicate] at e
section
variable {P : Program} {w : World} {K : PySem.W.Frag} {mg : Str → Option Value} {base : Heap} {k : Nat} {f : Addr} {fd : FuncData} {ps N : List Str} {x qual : Str} {params : Arguments} {body : List Stmt} {scope : Scope} {dvs : List V} {kws : List (Str × V)} {m : MS}
abbrev cxM (P : Program) (w : World) (K : PySem.W.Frag) (mg : Str → Option Value) (base : Heap) (N : List Str) (qual : Str) (scope : Scope) (f : Addr) (cdv : Value) (A : Around) (outer : List Env) (s : Shared) (H : Hp) : Cx := (cxOf CX0 P w K mg base N qual scope f cdv A outer s H E0).nox
theorem fnM_of (F : FunD K x qual params body scope dvs kws f fd) (S : FnScope N ps scope) (hk : k ≤ 100)
    (hb : ∀ (cdv : Value) (A : Around) (outer : List Env) (s : Shared) (H : Hp), A.guards = some [] → Room k (A.deeper (envOfC qual scope s.heap.objs.size f cdv)) → SSs (cxM P w K mg base N qual scope f cdv A outer s H) W0 body m) :
    FnM P w K mg base (k + 1) f fd ps (fnD ps.length N.length m) := by
  have mm : MonoS m := (hb .none { guards := some [] } [] {} (fun _ => none) rfl ⟨rfl, by show 0 + 1 + 3 * k + 5 < _; unfold recursionLimit; omega, by show 1 + 3 + 16 * k + 200 < _; unfold cLine; omega⟩).mono
  refine ⟨mono_fnD mm, fun ds h => ?_, fun A outer s H args us vs ρ h ds Q hg hr e0 hbt hv rh rd p => ?_⟩
  · unfold fnD
    intro z
    by_cases e : ds.length = ps.length
    · exact e
    · rw [if_neg e] at z; exact absurd rfl z
  have hl : ds.length = ps.length := by
    by_cases e : ds.length = ps.length
    · exact e
    · unfold fnD at p; rw [if_neg e] at p; exact p.elim
  unfold fnD at p
  rw [if_pos hl] at p
  let sp : Sp := fun vs' H' Q' E' => vs' = vs ∧ H' = H ∧ Q' = Q
  have FO : ∀ s0 : Shared, True := fun _ => trivial
  obtain ⟨oc, od, dV, kV, doc, pm, an, cdv, ct, osl, rfl, lk, hcd, _, _⟩ := F.ex
  have KX : K.In s.heap := e0.mod.kin.keeps fun b o e => (e0.bs b o e).1
  have lim : s.heap.NoLimit := e0.mod.nolimit.keeps fun b o e => (e0.bs b o e).1
  have hkind : ∀ y ∈ ps.zip us, scope.names.lookup y.1 = some .local ∨ (scope.names.lookup y.1 = some .cell ∧ ((cellsFrom (s.heap.objs.size + 1) scope.names []).lookup y.1).isSome = true) := fun ⟨n, v⟩ hy => by
    rcases S.par n (List.of_mem_zip hy).1 with q | q
    · exact .inl q
    · exact .inr ⟨q, PySem.W.cellsFrom_some _ _ _ (.inl q)⟩
  refine codeAny_call_function hr.depth (KX _ _ lk) rfl S.co S.gen rfl (PySem.W.codeRec_of KX hcd) (hbt _ _ _ _ ?_)
  refine wpAny_newFunctionEnv_cells S.kind hkind fun env he s1 y => ?_
  subst he
  refine ⟨lim.keeps y.toInCall.keep, codeAny_func ?_⟩
  have B := (hb cdv A outer s H hg (hr.deeper _)).pss.nox
  have I : Inv (cxOf CX0 P w K mg base N qual scope f cdv A outer s H E0) [] (L2.start N vs) H s1 := inv_start S hr.hd e0 (by rw [rd.length, hl]) hv y
  let fin : Ends := { nx := fun _ H' => Q .non H', rt := Q }
  have rs : RS K ρ (Dn.begin_ N.length ds) h (L2.start N vs) H := .begin_ rh rd
  have q : rdS K W0 m fin (L2.start N vs) H := by
    refine ⟨ρ, _, h, rs, ?_⟩
    cases e : m (Dn.begin_ N.length ds) h with
    | nx σ1 h1 => rw [e] at p; exact fun ρ' σ2 H' s' r' => p ρ' .non H' s' r'.heap RD.non.rt (RD.non (K := K) (ρ := ρ') (N := h1.length) (H := H')).fr0
    | rt d h1 => rw [e] at p; exact fun ρ' v H' s' r' t' => p ρ' v H' s' r' t'.rt t'.fr0
    | ex x σ1 h1 => rw [e] at p; exact fun ρ' c d σ2 H' s' r' => p ρ' c d H' s' r'.heap
    | bk _ _ => rw [e] at p; exact p.elim
    | ct _ _ => rw [e] at p; exact p.elim
    | stuck => rw [e] at p; exact p.elim
  refine wpAny_mono (B.run [] s1 (L2.start N vs) H fin I q) (fun fl s' hs => ?_) fun e s' hs => hs
  have fin' : ∀ {σ' : L2.St} {H' : Hp} {v : V} {u : Value}, Inv (cxOf CX0 P w K mg base N qual scope f cdv A outer s H E0) [] σ' H' s' → RelV v u → Q v H' → CE outer P w H s Q u s' :=
    fun {σ' H' v u} J rv q => ⟨v, H', J.os, J.bare, J.base, J.hok, rv, q⟩
  cases fl with
  | ret u =>
    obtain ⟨v, σ', H', J, rv, q⟩ := hs
    exact fin' J rv q
  | next =>
    obtain ⟨σ', H', J, q⟩ := hs
    exact fin' (v := V.non) (u := Value.none) J rfl q
  | brk =>
    obtain ⟨_, _, _, q⟩ := hs
    exact False.elim q
  | cont =>
    obtain ⟨_, _, _, q⟩ := hs
    exact False.elim q
end
section
variable {X : Cx} {W : WX} {k : Nat} {f : Addr} {fd : FuncData} {ps : List Str} {dvs : List V} {ds : List Value} {x : Str} {p pos : Pos} {e : Expr} {es : List Expr} {ms mk : M (List D)} {F : List D → MH → R D}
def fcallM (F : List D → MH → R D) (dd : List D) (ms : M (List D)) : M D := bindM ms fun as _ h => if as.all D.st = true then F (as ++ dd) h else .stuck
theorem RDs.append {K : PySem.W.Frag} {ρ : Nat → Addr} {N : Nat} {H : Hp} : ∀ {as bs : List D} {vs us : List V}, RDs K ρ N H as vs → RDs K ρ N H bs us → RDs K ρ N H (as ++ bs) (vs ++ us)
  | _, _, _, _, .nil, q => q
  | _, _, _, _, .cons a t, q => .cons a (t.append q)
theorem run_fnM {pins : List (Addr × Obj)} {σ : L2.St} {H : Hp} {s : Shared} {Q : VK} {ρ : Nat → Addr} {h : MH} {as : List D} (FM : FnM X.prog X.w X.K X.mg X.base k f fd ps F) (hg : X.A.guards = some []) (hr : Room k X.A) {args : Args} {ws : List Value} {zs : List V}
    (hb : ws.length = ps.length → BindsTo s fd args (ps.zip ws)) (I : Inv X pins σ H s) (r : Vals zs ws) (rh : RH X.K ρ h H) (rd : RDs X.K ρ h.length H as zs) (q : Post X.K ρ h H (fun c d => W0 c d σ) (F as h) Q) :
    codeAny (model X.prog X.w) X.A (.call (.ref f) args) (CR CX0 X.stack X.prog X.w H s Q E0) s := by
  have hl : ws.length = ps.length := by
    have z := FM.len as h (fun e => by rw [e] at q; exact q)
    rw [← z, ← r.length, rd.length]
  exact FM.run X.A X.stack s H args ws zs ρ h as Q hg hr I.env0 (hb hl) r rh rd q
theorem se_call {dd : List D} (FM : FnM X.prog X.w X.K X.mg X.base k f fd ps F) (hgd : X.A.guards = some []) (hr : Room k X.A) (hg : Gl X x) (hm : X.mg x = some (.ref f)) (hk : PySem.W.keepIn X.K (.ref f) = true) (hb : Binds X.K fd ps ds) (hd : Vals dvs ds)
    (hdd : ∀ ρ N H, RDs X.K ρ N H dd dvs)
    (ha : ST X W0 (e :: es) ms) (hdb : (x == ("__debug__" : Str)) = false := by decide) (he : starEach (e :: es) X.env = (false, eval e X.env) :: starEach es X.env := by rfl) (hpl : (backTo pos (starEach es X.env)).any (·.1) = false := by rfl) :
    SE X W0 (.Call (.Name x p) (e :: es) [] pos) (fcallM F dd ms) := by
  refine ⟨ha.mono.bind fun as _ h => mono_if (FM.mono _ h), ⟨fun pins s σ H Q I q => ?_⟩⟩
  refine wpAny_Call_Name_kw (ld_glob I hg hm ?_ hdb)
  refine PySem.W.callWith_K (h₀ := X.base) I.ok.mod.kin hk (thn (ha.pa.run pos pins s σ H _ I (rdT_bind ha.mono q)) fun us s1 ⟨vs, H1, I1, r, ρ, σm, h, as, rs, t, z⟩ => ⟨I1.kIn, ?_⟩) he hpl
  obtain ⟨c, z⟩ := post_if z
  refine wpAny_call (codeAny_mono (run_fnM FM hgd hr (fun hl => hb s1 us I1.kIn hl) I1 (r.append hd) rs.heap ((t.rds c).append (hdd _ _ _)) z) fun r' s' hq => ?_)
  cases r' with
  | error e => exact hq.elim
  | ok fl =>
    cases fl with
    | ret u => exact I1.after hq
    | next => exact False.elim hq
    | brk => exact False.elim hq
    | cont => exact False.elim hq
theorem se_call0 {dd : List D} (FM : FnM X.prog X.w X.K X.mg X.base k f fd ps F) (hgd : X.A.guards = some []) (hr : Room k X.A) (hg : Gl X x) (hm : X.mg x = some (.ref f)) (hk : PySem.W.keepIn X.K (.ref f) = true) (hb : Binds X.K fd ps ds) (hd : Vals dvs ds)
    (hdd : ∀ ρ N H, RDs X.K ρ N H dd dvs) (hdb : (x == ("__debug__" : Str)) = false := by decide) :
    SE X W0 (.Call (.Name x p) [] [] pos) (fcallM F dd nilM) := by
  have nl := st_nil (X := X) (W := W0)
  refine ⟨nl.mono.bind fun as _ h => mono_if (FM.mono _ h), ⟨fun pins s σ H Q I q => ?_⟩⟩
  refine wpAny_Call_Name_kw (ld_glob I hg hm ?_ hdb)
  obtain ⟨ρ, σm, h, rs, z⟩ := q
  have z2 : Post X.K ρ h H (fun c d => W0 c d σ) (if ([] : List D).all D.st = true then F ([] ++ dd) h else .stuck) Q := z
  obtain ⟨c, z2⟩ := post_if z2
  refine PySem.W.callWith_K0 I.kIn hk (wpAny_call (codeAny_mono (run_fnM FM hgd hr (fun hl => hb s [] I.kIn hl) I (show Vals ([] ++ dvs) ([] ++ ds) from hd) rs.heap (hdd _ _ _) z2) fun r' s' hq => ?_))
  cases r' with
  | error e => exact hq.elim
  | ok fl =>
    cases fl with
    | ret u => exact I.after hq
    | next => exact False.elim hq
    | brk => exact False.elim hq
    | cont => exact False.elim hq
end
end Dn
end
noncomputable section
set_option Elab.async false
set_option linter.all false
set_option maxRecDepth 100000
set_option maxHeartbeats 4000000
namespace Dn
open PySem PySem.Spec PyProof.Rows L2
open Classical in
def guardS (c : Prop) (m : Fl) : Fl := if c then m else .stuck
def whileS (t : M Bool) (b : MS) : Nat → MS
  | 0 => nevS
  | n + 1 => runS t fun c => if c then fun σ h => (match b σ h with
      | .nx σ1 h1 => whileS t b n σ1 h1
      | .ct σ1 h1 => whileS t b n σ1 h1
      | .bk σ1 h1 => .nx σ1 h1
      | r => r) else skipS
theorem mono_while {t : M Bool} {b : MS} (mt : Mono t) (mb : MonoS b) : ∀ n, MonoS (whileS t b n)
  | 0 => fun _ _ => trivial
  | n + 1 => mono_run mt fun c σ h => by
    cases c with
    | false => exact MonoH.refl h
    | true =>
      have z := mb σ h
      show Fl.mono h (match b σ h with | .nx σ1 h1 => whileS t b n σ1 h1 | .ct σ1 h1 => whileS t b n σ1 h1 | .bk σ1 h1 => .nx σ1 h1 | r => r)
      cases e : b σ h with
      | nx σ1 h1 => rw [e] at z; exact Fl.mono.trans z (mono_while mt mb n σ1 h1)
      | ct σ1 h1 => rw [e] at z; exact Fl.mono.trans z (mono_while mt mb n σ1 h1)
      | bk σ1 h1 => rw [e] at z; exact z
      | rt σ1 h1 => rw [e] at z; exact z
      | ex _ _ _ => rw [e] at z; exact z
      | stuck => trivial
theorem while_run {K : PySem.W.Frag} {W : WX} {t : M Bool} {b : MS} (mt : Mono t) (mb : MonoS b) {n : Nat} {E : Ends} {σ : L2.St} {H : Hp} (q : rdS K W (whileS t b n) E σ H) : tWhile (rdB K W t) (rdS K W b) E σ H := by
  refine ⟨fun m σ H => rdS K W (whileS t b m) E σ H, ⟨n, q⟩, fun m σ H z => ?_⟩
  cases m with
  | zero =>
    obtain ⟨ρ, σm, h, r, p⟩ := z
    exact p.elim
  | succ m =>
    refine rdB_mono (rdS_test mt z) fun c H1 y => ?_
    cases c with
    | false =>
      show E.nx σ H1
      obtain ⟨ρ, σm, h, r, p⟩ := y
      exact p ρ σ H1 Step.refl r
    | true =>
      refine ⟨fun σ' H' => rdS K W (whileS t b m) E σ' H', fun σ' H' w => ⟨m, Nat.lt_succ_self _, w⟩, ?_⟩
      obtain ⟨ρ, σm, h, r, p⟩ := y
      refine ⟨ρ, σm, h, r, ?_⟩
      have mh := mb σm h
      have p' : PostS K W ρ h H1 (match b σm h with | .nx σ1 h1 => whileS t b m σ1 h1 | .ct σ1 h1 => whileS t b m σ1 h1 | .bk σ1 h1 => .nx σ1 h1 | r => r) E := p
      cases e : b σm h with
      | nx σ1 h1 => rw [e] at p' mh; exact fun ρ' σ2 H' s r' => ⟨ρ', σ1, h1, r', PostS.of_step r'.heap s mh p'⟩
      | ct σ1 h1 => rw [e] at p' mh; exact fun ρ' σ2 H' s r' => ⟨ρ', σ1, h1, r', PostS.of_step r'.heap s mh p'⟩
      | bk σ1 h1 => rw [e] at p'; exact p'
      | rt σ1 h1 => rw [e] at p'; exact p'
      | ex _ _ _ => rw [e] at p'; exact p'
      | stuck => rw [e] at p'; exact p'
theorem ss_while {X : Cx} {W : WX} {c : Expr} {body : List Stmt} {t : M Bool} {b : MS} {pos : Pos} (n : Nat) (hp : PassesOwn (model X.prog X.w) X.A X.env X.xe) (hc : SB X W c t) (hb : SSs X W body b) : SS X W (.While c body [] pos) (whileS t b n) :=
  ⟨mono_while hc.mono hb.mono n, weakS (ps_while hp hc.pt hb.pss) fun E σ H q => while_run hc.mono hb.mono q⟩
def lstOf (h : MH) : D → Option (List D)
  | .tl ds => some ds
  | .ref n => match h[n]? with
    | some (.lst ds) => some ds
    | some (.rol ds) => some ds
    | _ => none
  | _ => none
structure Src where
  items : List D
  live : List (Nat × List D)
def Src.ok (s : Src) (h : MH) : Prop := ∀ p ∈ s.live, lstOf h (.ref p.1) = some p.2
theorem lst_ref {K : PySem.W.Frag} {ρ : Nat → Addr} {h : MH} {H : Hp} {n : Nat} {ds : List D} (r : RH K ρ h H) (e : lstOf h (.ref n) = some ds) : ∃ xs, SqL K H (ρ n) xs ∧ RDs K ρ h.length H ds xs := by
  unfold lstOf at e
  cases q : h[n]? with
  | none => simp [q] at e
  | some o =>
    have z := r.obj n o q
    cases o with
    | lst es =>
      simp [q] at e
      subst e
      obtain ⟨xs, a, b⟩ := z
      exact ⟨xs, SqL.of a, b⟩
    | rol es =>
      simp [q] at e
      subst e
      obtain ⟨xs, a, b⟩ := z
      refine ⟨xs, ?_, b⟩
      rcases a with a | a
      · exact .inl (.inr a)
      · exact a H
    | _ => simp [q] at e
theorem lst_val {K : PySem.W.Frag} {ρ : Nat → Addr} {h : MH} {H : Hp} {d : D} {v : V} {ds : List D} (r : RH K ρ h H) (t : RT K ρ h H d v) (e : lstOf h d = some ds) : ∃ p xs, v = .ref p ∧ SqL K H p xs ∧ RDs K ρ h.length H ds xs := by
  cases d with
  | tl es =>
    obtain ⟨p, xs, rfl, a, b, _⟩ := t
    cases e
    exact ⟨p, xs, rfl, SqL.of a, b⟩
  | ref n =>
    cases t
    obtain ⟨xs, a, b⟩ := lst_ref r e
    exact ⟨_, xs, rfl, a, b⟩
  | _ => cases e
structure Walks (K : PySem.W.Frag) (src : Src) (J : It) (ρ : Nat → Addr) (h : MH) (H : Hp) : Prop where
  go : ∀ {ρ' : Nat → Addr} {h' : MH} {H' : Hp}, Step ρ h H ρ' h' H' → MonoH h h' → RH K ρ' h' H' → src.ok h' → ∀ (i : Nat) (d : D), src.items[i]? = some d →
    J.go i H' ∧ ∀ x H'', J.yld i H' x H'' → (∀ a o, H' a = some o → H'' a = some o) ∧ RD K ρ' h'.length H'' d x
  stop : ∀ {ρ' : Nat → Addr} {h' : MH} {H' : Hp}, Step ρ h H ρ' h' H' → MonoH h h' → RH K ρ' h' H' → src.ok h' → ∀ i : Nat, src.items.length ≤ i → J.stop i H'
def rdI (K : PySem.W.Frag) (W : WX) (m : M Src) : TI := fun σ H R => ∃ ρ σm h, RS K ρ σm h σ H ∧ match m σm h with
  | .ok src h' => ∀ ρ' J H', Step ρ h H ρ' h' H' → RH K ρ' h' H' → Walks K src J ρ' h' H' → R J H'
  | .exc x h' => ∀ ρ' cls dx H', Step ρ h H ρ' h' H' → RH K ρ' h' H' → RX K ρ' h'.length H' x cls dx → W cls dx σ H'
  | .stuck => False
structure SI (X : Cx) (W : WX) (tg iter : Expr) (m : M Src) : Prop where
  mono : Mono m
  pi : PI X tg iter (rdI X.K W m)
theorem weakI {X : Cx} {tg iter : Expr} {t t' : TI} (h : PI X tg iter t) (w : ∀ σ H R, t' σ H R → t σ H R) : PI X tg iter t' := ⟨fun pins s σ H R I q => h.run pins s σ H R I (w σ H R q)⟩
theorem PI_or {X : Cx} {tg iter : Expr} {t t' : TI} (h : PI X tg iter t) (h' : PI X tg iter t') : PI X tg iter (fun σ H R => t σ H R ∨ t' σ H R) := ⟨fun pins s σ H R I q => q.elim (h.run pins s σ H R I) (h'.run pins s σ H R I)⟩
def forL (src : Src) (p : Pat) (b : MS) : List D → MS
  | [] => fun σ h => guardS (src.ok h) (.nx σ h)
  | d :: ds => fun σ h => guardS (src.ok h) (match p.put d σ with
    | some σ1 => (match b σ1 h with
      | .nx σ2 h2 => forL src p b ds σ2 h2
      | .ct σ2 h2 => forL src p b ds σ2 h2
      | .bk σ2 h2 => .nx σ2 h2
      | r => r)
    | none => .stuck)
def forS (m : M Src) (p : Pat) (b : MS) : MS := runS m fun src => forL src p b src.items
theorem mono_guard {c : Prop} {h : MH} {r : Fl} (x : r.mono h) : (guardS c r).mono h := by
  unfold guardS
  by_cases e : c
  · rw [if_pos e]; exact x
  · rw [if_neg e]; trivial
theorem post_guard {K : PySem.W.Frag} {W : WX} {ρ : Nat → Addr} {h : MH} {H : Hp} {c : Prop} {r : Fl} {E : Ends} (p : PostS K W ρ h H (guardS c r) E) : c ∧ PostS K W ρ h H r E := by
  unfold guardS at p
  by_cases e : c
  · rw [if_pos e] at p; exact ⟨e, p⟩
  · rw [if_neg e] at p; exact p.elim
theorem mono_forL {src : Src} {p : Pat} {b : MS} (mb : MonoS b) : ∀ ds, MonoS (forL src p b ds)
  | [] => fun σ h => mono_guard (MonoH.refl h)
  | d :: ds => fun σ h => mono_guard (by
    cases p.put d σ with
    | none => trivial
    | some σ1 =>
      show Fl.mono h (match b σ1 h with | .nx σ2 h2 => forL src p b ds σ2 h2 | .ct σ2 h2 => forL src p b ds σ2 h2 | .bk σ2 h2 => .nx σ2 h2 | r => r)
      have z := mb σ1 h
      cases e : b σ1 h with
      | nx σ1 h1 => rw [e] at z; exact Fl.mono.trans z (mono_forL mb ds σ1 h1)
      | ct σ1 h1 => rw [e] at z; exact Fl.mono.trans z (mono_forL mb ds σ1 h1)
      | bk σ1 h1 => rw [e] at z; exact z
      | rt σ1 h1 => rw [e] at z; exact z
      | ex _ _ _ => rw [e] at z; exact z
      | stuck => trivial)
theorem for_run {K : PySem.W.Frag} {W : WX} {src : Src} {p : Pat} {b : MS} {J : It} {ρ0 : Nat → Addr} {h0 : MH} {H0 : Hp} {E : Ends} {σ0 : L2.St} (mb : MonoS b) (wk : Walks K src J ρ0 h0 H0) {σm0 : Sg} (r0 : RS K ρ0 σm0 h0 σ0 H0) (q0 : PostS K W ρ0 h0 H0 (forL src p b src.items σm0 h0) E) :
    ∃ Wv : Nat → Nat → L2.St → Hp → Prop, (∃ m, Wv 0 m σ0 H0) ∧ ∀ i m σ H, Wv i m σ H →
      (J.stop i H ∧ E.nx σ H) ∨ (J.go i H ∧ ∃ N : L2.St → Hp → Prop, (∀ σ' H', N σ' H' → ∃ m', m' < m ∧ Wv (i + 1) m' σ' H') ∧ ∀ x H', J.yld i H x H' → p.rd K x σ H' fun σ2 H2 => rdS K W b { E with nx := N, ct := N, bk := E.nx } σ2 H2) := by
  refine ⟨fun i m σ H => ∃ ρ σm h, RS K ρ σm h σ H ∧ Step ρ0 h0 H0 ρ h H ∧ MonoH h0 h ∧ m = src.items.length - i ∧ PostS K W ρ h H (forL src p b (src.items.drop i) σm h) E, ⟨_, ρ0, σm0, h0, r0, Step.refl, MonoH.refl _, rfl, q0⟩, ?_⟩
  rintro i m σ H ⟨ρ, σm, h, r, s, mh, rfl, q⟩
  by_cases hi : i < src.items.length
  · have ed : src.items.drop i = src.items[i] :: src.items.drop (i + 1) := List.drop_eq_getElem_cons hi
    rw [ed] at q
    obtain ⟨ok, q⟩ := post_guard q
    obtain ⟨g, y⟩ := wk.go s mh r.heap ok i _ (List.getElem?_eq_getElem hi)
    refine .inr ⟨g, fun σ' H' => ∃ ρ' σm' h', RS K ρ' σm' h' σ' H' ∧ Step ρ0 h0 H0 ρ' h' H' ∧ MonoH h0 h' ∧ PostS K W ρ' h' H' (forL src p b (src.items.drop (i + 1)) σm' h') E, fun σ' H' ⟨ρ', σm', h', a1, a2, a3, a4⟩ => ⟨_, by omega, ρ', σm', h', a1, a2, a3, rfl, a4⟩, fun x H' hy => ?_⟩
    obtain ⟨kp, rd⟩ := y x H' hy
    have sk := Step.keep (ρ := ρ) (h := h) kp
    have rk := r.heap.keep kp
    have rs' : RS K ρ σm h σ H' := r.step sk (MonoH.refl _) rk
    cases e : p.put src.items[i] σm with
    | none => rw [e] at q; exact q.elim
    | some σ1 =>
      rw [e] at q
      refine Pat.ok rs' rd e fun σ2 r2 _ => ⟨ρ, σ1, h, r2, ?_⟩
      have s1 : Step ρ0 h0 H0 ρ h H' := s.trans r.heap mh sk
      have q' : PostS K W ρ h H (match b σ1 h with | .nx σ2 h2 => forL src p b (src.items.drop (i + 1)) σ2 h2 | .ct σ2 h2 => forL src p b (src.items.drop (i + 1)) σ2 h2 | .bk σ2 h2 => .nx σ2 h2 | r => r) E := q
      have q2 := PostS.of_step rk sk (MonoH.refl h) q'
      have mz := mb σ1 h
      cases e2 : b σ1 h with
      | nx σ3 h3 => rw [e2] at q2 mz; exact fun ρ' σ4 H4 s4 r4 => ⟨ρ', σ3, h3, r4, s1.trans rk mh s4, mh.trans mz, PostS.of_step r4.heap s4 mz q2⟩
      | ct σ3 h3 => rw [e2] at q2 mz; exact fun ρ' σ4 H4 s4 r4 => ⟨ρ', σ3, h3, r4, s1.trans rk mh s4, mh.trans mz, PostS.of_step r4.heap s4 mz q2⟩
      | bk σ3 h3 => rw [e2] at q2; exact q2
      | rt σ3 h3 => rw [e2] at q2; exact q2
      | ex _ _ _ => rw [e2] at q2; exact q2
      | stuck => rw [e2] at q2; exact q2
  · have ed : src.items.drop i = [] := List.drop_eq_nil_iff.mpr (Nat.le_of_not_lt hi)
    rw [ed] at q
    obtain ⟨ok, q⟩ := post_guard q
    exact .inl ⟨wk.stop s mh r.heap ok i (Nat.le_of_not_lt hi), q ρ σ H Step.refl r⟩
theorem ss_for {X : Cx} {W : WX} {tg iter : Expr} {body : List Stmt} {mi : M Src} {p : Pat} {b : MS} {pos : Pos} (hp : PassesOwn (model X.prog X.w) X.A X.env X.xe) (hc : X.calm = true) (hi : SI X W tg iter mi) (hg : SG X tg p) (hb : SSs X W body b)
    (hs : ∀ x, foldedSetIterable iter X.env x = pure x := by intro _; rfl) : SS X W (.For tg iter body [] pos) (forS mi p b) :=
  ⟨mono_run hi.mono fun src => mono_forL hb.mono src.items, weakS (ps_for hp hc hi.pi hg hb.pss hs) fun E σ H q => by
    obtain ⟨ρ, σm, h, r, pq⟩ := q
    refine ⟨ρ, σm, h, r, ?_⟩
    dsimp only [forS, runS] at pq
    cases e : mi σm h with
    | ok src h1 =>
      rw [e] at pq
      intro ρ1 J H1 s1 r1 wk
      have mh := hi.mono.ok e
      exact for_run hb.mono wk (r.step s1 mh r1) (PostS.of_step r1 s1 mh pq)
    | exc x h1 =>
      rw [e] at pq
      intro ρ1 c d H1 s1 r1 x1
      exact pq ρ1 c d σ H1 s1 (r.step s1 (hi.mono.exc e) r1) x1
    | stuck => rw [e] at pq; exact pq⟩
end Dn
end
noncomputable section
set_option Elab.async false
set_option linter.all false
set_option maxRecDepth 100000
set_option maxHeartbeats 4000000
namespace Dn
open PySem PySem.Spec PyProof.Rows L2
section
variable {K : PySem.W.Frag} {ρ ρ0 : Nat → Addr} {h h0 : MH} {H H0 : Hp} {p : Addr} {o : HO} {xs : List V}
theorem grow_side (e : H p = some (.lst xs)) {N : Nat} : Grow K ρ N H ρ N (upd H p o) := ⟨Nat.le_refl _, fun _ _ => rfl, fun a ys q => by
  rcases q with (q | ⟨u, q⟩) | q
  · exact .inl (.inl (by rw [upd_ne (ne_of q e (fun z => nomatch z))]; exact q))
  · exact .inl (.inr ⟨u, by rw [upd_ne (ne_of q e (fun z => nomatch z))]; exact q⟩)
  · exact .inr q⟩
theorem RH.side (r : RH K ρ h H) (e : H p = some (.lst xs)) (ne : ∀ n, Mu h n → ρ n ≠ p) : RH K ρ h (upd H p o) := by
  have g : Grow K ρ h.length H ρ h.length (upd H p o) := grow_side e
  refine ⟨fun n u eu => ?_, r.inj⟩
  have z := r.obj n u eu
  cases u with
  | lst ds => obtain ⟨ys, a, b⟩ := z; exact ⟨ys, by rw [upd_ne (ne n ⟨_, eu, rfl⟩)]; exact a, b.grow g⟩
  | rol ds =>
    obtain ⟨ys, a, b⟩ := z
    refine ⟨ys, ?_, b.grow g⟩
    rcases a with ⟨w, a⟩ | a
    · exact .inl ⟨w, by rw [upd_ne (ne_of a e (fun z => nomatch z))]; exact a⟩
    · exact .inr a
  | dct kvs => obtain ⟨ys, a, b⟩ := z; exact ⟨ys, by rw [upd_ne (ne n ⟨_, eu, rfl⟩)]; exact a, b.grow g⟩
  | ins C fs =>
    obtain ⟨dx, gs, a, a2, b⟩ := z
    exact ⟨dx, gs, by rw [upd_ne (ne n ⟨_, eu, rfl⟩)]; exact a, by rw [upd_ne (ne_of a2 e (fun z => nomatch z))]; exact a2, b.grow g⟩
theorem Step.side (s : Step ρ0 h0 H0 ρ h H) (e : H0 p = none) : Step ρ0 h0 H0 ρ h (upd H p o) := ⟨s.ag, s.fresh, fun a u q hn => by
  rw [upd_ne (ne_of_none q e)]
  exact s.fr a u q hn⟩
end
def wipeD (σ : Sg) : List Nat → Sg
  | [] => σ
  | v :: vs => (wipeD σ vs).set v none
theorem wipeD_length (σ : Sg) : ∀ vs : List Nat, (wipeD σ vs).length = σ.length
  | [] => rfl
  | v :: vs => by
    show ((wipeD σ vs).set v none).length = _
    rw [List.length_set, wipeD_length σ vs]
theorem wipe_get {σm : Sg} {σ : L2.St} : ∀ {vs : List Nat} {i : Nat} {d : D}, (wipeD σm vs)[i]? = some (some d) → σm[i]? = some (some d) ∧ (wipe σ vs)[i]? = σ[i]?
  | [], i, d, e => ⟨e, rfl⟩
  | v :: vs, i, d, e => by
    have e' : ((wipeD σm vs).set v none)[i]? = some (some d) := e
    by_cases hv : v = i
    · subst hv
      rw [List.getElem?_set] at e'
      rw [if_pos rfl] at e'
      by_cases hl : v < (wipeD σm vs).length
      · rw [if_pos hl] at e'; cases e'
      · rw [if_neg hl] at e'; cases e'
    · rw [List.getElem?_set_ne hv] at e'
      obtain ⟨a, b⟩ := wipe_get (σ := σ) e'
      refine ⟨a, ?_⟩
      show ((wipe σ vs).set v none)[i]? = _
      rw [List.getElem?_set_ne hv, b]
theorem RS.wipe {K : PySem.W.Frag} {ρ : Nat → Addr} {h : MH} {H : Hp} {σm : Sg} {σ : L2.St} (r : RS K ρ σm h σ H) (vs : List Nat) : RS K ρ (wipeD σm vs) h (L2.wipe σ vs) H := ⟨r.heap, fun i d e => by
  obtain ⟨a, b⟩ := wipe_get (σ := σ) e
  obtain ⟨v, c, q⟩ := r.env i d a
  exact ⟨v, b.trans c, q⟩, by rw [wipe_length, wipeD_length, r.len]⟩
open Classical in
def guardR {α : Type} (c : Prop) (m : R α) : R α := if c then m else .stuck
def lcL (src : Src) (p : Pat) (t : M Bool) (e : M D) (σ0 : Sg) : List D → List D → MH → R D
  | [], acc, h => guardR (src.ok h) (.ok (.tl acc) h)
  | d :: ds, acc, h => guardR (src.ok h) (match p.put d σ0 with
    | some σ1 => (match t σ1 h with
      | .ok true h1 => (match e σ1 h1 with
        | .ok y h2 => if y.st = true ∧ acc.length < line then lcL src p t e σ0 ds (acc ++ [y]) h2 else .stuck
        | .exc _ _ => .stuck
        | .stuck => .stuck)
      | .ok false h1 => lcL src p t e σ0 ds acc h1
      | .exc _ _ => .stuck
      | .stuck => .stuck)
    | none => .stuck)
def lcM (m : M Src) (p : Pat) (vs : List Nat) (t : M Bool) (e : M D) : M D := bindM m fun src σ h => lcL src p t e (wipeD σ vs) src.items [] h
theorem mono_guardR {α : Type} {c : Prop} {h : MH} {r : R α} (x : MonoR h r) : MonoR h (guardR c r) := by
  unfold guardR
  by_cases e : c
  · rw [if_pos e]; exact x
  · rw [if_neg e]; trivial
theorem MonoR.trans {α : Type} {h h1 : MH} {r : R α} (a : MonoH h h1) (b : MonoR h1 r) : MonoR h r := by
  cases r <;> first | exact a.trans b | trivial
theorem mono_lcL {src : Src} {p : Pat} {t : M Bool} {e : M D} {σ0 : Sg} (mt : Mono t) (me : Mono e) : ∀ ds acc h, MonoR h (lcL src p t e σ0 ds acc h)
  | [], acc, h => mono_guardR (MonoH.refl h)
  | d :: ds, acc, h => mono_guardR (by
    cases p.put d σ0 with
    | none => trivial
    | some σ1 =>
      show MonoR h (match t σ1 h with
      | .ok true h1 => (match e σ1 h1 with
        | .ok y h2 => if y.st = true ∧ acc.length < line then lcL src p t e σ0 ds (acc ++ [y]) h2 else .stuck
        | .exc _ _ => .stuck
        | .stuck => .stuck)
      | .ok false h1 => lcL src p t e σ0 ds acc h1
      | .exc _ _ => .stuck
      | .stuck => .stuck)
      cases q : t σ1 h with
      | ok b h1 =>
        have m1 := mt.ok q
        cases b with
        | false => exact MonoR.trans m1 (mono_lcL mt me ds acc h1)
        | true =>
          show MonoR h (match e σ1 h1 with
            | .ok y h2 => if y.st = true ∧ acc.length < line then lcL src p t e σ0 ds (acc ++ [y]) h2 else .stuck
            | .exc _ _ => .stuck
            | .stuck => .stuck)
          cases q2 : e σ1 h1 with
          | ok y h2 => exact MonoR.trans (m1.trans (me.ok q2)) (mono_if (mono_lcL mt me ds (acc ++ [y]) h2))
          | exc _ _ => trivial
          | stuck => trivial
      | exc _ _ => trivial
      | stuck => trivial)
theorem mono_lcM {m : M Src} {p : Pat} {vs : List Nat} {t : M Bool} {e : M D} (mm : Mono m) (mt : Mono t) (me : Mono e) : Mono (lcM m p vs t e) := mm.bind fun src σ h => mono_lcL mt me _ _ _
theorem post_guardR {K : PySem.W.Frag} {Wx : Value → Option Addr → Hp → Prop} {ρ : Nat → Addr} {h : MH} {H : Hp} {c : Prop} {r : R D} {Q : VK} (p : Post K ρ h H Wx (guardR c r) Q) : c ∧ Post K ρ h H Wx r Q := by
  unfold guardR at p
  by_cases e : c
  · rw [if_pos e] at p; exact ⟨e, p⟩
  · rw [if_neg e] at p; exact p.elim
structure STs (X : Cx) (ifs : List Expr) (t : M Bool) : Prop where
  mono : Mono t
  pts : PTs X ifs (rdB X.K W0 t)
theorem sts_nil {X : Cx} : STs X [] (retM true) := ⟨Mono.ret _, ⟨fun pins s σ H Q I q => pts_nil.run pins s σ H Q I (by
  obtain ⟨ρ, σm, h, r, p⟩ := q
  exact p ρ H Step.refl r.heap)⟩⟩
theorem sts_one {X : Cx} {c : Expr} {t : M Bool} (h : SB X W0 c t) : STs X [c] t := ⟨h.mono, pts_one h.pt⟩
theorem wipe_wipe (σ : L2.St) : ∀ vs : List Nat, wipe (wipe σ vs) vs = wipe σ vs := by
  have aux : ∀ (us vs : List Nat) (σ : L2.St), (∀ i ∈ us, i ∈ vs) → wipe (wipe σ us) vs = wipe σ vs := by
    intro us
    induction us with
    | nil => intro vs σ _; rfl
    | cons i us ih =>
      intro vs σ h
      show wipe ((wipe σ us).set i none) vs = _
      rw [wipe_set (h i (by simp)), ih vs σ fun j hj => h j (by simp [hj])]
  exact fun vs => aux vs vs σ fun _ h => h
theorem rd_unown {K : PySem.W.Frag} {W : WX} {m : M D} {σ : L2.St} {H : Hp} {Q : VK} (mm : Mono m) (q : rdE K W (ownM m) σ H Q) : rdE K W m σ H Q := by
  obtain ⟨ρ, σm, h, r, p⟩ := q
  refine ⟨ρ, σm, h, r, ?_⟩
  unfold ownM at p
  cases e1 : m σm h with
  | ok d h1 =>
    rw [e1] at p
    have mh := mm.ok e1
    cases d with
    | tl ds =>
      intro ρ1 v H1 s1 rh1 t1 f1
      obtain ⟨a, xs, rfl, b, c, ne⟩ := t1
      have hp := f1 ds rfl a rfl
      have z := RD.ref (K := K) (ρ := put ρ1 h1.length a) (N := (h1 ++ [MO.lst ds]).length) (H := H1) h1.length (by simp)
      rw [put_eq] at z
      exact p (put ρ1 h1.length a) (.ref a) H1 (s1.adopt hp mh) (rh1.adopt b c ne) z.rt z.fr0
    | _ => exact p
  | exc y h1 => rw [e1] at p; exact p
  | stuck => rw [e1] at p; exact p
section
variable {K : PySem.W.Frag} {W : WX} {src : Src} {p : Pat} {t : M Bool} {e : M D} {vs : List Nat} {J : It} {ρ1 : Nat → Addr} {h1 : MH} {H1 : Hp} {σ : L2.St} {σm : Sg} {Q : VK}
theorem lc_run (mt : Mono t) (me : Mono e) (hp : ∀ i ∈ p.slots, i ∈ vs) (wk : Walks K src J ρ1 h1 H1) (r1 : RS K ρ1 σm h1 σ H1) (q : Post K ρ1 h1 H1 (fun c d => W c d σ) (lcL src p t e (wipeD σm vs) src.items [] h1) Q) (D0 : Addr) (hD : H1 D0 = none) :
    ∃ Wv : Nat → Nat → Hp → Prop, (∃ m, Wv 0 m (upd H1 D0 (.lst []))) ∧ ∀ i m H, Wv i m H →
      (J.stop i H ∧ Q (.ref D0) H) ∨ (J.go i H ∧ ∃ Nx : Hp → Prop, (∀ H', Nx H' → ∃ m', m' < m ∧ Wv (i + 1) m' H') ∧ ∀ x H', J.yld i H x H' → p.rd K x (wipe σ vs) H' fun σ2 H2 => wipe σ2 vs = wipe σ vs ∧ rdB K W0 t σ2 H2 fun b H3 =>
        if b = true then rdE K W0 e σ2 H3 fun y H4 => ∃ acc, H4 D0 = some (.lst acc) ∧ acc.length < sizeLine ∧ Nx (upd H4 D0 (.lst (acc ++ [y]))) else Nx H3) := by
  have k0 := keep_new (o := HO.lst []) hD
  let Wi : Nat → Hp → Prop := fun i H => ∃ ρ h acc xs, RS K ρ (wipeD σm vs) h (wipe σ vs) H ∧ Step ρ1 h1 H1 ρ h H ∧ MonoH h1 h ∧ H D0 = some (.lst xs) ∧ RDs K ρ h.length H acc xs ∧ (∀ n, Mu h n → ρ n ≠ D0) ∧
    Post K ρ1 h1 H1 (fun c d => W c d σ) (lcL src p t e (wipeD σm vs) (src.items.drop i) acc h) Q
  refine ⟨fun i m H => m = src.items.length - i ∧ Wi i H, ⟨_, rfl, ρ1, h1, [], [], (r1.wipe vs).step (Step.keep k0) (MonoH.refl _) (r1.heap.keep k0), Step.keep k0, MonoH.refl _, upd_same, .nil, fun n m z => r1.heap.nn m (by rw [z]; exact hD), q⟩, ?_⟩
  rintro i m H ⟨rfl, ρ, h, acc, xs, r, s, mh, hx, ra, nD, pq⟩
  by_cases hi : i < src.items.length
  · have ed : src.items.drop i = src.items[i] :: src.items.drop (i + 1) := List.drop_eq_getElem_cons hi
    rw [ed] at pq
    obtain ⟨ok, pq⟩ := post_guardR pq
    obtain ⟨g, y⟩ := wk.go s mh r.heap ok i _ (List.getElem?_eq_getElem hi)
    refine .inr ⟨g, Wi (i + 1), fun H' w => ⟨_, by omega, rfl, w⟩, fun x H' hy => ?_⟩
    obtain ⟨kp, rd⟩ := y x H' hy
    have sk := Step.keep (ρ := ρ) (h := h) kp
    have rk := r.heap.keep kp
    have rs' : RS K ρ (wipeD σm vs) h (wipe σ vs) H' := r.step sk (MonoH.refl _) rk
    cases ep : p.put src.items[i] (wipeD σm vs) with
    | none => rw [ep] at pq; exact pq.elim
    | some σ1 =>
      rw [ep] at pq
      refine Pat.ok rs' rd ep fun σ2 r2 hw => ⟨(hw vs hp).trans ?_, ρ, σ1, h, r2, ?_⟩
      · exact wipe_wipe σ vs
      have s1 : Step ρ1 h1 H1 ρ h H' := s.trans r.heap mh sk
      have hx1 := kp _ _ hx
      have ra1 := ra.grow (sk.grow r.heap (MonoH.refl h))
      have pq2 : Post K ρ1 h1 H1 (fun c d => W c d σ) (match t σ1 h with
        | .ok true h1 => (match e σ1 h1 with
          | .ok y h2 => if y.st = true ∧ acc.length < line then lcL src p t e (wipeD σm vs) (src.items.drop (i + 1)) (acc ++ [y]) h2 else .stuck
          | .exc _ _ => .stuck
          | .stuck => .stuck)
        | .ok false h1 => lcL src p t e (wipeD σm vs) (src.items.drop (i + 1)) acc h1
        | .exc _ _ => .stuck
        | .stuck => .stuck) Q := pq
      cases et : t σ1 h with
      | ok b h2 =>
        rw [et] at pq2
        have m2 := mt.ok et
        intro ρ2 H2 s2 rh2
        have s12 := s1.trans rk mh s2
        have hx2 := s2.fr _ _ hx1 nD
        have ra2 := ra1.grow (s2.grow rk m2)
        have nD2 : ∀ n, Mu h2 n → ρ2 n ≠ D0 := fun n mn z => by
          by_cases hn : n < h.length
          · rw [s2.ag n hn] at z; exact nD n (m2.mu' hn mn) z
          · have z2 := s2.fresh n (Nat.le_of_not_lt hn) mn.lt
            rw [z, hx1] at z2; cases z2
        have rw2 : RS K ρ2 (wipeD σm vs) h2 (wipe σ vs) H2 := rs'.step s2 m2 rh2
        cases b with
        | false =>
          show Wi (i + 1) H2
          exact ⟨ρ2, h2, acc, xs, rw2, s12, mh.trans m2, hx2, ra2, nD2, pq2⟩
        | true =>
          show rdE K W0 e σ2 H2 _
          have r3 : RS K ρ2 σ1 h2 σ2 H2 := r2.step s2 m2 rh2
          refine ⟨ρ2, σ1, h2, r3, ?_⟩
          have pq3 : Post K ρ1 h1 H1 (fun c d => W c d σ) (match e σ1 h2 with
            | .ok y h2 => if y.st = true ∧ acc.length < line then lcL src p t e (wipeD σm vs) (src.items.drop (i + 1)) (acc ++ [y]) h2 else .stuck
            | .exc _ _ => .stuck
            | .stuck => .stuck) Q := pq2
          cases ee : e σ1 h2 with
          | ok yd h3 =>
            rw [ee] at pq3
            have m3 := me.ok ee
            obtain ⟨⟨c1, c2⟩, pq4⟩ := post_if pq3
            intro ρ3 v H3 s3 rh3 t3 f3
            have hx3 := s3.fr _ _ hx2 nD2
            have ra3 := ra2.grow (s3.grow rh2 m3)
            have nD3 : ∀ n, Mu h3 n → ρ3 n ≠ D0 := fun n mn z => by
              by_cases hn : n < h2.length
              · rw [s3.ag n hn] at z; exact nD2 n (m3.mu' hn mn) z
              · have z2 := s3.fresh n (Nat.le_of_not_lt hn) mn.lt
                rw [z, hx2] at z2; cases z2
            have s13 := s12.trans rh2 (mh.trans m2) s3
            refine ⟨xs, hx3, by rw [ra.length, ← line_eq]; exact c2, ?_⟩
            have gs : Grow K ρ3 h3.length H3 ρ3 h3.length (upd H3 D0 (.lst (xs ++ [v]))) := grow_side hx3
            have rw3 : RS K ρ3 (wipeD σm vs) h3 (wipe σ vs) H3 := rw2.step s3 m3 rh3
            refine ⟨ρ3, h3, acc ++ [yd], xs ++ [v], ⟨rh3.side hx3 nD3, fun j d ej => ?_, rw3.len⟩, s13.side hD, (mh.trans m2).trans m3, upd_same, (ra3.append (.cons (t3.rdS c1) .nil)).grow gs, nD3, pq4⟩
            obtain ⟨v', a, b⟩ := rw3.env j d ej
            exact ⟨v', a, b.grow gs⟩
          | exc _ _ => rw [ee] at pq3; exact pq3.elim
          | stuck => rw [ee] at pq3; exact pq3.elim
      | exc _ _ => rw [et] at pq2; exact pq2.elim
      | stuck => rw [et] at pq2; exact pq2.elim
  · have ed : src.items.drop i = [] := List.drop_eq_nil_iff.mpr (Nat.le_of_not_lt hi)
    rw [ed] at pq
    obtain ⟨ok, pq⟩ := post_guardR pq
    refine .inl ⟨wk.stop s mh r.heap ok i (Nat.le_of_not_lt hi), pq ρ _ H s r.heap ⟨D0, xs, rfl, hx, ra, nD⟩ fun ds _ a ea => ?_⟩
    cases ea
    exact hD
end
section
variable {X : Cx} {W : WX} {elt tg iter : Expr} {ifs : List Expr} {scope : Scope} {pos : Pos} {m : M Src} {p : Pat} {t : M Bool} {e : M D}
theorem lc_reads {K : PySem.W.Frag} {vs : List Nat} {σ : L2.St} {H : Hp} {Q : VK} (mm : Mono m) (mt : Mono t) (me : Mono e) (hp : ∀ i ∈ p.slots, i ∈ vs) (q : rdE K W (lcM m p vs t e) σ H Q) : tLc (rdI K W m) (p.rd K) (rdB K W0 t) (rdE K W0 e) vs σ H Q := by
  obtain ⟨ρ, σm, h, r, pq⟩ := q
  refine ⟨ρ, σm, h, r, ?_⟩
  dsimp only [lcM, bindM] at pq
  cases em : m σm h with
  | ok src h1 =>
    rw [em] at pq
    intro ρ1 J H1 s1 r1 wk D0 hD
    have mh := mm.ok em
    exact lc_run mt me hp wk (r.step s1 mh r1) (Post.of_step r1 s1 mh pq) D0 hD
  | exc x h1 => rw [em] at pq; exact pq
  | stuck => rw [em] at pq; exact pq
theorem se_lc {own : List (Str × Nat)} (hc : X.calm = true) (hN : X.N.Nodup) (hi : SI X W tg iter m) (ok : BlkOk X.N X.env.scope scope own) (hp : ∀ i ∈ p.slots, i ∈ own.map (·.2))
    (hg : ∀ (s : Shared) (H : Hp) (C : Addr) (cl : List (Str × Addr)) (fp : List Addr), SG (X.blk s H scope (compEnvC scope cl C X.env) fp) tg p) (ht : ∀ (s : Shared) (H : Hp) (C : Addr) (cl : List (Str × Addr)) (fp : List Addr), STs (X.blk s H scope (compEnvC scope cl C X.env) fp) ifs t)
    (he : ∀ (s : Shared) (H : Hp) (C : Addr) (cl : List (Str × Addr)) (fp : List Addr), SE (X.blk s H scope (compEnvC scope cl C X.env) fp) W0 elt e) (hs : ∀ x, foldedSetIterable iter X.env x = pure x := by intro _; rfl) :
    SE X W (.ListComp elt [⟨tg, iter, ifs, 0⟩] scope pos) (lcM m p (own.map (·.2)) t e) := by
  have mt := (ht X.s_0 X.H_0 0 [] []).mono
  have me := (he X.s_0 X.H_0 0 [] []).mono
  exact ⟨mono_lcM hi.mono mt me, weakE (pe_lc (g := p.rd X.K) (tt := rdB X.K W0 t) (te := rdE X.K W0 e) hc hN hi.pi ok hg (fun s H C cl fp => (ht s H C cl fp).pts) (fun s H C cl fp => (he s H C cl fp).pe) hs) fun σ H Q q => lc_reads hi.mono mt me hp q⟩
theorem ss_setLc {own : List (Str × Nat)} {i : Nat} {y : Str} {py spos : Pos} (hc : X.calm = true) (hN : X.N.Nodup) (hy : X.N[i]? = some y) (hyl : X.env.scope.names.lookup y = some .local)
    (hsw : swapsWith (.ListComp elt [⟨tg, iter, ifs, 0⟩] scope pos) (some (.Name y py)) spos.line X.env = pure true) (hi : SI X W tg iter m) (ok : BlkOk X.N X.env.scope scope own) (hp : ∀ i ∈ p.slots, i ∈ own.map (·.2))
    (hg : ∀ (s : Shared) (H : Hp) (C : Addr) (cl : List (Str × Addr)) (fp : List Addr), SG (X.blk s H scope (compEnvC scope cl C X.env) fp) tg p) (ht : ∀ (s : Shared) (H : Hp) (C : Addr) (cl : List (Str × Addr)) (fp : List Addr), STs (X.blk s H scope (compEnvC scope cl C X.env) fp) ifs t)
    (he : ∀ (s : Shared) (H : Hp) (C : Addr) (cl : List (Str × Addr)) (fp : List Addr), SE (X.blk s H scope (compEnvC scope cl C X.env) fp) W0 elt e) (hs : ∀ x, foldedSetIterable iter X.env x = pure x := by intro _; rfl) :
    SS X W (.Assign [.Name y py] (.ListComp elt [⟨tg, iter, ifs, 0⟩] scope pos) spos) (setS i (ownM (lcM m p (own.map (·.2)) t e))) := by
  have mt := (ht X.s_0 X.H_0 0 [] []).mono
  have me := (he X.s_0 X.H_0 0 [] []).mono
  have mo := mono_own (mono_lcM (p := p) (vs := own.map (·.2)) hi.mono mt me)
  refine ⟨mono_run mo fun d σ h => ?_, weakS (ps_setLc (g := p.rd X.K) (tt := rdB X.K W0 t) (te := rdE X.K W0 e) hc hN hy hyl hsw hi.pi ok hg (fun s H C cl fp => (ht s H C cl fp).pts) (fun s H C cl fp => (he s H C cl fp).pe) hs) fun E σ H q => ?_⟩
  · by_cases z : d.st = true
    · rw [if_pos z]; exact MonoH.refl h
    · rw [if_neg z]; trivial
  · refine lc_reads (W := W) hi.mono mt me hp ?_
    have q2 := rd_mono (rdS_run mo q) fun v H1 (z : ∃ ρ σm h d, RS X.K ρ σm h σ H1 ∧ RT X.K ρ h H1 d v ∧ PostS X.K W ρ h H1 (if d.st = true then .nx (σm.set i (some d)) h else .stuck) E) => (by
      obtain ⟨ρ, σm, h, d, r, t, p⟩ := z
      obtain ⟨c, p⟩ := postS_if p
      exact p ρ _ H1 Step.refl (r.set (t.rdS c)) : E.nx (σ.set i (some v)) H1)
    exact rd_unown (mono_lcM hi.mono mt me) q2
end
end Dn
end
noncomputable section
set_option Elab.async false
set_option linter.all false
set_option maxRecDepth 100000
set_option maxHeartbeats 4000000
namespace Dn
open PySem PySem.Spec PyProof.Rows L2
def liveOf (d : D) (ds : List D) : List (Nat × List D) := match d with
  | .ref n => [(n, ds)]
  | _ => []
section
variable {K : PySem.W.Frag} {ρ : Nat → Addr} {h : MH} {H : Hp} {d : D} {v : V} {ds : List D}
theorem list_at (r : RH K ρ h H) (t : RT K ρ h H d v) (e : lstOf h d = some ds) : ∃ p, v = .ref p ∧ ∀ {ρ' : Nat → Addr} {h' : MH} {H' : Hp}, Step ρ h H ρ' h' H' → MonoH h h' → RH K ρ' h' H' → (∀ q ∈ liveOf d ds, lstOf h' (.ref q.1) = some q.2) →
    ∃ xs, SqL K H' p xs ∧ RDs K ρ' h'.length H' ds xs := by
  cases d with
  | tl es =>
    obtain ⟨p, xs, rfl, a, b, ne⟩ := t
    cases e
    exact ⟨p, rfl, fun s m r' _ => ⟨xs, SqL.of (s.fr p _ a ne), b.grow (s.grow r m)⟩⟩
  | ref n =>
    cases t with
    | ref _ hn =>
      refine ⟨ρ n, rfl, fun {ρ' h' H'} s m r' ok => ?_⟩
      have z := lst_ref r' (ok (n, ds) (by simp [liveOf]))
      rw [s.ag n hn] at z
      exact z
  | _ => cases e
theorem tup_at (r : RH K ρ h H) (t : RT K ρ h H (.tup ds) v) : ∃ p xs, v = .ref p ∧ ∀ {ρ' : Nat → Addr} {h' : MH} {H' : Hp}, Step ρ h H ρ' h' H' → MonoH h h' → RH K ρ' h' H' → SqT K H' p xs ∧ RDs K ρ' h'.length H' ds xs := by
  cases t with
  | @tup a xs _ s q => exact ⟨a, xs, rfl, fun st m r' => ⟨sqT_step r st s, q.grow (st.grow r m)⟩⟩
end
def srcV (d : D) (h : MH) : R Src := match d with
  | .tup ds => .ok ⟨ds, []⟩ h
  | .str l => .ok ⟨l.map fun c => .str [c], []⟩ h
  | d => match lstOf h d with
    | some ds => .ok ⟨ds, liveOf d ds⟩ h
    | none => .stuck
theorem mono_srcV (d : D) (h : MH) : MonoR h (srcV d h) := by
  unfold srcV
  split
  · exact MonoH.refl h
  · exact MonoH.refl h
  · split
    · exact MonoH.refl h
    · trivial
section
variable {K : PySem.W.Frag} {ρ : Nat → Addr} {h : MH} {H : Hp} {v : V}
theorem walks_tup {ds : List D} (r : RH K ρ h H) (t : RT K ρ h H (.tup ds) v) : ∃ a, v = .ref a ∧ (∃ xs, SqT K H a xs) ∧ Walks K ⟨ds, []⟩ (Itt K a) ρ h H := by
  obtain ⟨a, xs, rfl, q⟩ := tup_at r t
  refine ⟨a, rfl, ⟨xs, (q Step.refl (MonoH.refl h) r).1⟩, fun {ρ' h' H'} s m r' _ i d e => ?_, fun {ρ' h' H'} s m r' _ i hi => ?_⟩
  · obtain ⟨q1, q2⟩ := q s m r'
    obtain ⟨x, ex, rx⟩ := q2.get e
    exact ⟨⟨xs, x, q1, ex⟩, fun x' H'' ⟨e1, e2⟩ => by
      subst e1
      have e3 := e2 xs q1
      rw [ex] at e3
      cases e3
      exact ⟨fun _ _ z => z, rx⟩⟩
  · obtain ⟨q1, q2⟩ := q s m r'
    exact ⟨xs, q1, by rw [q2.length]; exact hi⟩
theorem walks_lst {d : D} {ds : List D} (r : RH K ρ h H) (t : RT K ρ h H d v) (e : lstOf h d = some ds) : ∃ a, v = .ref a ∧ (∃ xs, SqL K H a xs) ∧ Walks K ⟨ds, liveOf d ds⟩ (Itl K a) ρ h H := by
  obtain ⟨a, ev, q⟩ := list_at r t e
  obtain ⟨a', xs, ev', b, _⟩ := lst_val r t e
  have : a' = a := by rw [ev] at ev'; cases ev'; rfl
  subst this
  refine ⟨a', ev, ⟨xs, b⟩, fun {ρ' h' H'} s m r' ok i d e => ?_, fun {ρ' h' H'} s m r' ok i hi => ?_⟩
  · obtain ⟨ys, q1, q2⟩ := q s m r' ok
    obtain ⟨x, ex, rx⟩ := q2.get e
    exact ⟨⟨ys, x, q1, ex⟩, fun x' H'' ⟨e1, e2⟩ => by
      subst e1
      have e3 := e2 ys q1
      rw [ex] at e3
      cases e3
      exact ⟨fun _ _ z => z, rx⟩⟩
  · obtain ⟨ys, q1, q2⟩ := q s m r' ok
    exact ⟨ys, q1, by rw [q2.length]; exact hi⟩
theorem okS_get {l : List Nat} {i c : Nat} (h : okS l = true) (e : l[i]? = some c) : okS [c] = true := by
  have z := List.all_eq_true.mp h c (List.mem_of_getElem? e)
  simp only [okS, List.all_cons, List.all_nil, Bool.and_true]
  exact z
theorem walks_str {l : List Nat} (r : RH K ρ h H) (t : RT K ρ h H (.str l) v) : v = .str (mx l) ∧ Walks K ⟨l.map fun c => .str [c], []⟩ (Its (mx l)) ρ h H := by
  cases t with
  | str _ ok =>
    refine ⟨rfl, fun {ρ' h' H'} s m r' _ i d e => ?_, fun {ρ' h' H'} s m r' _ i hi => ?_⟩
    · rw [List.getElem?_map] at e
      cases ec : l[i]? with
      | none => rw [ec] at e; cases e
      | some c =>
        rw [ec] at e
        cases e
        refine ⟨by show i < l.toArray.size; simpa using (List.getElem?_eq_some_iff.mp ec).1, fun x H'' ⟨e1, c', e2, e3⟩ => ?_⟩
        subst e1 e3
        have e4 : l[i]? = some c' := by simpa [mx] using e2
        rw [ec] at e4
        cases e4
        exact ⟨fun _ _ z => z, RD.str [c] (okS_get ok ec)⟩
    · show l.toArray.size ≤ i
      simpa using hi
theorem walks_range {lo : Int} {n : Nat} : Walks K ⟨(List.range n).map fun i : Nat => .int (lo + (i : Int)), []⟩ (Itr lo n) ρ h H := by
  refine ⟨fun {ρ' h' H'} s m r' _ i d e => ?_, fun {ρ' h' H'} s m r' _ i hi => ?_⟩
  · rw [List.getElem?_map] at e
    by_cases hi : i < n
    · rw [List.getElem?_range hi] at e
      cases e
      exact ⟨hi, fun x H'' ⟨e1, e2⟩ => by subst e1 e2; exact ⟨fun _ _ z => z, RD.int _⟩⟩
    · rw [List.getElem?_eq_none (by simpa using hi)] at e
      cases e
  · show n ≤ i
    simpa using hi
end
section
variable {X : Cx} {W : WX} {tg e : Expr} {es : List Expr} {m : M D} {ms : M (List D)} {p pos : Pos}
theorem si_val (ha : SE X W e m) : SI X W tg e (op1 srcV m) := ⟨mono_op1 ha.mono mono_srcV, weakI (PI_or (pi_list ha.pe) (PI_or (pi_tup ha.pe) (pi_str ha.pe))) fun σ H Rr q => by
  obtain ⟨ρ, σm, h, r, pq⟩ := q
  dsimp only [op1, bindM] at pq
  cases em : m σm h with
  | ok d h1 =>
    rw [em] at pq
    have mh := ha.mono.ok em
    have lst : ∀ ds, lstOf h1 d = some ds → (∀ ρ' J H', Step ρ h H ρ' h1 H' → RH X.K ρ' h1 H' → Walks X.K ⟨ds, liveOf d ds⟩ J ρ' h1 H' → Rr J H') → iList X.K (rdE X.K W m) σ H Rr := fun ds el k => by
      refine ⟨ρ, σm, h, r, ?_⟩
      rw [em]
      intro ρ1 v H1 s1 r1 t1 _
      obtain ⟨a, e1, e2, wk⟩ := walks_lst r1 t1 el
      exact ⟨a, e1, e2, k ρ1 _ H1 s1 r1 wk⟩
    cases d with
    | tup ds =>
      refine .inr (.inl ⟨ρ, σm, h, r, ?_⟩)
      rw [em]
      intro ρ1 v H1 s1 r1 t1 _
      obtain ⟨a, e1, e2, wk⟩ := walks_tup r1 t1
      exact ⟨a, e1, e2, pq ρ1 _ H1 s1 r1 wk⟩
    | str l =>
      refine .inr (.inr ⟨ρ, σm, h, r, ?_⟩)
      rw [em]
      intro ρ1 v H1 s1 r1 t1 _
      obtain ⟨e1, wk⟩ := walks_str r1 t1
      exact ⟨_, e1, pq ρ1 _ H1 s1 r1 wk⟩
    | tl ds => exact .inl (lst ds rfl pq)
    | ref n =>
      have pq2 : match (match lstOf h1 (.ref n) with | some ds => R.ok (⟨ds, liveOf (.ref n) ds⟩ : Src) h1 | none => .stuck) with
        | .ok src h' => ∀ ρ' J H', Step ρ h H ρ' h' H' → RH X.K ρ' h' H' → Walks X.K src J ρ' h' H' → Rr J H'
        | .exc x h' => ∀ ρ' cls dx H', Step ρ h H ρ' h' H' → RH X.K ρ' h' H' → RX X.K ρ' h'.length H' x cls dx → W cls dx σ H'
        | .stuck => False := pq
      cases el : lstOf h1 (.ref n) with
      | none => rw [el] at pq2; exact pq2.elim
      | some ds => rw [el] at pq2; exact .inl (lst ds el pq2)
    | _ => exact (show False from pq).elim
  | exc x h1 =>
    rw [em] at pq
    refine .inl ⟨ρ, σm, h, r, ?_⟩
    rw [em]
    exact pq
  | stuck => rw [em] at pq; exact pq.elim⟩
def range1V (ds : List D) (h : MH) : R Src := match ds with
  | [.int j] => if -(2 ^ 62) ≤ j ∧ j < 2 ^ 62 then .ok ⟨(List.range j.toNat).map fun i : Nat => .int (0 + (i : Int)), []⟩ h else .stuck
  | _ => .stuck
def range2V (ds : List D) (h : MH) : R Src := match ds with
  | [.int i, .int j] => if (-(2 ^ 62) ≤ i ∧ i < 2 ^ 62) ∧ -(2 ^ 62) ≤ j ∧ j < 2 ^ 62 then .ok ⟨(List.range (j - i).toNat).map fun k : Nat => .int (i + (k : Int)), []⟩ h else .stuck
  | _ => .stuck
def enumV (ds : List D) (h : MH) : R Src := match ds with
  | [d] => match lstOf h d with
    | some xs => .ok ⟨xs.mapIdx fun i x => .tup [.int (i : Int), x], liveOf d xs⟩ h
    | none => .stuck
  | _ => .stuck
def zipV (ds : List D) (h : MH) : R Src := match ds with
  | [.tup xs, .tup ys] => .ok ⟨(xs.zip ys).map fun p => .tup [p.1, p.2], []⟩ h
  | [a, b] => match lstOf h a, lstOf h b with
    | some xs, some ys => .ok ⟨(xs.zip ys).map fun p => .tup [p.1, p.2], liveOf a xs ++ liveOf b ys⟩ h
    | _, _ => .stuck
  | _ => .stuck
def srcA (g : List D → MH → R Src) (ms : M (List D)) : M Src := bindM ms fun ds _ h => g ds h
theorem mono_range1V (ds : List D) (h : MH) : MonoR h (range1V ds h) := by
  unfold range1V
  split
  · exact mono_if (MonoH.refl h)
  · trivial
theorem mono_range2V (ds : List D) (h : MH) : MonoR h (range2V ds h) := by
  unfold range2V
  split
  · exact mono_if (MonoH.refl h)
  · trivial
theorem mono_enumV (ds : List D) (h : MH) : MonoR h (enumV ds h) := by
  unfold enumV
  split
  · split
    · exact MonoH.refl h
    · trivial
  · trivial
theorem mono_zipV (ds : List D) (h : MH) : MonoR h (zipV ds h) := by
  unfold zipV
  split
  · exact MonoH.refl h
  · split
    · exact MonoH.refl h
    · trivial
  · trivial
theorem rdI_args {K : PySem.W.Frag} {g : List D → MH → R Src} {σ : L2.St} {H : Hp} {Rr : It → Hp → Prop} {k : List V → Hp → Prop} (mm : Mono ms) (q : rdI K W (srcA g ms) σ H Rr)
    (hk : ∀ ρ h H1 ds vs, RH K ρ h H1 → RTs K ρ h H1 ds vs → (match g ds h with
      | .ok src h' => ∀ ρ' J H', Step ρ h H1 ρ' h' H' → RH K ρ' h' H' → Walks K src J ρ' h' H' → Rr J H'
      | .exc x h' => ∀ ρ' cls dx H', Step ρ h H1 ρ' h' H' → RH K ρ' h' H' → RX K ρ' h'.length H' x cls dx → W cls dx σ H'
      | .stuck => False) → k vs H1) : rdT K W ms σ H k := by
  obtain ⟨ρ, σm, h, r, pq⟩ := q
  refine ⟨ρ, σm, h, r, ?_⟩
  dsimp only [srcA, bindM] at pq
  cases em : ms σm h with
  | ok ds h1 =>
    rw [em] at pq
    dsimp only at pq
    have mh := mm.ok em
    intro ρ1 vs H1 s1 r1 t1
    refine hk ρ1 h1 H1 ds vs r1 t1 ?_
    cases eg : g ds h1 with
    | ok src h2 => rw [eg] at pq; exact fun ρ' J H' s => pq ρ' J H' (s1.trans r1 mh s)
    | exc x h2 => rw [eg] at pq; exact fun ρ' c d H' s => pq ρ' c d H' (s1.trans r1 mh s)
    | stuck => rw [eg] at pq; exact pq
  | exc x h1 => rw [em] at pq; exact pq
  | stuck => rw [em] at pq; exact pq
theorem RTs.one {K : PySem.W.Frag} {ρ : Nat → Addr} {h : MH} {H : Hp} {d : D} {vs : List V} (t : RTs K ρ h H [d] vs) : ∃ v, vs = [v] ∧ RT K ρ h H d v := by
  cases t with
  | cons a t => cases t; exact ⟨_, rfl, a⟩
theorem RTs.two {K : PySem.W.Frag} {ρ : Nat → Addr} {h : MH} {H : Hp} {d d2 : D} {vs : List V} (t : RTs K ρ h H [d, d2] vs) : ∃ v v2, vs = [v, v2] ∧ RT K ρ h H d v ∧ RT K ρ h H d2 v2 := by
  cases t with
  | cons a t =>
    obtain ⟨v2, rfl, b⟩ := t.one
    exact ⟨_, v2, rfl, a, b⟩
theorem len_one {K : PySem.W.Frag} {ρ : Nat → Addr} {h : MH} {H : Hp} {ds : List D} {v : V} (t : RTs K ρ h H ds [v]) : ∃ d, ds = [d] := by
  cases t with
  | cons a t => cases t; exact ⟨_, rfl⟩
def SrcP (K : PySem.W.Frag) (W : WX) (σ : L2.St) (ρ : Nat → Addr) (h : MH) (H : Hp) (Rr : It → Hp → Prop) (r : R Src) : Prop := match r with
  | .ok src h' => ∀ ρ' J H', Step ρ h H ρ' h' H' → RH K ρ' h' H' → Walks K src J ρ' h' H' → Rr J H'
  | .exc x h' => ∀ ρ' cls dx H', Step ρ h H ρ' h' H' → RH K ρ' h' H' → RX K ρ' h'.length H' x cls dx → W cls dx σ H'
  | .stuck => False
theorem srcP_if {K : PySem.W.Frag} {σ : L2.St} {ρ : Nat → Addr} {h : MH} {H : Hp} {Rr : It → Hp → Prop} {c : Prop} [Decidable c] {r : R Src} (p : SrcP K W σ ρ h H Rr (if c then r else .stuck)) : c ∧ SrcP K W σ ρ h H Rr r := by
  by_cases hc : c
  · rw [if_pos hc] at p; exact ⟨hc, p⟩
  · rw [if_neg hc] at p; exact p.elim
theorem si_range1 (ha : ST X W [e] ms) (hg : Gl X "range") (hm : X.mg "range" = none) (hs : starEach [e] X.env = [(false, eval e X.env)] := by rfl) : SI X W tg (.Call (.Name "range" p) [e] [] pos) (srcA range1V ms) :=
  ⟨ha.mono.bind fun ds _ h => mono_range1V ds h, weakI (pi_range1 hg hm ha.pa hs) fun σ H Rr q => rdI_args ha.mono q fun ρ h H1 ds vs r t k => by
    have k' : SrcP X.K W σ ρ h H1 Rr (range1V ds h) := k
    unfold range1V at k'
    split at k'
    · obtain ⟨v, rfl, a⟩ := t.one
      cases a
      obtain ⟨c, k'⟩ := srcP_if k'
      exact ⟨_, rfl, c.1, c.2, k' ρ _ H1 Step.refl r walks_range⟩
    · exact k'.elim⟩
theorem si_range2 {e2 : Expr} (ha : ST X W [e, e2] ms) (hg : Gl X "range") (hm : X.mg "range" = none) (hs : starEach [e, e2] X.env = [(false, eval e X.env), (false, eval e2 X.env)] := by rfl) (hs2 : starEach [e2] X.env = [(false, eval e2 X.env)] := by rfl) :
    SI X W tg (.Call (.Name "range" p) [e, e2] [] pos) (srcA range2V ms) :=
  ⟨ha.mono.bind fun ds _ h => mono_range2V ds h, weakI (pi_range2 hg hm ha.pa hs hs2) fun σ H Rr q => rdI_args ha.mono q fun ρ h H1 ds vs r t k => by
    have k' : SrcP X.K W σ ρ h H1 Rr (range2V ds h) := k
    unfold range2V at k'
    split at k'
    · obtain ⟨v, v2, rfl, a, b⟩ := t.two
      cases a
      cases b
      obtain ⟨c, k'⟩ := srcP_if k'
      exact ⟨_, _, rfl, ⟨c.1.1, c.1.2, c.2.1, c.2.2⟩, k' ρ _ H1 Step.refl r walks_range⟩
    · exact k'.elim⟩
theorem si_enum {elts : List Expr} {kk : Nat} {tpos : Pos} (ha : ST X W [e] ms) (hg : Gl X "enumerate") (hm : X.mg "enumerate" = none) (hs : starEach [e] X.env = [(false, eval e X.env)] := by rfl) :
    SI X W (.Tuple elts kk tpos) (.Call (.Name "enumerate" p) [e] [] pos) (srcA enumV ms) :=
  ⟨ha.mono.bind fun ds _ h => mono_enumV ds h, weakI (pi_enum hg hm ha.pa hs) fun σ H Rr q => rdI_args ha.mono q fun ρ h H1 ds vs r t k => by
    have k' : SrcP X.K W σ ρ h H1 Rr (enumV ds h) := k
    unfold enumV at k'
    split at k'
    · obtain ⟨v, rfl, a⟩ := t.one
      split at k'
      · rename_i xs el
        obtain ⟨a', zs, ev, b, _⟩ := lst_val r a el
        obtain ⟨a2, ev2, q⟩ := list_at r a el
        rw [ev] at ev2
        cases ev2
        subst ev
        refine ⟨a', zs, rfl, b, k' ρ _ H1 Step.refl r ⟨fun {ρ' h' H'} s m r' ok i d e => ?_, fun {ρ' h' H'} s m r' ok i hi => ?_⟩⟩
        · obtain ⟨ys, q1, q2⟩ := q s m r' ok
          rw [List.getElem?_mapIdx] at e
          cases ex : xs[i]? with
          | none => rw [ex] at e; cases e
          | some dx =>
            rw [ex] at e
            cases e
            obtain ⟨x, ey, rx⟩ := q2.get ex
            refine ⟨⟨ys, x, q1, ey⟩, fun v H'' ⟨T, x', e1, e2, e3, e4⟩ => ?_⟩
            have e5 := e4 ys q1
            rw [ey] at e5
            cases e5
            subst e1 e3
            have kp := keep_new (o := HO.tup [.int (i : Nat), x]) e2
            exact ⟨kp, .tup (SqT.of upd_same) (.cons (.int _) (.cons (rx.grow (grow_keep kp)) .nil))⟩
        · obtain ⟨ys, q1, q2⟩ := q s m r' ok
          exact ⟨ys, q1, by rw [q2.length]; simpa using hi⟩
      · exact k'.elim
    · exact k'.elim⟩
theorem si_zip {elts : List Expr} {kk : Nat} {tpos : Pos} {e2 : Expr} (ha : ST X W [e, e2] ms) (hg : Gl X "zip") (hm : X.mg "zip" = none)
    (hs : starEach [e, e2] X.env = (false, eval e X.env) :: starEach [e2] X.env := by rfl) (hpl : (backTo pos (starEach [e2] X.env)).any (·.1) = false := by rfl) :
    SI X W (.Tuple elts kk tpos) (.Call (.Name "zip" p) [e, e2] [] pos) (srcA zipV ms) :=
  ⟨ha.mono.bind fun ds _ h => mono_zipV ds h, weakI (RZ.pi_zipA hg hm ha.pa hs hpl) fun σ H Rr q => rdI_args ha.mono q fun ρ h H1 ds vs r t k => by
    have k' : SrcP X.K W σ ρ h H1 Rr (zipV ds h) := k
    unfold zipV at k'
    split at k'
    · rename_i xs ys
      obtain ⟨v, v2, rfl, a, b⟩ := t.two
      obtain ⟨a1, us, rfl, q1⟩ := tup_at r a
      obtain ⟨a2, ws, rfl, q2⟩ := tup_at r b
      refine ⟨a1, a2, us, ws, rfl, .inr ⟨(q1 Step.refl (MonoH.refl h) r).1, (q2 Step.refl (MonoH.refl h) r).1, k' ρ _ H1 Step.refl r ⟨fun {ρ' h' H'} s m r' ok i d e => ?_, fun {ρ' h' H'} s m r' ok i hi => ?_⟩⟩⟩
      · obtain ⟨s1, g1⟩ := q1 s m r'
        obtain ⟨s2, g2⟩ := q2 s m r'
        rw [List.getElem?_map] at e
        cases ez : (xs.zip ys)[i]? with
        | none => rw [ez] at e; cases e
        | some pr =>
          rw [ez] at e
          cases e
          obtain ⟨x1, x2⟩ := List.getElem?_zip_eq_some.mp ez
          obtain ⟨u, eu, ru⟩ := g1.get x1
          obtain ⟨w, ew, rw'⟩ := g2.get x2
          refine ⟨⟨us, ws, u, w, s1, s2, eu, ew⟩, fun v H'' ⟨T, x, y, e1, e2, e3, e4, e5⟩ => ?_⟩
          have e6 := e4 us s1
          have e7 := e5 ws s2
          rw [eu] at e6
          rw [ew] at e7
          cases e6
          cases e7
          subst e1 e3
          have kp := keep_new (o := HO.tup [u, w]) e2
          exact ⟨kp, .tup (SqT.of upd_same) (.cons (ru.grow (grow_keep kp)) (.cons (rw'.grow (grow_keep kp)) .nil))⟩
      · obtain ⟨s1, g1⟩ := q1 s m r'
        obtain ⟨s2, g2⟩ := q2 s m r'
        refine ⟨us, ws, s1, s2, ?_⟩
        have l1 := g1.length
        have l2 := g2.length
        rw [List.length_map, List.length_zip] at hi
        omega
    · split at k'
      · rename_i xs ys el1 el2
        obtain ⟨v, v2, rfl, a, b⟩ := t.two
        obtain ⟨a1, ev1, q1⟩ := list_at r a el1
        obtain ⟨a2, ev2, q2⟩ := list_at r b el2
        subst ev1 ev2
        obtain ⟨b1, us, e1, s1, _⟩ := lst_val r a el1
        obtain ⟨b2, ws, e2, s2, _⟩ := lst_val r b el2
        cases e1
        cases e2
        refine ⟨a1, a2, us, ws, rfl, .inl ⟨s1, s2, k' ρ _ H1 Step.refl r ⟨fun {ρ' h' H'} s m r' ok i d e => ?_, fun {ρ' h' H'} s m r' ok i hi => ?_⟩⟩⟩
        · obtain ⟨us, s1, g1⟩ := q1 s m r' fun z hz => ok z (List.mem_append_left _ hz)
          obtain ⟨ws, s2, g2⟩ := q2 s m r' fun z hz => ok z (List.mem_append_right _ hz)
          rw [List.getElem?_map] at e
          cases ez : (xs.zip ys)[i]? with
          | none => rw [ez] at e; cases e
          | some pr =>
            rw [ez] at e
            cases e
            obtain ⟨x1, x2⟩ := List.getElem?_zip_eq_some.mp ez
            obtain ⟨u, eu, ru⟩ := g1.get x1
            obtain ⟨w, ew, rw'⟩ := g2.get x2
            refine ⟨⟨us, ws, u, w, s1, s2, eu, ew⟩, fun v H'' ⟨T, x, y, e1, e2, e3, e4, e5⟩ => ?_⟩
            have e6 := e4 us s1
            have e7 := e5 ws s2
            rw [eu] at e6
            rw [ew] at e7
            cases e6
            cases e7
            subst e1 e3
            have kp := keep_new (o := HO.tup [u, w]) e2
            exact ⟨kp, .tup (SqT.of upd_same) (.cons (ru.grow (grow_keep kp)) (.cons (rw'.grow (grow_keep kp)) .nil))⟩
        · obtain ⟨us, s1, g1⟩ := q1 s m r' fun z hz => ok z (List.mem_append_left _ hz)
          obtain ⟨ws, s2, g2⟩ := q2 s m r' fun z hz => ok z (List.mem_append_right _ hz)
          refine ⟨us, ws, s1, s2, ?_⟩
          have l1 := g1.length
          have l2 := g2.length
          rw [List.length_map, List.length_zip] at hi
          omega
      · exact k'.elim
    · exact k'.elim⟩
end
end Dn
end
noncomputable section
set_option Elab.async false
set_option linter.all false
set_option maxRecDepth 100000
set_option maxHeartbeats 4000000
namespace Dn
open PySem PySem.Spec PyProof.Rows L2
theorem mx_len (l : List Nat) : (mx l).length = l.length := by simp [mx, Str.length]
theorem mx_cps (l : List Nat) : (mx l).cps.toList = l := by simp [mx]
theorem mx_inj {a b : List Nat} : mx a = mx b ↔ a = b := by
  constructor
  · intro e
    have := congrArg (fun z : Str => z.cps.toList) e
    simpa [mx] using this
  · rintro rfl; rfl
theorem mx_append (a b : List Nat) : mx a ++ mx b = mx (a ++ b) := by
  show (⟨(mx a).cps ++ (mx b).cps⟩ : Str) = mx (a ++ b)
  simp [mx]
theorem okS_append {a b : List Nat} : okS (a ++ b) = (okS a && okS b) := by simp [okS, List.all_append]
theorem okS_sub {a b : List Nat} (h : okS b = true) (s : ∀ x ∈ a, x ∈ b) : okS a = true := List.all_eq_true.mpr fun x hx => List.all_eq_true.mp h x (s x hx)
section
variable {K : PySem.W.Frag} {ρ : Nat → Addr} {N : Nat} {H : Hp}
theorem RDs.take (n : Nat) : ∀ {ds : List D} {vs : List V}, RDs K ρ N H ds vs → RDs K ρ N H (ds.take n) (vs.take n) := by
  induction n with
  | zero => intro ds vs _; exact .nil
  | succ n ih =>
    intro ds vs q
    cases q with
    | nil => exact .nil
    | cons a t => exact .cons a (ih t)
theorem RDs.drop (n : Nat) : ∀ {ds : List D} {vs : List V}, RDs K ρ N H ds vs → RDs K ρ N H (ds.drop n) (vs.drop n) := by
  induction n with
  | zero => intro ds vs q; exact q
  | succ n ih =>
    intro ds vs q
    cases q with
    | nil => exact .nil
    | cons a t => exact ih t
theorem RDs.nil_iff {ds : List D} {vs : List V} (q : RDs K ρ N H ds vs) : vs = [] ↔ ds = [] := by cases q <;> simp
theorem RDs.set {d : D} {v : V} (r : RD K ρ N H d v) : ∀ {ds : List D} {vs : List V} (i : Nat), RDs K ρ N H ds vs → RDs K ρ N H (ds.set i d) (vs.set i v)
  | _, _, _, .nil => .nil
  | _, _, 0, .cons _ t => .cons r t
  | _, _, i + 1, .cons a t => .cons a (RDs.set r i t)
theorem RDs.at {ds : List D} {vs : List V} {i : Int} {d : D} (q : RDs K ρ N H ds vs) (e : atI ds i = some d) : ∃ v, atI vs i = some v ∧ RD K ρ N H d v := by
  unfold atI at e ⊢
  rw [q.length]
  cases x : ixN ds.length i with
  | none => rw [x] at e; cases e
  | some j =>
    rw [x] at e
    exact q.get e
end
def lstW (h : MH) : D → Option (List D)
  | .tl ds => some ds
  | .ref n => match h[n]? with
    | some (.lst ds) => some ds
    | _ => none
  | _ => none
theorem lstW_val {K : PySem.W.Frag} {ρ : Nat → Addr} {h : MH} {H : Hp} {d : D} {v : V} {ds : List D} (r : RH K ρ h H) (t : RT K ρ h H d v) (e : lstW h d = some ds) : ∃ p xs, v = .ref p ∧ H p = some (.lst xs) ∧ RDs K ρ h.length H ds xs := by
  cases d with
  | tl es =>
    obtain ⟨p, xs, rfl, a, b, _⟩ := t
    cases e
    exact ⟨p, xs, rfl, a, b⟩
  | ref n =>
    cases t
    unfold lstW at e
    cases q : h[n]? with
    | none => simp [q] at e
    | some o =>
      have z := r.obj n o q
      cases o with
      | lst es =>
        simp [q] at e
        subst e
        obtain ⟨xs, a, b⟩ := z
        exact ⟨_, xs, rfl, a, b⟩
      | _ => simp [q] at e
  | _ => cases e
def gAdd (a b : D) (h : MH) : R D := match a, b with
  | .int i, .int j => .ok (.int (i + j)) h
  | .str x, .str y => if x.length + y.length ≤ line then .ok (.str (x ++ y)) h else .stuck
  | .tup xs, .tup ys => if xs.length + ys.length ≤ line then .ok (.tup (xs ++ ys)) h else .stuck
  | a, b => match lstW h a, lstW h b with
    | some xs, some ys => if xs.length + ys.length ≤ line then .ok (.tl (xs ++ ys)) h else .stuck
    | _, _ => .stuck
def rAddA (K : PySem.W.Frag) : R2 := fun x y H Q => (rI0 (fun i j => .int (i + j)) x y H Q ∨ (∃ i j, x = .str i ∧ y = .str j ∧ i.length + j.length ≤ sizeLine ∧ Q (.str (i ++ j)) H)) ∨ rCatA K x y H Q ∨ rCat x y H Q
theorem op_addA {X : Cx} : OpR X (binaryOp .Add) (rAddA X.K) := (op_add.or op_add_str).or (op_catA.or op_cat)
theorem lift_add {K : PySem.W.Frag} : Lift2 K (rAddA K) gAdd where
  mono := fun a b h => by
    unfold gAdd
    split
    · exact MonoH.refl h
    · exact mono_if (MonoH.refl h)
    · exact mono_if (MonoH.refl h)
    · split
      · exact mono_if (MonoH.refl h)
      · trivial
  run := fun {ρ h H W a b x y Q} r ta tb p => by
    unfold gAdd at p
    split at p
    · cases ta
      cases tb
      exact .inl (.inl ⟨_, _, rfl, rfl, Post.val r p (.int _)⟩)
    · cases ta with
      | str _ o1 =>
        cases tb with
        | str _ o2 =>
          obtain ⟨c, p⟩ := post_if p
          refine .inl (.inr ⟨_, _, rfl, rfl, by rw [mx_len, mx_len, ← line_eq]; exact c, ?_⟩)
          rw [mx_append]
          exact Post.val r p (.str _ (by rw [okS_append, o1, o2]; rfl))
    · cases ta with
      | @tup a1 us xs s1 q1 =>
        cases tb with
        | @tup a2 ws ys s2 q2 =>
          obtain ⟨c, p⟩ := post_if p
          refine .inr (.inl ⟨a1, a2, us, ws, rfl, rfl, s1, s2, by rw [q1.length, q2.length, ← line_eq]; exact c, fun e => ?_, fun _ e => ?_, fun _ _ n hn => ?_⟩)
          · have e1 := q1.nil_iff.mp e
            subst e1
            exact Post.val r p (.tup s2 q2)
          · have e1 := q2.nil_iff.mp e
            subst e1
            rw [List.append_nil] at p
            exact Post.val r p (.tup s1 q1)
          · exact Post.newTup r (q1.append q2) p hn
    · split at p
      · rename_i xs ys e1 e2
        obtain ⟨c, p⟩ := post_if p
        obtain ⟨p1, us, rfl, a1, q1⟩ := lstW_val r ta e1
        obtain ⟨p2, ws, rfl, a2, q2⟩ := lstW_val r tb e2
        exact .inr (.inr ⟨p1, p2, us, ws, rfl, rfl, a1, a2, by rw [q1.length, q2.length, ← line_eq]; exact c, fun n hn => Post.newLst r (q1.append q2) p hn⟩)
      · exact p.elim
def gInt2 (C : Int → Int → Prop) [∀ i j, Decidable (C i j)] (f : Int → Int → Int) (a b : D) (h : MH) : R D := match a, b with
  | .int i, .int j => if C i j then .ok (.int (f i j)) h else .stuck
  | _, _ => .stuck
theorem lift_int2 {K : PySem.W.Frag} {C : Int → Int → Prop} [∀ i j, Decidable (C i j)] {f : Int → Int → Int} : Lift2 K (rI C fun i j => .int (f i j)) (gInt2 C f) where
  mono := fun a b h => by
    unfold gInt2
    split
    · exact mono_if (MonoH.refl h)
    · trivial
  run := fun {ρ h H W a b x y Q} r ta tb p => by
    unfold gInt2 at p
    split at p
    · cases ta
      cases tb
      obtain ⟨c, p⟩ := post_if p
      exact ⟨_, _, rfl, rfl, c, Post.val r p (.int _)⟩
    · exact p.elim
def gSub : D → D → MH → R D := gInt2 (fun _ _ => True) fun i j => i - j
theorem op_subA {X : Cx} : OpR X (binaryOp .Sub) (rI (fun _ _ => True) fun i j => .int (i - j)) := fun pins s σ H x y v u Q I rx ry ⟨i, j, e1, e2, _, q⟩ => op_sub pins s σ H x y v u Q I rx ry ⟨i, j, e1, e2, q⟩
theorem lift_sub {K : PySem.W.Frag} : Lift2 K (rI (fun _ _ => True) fun i j => .int (i - j)) gSub := lift_int2
def gMod : D → D → MH → R D := gInt2 (fun _ j => j ≠ 0) fun i j => i.fmod j
theorem lift_mod {K : PySem.W.Frag} : Lift2 K (rI (fun _ j => j ≠ 0) fun i j => .int (i.fmod j)) gMod := lift_int2
instance (i j : Int) : Decidable (CDivN i j) := by unfold CDivN; infer_instance
instance (i j : Int) : Decidable (CPow i j) := by unfold CPow; infer_instance
instance (i j : Int) : Decidable (CMul i j) := by unfold CMul; infer_instance
def gDiv : D → D → MH → R D := gInt2 CDivN fun i j => i.fdiv j
theorem lift_div {K : PySem.W.Frag} : Lift2 K (rI CDivN fun i j => .int (i.fdiv j)) gDiv := lift_int2
def gPow : D → D → MH → R D := gInt2 CPow fun i j => i ^ j.toNat
theorem lift_pow {K : PySem.W.Frag} : Lift2 K (rI CPow fun i j => .int (i ^ j.toNat)) gPow := lift_int2
def gMul (a b : D) (h : MH) : R D := match a, b with
  | .int i, .int j => if CMul i j then .ok (.int (i * j)) h else .stuck
  | a, .int k => match lstW h a with
    | some xs => if (-(2 ^ 63) ≤ k ∧ k < 2 ^ 63) ∧ xs.length * k.toNat ≤ line then .ok (.tl (List.replicate k.toNat xs).flatten) h else .stuck
    | none => .stuck
  | _, _ => .stuck
theorem op_mulA {X : Cx} : OpR X (binaryOp .Mult) (fun x y H Q => rI CMul (fun i j => .int (i * j)) x y H Q ∨ rRep x y H Q) := op_mul.or op_rep
theorem RDs.rep {K : PySem.W.Frag} {ρ : Nat → Addr} {N : Nat} {H : Hp} {ds : List D} {vs : List V} (q : RDs K ρ N H ds vs) : ∀ k : Nat, RDs K ρ N H (List.replicate k ds).flatten (List.replicate k vs).flatten
  | 0 => .nil
  | k + 1 => by
    rw [List.replicate_succ, List.replicate_succ, List.flatten_cons, List.flatten_cons]
    exact q.append (q.rep k)
theorem lift_mul {K : PySem.W.Frag} : Lift2 K (fun x y H Q => rI CMul (fun i j => .int (i * j)) x y H Q ∨ rRep x y H Q) gMul where
  mono := fun a b h => by
    unfold gMul
    split
    · exact mono_if (MonoH.refl h)
    · split
      · exact mono_if (MonoH.refl h)
      · trivial
    · trivial
  run := fun {ρ h H W a b x y Q} r ta tb p => by
    unfold gMul at p
    split at p
    · cases ta
      cases tb
      obtain ⟨c, p⟩ := post_if p
      exact .inl ⟨_, _, rfl, rfl, c, Post.val r p (.int _)⟩
    · split at p
      · rename_i xs e1
        cases tb
        obtain ⟨c, p⟩ := post_if p
        obtain ⟨p1, us, rfl, a1, q1⟩ := lstW_val r ta e1
        exact .inr ⟨p1, _, us, rfl, rfl, a1, c.1.1, c.1.2, by rw [q1.length, ← line_eq]; exact c.2, fun n hn => Post.newLst r (q1.rep _) p hn⟩
      · exact p.elim
    · exact p.elim
def gNeg (a : D) (h : MH) : R D := match a with
  | .int i => .ok (.int (-i)) h
  | _ => .stuck
theorem lift_neg {K : PySem.W.Frag} : Lift1 K (rU fun i => .int (-i)) gNeg where
  mono := fun a h => by
    unfold gNeg
    split
    · exact MonoH.refl h
    · trivial
  run := fun {ρ h H W a x Q} r ta p => by
    unfold gNeg at p
    split at p
    · cases ta
      exact ⟨_, rfl, Post.val r p (.int _)⟩
    · exact p.elim
def D.isNon : D → Bool
  | .non => true
  | _ => false
def gIs (neg : Bool) (a b : D) (h : MH) : R D := match a, b with
  | .cst _, _ => .stuck
  | a, .non => .ok (.bl (if neg then !a.isNon else a.isNon)) h
  | _, _ => .stuck
theorem RT.isNon {K : PySem.W.Frag} {ρ : Nat → Addr} {h : MH} {H : Hp} {d : D} {v : V} (t : RT K ρ h H d v) (hc : ∀ u, d ≠ .cst u) : decide (v = .non) = d.isNon := by
  cases d with
  | tl ds => obtain ⟨p, xs, rfl, _⟩ := t; rfl
  | cst u => exact absurd rfl (hc u)
  | _ => cases t <;> rfl
theorem mono_is (neg : Bool) (a b : D) (h : MH) : MonoR h (gIs neg a b h) := by
  unfold gIs
  split
  · trivial
  · exact MonoH.refl h
  · trivial
theorem lift_isN {K : PySem.W.Frag} : Lift2 K (fun x y H Q => y = .non ∧ Q (.bl (decide (x = .non))) H) (gIs false) where
  mono := mono_is false
  run := fun {ρ h H W a b x y Q} r ta tb p => by
    unfold gIs at p
    split at p
    · exact p.elim
    · rename_i hc
      cases tb
      refine ⟨rfl, ?_⟩
      rw [ta.isNon fun u e => hc u e]
      exact Post.val r p (.bl _)
    · exact p.elim
theorem lift_notN {K : PySem.W.Frag} : Lift2 K (fun x y H Q => y = .non ∧ Q (.bl (!decide (x = .non))) H) (gIs true) where
  mono := mono_is true
  run := fun {ρ h H W a b x y Q} r ta tb p => by
    unfold gIs at p
    split at p
    · exact p.elim
    · rename_i hc
      cases tb
      refine ⟨rfl, ?_⟩
      rw [ta.isNon fun u e => hc u e]
      exact Post.val r p (.bl _)
    · exact p.elim
def gIx (a b : D) (h : MH) : R D := match a, b with
  | .tup xs, .int i => match atI xs i with
    | some d => .ok d h
    | none => .stuck
  | .str l, .int i => if l.length ≤ line then (match atI l i with
    | some c => .ok (.str [c]) h
    | none => .stuck) else .stuck
  | a, .int i => match lstOf h a with
    | some xs => (match atI xs i with
      | some d => .ok d h
      | none => .stuck)
    | none => .stuck
  | _, _ => .stuck
theorem lift_ix {K : PySem.W.Frag} : Lift2 K (rIx K) gIx where
  mono := fun a b h => by
    unfold gIx
    split
    · split
      · exact MonoH.refl h
      · trivial
    · split
      · split
        · exact MonoH.refl h
        · trivial
      · trivial
    · split
      · split
        · exact MonoH.refl h
        · trivial
      · trivial
    · trivial
  run := fun {ρ h H W a b x y Q} r ta tb p => by
    unfold gIx at p
    split at p
    · split at p
      · rename_i e
        cases tb
        cases ta with
        | @tup a1 us _ s1 q1 =>
          obtain ⟨v, ev, rv⟩ := q1.at e
          exact .inr (.inl ⟨a1, us, _, v, rfl, rfl, s1, ev, Post.val r p rv⟩)
      · exact p.elim
    · obtain ⟨c, p⟩ := post_if p
      split at p
      · rename_i e
        cases tb
        cases ta with
        | str _ ok =>
          refine .inr (.inr ⟨mx _, _, _, rfl, rfl, by rw [mx_len, ← line_eq]; exact c, by rw [mx_cps]; exact e, Post.val r p (.str [_] ?_)⟩)
          obtain ⟨j, _, ej, _⟩ := atI_get e
          exact okS_get ok ej
      · exact p.elim
    · split at p
      · rename_i xs e1
        split at p
        · rename_i e
          cases tb
          obtain ⟨p1, us, rfl, s1, q1⟩ := lst_val r ta e1
          obtain ⟨v, ev, rv⟩ := q1.at e
          exact .inl ⟨p1, us, _, v, rfl, rfl, s1, ev, Post.val r p rv⟩
        · exact p.elim
      · exact p.elim
    · exact p.elim
section
variable {X : Cx} {W : WX} {a b e : Expr} {ma mb me : M D} {pos p2 : Pos}
theorem se_ix (ha : SE X W a ma) (hb : SE X W b mb) (hs : PlainIx b := by exact fun _ _ => rfl) : SE X W (.Subscript a b pos) (op2 gIx ma mb) :=
  ⟨mono_op2 ha.mono hb.mono (lift_ix (K := X.K)).mono, weakE (pe_ix ix_seq ha.pe hb.pe hs) fun σ H Q q => by
    obtain ⟨ρ, σm, h, r1, p⟩ := rd_bind2 (f := fun x y => fun _ h => gIx x y h) ha.mono hb.mono q
    refine ⟨ρ, σm, h, r1, ?_⟩
    cases e : ma σm h with
    | ok d h1 =>
      rw [e] at p
      refine fun ρ1 v H1 s1 rh1 t1 f1 => ?_
      obtain ⟨ρ2, σ2, h2, r2, p2⟩ := p ρ1 v H1 s1 rh1 t1 f1
      refine ⟨ρ2, σ2, h2, r2, ?_⟩
      cases e2 : mb σ2 h2 with
      | ok d2 h3 =>
        rw [e2] at p2
        refine fun ρ3 v3 H3 s3 rh3 t3 f3 => ?_
        obtain ⟨ρ4, σ4, h4, x, y, r4, tx, ty, p4⟩ := p2 ρ3 v3 H3 s3 rh3 t3 f3
        exact lift_ix.run r4.heap tx ty p4
      | exc x h3 => rw [e2] at p2; exact p2
      | stuck => rw [e2] at p2; exact p2
    | exc x h1 => rw [e] at p; exact p
    | stuck => rw [e] at p; exact p⟩
end
end Dn
end
noncomputable section
set_option Elab.async false
set_option linter.all false
set_option maxRecDepth 100000
set_option maxHeartbeats 4000000
namespace Dn
open PySem PySem.Spec PyProof.Rows L2
mutual
def D.pure : D → Bool
  | .non => true
  | .bl _ => true
  | .int _ => true
  | .str _ => true
  | .tup ds => pureL ds
  | _ => false
def pureL : List D → Bool
  | [] => true
  | d :: ds => d.pure && pureL ds
end
mutual
def D.py : D → PyData
  | .non => .none
  | .bl b => .bool b
  | .int i => .int i
  | .str x => .str (mx x)
  | .tup ds => .tuple (pyL ds)
  | _ => .none
def pyL : List D → List PyData
  | [] => []
  | d :: ds => d.py :: pyL ds
end
theorem pyL_eq : ∀ ds : List D, pyL ds = ds.map D.py
  | [] => rfl
  | d :: ds => by rw [pyL, pyL_eq ds, List.map_cons]
theorem pureL_eq : ∀ ds : List D, pureL ds = ds.all D.pure
  | [] => rfl
  | d :: ds => by rw [pureL, pureL_eq ds, List.all_cons]
section
variable {K : PySem.W.Frag} {ρ : Nat → Addr} {N : Nat} {H : Hp}
mutual
theorem RD.dp : ∀ {d : D} {v : V}, RD K ρ N H d v → d.pure = true → Dp K H v d.py ∧ d.py.canLay0 = true
  | _, _, .non, _ => ⟨by simpa only [D.py] using Dp.non, by simp [D.py, PyData.canLay0]⟩
  | _, _, .bl b, _ => ⟨by simpa only [D.py] using Dp.bl b, by simp [D.py, PyData.canLay0]⟩
  | _, _, .int i, _ => ⟨by simpa only [D.py] using Dp.int i, by simp [D.py, PyData.canLay0]⟩
  | _, _, .str x ok, _ => ⟨by simpa only [D.py] using Dp.str (mx x), by
      simp only [D.py, PyData.canLay0]
      unfold PyData.strOk mx
      simpa [okS] using ok⟩
  | _, _, .ref n _, e => by simp [D.pure] at e
  | _, _, .cst v, e => by simp [D.pure] at e
  | _, _, @RD.tup _ _ _ _ _ xs ds s t, e => by
    have e' : pureL ds = true := by simpa only [D.pure] using e
    obtain ⟨a, b⟩ := RDs.dps t e'
    exact ⟨by simpa only [D.py] using Dp.tup s a, by simpa only [D.py, PyData.canLay0] using b⟩
theorem RDs.dps : ∀ {ds : List D} {vs : List V}, RDs K ρ N H ds vs → pureL ds = true → DpAll K H vs (pyL ds) ∧ PyData.canLayAll0 (pyL ds) = true
  | _, _, .nil, _ => ⟨by simpa only [pyL] using DpAll.nil, by simp [pyL, PyData.canLayAll0]⟩
  | _, _, @RDs.cons _ _ _ _ d _ ds _ a t, e => by
    have e' : D.pure d = true ∧ pureL ds = true := by simpa only [pureL, Bool.and_eq_true] using e
    obtain ⟨a1, a2⟩ := RD.dp a e'.1
    obtain ⟨b1, b2⟩ := RDs.dps t e'.2
    exact ⟨by simpa only [pyL] using DpAll.cons a1 b1, by simp only [pyL, PyData.canLayAll0, a2, b2, Bool.and_self]⟩
end
end
def pyOf (h : MH) (d : D) : Option PyData := if d.pure = true then some d.py else match lstOf h d with
  | some ds => if pureL ds = true then some (.list (pyL ds)) else none
  | none => none
theorem py_dp {K : PySem.W.Frag} {ρ : Nat → Addr} {h : MH} {H : Hp} {d : D} {v : V} {p : PyData} (r : RH K ρ h H) (t : RT K ρ h H d v) (e : pyOf h d = some p) : Dp K H v p ∧ p.canLay0 = true := by
  unfold pyOf at e
  by_cases c : d.pure = true
  · rw [if_pos c] at e
    cases e
    have rd : RD K ρ h.length H d v := t.rdS (by cases d <;> first | rfl | simp [D.pure] at c)
    exact rd.dp c
  · rw [if_neg c] at e
    cases el : lstOf h d with
    | none => rw [el] at e; cases e
    | some ds =>
      rw [el] at e
      by_cases c2 : pureL ds = true
      · have e' : some (PyData.list (pyL ds)) = some p := by
          rw [← e]
          exact (if_pos c2).symm
        cases e'
        obtain ⟨a, xs, rfl, b, q⟩ := lst_val r t el
        obtain ⟨q1, q2⟩ := q.dps c2
        exact ⟨.lst b q1, by simpa only [PyData.canLay0] using q2⟩
      · have e' : none = some p := by
          rw [← e]
          exact (if_neg c2).symm
        cases e'
def eqH (h : MH) (a b : D) : Option Bool := match pyOf h a, pyOf h b with
  | some p, some q => if min p.depth q.depth ≤ 60 then some (PyData.eqv p q) else none
  | _, _ => none
def gEq (neg : Bool) (a b : D) (h : MH) : R D := match eqH h a b with
  | some c => .ok (.bl (if neg then !c else c)) h
  | none => .stuck
def rEqM (K : PySem.W.Frag) (neg : Bool) : R2 := fun x y H Q => ∃ d e, Dp K H x d ∧ Dp K H y e ∧ d.canLay0 = true ∧ e.canLay0 = true ∧ min d.depth e.depth ≤ 60 ∧ Q (.bl (if neg then !PyData.eqv d e else PyData.eqv d e)) H
section
variable {X : Cx}
theorem op_eqM (hu : X.A.units + 64 < cLine) : OpR X (compareOp .Eq) (rEqM X.K false) := by
  intro pins s σ H x y v u Q I rx ry h
  obtain ⟨d, e, hd, he, sd, se, hm, q⟩ := h
  obtain ⟨as, r1⟩ := Dp.reads I d x v hd rx
  obtain ⟨bs, r2⟩ := Dp.reads I e y u he ry
  exact SeqAt.compareEq_reads r1 r2 sd se (by omega) ⟨.bl _, H, I, rfl, q⟩
theorem op_neM (hu : X.A.units + 64 < cLine) : OpR X (compareOp .NotEq) (rEqM X.K true) := by
  intro pins s σ H x y v u Q I rx ry h
  obtain ⟨d, e, hd, he, sd, se, hm, q⟩ := h
  obtain ⟨as, r1⟩ := Dp.reads I d x v hd rx
  obtain ⟨bs, r2⟩ := Dp.reads I e y u he ry
  exact SeqAt.compareNe_reads r1 r2 sd se (by omega) ⟨.bl _, H, I, rfl, q⟩
end
theorem lift_eq {K : PySem.W.Frag} {neg : Bool} : Lift2 K (rEqM K neg) (gEq neg) where
  mono := fun a b h => by
    unfold gEq
    split
    · exact MonoH.refl h
    · trivial
  run := fun {ρ h H W a b x y Q} r ta tb p => by
    unfold gEq at p
    split at p
    · rename_i c e
      unfold eqH at e
      split at e
      · rename_i p1 q1 e1 e2
        by_cases hm : min p1.depth q1.depth ≤ 60
        · rw [if_pos hm] at e
          cases e
          obtain ⟨a1, a2⟩ := py_dp r ta e1
          obtain ⟨b1, b2⟩ := py_dp r tb e2
          exact ⟨p1, q1, a1, b1, a2, b2, hm, Post.val r p (.bl _)⟩
        · rw [if_neg hm] at e; cases e
      · cases e
    · exact p.elim
def ltH (a b : D) : Option Bool := if (a.pure = true ∧ b.pure = true) ∧ (PySem.W.alike a.py b.py = true ∧ a.isNon = false) ∧ min a.py.depth b.py.depth ≤ 60 then some (PySem.W.dataLt a.py b.py) else none
def ltH' (a b : D) : Option Bool := if (a.pure = true ∧ b.pure = true) ∧ (PySem.W.alike a.py b.py = true ∧ a.isNon = false) ∧ min a.py.depth b.py.depth ≤ 60 then some (PySem.W.dataLt b.py a.py) else none
def gCmp (f : D → D → Option Bool) (neg : Bool) (a b : D) (h : MH) : R D := match f a b with
  | some c => .ok (.bl (if neg then !c else c)) h
  | none => .stuck
def rCmpM (K : PySem.W.Frag) (f : PyData → PyData → Bool) : R2 := fun x y H Q => ∃ d e, Dp K H x d ∧ Dp K H y e ∧ PySem.W.alike d e = true ∧ d ≠ .none ∧ min d.depth e.depth ≤ 60 ∧ Q (.bl (f d e)) H
section
variable {X : Cx}
theorem op_ltM (hu : X.A.units + 64 < cLine) : OpR X (compareOp .Lt) (rCmpM X.K fun d e => PySem.W.dataLt d e) := by
  intro pins s σ H x y v u Q I rx ry h
  obtain ⟨d, e, hd, he, sd, se, hm, q⟩ := h
  obtain ⟨as, r1⟩ := Dp.reads I d x v hd rx
  obtain ⟨bs, r2⟩ := Dp.reads I e y u he ry
  exact PySem.W.lt_data r1 r2 sd se (by omega) ⟨.bl _, H, I, rfl, q⟩
theorem op_gtM (hu : X.A.units + 64 < cLine) : OpR X (compareOp .Gt) (rCmpM X.K fun d e => PySem.W.dataLt e d) := by
  intro pins s σ H x y v u Q I rx ry h
  obtain ⟨d, e, hd, he, sd, se, hm, q⟩ := h
  obtain ⟨as, r1⟩ := Dp.reads I d x v hd rx
  obtain ⟨bs, r2⟩ := Dp.reads I e y u he ry
  exact PySem.W.gt_data r1 r2 sd se (by omega) ⟨.bl _, H, I, rfl, q⟩
theorem op_leM (hu : X.A.units + 64 < cLine) : OpR X (compareOp .LtE) (rCmpM X.K fun d e => !PySem.W.dataLt e d) := by
  intro pins s σ H x y v u Q I rx ry h
  obtain ⟨d, e, hd, he, sd, se, hm, q⟩ := h
  obtain ⟨as, r1⟩ := Dp.reads I d x v hd rx
  obtain ⟨bs, r2⟩ := Dp.reads I e y u he ry
  exact PySem.W.le_data r1 r2 sd se (by omega) ⟨.bl _, H, I, rfl, q⟩
theorem op_geM (hu : X.A.units + 64 < cLine) : OpR X (compareOp .GtE) (rCmpM X.K fun d e => !PySem.W.dataLt d e) := by
  intro pins s σ H x y v u Q I rx ry h
  obtain ⟨d, e, hd, he, sd, se, hm, q⟩ := h
  obtain ⟨as, r1⟩ := Dp.reads I d x v hd rx
  obtain ⟨bs, r2⟩ := Dp.reads I e y u he ry
  exact PySem.W.ge_data r1 r2 sd se (by omega) ⟨.bl _, H, I, rfl, q⟩
end
theorem D.pure_st {d : D} (c : d.pure = true) : d.st = true := by cases d <;> first | rfl | simp [D.pure] at c
theorem D.py_none {d : D} (c : d.pure = true) (n : d.isNon = false) : d.py ≠ .none := by
  cases d <;> first | (simp [D.isNon] at n; done) | (simp [D.pure] at c; done) | (simp [D.py]; done)
theorem mono_cmp (f : D → D → Option Bool) (neg : Bool) (a b : D) (h : MH) : MonoR h (gCmp f neg a b h) := by
  unfold gCmp
  split
  · exact MonoH.refl h
  · trivial
theorem lift_cmp {K : PySem.W.Frag} {f : D → D → Option Bool} {neg : Bool} {g : PyData → PyData → Bool} (hf : ∀ a b c, f a b = some c → ((a.pure = true ∧ b.pure = true) ∧ (PySem.W.alike a.py b.py = true ∧ a.isNon = false) ∧ min a.py.depth b.py.depth ≤ 60) ∧ (if neg then !c else c) = g a.py b.py) : Lift2 K (rCmpM K g) (gCmp f neg) where
  mono := mono_cmp f neg
  run := fun {ρ h H W a b x y Q} r ta tb p => by
    unfold gCmp at p
    split at p
    · rename_i c e
      obtain ⟨⟨⟨p1, p2⟩, ⟨al, nn⟩, hm⟩, ec⟩ := hf _ _ _ e
      rw [ec] at p
      exact ⟨a.py, b.py, ((ta.rdS (D.pure_st p1)).dp p1).1, ((tb.rdS (D.pure_st p2)).dp p2).1, al, D.py_none p1 nn, hm, Post.val r p (.bl _)⟩
    · exact p.elim
def gLt : D → D → MH → R D := gCmp ltH false
def gGt : D → D → MH → R D := gCmp ltH' false
def gLe : D → D → MH → R D := gCmp ltH' true
def gGe : D → D → MH → R D := gCmp ltH true
theorem lift_lt {K : PySem.W.Frag} : Lift2 K (rCmpM K fun d e => PySem.W.dataLt d e) gLt := lift_cmp fun a b c e => by
  unfold ltH at e
  split at e
  · rename_i hc; cases e; exact ⟨hc, rfl⟩
  · cases e
theorem lift_gt {K : PySem.W.Frag} : Lift2 K (rCmpM K fun d e => PySem.W.dataLt e d) gGt := lift_cmp fun a b c e => by
  unfold ltH' at e
  split at e
  · rename_i hc; cases e; exact ⟨hc, rfl⟩
  · cases e
theorem lift_le {K : PySem.W.Frag} : Lift2 K (rCmpM K fun d e => !PySem.W.dataLt e d) gLe := lift_cmp fun a b c e => by
  unfold ltH' at e
  split at e
  · rename_i hc; cases e; exact ⟨hc, rfl⟩
  · cases e
theorem lift_ge {K : PySem.W.Frag} : Lift2 K (rCmpM K fun d e => !PySem.W.dataLt d e) gGe := lift_cmp fun a b c e => by
  unfold ltH at e
  split at e
  · rename_i hc; cases e; exact ⟨hc, rfl⟩
  · cases e
def rowOf (h : MH) : D → Option (List D)
  | .tup ds => some ds
  | d => lstOf h d
def dctOf (h : MH) : D → Option (List (D × D))
  | .ref n => match h[n]? with
    | some (.dct kvs) => some kvs
    | _ => none
  | _ => none
def keyB (k k' : D) : Bool := match keyD k, keyD k' with
  | some a, some b => decide (a = b)
  | _, _ => false
def lookD (k : D) : List (D × D) → Option D
  | [] => none
  | (k', v) :: r => if keyB k' k = true then some v else lookD k r
def inH (h : MH) (x s : D) : Option Bool := match x, s with
  | .str [c], .str t => some (decide (c ∈ t))
  | x, s => match rowOf h s with
    | some ds => if (x.pure = true ∧ pureL ds = true) ∧ min (PyData.depthAll (pyL ds)) x.py.depth ≤ 60 then some ((pyL ds).any fun y => PyData.eqv y x.py) else none
    | none => match dctOf h s with
      | some kvs => if (keyD x).isSome = true then some (lookD x kvs).isSome else none
      | none => none
def gIn (neg : Bool) (x s : D) (h : MH) : R D := match inH h x s with
  | some c => .ok (.bl (if neg then !c else c)) h
  | none => .stuck
def rInM (K : PySem.W.Frag) (neg : Bool) : R2 := fun x y H Q =>
  (∃ (c : Nat) (z : Str), x = .str ⟨#[c]⟩ ∧ y = .str z ∧ Q (.bl (if neg then !decide (c ∈ z.cps.toList) else decide (c ∈ z.cps.toList))) H) ∨
  (∃ d ds, Dp K H x d ∧ (Dp K H y (.list ds) ∨ Dp K H y (.tuple ds)) ∧ PyData.canLayAll0 ds = true ∧ d.canLay0 = true ∧ min (PyData.depthAll ds) d.depth ≤ 60 ∧ Q (.bl (if neg then !(ds.any fun z => PyData.eqv z d) else ds.any fun z => PyData.eqv z d)) H) ∨
  (∃ a o, y = .ref a ∧ DGet H a x o ∧ Q (.bl (if neg then !o.isSome else o.isSome)) H)
section
variable {X : Cx}
theorem op_inM (hu : X.A.units + 65 < cLine) : OpR X (compareOp .In) (rInM X.K false) := by
  intro pins s σ H x y v u Q I rx ry h
  rcases h with h | ⟨d, ds, hd, hl, sl, sd, hm, q⟩ | ⟨a, o, rfl, g, q⟩
  · exact op_in_sign pins s σ H x y v u Q I rx ry h
  · obtain ⟨as, r1⟩ := Dp.reads I d x v hd rx
    rcases hl with hl | hl
    · obtain ⟨bs, r2⟩ := Dp.reads I _ y u hl ry
      exact SeqAt.in_list_reads r2 r1 sl sd (by omega) ⟨.bl _, H, I, rfl, q⟩
    · obtain ⟨bs, r2⟩ := Dp.reads I _ y u hl ry
      exact SeqAt.in_tuple_reads r2 r1 sl sd (by omega) ⟨.bl _, H, I, rfl, q⟩
  · obtain rfl : u = Value.ref a := ry
    exact d_in (by omega) I g rx fun s3 I3 => ⟨.bl o.isSome, H, I3, rfl, q⟩
theorem op_notInM (hu : X.A.units + 65 < cLine) : OpR X (compareOp .NotIn) (rInM X.K true) := by
  intro pins s σ H x y v u Q I rx ry h
  rcases h with h | ⟨d, ds, hd, hl, sl, sd, hm, q⟩ | ⟨a, o, rfl, g, q⟩
  · exact op_notIn_sign pins s σ H x y v u Q I rx ry h
  · obtain ⟨as, r1⟩ := Dp.reads I d x v hd rx
    rcases hl with hl | hl
    · obtain ⟨bs, r2⟩ := Dp.reads I _ y u hl ry
      exact SeqAt.notIn_list_reads r2 r1 sl sd (by omega) ⟨.bl _, H, I, rfl, q⟩
    · obtain ⟨bs, r2⟩ := Dp.reads I _ y u hl ry
      exact SeqAt.notIn_tuple_reads r2 r1 sl sd (by omega) ⟨.bl _, H, I, rfl, q⟩
  · obtain rfl : u = Value.ref a := ry
    exact d_notIn (by omega) I g rx fun s3 I3 => ⟨.bl (!o.isSome), H, I3, rfl, q⟩
end
theorem RK.look {K : PySem.W.Frag} {ρ : Nat → Addr} {N : Nat} {H : Hp} {k : D} {q : Key} (hk : keyD k = some q) : ∀ {kvs : List (D × D)} {qs : List (Key × V)}, RK K ρ N H kvs qs → match lookD k kvs with
    | some d => ∃ v, valV qs q = some v ∧ RD K ρ N H d v
    | none => valV qs q = none
  | _, _, .nil => rfl
  | _, _, .cons (k := k') (q := q') e a b t => by
    have ih := RK.look hk t
    unfold lookD
    by_cases c : q' = q
    · have z : keyB k' k = true := by
        unfold keyB
        rw [e, hk]
        simpa using c
      rw [if_pos z]
      exact ⟨_, valV_pos c, b⟩
    · have z : ¬ keyB k' k = true := by
        unfold keyB
        rw [e, hk]
        simpa using c
      rw [if_neg z, valV_neg (show ¬ (q', _).1 = q from c)]
      exact ih
theorem dct_val {K : PySem.W.Frag} {ρ : Nat → Addr} {h : MH} {H : Hp} {d : D} {v : V} {kvs : List (D × D)} (r : RH K ρ h H) (t : RT K ρ h H d v) (e : dctOf h d = some kvs) : ∃ p qs, v = .ref p ∧ H p = some (.dK qs) ∧ RK K ρ h.length H kvs qs := by
  cases d with
  | ref n =>
    cases t
    unfold dctOf at e
    cases q : h[n]? with
    | none => simp [q] at e
    | some o =>
      have z := r.obj n o q
      cases o with
      | dct es =>
        simp [q] at e
        subst e
        obtain ⟨xs, a, b⟩ := z
        exact ⟨_, xs, rfl, a, b⟩
      | _ => simp [q] at e
  | _ => cases e
theorem keyD_v {K : PySem.W.Frag} {ρ : Nat → Addr} {N : Nat} {H : Hp} {k : D} {v : V} {q : Key} (r : RD K ρ N H k v) (e : keyD k = some q) : v = kV q := by
  cases r <;> first | (cases e; rfl) | cases e
theorem row_dp {K : PySem.W.Frag} {ρ : Nat → Addr} {h : MH} {H : Hp} {d : D} {v : V} {ds : List D} (r : RH K ρ h H) (t : RT K ρ h H d v) (e : rowOf h d = some ds) (c : pureL ds = true) : (Dp K H v (.list (pyL ds)) ∨ Dp K H v (.tuple (pyL ds))) ∧ PyData.canLayAll0 (pyL ds) = true := by
  unfold rowOf at e
  split at e
  · cases e
    cases t with
    | tup s q =>
      obtain ⟨a, b⟩ := q.dps c
      exact ⟨.inr (.tup s a), b⟩
  · obtain ⟨p, xs, rfl, s, q⟩ := lst_val r t e
    obtain ⟨a, b⟩ := q.dps c
    exact ⟨.inl (.lst s a), b⟩
theorem lift_in {K : PySem.W.Frag} {neg : Bool} : Lift2 K (rInM K neg) (gIn neg) where
  mono := fun a b h => by
    unfold gIn
    split
    · exact MonoH.refl h
    · trivial
  run := fun {ρ h H W a b x y Q} r ta tb p => by
    unfold gIn at p
    split at p
    · rename_i c e
      unfold inH at e
      split at e
      · cases e
        cases ta
        cases tb with
        | str t _ =>
          have z := Post.val r p (.bl _)
          exact .inl ⟨_, mx _, rfl, rfl, by rw [mx_cps]; exact z⟩
      · split at e
        · rename_i ds er
          split at e
          · rename_i hc
            cases e
            obtain ⟨l1, l2⟩ := row_dp r tb er hc.1.2
            obtain ⟨d1, d2⟩ := (ta.rdS (D.pure_st hc.1.1)).dp hc.1.1
            exact .inr (.inl ⟨a.py, pyL ds, d1, l1, l2, d2, hc.2, Post.val r p (.bl _)⟩)
          · cases e
        · split at e
          · rename_i kvs ed
            split at e
            · rename_i hk
              cases e
              obtain ⟨p1, qs, rfl, e1, rk⟩ := dct_val r tb ed
              obtain ⟨q, eq⟩ := Option.isSome_iff_exists.mp hk
              have rd : RD K ρ h.length H a x := ta.rdS (by cases a <;> first | rfl | cases eq)
              have ev := keyD_v rd eq
              subst ev
              have lk := rk.look eq
              refine .inr (.inr ⟨p1, valV qs q, rfl, DGet.k e1, ?_⟩)
              have z : (valV qs q).isSome = (lookD a kvs).isSome := by
                cases el : lookD a kvs with
                | none => rw [el] at lk; rw [lk]; rfl
                | some d => rw [el] at lk; obtain ⟨v, ev, _⟩ := lk; rw [ev]; rfl
              rw [z]
              exact Post.val r p (.bl _)
            · cases e
          · cases e
    · exact p.elim
end Dn
end
noncomputable section
set_option Elab.async false
set_option linter.all false
set_option maxRecDepth 100000
set_option maxHeartbeats 4000000
namespace Dn
open PySem PySem.Spec PyProof.Rows L2
def gl1 (g : D → MH → R D) (ds : List D) (h : MH) : R D := match ds with
  | [a] => g a h
  | _ => .stuck
def gl2 (g : D → D → MH → R D) (ds : List D) (h : MH) : R D := match ds with
  | [a, b] => g a b h
  | _ => .stuck
theorem callM1 (g : D → MH → R D) (m : M D) : callM (gl1 g) (consM m nilM) = op1 g m := by
  funext σ h
  simp only [callM, consM, nilM, op1, bindM, retM, gl1]
  cases m σ h <;> rfl
theorem callM2 (g : D → D → MH → R D) (ma mb : M D) : callM (gl2 g) (consM ma (consM mb nilM)) = op2 g ma mb := by
  funext σ h
  simp only [callM, consM, nilM, op2, bindM, retM, gl2]
  cases ma σ h with
  | ok a h1 =>
    dsimp only
    cases mb σ h1 <;> rfl
  | exc _ _ => rfl
  | stuck => rfl
theorem callM2c (g : D → D → MH → R D) (m : M D) (c : D) : callM (gl2 g) (consM m (consM (retM c) nilM)) = op1 (fun a => g a c) m := by
  funext σ h
  simp only [callM, consM, nilM, op1, bindM, retM, gl2]
  cases m σ h <;> rfl
structure LiftC1 (K : PySem.W.Frag) (r : List V → Hp → VK → Prop) (g : D → MH → R D) : Prop where
  mono : ∀ d h, MonoR h (g d h)
  run : ∀ {ρ : Nat → Addr} {h : MH} {H : Hp} {W : Value → Option Addr → Hp → Prop} {d : D} {v : V} {Q : VK}, RH K ρ h H → RT K ρ h H d v → Post K ρ h H W (g d h) Q → r [v] H Q
structure LiftC2 (K : PySem.W.Frag) (r : List V → Hp → VK → Prop) (g : D → D → MH → R D) : Prop where
  mono : ∀ d e h, MonoR h (g d e h)
  run : ∀ {ρ : Nat → Addr} {h : MH} {H : Hp} {W : Value → Option Addr → Hp → Prop} {d e : D} {v u : V} {Q : VK}, RH K ρ h H → RT K ρ h H d v → RT K ρ h H e u → Post K ρ h H W (g d e h) Q → r [v, u] H Q
theorem LiftC1.c {K : PySem.W.Frag} {r : List V → Hp → VK → Prop} {g : D → MH → R D} (L : LiftC1 K r g) : LiftC K r (gl1 g) where
  mono := fun ds h => by
    unfold gl1
    split
    · exact L.mono _ h
    · trivial
  run := fun {ρ h H W ds vs Q} rh t p => by
    unfold gl1 at p
    split at p
    · cases t with
      | cons a t =>
        cases t
        exact L.run rh a p
    · exact p.elim
theorem LiftC2.c {K : PySem.W.Frag} {r : List V → Hp → VK → Prop} {g : D → D → MH → R D} (L : LiftC2 K r g) : LiftC K r (gl2 g) where
  mono := fun ds h => by
    unfold gl2
    split
    · exact L.mono _ _ h
    · trivial
  run := fun {ρ h H W ds vs Q} rh t p => by
    unfold gl2 at p
    split at p
    · cases t with
      | cons a t =>
        cases t with
        | cons b t =>
          cases t
          exact L.run rh a b p
    · exact p.elim
theorem LiftC.or {K : PySem.W.Frag} {r r' : List V → Hp → VK → Prop} {g : List D → MH → R D} (L : LiftC K r g) : LiftC K (fun x H Q => r x H Q ∨ r' x H Q) g := ⟨L.mono, fun rh t p => .inl (L.run rh t p)⟩
theorem CallR_or {X : Cx} {f : Value} {r r' : List V → Hp → VK → Prop} (h : CallR X f r) (h' : CallR X f r') : CallR X f (fun x H Q => r x H Q ∨ r' x H Q) := fun pins s σ H xs us Q I rv q => q.elim (h pins s σ H xs us Q I rv) (h' pins s σ H xs us Q I rv)
section
variable {X : Cx} {W : WX} {x : Str} {p pos : Pos} {e e2 : Expr} {m m2 : M D} {r : List V → Hp → VK → Prop}
theorem se_b1 {id : String} {g : D → MH → R D} (hc : CallR X (.builtin id) r) (L : LiftC1 X.K r g) (hg : Gl X x) (hm : X.mg x = none) (hv : bootBuiltins x = some (.builtin id)) (ha : SE X W e m) (hn : x ≠ "__name__" := by decide) (hdb : (x == ("__debug__" : Str)) = false := by decide)
    (hs : starEach [e] X.env = (false, eval e X.env) :: starEach [] X.env := by rfl) (hpl : (backTo pos (starEach [] X.env)).any (·.1) = false := by rfl) : SE X W (.Call (.Name x p) [e] [] pos) (op1 g m) := by
  rw [← callM1]
  exact se_callB hc L.c hg hm hv (st_cons ha st_nil hs) hn hdb hs hpl
theorem se_t1 {T : String} {g : D → MH → R D} (hc : CallR X (.type T) r) (L : LiftC1 X.K r g) (hg : Gl X x) (hm : X.mg x = none) (hv : bootBuiltins x = some (.type T)) (ha : SE X W e m) (hn : x ≠ "__name__" := by decide) (hdb : (x == ("__debug__" : Str)) = false := by decide)
    (hs : starEach [e] X.env = (false, eval e X.env) :: starEach [] X.env := by rfl) (hpl : (backTo pos (starEach [] X.env)).any (·.1) = false := by rfl) : SE X W (.Call (.Name x p) [e] [] pos) (op1 g m) := by
  rw [← callM1]
  exact se_callTy hc L.c hg hm hv (st_cons ha st_nil hs) hn hdb hs hpl
theorem se_b2 {id : String} {g : D → D → MH → R D} (hc : CallR X (.builtin id) r) (L : LiftC2 X.K r g) (hg : Gl X x) (hm : X.mg x = none) (hv : bootBuiltins x = some (.builtin id)) (ha : SE X W e m) (hb : SE X W e2 m2) (hn : x ≠ "__name__" := by decide) (hdb : (x == ("__debug__" : Str)) = false := by decide)
    (hs : starEach [e, e2] X.env = (false, eval e X.env) :: starEach [e2] X.env := by rfl) (hs2 : starEach [e2] X.env = (false, eval e2 X.env) :: starEach [] X.env := by rfl) (hpl : (backTo pos (starEach [e2] X.env)).any (·.1) = false := by rfl) : SE X W (.Call (.Name x p) [e, e2] [] pos) (op2 g m m2) := by
  rw [← callM2]
  exact se_callB hc L.c hg hm hv (st_cons ha (st_cons hb st_nil hs2) hs) hn hdb hs hpl
end
def lenD (h : MH) : D → Option Nat
  | .str l => if l.length ≤ line then some l.length else none
  | .tup ds => some ds.length
  | d => match lstOf h d with
    | some ds => some ds.length
    | none => (dctOf h d).map List.length
def gLen (d : D) (h : MH) : R D := match lenD h d with
  | some n => .ok (.int n) h
  | none => .stuck
theorem RK.length {K : PySem.W.Frag} {ρ : Nat → Addr} {N : Nat} {H : Hp} : ∀ {kvs : List (D × D)} {qs : List (Key × V)}, RK K ρ N H kvs qs → qs.length = kvs.length
  | _, _, .nil => rfl
  | _, _, .cons _ _ _ t => congrArg Nat.succ t.length
def rLenA (K : PySem.W.Frag) : List V → Hp → VK → Prop := fun xs H Q => (∃ x n, xs = [x] ∧ LenV K x H n ∧ Q (.int n) H) ∨ (∃ a kvs, xs = [V.ref a] ∧ H a = some (.dK kvs) ∧ Q (.int kvs.length) H)
theorem call_lenA {X : Cx} : CallR X (.builtin "len") (rLenA X.K) := CallR_or call_len call_lenD
theorem lift_len {K : PySem.W.Frag} : LiftC1 K (rLenA K) gLen where
  mono := fun d h => by
    unfold gLen
    split
    · exact MonoH.refl h
    · trivial
  run := fun {ρ h H W d v Q} r t p => by
    unfold gLen at p
    split at p
    · rename_i n e
      have z := Post.val r p (.int _)
      unfold lenD at e
      split at e
      · split at e
        · rename_i c
          cases e
          cases t
          exact .inl ⟨_, _, rfl, ⟨by rw [mx_len, ← line_eq]; exact c, (mx_len _).symm⟩, z⟩
        · cases e
      · cases e
        cases t with
        | @tup a us _ s q =>
          exact .inl ⟨_, _, rfl, .inr ⟨us, s, q.length.symm⟩, z⟩
      · split at e
        · rename_i ds el
          cases e
          obtain ⟨a, us, rfl, s, q⟩ := lst_val r t el
          exact .inl ⟨_, _, rfl, .inl ⟨us, s, q.length.symm⟩, z⟩
        · cases ed : dctOf h d with
          | none => rw [ed] at e; cases e
          | some kvs =>
            rw [ed] at e
            cases e
            obtain ⟨a, qs, rfl, s, q⟩ := dct_val r t ed
            exact .inr ⟨a, qs, rfl, s, by rw [q.length]; exact z⟩
    · exact p.elim
inductive Kd where
  | non | bl | int | str | tup | lst | dct
  deriving DecidableEq
def Kd.nm : Kd → String
  | .non => "NoneType"
  | .bl => "bool"
  | .int => "int"
  | .str => "str"
  | .tup => "tuple"
  | .lst => "list"
  | .dct => "dict"
def Kd.isA (k T : Kd) : Bool := decide (k = T) || (decide (k = .bl) && decide (T = .int))
theorem Kd.kit : ∀ k T : Kd, T ≠ .non → kitB k.nm T.nm = some (k.isA T) := by
  intro k T h
  cases T <;> first | exact absurd rfl h | (cases k <;> decide +kernel)
def kdOf (h : MH) : D → Option Kd
  | .non => some .non
  | .bl _ => some .bl
  | .int _ => some .int
  | .str _ => some .str
  | .tup _ => some .tup
  | .tl _ => some .lst
  | .ref n => match h[n]? with
    | some (.lst _) => some .lst
    | some (.rol _) => some .lst
    | some (.dct _) => some .dct
    | _ => none
  | .cst _ => none
theorem tyx_tup {K : PySem.W.Frag} {H : Hp} {a : Addr} {xs : List V} (s : SqT K H a xs) : TyX K H (.ref a) (.type "tuple") := by
  rcases s with (s | ⟨o, s⟩) | ⟨o, its, n, hk, hc, _⟩
  · exact .base (.tup s)
  · exact .fTuple s
  · exact .kTuple hk hc
theorem tyx_lst {K : PySem.W.Frag} {H : Hp} {a : Addr} {xs : List V} (s : SqL K H a xs) : TyX K H (.ref a) (.type "list") := by
  rcases s with (s | ⟨o, s⟩) | ⟨o, its, n, hk, hc, _⟩
  · exact .base (.lst s)
  · exact .base (.frz s)
  · exact .kList hk hc
theorem RT.ty {K : PySem.W.Frag} {ρ : Nat → Addr} {h : MH} {H : Hp} {d : D} {v : V} {k : Kd} (r : RH K ρ h H) (t : RT K ρ h H d v) (e : kdOf h d = some k) : TyX K H v (.type k.nm) := by
  cases d with
  | non => cases t; cases e; exact .base .non
  | bl b => cases t; cases e; exact .base (.bl b)
  | int b => cases t; cases e; exact .base (.int b)
  | str b => cases t; cases e; exact .base (.str _)
  | tup ds => cases t with
    | tup s q => cases e; exact tyx_tup s
  | tl ds =>
    cases e
    obtain ⟨a, us, rfl, s, q⟩ := lst_val r t (ds := ds) rfl
    exact tyx_lst s
  | ref n =>
    unfold kdOf at e
    cases q : h[n]? with
    | none => simp [q] at e
    | some o =>
      cases o with
      | lst es =>
        have e2 : k = .lst := by simpa [q] using e.symm
        subst e2
        obtain ⟨a, us, rfl, s, _⟩ := lst_val (ds := es) r t (by simp [lstOf, q])
        exact tyx_lst s
      | rol es =>
        have e2 : k = .lst := by simpa [q] using e.symm
        subst e2
        obtain ⟨a, us, rfl, s, _⟩ := lst_val (ds := es) r t (by simp [lstOf, q])
        exact tyx_lst s
      | dct es =>
        have e2 : k = .dct := by simpa [q] using e.symm
        subst e2
        obtain ⟨a, us, rfl, s, _⟩ := dct_val (kvs := es) r t (by simp [dctOf, q])
        exact .base (.dK s)
      | ins _ _ => simp [q] at e
  | cst v => cases e
def gIsi (T : Kd) (d : D) (h : MH) : R D := match kdOf h d with
  | some k => .ok (.bl (k.isA T)) h
  | none => .stuck
def gIsiC (T : Kd) (d c : D) (h : MH) : R D := match c with
  | .cst (.ty s) => if s = T.nm ∧ T ≠ .non then gIsi T d h else .stuck
  | _ => .stuck
theorem lift_isi {K : PySem.W.Frag} {T : Kd} : LiftC2 K (rIsi K) (gIsiC T) where
  mono := fun d c h => by
    unfold gIsiC
    split
    · refine mono_if ?_
      unfold gIsi
      split
      · exact MonoH.refl h
      · trivial
    · trivial
  run := fun {ρ h H W d c v u Q} r t tc p => by
    unfold gIsiC at p
    split at p
    · obtain ⟨⟨e0, hT⟩, p2⟩ := post_if p
      subst e0
      cases tc
      unfold gIsi at p2
      cases e : kdOf h d with
      | some k =>
        rw [e] at p2
        exact ⟨v, _, _, _, k.isA T, rfl, .ty _, t.ty r e, kit_ty (Kd.kit k T hT), Post.val r p2 (.bl _)⟩
      | none => rw [e] at p2; exact p2.elim
    · exact p.elim
section
variable {X : Cx} {W : WX} {x tx : Str} {p pos p2 : Pos} {e : Expr} {m : M D}
theorem gIsiC_ty (T : Kd) (hT : T ≠ .non := by decide) : (fun a => gIsiC T a (.cst (.ty T.nm))) = gIsi T := by
  funext d h
  exact if_pos ⟨rfl, hT⟩
theorem se_isi (T : Kd) (hT : T ≠ .non) (hg : Gl X "isinstance") (hm : X.mg "isinstance" = none) (ht : Gl X tx) (htm : X.mg tx = none) (htv : bootBuiltins tx = some (.type T.nm)) (ha : SE X W e m) (hn : tx ≠ "__name__" := by decide) (hdb : (tx == ("__debug__" : Str)) = false := by decide)
    (hs : starEach [e, .Name tx p2] X.env = (false, eval e X.env) :: starEach [.Name tx p2] X.env := by rfl) (hs2 : starEach [.Name tx p2] X.env = (false, eval (.Name tx p2) X.env) :: starEach [] X.env := by rfl) (hpl : (backTo pos (starEach [.Name tx p2] X.env)).any (·.1) = false := by rfl) :
    SE X W (.Call (.Name "isinstance" p) [e, .Name tx p2] [] pos) (op1 (gIsi T) m) := by
  rw [← gIsiC_ty T hT, ← callM2c]
  exact se_callB call_isi (lift_isi (T := T)).c hg hm boot_isinstance (st_cons ha (st_cons (se_const (d := .cst (.ty T.nm)) (pe_bltn (v := .ty T.nm) ht htm htv rfl hn hdb) fun _ _ _ => .cst _) st_nil hs2) hs) (by decide) (by decide) hs hpl
end
def gInt (d : D) (h : MH) : R D := match d with
  | .int i => .ok (.int i) h
  | .bl b => .ok (.int (if b then 1 else 0)) h
  | _ => .stuck
theorem lift_int {K : PySem.W.Frag} : LiftC1 K (fun xs H Q => (∃ i, xs = [.int i] ∧ Q (.int i) H) ∨ ∃ k, xs = [.bl k] ∧ Q (.int (if k then 1 else 0)) H) gInt where
  mono := fun d h => by
    unfold gInt
    split
    · exact MonoH.refl h
    · exact MonoH.refl h
    · trivial
  run := fun {ρ h H W d v Q} r t p => by
    unfold gInt at p
    split at p
    · cases t
      exact .inl ⟨_, rfl, Post.val r p (.int _)⟩
    · cases t
      exact .inr ⟨_, rfl, Post.val r p (.int _)⟩
    · exact p.elim
def gAbs (d : D) (h : MH) : R D := match d with
  | .int i => .ok (.int (if i < 0 then -i else i)) h
  | _ => .stuck
theorem lift_abs {K : PySem.W.Frag} : LiftC1 K (fun xs H Q => ∃ i, xs = [.int i] ∧ Q (.int (if i < 0 then -i else i)) H) gAbs where
  mono := fun d h => by
    unfold gAbs
    split
    · exact MonoH.refl h
    · trivial
  run := fun {ρ h H W d v Q} r t p => by
    unfold gAbs at p
    split at p
    · cases t
      exact ⟨_, rfl, Post.val r p (.int _)⟩
    · exact p.elim
def gMax (a b : D) (h : MH) : R D := match a, b with
  | .int i, .int j => .ok (.int (if j > i then j else i)) h
  | _, _ => .stuck
theorem lift_max {K : PySem.W.Frag} : LiftC2 K (fun xs H Q => ∃ i j, xs = [.int i, .int j] ∧ Q (.int (if j > i then j else i)) H) gMax where
  mono := fun a b h => by
    unfold gMax
    split
    · exact MonoH.refl h
    · trivial
  run := fun {ρ h H W a b v u Q} r t t2 p => by
    unfold gMax at p
    split at p
    · cases t
      cases t2
      exact ⟨_, _, rfl, Post.val r p (.int _)⟩
    · exact p.elim
def gMin (a b : D) (h : MH) : R D := match a, b with
  | .int i, .int j => .ok (.int (if j < i then j else i)) h
  | _, _ => .stuck
theorem lift_min {K : PySem.W.Frag} : LiftC2 K (fun xs H Q => ∃ i j, xs = [.int i, .int j] ∧ Q (.int (if j < i then j else i)) H) gMin where
  mono := fun a b h => by
    unfold gMin
    split
    · exact MonoH.refl h
    · trivial
  run := fun {ρ h H W a b v u Q} r t t2 p => by
    unfold gMin at p
    split at p
    · cases t
      cases t2
      exact ⟨_, _, rfl, Post.val r p (.int _)⟩
    · exact p.elim
def bools : List D → Option (List Bool)
  | [] => some []
  | .bl b :: r => (bools r).map (b :: ·)
  | _ => none
theorem bools_v {K : PySem.W.Frag} {ρ : Nat → Addr} {N : Nat} {H : Hp} : ∀ {ds : List D} {vs : List V} {bs : List Bool}, RDs K ρ N H ds vs → bools ds = some bs → vs = bs.map V.bl
  | _, _, _, .nil, e => by cases e; rfl
  | _, _, bs, .cons (d := d) a t, e => by
    cases d with
    | bl b =>
      unfold bools at e
      obtain ⟨cs, e1, rfl⟩ := Option.map_eq_some_iff.mp e
      cases a
      rw [bools_v t e1]
      rfl
    | _ => cases e
def gAll (d : D) (h : MH) : R D := match (lstOf h d).bind bools with
  | some bs => .ok (.bl (bs.all id)) h
  | none => .stuck
def gAny (d : D) (h : MH) : R D := match (lstOf h d).bind bools with
  | some bs => .ok (.bl (bs.any id)) h
  | none => .stuck
theorem lift_all {K : PySem.W.Frag} : LiftC1 K (rAll K) gAll where
  mono := fun d h => by
    unfold gAll
    split
    · exact MonoH.refl h
    · trivial
  run := fun {ρ h H W d v Q} r t p => by
    unfold gAll at p
    split at p
    · rename_i bs e
      obtain ⟨ds, e1, e2⟩ := Option.bind_eq_some_iff.mp e
      obtain ⟨a, us, rfl, s, q⟩ := lst_val r t e1
      have ev := bools_v q e2
      subst ev
      exact ⟨a, bs, rfl, s, Post.val r p (.bl _)⟩
    · exact p.elim
theorem lift_any {K : PySem.W.Frag} : LiftC1 K (rAny K) gAny where
  mono := fun d h => by
    unfold gAny
    split
    · exact MonoH.refl h
    · trivial
  run := fun {ρ h H W d v Q} r t p => by
    unfold gAny at p
    split at p
    · rename_i bs e
      obtain ⟨ds, e1, e2⟩ := Option.bind_eq_some_iff.mp e
      obtain ⟨a, us, rfl, s, q⟩ := lst_val r t e1
      have ev := bools_v q e2
      subst ev
      exact ⟨a, bs, rfl, s, Post.val r p (.bl _)⟩
    · exact p.elim
def gTuple (d : D) (h : MH) : R D := match d with
  | .tup ds => .ok (.tup ds) h
  | d => match lstOf h d with
    | some ds => .ok (.tup ds) h
    | none => .stuck
theorem lift_tuple {K : PySem.W.Frag} : LiftC1 K (fun xs H Q => ∃ p ys, xs = [.ref p] ∧ ((SqL K H p ys ∧ ∀ l, H l = none → Q (.ref l) (upd H l (.tup ys))) ∨ (SqT K H p ys ∧ Q (.ref p) H))) gTuple where
  mono := fun d h => by
    unfold gTuple
    split
    · exact MonoH.refl h
    · split
      · exact MonoH.refl h
      · trivial
  run := fun {ρ h H W d v Q} r t p => by
    unfold gTuple at p
    split at p
    · cases t with
      | @tup a us _ s q => exact ⟨a, us, rfl, .inr ⟨s, Post.val r p (.tup s q)⟩⟩
    · split at p
      · rename_i ds e
        obtain ⟨a, us, rfl, s, q⟩ := lst_val r t e
        exact ⟨a, us, rfl, .inl ⟨s, fun n hn => Post.newTup r q p hn⟩⟩
      · exact p.elim
def gList (d : D) (h : MH) : R D := match d with
  | .tup ds => .ok (.tl ds) h
  | d => match lstOf h d with
    | some ds => .ok (.tl ds) h
    | none => .stuck
theorem lift_list {K : PySem.W.Frag} : LiftC1 K (fun xs H Q => ∃ p ys, xs = [.ref p] ∧ (SqL K H p ys ∨ SqT K H p ys) ∧ ∀ l, H l = none → Q (.ref l) (upd H l (.lst ys))) gList where
  mono := fun d h => by
    unfold gList
    split
    · exact MonoH.refl h
    · split
      · exact MonoH.refl h
      · trivial
  run := fun {ρ h H W d v Q} r t p => by
    unfold gList at p
    split at p
    · cases t with
      | @tup a us _ s q => exact ⟨a, us, rfl, .inr s, fun n hn => Post.newLst r q p hn⟩
    · split at p
      · rename_i ds e
        obtain ⟨a, us, rfl, s, q⟩ := lst_val r t e
        exact ⟨a, us, rfl, .inl s, fun n hn => Post.newLst r q p hn⟩
      · exact p.elim
end Dn
end
noncomputable section
set_option Elab.async false
set_option linter.all false
set_option maxRecDepth 100000
set_option maxHeartbeats 4000000
namespace Dn
open PySem PySem.Spec PyProof.Rows L2
def allAlike (ds : List D) : Bool := ds.all fun a => ds.all fun b => PySem.W.alike a.py b.py
def D.tupNe : D → Bool
  | .tup (_ :: _) => true
  | _ => false
def D.plainK : D → Bool
  | .int _ => true
  | .bl _ => true
  | .str _ => true
  | _ => false
def sortOk (ds : List D) : Bool := pureL ds && allAlike ds && (ds.all D.tupNe || ds.all D.plainK) && ds.all fun d => decide (d.py.depth ≤ 60)
def leD (a b : D) : Bool := !PySem.W.dataLt b.py a.py
def ints? : List (D × D) → Option (List Int)
  | [] => some []
  | (.int i, _) :: r => (ints? r).map (i :: ·)
  | _ => none
def leI (a b : Int) : Bool := decide (a ≤ b)
def gSorted (d : D) (h : MH) : R D := match lstOf h d with
  | some ds => if sortOk ds = true then .ok (.tl (ds.mergeSort leD)) h else .stuck
  | none => match (dctOf h d).bind ints? with
    | some ks => if ks.length < 64 then .ok (.tl ((ks.mergeSort leI).map D.int)) h else .stuck
    | none => .stuck
def rSortA (K : PySem.W.Frag) : List V → Hp → VK → Prop := fun vs H Q => ∃ (a : Addr) (xs : List V) (ρ : Nat → Addr) (N : Nat) (ds : List D), vs = [V.ref a] ∧ SqL K H a xs ∧ RDs K ρ N H ds xs ∧ sortOk ds = true ∧
  ∀ (ys : List V) (p : Addr), RDs K ρ N H (ds.mergeSort leD) ys → H p = none → Q (.ref p) (upd H p (.lst ys))
theorem each_rds {K : PySem.W.Frag} {ρ : Nat → Addr} {N : Nat} {H : Hp} : ∀ {ds : List D} {xs : List V} {us : List Value}, RDs K ρ N H ds xs → Vals xs us → PySem.W.EachIs (fun u d => ∃ v, RelV v u ∧ RD K ρ N H d v) us ds
  | _, _, _, .nil, .nil => .nil
  | _, _, _, .cons a t, .cons r q => .cons ⟨_, r, a⟩ (each_rds t q)
theorem rds_each {K : PySem.W.Frag} {ρ : Nat → Addr} {N : Nat} {H : Hp} : ∀ {us : List Value} {ds : List D}, PySem.W.EachIs (fun u d => ∃ v, RelV v u ∧ RD K ρ N H d v) us ds → ∃ xs, Vals xs us ∧ RDs K ρ N H ds xs
  | _, _, .nil => ⟨[], .nil, .nil⟩
  | _, _, .cons ⟨v, r, a⟩ t => by
    obtain ⟨xs, q, z⟩ := rds_each t
    exact ⟨v :: xs, .cons r q, .cons a z⟩
section
variable {X : Cx}
theorem cr_sortA (hu : X.A.units + 64 < cLine) : CallR X (.builtin "sorted") (rSortA X.K) := by
  intro pins s σ H vs us Q I r h
  obtain ⟨a, xs, ρ, N, ds, rfl, hs, rd, ok, q⟩ := h
  obtain ⟨its, rv, hl, hz⟩ := I.list hs
  obtain ⟨u, rfl, ru⟩ := vals1 r
  obtain rfl : u = Value.ref a := ru
  unfold sortOk at ok
  simp only [Bool.and_eq_true] at ok
  obtain ⟨⟨⟨ok1, ok2⟩, ok3⟩, ok4⟩ := ok
  rw [pureL_eq] at ok1
  have e := each_rds rd rv
  have er : PySem.W.EachIs (fun v b => ∃ as, Reads s.heap v (D.py b) as) its ds := by
    have key : ∀ {us : List Value} {ds : List D}, PySem.W.EachIs (fun u d => ∃ v, RelV v u ∧ RD X.K ρ N H d v) us ds → ds.all D.pure = true → PySem.W.EachIs (fun v b => ∃ as, Reads s.heap v (D.py b) as) us ds := by
      intro us ds x
      induction x with
      | nil => intro _; exact .nil
      | cons z t ih =>
        intro hp
        rw [List.all_cons, Bool.and_eq_true] at hp
        obtain ⟨v, rv, rd⟩ := z
        exact .cons (Dp.reads I _ _ _ (rd.dp hp.1).1 rv) (ih hp.2)
    exact key e ok1
  have hal : PySem.W.AllAlike (ds.map D.py) := by
    intro d hd d' hd'
    obtain ⟨b, hb, rfl⟩ := List.mem_map.mp hd
    obtain ⟨b', hb', rfl⟩ := List.mem_map.mp hd'
    exact List.all_eq_true.mp (List.all_eq_true.mp ok2 b hb) b' hb'
  have hk : PySem.W.Sortable (ds.map D.py) := by
    rw [Bool.or_eq_true] at ok3
    rcases ok3 with o | o
    · refine .inl fun d hd => ?_
      obtain ⟨b, hb, rfl⟩ := List.mem_map.mp hd
      have z := List.all_eq_true.mp o b hb
      cases b with
      | tup es =>
        cases es with
        | nil => cases z
        | cons x r => exact ⟨x.py, pyL r, by simp [D.py, pyL]⟩
      | _ => cases z
    · refine .inr fun d hd => ?_
      obtain ⟨b, hb, rfl⟩ := List.mem_map.mp hd
      have z := List.all_eq_true.mp o b hb
      cases b <;> first | (refine ⟨?_, ?_⟩ <;> (simp [D.py]; done)) | (simp [D.plainK] at z; done)
  have hL : ds.length ≤ sizeLine := by rw [← rd.length]; exact hz
  have hle : PySem.W.dataLe false D.py = leD := by
    rw [PySem.W.dataLe_eq]
    rfl
  refine PySem.W.sorted_data (enc := D.py) hl.isList e er hal hk hL (fun b hb => ?_) fun out ho eo => ?_
  · have z := of_decide_eq_true (List.all_eq_true.mp ok4 b hb)
    omega
  · rw [hle] at eo
    obtain ⟨ys, ry, rdy⟩ := rds_each eo
    obtain ⟨n, hn⟩ := PyProof.Rows.sortedHeap_at (vs := its) (out := out.toArray) (PySem.W.copyHeap_at s.heap its)
    have kp : ∀ b o, s.heap.get? b = some o → (sortedAll s.heap its out.toArray).get? b = some o := fun b o eb => by
      have hlt := Heap.lt_size eb
      have e2 := PySem.W.copyHeap_old (vs := its) eb
      show (PyProof.Rows.sortedHeap (PySem.W.copyHeap s.heap its) (s.heap.objs.size + 1) its out.toArray).get? b = some o
      rw [PyProof.Rows.sortedHeap_old (Nat.ne_of_lt (Nat.lt_succ_of_lt hlt)) (Heap.lt_size e2)]
      exact e2
    have hge : s.heap.objs.size ≤ s.heap.objs.size + 1 := Nat.le_succ _
    refine ⟨.ref (s.heap.objs.size + 1), upd H (s.heap.objs.size + 1) (.lst ys), I.laid (t' := s.toks) kp hge ⟨?_, out, n, ry, hn⟩, rfl, q ys _ rdy (I.hok.fresh hge)⟩
    rw [rdy.length, List.length_mergeSort]
    exact hL
end
def rSortB (K : PySem.W.Frag) : List V → Hp → VK → Prop := fun xs H Q => rSortA K xs H Q ∨ ∃ (a : Addr) (kvs : List (Key × V)) (ks : List Int), xs = [.ref a] ∧ Rd H a (.dK kvs) ∧ kvs.map (·.1) = ks.map Sum.inl ∧ ks.length < 64 ∧
    ∀ (ys : List Int) (p : Addr), ys.Perm ks → ys.Pairwise (· ≤ ·) → H p = none → Q (.ref p) (upd H p (.lst (ys.map V.int)))
theorem cr_sortB {X : Cx} (hc : X.calm = true) (hu : X.A.units + 64 < cLine) : CallR X (.builtin "sorted") (rSortB X.K) := CallR_or (cr_sortA hu) (call_sortedDI hc)
theorem ints_k {K : PySem.W.Frag} {ρ : Nat → Addr} {N : Nat} {H : Hp} : ∀ {kvs : List (D × D)} {qs : List (Key × V)} {ks : List Int}, RK K ρ N H kvs qs → ints? kvs = some ks → qs.map (·.1) = ks.map Sum.inl
  | _, _, _, .nil, e => by cases e; rfl
  | _, _, ks, .cons (k := k) e a b t, ei => by
    cases k with
    | int i =>
      unfold ints? at ei
      obtain ⟨cs, e1, rfl⟩ := Option.map_eq_some_iff.mp ei
      cases e
      rw [List.map_cons, List.map_cons, ints_k t e1]
    | _ => cases ei
theorem rds_ints {K : PySem.W.Frag} {ρ : Nat → Addr} {N : Nat} {H : Hp} : ∀ ys : List Int, RDs K ρ N H (ys.map D.int) (ys.map V.int)
  | [] => .nil
  | i :: r => .cons (.int i) (rds_ints r)
theorem sorted_unique {xs ys : List Int} (p : ys.Perm xs) (o : ys.Pairwise (· ≤ ·)) : ys = xs.mergeSort leI := by
  have p2 : (xs.mergeSort leI).Perm xs := List.mergeSort_perm xs leI
  have o2 : (xs.mergeSort leI).Pairwise (· ≤ ·) := by
    have z := List.pairwise_mergeSort (le := leI) (fun a b c h1 h2 => by unfold leI at *; simp at *; omega) (fun a b => by unfold leI; simp; omega) xs
    exact z.imp fun h => by unfold leI at h; simpa using h
  exact List.Perm.eq_of_pairwise (le := (· ≤ ·)) (fun a b _ _ h1 h2 => Int.le_antisymm h1 h2) o o2 (p.trans p2.symm)
theorem lift_sorted {K : PySem.W.Frag} : LiftC1 K (rSortB K) gSorted where
  mono := fun d h => by
    unfold gSorted
    split
    · exact mono_if (MonoH.refl h)
    · split
      · exact mono_if (MonoH.refl h)
      · trivial
  run := fun {ρ h H W d v Q} r t p => by
    unfold gSorted at p
    split at p
    · rename_i ds e
      obtain ⟨ok, p⟩ := post_if p
      obtain ⟨a, us, rfl, s, q⟩ := lst_val r t e
      exact .inl ⟨a, us, ρ, h.length, ds, rfl, s, q, ok, fun ys n rd hn => Post.newLst r rd p hn⟩
    · split at p
      · rename_i ks e
        obtain ⟨ok, p⟩ := post_if p
        obtain ⟨kvs, e1, e2⟩ := Option.bind_eq_some_iff.mp e
        obtain ⟨a, qs, rfl, s, q⟩ := dct_val r t e1
        refine .inr ⟨a, qs, ks, rfl, .inl s, ints_k q e2, ok, fun ys n pm o hn => ?_⟩
        rw [sorted_unique pm o]
        exact Post.newLst r (rds_ints _) p hn
      · exact p.elim
def shownD (p : PyData) : List Nat := p.shown.cps.toList
def reprOk (p : PyData) : Bool := p.showable && decide (p.depth ≤ 60) && decide (p.shown.length ≤ line) && okS (shownD p)
def gRepr (d : D) (h : MH) : R D := match d with
  | .tup ds => if d.pure = true ∧ reprOk d.py = true then .ok (.str (shownD d.py)) h else .stuck
  | _ => .stuck
def rRepr (K : PySem.W.Frag) : List V → Hp → VK → Prop := fun xs H Q => ∃ (a : Addr) (d : PyData), xs = [.ref a] ∧ Dp K H (.ref a) d ∧ d.canLay0 = true ∧ d.showable = true ∧ d.depth ≤ 60 ∧ d.shown.length ≤ sizeLine ∧ Q (.str d.shown) H
theorem cr_repr {X : Cx} (hg : X.A.guards = some []) (hu : X.A.units + 64 < cLine) : CallR X (.builtin "repr") (rRepr X.K) := by
  intro pins s σ H xs us Q I r h
  obtain ⟨a, d, rfl, hd, cl, sh, dep, sz, q⟩ := h
  obtain ⟨u, rfl, ru⟩ := vals1 r
  obtain rfl : u = Value.ref a := ru
  obtain ⟨as, rd⟩ := Dp.reads I d _ _ hd rfl
  exact repr_of_reads' rd sh (PyData.noDict_hsm (PyData.hasDict_of_canLay d cl)) hg (by omega) (fun _ _ e => e) (fun h' u tk hk => ⟨.str d.shown, H, I.kept hk, ⟨u, rfl⟩, q⟩) sz
theorem lift_repr {K : PySem.W.Frag} : LiftC1 K (rRepr K) gRepr where
  mono := fun d h => by
    unfold gRepr
    split
    · exact mono_if (MonoH.refl h)
    · trivial
  run := fun {ρ h H W d v Q} r t p => by
    unfold gRepr at p
    split at p
    · rename_i ds
      obtain ⟨⟨c1, c2⟩, p⟩ := post_if p
      unfold reprOk at c2
      simp only [Bool.and_eq_true, decide_eq_true_eq] at c2
      obtain ⟨⟨⟨c3, c4⟩, c5⟩, c6⟩ := c2
      obtain ⟨d1, d2⟩ := (t.rdS rfl).dp c1
      have z : ((D.tup ds).py).shown = mx (shownD (D.tup ds).py) := by simp [mx, shownD]
      cases t with
      | tup s q =>
        refine ⟨_, _, rfl, d1, d2, c3, c4, by rw [← line_eq]; exact c5, ?_⟩
        rw [z]
        exact Post.val r p (.str _ c6)
    · exact p.elim
def gMulB (a b : D) (h : MH) : R D := match a, b with
  | .str l, .int n => if (0 ≤ n ∧ n < 2 ^ 24) ∧ l.length * n.toNat ≤ line ∧ l.length ≤ line then .ok (.str (List.replicate n.toNat l).flatten) h else .stuck
  | a, b => gMul a b h
def rMulS : R2 := fun x y H Q => ∃ (l : List Nat) (n : Int), x = .str (mx l) ∧ y = .int n ∧ 0 ≤ n ∧ n < 2 ^ 24 ∧ l.length * n.toNat ≤ line ∧ l.length ≤ line ∧ Q (.str (mx (List.replicate n.toNat l).flatten)) H
theorem foldl_repA (l : List Nat) : ∀ (k : Nat) (acc : List Nat), List.foldl (fun x1 x2 : Array Nat => x1 ++ x2) acc.toArray (List.replicate k l.toArray) = (acc ++ (List.replicate k l).flatten).toArray
  | 0, acc => by simp
  | k + 1, acc => by
    rw [List.replicate_succ, List.foldl_cons, List.replicate_succ, List.flatten_cons, ← List.append_assoc, ← foldl_repA l k (acc ++ l)]
    simp
theorem op_mulS {X : Cx} : OpR X (binaryOp .Mult) rMulS := by
  intro pins s σ H x y v u Q I rx ry h
  obtain ⟨l, n, rfl, rfl, h0, h1, h2, h3, q⟩ := h
  obtain ⟨t, rfl⟩ := rx
  obtain ⟨t2, rfl⟩ := ry
  have hl : (mx l).length = l.length := mx_len l
  have l24 : line = 2 ^ 24 := rfl
  refine P.mul_str ?_ (fun a1 a2 => ?_) (fun a1 a2 => ?_) ?_
  · have a1 : ¬ n < -(2 ^ 63 : Int) := by omega
    have a2 : ¬ n ≥ (2 ^ 63 : Int) := by omega
    rw [decide_eq_false a1, decide_eq_false a2]
    rfl
  · rw [hl]
    have a3 : (0 : Int) < n := by omega
    have a4 : (2 ^ 24 : Int) ≤ (2 ^ 63 - 1) / n := by
      rw [Int.le_ediv_iff_mul_le a3]
      have : n * 2 ^ 24 < 2 ^ 24 * 2 ^ 24 := by omega
      omega
    have : (l.length : Int) ≤ 2 ^ 24 := by rw [l24] at h3; omega
    omega
  · rw [hl]
    unfold PySem.Builtin.Str.tooLong
    rw [← line_eq]
    exact decide_eq_false (by omega)
  · by_cases c1 : n < 1
    · rw [if_pos c1]
      have : n = 0 := by omega
      subst this
      exact ⟨by decide, .str _, H, I.tok _, ⟨s.toks, rfl⟩, q⟩
    · rw [if_neg c1]
      by_cases c2 : (n == 1 || (mx l).length == 0) = true
      · rw [if_pos c2]
        have z : (List.replicate n.toNat l).flatten = l := by
          rw [Bool.or_eq_true] at c2
          rcases c2 with c2 | c2
          · have : n = 1 := by simpa using c2
            subst this
            simp
          · rw [hl] at c2
            have : l = [] := by simpa using c2
            subst this
            simp
        rw [z] at q
        exact ⟨.str _, H, I, ⟨t, rfl⟩, q⟩
      · rw [if_neg c2]
        have z : (⟨(List.replicate n.toNat (mx l).cps).foldl (· ++ ·) #[]⟩ : Str) = mx (List.replicate n.toNat l).flatten := by
          unfold mx
          have := foldl_repA l n.toNat []
          simp at this
          simp [this]
        rw [z]
        refine ⟨?_, .str _, H, I.tok _, ⟨_, rfl⟩, q⟩
        rw [mx_len, ← line_eq]
        simp
        rw [Nat.mul_comm]
        exact h2
theorem op_mulB {X : Cx} : OpR X (binaryOp .Mult) (fun x y H Q => rMulS x y H Q ∨ (rI CMul (fun i j => .int (i * j)) x y H Q ∨ rRep x y H Q)) := op_mulS.or op_mulA
theorem okS_rep {l : List Nat} (ok : okS l = true) (k : Nat) : okS (List.replicate k l).flatten = true := okS_sub ok fun x hx => by
  obtain ⟨a, ha, hb⟩ := List.mem_flatten.mp hx
  rw [List.eq_of_mem_replicate ha] at hb
  exact hb
theorem lift_mulB {K : PySem.W.Frag} : Lift2 K (fun x y H Q => rMulS x y H Q ∨ (rI CMul (fun i j => .int (i * j)) x y H Q ∨ rRep x y H Q)) gMulB where
  mono := fun a b h => by
    unfold gMulB
    split
    · exact mono_if (MonoH.refl h)
    · exact (lift_mul (K := K)).mono _ _ h
  run := fun {ρ h H W a b x y Q} r ta tb p => by
    unfold gMulB at p
    split at p
    · obtain ⟨c, p⟩ := post_if p
      cases tb
      cases ta with
      | str _ ok =>
        exact .inl ⟨_, _, rfl, rfl, c.1.1, c.1.2, c.2.1, c.2.2, Post.val r p (.str _ (okS_rep ok _))⟩
    · exact .inr (lift_mul.run r ta tb p)
end Dn
end
noncomputable section
set_option Elab.async false
set_option linter.all false
set_option maxRecDepth 100000
set_option maxHeartbeats 4000000
namespace Dn
open PySem PySem.Spec PyProof.Rows L2
def cutL {α : Type} (xs : List α) (lo hi : Option Int) : List α := (xs.drop (HT.sIx xs.length 0 lo)).take (HT.sIx xs.length xs.length hi - HT.sIx xs.length 0 lo)
def partOf : D → Option (Option Int)
  | .non => some none
  | .int i => some (some i)
  | _ => none
def cutG (d : D) (lo hi : Option Int) (h : MH) : R D := match d with
  | .str l => if l.length ≤ line then .ok (.str (cutL l lo hi)) h else .stuck
  | .tup ds => .ok (.tup (cutL ds lo hi)) h
  | d => match lstOf h d with
    | some ds => .ok (.tl (cutL ds lo hi)) h
    | none => .stuck
def rSlAll (K : PySem.W.Frag) : V → Option Int → Option Int → Hp → VK → Prop := fun x lo hi H Q => rSlL K x lo hi H Q ∨ (rSlA K x lo hi H Q ∨ rSlS x lo hi H Q)
theorem sl_all {X : Cx} : SlR X (rSlAll X.K) := sl_list.or (sl_tupA.or sl_str)
theorem RDs.cut {K : PySem.W.Frag} {ρ : Nat → Addr} {N : Nat} {H : Hp} {ds : List D} {vs : List V} (q : RDs K ρ N H ds vs) (lo hi : Option Int) : RDs K ρ N H (cutL ds lo hi) (cutV vs lo hi) := by
  unfold cutL cutV
  rw [q.length]
  exact (q.drop _).take _
theorem cut_whole {α : Type} {xs : List α} {lo hi : Option Int} (w : HT.sIx xs.length 0 lo = 0 ∧ HT.sIx xs.length xs.length hi = xs.length) : cutL xs lo hi = xs := by
  unfold cutL
  rw [w.1, w.2]
  simp
theorem okS_cut {l : List Nat} {lo hi : Option Int} (ok : okS l = true) : okS (cutL l lo hi) = true := okS_sub ok fun x hx => by
  unfold cutL at hx
  exact List.mem_of_mem_drop (List.mem_of_mem_take hx)
theorem cutS_mx (l : List Nat) (lo hi : Option Int) : cutS (mx l) lo hi = mx (cutL l lo hi) := by
  unfold cutS cutL
  rw [mx_cps, mx_len]
  rfl
theorem mono_cutG (d : D) (lo hi : Option Int) (h : MH) : MonoR h (cutG d lo hi h) := by
  unfold cutG
  split
  · exact mono_if (MonoH.refl h)
  · exact MonoH.refl h
  · split
    · exact MonoH.refl h
    · trivial
theorem cut_run {K : PySem.W.Frag} {ρ : Nat → Addr} {h : MH} {H : Hp} {W : Value → Option Addr → Hp → Prop} {d : D} {v : V} {lo hi : Option Int} {Q : VK} (r : RH K ρ h H) (t : RT K ρ h H d v) (p : Post K ρ h H W (cutG d lo hi h) Q) : rSlAll K v lo hi H Q := by
  unfold cutG at p
  split at p
  · obtain ⟨c, p⟩ := post_if p
    cases t with
    | str _ ok =>
      refine .inr (.inr ⟨_, rfl, by rw [mx_len, ← line_eq]; exact c, ?_⟩)
      rw [cutS_mx]
      exact Post.val r p (.str _ (okS_cut ok))
  · cases t with
    | @tup a us ds s q =>
      refine .inr (.inl ⟨a, us, rfl, s, fun w => ?_, fun w n hn => Post.newTup r (q.cut lo hi) p hn⟩)
      rw [q.length] at w
      rw [cut_whole w] at p
      exact Post.val r p (.tup s q)
  · split at p
    · rename_i ds e
      obtain ⟨a, us, rfl, s, q⟩ := lst_val r t e
      exact .inl ⟨a, us, rfl, s, fun n hn => Post.newLst r (q.cut lo hi) p hn⟩
    · exact p.elim
def rdO (K : PySem.W.Frag) (W : WX) (m : M D) : TO := fun σ H Q => rdE K W m σ H fun v H1 => (v = .non ∧ Q none H1) ∨ ∃ i, v = .int i ∧ Q (some i) H1
structure SO (X : Cx) (W : WX) (e : Option Expr) (m : M D) : Prop where
  mono : Mono m
  po : PO X e (rdO X.K W m)
theorem weakO {X : Cx} {e : Option Expr} {t t' : TO} (h : PO X e t) (w : ∀ σ H Q, t' σ H Q → t σ H Q) : PO X e t' := ⟨fun pins s σ H Q I q => h.run pins s σ H Q I (w σ H Q q)⟩
def partM (m : M D) : M D := bindM m fun x _ h => match x with
  | .int i => .ok (.int i) h
  | _ => .stuck
def stuckM {α : Type} : M α := fun _ _ => .stuck
def slM (mo ml mh : M D) : M D := bindM mo fun x => bindM ml fun a => match partOf a with
  | some lo => bindM mh fun b _ h => match partOf b with
    | some hi => cutG x lo hi h
    | none => .stuck
  | none => stuckM
theorem mono_slM {mo ml mh : M D} (x : Mono mo) (y : Mono ml) (z : Mono mh) : Mono (slM mo ml mh) := by
  unfold slM
  refine x.bind fun d => y.bind fun a => ?_
  cases partOf a with
  | none => exact fun _ _ => trivial
  | some lo =>
    refine z.bind fun b σ h => ?_
    cases partOf b with
    | none => trivial
    | some hi => exact mono_cutG d lo hi h
section
variable {X : Cx} {W : WX} {e a b : Expr} {lo hi : Option Expr} {m mo ml mh : M D} {pos p2 : Pos}
theorem so_none : SO X W none (retM .non) := ⟨Mono.ret _, weakO po_none fun σ H Q q => by
  obtain ⟨ρ, σm, h, r, p⟩ := q
  rcases Post.val r.heap p .non with ⟨_, z⟩ | ⟨i, z, _⟩
  · exact z
  · cases z⟩
theorem so_some (ha : SE X W e m) : SO X W (some e) (partM m) := ⟨ha.mono.bind fun x _ h => by
    cases x <;> first | exact MonoH.refl h | trivial, weakO (po_some ha.pe) fun σ H Q q => rd_mono (rd_bind ha.mono q) fun v H1 z => by
  obtain ⟨ρ, σm, h, d, r, t, p⟩ := z
  cases d with
  | int i =>
    cases t
    rcases Post.val r.heap p (.int i) with ⟨z, _⟩ | ⟨j, z, q2⟩
    · cases z
    · cases z
      exact ⟨i, rfl, q2⟩
  | _ => exact p.elim⟩
theorem part_v {K : PySem.W.Frag} {ρ : Nat → Addr} {h : MH} {H : Hp} {d : D} {v : V} (t : RT K ρ h H d v) {o : Option Int} (e : partOf d = some o) : (v = .non ∧ o = none) ∨ ∃ i, v = .int i ∧ o = some i := by
  cases d with
  | non => cases t; cases e; exact .inl ⟨rfl, rfl⟩
  | int i => cases t; cases e; exact .inr ⟨i, rfl, rfl⟩
  | _ => cases e
theorem se_slice (ho : SE X W e mo) (hl : SO X W lo ml) (hh : SO X W hi mh) : SE X W (.Subscript e (.Slice lo hi none p2) pos) (slM mo ml mh) :=
  ⟨mono_slM ho.mono hl.mono hh.mono, weakE (pe_slice sl_all ho.pe hl.po hh.po) fun σ H Q q => rd_mono (rd_bind ho.mono q) fun v H1 z => by
    obtain ⟨ρ, σm, h, d, r, t, p⟩ := z
    refine ⟨ρ, σm, h, r, ?_⟩
    dsimp only [bindM] at p
    cases e1 : ml σm h with
    | ok a h1 =>
      rw [e1] at p
      have m1 := hl.mono.ok e1
      refine fun ρ1 v1 H2 s1 r1 t1 f1 => ?_
      have p1 := Post.of_step r1 s1 m1 p
      have tv := t.step r.heap s1 m1
      cases el : partOf a with
      | none => dsimp only at p1; rw [el] at p1; exact p1.elim
      | some lo =>
        dsimp only at p1
        rw [el] at p1
        dsimp only [bindM] at p1
        have cont : rdO X.K W mh σ H2 fun u H3 => rSlAll X.K v lo u H3 Q := by
          refine ⟨ρ1, σm, h1, r.step s1 m1 r1, ?_⟩
          cases e2 : mh σm h1 with
          | ok b h2 =>
            rw [e2] at p1
            have m2 := hh.mono.ok e2
            refine fun ρ2 v2 H3 s2 r2 t2 f2 => ?_
            have p2 := Post.of_step r2 s2 m2 p1
            dsimp only at p2
            cases eh : partOf b with
            | some hi =>
              rw [eh] at p2
              have q3 := cut_run r2 (tv.step r1 s2 m2) p2
              rcases part_v t2 eh with ⟨rfl, rfl⟩ | ⟨i, rfl, rfl⟩
              · exact .inl ⟨rfl, q3⟩
              · exact .inr ⟨i, rfl, q3⟩
            | none => rw [eh] at p2; exact p2.elim
          | exc x h2 => rw [e2] at p1; exact p1
          | stuck => rw [e2] at p1; exact p1
        rcases part_v t1 el with ⟨rfl, rfl⟩ | ⟨i, rfl, rfl⟩
        · exact .inl ⟨rfl, cont⟩
        · exact .inr ⟨i, rfl, cont⟩
    | exc x h1 => rw [e1] at p; exact p
    | stuck => rw [e1] at p; exact p⟩
end
end Dn
end
noncomputable section
set_option Elab.async false
set_option linter.all false
set_option maxRecDepth 100000
set_option maxHeartbeats 4000000
namespace Dn
open PySem PySem.Spec PyProof.Rows L2
theorem Post.setLst {K : PySem.W.Frag} {ρ : Nat → Addr} {h : MH} {H : Hp} {W : Value → Option Addr → Hp → Prop} {n : Nat} {ds ds' : List D} {xs' : List V} {d : D} {v : V} {Q : VK} (r : RH K ρ h H) (e : h[n]? = some (.lst ds)) (q : RDs K ρ h.length H ds' xs') (rd : RD K ρ h.length H d v)
    (p : Post K ρ h H W (.ok d (h.set n (.lst ds'))) Q) : Q v (upd H (ρ n) (.lst xs')) := by
  have g : Grow K ρ h.length H ρ (h.set n (.lst ds')).length (upd H (ρ n) (.lst xs')) := grow_set r e rfl
  have z := rd.grow g
  exact p ρ v _ (Step.set e rfl) (r.set e rfl rfl ⟨xs', upd_same, q.grow g⟩) z.rt (fun ds e1 x e2 => by subst e1; cases rd)
theorem lst_at {K : PySem.W.Frag} {ρ : Nat → Addr} {h : MH} {H : Hp} {n : Nat} {ds : List D} (r : RH K ρ h H) (e : h[n]? = some (.lst ds)) : ∃ xs, H (ρ n) = some (.lst xs) ∧ RDs K ρ h.length H ds xs := r.obj n _ e
inductive Ty where
  | lst | str | dct
def Ty.nm : Ty → String
  | .lst => "list"
  | .str => "str"
  | .dct => "dict"
def tyB (T : Ty) (h : MH) (d : D) : Bool := match T, d with
  | .str, .str _ => true
  | .lst, d => (lstOf h d).isSome
  | .dct, d => (dctOf h d).isSome
  | _, _ => false
theorem ty_v {K : PySem.W.Frag} {ρ : Nat → Addr} {h : MH} {H : Hp} {d : D} {v : V} {T : Ty} (r : RH K ρ h H) (t : RT K ρ h H d v) (e : tyB T h d = true) : tyV K T.nm v H := by
  cases T with
  | str =>
    cases d with
    | str l => cases t; exact rfl
    | _ => cases e
  | lst =>
    have e' : (lstOf h d).isSome = true := by cases d <;> exact e
    obtain ⟨ds, e2⟩ := Option.isSome_iff_exists.mp e'
    obtain ⟨a, us, rfl, s, _⟩ := lst_val r t e2
    exact .inl ⟨rfl, us, s⟩
  | dct =>
    have e' : (dctOf h d).isSome = true := by cases d <;> exact e
    obtain ⟨ds, e2⟩ := Option.isSome_iff_exists.mp e'
    obtain ⟨a, us, rfl, s, _⟩ := dct_val r t e2
    exact .inr (.inr (.inl ⟨rfl, .inl ⟨us, s⟩⟩))
structure LiftMt (K : PySem.W.Frag) (r : V → List V → Hp → VK → Prop) (g : D → List D → MH → R D) : Prop where
  mono : ∀ d ds h, MonoR h (g d ds h)
  run : ∀ {ρ : Nat → Addr} {h : MH} {H : Hp} {W : Value → Option Addr → Hp → Prop} {d : D} {v : V} {ds : List D} {vs : List V} {Q : VK}, RH K ρ h H → RT K ρ h H d v → RTs K ρ h H ds vs → Post K ρ h H W (g d ds h) Q → r v vs H Q
def mtM (T : Ty) (g : D → List D → MH → R D) (mo : M D) (ms : M (List D)) : M D := bindM mo fun x σ h => if tyB T h x = true then bindM ms (fun xs _ h => g x xs h) σ h else .stuck
theorem mono_mtM {T : Ty} {g : D → List D → MH → R D} {mo : M D} {ms : M (List D)} (a : Mono mo) (b : Mono ms) (c : ∀ d ds h, MonoR h (g d ds h)) : Mono (mtM T g mo ms) := a.bind fun x σ h => mono_if ((b.bind fun xs _ h => c x xs h) σ h)
section
variable {X : Cx} {W : WX} {o e : Expr} {es : List Expr} {mo : M D} {ms : M (List D)} {name : Str} {apos cpos : Pos} {T : Ty} {id : String} {r : V → List V → Hp → VK → Prop} {g : D → List D → MH → R D}
theorem mt_run {K : PySem.W.Frag} (L : LiftMt K r g) (mm : Mono mo) (ma : Mono ms) {σ : L2.St} {H : Hp} {Q : VK} (q : rdE K W (mtM T g mo ms) σ H Q) : rdE K W mo σ H fun x H1 => tyV K T.nm x H1 ∧ rdT K W ms σ H1 fun xs H2 => r x xs H2 Q :=
  rd_mono (rd_bind mm q) fun v H1 z => by
    obtain ⟨ρ, σm, h, d, rs, t, p⟩ := z
    obtain ⟨c, p⟩ := post_if p
    refine ⟨ty_v rs.heap t c, ρ, σm, h, rs, ?_⟩
    dsimp only [bindM] at p
    cases e1 : ms σm h with
    | ok ds h1 =>
      rw [e1] at p
      have m1 := ma.ok e1
      exact fun ρ1 vs H2 s1 r1 t1 => L.run r1 (t.step rs.heap s1 m1) t1 (Post.of_step r1 s1 m1 p)
    | exc x h1 => rw [e1] at p; exact p
    | stuck => rw [e1] at p; exact p
theorem se_mt (pa : PlainAttrs T.nm) (slot : Slot T.nm name id) (hty : typeOf (.builtin id) = pure (.type "method_descriptor")) (hm : MtR X id r) (L : LiftMt X.K r g) (ho : SE X W o mo) (ha : ST X W (e :: es) ms)
    (hbase : attributeBase o name X.env (eval o X.env) = eval o X.env := by rfl)
    (hfew : ((backTo cpos (starEach (e :: es) X.env)).all (fun x => !x.1) && (backToKw cpos (keywordEach [] X.env)).all (fun x => x.1.isSome)
      && decide ((e :: es).length + ([] : List Keyword).length + (if ([] : List Keyword).isEmpty then 0 else 1) < 30)) = true := by rfl)
    (hline : (apos.endLine == cpos.line) = true := by rfl) (hs : starEach (e :: es) X.env = (false, eval e X.env) :: starEach es X.env := by rfl) (hplain : (backTo cpos (starEach es X.env)).any (·.1) = false := by rfl) :
    SE X W (.Call (.Attribute o name apos) (e :: es) [] cpos) (mtM T g mo ms) :=
  ⟨mono_mtM ho.mono ha.mono L.mono, weakE (pe_bm pa slot hty hm ho.pe ha.pa hbase hfew hline hs hplain) fun σ H Q q => mt_run L ho.mono ha.mono q⟩
theorem se_mt0 (pa : PlainAttrs T.nm) (slot : Slot T.nm name id) (hty : typeOf (.builtin id) = pure (.type "method_descriptor")) (hm : MtR X id r) (L : LiftMt X.K r g) (ho : SE X W o mo)
    (hbase : attributeBase o name X.env (eval o X.env) = eval o X.env := by rfl) (hline : (apos.endLine == cpos.line) = true := by rfl) :
    SE X W (.Call (.Attribute o name apos) [] [] cpos) (mtM T g mo nilM) :=
  ⟨mono_mtM ho.mono (Mono.ret _) L.mono, weakE (pe_bm0 pa slot hty hm ho.pe hbase hline) fun σ H Q q => rd_mono (mt_run L ho.mono (Mono.ret _) q) fun v H1 z => by
    obtain ⟨a, ρ, σm, h, rs, p⟩ := z
    exact ⟨a, p ρ [] H1 Step.refl rs.heap .nil⟩⟩
end
def gAppend (d : D) (ds : List D) (h : MH) : R D := match d, ds with
  | .ref n, [x] => match h[n]? with
    | some (.lst xs) => if x.st = true ∧ xs.length < line then .ok .non (h.set n (.lst (xs ++ [x]))) else .stuck
    | _ => .stuck
  | _, _ => .stuck
theorem lift_append {K : PySem.W.Frag} : LiftMt K rAppend gAppend where
  mono := fun d ds h => by
    unfold gAppend
    split
    · split
      · rename_i e
        exact mono_if (mono_set e rfl)
      · trivial
    · trivial
  run := fun {ρ h H W d v ds vs Q} r t ts p => by
    unfold gAppend at p
    split at p
    · split at p
      · rename_i x n xs e
        obtain ⟨c, p⟩ := post_if p
        cases t
        cases ts with
        | cons a b =>
          cases b
          obtain ⟨us, e1, q⟩ := lst_at r e
          exact ⟨_, us, _, rfl, rfl, e1, by rw [q.length, ← line_eq]; exact c.2, Post.setLst r e (q.append (.cons (a.rdS c.1) .nil)) .non p⟩
      · exact p.elim
    · exact p.elim
def gPop (d : D) (ds : List D) (h : MH) : R D := match d, ds with
  | .ref n, [] => match h[n]? with
    | some (.lst xs) => match xs[xs.length - 1]? with
      | some x => .ok x (h.set n (.lst xs.dropLast))
      | none => .stuck
    | _ => .stuck
  | .ref n, [.int i] => match h[n]? with
    | some (.lst xs) => match seqIndex? i xs.length with
      | some k => match xs[k]? with
        | some x => if -(2 ^ 63) ≤ i ∧ i < 2 ^ 63 then .ok x (h.set n (.lst (xs.eraseIdx k))) else .stuck
        | none => .stuck
      | none => .stuck
    | _ => .stuck
  | _, _ => .stuck
theorem RDs.dropLast {K : PySem.W.Frag} {ρ : Nat → Addr} {N : Nat} {H : Hp} {ds : List D} {vs : List V} (q : RDs K ρ N H ds vs) : RDs K ρ N H ds.dropLast vs.dropLast := by
  rw [List.dropLast_eq_take, List.dropLast_eq_take, q.length]
  exact q.take _
theorem RDs.erase {K : PySem.W.Frag} {ρ : Nat → Addr} {N : Nat} {H : Hp} : ∀ {ds : List D} {vs : List V} (i : Nat), RDs K ρ N H ds vs → RDs K ρ N H (ds.eraseIdx i) (vs.eraseIdx i)
  | _, _, _, .nil => .nil
  | _, _, 0, .cons _ t => t
  | _, _, i + 1, .cons a t => .cons a (RDs.erase i t)
theorem lift_pop {K : PySem.W.Frag} : LiftMt K (fun x vs H Q => rPop x vs H Q ∨ rPopAt x vs H Q) gPop where
  mono := fun d ds h => by
    unfold gPop
    split
    · split
      · rename_i e
        split
        · exact mono_set e rfl
        · trivial
      · trivial
    · split
      · rename_i e
        split
        · split
          · exact mono_if (mono_set e rfl)
          · trivial
        · trivial
      · trivial
    · trivial
  run := fun {ρ h H W d v ds vs Q} r t ts p => by
    unfold gPop at p
    split at p
    · split at p
      · rename_i n xs e
        split at p
        · rename_i x ex
          cases t
          cases ts
          obtain ⟨us, e1, q⟩ := lst_at r e
          obtain ⟨u, eu, ru⟩ := q.get ex
          exact .inl ⟨_, us, u, rfl, rfl, e1, by rw [q.length]; exact eu, Post.setLst r e q.dropLast ru p⟩
        · exact p.elim
      · exact p.elim
    · split at p
      · rename_i i _ xs e
        split at p
        · rename_i k ek
          split at p
          · rename_i x ex
            obtain ⟨c, p⟩ := post_if p
            cases t
            cases ts with
            | cons a b =>
              cases b
              cases a
              obtain ⟨us, e1, q⟩ := lst_at r e
              obtain ⟨u, eu, ru⟩ := q.get ex
              exact .inr ⟨_, us, i, k, u, rfl, rfl, e1, c.1, c.2, by rw [q.length]; exact ek, eu, Post.setLst r e (q.erase k) ru p⟩
          · exact p.elim
        · exact p.elim
      · exact p.elim
    · exact p.elim
theorem mt_popB {X : Cx} : MtR X "list.pop" (fun x vs H Q => rPop x vs H Q ∨ rPopAt x vs H Q) := MtR.or (r := rPop) (r' := rPopAt) mt_pop mt_popAt
def strsOf : List D → Option (List (List Nat))
  | [] => some []
  | .str x :: r => (strsOf r).map (x :: ·)
  | _ => none
theorem strs_v {K : PySem.W.Frag} {ρ : Nat → Addr} {N : Nat} {H : Hp} : ∀ {ds : List D} {vs : List V} {ls : List (List Nat)}, RDs K ρ N H ds vs → strsOf ds = some ls → vs = (ls.map mx).map V.str ∧ ∀ l ∈ ls, okS l = true
  | _, _, _, .nil, e => by cases e; exact ⟨rfl, fun l hl => by cases hl⟩
  | _, _, ls, .cons (d := d) a t, e => by
    cases d with
    | str x =>
      unfold strsOf at e
      obtain ⟨cs, e1, rfl⟩ := Option.map_eq_some_iff.mp e
      cases a with
      | str _ ok =>
        obtain ⟨z1, z2⟩ := strs_v t e1
        refine ⟨by rw [z1]; rfl, fun l hl => ?_⟩
        rcases List.mem_cons.mp hl with rfl | hl
        · exact ok
        · exact z2 l hl
    | _ => cases e
def gJoin (d : D) (ds : List D) (h : MH) : R D := match d, ds with
  | .str s, [x] => match (lstOf h x).bind strsOf with
    | some ls => if (ls.map List.length).sum + ls.length * s.length ≤ 16777216 then .ok (.str (TL.joinL s ls)) h else .stuck
    | none => .stuck
  | _, _ => .stuck
theorem okS_join {s : List Nat} (hs : okS s = true) : ∀ {ls : List (List Nat)}, (∀ l ∈ ls, okS l = true) → okS (TL.joinL s ls) = true
  | [], _ => rfl
  | [p], h => h p List.mem_cons_self
  | p :: q :: r, h => by
    rw [TL.joinL, okS_append, okS_append, h p List.mem_cons_self, hs, okS_join hs fun l hl => h l (List.mem_cons_of_mem _ hl)]
    rfl
theorem mx_join (s : List Nat) (ls : List (List Nat)) : Txt.join (mx s) (ls.map mx) = mx (TL.joinL s ls) := by
  rw [TL.join_eq]
  have z := TL.tl_join (mx s) (ls.map mx)
  have e : ∀ y : Str, y = mx (TL.tl y) := fun y => by simp [mx, TL.tl]
  rw [e (Str.join (mx s) (ls.map mx)), z, List.map_map]
  have e2 : TL.tl (mx s) = s := mx_cps s
  have e3 : (TL.tl ∘ mx) = id := by funext l; exact mx_cps l
  rw [e2, e3, List.map_id]
theorem lift_join {K : PySem.W.Frag} : LiftMt K (fun x xs H Q => ∃ a p, ∃ ys : List Str, x = .str a ∧ xs = [.ref p] ∧ (SqL K H p (ys.map V.str) ∨ SqT K H p (ys.map V.str)) ∧
    (ys.map (·.length)).sum + ys.length * a.length ≤ 16777216 ∧ Q (.str (Txt.join a ys)) H) gJoin where
  mono := fun d ds h => by
    unfold gJoin
    split
    · split
      · exact mono_if (MonoH.refl h)
      · trivial
    · trivial
  run := fun {ρ h H W d v ds vs Q} r t ts p => by
    unfold gJoin at p
    split at p
    · split at p
      · rename_i ls e
        obtain ⟨c, p⟩ := post_if p
        cases t with
        | str s ok =>
          cases ts with
          | cons a b =>
            cases b
            obtain ⟨es, e1, e2⟩ := Option.bind_eq_some_iff.mp e
            obtain ⟨l, us, rfl, s1, q⟩ := lst_val r a e1
            obtain ⟨z1, z2⟩ := strs_v q e2
            subst z1
            refine ⟨mx _, l, ls.map mx, rfl, rfl, .inl s1, ?_, ?_⟩
            · rw [List.map_map, List.length_map, mx_len]
              have e3 : ((fun y : Str => y.length) ∘ mx) = List.length := by funext l; exact mx_len l
              rw [e3]
              exact c
            · rw [mx_join]
              exact Post.val r p (.str _ (okS_join ok z2))
      · exact p.elim
    · exact p.elim
end Dn
end
noncomputable section
set_option Elab.async false
set_option linter.all false
set_option maxRecDepth 100000
set_option maxHeartbeats 4000000
namespace Dn
open PySem PySem.Spec PyProof.Rows L2
def putD (k v : D) (kvs : List (D × D)) : List (D × D) := if (kvs.any fun kv => keyB kv.1 k) = true then kvs.map (fun kv => if keyB kv.1 k = true then (kv.1, v) else kv) else kvs ++ [(k, v)]
def gSet (o i v : D) (h : MH) : Option MH := match o with
  | .ref n => match h[n]? with
    | some (.lst ds) => match i with
      | .int k => (ixN ds.length k).map fun j => h.set n (.lst (ds.set j v))
      | _ => none
    | some (.dct kvs) => if (keyD i).isSome = true ∧ kvs.length < line then some (h.set n (.dct (putD i v kvs))) else none
    | _ => none
  | _ => none
theorem RK.put {K : PySem.W.Frag} {ρ : Nat → Addr} {N : Nat} {H : Hp} {k v : D} {q : Key} {u : V} (ek : keyD k = some q) (rk : RD K ρ N H k (kV q)) (rv : RD K ρ N H v u) {kvs : List (D × D)} {qs : List (Key × V)} (r : RK K ρ N H kvs qs) : RK K ρ N H (putD k v kvs) (putK qs q u) := by
  have e1 : ∀ {kvs : List (D × D)} {qs : List (Key × V)}, RK K ρ N H kvs qs → (kvs.any fun kv => keyB kv.1 k) = (qs.any fun kv => decide (kv.1 = q)) := by
    intro kvs qs r
    induction r with
    | nil => rfl
    | cons e a b t ih =>
      rw [List.any_cons, List.any_cons, ih]
      congr 1
      show (match keyD _, keyD k with | some a, some b => decide (a = b) | _, _ => false) = _
      rw [e, ek]
  have e2 : ∀ {kvs : List (D × D)} {qs : List (Key × V)}, RK K ρ N H kvs qs → RK K ρ N H (kvs.map fun kv => if keyB kv.1 k = true then (kv.1, v) else kv) (qs.map fun kv => if kv.1 = q then (kv.1, u) else kv) := by
    intro kvs qs r
    induction r with
    | nil => exact .nil
    | @cons k' d q' v' kvs qs e a b t ih =>
      rw [List.map_cons, List.map_cons]
      by_cases c : q' = q
      · have z : keyB k' k = true := by
          unfold keyB
          rw [e, ek]
          simpa using c
        simp only [z, if_true, if_pos c]
        exact .cons e a rv ih
      · have z : ¬ keyB k' k = true := by
          unfold keyB
          rw [e, ek]
          simpa using c
        simp only [if_neg z, if_neg c]
        exact .cons e a b ih
  have e3 : ∀ {kvs : List (D × D)} {qs : List (Key × V)}, RK K ρ N H kvs qs → RK K ρ N H (kvs ++ [(k, v)]) (qs ++ [(q, u)]) := by
    intro kvs qs r
    induction r with
    | nil => exact .cons ek rk rv .nil
    | cons e a b t ih => exact .cons e a b ih
  unfold putD putK
  rw [e1 r]
  by_cases c : (qs.any fun kv => decide (kv.1 = q)) = true
  · rw [if_pos c, if_pos c]; exact e2 r
  · rw [if_neg c, if_neg c]; exact e3 r
theorem RK.grow' {K : PySem.W.Frag} {ρ ρ' : Nat → Addr} {N N' : Nat} {H H' : Hp} (g : Grow K ρ N H ρ' N' H') {kvs : List (D × D)} {qs : List (Key × V)} (r : RK K ρ N H kvs qs) : RK K ρ' N' H' kvs qs := RK.grow g r
def PSet_or {X : Cx} {t t' : TSet} (h : PSet X t) (h' : PSet X t') : PSet X (fun o i v H Q => t o i v H Q ∨ t' o i v H Q) := fun pins s σ H o i v ov iv u Q I ro ri rv q => q.elim (h pins s σ H o i v ov iv u Q I ro ri rv) (h' pins s σ H o i v ov iv u Q I ro ri rv)
def rSetA : TSet := fun o i v H Q => rSetL o i v H Q ∨ rSetD o i v H Q
theorem set_all {X : Cx} (hu : X.A.units + 64 < cLine) : PSet X rSetA := PSet_or set_list (set_dict (by omega))
def setIxS (mo mi me : M D) : MS := runS me fun v => runS mo fun o => runS mi fun i σ h => if v.st = true then (match gSet o i v h with
  | some h' => .nx σ h'
  | none => .stuck) else .stuck
theorem gSet_mono {o i v : D} {h h' : MH} (e : gSet o i v h = some h') : MonoH h h' := by
  unfold gSet at e
  split at e
  · split at e
    · rename_i e1
      split at e
      · obtain ⟨j, _, rfl⟩ := Option.map_eq_some_iff.mp e
        exact mono_set e1 rfl
      · cases e
    · rename_i e1
      split at e
      · cases e; exact mono_set e1 rfl
      · cases e
    · cases e
  · cases e
theorem mono_setIx {mo mi me : M D} (a : Mono mo) (b : Mono mi) (c : Mono me) : MonoS (setIxS mo mi me) := mono_run c fun v => mono_run a fun o => mono_run b fun i σ h => by
  by_cases z : v.st = true
  · rw [if_pos z]
    cases e : gSet o i v h with
    | some h' => exact gSet_mono e
    | none => trivial
  · rw [if_neg z]; trivial
theorem dct_at {K : PySem.W.Frag} {ρ : Nat → Addr} {h : MH} {H : Hp} {n : Nat} {kvs : List (D × D)} (r : RH K ρ h H) (e : h[n]? = some (.dct kvs)) : ∃ qs, H (ρ n) = some (.dK qs) ∧ RK K ρ h.length H kvs qs := r.obj n _ e
theorem gSet_run {K : PySem.W.Frag} {ρ : Nat → Addr} {h h' : MH} {H : Hp} {o i v : D} {x y z : V} {Q : Hp → Prop} (r : RH K ρ h H) (to : RT K ρ h H o x) (ti : RT K ρ h H i y) (tv : RD K ρ h.length H v z) (e : gSet o i v h = some h') (p : ∀ H', Step ρ h H ρ h' H' → RH K ρ h' H' → Q H') : rSetA x y z H Q := by
  unfold gSet at e
  split at e
  · split at e
    · rename_i ds e1
      split at e
      · rename_i k
        obtain ⟨j, ej, rfl⟩ := Option.map_eq_some_iff.mp e
        cases to
        cases ti
        obtain ⟨us, e2, q⟩ := lst_at r e1
        refine .inl ⟨_, us, k, j, rfl, rfl, e2, by rw [q.length]; exact ej, ?_⟩
        have g : Grow K ρ h.length H ρ (h.set _ (.lst (ds.set j v))).length (upd H (ρ _) (.lst (us.set j z))) := grow_set r e1 rfl
        exact p _ (Step.set e1 rfl) (r.set e1 rfl rfl ⟨_, upd_same, (RDs.set tv j q).grow g⟩)
      · cases e
    · rename_i kvs e1
      split at e
      · rename_i c
        cases e
        cases to
        obtain ⟨qs, e2, q⟩ := dct_at r e1
        obtain ⟨kq, ek⟩ := Option.isSome_iff_exists.mp c.1
        have rd : RD K ρ h.length H i y := ti.rdS (by cases i <;> first | rfl | cases ek)
        have ev := keyD_v rd ek
        subst ev
        refine .inr ⟨_, _, rfl, DPut.k e2 (by rw [q.length, ← line_eq]; exact c.2), ?_⟩
        have g : Grow K ρ h.length H ρ (h.set _ (.dct (putD i v kvs))).length (upd H (ρ _) (.dK (putK qs kq z))) := grow_set r e1 rfl
        exact p _ (Step.set e1 rfl) (r.set e1 rfl rfl ⟨_, upd_same, (q.put ek rd tv).grow g⟩)
      · cases e
    · cases e
  · cases e
section
variable {X : Cx} {W : WX} {o i e : Expr} {mo mi me : M D} {pos p2 : Pos}
theorem ss_setIx (hu : X.A.units + 64 < cLine) (he : SE X W e me) (ho : SE X W o mo) (hi : SE X W i mi) (hs : swapsWithSole [.Subscript o i p2] e pos.line X.env = pure false := by rfl) (hw : swappedStores [.Subscript o i p2] e X.env = pure none := by rfl)
    (h1 : (assignEach [.Subscript o i p2] X.env).map (·.2) = [assign (.Subscript o i p2) X.env] := by rfl)
    (ha : ∀ v, assign (.Subscript o i p2) X.env v = (do
      let ov ← holding [v] (eval o X.env)
      let iv ← holding [v, ov] (eval i X.env)
      standAt p2
      holding [v, ov, iv] (setItem ov iv v)
      release [v, ov, iv] []) := by intro _; rfl) :
    SS X W (.Assign [.Subscript o i p2] e pos) (setIxS mo mi me) :=
  ⟨mono_setIx ho.mono hi.mono he.mono, weakS (ps_asg he.pe (pg_sub ho.pe hi.pe (set_all hu) ha) hs hw h1) fun E σ H q => rd_mono (rdS_run he.mono q) fun v H1 z => by
    obtain ⟨ρ, σm, h, d, r, t, p⟩ := z
    refine ⟨ρ, σm, h, r, ?_⟩
    dsimp only [runS] at p
    cases e1 : mo σm h with
    | ok od h1 =>
      rw [e1] at p
      have m1 := ho.mono.ok e1
      refine fun ρ1 x H2 s1 r1 t1 f1 => ?_
      have p1 := PostS.of_step r1 s1 m1 p
      dsimp only at p1
      refine ⟨ρ1, σm, h1, r.step s1 m1 r1, ?_⟩
      cases e2 : mi σm h1 with
      | ok id h2 =>
        rw [e2] at p1
        have m2 := hi.mono.ok e2
        refine fun ρ2 y H3 s2 r2 t2 f2 => ?_
        have p2 := PostS.of_step r2 s2 m2 p1
        dsimp only at p2
        obtain ⟨c, p2⟩ := postS_if p2
        cases e3 : gSet od id d h2 with
        | some h3 =>
          rw [e3] at p2
          have td := ((t.step r.heap s1 m1).step r1 s2 m2).rdS c
          have r3 := (r.step s1 m1 r1).step s2 m2 r2
          exact gSet_run r2 (t1.step r1 s2 m2) t2 td e3 fun H' s' r' => p2 ρ2 σ H' s' (r3.step s' (gSet_mono e3) r')
        | none => rw [e3] at p2; exact p2.elim
      | exc x h2 => rw [e2] at p1; exact fun ρ' c d H' s' rh rx => p1 ρ' c d σ H' s' ((r.step s1 m1 r1).step s' (hi.mono.exc e2) rh) rx
      | stuck => rw [e2] at p1; exact p1
    | exc x h1 => rw [e1] at p; exact fun ρ' c d H' s' rh rx => p ρ' c d σ H' s' (r.step s' (ho.mono.exc e1) rh) rx
    | stuck => rw [e1] at p; exact p⟩
end
def dct1M (mk mv : M D) : M D := bindM mk fun k => bindM mv fun v _ h => if (keyD k).isSome = true ∧ v.st = true then .ok (.ref h.length) (h ++ [.dct [(k, v)]]) else .stuck
def dct0M : M D := fun _ h => .ok (.ref h.length) (h ++ [.dct []])
section
variable {X : Cx} {W : WX} {k v : Expr} {mk mv : M D} {pos : Pos}
theorem se_dct0 : SE X W (.Dict [] [] pos) dct0M := ⟨fun σ h => mono_new, weakE pe_dnewK fun σ H Q q p hp => by
  obtain ⟨ρ, σm, h, r, z⟩ := q
  have z1 := r.heap.new (ho := HO.dK []) (o := MO.dct []) hp ⟨[], upd_same, .nil⟩
  have z2 : RD X.K (put ρ h.length p) (h ++ [MO.dct []]).length (upd H p (.dK [])) (.ref h.length) (.ref (put ρ h.length p h.length)) := .ref _ (by simp)
  rw [put_eq] at z2
  exact z _ _ _ (Step.new hp) z1 z2.rt z2.fr0⟩
theorem RH.adoptD {K : PySem.W.Frag} {ρ : Nat → Addr} {h : MH} {H : Hp} {p : Addr} {o : MO} (r : RH K ρ h H) (q : RO K (put ρ h.length p) (h ++ [o]).length H o p) (ne : ∀ n, Mu h n → ρ n ≠ p) : RH K (put ρ h.length p) (h ++ [o]) H := by
  have g : Grow K ρ h.length H (put ρ h.length p) (h ++ [o]).length H := ⟨by simp, fun n hn => put_ne (Nat.ne_of_lt hn), fun _ _ z => z⟩
  have back : ∀ n, Mu (h ++ [o]) n → n ≠ h.length → Mu h n := fun n m hn => by
    have l := m.lt
    rw [List.length_append] at l
    exact mono_new.mu' (by simp at l; omega) m
  refine ⟨fun n u eu => ?_, fun m n hm hn e => ?_⟩
  · by_cases hn : n = h.length
    · subst hn
      rw [List.getElem?_concat_length] at eu
      cases eu
      rw [put_eq]
      exact q
    · have l : n < h.length := by
        have z := (List.getElem?_eq_some_iff.mp eu).1
        rw [List.length_append] at z
        simp at z
        omega
      rw [List.getElem?_append_left l] at eu
      rw [put_ne hn]
      exact (r.obj n u eu).keep (fun _ _ z => z) g
  · by_cases h1 : m = h.length
    · by_cases h2 : n = h.length
      · rw [h1, h2]
      · rw [h1, put_eq, put_ne h2] at e
        exact absurd e.symm (ne n (back n hn h2))
    · by_cases h2 : n = h.length
      · rw [h2, put_eq, put_ne h1] at e
        exact absurd e (ne m (back m hm h1))
      · rw [put_ne h1, put_ne h2] at e
        exact r.inj m n (back m hm h1) (back n hn h2) e
theorem grow_sideD {K : PySem.W.Frag} {ρ : Nat → Addr} {H : Hp} {p : Addr} {kvs : List (Key × V)} {o : HO} (e : H p = some (.dK kvs)) {N : Nat} : Grow K ρ N H ρ N (upd H p o) := ⟨Nat.le_refl _, fun _ _ => rfl, fun a ys q => by
  rcases q with (q | ⟨u, q⟩) | q
  · refine .inl (.inl ?_)
    rw [upd_ne (fun x => by subst x; rw [e] at q; cases q)]
    exact q
  · refine .inl (.inr ⟨u, ?_⟩)
    rw [upd_ne (fun x => by subst x; rw [e] at q; cases q)]
    exact q
  · exact .inr q⟩
theorem RH.sideD {K : PySem.W.Frag} {ρ : Nat → Addr} {h : MH} {H : Hp} {p : Addr} {kvs : List (Key × V)} {o : HO} (r : RH K ρ h H) (e : H p = some (.dK kvs)) (ne : ∀ n, Mu h n → ρ n ≠ p) : RH K ρ h (upd H p o) := by
  have g : Grow K ρ h.length H ρ h.length (upd H p o) := grow_sideD e
  refine ⟨fun n u eu => ?_, r.inj⟩
  have z := r.obj n u eu
  cases u with
  | lst ds =>
    obtain ⟨xs, a, b⟩ := z
    exact ⟨xs, by rw [upd_ne (ne n ⟨_, eu, rfl⟩)]; exact a, b.grow g⟩
  | rol ds =>
    obtain ⟨xs, a, b⟩ := z
    refine ⟨xs, ?_, b.grow g⟩
    rcases a with ⟨w, a⟩ | a
    · exact .inl ⟨w, by rw [upd_ne (fun x => by rw [x, e] at a; cases a)]; exact a⟩
    · exact .inr a
  | dct es =>
    obtain ⟨xs, a, b⟩ := z
    exact ⟨xs, by rw [upd_ne (ne n ⟨_, eu, rfl⟩)]; exact a, b.grow g⟩
  | ins C fs =>
    obtain ⟨dx, gs, a, a2, b⟩ := z
    exact ⟨dx, gs, by rw [upd_ne (ne n ⟨_, eu, rfl⟩)]; exact a, by rw [upd_ne (fun x => by rw [x, e] at a2; cases a2)]; exact a2, b.grow g⟩
theorem Step.nn {K : PySem.W.Frag} {ρ ρ' : Nat → Addr} {h h' : MH} {H H' : Hp} {p : Addr} {o : HO} (s : Step ρ h H ρ' h' H') (m : MonoH h h') (ne : ∀ n, Mu h n → ρ n ≠ p) (e : H p = some o) : ∀ n, Mu h' n → ρ' n ≠ p := fun n mn x => by
  by_cases hn : n < h.length
  · rw [s.ag n hn] at x
    exact ne n (m.mu' hn mn) x
  · have z := s.fresh n (Nat.le_of_not_lt hn) mn.lt
    rw [x, e] at z
    cases z
theorem se_dct1 (hk : SE X W k mk) (hv : SE X W v mv) : SE X W (.Dict [some k] [v] pos) (dct1M mk mv) :=
  ⟨hk.mono.bind fun _ => hv.mono.bind fun _ _ h => mono_if mono_new, weakE (pe_disp (pps_cons hk.pe hv.pe pps_nil) rfl rfl (by simp) (by simp)) fun σ H Q q p hp => by
    obtain ⟨ρ, σm, h, r, z⟩ := q
    have kp := keep_new (o := HO.dK []) hp
    have r0 : RS X.K ρ σm h σ (upd H p (.dK [])) := r.step (Step.keep kp) (MonoH.refl h) (r.heap.keep kp)
    have ne0 : ∀ n, Mu h n → ρ n ≠ p := fun n m e => r.heap.nn m (by rw [e]; exact hp)
    have e0 : upd H p (.dK []) p = some (.dK []) := upd_same
    show rdE X.K W mk σ (upd H p (.dK [])) fun x H1 => rdE X.K W mv σ H1 fun y H2 => tPairs [] σ H2 fun ps H3 => _
    have z0 := Post.of_step (r.heap.keep kp) (Step.keep kp) (MonoH.refl h) z
    refine ⟨ρ, σm, h, r0, ?_⟩
    dsimp only [dct1M, bindM] at z0
    cases e1 : mk σm h with
    | ok kd h1 =>
      rw [e1] at z0
      have m1 := hk.mono.ok e1
      refine fun ρ1 x H1 s1 r1 t1 f1 => ?_
      have z1 := Post.of_step r1 s1 m1 z0
      dsimp only at z1
      refine ⟨ρ1, σm, h1, r0.step s1 m1 r1, ?_⟩
      cases e2 : mv σm h1 with
      | ok vd h2 =>
        rw [e2] at z1
        have m2 := hv.mono.ok e2
        refine fun ρ2 y H2 s2 r2 t2 f2 => ?_
        have z2 := Post.of_step r2 s2 m2 z1
        dsimp only at z2
        obtain ⟨c, z2⟩ := post_if z2
        have e3 : H1 p = some (.dK []) := s1.fr p _ e0 ne0
        have ne1 : ∀ n, Mu h1 n → ρ1 n ≠ p := s1.nn (K := X.K) m1 ne0 e0
        have e4 : H2 p = some (.dK []) := s2.fr p _ e3 ne1
        have ne2 : ∀ n, Mu h2 n → ρ2 n ≠ p := s2.nn (K := X.K) m2 ne1 e3
        obtain ⟨q, eq⟩ := Option.isSome_iff_exists.mp c.1
        have rk : RD X.K ρ2 h2.length H2 kd x := (t1.step r1 s2 m2).rdS (by cases kd <;> first | rfl | cases eq)
        have rv : RD X.K ρ2 h2.length H2 vd y := t2.rdS c.2
        have ev := keyD_v rk eq
        subst ev
        refine ⟨e4, [(q, y)], rfl, by simp, ?_⟩
        have em : mergeK [] [(q, y)] = [(q, y)] := rfl
        rw [em]
        have ra := r2.sideD (o := HO.dK [(q, y)]) e4 ne2
        have gs : Grow X.K ρ2 h2.length H2 ρ2 h2.length (upd H2 p (.dK [(q, y)])) := grow_sideD e4
        have gp : Grow X.K ρ2 h2.length (upd H2 p (.dK [(q, y)])) (put ρ2 h2.length p) (h2 ++ [MO.dct [(kd, vd)]]).length (upd H2 p (.dK [(q, y)])) := ⟨by simp, fun n hn => put_ne (Nat.ne_of_lt hn), fun _ _ z => z⟩
        have rb := ra.adoptD (o := MO.dct [(kd, vd)]) ⟨[(q, y)], upd_same, .cons eq ((rk.grow gs).grow gp) ((rv.grow gs).grow gp) .nil⟩ ne2
        have z3 : RD X.K (put ρ2 h2.length p) (h2 ++ [MO.dct [(kd, vd)]]).length (upd H2 p (.dK [(q, y)])) (.ref h2.length) (.ref (put ρ2 h2.length p h2.length)) := .ref _ (by simp)
        rw [put_eq] at z3
        have sa : Step ρ h H ρ2 h2 (upd H2 p (.dK [(q, y)])) := by
          have s12 : Step ρ h H ρ2 h2 H2 := (Step.trans (r.heap.keep kp) (Step.keep kp) (MonoH.refl h) s1 |> fun a => Step.trans r1 a m1 s2)
          exact ⟨s12.ag, s12.fresh, fun a u eu hn => by
            rw [upd_ne (ne_of_none eu hp)]
            exact s12.fr a u eu hn⟩
        have sb : Step ρ h H (put ρ2 h2.length p) (h2 ++ [MO.dct [(kd, vd)]]) (upd H2 p (.dK [(q, y)])) := sa.adopt hp (m1.trans m2)
        have z' : Post X.K ρ h H (fun c d => W c d σ) (.ok (.ref h2.length) (h2 ++ [.dct [(kd, vd)]])) Q := by
          have zz := z
          dsimp only [dct1M, bindM] at zz
          rw [e1] at zz
          dsimp only at zz
          rw [e2] at zz
          dsimp only at zz
          rw [if_pos c] at zz
          exact zz
        exact z' _ _ _ sb rb z3.rt z3.fr0
      | exc x h2 => rw [e2] at z1; exact z1
      | stuck => rw [e2] at z1; exact z1
    | exc x h1 => rw [e1] at z0; exact z0
    | stuck => rw [e1] at z0; exact z0⟩
end
end Dn
end
noncomputable section
set_option Elab.async false
set_option linter.all false
set_option maxRecDepth 100000
set_option maxHeartbeats 4000000
namespace Dn
open PySem PySem.Spec PyProof.Rows L2
abbrev tHash (P : Program) (w : World) (k : List Key) : Int := tupleKeyHash (mixKind P w) k
abbrev IsK (P : Program) (w : World) (h : Heap) (k : List Key) (a : Addr) : Prop := IsTupleKey (mixKind P w) h k a
def atomV (v : Value) : Prop := (∃ i t, v = .int i t) ∨ ∃ x t, v = .str x t
section
variable {P : Program} {w : World} {A : Around} {E : Value → Shared → Prop} {s : Shared}
theorem atoms {k : List Key} {vs : List Value} (h : ItemsAre (mixKind P w) k vs) : ∀ v ∈ vs, atomV v := by
  induction h with
  | nil => intro v hv; exact nomatch hv
  | cons h1 _ ih =>
    intro v hv
    cases hv with
    | head => rcases keyIs_shape h1 with ⟨i, t, _, e⟩ | ⟨x, t, _, e⟩ <;> subst e
              · exact .inl ⟨i, t, rfl⟩
              · exact .inr ⟨x, t, rfl⟩
    | tail _ hv => exact ih v hv
theorem atom_plain {v : Value} (h : atomV v) (n : Nat) : ofAClassStatement n v = pure false ∧ (hashByValue n v = pure true ∨ hashByValue n v = pure false) := by
  rcases h with ⟨i, t, rfl⟩ | ⟨x, t, rfl⟩ <;> cases n <;> first | exact ⟨rfl, .inl rfl⟩ | exact ⟨rfl, .inr rfl⟩
theorem tupOfNone {k : List Key} {b : Addr} {Q : Bool → Shared → Prop} (hk : IsK P w s.heap k b) (h : Q false s) : wpAny (model P w) A (ofAClassStatement 8 (.ref b)) Q E s := by
  have ty := hk.typeIs
  obtain ⟨o, its, n, e1, _, e2, e3⟩ := hk
  unfold ofAClassStatement
  refine wpAny_bind (wpAny_typeOf ty ?_)
  dsimp only
  have tt : (("tuple" : String) == "tuple") = true := by decide
  simp only [tt, if_true, Bool.not_true, Bool.false_eq_true, if_false]
  try refine wpAny_bind (wpAny_pure ?_)
  try simp only [Bool.not_true, Bool.false_eq_true, if_false]
  show wpAny _ _ (seqItems? (.ref b) >>= _) _ _ s
  refine wpAny_bind (wpAny_seqItems e1 e2 ?_)
  dsimp only
  refine wpAny_bind ?_
  show wpAny _ _ (forIn its _ _) _ _ s
  rw [← Array.forIn_toList]
  refine wpAny_forIn_list _ (fun left r z => (r.1 = none ∧ z = s) ∧ ∀ v ∈ left, atomV v) _ ?_ ?_ _ _ ⟨⟨rfl, rfl⟩, atoms e3⟩
  · rintro v left r z ⟨⟨hr, rfl⟩, al⟩
    rw [(atom_plain (al v List.mem_cons_self) _).1]
    refine wpAny_bind (wpAny_pure ?_)
    simp only [Bool.false_eq_true, if_false]
    exact wpAny_pure ⟨⟨rfl, rfl⟩, fun u hu => al u (List.mem_cons_of_mem _ hu)⟩
  · rintro ⟨r1, r2⟩ z ⟨⟨hr, rfl⟩, _⟩
    simp only at hr
    subst hr
    exact wpAny_pure h
theorem tupByValue {k : List Key} {b : Addr} {Q : Bool → Shared → Prop} (hk : IsK P w s.heap k b) (h : ∀ c, Q c s) : wpAny (model P w) A (hashByValue 8 (.ref b)) Q E s := by
  have ty := hk.typeIs
  obtain ⟨o, its, n, e1, _, e2, e3⟩ := hk
  unfold hashByValue
  refine wpAny_bind (wpAny_specialOf ty F.slot_tuple_hash.lookup ?_)
  show wpAny _ _ (seqItems? (.ref b) >>= _) _ _ s
  refine wpAny_bind (wpAny_seqItems e1 e2 ?_)
  refine wpAny_bind ?_
  show wpAny _ _ (forIn its _ _) _ _ s
  rw [← Array.forIn_toList]
  refine wpAny_forIn_list _ (fun left r z => ((r.1 = none ∨ r.1 = some false) ∧ z = s) ∧ (∀ v ∈ left, atomV v)) _ ?_ ?_ _ _ ⟨⟨.inl rfl, rfl⟩, atoms e3⟩
  · rintro v left r z ⟨⟨hr, rfl⟩, al⟩
    rcases (atom_plain (al v List.mem_cons_self) 7).2 with e | e
    · rw [e]
      refine wpAny_bind (wpAny_pure ?_)
      simp only [Bool.not_true, Bool.false_eq_true, if_false]
      exact wpAny_pure ⟨⟨.inl rfl, rfl⟩, fun u hu => al u (List.mem_cons_of_mem _ hu)⟩
    · rw [e]
      refine wpAny_bind (wpAny_pure ?_)
      simp only [Bool.not_false, if_true]
      exact wpAny_pure (show wpAny (model P w) A (pure false) Q E z from wpAny_pure (h false))
  · rintro ⟨r1, r2⟩ z ⟨⟨hr, rfl⟩, _⟩
    simp only at hr
    rcases hr with hr | hr
    · subst hr
      exact wpAny_pure (h true)
    · subst hr
      exact wpAny_pure (h false)
def tupRef (P : Program) (w : World) (h : Heap) (y : Value) : Prop := ∃ k c, y = Value.ref c ∧ IsK P w h k c
theorem tupUnseen {k : List Key} {b : Addr} {Q : Bool → Shared → Prop} (hk : IsK P w s.heap k b) {ys : List Value} (hy : ∀ y ∈ ys, tupRef P w s.heap y) (h : Q false s) : wpAny (model P w) A (searchCouldBeSeen (.ref b) ys) Q E s := by
  unfold searchCouldBeSeen
  refine wpAny_bind ?_
  refine wpAny_forIn_list _ (fun left r z => (r.1 = none ∧ z = s) ∧ ∀ y ∈ left, tupRef P w s.heap y) _ ?_ ?_ _ _ ⟨⟨rfl, rfl⟩, hy⟩
  · rintro v left r z ⟨⟨hr, rfl⟩, al⟩
    obtain ⟨k2, c, rfl, hc⟩ := al v List.mem_cons_self
    have al2 : ∀ y ∈ left, tupRef P w z.heap y := fun u hu => al u (List.mem_cons_of_mem _ hu)
    dsimp only
    by_cases hv : (b == c || (carriedByValue (.ref b) && carriedByValue (.ref c))) = true
    · refine wp_if_pos hv ?_
      exact wpAny_pure ⟨⟨rfl, rfl⟩, al2⟩
    · refine wp_if_neg hv (wpAny_bind (wpAny_eqIsQuiet_tuple hk ?_))
      simp only [Bool.not_true, Bool.false_eq_true, if_false]
      refine wpAny_bind (wpAny_eqIsQuiet_tuple hc ?_)
      simp only [Bool.not_true, Bool.false_eq_true, if_false]
      refine wpAny_bind (tupOfNone hk ?_)
      simp only [Bool.false_eq_true, if_false]
      refine wpAny_bind (tupOfNone hc ?_)
      simp only [Bool.false_eq_true, if_false]
      exact wpAny_pure ⟨⟨rfl, rfl⟩, al2⟩
  · rintro ⟨r1, r2⟩ z ⟨⟨hr, rfl⟩, _⟩
    simp only at hr
    subst hr
    exact wpAny_pure h
abbrev EL := Addr × List Key
def hsOf (P : Program) (w : World) (L : List EL) : List Int := L.map fun p => tHash P w p.2
def entOf (P : Program) (w : World) (p : EL) : Int × Value := (tHash P w p.2, Value.ref p.1)
structure TbOk (P : Program) (w : World) (L : List EL) (es : Array (Int × Value)) (t : SetTable) : Prop where
  rows : es.toList = L.map (entOf P w)
  tab : TabOk t (hsOf P w L)
  nd : (L.map (·.2)).Nodup
  few : L.length < 64
def TbAt (h : Heap) (a : Addr) (es : Array (Int × Value)) (ep : Nat) (t : SetTable) : Prop := ∃ o, h.get? a = some o ∧ o.ExactSet ∧ o.data = .set es ep t
variable {a : Addr} {L : List EL} {es : Array (Int × Value)} {ep : Nat} {t : SetTable}
theorem TbOk.size (R : TbOk P w L es t) : es.size = L.length := by
  have z := congrArg List.length R.rows
  simpa using z
theorem TbOk.psize (R : TbOk P w L es t) : t.place.size = L.length := by
  have z := R.tab.sz
  simpa [hsOf] using z
theorem TbOk.fits (R : TbOk P w L es t) (hr : L.length ≤ t.mask) : t.fits es.size = true := by
  unfold SetTable.fits SetTable.fill
  rw [R.tab.dm, Bool.and_eq_true, beq_iff_eq, decide_eq_true_eq, R.size, R.psize]
  exact ⟨rfl, hr⟩
theorem TbOk.ent (R : TbOk P w L es t) {i : Nat} {p : EL} (h : L[i]? = some p) : es[i]? = some (entOf P w p) := by
  rw [← Array.getElem?_toList, R.rows, List.getElem?_map, h]
  rfl
theorem TbOk.hash (R : TbOk P w L es t) {i : Nat} {p : EL} (h : L[i]? = some p) : (es[i]?.map (·.1)).getD 0 = tHash P w p.2 := by
  rw [R.ent h]
  rfl
abbrev wayK (P : Program) (w : World) (t : SetTable) (k : List Key) (c : Nat) : Nat := way t.mask (tHash P w k) c
abbrev prK (P : Program) (w : World) (t : SetTable) (k : List Key) (c : Nat) : SetTable.Probe := nth t.mask (runAt t.mask (SetTable.bits (tHash P w k) % (t.mask + 1)) (SetTable.bits (tHash P w k))) c
theorem prK_dummy (k : List Key) (c : Nat) : (prK P w t k c).dummy = none := by
  have key : ∀ (n : Nat) (p : SetTable.Probe), p.dummy = none → (nth t.mask p n).dummy = none := fun n => by
    induction n with
    | zero => exact fun p h => h
    | succ n ih =>
      refine fun p h => ih (adv t.mask p) ?_
      unfold adv
      split <;> exact h
  exact key c _ rfl
theorem prK_add (k : List Key) (c q : Nat) : nth t.mask (prK P w t k c) q = prK P w t k (c + q) := (nth_add t.mask c _ q).symm
theorem findFrom (B : TbAt s.heap a es ep t) (R : TbOk P w L es t) (tup : ∀ p ∈ L, IsK P w s.heap p.2 p.1) (hr : L.length ≤ t.mask) {x : Addr} {k : List Key} (hx : IsK P w s.heap k x) (hu : A.units < cLine) {K : Nat} (hKf : K < 10 * SetTable.turns t.mask)
    (hK : wayK P w t k K ∉ t.place.toList) (hKb : ∀ c, c < K → wayK P w t k c ∈ t.place.toList) {Q : SetFound → Shared → Prop}
    (yes : k ∈ L.map (·.2) → Q (.there none) s) (no : k ∉ L.map (·.2) → Q (.free (wayK P w t k K) false) s) :
    ∀ (f c : Nat) (st : Option SetTable.Probe), st.getD (t.probeStart (tHash P w k)) = prK P w t k c → c ≤ K → K - c < f →
      (∀ (i : Nat) (p : EL), L[i]? = some p → p.2 = k → ∃ c', (c ≤ c' ∧ c' < K) ∧ t.place.toList[i]? = some (wayK P w t k c')) →
      wpAny (model P w) A (setSearchFrom a (.ref x) (tHash P w k) true f st) Q E s := by
  intro f
  induction f with
  | zero => exact fun c st _ _ hf _ => absurd hf (Nat.not_lt_zero _)
  | succ f ih =>
    intro c st hst hc hf hre
    obtain ⟨o, ho, hex, hd⟩ := B
    have hfit := R.fits hr
    rw [setSearchFrom_succ]
    refine wpAny_bind (wpAny_setState_of ho hd hfit ?_)
    dsimp only
    refine wp_if_neg (by unfold SetTable.gaveWay; rw [mask_odd R.tab.mok]; decide) ?_
    try refine wpAny_bind (wpAny_pure ?_)
    have at_ : ∀ q, (nth t.mask (prK P w t k c) q).j = wayK P w t k (c + q) := fun q => congrArg SetTable.Probe.j (prK_add k c q)
    have goal := go_spec t R.tab.ris R.tab.dm (fun i => (es[i]?.map (·.1)).getD 0) (tHash P w k) (10 * SetTable.turns t.mask) (K - c) (prK P w t k c) (prK_dummy k c) (by omega)
      (fun q hq => by rw [at_]; exact hKb (c + q) (by omega)) (by rw [at_, show c + (K - c) = K by omega]; exact hK)
    rcases goal with ⟨q, i, hq, hi, hh, hno, hpr⟩ | ⟨hno, hpr⟩
    · rw [at_] at hi
      have il : i < L.length := by
        have z := (List.getElem?_eq_some_iff.mp hi).1
        rw [Array.length_toList, R.psize] at z
        exact z
      obtain ⟨p, hp⟩ : ∃ p, L[i]? = some p := ⟨_, List.getElem?_eq_getElem il⟩
      have pm : p ∈ L := List.mem_of_getElem? hp
      have pr : t.probe (fun i => (es[i]?.map (·.1)).getD 0) (tHash P w k) (st.getD (t.probeStart (tHash P w k))) = some (.candidate (wayK P w t k (c + q)) i (prK P w t k (c + (q + 1)))) := by
        rw [hst, ← at_ q, ← prK_add k c (q + 1)]
        exact hpr
      rw [pr]
      dsimp only
      have body : wpAny (model P w) A (searchRest a (.ref x) (tHash P w k) true f es t (wayK P w t k (c + q)) i (prK P w t k (c + (q + 1)))) Q E s := by
        unfold searchRest
        rw [R.ent hp]
        dsimp only [entOf]
        refine wpAny_bind (wpAny_holding (wpAny_eqBool_tuple hu (tup p pm) hx ?_))
        refine wpAny_bind (wpAny_setState_of ho hd hfit ?_)
        dsimp only
        by_cases same : p.2 = k
        · refine wp_if_pos (by simp [same]) (wpAny_pure (yes (List.mem_map.mpr ⟨p, pm, same⟩)))
        · refine wp_if_neg (by simp [same]) ?_
          try refine wpAny_bind (wpAny_pure ?_)
          rw [sameMem]
          dsimp only
          have lv : t.slot (wayK P w t k (c + q)) = .live i := slot_live R.tab.ris hi
          simp only [if_true, lv, R.ent hp, entOf]
          refine wpAny_bind (wpAny_isSame_ref_self (wpAny_bind (wpAny_pure ?_)))
          simp only [if_true]
          refine wp_if_neg (by simp [same]) ?_
          refine ih (c + (q + 1)) _ rfl (by omega) (by omega) fun i0 p0 h0 k0 => ?_
          obtain ⟨c', ⟨a1, a2⟩, a3⟩ := hre i0 p0 h0 k0
          refine ⟨c', ⟨?_, a2⟩, a3⟩
          rcases Nat.lt_trichotomy c' (c + q) with z | z | z
          · exfalso
            refine hno (c' - c) i0 (by omega) (by rw [at_, show c + (c' - c) = c' by omega]; exact a3) ?_
            show (es[i0]?.map (·.1)).getD 0 = _
            rw [R.hash h0, k0]
          · exfalso
            subst z
            have lv2 := slot_live R.tab.ris a3
            rw [lv] at lv2
            injection lv2 with e0
            subst e0
            rw [hp] at h0
            cases h0
            exact same k0
          · omega
      by_cases hl : t.led = true
      · refine wp_if_neg (by simp [hl]) ?_
        try refine wpAny_bind (wpAny_pure ?_)
        exact body
      · refine wp_if_pos (by simp [hl]) (wpAny_bind (tupUnseen hx (fun y hy => ?_) ?_))
        · obtain ⟨e, he, ee⟩ := List.mem_map.mp hy
          have z1 : e ∈ es := (by simpa using he : e ∈ es ∧ _).1
          have z2 : e ∈ es.toList := by simpa using z1
          rw [R.rows] at z2
          obtain ⟨p2, hp2, e2⟩ := List.mem_map.mp z2
          subst e2
          exact ⟨p2.2, p2.1, ee.symm, tup p2 hp2⟩
        · refine wp_if_neg (by decide) ?_
          try refine wpAny_bind (wpAny_pure ?_)
          exact body
    · have e2 : wayK P w t k K = (nth t.mask (prK P w t k c) (K - c)).j := by rw [at_, show c + (K - c) = K by omega]
      have pr : t.probe (fun i => (es[i]?.map (·.1)).getD 0) (tHash P w k) (st.getD (t.probeStart (tHash P w k))) = some (.empty (wayK P w t k K) none) := by
        rw [hst, e2]
        exact hpr
      rw [pr]
      dsimp only
      refine wpAny_pure (no fun hm => ?_)
      obtain ⟨p0, h0, k0⟩ := List.mem_map.mp hm
      obtain ⟨i0, h1⟩ := List.getElem?_of_mem h0
      obtain ⟨c', ⟨a1, a2⟩, a3⟩ := hre i0 p0 h1 k0
      refine hno (c' - c) i0 (by omega) (by rw [at_, show c + (c' - c) = c' by omega]; exact a3) ?_
      show (es[i0]?.map (·.1)).getD 0 = _
      rw [R.hash h1, k0]
theorem findAt (B : TbAt s.heap a es ep t) (R : TbOk P w L es t) (tup : ∀ p ∈ L, IsK P w s.heap p.2 p.1) (hr : L.length ≤ t.mask) {x : Addr} {k : List Key} (hx : IsK P w s.heap k x) (hu : A.units < cLine) {Q : SetFound → Shared → Prop}
    (yes : k ∈ L.map (·.2) → Q (.there none) s)
    (no : ∀ K, k ∉ L.map (·.2) → wayK P w t k K ∉ t.place.toList → (∀ c, c < K → wayK P w t k c ∈ t.place.toList) → Q (.free (wayK P w t k K) false) s) :
    wpAny (model P w) A (setSearch a (.ref x) (tHash P w k) true) Q E s := by
  obtain ⟨K, f1, f2, f3⟩ := R.tab.first (by unfold hsOf; rw [List.length_map]; exact hr) (tHash P w k)
  have lt : K < 100000 := by
    have z : 10 * SetTable.turns t.mask ≤ 1420 := by
      unfold SetTable.turns
      rcases R.tab.mok with e | e | e <;> omega
    omega
  unfold setSearch
  refine findFrom B R tup hr hx hu f1 f2 f3 yes (fun n => no K n f2 f3) 100000 0 none rfl (Nat.zero_le _) (by omega) fun i p hp hk => ?_
  have e1 : (hsOf P w L)[i]? = some (tHash P w k) := by
    unfold hsOf
    rw [List.getElem?_map, hp, ← hk]
    rfl
  have il : i < t.place.toList.length := by
    rw [Array.length_toList, R.psize]
    exact (List.getElem?_eq_some_iff.mp hp).1
  have e2 := List.getElem?_eq_getElem il
  obtain ⟨c, hc, e3⟩ := R.tab.before f2 e1 e2
  exact ⟨c, ⟨Nat.zero_le _, hc⟩, e2.trans (congrArg some e3.symm)⟩
end
end Dn
end
noncomputable section
set_option Elab.async false
set_option linter.all false
set_option maxRecDepth 100000
set_option maxHeartbeats 4000000
namespace Dn
open PySem PySem.Spec PyProof.Rows L2
theorem range_items {α : Type} : ∀ L : List α, (List.range L.length).filterMap (fun i => L[i]?) = L
  | [] => rfl
  | x :: xs => by
    rw [List.length_cons, List.range_succ_eq_map, List.filterMap_cons, List.filterMap_map]
    have e : ((fun i => (x :: xs)[i]?) ∘ Nat.succ) = fun i => xs[i]? := by
      funext i
      simp
    rw [e, range_items xs]
    rfl
section
variable {P : Program} {w : World} {A : Around} {E : Value → Shared → Prop} {s : Shared}
variable {a : Addr} {L : List EL} {es : Array (Int × Value)} {ep : Nat} {t : SetTable}
theorem TbOk.ent' (R : es.toList = L.map (entOf P w)) (i : Nat) : es[i]? = (L[i]?).map (entOf P w) := by
  rw [← Array.getElem?_toList, R, List.getElem?_map]
theorem isK_but {h h' : Heap} {k : List Key} {b : Addr} (x : IsK P w h k b) (B : TbAt h a es ep t) (sb : Heap.SameBut a h h') : IsK P w h' k b := by
  obtain ⟨o, its, n, e1, e2, e3, e4⟩ := x
  obtain ⟨o2, f1, f2, f3⟩ := B
  have ne : b ≠ a := fun q => by
    subst q
    rw [e1] at f1
    cases f1
    rw [e3] at f3
    cases f3
  exact ⟨o, its, n, (sb.2 b ne).trans e1, e2, e3, e4⟩
theorem layAnew (B : TbAt s.heap a es ep t) (R : TbOk P w L es t) (hr : L.length ≤ t.mask) {wanted M : Nat} (hw : SetTable.sizeAbove wanted - 1 = M) (hM : MaskOk M) (hw2 : SetTable.sizeAbove wanted ≤ 128) (hn : L.length ≤ M) {Q : Unit → Shared → Prop}
    (hQ : ∀ h' L' es' ep' t', Heap.SameBut a s.heap h' → TbAt h' a es' ep' t' → TbOk P w L' es' t' → L'.Perm L → t'.mask = M → Q () { s with heap := h' }) : wpAny (model P w) A (setRelay a wanted) Q E s := by
  obtain ⟨o, ho, hex, hd⟩ := B
  have sz := R.size
  obtain ⟨t2, ord, e1, pm, T, em, el, ep2, ed⟩ := relaid_ok t (hs := es.map (·.1)) (wanted := wanted) hw hM (by rw [Array.size_map, sz]; exact hn)
  rw [Array.size_map, sz] at pm
  let L2 := ord.toList.filterMap fun i => L[i]?
  have r1 : (ord.filterMap (es[·]?)).toList = L2.map (entOf P w) := by
    rw [Array.toList_filterMap, List.map_filterMap]
    congr 1
    funext i
    exact TbOk.ent' R.rows i
  have r2 : L2.Perm L := by
    have z := pm.filterMap fun i => L[i]?
    rw [range_items] at z
    exact z
  have r3 : hsOf P w L2 = ord.toList.map fun i => (es.map (·.1)).getD i 0 := by
    have key : ∀ l : List Nat, (∀ i ∈ l, i < L.length) → hsOf P w (l.filterMap fun i => L[i]?) = l.map fun i => (es.map (·.1)).getD i 0 := fun l => by
      induction l with
      | nil => exact fun _ => rfl
      | cons i l ih =>
        intro hl
        have hi := hl i List.mem_cons_self
        have e := TbOk.ent' R.rows i
        rw [List.getElem?_eq_getElem hi] at e
        rw [List.filterMap_cons_some (List.getElem?_eq_getElem hi), List.map_cons, ← ih fun j hj => hl j (List.mem_cons_of_mem _ hj)]
        show tHash P w L[i].2 :: _ = _
        congr 1
        rw [Array.getD_eq_getD_getElem?, Array.getElem?_map, e]
        rfl
    exact key _ fun i hi => List.mem_range.mp (pm.mem_iff.mp hi)
  rw [← r3] at T
  have sz2 : (ord.filterMap (es[·]?)).size = es.size := by
    have z := congrArg List.length r1
    rw [Array.length_toList, List.length_map, r2.length_eq] at z
    rw [z, sz]
  rw [setRelay_eq]
  refine wpAny_bind (wpAny_setState_of ho hd (R.fits hr) ?_)
  dsimp only
  refine wp_if_neg (by rw [sizeLine_eq]; omega) ?_
  try refine wpAny_bind (wpAny_pure ?_)
  rw [e1]
  dsimp only
  refine wpAny_bind ?_
  refine wp_if_neg (by rw [sz2]; simp) ?_
  try refine wpAny_bind (wpAny_pure ?_)
  refine wpAny_pure ?_
  dsimp only
  refine wpAny_storeSet_of ho hd ?_ (by have := R.few; rw [sz2, sz, sizeLine_eq]; omega)
  refine hQ _ L2 (ord.filterMap (es[·]?)) (ep + 1) t2 (Heap.SameBut.update ..) ⟨_, store_at ho hd, ⟨hex.1, hex.2.1, hex.2.2⟩, rfl⟩ ⟨r1, T, ?_, by rw [r2.length_eq]; exact R.few⟩ r2 em
  exact (r2.map (·.2)).nodup_iff.mpr R.nd
structure SetT (P : Program) (w : World) (h : Heap) (a : Addr) (L : List EL) : Prop where
  ex : ∃ es ep t, TbAt h a es ep t ∧ TbOk P w L es t ∧ L.length * 5 < t.mask * 3
theorem SetT.at (R : SetT P w s.heap a L) : ∃ o, s.heap.get? a = some o ∧ o.ExactSet := by
  obtain ⟨es, ep, t, ⟨o, e, x, _⟩, _⟩ := R.ex
  exact ⟨o, e, x⟩
theorem putIn (R0 : SetT P w s.heap a L) (tup : ∀ p ∈ L, IsK P w s.heap p.2 p.1) {x : Addr} {k : List Key} (hx : IsK P w s.heap k x) (hu : A.units < cLine) (hfew : L.length + 1 < 64) {Q : Bool → Shared → Prop}
    (hQ : ∀ b h' L', Heap.SameBut a s.heap h' → SetT P w h' a L' → (k ∈ L.map (·.2) → L' = L) → (k ∉ L.map (·.2) → L'.Perm ((x, k) :: L)) → Q b { s with heap := h' }) :
    wpAny (model P w) A (setAddHashed a (.ref x) (tHash P w k)) Q E s := by
  obtain ⟨es, ep, t, B, R, room⟩ := R0.ex
  have hr : L.length ≤ t.mask := by omega
  obtain ⟨o, ho, hex, hd⟩ := id B
  unfold setAddHashed
  refine wpAny_holding ?_
  rw [show (100000 : Nat) = 99999 + 1 from rfl, setAddHashedIn_succ]
  refine wpAny_bind (wpAny_setState_of ho hd (R.fits hr) ?_)
  dsimp only
  refine wp_if_neg (by simp [byScan, Value.scannable]) ?_
  try refine wpAny_bind (wpAny_pure ?_)
  refine wpAny_bind (findAt B R tup hr hx hu (fun hm => ?_) fun K hm hK hb => ?_)
  · exact wpAny_pure (hQ false s.heap L (Heap.SameBut.refl a s.heap) R0 (fun _ => rfl) fun z => absurd hm z)
  · dsimp only
    refine wpAny_bind (wpAny_setState_of ho hd (R.fits hr) ?_)
    dsimp only
    obtain ⟨q1, q2, q3, q4, q5, q6, q7, q8, q9⟩ := R.tab.put hK hb
    dsimp only [wayK]
    generalize hpt : t.put (way t.mask (tHash P w k) K) = pt at q1 q3 q4 q5 q6 q7 q8 q9 ⊢
    obtain ⟨t1, bl⟩ := pt
    dsimp only at q1 q3 q4 q5 q6 q7 q8 q9 ⊢
    rw [← q1] at q2 q3
    have lenH : (hsOf P w L).length = L.length := by simp [hsOf]
    rw [lenH] at q2 q9
    let L1 := L.take bl ++ (x, k) :: L.drop bl
    have pm : L1.Perm ((x, k) :: L) := put_perm L bl (x, k)
    have ln1 : L1.length = L.length + 1 := pm.length_eq
    have eh : hsOf P w L1 = (hsOf P w L).take bl ++ tHash P w k :: (hsOf P w L).drop bl := by
      show (L.take bl ++ (x, k) :: L.drop bl).map _ = _
      rw [List.map_append, List.map_cons, List.map_take, List.map_drop]
      rfl
    rw [← eh] at q3
    have rows1 : (SetTable.insertAt es bl (tHash P w k, Value.ref x)).toList = L1.map (entOf P w) := by
      show _ = (L.take bl ++ (x, k) :: L.drop bl).map _
      rw [SetTable.toList_insertAt, R.rows, List.map_append, List.map_cons, List.map_take, List.map_drop]
      rfl
    have nd1 : (L1.map (·.2)).Nodup := (pm.map (·.2)).nodup_iff.mpr (by rw [List.map_cons]; exact List.nodup_cons.mpr ⟨hm, R.nd⟩)
    have szE := congrArg List.length rows1
    rw [Array.length_toList, List.length_map, ln1] at szE
    generalize SetTable.insertAt es bl (tHash P w k, Value.ref x) = es1 at rows1 szE ⊢
    have fin : ∀ t2 : SetTable, t2.mask = t1.mask → TabOk t2 (hsOf P w L1) → t2.fill = t1.fill → wpAny (model P w) A (do
        storeSet a es1 t2
        if (!false && t2.tooFull) = true then do
            setRelay a (SetTable.grown (es.size + 1))
            pure true
          else pure true) Q E s := fun t2 m2 T2 f2 => by
      refine wpAny_bind (wpAny_storeSet_of ho hd ?_ (by rw [szE, sizeLine_eq]; omega))
      have sb : Heap.SameBut a s.heap (s.heap.update a (Obj.putSet es1 t2)) := Heap.SameBut.update ..
      have B1 : TbAt (s.heap.update a (Obj.putSet es1 t2)) a es1 (ep + 1) t2 := ⟨_, store_at ho hd, ⟨hex.1, hex.2.1, hex.2.2⟩, rfl⟩
      have R1 : TbOk P w L1 es1 t2 := ⟨rows1, T2, nd1, by rw [ln1]; exact hfew⟩
      by_cases hf : t2.tooFull = true
      · refine wp_if_pos (by simp [hf]) ?_
        have full : (L.length + 1) * 5 ≥ t2.mask * 3 := by
          have z := hf
          unfold SetTable.tooFull at z
          rw [decide_eq_true_eq, f2, q9] at z
          exact z
        rw [R.size]
        have two : (t.mask = 7 ∧ L.length = 4) ∨ (t.mask = 31 ∧ L.length = 18) := by
          rw [m2, q4] at full
          rcases R.tab.mok with e | e | e
          · left; omega
          · right; omega
          · exfalso; omega
        have go : ∀ M, SetTable.sizeAbove (SetTable.grown (L.length + 1)) - 1 = M → MaskOk M → SetTable.sizeAbove (SetTable.grown (L.length + 1)) ≤ 128 → (L.length + 1) * 5 < M * 3 →
            wpAny (model P w) A (do setRelay a (SetTable.grown (L.length + 1)); pure true) Q E { s with heap := s.heap.update a (Obj.putSet es1 t2) } := fun M g1 g2 g3 g4 => by
          refine wpAny_bind (layAnew (s := { s with heap := s.heap.update a (Obj.putSet es1 t2) }) B1 R1 (by rw [ln1, m2, q4]; omega) g1 g2 g3 (by rw [ln1]; omega) fun h2 L2 es2 ep2 t3 sb2 B2 R2 pm2 mm => ?_)
          refine wpAny_pure (hQ true h2 L2 (sb.trans sb2) ⟨es2, ep2, t3, B2, R2, ?_⟩ (fun z => absurd z hm) fun _ => pm2.trans pm)
          rw [pm2.length_eq, ln1, mm]
          exact g4
        rcases two with ⟨_, e⟩ | ⟨_, e⟩
        · exact go 31 (by rw [e, size_20]) (.inr (.inl rfl)) (by rw [e, size_20]; decide) (by omega)
        · exact go 127 (by rw [e, size_76]) (.inr (.inr rfl)) (by rw [e, size_76]; decide) (by omega)
      · refine wp_if_neg (by simp [hf]) ?_
        refine wpAny_pure (hQ true _ L1 sb ⟨es1, ep + 1, t2, B1, R1, ?_⟩ (fun z => absurd z hm) fun _ => pm)
        have z := hf
        unfold SetTable.tooFull at z
        rw [decide_eq_true_eq, f2, q9] at z
        rw [ln1]
        omega
    have T' : TabOk { t1 with plain := false } (hsOf P w L1) := ⟨q3.ris, q3.dm, q3.sz, q3.mok, q3.bd, q3.reach⟩
    have fin2 : ∀ c : Bool, wpAny (model P w) A (do
        storeSet a es1 (if c = true then t1 else { t1 with plain := false })
        if (!false && (if c = true then t1 else { t1 with plain := false }).tooFull) = true then do
            setRelay a (SetTable.grown (es.size + 1))
            pure true
          else pure true) Q E s := fun c => by
      cases c with
      | true => exact fin t1 rfl q3 rfl
      | false => exact fin { t1 with plain := false } rfl T' rfl
    by_cases hp : t1.plain = true
    · exact wp_if_pos hp (wpAny_bind (tupByValue hx fun c => fin2 c))
    · refine wp_if_neg hp ?_
      first
        | exact fin2 true
        | exact wpAny_bind (wpAny_pure (fin2 true))
end
end Dn
end
noncomputable section
set_option Elab.async false
set_option linter.all false
set_option maxRecDepth 100000
set_option maxHeartbeats 4000000
namespace Dn
open PySem PySem.Spec PyProof.Rows L2
structure SSys where
  El : Type
  κ : Type
  dec : DecidableEq κ
  key : El → κ
  ho : Program → World → Addr → List El → HO
  isEl : PySem.W.Frag → Hp → V → El → Prop
  ext : ∀ P w a L, ∃ f, ho P w a L = .ext f
  fresh : ∀ {P : Program} {w : World} {H : Hp} {h : Heap}, ObjOk P w H (h.push { cls := .type "set", dict := none, data := .set #[] 0 (.fresh 0 0 (!w.params.followText "set-order")) }) h.objs.size (ho P w h.objs.size [])
  add : ∀ {X : Cx} {pins : List (Addr × Obj)} {σ : L2.St} {H : Hp} {s : Shared} {E : Value → Shared → Prop} {D : Addr} {L : List El} {y : V} {u : Value} {e : El} {Q : Value → Shared → Prop}, X.A.units + 64 < cLine → Inv X pins σ H s → H D = some (ho X.prog X.w D L) → isEl X.K H y e →
    (∀ p ∈ L, ∃ x, isEl X.K H x p) → RelV y u → L.length + 1 < 64 →
    (∀ L' s', (key e ∈ L.map key → L' = L) → (key e ∉ L.map key → L'.Perm (e :: L)) → Inv X pins σ (upd H D (ho X.prog X.w D L')) s' → Q .none s') → wpAny (model X.prog X.w) X.A (call (.builtin "set.add") [.ref D, u]) Q E s
  len : ∀ {X : Cx} {pins : List (Addr × Obj)} {σ : L2.St} {H : Hp} {s : Shared} {E : Value → Shared → Prop} {D : Addr} {L : List El} {Q : Value → Shared → Prop}, Inv X pins σ H s → H D = some (ho X.prog X.w D L) → (∀ t s', Inv X pins σ H s' → Q (.int L.length t) s') → wpAny (model X.prog X.w) X.A (call (.builtin "len") [.ref D]) Q E s
instance memKey (j : Key) (L : List Key) : Decidable (j ∈ L) := @List.instDecidableMemOfLawfulBEq Key instBEqOfDecidableEq inferInstance j L
def memB (L : List Key) (j : Key) : Bool := decide (j ∈ L)
theorem memB_cons (L : List Key) (k : Key) : (fun j => memB L j || decide (j = k)) = memB (if k ∈ L then L else k :: L) := by
  funext j
  by_cases c : k ∈ L
  · rw [if_pos c]
    unfold memB
    by_cases e : j = k
    · subst e; simp [c]
    · simp [e]
  · rw [if_neg c]
    unfold memB
    by_cases e : j = k
    · subst e; simp
    · simp [e]
theorem len_setK {X : Cx} {pins : List (Addr × Obj)} {σ : L2.St} {H : Hp} {s : Shared} {E : Value → Shared → Prop} {D : Addr} {S : Key → Bool} {n : Nat} {Q : Value → Shared → Prop} (I : Inv X pins σ H s) (e : H D = some (SetK X.prog X.w D S n)) (h : ∀ t s', Inv X pins σ H s' → Q (.int n t) s') :
    wpAny (model X.prog X.w) X.A (call (.builtin "len") [.ref D]) Q E s := by
  obtain ⟨o, es, ep, t, ho, hex, hd, _, _, hb, hf, hn⟩ := setK_get I e
  subst hn
  refine call_len_set ho hex hd hf ?_ (h _ _ (I.tok _))
  unfold scanBound at hb
  omega
def atomSys : SSys where
  El := Key
  κ := Key
  dec := inferInstance
  key := id
  ho := fun P w a L => SetK P w a (memB L) L.length
  isEl := fun K H y e => y = kV e
  ext := fun P w a L => ⟨_, rfl⟩
  fresh := fun {P w H h} => setK_new ⟨_, #[], 0, _, Heap.get?_push_size _ rfl, ⟨rfl, rfl, rfl⟩, rfl, (fun e he => by simp at he), (fun k => by simp [memB]), (by decide), (by rfl), rfl⟩
  add := fun {X pins σ H s E D L y u e Q} hu I hD hy _ ry hl h => by
    subst hy
    refine call_set_add (kV_is ry) (key_scan ry) (setK_get I hD) (by unfold scanBound; omega) fun h' sb new => ?_
    have he : ∃ u, h'.get? D = some u := by
      have ⟨o, _, _, _, ho, _⟩ := new
      exact ⟨o, ho⟩
    have en : (if memB L e = true then L.length else L.length + 1) = (if e ∈ L then L else e :: L).length := by
      unfold memB
      by_cases c : e ∈ L
      · simp [c]
      · simp [c]
    rw [memB_cons, en] at new
    refine h (if e ∈ L then L else e :: L) _ (fun m => ?_) (fun m => ?_) (I.write (e := D) (t' := s.toks + 1) (by rw [hD]; trivial) (.inl rfl) (fun b u hb hu => (sb.2 b hb).trans hu) he (setK_new new))
    · rw [List.map_id] at m
      exact if_pos m
    · rw [List.map_id] at m
      rw [if_neg (show ¬ e ∈ L from m)]
  len := fun I e h => len_setK I e h
def SetTD (P : Program) (w : World) (a : Addr) (L : List EL) : HO := .ext fun h => SetT P w h a L
theorem setTD_new {P : Program} {w : World} {H : Hp} {h : Heap} {a : Addr} {L : List EL} (R : SetT P w h a L) : ObjOk P w H h a (SetTD P w a L) := by
  have ⟨es, ep, t, ⟨o, ho, r⟩, q⟩ := R.ex
  refine ⟨R, ⟨o, ho⟩, fun h1 h2 p k => ?_⟩
  have ⟨es', ep', t', ⟨o', ho', r'⟩, q'⟩ := SetT.ex p
  exact ⟨⟨es', ep', t', ⟨o', k o' ho', r'⟩, q'⟩⟩
theorem setTD_get {X : Cx} {pins : List (Addr × Obj)} {σ : L2.St} {H : Hp} {s : Shared} {a : Addr} {L : List EL} (I : Inv X pins σ H s) (ha : H a = some (SetTD X.prog X.w a L)) : SetT X.prog X.w s.heap a L := (I.hok a _ ha).1
theorem keys_are {P : Program} {w : World} : ∀ {k : List Key} {us : List Value}, Vals (k.map kV) us → ItemsAre (mixKind P w) k us
  | [], _, .nil => .nil
  | n :: k, _, .cons r t => .cons (kV_is r) (keys_are t)
theorem isK_of {X : Cx} {pins : List (Addr × Obj)} {σ : L2.St} {H : Hp} {s : Shared} {b : Addr} {k : List Key} (I : Inv X pins σ H s) (h : SqT X.K H b (k.map kV)) : IsK X.prog X.w s.heap k b := by
  obtain ⟨its, r, ⟨o, e1, e2, n, e3⟩, _⟩ := I.tuple h
  exact ⟨o, its.toArray, n, e1, e2, e3, by simpa using keys_are r⟩
theorem setT_fresh {P : Program} {w : World} {h : Heap} : SetT P w (h.push { cls := .type "set", dict := none, data := .set #[] 0 (.fresh 0 0 (!w.params.followText "set-order")) }) h.objs.size [] :=
  ⟨#[], 0, _, ⟨_, Heap.get?_push_size _ rfl, ⟨rfl, rfl, rfl⟩, rfl⟩, ⟨rfl, ⟨List.Pairwise.nil, rfl, rfl, .inl rfl, fun x hx => (by cases hx), fun i h j hi => (by simp [hsOf] at hi)⟩, List.nodup_nil, by simp⟩, by
    show 0 * 5 < 7 * 3
    decide⟩
theorem add_setT {X : Cx} {pins : List (Addr × Obj)} {σ : L2.St} {H : Hp} {s : Shared} {E : Value → Shared → Prop} {D : Addr} {L : List EL} {x : Addr} {k : List Key} {Q : Value → Shared → Prop} (hu : X.A.units + 64 < cLine) (I : Inv X pins σ H s) (hD : H D = some (SetTD X.prog X.w D L)) (hx : SqT X.K H x (k.map kV))
    (tup : ∀ p ∈ L, SqT X.K H p.1 (p.2.map kV)) (hl : L.length + 1 < 64) (h : ∀ L' s', (k ∈ L.map (·.2) → L' = L) → (k ∉ L.map (·.2) → L'.Perm ((x, k) :: L)) → Inv X pins σ (upd H D (SetTD X.prog X.w D L')) s' → Q .none s') :
    wpAny (model X.prog X.w) X.A (call (.builtin "set.add") [.ref D, .ref x]) Q E s := by
  have R := setTD_get I hD
  obtain ⟨o, ho, hex⟩ := R.at
  have kx := isK_of I hx
  refine wpAny_call_entry F.slot_set_add ⟨o, ho, hex.1⟩ F.entry_set_add ?_ (F.args_set_add_2 _ _)
  unfold Builtin.«set.add» Builtin.Frozenset.oneOther
  simp only [List.isEmpty_nil, bind_assoc]
  unfold Builtin.Frozenset.addrOf setAdd
  refine wpAny_bind (wpAny_pure ?_)
  try dsimp only
  refine wpAny_bind (wpAny_pure ?_)
  try dsimp only
  refine wpAny_bind ?_
  refine wpAny_holding ?_
  refine wpAny_bind ((tupleKind (mixKind X.prog X.w)).pyHash (k := k) (a := x) (show X.A.units + 1 < cLine by omega) kx ?_)
  refine putIn (s := { s with toks := s.toks + (k.length + 1) }) R (fun p hp => (isK_of I (tup p hp) : IsK X.prog X.w s.heap p.2 p.1)) kx (show X.A.units + 1 < cLine by omega) hl fun b h' L' sb R' e1 e2 => ?_
  show wpAny _ _ (ret Value.none) _ _ _
  refine wpAny_pure ⟨_, rfl, h L' _ e1 e2 ?_⟩
  have he : ∃ u, h'.get? D = some u := by
    obtain ⟨o', e, _⟩ := R'.at (s := { s with heap := h' })
    exact ⟨o', e⟩
  exact I.write (e := D) (t' := s.toks + (k.length + 1)) (by rw [hD]; trivial) (.inl rfl) (fun b u hb hu => (sb.2 b hb).trans hu) he (setTD_new R')
def tupSys : SSys where
  El := EL
  κ := List Key
  dec := inferInstance
  key := fun p => p.2
  ho := fun P w a L => SetTD P w a L
  isEl := fun K H y e => y = .ref e.1 ∧ SqT K H e.1 (e.2.map kV)
  ext := fun P w a L => ⟨_, rfl⟩
  fresh := fun {P w H h} => setTD_new setT_fresh
  add := fun {X pins σ H s E D L y u e Q} hu I hD hy hL ry hl h => by
    obtain ⟨rfl, hx⟩ := hy
    cases (show u = Value.ref e.1 from ry)
    exact add_setT hu I hD hx (fun p hp => by obtain ⟨_, _, z⟩ := hL p hp; exact z) hl h
  len := fun {X pins σ H s E D L Q} I e h => by
    have R := setTD_get I e
    obtain ⟨es, ep, t, ⟨o, ho, hex, hd⟩, T, room⟩ := R.ex
    have sz := T.size
    have z := call_len_set (prog := X.prog) (w := X.w) (A := X.A) (E := E) (Q := Q) ho hex hd (T.fits (by omega)) (by have := T.few; omega)
    rw [sz] at z
    exact z (h _ _ (I.tok _))
end Dn
end
noncomputable section
set_option Elab.async false
set_option linter.all false
set_option maxRecDepth 100000
set_option maxHeartbeats 4000000
namespace Dn
open PySem PySem.Spec PyProof.Rows L2
def tSetC (S : SSys) (P : Program) (w : World) (K : PySem.W.Frag) (wi : TI) (g : TG) (tt : TT) (te : TE) (vs : List Nat) : TE := fun σ H Q => wi σ H fun J H1 => ∀ D, H1 D = none → ∃ Wv : Nat → Nat → Hp → Prop, (∃ m, Wv 0 m (upd H1 D (S.ho P w D []))) ∧ ∀ i m H, Wv i m H →
  (J.stop i H ∧ Q (.ref D) H) ∨ (J.go i H ∧ ∃ Nx : Hp → Prop, (∀ H', Nx H' → ∃ m', m' < m ∧ Wv (i + 1) m' H') ∧ ∀ x H', J.yld i H x H' → g x (wipe σ vs) H' fun σ2 H2 => wipe σ2 vs = wipe σ vs ∧ tt σ2 H2 fun b H3 =>
    if b = true then te σ2 H3 fun y H4 => ∃ L e, H4 D = some (S.ho P w D L) ∧ S.isEl K H4 y e ∧ (∀ p ∈ L, ∃ z, S.isEl K H4 z p) ∧ L.length + 1 < 64 ∧
      ∀ L', (S.key e ∈ L.map S.key → L' = L) → (S.key e ∉ L.map S.key → L'.Perm (e :: L)) → Nx (upd H4 D (S.ho P w D L')) else Nx H3)
section
variable {X : Cx} {S : SSys} {elt tg iter : Expr} {ifs : List Expr} {scope : Scope} {own : List (Str × Nat)} {pos : Pos} {wi : TI} {g : TG} {tt : TT} {te : TE}
theorem setC_core (hu : X.A.units + 64 < cLine) (hc : X.calm = true) (hN : X.N.Nodup) (hi : PI X tg iter wi) (ok : BlkOk X.N X.env.scope scope own)
    (hg : ∀ (s : Shared) (H : Hp) (C : Addr) (cl : List (Str × Addr)) (fp : List Addr), PG (X.blk s H scope (compEnvC scope cl C X.env) fp) tg g) (ht : ∀ (s : Shared) (H : Hp) (C : Addr) (cl : List (Str × Addr)) (fp : List Addr), PTs (X.blk s H scope (compEnvC scope cl C X.env) fp) ifs tt)
    (he : ∀ (s : Shared) (H : Hp) (C : Addr) (cl : List (Str × Addr)) (fp : List Addr), PE (X.blk s H scope (compEnvC scope cl C X.env) fp) elt te) (hs : ∀ x, foldedSetIterable iter X.env x = pure x := by intro _; rfl) :
    PE X (.SetComp elt [⟨tg, iter, ifs, 0⟩] scope pos) (tSetC S X.prog X.w X.K wi g tt te (own.map (·.2))) := by
  refine ⟨fun pins s σ H Q I h => ?_⟩
  rw [PpSet.eval_SetComp]
  have cells : ∀ y ∈ scope.names, y.2 = .free → ∃ c, X.env.cells.lookup y.1 = some c := fun y hy e => (ok.free y hy e).elim (fun k => I.ok.has _ (.inl k)) fun k => I.ok.has _ (.inr k)
  refine wpAny_comprehension_free rfl hs (closure_ok cells) ok.kind (fun y hy e => by rw [ok.uniq y hy, e]) (thn (hi.run pins s σ H _ I h) fun xv s1 hx => thn hx fun itv s2 h2 => ?_)
  obtain ⟨it, fp, tn, J, H2, e, I2, T, st2, f2, q⟩ := h2
  subst e
  refine PpSet.newSet_ok (newEnv_comp ?_)
  have hDn : H2 s2.heap.objs.size = none := I2.hok.fresh (Nat.le_refl _)
  obtain ⟨Wv, ⟨m0, w0⟩, turn⟩ := q s2.heap.objs.size hDn
  generalize hD : s2.heap.objs.size = D at hDn w0 turn
  let newO : Obj := { cls := .type "set", dict := none, data := .set #[] 0 (.fresh 0 0 (!X.w.params.followText "set-order")) }
  have I3' : Inv X pins σ (upd H2 D (S.ho X.prog X.w D [])) { s2 with heap := s2.heap.push newO } := by
    refine I2.laid (t' := s2.toks) (fun b o e => Heap.get?_push_of_some _ e) (Nat.le_of_eq hD) ?_
    rw [← hD]
    exact S.fresh
  generalize hs3 : ({ s2 with heap := s2.heap.push newO } : Shared) = s3 at I3'
  have h3 : s3.heap = s2.heap.push newO := by rw [← hs3]
  generalize hH3 : upd H2 D (S.ho X.prog X.w D []) = H3 at I3' w0
  have f3 : ∀ b ∈ fp, FpOk X pins H3 b ∧ b < s3.heap.objs.size := fun b hb => by
    obtain ⟨o, e, _⟩ := T.obj _ _ st2 b hb
    have lt := Heap.lt_size e
    refine ⟨⟨?_, (f2 b hb).2⟩, by rw [h3, Heap.size_push]; exact Nat.lt_succ_of_lt lt⟩
    rw [← hH3, upd_ne (by rw [← hD]; exact Nat.ne_of_lt lt)]
    exact (f2 b hb).1
  have st3 : tn 0 s3.heap := T.keep _ _ _ st2 fun b _ o e => by rw [h3]; exact Heap.get?_push_of_some _ e
  have I4 := block_start I3' ok hN f3
  have pg := hg s3 H3 s3.heap.objs.size (cellsFrom (s3.heap.objs.size + 1) scope.names (cloFrom X.env.cells scope.names [])) fp
  have pt := ht s3 H3 s3.heap.objs.size (cellsFrom (s3.heap.objs.size + 1) scope.names (cloFrom X.env.cells scope.names [])) fp
  have pe := he s3 H3 s3.heap.objs.size (cellsFrom (s3.heap.objs.size + 1) scope.names (cloFrom X.env.cells scope.names [])) fp
  show codeAny _ _ (.compStart (.SetComp elt [⟨tg, iter, ifs, 0⟩] scope pos) 0 (.ref it) (.ref D) (compEnvC scope (cellsFrom (s3.heap.objs.size + 1) scope.names (cloFrom X.env.cells scope.names [])) s3.heap.objs.size X.env)) _ { s3 with heap := pushCells (s3.heap.push { cls := .type "dict", data := .dict #[] }) scope.names }
  generalize e4 : ({ s3 with heap := pushCells (s3.heap.push { cls := .type "dict", data := .dict #[] }) scope.names } : Shared) = s4
  replace e4 := e4.symm
  generalize hce : compEnvC scope (cellsFrom (s3.heap.objs.size + 1) scope.names (cloFrom X.env.cells scope.names [])) s3.heap.objs.size X.env = ce at I4 pg pt pe ⊢
  have cL : ce.locals = s3.heap.objs.size := by rw [← hce]; rfl
  rw [← e4] at I4
  have st4 : tn 0 s4.heap := T.keep _ _ _ st3 fun b _ o e => by rw [e4]; exact pushCells_keeps _ _ _ _ (Heap.get?_push_of_some _ e)
  have still : ∀ {σ' : L2.St} {H' : Hp} {s' : Shared}, Inv (X.blk s3 H3 scope ce fp) [] σ' H' s' → (∀ b ∈ fp, H' b = none) → ∀ b ∈ fp, FpOk (X.blk s3 H3 scope ce fp) [] H' b := fun I' hn b hb =>
    ⟨hn b hb, (I'.ok.exf b hb).1, I'.ok.exfs b hb, .inl hb, fun x c e => (I'.ok.exf b hb).2 x c e, fun p hp => absurd (show p ∈ ([] : List (Addr × Obj)) ++ [] from hp) (by simp)⟩
  refine PpSet.codeAny_compStart_set (s := s4) ?_ (T.self X.A 0 _ _ _ st4 ?_)
  all_goals
    refine PpSet.compLoopS_any (fun n s' => ∃ i H', Inv (X.blk s3 H3 scope ce fp) [] (wipe σ (own.map (·.2))) H' s' ∧ tn i s'.heap ∧ (∀ b ∈ fp, H' b = none) ∧ Wv i n H') ?_ m0 ⟨0, H3, I4, st4, fun b hb => (f3 b hb).1.1, w0⟩
    rintro n s5 ⟨i, H5, I5, st5, n5, w5⟩
    rcases turn i n H5 w5 with ⟨stop, qq⟩ | ⟨go, Nx, hNx, step⟩
    · refine thnF (T.done (X.blk s3 H3 scope ce fp) rfl rfl rfl hc i [] s5 _ H5 (fun _ _ => False) I5 (still I5 n5) st5 stop) fun r s6 ⟨hr, I6⟩ => ?_
      subst hr
      have I7 : Inv X pins σ H5 s6 := I3'.call' (ch := fp) I6.os I6.base I6.hok I6.bare fun b hb => ⟨(f3 b hb).1.2.2.2.1, (f3 b hb).1.2.1, (f3 b hb).1.2.2.2.2.1, (f3 b hb).1.2.2.2.2.2⟩
      have nC : H5 s3.heap.objs.size = none := by
        have z : H5 ce.locals = none := I6.free
        rw [cL] at z
        exact z
      obtain ⟨m, hn, _⟩ := I6.loc
      have hn' : s6.heap.Ns ce.locals m := hn
      rw [cL] at hn'
      obtain ⟨f0, f1, f2', f4, f5, f6⟩ := I3'.fpOk (Nat.le_refl _) nC
      refine ⟨m, hn', fun h'' sb => ?_⟩
      exact ⟨.ref D, H5, I7.turned (t' := s6.toks) (fun b o hb e => (sb.2 b hb).trans e) f0 f1 f4 f5 f6, rfl, qq⟩
    · refine thnF (T.item (X.blk s3 H3 scope ce fp) rfl rfl rfl hc i [] s5 _ H5 (fun _ _ => False) I5 (still I5 n5) st5 go) fun r s6 ⟨u, hr, h6⟩ => ?_
      subst hr
      refine thnF h6 fun _ s7 ⟨x, H7, I7, r7, y7, st7, n7⟩ => ?_
      refine thnF (pg.run _ s7 _ H7 x u _ (I7.pinned (still I7 n7) (T.obj _ _ st7)) r7 (step x H7 y7)) fun _ s8 ⟨σ8, H8, I8, hw8, q8⟩ => ?_
      refine thnF (pt.run _ s8 σ8 H8 _ I8 q8) fun b s9 ⟨H9, I9, q9⟩ => ?_
      have fin : ∀ {s' : Shared} {H' : Hp}, Inv (X.blk s3 H3 scope ce fp) ([] ++ pinsAt fp s7.heap) σ8 H' s' → Nx H' → ∃ m, m < n ∧ ∃ i H', Inv (X.blk s3 H3 scope ce fp) [] (wipe σ (own.map (·.2))) H' s' ∧ tn i s'.heap ∧ (∀ b ∈ fp, H' b = none) ∧ Wv i m H' := fun {s' H'} I' nx => by
        obtain ⟨m', hm, w'⟩ := hNx H' nx
        have pin' : ∀ b ∈ fp, ∀ o, s7.heap.get? b = some o → s'.heap.get? b = some o ∧ H' b = none := fun b hb o e => by
          have z := I'.pin (b, o) (List.mem_append_right _ (List.mem_append_right _ (mem_pinsAt hb e)))
          exact ⟨z.1, z.2.1⟩
        refine ⟨m', hm, i + 1, H', (I'.unpinned (pins := [])).weak (by rw [← hw8, wipe_length]) (fun j v e => ?_), T.keep _ _ _ st7 fun b hb o e => (pin' b hb o e).1, fun b hb => ?_, w'⟩
        · rw [← hw8] at e
          exact (wipe_some e).1
        · obtain ⟨o, e, _⟩ := T.obj _ _ st7 b hb
          exact (pin' b hb o e).2
      cases b with
      | false =>
        simp only [Bool.false_eq_true, if_false] at q9 ⊢
        exact fin I9 q9
      | true =>
        simp only [if_true] at q9 ⊢
        refine thnF (pe.run _ s9 σ8 H9 _ I9 q9) fun z s10 ⟨yv, H10, I10, r10, L, el, hD10, hel, hL, hz10, nx⟩ => ?_
        exact S.add (X := X.blk s3 H3 scope ce fp) hu I10 hD10 hel hL r10 hz10 fun L' s11 a1 a2 I11 => fin I11 (nx L' a1 a2)
end
end Dn
end
noncomputable section
set_option Elab.async false
set_option linter.all false
set_option maxRecDepth 100000
set_option maxHeartbeats 4000000
namespace Dn
open PySem PySem.Spec PyProof.Rows L2
section
variable {κ : Type} [DecidableEq κ]
def dists : List κ → List κ → List κ
  | acc, [] => acc
  | acc, k :: ks => dists (if k ∈ acc then acc else k :: acc) ks
theorem dists_snoc (k : κ) : ∀ (ks acc : List κ), dists acc (ks ++ [k]) = if k ∈ dists acc ks then dists acc ks else k :: dists acc ks
  | [], acc => rfl
  | x :: ks, acc => by
    show dists (if x ∈ acc then acc else x :: acc) (ks ++ [k]) = _
    rw [dists_snoc k ks]
    rfl
theorem dists_len : ∀ (ks acc : List κ), (dists acc ks).length ≤ acc.length + ks.length
  | [], acc => Nat.le_refl _
  | x :: ks, acc => by
    show (dists (if x ∈ acc then acc else x :: acc) ks).length ≤ _
    refine Nat.le_trans (dists_len ks _) ?_
    split <;> simp <;> omega
end
def keysOf {κ : Type} (kd : D → Option κ) : List D → Option (List κ)
  | [] => some []
  | d :: ds => match kd d, keysOf kd ds with
    | some k, some ks => some (k :: ks)
    | _, _ => none
theorem keysOf_append {κ : Type} {kd : D → Option κ} : ∀ {as bs : List D} {ks : List κ}, keysOf kd (as ++ bs) = some ks → ∃ xs ys, keysOf kd as = some xs ∧ keysOf kd bs = some ys ∧ ks = xs ++ ys
  | [], bs, ks, e => ⟨[], ks, rfl, e, rfl⟩
  | a :: as, bs, ks, e => by
    rw [List.cons_append] at e
    unfold keysOf at e
    cases ek : kd a with
    | none => rw [ek] at e; cases e
    | some k =>
      rw [ek] at e
      cases er : keysOf kd (as ++ bs) with
      | none => rw [er] at e; cases e
      | some r =>
        rw [er] at e
        cases e
        obtain ⟨xs, ys, e1, e2, rfl⟩ := keysOf_append er
        exact ⟨k :: xs, ys, by unfold keysOf; rw [ek, e1], e2, rfl⟩
theorem keysOf_len {κ : Type} {kd : D → Option κ} : ∀ {as : List D} {ks : List κ}, keysOf kd as = some ks → ks.length = as.length
  | [], ks, e => by cases e; rfl
  | a :: as, ks, e => by
    unfold keysOf at e
    cases ek : kd a with
    | none => rw [ek] at e; cases e
    | some k =>
      rw [ek] at e
      cases er : keysOf kd as with
      | none => rw [er] at e; cases e
      | some r => rw [er] at e; cases e; rw [List.length_cons, List.length_cons, keysOf_len er]
structure SKey (S : SSys) (kd : D → Option S.κ) : Prop where
  el : ∀ {K : PySem.W.Frag} {ρ : Nat → Addr} {N : Nat} {H : Hp} {d : D} {v : V} {k : S.κ}, RD K ρ N H d v → kd d = some k → ∃ e, S.key e = k ∧ S.isEl K H v e
  grow : ∀ {K : PySem.W.Frag} {H H' : Hp} {v : V} {e : S.El}, (∀ a xs, SqT K H a xs → SqT K H' a xs) → S.isEl K H v e → S.isEl K H' v e
def tupKey : D → Option (List Key)
  | .tup ds => keysOf keyD ds
  | _ => none
theorem atomKey : SKey atomSys keyD where
  el := fun {K ρ N H d v k} r e => ⟨k, rfl, keyD_v r e⟩
  grow := fun _ e => e
theorem keys_v {K : PySem.W.Frag} {ρ : Nat → Addr} {N : Nat} {H : Hp} : ∀ {ds : List D} {vs : List V} {ks : List Key}, RDs K ρ N H ds vs → keysOf keyD ds = some ks → vs = ks.map kV
  | _, _, _, .nil, e => by cases e; rfl
  | _, _, ks, .cons (d := d) a t, e => by
    unfold keysOf at e
    cases ek : keyD d with
    | none => rw [ek] at e; cases e
    | some k =>
      rw [ek] at e
      cases er : keysOf keyD _ with
      | none => rw [er] at e; cases e
      | some r =>
        rw [er] at e
        cases e
        rw [keyD_v a ek, keys_v t er]
        rfl
theorem tupleKey : SKey tupSys tupKey where
  el := fun {K ρ N H d v k} r e => by
    cases r with
    | @tup a xs ds s q =>
      have z := keys_v q e
      subst z
      exact ⟨(a, k), rfl, rfl, s⟩
    | _ => cases e
  grow := fun g e => ⟨e.1, g _ _ e.2⟩
def bindR (r : R D) (k : List D → MH → R D) : R D := match r with
  | .ok (.tl ds) h => k ds h
  | .exc x h => .exc x h
  | _ => .stuck
theorem lcL_fin {src : Src} {p : Pat} {t : M Bool} {e : M D} {σ0 : Sg} : ∀ (ds acc : List D) (h : MH), lcL src p t e σ0 ds acc h = .stuck ∨ ∃ more h', lcL src p t e σ0 ds acc h = .ok (.tl (acc ++ more)) h'
  | [], acc, h => by
    unfold lcL guardR
    by_cases c : src.ok h
    · rw [if_pos c]; exact .inr ⟨[], h, by rw [List.append_nil]⟩
    · rw [if_neg c]; exact .inl rfl
  | d :: ds, acc, h => by
    unfold lcL guardR
    by_cases c : src.ok h
    · rw [if_pos c]
      cases p.put d σ0 with
      | none => exact .inl rfl
      | some σ1 =>
        dsimp only
        cases t σ1 h with
        | ok b h1 =>
          cases b with
          | false => exact lcL_fin ds acc h1
          | true =>
            dsimp only
            cases e σ1 h1 with
            | ok y h2 =>
              dsimp only
              by_cases c2 : y.st = true ∧ acc.length < line
              · rw [if_pos c2]
                rcases lcL_fin ds (acc ++ [y]) h2 with z | ⟨more, h', z⟩
                · exact .inl z
                · exact .inr ⟨y :: more, h', by rw [z, List.append_assoc]; rfl⟩
              · rw [if_neg c2]; exact .inl rfl
            | exc _ _ => exact .inl rfl
            | stuck => exact .inl rfl
        | exc _ _ => exact .inl rfl
        | stuck => exact .inl rfl
    · rw [if_neg c]; exact .inl rfl
theorem mono_bindR {r : R D} {k : List D → MH → R D} {h : MH} (x : MonoR h r) (y : ∀ ds h, MonoR h (k ds h)) : MonoR h (bindR r k) := by
  cases r with
  | ok d h1 =>
    cases d with
    | tl ds => exact MonoR.trans x (y ds h1)
    | _ => trivial
  | exc _ _ => exact x
  | stuck => trivial
def cntK {κ : Type} [DecidableEq κ] (kd : D → Option κ) (ds : List D) (h : MH) : R D := match keysOf kd ds with
  | some ks => if ks.length < 64 then .ok (.int (dists [] ks).length) h else .stuck
  | none => .stuck
theorem mono_cntK {κ : Type} [DecidableEq κ] (kd : D → Option κ) (ds : List D) (h : MH) : MonoR h (cntK kd ds h) := by
  unfold cntK
  split
  · exact mono_if (MonoH.refl h)
  · trivial
def lenSetM {κ : Type} [DecidableEq κ] (kd : D → Option κ) (m : M Src) (p : Pat) (vs : List Nat) (t : M Bool) (e : M D) : M D := bindM m fun src σ h => bindR (lcL src p t e (wipeD σ vs) src.items [] h) (cntK kd)
theorem mono_lenSet {κ : Type} [DecidableEq κ] {kd : D → Option κ} {m : M Src} {p : Pat} {vs : List Nat} {t : M Bool} {e : M D} (mm : Mono m) (mt : Mono t) (me : Mono e) : Mono (lenSetM kd m p vs t e) := mm.bind fun src σ h => mono_bindR (mono_lcL mt me _ _ _) (mono_cntK kd)
theorem grow_sideX {K : PySem.W.Frag} {ρ : Nat → Addr} {H : Hp} {p : Addr} {f : Heap → Prop} {o : HO} (e : H p = some (.ext f)) {N : Nat} : Grow K ρ N H ρ N (upd H p o) := ⟨Nat.le_refl _, fun _ _ => rfl, fun a ys q => by
  rcases q with (q | ⟨u, q⟩) | q
  · exact .inl (.inl (by rw [upd_ne (fun x => by subst x; rw [e] at q; cases q)]; exact q))
  · exact .inl (.inr ⟨u, by rw [upd_ne (fun x => by subst x; rw [e] at q; cases q)]; exact q⟩)
  · exact .inr q⟩
theorem RH.sideX {K : PySem.W.Frag} {ρ : Nat → Addr} {h : MH} {H : Hp} {p : Addr} {f : Heap → Prop} {o : HO} (r : RH K ρ h H) (e : H p = some (.ext f)) : RH K ρ h (upd H p o) := by
  have g : Grow K ρ h.length H ρ h.length (upd H p o) := grow_sideX e
  refine ⟨fun n u eu => ?_, r.inj⟩
  have z := r.obj n u eu
  cases u with
  | lst ds =>
    obtain ⟨xs, a, b⟩ := z
    exact ⟨xs, by rw [upd_ne (fun x => by rw [x, e] at a; cases a)]; exact a, b.grow g⟩
  | rol ds =>
    obtain ⟨xs, a, b⟩ := z
    refine ⟨xs, ?_, b.grow g⟩
    rcases a with ⟨w, a⟩ | a
    · exact .inl ⟨w, by rw [upd_ne (fun x => by rw [x, e] at a; cases a)]; exact a⟩
    · exact .inr a
  | dct es =>
    obtain ⟨xs, a, b⟩ := z
    exact ⟨xs, by rw [upd_ne (fun x => by rw [x, e] at a; cases a)]; exact a, b.grow g⟩
  | ins C fs =>
    obtain ⟨dx, gs, a, a2, b⟩ := z
    exact ⟨dx, gs, by rw [upd_ne (fun x => by rw [x, e] at a; cases a)]; exact a, by rw [upd_ne (fun x => by rw [x, e] at a2; cases a2)]; exact a2, b.grow g⟩
section
variable {P : Program} {w : World} {S : SSys} {kd : D → Option S.κ} {K : PySem.W.Frag} {W : WX} {src : Src} {p : Pat} {t : M Bool} {e : M D} {vs : List Nat} {J : It} {ρ1 : Nat → Addr} {h1 : MH} {H1 : Hp} {σ : L2.St} {σm : Sg} {Q : VK}
theorem setC_run [DecidableEq S.κ] (SK : SKey S kd) (mt : Mono t) (me : Mono e) (hp : ∀ i ∈ p.slots, i ∈ vs) (wk : Walks K src J ρ1 h1 H1) (r1 : RS K ρ1 σm h1 σ H1) (q : Post K ρ1 h1 H1 (fun c d => W c d σ) (bindR (lcL src p t e (wipeD σm vs) src.items [] h1) (cntK kd)) Q) (D0 : Addr) (hD : H1 D0 = none) :
    ∃ Wv : Nat → Nat → Hp → Prop, (∃ m, Wv 0 m (upd H1 D0 (S.ho P w D0 []))) ∧ ∀ i m H, Wv i m H →
      (J.stop i H ∧ ∃ L, H D0 = some (S.ho P w D0 L) ∧ Q (.int L.length) H) ∨ (J.go i H ∧ ∃ Nx : Hp → Prop, (∀ H', Nx H' → ∃ m', m' < m ∧ Wv (i + 1) m' H') ∧ ∀ x H', J.yld i H x H' → p.rd K x (wipe σ vs) H' fun σ2 H2 => wipe σ2 vs = wipe σ vs ∧ rdB K W0 t σ2 H2 fun b H3 =>
        if b = true then rdE K W0 e σ2 H3 fun y H4 => ∃ L el, H4 D0 = some (S.ho P w D0 L) ∧ S.isEl K H4 y el ∧ (∀ p ∈ L, ∃ z, S.isEl K H4 z p) ∧ L.length + 1 < 64 ∧
          ∀ L', (S.key el ∈ L.map S.key → L' = L) → (S.key el ∉ L.map S.key → L'.Perm (el :: L)) → Nx (upd H4 D0 (S.ho P w D0 L')) else Nx H3) := by
  have k0 := keep_new (o := S.ho P w D0 []) hD
  let Wi : Nat → Hp → Prop := fun i H => ∃ ρ h acc L ks, RS K ρ (wipeD σm vs) h (wipe σ vs) H ∧ Step ρ1 h1 H1 ρ h H ∧ MonoH h1 h ∧ H D0 = some (S.ho P w D0 L) ∧ (∀ n, Mu h n → ρ n ≠ D0) ∧ (keysOf kd acc = some ks ∧ (L.map S.key).Perm (dists [] ks) ∧ ∀ p ∈ L, ∃ z, S.isEl K H z p) ∧
    Post K ρ1 h1 H1 (fun c d => W c d σ) (bindR (lcL src p t e (wipeD σm vs) (src.items.drop i) acc h) (cntK kd)) Q
  refine ⟨fun i m H => m = src.items.length - i ∧ Wi i H, ⟨_, rfl, ρ1, h1, [], [], [], (r1.wipe vs).step (Step.keep k0) (MonoH.refl _) (r1.heap.keep k0), Step.keep k0, MonoH.refl _, upd_same, fun n m z => r1.heap.nn m (by rw [z]; exact hD), ⟨rfl, List.Perm.refl _, fun p hp => (by cases hp)⟩, q⟩, ?_⟩
  rintro i m H ⟨rfl, ρ, h, acc, L, ks, r, s, mh, hx, nD, ⟨ek, pm, held⟩, pq⟩
  by_cases hi : i < src.items.length
  · have ed : src.items.drop i = src.items[i] :: src.items.drop (i + 1) := List.drop_eq_getElem_cons hi
    rw [ed] at pq
    unfold lcL guardR at pq
    by_cases ok : src.ok h
    · rw [if_pos ok] at pq
      obtain ⟨g, y⟩ := wk.go s mh r.heap ok i _ (List.getElem?_eq_getElem hi)
      refine .inr ⟨g, Wi (i + 1), fun H' w => ⟨_, by omega, rfl, w⟩, fun x H' hy => ?_⟩
      obtain ⟨kp, rd⟩ := y x H' hy
      have sk := Step.keep (ρ := ρ) (h := h) kp
      have rk := r.heap.keep kp
      have rs' : RS K ρ (wipeD σm vs) h (wipe σ vs) H' := r.step sk (MonoH.refl _) rk
      have held1 : ∀ p ∈ L, ∃ z, S.isEl K H' z p := fun p hp => (held p hp).imp fun z hz => SK.grow (sk.grow r.heap (MonoH.refl h)).tup hz
      cases ep : p.put src.items[i] (wipeD σm vs) with
      | none => rw [ep] at pq; exact pq.elim
      | some σ1 =>
        rw [ep] at pq
        refine Pat.ok rs' rd ep fun σ2 r2 hw => ⟨(hw vs hp).trans ?_, ρ, σ1, h, r2, ?_⟩
        · exact wipe_wipe σ vs
        have s1 : Step ρ1 h1 H1 ρ h H' := s.trans r.heap mh sk
        have hx1 := kp _ _ hx
        dsimp only at pq
        cases et : t σ1 h with
        | ok b h2 =>
          rw [et] at pq
          have m2 := mt.ok et
          intro ρ2 H2 s2 rh2
          have s12 := s1.trans rk mh s2
          have hx2 := s2.fr _ _ hx1 nD
          have nD2 : ∀ n, Mu h2 n → ρ2 n ≠ D0 := s2.nn (K := K) m2 nD hx1
          have rw2 : RS K ρ2 (wipeD σm vs) h2 (wipe σ vs) H2 := rs'.step s2 m2 rh2
          have held2 : ∀ p ∈ L, ∃ z, S.isEl K H2 z p := fun p hp => (held1 p hp).imp fun z hz => SK.grow (s2.grow rk m2).tup hz
          cases b with
          | false =>
            show Wi (i + 1) H2
            exact ⟨ρ2, h2, acc, L, ks, rw2, s12, mh.trans m2, hx2, nD2, ⟨ek, pm, held2⟩, pq⟩
          | true =>
            show rdE K W0 e σ2 H2 _
            have r3 : RS K ρ2 σ1 h2 σ2 H2 := r2.step s2 m2 rh2
            refine ⟨ρ2, σ1, h2, r3, ?_⟩
            dsimp only at pq
            cases ee : e σ1 h2 with
            | ok yd h3 =>
              rw [ee] at pq
              dsimp only at pq
              have m3 := me.ok ee
              by_cases c12 : yd.st = true ∧ acc.length < line
              · rw [if_pos c12] at pq
                intro ρ3 v H3 s3 rh3 t3 f3
                have hx3 := s3.fr _ _ hx2 nD2
                have nD3 : ∀ n, Mu h3 n → ρ3 n ≠ D0 := s3.nn (K := K) m3 nD2 hx2
                have s13 := s12.trans rh2 (mh.trans m2) s3
                have held3 : ∀ p ∈ L, ∃ z, S.isEl K H3 z p := fun p hp => (held2 p hp).imp fun z hz => SK.grow (s3.grow rh2 m3).tup hz
                have kf : ∃ k, kd yd = some k ∧ acc.length + 1 < 64 := by
                  rcases lcL_fin (src := src) (p := p) (t := t) (e := e) (σ0 := wipeD σm vs) (src.items.drop (i + 1)) (acc ++ [yd]) h3 with z | ⟨more, hf, z⟩
                  · rw [z] at pq; exact pq.elim
                  · rw [z] at pq
                    have pq' : Post K ρ1 h1 H1 (fun c d => W c d σ) (cntK kd (acc ++ [yd] ++ more) hf) Q := pq
                    unfold cntK at pq'
                    cases eK : keysOf kd (acc ++ [yd] ++ more) with
                    | none => rw [eK] at pq'; exact pq'.elim
                    | some kk =>
                      rw [eK] at pq'
                      obtain ⟨c, _⟩ := post_if pq'
                      have ln := keysOf_len eK
                      obtain ⟨xs, ys, e1, _, _⟩ := keysOf_append eK
                      obtain ⟨xs2, ys2, e3, e4, _⟩ := keysOf_append e1
                      unfold keysOf at e4
                      cases e5 : kd yd with
                      | none => rw [e5] at e4; cases e4
                      | some k =>
                        refine ⟨k, rfl, ?_⟩
                        rw [ln] at c
                        simp at c
                        omega
                obtain ⟨k, ky, few⟩ := kf
                obtain ⟨el, ek1, ek2⟩ := SK.el (t3.rdS c12.1) ky
                have lnL : L.length ≤ acc.length := by
                  have z1 := pm.length_eq
                  rw [List.length_map] at z1
                  have z2 := dists_len ks ([] : List S.κ)
                  have z3 := keysOf_len ek
                  simp at z2
                  omega
                refine ⟨L, el, hx3, ek2, held3, by omega, fun L' a1 a2 => ?_⟩
                obtain ⟨f, ef⟩ := S.ext P w D0 L
                have hx4 : H3 D0 = some (.ext f) := by rw [hx3, ef]
                have gs : Grow K ρ3 h3.length H3 ρ3 h3.length (upd H3 D0 (S.ho P w D0 L')) := grow_sideX hx4
                have rw3 : RS K ρ3 (wipeD σm vs) h3 (wipe σ vs) H3 := rw2.step s3 m3 rh3
                have ek' : keysOf kd (acc ++ [yd]) = some (ks ++ [k]) := by
                  have key : ∀ {as : List D} {xs : List S.κ}, keysOf kd as = some xs → keysOf kd (as ++ [yd]) = some (xs ++ [k]) := by
                    intro as
                    induction as with
                    | nil => intro xs e; cases e; show keysOf kd [yd] = _; unfold keysOf; rw [ky]; rfl
                    | cons a as ih =>
                      intro xs e
                      unfold keysOf at e
                      cases e1 : kd a with
                      | none => rw [e1] at e; cases e
                      | some k1 =>
                        rw [e1] at e
                        cases e2 : keysOf kd as with
                        | none => rw [e2] at e; cases e
                        | some r =>
                          rw [e2] at e
                          cases e
                          show keysOf kd (a :: (as ++ [yd])) = _
                          unfold keysOf
                          rw [e1, ih e2]
                          rfl
                  exact key ek
                have pm' : (L'.map S.key).Perm (dists [] (ks ++ [k])) := by
                  rw [dists_snoc]
                  by_cases c : S.key el ∈ L.map S.key
                  · rw [a1 c]
                    have c' : k ∈ dists [] ks := by rw [← ek1]; exact pm.mem_iff.mp c
                    rw [if_pos c']
                    exact pm
                  · have c' : ¬ k ∈ dists [] ks := fun m => c (pm.mem_iff.mpr (by rw [ek1]; exact m))
                    rw [if_neg c']
                    have z := (a2 c).map S.key
                    rw [List.map_cons, ek1] at z
                    exact z.trans (pm.cons k)
                have held4 : ∀ p ∈ L', ∃ z, S.isEl K (upd H3 D0 (S.ho P w D0 L')) z p := fun p hp => by
                  by_cases c : S.key el ∈ L.map S.key
                  · rw [a1 c] at hp
                    exact (held3 p hp).imp fun z hz => SK.grow gs.tup hz
                  · rcases List.mem_cons.mp ((a2 c).mem_iff.mp hp) with rfl | hp
                    · exact ⟨v, SK.grow gs.tup ek2⟩
                    · exact (held3 p hp).imp fun z hz => SK.grow gs.tup hz
                refine ⟨ρ3, h3, acc ++ [yd], L', ks ++ [k], ⟨rh3.sideX hx4, fun j d ej => ?_, rw3.len⟩, s13.side hD, (mh.trans m2).trans m3, upd_same, nD3, ⟨ek', pm', held4⟩, pq⟩
                obtain ⟨v', a, b⟩ := rw3.env j d ej
                exact ⟨v', a, b.grow gs⟩
              · rw [if_neg c12] at pq; exact pq.elim
            | exc _ _ => rw [ee] at pq; exact pq.elim
            | stuck => rw [ee] at pq; exact pq.elim
        | exc _ _ => rw [et] at pq; exact pq.elim
        | stuck => rw [et] at pq; exact pq.elim
    · rw [if_neg ok] at pq; exact pq.elim
  · have ed : src.items.drop i = [] := List.drop_eq_nil_iff.mpr (Nat.le_of_not_lt hi)
    rw [ed] at pq
    unfold lcL guardR at pq
    by_cases ok : src.ok h
    · rw [if_pos ok] at pq
      have pq' : Post K ρ1 h1 H1 (fun c d => W c d σ) (cntK kd acc h) Q := pq
      unfold cntK at pq'
      rw [ek] at pq'
      obtain ⟨_, pq2⟩ := post_if pq'
      have ln : L.length = (dists [] ks).length := by rw [← pm.length_eq, List.length_map]
      refine .inl ⟨wk.stop s mh r.heap ok i (Nat.le_of_not_lt hi), L, hx, ?_⟩
      rw [ln]
      exact pq2 ρ _ H s r.heap (RD.int _).rt (RD.int (K := K) (ρ := ρ) (N := h.length) (H := H) _).fr0
    · rw [if_neg ok] at pq; exact pq.elim
end
def rLenSet (S : SSys) (P : Program) (w : World) : List V → Hp → VK → Prop := fun xs H Q => ∃ D L, xs = [V.ref D] ∧ H D = some (S.ho P w D L) ∧ Q (.int L.length) H
theorem cr_lenSet {X : Cx} (S : SSys) : CallR X (.builtin "len") (rLenSet S X.prog X.w) := by
  intro pins s σ H xs us Q I r h
  obtain ⟨D0, L, rfl, e, q⟩ := h
  rw [Vals.ref1 r]
  exact S.len I e fun t s' I' => ⟨.int L.length, H, I', ⟨t, rfl⟩, q⟩
section
variable {X : Cx} {W : WX} {S : SSys} {kd : D → Option S.κ} {elt tg iter : Expr} {ifs : List Expr} {scope : Scope} {own : List (Str × Nat)} {pos p1 p2 : Pos} {m : M Src} {p : Pat} {t : M Bool} {e : M D}
theorem se_lenSet [DecidableEq S.κ] (SK : SKey S kd) (hu : X.A.units + 64 < cLine) (hc : X.calm = true) (hN : X.N.Nodup) (hgl : Gl X "len") (hgm : X.mg "len" = none) (hi : SI X W tg iter m) (ok : BlkOk X.N X.env.scope scope own) (hp : ∀ i ∈ p.slots, i ∈ own.map (·.2))
    (hg : ∀ (s : Shared) (H : Hp) (C : Addr) (cl : List (Str × Addr)) (fp : List Addr), SG (X.blk s H scope (compEnvC scope cl C X.env) fp) tg p) (ht : ∀ (s : Shared) (H : Hp) (C : Addr) (cl : List (Str × Addr)) (fp : List Addr), STs (X.blk s H scope (compEnvC scope cl C X.env) fp) ifs t)
    (he : ∀ (s : Shared) (H : Hp) (C : Addr) (cl : List (Str × Addr)) (fp : List Addr), SE (X.blk s H scope (compEnvC scope cl C X.env) fp) W0 elt e) (hs : ∀ x, foldedSetIterable iter X.env x = pure x := by intro _; rfl)
    (hst : starEach [.SetComp elt [⟨tg, iter, ifs, 0⟩] scope pos] X.env = (false, eval (.SetComp elt [⟨tg, iter, ifs, 0⟩] scope pos) X.env) :: starEach [] X.env := by rfl) (hpl : (backTo p2 (starEach [] X.env)).any (·.1) = false := by rfl) :
    SE X W (.Call (.Name "len" p1) [.SetComp elt [⟨tg, iter, ifs, 0⟩] scope pos] [] p2) (lenSetM kd m p (own.map (·.2)) t e) := by
  have mt := (ht X.s_0 X.H_0 0 [] []).mono
  have me := (he X.s_0 X.H_0 0 [] []).mono
  have pc := setC_core (S := S) (pos := pos) (g := p.rd X.K) (tt := rdB X.K W0 t) (te := rdE X.K W0 e) hu hc hN hi.pi ok hg (fun s H C cl fp => (ht s H C cl fp).pts) (fun s H C cl fp => (he s H C cl fp).pe) hs
  refine ⟨mono_lenSet hi.mono mt me, weakE (pe_callB (cr_lenSet S) hgl hgm boot_len (pa_cons pc pa_nil hst) (by decide) (by decide) hst hpl) fun σ H Q q => ?_⟩
  obtain ⟨ρ, σm, h, r, pq⟩ := q
  refine ⟨ρ, σm, h, r, ?_⟩
  dsimp only [lenSetM, bindM] at pq
  cases em : m σm h with
  | ok src h1 =>
    rw [em] at pq
    intro ρ1 J H1 s1 r1 wk D0 hD
    have mh := hi.mono.ok em
    obtain ⟨Wv, w0, turn⟩ := setC_run (P := X.prog) (w := X.w) SK mt me hp wk (r.step s1 mh r1) (Post.of_step r1 s1 mh pq) D0 hD
    refine ⟨Wv, w0, fun i m H w => ?_⟩
    rcases turn i m H w with ⟨a, L, b, c⟩ | z
    · exact .inl ⟨a, D0, L, rfl, b, c⟩
    · exact .inr z
  | exc x h1 => rw [em] at pq; exact pq
  | stuck => rw [em] at pq; exact pq
end
end Dn
end
noncomputable section
set_option Elab.async false
set_option linter.all false
set_option maxRecDepth 100000
set_option maxHeartbeats 4000000
namespace Dn
open PySem PySem.Spec PyProof.Rows L2
structure SK (X : Cx) (W : WX) (kws : List Keyword) (m : M (List D)) : Prop where
  mono : Mono m
  pk : PK X kws (rdT X.K W m)
theorem weakK {X : Cx} {kws : List Keyword} {t t' : TA} (h : PK X kws t) (w : ∀ σ H Q, t' σ H Q → t σ H Q) : PK X kws t' := ⟨fun pos pins s σ H Q I q => h.run pos pins s σ H Q I (w σ H Q q)⟩
section
variable {X : Cx} {W : WX} {e : Expr} {m : M D} {ms : M (List D)} {kws : List Keyword} {nm : Option Str} {kpos : Pos}
theorem sk_nil : SK X W [] nilM := ⟨Mono.ret _, weakK pk_nil fun σ H Q q => by
  obtain ⟨ρ, σm, h, r, p⟩ := q
  exact p ρ [] H Step.refl r.heap .nil⟩
theorem sk_cons (ha : SE X W e m) (hr : SK X W kws ms) : SK X W (⟨nm, e, kpos⟩ :: kws) (consM m ms) :=
  ⟨ha.mono.bind fun x => hr.mono.bind fun xs => Mono.ret _, weakK (pk_cons ha.pe hr.pk) fun σ H Q q => by
    obtain ⟨ρ, σm, h, r, p⟩ := q
    refine ⟨ρ, σm, h, r, ?_⟩
    dsimp only [consM, bindM, retM] at p
    cases e1 : m σm h with
    | ok d h1 =>
      rw [e1] at p
      have mh := ha.mono.ok e1
      refine fun ρ1 v H1 s1 rh1 t1 f1 => ⟨ρ1, σm, h1, r.step s1 mh rh1, ?_⟩
      have p1 := PostT.of_step rh1 s1 mh p
      dsimp only at p1
      cases e2 : ms σm h1 with
      | ok ds h2 =>
        rw [e2] at p1
        have mh2 := hr.mono.ok e2
        exact fun ρ2 vs H2 s2 rh2 t2 => p1 ρ2 (v :: vs) H2 s2 rh2 (.cons (t1.step rh1 s2 mh2) t2)
      | exc x h2 => rw [e2] at p1; exact p1
      | stuck => rw [e2] at p1; exact p1
    | exc x h1 => rw [e1] at p; exact p
    | stuck => rw [e1] at p; exact p⟩
end
structure KwG (K : PySem.W.Frag) (fd : FuncData) (ps : List Str) (n : Nat) (ks : List Str) (gD : List D → List D → List D) : Prop where
  ex : ∃ (g : List Value → List Value → List Value) (gV : List V → List V → List V), KBn K fd ps n ks g gV ∧ ∀ {ρ : Nat → Addr} {N : Nat} {H : Hp} {as zs : List D} {vs ws : List V}, RDs K ρ N H as vs → RDs K ρ N H zs ws → RDs K ρ N H (gD as zs) (gV vs ws)
def kcallM (F : List D → MH → R D) (n m : Nat) (gD : List D → List D → List D) (ms mk : M (List D)) : M D := bindM ms fun as => bindM mk fun zs _ h => if (as.all D.st = true ∧ zs.all D.st = true) ∧ as.length = n ∧ zs.length = m then F (gD as zs) h else .stuck
theorem rdT_bind2 {K : PySem.W.Frag} {W : WX} {σ : L2.St} {H : Hp} {ms mk : M (List D)} {f : List D → List D → M D} {Q : VK} (mm : Mono ms) (mk' : Mono mk) (q : rdE K W (bindM ms fun a => bindM mk fun b => f a b) σ H Q) :
    rdT K W ms σ H fun vs H1 => rdT K W mk σ H1 fun zs H2 => ∃ ρ σm h as bs, RS K ρ σm h σ H2 ∧ RTs K ρ h H2 as vs ∧ RTs K ρ h H2 bs zs ∧ Post K ρ h H2 (fun c x => W c x σ) (f as bs σm h) Q :=
  rdT_mono (rdT_bind mm q) fun vs H1 z => by
    obtain ⟨ρ, σm, h, as, r, t, p⟩ := z
    refine ⟨ρ, σm, h, r, ?_⟩
    dsimp only [bindM] at p
    cases e : mk σm h with
    | ok bs h1 =>
      rw [e] at p
      have m1 := mk'.ok e
      exact fun ρ1 zs H2 s1 r1 t1 => ⟨ρ1, σm, h1, as, bs, r.step s1 m1 r1, t.step r.heap s1 m1, t1, Post.of_step r1 s1 m1 p⟩
    | exc x h1 => rw [e] at p; exact p
    | stuck => rw [e] at p; exact p
section
variable {X : Cx} {W : WX} {k n : Nat} {f : Addr} {fd : FuncData} {ps ks : List Str} {x : Str} {p pos : Pos} {e : Expr} {es : List Expr} {kws : List Keyword} {ms mk : M (List D)} {F : List D → MH → R D} {gD : List D → List D → List D}
theorem mono_kcall (FM : ∀ ds h, MonoR h (F ds h)) {m : Nat} (a : Mono ms) (b : Mono mk) : Mono (kcallM F n m gD ms mk) := a.bind fun as => b.bind fun zs _ h => mono_if (FM _ h)
theorem se_callK {m : Nat} (FM : FnM X.prog X.w X.K X.mg X.base k f fd ps F) (hgd : X.A.guards = some []) (hr : Room k X.A) (hg : Gl X x) (hm : X.mg x = some (.ref f)) (hk : PySem.W.keepIn X.K (.ref f) = true) (hb : KwG X.K fd ps n ks gD)
    (ha : ST X W0 (e :: es) ms) (hkw : SK X W0 kws mk) (hall : (backToKw pos (keywordEach kws X.env)).all (·.1.isSome) = true := by rfl) (hks : (backToKw pos (keywordEach kws X.env)).filterMap (·.1) = ks := by rfl) (hml : ks.length = m := by rfl)
    (hdb : (x == ("__debug__" : Str)) = false := by decide) (he : starEach (e :: es) X.env = (false, eval e X.env) :: starEach es X.env := by rfl)
    (hpl : ((backTo pos (starEach (e :: es) X.env)).any (·.1) || (backToKw pos (keywordEach kws X.env)).any (·.1.isNone)) = false := by rfl) :
    SE X W0 (.Call (.Name x p) (e :: es) kws pos) (kcallM F n m gD ms mk) := by
  subst hml
  refine ⟨mono_kcall FM.mono ha.mono hkw.mono, ⟨fun pins s σ H Q I q => ?_⟩⟩
  obtain ⟨g, gV, B, rl⟩ := hb.ex
  refine wpAny_Call_Name_kw (ld_glob I hg hm ?_ hdb)
  refine PySem.W.callWith_KW (h₀ := X.base) I.ok.mod.kin hk hall (thn (ha.pa.run pos pins s σ H _ I (rdT_bind2 (f := fun as zs _ h => if (as.all D.st = true ∧ zs.all D.st = true) ∧ as.length = n ∧ zs.length = ks.length then F (gD as zs) h else .stuck) ha.mono hkw.mono q)) fun us s1 ⟨vs, H1, I1, r, q1⟩ => ?_) hpl he
  refine thn (hkw.pk.run pos pins s1 σ H1 _ I1 q1) fun ws s2 ⟨zs, H2, I2, rz, ρ, σm, h, as, bs, rs, t1, t2, z⟩ => ⟨I2.kIn, ?_⟩
  rw [hks]
  obtain ⟨⟨⟨c1, c2⟩, c3, c4⟩, z⟩ := post_if z
  have r2 := B.rel r rz
  refine wpAny_call (codeAny_mono (run_fnM FM hgd hr (fun hl => B.to s2 us ws I2.kIn ?_ ?_) I2 r2 rs.heap (rl (t1.rds c1) (t2.rds c2)) z) fun r' s' hq => ?_)
  · rw [← r.length, t1.length, c3]
  · rw [← rz.length, t2.length, c4]
  cases r' with
  | error e => exact hq.elim
  | ok fl =>
    cases fl with
    | ret u => exact I2.after hq
    | next => exact False.elim hq
    | brk => exact False.elim hq
    | cont => exact False.elim hq
theorem se_callK0 {m : Nat} (FM : FnM X.prog X.w X.K X.mg X.base k f fd ps F) (hgd : X.A.guards = some []) (hr : Room k X.A) (hg : Gl X x) (hm : X.mg x = some (.ref f)) (hk : PySem.W.keepIn X.K (.ref f) = true) (hb : KwG X.K fd ps 0 ks gD)
    (hkw : SK X W0 kws mk) (hall : (backToKw pos (keywordEach kws X.env)).all (·.1.isSome) = true := by rfl) (hks : (backToKw pos (keywordEach kws X.env)).filterMap (·.1) = ks := by rfl) (hml : ks.length = m := by rfl)
    (hdb : (x == ("__debug__" : Str)) = false := by decide) (hpl : ((backTo pos (starEach [] X.env)).any (·.1) || (backToKw pos (keywordEach kws X.env)).any (·.1.isNone)) = false := by rfl) :
    SE X W0 (.Call (.Name x p) [] kws pos) (kcallM F 0 m gD nilM mk) := by
  subst hml
  have nl := st_nil (X := X) (W := W0)
  refine ⟨mono_kcall FM.mono nl.mono hkw.mono, ⟨fun pins s σ H Q I q => ?_⟩⟩
  obtain ⟨g, gV, B, rl⟩ := hb.ex
  refine wpAny_Call_Name_kw (ld_glob I hg hm ?_ hdb)
  obtain ⟨ρ0, σm0, h0, rs0, q0⟩ := rdT_bind2 (f := fun as zs _ h => if (as.all D.st = true ∧ zs.all D.st = true) ∧ as.length = 0 ∧ zs.length = ks.length then F (gD as zs) h else .stuck) nl.mono hkw.mono q
  have q1 := q0 ρ0 [] H Step.refl rs0.heap .nil
  refine PySem.W.callWith_KW0 (h₀ := X.base) I.ok.mod.kin hk hall (thn (hkw.pk.run pos pins s σ H _ I q1) fun ws s2 ⟨zs, H2, I2, rz, ρ, σm, h, as, bs, rs, t1, t2, z⟩ => ⟨I2.kIn, ?_⟩) hpl
  rw [hks]
  obtain ⟨⟨⟨c1, c2⟩, c3, c4⟩, z⟩ := post_if z
  have r2 := B.rel (vs := []) (us := []) .nil rz
  refine wpAny_call (codeAny_mono (run_fnM FM hgd hr (fun hl => B.to s2 [] ws I2.kIn rfl ?_) I2 r2 rs.heap (rl (t1.rds c1) (t2.rds c2)) z) fun r' s' hq => ?_)
  · rw [← rz.length, t2.length, c4]
  cases r' with
  | error e => exact hq.elim
  | ok fl =>
    cases fl with
    | ret u => exact I2.after hq
    | next => exact False.elim hq
    | brk => exact False.elim hq
    | cont => exact False.elim hq
end
section
variable {K : PySem.W.Frag} {x qual : Str} {params : Arguments} {body : List Stmt} {scope : Scope} {dvs : List V} {kws : List (Str × V)} {f : Addr} {fd : FuncData} {ps : List Str}
theorem kw_only (F : FunD K x qual params body scope [] kws f fd) (n : Nat) (ks : List Str) (ms : List (Str × V)) (dd : List D) (g : {α : Type} → List α → List α → List α → List α) (hk : kws ≠ []) (hms : ∀ q ∈ ms, q ∈ kws) (hdd : ∀ ρ N H, RDs K ρ N H dd (ms.map (·.2)))
    (hrel : ∀ {mz mv : List V} {vs zs : List V} {us mu ws : List Value}, Vals vs us → Vals mz mu → Vals zs ws → Vals (g vs mz zs) (g us mu ws))
    (hrelD : ∀ {ρ : Nat → Addr} {N : Nat} {H : Hp} {as md zs : List D} {vs mz ws : List V}, RDs K ρ N H as vs → RDs K ρ N H md mz → RDs K ρ N H zs ws → RDs K ρ N H (g as md zs) (g vs mz ws))
    (h : ∀ (D : Addr) (doc pm : Value) (an : Option Addr) (cdv ct : Value) (us mv ws : List Value), us.length = n → mv.length = ms.length → ws.length = ks.length →
      KwChain D ((ms.map (·.1)).zip mv) (bindArgs (PySem.W.fnOf x qual params body scope .none (.ref D) doc pm an cdv ct) ⟨us, ks.zip ws⟩) (ps.zip (g us mv ws))) :
    KwG K fd ps n ks (fun as zs => g as dd zs) := by
  obtain ⟨oc, od, dV, kV, doc, pm, an, cdv, ct, osl, rfl, lk, hcd, hD, hK⟩ := F.ex
  rcases hD with ⟨_, rfl⟩ | ⟨e, _⟩
  · rcases hK with e | ⟨D0, rfl, hq⟩
    · exact absurd e hk
    · obtain ⟨mv, hl, rk, hks⟩ := kwd_vals (ms := ms) fun q hm => hq q (hms q hm)
      exact ⟨fun us ws => g us mv ws, fun vs zs => g vs (ms.map (·.2)) zs, ⟨fun s us ws X l1 l2 => BindsTo.of_looks fun M => KwChain.looks X hks (h D0 doc pm an cdv ct us mv ws l1 hl l2), fun r1 r2 => hrel (mz := ms.map (·.2)) (mv := []) r1 rk r2⟩, fun r1 r2 => hrelD r1 (hdd _ _ _) r2⟩
  · exact absurd rfl e
theorem kw_plain (F : FunD K x qual params body scope [] kws f fd) (n : Nat) (ks : List Str) (g : {α : Type} → List α → List α → List α)
    (hrel : ∀ {vs zs : List V} {us ws : List Value}, Vals vs us → Vals zs ws → Vals (g vs zs) (g us ws))
    (hrelD : ∀ {ρ : Nat → Addr} {N : Nat} {H : Hp} {as zs : List D} {vs ws : List V}, RDs K ρ N H as vs → RDs K ρ N H zs ws → RDs K ρ N H (g as zs) (g vs ws))
    (h : ∀ (kV doc pm : Value) (an : Option Addr) (cdv ct : Value) (us ws : List Value), us.length = n → ws.length = ks.length →
      bindArgs (PySem.W.fnOf x qual params body scope .none kV doc pm an cdv ct) ⟨us, ks.zip ws⟩ = pure (ps.zip (g us ws))) :
    KwG K fd ps n ks (fun as zs => g as zs) := by
  obtain ⟨oc, od, dV, kV, doc, pm, an, cdv, ct, osl, rfl, lk, hcd, hD, hK⟩ := F.ex
  rcases hD with ⟨_, rfl⟩ | ⟨e, _⟩
  · exact ⟨fun us ws => g us ws, fun vs zs => g vs zs, ⟨fun s us ws X l1 l2 => BindsTo.of_eq (h kV doc pm an cdv ct us ws l1 l2), fun r1 r2 => hrel r1 r2⟩, fun r1 r2 => hrelD r1 r2⟩
  · exact absurd rfl e
end
end Dn
end
noncomputable section
set_option Elab.async false
set_option linter.all false
set_option maxRecDepth 100000
set_option maxHeartbeats 4000000
namespace Dn
open PySem PySem.Spec PyProof.Rows L2
def nkB (a b : NameKind) : Bool := decide (a = b)
def blkB (N : List Str) (sc scope : Scope) (own : List (Str × Nat)) : Bool :=
  decide (scope.kind = .function) && (scope.names.all fun y => decide (scope.names.lookup y.1 = some y.2)) && (own.all fun p => decide (N[p.2]? = some p.1)) &&
  (scope.names.all fun y => !nkB y.2 .free || decide (sc.names.lookup y.1 = some .cell) || decide (sc.names.lookup y.1 = some .free)) &&
  (scope.names.all fun y => !(nkB y.2 .local || nkB y.2 .cell) || decide (y.1 ∈ own.map (·.1)) || decide (y.1 ∉ N))
theorem blk_ok {N : List Str} {sc scope : Scope} {own : List (Str × Nat)} (h : blkB N sc scope own = true) : BlkOk N sc scope own := by
  unfold blkB at h
  simp only [Bool.and_eq_true, decide_eq_true_eq, List.all_eq_true, Bool.or_eq_true, Bool.not_eq_true'] at h
  obtain ⟨⟨⟨⟨h1, h2⟩, h3⟩, h4⟩, h5⟩ := h
  refine ⟨h1, h2, h3, fun y hy e => ?_, fun y hy e => ?_⟩
  · rcases h4 y hy with (z | z) | z
    · unfold nkB at z; rw [e] at z; simp at z
    · exact .inl z
    · exact .inr z
  · rcases h5 y hy with (z | z) | z
    · exfalso
      rcases e with e | e <;> (unfold nkB at z; rw [e] at z; simp at z)
    · exact .inl z
    · exact .inr z
section
variable {X : Cx} {W : WX} {x : Str} {pos : Pos}
theorem se_gint (i : Int) (hg : Gl X x) (hm : ∃ t, X.mg x = some (.int i t)) (hd : (x == ("__debug__" : Str)) = false := by decide) : SE X W (.Name x pos) (retM (.int i)) := by
  obtain ⟨t, e⟩ := hm
  exact se_const (pe_glob (v := .int i) hg e ⟨t, rfl⟩ hd) fun _ _ _ => .int i
theorem se_gstr (l : List Nat) {z : Str} (hg : Gl X x) (hm : ∃ t, X.mg x = some (.str z t)) (e : z = mx l := by rfl) (ok : okS l = true := by decide) (hd : (x == ("__debug__" : Str)) = false := by decide) : SE X W (.Name x pos) (retM (.str l)) := by
  obtain ⟨t, e2⟩ := hm
  subst e
  exact se_const (pe_glob (v := .str (mx l)) hg e2 ⟨t, rfl⟩ hd) fun _ _ _ => .str l ok
end
def DfOk (P : Program) (w : World) (K : PySem.W.Frag) (mg : Str → Option Value) (base : Heap) (x qual : Str) (params : Arguments) (body : List Stmt) (scope : Scope) (dvs : List V) (kws : List (Str × V)) (f : Addr) (k : Nat) (ps : List Str) (F : List D → MH → R D) : Prop :=
  ∃ fd, FunD K x qual params body scope dvs kws f fd ∧ FnM P w K mg base k f fd ps F
instance decA : DecidableEq atomSys.κ := inferInstanceAs (DecidableEq Key)
instance decT : DecidableEq tupSys.κ := inferInstanceAs (DecidableEq (List Key))
theorem u65 {k : Nat} {A : Around} (r : Room k A) : A.units + 65 < cLine := by have := r.un; omega
end Dn
end
noncomputable section
set_option Elab.async false
set_option linter.all false
set_option maxRecDepth 100000
set_option maxHeartbeats 4000000
namespace Dn
open PySem PySem.Spec PyProof.Rows L2
def mh0 (ns : List Int) : MH := [.rol (ns.map D.int)]
theorem rds_int {K : PySem.W.Frag} {ρ : Nat → Addr} {N : Nat} {H : Hp} : ∀ ns : List Int, RDs K ρ N H (ns.map D.int) (ns.map V.int)
  | [] => .nil
  | n :: ns => .cons (.int n) (rds_int ns)
theorem rh0 {K : PySem.W.Frag} {H : Hp} {a : Addr} {ns : List Int} (h : (∃ o, H a = some (.frz o (.lst (ns.map V.int)))) ∨ ∀ H', SqL K H' a (ns.map V.int)) : RH K (fun _ => a) (mh0 ns) H where
  obj := fun n o e => by
    cases n with
    | zero =>
      cases e
      exact ⟨_, h, rds_int ns⟩
    | succ n => cases e
  inj := fun m n hm _ _ => by
    obtain ⟨o, e, q⟩ := hm
    cases m with
    | zero => cases e; cases q
    | succ m => cases e
structure At0 (P : Program) (w : World) (K : PySem.W.Frag) (mg : Str → Option Value) (s : Shared) (H : Hp) (a : Addr) (ns : List Int) : Prop where
  only : ∀ b, H b = none ∨ ∃ o xs, H b = some (.frz o (.lst xs))
  seq : (∃ o, H a = some (.frz o (.lst (ns.map V.int)))) ∨ ∀ H', SqL K H' a (ns.map V.int)
  hok : HOk P w H s.heap
  at_ : ∀ b, H b ≠ none → b = a
  hk : H a ≠ none → K.lookup a = none
theorem callM_at {P : Program} {w : World} {K : PySem.W.Frag} {mg mb : Str → Option Value} {k : Nat} {fa a : Addr} {fd : FuncData} {x : Str} {F : List D → MH → R D} {s : Shared} {vs : List Value} {ns : List Int} {H : Hp} (Z : At0 P w K mg s H a ns)
    (KX : K.In s.heap) (hns : s.heap.Ns mainGlobals mg) (hb : s.heap.Ns builtinsNs mb) (hbb : ∀ x : Str, x ≠ "__name__" → mb x = bootBuiltins x) (hlim : s.heap.NoLimit) (hg : s.gens = #[])
    (ha : s.heap.get? a = some { cls := .type "list", data := .seq vs.toArray }) (hr : Room k callerA)
    (FM : ∀ base : Heap, K.In base → base.Ns mainGlobals mg → FnM P w K mg base k fa fd [x] F) (hbind : ∀ (s : Shared) (u : Value), BindsTo s fd ⟨[u], []⟩ [(x, u)])
    (law : ∃ h, F [.ref 0] (mh0 ns) = .ok (.bl true) h) :
    codeAny (model P w) callerA (.call (.ref fa) ⟨[.ref a], []⟩) (fun r s' => r = .ok (.ret (.bool true)) ∧ OldK s.heap s'.heap ∧ s'.os = s.os ∧ AllBare s'.gens) s := by
  have under : ∀ {b : Addr} {o : Obj}, s.heap.get? b = some o → H b = none → (hidT s.heap H).get? b = some o := fun e n => hidT_get e n
  have free : ∀ {b : Addr} {o : Obj} {es : Array DictEntry} {ep : Nat}, s.heap.get? b = some o → o.data = .dict es ep → H b = none := fun {b o es ep} e d => by
    cases q : H b with
    | none => rfl
    | some u =>
      have e' := Z.at_ b (by rw [q]; simp)
      subst e'
      rw [ha] at e
      cases e
      have d' : Data.seq vs.toArray _ = Data.dict es ep := d
      cases d'
  have nsK : ∀ {b : Addr} {m : Str → Option Value}, s.heap.Ns b m → (hidT s.heap H).Ns b m := fun {b m} ⟨o, es, ep, e, d, r⟩ => ⟨o, es, ep, under e (free e d), d, r⟩
  have kin : K.In (hidT s.heap H) := fun b o e => under (KX b o e) (by
    cases q : H b with
    | none => rfl
    | some u =>
      have e' := Z.at_ b (by rw [q]; simp)
      subst e'
      rw [Z.hk (by rw [q]; simp)] at e
      cases e)
  have md : Mod K mg (hidT s.heap H) := ⟨kin, nsK hns, ⟨mb, nsK hb, hbb⟩, by
    obtain ⟨mc, h1, h2⟩ := hlim
    exact ⟨mc, nsK h1, h2⟩⟩
  have e0 : Env0 P w K mg (hidT s.heap H) callerA [] s H := ⟨rfl, md, fun b o e => of_hidT e, Nat.le_of_eq (hidT_size _ _), trivial, fun b hb => absurd (show b ∈ ([] : List Addr) from hb) (by simp), Z.hok, .of_eq hg⟩
  obtain ⟨h', e⟩ := law
  refine codeAny_mono ((FM _ kin (nsK hns)).run callerA [] s H ⟨[.ref a], []⟩ [.ref a] [.ref a] (fun _ => a) (mh0 ns) [.ref 0] (fun v _ => v = .bl true) rfl hr e0 (hbind s (.ref a)) (.cons rfl .nil) (rh0 Z.seq) (.cons (.ref 0 (by simp [mh0])) .nil) ?_) fun r s' h => ?_
  · rw [e]
    intro ρ' v H' _ _ t _
    cases t
    rfl
  · cases r with
    | error e => exact False.elim h
    | ok fl =>
      cases fl with
      | next => exact False.elim h
      | brk => exact False.elim h
      | cont => exact False.elim h
      | ret u =>
        obtain ⟨v, H', os, bare, un, hok', r', q⟩ := h
        have q' : v = .bl true := q
        subst q'
        obtain rfl : u = Value.bool true := r'
        refine ⟨rfl, OldK.of_keep fun b o e => ?_, os, bare⟩
        rcases Z.only b with z | ⟨ob, xs, z⟩
        · exact un.keep b o e z (by intro z; exact absurd (show b ∈ ([] : List Addr) from z) (by simp)) (by simp)
        · obtain ⟨e1, _⟩ := Z.hok b _ z
          obtain ⟨e2, _⟩ := hok' b _ (un.frzs b ob _ z)
          rw [e] at e1
          cases e1
          exact e2
theorem callM_law {P : Program} {w : World} {K : PySem.W.Frag} {mg mb : Str → Option Value} {k : Nat} {fa a : Addr} {fd : FuncData} {x : Str} {F : List D → MH → R D} {s : Shared} {vs : List Value} {ns : List Int}
    (KX : K.In s.heap) (hns : s.heap.Ns mainGlobals mg) (hb : s.heap.Ns builtinsNs mb) (hbb : ∀ x : Str, x ≠ "__name__" → mb x = bootBuiltins x) (hlim : s.heap.NoLimit) (hg : s.gens = #[])
    (ha : s.heap.get? a = some { cls := .type "list", data := .seq vs.toArray }) (hi : IntsAre vs ns) (hl : ns.length ≤ sizeLine) (hr : Room k callerA)
    (FM : ∀ base : Heap, K.In base → base.Ns mainGlobals mg → FnM P w K mg base k fa fd [x] F) (hbind : ∀ (s : Shared) (u : Value), BindsTo s fd ⟨[u], []⟩ [(x, u)])
    (law : ∃ h, F [.ref 0] (mh0 ns) = .ok (.bl true) h) :
    codeAny (model P w) callerA (.call (.ref fa) ⟨[.ref a], []⟩) (fun r s' => r = .ok (.ret (.bool true)) ∧ OldK s.heap s'.heap ∧ s'.os = s.os ∧ AllBare s'.gens) s := by
  have rv := vals_ints hi
  cases hk : K.lookup a with
  | some o =>
    have e := KX a o hk
    rw [ha] at e
    cases e
    refine callM_at (H := fun _ => none) ⟨fun _ => .inl rfl, .inr fun H' => .inr ⟨_, vs.toArray, _, hk, rfl, rfl, rfl, by rw [List.size_toArray, hi.length]; exact hl, by simpa using rv⟩, fun b u z => (by cases z), fun b z => absurd rfl z, fun z => absurd rfl z⟩ KX hns hb hbb hlim hg ha hr FM hbind law
  | none =>
    let H : Hp := fun b => if b = a then some (.frz { cls := .type "list", data := .seq vs.toArray } (.lst (ns.map V.int))) else none
    have H1 : ∀ b, b ≠ a → H b = none := fun b hb => if_neg hb
    have H2 : H a = some (.frz { cls := .type "list", data := .seq vs.toArray } (.lst (ns.map V.int))) := if_pos rfl
    refine callM_at (H := H) ⟨fun b => ?_, .inl ⟨_, H2⟩, fun b u z => ?_, fun b z => ?_, fun _ => hk⟩ KX hns hb hbb hlim hg ha hr FM hbind law
    · by_cases hb : b = a
      · subst hb; exact .inr ⟨_, _, H2⟩
      · exact .inl (H1 b hb)
    · by_cases hb : b = a
      · subst hb
        rw [H2] at z
        cases z
        exact ⟨ha, by rw [List.length_map]; exact hl, vs, _, rv, ha⟩
      · rw [H1 b hb] at z; cases z
    · by_cases hb : b = a
      · exact hb
      · exact absurd (H1 b hb) z
theorem walk_ofM {l : PySem.W.OpenLaw} {n k : Nat} {q : Program} {loose : List Str} {XP : (Str → Option Value) → Heap → Prop} {YP : World → Heap → Prop} {d : DefRec} {x : Str} {F : List D → MH → R D}
    (hn : l.most = some n) (hn2 : n ≤ sizeLine) (hdf : d.params.defaults = []) (hr : Room k callerA)
    (FM : ∀ (w : World) (mg : Str → Option Value) (fa : Addr) (h : Heap), YP w h → h.Ns mainGlobals mg → mg d.name = some (.ref fa) →
      ∃ (K : PySem.W.Frag) (fd : FuncData), K.In h ∧ (∀ (s : Shared) (u : Value), BindsTo s fd ⟨[u], []⟩ [(x, u)]) ∧ ∀ base : Heap, K.In base → base.Ns mainGlobals mg → FnM l.prog w K mg base k fa fd [x] F)
    (law : ∀ ns : List Int, ns.length ≤ n → (∀ z ∈ ns, Builtin.Int.intBits z ≤ 1048576) → ∃ h, F [.ref 0] (mh0 ns) = .ok (.bl true) h) :
    PySem.W.WalkO q loose XP YP l.row.toRowW d [] (fun f vs => PySem.call f vs) := by
  refine Att.attach_callB hn hdf fun w s₀ s₁ mg mb fa o pm cd doc a vs ns G Y ho hd hcd hmg hobj hints hlen hbits hg => ?_
  obtain ⟨K, fd, KX, hb, hF⟩ := FM w mg fa _ Y G.T.g hmg
  exact callM_law KX G.T.g G.T.b G.T.builtins G.T.nolimit hg hobj hints (Nat.le_trans hlen hn2) hr hF hb (law ns hlen hbits)
end Dn
end
noncomputable section
set_option Elab.async false
set_option linter.all false
set_option maxRecDepth 100000
set_option maxHeartbeats 4000000
namespace Dn
open PySem PySem.Spec L2
def asgLS (ps : List Pat) (m : M D) : MS := runS m fun d σ h => match d with
  | .tup ds => if ds.length = ps.length then (match putL ps ds σ with
    | some σ' => .nx σ' h
    | none => .stuck) else .stuck
  | d => match lstOf h d with
    | some ds => if ds.length = ps.length then (match putL ps ds σ with
      | some σ' => .nx σ' h
      | none => .stuck) else .stuck
    | none => .stuck
theorem live_ok' {h : MH} {d : D} {ds : List D} (e : lstOf h d = some ds) : ∀ q ∈ liveOf d ds, lstOf h (.ref q.1) = some q.2 := by
  intro p hp
  cases d with
  | ref n => simp [liveOf] at hp; subst hp; exact e
  | _ => simp [liveOf] at hp
def gUnp (K : PySem.W.Frag) (ps : List Pat) : TG := fun v σ H Q => gTup K ps.length (rdL K ps) v σ H Q ∨ gUnl K ps.length (rdL K ps) v σ H Q
section
variable {X : Cx} {W : WX} {pos pos' : Pos} {tg e : Expr} {es : List Expr} {ps : List Pat} {m : M D}
theorem pg_any {k : Nat} (hc : X.calm = true) (h : SGs X es ps) (hn : (assignEach es X.env).length = ps.length := by rfl) (hst : (assignEach es X.env).findIdx? (·.1) = none := by rfl) : PG X (.Tuple es k pos) (gUnp X.K ps) := by
  refine ⟨fun pins s σ H v u Q I r hw => ?_⟩
  rcases hw with hw | hw
  · exact (pg_tup hc h hn hst).run pins s σ H v u Q I r hw
  · exact (pg_unl hc h hn hst).run pins s σ H v u Q I r hw
theorem mono_put (σ : Sg) (ds : List D) (h : MH) : Fl.mono h (if ds.length = ps.length then (match putL ps ds σ with
    | some σ' => Fl.nx σ' h
    | none => .stuck) else .stuck) := by
  split
  · split
    · exact MonoH.refl h
    · trivial
  · trivial
theorem ss_asgL {k : Nat} (he : SE X W e m) (hc : X.calm = true) (hg : SGs X es ps) (hn : (assignEach es X.env).length = ps.length := by rfl) (hst : (assignEach es X.env).findIdx? (·.1) = none := by rfl)
    (hs : swapsWithSole [.Tuple es k pos'] e pos.line X.env = pure false := by rfl) (hw : swappedStores [.Tuple es k pos'] e X.env = pure none := by rfl)
    (h1 : (assignEach [.Tuple es k pos'] X.env).map (·.2) = [assign (.Tuple es k pos') X.env] := by rfl) : SS X W (.Assign [.Tuple es k pos'] e pos) (asgLS ps m) :=
  ⟨mono_run he.mono fun d σ h => by
    split
    · exact mono_put σ _ h
    · split
      · exact mono_put σ _ h
      · trivial, weakS (ps_asg he.pe (pg_any hc hg hn hst) hs hw h1) fun E σ H q => rd_mono (rdS_run he.mono q) fun v H1 z => by
    obtain ⟨ρ, σm, h, d, r, t, pq⟩ := z
    split at pq
    · rename_i ds
      by_cases hl : ds.length = ps.length
      · rw [if_pos hl] at pq
        cases e1 : putL ps ds σm with
        | some σ' =>
          rw [e1] at pq
          obtain ⟨p, xs, rfl, z⟩ := tup_at r.heap t
          obtain ⟨a, b⟩ := z Step.refl (MonoH.refl _) r.heap
          exact .inl ⟨p, xs, rfl, a, by rw [b.length]; exact hl, patL_ok r b e1 fun σ2 r2 _ => pq ρ σ2 H1 Step.refl r2⟩
        | none => rw [e1] at pq; exact pq.elim
      · rw [if_neg hl] at pq; exact pq.elim
    · split at pq
      · rename_i ds el
        by_cases hl : ds.length = ps.length
        · rw [if_pos hl] at pq
          cases e1 : putL ps ds σm with
          | some σ' =>
            rw [e1] at pq
            obtain ⟨p, rfl, z⟩ := list_at r.heap t el
            obtain ⟨xs, a, b⟩ := z Step.refl (MonoH.refl _) r.heap (live_ok' el)
            exact .inr ⟨p, xs, rfl, a, by rw [b.length]; exact hl, patL_ok r b e1 fun σ2 r2 _ => pq ρ σ2 H1 Step.refl r2⟩
          | none => rw [e1] at pq; exact pq.elim
        · rw [if_neg hl] at pq; exact pq.elim
      · exact pq.elim⟩
end
end Dn
end
noncomputable section
set_option Elab.async false
set_option linter.all false
set_option maxRecDepth 100000
set_option maxHeartbeats 4000000
namespace Dn
open PySem PySem.Spec L2
def rEqE (K : PySem.W.Frag) (neg : Bool) : R2 := fun x y H Q => ∃ a b xs, x = .ref a ∧ y = .ref b ∧ SqL K H a xs ∧ SqL K H b [] ∧ Q (.bl (if neg then !xs.isEmpty else xs.isEmpty)) H
section
variable {X : Cx}
theorem op_eqE (hu : X.A.units + 64 < cLine) : OpR X (compareOp .Eq) (rEqE X.K false) := by
  intro pins s σ H x y v u Q I rx ry h
  obtain ⟨a, b, xs, rfl, rfl, ha, hb, q⟩ := h
  cases (show v = Value.ref a from rx)
  cases (show u = Value.ref b from ry)
  obtain ⟨us, r1, p1, _⟩ := I.list ha
  obtain ⟨ws, r2, p2, _⟩ := I.list hb
  have l1 := r1.length
  have l2 := r2.length
  cases xs with
  | nil =>
    have hsz : us.toArray.size = ws.toArray.size := by
      rw [List.size_toArray, List.size_toArray, ← l1, ← l2]
    have z : us.toArray.size = 0 := by rw [List.size_toArray, ← l1]; rfl
    refine SeqAt.RcAt.lists (e := fun _ => true) p1.isList p2.isList hsz (by omega) (fun j h1 h2 => absurd h1 (by omega)) _ _ _ _ ?_
    rw [z]
    exact ⟨.bl true, H, I, rfl, q⟩
  | cons x xs =>
    have hsz : (us.toArray.size != ws.toArray.size) = true := by
      rw [List.size_toArray, List.size_toArray, ← l1, ← l2]
      simp
    exact SeqAt.RcAt.lists_lengths p1.isList p2.isList hsz (by omega) _ _ _ _ ⟨.bl false, H, I, rfl, q⟩
theorem op_neE (hu : X.A.units + 64 < cLine) : OpR X (compareOp .NotEq) (rEqE X.K true) := by
  intro pins s σ H x y v u Q I rx ry h
  obtain ⟨a, b, xs, rfl, rfl, ha, hb, q⟩ := h
  cases (show v = Value.ref a from rx)
  cases (show u = Value.ref b from ry)
  obtain ⟨us, r1, p1, _⟩ := I.list ha
  obtain ⟨ws, r2, p2, _⟩ := I.list hb
  have l1 := r1.length
  have l2 := r2.length
  cases xs with
  | nil =>
    have hsz : us.toArray.size = ws.toArray.size := by
      rw [List.size_toArray, List.size_toArray, ← l1, ← l2]
    have z : us.toArray.size = 0 := by rw [List.size_toArray, ← l1]; rfl
    refine SeqAt.RcNeAt.lists (e := fun _ => true) p1.isList p2.isList hsz (by omega) (fun j h1 h2 => absurd h1 (by omega)) _ _ _ _ ?_
    rw [z]
    exact ⟨.bl false, H, I, rfl, q⟩
  | cons x xs =>
    have hsz : (us.toArray.size != ws.toArray.size) = true := by
      rw [List.size_toArray, List.size_toArray, ← l1, ← l2]
      simp
    exact SeqAt.RcNeAt.lists_lengths p1.isList p2.isList hsz (by omega) _ _ _ _ ⟨.bl true, H, I, rfl, q⟩
end
def gEqE (neg : Bool) (a b : D) (h : MH) : R D := match lstOf h a, lstOf h b with
  | some ds, some [] => .ok (.bl (if neg then !ds.isEmpty else ds.isEmpty)) h
  | _, _ => .stuck
theorem lift_eqE {K : PySem.W.Frag} {neg : Bool} : Lift2 K (rEqE K neg) (gEqE neg) where
  mono := fun a b h => by
    unfold gEqE
    split
    · exact MonoH.refl h
    · trivial
  run := fun {ρ h H W a b x y Q} r ta tb p => by
    unfold gEqE at p
    split at p
    · rename_i ds e1 e2
      obtain ⟨p1, xs, rfl, a1, b1⟩ := lst_val r ta e1
      obtain ⟨p2, ys, rfl, a2, b2⟩ := lst_val r tb e2
      cases b2
      have : xs.isEmpty = ds.isEmpty := by
        have := b1.length
        cases xs <;> cases ds <;> simp_all
      refine ⟨p1, p2, xs, rfl, rfl, a1, a2, ?_⟩
      rw [this]
      exact Post.val r p (.bl _)
    · exact p.elim
theorem gEqE_lst {neg : Bool} {h : MH} {d : D} {ds : List D} (e : lstOf h d = some ds) : gEqE neg d (.tl []) h = .ok (.bl (if neg then !ds.isEmpty else ds.isEmpty)) h := by
  unfold gEqE
  rw [e]
  rfl
end Dn
end
noncomputable section
set_option Elab.async false
set_option linter.all false
set_option maxRecDepth 100000
set_option maxHeartbeats 4000000
namespace Dn
open PySem PySem.Spec PyProof.Rows L2
structure FnX (P : Program) (w : World) (K : PySem.W.Frag) (mg : Str → Option Value) (base : Heap) (k : Nat) (f : Addr) (fd : FuncData) (ps : List Str) (F : List D → MH → R D) : Prop where
  mono : ∀ ds h, MonoR h (F ds h)
  len : ∀ ds h, F ds h ≠ .stuck → ds.length = ps.length
  run : ∀ (A : Around) (outer : List Env) (s : Shared) (H : Hp) (args : Args) (us : List Value) (vs : List V) (ρ : Nat → Addr) (h : MH) (ds : List D) (Q : VK) (E : XK), A.guards = some [] → Room k A → Env0 P w K mg base A outer s H →
    BindsTo s fd args (ps.zip us) → Vals vs us → RH K ρ h H → RDs K ρ h.length H ds vs → Post K ρ h H E (F ds h) Q → codeAny (model P w) A (.call (.ref f) args) (CR (L2.CX P w) outer P w H s Q E) s
section
variable {P : Program} {w : World} {K : PySem.W.Frag} {mg : Str → Option Value} {base : Heap} {k : Nat} {f : Addr} {fd : FuncData} {ps N : List Str} {x qual : Str} {params : Arguments} {body : List Stmt} {scope : Scope} {dvs : List V} {kws : List (Str × V)} {m : MS} {F : List D → MH → R D}
theorem FnX.toM (X : FnX P w K mg base k f fd ps F) : FnM P w K mg base k f fd ps F :=
  ⟨X.mono, X.len, fun A outer s H args us vs ρ h ds Q hg hr e0 hbt hv rh rd p => codeAny_mono (X.run A outer s H args us vs ρ h ds Q (fun _ _ _ => False) hg hr e0 hbt hv rh rd p) fun r s' hq => by
    cases r with
    | error e =>
      obtain ⟨_, _, _, _, _, _, _, _, _, _, _, _, z⟩ := hq
      exact z.elim
    | ok fl => cases fl <;> exact hq⟩
def quiet (F : List D → MH → R D) : List D → MH → R D := fun ds h => match F ds h with
  | .ok d h1 => .ok d h1
  | _ => .stuck
theorem quiet_ok {ds : List D} {h h1 : MH} {d : D} (e : F ds h = .ok d h1) : quiet F ds h = .ok d h1 := by unfold quiet; rw [e]
theorem FnM.toX (X : FnM P w K mg base k f fd ps F) : FnX P w K mg base k f fd ps (quiet F) where
  mono := fun ds h => by
    have z := X.mono ds h
    unfold quiet
    cases e : F ds h with
    | ok d h1 => rw [e] at z; exact z
    | exc _ _ => trivial
    | stuck => trivial
  len := fun ds h z => X.len ds h fun e => by
    unfold quiet at z
    rw [e] at z
    exact z rfl
  run := fun A outer s H args us vs ρ h ds Q E hg hr e0 hbt hv rh rd p => by
    refine codeAny_mono (X.run A outer s H args us vs ρ h ds Q hg hr e0 hbt hv rh rd ?_) fun r s' hq => ?_
    · unfold quiet at p
      cases e : F ds h with
      | ok d h1 => rw [e] at p; exact p
      | exc _ _ => rw [e] at p; exact p.elim
      | stuck => rw [e] at p; exact p.elim
    · cases r with
      | error e => exact hq.elim
      | ok fl => cases fl <;> exact hq
theorem FnX.more {j : Nat} (x : FnX P w K mg base j f fd ps F) (h : j ≤ k) : FnX P w K mg base k f fd ps F :=
  ⟨x.mono, x.len, fun A outer s H args us vs ρ h' ds Q E g hr => x.run A outer s H args us vs ρ h' ds Q E g (hr.mono h)⟩
abbrev cxX (P : Program) (w : World) (K : PySem.W.Frag) (mg : Str → Option Value) (base : Heap) (N : List Str) (qual : Str) (scope : Scope) (f : Addr) (cdv : Value) (A : Around) (outer : List Env) (s : Shared) (H : Hp) (E : XK) : Cx := cxOf (L2.CX P w) P w K mg base N qual scope f cdv A outer s H E
abbrev WX0 (E : XK) : WX := fun c d _ H => E c d H
theorem fnX_of (F : FunD K x qual params body scope dvs kws f fd) (S : FnScope N ps scope) (hk : k ≤ 100)
    (hb : ∀ (cdv : Value) (A : Around) (outer : List Env) (s : Shared) (H : Hp) (E : XK), A.guards = some [] → Room k (A.deeper (envOfC qual scope s.heap.objs.size f cdv)) → SSs (cxX P w K mg base N qual scope f cdv A outer s H E) (WX0 E) body m) :
    FnX P w K mg base (k + 1) f fd ps (fnD ps.length N.length m) := by
  have mm : MonoS m := (hb .none { guards := some [] } [] {} (fun _ => none) (fun _ _ _ => False) rfl ⟨rfl, by show 0 + 1 + 3 * k + 5 < _; unfold recursionLimit; omega, by show 1 + 3 + 16 * k + 200 < _; unfold cLine; omega⟩).mono
  refine ⟨mono_fnD mm, fun ds h => ?_, fun A outer s H args us vs ρ h ds Q E hg hr e0 hbt hv rh rd p => ?_⟩
  · unfold fnD
    intro z
    by_cases e : ds.length = ps.length
    · exact e
    · rw [if_neg e] at z; exact absurd rfl z
  have hl : ds.length = ps.length := by
    by_cases e : ds.length = ps.length
    · exact e
    · unfold fnD at p; rw [if_neg e] at p; exact p.elim
  unfold fnD at p
  rw [if_pos hl] at p
  obtain ⟨oc, od, dV, kV, doc, pm, an, cdv, ct, osl, rfl, lk, hcd, _, _⟩ := F.ex
  have KX : K.In s.heap := e0.mod.kin.keeps fun b o e => (e0.bs b o e).1
  have lim : s.heap.NoLimit := e0.mod.nolimit.keeps fun b o e => (e0.bs b o e).1
  have hkind : ∀ y ∈ ps.zip us, scope.names.lookup y.1 = some .local ∨ (scope.names.lookup y.1 = some .cell ∧ ((cellsFrom (s.heap.objs.size + 1) scope.names []).lookup y.1).isSome = true) := fun ⟨n, v⟩ hy => by
    rcases S.par n (List.of_mem_zip hy).1 with q | q
    · exact .inl q
    · exact .inr ⟨q, PySem.W.cellsFrom_some _ _ _ (.inl q)⟩
  refine codeAny_call_function hr.depth (KX _ _ lk) rfl S.co S.gen rfl (PySem.W.codeRec_of KX hcd) (hbt _ _ _ _ ?_)
  refine wpAny_newFunctionEnv_cells S.kind hkind fun env he s1 y => ?_
  subst he
  refine ⟨lim.keeps y.toInCall.keep, codeAny_func ?_⟩
  have B := (hb cdv A outer s H E hg (hr.deeper _)).pss
  have I : Inv (cxOf (L2.CX P w) P w K mg base N qual scope f cdv A outer s H E) [] (L2.start N vs) H s1 := inv_start S hr.hd e0 (by rw [rd.length, hl]) hv y
  let fin : Ends := { nx := fun _ H' => Q .non H', rt := Q }
  have rs : RS K ρ (Dn.begin_ N.length ds) h (L2.start N vs) H := .begin_ rh rd
  have q : rdS K (WX0 E) m fin (L2.start N vs) H := by
    refine ⟨ρ, _, h, rs, ?_⟩
    cases e : m (Dn.begin_ N.length ds) h with
    | nx σ1 h1 => rw [e] at p; exact fun ρ' σ2 H' s' r' => p ρ' .non H' s' r'.heap RD.non.rt (RD.non (K := K) (ρ := ρ') (N := h1.length) (H := H')).fr0
    | rt d h1 => rw [e] at p; exact fun ρ' v H' s' r' t' => p ρ' v H' s' r' t'.rt t'.fr0
    | ex x σ1 h1 => rw [e] at p; exact fun ρ' c d σ2 H' s' r' => p ρ' c d H' s' r'.heap
    | bk _ _ => rw [e] at p; exact p.elim
    | ct _ _ => rw [e] at p; exact p.elim
    | stuck => rw [e] at p; exact p.elim
  refine wpAny_mono (B.run [] s1 (L2.start N vs) H fin I q) (fun fl s' hs => ?_) fun e s' hs => hs
  have fin' : ∀ {σ' : L2.St} {H' : Hp} {v : V} {u : Value}, Inv (cxOf (L2.CX P w) P w K mg base N qual scope f cdv A outer s H E) [] σ' H' s' → RelV v u → Q v H' → CE outer P w H s Q u s' :=
    fun {σ' H' v u} J rv q => ⟨v, H', J.os, J.bare, J.base, J.hok, rv, q⟩
  cases fl with
  | ret u =>
    obtain ⟨v, σ', H', J, rv, q⟩ := hs
    exact fin' J rv q
  | next =>
    obtain ⟨σ', H', J, q⟩ := hs
    exact fin' (v := V.non) (u := Value.none) J rfl q
  | brk =>
    obtain ⟨_, _, _, q⟩ := hs
    exact False.elim q
  | cont =>
    obtain ⟨_, _, _, q⟩ := hs
    exact False.elim q
end
section
variable {X : Cx} {W : WX} {k : Nat} {f : Addr} {fd : FuncData} {ps : List Str} {dvs : List V} {ds : List Value} {x : Str} {p pos : Pos} {e : Expr} {es : List Expr} {ms mk : M (List D)} {F : List D → MH → R D}
theorem run_fnX {pins : List (Addr × Obj)} {σ : L2.St} {H : Hp} {s : Shared} {Q : VK} {ρ : Nat → Addr} {h : MH} {as : List D} (FM : FnX X.prog X.w X.K X.mg X.base k f fd ps F) (hg : X.A.guards = some []) (hr : Room k X.A) {args : Args} {ws : List Value} {zs : List V}
    (hb : ws.length = ps.length → BindsTo s fd args (ps.zip ws)) (I : Inv X pins σ H s) (r : Vals zs ws) (rh : RH X.K ρ h H) (rd : RDs X.K ρ h.length H as zs) (q : Post X.K ρ h H (fun c d => W c d σ) (F as h) Q) :
    codeAny (model X.prog X.w) X.A (.call (.ref f) args) (CR (L2.CX X.prog X.w) X.stack X.prog X.w H s Q (WE W σ)) s := by
  have hl : ws.length = ps.length := by
    have z := FM.len as h (fun e => by rw [e] at q; exact q)
    rw [← z, ← r.length, rd.length]
  exact FM.run X.A X.stack s H args ws zs ρ h as Q (WE W σ) hg hr I.env0 (hb hl) r rh rd q
theorem se_callX {dd : List D} (tk : Takes X W) (FM : FnX X.prog X.w X.K X.mg X.base k f fd ps F) (hgd : X.A.guards = some []) (hr : Room k X.A) (hg : Gl X x) (hm : X.mg x = some (.ref f)) (hk : PySem.W.keepIn X.K (.ref f) = true) (hb : Binds X.K fd ps ds) (hd : Vals dvs ds)
    (hdd : ∀ ρ N H, RDs X.K ρ N H dd dvs)
    (ha : ST X W (e :: es) ms) (hdb : (x == ("__debug__" : Str)) = false := by decide) (he : starEach (e :: es) X.env = (false, eval e X.env) :: starEach es X.env := by rfl) (hpl : (backTo pos (starEach es X.env)).any (·.1) = false := by rfl) :
    SE X W (.Call (.Name x p) (e :: es) [] pos) (fcallM F dd ms) := by
  refine ⟨ha.mono.bind fun as _ h => mono_if (FM.mono _ h), ⟨fun pins s σ H Q I q => ?_⟩⟩
  refine wpAny_Call_Name_kw (ld_glob I hg hm ?_ hdb)
  refine PySem.W.callWith_K (h₀ := X.base) I.ok.mod.kin hk (thn (ha.pa.run pos pins s σ H _ I (rdT_bind ha.mono q)) fun us s1 ⟨vs, H1, I1, r, ρ, σm, h, as, rs, t, z⟩ => ⟨I1.kIn, ?_⟩) he hpl
  obtain ⟨c, z⟩ := post_if z
  refine wpAny_call (codeAny_mono (run_fnX (W := W) FM hgd hr (fun hl => hb s1 us I1.kIn hl) I1 (r.append hd) rs.heap ((t.rds c).append (hdd _ _ _)) z) fun r' s' hq => ?_)
  cases r' with
  | error e => exact passAt tk σ pins _ _ _ _ I1 hq
  | ok fl =>
    cases fl with
    | ret u => exact I1.after hq
    | next => exact False.elim hq
    | brk => exact False.elim hq
    | cont => exact False.elim hq
end
def raiseS (C : Str) : MS := fun σ h => .ex ⟨C, none⟩ σ h
section
variable {X : Cx} {W : WX} {pos : Pos}
theorem ss_raise {C m : Str} {j : Nat} {p p2 cpos : Pos} (hc : X.calm = true) (tk : Takes X W) (gC : X.mg C = some (.ref (clsA X.K C))) (q : PySem.W.excIn X.K (clsA X.K C) He.veBase "ValueError.__new__" = true ∧ PySem.W.keepIn X.K (.ref (clsA X.K C)) = true ∧ PySem.W.subIn X.K (.ref (clsA X.K C)) (.type "BaseException") = some true ∧
    PySem.W.typeIn X.K (.ref (clsA X.K C)) = some (.type "type")) (hg : Gl X C) (hdb : (C == ("__debug__" : Str)) = false := by decide) :
    SS X W (.Raise (some (.Call (.Name C p) [.Constant (.str m) j p2] [] cpos)) none pos) (raiseS C) :=
  ⟨fun σ h => MonoH.refl h, weakS (ps_raise hc tk (pmk_own PySem.F.excBase_ValueError q.1 gC q.2.1 (raises_own q.2.2.1 q.2.2.2) hg hdb)) fun E σ H z => by
    obtain ⟨ρ, σm, h, r, pp⟩ := z
    exact pp ρ _ none σ H Step.refl r ⟨rfl, rfl⟩⟩
def noEx : Fl → Fl
  | .ex _ _ _ => .stuck
  | r => r
def tryS (tab : List (Str × Bool)) (mb ms : MS) : MS := fun σ h => match mb σ h with
  | .ex x σ1 h1 => (match tab.lookup x.cls with
    | some true => if x.fs.isNone = true then noEx (ms σ1 h1) else .stuck
    | some false => .ex x σ1 h1
    | none => .stuck)
  | r => r
theorem lookup_mem {α β : Type} [BEq α] [LawfulBEq α] {x : α} {y : β} : ∀ {l : List (α × β)}, l.lookup x = some y → (x, y) ∈ l
  | [], e => by cases e
  | (a, b) :: l, e => by
    rw [List.lookup_cons] at e
    cases c : (x == a) with
    | true =>
      rw [c] at e
      cases e
      rw [beq_iff_eq.mp c]
      exact List.mem_cons_self
    | false =>
      rw [c] at e
      exact List.mem_cons_of_mem _ (lookup_mem e)
theorem tab_nil (K : PySem.W.Frag) (c : Value) : ∀ q ∈ ([] : List (Str × Bool)), PySem.W.exmOne K (.ref (clsA K q.1)) c = some q.2 := fun _ h => by cases h
theorem tab_cons {K : PySem.W.Frag} {c : Value} {r : Str} {b : Bool} {tab : List (Str × Bool)} (e : PySem.W.exmOne K (.ref (clsA K r)) c = some b) (t : ∀ q ∈ tab, PySem.W.exmOne K (.ref (clsA K q.1)) c = some q.2) : ∀ q ∈ (r, b) :: tab, PySem.W.exmOne K (.ref (clsA K q.1)) c = some q.2 := fun q h => by
  rcases List.mem_cons.mp h with rfl | h
  · exact e
  · exact t q h
theorem mono_try {tab : List (Str × Bool)} {mb ms : MS} (a : MonoS mb) (b : MonoS ms) : MonoS (tryS tab mb ms) := fun σ h => by
  have z := a σ h
  unfold tryS
  cases e : mb σ h with
  | ex x σ1 h1 =>
    rw [e] at z
    dsimp only
    split
    · split
      · have y := b σ1 h1
        cases e2 : ms σ1 h1 with
        | ex _ _ _ => trivial
        | _ => rw [e2] at y; exact Fl.mono.trans z y
      · trivial
    · exact z
    · trivial
  | _ => rw [e] at z; exact z
theorem ss_try {C : Str} {c : Value} {body suite : List Stmt} {b₀ : Stmt} {np pos' : Pos} {tab : List (Str × Bool)} {mb ms : MS} (hs : X.stack = X.env :: X.outer) (hf : X.env.frame = some X.env.locals) (hc : Names X C c) (tk : Takes X W)
    (ht : ∀ q ∈ tab, PySem.W.exmOne X.K (.ref (clsA X.K q.1)) c = some q.2)
    (hb : ∀ (W : WX) (pn : List (Addr × Obj)) (xe : Value → Shared → Prop), Takes (X.tr pn xe) W → PassesOwn (model X.prog X.w) X.A X.env xe → SSs (X.tr pn xe) W body mb)
    (hsu : ∀ (a : Addr) (oe : Obj) (pn : List (Addr × Obj)), SSs (X.suite a ((a, oe) :: pn)) W0 (b₀ :: suite) ms) :
    SS X W (.Try body [.ExceptHandler (some (.Name C np)) none (b₀ :: suite) pos'] [] [] pos) (tryS tab mb ms) := by
  have mb' : MonoS mb := (hb (fun _ _ _ _ => False) [] (fun _ _ => False) takes0 PassesOwn.never).mono
  refine ⟨mono_try mb' (hsu 0 default []).mono, weakS (ps_try_only (tb := fun W => rdS X.K W mb) (ts := fun _ _ _ => rdS X.K W0 ms) hs hf hc tk (fun W pn xe tk' po => (hb W pn xe tk' po).pss) (fun a oe cls d pn _ _ => (hsu a oe pn).pss)) fun E σ H z => ?_⟩
  obtain ⟨ρ, σm, h, r, pp⟩ := z
  refine ⟨ρ, σm, h, r, ?_⟩
  unfold tryS at pp
  have mo := mb' σm h
  cases e : mb σm h with
  | ex x σ1 h1 =>
    rw [e] at pp mo
    dsimp only at pp
    intro ρ' cls dx σ2 H' s' r' rx
    obtain ⟨ec, ef⟩ := rx
    subst ec
    cases el : tab.lookup x.cls with
    | none => rw [el] at pp; exact pp.elim
    | some b =>
      rw [el] at pp
      refine ⟨b, ht _ (lookup_mem el), fun eb a ha => ?_, fun eb => ?_⟩
      · subst eb
        dsimp only at pp
        obtain ⟨_, pp⟩ := postS_if pp
        refine ⟨ρ', σ1, h1, r', ?_⟩
        have p2 := PostS.of_step r'.heap s' mo pp
        cases e3 : ms σ1 h1 with
        | ex _ _ _ => rw [e3] at p2; exact p2.elim
        | nx _ _ => rw [e3] at p2; exact p2
        | rt _ _ => rw [e3] at p2; exact p2
        | bk _ _ => rw [e3] at p2; exact p2
        | ct _ _ => rw [e3] at p2; exact p2
        | stuck => rw [e3] at p2; exact p2
      · subst eb
        exact pp ρ' _ dx σ2 H' s' r' ⟨rfl, ef⟩
  | nx _ _ => rw [e] at pp; exact pp
  | rt _ _ => rw [e] at pp; exact pp
  | bk _ _ => rw [e] at pp; exact pp
  | ct _ _ => rw [e] at pp; exact pp
  | stuck => rw [e] at pp; exact pp
end
end Dn
end
noncomputable section
set_option Elab.async false
set_option linter.all false
set_option maxRecDepth 100000
set_option maxHeartbeats 4000000
namespace Dn
open PySem PySem.Spec PyProof.Rows L2
def allO {α β : Type} (f : α → Option β) : List α → Option (List β)
  | [] => some []
  | a :: r => match f a, allO f r with
    | some b, some bs => some (b :: bs)
    | _, _ => none
def deepOf : Nat → MH → D → Option PyData
  | 0, _, _ => none
  | n + 1, h, d => if d.pure = true then some d.py else match d with
    | .tup ds => (allO (deepOf n h) ds).map .tuple
    | d => match lstOf h d with
      | some ds => (allO (deepOf n h) ds).map .list
      | none => none
section
variable {K : PySem.W.Frag} {ρ : Nat → Addr} {h : MH} {H : Hp}
theorem deep_all {n : Nat} (ih : ∀ {d : D} {v : V} {p : PyData}, RD K ρ h.length H d v → deepOf n h d = some p → Dp K H v p ∧ p.canLay0 = true) : ∀ {ds : List D} {vs : List V} {ps : List PyData}, RDs K ρ h.length H ds vs → allO (deepOf n h) ds = some ps → DpAll K H vs ps ∧ PyData.canLayAll0 ps = true
  | _, _, ps, .nil, e => by
    cases e
    exact ⟨.nil, by simp [PyData.canLayAll0]⟩
  | _, _, ps, @RDs.cons _ _ _ _ d _ ds _ a t, e => by
    unfold allO at e
    cases e1 : deepOf n h d with
    | none => rw [e1] at e; cases e
    | some p =>
      rw [e1] at e
      cases e2 : allO (deepOf n h) ds with
      | none => rw [e2] at e; cases e
      | some qs =>
        rw [e2] at e
        cases e
        obtain ⟨a1, a2⟩ := ih a e1
        obtain ⟨b1, b2⟩ := deep_all ih t e2
        exact ⟨.cons a1 b1, by simp only [PyData.canLayAll0, a2, b2, Bool.and_self]⟩
theorem deep_dp (r : RH K ρ h H) : ∀ (n : Nat) {d : D} {v : V} {p : PyData}, RT K ρ h H d v → deepOf n h d = some p → Dp K H v p ∧ p.canLay0 = true
  | 0, _, _, _, _, e => by cases e
  | n + 1, d, v, p, t, e => by
    have ih : ∀ {d : D} {v : V} {p : PyData}, RD K ρ h.length H d v → deepOf n h d = some p → Dp K H v p ∧ p.canLay0 = true := fun {d v p} rd e => deep_dp r n rd.rt e
    unfold deepOf at e
    by_cases c : d.pure = true
    · rw [if_pos c] at e
      cases e
      have rd : RD K ρ h.length H d v := t.rdS (by cases d <;> first | rfl | simp [D.pure] at c)
      exact rd.dp c
    · rw [if_neg c] at e
      split at e
      · rename_i ds
        obtain ⟨ps, e1, rfl⟩ := Option.map_eq_some_iff.mp e
        have rd : RD K ρ h.length H (.tup ds) v := t.rdS rfl
        cases rd with
        | tup s q =>
          obtain ⟨a, b⟩ := deep_all ih q e1
          exact ⟨.tup s a, by simpa only [PyData.canLay0] using b⟩
      · split at e
        · rename_i ds el
          obtain ⟨ps, e1, rfl⟩ := Option.map_eq_some_iff.mp e
          obtain ⟨a, xs, rfl, s, q⟩ := lst_val r t el
          obtain ⟨a1, b⟩ := deep_all ih q e1
          exact ⟨.lst s a1, by simpa only [PyData.canLay0] using b⟩
        · cases e
end
def gReprL (d : D) (h : MH) : R D := match deepOf 8 h d with
  | some p => if isRow d = true ∧ reprOk p = true then .ok (.str (shownD p)) h else .stuck
  | none => .stuck
where isRow : D → Bool
  | .tup _ => true
  | .ref _ => true
  | .tl _ => true
  | _ => false
theorem lift_reprL {K : PySem.W.Frag} : LiftC1 K (rRepr K) gReprL where
  mono := fun d h => by
    unfold gReprL
    split
    · exact mono_if (MonoH.refl h)
    · trivial
  run := fun {ρ h H W d v Q} r t p => by
    unfold gReprL at p
    split at p
    · rename_i q e
      obtain ⟨⟨c1, c2⟩, p⟩ := post_if p
      unfold reprOk at c2
      simp only [Bool.and_eq_true, decide_eq_true_eq] at c2
      obtain ⟨⟨⟨c3, c4⟩, c5⟩, c6⟩ := c2
      obtain ⟨d1, d2⟩ := deep_dp r 8 t e
      have z : q.shown = mx (shownD q) := by simp [mx, shownD]
      obtain ⟨a, rfl⟩ : ∃ a, v = .ref a := by
        cases d with
        | tup ds => have t' : RD K ρ h.length H (.tup ds) v := t.rdS rfl; cases t' with | tup s q => exact ⟨_, rfl⟩
        | ref n => have t' : RD K ρ h.length H (.ref n) v := t.rdS rfl; cases t' with | ref _ _ => exact ⟨_, rfl⟩
        | tl ds => obtain ⟨a, xs, rfl, _⟩ := t; exact ⟨a, rfl⟩
        | _ => cases c1
      refine ⟨a, q, rfl, d1, d2, c3, c4, by rw [← line_eq]; exact c5, ?_⟩
      rw [z]
      exact Post.val r p (.str _ c6)
    · exact p.elim
def set2S (i j : Nat) (ms : M (List D)) : MS := runS ms fun ds σ h => match ds with
  | [d, e] => if d.st = true ∧ e.st = true then .nx ((σ.set i (some d)).set j (some e)) h else .stuck
  | _ => .stuck
theorem rdS_runT {K : PySem.W.Frag} {W : WX} {σ : L2.St} {H : Hp} {m : M (List D)} {f : List D → MS} {E : Ends} (mm : Mono m) (q : rdS K W (runS m f) E σ H) : rdT K W m σ H fun vs H1 => ∃ ρ σm h ds, RS K ρ σm h σ H1 ∧ RTs K ρ h H1 ds vs ∧ PostS K W ρ h H1 (f ds σm h) E := by
  obtain ⟨ρ, σm, h, r, p⟩ := q
  refine ⟨ρ, σm, h, r, ?_⟩
  dsimp only [runS] at p
  cases e : m σm h with
  | ok d h1 =>
    rw [e] at p
    intro ρ1 v H1 s1 r1 d1
    have mh := mm.ok e
    exact ⟨ρ1, σm, h1, d, r.step s1 mh r1, d1, PostS.of_step r1 s1 mh p⟩
  | exc x h1 =>
    rw [e] at p
    intro ρ1 c d H1 s1 r1 x1
    exact p ρ1 c d σ H1 s1 (r.step s1 (mm.exc e) r1) x1
  | stuck => rw [e] at p; exact p
theorem ss_par {X : Cx} {W : WX} {i j : Nat} {x y : Str} {a b : Expr} {ms : M (List D)} {px py pt pos : Pos} {kt k2 pt2} (hc : X.calm = true) (hN : X.N.Nodup) (hi : X.N[i]? = some x) (hj : X.N[j]? = some y) (hij : i ≠ j)
    (hx : X.env.scope.names.lookup x = some .local) (hy : X.env.scope.names.lookup y = some .local) (ha : ST X W [a, b] ms)
    (hw : swappedStores [.Tuple [.Name x px, .Name y py] kt pt] (.Tuple [a, b] k2 pt2) X.env = pure (some [x, y]))
    (hs : swapsWithSole [.Tuple [.Name x px, .Name y py] kt pt] (.Tuple [a, b] k2 pt2) pos.line X.env = pure false := by rfl) :
    SS X W (.Assign [.Tuple [.Name x px, .Name y py] kt pt] (.Tuple [a, b] k2 pt2) pos) (set2S i j ms) :=
  ⟨mono_run ha.mono fun ds σ h => by
    split
    · split
      · exact MonoH.refl h
      · trivial
    · trivial, weakS (ps_par hc hN hi hj hij hx hy ha.pa hw hs) fun E σ H q => by
    obtain ⟨ρ, σm, h, r, p⟩ := rdS_runT ha.mono q
    refine ⟨ρ, σm, h, r, ?_⟩
    cases e : ms σm h with
    | ok ds h1 =>
      rw [e] at p
      intro ρ1 vs H1 s1 r1 t1
      obtain ⟨ρ2, σ2, h2, ds2, r2, t2, p2⟩ := p ρ1 vs H1 s1 r1 t1
      split at p2
      · rename_i d e2
        obtain ⟨c, p2⟩ := postS_if p2
        cases t2 with
        | cons ta t =>
          cases t with
          | cons tb t =>
            cases t
            refine ⟨_, _, rfl, p2 ρ2 _ H1 Step.refl ((r2.set (ta.rdS c.1)).set (tb.rdS c.2))⟩
      · exact p2.elim
    | exc x h1 => rw [e] at p; exact p
    | stuck => rw [e] at p; exact p⟩
def DfOkX (P : Program) (w : World) (K : PySem.W.Frag) (mg : Str → Option Value) (base : Heap) (x qual : Str) (params : Arguments) (body : List Stmt) (scope : Scope) (dvs : List V) (kws : List (Str × V)) (f : Addr) (k : Nat) (ps : List Str) (F : List D → MH → R D) : Prop :=
  ∃ fd, FunD K x qual params body scope dvs kws f fd ∧ FnX P w K mg base k f fd ps F
theorem clsA_ga {K : PySem.W.Frag} {x : Str} : He.ga K x = clsA K x := by
  unfold He.ga clsA
  rfl
end Dn
end
section
set_option Elab.async false
set_option linter.all false
set_option maxRecDepth 100000
set_option maxHeartbeats 0
namespace HD
open PySem PySem.Spec PyProof.Rows L2
def top (i : Nat) : Stmt := PySem.Challenge.pw_sayloom_k04_rows_known.main.body.getD i (.Pass ⟨0, 0, 0, 0⟩)
def d_is_name : He.DefD := ⟨("is_name", none), "is_name", "is_name", defArgs (top 11), defBody (top 11), defScope (top 11), [], []⟩
def d_is_below : He.DefD := ⟨("is_below", none), "is_below", "is_below", defArgs (top 12), defBody (top 12), defScope (top 12), [], []⟩
def d_is_rising : He.DefD := ⟨("is_rising", none), "is_rising", "is_rising", defArgs (top 13), defBody (top 13), defScope (top 13), [], []⟩
def d_are_hands : He.DefD := ⟨("are_hands", none), "are_hands", "are_hands", defArgs (top 14), defBody (top 14), defScope (top 14), [], []⟩
def d_are_weak : He.DefD := ⟨("are_weak", none), "are_weak", "are_weak", defArgs (top 15), defBody (top 15), defScope (top 15), [], []⟩
def d_is_branch : He.DefD := ⟨("is_branch", none), "is_branch", "is_branch", defArgs (top 16), defBody (top 16), defScope (top 16), [], []⟩
def d_are_branches : He.DefD := ⟨("are_branches", none), "are_branches", "are_branches", defArgs (top 17), defBody (top 17), defScope (top 17), [], []⟩
def d_is_saying : He.DefD := ⟨("is_saying", none), "is_saying", "is_saying", defArgs (top 18), defBody (top 18), defScope (top 18), [], []⟩
def d_may_go : He.DefD := ⟨("may_go", none), "may_go", "may_go", defArgs (top 19), defBody (top 19), defScope (top 19), [], []⟩
def d_reached_from : He.DefD := ⟨("reached_from", none), "reached_from", "reached_from", defArgs (top 20), defBody (top 20), defScope (top 20), [], []⟩
def d_is_gone : He.DefD := ⟨("is_gone", none), "is_gone", "is_gone", defArgs (top 21), defBody (top 21), defScope (top 21), [], []⟩
def d_are_faults_right : He.DefD := ⟨("are_faults_right", none), "are_faults_right", "are_faults_right", defArgs (top 22), defBody (top 22), defScope (top 22), [], []⟩
def d_is_board : He.DefD := ⟨("is_board", none), "is_board", "is_board", defArgs (top 23), defBody (top 23), defScope (top 23), [], []⟩
def d_need_board : He.DefD := ⟨("need_board", none), "need_board", "need_board", defArgs (top 24), defBody (top 24), defScope (top 24), [], []⟩
def d_is_step : He.DefD := ⟨("is_step", none), "is_step", "is_step", defArgs (top 26), defBody (top 26), defScope (top 26), [], []⟩
def d_then_by : He.DefD := ⟨("then_by", none), "then_by", "then_by", defArgs (top 27), defBody (top 27), defScope (top 27), [], []⟩
def d_place_by : He.DefD := ⟨("place_by", none), "place_by", "place_by", defArgs (top 28), defBody (top 28), defScope (top 28), [], []⟩
def d_is_row_of : He.DefD := ⟨("is_row_of", none), "is_row_of", "is_row_of", defArgs (top 29), defBody (top 29), defScope (top 29), [], []⟩
def d_is_row : He.DefD := ⟨("is_row", none), "is_row", "is_row", defArgs (top 30), defBody (top 30), defScope (top 30), [], []⟩
def d_need_row : He.DefD := ⟨("need_row", none), "need_row", "need_row", defArgs (top 31), defBody (top 31), defScope (top 31), [], []⟩
def d_place_behind : He.DefD := ⟨("place_behind", none), "place_behind", "place_behind", defArgs (top 32), defBody (top 32), defScope (top 32), [], []⟩
def d_is_faultless : He.DefD := ⟨("is_faultless", none), "is_faultless", "is_faultless", defArgs (top 33), defBody (top 33), defScope (top 33), [], []⟩
def d__law_pot : He.DefD := ⟨("_law_pot", none), "_law_pot", "_law_pot", defArgs (top 35), defBody (top 35), defScope (top 35), [], []⟩
def d__law_take : He.DefD := ⟨("_law_take", none), "_law_take", "_law_take", defArgs (top 36), defBody (top 36), defScope (top 36), [], []⟩
def d__law_folded : He.DefD := ⟨("_law_folded", none), "_law_folded", "_law_folded", defArgs (top 37), defBody (top 37), defScope (top 37), [], []⟩
def d__law_names : He.DefD := ⟨("_law_names", none), "_law_names", "_law_names", defArgs (top 38), defBody (top 38), defScope (top 38), [], []⟩
def d__law_word : He.DefD := ⟨("_law_word", none), "_law_word", "_law_word", defArgs (top 39), defBody (top 39), defScope (top 39), [], []⟩
def d__law_new_place : He.DefD := ⟨("_law_new_place", none), "_law_new_place", "_law_new_place", defArgs (top 40), defBody (top 40), defScope (top 40), [], []⟩
def d__law_put_branch : He.DefD := ⟨("_law_put_branch", none), "_law_put_branch", "_law_put_branch", defArgs (top 41), defBody (top 41), defScope (top 41), [], []⟩
def d__law_put_fault : He.DefD := ⟨("_law_put_fault", none), "_law_put_fault", "_law_put_fault", defArgs (top 42), defBody (top 42), defScope (top 42), [], []⟩
def d__law_lacks : He.DefD := ⟨("_law_lacks", none), "_law_lacks", "_law_lacks", defArgs (top 43), defBody (top 43), defScope (top 43), [], []⟩
def d__law_grown : He.DefD := ⟨("_law_grown", none), "_law_grown", "_law_grown", defArgs (top 44), defBody (top 44), defScope (top 44), [], []⟩
def d__law_closed : He.DefD := ⟨("_law_closed", none), "_law_closed", "_law_closed", defArgs (top 45), defBody (top 45), defScope (top 45), [], []⟩
def d__law_board : He.DefD := ⟨("_law_board", none), "_law_board", "_law_board", defArgs (top 46), defBody (top 46), defScope (top 46), [], []⟩
def d__law_row : He.DefD := ⟨("_law_row", none), "_law_row", "_law_row", defArgs (top 47), defBody (top 47), defScope (top 47), [], []⟩
def d__law_place_by : He.DefD := ⟨("_law_place_by", none), "_law_place_by", "_law_place_by", defArgs (top 48), defBody (top 48), defScope (top 48), [], []⟩
def d__law_otherwise : He.DefD := ⟨("_law_otherwise", none), "_law_otherwise", "_law_otherwise", defArgs (top 49), defBody (top 49), defScope (top 49), [], []⟩
def d__law_refused : He.DefD := ⟨("_law_refused", none), "_law_refused", "_law_refused", defArgs (top 50), defBody (top 50), defScope (top 50), [], []⟩
def d__law_told_right : He.DefD := ⟨("_law_told_right", none), "_law_told_right", "_law_told_right", defArgs (top 51), defBody (top 51), defScope (top 51), [], []⟩
def d_law : He.DefD := ⟨("law", none), "law", "law", defArgs (top 52), defBody (top 52), defScope (top 52), [], []⟩
def fn0 : List He.DefD := [d_is_name, d_is_below, d_is_rising, d_are_hands, d_are_weak, d_is_branch, d_are_branches, d_is_saying, d_may_go, d_reached_from, d_is_gone, d_are_faults_right, d_is_board, d_need_board, d_is_step, d_then_by, d_place_by, d_is_row_of, d_is_row, d_need_row, d_place_behind, d_is_faultless, d__law_pot, d__law_take, d__law_folded, d__law_names, d__law_word, d__law_new_place, d__law_put_branch, d__law_put_fault]
def fn1 : List He.DefD := [d__law_lacks, d__law_grown, d__law_closed, d__law_board, d__law_row, d__law_place_by, d__law_otherwise, d__law_refused, d__law_told_right, d_law]
def fn : List He.DefD := fn0 ++ fn1
def fa0 : List He.Fa := [.glo "is_name", .glo "is_below", .glo "is_rising", .glo "are_hands", .glo "are_weak", .glo "is_branch", .glo "are_branches", .glo "is_saying", .glo "may_go", .glo "reached_from", .glo "is_gone", .glo "are_faults_right", .glo "is_board", .glo "need_board", .glo "is_step", .glo "then_by", .glo "place_by", .glo "is_row_of", .glo "is_row", .glo "need_row", .glo "place_behind", .glo "is_faultless", .glo "_law_pot", .glo "_law_take", .glo "_law_folded", .glo "_law_names", .glo "_law_word", .glo "_law_new_place", .glo "_law_put_branch", .glo "_law_put_fault"]
def fa1 : List He.Fa := [.glo "_law_lacks", .glo "_law_grown", .glo "_law_closed", .glo "_law_board", .glo "_law_row", .glo "_law_place_by", .glo "_law_otherwise", .glo "_law_refused", .glo "_law_told_right", .glo "law", .free "ValueError", .free "abs", .free "all", .free "bool", .free "enumerate", .free "int", .free "isinstance", .free "len", .free "list", .free "max", .free "min", .free "range", .free "repr", .free "sorted", .free "str", .free "tuple", .free "zip", .str "FAULT" "!", .str "LETTERS" "abcdefghijklmnopqrstuvwxyz", .int "MOST_LETTERS" 8]
def fa2 : List He.Fa := [.int "MOST_HANDS" 6, .int "MOST_BRANCHES" 8, .int "MOST_PLACES" 40, .glo "NoRow", .exc "NoRow", .exm "NoRow" "NoRow" true]
def fa : List He.Fa := fa0 ++ fa1 ++ fa2
structure Fx (K : PySem.W.Frag) (mg : Str → Option Value) : Prop where
  c : He.SaysD fa fn K
  ns : ∃ h : Heap, K.In h ∧ h.Ns mainGlobals mg
section
variable {K : PySem.W.Frag} {mg : Str → Option Value}
theorem Fx.free (x : Fx K mg) (i : Nat) {b : Str} (h : fa[i]? = some (.free b) := by rfl) : mg b = none := by
  obtain ⟨_, X, G⟩ := x.ns
  exact He.free_ok X G (x.c.fact i h)
theorem Fx.glo (x : Fx K mg) (i : Nat) {b : Str} (h : fa[i]? = some (.glo b) := by rfl) : mg b = some (.ref (He.fAd K (b, none))) := by
  obtain ⟨_, X, G⟩ := x.ns
  exact He.glo_ok X G (x.c.fact i h)
theorem Fx.clsg (x : Fx K mg) (i : Nat) {b : Str} (h : fa[i]? = some (.glo b) := by rfl) : mg b = some (.ref (Dn.clsA K b)) := x.glo i h
theorem Fx.exc (x : Fx K mg) (i : Nat) {b : Str} (h : fa[i]? = some (.exc b) := by rfl) : PySem.W.excIn K (Dn.clsA K b) He.veBase "ValueError.__new__" = true ∧ PySem.W.keepIn K (.ref (Dn.clsA K b)) = true ∧ PySem.W.subIn K (.ref (Dn.clsA K b)) (.type "BaseException") = some true ∧
    PySem.W.typeIn K (.ref (Dn.clsA K b)) = some (.type "type") := He.exc_ok (x.c.fact i h)
theorem Fx.exm (x : Fx K mg) (i : Nat) {b d : Str} {t : Bool} (h : fa[i]? = some (.exm b d t) := by rfl) : PySem.W.exmOne K (.ref (Dn.clsA K b)) (.ref (Dn.clsA K d)) = some t := He.exm_ok (x.c.fact i h)
theorem Fx.int (x : Fx K mg) (i : Nat) {b : Str} {j : Int} (h : fa[i]? = some (.int b j) := by rfl) : ∃ t, mg b = some (.int j t) := by
  obtain ⟨_, X, G⟩ := x.ns
  exact He.int_ok X G (x.c.fact i h)
theorem Fx.str (x : Fx K mg) (i : Nat) {b z : Str} (h : fa[i]? = some (.str b z) := by rfl) : ∃ t, mg b = some (.str z t) := by
  obtain ⟨_, X, G⟩ := x.ns
  exact He.str_ok X G (x.c.fact i h)
end
def fuel : Nat := 1000000
end HD
end
section
set_option Elab.async false
set_option linter.all false
set_option maxRecDepth 100000
set_option maxHeartbeats 0
namespace HD
open PySem PySem.Spec PyProof.Rows L2
def loose0 : List Str := ["LoomError", "NoBoard", "NoRow", "FAULT", "LETTERS", "MOST_LETTERS", "MOST_HANDS", "MOST_BRANCHES", "MOST_PLACES", "is_name", "is_below", "is_rising", "are_hands", "are_weak", "is_branch", "are_branches", "is_saying", "may_go", "reached_from", "is_gone", "are_faults_right", "is_board", "need_board", "is_step", "then_by", "place_by", "is_row_of", "is_row", "need_row", "place_behind"]
def loose1 : List Str := ["is_faultless", "_law_pot", "_law_take", "_law_folded", "_law_names", "_law_word", "_law_new_place", "_law_put_branch", "_law_put_fault", "_law_lacks", "_law_grown", "_law_closed", "_law_board", "_law_row", "_law_place_by", "_law_otherwise", "_law_refused", "_law_told_right"]
def loose : List Str := loose0 ++ loose1
abbrev RowK : PySem.W.OpenRow := PySem.W.OpenLaw.row PySem.Challenge.rw_sayloom_k04_rows_known
abbrev hk : PySem.W.Hook := He.hookD 4 fa fn
def ob (s : PySem.W.SharedT) : He.AlD := He.obsDG 4 fa fn (HandSHeadRun.getT s)
theorem ob_eq (s : PySem.W.SharedT) : ob s = hk.obs s.abs := He.obsDG_eq (HandSHeadRun.getT_eq s)
theorem run (w : World) : HandSHeadRun.RunEq RowK (PySem.W.view RowK.prog [52]) hk ob 20000 loose w := by
  intro os
  kernel_rfl
end HD
end
noncomputable section
set_option Elab.async false
set_option linter.all false
set_option maxRecDepth 100000
set_option maxHeartbeats 4000000
namespace Dn
open PySem PySem.Spec PyProof.Rows L2
section
variable {σ : Sg} {h h1 : MH} {d : D} {m ma mb mc : M D}
theorem bind_ok {α β : Type} {m : M α} {f : α → M β} {a : α} (e : m σ h = .ok a h1) : bindM m f σ h = f a σ h1 := by unfold bindM; rw [e]
theorem op1_ok {α : Type} {g : D → MH → R α} {a : D} (e : m σ h = .ok a h1) : op1 g m σ h = g a h1 := by unfold op1 bindM; rw [e]
theorem op2_ok {α : Type} {g : D → D → MH → R α} {a b : D} {h2 : MH} (e : ma σ h = .ok a h1) (e2 : mb σ h1 = .ok b h2) : op2 g ma mb σ h = g a b h2 := by unfold op2; rw [bind_ok e, bind_ok e2]
theorem asB_ok {b : Bool} (e : m σ h = .ok (.bl b) h1) : asB m σ h = .ok b h1 := by unfold asB bindM; rw [e]
theorem var_ok {i : Nat} (e : σ[i]? = some (some d)) : mVar i σ h = .ok d h := by unfold mVar; rw [e]
theorem lcL_nil {src : Src} {p : Pat} {t : M Bool} {e : M D} {σ0 : Sg} {acc : List D} (ok : src.ok h) : lcL src p t e σ0 [] acc h = .ok (.tl acc) h := by unfold lcL guardR; rw [if_pos ok]
theorem lcL_yes {src : Src} {p : Pat} {t : M Bool} {e : M D} {σ0 σ1 : Sg} {ds acc : List D} {y : D} {h2 : MH} (ok : src.ok h) (ep : p.put d σ0 = some σ1) (et : t σ1 h = .ok true h1) (ee : e σ1 h1 = .ok y h2) (hy : y.st = true) (hl : acc.length < line) :
    lcL src p t e σ0 (d :: ds) acc h = lcL src p t e σ0 ds (acc ++ [y]) h2 := by
  rw [lcL]
  unfold guardR
  rw [if_pos ok, ep]
  dsimp only
  rw [et]
  dsimp only
  rw [ee]
  dsimp only
  rw [if_pos ⟨hy, hl⟩]
theorem lcL_no {src : Src} {p : Pat} {t : M Bool} {e : M D} {σ0 σ1 : Sg} {ds acc : List D} (ok : src.ok h) (ep : p.put d σ0 = some σ1) (et : t σ1 h = .ok false h1) :
    lcL src p t e σ0 (d :: ds) acc h = lcL src p t e σ0 ds acc h1 := by
  rw [lcL]
  unfold guardR
  rw [if_pos ok, ep]
  dsimp only
  rw [et]
theorem lcL_map {src : Src} {p : Pat} {t : M Bool} {e : M D} {σ0 : Sg} (f : D → Option D) (ok : src.ok h) : ∀ (ds acc : List D),
    (∀ d ∈ ds, ∃ σ1, p.put d σ0 = some σ1 ∧ match f d with
      | some y => t σ1 h = .ok true h ∧ e σ1 h = .ok y h ∧ y.st = true
      | none => t σ1 h = .ok false h) → acc.length + ds.length ≤ line → lcL src p t e σ0 ds acc h = .ok (.tl (acc ++ ds.filterMap f)) h
  | [], acc, _, _ => by rw [lcL_nil ok, List.filterMap_nil, List.append_nil]
  | d :: ds, acc, hf, hl => by
    obtain ⟨σ1, ep, z⟩ := hf d List.mem_cons_self
    rw [List.length_cons] at hl
    cases ef : f d with
    | none =>
      rw [ef] at z
      rw [lcL_no ok ep z, lcL_map f ok ds acc (fun x hx => hf x (List.mem_cons_of_mem _ hx)) (by omega), List.filterMap_cons_none ef]
    | some y =>
      rw [ef] at z
      obtain ⟨z1, z2, z3⟩ := z
      rw [lcL_yes ok ep z1 z2 z3 (by omega), lcL_map f ok ds (acc ++ [y]) (fun x hx => hf x (List.mem_cons_of_mem _ hx)) (by rw [List.length_append]; simp; omega), List.filterMap_cons_some ef, List.append_assoc]
      rfl
theorem lcM_map {m : M Src} {src : Src} {p : Pat} {vs : List Nat} {t : M Bool} {e : M D} (f : D → Option D) (em : m σ h = .ok src h1) (ok : src.ok h1)
    (hf : ∀ d ∈ src.items, ∃ σ1, p.put d (wipeD σ vs) = some σ1 ∧ match f d with
      | some y => t σ1 h1 = .ok true h1 ∧ e σ1 h1 = .ok y h1 ∧ y.st = true
      | none => t σ1 h1 = .ok false h1) (hl : src.items.length ≤ line) : lcM m p vs t e σ h = .ok (.tl (src.items.filterMap f)) h1 := by
  unfold lcM
  rw [bind_ok em, lcL_map f ok src.items [] hf (by simpa using hl), List.nil_append]
end
theorem live_ok {h : MH} {d : D} {ds : List D} (e : lstOf h d = some ds) : (Src.mk ds (liveOf d ds)).ok h := by
  intro p hp
  cases d with
  | ref n => simp [liveOf] at hp; subst hp; exact e
  | _ => simp [liveOf] at hp
theorem srcV_tup (ds : List D) (h : MH) : srcV (.tup ds) h = .ok ⟨ds, []⟩ h := rfl
theorem ok_nil {h : MH} {ds : List D} : (Src.mk ds []).ok h := fun p hp => by cases hp
theorem py_str (x : List Nat) : (D.str x).py = .str (mx x) := by simp [D.py]
theorem py_int (i : Int) : (D.int i).py = .int i := by simp [D.py]
theorem lt_str (x y : List Nat) : PySem.W.dataLt (D.str x).py (D.str y).py = decide (x < y) := by rw [py_str, py_str, PySem.W.dataLt_str, mx_cps, mx_cps]
theorem lt_int (x y : Int) : PySem.W.dataLt (D.int x).py (D.int y).py = decide (x < y) := by rw [py_int, py_int, PySem.W.dataLt_int]
theorem eqv_str (x y : List Nat) : PyData.eqv (D.str x).py (D.str y).py = decide (x = y) := by
  rw [py_str, py_str]
  simp only [PyData.eqv]
  by_cases c : x = y
  · subst c; simp
  · have : ¬ mx x = mx y := fun e => c (mx_inj.mp e)
    simp [c, this]
theorem eqv_int (x y : Int) : PyData.eqv (D.int x).py (D.int y).py = decide (x = y) := by
  rw [py_int, py_int]
  simp only [PyData.eqv]
  by_cases c : x = y <;> simp [c]
section
variable {h : MH}
theorem gCmp_ii {neg : Bool} (x y : Int) : gCmp ltH neg (.int x) (.int y) h = .ok (.bl (if neg then !decide (x < y) else decide (x < y))) h ∧ gCmp ltH' neg (.int x) (.int y) h = .ok (.bl (if neg then !decide (y < x) else decide (y < x))) h := by
  have e : ∀ i j : Int, (((D.int i).pure = true ∧ (D.int j).pure = true) ∧ (PySem.W.alike (D.int i).py (D.int j).py = true ∧ (D.int i).isNon = false) ∧ min (D.int i).py.depth (D.int j).py.depth ≤ 60) := fun i j => by
    simp [D.pure, D.py, PySem.W.alike, D.isNon, PyData.depth]
  constructor
  · unfold gCmp ltH
    rw [if_pos (e x y), lt_int]
  · unfold gCmp ltH'
    rw [if_pos (e x y), lt_int]
theorem gLt_int (x y : Int) : gLt (.int x) (.int y) h = .ok (.bl (decide (x < y))) h := (gCmp_ii x y).1
theorem gGt_int (x y : Int) : gGt (.int x) (.int y) h = .ok (.bl (decide (y < x))) h := (gCmp_ii x y).2
theorem gGe_int (x y : Int) : gGe (.int x) (.int y) h = .ok (.bl (decide (y ≤ x))) h := by
  have z := (gCmp_ii (h := h) (neg := true) x y).1
  have e : (!decide (x < y)) = decide (y ≤ x) := by by_cases c : x < y <;> simp [c] <;> omega
  rw [← e]
  exact z
theorem gLe_int (x y : Int) : gLe (.int x) (.int y) h = .ok (.bl (decide (x ≤ y))) h := by
  have z := (gCmp_ii (h := h) (neg := true) x y).2
  have e : (!decide (y < x)) = decide (x ≤ y) := by by_cases c : y < x <;> simp [c] <;> omega
  rw [← e]
  exact z
theorem gLt_str (x y : List Nat) : gLt (.str x) (.str y) h = .ok (.bl (decide (x < y))) h := by
  unfold gLt gCmp ltH
  rw [if_pos (by simp [D.pure, D.py, PySem.W.alike, D.isNon, PyData.depth]), lt_str]
  rfl
theorem gEq_pure {neg : Bool} {a b : D} (ha : a.pure = true) (hb : b.pure = true) (hd : min a.py.depth b.py.depth ≤ 60) : gEq neg a b h = .ok (.bl (if neg then !PyData.eqv a.py b.py else PyData.eqv a.py b.py)) h := by
  unfold gEq eqH pyOf
  rw [if_pos ha, if_pos hb]
  dsimp only
  rw [if_pos hd]
theorem gEq_str {neg : Bool} (x y : List Nat) : gEq neg (.str x) (.str y) h = .ok (.bl (if neg then !decide (x = y) else decide (x = y))) h := by
  rw [gEq_pure rfl rfl (by simp [D.py, PyData.depth]), eqv_str]
theorem gEq_int {neg : Bool} (x y : Int) : gEq neg (.int x) (.int y) h = .ok (.bl (if neg then !decide (x = y) else decide (x = y))) h := by
  rw [gEq_pure rfl rfl (by simp [D.py, PyData.depth]), eqv_int]
theorem gEq_nonStr {neg : Bool} (y : List Nat) : gEq neg .non (.str y) h = .ok (.bl neg) h := by
  rw [gEq_pure rfl rfl (by simp [D.py, PyData.depth])]
  simp [D.py, PyData.eqv]
theorem gEq_strNon {neg : Bool} (y : List Nat) : gEq neg (.str y) .non h = .ok (.bl neg) h := by
  rw [gEq_pure rfl rfl (by simp [D.py, PyData.depth])]
  simp [D.py, PyData.eqv]
theorem gEq_lst {neg : Bool} {d : D} {ds : List D} (e : lstOf h d = some ds) (hp : d.pure = false) (hd : pureL ds = true) : gEq neg d (.tl []) h = .ok (.bl (if neg then !ds.isEmpty else ds.isEmpty)) h := by
  have e1 : pyOf h d = some (.list (pyL ds)) := by
    unfold pyOf
    rw [if_neg (by simp [hp]), e]
    exact if_pos hd
  have e2 : pyOf h (.tl []) = some (.list []) := by
    unfold pyOf
    rw [if_neg (by simp [D.pure])]
    simp [lstOf, pureL, pyL]
  unfold gEq eqH
  rw [e1, e2]
  dsimp only
  have e3 : min (PyData.list (pyL ds)).depth (PyData.list []).depth ≤ 60 := by
    have : (PyData.list []).depth ≤ 60 := by decide
    omega
  rw [if_pos e3]
  cases ds with
  | nil => simp [pyL, PyData.eqv, PyData.eqvAll]
  | cons x r => simp [pyL, PyData.eqv, PyData.eqvAll]
theorem gIn_strs {neg : Bool} {s : D} {L : List (List Nat)} (x : List Nat) (e : rowOf h s = some (L.map D.str)) (hs : ∀ t, s ≠ .str t) : gIn neg (.str x) s h = .ok (.bl (if neg then !decide (x ∈ L) else decide (x ∈ L))) h := by
  have e1 : inH h (.str x) s = some (decide (x ∈ L)) := by
    unfold inH
    split
    · rename_i t
      exact absurd rfl (hs _)
    · rw [e]
      dsimp only
      have p1 : pureL (L.map D.str) = true := by rw [pureL_eq, List.all_map]; simp [D.pure]
      rw [if_pos ⟨⟨rfl, p1⟩, by simp [D.py, PyData.depth]⟩]
      congr 1
      rw [pyL_eq, List.map_map, List.any_map]
      rw [Bool.eq_iff_iff]
      simp only [List.any_eq_true, decide_eq_true_eq, Function.comp]
      constructor
      · rintro ⟨y, hy, z⟩
        rw [eqv_str] at z
        rw [← of_decide_eq_true z]
        exact hy
      · intro hx
        exact ⟨x, hx, by rw [eqv_str]; simp⟩
  unfold gIn
  rw [e1]
theorem gIn_sign {neg : Bool} (c : Nat) (t : List Nat) : gIn neg (.str [c]) (.str t) h = .ok (.bl (if neg then !decide (c ∈ t) else decide (c ∈ t))) h := rfl
theorem gIn_non {neg : Bool} {s : D} {L : List (List Nat)} (e : rowOf h s = some (L.map D.str)) : gIn neg .non s h = .ok (.bl neg) h := by
  have e1 : inH h .non s = some false := by
    unfold inH
    dsimp only
    rw [e]
    dsimp only
    have p1 : pureL (L.map D.str) = true := by rw [pureL_eq, List.all_map]; simp [D.pure]
    rw [if_pos ⟨⟨rfl, p1⟩, by simp [D.py, PyData.depth]⟩]
    congr 1
    rw [pyL_eq, List.map_map, List.any_map, List.any_eq_false]
    intro y _
    simp [D.py, PyData.eqv]
  unfold gIn
  rw [e1]
  cases neg <;> rfl
theorem gIn_ints {neg : Bool} {s : D} {L : List Int} (x : Int) (e : rowOf h s = some (L.map D.int)) : gIn neg (.int x) s h = .ok (.bl (if neg then !decide (x ∈ L) else decide (x ∈ L))) h := by
  have e1 : inH h (.int x) s = some (decide (x ∈ L)) := by
    unfold inH
    dsimp only
    rw [e]
    dsimp only
    have p1 : pureL (L.map D.int) = true := by rw [pureL_eq, List.all_map]; simp [D.pure]
    rw [if_pos ⟨⟨rfl, p1⟩, by simp [D.py, PyData.depth]⟩]
    congr 1
    rw [pyL_eq, List.map_map, List.any_map]
    rw [Bool.eq_iff_iff]
    simp only [List.any_eq_true, decide_eq_true_eq, Function.comp]
    constructor
    · rintro ⟨y, hy, z⟩
      rw [eqv_int] at z
      rw [← of_decide_eq_true z]
      exact hy
    · intro hx
      exact ⟨x, hx, by rw [eqv_int]; simp⟩
  unfold gIn
  rw [e1]
theorem gLen_str {l : List Nat} (hl : l.length ≤ line) : gLen (.str l) h = .ok (.int l.length) h := by
  unfold gLen lenD
  dsimp only
  rw [if_pos hl]
theorem gLen_tup (ds : List D) : gLen (.tup ds) h = .ok (.int ds.length) h := rfl
theorem gLen_lst {d : D} {ds : List D} (e : lstOf h d = some ds) : gLen d h = .ok (.int ds.length) h := by
  have e1 : lenD h d = some ds.length := by
    cases d with
    | tl es => cases e; rfl
    | ref n => unfold lenD; dsimp only; rw [e]
    | _ => cases e
  unfold gLen
  rw [e1]
theorem lst_of {n : Nat} {ds : List D} (e : h[n]? = some (.lst ds)) : lstOf h (.ref n) = some ds := by simp [lstOf, e]
theorem row_of {n : Nat} {ds : List D} (e : h[n]? = some (.lst ds)) : rowOf h (.ref n) = some ds := lst_of e
theorem gIx_lst {d : D} {ds : List D} {i : Int} {x : D} (e : lstOf h d = some ds) (ex : atI ds i = some x) : gIx d (.int i) h = .ok x h := by
  cases d with
  | tl es => unfold gIx; dsimp only; rw [e]; dsimp only; rw [ex]
  | ref n => unfold gIx; dsimp only; rw [e]; dsimp only; rw [ex]
  | _ => cases e
theorem gIx_tup {ds : List D} {i : Int} {x : D} (ex : atI ds i = some x) : gIx (.tup ds) (.int i) h = .ok x h := by unfold gIx; dsimp only; rw [ex]
theorem gIx_str {l : List Nat} {i : Int} {c : Nat} (hl : l.length ≤ line) (ex : atI l i = some c) : gIx (.str l) (.int i) h = .ok (.str [c]) h := by unfold gIx; dsimp only; rw [if_pos hl, ex]
theorem atI_nat {α : Type} {l : List α} {i : Nat} {x : α} (e : l[i]? = some x) : atI l (i : Int) = some x := by
  have hl := (List.getElem?_eq_some_iff.mp e).1
  unfold atI
  have : ixN l.length (i : Int) = some i := by
    unfold ixN
    simp [hl]
  rw [this]
  exact e
end
end Dn
end
noncomputable section
set_option Elab.async false
set_option linter.all false
set_option maxRecDepth 100000
set_option maxHeartbeats 4000000
namespace Dn
open PySem PySem.Spec L2
def R.bnd {α β : Type} (r : R α) (k : α → MH → R β) : R β := match r with
  | .ok a h => k a h
  | .exc x h => .exc x h
  | .stuck => .stuck
def R.bndS {α : Type} (r : R α) (σ : Sg) (k : α → MH → Fl) : Fl := match r with
  | .ok a h => k a h
  | .exc x h => .ex x σ h
  | .stuck => .stuck
def Fl.bnd (r : Fl) (k : Sg → MH → Fl) : Fl := match r with
  | .nx σ h => k σ h
  | r => r
def optV (o : Option (Option D)) (h : MH) : R D := match o with
  | some (some d) => .ok d h
  | _ => .stuck
def toB (x : D) (h : MH) : R Bool := match x with
  | .bl b => .ok b h
  | _ => .stuck
def own (r : R D) : R D := match r with
  | .ok (.tl ds) h1 => .ok (.ref h1.length) (h1 ++ [.lst ds])
  | r => r
section
variable {α β : Type} {σ σ1 : Sg} {h : MH}
@[simp] theorem bnd_ok (a : α) (k : α → MH → R β) : (R.ok a h).bnd k = k a h := rfl
@[simp] theorem bnd_stuck (k : α → MH → R β) : (R.stuck : R α).bnd k = .stuck := rfl
@[simp] theorem bndS_ok (a : α) (k : α → MH → Fl) : (R.ok a h).bndS σ k = k a h := rfl
@[simp] theorem bndS_stuck (k : α → MH → Fl) : (R.stuck : R α).bndS σ k = .stuck := rfl
@[simp] theorem fbnd_nx (k : Sg → MH → Fl) : (Fl.nx σ h).bnd k = k σ h := rfl
@[simp] theorem fbnd_rt (d : D) (k : Sg → MH → Fl) : (Fl.rt d h).bnd k = .rt d h := rfl
@[simp] theorem fbnd_bk (k : Sg → MH → Fl) : (Fl.bk σ h).bnd k = .bk σ h := rfl
@[simp] theorem fbnd_ct (k : Sg → MH → Fl) : (Fl.ct σ h).bnd k = .ct σ h := rfl
@[simp] theorem fbnd_stuck (k : Sg → MH → Fl) : Fl.stuck.bnd k = .stuck := rfl
@[simp] theorem optV_some (d : D) : optV (some (some d)) h = .ok d h := rfl
@[simp] theorem toB_bl (b : Bool) : toB (.bl b) h = .ok b h := rfl
@[simp] theorem own_tl (ds : List D) : own (.ok (.tl ds) h) = .ok (.ref h.length) (h ++ [.lst ds]) := rfl
@[simp] theorem own_str (x : List Nat) : own (.ok (.str x) h) = .ok (.str x) h := rfl
@[simp] theorem own_int (x : Int) : own (.ok (.int x) h) = .ok (.int x) h := rfl
@[simp] theorem own_tup (x : List D) : own (.ok (.tup x) h) = .ok (.tup x) h := rfl
@[simp] theorem own_ref (x : Nat) : own (.ok (.ref x) h) = .ok (.ref x) h := rfl
@[simp] theorem own_bl (x : Bool) : own (.ok (.bl x) h) = .ok (.bl x) h := rfl
@[simp] theorem own_non : own (.ok .non h) = .ok .non h := rfl
variable {m ma mb mc mo : M D} {t u : M Bool} {ms mk : M (List D)}
@[simp] theorem ap_bind (m : M α) (f : α → M β) : bindM m f σ h = (m σ h).bnd fun a h1 => f a σ h1 := by unfold bindM R.bnd; rfl
@[simp] theorem ap_op1 (g : D → MH → R α) : op1 g m σ h = (m σ h).bnd g := by unfold op1; rw [ap_bind]
@[simp] theorem ap_op2 (g : D → D → MH → R α) : op2 g ma mb σ h = (ma σ h).bnd fun x h1 => (mb σ h1).bnd fun y h2 => g x y h2 := by unfold op2; simp
@[simp] theorem ap_ret (a : α) : retM a σ h = .ok a h := rfl
@[simp] theorem ap_var (i : Nat) : mVar i σ h = optV σ[i]? h := by unfold mVar optV; rfl
@[simp] theorem ap_asB : asB m σ h = (m σ h).bnd toB := by unfold asB; rw [ap_bind]; rfl
@[simp] theorem ap_andB : andB t u σ h = (t σ h).bnd fun c h1 => if c = true then u σ h1 else .ok false h1 := by
  unfold andB; rw [ap_bind]; congr 1; funext c h1; cases c <;> rfl
@[simp] theorem ap_orB : orB t u σ h = (t σ h).bnd fun c h1 => if c = true then .ok true h1 else u σ h1 := by
  unfold orB; rw [ap_bind]; congr 1; funext c h1; cases c <;> rfl
@[simp] theorem ap_notB : notB t σ h = (t σ h).bnd fun c h1 => .ok (!c) h1 := by unfold notB; rw [ap_bind]; rfl
@[simp] theorem ap_andV : andV ma mb σ h = ((ma σ h).bnd toB).bnd fun c h1 => if c = true then mb σ h1 else .ok (.bl false) h1 := by
  unfold andV; rw [ap_bind, ap_asB]; congr 1; funext c h1; cases c <;> rfl
@[simp] theorem ap_orV : orV ma mb σ h = ((ma σ h).bnd toB).bnd fun c h1 => if c = true then .ok (.bl true) h1 else mb σ h1 := by
  unfold orV; rw [ap_bind, ap_asB]; congr 1; funext c h1; cases c <;> rfl
@[simp] theorem ap_notV : notV ma σ h = ((ma σ h).bnd toB).bnd fun c h1 => .ok (.bl !c) h1 := by unfold notV; rw [ap_bind, ap_asB]; rfl
@[simp] theorem ap_ifM (f g : M α) : ifM t f g σ h = (t σ h).bnd fun c h1 => if c = true then f σ h1 else g σ h1 := by
  unfold ifM; rw [ap_bind]; congr 1; funext c h1; cases c <;> rfl
@[simp] theorem ap_chain (g g' : D → D → MH → R D) : chain g g' ma mb mc σ h = (ma σ h).bnd fun x h1 => (mb σ h1).bnd fun y h2 => ((g x y h2).bnd toB).bnd fun k h3 => if k = true then (mc σ h3).bnd fun z h4 => g' y z h4 else .ok (.bl false) h3 := by
  unfold chain
  rw [ap_bind]; congr 1; funext x h1
  rw [ap_bind]; congr 1; funext y h2
  rw [ap_bind, ap_asB]; congr 1; funext k h3
  cases k with
  | true => rw [if_pos rfl, if_pos rfl, ap_bind]
  | false => rfl
@[simp] theorem ap_nil : nilM σ h = .ok [] h := rfl
@[simp] theorem ap_cons : consM m ms σ h = (m σ h).bnd fun x h1 => (ms σ h1).bnd fun xs h2 => .ok (x :: xs) h2 := by unfold consM; simp
@[simp] theorem ap_lst : lstM ms σ h = (ms σ h).bnd fun ds h1 => if ds.all D.st = true ∧ ds.length ≤ line then .ok (.tl ds) h1 else .stuck := by unfold lstM; rw [ap_bind]
@[simp] theorem ap_tup : tupM ms σ h = (ms σ h).bnd fun ds h1 => if ds.all D.st = true ∧ ds.length ≤ line then .ok (.tup ds) h1 else .stuck := by unfold tupM; rw [ap_bind]
@[simp] theorem ap_own : ownM m σ h = own (m σ h) := rfl
@[simp] theorem ap_call (F : List D → MH → R D) (dd : List D) : fcallM F dd ms σ h = (ms σ h).bnd fun as h1 => if as.all D.st = true then F (as ++ dd) h1 else .stuck := by unfold fcallM; rw [ap_bind]
@[simp] theorem ap_kcall (F : List D → MH → R D) (n k : Nat) (gD : List D → List D → List D) : kcallM F n k gD ms mk σ h = (ms σ h).bnd fun as h1 => (mk σ h1).bnd fun zs h2 => if (as.all D.st = true ∧ zs.all D.st = true) ∧ as.length = n ∧ zs.length = k then F (gD as zs) h2 else .stuck := by
  unfold kcallM; simp only [ap_bind]
@[simp] theorem ap_mt (T : Ty) (g : D → List D → MH → R D) : mtM T g mo ms σ h = (mo σ h).bnd fun x h1 => if tyB T h1 x = true then (ms σ h1).bnd fun xs h2 => g x xs h2 else .stuck := by
  unfold mtM; simp only [ap_bind]
@[simp] theorem ap_part : partM m σ h = (m σ h).bnd fun x h1 => match x with
  | .int i => .ok (.int i) h1
  | _ => .stuck := by unfold partM; rw [ap_bind] <;> rfl
@[simp] theorem ap_sl (ml mh : M D) : slM mo ml mh σ h = (mo σ h).bnd fun x h1 => (ml σ h1).bnd fun a h2 => match partOf a with
  | some lo => (mh σ h2).bnd fun b h3 => match partOf b with
    | some hi => cutG x lo hi h3
    | none => .stuck
  | none => .stuck := by
  unfold slM
  rw [ap_bind]; congr 1; funext x h1
  rw [ap_bind]; congr 1; funext a h2
  cases partOf a with
  | none => rfl
  | some lo => show bindM mh _ σ h2 = _; rw [ap_bind] <;> rfl
@[simp] theorem ap_src (g : List D → MH → R Src) : srcA g ms σ h = (ms σ h).bnd g := by unfold srcA; rw [ap_bind]
@[simp] theorem ap_lc (mi : M Src) (p : Pat) (vs : List Nat) (e : M D) : lcM mi p vs t e σ h = (mi σ h).bnd fun src h1 => lcL src p t e (wipeD σ vs) src.items [] h1 := by unfold lcM; rw [ap_bind]
@[simp] theorem ap_dct1 : dct1M ma mb σ h = (ma σ h).bnd fun k h1 => (mb σ h1).bnd fun v h2 => if (keyD k).isSome = true ∧ v.st = true then .ok (.ref h2.length) (h2 ++ [.dct [(k, v)]]) else .stuck := by
  unfold dct1M; simp only [ap_bind]
@[simp] theorem ap_dct0 : dct0M σ h = .ok (.ref h.length) (h ++ [.dct []]) := rfl
@[simp] theorem ap_lenSet {κ : Type} [DecidableEq κ] (kd : D → Option κ) (mi : M Src) (p : Pat) (vs : List Nat) (e : M D) : lenSetM kd mi p vs t e σ h = (mi σ h).bnd fun src h1 => bindR (lcL src p t e (wipeD σ vs) src.items [] h1) (cntK kd) := by unfold lenSetM; rw [ap_bind]
variable {a b : MS}
@[simp] theorem as_seq : seqS a b σ h = (a σ h).bnd b := by unfold seqS Fl.bnd; rfl
@[simp] theorem as_skip : skipS σ h = .nx σ h := rfl
@[simp] theorem as_never : nevS σ h = .stuck := rfl
@[simp] theorem as_run (m : M α) (f : α → MS) : runS m f σ h = (m σ h).bndS σ fun x h1 => f x σ h1 := by unfold runS R.bndS; rfl
@[simp] theorem as_set (i : Nat) : setS i m σ h = (m σ h).bndS σ fun d h1 => if d.st = true then .nx (σ.set i (some d)) h1 else .stuck := by unfold setS; rw [as_run]
@[simp] theorem as_expr : exprS m σ h = (m σ h).bndS σ fun _ h1 => .nx σ h1 := by unfold exprS; rw [as_run]
@[simp] theorem as_ret : retS m σ h = (m σ h).bndS σ fun d h1 => if d.st = true then .rt d h1 else .stuck := by unfold retS; rw [as_run]
@[simp] theorem as_brk : brkS σ h = .bk σ h := rfl
@[simp] theorem as_cont : contS σ h = .ct σ h := rfl
@[simp] theorem as_if : ifS t a b σ h = (t σ h).bndS σ fun c h1 => if c = true then a σ h1 else b σ h1 := by
  unfold ifS; rw [as_run]; congr 1; funext c h1; cases c <;> rfl
@[simp] theorem as_asg (p : Pat) : asgS p m σ h = (m σ h).bndS σ fun d h1 => match p.put d σ with
  | some σ' => .nx σ' h1
  | none => .stuck := by unfold asgS; rw [as_run] <;> rfl
@[simp] theorem as_setIx (mi me : M D) : setIxS mo mi me σ h = (me σ h).bndS σ fun v h1 => (mo σ h1).bndS σ fun o h2 => (mi σ h2).bndS σ fun i h3 => if v.st = true then (match gSet o i v h3 with
  | some h' => .nx σ h'
  | none => .stuck) else .stuck := by
  unfold setIxS
  simp only [as_run]
  all_goals rfl
@[simp] theorem as_for (mi : M Src) (p : Pat) (b : MS) : forS mi p b σ h = (mi σ h).bndS σ fun src h1 => forL src p b src.items σ h1 := by unfold forS; rw [as_run]
@[simp] theorem ap_fn (np n : Nat) (m : MS) (ds : List D) : fnD np n m ds h = if ds.length = np then endR (m (begin_ n ds) h) else .stuck := rfl
@[simp] theorem end_rt (d : D) : endR (.rt d h) = .ok d h := rfl
@[simp] theorem end_nx : endR (.nx σ h) = .ok .non h := rfl
@[simp] theorem st_str (x : List Nat) : (D.str x).st = true := rfl
@[simp] theorem st_int (x : Int) : (D.int x).st = true := rfl
@[simp] theorem st_bl (x : Bool) : (D.bl x).st = true := rfl
@[simp] theorem st_non : D.non.st = true := rfl
@[simp] theorem st_tup (x : List D) : (D.tup x).st = true := rfl
@[simp] theorem st_ref (x : Nat) : (D.ref x).st = true := rfl
@[simp] theorem isi_str (T : Kd) (x : List Nat) : gIsi T (.str x) h = .ok (.bl (Kd.isA .str T)) h := rfl
@[simp] theorem isi_int (T : Kd) (x : Int) : gIsi T (.int x) h = .ok (.bl (Kd.isA .int T)) h := rfl
@[simp] theorem isi_tup (T : Kd) (x : List D) : gIsi T (.tup x) h = .ok (.bl (Kd.isA .tup T)) h := rfl
@[simp] theorem isi_non (T : Kd) : gIsi T .non h = .ok (.bl (Kd.isA .non T)) h := rfl
@[simp] theorem isi_bl (T : Kd) (b : Bool) : gIsi T (.bl b) h = .ok (.bl (Kd.isA .bl T)) h := rfl
@[simp] theorem isA_ss : Kd.isA .str .str = true := rfl
@[simp] theorem isA_tt : Kd.isA .tup .tup = true := rfl
@[simp] theorem isA_ii : Kd.isA .int .int = true := rfl
@[simp] theorem isA_ib : Kd.isA .int .bl = false := rfl
@[simp] theorem put_nm (i : Nat) (d : D) : Pat.put (.nm i) d σ = if d.st = true then some (σ.set i (some d)) else none := by unfold Pat.put; rfl
@[simp] theorem put_tu (ps : List Pat) (ds : List D) : Pat.put (.tu ps) (.tup ds) σ = if ds.length = ps.length then putL ps ds σ else none := by unfold Pat.put; rfl
@[simp] theorem put_l0 : putL [] [] σ = some σ := by unfold putL; rfl
@[simp] theorem put_l1 (p : Pat) (ps : List Pat) (d : D) (ds : List D) : putL (p :: ps) (d :: ds) σ = (p.put d σ).bind fun σ1 => putL ps ds σ1 := by
  rw [putL]
@[simp] theorem src_tup (ds : List D) : srcV (.tup ds) h = .ok ⟨ds, []⟩ h := rfl
@[simp] theorem gInt_bl (b : Bool) : gInt (.bl b) h = .ok (.int (if b = true then 1 else 0)) h := rfl
@[simp] theorem gLen_tup' (ds : List D) : gLen (.tup ds) h = .ok (.int ds.length) h := rfl
@[simp] theorem ite_ok (c : Prop) [Decidable c] (a b : α) : (if c then R.ok a h else R.ok b h) = R.ok (if c then a else b) h := by split <;> rfl
@[simp] theorem ite_bl (c : Prop) [Decidable c] (a b : Bool) : (if c then D.bl a else D.bl b) = D.bl (if c then a else b) := by split <;> rfl
@[simp] theorem src_str (l : List Nat) : srcV (.str l) h = .ok ⟨l.map fun c => .str [c], []⟩ h := rfl
theorem src_lst {d : D} {ds : List D} (e : lstOf h d = some ds) : srcV d h = .ok ⟨ds, liveOf d ds⟩ h := by
  cases d with
  | tl es => unfold srcV; dsimp only; rw [e]
  | ref n => unfold srcV; dsimp only; rw [e]
  | _ => cases e
@[simp] theorem src_tl (ds : List D) : srcV (.tl ds) h = .ok ⟨ds, []⟩ h := rfl
theorem bools_all {pb : D → Bool} : ∀ ds : List D, bools (ds.map fun d => D.bl (pb d)) = some (ds.map pb)
  | [] => rfl
  | d :: ds => by rw [List.map_cons, bools, bools_all ds]; rfl
theorem all_lc {src : Src} {p : Pat} {e : M D} {σ0 : Sg} {items : List D} (pb : D → Bool) (ok : src.ok h) (hl : items.length ≤ line) (hf : ∀ d ∈ items, ∃ σ1, p.put d σ0 = some σ1 ∧ e σ1 h = .ok (.bl (pb d)) h) :
    (lcL src p (retM true) e σ0 items [] h).bnd gAll = .ok (.bl (items.all pb)) h := by
  rw [lcL_map (fun d => some (D.bl (pb d))) ok items [] (fun d hd => ?_) (by simpa using hl)]
  · rw [List.nil_append, List.filterMap_eq_map' (f := fun d => D.bl (pb d))]
    show gAll _ h = _
    unfold gAll
    have e1 : (lstOf h (.tl (items.map fun d => D.bl (pb d)))).bind bools = some (items.map pb) := bools_all items
    rw [e1]
    simp [List.all_map, Function.comp_def]
  · obtain ⟨σ1, a, b⟩ := hf d hd
    exact ⟨σ1, a, rfl, b, rfl⟩
end
end Dn
end
noncomputable section
set_option Elab.async false
set_option linter.all false
set_option maxRecDepth 100000
set_option maxHeartbeats 4000000
namespace Dn
open PySem PySem.Spec L2
section
variable {σ σ1 : Sg} {h h1 h2 h3 : MH} {d : D} {r : Fl} {m mo mi me : M D} {t u : M Bool} {a b n : MS}
theorem fn_rt {np k : Nat} {ds : List D} (hl : ds.length = np) (e : n (begin_ k ds) h = .rt d h1) : fnD np k n ds h = .ok d h1 := by rw [ap_fn, if_pos hl, e]; rfl
theorem fn_nx {np k : Nat} {ds : List D} (hl : ds.length = np) (e : n (begin_ k ds) h = .nx σ1 h1) : fnD np k n ds h = .ok .non h1 := by rw [ap_fn, if_pos hl, e]; rfl
theorem s_seq (e1 : a σ h = .nx σ1 h1) (e2 : b σ1 h1 = r) : seqS a b σ h = r := by rw [as_seq, e1]; exact e2
theorem s_seq_rt (e1 : a σ h = .rt d h1) : seqS a b σ h = .rt d h1 := by rw [as_seq, e1]; rfl
theorem s_ift (e : t σ h = .ok true h1) (e1 : a σ h1 = r) : ifS t a b σ h = r := by rw [as_if, e]; exact e1
theorem s_iff (e : t σ h = .ok false h1) (e1 : b σ h1 = r) : ifS t a b σ h = r := by rw [as_if, e]; exact e1
theorem s_pass (e : t σ h = .ok false h1) (e1 : b σ h1 = r) : seqS (ifS t a skipS) b σ h = r := s_seq (s_iff e rfl) e1
theorem s_set {i : Nat} (e : m σ h = .ok d h1) (hd : d.st = true) : setS i m σ h = .nx (σ.set i (some d)) h1 := by rw [as_set, e, bndS_ok, if_pos hd]
theorem s_expr (e : m σ h = .ok d h1) : exprS m σ h = .nx σ h1 := by rw [as_expr, e]; rfl
theorem s_ret (e : m σ h = .ok d h1) (hd : d.st = true) : retS m σ h = .rt d h1 := by rw [as_ret, e, bndS_ok, if_pos hd]
theorem s_asg {p : Pat} (e : m σ h = .ok d h1) (ep : p.put d σ = some σ1) : asgS p m σ h = .nx σ1 h1 := by rw [as_asg, e, bndS_ok, ep]
theorem s_setIx {v o i : D} {h4 : MH} (e : me σ h = .ok v h1) (e1 : mo σ h1 = .ok o h2) (e2 : mi σ h2 = .ok i h3) (hv : v.st = true) (eg : gSet o i v h3 = some h4) : setIxS mo mi me σ h = .nx σ h4 := by
  rw [as_setIx, e, bndS_ok, e1, bndS_ok, e2, bndS_ok, if_pos hv, eg]
theorem s_for {mi : M Src} {p : Pat} {src : Src} (e : mi σ h = .ok src h1) (el : forL src p b src.items σ h1 = r) : forS mi p b σ h = r := by rw [as_for, e]; exact el
theorem forL_nil {src : Src} {p : Pat} (ok : src.ok h) : forL src p b [] σ h = .nx σ h := by unfold forL guardS; rw [if_pos ok]
theorem forL_nx {src : Src} {p : Pat} {σ2 : Sg} {ds : List D} (ok : src.ok h) (ep : p.put d σ = some σ1) (eb : b σ1 h = .nx σ2 h2) : forL src p b (d :: ds) σ h = forL src p b ds σ2 h2 := by
  rw [forL]
  unfold guardS
  dsimp only
  rw [if_pos ok, ep]
  dsimp only
  rw [eb]
theorem forL_ct {src : Src} {p : Pat} {σ2 : Sg} {ds : List D} (ok : src.ok h) (ep : p.put d σ = some σ1) (eb : b σ1 h = .ct σ2 h2) : forL src p b (d :: ds) σ h = forL src p b ds σ2 h2 := by
  rw [forL]
  unfold guardS
  dsimp only
  rw [if_pos ok, ep]
  dsimp only
  rw [eb]
theorem forL_rt {src : Src} {p : Pat} {y : D} {ds : List D} (ok : src.ok h) (ep : p.put d σ = some σ1) (eb : b σ1 h = .rt y h2) : forL src p b (d :: ds) σ h = .rt y h2 := by
  rw [forL]
  unfold guardS
  dsimp only
  rw [if_pos ok, ep]
  dsimp only
  rw [eb]
theorem forL_inv {src : Src} {p : Pat} {b : MS} (I : Nat → Sg → MH → Prop) : ∀ (ds : List D) (i : Nat) (σ : Sg) (h : MH), (∀ j σ h, i ≤ j → j ≤ i + ds.length → I j σ h → src.ok h) →
    (∀ j d σ h, i ≤ j → ds[j - i]? = some d → I j σ h → ∃ σ1, p.put d σ = some σ1 ∧ ∃ σ2 h2, (b σ1 h = .nx σ2 h2 ∨ b σ1 h = .ct σ2 h2) ∧ I (j + 1) σ2 h2) → I i σ h → ∃ σ2 h2, forL src p b ds σ h = .nx σ2 h2 ∧ I (i + ds.length) σ2 h2
  | [], i, σ, h, ho, _, hi => ⟨σ, h, by unfold forL guardS; rw [if_pos (ho i σ h (Nat.le_refl _) (by simp) hi)], hi⟩
  | d :: ds, i, σ, h, ho, hb, hi => by
    obtain ⟨σ1, ep, σ2, h2, e, hi2⟩ := hb i d σ h (Nat.le_refl _) (by simp) hi
    obtain ⟨σ3, h3, e3, hi3⟩ := forL_inv I ds (i + 1) σ2 h2 (fun j σ h h1 h2 => ho j σ h (by omega) (by rw [List.length_cons]; omega)) (fun j d' σ h h1 ed => hb j d' σ h (by omega) (by
      have : j - i = (j - (i + 1)) + 1 := by omega
      rw [this, List.getElem?_cons_succ]
      exact ed)) hi2
    refine ⟨σ3, h3, ?_, by rw [List.length_cons]; have : i + (ds.length + 1) = i + 1 + ds.length := by omega
                           rw [this]; exact hi3⟩
    unfold forL guardS
    rw [if_pos (ho i σ h (Nat.le_refl _) (by omega) hi), ep]
    dsimp only
    rcases e with e | e
    · rw [e]; exact e3
    · rw [e]; exact e3
theorem while_inv {t : M Bool} {b : MS} (I : Nat → Sg → MH → Prop) (P : Sg → MH → Prop) (hs : ∀ k σ h, I k σ h → ∃ h1, (t σ h = .ok false h1 ∧ P σ h1) ∨ (t σ h = .ok true h1 ∧ ∃ σ2 h2 k2, (b σ h1 = .nx σ2 h2 ∨ b σ h1 = .ct σ2 h2) ∧ k2 < k ∧ I k2 σ2 h2)) :
    ∀ (n k : Nat) (σ : Sg) (h : MH), k < n → I k σ h → ∃ σ2 h2, whileS t b n σ h = .nx σ2 h2 ∧ P σ2 h2 := by
  intro n
  induction n with
  | zero => intro k σ h hk; omega
  | succ n ih =>
    intro k σ h hk hi
    obtain ⟨h1, z⟩ := hs k σ h hi
    rcases z with ⟨e, hi1⟩ | ⟨e, σ2, h2, k2, eb, hk2, hi2⟩
    · refine ⟨σ, h1, ?_, hi1⟩
      unfold whileS
      rw [as_run, e]
      rfl
    · obtain ⟨σ3, h3, e3, z3⟩ := ih k2 σ2 h2 (by omega) hi2
      refine ⟨σ3, h3, ?_, z3⟩
      unfold whileS
      rw [as_run, e, bndS_ok]
      simp only [if_true]
      rcases eb with eb | eb
      · rw [eb]; exact e3
      · rw [eb]; exact e3
theorem lcL_inv {src : Src} {p : Pat} {t : M Bool} {e : M D} {σ0 : Sg} (I : Nat → List D → MH → Prop) : ∀ (ds : List D) (i : Nat) (acc : List D) (h : MH), (∀ j acc h, i ≤ j → j ≤ i + ds.length → I j acc h → src.ok h) →
    (∀ j d acc h, i ≤ j → ds[j - i]? = some d → I j acc h → ∃ σ1, p.put d σ0 = some σ1 ∧ ∃ h1, (t σ1 h = .ok false h1 ∧ I (j + 1) acc h1) ∨ (t σ1 h = .ok true h1 ∧ ∃ y h2, e σ1 h1 = .ok y h2 ∧ y.st = true ∧ acc.length < line ∧ I (j + 1) (acc ++ [y]) h2)) →
    I i acc h → ∃ acc2 h2, lcL src p t e σ0 ds acc h = .ok (.tl acc2) h2 ∧ I (i + ds.length) acc2 h2
  | [], i, acc, h, ho, _, hi => ⟨acc, h, lcL_nil (ho i acc h (Nat.le_refl _) (by simp) hi), hi⟩
  | d :: ds, i, acc, h, ho, hb, hi => by
    have ok := ho i acc h (Nat.le_refl _) (by omega) hi
    obtain ⟨σ1, ep, h1, z⟩ := hb i d acc h (Nat.le_refl _) (by simp) hi
    have ho' : ∀ j acc h, i + 1 ≤ j → j ≤ i + 1 + ds.length → I j acc h → src.ok h := fun j acc h a1 a2 => ho j acc h (by omega) (by rw [List.length_cons]; omega)
    have hb' : ∀ j d acc h, i + 1 ≤ j → ds[j - (i + 1)]? = some d → I j acc h → _ := fun j d' acc h a1 ed => hb j d' acc h (by omega) (by
      have : j - i = (j - (i + 1)) + 1 := by omega
      rw [this, List.getElem?_cons_succ]
      exact ed)
    have len : i + (d :: ds).length = i + 1 + ds.length := by rw [List.length_cons]; omega
    rw [len]
    rcases z with ⟨et, hi1⟩ | ⟨et, y, h2, ee, hy, hl, hi2⟩
    · rw [lcL_no ok ep et]
      exact lcL_inv I ds (i + 1) acc h1 ho' hb' hi1
    · rw [lcL_yes ok ep et ee hy hl]
      exact lcL_inv I ds (i + 1) (acc ++ [y]) h2 ho' hb' hi2
end
end Dn
end
noncomputable section
set_option Elab.async false
set_option linter.all false
set_option maxRecDepth 100000
set_option maxHeartbeats 0
namespace HD
open PySem PySem.Spec PyProof.Rows L2 Dn
def m_is_name : MS := (seqS (ifS (orB (notB (asB (op1 (gIsi .str) (mVar 0)))) (notB (asB (chain gLe gLe (retM (.int 1)) (op1 gLen (mVar 0)) (retM (.int 8)))))) (retS (retM (.bl false))) skipS)
  (retS (op1 gAll (lcM (op1 srcV (mVar 0)) (.nm 1) [1] (retM true) (op2 (gIn false) (mVar 1) (retM (.str [97, 98, 99, 100, 101, 102, 103, 104, 105, 106, 107, 108, 109, 110, 111, 112, 113, 114, 115, 116, 117, 118, 119, 120, 121, 122])))))))
def F_is_name : List D → MH → R D := fnD 1 2 m_is_name
theorem sc_is_name : FnScope ["thing", "letter"] ["thing"] (defScope (top 11)) := ⟨rfl, rfl, rfl, by decide +kernel, rfl, by decide +kernel, by decide +kernel⟩
abbrev O_is_name (P : Program) (w : World) (K : PySem.W.Frag) (mg : Str → Option Value) (base : Heap) : Prop := DfOk P w K mg base "is_name" "is_name" (defArgs (top 11)) (defBody (top 11)) (defScope (top 11)) [] [] (He.fAd K ("is_name", none)) 1 ["thing"] F_is_name
theorem ok_is_name {P : Program} {w : World} {K : PySem.W.Frag} {mg : Str → Option Value} {base : Heap} (x : Fx K mg) : O_is_name P w K mg base := by
  obtain ⟨fd, F⟩ := x.c.def_ 0 (d := d_is_name) rfl
  refine ⟨fd, F, fnM_of F sc_is_name (by decide) fun cdv A outer s H hgd hr => ?_⟩
  have hu := hr.units
  have hu5 := u65 hr
  exact (sss_cons (ss_if (SW.sb (sw_or (sb_not (sb_val (se_isi .str (by decide) rfl (x.free 46) rfl (x.free 54) boot_str (sv 0)))) (sw_or1 (sb_not (sb_chain (op_leM hu) (op_leM hu) lift_le lift_le se_int (se_b1 call_lenA lift_len rfl (x.free 47) boot_len (sv 0)) (se_gint 8 rfl (x.int 59))))))) (sss_one (ss_ret se_bl)) sss_nil)
    (sss_one (ss_ret (se_b1 (cr_all rfl) lift_all rfl (x.free 42) boot_all (se_lc (own := [("letter", 1)]) rfl sc_is_name.nd (si_val (sv 0)) (blk_ok (by rfl)) (by decide) (fun _ _ _ _ _ => (sg_name (i := 1) sc_is_name.nd rfl (by first | exact Or.inl rfl | exact Or.inr rfl))) (fun _ _ _ _ _ => sts_nil) (fun _ _ _ _ _ => (se_cmp (op_inM hu5) lift_in (sv 1) (se_gstr [97, 98, 99, 100, 101, 102, 103, 104, 105, 106, 107, 108, 109, 110, 111, 112, 113, 114, 115, 116, 117, 118, 119, 120, 121, 122] rfl (x.str 58)))))))))
def m_is_below : MS := (retS (andV (op1 (gIsi .int) (mVar 0)) (andV (notV (op1 (gIsi .bl) (mVar 0))) (chain gLe gLt (retM (.int 0)) (mVar 0) (mVar 1)))))
def F_is_below : List D → MH → R D := fnD 2 2 m_is_below
theorem sc_is_below : FnScope ["thing", "many"] ["thing", "many"] (defScope (top 12)) := ⟨rfl, rfl, rfl, by decide +kernel, rfl, by decide +kernel, by decide +kernel⟩
abbrev O_is_below (P : Program) (w : World) (K : PySem.W.Frag) (mg : Str → Option Value) (base : Heap) : Prop := DfOk P w K mg base "is_below" "is_below" (defArgs (top 12)) (defBody (top 12)) (defScope (top 12)) [] [] (He.fAd K ("is_below", none)) 1 ["thing", "many"] F_is_below
theorem ok_is_below {P : Program} {w : World} {K : PySem.W.Frag} {mg : Str → Option Value} {base : Heap} (x : Fx K mg) : O_is_below P w K mg base := by
  obtain ⟨fd, F⟩ := x.c.def_ 1 (d := d_is_below) rfl
  refine ⟨fd, F, fnM_of F sc_is_below (by decide) fun cdv A outer s H hgd hr => ?_⟩
  have hu := hr.units
  have hu5 := u65 hr
  exact (sss_one (ss_ret (se_and (se_isi .int (by decide) rfl (x.free 46) rfl (x.free 45) boot_int (sv 0)) (se_and (se_not (se_isi .bl (by decide) rfl (x.free 46) rfl (x.free 43) boot_bool (sv 0))) (se_one (se_chain (op_leM hu) (op_ltM hu) lift_le lift_lt se_int (sv 0) (sv 1)))))))
def m_is_rising : MS := (retS (op1 gAll (lcM (srcA zipV (consM (mVar 0) (consM (slM (mVar 0) (partM (retM (.int 1))) (retM .non)) nilM))) (.tu [(.nm 1), (.nm 2)]) [1, 2] (retM true) (op2 gLt (mVar 1) (mVar 2)))))
def F_is_rising : List D → MH → R D := fnD 1 3 m_is_rising
theorem sc_is_rising : FnScope ["row", "one", "other"] ["row"] (defScope (top 13)) := ⟨rfl, rfl, rfl, by decide +kernel, rfl, by decide +kernel, by decide +kernel⟩
abbrev O_is_rising (P : Program) (w : World) (K : PySem.W.Frag) (mg : Str → Option Value) (base : Heap) : Prop := DfOk P w K mg base "is_rising" "is_rising" (defArgs (top 13)) (defBody (top 13)) (defScope (top 13)) [] [] (He.fAd K ("is_rising", none)) 1 ["row"] F_is_rising
theorem ok_is_rising {P : Program} {w : World} {K : PySem.W.Frag} {mg : Str → Option Value} {base : Heap} (x : Fx K mg) : O_is_rising P w K mg base := by
  obtain ⟨fd, F⟩ := x.c.def_ 2 (d := d_is_rising) rfl
  refine ⟨fd, F, fnM_of F sc_is_rising (by decide) fun cdv A outer s H hgd hr => ?_⟩
  have hu := hr.units
  have hu5 := u65 hr
  exact (sss_one (ss_ret (se_b1 (cr_all rfl) lift_all rfl (x.free 42) boot_all (se_lc (own := [("one", 1), ("other", 2)]) rfl sc_is_rising.nd (si_zip (st_cons (sv 0) (st_cons (se_slice (sv 0) (so_some se_int) so_none) st_nil)) rfl (x.free 56)) (blk_ok (by rfl)) (by decide) (fun _ _ _ _ _ => (sg_tup rfl (sgs_cons (sg_name (i := 1) sc_is_rising.nd rfl (by first | exact Or.inl rfl | exact Or.inr rfl)) (sgs_cons (sg_name (i := 2) sc_is_rising.nd rfl (by first | exact Or.inl rfl | exact Or.inr rfl)) sgs_nil)))) (fun _ _ _ _ _ => sts_nil) (fun _ _ _ _ _ => (se_cmp (op_ltM hu) lift_lt (sv 1) (sv 2)))))))
def m_are_hands : MS := (seqS (ifS (orB (notB (asB (op1 (gIsi .tup) (mVar 0)))) (notB (asB (chain gLe gLe (retM (.int 2)) (op1 gLen (mVar 0)) (retM (.int 6)))))) (retS (retM (.bl false))) skipS)
  (retS (andV (op1 gAll (lcM (op1 srcV (mVar 0)) (.nm 1) [1] (retM true) (fcallM F_is_name [] (consM (mVar 1) nilM)))) (op2 (gEq false) (lenSetM (κ := Key) keyD (op1 srcV (mVar 0)) (.nm 1) [1] (retM true) (mVar 1)) (op1 gLen (mVar 0))))))
def F_are_hands : List D → MH → R D := fnD 1 2 m_are_hands
theorem sc_are_hands : FnScope ["thing", "hand"] ["thing"] (defScope (top 14)) := ⟨rfl, rfl, rfl, by decide +kernel, rfl, by decide +kernel, by decide +kernel⟩
abbrev O_are_hands (P : Program) (w : World) (K : PySem.W.Frag) (mg : Str → Option Value) (base : Heap) : Prop := DfOk P w K mg base "are_hands" "are_hands" (defArgs (top 14)) (defBody (top 14)) (defScope (top 14)) [] [] (He.fAd K ("are_hands", none)) 2 ["thing"] F_are_hands
theorem ok_are_hands {P : Program} {w : World} {K : PySem.W.Frag} {mg : Str → Option Value} {base : Heap} (x : Fx K mg) : O_are_hands P w K mg base := by
  obtain ⟨fd, F⟩ := x.c.def_ 3 (d := d_are_hands) rfl
  obtain ⟨fd_is_name, F_is_name, M_is_name⟩ := ok_is_name (P := P) (w := w) (base := base) x
  refine ⟨fd, F, fnM_of F sc_are_hands (by decide) fun cdv A outer s H hgd hr => ?_⟩
  have hu := hr.units
  have hu5 := u65 hr
  exact (sss_cons (ss_if (SW.sb (sw_or (sb_not (sb_val (se_isi .tup (by decide) rfl (x.free 46) rfl (x.free 55) boot_tuple (sv 0)))) (sw_or1 (sb_not (sb_chain (op_leM hu) (op_leM hu) lift_le lift_le se_int (se_b1 call_lenA lift_len rfl (x.free 47) boot_len (sv 0)) (se_gint 6 rfl (x.int 60))))))) (sss_one (ss_ret se_bl)) sss_nil)
    (sss_one (ss_ret (se_and (se_b1 (cr_all rfl) lift_all rfl (x.free 42) boot_all (se_lc (own := [("hand", 1)]) rfl sc_are_hands.nd (si_val (sv 0)) (blk_ok (by rfl)) (by decide) (fun _ _ _ _ _ => (sg_name (i := 1) sc_are_hands.nd rfl (by first | exact Or.inl rfl | exact Or.inr rfl))) (fun _ _ _ _ _ => sts_nil) (fun _ _ _ _ _ => (se_call (ds := []) (dvs := []) M_is_name hgd (hr.mono (by decide)) rfl (x.glo 0) F_is_name.kp (F_is_name.bindsN fun _ _ _ _ _ _ us hl => match us, hl with | [_], _ => rfl) .nil (fun _ _ _ => .nil) (st_cons (sv 1) st_nil))))) (se_one (se_cmp (op_eqM hu) lift_eq (se_lenSet (own := [("hand", 1)]) atomKey hu rfl sc_are_hands.nd rfl (x.free 47) (si_val (sv 0)) (blk_ok (by rfl)) (by decide) (fun _ _ _ _ _ => (sg_name (i := 1) sc_are_hands.nd rfl (by first | exact Or.inl rfl | exact Or.inr rfl))) (fun _ _ _ _ _ => sts_nil) (fun _ _ _ _ _ => (sv 1))) (se_b1 call_lenA lift_len rfl (x.free 47) boot_len (sv 0))))))))
def m_are_weak : MS := (seqS (ifS (orB (notB (asB (op1 (gIsi .tup) (mVar 1)))) (notB (asB (op1 gAll (lcM (op1 srcV (mVar 1)) (.nm 2) [2] (retM true) (andV (fcallM F_is_name [] (consM (mVar 2) nilM)) (op2 (gIn false) (mVar 2) (mVar 0)))))))) (retS (retM (.bl false))) skipS)
  (retS (fcallM F_is_rising [] (consM (mVar 1) nilM))))
def F_are_weak : List D → MH → R D := fnD 2 3 m_are_weak
theorem sc_are_weak : FnScope ["hands", "thing", "hand"] ["hands", "thing"] (defScope (top 15)) := ⟨rfl, rfl, rfl, by decide +kernel, rfl, by decide +kernel, by decide +kernel⟩
abbrev O_are_weak (P : Program) (w : World) (K : PySem.W.Frag) (mg : Str → Option Value) (base : Heap) : Prop := DfOk P w K mg base "are_weak" "are_weak" (defArgs (top 15)) (defBody (top 15)) (defScope (top 15)) [] [] (He.fAd K ("are_weak", none)) 2 ["hands", "thing"] F_are_weak
theorem ok_are_weak {P : Program} {w : World} {K : PySem.W.Frag} {mg : Str → Option Value} {base : Heap} (x : Fx K mg) : O_are_weak P w K mg base := by
  obtain ⟨fd, F⟩ := x.c.def_ 4 (d := d_are_weak) rfl
  obtain ⟨fd_is_name, F_is_name, M_is_name⟩ := ok_is_name (P := P) (w := w) (base := base) x
  obtain ⟨fd_is_rising, F_is_rising, M_is_rising⟩ := ok_is_rising (P := P) (w := w) (base := base) x
  refine ⟨fd, F, fnM_of F sc_are_weak (by decide) fun cdv A outer s H hgd hr => ?_⟩
  have hu := hr.units
  have hu5 := u65 hr
  exact (sss_cons (ss_if (SW.sb (sw_or (sb_not (sb_val (se_isi .tup (by decide) rfl (x.free 46) rfl (x.free 55) boot_tuple (sv 1)))) (sw_or1 (sb_not (sb_val (se_b1 (cr_all rfl) lift_all rfl (x.free 42) boot_all (se_lc (own := [("hand", 2)]) rfl sc_are_weak.nd (si_val (sv 1)) (blk_ok (by rfl)) (by decide) (fun _ _ _ _ _ => (sg_name (i := 2) sc_are_weak.nd rfl (by first | exact Or.inl rfl | exact Or.inr rfl))) (fun _ _ _ _ _ => sts_nil) (fun _ _ _ _ _ => (se_and (se_call (ds := []) (dvs := []) M_is_name hgd (hr.mono (by decide)) rfl (x.glo 0) F_is_name.kp (F_is_name.bindsN fun _ _ _ _ _ _ us hl => match us, hl with | [_], _ => rfl) .nil (fun _ _ _ => .nil) (st_cons (sv 2) st_nil)) (se_one (se_cmp (op_inM hu5) lift_in (sv 2) (sv 0)))))))))))) (sss_one (ss_ret se_bl)) sss_nil)
    (sss_one (ss_ret (se_call (ds := []) (dvs := []) M_is_rising hgd (hr.mono (by decide)) rfl (x.glo 2) F_is_rising.kp (F_is_rising.bindsN fun _ _ _ _ _ _ us hl => match us, hl with | [_], _ => rfl) .nil (fun _ _ _ => .nil) (st_cons (sv 1) st_nil)))))
def m_is_branch : MS := (seqS (ifS (orB (notB (asB (op1 (gIsi .tup) (mVar 2)))) (asB (op2 (gEq true) (op1 gLen (mVar 2)) (retM (.int 3))))) (retS (retM (.bl false))) skipS)
  (seqS (asgS (.tu [(.nm 3), (.nm 4), (.nm 5)]) (mVar 2))
  (retS (andV (fcallM F_is_name [] (consM (mVar 3) nilM)) (andV (op2 (gIn false) (mVar 3) (mVar 0)) (andV (orV (fcallM F_is_name [] (consM (mVar 4) nilM)) (op2 (gEq false) (mVar 4) (retM (.str [33])))) (fcallM F_is_below [] (consM (mVar 5) (consM (mVar 1) nilM)))))))))
def F_is_branch : List D → MH → R D := fnD 3 6 m_is_branch
theorem sc_is_branch : FnScope ["hands", "many", "thing", "hearer", "word", "then"] ["hands", "many", "thing"] (defScope (top 16)) := ⟨rfl, rfl, rfl, by decide +kernel, rfl, by decide +kernel, by decide +kernel⟩
abbrev O_is_branch (P : Program) (w : World) (K : PySem.W.Frag) (mg : Str → Option Value) (base : Heap) : Prop := DfOk P w K mg base "is_branch" "is_branch" (defArgs (top 16)) (defBody (top 16)) (defScope (top 16)) [] [] (He.fAd K ("is_branch", none)) 2 ["hands", "many", "thing"] F_is_branch
theorem ok_is_branch {P : Program} {w : World} {K : PySem.W.Frag} {mg : Str → Option Value} {base : Heap} (x : Fx K mg) : O_is_branch P w K mg base := by
  obtain ⟨fd, F⟩ := x.c.def_ 5 (d := d_is_branch) rfl
  obtain ⟨fd_is_name, F_is_name, M_is_name⟩ := ok_is_name (P := P) (w := w) (base := base) x
  obtain ⟨fd_is_below, F_is_below, M_is_below⟩ := ok_is_below (P := P) (w := w) (base := base) x
  refine ⟨fd, F, fnM_of F sc_is_branch (by decide) fun cdv A outer s H hgd hr => ?_⟩
  have hu := hr.units
  have hu5 := u65 hr
  exact (sss_cons (ss_if (SW.sb (sw_or (sb_not (sb_val (se_isi .tup (by decide) rfl (x.free 46) rfl (x.free 55) boot_tuple (sv 2)))) (sw_or1 (sb_cmp (op_neM hu) lift_eq (se_b1 call_lenA lift_len rfl (x.free 47) boot_len (sv 2)) se_int)))) (sss_one (ss_ret se_bl)) sss_nil)
    (sss_cons (ss_asg (sv 2) (sg_tup rfl (sgs_cons (sg_name (i := 3) sc_is_branch.nd rfl (by first | exact Or.inl rfl | exact Or.inr rfl)) (sgs_cons (sg_name (i := 4) sc_is_branch.nd rfl (by first | exact Or.inl rfl | exact Or.inr rfl)) (sgs_cons (sg_name (i := 5) sc_is_branch.nd rfl (by first | exact Or.inl rfl | exact Or.inr rfl)) sgs_nil)))))
    (sss_one (ss_ret (se_and (se_call (ds := []) (dvs := []) M_is_name hgd (hr.mono (by decide)) rfl (x.glo 0) F_is_name.kp (F_is_name.bindsN fun _ _ _ _ _ _ us hl => match us, hl with | [_], _ => rfl) .nil (fun _ _ _ => .nil) (st_cons (sv 3) st_nil)) (se_and (se_cmp (op_inM hu5) lift_in (sv 3) (sv 0)) (se_and (se_or (se_call (ds := []) (dvs := []) M_is_name hgd (hr.mono (by decide)) rfl (x.glo 0) F_is_name.kp (F_is_name.bindsN fun _ _ _ _ _ _ us hl => match us, hl with | [_], _ => rfl) .nil (fun _ _ _ => .nil) (st_cons (sv 4) st_nil)) (se_one (se_cmp (op_eqM hu) lift_eq (sv 4) (se_gstr [33] rfl (x.str 57))))) (se_one (se_call (ds := []) (dvs := []) M_is_below hgd (hr.mono (by decide)) rfl (x.glo 1) F_is_below.kp (F_is_below.bindsN fun _ _ _ _ _ _ us hl => match us, hl with | [_, _], _ => rfl) .nil (fun _ _ _ => .nil) (st_cons (sv 5) (st_cons (sv 1) st_nil)))))))))))
def m_are_branches : MS := (seqS (ifS (orB (notB (asB (op1 (gIsi .tup) (mVar 4)))) (notB (asB (chain gLe gLe (retM (.int 1)) (op1 gLen (mVar 4)) (retM (.int 8)))))) (retS (retM (.bl false))) skipS)
  (seqS (ifS (orB (notB (asB (op1 gAll (lcM (op1 srcV (mVar 4)) (.nm 5) [5] (retM true) (fcallM F_is_branch [] (consM (mVar 0) (consM (mVar 2) (consM (mVar 5) nilM)))))))) (notB (asB (fcallM F_is_rising [] (consM (mVar 4) nilM))))) (retS (retM (.bl false))) skipS)
  (seqS (setS 6 (ownM (lcM (op1 srcV (mVar 4)) (.nm 5) [5] (retM true) (ownM (slM (mVar 5) (retM .non) (partM (retM (.int 2))))))))
  (seqS (setS 7 (op1 gLen (lcM (op1 srcV (mVar 6)) (.tu [(.nm 8), (.nm 9)]) [8, 9] (asB (op2 (gEq false) (mVar 9) (retM (.str [33])))) (mVar 9))))
  (seqS (ifS (orB (asB (op2 (gEq true) (mVar 7) (op1 gInt (op2 (gIn false) (mVar 3) (mVar 1))))) (asB (op2 (gEq false) (mVar 7) (op1 gLen (mVar 6))))) (retS (retM (.bl false))) skipS)
  (retS (andV (op2 (gIn true) (mVar 3) (lcM (op1 srcV (mVar 6)) (.tu [(.nm 8), (.nm 9)]) [8, 9] (retM true) (mVar 8))) (op2 (gEq false) (lenSetM (κ := (List Key)) tupKey (op1 srcV (mVar 6)) (.nm 10) [10] (retM true) (mVar 10)) (op1 gLen (mVar 6))))))))))
def F_are_branches : List D → MH → R D := fnD 5 11 m_are_branches
theorem sc_are_branches : FnScope ["hands", "weak", "many", "sayer", "thing", "branch", "said", "faults", "hearer", "word", "pair"] ["hands", "weak", "many", "sayer", "thing"] (defScope (top 17)) := ⟨rfl, rfl, rfl, by decide +kernel, rfl, by decide +kernel, by decide +kernel⟩
abbrev O_are_branches (P : Program) (w : World) (K : PySem.W.Frag) (mg : Str → Option Value) (base : Heap) : Prop := DfOk P w K mg base "are_branches" "are_branches" (defArgs (top 17)) (defBody (top 17)) (defScope (top 17)) [] [] (He.fAd K ("are_branches", none)) 3 ["hands", "weak", "many", "sayer", "thing"] F_are_branches
theorem ok_are_branches {P : Program} {w : World} {K : PySem.W.Frag} {mg : Str → Option Value} {base : Heap} (x : Fx K mg) : O_are_branches P w K mg base := by
  obtain ⟨fd, F⟩ := x.c.def_ 6 (d := d_are_branches) rfl
  obtain ⟨fd_is_rising, F_is_rising, M_is_rising⟩ := ok_is_rising (P := P) (w := w) (base := base) x
  obtain ⟨fd_is_branch, F_is_branch, M_is_branch⟩ := ok_is_branch (P := P) (w := w) (base := base) x
  refine ⟨fd, F, fnM_of F sc_are_branches (by decide) fun cdv A outer s H hgd hr => ?_⟩
  have hu := hr.units
  have hu5 := u65 hr
  exact (sss_cons (ss_if (SW.sb (sw_or (sb_not (sb_val (se_isi .tup (by decide) rfl (x.free 46) rfl (x.free 55) boot_tuple (sv 4)))) (sw_or1 (sb_not (sb_chain (op_leM hu) (op_leM hu) lift_le lift_le se_int (se_b1 call_lenA lift_len rfl (x.free 47) boot_len (sv 4)) (se_gint 8 rfl (x.int 61))))))) (sss_one (ss_ret se_bl)) sss_nil)
    (sss_cons (ss_if (SW.sb (sw_or (sb_not (sb_val (se_b1 (cr_all rfl) lift_all rfl (x.free 42) boot_all (se_lc (own := [("branch", 5)]) rfl sc_are_branches.nd (si_val (sv 4)) (blk_ok (by rfl)) (by decide) (fun _ _ _ _ _ => (sg_name (i := 5) sc_are_branches.nd rfl (by first | exact Or.inl rfl | exact Or.inr rfl))) (fun _ _ _ _ _ => sts_nil) (fun _ _ _ _ _ => (se_call (ds := []) (dvs := []) M_is_branch hgd (hr.mono (by decide)) rfl (x.glo 5) F_is_branch.kp (F_is_branch.bindsN fun _ _ _ _ _ _ us hl => match us, hl with | [_, _, _], _ => rfl) .nil (fun _ _ _ => .nil) (st_cons (sv 0) (st_cons (sv 2) (st_cons (sv 5) st_nil))))))))) (sw_or1 (sb_not (sb_val (se_call (ds := []) (dvs := []) M_is_rising hgd (hr.mono (by decide)) rfl (x.glo 2) F_is_rising.kp (F_is_rising.bindsN fun _ _ _ _ _ _ us hl => match us, hl with | [_], _ => rfl) .nil (fun _ _ _ => .nil) (st_cons (sv 4) st_nil))))))) (sss_one (ss_ret se_bl)) sss_nil)
    (sss_cons (by first | exact ss_setLc (own := [("branch", 5)]) (i := 6) rfl sc_are_branches.nd rfl rfl rfl (si_val (sv 4)) (blk_ok (by rfl)) (by decide) (fun _ _ _ _ _ => (sg_name (i := 5) sc_are_branches.nd rfl (by first | exact Or.inl rfl | exact Or.inr rfl))) (fun _ _ _ _ _ => sts_nil) (fun _ _ _ _ _ => (se_own (se_slice (sv 5) so_none (so_some se_int)))) | exact ss_set (i := 6) sc_are_branches.nd rfl (by first | exact Or.inl rfl | exact Or.inr rfl) (se_own (se_lc (own := [("branch", 5)]) rfl sc_are_branches.nd (si_val (sv 4)) (blk_ok (by rfl)) (by decide) (fun _ _ _ _ _ => (sg_name (i := 5) sc_are_branches.nd rfl (by first | exact Or.inl rfl | exact Or.inr rfl))) (fun _ _ _ _ _ => sts_nil) (fun _ _ _ _ _ => (se_own (se_slice (sv 5) so_none (so_some se_int)))))))
    (sss_cons (ss_set (i := 7) sc_are_branches.nd rfl (by first | exact Or.inl rfl | exact Or.inr rfl) (se_b1 call_lenA lift_len rfl (x.free 47) boot_len (se_lc (own := [("hearer", 8), ("word", 9)]) rfl sc_are_branches.nd (si_val (sv 6)) (blk_ok (by rfl)) (by decide) (fun _ _ _ _ _ => (sg_tup rfl (sgs_cons (sg_name (i := 8) sc_are_branches.nd rfl (by first | exact Or.inl rfl | exact Or.inr rfl)) (sgs_cons (sg_name (i := 9) sc_are_branches.nd rfl (by first | exact Or.inl rfl | exact Or.inr rfl)) sgs_nil)))) (fun _ _ _ _ _ => (sts_one (sb_cmp (op_eqM hu) lift_eq (sv 9) (se_gstr [33] rfl (x.str 57))))) (fun _ _ _ _ _ => (sv 9)))))
    (sss_cons (ss_if (SW.sb (sw_or (sb_cmp (op_neM hu) lift_eq (sv 7) (se_t1 call_int1 lift_int rfl (x.free 45) boot_int (se_cmp (op_inM hu5) lift_in (sv 3) (sv 1)))) (sw_or1 (sb_cmp (op_eqM hu) lift_eq (sv 7) (se_b1 call_lenA lift_len rfl (x.free 47) boot_len (sv 6)))))) (sss_one (ss_ret se_bl)) sss_nil)
    (sss_one (ss_ret (se_and (se_cmp (op_notInM hu5) lift_in (sv 3) (se_lc (own := [("hearer", 8), ("word", 9)]) rfl sc_are_branches.nd (si_val (sv 6)) (blk_ok (by rfl)) (by decide) (fun _ _ _ _ _ => (sg_tup rfl (sgs_cons (sg_name (i := 8) sc_are_branches.nd rfl (by first | exact Or.inl rfl | exact Or.inr rfl)) (sgs_cons (sg_name (i := 9) sc_are_branches.nd rfl (by first | exact Or.inl rfl | exact Or.inr rfl)) sgs_nil)))) (fun _ _ _ _ _ => sts_nil) (fun _ _ _ _ _ => (sv 8)))) (se_one (se_cmp (op_eqM hu) lift_eq (se_lenSet (own := [("pair", 10)]) tupleKey hu rfl sc_are_branches.nd rfl (x.free 47) (si_val (sv 6)) (blk_ok (by rfl)) (by decide) (fun _ _ _ _ _ => (sg_name (i := 10) sc_are_branches.nd rfl (by first | exact Or.inl rfl | exact Or.inr rfl))) (fun _ _ _ _ _ => sts_nil) (fun _ _ _ _ _ => (sv 10))) (se_b1 call_lenA lift_len rfl (x.free 47) boot_len (sv 6))))))))))))
def m_is_saying : MS := (seqS (ifS (orB (notB (asB (op1 (gIsi .tup) (mVar 3)))) (orB (asB (op2 (gEq true) (op1 gLen (mVar 3)) (retM (.int 2)))) (orB (notB (asB (fcallM F_is_name [] (consM (op2 gIx (mVar 3) (retM (.int 0))) nilM)))) (asB (op2 (gIn true) (op2 gIx (mVar 3) (retM (.int 0))) (mVar 0)))))) (retS (retM (.bl false))) skipS)
  (retS (fcallM F_are_branches [] (consM (mVar 0) (consM (mVar 1) (consM (mVar 2) (consM (op2 gIx (mVar 3) (retM (.int 0))) (consM (op2 gIx (mVar 3) (retM (.int 1))) nilM))))))))
def F_is_saying : List D → MH → R D := fnD 4 4 m_is_saying
theorem sc_is_saying : FnScope ["hands", "weak", "many", "thing"] ["hands", "weak", "many", "thing"] (defScope (top 18)) := ⟨rfl, rfl, rfl, by decide +kernel, rfl, by decide +kernel, by decide +kernel⟩
abbrev O_is_saying (P : Program) (w : World) (K : PySem.W.Frag) (mg : Str → Option Value) (base : Heap) : Prop := DfOk P w K mg base "is_saying" "is_saying" (defArgs (top 18)) (defBody (top 18)) (defScope (top 18)) [] [] (He.fAd K ("is_saying", none)) 4 ["hands", "weak", "many", "thing"] F_is_saying
theorem ok_is_saying {P : Program} {w : World} {K : PySem.W.Frag} {mg : Str → Option Value} {base : Heap} (x : Fx K mg) : O_is_saying P w K mg base := by
  obtain ⟨fd, F⟩ := x.c.def_ 7 (d := d_is_saying) rfl
  obtain ⟨fd_is_name, F_is_name, M_is_name⟩ := ok_is_name (P := P) (w := w) (base := base) x
  obtain ⟨fd_are_branches, F_are_branches, M_are_branches⟩ := ok_are_branches (P := P) (w := w) (base := base) x
  refine ⟨fd, F, fnM_of F sc_is_saying (by decide) fun cdv A outer s H hgd hr => ?_⟩
  have hu := hr.units
  have hu5 := u65 hr
  exact (sss_cons (ss_if (SW.sb (sw_or (sb_not (sb_val (se_isi .tup (by decide) rfl (x.free 46) rfl (x.free 55) boot_tuple (sv 3)))) (sw_or (sb_cmp (op_neM hu) lift_eq (se_b1 call_lenA lift_len rfl (x.free 47) boot_len (sv 3)) se_int) (sw_or (sb_not (sb_val (se_call (ds := []) (dvs := []) M_is_name hgd (hr.mono (by decide)) rfl (x.glo 0) F_is_name.kp (F_is_name.bindsN fun _ _ _ _ _ _ us hl => match us, hl with | [_], _ => rfl) .nil (fun _ _ _ => .nil) (st_cons (se_ix (sv 3) se_int) st_nil)))) (sw_or1 (sb_cmp (op_notInM hu5) lift_in (se_ix (sv 3) se_int) (sv 0))))))) (sss_one (ss_ret se_bl)) sss_nil)
    (sss_one (ss_ret (se_call (ds := []) (dvs := []) M_are_branches hgd (hr.mono (by decide)) rfl (x.glo 6) F_are_branches.kp (F_are_branches.bindsN fun _ _ _ _ _ _ us hl => match us, hl with | [_, _, _, _, _], _ => rfl) .nil (fun _ _ _ => .nil) (st_cons (sv 0) (st_cons (sv 1) (st_cons (sv 2) (st_cons (se_ix (sv 3) se_int) (st_cons (se_ix (sv 3) se_int) st_nil)))))))))
def m_may_go : MS := (seqS (asgS (.tu [(.nm 4), (.nm 5), (.nm 6)]) (mVar 1))
  (retS (andV (op2 (gIn true) (mVar 2) (tupM (consM (mVar 0) (consM (mVar 4) nilM)))) (orV (mVar 3) (op2 (gEq true) (mVar 5) (retM (.str [33])))))))
def F_may_go : List D → MH → R D := fnD 4 7 m_may_go
theorem sc_may_go : FnScope ["sayer", "branch", "without", "faults", "hearer", "word", "then"] ["sayer", "branch", "without", "faults"] (defScope (top 19)) := ⟨rfl, rfl, rfl, by decide +kernel, rfl, by decide +kernel, by decide +kernel⟩
abbrev O_may_go (P : Program) (w : World) (K : PySem.W.Frag) (mg : Str → Option Value) (base : Heap) : Prop := DfOk P w K mg base "may_go" "may_go" (defArgs (top 19)) (defBody (top 19)) (defScope (top 19)) [] [] (He.fAd K ("may_go", none)) 1 ["sayer", "branch", "without", "faults"] F_may_go
theorem ok_may_go {P : Program} {w : World} {K : PySem.W.Frag} {mg : Str → Option Value} {base : Heap} (x : Fx K mg) : O_may_go P w K mg base := by
  obtain ⟨fd, F⟩ := x.c.def_ 8 (d := d_may_go) rfl
  refine ⟨fd, F, fnM_of F sc_may_go (by decide) fun cdv A outer s H hgd hr => ?_⟩
  have hu := hr.units
  have hu5 := u65 hr
  exact (sss_cons (ss_asg (sv 1) (sg_tup rfl (sgs_cons (sg_name (i := 4) sc_may_go.nd rfl (by first | exact Or.inl rfl | exact Or.inr rfl)) (sgs_cons (sg_name (i := 5) sc_may_go.nd rfl (by first | exact Or.inl rfl | exact Or.inr rfl)) (sgs_cons (sg_name (i := 6) sc_may_go.nd rfl (by first | exact Or.inl rfl | exact Or.inr rfl)) sgs_nil)))))
    (sss_one (ss_ret (se_and (se_cmp (op_notInM hu5) lift_in (sv 2) (se_tup (st_cons (sv 0) (st_cons (sv 4) st_nil)))) (se_one (se_or (sv 3) (se_one (se_cmp (op_neM hu) lift_eq (sv 5) (se_gstr [33] rfl (x.str 57))))))))))
def m_reached_from : MS := (seqS (setS 4 (dct1M (mVar 1) (retM (.bl true))))
  (seqS (setS 5 (ownM (lstM (consM (mVar 1) nilM))))
  (seqS (whileS (asB (op2 (gEq true) (mVar 5) (lstM nilM))) (seqS (setS 6 (mtM .lst gPop (mVar 5) nilM))
  (seqS (asgS (.tu [(.nm 8), (.nm 9)]) (ifM (asB (op2 (gIs true) (op2 gIx (mVar 0) (mVar 6)) (retM .non))) (op2 gIx (mVar 0) (mVar 6)) (tupM (consM (retM .non) (consM (tupM nilM) nilM)))))
  (forS (op1 srcV (mVar 9)) (.nm 7) (ifS (andB (asB (fcallM F_may_go [] (consM (mVar 8) (consM (mVar 7) (consM (mVar 2) (consM (mVar 3) nilM)))))) (asB (op2 (gIn true) (op2 gIx (mVar 7) (retM (.int 2))) (mVar 4)))) (seqS (setIxS (mVar 4) (op2 gIx (mVar 7) (retM (.int 2))) (retM (.bl true)))
  (exprS (mtM .lst gAppend (mVar 5) (consM (op2 gIx (mVar 7) (retM (.int 2))) nilM)))) skipS)))) fuel)
  (retS (op1 gTuple (op1 gSorted (mVar 4)))))))
def F_reached_from : List D → MH → R D := fnD 4 10 m_reached_from
theorem sc_reached_from : FnScope ["places", "start", "without", "faults", "found", "coming", "here", "branch", "sayer", "branches"] ["places", "start", "without", "faults"] (defScope (top 20)) := ⟨rfl, rfl, rfl, by decide +kernel, rfl, by decide +kernel, by decide +kernel⟩
abbrev O_reached_from (P : Program) (w : World) (K : PySem.W.Frag) (mg : Str → Option Value) (base : Heap) : Prop := DfOk P w K mg base "reached_from" "reached_from" (defArgs (top 20)) (defBody (top 20)) (defScope (top 20)) [] [] (He.fAd K ("reached_from", none)) 2 ["places", "start", "without", "faults"] F_reached_from
theorem ok_reached_from {P : Program} {w : World} {K : PySem.W.Frag} {mg : Str → Option Value} {base : Heap} (x : Fx K mg) : O_reached_from P w K mg base := by
  obtain ⟨fd, F⟩ := x.c.def_ 9 (d := d_reached_from) rfl
  obtain ⟨fd_may_go, F_may_go, M_may_go⟩ := ok_may_go (P := P) (w := w) (base := base) x
  refine ⟨fd, F, fnM_of F sc_reached_from (by decide) fun cdv A outer s H hgd hr => ?_⟩
  have hu := hr.units
  have hu5 := u65 hr
  exact (sss_cons (ss_set (i := 4) sc_reached_from.nd rfl (by first | exact Or.inl rfl | exact Or.inr rfl) (se_dct1 (sv 1) se_bl))
    (sss_cons (ss_set (i := 5) sc_reached_from.nd rfl (by first | exact Or.inl rfl | exact Or.inr rfl) (se_own (se_lst (st_cons (sv 1) st_nil))))
    (sss_cons (ss_while fuel PassesOwn.never (sb_cmp (op_neM hu) lift_eq (sv 5) (se_lst st_nil)) (sss_cons (ss_set (i := 6) sc_reached_from.nd rfl (by first | exact Or.inl rfl | exact Or.inr rfl) (se_mt0 (T := .lst) PySem.F.plainAttrs_list PySem.F.slot_list_pop PySem.F.type_list_pop mt_popB lift_pop (sv 5)))
    (sss_cons (ss_asg (se_if (sb_cmp op_notN lift_notN (se_ix (sv 0) (sv 6)) se_non) (se_ix (sv 0) (sv 6)) (se_tup (st_cons se_non (st_cons (se_tup st_nil) st_nil)))) (sg_tup rfl (sgs_cons (sg_name (i := 8) sc_reached_from.nd rfl (by first | exact Or.inl rfl | exact Or.inr rfl)) (sgs_cons (sg_name (i := 9) sc_reached_from.nd rfl (by first | exact Or.inl rfl | exact Or.inr rfl)) sgs_nil))))
    (sss_one (ss_for PassesOwn.never rfl (si_val (sv 9)) (sg_name (i := 7) sc_reached_from.nd rfl (by first | exact Or.inl rfl | exact Or.inr rfl)) (sss_one (ss_if (SW.sb (sw_and (sb_val (se_call (ds := []) (dvs := []) M_may_go hgd (hr.mono (by decide)) rfl (x.glo 8) F_may_go.kp (F_may_go.bindsN fun _ _ _ _ _ _ us hl => match us, hl with | [_, _, _, _], _ => rfl) .nil (fun _ _ _ => .nil) (st_cons (sv 8) (st_cons (sv 7) (st_cons (sv 2) (st_cons (sv 3) st_nil)))))) (sw_and1 (sb_cmp (op_notInM hu5) lift_in (se_ix (sv 7) se_int) (sv 4))))) (sss_cons (ss_setIx hu se_bl (sv 4) (se_ix (sv 7) se_int))
    (sss_one (ss_expr (se_mt (T := .lst) PySem.F.plainAttrs_list PySem.F.slot_list_append PySem.F.type_list_append mt_append lift_append (sv 5) (st_cons (se_ix (sv 7) se_int) st_nil))))) sss_nil)))))))
    (sss_one (ss_ret (se_t1 call_tuple_of lift_tuple rfl (x.free 55) boot_tuple (se_b1 (cr_sortB rfl hu) lift_sorted rfl (x.free 53) boot_sorted (sv 4))))))))
def m_is_gone : MS := (seqS (forS (op1 srcV (fcallM F_reached_from [] (consM (mVar 0) (consM (mVar 2) (consM (retM .non) (consM (retM (.bl true)) nilM)))))) (.nm 3) (ifS (asB (op2 (gIs true) (op2 gIx (mVar 0) (mVar 3)) (retM .non))) (seqS (asgS (.tu [(.nm 4), (.nm 5)]) (op2 gIx (mVar 0) (mVar 3)))
  (ifS (asB (op2 (gIn false) (mVar 1) (op2 gAdd (lstM (consM (mVar 4) nilM)) (lcM (op1 srcV (mVar 5)) (.tu [(.nm 6), (.nm 7), (.nm 8)]) [6, 7, 8] (retM true) (mVar 6))))) (retS (retM (.bl false))) skipS)) skipS))
  (retS (retM (.bl true))))
def F_is_gone : List D → MH → R D := fnD 3 9 m_is_gone
theorem sc_is_gone : FnScope ["places", "hand", "start", "here", "sayer", "branches", "hearer", "word", "then"] ["places", "hand", "start"] (defScope (top 21)) := ⟨rfl, rfl, rfl, by decide +kernel, rfl, by decide +kernel, by decide +kernel⟩
abbrev O_is_gone (P : Program) (w : World) (K : PySem.W.Frag) (mg : Str → Option Value) (base : Heap) : Prop := DfOk P w K mg base "is_gone" "is_gone" (defArgs (top 21)) (defBody (top 21)) (defScope (top 21)) [] [] (He.fAd K ("is_gone", none)) 3 ["places", "hand", "start"] F_is_gone
theorem ok_is_gone {P : Program} {w : World} {K : PySem.W.Frag} {mg : Str → Option Value} {base : Heap} (x : Fx K mg) : O_is_gone P w K mg base := by
  obtain ⟨fd, F⟩ := x.c.def_ 10 (d := d_is_gone) rfl
  obtain ⟨fd_reached_from, F_reached_from, M_reached_from⟩ := ok_reached_from (P := P) (w := w) (base := base) x
  refine ⟨fd, F, fnM_of F sc_is_gone (by decide) fun cdv A outer s H hgd hr => ?_⟩
  have hu := hr.units
  have hu5 := u65 hr
  exact (sss_cons (ss_for PassesOwn.never rfl (si_val (se_call (ds := []) (dvs := []) M_reached_from hgd (hr.mono (by decide)) rfl (x.glo 9) F_reached_from.kp (F_reached_from.bindsN fun _ _ _ _ _ _ us hl => match us, hl with | [_, _, _, _], _ => rfl) .nil (fun _ _ _ => .nil) (st_cons (sv 0) (st_cons (sv 2) (st_cons se_non (st_cons se_bl st_nil)))))) (sg_name (i := 3) sc_is_gone.nd rfl (by first | exact Or.inl rfl | exact Or.inr rfl)) (sss_one (ss_if (sb_cmp op_notN lift_notN (se_ix (sv 0) (sv 3)) se_non) (sss_cons (ss_asg (se_ix (sv 0) (sv 3)) (sg_tup rfl (sgs_cons (sg_name (i := 4) sc_is_gone.nd rfl (by first | exact Or.inl rfl | exact Or.inr rfl)) (sgs_cons (sg_name (i := 5) sc_is_gone.nd rfl (by first | exact Or.inl rfl | exact Or.inr rfl)) sgs_nil))))
    (sss_one (ss_if (sb_cmp (op_inM hu5) lift_in (sv 1) (se_op op_addA lift_add (se_lst (st_cons (sv 4) st_nil)) (se_lc (own := [("hearer", 6), ("word", 7), ("then", 8)]) rfl sc_is_gone.nd (si_val (sv 5)) (blk_ok (by rfl)) (by decide) (fun _ _ _ _ _ => (sg_tup rfl (sgs_cons (sg_name (i := 6) sc_is_gone.nd rfl (by first | exact Or.inl rfl | exact Or.inr rfl)) (sgs_cons (sg_name (i := 7) sc_is_gone.nd rfl (by first | exact Or.inl rfl | exact Or.inr rfl)) (sgs_cons (sg_name (i := 8) sc_is_gone.nd rfl (by first | exact Or.inl rfl | exact Or.inr rfl)) sgs_nil))))) (fun _ _ _ _ _ => sts_nil) (fun _ _ _ _ _ => (sv 6))))) (sss_one (ss_ret se_bl)) sss_nil))) sss_nil)))
    (sss_one (ss_ret se_bl)))
def m_are_faults_right : MS := (seqS (forS (op1 srcV (lcM (op1 srcV (mVar 0)) (.nm 3) [3] (asB (op2 (gIs true) (mVar 3) (retM .non))) (mVar 3))) (.tu [(.nm 1), (.nm 2)]) (ifS (notB (asB (op1 gAll (lcM (op1 srcV (mVar 2)) (.tu [(.nm 4), (.nm 5), (.nm 6)]) [4, 5, 6] (asB (op2 (gEq false) (mVar 5) (retM (.str [33])))) (fcallM F_is_gone [] (consM (mVar 0) (consM (mVar 1) (consM (mVar 6) nilM)))))))) (retS (retM (.bl false))) skipS))
  (retS (retM (.bl true))))
def F_are_faults_right : List D → MH → R D := fnD 1 7 m_are_faults_right
theorem sc_are_faults_right : FnScope ["places", "sayer", "branches", "place", "hearer", "word", "then"] ["places"] (defScope (top 22)) := ⟨rfl, rfl, rfl, by decide +kernel, rfl, by decide +kernel, by decide +kernel⟩
abbrev O_are_faults_right (P : Program) (w : World) (K : PySem.W.Frag) (mg : Str → Option Value) (base : Heap) : Prop := DfOk P w K mg base "are_faults_right" "are_faults_right" (defArgs (top 22)) (defBody (top 22)) (defScope (top 22)) [] [] (He.fAd K ("are_faults_right", none)) 4 ["places"] F_are_faults_right
theorem ok_are_faults_right {P : Program} {w : World} {K : PySem.W.Frag} {mg : Str → Option Value} {base : Heap} (x : Fx K mg) : O_are_faults_right P w K mg base := by
  obtain ⟨fd, F⟩ := x.c.def_ 11 (d := d_are_faults_right) rfl
  obtain ⟨fd_is_gone, F_is_gone, M_is_gone⟩ := ok_is_gone (P := P) (w := w) (base := base) x
  refine ⟨fd, F, fnM_of F sc_are_faults_right (by decide) fun cdv A outer s H hgd hr => ?_⟩
  have hu := hr.units
  have hu5 := u65 hr
  exact (sss_cons (ss_for PassesOwn.never rfl (si_val (se_lc (own := [("place", 3)]) rfl sc_are_faults_right.nd (si_val (sv 0)) (blk_ok (by rfl)) (by decide) (fun _ _ _ _ _ => (sg_name (i := 3) sc_are_faults_right.nd rfl (by first | exact Or.inl rfl | exact Or.inr rfl))) (fun _ _ _ _ _ => (sts_one (sb_cmp op_notN lift_notN (sv 3) se_non))) (fun _ _ _ _ _ => (sv 3)))) (sg_tup rfl (sgs_cons (sg_name (i := 1) sc_are_faults_right.nd rfl (by first | exact Or.inl rfl | exact Or.inr rfl)) (sgs_cons (sg_name (i := 2) sc_are_faults_right.nd rfl (by first | exact Or.inl rfl | exact Or.inr rfl)) sgs_nil))) (sss_one (ss_if (sb_not (sb_val (se_b1 (cr_all rfl) lift_all rfl (x.free 42) boot_all (se_lc (own := [("hearer", 4), ("word", 5), ("then", 6)]) rfl sc_are_faults_right.nd (si_val (sv 2)) (blk_ok (by rfl)) (by decide) (fun _ _ _ _ _ => (sg_tup rfl (sgs_cons (sg_name (i := 4) sc_are_faults_right.nd rfl (by first | exact Or.inl rfl | exact Or.inr rfl)) (sgs_cons (sg_name (i := 5) sc_are_faults_right.nd rfl (by first | exact Or.inl rfl | exact Or.inr rfl)) (sgs_cons (sg_name (i := 6) sc_are_faults_right.nd rfl (by first | exact Or.inl rfl | exact Or.inr rfl)) sgs_nil))))) (fun _ _ _ _ _ => (sts_one (sb_cmp (op_eqM hu) lift_eq (sv 5) (se_gstr [33] rfl (x.str 57))))) (fun _ _ _ _ _ => (se_call (ds := []) (dvs := []) M_is_gone hgd (hr.mono (by decide)) rfl (x.glo 10) F_is_gone.kp (F_is_gone.bindsN fun _ _ _ _ _ _ us hl => match us, hl with | [_, _, _], _ => rfl) .nil (fun _ _ _ => .nil) (st_cons (sv 0) (st_cons (sv 1) (st_cons (sv 6) st_nil))))))))) (sss_one (ss_ret se_bl)) sss_nil)))
    (sss_one (ss_ret se_bl)))
def m_is_board : MS := (seqS (ifS (orB (notB (asB (op1 (gIsi .tup) (mVar 0)))) (asB (op2 (gEq true) (op1 gLen (mVar 0)) (retM (.int 3))))) (retS (retM (.bl false))) skipS)
  (seqS (asgS (.tu [(.nm 1), (.nm 2), (.nm 3)]) (mVar 0))
  (seqS (ifS (orB (notB (asB (fcallM F_are_hands [] (consM (mVar 1) nilM)))) (notB (asB (fcallM F_are_weak [] (consM (mVar 1) (consM (mVar 2) nilM)))))) (retS (retM (.bl false))) skipS)
  (seqS (ifS (orB (notB (asB (op1 (gIsi .tup) (mVar 3)))) (notB (asB (chain gLe gLe (retM (.int 1)) (op1 gLen (mVar 3)) (retM (.int 40)))))) (retS (retM (.bl false))) skipS)
  (seqS (ifS (notB (asB (op1 gAll (lcM (op1 srcV (mVar 3)) (.nm 4) [4] (retM true) (orV (op2 (gIs false) (mVar 4) (retM .non)) (fcallM F_is_saying [] (consM (mVar 1) (consM (mVar 2) (consM (op1 gLen (mVar 3)) (consM (mVar 4) nilM)))))))))) (retS (retM (.bl false))) skipS)
  (retS (andV (op2 (gEq false) (op1 gLen (fcallM F_reached_from [] (consM (mVar 3) (consM (retM (.int 0)) (consM (retM .non) (consM (retM (.bl true)) nilM)))))) (op1 gLen (mVar 3))) (fcallM F_are_faults_right [] (consM (mVar 3) nilM)))))))))
def F_is_board : List D → MH → R D := fnD 1 5 m_is_board
theorem sc_is_board : FnScope ["thing", "hands", "weak", "places", "place"] ["thing"] (defScope (top 23)) := ⟨rfl, rfl, rfl, by decide +kernel, rfl, by decide +kernel, by decide +kernel⟩
abbrev O_is_board (P : Program) (w : World) (K : PySem.W.Frag) (mg : Str → Option Value) (base : Heap) : Prop := DfOk P w K mg base "is_board" "is_board" (defArgs (top 23)) (defBody (top 23)) (defScope (top 23)) [] [] (He.fAd K ("is_board", none)) 5 ["thing"] F_is_board
theorem ok_is_board {P : Program} {w : World} {K : PySem.W.Frag} {mg : Str → Option Value} {base : Heap} (x : Fx K mg) : O_is_board P w K mg base := by
  obtain ⟨fd, F⟩ := x.c.def_ 12 (d := d_is_board) rfl
  obtain ⟨fd_are_hands, F_are_hands, M_are_hands⟩ := ok_are_hands (P := P) (w := w) (base := base) x
  obtain ⟨fd_are_weak, F_are_weak, M_are_weak⟩ := ok_are_weak (P := P) (w := w) (base := base) x
  obtain ⟨fd_is_saying, F_is_saying, M_is_saying⟩ := ok_is_saying (P := P) (w := w) (base := base) x
  obtain ⟨fd_reached_from, F_reached_from, M_reached_from⟩ := ok_reached_from (P := P) (w := w) (base := base) x
  obtain ⟨fd_are_faults_right, F_are_faults_right, M_are_faults_right⟩ := ok_are_faults_right (P := P) (w := w) (base := base) x
  refine ⟨fd, F, fnM_of F sc_is_board (by decide) fun cdv A outer s H hgd hr => ?_⟩
  have hu := hr.units
  have hu5 := u65 hr
  exact (sss_cons (ss_if (SW.sb (sw_or (sb_not (sb_val (se_isi .tup (by decide) rfl (x.free 46) rfl (x.free 55) boot_tuple (sv 0)))) (sw_or1 (sb_cmp (op_neM hu) lift_eq (se_b1 call_lenA lift_len rfl (x.free 47) boot_len (sv 0)) se_int)))) (sss_one (ss_ret se_bl)) sss_nil)
    (sss_cons (ss_asg (sv 0) (sg_tup rfl (sgs_cons (sg_name (i := 1) sc_is_board.nd rfl (by first | exact Or.inl rfl | exact Or.inr rfl)) (sgs_cons (sg_name (i := 2) sc_is_board.nd rfl (by first | exact Or.inl rfl | exact Or.inr rfl)) (sgs_cons (sg_name (i := 3) sc_is_board.nd rfl (by first | exact Or.inl rfl | exact Or.inr rfl)) sgs_nil)))))
    (sss_cons (ss_if (SW.sb (sw_or (sb_not (sb_val (se_call (ds := []) (dvs := []) M_are_hands hgd (hr.mono (by decide)) rfl (x.glo 3) F_are_hands.kp (F_are_hands.bindsN fun _ _ _ _ _ _ us hl => match us, hl with | [_], _ => rfl) .nil (fun _ _ _ => .nil) (st_cons (sv 1) st_nil)))) (sw_or1 (sb_not (sb_val (se_call (ds := []) (dvs := []) M_are_weak hgd (hr.mono (by decide)) rfl (x.glo 4) F_are_weak.kp (F_are_weak.bindsN fun _ _ _ _ _ _ us hl => match us, hl with | [_, _], _ => rfl) .nil (fun _ _ _ => .nil) (st_cons (sv 1) (st_cons (sv 2) st_nil)))))))) (sss_one (ss_ret se_bl)) sss_nil)
    (sss_cons (ss_if (SW.sb (sw_or (sb_not (sb_val (se_isi .tup (by decide) rfl (x.free 46) rfl (x.free 55) boot_tuple (sv 3)))) (sw_or1 (sb_not (sb_chain (op_leM hu) (op_leM hu) lift_le lift_le se_int (se_b1 call_lenA lift_len rfl (x.free 47) boot_len (sv 3)) (se_gint 40 rfl (x.int 62))))))) (sss_one (ss_ret se_bl)) sss_nil)
    (sss_cons (ss_if (sb_not (sb_val (se_b1 (cr_all rfl) lift_all rfl (x.free 42) boot_all (se_lc (own := [("place", 4)]) rfl sc_is_board.nd (si_val (sv 3)) (blk_ok (by rfl)) (by decide) (fun _ _ _ _ _ => (sg_name (i := 4) sc_is_board.nd rfl (by first | exact Or.inl rfl | exact Or.inr rfl))) (fun _ _ _ _ _ => sts_nil) (fun _ _ _ _ _ => (se_or (se_cmp op_isN lift_isN (sv 4) se_non) (se_one (se_call (ds := []) (dvs := []) M_is_saying hgd (hr.mono (by decide)) rfl (x.glo 7) F_is_saying.kp (F_is_saying.bindsN fun _ _ _ _ _ _ us hl => match us, hl with | [_, _, _, _], _ => rfl) .nil (fun _ _ _ => .nil) (st_cons (sv 1) (st_cons (sv 2) (st_cons (se_b1 call_lenA lift_len rfl (x.free 47) boot_len (sv 3)) (st_cons (sv 4) st_nil)))))))))))) (sss_one (ss_ret se_bl)) sss_nil)
    (sss_one (ss_ret (se_and (se_cmp (op_eqM hu) lift_eq (se_b1 call_lenA lift_len rfl (x.free 47) boot_len (se_call (ds := []) (dvs := []) M_reached_from hgd (hr.mono (by decide)) rfl (x.glo 9) F_reached_from.kp (F_reached_from.bindsN fun _ _ _ _ _ _ us hl => match us, hl with | [_, _, _, _], _ => rfl) .nil (fun _ _ _ => .nil) (st_cons (sv 3) (st_cons se_int (st_cons se_non (st_cons se_bl st_nil)))))) (se_b1 call_lenA lift_len rfl (x.free 47) boot_len (sv 3))) (se_one (se_call (ds := []) (dvs := []) M_are_faults_right hgd (hr.mono (by decide)) rfl (x.glo 11) F_are_faults_right.kp (F_are_faults_right.bindsN fun _ _ _ _ _ _ us hl => match us, hl with | [_], _ => rfl) .nil (fun _ _ _ => .nil) (st_cons (sv 3) st_nil)))))))))))
def m_need_board : MS := (ifS (notB (asB (fcallM F_is_board [] (consM (mVar 0) nilM)))) nevS skipS)
def F_need_board : List D → MH → R D := fnD 1 1 m_need_board
theorem sc_need_board : FnScope ["board"] ["board"] (defScope (top 24)) := ⟨rfl, rfl, rfl, by decide +kernel, rfl, by decide +kernel, by decide +kernel⟩
abbrev O_need_board (P : Program) (w : World) (K : PySem.W.Frag) (mg : Str → Option Value) (base : Heap) : Prop := DfOk P w K mg base "need_board" "need_board" (defArgs (top 24)) (defBody (top 24)) (defScope (top 24)) [] [] (He.fAd K ("need_board", none)) 6 ["board"] F_need_board
theorem ok_need_board {P : Program} {w : World} {K : PySem.W.Frag} {mg : Str → Option Value} {base : Heap} (x : Fx K mg) : O_need_board P w K mg base := by
  obtain ⟨fd, F⟩ := x.c.def_ 13 (d := d_need_board) rfl
  obtain ⟨fd_is_board, F_is_board, M_is_board⟩ := ok_is_board (P := P) (w := w) (base := base) x
  refine ⟨fd, F, fnM_of F sc_need_board (by decide) fun cdv A outer s H hgd hr => ?_⟩
  have hu := hr.units
  have hu5 := u65 hr
  exact (sss_one (ss_if (sb_not (sb_val (se_call (ds := []) (dvs := []) M_is_board hgd (hr.mono (by decide)) rfl (x.glo 12) F_is_board.kp (F_is_board.bindsN fun _ _ _ _ _ _ us hl => match us, hl with | [_], _ => rfl) .nil (fun _ _ _ => .nil) (st_cons (sv 0) st_nil)))) (sss_one ss_never) sss_nil))
def m_is_step : MS := (retS (andV (op1 (gIsi .tup) (mVar 0)) (andV (op2 (gEq false) (op1 gLen (mVar 0)) (retM (.int 3))) (op1 gAll (lcM (op1 srcV (mVar 0)) (.nm 1) [1] (retM true) (op1 (gIsi .str) (mVar 1)))))))
def F_is_step : List D → MH → R D := fnD 1 2 m_is_step
theorem sc_is_step : FnScope ["thing", "part"] ["thing"] (defScope (top 26)) := ⟨rfl, rfl, rfl, by decide +kernel, rfl, by decide +kernel, by decide +kernel⟩
abbrev O_is_step (P : Program) (w : World) (K : PySem.W.Frag) (mg : Str → Option Value) (base : Heap) : Prop := DfOk P w K mg base "is_step" "is_step" (defArgs (top 26)) (defBody (top 26)) (defScope (top 26)) [] [] (He.fAd K ("is_step", none)) 1 ["thing"] F_is_step
theorem ok_is_step {P : Program} {w : World} {K : PySem.W.Frag} {mg : Str → Option Value} {base : Heap} (x : Fx K mg) : O_is_step P w K mg base := by
  obtain ⟨fd, F⟩ := x.c.def_ 14 (d := d_is_step) rfl
  refine ⟨fd, F, fnM_of F sc_is_step (by decide) fun cdv A outer s H hgd hr => ?_⟩
  have hu := hr.units
  have hu5 := u65 hr
  exact (sss_one (ss_ret (se_and (se_isi .tup (by decide) rfl (x.free 46) rfl (x.free 55) boot_tuple (sv 0)) (se_and (se_cmp (op_eqM hu) lift_eq (se_b1 call_lenA lift_len rfl (x.free 47) boot_len (sv 0)) se_int) (se_one (se_b1 (cr_all rfl) lift_all rfl (x.free 42) boot_all (se_lc (own := [("part", 1)]) rfl sc_is_step.nd (si_val (sv 0)) (blk_ok (by rfl)) (by decide) (fun _ _ _ _ _ => (sg_name (i := 1) sc_is_step.nd rfl (by first | exact Or.inl rfl | exact Or.inr rfl))) (fun _ _ _ _ _ => sts_nil) (fun _ _ _ _ _ => (se_isi .str (by decide) rfl (x.free 46) rfl (x.free 54) boot_str (sv 1))))))))))
def m_then_by : MS := (seqS (ifS (orB (asB (op2 (gIs false) (op2 gIx (mVar 0) (mVar 1)) (retM .non))) (notB (asB (fcallM F_is_step [] (consM (mVar 2) nilM))))) (retS (retM .non)) skipS)
  (seqS (asgS (.tu [(.nm 3), (.nm 4)]) (op2 gIx (mVar 0) (mVar 1)))
  (seqS (forS (op1 srcV (mVar 4)) (.tu [(.nm 5), (.nm 6), (.nm 7)]) (ifS (asB (op2 (gEq false) (mVar 2) (tupM (consM (mVar 3) (consM (mVar 5) (consM (mVar 6) nilM)))))) (retS (mVar 7)) skipS))
  (retS (retM .non)))))
def F_then_by : List D → MH → R D := fnD 3 8 m_then_by
theorem sc_then_by : FnScope ["places", "here", "step", "sayer", "branches", "hearer", "word", "then"] ["places", "here", "step"] (defScope (top 27)) := ⟨rfl, rfl, rfl, by decide +kernel, rfl, by decide +kernel, by decide +kernel⟩
abbrev O_then_by (P : Program) (w : World) (K : PySem.W.Frag) (mg : Str → Option Value) (base : Heap) : Prop := DfOk P w K mg base "then_by" "then_by" (defArgs (top 27)) (defBody (top 27)) (defScope (top 27)) [] [] (He.fAd K ("then_by", none)) 2 ["places", "here", "step"] F_then_by
theorem ok_then_by {P : Program} {w : World} {K : PySem.W.Frag} {mg : Str → Option Value} {base : Heap} (x : Fx K mg) : O_then_by P w K mg base := by
  obtain ⟨fd, F⟩ := x.c.def_ 15 (d := d_then_by) rfl
  obtain ⟨fd_is_step, F_is_step, M_is_step⟩ := ok_is_step (P := P) (w := w) (base := base) x
  refine ⟨fd, F, fnM_of F sc_then_by (by decide) fun cdv A outer s H hgd hr => ?_⟩
  have hu := hr.units
  have hu5 := u65 hr
  exact (sss_cons (ss_if (SW.sb (sw_or (sb_cmp op_isN lift_isN (se_ix (sv 0) (sv 1)) se_non) (sw_or1 (sb_not (sb_val (se_call (ds := []) (dvs := []) M_is_step hgd (hr.mono (by decide)) rfl (x.glo 14) F_is_step.kp (F_is_step.bindsN fun _ _ _ _ _ _ us hl => match us, hl with | [_], _ => rfl) .nil (fun _ _ _ => .nil) (st_cons (sv 2) st_nil))))))) (sss_one (ss_ret se_non)) sss_nil)
    (sss_cons (ss_asg (se_ix (sv 0) (sv 1)) (sg_tup rfl (sgs_cons (sg_name (i := 3) sc_then_by.nd rfl (by first | exact Or.inl rfl | exact Or.inr rfl)) (sgs_cons (sg_name (i := 4) sc_then_by.nd rfl (by first | exact Or.inl rfl | exact Or.inr rfl)) sgs_nil))))
    (sss_cons (ss_for PassesOwn.never rfl (si_val (sv 4)) (sg_tup rfl (sgs_cons (sg_name (i := 5) sc_then_by.nd rfl (by first | exact Or.inl rfl | exact Or.inr rfl)) (sgs_cons (sg_name (i := 6) sc_then_by.nd rfl (by first | exact Or.inl rfl | exact Or.inr rfl)) (sgs_cons (sg_name (i := 7) sc_then_by.nd rfl (by first | exact Or.inl rfl | exact Or.inr rfl)) sgs_nil)))) (sss_one (ss_if (sb_cmp (op_eqM hu) lift_eq (sv 2) (se_tup (st_cons (sv 3) (st_cons (sv 5) (st_cons (sv 6) st_nil))))) (sss_one (ss_ret (sv 7))) sss_nil)))
    (sss_one (ss_ret se_non)))))
def m_place_by : MS := (seqS (setS 2 (retM (.int 0)))
  (seqS (forS (op1 srcV (mVar 1)) (.nm 3) (seqS (setS 2 (fcallM F_then_by [] (consM (op2 gIx (mVar 0) (retM (.int 2))) (consM (mVar 2) (consM (mVar 3) nilM)))))
  (ifS (asB (op2 (gIs false) (mVar 2) (retM .non))) (retS (retM .non)) skipS)))
  (retS (mVar 2))))
def F_place_by : List D → MH → R D := fnD 2 4 m_place_by
theorem sc_place_by : FnScope ["board", "row", "here", "step"] ["board", "row"] (defScope (top 28)) := ⟨rfl, rfl, rfl, by decide +kernel, rfl, by decide +kernel, by decide +kernel⟩
abbrev O_place_by (P : Program) (w : World) (K : PySem.W.Frag) (mg : Str → Option Value) (base : Heap) : Prop := DfOk P w K mg base "place_by" "place_by" (defArgs (top 28)) (defBody (top 28)) (defScope (top 28)) [] [] (He.fAd K ("place_by", none)) 3 ["board", "row"] F_place_by
theorem ok_place_by {P : Program} {w : World} {K : PySem.W.Frag} {mg : Str → Option Value} {base : Heap} (x : Fx K mg) : O_place_by P w K mg base := by
  obtain ⟨fd, F⟩ := x.c.def_ 16 (d := d_place_by) rfl
  obtain ⟨fd_then_by, F_then_by, M_then_by⟩ := ok_then_by (P := P) (w := w) (base := base) x
  refine ⟨fd, F, fnM_of F sc_place_by (by decide) fun cdv A outer s H hgd hr => ?_⟩
  have hu := hr.units
  have hu5 := u65 hr
  exact (sss_cons (ss_set (i := 2) sc_place_by.nd rfl (by first | exact Or.inl rfl | exact Or.inr rfl) se_int)
    (sss_cons (ss_for PassesOwn.never rfl (si_val (sv 1)) (sg_name (i := 3) sc_place_by.nd rfl (by first | exact Or.inl rfl | exact Or.inr rfl)) (sss_cons (ss_set (i := 2) sc_place_by.nd rfl (by first | exact Or.inl rfl | exact Or.inr rfl) (se_call (ds := []) (dvs := []) M_then_by hgd (hr.mono (by decide)) rfl (x.glo 15) F_then_by.kp (F_then_by.bindsN fun _ _ _ _ _ _ us hl => match us, hl with | [_, _, _], _ => rfl) .nil (fun _ _ _ => .nil) (st_cons (se_ix (sv 0) se_int) (st_cons (sv 2) (st_cons (sv 3) st_nil)))))
    (sss_one (ss_if (sb_cmp op_isN lift_isN (sv 2) se_non) (sss_one (ss_ret se_non)) sss_nil))))
    (sss_one (ss_ret (sv 2)))))
def m_is_row_of : MS := (retS (andV (op1 (gIsi .tup) (mVar 1)) (op2 (gIs true) (fcallM F_place_by [] (consM (mVar 0) (consM (mVar 1) nilM))) (retM .non))))
def F_is_row_of : List D → MH → R D := fnD 2 2 m_is_row_of
theorem sc_is_row_of : FnScope ["board", "thing"] ["board", "thing"] (defScope (top 29)) := ⟨rfl, rfl, rfl, by decide +kernel, rfl, by decide +kernel, by decide +kernel⟩
abbrev O_is_row_of (P : Program) (w : World) (K : PySem.W.Frag) (mg : Str → Option Value) (base : Heap) : Prop := DfOk P w K mg base "is_row_of" "is_row_of" (defArgs (top 29)) (defBody (top 29)) (defScope (top 29)) [] [] (He.fAd K ("is_row_of", none)) 4 ["board", "thing"] F_is_row_of
theorem ok_is_row_of {P : Program} {w : World} {K : PySem.W.Frag} {mg : Str → Option Value} {base : Heap} (x : Fx K mg) : O_is_row_of P w K mg base := by
  obtain ⟨fd, F⟩ := x.c.def_ 17 (d := d_is_row_of) rfl
  obtain ⟨fd_place_by, F_place_by, M_place_by⟩ := ok_place_by (P := P) (w := w) (base := base) x
  refine ⟨fd, F, fnM_of F sc_is_row_of (by decide) fun cdv A outer s H hgd hr => ?_⟩
  have hu := hr.units
  have hu5 := u65 hr
  exact (sss_one (ss_ret (se_and (se_isi .tup (by decide) rfl (x.free 46) rfl (x.free 55) boot_tuple (sv 1)) (se_one (se_cmp op_notN lift_notN (se_call (ds := []) (dvs := []) M_place_by hgd (hr.mono (by decide)) rfl (x.glo 16) F_place_by.kp (F_place_by.bindsN fun _ _ _ _ _ _ us hl => match us, hl with | [_, _], _ => rfl) .nil (fun _ _ _ => .nil) (st_cons (sv 0) (st_cons (sv 1) st_nil))) se_non)))))
def m_is_row : MS := (seqS (exprS (fcallM F_need_board [] (consM (mVar 0) nilM)))
  (retS (fcallM F_is_row_of [] (consM (mVar 0) (consM (mVar 1) nilM)))))
def F_is_row : List D → MH → R D := fnD 2 2 m_is_row
theorem sc_is_row : FnScope ["board", "thing"] ["board", "thing"] (defScope (top 30)) := ⟨rfl, rfl, rfl, by decide +kernel, rfl, by decide +kernel, by decide +kernel⟩
abbrev O_is_row (P : Program) (w : World) (K : PySem.W.Frag) (mg : Str → Option Value) (base : Heap) : Prop := DfOk P w K mg base "is_row" "is_row" (defArgs (top 30)) (defBody (top 30)) (defScope (top 30)) [] [] (He.fAd K ("is_row", none)) 7 ["board", "thing"] F_is_row
theorem ok_is_row {P : Program} {w : World} {K : PySem.W.Frag} {mg : Str → Option Value} {base : Heap} (x : Fx K mg) : O_is_row P w K mg base := by
  obtain ⟨fd, F⟩ := x.c.def_ 18 (d := d_is_row) rfl
  obtain ⟨fd_need_board, F_need_board, M_need_board⟩ := ok_need_board (P := P) (w := w) (base := base) x
  obtain ⟨fd_is_row_of, F_is_row_of, M_is_row_of⟩ := ok_is_row_of (P := P) (w := w) (base := base) x
  refine ⟨fd, F, fnM_of F sc_is_row (by decide) fun cdv A outer s H hgd hr => ?_⟩
  have hu := hr.units
  have hu5 := u65 hr
  exact (sss_cons (ss_expr (se_call (ds := []) (dvs := []) M_need_board hgd (hr.mono (by decide)) rfl (x.glo 13) F_need_board.kp (F_need_board.bindsN fun _ _ _ _ _ _ us hl => match us, hl with | [_], _ => rfl) .nil (fun _ _ _ => .nil) (st_cons (sv 0) st_nil)))
    (sss_one (ss_ret (se_call (ds := []) (dvs := []) M_is_row_of hgd (hr.mono (by decide)) rfl (x.glo 17) F_is_row_of.kp (F_is_row_of.bindsN fun _ _ _ _ _ _ us hl => match us, hl with | [_, _], _ => rfl) .nil (fun _ _ _ => .nil) (st_cons (sv 0) (st_cons (sv 1) st_nil))))))
def m_need_row : MS := (seqS (exprS (fcallM (quiet F_need_board) [] (consM (mVar 0) nilM)))
  (ifS (notB (asB (fcallM (quiet F_is_row_of) [] (consM (mVar 0) (consM (mVar 1) nilM))))) (raiseS "NoRow") skipS))
def F_need_row : List D → MH → R D := fnD 2 2 m_need_row
theorem sc_need_row : FnScope ["board", "row"] ["board", "row"] (defScope (top 31)) := ⟨rfl, rfl, rfl, by decide +kernel, rfl, by decide +kernel, by decide +kernel⟩
abbrev O_need_row (P : Program) (w : World) (K : PySem.W.Frag) (mg : Str → Option Value) (base : Heap) : Prop := DfOkX P w K mg base "need_row" "need_row" (defArgs (top 31)) (defBody (top 31)) (defScope (top 31)) [] [] (He.fAd K ("need_row", none)) 7 ["board", "row"] F_need_row
theorem ok_need_row {P : Program} {w : World} {K : PySem.W.Frag} {mg : Str → Option Value} {base : Heap} (x : Fx K mg) : O_need_row P w K mg base := by
  obtain ⟨fd, F⟩ := x.c.def_ 19 (d := d_need_row) rfl
  obtain ⟨fd_need_board, F_need_board, M_need_board⟩ := ok_need_board (P := P) (w := w) (base := base) x
  obtain ⟨fd_is_row_of, F_is_row_of, M_is_row_of⟩ := ok_is_row_of (P := P) (w := w) (base := base) x
  refine ⟨fd, F, fnX_of F sc_need_row (by decide) fun cdv A outer s H E hgd hr => ?_⟩
  have hu := hr.units
  have hu5 := u65 hr
  exact (sss_cons (ss_expr (se_callX (ds := []) (dvs := []) (takes_of rfl rfl rfl rfl) (FnM.toX M_need_board) hgd (hr.mono (by decide)) rfl (x.glo 13) F_need_board.kp (F_need_board.bindsN fun _ _ _ _ _ _ us hl => match us, hl with | [_], _ => rfl) .nil (fun _ _ _ => .nil) (st_cons (sv 0) st_nil)))
    (sss_one (ss_if (sb_not (sb_val (se_callX (ds := []) (dvs := []) (takes_of rfl rfl rfl rfl) (FnM.toX M_is_row_of) hgd (hr.mono (by decide)) rfl (x.glo 17) F_is_row_of.kp (F_is_row_of.bindsN fun _ _ _ _ _ _ us hl => match us, hl with | [_, _], _ => rfl) .nil (fun _ _ _ => .nil) (st_cons (sv 0) (st_cons (sv 1) st_nil))))) (sss_one (ss_raise rfl (takes_of rfl rfl rfl rfl) (x.clsg 63) (x.exc 64) rfl)) sss_nil)))
def m_place_behind : MS := (seqS (exprS (fcallM F_need_row [] (consM (mVar 0) (consM (mVar 1) nilM))))
  (retS (fcallM (quiet F_place_by) [] (consM (mVar 0) (consM (mVar 1) nilM)))))
def F_place_behind : List D → MH → R D := fnD 2 2 m_place_behind
theorem sc_place_behind : FnScope ["board", "row"] ["board", "row"] (defScope (top 32)) := ⟨rfl, rfl, rfl, by decide +kernel, rfl, by decide +kernel, by decide +kernel⟩
abbrev O_place_behind (P : Program) (w : World) (K : PySem.W.Frag) (mg : Str → Option Value) (base : Heap) : Prop := DfOkX P w K mg base "place_behind" "place_behind" (defArgs (top 32)) (defBody (top 32)) (defScope (top 32)) [] [] (He.fAd K ("place_behind", none)) 8 ["board", "row"] F_place_behind
theorem ok_place_behind {P : Program} {w : World} {K : PySem.W.Frag} {mg : Str → Option Value} {base : Heap} (x : Fx K mg) : O_place_behind P w K mg base := by
  obtain ⟨fd, F⟩ := x.c.def_ 20 (d := d_place_behind) rfl
  obtain ⟨fd_place_by, F_place_by, M_place_by⟩ := ok_place_by (P := P) (w := w) (base := base) x
  obtain ⟨fd_need_row, F_need_row, M_need_row⟩ := ok_need_row (P := P) (w := w) (base := base) x
  refine ⟨fd, F, fnX_of F sc_place_behind (by decide) fun cdv A outer s H E hgd hr => ?_⟩
  have hu := hr.units
  have hu5 := u65 hr
  exact (sss_cons (ss_expr (se_callX (ds := []) (dvs := []) (takes_of rfl rfl rfl rfl) M_need_row hgd (hr.mono (by decide)) rfl (x.glo 19) F_need_row.kp (F_need_row.bindsN fun _ _ _ _ _ _ us hl => match us, hl with | [_, _], _ => rfl) .nil (fun _ _ _ => .nil) (st_cons (sv 0) (st_cons (sv 1) st_nil))))
    (sss_one (ss_ret (se_callX (ds := []) (dvs := []) (takes_of rfl rfl rfl rfl) (FnM.toX M_place_by) hgd (hr.mono (by decide)) rfl (x.glo 16) F_place_by.kp (F_place_by.bindsN fun _ _ _ _ _ _ us hl => match us, hl with | [_, _], _ => rfl) .nil (fun _ _ _ => .nil) (st_cons (sv 0) (st_cons (sv 1) st_nil))))))
def m_is_faultless : MS := (seqS (exprS (fcallM F_need_row [] (consM (mVar 0) (consM (mVar 1) nilM))))
  (retS (op2 (gIn true) (retM (.str [33])) (lcM (op1 srcV (mVar 1)) (.tu [(.nm 2), (.nm 3), (.nm 4)]) [2, 3, 4] (retM true) (mVar 4)))))
def F_is_faultless : List D → MH → R D := fnD 2 5 m_is_faultless
theorem sc_is_faultless : FnScope ["board", "row", "sayer", "hearer", "word"] ["board", "row"] (defScope (top 33)) := ⟨rfl, rfl, rfl, by decide +kernel, rfl, by decide +kernel, by decide +kernel⟩
abbrev O_is_faultless (P : Program) (w : World) (K : PySem.W.Frag) (mg : Str → Option Value) (base : Heap) : Prop := DfOkX P w K mg base "is_faultless" "is_faultless" (defArgs (top 33)) (defBody (top 33)) (defScope (top 33)) [] [] (He.fAd K ("is_faultless", none)) 8 ["board", "row"] F_is_faultless
theorem ok_is_faultless {P : Program} {w : World} {K : PySem.W.Frag} {mg : Str → Option Value} {base : Heap} (x : Fx K mg) : O_is_faultless P w K mg base := by
  obtain ⟨fd, F⟩ := x.c.def_ 21 (d := d_is_faultless) rfl
  obtain ⟨fd_need_row, F_need_row, M_need_row⟩ := ok_need_row (P := P) (w := w) (base := base) x
  refine ⟨fd, F, fnX_of F sc_is_faultless (by decide) fun cdv A outer s H E hgd hr => ?_⟩
  have hu := hr.units
  have hu5 := u65 hr
  exact (sss_cons (ss_expr (se_callX (ds := []) (dvs := []) (takes_of rfl rfl rfl rfl) M_need_row hgd (hr.mono (by decide)) rfl (x.glo 19) F_need_row.kp (F_need_row.bindsN fun _ _ _ _ _ _ us hl => match us, hl with | [_, _], _ => rfl) .nil (fun _ _ _ => .nil) (st_cons (sv 0) (st_cons (sv 1) st_nil))))
    (sss_one (ss_ret (se_cmp (op_notInM hu5) lift_in (se_gstr [33] rfl (x.str 57)) (se_lc (own := [("sayer", 2), ("hearer", 3), ("word", 4)]) rfl sc_is_faultless.nd (si_val (sv 1)) (blk_ok (by rfl)) (by decide) (fun _ _ _ _ _ => (sg_tup rfl (sgs_cons (sg_name (i := 2) sc_is_faultless.nd rfl (by first | exact Or.inl rfl | exact Or.inr rfl)) (sgs_cons (sg_name (i := 3) sc_is_faultless.nd rfl (by first | exact Or.inl rfl | exact Or.inr rfl)) (sgs_cons (sg_name (i := 4) sc_is_faultless.nd rfl (by first | exact Or.inl rfl | exact Or.inr rfl)) sgs_nil))))) (fun _ _ _ _ _ => sts_nil) (fun _ _ _ _ _ => (sv 4)))))))
def m__law_pot : MS := (retS (ownM (lstM (consM (op2 gMax (retM (.int 0)) (op2 gSub (op1 gAbs (mVar 0)) (op2 gPow (retM (.int 10)) (retM (.int 18))))) (consM (op2 gAdd (op2 gAdd (op2 gMod (op1 gAbs (mVar 0)) (retM (.int 2305843009213693907))) (op2 gMulB (retM (.int 6007)) (mVar 1))) (op1 gInt (op2 gLt (mVar 0) (retM (.int 0))))) (consM (retM (.int 0)) nilM))))))
def F__law_pot : List D → MH → R D := fnD 2 2 m__law_pot
theorem sc__law_pot : FnScope ["cell", "at"] ["cell", "at"] (defScope (top 35)) := ⟨rfl, rfl, rfl, by decide +kernel, rfl, by decide +kernel, by decide +kernel⟩
abbrev O__law_pot (P : Program) (w : World) (K : PySem.W.Frag) (mg : Str → Option Value) (base : Heap) : Prop := DfOk P w K mg base "_law_pot" "_law_pot" (defArgs (top 35)) (defBody (top 35)) (defScope (top 35)) [] [] (He.fAd K ("_law_pot", none)) 1 ["cell", "at"] F__law_pot
theorem ok__law_pot {P : Program} {w : World} {K : PySem.W.Frag} {mg : Str → Option Value} {base : Heap} (x : Fx K mg) : O__law_pot P w K mg base := by
  obtain ⟨fd, F⟩ := x.c.def_ 22 (d := d__law_pot) rfl
  refine ⟨fd, F, fnM_of F sc__law_pot (by decide) fun cdv A outer s H hgd hr => ?_⟩
  have hu := hr.units
  have hu5 := u65 hr
  exact (sss_one (ss_ret (se_own (se_lst (st_cons (se_b2 (call_max2 rfl) lift_max rfl (x.free 49) boot_max se_int (se_op op_subA lift_sub (se_b1 call_abs lift_abs rfl (x.free 41) boot_abs (sv 0)) (se_op op_pow lift_pow se_int se_int))) (st_cons (se_op op_addA lift_add (se_op op_addA lift_add (se_op op_modN lift_mod (se_b1 call_abs lift_abs rfl (x.free 41) boot_abs (sv 0)) se_int) (se_op op_mulB lift_mulB se_int (sv 1))) (se_t1 call_int1 lift_int rfl (x.free 45) boot_int (se_cmp (op_ltM hu) lift_lt (sv 0) se_int))) (st_cons se_int st_nil)))))))
def m__law_take : MS := (seqS (ifS (asB (op2 gGe (op2 gIx (mVar 0) (retM (.int 0))) (mVar 1))) (seqS (setS 2 (op2 gMod (op2 gIx (mVar 0) (retM (.int 0))) (mVar 1)))
  (seqS (setIxS (mVar 0) (retM (.int 0)) (op2 gDiv (op2 gIx (mVar 0) (retM (.int 0))) (mVar 1)))
  (retS (mVar 2)))) skipS)
  (seqS (setIxS (mVar 0) (retM (.int 2)) (op2 gAdd (op2 gIx (mVar 0) (retM (.int 2))) (retM (.int 1))))
  (seqS (setS 3 (ownM (lstM (consM (retM (.int 2147483647)) (consM (retM (.int 2147483629)) (consM (retM (.int 2147483587)) (consM (retM (.int 2147483579)) (consM (retM (.int 2147483563)) (consM (retM (.int 2147483549)) (consM (retM (.int 2147483543)) nilM))))))))))
  (seqS (setS 4 (op2 gIx (mVar 3) (op2 gMod (op2 gIx (mVar 0) (retM (.int 2))) (retM (.int 7)))))
  (seqS (setS 5 (op2 gMod (op2 gPow (op2 gAdd (op2 gAdd (op2 gMod (op2 gIx (mVar 0) (retM (.int 1))) (mVar 4)) (op2 gMulB (retM (.int 86477)) (op2 gIx (mVar 0) (retM (.int 2))))) (retM (.int 13))) (retM (.int 3))) (mVar 4)))
  (seqS (setS 6 (op2 gAdd (op2 gAdd (op2 gAdd (op2 gMulB (mVar 5) (mVar 5)) (op2 gMulB (op2 gMulB (retM (.int 37)) (op2 gIx (mVar 0) (retM (.int 2)))) (mVar 5))) (op2 gMod (op2 gIx (mVar 0) (retM (.int 1))) (retM (.int 1000003)))) (retM (.int 5))))
  (seqS (setS 6 (op2 gMod (mVar 6) (op2 gIx (mVar 3) (op2 gMod (op2 gAdd (op2 gIx (mVar 0) (retM (.int 2))) (retM (.int 2))) (retM (.int 7))))))
  (retS (op2 gMod (op2 gDiv (op2 gMod (op2 gPow (mVar 6) (retM (.int 3))) (op2 gIx (mVar 3) (op2 gMod (op2 gAdd (op2 gIx (mVar 0) (retM (.int 2))) (retM (.int 4))) (retM (.int 7))))) (retM (.int 64))) (mVar 1))))))))))
def F__law_take : List D → MH → R D := fnD 2 7 m__law_take
theorem sc__law_take : FnScope ["pot", "many", "digit", "primes", "prime", "near", "stir"] ["pot", "many"] (defScope (top 36)) := ⟨rfl, rfl, rfl, by decide +kernel, rfl, by decide +kernel, by decide +kernel⟩
abbrev O__law_take (P : Program) (w : World) (K : PySem.W.Frag) (mg : Str → Option Value) (base : Heap) : Prop := DfOk P w K mg base "_law_take" "_law_take" (defArgs (top 36)) (defBody (top 36)) (defScope (top 36)) [] [] (He.fAd K ("_law_take", none)) 1 ["pot", "many"] F__law_take
theorem ok__law_take {P : Program} {w : World} {K : PySem.W.Frag} {mg : Str → Option Value} {base : Heap} (x : Fx K mg) : O__law_take P w K mg base := by
  obtain ⟨fd, F⟩ := x.c.def_ 23 (d := d__law_take) rfl
  refine ⟨fd, F, fnM_of F sc__law_take (by decide) fun cdv A outer s H hgd hr => ?_⟩
  have hu := hr.units
  have hu5 := u65 hr
  exact (sss_cons (ss_if (sb_cmp (op_geM hu) lift_ge (se_ix (sv 0) se_int) (sv 1)) (sss_cons (ss_set (i := 2) sc__law_take.nd rfl (by first | exact Or.inl rfl | exact Or.inr rfl) (se_op op_modN lift_mod (se_ix (sv 0) se_int) (sv 1)))
    (sss_cons (ss_setIx hu (se_op op_fdivN lift_div (se_ix (sv 0) se_int) (sv 1)) (sv 0) se_int)
    (sss_one (ss_ret (sv 2))))) sss_nil)
    (sss_cons (ss_setIx hu (se_op op_addA lift_add (se_ix (sv 0) se_int) se_int) (sv 0) se_int)
    (sss_cons (ss_set (i := 3) sc__law_take.nd rfl (by first | exact Or.inl rfl | exact Or.inr rfl) (se_own (se_lst (st_cons se_int (st_cons se_int (st_cons se_int (st_cons se_int (st_cons se_int (st_cons se_int (st_cons se_int st_nil))))))))))
    (sss_cons (ss_set (i := 4) sc__law_take.nd rfl (by first | exact Or.inl rfl | exact Or.inr rfl) (se_ix (sv 3) (se_op op_modN lift_mod (se_ix (sv 0) se_int) se_int)))
    (sss_cons (ss_set (i := 5) sc__law_take.nd rfl (by first | exact Or.inl rfl | exact Or.inr rfl) (se_op op_modN lift_mod (se_op op_pow lift_pow (se_op op_addA lift_add (se_op op_addA lift_add (se_op op_modN lift_mod (se_ix (sv 0) se_int) (sv 4)) (se_op op_mulB lift_mulB se_int (se_ix (sv 0) se_int))) se_int) se_int) (sv 4)))
    (sss_cons (ss_set (i := 6) sc__law_take.nd rfl (by first | exact Or.inl rfl | exact Or.inr rfl) (se_op op_addA lift_add (se_op op_addA lift_add (se_op op_addA lift_add (se_op op_mulB lift_mulB (sv 5) (sv 5)) (se_op op_mulB lift_mulB (se_op op_mulB lift_mulB se_int (se_ix (sv 0) se_int)) (sv 5))) (se_op op_modN lift_mod (se_ix (sv 0) se_int) se_int)) se_int))
    (sss_cons (ss_set (i := 6) sc__law_take.nd rfl (by first | exact Or.inl rfl | exact Or.inr rfl) (se_op op_modN lift_mod (sv 6) (se_ix (sv 3) (se_op op_modN lift_mod (se_op op_addA lift_add (se_ix (sv 0) se_int) se_int) se_int))))
    (sss_one (ss_ret (se_op op_modN lift_mod (se_op op_fdivN lift_div (se_op op_modN lift_mod (se_op op_pow lift_pow (sv 6) se_int) (se_ix (sv 3) (se_op op_modN lift_mod (se_op op_addA lift_add (se_ix (sv 0) se_int) se_int) se_int))) se_int) (sv 1)))))))))))
def m__law_folded : MS := (seqS (setS 2 (ownM (op2 gMulB (lstM (consM (retM (.int 0)) nilM)) (op2 gMin (op1 gLen (mVar 0)) (mVar 1)))))
  (seqS (forS (srcA range1V (consM (op1 gLen (mVar 0)) nilM)) (.nm 3) (setIxS (mVar 2) (op2 gMod (mVar 3) (mVar 1)) (op2 gAdd (op2 gMulB (op2 gMod (op2 gIx (mVar 2) (op2 gMod (mVar 3) (mVar 1))) (op2 gPow (retM (.int 10)) (retM (.int 64)))) (retM (.int 1000003))) (op2 gIx (mVar 0) (mVar 3)))))
  (retS (mVar 2))))
def F__law_folded : List D → MH → R D := fnD 2 4 m__law_folded
theorem sc__law_folded : FnScope ["script", "most", "cells", "k"] ["script", "most"] (defScope (top 37)) := ⟨rfl, rfl, rfl, by decide +kernel, rfl, by decide +kernel, by decide +kernel⟩
abbrev O__law_folded (P : Program) (w : World) (K : PySem.W.Frag) (mg : Str → Option Value) (base : Heap) : Prop := DfOk P w K mg base "_law_folded" "_law_folded" (defArgs (top 37)) (defBody (top 37)) (defScope (top 37)) [] [] (He.fAd K ("_law_folded", none)) 1 ["script", "most"] F__law_folded
theorem ok__law_folded {P : Program} {w : World} {K : PySem.W.Frag} {mg : Str → Option Value} {base : Heap} (x : Fx K mg) : O__law_folded P w K mg base := by
  obtain ⟨fd, F⟩ := x.c.def_ 24 (d := d__law_folded) rfl
  refine ⟨fd, F, fnM_of F sc__law_folded (by decide) fun cdv A outer s H hgd hr => ?_⟩
  have hu := hr.units
  have hu5 := u65 hr
  exact (sss_cons (ss_set (i := 2) sc__law_folded.nd rfl (by first | exact Or.inl rfl | exact Or.inr rfl) (se_own (se_op op_mulB lift_mulB (se_lst (st_cons se_int st_nil)) (se_b2 (call_min2 rfl) lift_min rfl (x.free 50) boot_min (se_b1 call_lenA lift_len rfl (x.free 47) boot_len (sv 0)) (sv 1)))))
    (sss_cons (ss_for PassesOwn.never rfl (si_range1 (st_cons (se_b1 call_lenA lift_len rfl (x.free 47) boot_len (sv 0)) st_nil) rfl (x.free 51)) (sg_name (i := 3) sc__law_folded.nd rfl (by first | exact Or.inl rfl | exact Or.inr rfl)) (sss_one (ss_setIx hu (se_op op_addA lift_add (se_op op_mulB lift_mulB (se_op op_modN lift_mod (se_ix (sv 2) (se_op op_modN lift_mod (sv 3) (sv 1))) (se_op op_pow lift_pow se_int se_int)) se_int) (se_ix (sv 0) (sv 3))) (sv 2) (se_op op_modN lift_mod (sv 3) (sv 1)))))
    (sss_one (ss_ret (sv 2)))))
def m__law_names : MS := (seqS (setS 2 (retM (.str [97, 98, 99, 100, 101, 102, 103, 104, 105, 106, 107, 108, 109, 110, 111, 112, 113, 114, 115, 116, 117, 118, 119, 120, 121, 122])))
  (seqS (setS 3 (ownM (lstM nilM)))
  (seqS (forS (srcA range1V (consM (mVar 1) nilM)) (.nm 4) (seqS (setS 5 (mtM .str gJoin (retM (.str [])) (consM (lcM (srcA range1V (consM (op2 gAdd (retM (.int 1)) (fcallM F__law_take [] (consM (mVar 0) (consM (retM (.int 8)) nilM)))) nilM)) (.nm 7) [7] (retM true) (op2 gIx (mVar 2) (fcallM F__law_take [] (consM (mVar 0) (consM (retM (.int 26)) nilM))))) nilM)))
  (seqS (ifS (andB (asB (op2 (gEq true) (mVar 3) (lstM nilM))) (asB (op2 (gEq false) (fcallM F__law_take [] (consM (mVar 0) (consM (retM (.int 3)) nilM))) (retM (.int 0))))) (setS 5 (ownM (slM (op2 gAdd (op2 gIx (mVar 3) (op1 gNeg (retM (.int 1)))) (op2 gIx (mVar 2) (fcallM F__law_take [] (consM (mVar 0) (consM (retM (.int 26)) nilM))))) (retM .non) (partM (retM (.int 8)))))) skipS)
  (seqS (setS 6 (ownM (op2 gAdd (op2 gAdd (lstM (consM (mVar 5) nilM)) (lcM (op1 srcV (mVar 2)) (.nm 8) [8] (retM true) (ownM (op2 gAdd (slM (mVar 5) (retM .non) (partM (retM (.int 7)))) (mVar 8))))) (lcM (op1 srcV (mVar 2)) (.nm 8) [8] (retM true) (op2 gAdd (retM (.str [122])) (op2 gMulB (mVar 8) (retM (.int 7))))))))
  (exprS (mtM .lst gAppend (mVar 3) (consM (op2 gIx (lcM (op1 srcV (mVar 6)) (.nm 9) [9] (asB (op2 (gIn true) (mVar 9) (mVar 3))) (mVar 9)) (retM (.int 0))) nilM)))))))
  (retS (mVar 3)))))
def F__law_names : List D → MH → R D := fnD 2 10 m__law_names
theorem sc__law_names : FnScope ["pot", "many", "letters", "found", "k", "word", "some", "turn", "letter", "name"] ["pot", "many"] (defScope (top 38)) := ⟨rfl, rfl, rfl, by decide +kernel, rfl, by decide +kernel, by decide +kernel⟩
abbrev O__law_names (P : Program) (w : World) (K : PySem.W.Frag) (mg : Str → Option Value) (base : Heap) : Prop := DfOk P w K mg base "_law_names" "_law_names" (defArgs (top 38)) (defBody (top 38)) (defScope (top 38)) [] [] (He.fAd K ("_law_names", none)) 2 ["pot", "many"] F__law_names
theorem ok__law_names {P : Program} {w : World} {K : PySem.W.Frag} {mg : Str → Option Value} {base : Heap} (x : Fx K mg) : O__law_names P w K mg base := by
  obtain ⟨fd, F⟩ := x.c.def_ 25 (d := d__law_names) rfl
  obtain ⟨fd__law_take, F__law_take, M__law_take⟩ := ok__law_take (P := P) (w := w) (base := base) x
  refine ⟨fd, F, fnM_of F sc__law_names (by decide) fun cdv A outer s H hgd hr => ?_⟩
  have hu := hr.units
  have hu5 := u65 hr
  exact (sss_cons (ss_set (i := 2) sc__law_names.nd rfl (by first | exact Or.inl rfl | exact Or.inr rfl) (se_str [97, 98, 99, 100, 101, 102, 103, 104, 105, 106, 107, 108, 109, 110, 111, 112, 113, 114, 115, 116, 117, 118, 119, 120, 121, 122]))
    (sss_cons (ss_set (i := 3) sc__law_names.nd rfl (by first | exact Or.inl rfl | exact Or.inr rfl) (se_own (se_lst st_nil)))
    (sss_cons (ss_for PassesOwn.never rfl (si_range1 (st_cons (sv 1) st_nil) rfl (x.free 51)) (sg_name (i := 4) sc__law_names.nd rfl (by first | exact Or.inl rfl | exact Or.inr rfl)) (sss_cons (ss_set (i := 5) sc__law_names.nd rfl (by first | exact Or.inl rfl | exact Or.inr rfl) (se_mt (T := .str) PySem.F.plainAttrs_str PySem.F.slot_str_join PySem.F.type_str_join mt_join lift_join (se_str []) (st_cons (se_lc (own := [("turn", 7)]) rfl sc__law_names.nd (si_range1 (st_cons (se_op op_addA lift_add se_int (se_call (ds := []) (dvs := []) M__law_take hgd (hr.mono (by decide)) rfl (x.glo 23) F__law_take.kp (F__law_take.bindsN fun _ _ _ _ _ _ us hl => match us, hl with | [_, _], _ => rfl) .nil (fun _ _ _ => .nil) (st_cons (sv 0) (st_cons se_int st_nil)))) st_nil) rfl (x.free 51)) (blk_ok (by rfl)) (by decide) (fun _ _ _ _ _ => (sg_name (i := 7) sc__law_names.nd rfl (by first | exact Or.inl rfl | exact Or.inr rfl))) (fun _ _ _ _ _ => sts_nil) (fun _ _ _ _ _ => (se_ix (sv 2) (se_call (ds := []) (dvs := []) M__law_take hgd (hr.mono (by decide)) rfl (x.glo 23) F__law_take.kp (F__law_take.bindsN fun _ _ _ _ _ _ us hl => match us, hl with | [_, _], _ => rfl) .nil (fun _ _ _ => .nil) (st_cons (sv 0) (st_cons se_int st_nil)))))) st_nil)))
    (sss_cons (ss_if (SW.sb (sw_and (sb_cmp (op_neM hu) lift_eq (sv 3) (se_lst st_nil)) (sw_and1 (sb_cmp (op_eqM hu) lift_eq (se_call (ds := []) (dvs := []) M__law_take hgd (hr.mono (by decide)) rfl (x.glo 23) F__law_take.kp (F__law_take.bindsN fun _ _ _ _ _ _ us hl => match us, hl with | [_, _], _ => rfl) .nil (fun _ _ _ => .nil) (st_cons (sv 0) (st_cons se_int st_nil))) se_int)))) (sss_one (ss_set (i := 5) sc__law_names.nd rfl (by first | exact Or.inl rfl | exact Or.inr rfl) (se_own (se_slice (se_op op_addA lift_add (se_ix (sv 3) (se_un un_neg lift_neg se_int)) (se_ix (sv 2) (se_call (ds := []) (dvs := []) M__law_take hgd (hr.mono (by decide)) rfl (x.glo 23) F__law_take.kp (F__law_take.bindsN fun _ _ _ _ _ _ us hl => match us, hl with | [_, _], _ => rfl) .nil (fun _ _ _ => .nil) (st_cons (sv 0) (st_cons se_int st_nil))))) so_none (so_some se_int))))) sss_nil)
    (sss_cons (ss_set (i := 6) sc__law_names.nd rfl (by first | exact Or.inl rfl | exact Or.inr rfl) (se_own (se_op op_addA lift_add (se_op op_addA lift_add (se_lst (st_cons (sv 5) st_nil)) (se_lc (own := [("letter", 8)]) rfl sc__law_names.nd (si_val (sv 2)) (blk_ok (by rfl)) (by decide) (fun _ _ _ _ _ => (sg_name (i := 8) sc__law_names.nd rfl (by first | exact Or.inl rfl | exact Or.inr rfl))) (fun _ _ _ _ _ => sts_nil) (fun _ _ _ _ _ => (se_own (se_op op_addA lift_add (se_slice (sv 5) so_none (so_some se_int)) (sv 8)))))) (se_lc (own := [("letter", 8)]) rfl sc__law_names.nd (si_val (sv 2)) (blk_ok (by rfl)) (by decide) (fun _ _ _ _ _ => (sg_name (i := 8) sc__law_names.nd rfl (by first | exact Or.inl rfl | exact Or.inr rfl))) (fun _ _ _ _ _ => sts_nil) (fun _ _ _ _ _ => (se_op op_addA lift_add (se_str [122]) (se_op op_mulB lift_mulB (sv 8) se_int)))))))
    (sss_one (ss_expr (se_mt (T := .lst) PySem.F.plainAttrs_list PySem.F.slot_list_append PySem.F.type_list_append mt_append lift_append (sv 3) (st_cons (se_ix (se_lc (own := [("name", 9)]) rfl sc__law_names.nd (si_val (sv 6)) (blk_ok (by rfl)) (by decide) (fun _ _ _ _ _ => (sg_name (i := 9) sc__law_names.nd rfl (by first | exact Or.inl rfl | exact Or.inr rfl))) (fun _ _ _ _ _ => (sts_one (sb_cmp (op_notInM hu5) lift_in (sv 9) (sv 3)))) (fun _ _ _ _ _ => (sv 9))) se_int) st_nil))))))))
    (sss_one (ss_ret (sv 3))))))
def m__law_word : MS := (seqS (setS 3 (op2 gIx (mVar 1) (fcallM F__law_take [] (consM (mVar 0) (consM (op1 gLen (mVar 1)) nilM)))))
  (seqS (ifS (asB (op2 (gEq false) (fcallM F__law_take [] (consM (mVar 0) (consM (retM (.int 4)) nilM))) (retM (.int 0)))) (setS 3 (op2 gIx (fcallM F__law_names [] (consM (mVar 0) (consM (retM (.int 1)) nilM))) (retM (.int 0)))) skipS)
  (seqS (setS 4 (ownM (op2 gAdd (op2 gAdd (lstM (consM (mVar 3) nilM)) (mVar 1)) (lcM (srcA range1V (consM (retM (.int 8)) nilM)) (.nm 5) [5] (retM true) (op2 gAdd (op2 gMulB (retM (.str [121])) (mVar 5)) (retM (.str [120])))))))
  (retS (op2 gIx (lcM (op1 srcV (mVar 4)) (.nm 6) [6] (asB (op2 (gIn true) (mVar 6) (mVar 2))) (mVar 6)) (retM (.int 0)))))))
def F__law_word : List D → MH → R D := fnD 3 7 m__law_word
theorem sc__law_word : FnScope ["pot", "stock", "used", "word", "some", "k", "name"] ["pot", "stock", "used"] (defScope (top 39)) := ⟨rfl, rfl, rfl, by decide +kernel, rfl, by decide +kernel, by decide +kernel⟩
abbrev O__law_word (P : Program) (w : World) (K : PySem.W.Frag) (mg : Str → Option Value) (base : Heap) : Prop := DfOk P w K mg base "_law_word" "_law_word" (defArgs (top 39)) (defBody (top 39)) (defScope (top 39)) [] [] (He.fAd K ("_law_word", none)) 3 ["pot", "stock", "used"] F__law_word
theorem ok__law_word {P : Program} {w : World} {K : PySem.W.Frag} {mg : Str → Option Value} {base : Heap} (x : Fx K mg) : O__law_word P w K mg base := by
  obtain ⟨fd, F⟩ := x.c.def_ 26 (d := d__law_word) rfl
  obtain ⟨fd__law_take, F__law_take, M__law_take⟩ := ok__law_take (P := P) (w := w) (base := base) x
  obtain ⟨fd__law_names, F__law_names, M__law_names⟩ := ok__law_names (P := P) (w := w) (base := base) x
  refine ⟨fd, F, fnM_of F sc__law_word (by decide) fun cdv A outer s H hgd hr => ?_⟩
  have hu := hr.units
  have hu5 := u65 hr
  exact (sss_cons (ss_set (i := 3) sc__law_word.nd rfl (by first | exact Or.inl rfl | exact Or.inr rfl) (se_ix (sv 1) (se_call (ds := []) (dvs := []) M__law_take hgd (hr.mono (by decide)) rfl (x.glo 23) F__law_take.kp (F__law_take.bindsN fun _ _ _ _ _ _ us hl => match us, hl with | [_, _], _ => rfl) .nil (fun _ _ _ => .nil) (st_cons (sv 0) (st_cons (se_b1 call_lenA lift_len rfl (x.free 47) boot_len (sv 1)) st_nil)))))
    (sss_cons (ss_if (sb_cmp (op_eqM hu) lift_eq (se_call (ds := []) (dvs := []) M__law_take hgd (hr.mono (by decide)) rfl (x.glo 23) F__law_take.kp (F__law_take.bindsN fun _ _ _ _ _ _ us hl => match us, hl with | [_, _], _ => rfl) .nil (fun _ _ _ => .nil) (st_cons (sv 0) (st_cons se_int st_nil))) se_int) (sss_one (ss_set (i := 3) sc__law_word.nd rfl (by first | exact Or.inl rfl | exact Or.inr rfl) (se_ix (se_call (ds := []) (dvs := []) M__law_names hgd (hr.mono (by decide)) rfl (x.glo 25) F__law_names.kp (F__law_names.bindsN fun _ _ _ _ _ _ us hl => match us, hl with | [_, _], _ => rfl) .nil (fun _ _ _ => .nil) (st_cons (sv 0) (st_cons se_int st_nil))) se_int))) sss_nil)
    (sss_cons (ss_set (i := 4) sc__law_word.nd rfl (by first | exact Or.inl rfl | exact Or.inr rfl) (se_own (se_op op_addA lift_add (se_op op_addA lift_add (se_lst (st_cons (sv 3) st_nil)) (sv 1)) (se_lc (own := [("k", 5)]) rfl sc__law_word.nd (si_range1 (st_cons se_int st_nil) rfl (x.free 51)) (blk_ok (by rfl)) (by decide) (fun _ _ _ _ _ => (sg_name (i := 5) sc__law_word.nd rfl (by first | exact Or.inl rfl | exact Or.inr rfl))) (fun _ _ _ _ _ => sts_nil) (fun _ _ _ _ _ => (se_op op_addA lift_add (se_op op_mulB lift_mulB (se_str [121]) (sv 5)) (se_str [120])))))))
    (sss_one (ss_ret (se_ix (se_lc (own := [("name", 6)]) rfl sc__law_word.nd (si_val (sv 4)) (blk_ok (by rfl)) (by decide) (fun _ _ _ _ _ => (sg_name (i := 6) sc__law_word.nd rfl (by first | exact Or.inl rfl | exact Or.inr rfl))) (fun _ _ _ _ _ => (sts_one (sb_cmp (op_notInM hu5) lift_in (sv 6) (sv 2)))) (fun _ _ _ _ _ => (sv 6))) se_int))))))
def m__law_new_place : MS := (seqS (setS 3 (ownM (lcM (op1 srcV (mVar 1)) (.nm 4) [4] (asB (op2 (gIn true) (mVar 4) (mVar 2))) (mVar 4))))
  (seqS (ifS (orB (asB (op2 gLt (op1 gLen (mVar 3)) (retM (.int 2)))) (asB (op2 (gEq false) (fcallM F__law_take [] (consM (mVar 0) (consM (retM (.int 6)) nilM))) (retM (.int 0))))) (retS (ownM (lstM (consM (ownM (op1 gList (mVar 1))) (consM (retM .non) (consM (ownM (lstM nilM)) nilM)))))) skipS)
  (retS (ownM (lstM (consM (mVar 2) (consM (op2 gIx (mVar 3) (fcallM F__law_take [] (consM (mVar 0) (consM (op1 gLen (mVar 3)) nilM)))) (consM (ownM (lstM nilM)) nilM))))))))
def F__law_new_place : List D → MH → R D := fnD 3 5 m__law_new_place
theorem sc__law_new_place : FnScope ["pot", "hands", "gone", "living", "hand"] ["pot", "hands", "gone"] (defScope (top 40)) := ⟨rfl, rfl, rfl, by decide +kernel, rfl, by decide +kernel, by decide +kernel⟩
abbrev O__law_new_place (P : Program) (w : World) (K : PySem.W.Frag) (mg : Str → Option Value) (base : Heap) : Prop := DfOk P w K mg base "_law_new_place" "_law_new_place" (defArgs (top 40)) (defBody (top 40)) (defScope (top 40)) [] [] (He.fAd K ("_law_new_place", none)) 2 ["pot", "hands", "gone"] F__law_new_place
theorem ok__law_new_place {P : Program} {w : World} {K : PySem.W.Frag} {mg : Str → Option Value} {base : Heap} (x : Fx K mg) : O__law_new_place P w K mg base := by
  obtain ⟨fd, F⟩ := x.c.def_ 27 (d := d__law_new_place) rfl
  obtain ⟨fd__law_take, F__law_take, M__law_take⟩ := ok__law_take (P := P) (w := w) (base := base) x
  refine ⟨fd, F, fnM_of F sc__law_new_place (by decide) fun cdv A outer s H hgd hr => ?_⟩
  have hu := hr.units
  have hu5 := u65 hr
  exact (sss_cons (by first | exact ss_setLc (own := [("hand", 4)]) (i := 3) rfl sc__law_new_place.nd rfl rfl rfl (si_val (sv 1)) (blk_ok (by rfl)) (by decide) (fun _ _ _ _ _ => (sg_name (i := 4) sc__law_new_place.nd rfl (by first | exact Or.inl rfl | exact Or.inr rfl))) (fun _ _ _ _ _ => (sts_one (sb_cmp (op_notInM hu5) lift_in (sv 4) (sv 2)))) (fun _ _ _ _ _ => (sv 4)) | exact ss_set (i := 3) sc__law_new_place.nd rfl (by first | exact Or.inl rfl | exact Or.inr rfl) (se_own (se_lc (own := [("hand", 4)]) rfl sc__law_new_place.nd (si_val (sv 1)) (blk_ok (by rfl)) (by decide) (fun _ _ _ _ _ => (sg_name (i := 4) sc__law_new_place.nd rfl (by first | exact Or.inl rfl | exact Or.inr rfl))) (fun _ _ _ _ _ => (sts_one (sb_cmp (op_notInM hu5) lift_in (sv 4) (sv 2)))) (fun _ _ _ _ _ => (sv 4)))))
    (sss_cons (ss_if (SW.sb (sw_or (sb_cmp (op_ltM hu) lift_lt (se_b1 call_lenA lift_len rfl (x.free 47) boot_len (sv 3)) se_int) (sw_or1 (sb_cmp (op_eqM hu) lift_eq (se_call (ds := []) (dvs := []) M__law_take hgd (hr.mono (by decide)) rfl (x.glo 23) F__law_take.kp (F__law_take.bindsN fun _ _ _ _ _ _ us hl => match us, hl with | [_, _], _ => rfl) .nil (fun _ _ _ => .nil) (st_cons (sv 0) (st_cons se_int st_nil))) se_int)))) (sss_one (ss_ret (se_own (se_lst (st_cons (se_own (se_t1 call_list_of lift_list rfl (x.free 48) boot_list (sv 1))) (st_cons se_non (st_cons (se_own (se_lst st_nil)) st_nil))))))) sss_nil)
    (sss_one (ss_ret (se_own (se_lst (st_cons (sv 2) (st_cons (se_ix (sv 3) (se_call (ds := []) (dvs := []) M__law_take hgd (hr.mono (by decide)) rfl (x.glo 23) F__law_take.kp (F__law_take.bindsN fun _ _ _ _ _ _ us hl => match us, hl with | [_, _], _ => rfl) .nil (fun _ _ _ => .nil) (st_cons (sv 0) (st_cons (se_b1 call_lenA lift_len rfl (x.free 47) boot_len (sv 3)) st_nil)))) (st_cons (se_own (se_lst st_nil)) st_nil)))))))))
def m__law_put_branch : MS := (seqS (asgLS [(.nm 5), (.nm 6), (.nm 7)] (mVar 3))
  (seqS (setS 8 (ownM (lcM (op1 srcV (mVar 1)) (.nm 9) [9] (andB (asB (op2 (gIn true) (mVar 9) (mVar 5))) (asB (op2 (gEq true) (mVar 9) (mVar 6)))) (mVar 9))))
  (seqS (setS 10 (op2 gIx (mVar 8) (fcallM F__law_take [] (consM (mVar 0) (consM (op1 gLen (mVar 8)) nilM)))))
  (seqS (setS 11 (fcallM F__law_word [] (consM (mVar 0) (consM (mVar 2) (consM (ownM (lcM (op1 srcV (mVar 7)) (.nm 12) [12] (asB (op2 (gEq false) (op2 gIx (mVar 12) (retM (.int 0))) (mVar 10))) (op2 gIx (mVar 12) (retM (.int 1))))) nilM)))))
  (exprS (mtM .lst gAppend (mVar 7) (consM (tupM (consM (mVar 10) (consM (mVar 11) (consM (mVar 4) nilM)))) nilM)))))))
def F__law_put_branch : List D → MH → R D := fnD 5 13 m__law_put_branch
theorem sc__law_put_branch : FnScope ["pot", "hands", "stock", "place", "then", "gone", "sayer", "branches", "some", "hand", "hearer", "word", "branch"] ["pot", "hands", "stock", "place", "then"] (defScope (top 41)) := ⟨rfl, rfl, rfl, by decide +kernel, rfl, by decide +kernel, by decide +kernel⟩
abbrev O__law_put_branch (P : Program) (w : World) (K : PySem.W.Frag) (mg : Str → Option Value) (base : Heap) : Prop := DfOk P w K mg base "_law_put_branch" "_law_put_branch" (defArgs (top 41)) (defBody (top 41)) (defScope (top 41)) [] [] (He.fAd K ("_law_put_branch", none)) 4 ["pot", "hands", "stock", "place", "then"] F__law_put_branch
theorem ok__law_put_branch {P : Program} {w : World} {K : PySem.W.Frag} {mg : Str → Option Value} {base : Heap} (x : Fx K mg) : O__law_put_branch P w K mg base := by
  obtain ⟨fd, F⟩ := x.c.def_ 28 (d := d__law_put_branch) rfl
  obtain ⟨fd__law_take, F__law_take, M__law_take⟩ := ok__law_take (P := P) (w := w) (base := base) x
  obtain ⟨fd__law_word, F__law_word, M__law_word⟩ := ok__law_word (P := P) (w := w) (base := base) x
  refine ⟨fd, F, fnM_of F sc__law_put_branch (by decide) fun cdv A outer s H hgd hr => ?_⟩
  have hu := hr.units
  have hu5 := u65 hr
  exact (sss_cons (ss_asgL (sv 3) rfl (sgs_cons (sg_name (i := 5) sc__law_put_branch.nd rfl (by first | exact Or.inl rfl | exact Or.inr rfl)) (sgs_cons (sg_name (i := 6) sc__law_put_branch.nd rfl (by first | exact Or.inl rfl | exact Or.inr rfl)) (sgs_cons (sg_name (i := 7) sc__law_put_branch.nd rfl (by first | exact Or.inl rfl | exact Or.inr rfl)) sgs_nil))))
    (sss_cons (by first | exact ss_setLc (own := [("hand", 9)]) (i := 8) rfl sc__law_put_branch.nd rfl rfl rfl (si_val (sv 1)) (blk_ok (by rfl)) (by decide) (fun _ _ _ _ _ => (sg_name (i := 9) sc__law_put_branch.nd rfl (by first | exact Or.inl rfl | exact Or.inr rfl))) (fun _ _ _ _ _ => (sts_one (SW.sb (sw_and (sb_cmp (op_notInM hu5) lift_in (sv 9) (sv 5)) (sw_and1 (sb_cmp (op_neM hu) lift_eq (sv 9) (sv 6))))))) (fun _ _ _ _ _ => (sv 9)) | exact ss_set (i := 8) sc__law_put_branch.nd rfl (by first | exact Or.inl rfl | exact Or.inr rfl) (se_own (se_lc (own := [("hand", 9)]) rfl sc__law_put_branch.nd (si_val (sv 1)) (blk_ok (by rfl)) (by decide) (fun _ _ _ _ _ => (sg_name (i := 9) sc__law_put_branch.nd rfl (by first | exact Or.inl rfl | exact Or.inr rfl))) (fun _ _ _ _ _ => (sts_one (SW.sb (sw_and (sb_cmp (op_notInM hu5) lift_in (sv 9) (sv 5)) (sw_and1 (sb_cmp (op_neM hu) lift_eq (sv 9) (sv 6))))))) (fun _ _ _ _ _ => (sv 9)))))
    (sss_cons (ss_set (i := 10) sc__law_put_branch.nd rfl (by first | exact Or.inl rfl | exact Or.inr rfl) (se_ix (sv 8) (se_call (ds := []) (dvs := []) M__law_take hgd (hr.mono (by decide)) rfl (x.glo 23) F__law_take.kp (F__law_take.bindsN fun _ _ _ _ _ _ us hl => match us, hl with | [_, _], _ => rfl) .nil (fun _ _ _ => .nil) (st_cons (sv 0) (st_cons (se_b1 call_lenA lift_len rfl (x.free 47) boot_len (sv 8)) st_nil)))))
    (sss_cons (ss_set (i := 11) sc__law_put_branch.nd rfl (by first | exact Or.inl rfl | exact Or.inr rfl) (se_call (ds := []) (dvs := []) M__law_word hgd (hr.mono (by decide)) rfl (x.glo 26) F__law_word.kp (F__law_word.bindsN fun _ _ _ _ _ _ us hl => match us, hl with | [_, _, _], _ => rfl) .nil (fun _ _ _ => .nil) (st_cons (sv 0) (st_cons (sv 2) (st_cons (se_own (se_lc (own := [("branch", 12)]) rfl sc__law_put_branch.nd (si_val (sv 7)) (blk_ok (by rfl)) (by decide) (fun _ _ _ _ _ => (sg_name (i := 12) sc__law_put_branch.nd rfl (by first | exact Or.inl rfl | exact Or.inr rfl))) (fun _ _ _ _ _ => (sts_one (sb_cmp (op_eqM hu) lift_eq (se_ix (sv 12) se_int) (sv 10)))) (fun _ _ _ _ _ => (se_ix (sv 12) se_int)))) st_nil)))))
    (sss_one (ss_expr (se_mt (T := .lst) PySem.F.plainAttrs_list PySem.F.slot_list_append PySem.F.type_list_append mt_append lift_append (sv 7) (st_cons (se_tup (st_cons (sv 10) (st_cons (sv 11) (st_cons (sv 4) st_nil)))) st_nil))))))))
def m__law_put_fault : MS := (seqS (asgLS [(.nm 4), (.nm 5), (.nm 6)] (mVar 2))
  (seqS (setS 7 (ownM (lcM (op1 srcV (mVar 1)) (.nm 8) [8] (andB (asB (op2 (gIn true) (mVar 8) (mVar 4))) (asB (op2 (gEq true) (mVar 8) (mVar 5)))) (mVar 8))))
  (exprS (mtM .lst gAppend (mVar 6) (consM (tupM (consM (op2 gIx (mVar 7) (fcallM F__law_take [] (consM (mVar 0) (consM (op1 gLen (mVar 7)) nilM)))) (consM (retM (.str [33])) (consM (mVar 3) nilM)))) nilM)))))
def F__law_put_fault : List D → MH → R D := fnD 4 9 m__law_put_fault
theorem sc__law_put_fault : FnScope ["pot", "hands", "place", "then", "gone", "sayer", "branches", "some", "hand"] ["pot", "hands", "place", "then"] (defScope (top 42)) := ⟨rfl, rfl, rfl, by decide +kernel, rfl, by decide +kernel, by decide +kernel⟩
abbrev O__law_put_fault (P : Program) (w : World) (K : PySem.W.Frag) (mg : Str → Option Value) (base : Heap) : Prop := DfOk P w K mg base "_law_put_fault" "_law_put_fault" (defArgs (top 42)) (defBody (top 42)) (defScope (top 42)) [] [] (He.fAd K ("_law_put_fault", none)) 2 ["pot", "hands", "place", "then"] F__law_put_fault
theorem ok__law_put_fault {P : Program} {w : World} {K : PySem.W.Frag} {mg : Str → Option Value} {base : Heap} (x : Fx K mg) : O__law_put_fault P w K mg base := by
  obtain ⟨fd, F⟩ := x.c.def_ 29 (d := d__law_put_fault) rfl
  obtain ⟨fd__law_take, F__law_take, M__law_take⟩ := ok__law_take (P := P) (w := w) (base := base) x
  refine ⟨fd, F, fnM_of F sc__law_put_fault (by decide) fun cdv A outer s H hgd hr => ?_⟩
  have hu := hr.units
  have hu5 := u65 hr
  exact (sss_cons (ss_asgL (sv 2) rfl (sgs_cons (sg_name (i := 4) sc__law_put_fault.nd rfl (by first | exact Or.inl rfl | exact Or.inr rfl)) (sgs_cons (sg_name (i := 5) sc__law_put_fault.nd rfl (by first | exact Or.inl rfl | exact Or.inr rfl)) (sgs_cons (sg_name (i := 6) sc__law_put_fault.nd rfl (by first | exact Or.inl rfl | exact Or.inr rfl)) sgs_nil))))
    (sss_cons (by first | exact ss_setLc (own := [("hand", 8)]) (i := 7) rfl sc__law_put_fault.nd rfl rfl rfl (si_val (sv 1)) (blk_ok (by rfl)) (by decide) (fun _ _ _ _ _ => (sg_name (i := 8) sc__law_put_fault.nd rfl (by first | exact Or.inl rfl | exact Or.inr rfl))) (fun _ _ _ _ _ => (sts_one (SW.sb (sw_and (sb_cmp (op_notInM hu5) lift_in (sv 8) (sv 4)) (sw_and1 (sb_cmp (op_neM hu) lift_eq (sv 8) (sv 5))))))) (fun _ _ _ _ _ => (sv 8)) | exact ss_set (i := 7) sc__law_put_fault.nd rfl (by first | exact Or.inl rfl | exact Or.inr rfl) (se_own (se_lc (own := [("hand", 8)]) rfl sc__law_put_fault.nd (si_val (sv 1)) (blk_ok (by rfl)) (by decide) (fun _ _ _ _ _ => (sg_name (i := 8) sc__law_put_fault.nd rfl (by first | exact Or.inl rfl | exact Or.inr rfl))) (fun _ _ _ _ _ => (sts_one (SW.sb (sw_and (sb_cmp (op_notInM hu5) lift_in (sv 8) (sv 4)) (sw_and1 (sb_cmp (op_neM hu) lift_eq (sv 8) (sv 5))))))) (fun _ _ _ _ _ => (sv 8)))))
    (sss_one (ss_expr (se_mt (T := .lst) PySem.F.plainAttrs_list PySem.F.slot_list_append PySem.F.type_list_append mt_append lift_append (sv 6) (st_cons (se_tup (st_cons (se_ix (sv 7) (se_call (ds := []) (dvs := []) M__law_take hgd (hr.mono (by decide)) rfl (x.glo 23) F__law_take.kp (F__law_take.bindsN fun _ _ _ _ _ _ us hl => match us, hl with | [_, _], _ => rfl) .nil (fun _ _ _ => .nil) (st_cons (sv 0) (st_cons (se_b1 call_lenA lift_len rfl (x.free 47) boot_len (sv 7)) st_nil)))) (st_cons (se_str [33]) (st_cons (sv 3) st_nil)))) st_nil))))))
def m__law_lacks : MS := (retS (andV (op2 (gIn false) (op2 gIx (mVar 0) (retM (.int 1))) (mVar 1)) (op2 (gIn true) (retM (.str [33])) (lcM (op1 srcV (op2 gIx (mVar 0) (retM (.int 2)))) (.nm 2) [2] (retM true) (op2 gIx (mVar 2) (retM (.int 1)))))))
def F__law_lacks : List D → MH → R D := fnD 2 3 m__law_lacks
theorem sc__law_lacks : FnScope ["place", "weak", "branch"] ["place", "weak"] (defScope (top 43)) := ⟨rfl, rfl, rfl, by decide +kernel, rfl, by decide +kernel, by decide +kernel⟩
abbrev O__law_lacks (P : Program) (w : World) (K : PySem.W.Frag) (mg : Str → Option Value) (base : Heap) : Prop := DfOk P w K mg base "_law_lacks" "_law_lacks" (defArgs (top 43)) (defBody (top 43)) (defScope (top 43)) [] [] (He.fAd K ("_law_lacks", none)) 1 ["place", "weak"] F__law_lacks
theorem ok__law_lacks {P : Program} {w : World} {K : PySem.W.Frag} {mg : Str → Option Value} {base : Heap} (x : Fx K mg) : O__law_lacks P w K mg base := by
  obtain ⟨fd, F⟩ := x.c.def_ 30 (d := d__law_lacks) rfl
  refine ⟨fd, F, fnM_of F sc__law_lacks (by decide) fun cdv A outer s H hgd hr => ?_⟩
  have hu := hr.units
  have hu5 := u65 hr
  exact (sss_one (ss_ret (se_and (se_cmp (op_inM hu5) lift_in (se_ix (sv 0) se_int) (sv 1)) (se_one (se_cmp (op_notInM hu5) lift_in (se_str [33]) (se_lc (own := [("branch", 2)]) rfl sc__law_lacks.nd (si_val (se_ix (sv 0) se_int)) (blk_ok (by rfl)) (by decide) (fun _ _ _ _ _ => (sg_name (i := 2) sc__law_lacks.nd rfl (by first | exact Or.inl rfl | exact Or.inr rfl))) (fun _ _ _ _ _ => sts_nil) (fun _ _ _ _ _ => (se_ix (sv 2) se_int))))))))
def m__law_grown : MS := (seqS (setS 5 (ownM (lstM (consM (fcallM F__law_new_place [] (consM (mVar 0) (consM (mVar 1) (consM (ownM (lstM nilM)) nilM)))) nilM))))
  (seqS (forS (srcA range2V (consM (retM (.int 1)) (consM (mVar 4) nilM))) (.nm 6) (seqS (setS 7 (ownM (lcM (op1 srcV (mVar 5)) (.nm 8) [8] (andB (asB (op2 (gIs true) (op2 gIx (mVar 8) (retM (.int 1))) (retM .non))) (asB (op2 gLt (op1 gLen (op2 gIx (mVar 8) (retM (.int 2)))) (retM (.int 6))))) (mVar 8))))
  (seqS (ifS (asB (op2 (gEqE false) (mVar 7) (lstM nilM))) (retS (mVar 5)) skipS)
  (seqS (setS 8 (op2 gIx (mVar 7) (fcallM F__law_take [] (consM (mVar 0) (consM (op1 gLen (mVar 7)) nilM)))))
  (ifS (andB (asB (fcallM F__law_lacks [] (consM (mVar 8) (consM (mVar 2) nilM)))) (asB (op2 (gEq false) (fcallM F__law_take [] (consM (mVar 0) (consM (retM (.int 2)) nilM))) (retM (.int 0))))) (seqS (exprS (fcallM F__law_put_fault [] (consM (mVar 0) (consM (mVar 1) (consM (mVar 8) (consM (mVar 6) nilM))))))
  (exprS (mtM .lst gAppend (mVar 5) (consM (fcallM F__law_new_place [] (consM (mVar 0) (consM (mVar 1) (consM (ownM (op2 gAdd (op2 gIx (mVar 8) (retM (.int 0))) (lstM (consM (op2 gIx (mVar 8) (retM (.int 1))) nilM)))) nilM)))) nilM)))) (seqS (exprS (fcallM F__law_put_branch [] (consM (mVar 0) (consM (mVar 1) (consM (mVar 3) (consM (mVar 8) (consM (mVar 6) nilM)))))))
  (exprS (mtM .lst gAppend (mVar 5) (consM (fcallM F__law_new_place [] (consM (mVar 0) (consM (mVar 1) (consM (op2 gIx (mVar 8) (retM (.int 0))) nilM)))) nilM)))))))))
  (retS (mVar 5))))
def F__law_grown : List D → MH → R D := fnD 5 9 m__law_grown
theorem sc__law_grown : FnScope ["pot", "hands", "weak", "stock", "many", "places", "k", "some", "place"] ["pot", "hands", "weak", "stock", "many"] (defScope (top 44)) := ⟨rfl, rfl, rfl, by decide +kernel, rfl, by decide +kernel, by decide +kernel⟩
abbrev O__law_grown (P : Program) (w : World) (K : PySem.W.Frag) (mg : Str → Option Value) (base : Heap) : Prop := DfOk P w K mg base "_law_grown" "_law_grown" (defArgs (top 44)) (defBody (top 44)) (defScope (top 44)) [] [] (He.fAd K ("_law_grown", none)) 5 ["pot", "hands", "weak", "stock", "many"] F__law_grown
theorem ok__law_grown {P : Program} {w : World} {K : PySem.W.Frag} {mg : Str → Option Value} {base : Heap} (x : Fx K mg) : O__law_grown P w K mg base := by
  obtain ⟨fd, F⟩ := x.c.def_ 31 (d := d__law_grown) rfl
  obtain ⟨fd__law_take, F__law_take, M__law_take⟩ := ok__law_take (P := P) (w := w) (base := base) x
  obtain ⟨fd__law_new_place, F__law_new_place, M__law_new_place⟩ := ok__law_new_place (P := P) (w := w) (base := base) x
  obtain ⟨fd__law_put_branch, F__law_put_branch, M__law_put_branch⟩ := ok__law_put_branch (P := P) (w := w) (base := base) x
  obtain ⟨fd__law_put_fault, F__law_put_fault, M__law_put_fault⟩ := ok__law_put_fault (P := P) (w := w) (base := base) x
  obtain ⟨fd__law_lacks, F__law_lacks, M__law_lacks⟩ := ok__law_lacks (P := P) (w := w) (base := base) x
  refine ⟨fd, F, fnM_of F sc__law_grown (by decide) fun cdv A outer s H hgd hr => ?_⟩
  have hu := hr.units
  have hu5 := u65 hr
  exact (sss_cons (ss_set (i := 5) sc__law_grown.nd rfl (by first | exact Or.inl rfl | exact Or.inr rfl) (se_own (se_lst (st_cons (se_call (ds := []) (dvs := []) M__law_new_place hgd (hr.mono (by decide)) rfl (x.glo 27) F__law_new_place.kp (F__law_new_place.bindsN fun _ _ _ _ _ _ us hl => match us, hl with | [_, _, _], _ => rfl) .nil (fun _ _ _ => .nil) (st_cons (sv 0) (st_cons (sv 1) (st_cons (se_own (se_lst st_nil)) st_nil)))) st_nil))))
    (sss_cons (ss_for PassesOwn.never rfl (si_range2 (st_cons se_int (st_cons (sv 4) st_nil)) rfl (x.free 51)) (sg_name (i := 6) sc__law_grown.nd rfl (by first | exact Or.inl rfl | exact Or.inr rfl)) (sss_cons (by first | exact ss_setLc (own := [("place", 8)]) (i := 7) rfl sc__law_grown.nd rfl rfl rfl (si_val (sv 5)) (blk_ok (by rfl)) (by decide) (fun _ _ _ _ _ => (sg_name (i := 8) sc__law_grown.nd rfl (by first | exact Or.inl rfl | exact Or.inr rfl))) (fun _ _ _ _ _ => (sts_one (SW.sb (sw_and (sb_cmp op_notN lift_notN (se_ix (sv 8) se_int) se_non) (sw_and1 (sb_cmp (op_ltM hu) lift_lt (se_b1 call_lenA lift_len rfl (x.free 47) boot_len (se_ix (sv 8) se_int)) se_int)))))) (fun _ _ _ _ _ => (sv 8)) | exact ss_set (i := 7) sc__law_grown.nd rfl (by first | exact Or.inl rfl | exact Or.inr rfl) (se_own (se_lc (own := [("place", 8)]) rfl sc__law_grown.nd (si_val (sv 5)) (blk_ok (by rfl)) (by decide) (fun _ _ _ _ _ => (sg_name (i := 8) sc__law_grown.nd rfl (by first | exact Or.inl rfl | exact Or.inr rfl))) (fun _ _ _ _ _ => (sts_one (SW.sb (sw_and (sb_cmp op_notN lift_notN (se_ix (sv 8) se_int) se_non) (sw_and1 (sb_cmp (op_ltM hu) lift_lt (se_b1 call_lenA lift_len rfl (x.free 47) boot_len (se_ix (sv 8) se_int)) se_int)))))) (fun _ _ _ _ _ => (sv 8)))))
    (sss_cons (ss_if (sb_cmp (op_eqE hu) lift_eqE (sv 7) (se_lst st_nil)) (sss_one (ss_ret (sv 5))) sss_nil)
    (sss_cons (ss_set (i := 8) sc__law_grown.nd rfl (by first | exact Or.inl rfl | exact Or.inr rfl) (se_ix (sv 7) (se_call (ds := []) (dvs := []) M__law_take hgd (hr.mono (by decide)) rfl (x.glo 23) F__law_take.kp (F__law_take.bindsN fun _ _ _ _ _ _ us hl => match us, hl with | [_, _], _ => rfl) .nil (fun _ _ _ => .nil) (st_cons (sv 0) (st_cons (se_b1 call_lenA lift_len rfl (x.free 47) boot_len (sv 7)) st_nil)))))
    (sss_one (ss_if (SW.sb (sw_and (sb_val (se_call (ds := []) (dvs := []) M__law_lacks hgd (hr.mono (by decide)) rfl (x.glo 30) F__law_lacks.kp (F__law_lacks.bindsN fun _ _ _ _ _ _ us hl => match us, hl with | [_, _], _ => rfl) .nil (fun _ _ _ => .nil) (st_cons (sv 8) (st_cons (sv 2) st_nil)))) (sw_and1 (sb_cmp (op_eqM hu) lift_eq (se_call (ds := []) (dvs := []) M__law_take hgd (hr.mono (by decide)) rfl (x.glo 23) F__law_take.kp (F__law_take.bindsN fun _ _ _ _ _ _ us hl => match us, hl with | [_, _], _ => rfl) .nil (fun _ _ _ => .nil) (st_cons (sv 0) (st_cons se_int st_nil))) se_int)))) (sss_cons (ss_expr (se_call (ds := []) (dvs := []) M__law_put_fault hgd (hr.mono (by decide)) rfl (x.glo 29) F__law_put_fault.kp (F__law_put_fault.bindsN fun _ _ _ _ _ _ us hl => match us, hl with | [_, _, _, _], _ => rfl) .nil (fun _ _ _ => .nil) (st_cons (sv 0) (st_cons (sv 1) (st_cons (sv 8) (st_cons (sv 6) st_nil))))))
    (sss_one (ss_expr (se_mt (T := .lst) PySem.F.plainAttrs_list PySem.F.slot_list_append PySem.F.type_list_append mt_append lift_append (sv 5) (st_cons (se_call (ds := []) (dvs := []) M__law_new_place hgd (hr.mono (by decide)) rfl (x.glo 27) F__law_new_place.kp (F__law_new_place.bindsN fun _ _ _ _ _ _ us hl => match us, hl with | [_, _, _], _ => rfl) .nil (fun _ _ _ => .nil) (st_cons (sv 0) (st_cons (sv 1) (st_cons (se_own (se_op op_addA lift_add (se_ix (sv 8) se_int) (se_lst (st_cons (se_ix (sv 8) se_int) st_nil)))) st_nil)))) st_nil))))) (sss_cons (ss_expr (se_call (ds := []) (dvs := []) M__law_put_branch hgd (hr.mono (by decide)) rfl (x.glo 28) F__law_put_branch.kp (F__law_put_branch.bindsN fun _ _ _ _ _ _ us hl => match us, hl with | [_, _, _, _, _], _ => rfl) .nil (fun _ _ _ => .nil) (st_cons (sv 0) (st_cons (sv 1) (st_cons (sv 3) (st_cons (sv 8) (st_cons (sv 6) st_nil)))))))
    (sss_one (ss_expr (se_mt (T := .lst) PySem.F.plainAttrs_list PySem.F.slot_list_append PySem.F.type_list_append mt_append lift_append (sv 5) (st_cons (se_call (ds := []) (dvs := []) M__law_new_place hgd (hr.mono (by decide)) rfl (x.glo 27) F__law_new_place.kp (F__law_new_place.bindsN fun _ _ _ _ _ _ us hl => match us, hl with | [_, _, _], _ => rfl) .nil (fun _ _ _ => .nil) (st_cons (sv 0) (st_cons (sv 1) (st_cons (se_ix (sv 8) se_int) st_nil)))) st_nil)))))))))))
    (sss_one (ss_ret (sv 5)))))
def m__law_closed : MS := (retS (ownM (lcM (srcA enumV (consM (mVar 0) nilM)) (.tu [(.nm 2), (.nm 3)]) [2, 3] (asB (op2 (gEq false) (lcM (op1 srcV (mVar 1)) (.nm 4) [4] (asB (op2 (gIn true) (mVar 4) (op2 gIx (mVar 3) (retM (.int 0))))) (mVar 4)) (lstM nilM))) (mVar 2))))
def F__law_closed : List D → MH → R D := fnD 2 5 m__law_closed
theorem sc__law_closed : FnScope ["places", "gone", "k", "place", "hand"] ["places", "gone"] (defScope (top 45)) := ⟨rfl, rfl, rfl, by decide +kernel, rfl, by decide +kernel, by decide +kernel⟩
abbrev O__law_closed (P : Program) (w : World) (K : PySem.W.Frag) (mg : Str → Option Value) (base : Heap) : Prop := DfOk P w K mg base "_law_closed" "_law_closed" (defArgs (top 45)) (defBody (top 45)) (defScope (top 45)) [] [] (He.fAd K ("_law_closed", none)) 1 ["places", "gone"] F__law_closed
theorem ok__law_closed {P : Program} {w : World} {K : PySem.W.Frag} {mg : Str → Option Value} {base : Heap} (x : Fx K mg) : O__law_closed P w K mg base := by
  obtain ⟨fd, F⟩ := x.c.def_ 32 (d := d__law_closed) rfl
  refine ⟨fd, F, fnM_of F sc__law_closed (by decide) fun cdv A outer s H hgd hr => ?_⟩
  have hu := hr.units
  have hu5 := u65 hr
  exact (sss_one (ss_ret (se_own (se_lc (own := [("k", 2), ("place", 3)]) rfl sc__law_closed.nd (si_enum (st_cons (sv 0) st_nil) rfl (x.free 44)) (blk_ok (by rfl)) (by decide) (fun _ _ _ _ _ => (sg_tup rfl (sgs_cons (sg_name (i := 2) sc__law_closed.nd rfl (by first | exact Or.inl rfl | exact Or.inr rfl)) (sgs_cons (sg_name (i := 3) sc__law_closed.nd rfl (by first | exact Or.inl rfl | exact Or.inr rfl)) sgs_nil)))) (fun _ _ _ _ _ => (sts_one (sb_cmp (op_eqM hu) lift_eq (se_lc (own := [("hand", 4)]) rfl sc__law_closed.nd (si_val (sv 1)) (blk_ok (by rfl)) (by decide) (fun _ _ _ _ _ => (sg_name (i := 4) sc__law_closed.nd rfl (by first | exact Or.inl rfl | exact Or.inr rfl))) (fun _ _ _ _ _ => (sts_one (sb_cmp (op_notInM hu5) lift_in (sv 4) (se_ix (sv 3) se_int)))) (fun _ _ _ _ _ => (sv 4))) (se_lst st_nil)))) (fun _ _ _ _ _ => (sv 2))))))
def m__law_board : MS := (seqS (setS 2 (fcallM F__law_names [] (consM (mVar 0) (consM (op2 gAdd (retM (.int 2)) (fcallM F__law_take [] (consM (mVar 0) (consM (retM (.int 5)) nilM)))) nilM))))
  (seqS (setS 3 (ownM (op1 gSorted (lcM (op1 srcV (mVar 2)) (.nm 4) [4] (asB (op2 (gEq false) (fcallM F__law_take [] (consM (mVar 0) (consM (retM (.int 3)) nilM))) (retM (.int 0)))) (mVar 4)))))
  (seqS (setS 5 (fcallM F__law_names [] (consM (mVar 0) (consM (op2 gAdd (retM (.int 1)) (fcallM F__law_take [] (consM (mVar 0) (consM (retM (.int 5)) nilM)))) nilM))))
  (seqS (setS 6 (fcallM F__law_grown [] (consM (mVar 0) (consM (mVar 2) (consM (mVar 3) (consM (mVar 5) (consM (op2 gAdd (retM (.int 1)) (fcallM F__law_take [] (consM (mVar 0) (consM (mVar 1) nilM)))) nilM)))))))
  (seqS (setS 7 (op1 gLen (mVar 6)))
  (seqS (forS (op1 srcV (lcM (op1 srcV (mVar 6)) (.nm 11) [11] (asB (op2 (gIs true) (op2 gIx (mVar 11) (retM (.int 1))) (retM .non))) (mVar 11))) (.nm 8) (seqS (setS 9 (ownM (op2 gAdd (fcallM F__law_closed [] (consM (mVar 6) (consM (op2 gIx (mVar 8) (retM (.int 0))) nilM))) (lstM (consM (mVar 7) nilM)))))
  (seqS (setS 10 (op2 gSub (retM (.int 8)) (op1 gInt (fcallM F__law_lacks [] (consM (mVar 8) (consM (mVar 3) nilM))))))
  (seqS (whileS (orB (asB (op2 (gEqE false) (lcM (op1 srcV (op2 gIx (mVar 8) (retM (.int 2)))) (.nm 11) [11] (asB (op2 (gEq true) (op2 gIx (mVar 11) (retM (.int 1))) (retM (.str [33])))) (retM (.int 1))) (lstM nilM))) (andB (asB (op2 gLt (op1 gLen (op2 gIx (mVar 8) (retM (.int 2)))) (mVar 10))) (asB (op2 (gEq false) (fcallM F__law_take [] (consM (mVar 0) (consM (retM (.int 3)) nilM))) (retM (.int 0)))))) (exprS (fcallM F__law_put_branch [] (consM (mVar 0) (consM (mVar 2) (consM (mVar 5) (consM (mVar 8) (consM (op2 gIx (mVar 9) (fcallM F__law_take [] (consM (mVar 0) (consM (op1 gLen (mVar 9)) nilM)))) nilM))))))) fuel)
  (ifS (asB (fcallM F__law_lacks [] (consM (mVar 8) (consM (mVar 3) nilM)))) (seqS (setS 9 (ownM (op2 gAdd (fcallM F__law_closed [] (consM (mVar 6) (consM (ownM (op2 gAdd (op2 gIx (mVar 8) (retM (.int 0))) (lstM (consM (op2 gIx (mVar 8) (retM (.int 1))) nilM)))) nilM))) (lstM (consM (mVar 7) nilM)))))
  (exprS (fcallM F__law_put_fault [] (consM (mVar 0) (consM (mVar 2) (consM (mVar 8) (consM (op2 gIx (mVar 9) (fcallM F__law_take [] (consM (mVar 0) (consM (op1 gLen (mVar 9)) nilM)))) nilM))))))) skipS)))))
  (seqS (setS 12 (ownM (lcM (op1 srcV (mVar 6)) (.nm 8) [8] (retM true) (ifM (asB (op2 (gIs false) (op2 gIx (mVar 8) (retM (.int 1))) (retM .non))) (retM .non) (tupM (consM (op2 gIx (mVar 8) (retM (.int 1))) (consM (op1 gTuple (op1 gSorted (op2 gIx (mVar 8) (retM (.int 2))))) nilM)))))))
  (seqS (setS 13 (ownM (lcM (op1 srcV (mVar 6)) (.nm 8) [8] (asB (op2 (gEqE true) (lcM (op1 srcV (op2 gIx (mVar 8) (retM (.int 2)))) (.nm 14) [14] (asB (op2 (gEq false) (op2 gIx (mVar 14) (retM (.int 2))) (mVar 7))) (retM (.int 1))) (lstM nilM))) (mVar 8))))
  (retS (tupM (consM (op1 gTuple (mVar 2)) (consM (op1 gTuple (mVar 3)) (consM (op1 gTuple (op2 gAdd (mVar 12) (op2 gMulB (lstM (consM (retM .non) nilM)) (op1 gInt (op2 (gEqE true) (mVar 13) (lstM nilM)))))) nilM)))))))))))))
def F__law_board : List D → MH → R D := fnD 2 15 m__law_board
theorem sc__law_board : FnScope ["pot", "most", "hands", "weak", "hand", "stock", "places", "end", "place", "some", "most_here", "one", "told", "needs", "branch"] ["pot", "most"] (defScope (top 46)) := ⟨rfl, rfl, rfl, by decide +kernel, rfl, by decide +kernel, by decide +kernel⟩
abbrev O__law_board (P : Program) (w : World) (K : PySem.W.Frag) (mg : Str → Option Value) (base : Heap) : Prop := DfOk P w K mg base "_law_board" "_law_board" (defArgs (top 46)) (defBody (top 46)) (defScope (top 46)) [] [] (He.fAd K ("_law_board", none)) 6 ["pot", "most"] F__law_board
theorem ok__law_board {P : Program} {w : World} {K : PySem.W.Frag} {mg : Str → Option Value} {base : Heap} (x : Fx K mg) : O__law_board P w K mg base := by
  obtain ⟨fd, F⟩ := x.c.def_ 33 (d := d__law_board) rfl
  obtain ⟨fd__law_take, F__law_take, M__law_take⟩ := ok__law_take (P := P) (w := w) (base := base) x
  obtain ⟨fd__law_names, F__law_names, M__law_names⟩ := ok__law_names (P := P) (w := w) (base := base) x
  obtain ⟨fd__law_put_branch, F__law_put_branch, M__law_put_branch⟩ := ok__law_put_branch (P := P) (w := w) (base := base) x
  obtain ⟨fd__law_put_fault, F__law_put_fault, M__law_put_fault⟩ := ok__law_put_fault (P := P) (w := w) (base := base) x
  obtain ⟨fd__law_lacks, F__law_lacks, M__law_lacks⟩ := ok__law_lacks (P := P) (w := w) (base := base) x
  obtain ⟨fd__law_grown, F__law_grown, M__law_grown⟩ := ok__law_grown (P := P) (w := w) (base := base) x
  obtain ⟨fd__law_closed, F__law_closed, M__law_closed⟩ := ok__law_closed (P := P) (w := w) (base := base) x
  refine ⟨fd, F, fnM_of F sc__law_board (by decide) fun cdv A outer s H hgd hr => ?_⟩
  have hu := hr.units
  have hu5 := u65 hr
  exact (sss_cons (ss_set (i := 2) sc__law_board.nd rfl (by first | exact Or.inl rfl | exact Or.inr rfl) (se_call (ds := []) (dvs := []) M__law_names hgd (hr.mono (by decide)) rfl (x.glo 25) F__law_names.kp (F__law_names.bindsN fun _ _ _ _ _ _ us hl => match us, hl with | [_, _], _ => rfl) .nil (fun _ _ _ => .nil) (st_cons (sv 0) (st_cons (se_op op_addA lift_add se_int (se_call (ds := []) (dvs := []) M__law_take hgd (hr.mono (by decide)) rfl (x.glo 23) F__law_take.kp (F__law_take.bindsN fun _ _ _ _ _ _ us hl => match us, hl with | [_, _], _ => rfl) .nil (fun _ _ _ => .nil) (st_cons (sv 0) (st_cons se_int st_nil)))) st_nil))))
    (sss_cons (ss_set (i := 3) sc__law_board.nd rfl (by first | exact Or.inl rfl | exact Or.inr rfl) (se_own (se_b1 (cr_sortB rfl hu) lift_sorted rfl (x.free 53) boot_sorted (se_lc (own := [("hand", 4)]) rfl sc__law_board.nd (si_val (sv 2)) (blk_ok (by rfl)) (by decide) (fun _ _ _ _ _ => (sg_name (i := 4) sc__law_board.nd rfl (by first | exact Or.inl rfl | exact Or.inr rfl))) (fun _ _ _ _ _ => (sts_one (sb_cmp (op_eqM hu) lift_eq (se_call (ds := []) (dvs := []) M__law_take hgd (hr.mono (by decide)) rfl (x.glo 23) F__law_take.kp (F__law_take.bindsN fun _ _ _ _ _ _ us hl => match us, hl with | [_, _], _ => rfl) .nil (fun _ _ _ => .nil) (st_cons (sv 0) (st_cons se_int st_nil))) se_int))) (fun _ _ _ _ _ => (sv 4))))))
    (sss_cons (ss_set (i := 5) sc__law_board.nd rfl (by first | exact Or.inl rfl | exact Or.inr rfl) (se_call (ds := []) (dvs := []) M__law_names hgd (hr.mono (by decide)) rfl (x.glo 25) F__law_names.kp (F__law_names.bindsN fun _ _ _ _ _ _ us hl => match us, hl with | [_, _], _ => rfl) .nil (fun _ _ _ => .nil) (st_cons (sv 0) (st_cons (se_op op_addA lift_add se_int (se_call (ds := []) (dvs := []) M__law_take hgd (hr.mono (by decide)) rfl (x.glo 23) F__law_take.kp (F__law_take.bindsN fun _ _ _ _ _ _ us hl => match us, hl with | [_, _], _ => rfl) .nil (fun _ _ _ => .nil) (st_cons (sv 0) (st_cons se_int st_nil)))) st_nil))))
    (sss_cons (ss_set (i := 6) sc__law_board.nd rfl (by first | exact Or.inl rfl | exact Or.inr rfl) (se_call (ds := []) (dvs := []) M__law_grown hgd (hr.mono (by decide)) rfl (x.glo 31) F__law_grown.kp (F__law_grown.bindsN fun _ _ _ _ _ _ us hl => match us, hl with | [_, _, _, _, _], _ => rfl) .nil (fun _ _ _ => .nil) (st_cons (sv 0) (st_cons (sv 2) (st_cons (sv 3) (st_cons (sv 5) (st_cons (se_op op_addA lift_add se_int (se_call (ds := []) (dvs := []) M__law_take hgd (hr.mono (by decide)) rfl (x.glo 23) F__law_take.kp (F__law_take.bindsN fun _ _ _ _ _ _ us hl => match us, hl with | [_, _], _ => rfl) .nil (fun _ _ _ => .nil) (st_cons (sv 0) (st_cons (sv 1) st_nil)))) st_nil)))))))
    (sss_cons (ss_set (i := 7) sc__law_board.nd rfl (by first | exact Or.inl rfl | exact Or.inr rfl) (se_b1 call_lenA lift_len rfl (x.free 47) boot_len (sv 6)))
    (sss_cons (ss_for PassesOwn.never rfl (si_val (se_lc (own := [("one", 11)]) rfl sc__law_board.nd (si_val (sv 6)) (blk_ok (by rfl)) (by decide) (fun _ _ _ _ _ => (sg_name (i := 11) sc__law_board.nd rfl (by first | exact Or.inl rfl | exact Or.inr rfl))) (fun _ _ _ _ _ => (sts_one (sb_cmp op_notN lift_notN (se_ix (sv 11) se_int) se_non))) (fun _ _ _ _ _ => (sv 11)))) (sg_name (i := 8) sc__law_board.nd rfl (by first | exact Or.inl rfl | exact Or.inr rfl)) (sss_cons (ss_set (i := 9) sc__law_board.nd rfl (by first | exact Or.inl rfl | exact Or.inr rfl) (se_own (se_op op_addA lift_add (se_call (ds := []) (dvs := []) M__law_closed hgd (hr.mono (by decide)) rfl (x.glo 32) F__law_closed.kp (F__law_closed.bindsN fun _ _ _ _ _ _ us hl => match us, hl with | [_, _], _ => rfl) .nil (fun _ _ _ => .nil) (st_cons (sv 6) (st_cons (se_ix (sv 8) se_int) st_nil))) (se_lst (st_cons (sv 7) st_nil)))))
    (sss_cons (ss_set (i := 10) sc__law_board.nd rfl (by first | exact Or.inl rfl | exact Or.inr rfl) (se_op op_subA lift_sub se_int (se_t1 call_int1 lift_int rfl (x.free 45) boot_int (se_call (ds := []) (dvs := []) M__law_lacks hgd (hr.mono (by decide)) rfl (x.glo 30) F__law_lacks.kp (F__law_lacks.bindsN fun _ _ _ _ _ _ us hl => match us, hl with | [_, _], _ => rfl) .nil (fun _ _ _ => .nil) (st_cons (sv 8) (st_cons (sv 3) st_nil))))))
    (sss_cons (ss_while fuel PassesOwn.never (SW.sb (sw_or (sb_cmp (op_eqE hu) lift_eqE (se_lc (own := [("one", 11)]) rfl sc__law_board.nd (si_val (se_ix (sv 8) se_int)) (blk_ok (by rfl)) (by decide) (fun _ _ _ _ _ => (sg_name (i := 11) sc__law_board.nd rfl (by first | exact Or.inl rfl | exact Or.inr rfl))) (fun _ _ _ _ _ => (sts_one (sb_cmp (op_neM hu) lift_eq (se_ix (sv 11) se_int) (se_str [33])))) (fun _ _ _ _ _ => se_int)) (se_lst st_nil)) (sw_or1 (SW.sb (sw_and (sb_cmp (op_ltM hu) lift_lt (se_b1 call_lenA lift_len rfl (x.free 47) boot_len (se_ix (sv 8) se_int)) (sv 10)) (sw_and1 (sb_cmp (op_eqM hu) lift_eq (se_call (ds := []) (dvs := []) M__law_take hgd (hr.mono (by decide)) rfl (x.glo 23) F__law_take.kp (F__law_take.bindsN fun _ _ _ _ _ _ us hl => match us, hl with | [_, _], _ => rfl) .nil (fun _ _ _ => .nil) (st_cons (sv 0) (st_cons se_int st_nil))) se_int))))))) (sss_one (ss_expr (se_call (ds := []) (dvs := []) M__law_put_branch hgd (hr.mono (by decide)) rfl (x.glo 28) F__law_put_branch.kp (F__law_put_branch.bindsN fun _ _ _ _ _ _ us hl => match us, hl with | [_, _, _, _, _], _ => rfl) .nil (fun _ _ _ => .nil) (st_cons (sv 0) (st_cons (sv 2) (st_cons (sv 5) (st_cons (sv 8) (st_cons (se_ix (sv 9) (se_call (ds := []) (dvs := []) M__law_take hgd (hr.mono (by decide)) rfl (x.glo 23) F__law_take.kp (F__law_take.bindsN fun _ _ _ _ _ _ us hl => match us, hl with | [_, _], _ => rfl) .nil (fun _ _ _ => .nil) (st_cons (sv 0) (st_cons (se_b1 call_lenA lift_len rfl (x.free 47) boot_len (sv 9)) st_nil)))) st_nil)))))))))
    (sss_one (ss_if (sb_val (se_call (ds := []) (dvs := []) M__law_lacks hgd (hr.mono (by decide)) rfl (x.glo 30) F__law_lacks.kp (F__law_lacks.bindsN fun _ _ _ _ _ _ us hl => match us, hl with | [_, _], _ => rfl) .nil (fun _ _ _ => .nil) (st_cons (sv 8) (st_cons (sv 3) st_nil)))) (sss_cons (ss_set (i := 9) sc__law_board.nd rfl (by first | exact Or.inl rfl | exact Or.inr rfl) (se_own (se_op op_addA lift_add (se_call (ds := []) (dvs := []) M__law_closed hgd (hr.mono (by decide)) rfl (x.glo 32) F__law_closed.kp (F__law_closed.bindsN fun _ _ _ _ _ _ us hl => match us, hl with | [_, _], _ => rfl) .nil (fun _ _ _ => .nil) (st_cons (sv 6) (st_cons (se_own (se_op op_addA lift_add (se_ix (sv 8) se_int) (se_lst (st_cons (se_ix (sv 8) se_int) st_nil)))) st_nil))) (se_lst (st_cons (sv 7) st_nil)))))
    (sss_one (ss_expr (se_call (ds := []) (dvs := []) M__law_put_fault hgd (hr.mono (by decide)) rfl (x.glo 29) F__law_put_fault.kp (F__law_put_fault.bindsN fun _ _ _ _ _ _ us hl => match us, hl with | [_, _, _, _], _ => rfl) .nil (fun _ _ _ => .nil) (st_cons (sv 0) (st_cons (sv 2) (st_cons (sv 8) (st_cons (se_ix (sv 9) (se_call (ds := []) (dvs := []) M__law_take hgd (hr.mono (by decide)) rfl (x.glo 23) F__law_take.kp (F__law_take.bindsN fun _ _ _ _ _ _ us hl => match us, hl with | [_, _], _ => rfl) .nil (fun _ _ _ => .nil) (st_cons (sv 0) (st_cons (se_b1 call_lenA lift_len rfl (x.free 47) boot_len (sv 9)) st_nil)))) st_nil)))))))) sss_nil))))))
    (sss_cons (by first | exact ss_setLc (own := [("place", 8)]) (i := 12) rfl sc__law_board.nd rfl rfl rfl (si_val (sv 6)) (blk_ok (by rfl)) (by decide) (fun _ _ _ _ _ => (sg_name (i := 8) sc__law_board.nd rfl (by first | exact Or.inl rfl | exact Or.inr rfl))) (fun _ _ _ _ _ => sts_nil) (fun _ _ _ _ _ => (se_if (sb_cmp op_isN lift_isN (se_ix (sv 8) se_int) se_non) se_non (se_tup (st_cons (se_ix (sv 8) se_int) (st_cons (se_t1 call_tuple_of lift_tuple rfl (x.free 55) boot_tuple (se_b1 (cr_sortB rfl hu) lift_sorted rfl (x.free 53) boot_sorted (se_ix (sv 8) se_int))) st_nil))))) | exact ss_set (i := 12) sc__law_board.nd rfl (by first | exact Or.inl rfl | exact Or.inr rfl) (se_own (se_lc (own := [("place", 8)]) rfl sc__law_board.nd (si_val (sv 6)) (blk_ok (by rfl)) (by decide) (fun _ _ _ _ _ => (sg_name (i := 8) sc__law_board.nd rfl (by first | exact Or.inl rfl | exact Or.inr rfl))) (fun _ _ _ _ _ => sts_nil) (fun _ _ _ _ _ => (se_if (sb_cmp op_isN lift_isN (se_ix (sv 8) se_int) se_non) se_non (se_tup (st_cons (se_ix (sv 8) se_int) (st_cons (se_t1 call_tuple_of lift_tuple rfl (x.free 55) boot_tuple (se_b1 (cr_sortB rfl hu) lift_sorted rfl (x.free 53) boot_sorted (se_ix (sv 8) se_int))) st_nil))))))))
    (sss_cons (by first | exact ss_setLc (own := [("place", 8)]) (i := 13) rfl sc__law_board.nd rfl rfl rfl (si_val (sv 6)) (blk_ok (by rfl)) (by decide) (fun _ _ _ _ _ => (sg_name (i := 8) sc__law_board.nd rfl (by first | exact Or.inl rfl | exact Or.inr rfl))) (fun _ _ _ _ _ => (sts_one (sb_cmp (op_neE hu) lift_eqE (se_lc (own := [("branch", 14)]) rfl sc__law_board.nd (si_val (se_ix (sv 8) se_int)) (blk_ok (by rfl)) (by decide) (fun _ _ _ _ _ => (sg_name (i := 14) sc__law_board.nd rfl (by first | exact Or.inl rfl | exact Or.inr rfl))) (fun _ _ _ _ _ => (sts_one (sb_cmp (op_eqM hu) lift_eq (se_ix (sv 14) se_int) (sv 7)))) (fun _ _ _ _ _ => se_int)) (se_lst st_nil)))) (fun _ _ _ _ _ => (sv 8)) | exact ss_set (i := 13) sc__law_board.nd rfl (by first | exact Or.inl rfl | exact Or.inr rfl) (se_own (se_lc (own := [("place", 8)]) rfl sc__law_board.nd (si_val (sv 6)) (blk_ok (by rfl)) (by decide) (fun _ _ _ _ _ => (sg_name (i := 8) sc__law_board.nd rfl (by first | exact Or.inl rfl | exact Or.inr rfl))) (fun _ _ _ _ _ => (sts_one (sb_cmp (op_neE hu) lift_eqE (se_lc (own := [("branch", 14)]) rfl sc__law_board.nd (si_val (se_ix (sv 8) se_int)) (blk_ok (by rfl)) (by decide) (fun _ _ _ _ _ => (sg_name (i := 14) sc__law_board.nd rfl (by first | exact Or.inl rfl | exact Or.inr rfl))) (fun _ _ _ _ _ => (sts_one (sb_cmp (op_eqM hu) lift_eq (se_ix (sv 14) se_int) (sv 7)))) (fun _ _ _ _ _ => se_int)) (se_lst st_nil)))) (fun _ _ _ _ _ => (sv 8)))))
    (sss_one (ss_ret (se_tup (st_cons (se_t1 call_tuple_of lift_tuple rfl (x.free 55) boot_tuple (sv 2)) (st_cons (se_t1 call_tuple_of lift_tuple rfl (x.free 55) boot_tuple (sv 3)) (st_cons (se_t1 call_tuple_of lift_tuple rfl (x.free 55) boot_tuple (se_op op_addA lift_add (sv 12) (se_op op_mulB lift_mulB (se_lst (st_cons se_non st_nil)) (se_t1 call_int1 lift_int rfl (x.free 45) boot_int (se_cmp (op_neE hu) lift_eqE (sv 13) (se_lst st_nil)))))) st_nil))))))))))))))
def m__law_row : MS := (seqS (set2S 3 4 (consM (retM (.int 0)) (consM (ownM (lstM nilM)) nilM)))
  (seqS (forS (srcA range1V (consM (mVar 2) nilM)) (.nm 5) (seqS (ifS (asB (op2 (gIs false) (op2 gIx (mVar 1) (mVar 3)) (retM .non))) (retS (op1 gTuple (mVar 4))) skipS)
  (seqS (asgS (.tu [(.nm 6), (.nm 7)]) (op2 gIx (mVar 1) (mVar 3)))
  (seqS (asgS (.tu [(.nm 8), (.nm 9), (.nm 10)]) (op2 gIx (mVar 7) (fcallM F__law_take [] (consM (mVar 0) (consM (op1 gLen (mVar 7)) nilM)))))
  (seqS (exprS (mtM .lst gAppend (mVar 4) (consM (tupM (consM (mVar 6) (consM (mVar 8) (consM (mVar 9) nilM)))) nilM)))
  (setS 3 (mVar 10)))))))
  (retS (op1 gTuple (mVar 4)))))
def F__law_row : List D → MH → R D := fnD 3 11 m__law_row
theorem sc__law_row : FnScope ["pot", "places", "most", "here", "found", "turn", "sayer", "branches", "hearer", "word", "then"] ["pot", "places", "most"] (defScope (top 47)) := ⟨rfl, rfl, rfl, by decide +kernel, rfl, by decide +kernel, by decide +kernel⟩
abbrev O__law_row (P : Program) (w : World) (K : PySem.W.Frag) (mg : Str → Option Value) (base : Heap) : Prop := DfOk P w K mg base "_law_row" "_law_row" (defArgs (top 47)) (defBody (top 47)) (defScope (top 47)) [] [] (He.fAd K ("_law_row", none)) 2 ["pot", "places", "most"] F__law_row
theorem ok__law_row {P : Program} {w : World} {K : PySem.W.Frag} {mg : Str → Option Value} {base : Heap} (x : Fx K mg) : O__law_row P w K mg base := by
  obtain ⟨fd, F⟩ := x.c.def_ 34 (d := d__law_row) rfl
  obtain ⟨fd__law_take, F__law_take, M__law_take⟩ := ok__law_take (P := P) (w := w) (base := base) x
  refine ⟨fd, F, fnM_of F sc__law_row (by decide) fun cdv A outer s H hgd hr => ?_⟩
  have hu := hr.units
  have hu5 := u65 hr
  exact (sss_cons (ss_par (i := 3) (j := 4) rfl sc__law_row.nd rfl rfl (by decide) rfl rfl (st_cons se_int (st_cons (se_own (se_lst st_nil)) st_nil)) (by rfl))
    (sss_cons (ss_for PassesOwn.never rfl (si_range1 (st_cons (sv 2) st_nil) rfl (x.free 51)) (sg_name (i := 5) sc__law_row.nd rfl (by first | exact Or.inl rfl | exact Or.inr rfl)) (sss_cons (ss_if (sb_cmp op_isN lift_isN (se_ix (sv 1) (sv 3)) se_non) (sss_one (ss_ret (se_t1 call_tuple_of lift_tuple rfl (x.free 55) boot_tuple (sv 4)))) sss_nil)
    (sss_cons (ss_asg (se_ix (sv 1) (sv 3)) (sg_tup rfl (sgs_cons (sg_name (i := 6) sc__law_row.nd rfl (by first | exact Or.inl rfl | exact Or.inr rfl)) (sgs_cons (sg_name (i := 7) sc__law_row.nd rfl (by first | exact Or.inl rfl | exact Or.inr rfl)) sgs_nil))))
    (sss_cons (ss_asg (se_ix (sv 7) (se_call (ds := []) (dvs := []) M__law_take hgd (hr.mono (by decide)) rfl (x.glo 23) F__law_take.kp (F__law_take.bindsN fun _ _ _ _ _ _ us hl => match us, hl with | [_, _], _ => rfl) .nil (fun _ _ _ => .nil) (st_cons (sv 0) (st_cons (se_b1 call_lenA lift_len rfl (x.free 47) boot_len (sv 7)) st_nil)))) (sg_tup rfl (sgs_cons (sg_name (i := 8) sc__law_row.nd rfl (by first | exact Or.inl rfl | exact Or.inr rfl)) (sgs_cons (sg_name (i := 9) sc__law_row.nd rfl (by first | exact Or.inl rfl | exact Or.inr rfl)) (sgs_cons (sg_name (i := 10) sc__law_row.nd rfl (by first | exact Or.inl rfl | exact Or.inr rfl)) sgs_nil)))))
    (sss_cons (ss_expr (se_mt (T := .lst) PySem.F.plainAttrs_list PySem.F.slot_list_append PySem.F.type_list_append mt_append lift_append (sv 4) (st_cons (se_tup (st_cons (sv 6) (st_cons (sv 8) (st_cons (sv 9) st_nil)))) st_nil)))
    (sss_one (ss_set (i := 3) sc__law_row.nd rfl (by first | exact Or.inl rfl | exact Or.inr rfl) (sv 10))))))))
    (sss_one (ss_ret (se_t1 call_tuple_of lift_tuple rfl (x.free 55) boot_tuple (sv 4))))))
def m__law_place_by : MS := (seqS (setS 2 (retM (.int 0)))
  (seqS (forS (op1 srcV (mVar 1)) (.nm 3) (seqS (ifS (orB (asB (op2 (gIs false) (op2 gIx (mVar 0) (mVar 2)) (retM .non))) (orB (notB (asB (op1 (gIsi .tup) (mVar 3)))) (orB (asB (op2 (gEq true) (op1 gLen (mVar 3)) (retM (.int 3)))) (asB (op2 (gEq true) (op2 gIx (mVar 3) (retM (.int 0))) (op2 gIx (op2 gIx (mVar 0) (mVar 2)) (retM (.int 0)))))))) (retS (retM .non)) skipS)
  (seqS (setS 4 (ownM (lcM (op1 srcV (op2 gIx (op2 gIx (mVar 0) (mVar 2)) (retM (.int 1)))) (.nm 5) [5] (asB (op2 (gEq false) (slM (mVar 5) (retM .non) (partM (retM (.int 2)))) (slM (mVar 3) (partM (retM (.int 1))) (retM .non)))) (op2 gIx (mVar 5) (retM (.int 2))))))
  (seqS (ifS (asB (op2 (gEq false) (mVar 4) (lstM nilM))) (retS (retM .non)) skipS)
  (setS 2 (op2 gIx (mVar 4) (retM (.int 0))))))))
  (retS (mVar 2))))
def F__law_place_by : List D → MH → R D := fnD 2 6 m__law_place_by
theorem sc__law_place_by : FnScope ["places", "row", "here", "step", "thens", "branch"] ["places", "row"] (defScope (top 48)) := ⟨rfl, rfl, rfl, by decide +kernel, rfl, by decide +kernel, by decide +kernel⟩
abbrev O__law_place_by (P : Program) (w : World) (K : PySem.W.Frag) (mg : Str → Option Value) (base : Heap) : Prop := DfOk P w K mg base "_law_place_by" "_law_place_by" (defArgs (top 48)) (defBody (top 48)) (defScope (top 48)) [] [] (He.fAd K ("_law_place_by", none)) 1 ["places", "row"] F__law_place_by
theorem ok__law_place_by {P : Program} {w : World} {K : PySem.W.Frag} {mg : Str → Option Value} {base : Heap} (x : Fx K mg) : O__law_place_by P w K mg base := by
  obtain ⟨fd, F⟩ := x.c.def_ 35 (d := d__law_place_by) rfl
  refine ⟨fd, F, fnM_of F sc__law_place_by (by decide) fun cdv A outer s H hgd hr => ?_⟩
  have hu := hr.units
  have hu5 := u65 hr
  exact (sss_cons (ss_set (i := 2) sc__law_place_by.nd rfl (by first | exact Or.inl rfl | exact Or.inr rfl) se_int)
    (sss_cons (ss_for PassesOwn.never rfl (si_val (sv 1)) (sg_name (i := 3) sc__law_place_by.nd rfl (by first | exact Or.inl rfl | exact Or.inr rfl)) (sss_cons (ss_if (SW.sb (sw_or (sb_cmp op_isN lift_isN (se_ix (sv 0) (sv 2)) se_non) (sw_or (sb_not (sb_val (se_isi .tup (by decide) rfl (x.free 46) rfl (x.free 55) boot_tuple (sv 3)))) (sw_or (sb_cmp (op_neM hu) lift_eq (se_b1 call_lenA lift_len rfl (x.free 47) boot_len (sv 3)) se_int) (sw_or1 (sb_cmp (op_neM hu) lift_eq (se_ix (sv 3) se_int) (se_ix (se_ix (sv 0) (sv 2)) se_int))))))) (sss_one (ss_ret se_non)) sss_nil)
    (sss_cons (by first | exact ss_setLc (own := [("branch", 5)]) (i := 4) rfl sc__law_place_by.nd rfl rfl rfl (si_val (se_ix (se_ix (sv 0) (sv 2)) se_int)) (blk_ok (by rfl)) (by decide) (fun _ _ _ _ _ => (sg_name (i := 5) sc__law_place_by.nd rfl (by first | exact Or.inl rfl | exact Or.inr rfl))) (fun _ _ _ _ _ => (sts_one (sb_cmp (op_eqM hu) lift_eq (se_slice (sv 5) so_none (so_some se_int)) (se_slice (sv 3) (so_some se_int) so_none)))) (fun _ _ _ _ _ => (se_ix (sv 5) se_int)) | exact ss_set (i := 4) sc__law_place_by.nd rfl (by first | exact Or.inl rfl | exact Or.inr rfl) (se_own (se_lc (own := [("branch", 5)]) rfl sc__law_place_by.nd (si_val (se_ix (se_ix (sv 0) (sv 2)) se_int)) (blk_ok (by rfl)) (by decide) (fun _ _ _ _ _ => (sg_name (i := 5) sc__law_place_by.nd rfl (by first | exact Or.inl rfl | exact Or.inr rfl))) (fun _ _ _ _ _ => (sts_one (sb_cmp (op_eqM hu) lift_eq (se_slice (sv 5) so_none (so_some se_int)) (se_slice (sv 3) (so_some se_int) so_none)))) (fun _ _ _ _ _ => (se_ix (sv 5) se_int)))))
    (sss_cons (ss_if (sb_cmp (op_eqM hu) lift_eq (sv 4) (se_lst st_nil)) (sss_one (ss_ret se_non)) sss_nil)
    (sss_one (ss_set (i := 2) sc__law_place_by.nd rfl (by first | exact Or.inl rfl | exact Or.inr rfl) (se_ix (sv 4) se_int)))))))
    (sss_one (ss_ret (sv 2)))))
def m__law_otherwise : MS := (seqS (setS 3 (op2 gIx (mVar 1) (retM (.int 0))))
  (seqS (setS 4 (fcallM F__law_take [] (consM (mVar 0) (consM (op2 gMax (retM (.int 1)) (op1 gLen (mVar 2))) nilM))))
  (seqS (setS 5 (ifM (asB (op2 (gEq true) (mVar 2) (tupM nilM))) (op2 gIx (mVar 2) (mVar 4)) (tupM (consM (op2 gIx (mVar 3) (retM (.int 0))) (consM (op2 gIx (mVar 3) (retM (.int 1))) (consM (retM (.str [103, 111])) nilM))))))
  (seqS (setS 6 (op2 gIx (mVar 3) (fcallM F__law_take [] (consM (mVar 0) (consM (op1 gLen (mVar 3)) nilM)))))
  (seqS (setS 7 (ownM (lstM (consM (op2 gIx (mVar 5) (retM (.int 2))) (consM (retM (.str [33])) (consM (retM (.str [113, 113, 113, 113, 113, 113, 113, 122])) (consM (retM (.str [])) (consM (retM .non) nilM))))))))
  (seqS (setS 8 (op2 gIx (mVar 7) (fcallM F__law_take [] (consM (mVar 0) (consM (retM (.int 5)) nilM)))))
  (seqS (setS 9 (ownM (lstM (consM (ownM (op2 gAdd (tupM (consM (mVar 6) nilM)) (slM (mVar 5) (partM (retM (.int 1))) (retM .non)))) (consM (tupM (consM (op2 gIx (mVar 5) (retM (.int 0))) (consM (mVar 6) (consM (op2 gIx (mVar 5) (retM (.int 2))) nilM)))) (consM (ownM (op2 gAdd (slM (mVar 5) (retM .non) (partM (retM (.int 2)))) (tupM (consM (mVar 8) nilM)))) (consM (ownM (slM (mVar 5) (retM .non) (partM (retM (.int 2))))) (consM (op2 gAdd (mVar 5) (tupM (consM (retM (.int 0)) nilM))) (consM (ownM (op1 gList (mVar 5))) (consM (retM .non) nilM))))))))))
  (seqS (setS 10 (fcallM F__law_take [] (consM (mVar 0) (consM (retM (.int 12)) nilM))))
  (seqS (ifS (asB (op2 gLt (mVar 10) (retM (.int 7)))) (retS (ownM (op2 gAdd (op2 gAdd (slM (mVar 2) (retM .non) (partM (mVar 4))) (tupM (consM (op2 gIx (mVar 9) (mVar 10)) nilM))) (slM (mVar 2) (partM (op2 gAdd (mVar 4) (retM (.int 1)))) (retM .non))))) skipS)
  (seqS (setS 11 (ownM (lstM (consM (ownM (op2 gAdd (slM (mVar 2) (retM .non) (partM (mVar 4))) (slM (mVar 2) (partM (op2 gAdd (mVar 4) (retM (.int 1)))) (retM .non)))) (consM (ownM (op2 gAdd (op2 gAdd (slM (mVar 2) (retM .non) (partM (mVar 4))) (tupM (consM (mVar 5) nilM))) (slM (mVar 2) (partM (mVar 4)) (retM .non)))) (consM (op2 gAdd (mVar 2) (tupM (consM (mVar 5) nilM))) (consM (ownM (op1 gList (mVar 2))) (consM (ownM (slM (mVar 2) (partM (mVar 4)) (retM .non))) nilM))))))))
  (retS (op2 gIx (mVar 11) (op2 gSub (mVar 10) (retM (.int 7)))))))))))))))
def F__law_otherwise : List D → MH → R D := fnD 3 12 m__law_otherwise
theorem sc__law_otherwise : FnScope ["pot", "board", "row", "hands", "at", "step", "hand", "words", "word", "some", "way", "rest"] ["pot", "board", "row"] (defScope (top 49)) := ⟨rfl, rfl, rfl, by decide +kernel, rfl, by decide +kernel, by decide +kernel⟩
abbrev O__law_otherwise (P : Program) (w : World) (K : PySem.W.Frag) (mg : Str → Option Value) (base : Heap) : Prop := DfOk P w K mg base "_law_otherwise" "_law_otherwise" (defArgs (top 49)) (defBody (top 49)) (defScope (top 49)) [] [] (He.fAd K ("_law_otherwise", none)) 2 ["pot", "board", "row"] F__law_otherwise
theorem ok__law_otherwise {P : Program} {w : World} {K : PySem.W.Frag} {mg : Str → Option Value} {base : Heap} (x : Fx K mg) : O__law_otherwise P w K mg base := by
  obtain ⟨fd, F⟩ := x.c.def_ 36 (d := d__law_otherwise) rfl
  obtain ⟨fd__law_take, F__law_take, M__law_take⟩ := ok__law_take (P := P) (w := w) (base := base) x
  refine ⟨fd, F, fnM_of F sc__law_otherwise (by decide) fun cdv A outer s H hgd hr => ?_⟩
  have hu := hr.units
  have hu5 := u65 hr
  exact (sss_cons (ss_set (i := 3) sc__law_otherwise.nd rfl (by first | exact Or.inl rfl | exact Or.inr rfl) (se_ix (sv 1) se_int))
    (sss_cons (ss_set (i := 4) sc__law_otherwise.nd rfl (by first | exact Or.inl rfl | exact Or.inr rfl) (se_call (ds := []) (dvs := []) M__law_take hgd (hr.mono (by decide)) rfl (x.glo 23) F__law_take.kp (F__law_take.bindsN fun _ _ _ _ _ _ us hl => match us, hl with | [_, _], _ => rfl) .nil (fun _ _ _ => .nil) (st_cons (sv 0) (st_cons (se_b2 (call_max2 rfl) lift_max rfl (x.free 49) boot_max se_int (se_b1 call_lenA lift_len rfl (x.free 47) boot_len (sv 2))) st_nil))))
    (sss_cons (ss_set (i := 5) sc__law_otherwise.nd rfl (by first | exact Or.inl rfl | exact Or.inr rfl) (se_if (sb_cmp (op_neM hu) lift_eq (sv 2) (se_tup st_nil)) (se_ix (sv 2) (sv 4)) (se_tup (st_cons (se_ix (sv 3) se_int) (st_cons (se_ix (sv 3) se_int) (st_cons (se_str [103, 111]) st_nil))))))
    (sss_cons (ss_set (i := 6) sc__law_otherwise.nd rfl (by first | exact Or.inl rfl | exact Or.inr rfl) (se_ix (sv 3) (se_call (ds := []) (dvs := []) M__law_take hgd (hr.mono (by decide)) rfl (x.glo 23) F__law_take.kp (F__law_take.bindsN fun _ _ _ _ _ _ us hl => match us, hl with | [_, _], _ => rfl) .nil (fun _ _ _ => .nil) (st_cons (sv 0) (st_cons (se_b1 call_lenA lift_len rfl (x.free 47) boot_len (sv 3)) st_nil)))))
    (sss_cons (ss_set (i := 7) sc__law_otherwise.nd rfl (by first | exact Or.inl rfl | exact Or.inr rfl) (se_own (se_lst (st_cons (se_ix (sv 5) se_int) (st_cons (se_str [33]) (st_cons (se_str [113, 113, 113, 113, 113, 113, 113, 122]) (st_cons (se_str []) (st_cons se_non st_nil))))))))
    (sss_cons (ss_set (i := 8) sc__law_otherwise.nd rfl (by first | exact Or.inl rfl | exact Or.inr rfl) (se_ix (sv 7) (se_call (ds := []) (dvs := []) M__law_take hgd (hr.mono (by decide)) rfl (x.glo 23) F__law_take.kp (F__law_take.bindsN fun _ _ _ _ _ _ us hl => match us, hl with | [_, _], _ => rfl) .nil (fun _ _ _ => .nil) (st_cons (sv 0) (st_cons se_int st_nil)))))
    (sss_cons (ss_set (i := 9) sc__law_otherwise.nd rfl (by first | exact Or.inl rfl | exact Or.inr rfl) (se_own (se_lst (st_cons (se_own (se_op op_addA lift_add (se_tup (st_cons (sv 6) st_nil)) (se_slice (sv 5) (so_some se_int) so_none))) (st_cons (se_tup (st_cons (se_ix (sv 5) se_int) (st_cons (sv 6) (st_cons (se_ix (sv 5) se_int) st_nil)))) (st_cons (se_own (se_op op_addA lift_add (se_slice (sv 5) so_none (so_some se_int)) (se_tup (st_cons (sv 8) st_nil)))) (st_cons (se_own (se_slice (sv 5) so_none (so_some se_int))) (st_cons (se_op op_addA lift_add (sv 5) (se_tup (st_cons se_int st_nil))) (st_cons (se_own (se_t1 call_list_of lift_list rfl (x.free 48) boot_list (sv 5))) (st_cons se_non st_nil))))))))))
    (sss_cons (ss_set (i := 10) sc__law_otherwise.nd rfl (by first | exact Or.inl rfl | exact Or.inr rfl) (se_call (ds := []) (dvs := []) M__law_take hgd (hr.mono (by decide)) rfl (x.glo 23) F__law_take.kp (F__law_take.bindsN fun _ _ _ _ _ _ us hl => match us, hl with | [_, _], _ => rfl) .nil (fun _ _ _ => .nil) (st_cons (sv 0) (st_cons se_int st_nil))))
    (sss_cons (ss_if (sb_cmp (op_ltM hu) lift_lt (sv 10) se_int) (sss_one (ss_ret (se_own (se_op op_addA lift_add (se_op op_addA lift_add (se_slice (sv 2) so_none (so_some (sv 4))) (se_tup (st_cons (se_ix (sv 9) (sv 10)) st_nil))) (se_slice (sv 2) (so_some (se_op op_addA lift_add (sv 4) se_int)) so_none))))) sss_nil)
    (sss_cons (ss_set (i := 11) sc__law_otherwise.nd rfl (by first | exact Or.inl rfl | exact Or.inr rfl) (se_own (se_lst (st_cons (se_own (se_op op_addA lift_add (se_slice (sv 2) so_none (so_some (sv 4))) (se_slice (sv 2) (so_some (se_op op_addA lift_add (sv 4) se_int)) so_none))) (st_cons (se_own (se_op op_addA lift_add (se_op op_addA lift_add (se_slice (sv 2) so_none (so_some (sv 4))) (se_tup (st_cons (sv 5) st_nil))) (se_slice (sv 2) (so_some (sv 4)) so_none))) (st_cons (se_op op_addA lift_add (sv 2) (se_tup (st_cons (sv 5) st_nil))) (st_cons (se_own (se_t1 call_list_of lift_list rfl (x.free 48) boot_list (sv 2))) (st_cons (se_own (se_slice (sv 2) (so_some (sv 4)) so_none)) st_nil))))))))
    (sss_one (ss_ret (se_ix (sv 11) (se_op op_subA lift_sub (sv 10) se_int))))))))))))))
def m__law_refused : MS := (seqS (setS 2 (retM (.int 0)))
  (seqS (tryS [("NoRow", true)] (exprS (fcallM F_place_behind [] (consM (mVar 0) (consM (mVar 1) nilM)))) (setS 2 (op2 gAdd (mVar 2) (retM (.int 1)))))
  (seqS (tryS [("NoRow", true)] (exprS (fcallM F_is_faultless [] (consM (mVar 0) (consM (mVar 1) nilM)))) (setS 2 (op2 gAdd (mVar 2) (retM (.int 1)))))
  (retS (mVar 2)))))
def F__law_refused : List D → MH → R D := fnD 2 3 m__law_refused
theorem sc__law_refused : FnScope ["board", "row", "many"] ["board", "row"] (defScope (top 50)) := ⟨rfl, rfl, rfl, by decide +kernel, rfl, by decide +kernel, by decide +kernel⟩
abbrev O__law_refused (P : Program) (w : World) (K : PySem.W.Frag) (mg : Str → Option Value) (base : Heap) : Prop := DfOk P w K mg base "_law_refused" "_law_refused" (defArgs (top 50)) (defBody (top 50)) (defScope (top 50)) [] [] (He.fAd K ("_law_refused", none)) 9 ["board", "row"] F__law_refused
theorem ok__law_refused {P : Program} {w : World} {K : PySem.W.Frag} {mg : Str → Option Value} {base : Heap} (x : Fx K mg) : O__law_refused P w K mg base := by
  obtain ⟨fd, F⟩ := x.c.def_ 37 (d := d__law_refused) rfl
  obtain ⟨fd_place_behind, F_place_behind, M_place_behind⟩ := ok_place_behind (P := P) (w := w) (base := base) x
  obtain ⟨fd_is_faultless, F_is_faultless, M_is_faultless⟩ := ok_is_faultless (P := P) (w := w) (base := base) x
  refine ⟨fd, F, fnM_of F sc__law_refused (by decide) fun cdv A outer s H hgd hr => ?_⟩
  have hu := hr.units
  have hu5 := u65 hr
  exact (sss_cons (ss_set (i := 2) sc__law_refused.nd rfl (by first | exact Or.inl rfl | exact Or.inr rfl) se_int)
    (sss_cons (ss_try rfl rfl ⟨rfl, by decide, Or.inl (x.clsg 63)⟩ takes0 (tab_cons (x.exm 65) (tab_nil _ _)) (fun W pn xe tk' po' => (sss_one (ss_expr (se_callX (ds := []) (dvs := []) tk' M_place_behind hgd (hr.mono (by decide)) rfl (x.glo 20) F_place_behind.kp (F_place_behind.bindsN fun _ _ _ _ _ _ us hl => match us, hl with | [_, _], _ => rfl) .nil (fun _ _ _ => .nil) (st_cons (sv 0) (st_cons (sv 1) st_nil)))))) (fun a oe pn => (sss_one (ss_set (i := 2) sc__law_refused.nd rfl (by first | exact Or.inl rfl | exact Or.inr rfl) (se_op op_addA lift_add (sv 2) se_int)))))
    (sss_cons (ss_try rfl rfl ⟨rfl, by decide, Or.inl (x.clsg 63)⟩ takes0 (tab_cons (x.exm 65) (tab_nil _ _)) (fun W pn xe tk' po' => (sss_one (ss_expr (se_callX (ds := []) (dvs := []) tk' M_is_faultless hgd (hr.mono (by decide)) rfl (x.glo 21) F_is_faultless.kp (F_is_faultless.bindsN fun _ _ _ _ _ _ us hl => match us, hl with | [_, _], _ => rfl) .nil (fun _ _ _ => .nil) (st_cons (sv 0) (st_cons (sv 1) st_nil)))))) (fun a oe pn => (sss_one (ss_set (i := 2) sc__law_refused.nd rfl (by first | exact Or.inl rfl | exact Or.inr rfl) (se_op op_addA lift_add (sv 2) se_int)))))
    (sss_one (ss_ret (sv 2))))))
def m__law_told_right : MS := (seqS (setS 2 (retM .non))
  (seqS (ifS (asB (op1 (gIsi .tup) (mVar 1))) (setS 2 (fcallM F__law_place_by [] (consM (op2 gIx (mVar 0) (retM (.int 2))) (consM (mVar 1) nilM)))) skipS)
  (seqS (ifS (asB (op2 (gEq true) (op1 gReprL (lstM (consM (fcallM F_is_row [] (consM (mVar 0) (consM (mVar 1) nilM))) (consM (fcallM F_is_row [] (consM (mVar 0) (consM (mVar 1) nilM))) nilM)))) (op1 gReprL (op2 gMulB (lstM (consM (op2 (gIs true) (mVar 2) (retM .non)) nilM)) (retM (.int 2)))))) (retS (retM (.bl false))) skipS)
  (seqS (ifS (asB (op2 (gIs false) (mVar 2) (retM .non))) (retS (op2 (gEq false) (fcallM F__law_refused [] (consM (mVar 0) (consM (mVar 1) nilM))) (retM (.int 2)))) skipS)
  (seqS (setS 3 (ownM (lcM (op1 srcV (mVar 1)) (.nm 4) [4] (asB (op2 (gEq false) (op2 gIx (mVar 4) (retM (.int 2))) (retM (.str [33])))) (mVar 4))))
  (retS (op2 (gEq false) (op1 gReprL (lstM (consM (fcallM F_place_behind [] (consM (mVar 0) (consM (mVar 1) nilM))) (consM (fcallM F_is_faultless [] (consM (mVar 0) (consM (mVar 1) nilM))) nilM)))) (op1 gReprL (lstM (consM (mVar 2) (consM (op2 (gEq false) (mVar 3) (lstM nilM)) nilM)))))))))))
def F__law_told_right : List D → MH → R D := fnD 2 5 m__law_told_right
theorem sc__law_told_right : FnScope ["board", "what", "due", "faults", "step"] ["board", "what"] (defScope (top 51)) := ⟨rfl, rfl, rfl, by decide +kernel, rfl, by decide +kernel, by decide +kernel⟩
abbrev O__law_told_right (P : Program) (w : World) (K : PySem.W.Frag) (mg : Str → Option Value) (base : Heap) : Prop := DfOk P w K mg base "_law_told_right" "_law_told_right" (defArgs (top 51)) (defBody (top 51)) (defScope (top 51)) [] [] (He.fAd K ("_law_told_right", none)) 10 ["board", "what"] F__law_told_right
theorem ok__law_told_right {P : Program} {w : World} {K : PySem.W.Frag} {mg : Str → Option Value} {base : Heap} (x : Fx K mg) : O__law_told_right P w K mg base := by
  obtain ⟨fd, F⟩ := x.c.def_ 38 (d := d__law_told_right) rfl
  obtain ⟨fd_is_row, F_is_row, M_is_row⟩ := ok_is_row (P := P) (w := w) (base := base) x
  obtain ⟨fd_place_behind, F_place_behind, M_place_behind⟩ := ok_place_behind (P := P) (w := w) (base := base) x
  obtain ⟨fd_is_faultless, F_is_faultless, M_is_faultless⟩ := ok_is_faultless (P := P) (w := w) (base := base) x
  obtain ⟨fd__law_place_by, F__law_place_by, M__law_place_by⟩ := ok__law_place_by (P := P) (w := w) (base := base) x
  obtain ⟨fd__law_refused, F__law_refused, M__law_refused⟩ := ok__law_refused (P := P) (w := w) (base := base) x
  refine ⟨fd, F, fnM_of F sc__law_told_right (by decide) fun cdv A outer s H hgd hr => ?_⟩
  have hu := hr.units
  have hu5 := u65 hr
  exact (sss_cons (ss_set (i := 2) sc__law_told_right.nd rfl (by first | exact Or.inl rfl | exact Or.inr rfl) se_non)
    (sss_cons (ss_if (sb_val (se_isi .tup (by decide) rfl (x.free 46) rfl (x.free 55) boot_tuple (sv 1))) (sss_one (ss_set (i := 2) sc__law_told_right.nd rfl (by first | exact Or.inl rfl | exact Or.inr rfl) (se_call (ds := []) (dvs := []) M__law_place_by hgd (hr.mono (by decide)) rfl (x.glo 35) F__law_place_by.kp (F__law_place_by.bindsN fun _ _ _ _ _ _ us hl => match us, hl with | [_, _], _ => rfl) .nil (fun _ _ _ => .nil) (st_cons (se_ix (sv 0) se_int) (st_cons (sv 1) st_nil))))) sss_nil)
    (sss_cons (ss_if (sb_cmp (op_neM hu) lift_eq (se_b1 (cr_repr hgd hu) lift_reprL rfl (x.free 52) boot_repr (se_lst (st_cons (se_call (ds := []) (dvs := []) M_is_row hgd (hr.mono (by decide)) rfl (x.glo 18) F_is_row.kp (F_is_row.bindsN fun _ _ _ _ _ _ us hl => match us, hl with | [_, _], _ => rfl) .nil (fun _ _ _ => .nil) (st_cons (sv 0) (st_cons (sv 1) st_nil))) (st_cons (se_call (ds := []) (dvs := []) M_is_row hgd (hr.mono (by decide)) rfl (x.glo 18) F_is_row.kp (F_is_row.bindsN fun _ _ _ _ _ _ us hl => match us, hl with | [_, _], _ => rfl) .nil (fun _ _ _ => .nil) (st_cons (sv 0) (st_cons (sv 1) st_nil))) st_nil)))) (se_b1 (cr_repr hgd hu) lift_reprL rfl (x.free 52) boot_repr (se_op op_mulB lift_mulB (se_lst (st_cons (se_cmp op_notN lift_notN (sv 2) se_non) st_nil)) se_int))) (sss_one (ss_ret se_bl)) sss_nil)
    (sss_cons (ss_if (sb_cmp op_isN lift_isN (sv 2) se_non) (sss_one (ss_ret (se_cmp (op_eqM hu) lift_eq (se_call (ds := []) (dvs := []) M__law_refused hgd (hr.mono (by decide)) rfl (x.glo 37) F__law_refused.kp (F__law_refused.bindsN fun _ _ _ _ _ _ us hl => match us, hl with | [_, _], _ => rfl) .nil (fun _ _ _ => .nil) (st_cons (sv 0) (st_cons (sv 1) st_nil))) se_int))) sss_nil)
    (sss_cons (by first | exact ss_setLc (own := [("step", 4)]) (i := 3) rfl sc__law_told_right.nd rfl rfl rfl (si_val (sv 1)) (blk_ok (by rfl)) (by decide) (fun _ _ _ _ _ => (sg_name (i := 4) sc__law_told_right.nd rfl (by first | exact Or.inl rfl | exact Or.inr rfl))) (fun _ _ _ _ _ => (sts_one (sb_cmp (op_eqM hu) lift_eq (se_ix (sv 4) se_int) (se_str [33])))) (fun _ _ _ _ _ => (sv 4)) | exact ss_set (i := 3) sc__law_told_right.nd rfl (by first | exact Or.inl rfl | exact Or.inr rfl) (se_own (se_lc (own := [("step", 4)]) rfl sc__law_told_right.nd (si_val (sv 1)) (blk_ok (by rfl)) (by decide) (fun _ _ _ _ _ => (sg_name (i := 4) sc__law_told_right.nd rfl (by first | exact Or.inl rfl | exact Or.inr rfl))) (fun _ _ _ _ _ => (sts_one (sb_cmp (op_eqM hu) lift_eq (se_ix (sv 4) se_int) (se_str [33])))) (fun _ _ _ _ _ => (sv 4)))))
    (sss_one (ss_ret (se_cmp (op_eqM hu) lift_eq (se_b1 (cr_repr hgd hu) lift_reprL rfl (x.free 52) boot_repr (se_lst (st_cons (se_call (ds := []) (dvs := []) M_place_behind.toM hgd (hr.mono (by decide)) rfl (x.glo 20) F_place_behind.kp (F_place_behind.bindsN fun _ _ _ _ _ _ us hl => match us, hl with | [_, _], _ => rfl) .nil (fun _ _ _ => .nil) (st_cons (sv 0) (st_cons (sv 1) st_nil))) (st_cons (se_call (ds := []) (dvs := []) M_is_faultless.toM hgd (hr.mono (by decide)) rfl (x.glo 21) F_is_faultless.kp (F_is_faultless.bindsN fun _ _ _ _ _ _ us hl => match us, hl with | [_, _], _ => rfl) .nil (fun _ _ _ => .nil) (st_cons (sv 0) (st_cons (sv 1) st_nil))) st_nil)))) (se_b1 (cr_repr hgd hu) lift_reprL rfl (x.free 52) boot_repr (se_lst (st_cons (sv 2) (st_cons (se_cmp (op_eqM hu) lift_eq (sv 3) (se_lst st_nil)) st_nil))))))))))))
def m_law : MS := (seqS (forS (srcA enumV (consM (op2 gAdd (lstM (consM (retM (.int 0)) nilM)) (fcallM F__law_folded [] (consM (mVar 0) (consM (retM (.int 6)) nilM)))) nilM)) (.tu [(.nm 1), (.nm 2)]) (seqS (setS 3 (fcallM F__law_pot [] (consM (mVar 2) (consM (mVar 1) nilM))))
  (seqS (setS 4 (fcallM F__law_board [] (consM (mVar 3) (consM (op2 gIx (lstM (consM (retM (.int 7)) (consM (retM (.int 39)) nilM))) (op1 gInt (andV (op2 (gEq false) (fcallM F__law_take [] (consM (mVar 3) (consM (retM (.int 4)) nilM))) (retM (.int 0))) (op2 (gEq false) (mVar 1) (retM (.int 1)))))) nilM))))
  (seqS (setS 5 (fcallM F__law_row [] (consM (mVar 3) (consM (op2 gIx (mVar 4) (retM (.int 2))) (consM (op2 gIx (lstM (consM (fcallM F__law_take [] (consM (mVar 3) (consM (retM (.int 9)) nilM))) (consM (retM (.int 30)) (consM (retM (.int 399)) nilM)))) (fcallM F__law_take [] (consM (mVar 3) (consM (retM (.int 3)) nilM)))) nilM)))))
  (seqS (setS 6 (ownM (slM (mVar 5) (retM .non) (partM (fcallM F__law_take [] (consM (mVar 3) (consM (op2 gAdd (op1 gLen (mVar 5)) (retM (.int 1))) nilM)))))))
  (seqS (ifS (orB (notB (asB (fcallM F__law_told_right [] (consM (mVar 4) (consM (mVar 5) nilM))))) (notB (asB (fcallM F__law_told_right [] (consM (mVar 4) (consM (mVar 6) nilM)))))) (retS (retM (.bl false))) skipS)
  (forS (srcA range1V (consM (retM (.int 8)) nilM)) (.nm 7) (seqS (setS 8 (fcallM F__law_otherwise [] (consM (mVar 3) (consM (mVar 4) (consM (mVar 5) nilM)))))
  (seqS (setS 9 (op1 gReprL (lstM (consM (mVar 4) (consM (mVar 8) nilM)))))
  (ifS (orB (notB (asB (fcallM F__law_told_right [] (consM (mVar 4) (consM (mVar 8) nilM))))) (asB (op2 (gEq true) (op1 gReprL (lstM (consM (mVar 4) (consM (mVar 8) nilM)))) (mVar 9)))) (retS (retM (.bl false))) skipS))))))))))
  (retS (retM (.bl true))))
def F_law : List D → MH → R D := fnD 1 10 m_law
theorem sc_law : FnScope ["script", "at", "cell", "pot", "board", "row", "short", "turn", "what", "kept"] ["script"] (defScope (top 52)) := ⟨rfl, rfl, rfl, by decide +kernel, rfl, by decide +kernel, by decide +kernel⟩
abbrev O_law (P : Program) (w : World) (K : PySem.W.Frag) (mg : Str → Option Value) (base : Heap) : Prop := DfOk P w K mg base "law" "law" (defArgs (top 52)) (defBody (top 52)) (defScope (top 52)) [] [] (He.fAd K ("law", none)) 11 ["script"] F_law
theorem ok_law {P : Program} {w : World} {K : PySem.W.Frag} {mg : Str → Option Value} {base : Heap} (x : Fx K mg) : O_law P w K mg base := by
  obtain ⟨fd, F⟩ := x.c.def_ 39 (d := d_law) rfl
  obtain ⟨fd__law_pot, F__law_pot, M__law_pot⟩ := ok__law_pot (P := P) (w := w) (base := base) x
  obtain ⟨fd__law_take, F__law_take, M__law_take⟩ := ok__law_take (P := P) (w := w) (base := base) x
  obtain ⟨fd__law_folded, F__law_folded, M__law_folded⟩ := ok__law_folded (P := P) (w := w) (base := base) x
  obtain ⟨fd__law_board, F__law_board, M__law_board⟩ := ok__law_board (P := P) (w := w) (base := base) x
  obtain ⟨fd__law_row, F__law_row, M__law_row⟩ := ok__law_row (P := P) (w := w) (base := base) x
  obtain ⟨fd__law_otherwise, F__law_otherwise, M__law_otherwise⟩ := ok__law_otherwise (P := P) (w := w) (base := base) x
  obtain ⟨fd__law_told_right, F__law_told_right, M__law_told_right⟩ := ok__law_told_right (P := P) (w := w) (base := base) x
  refine ⟨fd, F, fnM_of F sc_law (by decide) fun cdv A outer s H hgd hr => ?_⟩
  have hu := hr.units
  have hu5 := u65 hr
  exact (sss_cons (ss_for PassesOwn.never rfl (si_enum (st_cons (se_op op_addA lift_add (se_lst (st_cons se_int st_nil)) (se_call (ds := []) (dvs := []) M__law_folded hgd (hr.mono (by decide)) rfl (x.glo 24) F__law_folded.kp (F__law_folded.bindsN fun _ _ _ _ _ _ us hl => match us, hl with | [_, _], _ => rfl) .nil (fun _ _ _ => .nil) (st_cons (sv 0) (st_cons se_int st_nil)))) st_nil) rfl (x.free 44)) (sg_tup rfl (sgs_cons (sg_name (i := 1) sc_law.nd rfl (by first | exact Or.inl rfl | exact Or.inr rfl)) (sgs_cons (sg_name (i := 2) sc_law.nd rfl (by first | exact Or.inl rfl | exact Or.inr rfl)) sgs_nil))) (sss_cons (ss_set (i := 3) sc_law.nd rfl (by first | exact Or.inl rfl | exact Or.inr rfl) (se_call (ds := []) (dvs := []) M__law_pot hgd (hr.mono (by decide)) rfl (x.glo 22) F__law_pot.kp (F__law_pot.bindsN fun _ _ _ _ _ _ us hl => match us, hl with | [_, _], _ => rfl) .nil (fun _ _ _ => .nil) (st_cons (sv 2) (st_cons (sv 1) st_nil))))
    (sss_cons (ss_set (i := 4) sc_law.nd rfl (by first | exact Or.inl rfl | exact Or.inr rfl) (se_call (ds := []) (dvs := []) M__law_board hgd (hr.mono (by decide)) rfl (x.glo 33) F__law_board.kp (F__law_board.bindsN fun _ _ _ _ _ _ us hl => match us, hl with | [_, _], _ => rfl) .nil (fun _ _ _ => .nil) (st_cons (sv 3) (st_cons (se_ix (se_lst (st_cons se_int (st_cons se_int st_nil))) (se_t1 call_int1 lift_int rfl (x.free 45) boot_int (se_and (se_cmp (op_eqM hu) lift_eq (se_call (ds := []) (dvs := []) M__law_take hgd (hr.mono (by decide)) rfl (x.glo 23) F__law_take.kp (F__law_take.bindsN fun _ _ _ _ _ _ us hl => match us, hl with | [_, _], _ => rfl) .nil (fun _ _ _ => .nil) (st_cons (sv 3) (st_cons se_int st_nil))) se_int) (se_one (se_cmp (op_eqM hu) lift_eq (sv 1) se_int))))) st_nil))))
    (sss_cons (ss_set (i := 5) sc_law.nd rfl (by first | exact Or.inl rfl | exact Or.inr rfl) (se_call (ds := []) (dvs := []) M__law_row hgd (hr.mono (by decide)) rfl (x.glo 34) F__law_row.kp (F__law_row.bindsN fun _ _ _ _ _ _ us hl => match us, hl with | [_, _, _], _ => rfl) .nil (fun _ _ _ => .nil) (st_cons (sv 3) (st_cons (se_ix (sv 4) se_int) (st_cons (se_ix (se_lst (st_cons (se_call (ds := []) (dvs := []) M__law_take hgd (hr.mono (by decide)) rfl (x.glo 23) F__law_take.kp (F__law_take.bindsN fun _ _ _ _ _ _ us hl => match us, hl with | [_, _], _ => rfl) .nil (fun _ _ _ => .nil) (st_cons (sv 3) (st_cons se_int st_nil))) (st_cons se_int (st_cons se_int st_nil)))) (se_call (ds := []) (dvs := []) M__law_take hgd (hr.mono (by decide)) rfl (x.glo 23) F__law_take.kp (F__law_take.bindsN fun _ _ _ _ _ _ us hl => match us, hl with | [_, _], _ => rfl) .nil (fun _ _ _ => .nil) (st_cons (sv 3) (st_cons se_int st_nil)))) st_nil)))))
    (sss_cons (ss_set (i := 6) sc_law.nd rfl (by first | exact Or.inl rfl | exact Or.inr rfl) (se_own (se_slice (sv 5) so_none (so_some (se_call (ds := []) (dvs := []) M__law_take hgd (hr.mono (by decide)) rfl (x.glo 23) F__law_take.kp (F__law_take.bindsN fun _ _ _ _ _ _ us hl => match us, hl with | [_, _], _ => rfl) .nil (fun _ _ _ => .nil) (st_cons (sv 3) (st_cons (se_op op_addA lift_add (se_b1 call_lenA lift_len rfl (x.free 47) boot_len (sv 5)) se_int) st_nil)))))))
    (sss_cons (ss_if (SW.sb (sw_or (sb_not (sb_val (se_call (ds := []) (dvs := []) M__law_told_right hgd (hr.mono (by decide)) rfl (x.glo 38) F__law_told_right.kp (F__law_told_right.bindsN fun _ _ _ _ _ _ us hl => match us, hl with | [_, _], _ => rfl) .nil (fun _ _ _ => .nil) (st_cons (sv 4) (st_cons (sv 5) st_nil))))) (sw_or1 (sb_not (sb_val (se_call (ds := []) (dvs := []) M__law_told_right hgd (hr.mono (by decide)) rfl (x.glo 38) F__law_told_right.kp (F__law_told_right.bindsN fun _ _ _ _ _ _ us hl => match us, hl with | [_, _], _ => rfl) .nil (fun _ _ _ => .nil) (st_cons (sv 4) (st_cons (sv 6) st_nil)))))))) (sss_one (ss_ret se_bl)) sss_nil)
    (sss_one (ss_for PassesOwn.never rfl (si_range1 (st_cons se_int st_nil) rfl (x.free 51)) (sg_name (i := 7) sc_law.nd rfl (by first | exact Or.inl rfl | exact Or.inr rfl)) (sss_cons (ss_set (i := 8) sc_law.nd rfl (by first | exact Or.inl rfl | exact Or.inr rfl) (se_call (ds := []) (dvs := []) M__law_otherwise hgd (hr.mono (by decide)) rfl (x.glo 36) F__law_otherwise.kp (F__law_otherwise.bindsN fun _ _ _ _ _ _ us hl => match us, hl with | [_, _, _], _ => rfl) .nil (fun _ _ _ => .nil) (st_cons (sv 3) (st_cons (sv 4) (st_cons (sv 5) st_nil)))))
    (sss_cons (ss_set (i := 9) sc_law.nd rfl (by first | exact Or.inl rfl | exact Or.inr rfl) (se_b1 (cr_repr hgd hu) lift_reprL rfl (x.free 52) boot_repr (se_lst (st_cons (sv 4) (st_cons (sv 8) st_nil)))))
    (sss_one (ss_if (SW.sb (sw_or (sb_not (sb_val (se_call (ds := []) (dvs := []) M__law_told_right hgd (hr.mono (by decide)) rfl (x.glo 38) F__law_told_right.kp (F__law_told_right.bindsN fun _ _ _ _ _ _ us hl => match us, hl with | [_, _], _ => rfl) .nil (fun _ _ _ => .nil) (st_cons (sv 4) (st_cons (sv 8) st_nil))))) (sw_or1 (sb_cmp (op_neM hu) lift_eq (se_b1 (cr_repr hgd hu) lift_reprL rfl (x.free 52) boot_repr (se_lst (st_cons (sv 4) (st_cons (sv 8) st_nil)))) (sv 9))))) (sss_one (ss_ret se_bl)) sss_nil))))))))))))
    (sss_one (ss_ret se_bl)))
end HD
end
noncomputable section
set_option Elab.async false
set_option linter.all false
set_option maxRecDepth 100000
set_option maxHeartbeats 4000000
namespace HD
open PySem PySem.Spec L2 Dn
variable {h : MH}
theorem le_line {n : Nat} (hn : n ≤ 1000000) : n ≤ line := by unfold line; omega
def abc : List Nat := [97, 98, 99, 100, 101, 102, 103, 104, 105, 106, 107, 108, 109, 110, 111, 112, 113, 114, 115, 116, 117, 118, 119, 120, 121, 122]
theorem mem_abc (c : Nat) : c ∈ abc ↔ 97 ≤ c ∧ c ≤ 122 := by
  unfold abc
  simp only [List.mem_cons, List.not_mem_nil, or_false]
  omega
def isNm (x : List Nat) : Bool := decide (1 ≤ x.length) && decide (x.length ≤ 8) && x.all fun c => decide (c ∈ abc)
theorem name_ok (x : List Nat) (hx : x.length ≤ 1000000) : F_is_name [.str x] h = .ok (.bl (isNm x)) h := by
  have hl := le_line hx
  have key := all_lc (h := h) (src := ⟨x.map fun c => .str [c], []⟩) (p := .nm 1) (e := op2 (gIn false) (mVar 1) (retM (.str abc))) (σ0 := [some (.str x), none]) (items := x.map fun c => .str [c]) (fun d => match d with
    | .str [c] => decide (c ∈ abc)
    | _ => false) ok_nil (by rw [List.length_map]; exact hl) (fun d hd => by
      obtain ⟨c, hc, rfl⟩ := List.mem_map.mp hd
      exact ⟨[some (.str x), some (.str [c])], by simp, by simp [gIn_sign]⟩)
  have et : (orB (notB (asB (op1 (gIsi .str) (mVar 0)))) (notB (asB (chain gLe gLe (retM (.int 1)) (op1 gLen (mVar 0)) (retM (.int 8)))))) [some (.str x), none] h = .ok (!(decide (1 ≤ x.length) && decide (x.length ≤ 8))) h := by
    by_cases c1 : 1 ≤ x.length
    · have c1' : (1 : Int) ≤ x.length := by omega
      simp [gLe_int, gLen_str hl, c1, c1']
      omega
    · have c1' : ¬ (1 : Int) ≤ x.length := by omega
      simp [gLe_int, gLen_str hl, c1, c1']
  refine fn_rt rfl ?_
  show m_is_name [some (.str x), none] h = _
  unfold isNm
  cases c : (decide (1 ≤ x.length) && decide (x.length ≤ 8)) with
  | false =>
    rw [c] at et
    exact s_seq_rt (s_ift et (s_ret rfl rfl))
  | true =>
    rw [c] at et
    refine s_pass et (s_ret ?_ rfl)
    simp [wipeD]
    show R.bnd (lcL _ _ _ (op2 (gIn false) (mVar 1) (retM (.str abc))) _ _ _ _) gAll = _
    rw [key]
    simp [List.all_map, Function.comp_def]
theorem below_ok (i n : Int) : F_is_below [.int i, .int n] h = .ok (.bl (decide (0 ≤ i) && decide (i < n))) h := by
  simp [F_is_below, m_is_below, begin_, gLe_int, gLt_int]
def Rise (h : MH) : List D → Prop
  | a :: b :: r => (gLt a b h = .ok (.bl true) h ∧ a.st = true ∧ b.st = true) ∧ Rise h (b :: r)
  | _ => True
theorem rise_zip : ∀ {ds : List D}, Rise h ds → ∀ p ∈ ds.zip (ds.drop 1), gLt p.1 p.2 h = .ok (.bl true) h ∧ p.1.st = true ∧ p.2.st = true
  | [], _, p, hp => by simp at hp
  | [a], _, p, hp => by simp at hp
  | a :: b :: r, hr, p, hp => by
    rw [List.drop_succ_cons, List.drop_zero, List.zip_cons_cons] at hp
    rcases List.mem_cons.mp hp with rfl | hp
    · exact hr.1
    · exact rise_zip hr.2 p (by simpa using hp)
theorem cut_tail {α : Type} (ds : List α) : cutL ds (some 1) none = ds.drop 1 := by
  unfold cutL
  have e : HT.sIx ds.length 0 (some 1) = min 1 ds.length := HT.sIx_nat ds.length 0 1
  rw [e, HT.sIx_none]
  cases ds with
  | nil => rfl
  | cons a r => simp
theorem rising_ok {ds : List D} (hr : Rise h ds) (hl : ds.length ≤ 1000000) : F_is_rising [.tup ds] h = .ok (.bl true) h := by
  have key := all_lc (h := h) (src := ⟨(ds.zip (ds.drop 1)).map fun p => .tup [p.1, p.2], []⟩) (p := .tu [.nm 1, .nm 2]) (e := op2 gLt (mVar 1) (mVar 2)) (σ0 := [some (.tup ds), none, none]) (items := (ds.zip (ds.drop 1)).map fun p => .tup [p.1, p.2]) (fun d => true) ok_nil
    (le_line (by simp; omega)) (fun d hd => by
      obtain ⟨p, hp, rfl⟩ := List.mem_map.mp hd
      obtain ⟨z1, z2, z3⟩ := rise_zip hr p hp
      exact ⟨[some (.tup ds), some p.1, some p.2], by simp [z2, z3], by simp [z1]⟩)
  refine fn_rt rfl (s_ret ?_ rfl)
  simp [begin_, wipeD, partOf, cutG, cut_tail, zipV]
  simp at key
  rw [key]
  simp
end HD
end
noncomputable section
set_option Elab.async false
set_option linter.all false
set_option maxRecDepth 100000
set_option maxHeartbeats 4000000
namespace HD
open PySem PySem.Spec L2 Dn
variable {h : MH}
abbrev Nm := List Nat
structure Br where
  hr : Nm
  w : Nm
  th : Nat
  deriving DecidableEq
def Br.d (b : Br) : D := .tup [.str b.hr, .str b.w, .int b.th]
abbrev Pl := Option (Nm × List Br)
def plD : Pl → D
  | none => .non
  | some (s, bs) => .tup [.str s, .tup (bs.map Br.d)]
def flt : Nm := [33]
def optD : Option Nm → D
  | none => .non
  | some x => .str x
def mayGo (wo : Option Nm) (fa : Bool) (s : Nm) (b : Br) : Bool := (!decide (wo = some s) && !decide (wo = some b.hr)) && (fa || !decide (b.w = flt))
theorem not_in_pair (neg : Bool) (wo : Option Nm) (s x : Nm) : gIn neg (optD wo) (.tup [.str s, .str x]) h = .ok (.bl (if neg then !(decide (wo = some s) || decide (wo = some x)) else (decide (wo = some s) || decide (wo = some x)))) h := by
  cases wo with
  | none =>
    have z := gIn_non (h := h) (neg := neg) (s := .tup [.str s, .str x]) (L := [s, x]) rfl
    show gIn neg .non _ h = _
    rw [z]
    cases neg <;> simp
  | some y =>
    have z := gIn_strs (h := h) (neg := neg) (s := .tup [.str s, .str x]) (L := [s, x]) y rfl (fun _ e => by cases e)
    show gIn neg (.str y) _ h = _
    rw [z]
    have e : decide (y ∈ [s, x]) = (decide (some y = some s) || decide (some y = some x)) := by
      by_cases c1 : y = s <;> by_cases c2 : y = x <;> simp [c1, c2]
    rw [e]
theorem may_go_ok (s : Nm) (b : Br) (wo : Option Nm) (fa : Bool) : F_may_go [.str s, b.d, optD wo, .bl fa] h = .ok (.bl (mayGo wo fa s b)) h := by
  have ho : (optD wo).st = true := by cases wo <;> rfl
  refine fn_rt rfl (s_seq (σ1 := [some (.str s), some b.d, some (optD wo), some (.bl fa), some (.str b.hr), some (.str b.w), some (.int b.th)]) (h1 := h) (s_asg (d := b.d) (by simp [begin_]) (by simp [Br.d, begin_])) (s_ret ?_ rfl))
  unfold mayGo flt
  simp [begin_, le_line, not_in_pair, gEq_str, line]
def vis (wo : Option Nm) (fa : Bool) (s : Nm) (q : List Nat × List Nat) (b : Br) : List Nat × List Nat := if (mayGo wo fa s b && !decide (b.th ∈ q.1)) = true then (q.1 ++ [b.th], q.2 ++ [b.th]) else q
def dctI (F : List Nat) : MO := .dct (F.map fun k : Nat => (D.int (k : Int), D.bl true))
def lstI (C : List Nat) : MO := .lst (C.map fun k : Nat => D.int (k : Int))
theorem look_int (k : Nat) : ∀ F : List Nat, (lookD (.int (k : Int)) (F.map fun k : Nat => (D.int (k : Int), D.bl true))).isSome = decide (k ∈ F)
  | [] => rfl
  | x :: F => by
    rw [List.map_cons, lookD]
    have e : keyB (.int (x : Int)) (.int (k : Int)) = decide (x = k) := by
      unfold keyB keyD
      by_cases c : x = k
      · subst c; simp
      · have : ¬ (x : Int) = (k : Int) := fun z => c (by omega)
        simp [c, this]
    rw [e]
    by_cases c : x = k
    · subst c; simp
    · rw [if_neg (by simp [c]), look_int k F]
      have : ¬ k = x := fun z => c z.symm
      simp [this]
theorem put_int (k : Nat) (F : List Nat) (hk : k ∉ F) : putD (.int (k : Int)) (.bl true) (F.map fun k : Nat => (D.int (k : Int), D.bl true)) = (F ++ [k]).map fun k : Nat => (D.int (k : Int), D.bl true) := by
  unfold putD
  have e : ((F.map fun k : Nat => (D.int (k : Int), D.bl true)).any fun kv => keyB kv.1 (.int (k : Int))) = false := by
    rw [List.any_map, List.any_eq_false]
    intro x hx
    have : ¬ (x : Int) = (k : Int) := fun z => hk (by have : x = k := by omega
                                                      subst this; exact hx)
    simp [keyB, keyD, this]
  rw [if_neg (by rw [e]; simp)]
  simp
variable {P S W Fa : D}
def FC (h0 h : MH) (F C : List Nat) : Prop := h = h0 ++ [dctI F, lstI C]
theorem FC.f {h0 : MH} {F C : List Nat} (e : FC h0 h F C) : h[h0.length]? = some (dctI F) := by rw [e]; simp
theorem FC.c {h0 : MH} {F C : List Nat} (e : FC h0 h F C) : h[h0.length + 1]? = some (lstI C) := by rw [e]; simp
theorem FC.setf {h0 : MH} {F C F' : List Nat} (e : FC h0 h F C) : FC h0 (h.set h0.length (dctI F')) F' C := by
  rw [e]; unfold FC
  rw [List.set_append_right _ _ (Nat.le_refl _)]
  simp
theorem FC.setc {h0 : MH} {F C C' : List Nat} (e : FC h0 h F C) : FC h0 (h.set (h0.length + 1) (lstI C')) F C' := by
  rw [e]; unfold FC
  rw [List.set_append_right _ _ (Nat.le_succ _)]
  simp
theorem gIn_dct {h0 : MH} {F C : List Nat} (e : FC h0 h F C) (neg : Bool) (k : Nat) : gIn neg (.int (k : Int)) (.ref h0.length) h = .ok (.bl (if neg then !decide (k ∈ F) else decide (k ∈ F))) h := by
  have e1 : inH h (.int (k : Int)) (.ref h0.length) = some (decide (k ∈ F)) := by
    unfold inH
    dsimp only
    have r1 : rowOf h (.ref h0.length) = none := by simp [rowOf, lstOf, e.f, dctI]
    have r2 : dctOf h (.ref h0.length) = some (F.map fun k : Nat => (D.int (k : Int), D.bl true)) := by simp [dctOf, e.f, dctI]
    rw [r1, r2]
    dsimp only
    rw [if_pos (by rfl), look_int]
  unfold gIn
  rw [e1]
theorem gSet_dct {h0 : MH} {F C : List Nat} (e : FC h0 h F C) {k : Nat} (hk : k ∉ F) (hl : F.length < 1000000) : gSet (.ref h0.length) (.int (k : Int)) (.bl true) h = some (h.set h0.length (dctI (F ++ [k]))) := by
  unfold gSet
  dsimp only
  rw [e.f]
  unfold dctI
  dsimp only
  rw [if_pos ⟨rfl, by rw [List.length_map]; unfold line; omega⟩, put_int k F hk]
theorem gApp_int {h0 : MH} {F C : List Nat} (e : FC h0 h F C) (k : Nat) (hl : C.length < 1000000) : gAppend (.ref (h0.length + 1)) [.int (k : Int)] h = .ok .non (h.set (h0.length + 1) (lstI (C ++ [k]))) := by
  unfold gAppend
  dsimp only
  rw [e.c]
  unfold lstI
  dsimp only
  rw [if_pos ⟨rfl, by rw [List.length_map]; unfold line; omega⟩]
  simp
theorem ty_int {h0 : MH} {F C : List Nat} (e : FC h0 h F C) : tyB .lst h (.ref (h0.length + 1)) = true := by
  simp [tyB, lstOf, e.c, lstI]
def visB : MS := (ifS (andB (asB (fcallM F_may_go [] (consM (mVar 8) (consM (mVar 7) (consM (mVar 2) (consM (mVar 3) nilM)))))) (asB (op2 (gIn true) (op2 gIx (mVar 7) (retM (.int 2))) (mVar 4)))) (seqS (setIxS (mVar 4) (op2 gIx (mVar 7) (retM (.int 2))) (retM (.bl true)))
  (exprS (mtM .lst gAppend (mVar 5) (consM (op2 gIx (mVar 7) (retM (.int 2))) nilM)))) skipS)
theorem vis_ok {h0 : MH} {F C : List Nat} (e : FC h0 h F C) (wo : Option Nm) (fa : Bool) (s : Nm) (b : Br) (x6 x9 : Option D) (l1 : F.length < 1000000) (l2 : C.length < 1000000) :
    ∃ h1, visB [some P, some S, some (optD wo), some (.bl fa), some (.ref h0.length), some (.ref (h0.length + 1)), x6, some b.d, some (.str s), x9] h = .nx [some P, some S, some (optD wo), some (.bl fa), some (.ref h0.length), some (.ref (h0.length + 1)), x6, some b.d, some (.str s), x9] h1 ∧
      FC h0 h1 (vis wo fa s (F, C) b).1 (vis wo fa s (F, C) b).2 := by
  have ho : (optD wo).st = true := by cases wo <;> rfl
  have ix : gIx b.d (.int 2) h = .ok (.int (b.th : Int)) h := rfl
  have bst : b.d.st = true := rfl
  have et : (andB (asB (fcallM F_may_go [] (consM (mVar 8) (consM (mVar 7) (consM (mVar 2) (consM (mVar 3) nilM)))))) (asB (op2 (gIn true) (op2 gIx (mVar 7) (retM (.int 2))) (mVar 4)))) [some P, some S, some (optD wo), some (.bl fa), some (.ref h0.length), some (.ref (h0.length + 1)), x6, some b.d, some (.str s), x9] h = .ok (mayGo wo fa s b && !decide (b.th ∈ F)) h := by
    simp [ho, bst, may_go_ok, ix, gIn_dct e]
  unfold vis
  cases cc : (mayGo wo fa s b && !decide (b.th ∈ F)) with
  | false =>
    rw [cc] at et
    refine ⟨h, s_iff et rfl, ?_⟩
    simpa [cc] using e
  | true =>
    rw [cc] at et
    have nf : b.th ∉ F := by
      simp at cc
      exact cc.2
    have e2 := e.setf (F' := F ++ [b.th])
    refine ⟨(h.set h0.length (dctI (F ++ [b.th]))).set (h0.length + 1) (lstI (C ++ [b.th])), s_ift et (s_seq (s_setIx (v := .bl true) (o := .ref h0.length) (i := .int (b.th : Int)) (h1 := h) (h2 := h) (h3 := h) rfl rfl (by simp [ix]) rfl (gSet_dct e nf l1)) (s_expr (d := .non) ?_)), ?_⟩
    · have ix2 : gIx b.d (.int 2) (h.set h0.length (dctI (F ++ [b.th]))) = .ok (.int (b.th : Int)) (h.set h0.length (dctI (F ++ [b.th]))) := rfl
      simp [ty_int e2, ix2, gApp_int e2 b.th l2]
    · simpa [cc] using e2.setc (C' := C ++ [b.th])
theorem vis_len (wo : Option Nm) (fa : Bool) (s : Nm) (q : List Nat × List Nat) (b : Br) : (vis wo fa s q b).1.length ≤ q.1.length + 1 ∧ (vis wo fa s q b).2.length ≤ q.2.length + 1 := by
  unfold vis
  split <;> simp
abbrev sgW (P S : D) (wo : Option Nm) (fa : Bool) (h0 : MH) (x6 x7 x8 x9 : Option D) : Sg := [some P, some S, some (optD wo), some (.bl fa), some (.ref h0.length), some (.ref (h0.length + 1)), x6, x7, x8, x9]
theorem visL_ok {h0 : MH} (wo : Option Nm) (fa : Bool) (s : Nm) (x6 x9 : Option D) (its : List D) : ∀ (bs : List Br) (x7 : Option D) (F C : List Nat) (h : MH), FC h0 h F C → F.length + bs.length < 1000000 → C.length + bs.length < 1000000 →
    ∃ h1 x7', forL ⟨its, []⟩ (.nm 7) visB (bs.map Br.d) (sgW P S wo fa h0 x6 x7 (some (.str s)) x9) h = .nx (sgW P S wo fa h0 x6 x7' (some (.str s)) x9) h1 ∧ FC h0 h1 (bs.foldl (vis wo fa s) (F, C)).1 (bs.foldl (vis wo fa s) (F, C)).2
  | [], x7, F, C, h, e, _, _ => ⟨h, x7, forL_nil ok_nil, e⟩
  | b :: bs, x7, F, C, h, e, l1, l2 => by
    rw [List.length_cons] at l1 l2
    obtain ⟨h1, e1, z1⟩ := vis_ok (P := P) (S := S) e wo fa s b x6 x9 (by omega) (by omega)
    have ln := vis_len wo fa s (F, C) b
    obtain ⟨h2, x7', e2, z2⟩ := visL_ok wo fa s x6 x9 its bs (some b.d) _ _ h1 z1 (by have := ln.1; simp at this; omega) (by have := ln.2; simp at this; omega)
    refine ⟨h2, x7', ?_, z2⟩
    rw [List.map_cons]
    have ep : Pat.put (.nm 7) b.d (sgW P S wo fa h0 x6 x7 (some (.str s)) x9) = some (sgW P S wo fa h0 x6 (some b.d) (some (.str s)) x9) := by simp [Br.d]
    exact (forL_nx ok_nil ep e1).trans e2
def turn (wo : Option Nm) (fa : Bool) (pls : List Pl) (F C : List Nat) (x : Nat) : List Nat × List Nat := match pls[x]? with
  | some (some (s, bs)) => bs.foldl (vis wo fa s) (F, C)
  | _ => (F, C)
def turnB : MS := (seqS (setS 6 (mtM .lst gPop (mVar 5) nilM))
  (seqS (asgS (.tu [(.nm 8), (.nm 9)]) (ifM (asB (op2 (gIs true) (op2 gIx (mVar 0) (mVar 6)) (retM .non))) (op2 gIx (mVar 0) (mVar 6)) (tupM (consM (retM .non) (consM (tupM nilM) nilM)))))
  (forS (op1 srcV (mVar 9)) (.nm 7) visB)))
theorem gPop_int {h0 : MH} {F C : List Nat} {x : Nat} (e : FC h0 h F (C ++ [x])) : gPop (.ref (h0.length + 1)) [] h = .ok (.int (x : Int)) (h.set (h0.length + 1) (lstI C)) := by
  unfold gPop
  dsimp only
  rw [e.c]
  unfold lstI
  simp
theorem ix_pl (pls : List Pl) {x : Nat} {p : Pl} (e : pls[x]? = some p) : gIx (.tup (pls.map plD)) (.int (x : Int)) h = .ok (plD p) h := gIx_tup (Dn.atI_nat (by rw [List.getElem?_map, e]; rfl))
theorem turn_ok {h0 : MH} {F C : List Nat} {x : Nat} (e : FC h0 h F (C ++ [x])) (wo : Option Nm) (fa : Bool) (pls : List Pl) (hx : x < pls.length) (hb : ∀ s bs, some (s, bs) ∈ pls → bs.length ≤ 1000) (l1 : F.length < 100000) (l2 : C.length < 100000) (x6 x7 x8 x9 : Option D) :
    ∃ h1 y6 y7 y8 y9, turnB (sgW (.tup (pls.map plD)) S wo fa h0 x6 x7 x8 x9) h = .nx (sgW (.tup (pls.map plD)) S wo fa h0 y6 y7 y8 y9) h1 ∧ FC h0 h1 (turn wo fa pls F C x).1 (turn wo fa pls F C x).2 := by
  obtain ⟨p, ep⟩ : ∃ p, pls[x]? = some p := ⟨_, List.getElem?_eq_getElem hx⟩
  have e2 := e.setc (C' := C)
  have st : (optD wo).st = true := by cases wo <;> rfl
  have q1 : setS 6 (mtM .lst gPop (mVar 5) nilM) (sgW (.tup (pls.map plD)) S wo fa h0 x6 x7 x8 x9) h = .nx (sgW (.tup (pls.map plD)) S wo fa h0 (some (.int (x : Int))) x7 x8 x9) (h.set (h0.length + 1) (lstI C)) :=
    s_set (d := .int (x : Int)) (by simp [ty_int e, gPop_int e]) rfl
  unfold turn turnB
  rw [ep]
  generalize h.set (h0.length + 1) (lstI C) = g at e2 q1
  have ix := ix_pl (h := g) pls ep
  cases p with
  | none =>
    refine ⟨g, _, _, _, _, s_seq q1 (s_seq (σ1 := sgW (.tup (pls.map plD)) S wo fa h0 (some (.int (x : Int))) x7 (some .non) (some (.tup []))) (h1 := g) (s_asg (d := .tup [.non, .tup []]) ?_ (by simp)) (s_for (src := ⟨[], []⟩) (h1 := g) (by simp) (forL_nil ok_nil))), e2⟩
    simp [ix, plD, gIs, D.isNon, line]
  | some q =>
    obtain ⟨s, bs⟩ := q
    have hm := hb s bs (List.mem_of_getElem? ep)
    obtain ⟨h1, y7, e3, z3⟩ := visL_ok (P := .tup (pls.map plD)) (S := S) wo fa s (some (.int (x : Int))) (some (.tup (bs.map Br.d))) (bs.map Br.d) bs x7 F C g e2 (by omega) (by omega)
    refine ⟨h1, _, _, _, _, s_seq q1 (s_seq (σ1 := sgW (.tup (pls.map plD)) S wo fa h0 (some (.int (x : Int))) x7 (some (.str s)) (some (.tup (bs.map Br.d)))) (h1 := g) (s_asg (d := .tup [.str s, .tup (bs.map Br.d)]) ?_ (by simp)) (s_for (src := ⟨bs.map Br.d, []⟩) (h1 := g) (by simp) e3)), z3⟩
    simp [ix, plD, gIs, D.isNon]
end HD
end
noncomputable section
set_option Elab.async false
set_option linter.all false
set_option maxRecDepth 100000
set_option maxHeartbeats 4000000
namespace HD
open PySem PySem.Spec L2 Dn
variable {h : MH}
inductive Rch (E : Nat → Nat → Prop) (a : Nat) : Nat → Prop
  | refl : Rch E a a
  | step {x y : Nat} : Rch E a x → E x y → Rch E a y
def edge (wo : Option Nm) (fa : Bool) (pls : List Pl) (x y : Nat) : Prop := ∃ s bs b, pls[x]? = some (some (s, bs)) ∧ b ∈ bs ∧ mayGo wo fa s b = true ∧ b.th = y
theorem fold_vis (wo : Option Nm) (fa : Bool) (s : Nm) : ∀ (bs : List Br) (F C : List Nat), F.Nodup → ∃ new, bs.foldl (vis wo fa s) (F, C) = (F ++ new, C ++ new) ∧ (∀ y ∈ new, ∃ b ∈ bs, mayGo wo fa s b = true ∧ b.th = y) ∧ (∀ b ∈ bs, mayGo wo fa s b = true → b.th ∈ F ++ new) ∧ (F ++ new).Nodup
  | [], F, C, hF => ⟨[], by simp, by simp, by simp, by simpa using hF⟩
  | b :: bs, F, C, hF => by
    rw [List.foldl_cons]
    unfold vis
    by_cases c : (mayGo wo fa s b && !decide (b.th ∈ F)) = true
    · rw [if_pos c]
      simp at c
      have nd : (F ++ [b.th]).Nodup := by
        rw [List.nodup_append]
        refine ⟨hF, by simp, fun a ha x hx e => ?_⟩
        simp at hx
        subst hx
        subst e
        exact c.2 ha
      obtain ⟨new, e, n1, n2, n3⟩ := fold_vis wo fa s bs (F ++ [b.th]) (C ++ [b.th]) nd
      refine ⟨b.th :: new, ?_, ?_, ?_, ?_⟩
      · show bs.foldl (vis wo fa s) (F ++ [b.th], C ++ [b.th]) = _
        rw [e]
        simp
      · intro y hy
        rcases List.mem_cons.mp hy with rfl | hy
        · exact ⟨b, by simp, c.1, rfl⟩
        · obtain ⟨b', hb', z⟩ := n1 y hy
          exact ⟨b', List.mem_cons_of_mem _ hb', z⟩
      · intro b' hb' hm
        rcases List.mem_cons.mp hb' with rfl | hb'
        · simp
        · have := n2 b' hb' hm
          simpa using this
      · simpa using n3
    · rw [if_neg c]
      obtain ⟨new, e, n1, n2, n3⟩ := fold_vis wo fa s bs F C hF
      refine ⟨new, e, ?_, ?_, n3⟩
      · intro y hy
        obtain ⟨b', hb', z⟩ := n1 y hy
        exact ⟨b', List.mem_cons_of_mem _ hb', z⟩
      · intro b' hb' hm
        rcases List.mem_cons.mp hb' with rfl | hb'
        · simp [hm] at c
          exact List.mem_append_left _ c
        · exact n2 b' hb' hm
structure Far (wo : Option Nm) (fa : Bool) (pls : List Pl) (a : Nat) (F C : List Nat) : Prop where
  st : a ∈ F
  nd : F.Nodup
  lt : ∀ x ∈ F, x < pls.length
  sub : ∀ x ∈ C, x ∈ F
  rch : ∀ x ∈ F, Rch (edge wo fa pls) a x
  cl : ∀ x ∈ F, x ∉ C → ∀ y, edge wo fa pls x y → y ∈ F
theorem len_lt {F : List Nat} {n : Nat} (nd : F.Nodup) (lt : ∀ x ∈ F, x < n) : F.length ≤ n := by
  have := List.Nodup.length_le_of_subset nd (l₂ := List.range n) fun x hx => List.mem_range.mpr (lt x hx)
  simpa using this
def plOk (pls : List Pl) : Prop := ∀ s bs, some (s, bs) ∈ pls → bs.length ≤ 1000 ∧ ∀ b ∈ bs, b.th < pls.length
theorem Far.turn {wo : Option Nm} {fa : Bool} {pls : List Pl} {a : Nat} {F C : List Nat} {x : Nat} (hp : plOk pls) (I : Far wo fa pls a F (C ++ [x])) :
    ∃ new, turn wo fa pls F C x = (F ++ new, C ++ new) ∧ Far wo fa pls a (F ++ new) (C ++ new) := by
  have hx : x ∈ F := I.sub x (by simp)
  unfold HD.turn
  cases ep : pls[x]? with
  | none =>
    refine ⟨[], by simp, ?_⟩
    have := List.getElem?_eq_none_iff.mp ep
    exact absurd (I.lt x hx) (by omega)
  | some p =>
    cases p with
    | none =>
      refine ⟨[], by simp, ?_⟩
      simp only [List.append_nil]
      refine ⟨I.st, I.nd, I.lt, fun z hz => I.sub z (by simp [hz]), I.rch, fun z hz hn y e => ?_⟩
      by_cases c : z = x
      · subst c
        obtain ⟨s, bs, b, e1, _⟩ := e
        rw [ep] at e1
        cases e1
      · exact I.cl z hz (by simp [hn, c]) y e
    | some q =>
      obtain ⟨s, bs⟩ := q
      obtain ⟨new, e, n1, n2, n3⟩ := fold_vis wo fa s bs F C I.nd
      refine ⟨new, e, ?_⟩
      have hb := hp s bs (List.mem_of_getElem? ep)
      refine ⟨by simp [I.st], n3, fun z hz => ?_, fun z hz => ?_, fun z hz => ?_, fun z hz hn y ey => ?_⟩
      · rcases List.mem_append.mp hz with hz | hz
        · exact I.lt z hz
        · obtain ⟨b, hb', _, rfl⟩ := n1 z hz
          exact hb.2 b hb'
      · rcases List.mem_append.mp hz with hz | hz
        · exact List.mem_append_left _ (I.sub z (by simp [hz]))
        · exact List.mem_append_right _ hz
      · rcases List.mem_append.mp hz with hz | hz
        · exact I.rch z hz
        · obtain ⟨b, hb', hm, e3⟩ := n1 z hz
          exact (I.rch x hx).step ⟨s, bs, b, ep, hb', hm, e3⟩
      · rcases List.mem_append.mp hz with hz | hz
        · by_cases c : z = x
          · subst c
            obtain ⟨s', bs', b, e1, hb', hm, rfl⟩ := ey
            rw [ep] at e1
            cases e1
            exact n2 b hb' hm
          · have : z ∉ C ++ [x] := by
              simp only [List.mem_append, List.mem_singleton]
              rintro (z1 | z1)
              · exact hn (by simp [z1])
              · exact c z1
            exact List.mem_append_left _ (I.cl z hz this y ey)
        · exact absurd (List.mem_append_right C hz) hn
theorem Far.all {wo : Option Nm} {fa : Bool} {pls : List Pl} {a : Nat} {F : List Nat} (I : Far wo fa pls a F []) (x : Nat) : x ∈ F ↔ Rch (edge wo fa pls) a x := by
  refine ⟨I.rch x, fun r => ?_⟩
  induction r with
  | refl => exact I.st
  | step r e ih => exact I.cl _ ih (by simp) _ e
structure Told (E : Nat → Nat → Prop) (a : Nat) (L : List Nat) : Prop where
  up : L.Pairwise (· < ·)
  mem : ∀ x, x ∈ L ↔ Rch E a x
theorem up_eq : ∀ {L M : List Nat}, L.Pairwise (· < ·) → M.Pairwise (· < ·) → (∀ x, x ∈ L ↔ x ∈ M) → L = M := by
  intro L M hL hM h
  have p : L.Perm M := (List.perm_ext_iff_of_nodup (hL.imp fun h => Nat.ne_of_lt h) (hM.imp fun h => Nat.ne_of_lt h)).mpr h
  exact p.eq_of_pairwise (le := (· ≤ ·)) (fun a b _ _ h1 h2 => Nat.le_antisymm h1 h2) (hL.imp Nat.le_of_lt) (hM.imp Nat.le_of_lt)
theorem Told.eq {E : Nat → Nat → Prop} {a : Nat} {L M : List Nat} (x : Told E a L) (y : Told E a M) : L = M := up_eq x.up y.up fun z => (x.mem z).trans (y.mem z).symm
def srtN (F : List Nat) : List Nat := F.mergeSort (fun a b => decide (a ≤ b))
theorem srt_up {F : List Nat} (nd : F.Nodup) : (srtN F).Pairwise (· < ·) := by
  have z := List.pairwise_mergeSort (le := fun a b : Nat => decide (a ≤ b)) (fun a b c h1 h2 => by simp at *; omega) (fun a b => by simp; omega) F
  have n : (srtN F).Nodup := (List.mergeSort_perm F _).nodup_iff.mpr nd
  have z2 : (srtN F).Pairwise (· ≤ ·) := z.imp fun h => by simpa using h
  exact (z2.and n).imp fun ⟨h1, h2⟩ => by omega
theorem srt_mem {F : List Nat} {x : Nat} : x ∈ srtN F ↔ x ∈ F := (List.mergeSort_perm F _).mem_iff
theorem srt_int {F : List Nat} (nd : F.Nodup) : ((F.map fun k : Nat => (k : Int)).mergeSort leI).map D.int = (srtN F).map fun k : Nat => D.int (k : Int) := by
  have e : (srtN F).map (fun k : Nat => (k : Int)) = (F.map fun k : Nat => (k : Int)).mergeSort leI := by
    refine sorted_unique ((List.mergeSort_perm F _).map _) ?_
    rw [List.pairwise_map]
    exact (srt_up nd).imp fun h => by omega
  rw [← e, List.map_map]
  rfl
theorem ints_dct : ∀ F : List Nat, ints? (F.map fun k : Nat => (D.int (k : Int), D.bl true)) = some (F.map fun k : Nat => (k : Int))
  | [] => rfl
  | x :: F => by rw [List.map_cons, ints?, ints_dct F]; rfl
theorem gSorted_dct {h0 : MH} {F C : List Nat} (e : FC h0 h F C) (nd : F.Nodup) (hl : F.length < 64) : gSorted (.ref h0.length) h = .ok (.tl ((srtN F).map fun k : Nat => D.int (k : Int))) h := by
  have r1 : lstOf h (.ref h0.length) = none := by simp [lstOf, e.f, dctI]
  have r2 : dctOf h (.ref h0.length) = some (F.map fun k : Nat => (D.int (k : Int), D.bl true)) := by simp [dctOf, e.f, dctI]
  unfold gSorted
  rw [r1]
  dsimp only
  rw [r2]
  show (match ints? (F.map fun k : Nat => (D.int (k : Int), D.bl true)) with
    | some ks => if ks.length < 64 then R.ok (D.tl ((ks.mergeSort leI).map D.int)) h else .stuck
    | none => .stuck) = _
  rw [ints_dct]
  dsimp only
  rw [if_pos (by rw [List.length_map]; exact hl), srt_int nd]
theorem reached_ok (wo : Option Nm) (fa : Bool) (pls : List Pl) (a : Nat) (hp : plOk pls) (ha : a < pls.length) (hn : pls.length ≤ 60) :
    ∃ L g, F_reached_from [.tup (pls.map plD), .int (a : Int), optD wo, .bl fa] h = .ok (.tup (L.map fun k : Nat => D.int (k : Int))) (h ++ g) ∧ Told (edge wo fa pls) a L := by
  have ho : (optD wo).st = true := by cases wo <;> rfl
  let P : D := .tup (pls.map plD)
  let I : Nat → Sg → MH → Prop := fun k σ g => ∃ F C x6 x7 x8 x9, σ = sgW P (.int (a : Int)) wo fa h x6 x7 x8 x9 ∧ FC h g F C ∧ Far wo fa pls a F C ∧ k = 2 * (pls.length - F.length) + C.length ∧ C.length ≤ F.length
  let Z : Sg → MH → Prop := fun σ g => ∃ F x6 x7 x8 x9, σ = sgW P (.int (a : Int)) wo fa h x6 x7 x8 x9 ∧ FC h g F [] ∧ Far wo fa pls a F []
  have loop := while_inv (t := asB (op2 (gEq true) (mVar 5) (lstM nilM))) (b := turnB) I Z (fun k σ g hI => by
    obtain ⟨F, C, x6, x7, x8, x9, rfl, e, far, hk, hc⟩ := hI
    have hF := len_lt far.nd far.lt
    have lc : lstOf g (.ref (h.length + 1)) = some (C.map fun k : Nat => D.int (k : Int)) := by simp [lstOf, e.c, lstI]
    have hpu : pureL (C.map fun k : Nat => D.int (k : Int)) = true := by rw [pureL_eq, List.all_map]; simp [D.pure]
    have et : (asB (op2 (gEq true) (mVar 5) (lstM nilM))) (sgW P (.int (a : Int)) wo fa h x6 x7 x8 x9) g = .ok (!C.isEmpty) g := by
      simp [gEq_lst (neg := true) lc rfl hpu]
    rcases List.eq_nil_or_concat C with rfl | ⟨C', x, rfl⟩
    · exact ⟨g, .inl ⟨et, F, x6, x7, x8, x9, rfl, e, far⟩⟩
    · rw [List.concat_eq_append] at *
      refine ⟨g, .inr ⟨by rw [et]; simp, ?_⟩⟩
      have hx : x ∈ F := far.sub x (by simp)
      have lenC : (C' ++ [x]).length = C'.length + 1 := by simp
      obtain ⟨g1, y6, y7, y8, y9, e1, e2⟩ := turn_ok (S := .int (a : Int)) e wo fa pls (far.lt x hx) (fun s bs hm => (hp s bs hm).1) (by omega) (by omega) x6 x7 x8 x9
      obtain ⟨new, e3, far2⟩ := far.turn hp
      rw [e3] at e2
      have hF2 := len_lt far2.nd far2.lt
      simp only [List.length_append] at hF2 hk hc lenC
      refine ⟨_, g1, 2 * (pls.length - (F ++ new).length) + (C' ++ new).length, .inl e1, ?_, F ++ new, C' ++ new, y6, y7, y8, y9, rfl, e2, far2, rfl, ?_⟩
      · simp only [List.length_append]
        simp at hk
        omega
      · simp only [List.length_append]
        simp at hc
        omega)
  have st0 : FC h (h ++ [dctI [a], lstI [a]]) [a] [a] := rfl
  have far0 : Far wo fa pls a [a] [a] := ⟨by simp, by simp, fun x hx => by simp at hx; omega, fun x hx => hx, fun x hx => by simp at hx; subst hx; exact .refl, fun x hx hn => absurd hx hn⟩
  obtain ⟨σ2, g2, e2, F, x6, x7, x8, x9, rfl, e3, far⟩ := loop fuel (2 * (pls.length - 1) + 1) (sgW P (.int (a : Int)) wo fa h none none none none) (h ++ [dctI [a], lstI [a]]) (by unfold fuel; omega) ⟨[a], [a], none, none, none, none, rfl, st0, far0, rfl, Nat.le_refl _⟩
  have hF := len_lt far.nd far.lt
  refine ⟨srtN F, [dctI F, lstI []], ?_, srt_up far.nd, fun x => srt_mem.trans (far.all x)⟩
  have eh : g2 = h ++ [dctI F, lstI []] := e3
  rw [← eh]
  refine fn_rt rfl ?_
  show m_reached_from [some P, some (.int (a : Int)), some (optD wo), some (.bl fa), none, none, none, none, none, none] h = _
  refine s_seq (h1 := h ++ [dctI [a]]) (σ1 := [some P, some (.int (a : Int)), some (optD wo), some (.bl fa), some (.ref h.length), none, none, none, none, none]) (s_set (d := .ref h.length) ?_ rfl) ?_
  · simp [keyD]
    rfl
  refine s_seq (h1 := h ++ [dctI [a], lstI [a]]) (σ1 := [some P, some (.int (a : Int)), some (optD wo), some (.bl fa), some (.ref h.length), some (.ref (h.length + 1)), none, none, none, none]) (s_set (d := .ref (h.length + 1)) ?_ rfl) ?_
  · simp [line]
    rfl
  refine s_seq e2 (s_ret ?_ rfl)
  simp [gSorted_dct e3 far.nd (by omega), gTuple, lstOf]
end HD
end
noncomputable section
set_option Elab.async false
set_option linter.all false
set_option maxRecDepth 100000
set_option maxHeartbeats 4000000
namespace HD
open PySem PySem.Spec L2 Dn
variable {h : MH}
def bvis (wo : Option Nm) (fa : Bool) (s : Nm) (F : List Nat) (b : Br) : List Nat := if (mayGo wo fa s b && !decide (b.th ∈ F)) = true then F ++ [b.th] else F
def LF (h0 h : MH) (F : List Nat) : Prop := h = h0 ++ [lstI F]
theorem LF.at {h0 : MH} {F : List Nat} (e : LF h0 h F) : h[h0.length]? = some (lstI F) := by rw [e]; simp
theorem LF.set {h0 : MH} {F F' : List Nat} (e : LF h0 h F) : LF h0 (h.set h0.length (lstI F')) F' := by
  rw [e]; unfold LF
  rw [List.set_append_right _ _ (Nat.le_refl _)]
  simp
theorem LF.lst {h0 : MH} {F : List Nat} (e : LF h0 h F) : lstOf h (.ref h0.length) = some (F.map fun k : Nat => D.int (k : Int)) := by simp [lstOf, e.at, lstI]
theorem LF.ty {h0 : MH} {F : List Nat} (e : LF h0 h F) : tyB .lst h (.ref h0.length) = true := by simp [tyB, e.lst]
theorem LF.app {h0 : MH} {F : List Nat} (e : LF h0 h F) (k : Nat) (hl : F.length < 1000000) : gAppend (.ref h0.length) [.int (k : Int)] h = .ok .non (h.set h0.length (lstI (F ++ [k]))) := by
  unfold gAppend
  dsimp only
  rw [e.at]
  unfold lstI
  dsimp only
  rw [if_pos ⟨rfl, by rw [List.length_map]; unfold line; omega⟩]
  simp
theorem LF.inn {h0 : MH} {F : List Nat} (e : LF h0 h F) (neg : Bool) (k : Nat) : gIn neg (.int (k : Int)) (.ref h0.length) h = .ok (.bl (if neg then !decide (k ∈ F) else decide (k ∈ F))) h := by
  have z := gIn_ints (h := h) (neg := neg) (s := .ref h0.length) (L := F.map fun k : Nat => (k : Int)) (k : Int) (by
    show lstOf h (.ref h0.length) = _
    rw [e.lst, List.map_map]
    rfl)
  rw [z]
  have e2 : decide ((k : Int) ∈ F.map fun k : Nat => (k : Int)) = decide (k ∈ F) := by
    have : (k : Int) ∈ F.map (fun k : Nat => (k : Int)) ↔ k ∈ F := by
      rw [List.mem_map]
      constructor
      · rintro ⟨j, hj, e⟩
        have : j = k := by omega
        subst this
        exact hj
      · exact fun hk => ⟨k, hk, rfl⟩
    simp only [this]
  rw [e2]
variable {P S : D}
abbrev sgB (P S : D) (wo : Option Nm) (fa : Bool) (h0 : MH) (x5 x6 x7 x8 x9 : Option D) : Sg := [some P, some S, some (optD wo), some (.bl fa), some (.ref h0.length), x5, x6, x7, x8, x9]
def bvisB : MS := (ifS (andB (asB (op2 (gIn true) (mVar 2) (tupM (consM (op2 gIx (mVar 6) (retM (.int 0))) (consM (mVar 7) nilM))))) (andB (orB (asB (mVar 3)) (asB (op2 (gEq true) (mVar 8) (retM (.str [33]))))) (asB (op2 (gIn true) (mVar 9) (mVar 4))))) (exprS (mtM .lst gAppend (mVar 4) (consM (mVar 9) nilM))) skipS)
theorem bvis_ok {h0 : MH} {F : List Nat} (e : LF h0 h F) (wo : Option Nm) (fa : Bool) (s : Nm) (B : D) (hB : B.st = true) (b : Br) (x5 : Option D) (l1 : F.length < 1000000) :
    ∃ h1, bvisB (sgB P S wo fa h0 x5 (some (.tup [.str s, B])) (some (.str b.hr)) (some (.str b.w)) (some (.int b.th))) h = .nx (sgB P S wo fa h0 x5 (some (.tup [.str s, B])) (some (.str b.hr)) (some (.str b.w)) (some (.int b.th))) h1 ∧ LF h0 h1 (bvis wo fa s F b) := by
  have ho : (optD wo).st = true := by cases wo <;> rfl
  have ix : gIx (.tup [.str s, B]) (.int 0) h = .ok (.str s) h := rfl
  have et : (andB (asB (op2 (gIn true) (mVar 2) (tupM (consM (op2 gIx (mVar 6) (retM (.int 0))) (consM (mVar 7) nilM))))) (andB (orB (asB (mVar 3)) (asB (op2 (gEq true) (mVar 8) (retM (.str [33]))))) (asB (op2 (gIn true) (mVar 9) (mVar 4))))) (sgB P S wo fa h0 x5 (some (.tup [.str s, B])) (some (.str b.hr)) (some (.str b.w)) (some (.int b.th))) h = .ok (mayGo wo fa s b && !decide (b.th ∈ F)) h := by
    unfold mayGo flt
    simp [ho, ix, line, not_in_pair, gEq_str, e.inn]
    cases (decide (wo = some s)) <;> cases (decide (wo = some b.hr)) <;> cases fa <;> cases (decide (b.w = [33])) <;> simp
  unfold bvis
  cases cc : (mayGo wo fa s b && !decide (b.th ∈ F)) with
  | false =>
    rw [cc] at et
    refine ⟨h, s_iff et rfl, ?_⟩
    simpa using e
  | true =>
    rw [cc] at et
    refine ⟨h.set h0.length (lstI (F ++ [b.th])), s_ift et (s_expr (d := .non) ?_), ?_⟩
    · simp [e.ty, e.app b.th l1]
    · simpa using e.set (F' := F ++ [b.th])
theorem bvisL_ok {h0 : MH} (wo : Option Nm) (fa : Bool) (s : Nm) (B : D) (hB : B.st = true) (x5 : Option D) (its : List D) : ∀ (bs : List Br) (x7 x8 x9 : Option D) (F : List Nat) (h : MH), LF h0 h F → F.length + bs.length < 1000000 →
    ∃ h1 y7 y8 y9, forL ⟨its, []⟩ (.tu [.nm 7, .nm 8, .nm 9]) bvisB (bs.map Br.d) (sgB P S wo fa h0 x5 (some (.tup [.str s, B])) x7 x8 x9) h = .nx (sgB P S wo fa h0 x5 (some (.tup [.str s, B])) y7 y8 y9) h1 ∧ LF h0 h1 (bs.foldl (bvis wo fa s) F)
  | [], x7, x8, x9, F, h, e, _ => ⟨h, x7, x8, x9, forL_nil ok_nil, e⟩
  | b :: bs, x7, x8, x9, F, h, e, l1 => by
    rw [List.length_cons] at l1
    obtain ⟨h1, e1, z1⟩ := bvis_ok (P := P) (S := S) e wo fa s B hB b x5 (by omega)
    have ln : (bvis wo fa s F b).length ≤ F.length + 1 := by unfold bvis; split <;> simp
    obtain ⟨h2, y7, y8, y9, e2, z2⟩ := bvisL_ok wo fa s B hB x5 its bs (some (.str b.hr)) (some (.str b.w)) (some (.int b.th)) _ h1 z1 (by omega)
    refine ⟨h2, y7, y8, y9, ?_, z2⟩
    rw [List.map_cons]
    have ep : Pat.put (.tu [.nm 7, .nm 8, .nm 9]) b.d (sgB P S wo fa h0 x5 (some (.tup [.str s, B])) x7 x8 x9) = some (sgB P S wo fa h0 x5 (some (.tup [.str s, B])) (some (.str b.hr)) (some (.str b.w)) (some (.int b.th))) := by simp [Br.d]
    exact (forL_nx ok_nil ep e1).trans e2
theorem fold_bvis (wo : Option Nm) (fa : Bool) (s : Nm) : ∀ (bs : List Br) (F : List Nat), F.Nodup → ∃ new, bs.foldl (bvis wo fa s) F = F ++ new ∧ (∀ y ∈ new, ∃ b ∈ bs, mayGo wo fa s b = true ∧ b.th = y) ∧ (∀ b ∈ bs, mayGo wo fa s b = true → b.th ∈ F ++ new) ∧ (F ++ new).Nodup := by
  intro bs F hF
  obtain ⟨new, e, n⟩ := fold_vis wo fa s bs F F hF
  refine ⟨new, ?_, n⟩
  have key : ∀ (bs : List Br) (F C : List Nat), bs.foldl (bvis wo fa s) F = (bs.foldl (vis wo fa s) (F, C)).1 := by
    intro bs
    induction bs with
    | nil => intro F C; rfl
    | cons b bs ih =>
      intro F C
      rw [List.foldl_cons, List.foldl_cons]
      unfold bvis vis
      by_cases c : (mayGo wo fa s b && !decide (b.th ∈ F)) = true
      · rw [if_pos c, if_pos c]
        exact ih _ _
      · rw [if_neg c, if_neg c]
        exact ih _ _
  rw [key bs F F, e]
structure FarB (wo : Option Nm) (fa : Bool) (pls : List Pl) (a : Nat) (F : List Nat) (i : Nat) : Prop where
  st : a ∈ F
  nd : F.Nodup
  lt : ∀ x ∈ F, x < pls.length
  rch : ∀ x ∈ F, Rch (edge wo fa pls) a x
  cl : ∀ j x, j < i → F[j]? = some x → ∀ y, edge wo fa pls x y → y ∈ F
def bturn (wo : Option Nm) (fa : Bool) (pls : List Pl) (F : List Nat) (x : Nat) : List Nat := match pls[x]? with
  | some (some (s, bs)) => bs.foldl (bvis wo fa s) F
  | _ => F
theorem FarB.turn {wo : Option Nm} {fa : Bool} {pls : List Pl} {a : Nat} {F : List Nat} {i x : Nat} (hp : plOk pls) (I : FarB wo fa pls a F i) (hi : F[i]? = some x) :
    ∃ new, bturn wo fa pls F x = F ++ new ∧ FarB wo fa pls a (F ++ new) (i + 1) := by
  have hx : x ∈ F := List.mem_of_getElem? hi
  have il := (List.getElem?_eq_some_iff.mp hi).1
  have step : ∀ new : List Nat, (∀ y, edge wo fa pls x y → y ∈ F ++ new) → ∀ j z, j < i + 1 → (F ++ new)[j]? = some z → ∀ y, edge wo fa pls z y → y ∈ F ++ new := fun new hc j z hj ez y ey => by
    rw [List.getElem?_append_left (by omega)] at ez
    by_cases c : j = i
    · subst c
      rw [hi] at ez
      cases ez
      exact hc y ey
    · exact List.mem_append_left _ (I.cl j z (by omega) ez y ey)
  unfold bturn
  cases ep : pls[x]? with
  | none => exact absurd (I.lt x hx) (by have := List.getElem?_eq_none_iff.mp ep; omega)
  | some p =>
    cases p with
    | none =>
      refine ⟨[], by simp, ?_⟩
      have hs := step [] (fun y ey => by
        obtain ⟨s, bs, b, e1, _⟩ := ey
        rw [ep] at e1
        cases e1)
      simp only [List.append_nil] at *
      exact ⟨I.st, I.nd, I.lt, I.rch, hs⟩
    | some q =>
      obtain ⟨s, bs⟩ := q
      obtain ⟨new, e, n1, n2, n3⟩ := fold_bvis wo fa s bs F I.nd
      refine ⟨new, e, by simp [I.st], n3, fun z hz => ?_, fun z hz => ?_, step new fun y ey => ?_⟩
      · rcases List.mem_append.mp hz with hz | hz
        · exact I.lt z hz
        · obtain ⟨b, hb', _, rfl⟩ := n1 z hz
          exact (hp s bs (List.mem_of_getElem? ep)).2 b hb'
      · rcases List.mem_append.mp hz with hz | hz
        · exact I.rch z hz
        · obtain ⟨b, hb', hm, e3⟩ := n1 z hz
          exact (I.rch x hx).step ⟨s, bs, b, ep, hb', hm, e3⟩
      · obtain ⟨s', bs', b, e1, hb', hm, rfl⟩ := ey
        rw [ep] at e1
        cases e1
        exact n2 b hb' hm
theorem FarB.all {wo : Option Nm} {fa : Bool} {pls : List Pl} {a : Nat} {F : List Nat} {i : Nat} (I : FarB wo fa pls a F i) (hi : F.length ≤ i) (x : Nat) : x ∈ F ↔ Rch (edge wo fa pls) a x := by
  refine ⟨I.rch x, fun r => ?_⟩
  induction r with
  | refl => exact I.st
  | step r e ih =>
    obtain ⟨j, hj⟩ := List.getElem?_of_mem ih
    exact I.cl j _ (by have := (List.getElem?_eq_some_iff.mp hj).1; omega) hj _ e
def bturnB : MS := (seqS (setS 6 (op2 gIx (mVar 0) (op2 gIx (mVar 4) (mVar 5))))
  (seqS (setS 5 (op2 gAdd (mVar 5) (retM (.int 1))))
  (forS (op1 srcV (ifM (asB (op2 (gIs true) (mVar 6) (retM .non))) (op2 gIx (mVar 6) (retM (.int 1))) (tupM nilM))) (.tu [(.nm 7), (.nm 8), (.nm 9)]) bvisB)))
theorem bturn_ok {h0 : MH} {F : List Nat} {i x : Nat} (e : LF h0 h F) (hi : F[i]? = some x) (wo : Option Nm) (fa : Bool) (pls : List Pl) (hx : x < pls.length) (hb : ∀ s bs, some (s, bs) ∈ pls → bs.length ≤ 1000) (l1 : F.length < 100000) (x6 x7 x8 x9 : Option D) :
    ∃ h1 y6 y7 y8 y9, bturnB (sgB (.tup (pls.map plD)) S wo fa h0 (some (.int (i : Int))) x6 x7 x8 x9) h = .nx (sgB (.tup (pls.map plD)) S wo fa h0 (some (.int ((i + 1 : Nat) : Int))) y6 y7 y8 y9) h1 ∧ LF h0 h1 (bturn wo fa pls F x) := by
  obtain ⟨p, ep⟩ : ∃ p, pls[x]? = some p := ⟨_, List.getElem?_eq_getElem hx⟩
  have ho : (optD wo).st = true := by cases wo <;> rfl
  have i1 : gIx (.ref h0.length) (.int (i : Int)) h = .ok (.int (x : Int)) h := gIx_lst e.lst (Dn.atI_nat (by rw [List.getElem?_map, hi]; rfl))
  have i2 := ix_pl (h := h) pls ep
  have add : gAdd (.int (i : Int)) (.int 1) h = .ok (.int ((i + 1 : Nat) : Int)) h := rfl
  have q1 : setS 6 (op2 gIx (mVar 0) (op2 gIx (mVar 4) (mVar 5))) (sgB (.tup (pls.map plD)) S wo fa h0 (some (.int (i : Int))) x6 x7 x8 x9) h = .nx (sgB (.tup (pls.map plD)) S wo fa h0 (some (.int (i : Int))) (some (plD p)) x7 x8 x9) h :=
    s_set (d := plD p) (by simp [i1, i2]) (by cases p <;> rfl)
  have q2 : setS 5 (op2 gAdd (mVar 5) (retM (.int 1))) (sgB (.tup (pls.map plD)) S wo fa h0 (some (.int (i : Int))) (some (plD p)) x7 x8 x9) h = .nx (sgB (.tup (pls.map plD)) S wo fa h0 (some (.int ((i + 1 : Nat) : Int))) (some (plD p)) x7 x8 x9) h :=
    s_set (d := .int ((i + 1 : Nat) : Int)) (by simp [add]) rfl
  unfold bturn bturnB
  rw [ep]
  cases p with
  | none =>
    exact ⟨h, _, _, _, _, s_seq q1 (s_seq q2 (s_for (src := ⟨[], []⟩) (h1 := h) (by simp [plD, gIs, D.isNon, line]) (forL_nil ok_nil))), e⟩
  | some q =>
    obtain ⟨s, bs⟩ := q
    have hm := hb s bs (List.mem_of_getElem? ep)
    obtain ⟨h1, y7, y8, y9, e3, z3⟩ := bvisL_ok (P := .tup (pls.map plD)) (S := S) wo fa s (.tup (bs.map Br.d)) rfl (some (.int ((i + 1 : Nat) : Int))) (bs.map Br.d) bs x7 x8 x9 F h e (by omega)
    have i3 : gIx (plD (some (s, bs))) (.int 1) h = .ok (.tup (bs.map Br.d)) h := rfl
    refine ⟨h1, _, _, _, _, s_seq q1 (s_seq q2 (s_for (src := ⟨bs.map Br.d, []⟩) (h1 := h) ?_ e3)), z3⟩
    simp [i3]
    simp [plD, gIs, D.isNon]
    have i4 : gIx (.tup [.str s, .tup (bs.map Br.d)]) (.int 1) h = .ok (.tup (bs.map Br.d)) h := rfl
    rw [i4]
    rfl
theorem gSorted_lst {d : D} {ds : List D} (e : lstOf h d = some ds) (ok : sortOk ds = true) : gSorted d h = .ok (.tl (ds.mergeSort leD)) h := by
  unfold gSorted
  rw [e]
  dsimp only
  rw [if_pos ok]
theorem sort_ints {F : List Nat} (nd : F.Nodup) : sortOk (F.map fun k : Nat => D.int (k : Int)) = true ∧ (F.map fun k : Nat => D.int (k : Int)).mergeSort leD = (srtN F).map fun k : Nat => D.int (k : Int) := by
  constructor
  · unfold sortOk allAlike
    simp only [Bool.and_eq_true, Bool.or_eq_true, List.all_eq_true, List.mem_map, pureL_eq, decide_eq_true_eq]
    refine ⟨⟨⟨?_, ?_⟩, .inr ?_⟩, ?_⟩
    · rintro _ ⟨k, _, rfl⟩; rfl
    · rintro _ ⟨k, _, rfl⟩ _ ⟨j, _, rfl⟩; simp [D.py, PySem.W.alike]
    · rintro _ ⟨k, _, rfl⟩; rfl
    · rintro _ ⟨k, _, rfl⟩; simp [D.py, PyData.depth]
  · have e : ((F.map fun k : Nat => D.int (k : Int)).mergeSort leD).Perm ((srtN F).map fun k : Nat => D.int (k : Int)) := (List.mergeSort_perm _ _).trans (((List.mergeSort_perm F _).map _).symm)
    have le : ∀ a b : Nat, leD (.int (a : Int)) (.int (b : Int)) = decide (a ≤ b) := fun a b => by
      unfold leD
      rw [lt_int]
      by_cases c : a ≤ b
      · have : ¬ (b : Int) < (a : Int) := by omega
        simp [c, this]
      · have : (b : Int) < (a : Int) := by omega
        simp [c, this]
    have z : (F.map fun k : Nat => D.int (k : Int)).mergeSort leD = (F.mergeSort fun a b => decide (a ≤ b)).map fun k : Nat => D.int (k : Int) := by
      rw [List.map_mergeSort]
      intro a _ b _
      exact (le a b).symm
    exact z
end HD
end
noncomputable section
set_option Elab.async false
set_option linter.all false
set_option maxRecDepth 100000
set_option maxHeartbeats 4000000
namespace Dn
open PySem PySem.Spec L2
section
variable {σ σ1 : Sg} {h h1 h2 h3 : MH} {d : D}
theorem all_lcG {src : Src} {p : Pat} {t : M Bool} {e : M D} {σ0 : Sg} (ok : ∀ g, src.ok (h ++ g)) : ∀ (ds acc : List D) (g : MH), (∀ d ∈ acc, d = .bl true) → acc.length + ds.length ≤ line →
    (∀ d ∈ ds, ∀ g, ∃ σ1, p.put d σ0 = some σ1 ∧ (t σ1 (h ++ g) = .ok false (h ++ g) ∨ (t σ1 (h ++ g) = .ok true (h ++ g) ∧ ∃ g', e σ1 (h ++ g) = .ok (.bl true) (h ++ g ++ g')))) →
    ∃ acc2 g2, lcL src p t e σ0 ds acc (h ++ g) = .ok (.tl acc2) (h ++ g ++ g2) ∧ ∀ d ∈ acc2, d = .bl true
  | [], acc, g, ha, _, _ => ⟨acc, [], by rw [lcL_nil (ok g), List.append_nil], ha⟩
  | d :: ds, acc, g, ha, hl, hf => by
    rw [List.length_cons] at hl
    obtain ⟨σ1, ep, z⟩ := hf d List.mem_cons_self g
    rcases z with et | ⟨et, g', ee⟩
    · obtain ⟨a2, g2, e2, z2⟩ := all_lcG ok ds acc g ha (by omega) fun d hd => hf d (List.mem_cons_of_mem _ hd)
      exact ⟨a2, g2, by rw [lcL_no (ok g) ep et, e2], z2⟩
    · obtain ⟨a2, g2, e2, z2⟩ := all_lcG ok ds (acc ++ [.bl true]) (g ++ g') (fun x hx => by
        rcases List.mem_append.mp hx with hx | hx
        · exact ha x hx
        · simpa using hx) (by simp; omega) fun d hd => hf d (List.mem_cons_of_mem _ hd)
      refine ⟨a2, g' ++ g2, ?_, z2⟩
      rw [lcL_yes (ok g) ep et ee rfl (by omega)]
      simp only [List.append_assoc] at e2 ⊢
      exact e2
theorem gAll_true {ds : List D} (ht : ∀ d ∈ ds, d = .bl true) : gAll (.tl ds) h = .ok (.bl true) h := by
  have e : bools ds = some (ds.map fun _ => true) := by
    induction ds with
    | nil => rfl
    | cons d ds ih =>
      rw [ht d List.mem_cons_self, bools, ih fun x hx => ht x (List.mem_cons_of_mem _ hx)]
      rfl
  unfold gAll
  show (match bools ds with | some bs => R.ok (D.bl (bs.all id)) h | none => .stuck) = _
  rw [e]
  simp
theorem forG {src : Src} {p : Pat} {b : MS} (P : Sg → Prop) (ok : ∀ g, src.ok (h ++ g)) : ∀ (ds : List D) (σ : Sg) (g : MH), P σ →
    (∀ d ∈ ds, ∀ σ g, P σ → ∃ σ1 σ2 g', p.put d σ = some σ1 ∧ b σ1 (h ++ g) = .nx σ2 (h ++ g ++ g') ∧ P σ2) →
    ∃ σ2 g2, forL src p b ds σ (h ++ g) = .nx σ2 (h ++ g ++ g2) ∧ P σ2
  | [], σ, g, hP, _ => ⟨σ, [], by rw [forL_nil (ok g), List.append_nil], hP⟩
  | d :: ds, σ, g, hP, hf => by
    obtain ⟨σ1, σ2, g', ep, eb, hP2⟩ := hf d List.mem_cons_self σ g hP
    obtain ⟨σ3, g2, e2, z⟩ := forG P ok ds σ2 (g ++ g') hP2 fun d hd => hf d (List.mem_cons_of_mem _ hd)
    refine ⟨σ3, g' ++ g2, ?_, z⟩
    rw [forL_nx (ok g) ep eb]
    simp only [List.append_assoc] at e2 ⊢
    exact e2
theorem dists_nodup {κ : Type} [DecidableEq κ] : ∀ (ks acc : List κ), (ks ++ acc).Nodup → (dists acc ks).length = acc.length + ks.length
  | [], acc, _ => rfl
  | k :: ks, acc, h => by
    rw [List.cons_append, List.nodup_cons, List.mem_append] at h
    have hk : k ∉ acc := fun z => h.1 (.inr z)
    show (dists (if k ∈ acc then acc else k :: acc) ks).length = _
    rw [if_neg hk, dists_nodup ks (k :: acc) (by
      have : (ks ++ k :: acc).Perm (k :: (ks ++ acc)) := List.perm_middle
      rw [this.nodup_iff, List.nodup_cons, List.mem_append]
      exact h)]
    simp
    omega
theorem cnt_nodup {κ : Type} [DecidableEq κ] {kd : D → Option κ} {ds : List D} {ks : List κ} (e : keysOf kd ds = some ks) (nd : ks.Nodup) (hl : ds.length < 64) : cntK kd ds h = .ok (.int (ds.length : Int)) h := by
  have ln := keysOf_len e
  unfold cntK
  rw [e]
  dsimp only
  rw [if_pos (by omega), dists_nodup ks [] (by simpa using nd)]
  simp [ln]
theorem keys_strs : ∀ L : List (List Nat), keysOf keyD (L.map D.str) = some (L.map fun x => (Sum.inr (mx x) : Key))
  | [] => rfl
  | x :: L => by
    rw [List.map_cons, keysOf, keys_strs L]
    rfl
theorem nodup_keys {L : List (List Nat)} (nd : L.Nodup) : (L.map fun x => (Sum.inr (mx x) : Key)).Nodup := by
  rw [List.Nodup, List.pairwise_map]
  exact nd.imp fun hne e => hne (by
    have := Sum.inr.inj e
    exact mx_inj.mp this)
theorem lenSet_row {κ : Type} [DecidableEq κ] {kd : D → Option κ} {src : Src} {i : Nat} {ks : List κ} {σ0 : Sg} (ok : src.ok h) (hi : i < σ0.length) (hst : ∀ d ∈ src.items, d.st = true) (e : keysOf kd src.items = some ks) (nd : ks.Nodup) (hl : src.items.length < 64) :
    bindR (lcL src (.nm i) (retM true) (mVar i) σ0 src.items [] h) (cntK kd) = .ok (.int (src.items.length : Int)) h := by
  rw [lcL_map (fun d => some d) ok src.items [] (fun d hd => ⟨σ0.set i (some d), by simp [hst d hd], rfl, by simp [hi], hst d hd⟩) (by unfold line; simp; omega)]
  have : src.items.filterMap (fun d => some d) = src.items := by simp
  rw [this, List.nil_append]
  exact cnt_nodup e nd hl
end
end Dn
end
noncomputable section
set_option Elab.async false
set_option linter.all false
set_option maxRecDepth 100000
set_option maxHeartbeats 4000000
namespace HD
open PySem PySem.Spec L2 Dn
variable {h : MH}
def brLt (b c : Br) : Prop := b.hr < c.hr ∨ (b.hr = c.hr ∧ b.w < c.w)
def isF (b : Br) : Bool := decide (b.w = flt)
structure SayOk (hands weak : List Nm) (n : Nat) (s : Nm) (bs : List Br) : Prop where
  sh : s ∈ hands
  l1 : 1 ≤ bs.length
  l8 : bs.length ≤ 8
  br : ∀ b ∈ bs, b.hr ∈ hands ∧ (isNm b.w = true ∨ b.w = flt) ∧ b.th < n
  up : bs.Pairwise brLt
  ns : ∀ b ∈ bs, b.hr ≠ s
  fl : (bs.filter isF).length = if s ∈ weak then 1 else 0
  ff : (bs.filter isF).length ≠ bs.length
structure Good (hands weak : List Nm) (pls : List Pl) : Prop where
  h2 : 2 ≤ hands.length
  h6 : hands.length ≤ 6
  hn : ∀ x ∈ hands, isNm x = true
  hd : hands.Nodup
  wn : ∀ x ∈ weak, x ∈ hands
  wu : weak.Pairwise (· < ·)
  p1 : 1 ≤ pls.length
  p40 : pls.length ≤ 40
  say : ∀ s bs, some (s, bs) ∈ pls → SayOk hands weak pls.length s bs
  all : ∀ x, x < pls.length → Rch (edge none true pls) 0 x
  flt : ∀ s bs b, some (s, bs) ∈ pls → b ∈ bs → b.w = flt → ∀ x s' bs', Rch (edge none true pls) b.th x → pls[x]? = some (some (s', bs')) → s ≠ s' ∧ ∀ b' ∈ bs', s ≠ b'.hr
def handsD (hands : List Nm) : D := .tup (hands.map .str)
def boardD (hands weak : List Nm) (pls : List Pl) : D := .tup [handsD hands, handsD weak, .tup (pls.map plD)]
theorem nm_len {x : Nm} (hx : isNm x = true) : x.length ≤ 8 ∧ 1 ≤ x.length := by
  unfold isNm at hx
  simp at hx
  omega
theorem name_true {x : Nm} (hx : isNm x = true) : F_is_name [.str x] h = .ok (.bl true) h := by
  rw [name_ok x (by have := nm_len hx; omega), hx]
theorem in_hands (neg : Bool) (x : Nm) (L : List Nm) : gIn neg (.str x) (handsD L) h = .ok (.bl (if neg then !decide (x ∈ L) else decide (x ∈ L))) h := gIn_strs x rfl fun t e => by cases e
theorem hands_st (L : List Nm) : (handsD L).st = true := rfl
theorem flt_len : flt.length ≤ 1000000 := by decide
theorem flt_name : isNm flt = false := by decide
theorem lt_br {b c : Br} (hbc : brLt b c) : gLt b.d c.d h = .ok (.bl true) h := by
  have al : PySem.W.alike b.d.py c.d.py = true := by simp [Br.d, D.py, pyL, PySem.W.alike, PySem.W.alikeAll]
  have lt : PySem.W.dataLt b.d.py c.d.py = true := by
    have e1 : ∀ x : Br, x.d.py = .tuple [(D.str x.hr).py, (D.str x.w).py, (D.int x.th).py] := fun x => by simp [Br.d, D.py, pyL]
    rw [e1, e1, PySem.W.dataLt_tuple, PySem.W.dataLt_cons (by simp [D.py, PySem.W.alike])]
    rcases hbc with h1 | ⟨h1, h2⟩
    · have ne : ¬ b.hr = c.hr := fun e => by rw [e] at h1; exact absurd h1 (List.lt_irrefl _)
      rw [eqv_str, if_neg (by simp [ne]), lt_str]
      exact decide_eq_true h1
    · have ne : ¬ b.w = c.w := fun e => by rw [e] at h2; exact absurd h2 (List.lt_irrefl _)
      rw [eqv_str, if_pos (by simp [h1]), PySem.W.dataLt_cons (by simp [D.py, PySem.W.alike]), eqv_str, if_neg (by simp [ne]), lt_str]
      exact decide_eq_true h2
  unfold gLt gCmp ltH
  rw [if_pos ⟨⟨by simp [Br.d, D.pure, pureL], by simp [Br.d, D.pure, pureL]⟩, ⟨al, rfl⟩, by simp [Br.d, D.py, pyL, PyData.depth, PyData.depthAll]⟩, lt]
  rfl
theorem rise_of {α : Type} {f : α → D} {R : α → α → Prop} (hst : ∀ a, (f a).st = true) (hR : ∀ a b, R a b → gLt (f a) (f b) h = .ok (.bl true) h) : ∀ {L : List α}, L.Pairwise R → Rise h (L.map f)
  | [], _ => trivial
  | [a], _ => trivial
  | a :: b :: r, hp => by
    rw [List.pairwise_cons] at hp
    exact ⟨⟨hR a b (hp.1 b (by simp)), hst a, hst b⟩, rise_of hst hR hp.2⟩
theorem hands_true {hands : List Nm} (h2 : 2 ≤ hands.length) (h6 : hands.length ≤ 6) (hn : ∀ x ∈ hands, isNm x = true) (nd : hands.Nodup) : F_are_hands [handsD hands] h = .ok (.bl true) h := by
  have key := all_lc (h := h) (src := ⟨hands.map .str, []⟩) (p := .nm 1) (e := fcallM F_is_name [] (consM (mVar 1) nilM)) (σ0 := [some (handsD hands), none]) (items := hands.map .str) (fun _ => true) ok_nil (by unfold line; simp; omega) (fun d hd => by
    obtain ⟨x, hx, rfl⟩ := List.mem_map.mp hd
    exact ⟨[some (handsD hands), some (.str x)], by simp, by simp [name_true (hn x hx)]⟩)
  have ks := lenSet_row (h := h) (src := ⟨hands.map .str, []⟩) (i := 1) (σ0 := [some (handsD hands), none]) ok_nil (by simp) (by simp) (keys_strs hands) (nodup_keys nd) (by simp; omega)
  refine fn_rt rfl (s_pass (h1 := h) ?_ (s_ret ?_ rfl))
  · have c1 : (2 : Int) ≤ hands.length := by omega
    have c2 : (hands.length : Int) ≤ 6 := by omega
    simp [begin_, handsD, gLe_int, c1, c2]
  · simp [begin_, wipeD, handsD] at key ks ⊢
    rw [key]
    simp [ks, gEq_int]
theorem weak_true {hands weak : List Nm} (hn : ∀ x ∈ hands, isNm x = true) (wn : ∀ x ∈ weak, x ∈ hands) (wu : weak.Pairwise (· < ·)) (hl : weak.length ≤ 1000) : F_are_weak [handsD hands, handsD weak] h = .ok (.bl true) h := by
  have key := all_lc (h := h) (src := ⟨weak.map .str, []⟩) (p := .nm 2) (e := andV (fcallM F_is_name [] (consM (mVar 2) nilM)) (op2 (gIn false) (mVar 2) (mVar 0))) (σ0 := [some (handsD hands), some (handsD weak), none]) (items := weak.map .str) (fun _ => true) ok_nil (by unfold line; simp; omega) (fun d hd => by
    obtain ⟨x, hx, rfl⟩ := List.mem_map.mp hd
    exact ⟨[some (handsD hands), some (handsD weak), some (.str x)], by simp, by simp [name_true (hn x (wn x hx)), in_hands, wn x hx]⟩)
  refine fn_rt rfl (s_pass (h1 := h) ?_ (s_ret ?_ rfl))
  · show _ = _
    have e : srcV (handsD weak) h = .ok ⟨weak.map .str, []⟩ h := rfl
    have i : gIsi .tup (handsD weak) h = .ok (.bl true) h := rfl
    simp [begin_, wipeD, e, i] at key ⊢
    rw [key]
    simp
  · simp [begin_, hands_st]
    exact rising_ok (rise_of (fun _ => rfl) (fun a b hab => by rw [gLt_str]; simp [hab]) wu) (by simp; omega)
theorem branch_true {hands : List Nm} {n : Nat} {b : Br} (hn : ∀ x ∈ hands, isNm x = true) (h1 : b.hr ∈ hands) (h2 : isNm b.w = true ∨ b.w = flt) (h3 : b.th < n) : F_is_branch [handsD hands, .int (n : Int), b.d] h = .ok (.bl true) h := by
  refine fn_rt rfl (s_pass (h1 := h) (by simp [begin_, Br.d, gEq_int]) (s_seq (h1 := h) (σ1 := [some (handsD hands), some (.int (n : Int)), some b.d, some (.str b.hr), some (.str b.w), some (.int (b.th : Int))]) (s_asg (d := b.d) (by simp [begin_]) (by simp [begin_, Br.d])) (s_ret (d := .bl true) ?_ rfl)))
  have lw : b.w.length ≤ 1000000 := by
    rcases h2 with h2 | h2
    · have := nm_len h2; omega
    · rw [h2]; exact flt_len
  have c0 : (0 : Int) ≤ b.th := by omega
  have c1 : (b.th : Int) < n := by omega
  simp [name_true (hn _ h1), in_hands, h1, name_ok b.w lw, below_ok, gEq_str, c1]
  exact h2
theorem cut2 (b : Br) : cutG b.d none (some 2) h = .ok (.tup [.str b.hr, .str b.w]) h := rfl
theorem sayD_keys : ∀ bs : List Br, keysOf tupKey (bs.map fun b => D.tup [.str b.hr, .str b.w]) = some (bs.map fun b => [(Sum.inr (mx b.hr) : Key), .inr (mx b.w)])
  | [] => rfl
  | b :: bs => by
    rw [List.map_cons, keysOf, sayD_keys bs]
    rfl
theorem up_keys {bs : List Br} (up : bs.Pairwise brLt) : (bs.map fun b => [(Sum.inr (mx b.hr) : Key), .inr (mx b.w)]).Nodup := by
  rw [List.Nodup, List.pairwise_map]
  refine up.imp fun {b c} hbc e => ?_
  have e1 := mx_inj.mp (Sum.inr.inj (List.cons.inj e).1)
  have e2 := mx_inj.mp (Sum.inr.inj (List.cons.inj (List.cons.inj e).2).1)
  rcases hbc with z | ⟨_, z⟩
  · rw [e1] at z; exact List.lt_irrefl _ z
  · rw [e2] at z; exact List.lt_irrefl _ z
def fltOf (d : D) : Option D := match d with
  | .tup [_, .str y] => if y = flt then some (.str y) else none
  | _ => none
theorem flt_count : ∀ bs : List Br, ((bs.map fun b => D.tup [.str b.hr, .str b.w]).filterMap fltOf).length = (bs.filter isF).length
  | [] => rfl
  | b :: bs => by
    rw [List.map_cons, List.filter_cons]
    by_cases c : b.w = flt
    · have e : fltOf (.tup [.str b.hr, .str b.w]) = some (.str b.w) := by unfold fltOf; dsimp only; rw [if_pos c]
      have e2 : isF b = true := decide_eq_true c
      rw [List.filterMap_cons_some e, if_pos e2, List.length_cons, List.length_cons, flt_count bs]
    · have e : fltOf (.tup [.str b.hr, .str b.w]) = none := by unfold fltOf; dsimp only; rw [if_neg c]
      have e2 : ¬ isF b = true := by unfold isF; simp [c]
      rw [List.filterMap_cons_none e, if_neg e2, flt_count bs]
theorem branches_true {hands weak : List Nm} {n : Nat} {s : Nm} {bs : List Br} (hn : ∀ x ∈ hands, isNm x = true) (ok : SayOk hands weak n s bs) :
    ∃ g, F_are_branches [handsD hands, handsD weak, .int (n : Int), .str s, .tup (bs.map Br.d)] h = .ok (.bl true) (h ++ g) := by
  let said : List D := bs.map fun b => D.tup [.str b.hr, .str b.w]
  let g : MH := [.lst said]
  let s0 : Sg := [some (handsD hands), some (handsD weak), some (.int (n : Int)), some (.str s), some (.tup (bs.map Br.d))]
  have l8 := ok.l8
  have bl : ∀ {α : Type} (f : Br → α), (bs.map f).length ≤ line := fun f => by unfold line; simp; omega
  have k1 := all_lc (h := h) (src := ⟨bs.map Br.d, []⟩) (p := .nm 5) (e := fcallM F_is_branch [] (consM (mVar 0) (consM (mVar 2) (consM (mVar 5) nilM)))) (σ0 := s0 ++ [none, none, none, none, none, none]) (items := bs.map Br.d) (fun _ => true) ok_nil (bl _) (fun d hd => by
    obtain ⟨b, hb, rfl⟩ := List.mem_map.mp hd
    obtain ⟨b1, b2, b3⟩ := ok.br b hb
    have st : b.d.st = true := rfl
    exact ⟨s0 ++ [some b.d, none, none, none, none, none], by simp [st, s0], by simp [st, s0, hands_st, branch_true hn b1 b2 b3]⟩)
  have k2 := lcL_map (h := h) (src := ⟨bs.map Br.d, []⟩) (p := .nm 5) (t := retM true) (e := ownM (slM (mVar 5) (retM .non) (partM (retM (.int 2))))) (σ0 := s0 ++ [none, none, none, none, none, none]) (fun d => match d with
    | .tup [x, y, _] => some (.tup [x, y])
    | _ => none) ok_nil (bs.map Br.d) [] (fun d hd => by
      obtain ⟨b, hb, rfl⟩ := List.mem_map.mp hd
      have st : b.d.st = true := rfl
      exact ⟨s0 ++ [some b.d, none, none, none, none, none], by simp [st, s0], rfl, by simp [s0, partOf, cut2], rfl⟩) (by simpa using bl Br.d)
  have k2' : (bs.map Br.d).filterMap (fun d => match d with
    | .tup [x, y, _] => some (D.tup [x, y])
    | _ => none) = said := by
    rw [List.filterMap_map]
    show bs.filterMap (fun b => some (D.tup [.str b.hr, .str b.w])) = _
    rw [List.filterMap_eq_map']
  rw [k2', List.nil_append] at k2
  let h1 : MH := h ++ g
  let s1 : Sg := s0 ++ [none, some (.ref h.length), none, none, none, none]
  have hs : lstOf h1 (.ref h.length) = some said := by simp [lstOf, h1, g]
  have live : (Src.mk said (liveOf (.ref h.length) said)).ok h1 := live_ok hs
  have sl : said.length ≤ line := bl _
  have k3 := lcL_map (h := h1) (src := ⟨said, liveOf (.ref h.length) said⟩) (p := .tu [.nm 8, .nm 9]) (t := asB (op2 (gEq false) (mVar 9) (retM (.str [33])))) (e := mVar 9) (σ0 := s1) fltOf live said [] (fun d hd => by
      obtain ⟨b, hb, rfl⟩ := List.mem_map.mp hd
      refine ⟨s0 ++ [none, some (.ref h.length), none, some (.str b.hr), some (.str b.w), none], by simp [s1, s0], ?_⟩
      unfold fltOf
      by_cases c : b.w = flt
      · have c' : b.w = [33] := c
        simp [s0, gEq_str, c', flt]
      · have c' : ¬ b.w = [33] := c
        simp [s0, gEq_str, c', flt]) (by simpa using sl)
  have cnt : (said.filterMap fltOf).length = (bs.filter isF).length := flt_count bs
  let s2 : Sg := s0 ++ [none, some (.ref h.length), some (.int ((bs.filter isF).length : Nat)), none, none, none]
  have k4 := lcL_map (h := h1) (src := ⟨said, liveOf (.ref h.length) said⟩) (p := .tu [.nm 8, .nm 9]) (t := retM true) (e := mVar 8) (σ0 := s2) (fun d => match d with
    | .tup [x, _] => some x
    | _ => none) live said [] (fun d hd => by
      obtain ⟨b, hb, rfl⟩ := List.mem_map.mp hd
      exact ⟨s0 ++ [none, some (.ref h.length), some (.int ((bs.filter isF).length : Nat)), some (.str b.hr), some (.str b.w), none], by simp [s2, s0], rfl, by simp [s0], rfl⟩) (by simpa using sl)
  have k4' : said.filterMap (fun d => match d with
    | .tup [x, _] => some x
    | _ => none) = (bs.map (·.hr)).map D.str := by
    show (bs.map fun b => D.tup [.str b.hr, .str b.w]).filterMap _ = _
    rw [List.filterMap_map, List.map_map]
    show bs.filterMap (fun b => some (D.str b.hr)) = _
    rw [List.filterMap_eq_map']
    rfl
  rw [k4', List.nil_append] at k4
  have nin : s ∉ bs.map (·.hr) := fun hm => by
    obtain ⟨b, hb, e⟩ := List.mem_map.mp hm
    exact ok.ns b hb e
  have k5 := gIn_strs (h := h1) (neg := true) (s := .tl ((bs.map (·.hr)).map D.str)) s rfl (fun t e => by cases e)
  have ks := lenSet_row (h := h1) (src := ⟨said, liveOf (.ref h.length) said⟩) (i := 10) (σ0 := s2) live (by simp [s2, s0]) (fun d hd => by
    obtain ⟨b, hb, rfl⟩ := List.mem_map.mp hd
    rfl) (sayD_keys bs) (up_keys ok.up) (by show said.length < 64; simp [said]; omega)
  refine ⟨g, fn_rt rfl ?_⟩
  show m_are_branches (s0 ++ [none, none, none, none, none, none]) h = _
  have c1 : (1 : Int) ≤ bs.length := by have := ok.l1; omega
  have c2 : (bs.length : Int) ≤ 8 := by omega
  refine s_pass (h1 := h) (by simp [s0, gLe_int, c1, c2]) (s_pass (h1 := h) ?_ ?_)
  · simp [s0, wipeD] at k1 ⊢
    rw [k1]
    simp [rising_ok (rise_of (fun _ => rfl) (fun a b hab => lt_br hab) ok.up) (by simp; omega)]
  refine s_seq (h1 := h1) (σ1 := s1) (s_set (d := .ref h.length) ?_ rfl) (s_seq (h1 := h1) (σ1 := s2) (s_set (d := .int ((bs.filter isF).length : Nat)) ?_ rfl) (s_pass (h1 := h1) ?_ (s_ret ?_ rfl)))
  · simp [s0, wipeD] at k2 ⊢
    rw [k2]
    simp [h1, g]
  · simp [s1, s0, wipeD] at k3 ⊢
    rw [src_lst hs]
    simp [k3]
    show gLen (.tl _) h1 = _
    rw [gLen_lst (ds := said.filterMap fltOf) rfl, cnt]
  · have e1 : gLen (.ref h.length) h1 = .ok (.int said.length) h1 := gLen_lst hs
    have ls : said.length = bs.length := by simp [said]
    have ff : ¬ ((bs.filter isF).length : Int) = bs.length := by have := ok.ff; omega
    by_cases c : s ∈ weak
    · have fl := ok.fl
      rw [if_pos c] at fl
      simp [s2, s0, in_hands, c, fl, gEq_int, e1, ls] at ff ⊢
      omega
    · have fl := ok.fl
      rw [if_neg c] at fl
      simp [s2, s0, in_hands, c, fl, gEq_int, e1, ls] at ff ⊢
      omega
  · have e1 : gLen (.ref h.length) h1 = .ok (.int said.length) h1 := gLen_lst hs
    simp [s2, s0, wipeD] at k4 ks ⊢
    rw [src_lst hs]
    simp only [List.map_map] at k5
    simp [k4, k5, nin, ks, e1, gEq_int, src_lst hs, h1]
end HD
end
noncomputable section
set_option Elab.async false
set_option linter.all false
set_option maxRecDepth 100000
set_option maxHeartbeats 4000000
namespace HD
open PySem PySem.Spec L2 Dn
variable {h : MH}
theorem saying_true {hands weak : List Nm} {n : Nat} {s : Nm} {bs : List Br} (hn : ∀ x ∈ hands, isNm x = true) (ok : SayOk hands weak n s bs) :
    ∃ g, F_is_saying [handsD hands, handsD weak, .int (n : Int), plD (some (s, bs))] h = .ok (.bl true) (h ++ g) := by
  obtain ⟨g, e⟩ := branches_true (h := h) hn ok
  have i0 : gIx (plD (some (s, bs))) (.int 0) h = .ok (.str s) h := rfl
  have i1 : gIx (plD (some (s, bs))) (.int 1) h = .ok (.tup (bs.map Br.d)) h := rfl
  have t : gIsi .tup (plD (some (s, bs))) h = .ok (.bl true) h := rfl
  have l : gLen (plD (some (s, bs))) h = .ok (.int 2) h := rfl
  refine ⟨g, fn_rt rfl (s_pass (h1 := h) ?_ (s_ret ?_ rfl))⟩
  · simp [begin_, t, l, gEq_int, i0, name_true (hn s ok.sh), in_hands, ok.sh]
  · simp [begin_, i0, i1, hands_st, e]
theorem Rch.lt {wo : Option Nm} {fa : Bool} {pls : List Pl} (hp : plOk pls) {a x : Nat} (ha : a < pls.length) (r : Rch (edge wo fa pls) a x) : x < pls.length := by
  cases r with
  | refl => exact ha
  | step r e =>
    obtain ⟨s, bs, b, e1, hb, _, rfl⟩ := e
    exact (hp s bs (List.mem_of_getElem? e1)).2 b hb
theorem gone_true (pls : List Pl) (hp : plOk pls) (hn : pls.length ≤ 60) (s : Nm) (a : Nat) (ha : a < pls.length) (hg : ∀ x s' bs', Rch (edge none true pls) a x → pls[x]? = some (some (s', bs')) → s ≠ s' ∧ ∀ b' ∈ bs', s ≠ b'.hr) :
    ∃ g, F_is_gone [.tup (pls.map plD), .str s, .int (a : Int)] h = .ok (.bl true) (h ++ g) := by
  obtain ⟨L, g, e, told⟩ := reached_ok (h := h) none true pls a hp ha hn
  let P : Sg → Prop := fun σ => ∃ x3 x4 x5 x6 x7 x8, σ = [some (.tup (pls.map plD)), some (.str s), some (.int (a : Int)), x3, x4, x5, x6, x7, x8]
  let src : Src := ⟨L.map fun k : Nat => D.int (k : Int), []⟩
  obtain ⟨σ2, g2, e2, x3, x4, x5, x6, x7, x8, rfl⟩ := forG (h := h) (src := src) (p := .nm 3) (b := (ifS (asB (op2 (gIs true) (op2 gIx (mVar 0) (mVar 3)) (retM .non))) (seqS (asgS (.tu [(.nm 4), (.nm 5)]) (op2 gIx (mVar 0) (mVar 3)))
    (ifS (asB (op2 (gIn false) (mVar 1) (op2 gAdd (lstM (consM (mVar 4) nilM)) (lcM (op1 srcV (mVar 5)) (.tu [(.nm 6), (.nm 7), (.nm 8)]) [6, 7, 8] (retM true) (mVar 6))))) (retS (retM (.bl false))) skipS)) skipS)) P (fun g => ok_nil) src.items [some (.tup (pls.map plD)), some (.str s), some (.int (a : Int)), none, none, none, none, none, none] g ⟨none, none, none, none, none, none, rfl⟩ (fun d hd σ g hP => by
      obtain ⟨x, hx, rfl⟩ := List.mem_map.mp hd
      obtain ⟨x3, x4, x5, x6, x7, x8, rfl⟩ := hP
      have rx := (told.mem x).mp hx
      obtain ⟨p, ep⟩ : ∃ p, pls[x]? = some p := ⟨_, List.getElem?_eq_getElem (rx.lt hp ha)⟩
      have ix := ix_pl (h := h ++ g) pls ep
      cases p with
      | none =>
        refine ⟨[some (.tup (pls.map plD)), some (.str s), some (.int (a : Int)), some (.int (x : Int)), x4, x5, x6, x7, x8], _, [], by simp, s_iff (h1 := h ++ g) ?_ (by rw [List.append_nil]; rfl), ⟨_, _, _, _, _, _, rfl⟩⟩
        simp [ix, plD, gIs, D.isNon]
      | some q =>
        obtain ⟨s', bs'⟩ := q
        obtain ⟨n1, n2⟩ := hg x s' bs' rx ep
        have hm := (hp s' bs' (List.mem_of_getElem? ep)).1
        let s1 : Sg := [some (.tup (pls.map plD)), some (.str s), some (.int (a : Int)), some (.int (x : Int)), some (.str s'), some (.tup (bs'.map Br.d)), x6, x7, x8]
        have k := lcL_map (h := h ++ g) (src := ⟨bs'.map Br.d, []⟩) (p := .tu [.nm 6, .nm 7, .nm 8]) (t := retM true) (e := mVar 6) (σ0 := wipeD s1 [6, 7, 8]) (fun d => match d with
          | .tup [y, _, _] => some y
          | _ => none) ok_nil (bs'.map Br.d) [] (fun d hd => by
            obtain ⟨b, hb, rfl⟩ := List.mem_map.mp hd
            exact ⟨[some (.tup (pls.map plD)), some (.str s), some (.int (a : Int)), some (.int (x : Int)), some (.str s'), some (.tup (bs'.map Br.d)), some (.str b.hr), some (.str b.w), some (.int b.th)], by simp [wipeD, s1, Br.d], rfl, by simp, rfl⟩) (by unfold line; simp; omega)
        have k' : (bs'.map Br.d).filterMap (fun d => match d with
          | .tup [y, _, _] => some y
          | _ => none) = (bs'.map (·.hr)).map D.str := by
          rw [List.filterMap_map, List.map_map]
          show bs'.filterMap (fun b => some (D.str b.hr)) = _
          rw [List.filterMap_eq_map']
          rfl
        rw [k', List.nil_append] at k
        have nin : ¬ s ∈ s' :: bs'.map (·.hr) := by
          rw [List.mem_cons]
          rintro (z | z)
          · exact n1 z
          · obtain ⟨b, hb, e⟩ := List.mem_map.mp z
            exact n2 b hb e.symm
        have add : gAdd (.tl [.str s']) (.tl ((bs'.map (·.hr)).map D.str)) (h ++ g) = .ok (.tl ((s' :: bs'.map (·.hr)).map D.str)) (h ++ g) := by
          unfold gAdd
          show (if [D.str s'].length + ((bs'.map (·.hr)).map D.str).length ≤ line then R.ok (D.tl ([D.str s'] ++ (bs'.map (·.hr)).map D.str)) (h ++ g) else .stuck) = _
          rw [if_pos (by unfold line; simp; omega)]
          rfl
        have inn := gIn_strs (h := h ++ g) (neg := false) (s := .tl ((s' :: bs'.map (·.hr)).map D.str)) s rfl (fun t e => by cases e)
        refine ⟨[some (.tup (pls.map plD)), some (.str s), some (.int (a : Int)), some (.int (x : Int)), x4, x5, x6, x7, x8], s1, [], by simp, s_ift (h1 := h ++ g) ?_ (s_seq (h1 := h ++ g) (σ1 := s1) (s_asg (d := plD (some (s', bs'))) ?_ ?_) (s_iff (h1 := h ++ g) ?_ (by rw [List.append_nil]; rfl))), ⟨_, _, _, _, _, _, rfl⟩⟩
        · simp [ix, plD, gIs, D.isNon]
        · simp [ix]
        · simp [plD, s1]
        · rw [if_neg (by simp)] at inn
          simp only [ap_asB, ap_op2, ap_lc, ap_op1, ap_lst, ap_cons, ap_nil, ap_var]
          simp [s1, line] at k add inn nin ⊢
          rw [k]
          simp [add, inn, nin]
          exact fun b hb e => n2 b hb e.symm)
  refine ⟨g ++ g2, fn_rt rfl (s_seq (s_for (src := src) (h1 := h ++ g) ?_ e2) (s_ret (d := .bl true) (by rw [ap_ret, List.append_assoc]) rfl))⟩
  have e' : F_reached_from [.tup (pls.map plD), .int (a : Int), .non, .bl true] h = .ok (.tup (L.map fun k : Nat => D.int (k : Int))) (h ++ g) := e
  simp [begin_, e', src]
theorem faults_true {hands weak : List Nm} {pls : List Pl} (G : Good hands weak pls) (hp : plOk pls) : ∃ g, F_are_faults_right [.tup (pls.map plD)] h = .ok (.bl true) (h ++ g) := by
  have p40 := G.p40
  let items : List D := (pls.map plD).filterMap fun d => match d with
    | .non => none
    | d => some d
  have ll : items.length ≤ 40 := by
    have := List.length_filterMap_le (fun d => match d with
      | D.non => none
      | d => some d) (pls.map plD)
    rw [List.length_map] at this
    exact Nat.le_trans this p40
  have k := lcL_map (h := h) (src := ⟨pls.map plD, []⟩) (p := .nm 3) (t := asB (op2 (gIs true) (mVar 3) (retM .non))) (e := mVar 3) (σ0 := [some (.tup (pls.map plD)), none, none, none, none, none, none]) (fun d => match d with
    | .non => none
    | d => some d) ok_nil (pls.map plD) [] (fun d hd => by
      obtain ⟨p, hp, rfl⟩ := List.mem_map.mp hd
      cases p with
      | none => exact ⟨[some (.tup (pls.map plD)), none, none, some .non, none, none, none], by simp [plD], by simp [plD, gIs, D.isNon]⟩
      | some q =>
        obtain ⟨s, bs⟩ := q
        exact ⟨[some (.tup (pls.map plD)), none, none, some (plD (some (s, bs))), none, none, none], by simp [plD], by simp [plD, gIs, D.isNon]⟩) (by unfold line; simp; omega)
  let P : Sg → Prop := fun σ => ∃ x1 x2 x3 x4 x5 x6, σ = [some (.tup (pls.map plD)), x1, x2, x3, x4, x5, x6]
  let src : Src := ⟨items, []⟩
  obtain ⟨σ2, g2, e2, _⟩ := forG (h := h) (src := src) (p := .tu [.nm 1, .nm 2]) (b := (ifS (notB (asB (op1 gAll (lcM (op1 srcV (mVar 2)) (.tu [(.nm 4), (.nm 5), (.nm 6)]) [4, 5, 6] (asB (op2 (gEq false) (mVar 5) (retM (.str [33])))) (fcallM F_is_gone [] (consM (mVar 0) (consM (mVar 1) (consM (mVar 6) nilM)))))))) (retS (retM (.bl false))) skipS)) P (fun g => ok_nil) src.items [some (.tup (pls.map plD)), none, none, none, none, none, none] [] ⟨none, none, none, none, none, none, rfl⟩ (fun d hd σ g hP => by
      obtain ⟨x1, x2, x3, x4, x5, x6, rfl⟩ := hP
      obtain ⟨d0, hd0, ed⟩ := List.mem_filterMap.mp hd
      obtain ⟨p, hpp, rfl⟩ := List.mem_map.mp hd0
      cases p with
      | none => cases ed
      | some q =>
        obtain ⟨s, bs⟩ := q
        cases ed
        have so := G.say s bs hpp
        let s1 : Sg := [some (.tup (pls.map plD)), some (.str s), some (.tup (bs.map Br.d)), x3, none, none, none]
        obtain ⟨acc, g3, e3, z3⟩ := all_lcG (h := h) (src := ⟨bs.map Br.d, []⟩) (p := .tu [.nm 4, .nm 5, .nm 6]) (t := asB (op2 (gEq false) (mVar 5) (retM (.str [33])))) (e := fcallM F_is_gone [] (consM (mVar 0) (consM (mVar 1) (consM (mVar 6) nilM)))) (σ0 := s1) (fun g => ok_nil) (bs.map Br.d) [] g (by simp) (by have := so.l8; unfold line; simp; omega) (fun d hd g => by
          obtain ⟨b, hb, rfl⟩ := List.mem_map.mp hd
          refine ⟨[some (.tup (pls.map plD)), some (.str s), some (.tup (bs.map Br.d)), x3, some (.str b.hr), some (.str b.w), some (.int b.th)], by simp [s1, Br.d], ?_⟩
          by_cases c : b.w = flt
          · obtain ⟨g', e'⟩ := gone_true (h := h ++ g) pls hp (by omega) s b.th (so.br b hb).2.2 (G.flt s bs b hpp hb c)
            have c' : b.w = [33] := c
            exact .inr ⟨by simp [gEq_str, c'], g', by simp [e']⟩
          · have c' : ¬ b.w = [33] := c
            exact .inl (by simp [gEq_str, c']))
        refine ⟨[some (.tup (pls.map plD)), some (.str s), some (.tup (bs.map Br.d)), x3, x4, x5, x6], _, g3, by simp [plD], s_iff (h1 := h ++ g ++ g3) ?_ rfl, ⟨_, _, _, _, _, _, rfl⟩⟩
        simp only [ap_notB, ap_asB, ap_op1, ap_lc, ap_var]
        simp [s1, wipeD] at e3 ⊢
        rw [e3]
        simp [gAll_true z3])
  simp only [List.append_nil] at e2
  refine ⟨g2, fn_rt rfl (s_seq (s_for (src := src) (h1 := h) ?_ e2) (s_ret (d := .bl true) rfl rfl))⟩
  simp [begin_, wipeD] at k ⊢
  rw [k]
  simp [src, items]
theorem good_pl {hands weak : List Nm} {pls : List Pl} (G : Good hands weak pls) : plOk pls := fun s bs hm => ⟨by have := (G.say s bs hm).l8; omega, fun b hb => ((G.say s bs hm).br b hb).2.2⟩
theorem all_len {hands weak : List Nm} {pls : List Pl} (G : Good hands weak pls) {L : List Nat} (t : Told (edge none true pls) 0 L) : L.length = pls.length := by
  have e : L = List.range pls.length := up_eq t.up List.pairwise_lt_range fun x => by
    rw [t.mem, List.mem_range]
    exact ⟨fun r => r.lt (good_pl G) (by have := G.p1; omega), G.all x⟩
  rw [e, List.length_range]
theorem board_true {hands weak : List Nm} {pls : List Pl} (G : Good hands weak pls) : ∃ g, F_is_board [boardD hands weak pls] h = .ok (.bl true) (h ++ g) := by
  have hp := good_pl G
  have p1 := G.p1
  have p40 := G.p40
  let PD : D := .tup (pls.map plD)
  let s1 : Sg := [some (boardD hands weak pls), some (handsD hands), some (handsD weak), some PD, none]
  obtain ⟨acc, g1, e1, z1⟩ := all_lcG (h := h) (src := ⟨pls.map plD, []⟩) (p := .nm 4) (t := retM true) (e := orV (op2 (gIs false) (mVar 4) (retM .non)) (fcallM F_is_saying [] (consM (mVar 1) (consM (mVar 2) (consM (op1 gLen (mVar 3)) (consM (mVar 4) nilM)))))) (σ0 := s1) (fun g => ok_nil) (pls.map plD) [] [] (by simp) (by unfold line; simp; omega) (fun d hd g => by
    obtain ⟨p, hpp, rfl⟩ := List.mem_map.mp hd
    have st : (plD p).st = true := by cases p <;> rfl
    refine ⟨[some (boardD hands weak pls), some (handsD hands), some (handsD weak), some PD, some (plD p)], by simp [s1, st], .inr ⟨rfl, ?_⟩⟩
    cases p with
    | none => exact ⟨[], by simp [plD, gIs, D.isNon]⟩
    | some q =>
      obtain ⟨s, bs⟩ := q
      obtain ⟨g', e'⟩ := saying_true (h := h ++ g) (weak := weak) G.hn (G.say s bs hpp)
      refine ⟨g', ?_⟩
      have st2 : PD.st = true := rfl
      have ln : gLen PD (h ++ g) = .ok (.int (pls.length : Nat)) (h ++ g) := by simp [PD]
      have ni : gIs false (plD (some (s, bs))) .non (h ++ g) = .ok (.bl false) (h ++ g) := rfl
      simp [st, hands_st, ln, ni, e'])
  obtain ⟨L, g2, e2, told⟩ := reached_ok (h := h ++ g1) none true pls 0 hp (by omega) (by omega)
  obtain ⟨g3, e3⟩ := faults_true (h := h ++ g1 ++ g2) G hp
  have wl : weak.length ≤ 1000 := by
    have nd : weak.Nodup := G.wu.imp fun hlt e => by subst e; exact List.lt_irrefl _ hlt
    have := List.Nodup.length_le_of_subset nd (l₂ := hands) G.wn
    have := G.h6
    omega
  have ln : ∀ h : MH, gLen PD h = .ok (.int (pls.length : Nat)) h := fun h => by simp [PD]
  have ty : ∀ h : MH, gIsi .tup PD h = .ok (.bl true) h := fun h => rfl
  refine ⟨g1 ++ g2 ++ g3, fn_rt rfl (s_pass (h1 := h) ?_ (s_seq (h1 := h) (σ1 := s1) (s_asg (d := boardD hands weak pls) ?_ ?_) (s_pass (h1 := h) ?_ (s_pass (h1 := h) ?_ (s_pass (h1 := h ++ g1) ?_ (s_ret ?_ rfl))))))⟩
  · have t : gIsi .tup (boardD hands weak pls) h = .ok (.bl true) h := rfl
    have l : gLen (boardD hands weak pls) h = .ok (.int 3) h := rfl
    simp [begin_, t, l, gEq_int]
  · simp [begin_]
  · simp [begin_, boardD, s1, PD, hands_st]
  · simp [s1, hands_st, hands_true G.h2 G.h6 G.hn G.hd, weak_true G.hn G.wn G.wu wl]
  · have c1 : (1 : Int) ≤ pls.length := by omega
    have c2 : (pls.length : Int) ≤ 40 := by omega
    simp [s1, ty, ln, gLe_int, c1, c2]
  · simp only [ap_notB, ap_asB, ap_op1, ap_lc, ap_var]
    simp [s1, wipeD, PD] at e1 ⊢
    rw [e1]
    simp [gAll_true z1]
  · have e2' : F_reached_from [PD, .int 0, .non, .bl true] (h ++ g1) = .ok (.tup (L.map fun k : Nat => D.int (k : Int))) (h ++ g1 ++ g2) := e2
    have st2 : PD.st = true := rfl
    have al := all_len G told
    have e3' : F_are_faults_right [PD] (h ++ g1 ++ g2) = .ok (.bl true) (h ++ g1 ++ g2 ++ g3) := e3
    simp only [List.append_assoc] at e2' e3' ⊢
    simp [s1, st2, e2', ln, gEq_int, al, e3']
end HD
end
noncomputable section
set_option Elab.async false
set_option linter.all false
set_option maxRecDepth 100000
set_option maxHeartbeats 4000000
namespace Dn
open PySem PySem.Spec L2
variable {h h1 h2 h3 : MH}
theorem gAdd_ii (i j : Int) : gAdd (.int i) (.int j) h = .ok (.int (i + j)) h := rfl
theorem gSub_ii (i j : Int) : gSub (.int i) (.int j) h = .ok (.int (i - j)) h := rfl
theorem gMod_ii {i j : Int} (hj : j ≠ 0) : gMod (.int i) (.int j) h = .ok (.int (i.fmod j)) h := by unfold gMod gInt2; dsimp only; rw [if_pos hj]
theorem gDiv_ii {i j : Int} (hj : 0 < j) (hl : j < 1073741824) : gDiv (.int i) (.int j) h = .ok (.int (i.fdiv j)) h := by
  unfold gDiv gInt2
  dsimp only
  rw [if_pos ⟨by omega, by omega⟩]
theorem gPow_ii {i j : Int} (h0 : 0 ≤ j) (h1 : j ≤ 1000000) (hi : 0 ≤ i) (hl : i < 2 ^ 64) : gPow (.int i) (.int j) h = .ok (.int (i ^ j.toNat)) h := by
  unfold gPow gInt2
  dsimp only
  rw [if_pos ⟨h0, h1, by omega⟩]
theorem gMul_l {i j : Int} (h0 : -(2 ^ 64) < i) (h1 : i < 2 ^ 64) : gMulB (.int i) (.int j) h = .ok (.int (i * j)) h := by
  show gMul (.int i) (.int j) h = _
  unfold gMul
  dsimp only
  rw [if_pos (.inl ⟨h0, h1⟩)]
theorem gMul_r {i j : Int} (h0 : -(2 ^ 64) < j) (h1 : j < 2 ^ 64) : gMulB (.int i) (.int j) h = .ok (.int (i * j)) h := by
  show gMul (.int i) (.int j) h = _
  unfold gMul
  dsimp only
  rw [if_pos (.inr ⟨h0, h1⟩)]
theorem fmod_pos (i : Int) {j : Int} (hj : 0 < j) : 0 ≤ i.fmod j ∧ i.fmod j < j := ⟨Int.fmod_nonneg_of_pos i hj, Int.fmod_lt_of_pos i hj⟩
theorem fdiv_nn {i j : Int} (hi : 0 ≤ i) (hj : 0 < j) : 0 ≤ i.fdiv j := by
  rw [Int.fdiv_eq_ediv_of_nonneg _ (by omega)]
  exact Int.ediv_nonneg hi (by omega)
structure Fr (p : Nat) (h h' : MH) : Prop where
  len : h.length ≤ h'.length
  same : ∀ n, n < h.length → n ≠ p → h'[n]? = h[n]?
theorem Fr.refl (p : Nat) (h : MH) : Fr p h h := ⟨Nat.le_refl _, fun _ _ _ => rfl⟩
theorem Fr.trans {p : Nat} (a : Fr p h h1) (b : Fr p h1 h2) : Fr p h h2 := ⟨Nat.le_trans a.len b.len, fun n hn hp => (b.same n (Nat.lt_of_lt_of_le hn a.len) hp).trans (a.same n hn hp)⟩
theorem Fr.grow (p : Nat) (h g : MH) : Fr p h (h ++ g) := ⟨by simp, fun n hn _ => List.getElem?_append_left hn⟩
theorem Fr.set (p : Nat) (h : MH) (o : MO) : Fr p h (h.set p o) := ⟨by simp, fun n hn hp => List.getElem?_set_ne (Ne.symm hp)⟩
theorem Fr.get {p : Nat} {n : Nat} {o : MO} (a : Fr p h h1) (e : h[n]? = some o) (hp : n ≠ p) : h1[n]? = some o := by
  rw [a.same n (List.getElem?_eq_some_iff.mp e).1 hp, e]
theorem get_lt {n : Nat} {o : MO} (e : h[n]? = some o) : n < h.length := (List.getElem?_eq_some_iff.mp e).1
theorem get_grow {n : Nat} {o : MO} {g : MH} (e : h[n]? = some o) : (h ++ g)[n]? = some o := by rw [List.getElem?_append_left (get_lt e), e]
theorem gSet_lst {n : Nat} {ds : List D} {i : Nat} {v : D} (e : h[n]? = some (.lst ds)) (hi : i < ds.length) : gSet (.ref n) (.int (i : Int)) v h = some (h.set n (.lst (ds.set i v))) := by
  unfold gSet
  dsimp only
  rw [e]
  dsimp only
  have : ixN ds.length (i : Int) = some i := by
    unfold ixN
    simp [hi]
  rw [this]
  rfl
end Dn
end
noncomputable section
set_option Elab.async false
set_option linter.all false
set_option maxRecDepth 100000
set_option maxHeartbeats 4000000
namespace HD
open PySem PySem.Spec L2 Dn
variable {h h1 : MH}
def potO (a b c : Int) : MO := .lst [.int a, .int b, .int c]
def Pot (p c : Nat) (h : MH) : Prop := ∃ a b : Int, 0 ≤ a ∧ h[p]? = some (potO a b (c : Int))
theorem Pot.lt {p c : Nat} (x : Pot p c h) : p < h.length := by
  obtain ⟨a, b, _, e⟩ := x
  exact get_lt e
theorem Pot.grow {p c : Nat} (x : Pot p c h) (g : MH) : Pot p c (h ++ g) := by
  obtain ⟨a, b, z, e⟩ := x
  exact ⟨a, b, z, get_grow e⟩
def prL : List Int := [2147483647, 2147483629, 2147483587, 2147483579, 2147483563, 2147483549, 2147483543]
theorem pr_get (i : Int) (h0 : 0 ≤ i) (h7 : i < 7) : ∃ q : Int, atI (prL.map D.int) i = some (.int q) ∧ 1073741824 < q ∧ q < 2147483648 := by
  have : i = 0 ∨ i = 1 ∨ i = 2 ∨ i = 3 ∨ i = 4 ∨ i = 5 ∨ i = 6 := by omega
  rcases this with rfl | rfl | rfl | rfl | rfl | rfl | rfl <;> exact ⟨_, rfl, by decide, by decide⟩
theorem take_ok {p c : Nat} {m : Int} (x : Pot p c h) (hm : 1 ≤ m) (hm2 : m < 1073741824) (hc : c < 1099511627776) :
    ∃ r h' c', F__law_take [.ref p, .int m] h = .ok (.int r) h' ∧ (0 ≤ r ∧ r < m) ∧ Fr p h h' ∧ Pot p c' h' ∧ c' ≤ c + 1 := by
  obtain ⟨a, b, ha, e⟩ := x
  have l : ∀ {h : MH} {a b c : Int}, h[p]? = some (potO a b c) → lstOf h (.ref p) = some [.int a, .int b, .int c] := fun e => lst_of e
  have i0 : ∀ {h : MH} {a b c : Int}, h[p]? = some (potO a b c) → gIx (.ref p) (.int 0) h = .ok (.int a) h := fun e => gIx_lst (l e) rfl
  have i1 : ∀ {h : MH} {a b c : Int}, h[p]? = some (potO a b c) → gIx (.ref p) (.int 1) h = .ok (.int b) h := fun e => gIx_lst (l e) rfl
  have i2 : ∀ {h : MH} {a b c : Int}, h[p]? = some (potO a b c) → gIx (.ref p) (.int 2) h = .ok (.int c) h := fun e => gIx_lst (l e) rfl
  have hp := get_lt e
  by_cases big : m ≤ a
  ·
    obtain ⟨r1, r2⟩ := fmod_pos a (show 0 < m by omega)
    have es : gSet (.ref p) (.int 0) (.int (a.fdiv m)) h = some (h.set p (potO (a.fdiv m) b c)) := gSet_lst (i := 0) e (by simp)
    refine ⟨a.fmod m, h.set p (potO (a.fdiv m) b c), c, ?_, ⟨r1, r2⟩, Fr.set _ _ _, ⟨a.fdiv m, b, fdiv_nn ha (by omega), by simp [hp]⟩, by omega⟩
    refine fn_rt rfl (s_seq_rt (s_ift (h1 := h) ?_ (s_seq (h1 := h) (σ1 := [some (.ref p), some (.int m), some (.int (a.fmod m)), none, none, none, none]) (s_set (d := .int (a.fmod m)) ?_ rfl) (s_seq (h1 := h.set p (potO (a.fdiv m) b c)) (s_setIx (h1 := h) (h2 := h) (h3 := h) (v := .int (a.fdiv m)) (o := .ref p) (i := .int 0) ?_ rfl rfl rfl es) (s_ret rfl rfl)))))
    · simp [begin_, i0 e, gGe_int, big]
    · simp [begin_, i0 e, gMod_ii (show m ≠ 0 by omega)]
    · simp [i0 e, gDiv_ii (show 0 < m by omega) hm2]
  · obtain ⟨c1, ec1⟩ : ∃ z : Int, z = c + 1 := ⟨_, rfl⟩
    let h1 : MH := h.set p (potO a b c1)
    have e1 : h1[p]? = some (potO a b c1) := by simp [h1, hp]
    let h2 : MH := h1 ++ [.lst (prL.map D.int)]
    have e2 : h2[p]? = some (potO a b c1) := get_grow e1
    have lp : lstOf h2 (.ref h1.length) = some (prL.map D.int) := by simp [lstOf, h2]
    have es : gSet (.ref p) (.int 2) (.int c1) h = some h1 := gSet_lst (i := 2) e (by simp)
    obtain ⟨q1, g1, a1, b1⟩ := pr_get (c1.fmod 7) (fmod_pos c1 (by omega)).1 (fmod_pos c1 (by omega)).2
    obtain ⟨q2, g2, a2, b2⟩ := pr_get ((c1 + 2).fmod 7) (fmod_pos _ (by omega)).1 (fmod_pos _ (by omega)).2
    obtain ⟨q3, g3, a3, b3⟩ := pr_get ((c1 + 4).fmod 7) (fmod_pos _ (by omega)).1 (fmod_pos _ (by omega)).2
    have j1 : gIx (.ref h1.length) (.int (c1.fmod 7)) h2 = .ok (.int q1) h2 := gIx_lst lp g1
    have j2 : gIx (.ref h1.length) (.int ((c1 + 2).fmod 7)) h2 = .ok (.int q2) h2 := gIx_lst lp g2
    have j3 : gIx (.ref h1.length) (.int ((c1 + 4).fmod 7)) h2 = .ok (.int q3) h2 := gIx_lst lp g3
    have hb := fmod_pos b (show 0 < q1 by omega)
    obtain ⟨n0, en0⟩ : ∃ z : Int, z = (b.fmod q1 + 86477 * c1) + 13 := ⟨_, rfl⟩
    have c1a : 0 ≤ c1 ∧ c1 < 1099511627777 := by omega
    have n0a : 0 ≤ n0 := by omega
    have n0b : n0 < 2 ^ 64 := by omega
    obtain ⟨n1, en1⟩ : ∃ z : Int, z = (n0 ^ (3 : Int).toNat).fmod q1 := ⟨_, rfl⟩
    have hn := fmod_pos (n0 ^ (3 : Int).toNat) (show 0 < q1 by omega)
    rw [← en1] at hn
    have n1a : -(2 ^ 64) < n1 := by omega
    have n1b : n1 < 2 ^ 64 := by omega
    have hk : (1000003 : Int) ≠ 0 := by omega
    obtain ⟨m3, em3⟩ : ∃ z : Int, z = b.fmod 1000003 := ⟨_, rfl⟩
    have gm3 : gMod (.int b) (.int 1000003) h2 = .ok (.int m3) h2 := by rw [gMod_ii hk, em3]
    obtain ⟨s0, es0⟩ : ∃ z : Int, z = ((n1 * n1 + 37 * c1 * n1) + m3) + 5 := ⟨_, rfl⟩
    obtain ⟨s1, es1⟩ : ∃ z : Int, z = s0.fmod q2 := ⟨_, rfl⟩
    have hs := fmod_pos s0 (show 0 < q2 by omega)
    rw [← es1] at hs
    have s1b : s1 < 2 ^ 64 := by omega
    obtain ⟨r, er⟩ : ∃ z : Int, z = (((s1 ^ (3 : Int).toNat).fmod q3).fdiv 64).fmod m := ⟨_, rfl⟩
    have hr := fmod_pos (((s1 ^ (3 : Int).toNat).fmod q3).fdiv 64) (show 0 < m by omega)
    rw [← er] at hr
    refine ⟨r, h2, c + 1, ?_, hr, (Fr.set p h _).trans (Fr.grow p h1 _), ⟨a, b, ha, by rw [e2, ec1]; rfl⟩, by omega⟩
    let σ (d3 d4 d5 d6 : Option D) : Sg := [some (.ref p), some (.int m), none, d3, d4, d5, d6]
    refine fn_rt rfl (s_pass (h1 := h) ?_ (s_seq (h1 := h1) (σ1 := σ none none none none) (s_setIx (h1 := h) (h2 := h) (h3 := h) (v := .int c1) (o := .ref p) (i := .int 2) ?_ rfl rfl rfl es) (s_seq (h1 := h2) (σ1 := σ (some (.ref h1.length)) none none none) (s_set (d := .ref h1.length) ?_ rfl)
      (s_seq (h1 := h2) (σ1 := σ (some (.ref h1.length)) (some (.int q1)) none none) (s_set (d := .int q1) ?_ rfl) (s_seq (h1 := h2) (σ1 := σ (some (.ref h1.length)) (some (.int q1)) (some (.int n1)) none) (s_set (d := .int n1) ?_ rfl)
      (s_seq (h1 := h2) (σ1 := σ (some (.ref h1.length)) (some (.int q1)) (some (.int n1)) (some (.int s0))) (s_set (d := .int s0) ?_ rfl) (s_seq (h1 := h2) (σ1 := σ (some (.ref h1.length)) (some (.int q1)) (some (.int n1)) (some (.int s1))) (s_set (d := .int s1) ?_ rfl) (s_ret (d := .int r) ?_ rfl))))))))
    · simp [begin_, i0 e, gGe_int, big]
    · simp [begin_, i2 e, gAdd_ii, ec1]
    · simp [σ, line]
      rfl
    · simp [σ, i2 e2, gMod_ii, j1]
    · have hq : q1 ≠ 0 := by omega
      simp only [σ, ap_op2, ap_var, ap_ret, bnd_ok, List.getElem?_cons_succ, List.getElem?_cons_zero, optV_some, i1 e2, i2 e2, gMod_ii hq, gMul_l (i := 86477) (by omega) (by omega), gAdd_ii]
      rw [← en0, gPow_ii (by omega) (by omega) n0a n0b, bnd_ok, gMod_ii hq, ← en1]
    · simp only [σ, ap_op2, ap_var, ap_ret, bnd_ok, List.getElem?_cons_succ, List.getElem?_cons_zero, optV_some, i1 e2, i2 e2, gm3, gMul_l n1a n1b, gMul_r n1a n1b, gMul_l (i := 37) (by omega) (by omega), gAdd_ii]
      rw [← es0]
    · have h7 : (7 : Int) ≠ 0 := by omega
      simp only [σ, ap_op2, ap_var, ap_ret, bnd_ok, List.getElem?_cons_succ, List.getElem?_cons_zero, optV_some, i2 e2, gMod_ii h7, gAdd_ii, j2]
      rw [gMod_ii (by omega), ← es1]
    · have hq : q3 ≠ 0 := by omega
      have h7 : (7 : Int) ≠ 0 := by omega
      have k4 : gAdd (.int c1) (.int 4) h2 = .ok (.int (c1 + 4)) h2 := rfl
      have pw : gPow (.int s1) (.int 3) h2 = .ok (.int (s1 ^ (3 : Int).toNat)) h2 := gPow_ii (by omega) (by omega) hs.1 s1b
      obtain ⟨cu, ecu⟩ : ∃ z : Int, z = s1 ^ (3 : Int).toNat := ⟨_, rfl⟩
      rw [← ecu] at pw er
      have m1 : gMod (.int cu) (.int q3) h2 = .ok (.int (cu.fmod q3)) h2 := gMod_ii hq
      obtain ⟨v1, ev1⟩ : ∃ z : Int, z = cu.fmod q3 := ⟨_, rfl⟩
      rw [← ev1] at m1 er
      have m2 : gDiv (.int v1) (.int 64) h2 = .ok (.int (v1.fdiv 64)) h2 := gDiv_ii (by omega) (by omega)
      obtain ⟨v2, ev2⟩ : ∃ z : Int, z = v1.fdiv 64 := ⟨_, rfl⟩
      rw [← ev2] at m2 er
      have m4 : gMod (.int v2) (.int m) h2 = .ok (.int r) h2 := by rw [gMod_ii (by omega), er]
      simp only [σ, ap_op2, ap_var, ap_ret, bnd_ok, List.getElem?_cons_succ, List.getElem?_cons_zero, optV_some, i2 e2, k4, gMod_ii h7, j3, pw, m1, m2, m4]
end HD
end
noncomputable section
set_option Elab.async false
set_option linter.all false
set_option maxRecDepth 100000
set_option maxHeartbeats 4000000
namespace HD
open PySem PySem.Spec L2 Dn
variable {h h1 : MH}
theorem board_st (hands weak : List Nm) (pls : List Pl) : (boardD hands weak pls).st = true := rfl
theorem board_ix2 (hands weak : List Nm) (pls : List Pl) : gIx (boardD hands weak pls) (.int 2) h = .ok (.tup (pls.map plD)) h := rfl
theorem board_ix0 (hands weak : List Nm) (pls : List Pl) : gIx (boardD hands weak pls) (.int 0) h = .ok (handsD hands) h := rfl
theorem need_board_ok {hands weak : List Nm} {pls : List Pl} (G : Good hands weak pls) : ∃ g, F_need_board [boardD hands weak pls] h = .ok .non (h ++ g) := by
  obtain ⟨g, e⟩ := board_true (h := h) G
  refine ⟨g, fn_nx (σ1 := [some (boardD hands weak pls)]) rfl (s_iff (h1 := h ++ g) ?_ rfl)⟩
  simp [begin_, board_st, e]
end HD
end
noncomputable section
set_option Elab.async false
set_option linter.all false
set_option maxRecDepth 100000
set_option maxHeartbeats 4000000
namespace Dn
open PySem PySem.Spec L2
variable {h : MH}
def signB (c : Nat) : Bool := decide (c = 33) || (decide (97 ≤ c) && decide (c ≤ 122))
mutual
def smB : D → Bool
  | .non => true
  | .int i => decide (0 ≤ i) && decide (i < 64)
  | .str x => decide (x.length ≤ 8) && x.all signB
  | .tup ds => smL ds
  | _ => false
def smL : List D → Bool
  | [] => true
  | d :: ds => smB d && smL ds
end
mutual
def wD : D → Nat
  | .tup ds => 3 + wL ds
  | _ => 10
def wL : List D → Nat
  | [] => 0
  | d :: ds => wD d + 2 + wL ds
end
theorem sign_repr : ∀ c : Nat, signB c = true → (PySem.Builtin.Str.reprChar 39 c = [c] ∧ c ≠ 39) ∧ c < 0x110000 := by
  have key : ∀ c : Fin 128, signB c.val = true → (PySem.Builtin.Str.reprChar 39 c.val = [c.val] ∧ c.val ≠ 39) ∧ c.val < 0x110000 := by decide +kernel
  intro c hc
  have : c < 128 := by
    unfold signB at hc
    simp at hc
    omega
  exact key ⟨c, this⟩ hc
theorem fold_repr : ∀ (l : List Nat) (acc : Array Nat), (∀ c ∈ l, signB c = true) → (l.foldl (fun out c => out ++ (PySem.Builtin.Str.reprChar 39 c).toArray) acc).toList = acc.toList ++ l
  | [], acc, _ => by simp
  | c :: r, acc, hl => by
    rw [List.foldl_cons, (sign_repr c (hl c List.mem_cons_self)).1.1, fold_repr r _ fun x hx => hl x (List.mem_cons_of_mem _ hx)]
    simp
theorem shown_str {x : List Nat} (hx : x.all signB = true) : (PyData.shown (.str (mx x))).cps.toList = 39 :: (x ++ [39]) := by
  have al : ∀ c ∈ x, signB c = true := List.all_eq_true.mp hx
  have q : PySem.reprQuote (mx x) = 39 := by
    unfold PySem.reprQuote
    have : (mx x).cps.contains 39 = false := by
      rw [Bool.eq_false_iff]
      intro h
      have hm : (39 : Nat) ∈ (mx x).cps := by simpa using h
      have : (39 : Nat) ∈ x := by simpa [mx] using hm
      exact (sign_repr 39 (al 39 this)).1.2 rfl
    rw [this]
    rfl
  show (PySem.reprText (mx x)).cps.toList = _
  unfold PySem.reprText
  rw [q]
  simp only [Array.toList_push]
  rw [← Array.foldl_toList]
  have e : (mx x).cps.toList = x := mx_cps x
  rw [e, fold_repr x _ al]
  simp
theorem shown_int : ∀ i : Int, 0 ≤ i → i < 64 → (PyData.shown (.int i)).length ≤ 10 ∧ okS (PyData.shown (.int i)).cps.toList = true ∧ (PyData.int i).showable = true := by
  have key : ∀ n : Fin 64, (PyData.shown (.int (n.val : Int))).length ≤ 10 ∧ okS (PyData.shown (.int (n.val : Int))).cps.toList = true ∧ (PyData.int (n.val : Int)).showable = true := by decide +kernel
  intro i h0 h1
  have e : i = ((⟨i.toNat, by omega⟩ : Fin 64).val : Int) := by simp; omega
  rw [e]
  exact key _
theorem slen (x : Str) : x.length = x.cps.toList.length := by simp [Str.length]
theorem okS_tup {ts : List Str} (ht : ∀ t ∈ ts, okS t.cps.toList = true) : okS (PySem.tupleText ts).cps.toList = true := by
  unfold PySem.tupleText
  have a : ∀ x y : Str, okS (x ++ y).cps.toList = (okS x.cps.toList && okS y.cps.toList) := fun x y => by
    rw [← okS_append]
    congr 1
    exact TL.tl_append x y
  have j : okS (Str.join ", " ts).cps.toList = true := by
    have z := TL.tl_join ", " ts
    show okS (TL.tl (Str.join ", " ts)) = true
    rw [z]
    refine okS_join (by decide) fun l hl => ?_
    obtain ⟨t, hm, rfl⟩ := List.mem_map.mp hl
    exact ht t hm
  rw [a, a, j]
  split <;> decide
theorem len_tup (ts : List Str) : (PySem.tupleText ts).length ≤ 3 + PySem.piled ts := by
  unfold PySem.tupleText
  rw [strLen_append, strLen_append]
  have j : (Str.join ", " ts).length ≤ PySem.piled ts := by
    cases ts with
    | nil => exact Nat.zero_le _
    | cons t r =>
      have := PySem.join_length_add (t :: r) (by simp)
      omega
  have e1 : (("(" : String) : Str).length = 1 := rfl
  rw [e1]
  split
  · have : ((",)" : String) : Str).length = 2 := rfl
    omega
  · have : ((")" : String) : Str).length = 1 := rfl
    omega
mutual
theorem sm_shown : ∀ d : D, smB d = true → d.pure = true ∧ d.py.showable = true ∧ d.py.shown.length ≤ wD d ∧ okS d.py.shown.cps.toList = true
  | .non, _ => ⟨rfl, by simp [D.py, PyData.showable], by simp only [D.py, wD]; decide, by simp only [D.py]; decide⟩
  | .int i, e => by
    have e' : 0 ≤ i ∧ i < 64 := by
      simp only [smB, Bool.and_eq_true, decide_eq_true_eq] at e
      exact e
    obtain ⟨a, b, c⟩ := shown_int i e'.1 e'.2
    refine ⟨rfl, ?_, ?_, ?_⟩
    · simpa only [D.py] using c
    · simpa only [D.py, wD] using a
    · simpa only [D.py] using b
  | .str x, e => by
    have e' : x.length ≤ 8 ∧ x.all signB = true := by simpa [smB] using e
    have z := shown_str e'.2
    refine ⟨rfl, by simp [D.py, PyData.showable], ?_, ?_⟩
    · simp only [D.py, wD]
      rw [slen, z]
      simp
      omega
    · simp only [D.py]
      rw [z]
      unfold okS
      simp only [List.all_cons, List.all_append, List.all_nil, Bool.and_true, Bool.and_eq_true, List.all_eq_true, decide_eq_true_eq]
      exact ⟨by decide, fun c hc => (sign_repr c (List.all_eq_true.mp e'.2 c hc)).2, by decide⟩
  | .tup ds, e => by
    have e' : smL ds = true := by simpa only [smB] using e
    obtain ⟨a, b, c, d⟩ := sm_all ds e'
    refine ⟨by simpa only [D.pure] using a, by simpa only [D.py, PyData.showable] using b, ?_, ?_⟩
    · simp only [D.py, PyData.shown, wD]
      exact Nat.le_trans (len_tup _) (by omega)
    · simp only [D.py, PyData.shown]
      exact okS_tup d
  | .bl _, e => by simp [smB] at e
  | .ref _, e => by simp [smB] at e
  | .cst _, e => by simp [smB] at e
  | .tl _, e => by simp [smB] at e
theorem sm_all : ∀ ds : List D, smL ds = true → pureL ds = true ∧ PyData.showableAll (pyL ds) = true ∧ PySem.piled (PyData.shownAll (pyL ds)) ≤ wL ds ∧ ∀ t ∈ PyData.shownAll (pyL ds), okS t.cps.toList = true
  | [], _ => ⟨rfl, by simp [pyL, PyData.showableAll], by simp [pyL, PyData.shownAll, PySem.piled], by simp [pyL, PyData.shownAll]⟩
  | d :: ds, e => by
    have e' : smB d = true ∧ smL ds = true := by simpa only [smL, Bool.and_eq_true] using e
    obtain ⟨a1, a2, a3, a4⟩ := sm_shown d e'.1
    obtain ⟨b1, b2, b3, b4⟩ := sm_all ds e'.2
    refine ⟨by simp only [pureL, a1, b1, Bool.and_self], by simp only [pyL, PyData.showableAll, a2, b2, Bool.and_self], ?_, ?_⟩
    · simp only [pyL, PyData.shownAll, wL]
      rw [PySem.piled_cons]
      omega
    · intro t ht
      simp only [pyL, PyData.shownAll] at ht
      rcases List.mem_cons.mp ht with rfl | ht
      · exact a4
      · exact b4 t ht
end
theorem repr_sm {ds : List D} (e : smL ds = true) (hw : wL ds ≤ 1000000) (hd : (D.tup ds).py.depth ≤ 60) : gRepr (.tup ds) h = .ok (.str (shownD (D.tup ds).py)) h := by
  obtain ⟨a, b, c, d⟩ := sm_shown (.tup ds) (by simpa only [smB] using e)
  unfold gRepr
  dsimp only
  have ok : reprOk (D.tup ds).py = true := by
    unfold reprOk
    simp only [wD] at c
    simp only [Bool.and_eq_true, decide_eq_true_eq]
    exact ⟨⟨⟨b, hd⟩, by unfold line; omega⟩, d⟩
  rw [if_pos ⟨a, ok⟩]
end Dn
end
noncomputable section
set_option Elab.async false
set_option linter.all false
set_option maxRecDepth 100000
set_option maxHeartbeats 4000000
namespace HD
open PySem PySem.Spec L2 Dn
variable {h h1 : MH}
theorem Rch.trans {E : Nat → Nat → Prop} {a b c : Nat} (x : Rch E a b) (y : Rch E b c) : Rch E a c := by
  induction y with
  | refl => exact x
  | step _ e ih => exact ih.step e
theorem sm_ints : ∀ L : List Nat, (∀ x ∈ L, x < 64) → smL (L.map fun k : Nat => D.int (k : Int)) = true ∧ wL (L.map fun k : Nat => D.int (k : Int)) = 12 * L.length ∧ (D.tup (L.map fun k : Nat => D.int (k : Int))).py.depth ≤ 1
  | [], _ => ⟨rfl, rfl, by simp [D.py, pyL, PyData.depth, PyData.depthAll]⟩
  | x :: L, hl => by
    obtain ⟨a, b, c⟩ := sm_ints L fun y hy => hl y (List.mem_cons_of_mem _ hy)
    have hx := hl x List.mem_cons_self
    refine ⟨?_, ?_, ?_⟩
    · rw [List.map_cons, smL, a]
      simp [smB]
      omega
    · rw [List.map_cons, wL, b]
      simp [wD]
      omega
    · simp only [List.map_cons, D.py, pyL, PyData.depth, PyData.depthAll] at c ⊢
      omega
theorem gTuple_lst {d : D} {ds : List D} (e : lstOf h d = some ds) : gTuple d h = .ok (.tup ds) h := by
  cases d with
  | tl es => unfold gTuple; dsimp only; rw [e]
  | ref n => unfold gTuple; dsimp only; rw [e]
  | _ => cases e
theorem up_len {L : List Nat} {n : Nat} (up : L.Pairwise (· < ·)) (lt : ∀ x ∈ L, x < n) : L.length ≤ n := len_lt (up.imp Nat.ne_of_lt) lt
end HD
end
noncomputable section
set_option Elab.async false
set_option linter.all false
set_option maxRecDepth 100000
set_option maxHeartbeats 4000000
namespace HD
open PySem PySem.Spec L2 Dn
variable {h h1 : MH}
theorem range1_ok {n : Nat} (hn : n ≤ 1000000) : range1V [.int (n : Int)] h = .ok ⟨(List.range n).map fun i : Nat => .int (0 + (i : Int)), []⟩ h := by
  unfold range1V
  dsimp only
  rw [if_pos (by omega)]
  simp
theorem take_eq {p : Nat} {σ : Sg} {e : M D} {m : Int} (hp : σ[0]? = some (some (.ref p))) (he : ∀ h, e σ h = .ok (.int m) h) : (fcallM F__law_take [] (consM (mVar 0) (consM e nilM))) σ h = F__law_take [.ref p, .int m] h := by
  simp only [ap_call, ap_cons, ap_nil, ap_var, hp, optV_some, bnd_ok, he]
  simp
theorem flat_one : ∀ w : List Nat, (w.map fun c => [c]).flatten = w
  | [] => rfl
  | c :: w => by rw [List.map_cons, List.flatten_cons, flat_one w]; rfl
theorem join_nil : ∀ ls : List (List Nat), TL.joinL [] ls = ls.flatten
  | [] => rfl
  | [p] => by simp [TL.joinL]
  | p :: q :: r => by
    rw [TL.joinL, join_nil (q :: r)]
    simp
theorem strs_map : ∀ ls : List (List Nat), strsOf (ls.map D.str) = some ls
  | [] => rfl
  | l :: ls => by rw [List.map_cons, strsOf, strs_map ls]; rfl
theorem join_ok (ls : List (List Nat)) (hl : (ls.map List.length).sum ≤ 1000000) : gJoin (.str []) [.tl (ls.map D.str)] h = .ok (.str ls.flatten) h := by
  unfold gJoin
  dsimp only
  show (match strsOf (ls.map D.str) with
    | some ls => if (ls.map List.length).sum + ls.length * [].length ≤ 16777216 then R.ok (D.str (TL.joinL [] ls)) h else .stuck
    | none => .stuck) = _
  rw [strs_map]
  dsimp only
  rw [if_pos (by simp; omega), join_nil]
theorem sum_ones : ∀ w : List Nat, (w.map fun _ => 1).sum = w.length
  | [] => rfl
  | c :: w => by rw [List.map_cons, List.sum_cons, sum_ones w, List.length_cons]; omega
def wordE : M D := mtM .str gJoin (retM (.str [])) (consM (lcM (srcA range1V (consM (op2 gAdd (retM (.int 1)) (fcallM F__law_take [] (consM (mVar 0) (consM (retM (.int 8)) nilM)))) nilM)) (.nm 7) [7] (retM true) (op2 gIx (mVar 2) (fcallM F__law_take [] (consM (mVar 0) (consM (retM (.int 26)) nilM))))) nilM)
theorem abc_len : abc.length = 26 := rfl
theorem abc_ix {r : Int} (h0 : 0 ≤ r) (h1 : r < 26) : ∃ c, c ∈ abc ∧ gIx (.str abc) (.int r) h = .ok (.str [c]) h := by
  obtain ⟨c, ec⟩ : ∃ c, abc[r.toNat]? = some c := ⟨_, List.getElem?_eq_getElem (by rw [abc_len]; omega)⟩
  refine ⟨c, List.mem_of_getElem? ec, ?_⟩
  have er : r = (r.toNat : Int) := by omega
  rw [er]
  exact gIx_str (by rw [abc_len]; unfold line; omega) (Dn.atI_nat ec)
theorem word_ok {p c : Nat} (x : Pot p c h) (hc : c + 20 < 1099511627776) {σ : Sg} (s0 : σ[0]? = some (some (.ref p))) (s2 : σ[2]? = some (some (.str abc))) (s7 : 7 < σ.length) :
    ∃ w h' c', wordE σ h = .ok (.str w) h' ∧ (1 ≤ w.length ∧ w.length ≤ 8 ∧ ∀ c ∈ w, c ∈ abc) ∧ Fr p h h' ∧ Pot p c' h' ∧ c' ≤ c + 9 := by
  obtain ⟨r, h1, c1, e1, ⟨a1, b1⟩, f1, x1, d1⟩ := take_ok (m := 8) x (by omega) (by omega) (by omega)
  have en : (1 : Int) + r = ((1 + r.toNat : Nat) : Int) := by omega
  let n : Nat := 1 + r.toNat
  let src : Src := ⟨(List.range n).map fun i : Nat => .int (0 + (i : Int)), []⟩
  let I : Nat → List D → MH → Prop := fun j acc h' => ∃ w : List Nat, acc = w.map (fun c => D.str [c]) ∧ w.length = j ∧ (∀ c ∈ w, c ∈ abc) ∧ Fr p h1 h' ∧ ∃ c', Pot p c' h' ∧ c' ≤ c1 + j
  have hn : n ≤ 8 := by show 1 + r.toNat ≤ 8; omega
  obtain ⟨acc, h2, e2, w, rfl, wl, wm, f2, c2, x2, d2⟩ := lcL_inv (src := src) (p := .nm 7) (t := retM true) (e := op2 gIx (mVar 2) (fcallM F__law_take [] (consM (mVar 0) (consM (retM (.int 26)) nilM)))) (σ0 := wipeD σ [7]) I src.items 0 [] h1 (fun _ _ _ _ _ _ => ok_nil) (fun j d acc h' hj ed hI => by
    obtain ⟨w, rfl, wl, wm, f, c', x', d'⟩ := hI
    have jl : j < n := by
      have := (List.getElem?_eq_some_iff.mp ed).1
      simp [src] at this
      omega
    obtain ⟨k, ek, rfl⟩ : ∃ k : Nat, (List.range n)[j - 0]? = some k ∧ d = .int (0 + (k : Int)) := by
      have z := ed
      simp only [src, List.getElem?_map] at z
      obtain ⟨k, e1, e2⟩ := Option.map_eq_some_iff.mp z
      exact ⟨k, e1, e2.symm⟩
    obtain ⟨r', h3, c3, e3, ⟨a3, b3⟩, f3, x3, d3⟩ := take_ok (m := 26) x' (by omega) (by omega) (by omega)
    obtain ⟨q, hq, iq⟩ := abc_ix (h := h3) a3 b3
    have g0 : ((wipeD σ [7]).set 7 (some (.int (0 + (k : Int)))))[0]? = some (some (.ref p)) := by simp [wipeD, s0]
    have g2 : ((wipeD σ [7]).set 7 (some (.int (0 + (k : Int)))))[2]? = some (some (.str abc)) := by simp [wipeD, s2]
    refine ⟨(wipeD σ [7]).set 7 (some (.int (0 + (k : Int)))), by simp, h', .inr ⟨rfl, .str [q], h3, ?_, rfl, by rw [List.length_map]; unfold line; omega, w ++ [q], by simp, by simp [wl], fun z hz => ?_, f.trans f3, c3, x3, by omega⟩⟩
    · have tk := take_eq (h := h') (e := retM (.int 26)) (m := 26) g0 (fun _ => rfl)
      rw [ap_op2, ap_var, g2, optV_some, bnd_ok, tk, e3, bnd_ok, iq]
    · rcases List.mem_append.mp hz with hz | hz
      · exact wm z hz
      · simp at hz
        subst hz
        exact hq) ⟨[], rfl, rfl, by simp, Fr.refl p h1, c1, x1, by omega⟩
  have il : 0 + src.items.length = n := by simp [src]
  rw [il] at wl d2
  refine ⟨w, h2, c2, ?_, ⟨by show 1 ≤ w.length; rw [wl]; show 1 ≤ 1 + r.toNat; omega, by omega, wm⟩, f1.trans f2, x2, by omega⟩
  unfold wordE
  have tk := take_eq (h := h) (σ := σ) (e := retM (.int 8)) (m := 8) s0 (fun _ => rfl)
  have sm : ((w.map fun c => [c]).map List.length).sum ≤ 1000000 := by
    rw [List.map_map]
    have : (w.map (List.length ∘ fun c => [c])) = w.map fun _ => 1 := rfl
    rw [this, sum_ones]
    omega
  have jn := join_ok (h := h2) (w.map fun c => [c]) sm
  rw [flat_one] at jn
  have mm : (w.map fun c => [c]).map D.str = w.map fun c => D.str [c] := by rw [List.map_map]; rfl
  rw [mm] at jn
  rw [ap_mt, ap_ret, bnd_ok, if_pos (show tyB Ty.str h (.str []) = true from rfl), ap_cons, ap_lc, ap_src, ap_cons, ap_op2, ap_ret, bnd_ok, tk, e1, bnd_ok, gAdd_ii, bnd_ok, ap_nil, bnd_ok, bnd_ok, en, range1_ok (by omega), bnd_ok]
  show ((lcL src _ _ _ _ src.items [] h1).bnd _).bnd _ = _
  rw [e2, bnd_ok, ap_nil, bnd_ok, bnd_ok, jn]
end HD
end
noncomputable section
set_option Elab.async false
set_option linter.all false
set_option maxRecDepth 100000
set_option maxHeartbeats 4000000
namespace HD
open PySem PySem.Spec L2 Dn
variable {h h1 : MH}
theorem Fr.setN {p n : Nat} {o : MO} {h h1 : MH} (a : Fr p h h1) (hn : h.length ≤ n) : Fr p h (h1.set n o) := ⟨by simpa using a.len, fun k hk hp => by rw [List.getElem?_set_ne (by omega)]; exact a.same k hk hp⟩
theorem cut_take {α : Type} (l : List α) (k : Nat) : cutL l none (some (k : Int)) = l.take k := by
  unfold cutL
  rw [HT.sIx_none, HT.sIx_nat]
  simp
theorem nm_of {w : Nm} (h1 : 1 ≤ w.length) (h8 : w.length ≤ 8) (ha : ∀ c ∈ w, c ∈ abc) : isNm w = true := by
  unfold isNm
  simp [h1, h8]
  exact ha
theorem nm_abc {w : Nm} (e : isNm w = true) : ∀ c ∈ w, c ∈ abc := by
  unfold isNm at e
  simp at e
  exact e.2
def somes (w : Nm) : List Nm := ([w] ++ abc.map fun l => w.take 7 ++ [l]) ++ abc.map fun l => 122 :: (List.replicate 7 [l]).flatten
theorem somes_nm {w : Nm} (hw : isNm w = true) : ∀ x ∈ somes w, isNm x = true := by
  intro x hx
  have hl := nm_len hw
  unfold somes at hx
  rcases List.mem_append.mp hx with hx | hx
  · rcases List.mem_append.mp hx with hx | hx
    · simp at hx; subst hx; exact hw
    · obtain ⟨l, hl2, rfl⟩ := List.mem_map.mp hx
      refine nm_of (by simp) (by simp; omega) fun c hc => ?_
      rcases List.mem_append.mp hc with hc | hc
      · exact nm_abc hw c (List.mem_of_mem_take hc)
      · simp at hc; subst hc; exact hl2
  · obtain ⟨l, hl2, rfl⟩ := List.mem_map.mp hx
    refine nm_of (by simp) (by simp) fun c hc => ?_
    rcases List.mem_cons.mp hc with rfl | hc
    · decide
    · have : c = l := by
        obtain ⟨a, ha, hb⟩ := List.mem_flatten.mp hc
        rw [List.eq_of_mem_replicate ha] at hb
        simpa using hb
      subst this
      exact hl2
theorem somes_len (w : Nm) : (somes w).length = 53 := by simp [somes, abc_len]
theorem somes_new (w : Nm) {ns : List Nm} (hn : ns.length < 26) : ∃ x r, (somes w).filter (fun y => !decide (y ∈ ns)) = x :: r := by
  have ex : ∃ y ∈ abc.map (fun l => 122 :: (List.replicate 7 [l]).flatten), y ∉ ns := by
    refine Classical.byContradiction fun no => ?_
    have sub : ∀ y ∈ abc.map (fun l => 122 :: (List.replicate 7 [l]).flatten), y ∈ ns := fun y hy => Classical.byContradiction fun hn => no ⟨y, hy, hn⟩
    have nd : (abc.map fun l => 122 :: (List.replicate 7 [l]).flatten).Nodup := by decide +kernel
    have := List.Nodup.length_le_of_subset nd sub
    simp [abc_len] at this
    omega
  obtain ⟨y, hy, hn⟩ := ex
  have hm : y ∈ (somes w).filter (fun y => !decide (y ∈ ns)) := List.mem_filter.mpr ⟨List.mem_append_right _ hy, by simp [hn]⟩
  cases e : (somes w).filter (fun y => !decide (y ∈ ns)) with
  | nil => rw [e] at hm; cases hm
  | cons x r => exact ⟨x, r, rfl⟩
abbrev sgN (p m f : Nat) (x4 x5 x6 x7 x8 x9 : Option D) : Sg := [some (.ref p), some (.int (m : Int)), some (.str abc), some (.ref f), x4, x5, x6, x7, x8, x9]
def namesB : MS := (seqS (setS 5 wordE)
  (seqS (ifS (andB (asB (op2 (gEq true) (mVar 3) (lstM nilM))) (asB (op2 (gEq false) (fcallM F__law_take [] (consM (mVar 0) (consM (retM (.int 3)) nilM))) (retM (.int 0))))) (setS 5 (ownM (slM (op2 gAdd (op2 gIx (mVar 3) (op1 gNeg (retM (.int 1)))) (op2 gIx (mVar 2) (fcallM F__law_take [] (consM (mVar 0) (consM (retM (.int 26)) nilM))))) (retM .non) (partM (retM (.int 8)))))) skipS)
  (seqS (setS 6 (ownM (op2 gAdd (op2 gAdd (lstM (consM (mVar 5) nilM)) (lcM (op1 srcV (mVar 2)) (.nm 8) [8] (retM true) (ownM (op2 gAdd (slM (mVar 5) (retM .non) (partM (retM (.int 7)))) (mVar 8))))) (lcM (op1 srcV (mVar 2)) (.nm 8) [8] (retM true) (op2 gAdd (retM (.str [122])) (op2 gMulB (mVar 8) (retM (.int 7))))))))
  (exprS (mtM .lst gAppend (mVar 3) (consM (op2 gIx (lcM (op1 srcV (mVar 6)) (.nm 9) [9] (asB (op2 (gIn true) (mVar 9) (mVar 3))) (mVar 9)) (retM (.int 0))) nilM))))))
theorem gAdd_str {x y : List Nat} (hl : x.length + y.length ≤ 1000000) : gAdd (.str x) (.str y) h = .ok (.str (x ++ y)) h := by
  unfold gAdd
  dsimp only
  rw [if_pos (by unfold line; omega)]
theorem gAdd_tl {x y : List D} (hl : x.length + y.length ≤ 1000000) : gAdd (.tl x) (.tl y) h = .ok (.tl (x ++ y)) h := by
  show (if x.length + y.length ≤ line then R.ok (D.tl (x ++ y)) h else .stuck) = _
  rw [if_pos (by unfold line; omega)]
theorem somes_ok {p m f : Nat} {w : Nm} (hw : isNm w = true) (x4 x6 x7 x8 x9 : Option D) :
    (setS 6 (ownM (op2 gAdd (op2 gAdd (lstM (consM (mVar 5) nilM)) (lcM (op1 srcV (mVar 2)) (.nm 8) [8] (retM true) (ownM (op2 gAdd (slM (mVar 5) (retM .non) (partM (retM (.int 7)))) (mVar 8))))) (lcM (op1 srcV (mVar 2)) (.nm 8) [8] (retM true) (op2 gAdd (retM (.str [122])) (op2 gMulB (mVar 8) (retM (.int 7)))))))) (sgN p m f x4 (some (.str w)) x6 x7 x8 x9) h =
      .nx (sgN p m f x4 (some (.str w)) (some (.ref h.length)) x7 x8 x9) (h ++ [.lst ((somes w).map D.str)]) := by
  have hl := nm_len hw
  have e7 : partOf (.int 7) = some (some ((7 : Nat) : Int)) := rfl
  let s8 : Sg := sgN p m f x4 (some (.str w)) x6 x7 none x9
  have k1 := lcL_map (h := h) (src := ⟨abc.map fun c => .str [c], []⟩) (p := .nm 8) (t := retM true) (e := ownM (op2 gAdd (slM (mVar 5) (retM .non) (partM (retM (.int 7)))) (mVar 8))) (σ0 := s8) (fun d => match d with
    | .str l => some (.str (w.take 7 ++ l))
    | _ => none) ok_nil (abc.map fun c => .str [c]) [] (fun d hd => by
      obtain ⟨l, hl2, rfl⟩ := List.mem_map.mp hd
      refine ⟨sgN p m f x4 (some (.str w)) x6 x7 (some (.str [l])) x9, by simp [s8], rfl, ?_, rfl⟩
      have c7 : cutG (.str w) none (some ((7 : Nat) : Int)) h = .ok (.str (w.take 7)) h := by
        unfold cutG
        dsimp only
        rw [if_pos (by unfold line; omega), cut_take]
      have c7' : cutG (.str w) none (some 7) h = .ok (.str (w.take 7)) h := c7
      simp [partOf, c7', gAdd_str (x := w.take 7) (y := [l]) (h := h) (by simp; omega)]) (by simp [abc_len]; unfold line; omega)
  have m1 : (abc.map fun c => D.str [c]).filterMap (fun d => match d with
    | .str l => some (.str (w.take 7 ++ l))
    | _ => none) = (abc.map fun l => w.take 7 ++ [l]).map D.str := by
    rw [List.filterMap_map, List.map_map]
    show abc.filterMap (fun c => some (D.str (w.take 7 ++ [c]))) = _
    rw [List.filterMap_eq_map']
    rfl
  rw [m1, List.nil_append] at k1
  have k2 := lcL_map (h := h) (src := ⟨abc.map fun c => .str [c], []⟩) (p := .nm 8) (t := retM true) (e := op2 gAdd (retM (.str [122])) (op2 gMulB (mVar 8) (retM (.int 7)))) (σ0 := s8) (fun d => match d with
    | .str l => some (.str (122 :: (List.replicate 7 l).flatten))
    | _ => none) ok_nil (abc.map fun c => .str [c]) [] (fun d hd => by
      obtain ⟨l, hl2, rfl⟩ := List.mem_map.mp hd
      refine ⟨sgN p m f x4 (some (.str w)) x6 x7 (some (.str [l])) x9, by simp [s8], rfl, ?_, rfl⟩
      have mu : gMulB (.str [l]) (.int 7) h = .ok (.str (List.replicate 7 [l]).flatten) h := by
        unfold gMulB
        dsimp only
        rw [if_pos (by unfold line; simp)]
        rfl
      have ad := gAdd_str (x := [122]) (y := (List.replicate 7 [l]).flatten) (h := h) (by simp)
      simp only [ap_op2, ap_ret, bnd_ok, ap_var, List.getElem?_cons_succ, List.getElem?_cons_zero, optV_some, mu, ad]
      rfl) (by simp [abc_len]; unfold line; omega)
  have m2 : (abc.map fun c => D.str [c]).filterMap (fun d => match d with
    | .str l => some (.str (122 :: (List.replicate 7 l).flatten))
    | _ => none) = (abc.map fun l => 122 :: (List.replicate 7 [l]).flatten).map D.str := by
    rw [List.filterMap_map, List.map_map]
    show abc.filterMap (fun c => some (D.str (122 :: (List.replicate 7 [c]).flatten))) = _
    rw [List.filterMap_eq_map']
    rfl
  rw [m2, List.nil_append] at k2
  refine s_set (d := .ref h.length) ?_ rfl
  have g1 := gAdd_tl (h := h) (x := [.str w]) (y := (abc.map fun l => w.take 7 ++ [l]).map D.str) (by simp [abc_len])
  have g2 := gAdd_tl (h := h) (x := [.str w] ++ (abc.map fun l => w.take 7 ++ [l]).map D.str) (y := (abc.map fun l => 122 :: (List.replicate 7 [l]).flatten).map D.str) (by simp [abc_len])
  have fin : ([D.str w] ++ (abc.map fun l => w.take 7 ++ [l]).map D.str) ++ (abc.map fun l => 122 :: (List.replicate 7 [l]).flatten).map D.str = (somes w).map D.str := by simp [somes]
  rw [fin] at g2
  have wp : wipeD (sgN p m f x4 (some (.str w)) x6 x7 x8 x9) [8] = s8 := rfl
  rw [ap_own, ap_op2, ap_op2, ap_lst, ap_cons, ap_var]
  show own ((((((optV (some (some (.str w))) h).bnd _).bnd _).bnd _).bnd _)) = _
  rw [optV_some, bnd_ok, ap_nil, bnd_ok, bnd_ok, if_pos ⟨rfl, by unfold line; simp⟩, bnd_ok, ap_lc, wp, ap_op1, ap_var]
  show own ((((((optV (some (some (.str abc))) h).bnd _).bnd _).bnd _).bnd _)) = _
  rw [optV_some, bnd_ok, src_str, bnd_ok]
  dsimp only
  rw [k1, bnd_ok, g1, bnd_ok, ap_lc, wp, ap_op1, ap_var]
  show own ((((optV (some (some (.str abc))) h).bnd _).bnd _).bnd _) = _
  rw [optV_some, bnd_ok, src_str, bnd_ok]
  dsimp only
  rw [k2, bnd_ok, g2]
  rfl
end HD
end
noncomputable section
set_option Elab.async false
set_option linter.all false
set_option maxRecDepth 100000
set_option maxHeartbeats 4000000
namespace HD
open PySem PySem.Spec L2 Dn
variable {h h1 : MH}
theorem atI_neg1 {α : Type} (l : List α) (x : α) : atI (l ++ [x]) (-1) = some x := by
  unfold atI
  have : ixN (l ++ [x]).length (-1) = some l.length := by
    unfold ixN
    simp
    omega
  rw [this]
  simp
theorem pureL_strs : ∀ L : List Nm, pureL (L.map D.str) = true
  | [] => rfl
  | x :: L => by
    rw [List.map_cons]
    unfold pureL
    rw [pureL_strs L]
    rfl
theorem not_isEmpty_map {L : List Nm} : (L.map D.str).isEmpty = L.isEmpty := by cases L <;> rfl
theorem filter_strs (ns : List Nm) : ∀ L : List Nm, (L.map D.str).filterMap (fun d => match d with
    | .str x => if x ∈ ns then none else some (D.str x)
    | _ => none) = (L.filter fun y => !decide (y ∈ ns)).map D.str
  | [] => rfl
  | x :: L => by
    rw [List.map_cons, List.filterMap_cons]
    dsimp only
    by_cases c : x ∈ ns
    · rw [if_pos c, List.filter_cons_of_neg (by simp [c])]
      exact filter_strs ns L
    · rw [if_neg c, List.filter_cons_of_pos (by simp [c]), List.map_cons]
      dsimp only
      rw [filter_strs ns L]
theorem pick_ok {σ : Sg} {i j k r n : Nat} {L ns : List Nm} {x : Nm} {rest : List Nm} (si : σ[i]? = some (some (.ref r))) (sk : σ[k]? = some (some (.ref n))) (hk : k ≠ j) (hj : j < σ.length) (hki : i ≠ j)
    (er : h[r]? = some (.lst (L.map D.str))) (en : h[n]? = some (.lst (ns.map D.str))) (hl : L.length ≤ 1000000) (ep : L.filter (fun y => !decide (y ∈ ns)) = x :: rest) :
    (op2 gIx (lcM (op1 srcV (mVar i)) (.nm j) [j] (asB (op2 (gIn true) (mVar j) (mVar k))) (mVar j)) (retM (.int 0))) σ h = .ok (.str x) h := by
  have k1 := lcM_map (h := h) (h1 := h) (σ := σ) (m := op1 srcV (mVar i)) (src := ⟨L.map D.str, liveOf (.ref r) (L.map D.str)⟩) (p := .nm j) (vs := [j]) (t := asB (op2 (gIn true) (mVar j) (mVar k))) (e := mVar j) (fun d => match d with
    | .str x => if x ∈ ns then none else some (D.str x)
    | _ => none) (by rw [ap_op1, ap_var, si, optV_some, bnd_ok, src_lst (lst_of er)]) (live_ok (lst_of er)) (fun d hd => by
      obtain ⟨y, hy, rfl⟩ := List.mem_map.mp hd
      refine ⟨(wipeD σ [j]).set j (some (.str y)), by simp, ?_⟩
      have g1 : ((wipeD σ [j]).set j (some (.str y)))[j]? = some (some (.str y)) := by simp [wipeD, hj]
      have g2 : ((wipeD σ [j]).set j (some (.str y)))[k]? = some (some (.ref n)) := by simp [wipeD, sk, Ne.symm hk]
      have gi := gIn_strs (neg := true) (h := h) y (row_of en) (fun t e => by cases e)
      by_cases c : y ∈ ns
      · dsimp only
        rw [if_pos c]
        simp only [ap_asB, ap_op2, ap_var, g1, g2, optV_some, bnd_ok, gi]
        simp [c]
      · dsimp only
        rw [if_neg c]
        refine ⟨?_, ?_, rfl⟩
        · simp only [ap_asB, ap_op2, ap_var, g1, g2, optV_some, bnd_ok, gi]
          simp [c]
        · simp only [ap_var, g1, optV_some]) (by simp; unfold line; omega)
  rw [filter_strs, ep] at k1
  rw [ap_op2, k1, bnd_ok, ap_ret, bnd_ok]
  exact gIx_lst (ds := (x :: rest).map D.str) rfl (atI_nat (i := 0) rfl)
theorem last_of {α : Type} {l : List α} (hl : l ≠ []) : ∃ a x, l = a ++ [x] := ⟨l.dropLast, l.getLast hl, (List.dropLast_concat_getLast hl).symm⟩
def longB : MS := (ifS (andB (asB (op2 (gEq true) (mVar 3) (lstM nilM))) (asB (op2 (gEq false) (fcallM F__law_take [] (consM (mVar 0) (consM (retM (.int 3)) nilM))) (retM (.int 0))))) (setS 5 (ownM (slM (op2 gAdd (op2 gIx (mVar 3) (op1 gNeg (retM (.int 1)))) (op2 gIx (mVar 2) (fcallM F__law_take [] (consM (mVar 0) (consM (retM (.int 26)) nilM))))) (retM .non) (partM (retM (.int 8)))))) skipS)
theorem long_ok {p m f c : Nat} {w : Nm} {ns : List Nm} (x : Pot p c h) (hc : c + 10 < 1099511627776) (hf : f ≠ p) (hw : isNm w = true) (en : h[f]? = some (.lst (ns.map D.str))) (nn : ∀ x ∈ ns, isNm x = true) (x4 x6 x7 x8 x9 : Option D) :
    ∃ v h' c', longB (sgN p m f x4 (some (.str w)) x6 x7 x8 x9) h = .nx (sgN p m f x4 (some (.str v)) x6 x7 x8 x9) h' ∧ isNm v = true ∧ Fr p h h' ∧ Pot p c' h' ∧ c' ≤ c + 2 := by
  let s : Sg := sgN p m f x4 (some (.str w)) x6 x7 x8 x9
  have eq := gEq_lst (neg := true) (h := h) (lst_of en) rfl (pureL_strs ns)
  have e1 : (asB (op2 (gEq true) (mVar 3) (lstM nilM))) s h = .ok (!ns.isEmpty) h := by
    rw [ap_asB, ap_op2, ap_var]
    show ((optV (some (some (.ref f))) h).bnd _).bnd _ = _
    rw [optV_some, bnd_ok, ap_lst, ap_nil, bnd_ok, if_pos ⟨rfl, by unfold line; simp⟩, bnd_ok, eq, not_isEmpty_map]
    rfl
  by_cases c0 : ns = []
  · subst c0
    exact ⟨w, h, c, s_iff (h1 := h) (by rw [ap_andB, e1]; rfl) rfl, hw, Fr.refl p h, x, by omega⟩
  · have e1' : (!ns.isEmpty) = true := by cases ns <;> simp_all
    rw [e1'] at e1
    obtain ⟨r, h1, c1, t1, ⟨a1, b1⟩, f1, x1, d1⟩ := take_ok (m := 3) x (by omega) (by omega) (by omega)
    have tk := take_eq (h := h) (σ := s) (e := retM (.int 3)) (m := 3) rfl (fun _ => rfl)
    have e2 : (asB (op2 (gEq false) (fcallM F__law_take [] (consM (mVar 0) (consM (retM (.int 3)) nilM))) (retM (.int 0)))) s h = .ok (decide (r = 0)) h1 := by
      rw [ap_asB, ap_op2, tk, t1, bnd_ok, ap_ret, bnd_ok, gEq_int]
      rfl
    by_cases c1' : r = 0
    · obtain ⟨r2, h2, c2, t2, ⟨a2, b2⟩, f2, x2, d2⟩ := take_ok (m := 26) x1 (by omega) (by omega) (by omega)
      obtain ⟨q, hq, iq⟩ := abc_ix (h := h2) a2 b2
      obtain ⟨bs, l, rfl⟩ := last_of c0
      have hl := nn l (by simp)
      have ll := nm_len hl
      have en1 : h1[f]? = some (.lst ((bs ++ [l]).map D.str)) := f1.get en hf
      have gi : gIx (.ref f) (.int (-1)) h1 = .ok (.str l) h1 := gIx_lst (lst_of en1) (by rw [List.map_append]; exact atI_neg1 _ _)
      have tk2 := take_eq (h := h1) (σ := s) (e := retM (.int 26)) (m := 26) rfl (fun _ => rfl)
      refine ⟨(l ++ [q]).take 8, h2, c2, s_ift (h1 := h1) (by rw [ap_andB, e1, bnd_ok, if_pos rfl, e2]; simp [c1']) (s_set (h1 := h2) (d := .str ((l ++ [q]).take 8)) ?_ rfl), nm_of ?_ ?_ ?_, f1.trans f2, x2, by omega⟩
      · have c8 : cutG (.str (l ++ [q])) none (some ((8 : Nat) : Int)) h2 = .ok (.str ((l ++ [q]).take 8)) h2 := by
          unfold cutG
          dsimp only
          rw [if_pos (by unfold line; simp; omega), cut_take]
        have ad := gAdd_str (h := h2) (x := l) (y := [q]) (by simp; omega)
        rw [ap_own, ap_sl, ap_op2, ap_op2, ap_var]
        show own (((((optV (some (some (.ref f))) h1).bnd _).bnd _).bnd _)) = _
        rw [optV_some, bnd_ok, ap_op1, ap_ret, bnd_ok]
        show own ((((gIx (.ref f) (.int (-1)) h1)).bnd _).bnd _) = _
        rw [gi, bnd_ok, ap_op2, ap_var]
        show own (((((optV (some (some (.str abc))) h1).bnd _).bnd _).bnd _)) = _
        rw [optV_some, bnd_ok, tk2, t2, bnd_ok, iq, bnd_ok, ad, bnd_ok]
        show own (cutG (.str (l ++ [q])) none (some ((8 : Nat) : Int)) h2) = _
        rw [c8]
        rfl
      · simp; omega
      · simp; omega
      · intro z hz
        rcases List.mem_append.mp (List.mem_of_mem_take hz) with hz | hz
        · exact nm_abc hl z hz
        · simp at hz; subst hz; exact hq
    · exact ⟨w, h1, c1, s_iff (h1 := h1) (by rw [ap_andB, e1, bnd_ok, if_pos rfl, e2]; simp [c1']) rfl, hw, f1, x1, by omega⟩
theorem namesB_ok {p m f c : Nat} {b : MH} {ns : List Nm} (x : Pot p c h) (hc : c + 30 < 1099511627776) (hf : f ≠ p) (hb : b.length ≤ f) (fr : Fr p b h) (en : h[f]? = some (.lst (ns.map D.str))) (nd : ns.Nodup) (nn : ∀ x ∈ ns, isNm x = true) (hl : ns.length < 26) (x4 x5 x6 x7 x8 x9 : Option D) :
    ∃ y5 y6 w h' c', namesB (sgN p m f x4 x5 x6 x7 x8 x9) h = .nx (sgN p m f x4 y5 y6 x7 x8 x9) h' ∧ h'[f]? = some (.lst ((ns ++ [w]).map D.str)) ∧ (ns ++ [w]).Nodup ∧ (∀ x ∈ ns ++ [w], isNm x = true) ∧ Fr p b h' ∧ Pot p c' h' ∧ c' ≤ c + 11 := by
  obtain ⟨w, h1, c1, e1, ⟨w1, w8, wa⟩, f1, x1, d1⟩ := word_ok x (by omega) (σ := sgN p m f x4 x5 x6 x7 x8 x9) rfl rfl (by simp)
  have hw : isNm w = true := nm_of w1 w8 wa
  have en1 := f1.get en hf
  obtain ⟨v, h2, c2, e2, hv, f2, x2, d2⟩ := long_ok (m := m) x1 (by omega) hf hw en1 nn x4 x6 x7 x8 x9
  have en2 := f2.get en1 hf
  have e3 := somes_ok (h := h2) (p := p) (m := m) (f := f) hv x4 x6 x7 x8 x9
  obtain ⟨z, r, ez⟩ := somes_new v hl
  let h3 : MH := h2 ++ [.lst ((somes v).map D.str)]
  have en3 : h3[f]? = some (.lst (ns.map D.str)) := get_grow en2
  have es3 : h3[h2.length]? = some (.lst ((somes v).map D.str)) := by simp [h3]
  have e4 := pick_ok (h := h3) (σ := sgN p m f x4 (some (.str v)) (some (.ref h2.length)) x7 x8 x9) (i := 6) (j := 9) (k := 3) rfl rfl (by decide) (by simp) (by decide) es3 en3 (by rw [somes_len]; omega) ez
  have hz : z ∈ somes v ∧ z ∉ ns := by
    have : z ∈ (somes v).filter (fun y => !decide (y ∈ ns)) := by rw [ez]; simp
    have := List.mem_filter.mp this
    exact ⟨this.1, by simpa using this.2⟩
  have zn := somes_nm hv z hz.1
  have hf3 : f < h3.length := get_lt en3
  refine ⟨some (.str v), some (.ref h2.length), z, h3.set f (.lst ((ns ++ [z]).map D.str)), c2, ?_, by simp [hf3], ?_, ?_, ?_, ?_, by omega⟩
  · unfold namesB
    refine s_seq (s_set e1 rfl) (s_seq e2 (s_seq e3 (s_expr (d := .non) ?_)))
    rw [ap_mt, ap_var]
    show (((optV (some (some (.ref f))) h3).bnd _)) = _
    rw [optV_some, bnd_ok, if_pos (show tyB Ty.lst h3 (.ref f) = true by simp [tyB, lst_of en3]), ap_cons]
    show ((((op2 gIx _ _) (sgN p m f x4 (some (.str v)) (some (.ref h2.length)) x7 x8 x9) h3).bnd _).bnd _) = _
    rw [e4, bnd_ok, ap_nil, bnd_ok, bnd_ok]
    unfold gAppend
    dsimp only
    rw [en3]
    dsimp only
    rw [if_pos ⟨rfl, by unfold line; simp; omega⟩, List.map_append]
    rfl
  · refine List.nodup_append.mpr ⟨nd, by simp, fun a ha b hb => ?_⟩
    simp at hb
    subst hb
    intro e
    subst e
    exact hz.2 ha
  · intro y hy
    rcases List.mem_append.mp hy with hy | hy
    · exact nn y hy
    · simp at hy; subst hy; exact zn
  · exact Fr.setN (((fr.trans f1).trans f2).trans (Fr.grow p h2 _)) hb
  · obtain ⟨a, b', ha, eb⟩ := x2.grow [.lst ((somes v).map D.str)]
    exact ⟨a, b', ha, by rw [List.getElem?_set_ne hf]; exact eb⟩
theorem names_ok {p c m : Nat} (x : Pot p c h) (hm : m ≤ 6) (hc : c + 100 < 1099511627776) :
    ∃ (ns : List Nm) (h' : MH) (c' : Nat), F__law_names [.ref p, .int (m : Int)] h = .ok (.ref h.length) h' ∧ h'[h.length]? = some (.lst (ns.map D.str)) ∧ ns.length = m ∧ ns.Nodup ∧ (∀ x ∈ ns, isNm x = true) ∧ Fr p h h' ∧ Pot p c' h' ∧ c' ≤ c + 11 * m := by
  have hp := x.lt
  let h1 : MH := h ++ [.lst []]
  let src : Src := ⟨(List.range m).map fun i : Nat => .int (0 + (i : Int)), []⟩
  let I : Nat → Sg → MH → Prop := fun j σ h' => ∃ (x4 x5 x6 x7 x8 x9 : Option D) (ns : List Nm) (c' : Nat), σ = sgN p m h.length x4 x5 x6 x7 x8 x9 ∧ h'[h.length]? = some (.lst (ns.map D.str)) ∧ ns.length = j ∧ ns.Nodup ∧ (∀ x ∈ ns, isNm x = true) ∧ Fr p h h' ∧ Pot p c' h' ∧ c' ≤ c + 11 * j
  obtain ⟨σ2, h2, e2, x4, x5, x6, x7, x8, x9, ns, c2, rfl, en, nl, nd, nn, f2, p2, d2⟩ := forL_inv (src := src) (p := .nm 4) (b := namesB) I src.items 0 (sgN p m h.length none none none none none none) h1 (fun _ _ _ _ _ _ => ok_nil) (fun j d σ h' hj ed hI => by
    obtain ⟨x4, x5, x6, x7, x8, x9, ns, c', rfl, en, nl, nd, nn, f, p', d'⟩ := hI
    have jl : j < m := by
      have := (List.getElem?_eq_some_iff.mp ed).1
      simp [src] at this
      omega
    obtain ⟨k, ek, rfl⟩ : ∃ k : Nat, (List.range m)[j - 0]? = some k ∧ d = .int (0 + (k : Int)) := by
      have z := ed
      simp only [src, List.getElem?_map] at z
      obtain ⟨k, e1, e2⟩ := Option.map_eq_some_iff.mp z
      exact ⟨k, e1, e2.symm⟩
    obtain ⟨y5, y6, w, h3, c3, e3, en3, nd3, nn3, f3, p3, d3⟩ := namesB_ok (h := h') (m := m) (b := h) p' (by omega) (by omega) (Nat.le_refl _) f en nd nn (by omega) (some (.int (0 + (k : Int)))) x5 x6 x7 x8 x9
    exact ⟨sgN p m h.length (some (.int (0 + (k : Int)))) x5 x6 x7 x8 x9, by simp, _, h3, .inl e3, _, y5, y6, x7, x8, x9, ns ++ [w], c3, rfl, en3, by simp [nl], nd3, nn3, f3, p3, by omega⟩)
    ⟨none, none, none, none, none, none, [], c, rfl, by simp [h1], rfl, List.nodup_nil, by simp, Fr.grow p h _, x.grow _, by omega⟩
  have il : 0 + src.items.length = m := by simp [src]
  rw [il] at nl d2
  refine ⟨ns, h2, c2, ?_, en, nl, nd, nn, f2, p2, d2⟩
  refine fn_rt rfl (s_seq (h1 := h) (σ1 := [some (.ref p), some (.int (m : Int)), some (.str abc), none, none, none, none, none, none, none]) (s_set (d := .str abc) rfl rfl) (s_seq (h1 := h1) (σ1 := sgN p m h.length none none none none none none) (s_set (d := .ref h.length) ?_ rfl) (s_seq (h1 := h2) (s_for (src := src) (h1 := h1) ?_ e2) (s_ret rfl rfl))))
  · simp [line]
    rfl
  · rw [ap_src, ap_cons, ap_var]
    show ((((optV (some (some (.int (m : Int)))) h1).bnd _)).bnd _) = _
    rw [optV_some, bnd_ok, ap_nil, bnd_ok, bnd_ok, range1_ok (by omega)]
end HD
end
noncomputable section
set_option Elab.async false
set_option linter.all false
set_option maxRecDepth 100000
set_option maxHeartbeats 4000000
namespace HD
open PySem PySem.Spec L2 Dn
variable {h h1 : MH}
def spare : List Nm := (List.range 8).map fun k => List.replicate k 121 ++ [120]
theorem spare_nm : ∀ x ∈ spare, isNm x = true := by decide +kernel
theorem flat_rep (c : Nat) : ∀ k : Nat, (List.replicate k [c]).flatten = List.replicate k c
  | 0 => rfl
  | k + 1 => by rw [List.replicate_succ, List.flatten_cons, flat_rep c k]; rfl
theorem spare_new (w : List Nm) {us : List Nm} (hu : us.length < 8) : ∃ x r, (w ++ spare).filter (fun y => !decide (y ∈ us)) = x :: r := by
  have ex : ∃ y ∈ spare, y ∉ us := by
    refine Classical.byContradiction fun no => ?_
    have sub : ∀ y ∈ spare, y ∈ us := fun y hy => Classical.byContradiction fun hn => no ⟨y, hy, hn⟩
    have nd : spare.Nodup := by decide +kernel
    have := List.Nodup.length_le_of_subset nd sub
    have sl : spare.length = 8 := rfl
    omega
  obtain ⟨y, hy, hn⟩ := ex
  have hm : y ∈ (w ++ spare).filter (fun y => !decide (y ∈ us)) := List.mem_filter.mpr ⟨List.mem_append_right _ hy, by simp [hn]⟩
  cases e : (w ++ spare).filter (fun y => !decide (y ∈ us)) with
  | nil => rw [e] at hm; cases hm
  | cons x r => exact ⟨x, r, rfl⟩
theorem gAdd_tr {n : Nat} {xs ys : List D} (e : h[n]? = some (.lst ys)) (hl : xs.length + ys.length ≤ 1000000) : gAdd (.tl xs) (.ref n) h = .ok (.tl (xs ++ ys)) h := by
  have e2 : lstW h (.ref n) = some ys := by simp [lstW, e]
  show (match lstW h (.tl xs), lstW h (.ref n) with
    | some xs, some ys => if xs.length + ys.length ≤ line then R.ok (D.tl (xs ++ ys)) h else .stuck
    | _, _ => .stuck) = _
  rw [e2]
  show (if xs.length + ys.length ≤ line then R.ok (D.tl (xs ++ ys)) h else .stuck) = _
  rw [if_pos (by unfold line; omega)]
theorem draw_ok {p c i j : Nat} {xs : List D} (x : Pot p c h) (hc : c + 1 < 1099511627776) {σ : Sg} (s0 : σ[0]? = some (some (.ref p))) (si : σ[i]? = some (some (.ref j))) (hj : j ≠ p) (e : h[j]? = some (.lst xs)) (h1 : 1 ≤ xs.length) (h2 : xs.length ≤ 1000) :
    ∃ (d : D) (h' : MH) (c' : Nat), (op2 gIx (mVar i) (fcallM F__law_take [] (consM (mVar 0) (consM (op1 gLen (mVar i)) nilM)))) σ h = .ok d h' ∧ d ∈ xs ∧ Fr p h h' ∧ Pot p c' h' ∧ c' ≤ c + 1 := by
  obtain ⟨r, h3, c3, e3, ⟨a3, b3⟩, f3, x3, d3⟩ := take_ok (m := (xs.length : Int)) x (by omega) (by omega) (by omega)
  have tk := take_eq (h := h) (σ := σ) (e := op1 gLen (mVar i)) (m := (xs.length : Int)) s0
  obtain ⟨d, ed⟩ : ∃ d, xs[r.toNat]? = some d := ⟨_, List.getElem?_eq_getElem (by omega)⟩
  have er : r = (r.toNat : Int) := by omega
  refine ⟨d, h3, c3, ?_, List.mem_of_getElem? ed, f3, x3, d3⟩
  have e4 := f3.get e hj
  have ix : gIx (.ref j) (.int r) h3 = .ok d h3 := by
    rw [er]
    exact gIx_lst (lst_of e4) (Dn.atI_nat ed)
  rw [ap_op2, ap_var, si, optV_some, bnd_ok, ap_call, ap_cons, ap_var, s0, optV_some, bnd_ok, ap_cons, ap_op1, ap_var, si, optV_some, bnd_ok, gLen_lst (lst_of e), bnd_ok, ap_nil, bnd_ok, bnd_ok, bnd_ok]
  show ((F__law_take [.ref p, .int (xs.length : Int)] h).bnd _) = _
  rw [e3, bnd_ok, ix]
abbrev sgW4 (p st u : Nat) (x3 x4 x5 x6 : Option D) : Sg := [some (.ref p), some (.ref st), some (.ref u), x3, x4, x5, x6]
theorem lawword_ok {p c st u : Nat} {ss us : List Nm} (x : Pot p c h) (hc : c + 200 < 1099511627776) (hst : st ≠ p) (hu : u ≠ p) (es : h[st]? = some (.lst (ss.map D.str))) (eu : h[u]? = some (.lst (us.map D.str)))
    (s1 : 1 ≤ ss.length) (s6 : ss.length ≤ 6) (sn : ∀ x ∈ ss, isNm x = true) (u8 : us.length < 8) :
    ∃ (w : Nm) (h' : MH) (c' : Nat), F__law_word [.ref p, .ref st, .ref u] h = .ok (.str w) h' ∧ isNm w = true ∧ w ∉ us ∧ Fr p h h' ∧ Pot p c' h' ∧ c' ≤ c + 13 := by
  obtain ⟨d, h2, c2, e2, hd, f2, x2, d2⟩ := draw_ok (σ := sgW4 p st u none none none none) (i := 1) x (by omega) rfl rfl hst es (by simpa using s1) (by simp; omega)
  obtain ⟨w, hw, rfl⟩ := List.mem_map.mp hd
  have wn := sn w hw
  have opt : ∃ (v : Nm) (h' : MH) (c' : Nat), (ifS (asB (op2 (gEq false) (fcallM F__law_take [] (consM (mVar 0) (consM (retM (.int 4)) nilM))) (retM (.int 0)))) (setS 3 (op2 gIx (fcallM F__law_names [] (consM (mVar 0) (consM (retM (.int 1)) nilM))) (retM (.int 0)))) skipS) (sgW4 p st u (some (.str w)) none none none) h2 = .nx (sgW4 p st u (some (.str v)) none none none) h' ∧ isNm v = true ∧ Fr p h2 h' ∧ Pot p c' h' ∧ c' ≤ c2 + 12 := by
    obtain ⟨r, h3, c3, e3, ⟨a3, b3⟩, f3, x3, d3⟩ := take_ok (m := 4) x2 (by omega) (by omega) (by omega)
    have tk := take_eq (h := h2) (σ := sgW4 p st u (some (.str w)) none none none) (e := retM (.int 4)) (m := 4) rfl (fun _ => rfl)
    have et : (asB (op2 (gEq false) (fcallM F__law_take [] (consM (mVar 0) (consM (retM (.int 4)) nilM))) (retM (.int 0)))) (sgW4 p st u (some (.str w)) none none none) h2 = .ok (decide (r = 0)) h3 := by
      rw [ap_asB, ap_op2, tk, e3, bnd_ok, ap_ret, bnd_ok, gEq_int]
      rfl
    by_cases c0 : r = 0
    · obtain ⟨ns, h4, c4, e4, en, nl, nd, nn, f4, x4, d4⟩ := names_ok (m := 1) x3 (by omega) (by omega)
      obtain ⟨v, rfl⟩ : ∃ v, ns = [v] := by
        match ns, nl with
        | [v], _ => exact ⟨v, rfl⟩
      refine ⟨v, h4, c4, s_ift (h1 := h3) (by rw [et]; simp [c0]) (s_set (d := .str v) (h1 := h4) ?_ rfl), nn v (by simp), f3.trans f4, x4, by omega⟩
      have e4' : F__law_names [.ref p, .int 1] h3 = .ok (.ref h3.length) h4 := e4
      rw [ap_op2, ap_call, ap_cons, ap_var]
      show (((((optV (some (some (.ref p))) h3).bnd _)).bnd _).bnd _) = _
      rw [optV_some, bnd_ok, ap_cons, ap_ret, bnd_ok, ap_nil, bnd_ok, bnd_ok, bnd_ok]
      show ((F__law_names [.ref p, .int 1] h3).bnd _) = _
      rw [e4', bnd_ok, ap_ret, bnd_ok]
      exact gIx_lst (lst_of en) (Dn.atI_nat (i := 0) rfl)
    · exact ⟨w, h3, c3, s_iff (h1 := h3) (by rw [et]; simp [c0]) rfl, wn, f3, x3, by omega⟩
  obtain ⟨v, h3, c3, e3, vn, f3, x3, d3⟩ := opt
  have es3 := f3.get (f2.get es hst) hst
  have eu3 := f3.get (f2.get eu hu) hu
  let L : List Nm := (v :: ss) ++ spare
  let h4 : MH := h3 ++ [.lst (L.map D.str)]
  have eL : h4[h3.length]? = some (.lst (L.map D.str)) := by simp [h4]
  have eu4 : h4[u]? = some (.lst (us.map D.str)) := get_grow eu3
  obtain ⟨z, r, ez⟩ := spare_new (v :: ss) u8
  have ez' : L.filter (fun y => !decide (y ∈ us)) = z :: r := ez
  have hz : z ∈ L ∧ z ∉ us := by
    have : z ∈ L.filter (fun y => !decide (y ∈ us)) := by rw [ez']; simp
    have := List.mem_filter.mp this
    exact ⟨this.1, by simpa using this.2⟩
  have zn : isNm z = true := by
    rcases List.mem_append.mp hz.1 with hy | hy
    · rcases List.mem_cons.mp hy with rfl | hy
      · exact vn
      · exact sn z hy
    · exact spare_nm z hy
  have Ll : L.length ≤ 20 := by
    have : spare.length = 8 := rfl
    simp [L, this]
    omega
  have e4 := pick_ok (h := h4) (σ := sgW4 p st u (some (.str v)) (some (.ref h3.length)) none none) (i := 4) (j := 6) (k := 2) (L := L) (ns := us) rfl rfl (by decide) (by simp) (by decide) eL eu4 (by omega) ez'
  refine ⟨z, h4, c3, ?_, zn, hz.2, (f2.trans f3).trans (Fr.grow p h3 _), x3.grow _, by omega⟩
  refine fn_rt rfl (s_seq (s_set e2 rfl) (s_seq e3 (s_seq (h1 := h4) (σ1 := sgW4 p st u (some (.str v)) (some (.ref h3.length)) none none) (s_set (d := .ref h3.length) ?_ rfl) (s_ret (d := .str z) e4 rfl))))
  have k1 := lcL_map (h := h3) (src := ⟨(List.range 8).map fun i : Nat => .int (0 + (i : Int)), []⟩) (p := .nm 5) (t := retM true) (e := op2 gAdd (op2 gMulB (retM (.str [121])) (mVar 5)) (retM (.str [120]))) (σ0 := sgW4 p st u (some (.str v)) none none none) (fun d => match d with
    | .int i => some (.str (List.replicate i.toNat 121 ++ [120]))
    | _ => none) ok_nil ((List.range 8).map fun i : Nat => .int (0 + (i : Int))) [] (fun d hd => by
      obtain ⟨k, hk, rfl⟩ := List.mem_map.mp hd
      have hk8 : k < 8 := by simpa using hk
      refine ⟨sgW4 p st u (some (.str v)) none (some (.int (0 + (k : Int)))) none, by simp, rfl, ?_, rfl⟩
      have ek : (0 + (k : Int)).toNat = k := by omega
      have mu : gMulB (.str [121]) (.int (0 + (k : Int))) h3 = .ok (.str (List.replicate k 121)) h3 := by
        unfold gMulB
        dsimp only
        rw [ek, if_pos (by unfold line; simp; omega), flat_rep]
      have ad := gAdd_str (x := List.replicate k 121) (y := [120]) (h := h3) (by simp; omega)
      rw [ap_op2, ap_op2, ap_ret, bnd_ok, ap_var]
      show (((optV (some (some (.int (0 + (k : Int))))) h3).bnd _).bnd _) = _
      rw [optV_some, bnd_ok, mu, bnd_ok, ap_ret, bnd_ok, ad, ek]) (by simp [line])
  have m1 : ((List.range 8).map fun i : Nat => D.int (0 + (i : Int))).filterMap (fun d => match d with
    | .int i => some (.str (List.replicate i.toNat 121 ++ [120]))
    | _ => none) = spare.map D.str := rfl
  rw [m1, List.nil_append] at k1
  have g1 := gAdd_tr (h := h3) (n := st) (xs := [.str v]) es3 (by simp; omega)
  have g2 := gAdd_tl (h := h3) (x := [.str v] ++ ss.map D.str) (y := spare.map D.str) (by simp [spare]; omega)
  have fin : ([D.str v] ++ ss.map D.str) ++ spare.map D.str = L.map D.str := by simp [L]
  rw [fin] at g2
  have rg : range1V [.int 8] h3 = .ok ⟨(List.range 8).map fun i : Nat => .int (0 + (i : Int)), []⟩ h3 := range1_ok (n := 8) (by omega)
  have wp : wipeD (sgW4 p st u (some (.str v)) none none none) [5] = sgW4 p st u (some (.str v)) none none none := rfl
  rw [ap_own, ap_op2, ap_op2, ap_lst, ap_cons, ap_var]
  show own ((((((optV (some (some (.str v))) h3).bnd _).bnd _).bnd _).bnd _)) = _
  rw [optV_some, bnd_ok, ap_nil, bnd_ok, bnd_ok, if_pos ⟨rfl, by unfold line; simp⟩, bnd_ok, ap_var]
  show own (((optV (some (some (.ref st))) h3).bnd _).bnd _) = _
  rw [optV_some, bnd_ok, g1, bnd_ok, ap_lc, ap_src, ap_cons, ap_ret, bnd_ok, ap_nil, bnd_ok, bnd_ok, rg, bnd_ok, wp]
  dsimp only
  rw [k1, bnd_ok, g2]
  rfl
end HD
end
noncomputable section
set_option Elab.async false
set_option linter.all false
set_option maxRecDepth 100000
set_option maxHeartbeats 4000000
namespace HD
open PySem PySem.Spec L2 Dn
variable {h h1 : MH}
theorem s_asgL {ps : List Pat} {m : M D} {σ σ1 : Sg} {n : Nat} {ds : List D} (e : m σ h = .ok (.ref n) h1) (el : lstOf h1 (.ref n) = some ds) (hl : ds.length = ps.length) (ep : putL ps ds σ = some σ1) : asgLS ps m σ h = .nx σ1 h1 := by
  unfold asgLS
  rw [as_run, e, bndS_ok]
  dsimp only
  rw [el]
  dsimp only
  rw [if_pos hl, ep]
structure FrS (S : List Nat) (h h' : MH) : Prop where
  len : h.length ≤ h'.length
  same : ∀ n, n < h.length → n ∉ S → h'[n]? = h[n]?
theorem Fr.toS {p : Nat} {S : List Nat} (a : Fr p h h1) (hp : p ∈ S) : FrS S h h1 := ⟨a.len, fun n hn hs => a.same n hn fun e => hs (e ▸ hp)⟩
theorem FrS.trans {S : List Nat} {h2 : MH} (a : FrS S h h1) (b : FrS S h1 h2) : FrS S h h2 := ⟨Nat.le_trans a.len b.len, fun n hn hs => (b.same n (Nat.lt_of_lt_of_le hn a.len) hs).trans (a.same n hn hs)⟩
theorem FrS.get {S : List Nat} {n : Nat} {o : MO} (a : FrS S h h1) (e : h[n]? = some o) (hs : n ∉ S) : h1[n]? = some o := by rw [a.same n (get_lt e) hs, e]
theorem FrS.set {S : List Nat} (h : MH) {n : Nat} (o : MO) (hn : n ∈ S) : FrS S h (h.set n o) := ⟨by simp, fun k hk hs => List.getElem?_set_ne (by intro e; subst e; exact hs hn)⟩
theorem FrS.mono {S T : List Nat} (a : FrS S h h1) (st : ∀ x ∈ S, x ∈ T) : FrS T h h1 := ⟨a.len, fun n hn hs => a.same n hn fun e => hs (st n e)⟩
theorem filter_by (f : Nm → Bool) : ∀ L : List Nm, (L.map D.str).filterMap (fun d => match d with
    | .str x => if f x = true then some (D.str x) else none
    | _ => none) = (L.filter f).map D.str
  | [] => rfl
  | x :: L => by
    rw [List.map_cons, List.filterMap_cons]
    dsimp only
    by_cases c : f x = true
    · rw [if_pos c, List.filter_cons_of_pos c, List.map_cons]
      dsimp only
      rw [filter_by f L]
    · rw [if_neg c, List.filter_cons_of_neg c]
      exact filter_by f L
theorem sift_ok {σ : Sg} {i j r : Nat} {t : M Bool} {L : List Nm} (f : Nm → Bool) (si : σ[i]? = some (some (.ref r))) (hj : j < σ.length) (er : h[r]? = some (.lst (L.map D.str))) (hl : L.length ≤ 1000000)
    (ht : ∀ y ∈ L, t ((wipeD σ [j]).set j (some (.str y))) h = .ok (f y) h) : (lcM (op1 srcV (mVar i)) (.nm j) [j] t (mVar j)) σ h = .ok (.tl ((L.filter f).map D.str)) h := by
  have k1 := lcM_map (h := h) (h1 := h) (σ := σ) (m := op1 srcV (mVar i)) (src := ⟨L.map D.str, liveOf (.ref r) (L.map D.str)⟩) (p := .nm j) (vs := [j]) (t := t) (e := mVar j) (fun d => match d with
    | .str x => if f x = true then some (D.str x) else none
    | _ => none) (by rw [ap_op1, ap_var, si, optV_some, bnd_ok, src_lst (lst_of er)]) (live_ok (lst_of er)) (fun d hd => by
      obtain ⟨y, hy, rfl⟩ := List.mem_map.mp hd
      refine ⟨(wipeD σ [j]).set j (some (.str y)), by simp, ?_⟩
      have g1 : ((wipeD σ [j]).set j (some (.str y)))[j]? = some (some (.str y)) := by simp [wipeD, hj]
      have z := ht y hy
      by_cases c : f y = true
      · dsimp only
        rw [if_pos c]
        exact ⟨by rw [z, c], by rw [ap_var, g1, optV_some], rfl⟩
      · dsimp only
        rw [if_neg c]
        rw [z]
        simp at c
        rw [c]) (by simp; unfold line; omega)
  rw [k1, filter_by]
theorem len2 {α : Type} {l : List α} (hl : 2 ≤ l.length) : ∃ a b r, l = a :: b :: r := by
  match l, hl with
  | a :: b :: r, _ => exact ⟨a, b, r, rfl⟩
structure NewPl (p : Nat) (hands gone : List Nm) (g : Nat) (h h' : MH) (r g' b : Nat) (gone' : List Nm) (s : Option Nm) : Prop where
  er : h'[r]? = some (.lst [.ref g', optD s, .ref b])
  eg : h'[g']? = some (.lst (gone'.map D.str))
  eb : h'[b]? = some (.lst [])
  hr : h.length ≤ r
  hb : h.length ≤ b
  rb : r ≠ b
  gb : g' ≠ b
  gr : g' ≠ r
  gg : g' = g ∨ h.length ≤ g'
  fr : Fr p h h'
  kind : (s = none ∧ gone' = hands) ∨ (∃ x t, s = some x ∧ gone' = gone ∧ x ∈ hands ∧ x ∉ gone ∧ t ∈ hands ∧ t ∉ gone ∧ t ≠ x)
abbrev sgP (p ih g : Nat) (x3 x4 : Option D) : Sg := [some (.ref p), some (.ref ih), some (.ref g), x3, x4]
theorem new_place_ok {p c ih g : Nat} {hands gone : List Nm} (x : Pot p c h) (hc : c + 10 < 1099511627776) (hih : ih ≠ p) (hg : g ≠ p) (eh : h[ih]? = some (.lst (hands.map D.str))) (eg : h[g]? = some (.lst (gone.map D.str)))
    (h6 : hands.length ≤ 6) (nd : hands.Nodup) : ∃ (r g' b : Nat) (gone' : List Nm) (s : Option Nm) (h' : MH) (c' : Nat), F__law_new_place [.ref p, .ref ih, .ref g] h = .ok (.ref r) h' ∧ NewPl p hands gone g h h' r g' b gone' s ∧ Pot p c' h' ∧ c' ≤ c + 2 := by
  let f : Nm → Bool := fun y => !decide (y ∈ gone)
  let L := hands.filter f
  have e1 := sift_ok (h := h) (σ := sgP p ih g none none) (i := 1) (j := 4) (t := asB (op2 (gIn true) (mVar 4) (mVar 2))) f rfl (by simp) eh (by omega) (fun y hy => by
    have gi := gIn_strs (neg := true) (h := h) y (row_of eg) (fun t e => by cases e)
    rw [ap_asB, ap_op2, ap_var]
    show (((optV (some (some (.str y))) h).bnd _)).bnd _ = _
    rw [optV_some, bnd_ok, ap_var]
    show (((optV (some (some (.ref g))) h).bnd _)).bnd _ = _
    rw [optV_some, bnd_ok, gi]
    rfl)
  let h1 : MH := h ++ [.lst (L.map D.str)]
  have eL : h1[h.length]? = some (.lst (L.map D.str)) := by simp [h1]
  have Ll : L.length ≤ 6 := Nat.le_trans (List.length_filter_le _ _) h6
  have mL : ∀ y ∈ L, y ∈ hands ∧ y ∉ gone := fun y hy => by
    have := List.mem_filter.mp hy
    exact ⟨this.1, by simpa [f] using this.2⟩
  have ndL : L.Nodup := nd.filter f
  have hp := x.lt
  have x1 : Pot p c h1 := x.grow _
  have s1 : (setS 3 (ownM (lcM (op1 srcV (mVar 1)) (.nm 4) [4] (asB (op2 (gIn true) (mVar 4) (mVar 2))) (mVar 4)))) (sgP p ih g none none) h = .nx (sgP p ih g (some (.ref h.length)) none) h1 := s_set (d := .ref h.length) (h1 := h1) (by rw [ap_own, e1]; rfl) rfl
  let σ1 := sgP p ih g (some (.ref h.length)) none
  have ln : (asB (op2 gLt (op1 gLen (mVar 3)) (retM (.int 2)))) σ1 h1 = .ok (decide ((L.length : Int) < 2)) h1 := by
    rw [ap_asB, ap_op2, ap_op1, ap_var]
    show (((optV (some (some (.ref h.length))) h1).bnd _).bnd _).bnd _ = _
    rw [optV_some, bnd_ok, gLen_lst (lst_of eL), bnd_ok, ap_ret, bnd_ok, gLt_int, bnd_ok]
    simp
  have ended : ∀ {h2 : MH} {c2 : Nat}, Fr p h1 h2 → Pot p c2 h2 → c2 ≤ c + 2 → (orB (asB (op2 gLt (op1 gLen (mVar 3)) (retM (.int 2)))) (asB (op2 (gEq false) (fcallM F__law_take [] (consM (mVar 0) (consM (retM (.int 6)) nilM))) (retM (.int 0))))) σ1 h1 = .ok true h2 →
      ∃ (r g' b : Nat) (gone' : List Nm) (s : Option Nm) (h' : MH) (c' : Nat), F__law_new_place [.ref p, .ref ih, .ref g] h = .ok (.ref r) h' ∧ NewPl p hands gone g h h' r g' b gone' s ∧ Pot p c' h' ∧ c' ≤ c + 2 := by
    intro h2 c2 f2 x2 d2 et
    have hl2 : h.length + 1 ≤ h2.length := by have := f2.len; simp [h1] at this; omega
    have eh2 := f2.get (get_grow eh : h1[ih]? = _) hih
    let h3 : MH := h2 ++ [.lst (hands.map D.str)]
    let h4 : MH := h3 ++ [.lst []]
    let h5 : MH := h4 ++ [.lst [.ref h2.length, .non, .ref h3.length]]
    have l3 : h3.length = h2.length + 1 := by simp [h3]
    have l4 : h4.length = h2.length + 2 := by simp [h4, l3]
    refine ⟨h4.length, h2.length, h3.length, hands, none, h5, c2, ?_, ⟨by simp [h5, optD], ?_, ?_, by omega, by omega, by omega, by omega, by omega, .inr (by omega), ?_, .inl ⟨rfl, rfl⟩⟩, ((x2.grow _).grow _).grow _, d2⟩
    · refine fn_rt rfl (s_seq s1 (s_seq_rt (s_ift et (s_ret (d := .ref h4.length) ?_ rfl))))
      have gl : gList (.ref ih) h2 = .ok (.tl (hands.map D.str)) h2 := by
        show (match lstOf h2 (.ref ih) with
          | some ds => R.ok (D.tl ds) h2
          | none => .stuck) = _
        rw [lst_of eh2]
      rw [ap_own, ap_lst, ap_cons, ap_own, ap_op1, ap_var]
      show own ((((own ((optV (some (some (.ref ih))) h2).bnd _)).bnd _)).bnd _) = _
      rw [optV_some, bnd_ok, gl, own_tl, bnd_ok, ap_cons, ap_ret, bnd_ok, ap_cons, ap_own, ap_lst, ap_nil, bnd_ok, if_pos ⟨rfl, by unfold line; simp⟩, own_tl, bnd_ok, ap_nil, bnd_ok, bnd_ok, bnd_ok, bnd_ok, if_pos ⟨rfl, by unfold line; simp⟩]
      rfl
    · have : h3[h2.length]? = some (.lst (hands.map D.str)) := by simp [h3]
      exact get_grow (get_grow this)
    · have : h4[h3.length]? = some (.lst []) := by simp [h4]
      exact get_grow this
    · exact ((((Fr.grow p h _).trans f2).trans (Fr.grow p h2 _)).trans (Fr.grow p h3 _)).trans (Fr.grow p h4 _)
  by_cases c2 : L.length < 2
  · refine ended (Fr.refl p h1) x1 (by omega) ?_
    have : ((L.length : Int) < 2) := by omega
    rw [ap_orB, ln]
    simp [this]
  · have c2' : ¬ ((L.length : Int) < 2) := by omega
    obtain ⟨r, h2, c2, e2, ⟨a2, b2⟩, f2, x2, d2⟩ := take_ok (m := 6) x1 (by omega) (by omega) (by omega)
    have tk := take_eq (h := h1) (σ := σ1) (e := retM (.int 6)) (m := 6) rfl (fun _ => rfl)
    have e2' : (orB (asB (op2 gLt (op1 gLen (mVar 3)) (retM (.int 2)))) (asB (op2 (gEq false) (fcallM F__law_take [] (consM (mVar 0) (consM (retM (.int 6)) nilM))) (retM (.int 0))))) σ1 h1 = .ok (decide (r = 0)) h2 := by
      rw [ap_orB, ln, bnd_ok, decide_eq_false c2', ap_asB, ap_op2, tk, e2, bnd_ok, ap_ret, bnd_ok, gEq_int]
      rfl
    by_cases c0 : r = 0
    · exact ended f2 x2 (by omega) (by rw [e2']; simp [c0])
    · have ht : (orB (asB (op2 gLt (op1 gLen (mVar 3)) (retM (.int 2)))) (asB (op2 (gEq false) (fcallM F__law_take [] (consM (mVar 0) (consM (retM (.int 6)) nilM))) (retM (.int 0))))) σ1 h1 = .ok false h2 := by rw [e2']; simp [c0]
      have hlp : h.length ≠ p := by omega
      have eL2 := f2.get eL hlp
      have eg2 := f2.get (get_grow eg : h1[g]? = _) hg
      obtain ⟨d, h3, c3, e3, hd, f3, x3, d3⟩ := draw_ok (h := h2) (σ := σ1) (i := 3) x2 (by omega) rfl rfl hlp eL2 (by simp; omega) (by simp; omega)
      obtain ⟨s, hs, rfl⟩ := List.mem_map.mp hd
      have eg3 := f3.get eg2 hg
      have hl3 : h.length + 1 ≤ h3.length := by
        have := f2.len
        have := f3.len
        simp [h1] at *
        omega
      let h4 : MH := h3 ++ [.lst []]
      let h5 : MH := h4 ++ [.lst [.ref g, .str s, .ref h3.length]]
      have l4 : h4.length = h3.length + 1 := by simp [h4]
      have gl := get_lt eg
      have ex : ∃ t ∈ L, t ≠ s := by
        obtain ⟨a, b, r, eL⟩ := len2 (l := L) (by omega)
        by_cases ca : a = s
        · refine ⟨b, by rw [eL]; simp, fun e => ?_⟩
          rw [eL] at ndL
          simp at ndL
          exact ndL.1.1 (ca.trans e.symm)
        · exact ⟨a, by rw [eL]; simp, ca⟩
      obtain ⟨t, ht2, hts⟩ := ex
      refine ⟨h4.length, g, h3.length, gone, some s, h5, c3, ?_, ⟨by simp [h5, optD], get_grow (get_grow eg3), ?_, by omega, by omega, by omega, by omega, by omega, .inl rfl, ?_, .inr ⟨s, t, rfl, rfl, (mL s hs).1, (mL s hs).2, (mL t ht2).1, (mL t ht2).2, hts⟩⟩, (x3.grow _).grow _, by omega⟩
      · refine fn_rt rfl (s_seq s1 (s_seq (s_iff ht rfl) (s_ret (d := .ref h4.length) ?_ rfl)))
        rw [ap_own, ap_lst, ap_cons, ap_var]
        show own ((((optV (some (some (.ref g))) h2).bnd _)).bnd _) = _
        rw [optV_some, bnd_ok, ap_cons]
        show own (((((op2 gIx (mVar 3) _) σ1 h2).bnd _).bnd _).bnd _) = _
        rw [e3, bnd_ok, ap_cons, ap_own, ap_lst, ap_nil, bnd_ok, if_pos ⟨rfl, by unfold line; simp⟩, own_tl, bnd_ok, ap_nil, bnd_ok, bnd_ok, bnd_ok, bnd_ok, if_pos ⟨rfl, by unfold line; simp⟩]
        rfl
      · have : h4[h3.length]? = some (.lst []) := by simp [h4]
        exact get_grow this
      · exact ((((Fr.grow p h _).trans f2).trans f3).trans (Fr.grow p h3 _)).trans (Fr.grow p h4 _)
end HD
end
noncomputable section
set_option Elab.async false
set_option linter.all false
set_option maxRecDepth 100000
set_option maxHeartbeats 4000000
namespace HD
open PySem PySem.Spec L2 Dn
variable {h h1 : MH}
structure Pc where
  id : Nat
  g : Nat
  gone : List Nm
  s : Option Nm
  b : Nat
  brs : List Br
structure PcH (h : MH) (q : Pc) : Prop where
  er : h[q.id]? = some (.lst [.ref q.g, optD q.s, .ref q.b])
  eg : h[q.g]? = some (.lst (q.gone.map D.str))
  eb : h[q.b]? = some (.lst (q.brs.map Br.d))
def fits (gone : List Nm) (s : Nm) (y : Nm) : Bool := !decide (y ∈ gone) && !decide (y = s)
theorem hear_ok {σ : Sg} {i j kg ks ih g : Nat} {hands gone : List Nm} {s : Nm} (si : σ[i]? = some (some (.ref ih))) (hj : j < σ.length) (hkg : kg ≠ j) (hks : ks ≠ j) (sg : σ[kg]? = some (some (.ref g))) (ss : σ[ks]? = some (some (.str s)))
    (eh : h[ih]? = some (.lst (hands.map D.str))) (eg : h[g]? = some (.lst (gone.map D.str))) (h6 : hands.length ≤ 6) :
    (ownM (lcM (op1 srcV (mVar i)) (.nm j) [j] (andB (asB (op2 (gIn true) (mVar j) (mVar kg))) (asB (op2 (gEq true) (mVar j) (mVar ks)))) (mVar j))) σ h = .ok (.ref h.length) (h ++ [.lst ((hands.filter (fits gone s)).map D.str)]) := by
  have e1 := sift_ok (h := h) (σ := σ) (i := i) (j := j) (t := andB (asB (op2 (gIn true) (mVar j) (mVar kg))) (asB (op2 (gEq true) (mVar j) (mVar ks)))) (fits gone s) si hj eh (by omega) (fun y hy => by
    have gi := gIn_strs (neg := true) (h := h) y (row_of eg) (fun t e => by cases e)
    have g1 : ((wipeD σ [j]).set j (some (.str y)))[j]? = some (some (.str y)) := by simp [wipeD, hj]
    have g2 : ((wipeD σ [j]).set j (some (.str y)))[kg]? = some (some (.ref g)) := by simp [wipeD, sg, Ne.symm hkg]
    have g3 : ((wipeD σ [j]).set j (some (.str y)))[ks]? = some (some (.str s)) := by simp [wipeD, ss, Ne.symm hks]
    have t1 : (asB (op2 (gIn true) (mVar j) (mVar kg))) ((wipeD σ [j]).set j (some (.str y))) h = .ok (!decide (y ∈ gone)) h := by
      rw [ap_asB, ap_op2, ap_var, g1, optV_some, bnd_ok, ap_var, g2, optV_some, bnd_ok, gi]
      rfl
    have t2 : (asB (op2 (gEq true) (mVar j) (mVar ks))) ((wipeD σ [j]).set j (some (.str y))) h = .ok (!decide (y = s)) h := by
      rw [ap_asB, ap_op2, ap_var, g1, optV_some, bnd_ok, ap_var, g3, optV_some, bnd_ok, gEq_str]
      rfl
    rw [ap_andB, t1, bnd_ok, t2]
    unfold fits
    by_cases c : y ∈ gone <;> simp [c])
  rw [ap_own, e1]
  rfl
theorem fits_mem {hands gone : List Nm} {s y : Nm} (hy : y ∈ hands.filter (fits gone s)) : y ∈ hands ∧ y ∉ gone ∧ y ≠ s := by
  have := List.mem_filter.mp hy
  unfold fits at this
  simp at this
  exact this
theorem fits_ne {hands gone : List Nm} {s t : Nm} (h1 : t ∈ hands) (h2 : t ∉ gone) (h3 : t ≠ s) : 1 ≤ (hands.filter (fits gone s)).length := by
  have : t ∈ hands.filter (fits gone s) := List.mem_filter.mpr ⟨h1, by unfold fits; simp [h2, h3]⟩
  exact List.length_pos_of_mem this
theorem br_st (b : Br) : b.d.st = true := rfl
theorem br_ix (b : Br) : gIx b.d (.int 0) h = .ok (.str b.hr) h ∧ gIx b.d (.int 1) h = .ok (.str b.w) h ∧ gIx b.d (.int 2) h = .ok (.int (b.th : Int)) h := ⟨rfl, rfl, rfl⟩
theorem append_ok {n : Nat} {xs : List D} {x : D} (e : h[n]? = some (.lst xs)) (hx : x.st = true) (hl : xs.length < 1000) : gAppend (.ref n) [x] h = .ok .non (h.set n (.lst (xs ++ [x]))) := by
  unfold gAppend
  dsimp only
  rw [e]
  dsimp only
  rw [if_pos ⟨hx, by unfold line; omega⟩]
def usedF (r : Nm) (d : D) : Option D := match d with
  | .tup [.str x, .str w, .int _] => if x = r then some (D.str w) else none
  | _ => none
theorem usedF_d (r : Nm) (b : Br) : usedF r b.d = if b.hr = r then some (.str b.w) else none := rfl
theorem used_map (r : Nm) : ∀ bs : List Br, (bs.map Br.d).filterMap (usedF r) = ((bs.filter fun b => decide (b.hr = r)).map Br.w).map D.str
  | [] => rfl
  | b :: bs => by
    rw [List.map_cons, List.filterMap_cons, usedF_d]
    by_cases c : b.hr = r
    · rw [if_pos c, List.filter_cons_of_pos (by simp [c])]
      dsimp only
      rw [used_map r bs]
      rfl
    · rw [if_neg c, List.filter_cons_of_neg (by simp [c])]
      exact used_map r bs
structure Free (p ih : Nat) (q : Pc) : Prop where
  bp : q.b ≠ p
  bi : q.b ≠ q.id
  bg : q.b ≠ q.g
  bh : q.b ≠ ih
  ip : q.id ≠ p
  gp : q.g ≠ p
  hp : ih ≠ p
theorem put_fault_ok {p c ih th : Nat} {hands : List Nm} {q : Pc} {s t : Nm} (x : Pot p c h) (hc : c + 10 < 1099511627776) (H : PcH h q) (F : Free p ih q) (hs : q.s = some s) (eh : h[ih]? = some (.lst (hands.map D.str))) (h6 : hands.length ≤ 6)
    (t1 : t ∈ hands) (t2 : t ∉ q.gone) (t3 : t ≠ s) (l : q.brs.length < 100) :
    ∃ (r : Nm) (h' : MH) (c' : Nat), F__law_put_fault [.ref p, .ref ih, .ref q.id, .int (th : Int)] h = .ok .non h' ∧ r ∈ hands ∧ r ∉ q.gone ∧ r ≠ s ∧ h'[q.b]? = some (.lst ((q.brs ++ [Br.mk r flt th]).map Br.d)) ∧ FrS [p, q.b] h h' ∧ Pot p c' h' ∧ c' ≤ c + 1 := by
  let L := hands.filter (fits q.gone s)
  let σ1 (x7 x8 : Option D) : Sg := [some (.ref p), some (.ref ih), some (.ref q.id), some (.int (th : Int)), some (.ref q.g), some (.str s), some (.ref q.b), x7, x8]
  have er := H.er
  rw [hs] at er
  have e1 := hear_ok (h := h) (σ := σ1 none none) (i := 1) (j := 8) (kg := 4) (ks := 5) rfl (by simp [σ1]) (by decide) (by decide) rfl rfl eh H.eg h6
  let h1 : MH := h ++ [.lst (L.map D.str)]
  have eL : h1[h.length]? = some (.lst (L.map D.str)) := by simp [h1]
  have Ll : L.length ≤ 6 := Nat.le_trans (List.length_filter_le _ _) h6
  have hp := x.lt
  obtain ⟨d, h2, c2, e2, hd, f2, x2, d2⟩ := draw_ok (h := h1) (σ := σ1 (some (.ref h.length)) none) (i := 7) (x.grow _) (by omega) rfl rfl (by omega) eL (by simpa using fits_ne t1 t2 t3) (by simp; omega)
  obtain ⟨r, hr, rfl⟩ := List.mem_map.mp hd
  obtain ⟨r1, r2, r3⟩ := fits_mem hr
  have eb2 := f2.get (get_grow H.eb : h1[q.b]? = _) F.bp
  have ap := append_ok (h := h2) (x := (Br.mk r flt th).d) eb2 rfl (by simp; omega)
  have hb2 := get_lt eb2
  refine ⟨r, h2.set q.b (.lst (q.brs.map Br.d ++ [(Br.mk r flt th).d])), c2, ?_, r1, r2, r3, by simp [hb2], ?_, ?_, d2⟩
  · refine fn_nx rfl (s_seq (σ1 := σ1 none none) (h1 := h) (s_asgL (n := q.id) (ds := [.ref q.g, .str s, .ref q.b]) rfl (lst_of er) rfl (by simp [σ1, begin_])) (s_seq (σ1 := σ1 (some (.ref h.length)) none) (h1 := h1) (s_set (d := .ref h.length) e1 rfl) (s_expr (d := .non) ?_)))
    rw [ap_mt, ap_var]
    show (((optV (some (some (.ref q.b))) h1).bnd _)) = _
    rw [optV_some, bnd_ok, if_pos (show tyB Ty.lst h1 (.ref q.b) = true by show (lstOf h1 (.ref q.b)).isSome = true; rw [lst_of (get_grow H.eb : h1[q.b]? = some (.lst (q.brs.map Br.d)))]; rfl), ap_cons, ap_tup, ap_cons]
    show ((((((op2 gIx (mVar 7) _) (σ1 (some (.ref h.length)) none) h1).bnd _).bnd _).bnd _).bnd _) = _
    rw [e2, bnd_ok, ap_cons, ap_ret, bnd_ok, ap_cons, ap_var]
    show (((((((optV (some (some (.int (th : Int)))) h2).bnd _).bnd _).bnd _).bnd _).bnd _).bnd _) = _
    rw [optV_some, bnd_ok, ap_nil, bnd_ok, bnd_ok, bnd_ok, bnd_ok, if_pos ⟨rfl, by unfold line; simp⟩, bnd_ok, ap_nil, bnd_ok, bnd_ok]
    exact ap
  · exact (Fr.toS ((Fr.grow p h _).trans f2) (by simp)).trans (FrS.set h2 _ (by simp))
  · obtain ⟨a, b', ha, eb⟩ := x2
    exact ⟨a, b', ha, by rw [List.getElem?_set_ne F.bp]; exact eb⟩
theorem put_branch_ok {p c ih ist th : Nat} {hands ss : List Nm} {q : Pc} {s t : Nm} (x : Pot p c h) (hc : c + 300 < 1099511627776) (H : PcH h q) (F : Free p ih q) (hs : q.s = some s) (eh : h[ih]? = some (.lst (hands.map D.str))) (h6 : hands.length ≤ 6)
    (es : h[ist]? = some (.lst (ss.map D.str))) (sp : ist ≠ p) (s1 : 1 ≤ ss.length) (s6 : ss.length ≤ 6) (sn : ∀ x ∈ ss, isNm x = true)
    (t1 : t ∈ hands) (t2 : t ∉ q.gone) (t3 : t ≠ s) (l : q.brs.length < 8) :
    ∃ (r w : Nm) (h' : MH) (c' : Nat), F__law_put_branch [.ref p, .ref ih, .ref ist, .ref q.id, .int (th : Int)] h = .ok .non h' ∧ (r ∈ hands ∧ r ∉ q.gone ∧ r ≠ s) ∧ isNm w = true ∧ (∀ b ∈ q.brs, b.hr = r → b.w ≠ w) ∧ h'[q.b]? = some (.lst ((q.brs ++ [Br.mk r w th]).map Br.d)) ∧ FrS [p, q.b] h h' ∧ Pot p c' h' ∧ c' ≤ c + 14 := by
  let L := hands.filter (fits q.gone s)
  let σ1 (x8 x10 x11 : Option D) : Sg := [some (.ref p), some (.ref ih), some (.ref ist), some (.ref q.id), some (.int (th : Int)), some (.ref q.g), some (.str s), some (.ref q.b), x8, none, x10, x11, none]
  have er := H.er
  rw [hs] at er
  have e1 := hear_ok (h := h) (σ := σ1 none none none) (i := 1) (j := 9) (kg := 5) (ks := 6) rfl (by simp [σ1]) (by decide) (by decide) rfl rfl eh H.eg h6
  let h1 : MH := h ++ [.lst (L.map D.str)]
  have eL : h1[h.length]? = some (.lst (L.map D.str)) := by simp [h1]
  have Ll : L.length ≤ 6 := Nat.le_trans (List.length_filter_le _ _) h6
  have hp := x.lt
  obtain ⟨d, h2, c2, e2, hd, f2, x2, d2⟩ := draw_ok (h := h1) (σ := σ1 (some (.ref h.length)) none none) (i := 8) (x.grow _) (by omega) rfl rfl (by omega) eL (by simpa using fits_ne t1 t2 t3) (by simp; omega)
  obtain ⟨r, hr, rfl⟩ := List.mem_map.mp hd
  obtain ⟨r1, r2, r3⟩ := fits_mem hr
  have eb2 := f2.get (get_grow H.eb : h1[q.b]? = _) F.bp
  have es2 := f2.get (get_grow es : h1[ist]? = _) sp
  let us : List Nm := (q.brs.filter fun b => decide (b.hr = r)).map Br.w
  have ul : us.length < 8 := by
    have := List.length_filter_le (fun b : Br => decide (b.hr = r)) q.brs
    simp [us]
    omega
  let σ2 := σ1 (some (.ref h.length)) (some (.str r)) none
  have k1 := lcM_map (h := h2) (h1 := h2) (σ := σ2) (m := op1 srcV (mVar 7)) (src := ⟨q.brs.map Br.d, liveOf (.ref q.b) (q.brs.map Br.d)⟩) (p := .nm 12) (vs := [12]) (t := asB (op2 (gEq false) (op2 gIx (mVar 12) (retM (.int 0))) (mVar 10))) (e := op2 gIx (mVar 12) (retM (.int 1))) (usedF r) (by rw [ap_op1, ap_var]; show (optV (some (some (.ref q.b))) h2).bnd _ = _; rw [optV_some, bnd_ok, src_lst (lst_of eb2)]) (live_ok (lst_of eb2)) (fun d hd => by
      obtain ⟨b, hb, rfl⟩ := List.mem_map.mp hd
      refine ⟨(wipeD σ2 [12]).set 12 (some b.d), by simp [br_st], ?_⟩
      have tt : (asB (op2 (gEq false) (op2 gIx (mVar 12) (retM (.int 0))) (mVar 10))) ((wipeD σ2 [12]).set 12 (some b.d)) h2 = .ok (decide (b.hr = r)) h2 := by
        rw [ap_asB, ap_op2, ap_op2, ap_var]
        show ((((optV (some (some b.d)) h2).bnd _).bnd _)).bnd _ = _
        rw [optV_some, bnd_ok, ap_ret, bnd_ok, (br_ix b).1, bnd_ok, ap_var]
        show (((optV (some (some (.str r))) h2).bnd _)).bnd _ = _
        rw [optV_some, bnd_ok, gEq_str]
        rfl
      rw [usedF_d]
      by_cases c : b.hr = r
      · rw [if_pos c]
        refine ⟨by rw [tt]; simp [c], ?_, rfl⟩
        rw [ap_op2, ap_var]
        show (((optV (some (some b.d)) h2).bnd _)) = _
        rw [optV_some, bnd_ok, ap_ret, bnd_ok, (br_ix b).2.1]
      · rw [if_neg c]
        rw [tt]
        simp [c]) (by simp; unfold line; omega)
  rw [used_map] at k1
  let h3 : MH := h2 ++ [.lst (us.map D.str)]
  have eu3 : h3[h2.length]? = some (.lst (us.map D.str)) := by simp [h3]
  have hp2 := x2.lt
  obtain ⟨w, h4, c4, e4, wn, wu, f4, x4, d4⟩ := lawword_ok (h := h3) (st := ist) (u := h2.length) (ss := ss) (us := us) (x2.grow _) (by omega) sp (by omega) (get_grow es2) eu3 s1 s6 sn ul
  have eb4 := f4.get (get_grow eb2 : h3[q.b]? = _) F.bp
  have ap := append_ok (h := h4) (x := (Br.mk r w th).d) eb4 rfl (by simp; omega)
  have hb4 := get_lt eb4
  refine ⟨r, w, h4.set q.b (.lst (q.brs.map Br.d ++ [(Br.mk r w th).d])), c4, ?_, ⟨r1, r2, r3⟩, wn, ?_, by simp [hb4], ?_, ?_, by omega⟩
  · refine fn_nx rfl (s_seq (σ1 := σ1 none none none) (h1 := h) (s_asgL (n := q.id) (ds := [.ref q.g, .str s, .ref q.b]) rfl (lst_of er) rfl (by simp [σ1, begin_])) (s_seq (σ1 := σ1 (some (.ref h.length)) none none) (h1 := h1) (s_set (d := .ref h.length) e1 rfl)
      (s_seq (σ1 := σ2) (h1 := h2) (s_set (d := .str r) e2 rfl) (s_seq (σ1 := σ1 (some (.ref h.length)) (some (.str r)) (some (.str w))) (h1 := h4) (s_set (d := .str w) ?_ rfl) (s_expr (d := .non) ?_)))))
    · rw [ap_call, ap_cons, ap_var]
      show (((optV (some (some (.ref p))) h2).bnd _)).bnd _ = _
      rw [optV_some, bnd_ok, ap_cons, ap_var]
      show (((((optV (some (some (.ref ist))) h2).bnd _)).bnd _)).bnd _ = _
      rw [optV_some, bnd_ok, ap_cons, ap_own]
      show ((((((own ((lcM (op1 srcV (mVar 7)) _ _ _ _) σ2 h2)).bnd _).bnd _).bnd _))).bnd _ = _
      rw [k1, own_tl, bnd_ok, ap_nil, bnd_ok, bnd_ok, bnd_ok, bnd_ok]
      exact e4
    · rw [ap_mt, ap_var]
      show (((optV (some (some (.ref q.b))) h4).bnd _)) = _
      rw [optV_some, bnd_ok, if_pos (show tyB Ty.lst h4 (.ref q.b) = true by simp [tyB, lst_of eb4])]
      exact ap
  · intro b hb eb ew
    exact wu (by
      show w ∈ (q.brs.filter fun b => decide (b.hr = r)).map Br.w
      exact List.mem_map.mpr ⟨b, List.mem_filter.mpr ⟨hb, by simp [eb]⟩, ew⟩)
  · exact (Fr.toS ((((Fr.grow p h _).trans f2).trans (Fr.grow p h2 _)).trans f4) (by simp)).trans (FrS.set h4 _ (by simp))
  · obtain ⟨a, b', ha, eb⟩ := x4
    exact ⟨a, b', ha, by rw [List.getElem?_set_ne F.bp]; exact eb⟩
theorem lacks_ok {iw : Nat} {weak : List Nm} {q : Pc} {s : Nm} (H : PcH h q) (hs : q.s = some s) (ew : h[iw]? = some (.lst (weak.map D.str))) (l : q.brs.length < 1000) :
    F__law_lacks [.ref q.id, .ref iw] h = .ok (.bl (decide (s ∈ weak) && !decide (flt ∈ q.brs.map Br.w))) h := by
  have er := H.er
  rw [hs] at er
  let σ : Sg := [some (.ref q.id), some (.ref iw), none]
  have i1 : gIx (.ref q.id) (.int 1) h = .ok (.str s) h := gIx_lst (lst_of er) rfl
  have i2 : gIx (.ref q.id) (.int 2) h = .ok (.ref q.b) h := gIx_lst (lst_of er) rfl
  have g1 := gIn_strs (neg := false) (h := h) s (row_of ew) (fun t e => by cases e)
  have k1 := lcM_map (h := h) (h1 := h) (σ := σ) (m := op1 srcV (op2 gIx (mVar 0) (retM (.int 2)))) (src := ⟨q.brs.map Br.d, liveOf (.ref q.b) (q.brs.map Br.d)⟩) (p := .nm 2) (vs := [2]) (t := retM true) (e := op2 gIx (mVar 2) (retM (.int 1))) (fun d => match d with
    | .tup [.str x, .str w, .int _] => some (D.str w)
    | _ => none) (by rw [ap_op1, ap_op2, ap_var]; show ((optV (some (some (.ref q.id))) h).bnd _).bnd _ = _; rw [optV_some, bnd_ok, ap_ret, bnd_ok, i2, bnd_ok, src_lst (lst_of H.eb)]) (live_ok (lst_of H.eb)) (fun d hd => by
      obtain ⟨b, hb, rfl⟩ := List.mem_map.mp hd
      exact ⟨[some (.ref q.id), some (.ref iw), some b.d], by simp [br_st, σ, wipeD], rfl, (br_ix b).2.1, rfl⟩) (by simp; unfold line; omega)
  have m1 : ∀ bs : List Br, (bs.map Br.d).filterMap (fun d => match d with
    | .tup [.str x, .str w, .int _] => some (D.str w)
    | _ => none) = (bs.map Br.w).map D.str := by
    intro bs
    induction bs with
    | nil => rfl
    | cons b bs ih => rw [List.map_cons, List.filterMap_cons]; show D.str b.w :: _ = _; rw [ih]; rfl
  rw [m1] at k1
  have g2 := gIn_strs (neg := true) (h := h) (s := .tl ((q.brs.map Br.w).map D.str)) (L := q.brs.map Br.w) flt rfl (fun t e => by cases e)
  refine fn_rt rfl (s_ret (h1 := h) (d := .bl (decide (s ∈ weak) && !decide (flt ∈ q.brs.map Br.w))) ?_ rfl)
  have ea : (op2 (gIn false) (op2 gIx (mVar 0) (retM (.int 1))) (mVar 1)) σ h = .ok (.bl (decide (s ∈ weak))) h := by
    rw [ap_op2, ap_op2, ap_var]
    show (((optV (some (some (.ref q.id))) h).bnd _).bnd _) = _
    rw [optV_some, bnd_ok, ap_ret, bnd_ok, i1, bnd_ok, ap_var]
    show (((optV (some (some (.ref iw))) h).bnd _)) = _
    rw [optV_some, bnd_ok, g1]
    rfl
  have eb : (op2 (gIn true) (retM (.str [33])) (lcM (op1 srcV (op2 gIx (mVar 0) (retM (.int 2)))) (.nm 2) [2] (retM true) (op2 gIx (mVar 2) (retM (.int 1))))) σ h = .ok (.bl (!decide (flt ∈ q.brs.map Br.w))) h := by
    rw [ap_op2, ap_ret, bnd_ok, k1, bnd_ok]
    exact g2
  show (andV _ _) σ h = _
  rw [ap_andV, ea, bnd_ok, toB_bl, bnd_ok, eb]
  by_cases c : s ∈ weak <;> simp [c]
end HD
end
noncomputable section
set_option Elab.async false
set_option linter.all false
set_option maxRecDepth 100000
set_option maxHeartbeats 4000000
namespace HD
open PySem PySem.Spec L2 Dn
variable {h h1 : MH}
structure Sit (p ih iw ist ip : Nat) (hands weak ss : List Nm) (qs : List Pc) (h : MH) : Prop where
  eh : h[ih]? = some (.lst (hands.map D.str))
  ew : h[iw]? = some (.lst (weak.map D.str))
  es : h[ist]? = some (.lst (ss.map D.str))
  ep : h[ip]? = some (.lst (qs.map fun q => .ref q.id))
  pc : ∀ (k : Nat) (q : Pc), qs[k]? = some q → PcH h q
  fr : ∀ (k : Nat) (q : Pc), qs[k]? = some q → Free p ih q ∧ q.b ≠ iw ∧ q.b ≠ ist ∧ q.b ≠ ip ∧ q.id ≠ ip ∧ q.g ≠ ip
  dj : ∀ (k : Nat) (q : Pc) (k' : Nat) (q' : Pc), qs[k]? = some q → qs[k']? = some q' → q.b ≠ q'.id ∧ q.b ≠ q'.g ∧ (k ≠ k' → q.b ≠ q'.b)
  np : ih ≠ p ∧ iw ≠ p ∧ ist ≠ p ∧ ip ≠ p
  ni : ih ≠ ip ∧ iw ≠ ip ∧ ist ≠ ip
variable {p ih iw ist ip : Nat} {hands weak ss : List Nm} {qs : List Pc}
theorem Sit.keep (S : Sit p ih iw ist ip hands weak ss qs h) (f : Fr p h h1) : Sit p ih iw ist ip hands weak ss qs h1 where
  eh := f.get S.eh S.np.1
  ew := f.get S.ew S.np.2.1
  es := f.get S.es S.np.2.2.1
  ep := f.get S.ep S.np.2.2.2
  pc := fun k q e => by
    have z := S.pc k q e
    have F := (S.fr k q e).1
    exact ⟨f.get z.er F.ip, f.get z.eg F.gp, f.get z.eb F.bp⟩
  fr := S.fr
  dj := S.dj
  np := S.np
  ni := S.ni
theorem get_set {α : Type} {l : List α} {j k : Nat} {a x : α} (e : (l.set j a)[k]? = some x) : (k = j ∧ x = a) ∨ (k ≠ j ∧ l[k]? = some x) := by
  by_cases c : k = j
  · subst c
    have := (List.getElem?_eq_some_iff.mp e).1
    rw [List.length_set] at this
    rw [List.getElem?_set_self this] at e
    exact .inl ⟨rfl, (Option.some.inj e).symm⟩
  · rw [List.getElem?_set_ne (Ne.symm c)] at e
    exact .inr ⟨c, e⟩
theorem set_same {α : Type} : ∀ {l : List α} {j : Nat} {x : α}, l[j]? = some x → l.set j x = l
  | a :: l, 0, x, e => by simp at e; subst e; rfl
  | a :: l, j + 1, x, e => by
    simp at e
    rw [List.set_cons_succ, set_same e]
theorem Sit.put {j : Nat} {q : Pc} {bs : List Br} (S : Sit p ih iw ist ip hands weak ss qs h) (eq : qs[j]? = some q) (f : FrS [p, q.b] h h1) (eb : h1[q.b]? = some (.lst (bs.map Br.d))) :
    Sit p ih iw ist ip hands weak ss (qs.set j { q with brs := bs }) h1 := by
  have F := S.fr j q eq
  have no : ∀ {n : Nat}, n ≠ p → q.b ≠ n → n ∉ [p, q.b] := fun a b c => by
    simp at c
    rcases c with c | c
    · exact a c
    · exact b c.symm
  refine ⟨f.get S.eh (no S.np.1 F.1.bh), f.get S.ew (no S.np.2.1 F.2.1), f.get S.es (no S.np.2.2.1 F.2.2.1), ?_, ?_, ?_, ?_, S.np, S.ni⟩
  · have : (qs.set j { q with brs := bs }).map (fun q => D.ref q.id) = qs.map fun q => D.ref q.id := by
      rw [List.map_set]
      exact set_same (by rw [List.getElem?_map, eq]; rfl)
    rw [this]
    exact f.get S.ep (no S.np.2.2.2 F.2.2.2.1)
  · intro k q' e
    rcases get_set e with ⟨rfl, rfl⟩ | ⟨c, e⟩
    · have z := S.pc _ q eq
      exact ⟨f.get z.er (no F.1.ip F.1.bi), f.get z.eg (no F.1.gp F.1.bg), eb⟩
    · have z := S.pc k q' e
      have F' := (S.fr k q' e).1
      have d := S.dj j q k q' eq e
      exact ⟨f.get z.er (no F'.ip d.1), f.get z.eg (no F'.gp d.2.1), f.get z.eb (no F'.bp (d.2.2 (Ne.symm c)))⟩
  · intro k q' e
    rcases get_set e with ⟨rfl, rfl⟩ | ⟨c, e⟩
    · exact ⟨⟨F.1.bp, F.1.bi, F.1.bg, F.1.bh, F.1.ip, F.1.gp, F.1.hp⟩, F.2⟩
    · exact S.fr k q' e
  · intro k q1 k' q2 e1 e2
    rcases get_set e1 with ⟨r1, rfl⟩ | ⟨c1, f1⟩
    · rcases get_set e2 with ⟨r2, rfl⟩ | ⟨c2, f2⟩
      · exact ⟨F.1.bi, F.1.bg, fun z => absurd (r1.trans r2.symm) z⟩
      · have z := S.dj j q k' q2 eq f2
        exact ⟨z.1, z.2.1, fun y => z.2.2 (by omega)⟩
    · rcases get_set e2 with ⟨r2, rfl⟩ | ⟨c2, f2⟩
      · have z := S.dj k q1 j q f1 eq
        exact ⟨z.1, z.2.1, fun y => z.2.2 (by omega)⟩
      · exact S.dj _ q1 _ q2 f1 f2
theorem get_app {α : Type} {l : List α} {k : Nat} {a x : α} (e : (l ++ [a])[k]? = some x) : l[k]? = some x ∨ (k = l.length ∧ x = a) := by
  by_cases c : k < l.length
  · rw [List.getElem?_append_left c] at e
    exact .inl e
  · have := (List.getElem?_eq_some_iff.mp e).1
    simp at this
    have ck : k = l.length := by omega
    subst ck
    simp at e
    exact .inr ⟨rfl, e.symm⟩
theorem Sit.add {g r g' b : Nat} {gone gone' : List Nm} {s : Option Nm} (S : Sit p ih iw ist ip hands weak ss qs h) (N : NewPl p hands gone g h h1 r g' b gone' s) (pl : p < h.length) (gl : g < h.length) (gp : g ≠ p) (gi : g ≠ ip) (gb : ∀ (k : Nat) (q : Pc), qs[k]? = some q → q.b ≠ g) :
    Sit p ih iw ist ip hands weak ss (qs ++ [⟨r, g', gone', s, b, []⟩]) (h1.set ip (.lst ((qs.map fun q => .ref q.id) ++ [.ref r]))) := by
  have T := S.keep N.fr
  have hi := get_lt S.ep
  have li : ip < h1.length := get_lt T.ep
  have set : ∀ {n : Nat} {o o2 : MO}, n ≠ ip → h1[n]? = some o → (h1.set ip o2)[n]? = some o := fun c e => by rw [List.getElem?_set_ne (Ne.symm c)]; exact e
  have hih := get_lt S.eh
  have hiw := get_lt S.ew
  have his := get_lt S.es
  have hr := N.hr
  have hb := N.hb
  have gne : ∀ {n : Nat}, n < h.length → n ≠ g → g' ≠ n := fun a c e => by
    rcases N.gg with z | z
    · exact c (by omega)
    · omega
  refine ⟨set S.ni.1 T.eh, set S.ni.2.1 T.ew, set S.ni.2.2 T.es, by simp [li], ?_, ?_, ?_, S.np, S.ni⟩
  · intro k q e
    rcases get_app e with e | ⟨rfl, rfl⟩
    · have z := T.pc k q e
      have F := S.fr k q e
      exact ⟨set F.2.2.2.2.1 z.er, set F.2.2.2.2.2 z.eg, set F.2.2.2.1 z.eb⟩
    · exact ⟨set (by show r ≠ ip; omega) N.er, set (gne hi (Ne.symm gi)) N.eg, set (by show b ≠ ip; omega) N.eb⟩
  · intro k q e
    rcases get_app e with e | ⟨rfl, rfl⟩
    · exact S.fr k q e
    · exact ⟨⟨by show b ≠ p; omega, by show b ≠ r; exact Ne.symm N.rb, Ne.symm N.gb, by show b ≠ ih; omega, by show r ≠ p; omega, gne pl (Ne.symm gp), S.np.1⟩, by show b ≠ iw; omega, by show b ≠ ist; omega, by show b ≠ ip; omega, by show r ≠ ip; omega, gne hi (Ne.symm gi)⟩
  · intro k q1 k' q2 e1 e2
    rcases get_app e1 with e1 | ⟨rfl, rfl⟩
    · rcases get_app e2 with e2 | ⟨rfl, rfl⟩
      · exact S.dj _ q1 _ q2 e1 e2
      · have lb := get_lt (S.pc k q1 e1).eb
        refine ⟨by show q1.b ≠ r; omega, Ne.symm (gne lb (gb k q1 e1)), fun _ => by show q1.b ≠ b; omega⟩
    · rcases get_app e2 with e2 | ⟨rfl, rfl⟩
      · have z := S.pc k' q2 e2
        have l1 := get_lt z.er
        have l2 := get_lt z.eg
        have l3 := get_lt z.eb
        exact ⟨by show b ≠ q2.id; omega, by show b ≠ q2.g; omega, fun _ => by show b ≠ q2.b; omega⟩
      · exact ⟨Ne.symm N.rb, Ne.symm N.gb, fun z => absurd rfl z⟩
def To (qs : List Pc) (e : Option Nat) (j : Nat) (G : List Nm) : Prop := (∃ q : Pc, qs[j]? = some q ∧ ∀ x ∈ G, x ∈ q.gone) ∨ e = some j
def goes (q : Pc) (s : Nm) (b : Br) : List Nm := if b.w = flt then q.gone ++ [s] else q.gone
structure BrL (hands : List Nm) (T : Nat → List Nm → Prop) (q : Pc) (s : Nm) (b : Br) : Prop where
  hh : b.hr ∈ hands
  hg : b.hr ∉ q.gone
  hs : b.hr ≠ s
  wd : isNm b.w = true ∨ b.w = flt
  to : T b.th (goes q s b)
structure PcL (hands weak : List Nm) (T : Nat → List Nm → Prop) (q : Pc) : Prop where
  gh : ∀ x ∈ q.gone, x ∈ hands
  gd : q.gone.Nodup
  sy : ∀ s, q.s = some s → s ∈ hands ∧ s ∉ q.gone ∧ ∃ t ∈ hands, t ∉ q.gone ∧ t ≠ s
  br : ∀ b ∈ q.brs, ∃ s, q.s = some s ∧ BrL hands T q s b
  ky : q.brs.Pairwise fun b c => ¬ (b.hr = c.hr ∧ b.w = c.w)
  fl : ∀ s, q.s = some s → (q.brs.filter isF).length ≤ if s ∈ weak then 1 else 0
structure Log (hands weak : List Nm) (qs : List Pc) (e : Option Nat) : Prop where
  pl : ∀ (k : Nat) (q : Pc), qs[k]? = some q → PcL hands weak (To qs e) q
  up : ∀ k, k < qs.length → k ≠ 0 → ∃ (j : Nat) (q : Pc) (b : Br), j < k ∧ qs[j]? = some q ∧ b ∈ q.brs ∧ b.th = k
theorem PcL.mono {T U : Nat → List Nm → Prop} {q : Pc} (a : PcL hands weak T q) (tu : ∀ j G, T j G → U j G) : PcL hands weak U q :=
  ⟨a.gh, a.gd, a.sy, fun b hb => by
    obtain ⟨s, es, z⟩ := a.br b hb
    exact ⟨s, es, z.hh, z.hg, z.hs, z.wd, tu _ _ z.to⟩, a.ky, a.fl⟩
theorem PcL.put {T : Nat → List Nm → Prop} {q : Pc} {s : Nm} {b : Br} (a : PcL hands weak T q) (es : q.s = some s) (z : BrL hands T q s b) (ky : ∀ c ∈ q.brs, c.hr = b.hr → c.w ≠ b.w) (fl : b.w = flt → s ∈ weak ∧ flt ∉ q.brs.map Br.w) :
    PcL hands weak T { q with brs := q.brs ++ [b] } := by
  refine ⟨a.gh, a.gd, a.sy, ?_, ?_, ?_⟩
  · intro c hc
    rcases List.mem_append.mp hc with hc | hc
    · obtain ⟨s', es', y⟩ := a.br c hc
      exact ⟨s', es', y.hh, y.hg, y.hs, y.wd, y.to⟩
    · simp at hc
      subst hc
      exact ⟨s, es, z.hh, z.hg, z.hs, z.wd, z.to⟩
  · refine List.pairwise_append.mpr ⟨a.ky, by simp, fun c hc d hd => ?_⟩
    simp at hd
    subst hd
    exact fun y => ky c hc y.1 y.2
  · intro s' es'
    have : s' = s := by
      have := es'.symm.trans es
      exact Option.some.inj this
    subst this
    have z0 := a.fl s' es
    show ((q.brs ++ [b]).filter isF).length ≤ _
    rw [List.filter_append, List.length_append]
    by_cases c : b.w = flt
    · obtain ⟨f1, f2⟩ := fl c
      have : q.brs.filter isF = [] := by
        refine List.filter_eq_nil_iff.mpr fun d hd e => f2 ?_
        unfold isF at e
        exact List.mem_map.mpr ⟨d, hd, by simpa using e⟩
      rw [this, if_pos f1]
      have : ([b].filter isF).length ≤ 1 := List.length_filter_le _ _
      simp at this ⊢
      exact this
    · have : [b].filter isF = [] := List.filter_eq_nil_iff.mpr fun d hd e => by
        simp at hd
        subst hd
        unfold isF at e
        exact c (by simpa using e)
      rw [this]
      simpa using z0
theorem To.set {j : Nat} {q : Pc} {bs : List Br} {e : Option Nat} (eq : qs[j]? = some q) (k : Nat) (G : List Nm) (t : To qs e k G) : To (qs.set j { q with brs := bs }) e k G := by
  rcases t with ⟨q', e', z⟩ | t
  · by_cases c : k = j
    · subst c
      rw [eq] at e'
      cases e'
      exact .inl ⟨{ q with brs := bs }, by rw [List.getElem?_set_self (List.getElem?_eq_some_iff.mp eq).1], z⟩
    · exact .inl ⟨q', by rw [List.getElem?_set_ne (Ne.symm c)]; exact e', z⟩
  · exact .inr t
theorem To.app {n : Pc} {e : Option Nat} (k : Nat) (G : List Nm) (t : To qs e k G) : To (qs ++ [n]) e k G := by
  rcases t with ⟨q', e', z⟩ | t
  · exact .inl ⟨q', by rw [List.getElem?_append_left (List.getElem?_eq_some_iff.mp e').1]; exact e', z⟩
  · exact .inr t
theorem Log.put {j : Nat} {q : Pc} {s : Nm} {b : Br} {e : Option Nat} (L : Log hands weak qs e) (eq : qs[j]? = some q) (es : q.s = some s) (z : BrL hands (To qs e) q s b) (ky : ∀ c ∈ q.brs, c.hr = b.hr → c.w ≠ b.w) (fl : b.w = flt → s ∈ weak ∧ flt ∉ q.brs.map Br.w) :
    Log hands weak (qs.set j { q with brs := q.brs ++ [b] }) e := by
  refine ⟨fun k q' e' => ?_, fun k hk k0 => ?_⟩
  · rcases get_set e' with ⟨rfl, rfl⟩ | ⟨c, e'⟩
    · exact ((L.pl _ q eq).put es z ky fl).mono (To.set eq)
    · exact (L.pl k q' e').mono (To.set eq)
  · rw [List.length_set] at hk
    obtain ⟨i, q', c, h1, h2, h3, h4⟩ := L.up k hk k0
    by_cases ci : i = j
    · subst ci
      rw [eq] at h2
      cases h2
      exact ⟨i, _, c, h1, List.getElem?_set_self (List.getElem?_eq_some_iff.mp eq).1, List.mem_append_left _ h3, h4⟩
    · exact ⟨i, q', c, h1, by rw [List.getElem?_set_ne (Ne.symm ci)]; exact h2, h3, h4⟩
theorem Log.grow {j : Nat} {q n : Pc} {s : Nm} {b : Br} (L : Log hands weak qs none) (eq : qs[j]? = some q) (es : q.s = some s) (hh : b.hr ∈ hands) (hg : b.hr ∉ q.gone) (hs : b.hr ≠ s) (wd : isNm b.w = true ∨ b.w = flt) (th : b.th = qs.length)
    (ky : ∀ c ∈ q.brs, c.hr = b.hr → c.w ≠ b.w) (fl : b.w = flt → s ∈ weak ∧ flt ∉ q.brs.map Br.w) (ng : ∀ x ∈ goes q s b, x ∈ n.gone) (nh : ∀ x ∈ n.gone, x ∈ hands) (nd : n.gone.Nodup) (nb : n.brs = []) (ns : ∀ s, n.s = some s → s ∈ hands ∧ s ∉ n.gone ∧ ∃ t ∈ hands, t ∉ n.gone ∧ t ≠ s) :
    Log hands weak (qs.set j { q with brs := q.brs ++ [b] } ++ [n]) none := by
  let T := To (qs.set j { q with brs := q.brs ++ [b] } ++ [n]) none
  have mono : ∀ k G, To qs none k G → T k G := fun k G t => To.app k G (To.set eq k G t)
  have hj := (List.getElem?_eq_some_iff.mp eq).1
  have z : BrL hands T q s b := ⟨hh, hg, hs, wd, .inl ⟨n, by rw [th]; simp, ng⟩⟩
  refine ⟨fun k q' e' => ?_, fun k hk k0 => ?_⟩
  · rcases get_app e' with e' | ⟨rfl, rfl⟩
    · rcases get_set e' with ⟨rfl, rfl⟩ | ⟨c, e'⟩
      · exact ((L.pl _ q eq).mono mono).put es z ky fl
      · exact (L.pl k q' e').mono mono
    · refine ⟨nh, nd, ns, fun c hc => ?_, by rw [nb]; simp, fun s _ => by rw [nb]; simp⟩
      rw [nb] at hc
      cases hc
  · have jl : (qs.set j { q with brs := q.brs ++ [b] })[j]? = some { q with brs := q.brs ++ [b] } := List.getElem?_set_self hj
    have app : ∀ {i : Nat} {q' : Pc}, (qs.set j { q with brs := q.brs ++ [b] })[i]? = some q' → (qs.set j { q with brs := q.brs ++ [b] } ++ [n])[i]? = some q' := fun e => by rw [List.getElem?_append_left (List.getElem?_eq_some_iff.mp e).1]; exact e
    simp at hk
    by_cases ck : k = qs.length
    · exact ⟨j, _, b, by omega, app jl, by simp, by rw [th, ck]⟩
    · obtain ⟨i, q', c, h1, h2, h3, h4⟩ := L.up k (by omega) k0
      by_cases ci : i = j
      · subst ci
        rw [eq] at h2
        cases h2
        exact ⟨i, _, c, h1, app jl, List.mem_append_left _ h3, h4⟩
      · exact ⟨i, q', c, h1, app (by rw [List.getElem?_set_ne (Ne.symm ci)]; exact h2), h3, h4⟩
end HD
end
noncomputable section
set_option Elab.async false
set_option linter.all false
set_option maxRecDepth 100000
set_option maxHeartbeats 4000000
namespace HD
open PySem PySem.Spec L2 Dn
variable {h h1 : MH}
theorem lcL_sift {α : Type} {src : Src} {p : Pat} {t : M Bool} {e : M D} {σ0 : Sg} (ok : src.ok h) (d : α → D) (g : α → Bool) (y : α → D) : ∀ (as : List α) (acc : List D),
    (∀ a ∈ as, ∃ σ1, p.put (d a) σ0 = some σ1 ∧ t σ1 h = .ok (g a) h ∧ (g a = true → e σ1 h = .ok (y a) h ∧ (y a).st = true)) → acc.length + as.length ≤ line → lcL src p t e σ0 (as.map d) acc h = .ok (.tl (acc ++ (as.filter g).map y)) h
  | [], acc, _, _ => by rw [List.map_nil, lcL_nil ok]; simp
  | a :: as, acc, hf, hl => by
    obtain ⟨σ1, ep, et, ee⟩ := hf a List.mem_cons_self
    rw [List.length_cons] at hl
    rw [List.map_cons]
    by_cases c : g a = true
    · rw [c] at et
      obtain ⟨e1, e2⟩ := ee c
      rw [lcL_yes ok ep et e1 e2 (by omega), lcL_sift ok d g y as (acc ++ [y a]) (fun x hx => hf x (List.mem_cons_of_mem _ hx)) (by rw [List.length_append]; simp; omega), List.filter_cons_of_pos c, List.map_cons, List.append_assoc]
      rfl
    · have c' : g a = false := by simpa using c
      rw [c'] at et
      rw [lcL_no ok ep et, lcL_sift ok d g y as acc (fun x hx => hf x (List.mem_cons_of_mem _ hx)) (by omega), List.filter_cons_of_neg c]
theorem forL_or {src : Src} {p : Pat} {b : MS} (I : Nat → Sg → MH → Prop) (R : D → MH → Prop) : ∀ (ds : List D) (i : Nat) (σ : Sg) (h : MH), (∀ j σ h, i ≤ j → j ≤ i + ds.length → I j σ h → src.ok h) →
    (∀ j d σ h, i ≤ j → ds[j - i]? = some d → I j σ h → ∃ σ1, p.put d σ = some σ1 ∧ ((∃ σ2 h2, b σ1 h = .nx σ2 h2 ∧ I (j + 1) σ2 h2) ∨ ∃ y h2, b σ1 h = .rt y h2 ∧ R y h2)) → I i σ h →
    (∃ σ2 h2, forL src p b ds σ h = .nx σ2 h2 ∧ I (i + ds.length) σ2 h2) ∨ ∃ y h2, forL src p b ds σ h = .rt y h2 ∧ R y h2
  | [], i, σ, h, ho, _, hi => .inl ⟨σ, h, forL_nil (ho i σ h (Nat.le_refl _) (by simp) hi), hi⟩
  | d :: ds, i, σ, h, ho, hb, hi => by
    have ok := ho i σ h (Nat.le_refl _) (by omega) hi
    obtain ⟨σ1, ep, z⟩ := hb i d σ h (Nat.le_refl _) (by simp) hi
    rcases z with ⟨σ2, h2, e, hi2⟩ | ⟨y, h2, e, r⟩
    · rw [forL_nx ok ep e, List.length_cons]
      have : i + (ds.length + 1) = i + 1 + ds.length := by omega
      rw [this]
      exact forL_or I R ds (i + 1) σ2 h2 (fun j σ h a1 a2 => ho j σ h (by omega) (by rw [List.length_cons]; omega)) (fun j d' σ h a1 ed => hb j d' σ h (by omega) (by
        have : j - i = (j - (i + 1)) + 1 := by omega
        rw [this, List.getElem?_cons_succ]
        exact ed)) hi2
    · exact .inr ⟨y, h2, forL_rt ok ep e, r⟩
theorem gAdd_rt {n : Nat} {xs ys : List D} (e : h[n]? = some (.lst xs)) (hl : xs.length + ys.length ≤ 1000000) : gAdd (.ref n) (.tl ys) h = .ok (.tl (xs ++ ys)) h := by
  have e2 : lstW h (.ref n) = some xs := by simp [lstW, e]
  show (match lstW h (.ref n), lstW h (.tl ys) with
    | some xs, some ys => if xs.length + ys.length ≤ line then R.ok (D.tl (xs ++ ys)) h else .stuck
    | _, _ => .stuck) = _
  rw [e2]
  show (if xs.length + ys.length ≤ line then R.ok (D.tl (xs ++ ys)) h else .stuck) = _
  rw [if_pos (by unfold line; omega)]
variable {p ih iw ist ip : Nat} {hands weak ss : List Nm} {qs : List Pc}
theorem Pot.setN {c n : Nat} {o : MO} (x : Pot p c h) (hn : n ≠ p) : Pot p c (h.set n o) := by
  obtain ⟨a, b, ha, e⟩ := x
  exact ⟨a, b, ha, by rw [List.getElem?_set_ne hn]; exact e⟩
theorem add_ok {σ : Sg} {c g : Nat} {gone : List Nm} {E : M D} {h2 : MH} (s0 : σ[0]? = some (some (.ref p))) (s1 : σ[1]? = some (some (.ref ih))) (s5 : σ[5]? = some (some (.ref ip))) (eE : E σ h2 = .ok (.ref g) h)
    (S2 : Sit p ih iw ist ip hands weak ss qs h2) (S : Sit p ih iw ist ip hands weak ss qs h) (x : Pot p c h) (hc : c + 10 < 1099511627776) (eg : h[g]? = some (.lst (gone.map D.str))) (gp : g ≠ p) (gi : g ≠ ip) (gb : ∀ (k : Nat) (q : Pc), qs[k]? = some q → q.b ≠ g)
    (h6 : hands.length ≤ 6) (nd : hands.Nodup) (ql : qs.length < 60) :
    ∃ (n : Pc) (h' : MH) (c' : Nat), (exprS (mtM .lst gAppend (mVar 5) (consM (fcallM F__law_new_place [] (consM (mVar 0) (consM (mVar 1) (consM E nilM)))) nilM))) σ h2 = .nx σ h' ∧ Sit p ih iw ist ip hands weak ss (qs ++ [n]) h' ∧ Pot p c' h' ∧ c' ≤ c + 2 ∧ n.brs = [] ∧
      ((n.s = none ∧ n.gone = hands) ∨ (∃ x t, n.s = some x ∧ n.gone = gone ∧ x ∈ hands ∧ x ∉ gone ∧ t ∈ hands ∧ t ∉ gone ∧ t ≠ x)) := by
  obtain ⟨r, g', b, gone', s, h1, c1, e1, N, x1, d1⟩ := new_place_ok (ih := ih) (g := g) x hc S.np.1 gp S.eh eg h6 nd
  have T := S.keep N.fr
  have A := S.add N x.lt (get_lt eg) gp gi gb
  refine ⟨⟨r, g', gone', s, b, []⟩, _, c1, ?_, A, x1.setN S.np.2.2.2, d1, rfl, N.kind⟩
  have ap := append_ok (h := h1) (x := .ref r) T.ep rfl (by simp; omega)
  refine s_expr (d := .non) ?_
  rw [ap_mt, ap_var, s5, optV_some, bnd_ok, if_pos (show tyB Ty.lst h2 (.ref ip) = true by show (lstOf h2 (.ref ip)).isSome = true; rw [lst_of S2.ep]; rfl), ap_cons, ap_call, ap_cons, ap_var, s0, optV_some, bnd_ok, ap_cons, ap_var, s1, optV_some, bnd_ok, ap_cons, eE, bnd_ok, ap_nil, bnd_ok, bnd_ok, bnd_ok, bnd_ok]
  show (((F__law_new_place [.ref p, .ref ih, .ref g] h).bnd _).bnd _) = _
  rw [e1, bnd_ok, ap_nil, bnd_ok, bnd_ok]
  exact ap
abbrev sgG (p ih iw ist m ip : Nat) (x6 x7 x8 : Option D) : Sg := [some (.ref p), some (.ref ih), some (.ref iw), some (.ref ist), some (.int (m : Int)), some (.ref ip), x6, x7, x8]
def wantsB (q : Pc) : Bool := q.s.isSome && decide (q.brs.length < 6)
def grownB : MS := (seqS (setS 7 (ownM (lcM (op1 srcV (mVar 5)) (.nm 8) [8] (andB (asB (op2 (gIs true) (op2 gIx (mVar 8) (retM (.int 1))) (retM .non))) (asB (op2 gLt (op1 gLen (op2 gIx (mVar 8) (retM (.int 2)))) (retM (.int 6))))) (mVar 8))))
  (seqS (ifS (asB (op2 (gEqE false) (mVar 7) (lstM nilM))) (retS (mVar 5)) skipS)
  (seqS (setS 8 (op2 gIx (mVar 7) (fcallM F__law_take [] (consM (mVar 0) (consM (op1 gLen (mVar 7)) nilM)))))
  (ifS (andB (asB (fcallM F__law_lacks [] (consM (mVar 8) (consM (mVar 2) nilM)))) (asB (op2 (gEq false) (fcallM F__law_take [] (consM (mVar 0) (consM (retM (.int 2)) nilM))) (retM (.int 0))))) (seqS (exprS (fcallM F__law_put_fault [] (consM (mVar 0) (consM (mVar 1) (consM (mVar 8) (consM (mVar 6) nilM))))))
  (exprS (mtM .lst gAppend (mVar 5) (consM (fcallM F__law_new_place [] (consM (mVar 0) (consM (mVar 1) (consM (ownM (op2 gAdd (op2 gIx (mVar 8) (retM (.int 0))) (lstM (consM (op2 gIx (mVar 8) (retM (.int 1))) nilM)))) nilM)))) nilM)))) (seqS (exprS (fcallM F__law_put_branch [] (consM (mVar 0) (consM (mVar 1) (consM (mVar 3) (consM (mVar 8) (consM (mVar 6) nilM)))))))
  (exprS (mtM .lst gAppend (mVar 5) (consM (fcallM F__law_new_place [] (consM (mVar 0) (consM (mVar 1) (consM (op2 gIx (mVar 8) (retM (.int 0))) nilM)))) nilM))))))))
theorem optD_is (s : Option Nm) : gIs true (optD s) .non h = .ok (.bl s.isSome) h := by cases s <;> rfl
theorem wants_ok {m : Nat} (S : Sit p ih iw ist ip hands weak ss qs h) (ql : qs.length < 60) (qb : ∀ (k : Nat) (q : Pc), qs[k]? = some q → q.brs.length ≤ 6) (x6 x7 x8 : Option D) :
    (setS 7 (ownM (lcM (op1 srcV (mVar 5)) (.nm 8) [8] (andB (asB (op2 (gIs true) (op2 gIx (mVar 8) (retM (.int 1))) (retM .non))) (asB (op2 gLt (op1 gLen (op2 gIx (mVar 8) (retM (.int 2)))) (retM (.int 6))))) (mVar 8)))) (sgG p ih iw ist m ip x6 x7 x8) h =
      .nx (sgG p ih iw ist m ip x6 (some (.ref h.length)) x8) (h ++ [.lst ((qs.filter wantsB).map fun q => .ref q.id)]) := by
  refine s_set (d := .ref h.length) ?_ rfl
  have k := lcL_sift (h := h) (src := ⟨qs.map fun q => .ref q.id, liveOf (.ref ip) (qs.map fun q => .ref q.id)⟩) (p := .nm 8) (t := andB (asB (op2 (gIs true) (op2 gIx (mVar 8) (retM (.int 1))) (retM .non))) (asB (op2 gLt (op1 gLen (op2 gIx (mVar 8) (retM (.int 2)))) (retM (.int 6))))) (e := mVar 8) (σ0 := sgG p ih iw ist m ip x6 x7 none) (live_ok (lst_of S.ep)) (fun q => .ref q.id) wantsB (fun q => .ref q.id) qs [] (fun q hq => by
    obtain ⟨i, hi⟩ := List.getElem?_of_mem hq
    have P := S.pc i q hi
    refine ⟨sgG p ih iw ist m ip x6 x7 (some (.ref q.id)), by simp, ?_, fun _ => ⟨rfl, rfl⟩⟩
    have i1 : gIx (.ref q.id) (.int 1) h = .ok (optD q.s) h := gIx_lst (lst_of P.er) rfl
    have i2 : gIx (.ref q.id) (.int 2) h = .ok (.ref q.b) h := gIx_lst (lst_of P.er) rfl
    have t1 : (asB (op2 (gIs true) (op2 gIx (mVar 8) (retM (.int 1))) (retM .non))) (sgG p ih iw ist m ip x6 x7 (some (.ref q.id))) h = .ok q.s.isSome h := by
      rw [ap_asB, ap_op2, ap_op2, ap_var]
      show ((((optV (some (some (.ref q.id))) h).bnd _).bnd _)).bnd _ = _
      rw [optV_some, bnd_ok, ap_ret, bnd_ok, i1, bnd_ok, ap_ret, bnd_ok, optD_is]
      rfl
    have t2 : (asB (op2 gLt (op1 gLen (op2 gIx (mVar 8) (retM (.int 2)))) (retM (.int 6)))) (sgG p ih iw ist m ip x6 x7 (some (.ref q.id))) h = .ok (decide (q.brs.length < 6)) h := by
      rw [ap_asB, ap_op2, ap_op1, ap_op2, ap_var]
      show (((((optV (some (some (.ref q.id))) h).bnd _).bnd _)).bnd _).bnd _ = _
      rw [optV_some, bnd_ok, ap_ret, bnd_ok, i2, bnd_ok, gLen_lst (lst_of P.eb), bnd_ok, ap_ret, bnd_ok, gLt_int]
      show R.ok (decide (((q.brs.map Br.d).length : Int) < 6)) h = _
      congr 1
      rw [List.length_map]
      by_cases c : q.brs.length < 6
      · rw [decide_eq_true c, decide_eq_true (by omega)]
      · rw [decide_eq_false c, decide_eq_false (by omega)]
    rw [ap_andB, t1, bnd_ok, t2]
    unfold wantsB
    cases q.s.isSome <;> simp) (by simp; unfold line; omega)
  rw [List.nil_append] at k
  rw [ap_own, ap_lc, ap_op1, ap_var]
  show own (((optV (some (some (.ref ip))) h).bnd _).bnd _) = _
  rw [optV_some, bnd_ok, src_lst (lst_of S.ep), bnd_ok]
  show own (lcL _ _ _ _ (sgG p ih iw ist m ip x6 x7 none) (qs.map fun q => D.ref q.id) [] h) = _
  rw [k]
  rfl
end HD
end
noncomputable section
set_option Elab.async false
set_option linter.all false
set_option maxRecDepth 100000
set_option maxHeartbeats 4000000
namespace HD
open PySem PySem.Spec L2 Dn
variable {h h1 : MH} {p ih iw ist ip : Nat} {hands weak ss : List Nm} {qs : List Pc}
theorem grow_end {k j : Nat} {q n : Pc} {s : Nm} {b : Br} {gone : List Nm} (nd : hands.Nodup) (L : Log hands weak qs none) (eq : qs[j]? = some q) (es : q.s = some s) (ql : qs.length = k) (hh : b.hr ∈ hands) (hg : b.hr ∉ q.gone) (hs : b.hr ≠ s) (wd : isNm b.w = true ∨ b.w = flt) (th : b.th = k)
    (ky : ∀ c ∈ q.brs, c.hr = b.hr → c.w ≠ b.w) (fl : b.w = flt → s ∈ weak ∧ flt ∉ q.brs.map Br.w) (ge : gone = goes q s b) (nb : n.brs = [])
    (kind : (n.s = none ∧ n.gone = hands) ∨ (∃ x t, n.s = some x ∧ n.gone = gone ∧ x ∈ hands ∧ x ∉ gone ∧ t ∈ hands ∧ t ∉ gone ∧ t ≠ x)) :
    Log hands weak (qs.set j { q with brs := q.brs ++ [b] } ++ [n]) none := by
  have P := L.pl j q eq
  have gs : ∀ x ∈ goes q s b, x ∈ hands := fun x hx => by
    unfold goes at hx
    split at hx
    · rcases List.mem_append.mp hx with hx | hx
      · exact P.gh x hx
      · simp at hx; subst hx; exact (P.sy _ es).1
    · exact P.gh x hx
  have gd : (goes q s b).Nodup := by
    unfold goes
    split
    · refine List.nodup_append.mpr ⟨P.gd, by simp, fun a ha c hc => ?_⟩
      simp at hc
      subst hc
      intro e
      subst e
      exact (P.sy _ es).2.1 ha
    · exact P.gd
  refine L.grow eq es hh hg hs wd (by omega) ky fl ?_ ?_ ?_ nb ?_
  · intro x hx
    rcases kind with ⟨_, e⟩ | ⟨_, _, _, e, _⟩
    · rw [e]; exact gs x hx
    · rw [e, ge]; exact hx
  · intro x hx
    rcases kind with ⟨_, e⟩ | ⟨_, _, _, e, _⟩
    · rw [e] at hx; exact hx
    · rw [e, ge] at hx; exact gs x hx
  · rcases kind with ⟨_, e⟩ | ⟨_, _, _, e, _⟩
    · rw [e]; exact nd
    · rw [e, ge]; exact gd
  · intro s' e'
    rcases kind with ⟨e, _⟩ | ⟨x, t, e, eg, h1, h2, h3, h4, h5⟩
    · rw [e] at e'; cases e'
    · rw [e] at e'
      cases e'
      rw [eg]
      exact ⟨h1, h2, t, h3, h4, h5⟩
theorem qb_end {j : Nat} {q n : Pc} {b : Br} (qb : ∀ (k : Nat) (q : Pc), qs[k]? = some q → q.brs.length ≤ 6) (ql : q.brs.length < 6) (nb : n.brs = []) : ∀ (k : Nat) (q' : Pc), (qs.set j { q with brs := q.brs ++ [b] } ++ [n])[k]? = some q' → q'.brs.length ≤ 6 := by
  intro k q' e
  rcases get_app e with e | ⟨_, rfl⟩
  · rcases get_set e with ⟨_, rfl⟩ | ⟨_, e⟩
    · simp; omega
    · exact qb k q' e
  · rw [nb]; simp
theorem grownB_ok {m c k : Nat} (S : Sit p ih iw ist ip hands weak ss qs h) (L : Log hands weak qs none) (ql : qs.length = k) (k60 : k < 60) (qb : ∀ (k : Nat) (q : Pc), qs[k]? = some q → q.brs.length ≤ 6) (x : Pot p c h) (hc : c + 400 < 1099511627776)
    (h6 : hands.length ≤ 6) (nd : hands.Nodup) (s1 : 1 ≤ ss.length) (s6 : ss.length ≤ 6) (sn : ∀ x ∈ ss, isNm x = true) (x7 x8 : Option D) :
    (∃ (h' : MH) (c' : Nat), grownB (sgG p ih iw ist m ip (some (.int (k : Int))) x7 x8) h = .rt (.ref ip) h' ∧ Sit p ih iw ist ip hands weak ss qs h' ∧ Pot p c' h' ∧ c' ≤ c) ∨
    (∃ (y7 y8 : Option D) (qs' : List Pc) (h' : MH) (c' : Nat), grownB (sgG p ih iw ist m ip (some (.int (k : Int))) x7 x8) h = .nx (sgG p ih iw ist m ip (some (.int (k : Int))) y7 y8) h' ∧ Sit p ih iw ist ip hands weak ss qs' h' ∧ Log hands weak qs' none ∧ qs'.length = k + 1 ∧ (∀ (k : Nat) (q : Pc), qs'[k]? = some q → q.brs.length ≤ 6) ∧ Pot p c' h' ∧ c' ≤ c + 20) := by
  have w := wants_ok (m := m) S (by omega) qb (some (.int (k : Int))) x7 x8
  let W := qs.filter wantsB
  let h1 : MH := h ++ [.lst (W.map fun q => .ref q.id)]
  let sg (y8 : Option D) : Sg := sgG p ih iw ist m ip (some (.int (k : Int))) (some (.ref h.length)) y8
  have eW : h1[h.length]? = some (.lst (W.map fun q => .ref q.id)) := by simp [h1]
  have S1 : Sit p ih iw ist ip hands weak ss qs h1 := S.keep (Fr.grow p h _)
  have x1 : Pot p c h1 := x.grow _
  have hp := x.lt
  have ee : (asB (op2 (gEqE false) (mVar 7) (lstM nilM))) (sg x8) h1 = .ok W.isEmpty h1 := by
    rw [ap_asB, ap_op2, ap_var]
    show ((optV (some (some (.ref h.length))) h1).bnd _).bnd _ = _
    rw [optV_some, bnd_ok, ap_lst, ap_nil, bnd_ok, if_pos ⟨rfl, by unfold line; simp⟩, bnd_ok, gEqE_lst (lst_of eW), bnd_ok]
    cases W <;> rfl
  by_cases cW : W = []
  · refine .inl ⟨h1, c, ?_, S1, x1, by omega⟩
    exact s_seq w (s_seq_rt (s_ift (h1 := h1) (by rw [ee, cW]; rfl) (s_ret rfl rfl)))
  · have eW' : W.isEmpty = false := by cases e : W <;> simp_all
    rw [eW'] at ee
    obtain ⟨d, h2, c2, e2, hd, f2, x2, d2⟩ := draw_ok (h := h1) (σ := sg x8) (i := 7) x1 (by omega) rfl rfl (by omega) eW (by
      rw [List.length_map]
      cases e : W with
      | nil => exact absurd e cW
      | cons a r => simp) (by
      rw [List.length_map]
      have := List.length_filter_le wantsB qs
      show (qs.filter wantsB).length ≤ 1000
      omega)
    obtain ⟨q, hq, rfl⟩ := List.mem_map.mp hd
    obtain ⟨hq1, hq2⟩ := List.mem_filter.mp hq
    obtain ⟨j, ej⟩ := List.getElem?_of_mem hq1
    unfold wantsB at hq2
    obtain ⟨s, es⟩ : ∃ s, q.s = some s := by
      cases e : q.s with
      | none => rw [e] at hq2; simp at hq2
      | some s => exact ⟨s, rfl⟩
    have qlt : q.brs.length < 6 := by simp at hq2; exact hq2.2
    have S2 := S1.keep f2
    have P := L.pl j q ej
    obtain ⟨sy1, sy2, t, t1, t2, t3⟩ := P.sy s es
    have lk := lacks_ok (h := h2) (iw := iw) (weak := weak) (S2.pc j q ej) es S2.ew (by omega)
    have el : (asB (fcallM F__law_lacks [] (consM (mVar 8) (consM (mVar 2) nilM)))) (sg (some (.ref q.id))) h2 = .ok (decide (s ∈ weak) && !decide (flt ∈ q.brs.map Br.w)) h2 := by
      rw [ap_asB, ap_call, ap_cons, ap_var]
      show ((((optV (some (some (.ref q.id))) h2).bnd _)).bnd _).bnd _ = _
      rw [optV_some, bnd_ok, ap_cons, ap_var]
      show ((((((optV (some (some (.ref iw))) h2).bnd _)).bnd _)).bnd _).bnd _ = _
      rw [optV_some, bnd_ok, ap_nil, bnd_ok, bnd_ok, bnd_ok]
      show (F__law_lacks [.ref q.id, .ref iw] h2).bnd _ = _
      rw [lk]
      rfl
    have ch : ∃ (b : Bool) (h3 : MH) (c3 : Nat), (andB (asB (fcallM F__law_lacks [] (consM (mVar 8) (consM (mVar 2) nilM)))) (asB (op2 (gEq false) (fcallM F__law_take [] (consM (mVar 0) (consM (retM (.int 2)) nilM))) (retM (.int 0))))) (sg (some (.ref q.id))) h2 = .ok b h3 ∧ (b = true → s ∈ weak ∧ flt ∉ q.brs.map Br.w) ∧ Fr p h2 h3 ∧ Pot p c3 h3 ∧ c3 ≤ c2 + 1 := by
      by_cases cl : (decide (s ∈ weak) && !decide (flt ∈ q.brs.map Br.w)) = true
      · obtain ⟨r, h3, c3, e3, _, f3, x3, d3⟩ := take_ok (m := 2) x2 (by omega) (by omega) (by omega)
        have tk := take_eq (h := h2) (σ := sg (some (.ref q.id))) (e := retM (.int 2)) (m := 2) rfl (fun _ => rfl)
        refine ⟨decide (r = 0), h3, c3, ?_, fun _ => by simpa using cl, f3, x3, d3⟩
        rw [ap_andB, el, bnd_ok, if_pos cl, ap_asB, ap_op2, tk, e3, bnd_ok, ap_ret, bnd_ok, gEq_int]
        rfl
      · exact ⟨false, h2, c2, by rw [ap_andB, el, bnd_ok, if_neg cl], fun z => absurd z (by decide), Fr.refl p h2, x2, by omega⟩
    obtain ⟨b, h3, c3, e3, hb, f3, x3, d3⟩ := ch
    have S3 := S2.keep f3
    have F := S3.fr j q ej
    have st : ∀ {r : Fl}, (ifS (andB (asB (fcallM F__law_lacks [] (consM (mVar 8) (consM (mVar 2) nilM)))) (asB (op2 (gEq false) (fcallM F__law_take [] (consM (mVar 0) (consM (retM (.int 2)) nilM))) (retM (.int 0))))) _ _) (sg (some (.ref q.id))) h2 = r → grownB (sgG p ih iw ist m ip (some (.int (k : Int))) x7 x8) h = r := fun e => s_seq w (s_seq (s_iff (h1 := h1) ee rfl) (s_seq (h1 := h2) (σ1 := sg (some (.ref q.id))) (s_set e2 rfl) e))
    cases b with
    | true =>
      obtain ⟨sw, nf⟩ := hb rfl
      obtain ⟨r, h4, c4, e4, r1, r2, r3, eb4, f4, x4, d4⟩ := put_fault_ok (th := k) x3 (by omega) (S3.pc j q ej) F.1 es S3.eh h6 t1 t2 t3 (by omega)
      have S4 := S3.put ej f4 eb4
      let qs1 := qs.set j { q with brs := q.brs ++ [Br.mk r flt k] }
      have ej1 : qs1[j]? = some { q with brs := q.brs ++ [Br.mk r flt k] } := List.getElem?_set_self (List.getElem?_eq_some_iff.mp ej).1
      have P4 := S4.pc j _ ej1
      let h5 : MH := h4 ++ [.lst ((q.gone ++ [s]).map D.str)]
      have S5 : Sit p ih iw ist ip hands weak ss qs1 h5 := S4.keep (Fr.grow p h4 _)
      have hp4 := x4.lt
      have hi4 := get_lt S4.ep
      have er : h4[q.id]? = some (.lst [.ref q.g, .str s, .ref q.b]) := by have z := P4.er; rw [es] at z; exact z
      have i0 : gIx (.ref q.id) (.int 0) h4 = .ok (.ref q.g) h4 := gIx_lst (lst_of er) rfl
      have i1 : gIx (.ref q.id) (.int 1) h4 = .ok (.str s) h4 := gIx_lst (lst_of er) rfl
      have gl : q.gone.length ≤ 1000 ∨ True := .inr trivial
      have ga : ∀ (z : q.gone.length ≤ 1000), gAdd (.ref q.g) (.tl [.str s]) h4 = .ok (.tl ((q.gone ++ [s]).map D.str)) h4 := fun z => by
        rw [gAdd_rt P4.eg (by simp; omega), List.map_append]
        rfl
      have gn : q.gone.length ≤ 1000 := by
        have := List.Nodup.length_le_of_subset P.gd P.gh
        omega
      obtain ⟨n, h6', c6, e6, S6, x6, d6, nb, kind⟩ := add_ok (h := h5) (h2 := h4) (σ := sg (some (.ref q.id))) (g := h4.length) (gone := q.gone ++ [s]) (E := ownM (op2 gAdd (op2 gIx (mVar 8) (retM (.int 0))) (lstM (consM (op2 gIx (mVar 8) (retM (.int 1))) nilM)))) rfl rfl rfl (by
          rw [ap_own, ap_op2, ap_op2, ap_var]
          show own (((optV (some (some (.ref q.id))) h4).bnd _).bnd _) = _
          rw [optV_some, bnd_ok, ap_ret, bnd_ok, i0, bnd_ok, ap_lst, ap_cons, ap_op2, ap_var]
          show own (((((optV (some (some (.ref q.id))) h4).bnd _).bnd _).bnd _).bnd _) = _
          rw [optV_some, bnd_ok, ap_ret, bnd_ok, i1, bnd_ok, ap_nil, bnd_ok, bnd_ok, if_pos ⟨rfl, by unfold line; simp⟩, bnd_ok, ga gn]
          rfl) S4 S5 (x4.grow _) (by omega) (by simp [h5]) (by omega) (by omega) (fun k q e => by have := get_lt (S4.pc k q e).eb; omega) h6 nd (by rw [List.length_set]; omega)
      refine .inr ⟨some (.ref h.length), some (.ref q.id), qs1 ++ [n], h6', c6, ?_, S6, ?_, by simp [qs1, ql], qb_end qb qlt nb, x6, by omega⟩
      · refine st (s_ift e3 (s_seq (h1 := h4) (σ1 := sg (some (.ref q.id))) (s_expr (d := .non) ?_) e6))
        show (F__law_put_fault [.ref p, .ref ih, .ref q.id, .int (k : Int)] h3) = _
        exact e4
      · exact grow_end nd (b := Br.mk r flt k) L ej es ql r1 r2 r3 (.inr rfl) rfl (fun c hc _ ew => nf (List.mem_map.mpr ⟨c, hc, ew⟩)) (fun _ => ⟨sw, nf⟩) (by unfold goes; rw [if_pos rfl]) nb kind
    | false =>
      obtain ⟨r, wd, h4, c4, e4, ⟨r1, r2, r3⟩, wn, wu, eb4, f4, x4, d4⟩ := put_branch_ok (th := k) (ist := ist) (ss := ss) x3 (by omega) (S3.pc j q ej) F.1 es S3.eh h6 S3.es S3.np.2.2.1 s1 s6 sn t1 t2 t3 (by omega)
      have S4 := S3.put ej f4 eb4
      let qs1 := qs.set j { q with brs := q.brs ++ [Br.mk r wd k] }
      have ej1 : qs1[j]? = some { q with brs := q.brs ++ [Br.mk r wd k] } := List.getElem?_set_self (List.getElem?_eq_some_iff.mp ej).1
      have P4 := S4.pc j _ ej1
      have F4 := S4.fr j _ ej1
      have i0 : gIx (.ref q.id) (.int 0) h4 = .ok (.ref q.g) h4 := gIx_lst (lst_of P4.er) rfl
      obtain ⟨n, h6', c6, e6, S6, x6, d6, nb, kind⟩ := add_ok (h := h4) (h2 := h4) (σ := sg (some (.ref q.id))) (g := q.g) (gone := q.gone) (E := op2 gIx (mVar 8) (retM (.int 0))) rfl rfl rfl (by
          rw [ap_op2, ap_var]
          show ((((optV (some (some (.ref q.id))) h4).bnd _))) = _
          rw [optV_some, bnd_ok, ap_ret, bnd_ok, i0]) S4 S4 x4 (by omega) P4.eg F4.1.gp F4.2.2.2.2.2 (fun k' q' e => (S4.dj k' q' j _ e ej1).2.1) h6 nd (by rw [List.length_set]; omega)
      have wf : wd ≠ flt := fun e => by rw [e] at wn; rw [flt_name] at wn; cases wn
      refine .inr ⟨some (.ref h.length), some (.ref q.id), qs1 ++ [n], h6', c6, ?_, S6, ?_, by simp [qs1, ql], qb_end qb qlt nb, x6, by omega⟩
      · refine st (s_iff e3 (s_seq (h1 := h4) (σ1 := sg (some (.ref q.id))) (s_expr (d := .non) ?_) e6))
        show (F__law_put_branch [.ref p, .ref ih, .ref ist, .ref q.id, .int (k : Int)] h3) = _
        exact e4
      · exact grow_end nd (b := Br.mk r wd k) L ej es ql r1 r2 r3 (.inl wn) rfl (fun c hc e ew => wu c hc e ew) (fun z => absurd z wf) (by unfold goes; rw [if_neg wf]) nb kind
end HD
end
noncomputable section
set_option Elab.async false
set_option linter.all false
set_option maxRecDepth 100000
set_option maxHeartbeats 4000000
namespace HD
open PySem PySem.Spec L2 Dn
variable {h h1 : MH} {p ih iw ist : Nat} {hands weak ss : List Nm}
def Grown (p ih iw ist ip : Nat) (hands weak ss : List Nm) (m b : Nat) (h' : MH) : Prop := ∃ (qs : List Pc) (c' : Nat), Sit p ih iw ist ip hands weak ss qs h' ∧ Log hands weak qs none ∧ 1 ≤ qs.length ∧ qs.length ≤ m ∧ (∀ (k : Nat) (q : Pc), qs[k]? = some q → q.brs.length ≤ 6) ∧ Pot p c' h' ∧ c' ≤ b
theorem grown_ok {m c : Nat} (x : Pot p c h) (hc : c + 2000 < 1099511627776) (m1 : 1 ≤ m) (m2 : m ≤ 39) (eh : h[ih]? = some (.lst (hands.map D.str))) (ew : h[iw]? = some (.lst (weak.map D.str))) (es : h[ist]? = some (.lst (ss.map D.str))) (np : ih ≠ p ∧ iw ≠ p ∧ ist ≠ p)
    (h6 : hands.length ≤ 6) (nd : hands.Nodup) (s1 : 1 ≤ ss.length) (s6 : ss.length ≤ 6) (sn : ∀ x ∈ ss, isNm x = true) :
    ∃ (ip : Nat) (h' : MH), F__law_grown [.ref p, .ref ih, .ref iw, .ref ist, .int (m : Int)] h = .ok (.ref ip) h' ∧ Grown p ih iw ist ip hands weak ss m (c + 2 + 20 * m) h' := by
  have hp := x.lt
  have lih := get_lt eh
  have liw := get_lt ew
  have list := get_lt es
  let h1 : MH := h ++ [.lst []]
  have eg : h1[h.length]? = some (.lst (([] : List Nm).map D.str)) := by simp [h1]
  obtain ⟨r, g', b, gone', s, h2, c2, e2, N, x2, d2⟩ := new_place_ok (h := h1) (ih := ih) (g := h.length) (hands := hands) (gone := []) (x.grow _) (by omega) np.1 (by omega) (get_grow eh) eg h6 nd
  let q : Pc := ⟨r, g', gone', s, b, []⟩
  let ip := h2.length
  let h3 : MH := h2 ++ [.lst [.ref r]]
  have l1 : h1.length = h.length + 1 := by simp [h1]
  have hr := N.hr
  have hb := N.hb
  have lr := get_lt N.er
  have lb := get_lt N.eb
  have lg := get_lt N.eg
  have gg : g' ≠ p ∧ g' ≠ ip ∧ h.length ≤ g' := by
    have ge : h.length ≤ g' := by
      rcases N.gg with z | z
      · omega
      · omega
    refine ⟨by omega, ?_, ge⟩
    show g' ≠ h2.length
    omega
  have S : Sit p ih iw ist ip hands weak ss [q] h3 := by
    refine ⟨get_grow (N.fr.get (get_grow eh) np.1), get_grow (N.fr.get (get_grow ew) np.2.1), get_grow (N.fr.get (get_grow es) np.2.2), by simp [h3, ip, q], ?_, ?_, ?_, ⟨np.1, np.2.1, np.2.2, by show h2.length ≠ p; omega⟩, ⟨by show ih ≠ h2.length; omega, by show iw ≠ h2.length; omega, by show ist ≠ h2.length; omega⟩⟩
    · intro k q' e
      cases k with
      | zero => simp at e; subst e; exact ⟨get_grow N.er, get_grow N.eg, get_grow N.eb⟩
      | succ k => simp at e
    · intro k q' e
      cases k with
      | zero =>
        simp at e
        subst e
        exact ⟨⟨by show b ≠ p; omega, Ne.symm N.rb, Ne.symm N.gb, by show b ≠ ih; omega, by show r ≠ p; omega, gg.1, np.1⟩, by show b ≠ iw; omega, by show b ≠ ist; omega, by show b ≠ h2.length; omega, by show r ≠ h2.length; omega, gg.2.1⟩
      | succ k => simp at e
    · intro k q1 k' q2 e1 e2
      cases k with
      | zero =>
        cases k' with
        | zero => simp at e1 e2; subst e1; subst e2; exact ⟨Ne.symm N.rb, Ne.symm N.gb, fun z => absurd rfl z⟩
        | succ k => simp at e2
      | succ k => simp at e1
  have L : Log hands weak [q] none := by
    refine ⟨fun k q' e => ?_, fun k hk k0 => by simp at hk; omega⟩
    cases k with
    | zero =>
      simp at e
      subst e
      refine ⟨?_, ?_, ?_, (fun b hb => nomatch (show b ∈ ([] : List Br) from hb)), List.Pairwise.nil, fun s _ => Nat.zero_le _⟩
      · intro y hy
        rcases N.kind with ⟨_, e⟩ | ⟨_, _, _, e, _⟩
        · rw [← e]; exact hy
        · have : y ∈ gone' := hy
          rw [e] at this
          cases this
      · rcases N.kind with ⟨_, e⟩ | ⟨_, _, _, e, _⟩
        · show gone'.Nodup
          rw [e]; exact nd
        · show gone'.Nodup
          rw [e]; exact List.nodup_nil
      · intro s' e'
        have e' : s = some s' := e'
        rcases N.kind with ⟨e, _⟩ | ⟨x, t, e, eg, a1, a2, a3, a4, a5⟩
        · rw [e] at e'; cases e'
        · rw [e] at e'
          cases e'
          show _ ∧ s' ∉ gone' ∧ ∃ t ∈ hands, t ∉ gone' ∧ t ≠ s'
          rw [eg]
          exact ⟨a1, a2, t, a3, a4, a5⟩
    | succ k => simp at e
  have x3 : Pot p c2 h3 := x2.grow _
  let I : Nat → Sg → MH → Prop := fun j σ h' => ∃ (x6 x7 x8 : Option D) (qs : List Pc) (c' : Nat), σ = sgG p ih iw ist m ip x6 x7 x8 ∧ Sit p ih iw ist ip hands weak ss qs h' ∧ Log hands weak qs none ∧ qs.length = j + 1 ∧ (∀ (k : Nat) (q : Pc), qs[k]? = some q → q.brs.length ≤ 6) ∧ Pot p c' h' ∧ c' ≤ c + 2 + 20 * j
  let R : D → MH → Prop := fun d h' => d = .ref ip ∧ Grown p ih iw ist ip hands weak ss m (c + 2 + 20 * m) h'
  let src : Src := ⟨(List.range ((m : Int) - 1).toNat).map fun k : Nat => .int (1 + (k : Int)), []⟩
  have loop := forL_or (src := src) (p := .nm 6) (b := grownB) I R src.items 0 (sgG p ih iw ist m ip none none none) h3 (fun _ _ _ _ _ _ => ok_nil) (fun j d σ h' hj ed hI => by
    obtain ⟨x6, x7, x8, qs, c', rfl, S, L, ql, qb, x', d'⟩ := hI
    have jl : j < m - 1 := by
      have := (List.getElem?_eq_some_iff.mp ed).1
      simp [src] at this
      omega
    obtain ⟨k, ek, rfl⟩ : ∃ k : Nat, (List.range ((m : Int) - 1).toNat)[j - 0]? = some k ∧ d = .int (1 + (k : Int)) := by
      have z := ed
      simp only [src, List.getElem?_map] at z
      obtain ⟨k, e1, e2⟩ := Option.map_eq_some_iff.mp z
      exact ⟨k, e1, e2.symm⟩
    have kj : k = j := by
      obtain ⟨_, e⟩ := List.getElem?_eq_some_iff.mp ek
      simp at e
      exact e.symm
    subst kj
    have e1 : (1 : Int) + (k : Int) = ((k + 1 : Nat) : Int) := by omega
    refine ⟨sgG p ih iw ist m ip (some (.int (1 + (k : Int)))) x7 x8, by simp, ?_⟩
    rw [e1]
    rcases grownB_ok (m := m) (k := k + 1) S L ql (by omega) qb x' (by omega) h6 nd s1 s6 sn x7 x8 with ⟨h4, c4, e4, S4, x4, d4⟩ | ⟨y7, y8, qs', h4, c4, e4, S4, L4, ql4, qb4, x4, d4⟩
    · exact .inr ⟨.ref ip, h4, e4, rfl, qs, c4, S4, L, by omega, by omega, qb, x4, by omega⟩
    · exact .inl ⟨_, h4, e4, _, y7, y8, qs', c4, rfl, S4, L4, ql4, qb4, x4, by omega⟩) ⟨none, none, none, [q], c2, rfl, S, L, rfl, fun k q' e => by
      cases k with
      | zero => simp at e; subst e; simp [q]
      | succ k => simp at e, x3, by omega⟩
  have len : 0 + src.items.length = m - 1 := by simp [src]
  have hd : (setS 5 (ownM (lstM (consM (fcallM F__law_new_place [] (consM (mVar 0) (consM (mVar 1) (consM (ownM (lstM nilM)) nilM)))) nilM)))) [some (.ref p), some (.ref ih), some (.ref iw), some (.ref ist), some (.int (m : Int)), none, none, none, none] h = .nx (sgG p ih iw ist m ip none none none) h3 := by
    refine s_set (d := .ref ip) (h1 := h3) ?_ rfl
    rw [ap_own, ap_lst, ap_cons, ap_call, ap_cons, ap_var]
    show own (((((optV (some (some (.ref p))) h).bnd _).bnd _).bnd _).bnd _) = _
    rw [optV_some, bnd_ok, ap_cons, ap_var]
    show own (((((((optV (some (some (.ref ih))) h).bnd _).bnd _)).bnd _).bnd _).bnd _) = _
    rw [optV_some, bnd_ok, ap_cons, ap_own, ap_lst, ap_nil, bnd_ok, if_pos ⟨rfl, by unfold line; simp⟩, own_tl, bnd_ok, ap_nil, bnd_ok, bnd_ok, bnd_ok, bnd_ok]
    show own (((F__law_new_place [.ref p, .ref ih, .ref h.length] h1).bnd _).bnd _) = _
    rw [e2, bnd_ok, ap_nil, bnd_ok, bnd_ok, if_pos ⟨rfl, by unfold line; simp⟩]
    rfl
  have hs : (srcA range2V (consM (retM (.int 1)) (consM (mVar 4) nilM))) (sgG p ih iw ist m ip none none none) h3 = .ok src h3 := by
    rw [ap_src, ap_cons, ap_ret, bnd_ok, ap_cons, ap_var]
    show (((((optV (some (some (.int (m : Int)))) h3).bnd _)).bnd _)).bnd _ = _
    rw [optV_some, bnd_ok, ap_nil, bnd_ok, bnd_ok, bnd_ok]
    unfold range2V
    dsimp only
    rw [if_pos (by omega)]
  rcases loop with ⟨σ2, h4, e4, x6, x7, x8, qs, c4, rfl, S4, L4, ql4, qb4, x4, d4⟩ | ⟨y, h4, e4, rfl, G⟩
  · rw [len] at ql4 d4
    exact ⟨ip, h4, fn_rt rfl (s_seq hd (s_seq (s_for hs e4) (s_ret rfl rfl))), qs, c4, S4, L4, by omega, by omega, qb4, x4, by omega⟩
  · exact ⟨ip, h4, fn_rt rfl (s_seq hd (s_seq_rt (s_for hs e4))), G⟩
end HD
end
noncomputable section
set_option Elab.async false
set_option linter.all false
set_option maxRecDepth 100000
set_option maxHeartbeats 4000000
namespace HD
open PySem PySem.Spec L2 Dn
variable {h h1 : MH} {p ih iw ist ip : Nat} {hands weak ss : List Nm} {qs : List Pc}
def holds (gone : List Nm) (q : Pc) : Bool := (gone.filter fun y => !decide (y ∈ q.gone)).isEmpty
theorem holds_all {gone : List Nm} {q : Pc} (e : holds gone q = true) : ∀ x ∈ gone, x ∈ q.gone := by
  unfold holds at e
  rw [List.isEmpty_iff] at e
  intro x hx
  have := List.filter_eq_nil_iff.mp e x hx
  simpa using this
theorem closed_ok {g : Nat} {gone : List Nm} (S : Sit p ih iw ist ip hands weak ss qs h) (eg : h[g]? = some (.lst (gone.map D.str))) (gl : gone.length ≤ 1000) (ql : qs.length < 60) :
    ∃ ks : List Nat, F__law_closed [.ref ip, .ref g] h = .ok (.ref h.length) (h ++ [.lst (ks.map fun k : Nat => .int (k : Int))]) ∧ (∀ k ∈ ks, ∃ q, qs[k]? = some q ∧ ∀ x ∈ gone, x ∈ q.gone) ∧ ks.length ≤ qs.length := by
  let σ : Sg := [some (.ref ip), some (.ref g), none, none, none]
  let items : List D := (qs.map fun q => D.ref q.id).mapIdx fun i x => .tup [.int (i : Int), x]
  let d : Pc × Nat → D := fun a => .tup [.int (a.2 : Int), .ref a.1.id]
  have ei : items = qs.zipIdx.map d := by
    show (qs.map fun q => D.ref q.id).mapIdx _ = _
    refine List.ext_getElem? fun i => ?_
    simp only [List.getElem?_mapIdx, List.getElem?_map, List.getElem?_zipIdx]
    cases qs[i]? with
    | none => rfl
    | some q => simp [d]
  let src : Src := ⟨items, Dn.liveOf (.ref ip) (qs.map fun q : Pc => D.ref q.id)⟩
  have ok : src.ok h := fun q hq => live_ok' (lst_of S.ep) q hq
  have k1 := lcL_sift (h := h) (src := src) (p := .tu [.nm 2, .nm 3]) (t := asB (op2 (gEq false) (lcM (op1 srcV (mVar 1)) (.nm 4) [4] (asB (op2 (gIn true) (mVar 4) (op2 gIx (mVar 3) (retM (.int 0))))) (mVar 4)) (lstM nilM))) (e := mVar 2) (σ0 := σ) ok d (fun a => holds gone a.1) (fun a => .int (a.2 : Int)) qs.zipIdx [] (fun a ha => by
    obtain ⟨q, i⟩ := a
    have hi : qs[i]? = some q := by
      have := List.mem_zipIdx_iff_getElem?.mp ha
      exact this
    have P := S.pc i q hi
    let σ1 : Sg := [some (.ref ip), some (.ref g), some (.int (i : Int)), some (.ref q.id), none]
    refine ⟨σ1, by simp [σ, d, σ1], ?_, fun _ => ⟨rfl, rfl⟩⟩
    have i0 : gIx (.ref q.id) (.int 0) h = .ok (.ref q.g) h := gIx_lst (lst_of P.er) rfl
    have e1 := sift_ok (h := h) (σ := σ1) (i := 1) (j := 4) (t := asB (op2 (gIn true) (mVar 4) (op2 gIx (mVar 3) (retM (.int 0))))) (fun y => !decide (y ∈ q.gone)) rfl (by simp [σ1]) eg (by omega) (fun y hy => by
      have gi := gIn_strs (neg := true) (h := h) y (row_of P.eg) (fun t e => by cases e)
      rw [ap_asB, ap_op2, ap_var]
      show (((optV (some (some (.str y))) h).bnd _)).bnd _ = _
      rw [optV_some, bnd_ok, ap_op2, ap_var]
      show ((((optV (some (some (.ref q.id))) h).bnd _)).bnd _).bnd _ = _
      rw [optV_some, bnd_ok, ap_ret, bnd_ok, i0, bnd_ok, gi]
      rfl)
    rw [ap_asB, ap_op2, e1, bnd_ok, ap_lst, ap_nil, bnd_ok, if_pos ⟨rfl, by unfold line; simp⟩, bnd_ok, gEq_lst (neg := false) (h := h) (ds := (gone.filter fun y => !decide (y ∈ q.gone)).map D.str) rfl (by simp [D.pure]) (pureL_strs _), bnd_ok, not_isEmpty_map]
    rfl) (by simp; unfold line; omega)
  let ks : List Nat := (qs.zipIdx.filter fun a => holds gone a.1).map Prod.snd
  have ek : ((qs.zipIdx.filter fun a => holds gone a.1).map fun a => D.int (a.2 : Int)) = ks.map fun k : Nat => .int (k : Int) := by
    show _ = ((qs.zipIdx.filter fun a => holds gone a.1).map Prod.snd).map _
    rw [List.map_map]
    rfl
  rw [List.nil_append, ek] at k1
  refine ⟨ks, ?_, ?_, ?_⟩
  · let h1 : MH := h ++ [.lst (ks.map fun k : Nat => .int (k : Int))]
    refine fn_rt (h1 := h1) rfl (s_ret (h1 := h1) (d := .ref h.length) ?_ rfl)
    have en : enumV [.ref ip] h = .ok src h := by
      unfold enumV
      dsimp only
      rw [lst_of S.ep]
    show own ((lcM _ _ _ _ _) σ h) = _
    rw [ap_lc, ap_src, ap_cons, ap_var]
    show own (((((optV (some (some (.ref ip))) h).bnd _)).bnd _).bnd _) = _
    rw [optV_some, bnd_ok, ap_nil, bnd_ok, bnd_ok, en, bnd_ok]
    show own (lcL _ _ _ _ σ items [] h) = _
    rw [ei, k1]
    rfl
  · intro k hk
    obtain ⟨⟨q, i⟩, ha, rfl⟩ := List.mem_map.mp hk
    obtain ⟨h1, h2⟩ := List.mem_filter.mp ha
    exact ⟨q, List.mem_zipIdx_iff_getElem?.mp h1, holds_all h2⟩
  · show ((qs.zipIdx.filter fun a => holds gone a.1).map Prod.snd).length ≤ _
    rw [List.length_map]
    have := List.length_filter_le (fun a : Pc × Nat => holds gone a.1) qs.zipIdx
    simpa using this
end HD
end
noncomputable section
set_option Elab.async false
set_option linter.all false
set_option maxRecDepth 100000
set_option maxHeartbeats 4000000
namespace HD
open PySem PySem.Spec L2 Dn
variable {h h1 : MH} {p ih iw ist ip : Nat} {hands weak ss : List Nm} {qs : List Pc}
abbrev sgF (p most ih iw : Nat) (x4 : Option D) (ist ip n : Nat) (pl x9 x10 x11 : Option D) : Sg := [some (.ref p), some (.int (most : Int)), some (.ref ih), some (.ref iw), x4, some (.ref ist), some (.ref ip), some (.int (n : Int)), pl, x9, x10, x11, none, none, none]
def noneB : M Bool := asB (op2 (gEqE false) (lcM (op1 srcV (op2 gIx (mVar 8) (retM (.int 2)))) (.nm 11) [11] (asB (op2 (gEq true) (op2 gIx (mVar 11) (retM (.int 1))) (retM (.str [33])))) (retM (.int 1))) (lstM nilM))
def roomB : M Bool := asB (op2 gLt (op1 gLen (op2 gIx (mVar 8) (retM (.int 2)))) (mVar 10))
def luckB : M Bool := asB (op2 (gEq false) (fcallM F__law_take [] (consM (mVar 0) (consM (retM (.int 3)) nilM))) (retM (.int 0)))
def lackM : M D := fcallM F__law_lacks [] (consM (mVar 8) (consM (mVar 3) nilM))
theorem none_ok {σ : Sg} {q : Pc} (P : PcH h q) (s8 : σ[8]? = some (some (.ref q.id))) (s11 : 11 < σ.length) (l : q.brs.length < 1000) : noneB σ h = .ok ((q.brs.filter fun b => !isF b).isEmpty) h := by
  have i2 : gIx (.ref q.id) (.int 2) h = .ok (.ref q.b) h := gIx_lst (lst_of P.er) rfl
  let src : Src := ⟨q.brs.map Br.d, Dn.liveOf (.ref q.b) (q.brs.map Br.d)⟩
  have ok : src.ok h := fun z hz => live_ok' (lst_of P.eb) z hz
  have k := lcL_sift (h := h) (src := src) (p := .nm 11) (t := asB (op2 (gEq true) (op2 gIx (mVar 11) (retM (.int 1))) (retM (.str [33])))) (e := retM (.int 1)) (σ0 := wipeD σ [11]) ok Br.d (fun b => !isF b) (fun _ => .int 1) q.brs [] (fun b hb => by
    have g1 : ((wipeD σ [11]).set 11 (some b.d))[11]? = some (some b.d) := by simp [wipeD, s11]
    refine ⟨(wipeD σ [11]).set 11 (some b.d), by simp [br_st], ?_, fun _ => ⟨rfl, rfl⟩⟩
    rw [ap_asB, ap_op2, ap_op2, ap_var, g1, optV_some, bnd_ok, ap_ret, bnd_ok, (br_ix b).2.1, bnd_ok, ap_ret, bnd_ok, gEq_str]
    rfl) (by simp; unfold line; omega)
  unfold noneB
  rw [ap_asB, ap_op2, ap_lc, ap_op1, ap_op2, ap_var, s8, optV_some, bnd_ok, ap_ret, bnd_ok, i2, bnd_ok, src_lst (lst_of P.eb), bnd_ok]
  show ((lcL src _ _ _ _ (q.brs.map Br.d) [] h).bnd _).bnd _ = _
  rw [k, bnd_ok, ap_lst, ap_nil, bnd_ok, if_pos ⟨rfl, by unfold line; simp⟩, bnd_ok, gEqE_lst (neg := false) (h := h) (d := .tl _) rfl, bnd_ok]
  cases (q.brs.filter fun b => !isF b) <;> rfl
theorem room_ok {σ : Sg} {q : Pc} {m : Int} (P : PcH h q) (s8 : σ[8]? = some (some (.ref q.id))) (s10 : σ[10]? = some (some (.int m))) : roomB σ h = .ok (decide ((q.brs.length : Int) < m)) h := by
  have i2 : gIx (.ref q.id) (.int 2) h = .ok (.ref q.b) h := gIx_lst (lst_of P.er) rfl
  unfold roomB
  rw [ap_asB, ap_op2, ap_op1, ap_op2, ap_var, s8, optV_some, bnd_ok, ap_ret, bnd_ok, i2, bnd_ok, gLen_lst (lst_of P.eb), bnd_ok, ap_var, s10, optV_some, bnd_ok, gLt_int, List.length_map]
  rfl
theorem luck_ok {σ : Sg} {c : Nat} (x : Pot p c h) (hc : c + 10 < 1099511627776) (s0 : σ[0]? = some (some (.ref p))) : ∃ (b : Bool) (h' : MH) (c' : Nat), luckB σ h = .ok b h' ∧ Fr p h h' ∧ Pot p c' h' ∧ c' ≤ c + 1 := by
  obtain ⟨r, h3, c3, e3, _, f3, x3, d3⟩ := take_ok (m := 3) x (by omega) (by omega) (by omega)
  have tk := take_eq (h := h) (σ := σ) (e := retM (.int 3)) (m := 3) s0 (fun _ => rfl)
  refine ⟨decide (r = 0), h3, c3, ?_, f3, x3, d3⟩
  unfold luckB
  rw [ap_asB, ap_op2, tk, e3, bnd_ok, ap_ret, bnd_ok, gEq_int]
  rfl
def lackV (weak : List Nm) (s : Nm) (bs : List Br) : Bool := decide (s ∈ weak) && !decide (flt ∈ bs.map Br.w)
theorem lack_eq {σ : Sg} {q : Pc} {s : Nm} (P : PcH h q) (es : q.s = some s) (ew : h[iw]? = some (.lst (weak.map D.str))) (l : q.brs.length < 1000) (s8 : σ[8]? = some (some (.ref q.id))) (s3 : σ[3]? = some (some (.ref iw))) : lackM σ h = .ok (.bl (lackV weak s q.brs)) h := by
  unfold lackM
  rw [ap_call, ap_cons, ap_var, s8, optV_some, bnd_ok, ap_cons, ap_var, s3, optV_some, bnd_ok, ap_nil, bnd_ok, bnd_ok, bnd_ok]
  exact lacks_ok P es ew l
theorem more_ok {σ : Sg} {q : Pc} {m : Int} {c : Nat} (P : PcH h q) (x : Pot p c h) (hc : c + 10 < 1099511627776) (l : q.brs.length < 1000) (s0 : σ[0]? = some (some (.ref p))) (s8 : σ[8]? = some (some (.ref q.id))) (s10 : σ[10]? = some (some (.int m))) (s11 : 11 < σ.length) :
    ∃ (b : Bool) (h' : MH) (c' : Nat), (orB noneB (andB roomB luckB)) σ h = .ok b h' ∧ Fr p h h' ∧ Pot p c' h' ∧ c' ≤ c + 1 ∧ (b = true → (∀ y ∈ q.brs, isF y = true) ∨ (q.brs.length : Int) < m) ∧ (b = false → ∃ y ∈ q.brs, isF y = false) := by
  have e1 := none_ok P s8 s11 l
  have e2 := room_ok P s8 s10
  by_cases c1 : (q.brs.filter fun b => !isF b) = []
  · refine ⟨true, h, c, ?_, Fr.refl p h, x, by omega, fun _ => .inl fun y hy => ?_, fun z => absurd z (by decide)⟩
    · rw [ap_orB, e1, c1]; rfl
    · have := List.filter_eq_nil_iff.mp c1 y hy
      simpa using this
  · have ex : ∃ y ∈ q.brs, isF y = false := by
      cases e : (q.brs.filter fun b => !isF b) with
      | nil => exact absurd e c1
      | cons y r =>
        have : y ∈ q.brs.filter fun b => !isF b := by rw [e]; simp
        obtain ⟨a, b⟩ := List.mem_filter.mp this
        exact ⟨y, a, by simpa using b⟩
    have f1 : (q.brs.filter fun b => !isF b).isEmpty = false := by
      cases e : (q.brs.filter fun b => !isF b) with
      | nil => exact absurd e c1
      | cons y r => rfl
    rw [f1] at e1
    by_cases c2 : (q.brs.length : Int) < m
    · obtain ⟨b, h3, c3, e3, f3, x3, d3⟩ := luck_ok (σ := σ) x hc s0
      refine ⟨b, h3, c3, ?_, f3, x3, d3, fun _ => .inr c2, fun _ => ex⟩
      rw [ap_orB, e1, bnd_ok, if_neg (by decide), ap_andB, e2, bnd_ok, if_pos (by simp [c2]), e3]
    · refine ⟨false, h, c, ?_, Fr.refl p h, x, by omega, fun z => absurd z (by decide), fun _ => ex⟩
      rw [ap_orB, e1, bnd_ok, if_neg (by decide), ap_andB, e2, bnd_ok, if_neg (by simp [c2])]
end HD
end
noncomputable section
set_option Elab.async false
set_option linter.all false
set_option maxRecDepth 100000
set_option maxHeartbeats 4000000
namespace HD
open PySem PySem.Spec L2 Dn
variable {h h1 : MH} {p ih iw ist ip : Nat} {hands weak ss : List Nm} {qs : List Pc}
def tgtD (ks : List Nat) (n : Nat) : List D := (ks.map fun k : Nat => D.int (k : Int)) ++ [D.int (n : Int)]
theorem tgt_mem {ks : List Nat} {n : Nat} {d : D} (hd : d ∈ tgtD ks n) : ∃ t : Nat, d = .int (t : Int) ∧ (t ∈ ks ∨ t = n) := by
  rcases List.mem_append.mp hd with hd | hd
  · obtain ⟨k, hk, rfl⟩ := List.mem_map.mp hd
    exact ⟨k, rfl, .inl hk⟩
  · simp at hd
    exact ⟨n, hd, .inr rfl⟩
theorem targets_ok {σ : Sg} {g n : Nat} {gone : List Nm} {E : M D} {h0 : MH} (S : Sit p ih iw ist ip hands weak ss qs h) (ql : qs.length = n) (n60 : n < 60) (s6 : σ[6]? = some (some (.ref ip))) (s7 : σ[7]? = some (some (.int (n : Int)))) (eE : E σ h0 = .ok (.ref g) h) (eg : h[g]? = some (.lst (gone.map D.str))) (gl : gone.length ≤ 1000) :
    ∃ (ks : List Nat), (ownM (op2 gAdd (fcallM F__law_closed [] (consM (mVar 6) (consM E nilM))) (lstM (consM (mVar 7) nilM)))) σ h0 = .ok (.ref (h.length + 1)) ((h ++ [.lst (ks.map fun k : Nat => .int (k : Int))]) ++ [.lst (tgtD ks n)]) ∧ (∀ t, t ∈ ks ∨ t = n → To qs (some n) t gone) ∧ ks.length ≤ n := by
  obtain ⟨ks, ec, hk, kl⟩ := closed_ok S eg gl (by omega)
  refine ⟨ks, ?_, fun t ht => ?_, by omega⟩
  · let h1 : MH := h ++ [.lst (ks.map fun k : Nat => .int (k : Int))]
    have e1 : h1[h.length]? = some (.lst (ks.map fun k : Nat => .int (k : Int))) := by simp [h1]
    have ga := gAdd_rt (h := h1) (ys := [.int (n : Int)]) e1 (by simp; omega)
    rw [ap_own, ap_op2, ap_call, ap_cons, ap_var, s6, optV_some, bnd_ok, ap_cons, eE, bnd_ok, ap_nil, bnd_ok, bnd_ok, bnd_ok]
    show own ((F__law_closed [.ref ip, .ref g] h).bnd _) = _
    rw [ec, bnd_ok, ap_lst, ap_cons, ap_var, s7, optV_some, bnd_ok, ap_nil, bnd_ok, bnd_ok, if_pos ⟨rfl, by unfold line; simp⟩, bnd_ok]
    show own (gAdd (.ref h.length) (.tl [.int (n : Int)]) h1) = _
    rw [ga, own_tl]
    simp [h1, tgtD]
  · rcases ht with ht | ht
    · exact .inl (hk t ht)
    · exact .inr (by rw [ht])
def putB : MS := exprS (fcallM F__law_put_branch [] (consM (mVar 0) (consM (mVar 2) (consM (mVar 5) (consM (mVar 8) (consM (op2 gIx (mVar 9) (fcallM F__law_take [] (consM (mVar 0) (consM (op1 gLen (mVar 9)) nilM)))) nilM))))))
structure Mid (p ih iw ist ip : Nat) (hands weak ss : List Nm) (qs : List Pc) (n i : Nat) (q : Pc) (bs : List Br) (h : MH) : Prop where
  S : Sit p ih iw ist ip hands weak ss (qs.set i { q with brs := bs }) h
  L : Log hands weak (qs.set i { q with brs := bs }) (some n)
theorem to_unset {n i : Nat} {q : Pc} {bs : List Br} (ei : qs[i]? = some q) {t : Nat} {G : List Nm} (a : To qs (some n) t G) : To (qs.set i { q with brs := bs }) (some n) t G := To.set ei t G a
theorem putB_ok {most n i x9 c : Nat} {x4 x10 x11 : Option D} {q : Pc} {s : Nm} {bs : List Br} {ks : List Nat} (M : Mid p ih iw ist ip hands weak ss qs n i q bs h) (ei : qs[i]? = some q) (es : q.s = some s) (x : Pot p c h) (hc : c + 400 < 1099511627776)
    (e9 : h[x9]? = some (.lst (tgtD ks n))) (n9 : x9 ≠ p ∧ x9 ≠ q.b) (kl : ks.length ≤ 60) (kt : ∀ t, t ∈ ks ∨ t = n → To qs (some n) t q.gone) (l : bs.length < 8) (h6 : hands.length ≤ 6) (s1 : 1 ≤ ss.length) (s6 : ss.length ≤ 6) (sn : ∀ x ∈ ss, isNm x = true) :
    ∃ (b : Br) (h' : MH) (c' : Nat), putB (sgF p most ih iw x4 ist ip n (some (.ref q.id)) (some (.ref x9)) x10 x11) h = .nx (sgF p most ih iw x4 ist ip n (some (.ref q.id)) (some (.ref x9)) x10 x11) h' ∧ Mid p ih iw ist ip hands weak ss qs n i q (bs ++ [b]) h' ∧ b.w ≠ flt ∧ h'[x9]? = some (.lst (tgtD ks n)) ∧ Pot p c' h' ∧ c' ≤ c + 15 := by
  let σ := sgF p most ih iw x4 ist ip n (some (.ref q.id)) (some (.ref x9)) x10 x11
  obtain ⟨d, h2, c2, e2, hd, f2, x2, d2⟩ := draw_ok (σ := σ) (i := 9) x (by omega) rfl rfl n9.1 e9 (by simp [tgtD]) (by simp [tgtD]; omega)
  obtain ⟨t, rfl, ht⟩ := tgt_mem hd
  have S2 := M.S.keep f2
  have il := (List.getElem?_eq_some_iff.mp ei).1
  have e1 : (qs.set i { q with brs := bs })[i]? = some { q with brs := bs } := List.getElem?_set_self il
  have P := M.L.pl i _ e1
  have F := S2.fr i _ e1
  obtain ⟨sy1, sy2, t', t1, t2, t3⟩ := P.sy s es
  obtain ⟨r, w, h3, c3, e3, ⟨r1, r2, r3⟩, wn, wu, eb3, f3, x3, d3⟩ := put_branch_ok (th := t) (ist := ist) (ss := ss) x2 (by omega) (S2.pc i _ e1) F.1 es S2.eh h6 S2.es S2.np.2.2.1 s1 s6 sn t1 t2 t3 l
  have wf : w ≠ flt := fun e => by rw [e] at wn; rw [flt_name] at wn; cases wn
  refine ⟨⟨r, w, t⟩, h3, c3, ?_, ⟨?_, ?_⟩, wf, ?_, x3, by omega⟩
  · refine s_expr (d := .non) ?_
    rw [ap_call, ap_cons, ap_var]
    show (((optV (some (some (.ref p))) h).bnd _)).bnd _ = _
    rw [optV_some, bnd_ok, ap_cons, ap_var]
    show (((((optV (some (some (.ref ih))) h).bnd _)).bnd _)).bnd _ = _
    rw [optV_some, bnd_ok, ap_cons, ap_var]
    show (((((((optV (some (some (.ref ist))) h).bnd _)).bnd _)).bnd _)).bnd _ = _
    rw [optV_some, bnd_ok, ap_cons, ap_var]
    show (((((((((optV (some (some (.ref q.id))) h).bnd _)).bnd _)).bnd _)).bnd _)).bnd _ = _
    rw [optV_some, bnd_ok, ap_cons]
    show ((((((((((op2 gIx (mVar 9) _) σ h).bnd _).bnd _).bnd _)).bnd _)).bnd _)).bnd _ = _
    rw [e2, bnd_ok, ap_nil, bnd_ok, bnd_ok, bnd_ok, bnd_ok, bnd_ok, bnd_ok]
    exact e3
  · have z := S2.put e1 f3 eb3
    rw [List.set_set] at z
    exact z
  · have z := M.L.put (b := ⟨r, w, t⟩) e1 es ⟨r1, r2, r3, .inl wn, by
      unfold goes
      rw [if_neg wf]
      exact to_unset ei (kt t ht)⟩ (fun c hc e ew => wu c hc e ew) (fun z => absurd z wf)
    rw [List.set_set] at z
    exact z
  · have a := f2.get e9 n9.1
    exact f3.get a (by simp; exact ⟨n9.1, n9.2⟩)
end HD
end
noncomputable section
set_option Elab.async false
set_option linter.all false
set_option maxRecDepth 100000
set_option maxHeartbeats 4000000
namespace HD
open PySem PySem.Spec L2 Dn
variable {h h1 : MH} {p ih iw ist ip : Nat} {hands weak ss : List Nm} {qs : List Pc}
def finB : MS := seqS (setS 9 (ownM (op2 gAdd (fcallM F__law_closed [] (consM (mVar 6) (consM (op2 gIx (mVar 8) (retM (.int 0))) nilM))) (lstM (consM (mVar 7) nilM)))))
  (seqS (setS 10 (op2 gSub (retM (.int 8)) (op1 gInt lackM)))
  (seqS (whileS (orB noneB (andB roomB luckB)) putB fuel)
  (ifS (asB lackM) (seqS (setS 9 (ownM (op2 gAdd (fcallM F__law_closed [] (consM (mVar 6) (consM (ownM (op2 gAdd (op2 gIx (mVar 8) (retM (.int 0))) (lstM (consM (op2 gIx (mVar 8) (retM (.int 1))) nilM)))) nilM))) (lstM (consM (mVar 7) nilM)))))
  (exprS (fcallM F__law_put_fault [] (consM (mVar 0) (consM (mVar 2) (consM (mVar 8) (consM (op2 gIx (mVar 9) (fcallM F__law_take [] (consM (mVar 0) (consM (op1 gLen (mVar 9)) nilM)))) nilM))))))) skipS)))
structure Done (weak : List Nm) (s : Nm) (bs : List Br) : Prop where
  l8 : bs.length ≤ 8
  fl : (bs.filter isF).length = if s ∈ weak then 1 else 0
  nf : ∃ y ∈ bs, isF y = false
def lkI (weak : List Nm) (s : Nm) (bs : List Br) : Nat := if lackV weak s bs = true then 1 else 0
theorem lack_put {s : Nm} {bs : List Br} {b : Br} (hb : b.w ≠ flt) : lackV weak s (bs ++ [b]) = lackV weak s bs := by
  unfold lackV
  congr 2
  simp
  exact fun e => absurd e.symm hb
theorem flt_some {bs : List Br} (hm : flt ∈ bs.map Br.w) : 1 ≤ (bs.filter isF).length := by
  obtain ⟨b, hb, e⟩ := List.mem_map.mp hm
  exact List.length_pos_of_mem (List.mem_filter.mpr ⟨hb, by unfold isF; simp [e]⟩)
theorem flt_none {bs : List Br} (hm : flt ∉ bs.map Br.w) : bs.filter isF = [] := List.filter_eq_nil_iff.mpr fun b hb e => hm (List.mem_map.mpr ⟨b, hb, by unfold isF at e; simpa using e⟩)
theorem fin_ok {most n i c : Nat} {x4 x9 x10 x11 : Option D} {q : Pc} {s : Nm} (S : Sit p ih iw ist ip hands weak ss qs h) (L : Log hands weak qs (some n)) (ql : qs.length = n) (n60 : n < 60) (ei : qs[i]? = some q) (es : q.s = some s) (pre : q.brs.length + lkI weak s q.brs ≤ 8) (x : Pot p c h) (hc : c + 1000 < 1099511627776)
    (h6 : hands.length ≤ 6) (s1 : 1 ≤ ss.length) (s6 : ss.length ≤ 6) (sn : ∀ x ∈ ss, isNm x = true) :
    ∃ (y9 y10 : Option D) (bs : List Br) (h' : MH) (c' : Nat), finB (sgF p most ih iw x4 ist ip n (some (.ref q.id)) x9 x10 x11) h = .nx (sgF p most ih iw x4 ist ip n (some (.ref q.id)) y9 y10 x11) h' ∧ Mid p ih iw ist ip hands weak ss qs n i q bs h' ∧ Done weak s bs ∧ Pot p c' h' ∧ c' ≤ c + 150 := by
  have P := L.pl i q ei
  have H := S.pc i q ei
  have F := S.fr i q ei
  have gl : q.gone.length ≤ 6 := Nat.le_trans (List.Nodup.length_le_of_subset P.gd P.gh) h6
  have i0 : gIx (.ref q.id) (.int 0) h = .ok (.ref q.g) h := gIx_lst (lst_of H.er) rfl
  obtain ⟨ks, e9, kt, kl⟩ := targets_ok (σ := sgF p most ih iw x4 ist ip n (some (.ref q.id)) x9 x10 x11) (E := op2 gIx (mVar 8) (retM (.int 0))) (h0 := h) S ql n60 rfl rfl (by
    rw [ap_op2, ap_var]
    show ((optV (some (some (.ref q.id))) h).bnd _) = _
    rw [optV_some, bnd_ok, ap_ret, bnd_ok, i0]) H.eg (by omega)
  let h1 : MH := (h ++ [.lst (ks.map fun k : Nat => .int (k : Int))]) ++ [.lst (tgtD ks n)]
  let z9 := h.length + 1
  have hp := x.lt
  have hb := get_lt H.eb
  have e91 : h1[z9]? = some (.lst (tgtD ks n)) := by simp [h1, z9]
  have S1 : Sit p ih iw ist ip hands weak ss qs h1 := (S.keep (Fr.grow p h _)).keep (Fr.grow p _ _)
  have x1 : Pot p c h1 := (x.grow _).grow _
  let sg (y10 : Option D) : Sg := sgF p most ih iw x4 ist ip n (some (.ref q.id)) (some (.ref z9)) y10 x11
  let lk := lackV weak s q.brs
  obtain ⟨m, em⟩ : ∃ m : Int, m = 8 - (if lk = true then 1 else 0) := ⟨_, rfl⟩
  have st10 : (setS 10 (op2 gSub (retM (.int 8)) (op1 gInt lackM))) (sg x10) h1 = .nx (sg (some (.int m))) h1 := by
    refine s_set (d := .int m) ?_ rfl
    rw [ap_op2, ap_ret, bnd_ok, ap_op1, lack_eq (S1.pc i q ei) es S1.ew (by have := pre; omega) rfl rfl, bnd_ok, gInt_bl, bnd_ok, gSub_ii, em]
  have pre' : (q.brs.length : Int) ≤ m := by
    unfold lkI at pre
    rw [em]
    show _ ≤ (8 : Int) - (if lackV weak s q.brs = true then 1 else 0)
    split at pre <;> rename_i z
    · rw [if_pos z]; omega
    · rw [if_neg z]; omega
  have mlo : 7 ≤ m ∧ m ≤ 8 := by rw [em]; split <;> omega
  have self : qs.set i { q with brs := q.brs } = qs := set_same ei
  let I : Nat → Sg → MH → Prop := fun k σ h' => σ = sg (some (.int m)) ∧ ∃ (bs : List Br) (c' : Nat), Mid p ih iw ist ip hands weak ss qs n i q bs h' ∧ h'[z9]? = some (.lst (tgtD ks n)) ∧ lackV weak s bs = lk ∧ (bs.length : Int) ≤ m ∧ Pot p c' h' ∧ c' ≤ c + 16 * bs.length ∧ k = 9 - bs.length
  let Z : Sg → MH → Prop := fun σ h' => σ = sg (some (.int m)) ∧ ∃ (bs : List Br) (c' : Nat), Mid p ih iw ist ip hands weak ss qs n i q bs h' ∧ lackV weak s bs = lk ∧ (bs.length : Int) ≤ m ∧ (∃ y ∈ bs, isF y = false) ∧ Pot p c' h' ∧ c' ≤ c + 140
  have il := (List.getElem?_eq_some_iff.mp ei).1
  obtain ⟨σ2, h2, e2, rfl, bs, c2, M2, lk2, l2, nf2, x2, d2⟩ := while_inv (t := orB noneB (andB roomB luckB)) (b := putB) I Z (fun k σ g hI => by
    obtain ⟨rfl, bs, c', M, eg9, el, bl, x', d', rfl⟩ := hI
    have e1 : (qs.set i { q with brs := bs })[i]? = some { q with brs := bs } := List.getElem?_set_self il
    have Q := M.L.pl i _ e1
    obtain ⟨b, g1, c1, et, f1, x1, d1, bt, bf⟩ := more_ok (q := { q with brs := bs }) (m := m) (σ := sg (some (.int m))) (M.S.pc i _ e1) x' (by omega) (by show bs.length < 1000; omega) rfl rfl rfl (by simp [sg])
    have M1 : Mid p ih iw ist ip hands weak ss qs n i q bs g1 := ⟨M.S.keep f1, M.L⟩
    have n9p : z9 ≠ p := by show h.length + 1 ≠ p; omega
    cases b with
    | false => exact ⟨g1, .inl ⟨et, rfl, bs, c1, M1, el, bl, bf rfl, x1, by omega⟩⟩
    | true =>
      have l7 : (bs.length : Int) < m := by
        rcases bt rfl with z | z
        · have : bs.filter isF = bs := List.filter_eq_self.mpr z
          have fl := Q.fl s es
          have fl : (bs.filter isF).length ≤ if s ∈ weak then 1 else 0 := fl
          rw [this] at fl
          split at fl <;> omega
        · exact z
      obtain ⟨b, g2, c2, e2, M2, wf, eg2, x2, d2⟩ := putB_ok (most := most) (x4 := x4) (x10 := some (.int m)) (x11 := x11) M1 ei es x1 (by omega) (f1.get eg9 n9p) ⟨n9p, by show h.length + 1 ≠ q.b; omega⟩ (by omega) kt (by omega) h6 s1 s6 sn
      refine ⟨g1, .inr ⟨et, _, g2, 9 - (bs ++ [b]).length, .inl e2, by simp; omega, rfl, bs ++ [b], c2, M2, eg2, by rw [lack_put wf, el], by simp; omega, x2, by simp; omega, rfl⟩⟩) fuel (9 - q.brs.length) (sg (some (.int m))) h1 (by unfold fuel; omega) ⟨rfl, q.brs, c, ⟨by rw [self]; exact S1, by rw [self]; exact L⟩, e91, rfl, pre', x1, by omega, rfl⟩
  have e1 : (qs.set i { q with brs := bs })[i]? = some { q with brs := bs } := List.getElem?_set_self il
  have Q := M2.L.pl i _ e1
  have P2 := M2.S.pc i _ e1
  have F2 := M2.S.fr i _ e1
  have fl : (bs.filter isF).length ≤ if s ∈ weak then 1 else 0 := Q.fl s es
  have elk : (asB lackM) (sg (some (.int m))) h2 = .ok lk h2 := by
    rw [ap_asB, lack_eq P2 es M2.S.ew (by show bs.length < 1000; omega) rfl rfl, bnd_ok]
    show R.ok (lackV weak s bs) h2 = _
    rw [lk2]
  have head : ∀ {r : Fl}, (ifS (asB lackM) _ skipS) (sg (some (.int m))) h2 = r → finB (sgF p most ih iw x4 ist ip n (some (.ref q.id)) x9 x10 x11) h = r := fun e => s_seq (h1 := h1) (σ1 := sg x10) (s_set (d := .ref z9) e9 rfl) (s_seq st10 (s_seq e2 e))
  by_cases cl : lk = true
  · have lkt : s ∈ weak ∧ flt ∉ bs.map Br.w := by
      rw [cl] at lk2
      unfold lackV at lk2
      simpa using lk2
    obtain ⟨sy1, sy2, t', t1, t2, t3⟩ := Q.sy s es
    have er : h2[q.id]? = some (.lst [.ref q.g, .str s, .ref q.b]) := by have z := P2.er; rw [show ({ q with brs := bs } : Pc).s = some s from es] at z; exact z
    have i0 : gIx (.ref q.id) (.int 0) h2 = .ok (.ref q.g) h2 := gIx_lst (lst_of er) rfl
    have i1 : gIx (.ref q.id) (.int 1) h2 = .ok (.str s) h2 := gIx_lst (lst_of er) rfl
    have ga : gAdd (.ref q.g) (.tl [.str s]) h2 = .ok (.tl ((q.gone ++ [s]).map D.str)) h2 := by
      rw [gAdd_rt P2.eg (by simp; omega), List.map_append]
      rfl
    let h3 : MH := h2 ++ [.lst ((q.gone ++ [s]).map D.str)]
    have S3 := M2.S.keep (Fr.grow p h2 [.lst ((q.gone ++ [s]).map D.str)])
    have eg3 : h3[h2.length]? = some (.lst ((q.gone ++ [s]).map D.str)) := by simp [h3]
    obtain ⟨ks', e9', kt', kl'⟩ := targets_ok (σ := sg (some (.int m))) (E := ownM (op2 gAdd (op2 gIx (mVar 8) (retM (.int 0))) (lstM (consM (op2 gIx (mVar 8) (retM (.int 1))) nilM)))) (h0 := h2) (n := n) S3 (by rw [List.length_set]; exact ql) n60 rfl rfl (by
      rw [ap_own, ap_op2, ap_op2, ap_var]
      show own (((optV (some (some (.ref q.id))) h2).bnd _).bnd _) = _
      rw [optV_some, bnd_ok, ap_ret, bnd_ok, i0, bnd_ok, ap_lst, ap_cons, ap_op2, ap_var]
      show own (((((optV (some (some (.ref q.id))) h2).bnd _).bnd _).bnd _).bnd _) = _
      rw [optV_some, bnd_ok, ap_ret, bnd_ok, i1, bnd_ok, ap_nil, bnd_ok, bnd_ok, if_pos ⟨rfl, by unfold line; simp⟩, bnd_ok, ga]
      rfl) eg3 (by simp; omega)
    let h4 : MH := (h3 ++ [.lst (ks'.map fun k : Nat => .int (k : Int))]) ++ [.lst (tgtD ks' n)]
    have S4 : Sit p ih iw ist ip hands weak ss (qs.set i { q with brs := bs }) h4 := (S3.keep (Fr.grow p h3 _)).keep (Fr.grow p _ _)
    have x4' : Pot p c2 h4 := ((x2.grow _).grow _).grow _
    have hp2 := x2.lt
    have e94 : h4[h3.length + 1]? = some (.lst (tgtD ks' n)) := by simp [h4]
    have l3 : h3.length = h2.length + 1 := by simp [h3]
    let sg2 : Sg := sgF p most ih iw x4 ist ip n (some (.ref q.id)) (some (.ref (h3.length + 1))) (some (.int m)) x11
    obtain ⟨d, h5, c5, e5, hd, f5, x5, d5⟩ := draw_ok (h := h4) (σ := sg2) (i := 9) x4' (by omega) rfl rfl (by omega) e94 (by simp [tgtD]) (by simp [tgtD]; omega)
    obtain ⟨t, rfl, ht⟩ := tgt_mem hd
    have S5 := S4.keep f5
    obtain ⟨r, h6', c6, e6, r1, r2, r3, eb6, f6, x6, d6⟩ := put_fault_ok (th := t) x5 (by omega) (S5.pc i _ e1) F2.1 es S5.eh h6 t1 t2 t3 (by show bs.length < 100; omega)
    have b8 : bs.length ≤ 7 := by
      have : m = 7 := by rw [em, if_pos cl]; rfl
      omega
    refine ⟨some (.ref (h3.length + 1)), some (.int m), bs ++ [⟨r, flt, t⟩], h6', c6, ?_, ⟨?_, ?_⟩, ⟨by simp; omega, ?_, ?_⟩, x6, by omega⟩
    · refine head (s_ift (h1 := h2) (by rw [elk, cl]) (s_seq (h1 := h4) (σ1 := sg2) (s_set (d := .ref (h3.length + 1)) e9' rfl) (s_expr (d := .non) ?_)))
      rw [ap_call, ap_cons, ap_var]
      show (((optV (some (some (.ref p))) h4).bnd _)).bnd _ = _
      rw [optV_some, bnd_ok, ap_cons, ap_var]
      show (((((optV (some (some (.ref ih))) h4).bnd _)).bnd _)).bnd _ = _
      rw [optV_some, bnd_ok, ap_cons, ap_var]
      show (((((((optV (some (some (.ref q.id))) h4).bnd _)).bnd _)).bnd _)).bnd _ = _
      rw [optV_some, bnd_ok, ap_cons]
      show ((((((((op2 gIx (mVar 9) _) sg2 h4).bnd _).bnd _).bnd _)).bnd _)).bnd _ = _
      rw [e5, bnd_ok, ap_nil, bnd_ok, bnd_ok, bnd_ok, bnd_ok, bnd_ok]
      exact e6
    · have z := S5.put e1 f6 eb6
      rw [List.set_set] at z
      exact z
    · have z := M2.L.put (b := ⟨r, flt, t⟩) e1 es ⟨r1, r2, r3, .inr rfl, by
        unfold goes
        rw [if_pos rfl]
        exact kt' t ht⟩ (fun c hc _ ew => lkt.2 (List.mem_map.mpr ⟨c, hc, ew⟩)) (fun _ => lkt)
      rw [List.set_set] at z
      exact z
    · rw [List.filter_append, flt_none lkt.2, if_pos lkt.1]
      rfl
    · obtain ⟨y, hy, fy⟩ := nf2
      exact ⟨y, List.mem_append_left _ hy, fy⟩
  · have cl' : lk = false := by simpa using cl
    refine ⟨some (.ref z9), some (.int m), bs, h2, c2, head (s_iff (h1 := h2) (by rw [elk, cl']) rfl), M2, ⟨by omega, ?_, nf2⟩, x2, by omega⟩
    rw [cl'] at lk2
    by_cases c : s ∈ weak
    · rw [if_pos c] at fl ⊢
      have : flt ∈ bs.map Br.w := by
        unfold lackV at lk2
        simpa [c] using lk2
      have := flt_some this
      omega
    · rw [if_neg c] at fl ⊢
      omega
end HD
end
noncomputable section
set_option Elab.async false
set_option linter.all false
set_option maxRecDepth 100000
set_option maxHeartbeats 4000000
namespace HD
open PySem PySem.Spec L2 Dn
theorem nm_tri (a b : Nm) : a < b ∨ a = b ∨ b < a := by
  by_cases c : a < b
  · exact .inl c
  · have h1 : b ≤ a := List.not_lt.mp c
    by_cases d : b < a
    · exact .inr (.inr d)
    · exact .inr (.inl (List.le_antisymm (List.not_lt.mp d) h1))
theorem nm_trans {a b c : Nm} (x : a < b) (y : b < c) : a < c := List.lt_trans x y
def brLt3 (b c : Br) : Prop := b.hr < c.hr ∨ (b.hr = c.hr ∧ (b.w < c.w ∨ (b.w = c.w ∧ b.th < c.th)))
theorem brd_py (x : Br) : x.d.py = .tuple [(D.str x.hr).py, (D.str x.w).py, (D.int x.th).py] := by simp [Br.d, D.py, pyL]
theorem lt_br3 (b c : Br) : PySem.W.dataLt b.d.py c.d.py = true ↔ brLt3 b c := by
  rw [brd_py, brd_py, PySem.W.dataLt_tuple, PySem.W.dataLt_cons (by simp [D.py, PySem.W.alike]), eqv_str]
  unfold brLt3
  by_cases e1 : b.hr = c.hr
  · rw [if_pos (by simp [e1]), PySem.W.dataLt_cons (by simp [D.py, PySem.W.alike]), eqv_str]
    by_cases e2 : b.w = c.w
    · rw [if_pos (by simp [e2]), PySem.W.dataLt_cons (by simp [D.py, PySem.W.alike]), eqv_int]
      by_cases e3 : (b.th : Int) = c.th
      · have : b.th = c.th := by omega
        rw [if_pos (by simp [e3])]
        simp [e1, e2, this, List.lt_irrefl]
        rfl
      · rw [if_neg (by simp [e3]), lt_int]
        simp [e1, e2, List.lt_irrefl]
    · rw [if_neg (by simp [e2]), lt_str]
      simp [e1, e2, List.lt_irrefl]
  · rw [if_neg (by simp [e1]), lt_str]
    simp [e1]
theorem brLt3_tri (b c : Br) : brLt3 b c ∨ (b.hr = c.hr ∧ b.w = c.w ∧ b.th = c.th) ∨ brLt3 c b := by
  unfold brLt3
  rcases nm_tri b.hr c.hr with h | h | h
  · exact .inl (.inl h)
  · rcases nm_tri b.w c.w with g | g | g
    · exact .inl (.inr ⟨h, .inl g⟩)
    · rcases Nat.lt_trichotomy b.th c.th with f | f | f
      · exact .inl (.inr ⟨h, .inr ⟨g, f⟩⟩)
      · exact .inr (.inl ⟨h, g, f⟩)
      · exact .inr (.inr (.inr ⟨h.symm, .inr ⟨g.symm, f⟩⟩))
    · exact .inr (.inr (.inr ⟨h.symm, .inl g⟩))
  · exact .inr (.inr (.inl h))
theorem brLt3_trans {a b c : Br} (x : brLt3 a b) (y : brLt3 b c) : brLt3 a c := by
  unfold brLt3 at *
  rcases x with x | ⟨x1, x2⟩
  · rcases y with y | ⟨y1, _⟩
    · exact .inl (nm_trans x y)
    · exact .inl (y1 ▸ x)
  · rcases y with y | ⟨y1, y2⟩
    · exact .inl (x1 ▸ y)
    · refine .inr ⟨x1.trans y1, ?_⟩
      rcases x2 with x2 | ⟨x2, x3⟩
      · rcases y2 with y2 | ⟨y2, _⟩
        · exact .inl (nm_trans x2 y2)
        · exact .inl (y2 ▸ x2)
      · rcases y2 with y2 | ⟨y2, y3⟩
        · exact .inl (x2 ▸ y2)
        · exact .inr ⟨x2.trans y2, by omega⟩
theorem brLt3_irr (a : Br) : ¬ brLt3 a a := by
  unfold brLt3
  rintro (h | ⟨_, h | ⟨_, h⟩⟩)
  · exact List.lt_irrefl _ h
  · exact List.lt_irrefl _ h
  · omega
def leB (b c : Br) : Bool := leD b.d c.d
theorem leB_iff (b c : Br) : leB b c = true ↔ ¬ brLt3 c b := by
  unfold leB leD
  rw [← lt_br3]
  simp
def srtB (bs : List Br) : List Br := bs.mergeSort leB
theorem sort_br {bs : List Br} (ky : bs.Pairwise fun b c => ¬ (b.hr = c.hr ∧ b.w = c.w)) : sortOk (bs.map Br.d) = true ∧ (bs.map Br.d).mergeSort leD = (srtB bs).map Br.d ∧ (srtB bs).Perm bs ∧ (srtB bs).Pairwise brLt := by
  refine ⟨?_, ?_, List.mergeSort_perm _ _, ?_⟩
  · unfold sortOk allAlike
    simp only [Bool.and_eq_true, Bool.or_eq_true, List.all_eq_true, List.mem_map, pureL_eq, decide_eq_true_eq]
    refine ⟨⟨⟨?_, ?_⟩, .inl ?_⟩, ?_⟩
    · rintro _ ⟨k, _, rfl⟩; simp [Br.d, D.pure, pureL]
    · rintro _ ⟨k, _, rfl⟩ _ ⟨j, _, rfl⟩; simp [Br.d, D.py, pyL, PySem.W.alike, PySem.W.alikeAll]
    · rintro _ ⟨k, _, rfl⟩; rfl
    · rintro _ ⟨k, _, rfl⟩; simp [Br.d, D.py, pyL, PyData.depth, PyData.depthAll]
  · symm
    unfold srtB
    rw [List.map_mergeSort]
    intro a _ b _
    rfl
  · have pw : (bs.mergeSort leB).Pairwise fun a b => leB a b = true := List.pairwise_mergeSort (fun a b c h1 h2 => by
      rw [leB_iff] at *
      intro h3
      rcases brLt3_tri a b with t | t | t
      · exact h2 (brLt3_trans h3 t)
      · have e : a = b := by cases a; cases b; simp at t; simp [t]
        subst e; exact h2 h3
      · exact h1 t) (fun a b => by
      rw [Bool.or_eq_true, leB_iff, leB_iff]
      by_cases c : brLt3 b a
      · exact .inr fun d => brLt3_irr _ (brLt3_trans c d)
      · exact .inl c) bs
    have kp : (bs.mergeSort leB).Pairwise fun b c => ¬ (b.hr = c.hr ∧ b.w = c.w) := (List.mergeSort_perm bs leB).symm.pairwise ky (fun h g => h ⟨g.1.symm, g.2.symm⟩)
    refine (pw.and kp).imp fun {a b} z => ?_
    obtain ⟨z1, z2⟩ := z
    rw [leB_iff] at z1
    rcases brLt3_tri a b with t | t | t
    · rcases t with t | ⟨t1, t2 | ⟨t2, _⟩⟩
      · exact .inl t
      · exact .inr ⟨t1, t2⟩
      · exact absurd ⟨t1, t2⟩ z2
    · exact absurd ⟨t.1, t.2.1⟩ z2
    · exact absurd t z1
theorem sort_nm {L : List Nm} (nd : L.Nodup) : sortOk (L.map D.str) = true ∧ ∃ L' : List Nm, (L.map D.str).mergeSort leD = L'.map D.str ∧ L'.Perm L ∧ L'.Pairwise (· < ·) := by
  have le : ∀ a b : Nm, leD (.str a) (.str b) = !decide (b < a) := fun a b => by unfold leD; rw [lt_str]
  refine ⟨?_, L.mergeSort fun a b => !decide (b < a), ?_, List.mergeSort_perm _ _, ?_⟩
  · unfold sortOk allAlike
    simp only [Bool.and_eq_true, Bool.or_eq_true, List.all_eq_true, List.mem_map, pureL_eq, decide_eq_true_eq]
    refine ⟨⟨⟨?_, ?_⟩, .inr ?_⟩, ?_⟩
    · rintro _ ⟨k, _, rfl⟩; rfl
    · rintro _ ⟨k, _, rfl⟩ _ ⟨j, _, rfl⟩; simp [D.py, PySem.W.alike]
    · rintro _ ⟨k, _, rfl⟩; rfl
    · rintro _ ⟨k, _, rfl⟩; simp [D.py, PyData.depth]
  · symm
    rw [List.map_mergeSort]
    intro a _ b _
    exact (le a b).symm
  · have pw : (L.mergeSort fun a b => !decide (b < a)).Pairwise fun a b => (!decide (b < a)) = true := List.pairwise_mergeSort (fun a b c h1 h2 => by
      simp at *
      exact List.le_trans h1 h2) (fun a b => by
      rcases nm_tri a b with t | t | t
      · have : ¬ b < a := fun z => List.lt_irrefl _ (nm_trans t z)
        simp [this]
      · subst t; simp [List.lt_irrefl]
      · have : ¬ a < b := fun z => List.lt_irrefl _ (nm_trans t z)
        simp [this]) L
    have kp : (L.mergeSort fun a b => !decide (b < a)).Nodup := (List.mergeSort_perm L _).symm.nodup nd
    refine (pw.and kp).imp fun {a b} z => ?_
    obtain ⟨z1, z2⟩ := z
    rcases nm_tri a b with t | t | t
    · exact t
    · exact absurd t z2
    · simp [t] at z1
end HD
end
noncomputable section
set_option Elab.async false
set_option linter.all false
set_option maxRecDepth 100000
set_option maxHeartbeats 4000000
namespace HD
open PySem PySem.Spec L2 Dn
variable {hands weak : List Nm} {qs : List Pc}
def plOf (q : Pc) : Pl := q.s.map fun s => (s, srtB q.brs)
def needs (qs : List Pc) : Bool := qs.any fun q => q.brs.any fun b => decide (b.th = qs.length)
def plsOf (qs : List Pc) : List Pl := qs.map plOf ++ (if needs qs = true then [none] else [])
theorem pls_get {x : Nat} {s : Nm} {bs : List Br} (e : (plsOf qs)[x]? = some (some (s, bs))) : ∃ q, qs[x]? = some q ∧ q.s = some s ∧ bs = srtB q.brs := by
  unfold plsOf at e
  by_cases c : x < qs.length
  · rw [List.getElem?_append_left (by simpa using c), List.getElem?_map] at e
    obtain ⟨q, e1, e2⟩ := Option.map_eq_some_iff.mp e
    unfold plOf at e2
    obtain ⟨s', e3, e4⟩ := Option.map_eq_some_iff.mp e2
    cases e4
    exact ⟨q, e1, e3, rfl⟩
  · rw [List.getElem?_append_right (by simpa using c)] at e
    split at e
    · have := List.mem_of_getElem? e
      simp at this
    · simp at e
theorem get_pls {x : Nat} {q : Pc} {s : Nm} (e : qs[x]? = some q) (es : q.s = some s) : (plsOf qs)[x]? = some (some (s, srtB q.brs)) := by
  unfold plsOf
  have := (List.getElem?_eq_some_iff.mp e).1
  rw [List.getElem?_append_left (by simpa using this), List.getElem?_map, e]
  simp [plOf, es]
theorem mem_srtB {bs : List Br} {b : Br} : b ∈ srtB bs ↔ b ∈ bs := (List.mergeSort_perm bs leB).mem_iff
theorem good_of (L : Log hands weak qs (some qs.length)) (D : ∀ (k : Nat) (q : Pc) (s : Nm), qs[k]? = some q → q.s = some s → Done weak s q.brs) (h2 : 2 ≤ hands.length) (h6 : hands.length ≤ 6) (hn : ∀ x ∈ hands, isNm x = true) (hd : hands.Nodup) (wn : ∀ x ∈ weak, x ∈ hands) (wu : weak.Pairwise (· < ·))
    (q1 : 1 ≤ qs.length) (q39 : qs.length ≤ 39) : Good hands weak (plsOf qs) := by
  have le : qs.length ≤ (plsOf qs).length := by unfold plsOf; simp
  have le2 : (plsOf qs).length ≤ qs.length + 1 := by unfold plsOf; split <;> simp
  have nl : needs qs = true → (plsOf qs).length = qs.length + 1 := fun e => by unfold plsOf; rw [if_pos e]; simp
  have brs : ∀ {k : Nat} {q : Pc} {s : Nm} {b : Br}, qs[k]? = some q → q.s = some s → b ∈ q.brs → BrL hands (To qs (some qs.length)) q s b := fun e es hb => by
    obtain ⟨s', e', z⟩ := (L.pl _ _ e).br _ hb
    rw [es] at e'
    cases e'
    exact z
  have edg : ∀ {k : Nat} {q : Pc} {b : Br}, qs[k]? = some q → b ∈ q.brs → edge none true (plsOf qs) k b.th := fun {k q b} e hb => by
    obtain ⟨s, es, _⟩ := (L.pl _ _ e).br _ hb
    exact ⟨s, srtB q.brs, b, get_pls e es, mem_srtB.mpr hb, by simp [mayGo], rfl⟩
  have low : ∀ x, x < qs.length → Rch (edge none true (plsOf qs)) 0 x := by
    intro x
    induction x using Nat.strongRecOn with
    | ind x ih =>
      intro hx
      by_cases c : x = 0
      · subst c; exact .refl
      · obtain ⟨j, q, b, h1, h2, h3, h4⟩ := L.up x hx c
        subst h4
        exact (ih j h1 (by omega)).step (edg h2 h3)
  refine ⟨h2, h6, hn, hd, wn, wu, by omega, by omega, ?_, ?_, ?_⟩
  · intro s bs hm
    obtain ⟨x, ex⟩ := List.getElem?_of_mem hm
    obtain ⟨q, e, es, rfl⟩ := pls_get ex
    have P := L.pl x q e
    have N := D x q s e es
    obtain ⟨so1, so2, pm, up⟩ := sort_br P.ky
    have pl : (srtB q.brs).length = q.brs.length := pm.length_eq
    have pf : ((srtB q.brs).filter isF).length = (q.brs.filter isF).length := (pm.filter isF).length_eq
    obtain ⟨y, hy, fy⟩ := N.nf
    have ypos := List.length_pos_of_mem hy
    refine ⟨(P.sy s es).1, by omega, by have := N.l8; omega, fun b hb => ?_, up, fun b hb => (brs e es (mem_srtB.mp hb)).hs, by rw [pf, N.fl], ?_⟩
    · have z := brs e es (mem_srtB.mp hb)
      refine ⟨z.hh, z.wd, ?_⟩
      rcases z.to with ⟨q', e', _⟩ | e'
      · have := (List.getElem?_eq_some_iff.mp e').1
        omega
      · have e' : qs.length = b.th := Option.some.inj e'
        have : needs qs = true := by
          unfold needs
          rw [List.any_eq_true]
          refine ⟨q, List.mem_of_getElem? e, ?_⟩
          rw [List.any_eq_true]
          exact ⟨b, mem_srtB.mp hb, by simp [e']⟩
        have := nl this
        omega
    · rw [pf, pl]
      intro z
      have := List.filter_eq_self.mp (List.Sublist.eq_of_length (List.filter_sublist (p := isF) (l := q.brs)) z) y hy
      rw [fy] at this
      cases this
  · intro x hx
    by_cases c : x < qs.length
    · exact low x c
    · have nn : needs qs = true := by
        by_cases c2 : needs qs = true
        · exact c2
        · have : (plsOf qs).length = qs.length := by unfold plsOf; rw [if_neg c2]; simp
          omega
      have := nl nn
      have ex : x = qs.length := by omega
      unfold needs at nn
      rw [List.any_eq_true] at nn
      obtain ⟨q, hq, z⟩ := nn
      rw [List.any_eq_true] at z
      obtain ⟨b, hb, z⟩ := z
      obtain ⟨k, hk⟩ := List.getElem?_of_mem hq
      have z : b.th = qs.length := by simpa using z
      rw [ex, ← z]
      exact (low k (List.getElem?_eq_some_iff.mp hk).1).step (edg hk hb)
  · intro s bs b hm hb wf x s' bs' r ex
    obtain ⟨y, ey⟩ := List.getElem?_of_mem hm
    obtain ⟨q, e, es, rfl⟩ := pls_get ey
    have z := brs e es (mem_srtB.mp hb)
    have t0 : To qs (some qs.length) b.th [s] := by
      rcases z.to with ⟨q', e', g⟩ | e'
      · refine .inl ⟨q', e', fun w hw => g w ?_⟩
        simp at hw
        subst hw
        unfold goes
        rw [if_pos wf]
        simp
      · exact .inr e'
    have tr : ∀ x, Rch (edge none true (plsOf qs)) b.th x → To qs (some qs.length) x [s] := by
      intro x r
      induction r with
      | refl => exact t0
      | @step u v ru eu ih =>
        obtain ⟨s2, bs2, b2, e2, hb2, _, rfl⟩ := eu
        obtain ⟨q2, f2, fs, rfl⟩ := pls_get e2
        rcases ih with ⟨q3, e3, g3⟩ | e3
        · rw [f2] at e3
          cases e3
          have z2 := brs f2 fs (mem_srtB.mp hb2)
          rcases z2.to with ⟨q4, e4, g4⟩ | e4
          · refine .inl ⟨q4, e4, fun w hw => g4 w ?_⟩
            unfold goes
            split
            · exact List.mem_append_left _ (g3 w hw)
            · exact g3 w hw
          · exact .inr e4
        · have e3 : qs.length = u := Option.some.inj e3
          have := (List.getElem?_eq_some_iff.mp f2).1
          omega
    obtain ⟨q5, e5, es5, rfl⟩ := pls_get ex
    rcases tr x r with ⟨q6, e6, g6⟩ | e6
    · rw [e5] at e6
      cases e6
      have sg := g6 s (by simp)
      refine ⟨fun h => ((L.pl x _ e5).sy s' es5).2.1 (h ▸ sg), fun b' hb' h => (brs e5 es5 (mem_srtB.mp hb')).hg (h ▸ sg)⟩
    · have e6 : qs.length = x := Option.some.inj e6
      have := (List.getElem?_eq_some_iff.mp e5).1
      omega
end HD
end
noncomputable section
set_option Elab.async false
set_option linter.all false
set_option maxRecDepth 100000
set_option maxHeartbeats 4000000
namespace HD
open PySem PySem.Spec L2 Dn
variable {h h1 : MH} {p ih iw ist ip : Nat} {hands weak ss : List Nm} {qs : List Pc}
structure Fine (p ih iw ist ip : Nat) (hands weak ss : List Nm) (qs qs' : List Pc) (n : Nat) (W : List (Pc × Nat)) (h : MH) : Prop where
  S : Sit p ih iw ist ip hands weak ss qs' h
  L : Log hands weak qs' (some n)
  len : qs'.length = n
  same : ∀ (i : Nat) (q : Pc), qs[i]? = some q → ∃ bs, qs'[i]? = some { q with brs := bs }
  or : ∀ (i : Nat) (q : Pc) (s : Nm), qs'[i]? = some q → q.s = some s → Done weak s q.brs ∨ q.brs.length ≤ 6
  dn : ∀ a ∈ W, ∀ (q : Pc) (s : Nm), qs'[a.2]? = some q → q.s = some s → Done weak s q.brs
theorem pre_of {s : Nm} {bs : List Br} (e : Done weak s bs ∨ bs.length ≤ 6) : bs.length + lkI weak s bs ≤ 8 := by
  unfold lkI
  rcases e with e | e
  · have : ¬ lackV weak s bs = true := fun z => by
      unfold lackV at z
      simp only [Bool.and_eq_true, decide_eq_true_eq, Bool.not_eq_true', decide_eq_false_iff_not] at z
      have := e.fl
      rw [if_pos z.1, flt_none z.2] at this
      simp at this
    rw [if_neg this]
    exact e.l8
  · split <;> omega
theorem finish_ok {most n c : Nat} {x4 x8 x9 x10 : Option D} (S : Sit p ih iw ist ip hands weak ss qs h) (L : Log hands weak qs none) (ql : qs.length = n) (n60 : n < 60) (q6 : ∀ (k : Nat) (q : Pc), qs[k]? = some q → q.brs.length ≤ 6) (x : Pot p c h) (hc : c + 20000 < 1099511627776)
    (h6 : hands.length ≤ 6) (s1 : 1 ≤ ss.length) (s6 : ss.length ≤ 6) (sn : ∀ x ∈ ss, isNm x = true) :
    ∃ (y8 y9 y10 : Option D) (qs' : List Pc) (h' : MH) (c' : Nat), (forS (op1 srcV (lcM (op1 srcV (mVar 6)) (.nm 11) [11] (asB (op2 (gIs true) (op2 gIx (mVar 11) (retM (.int 1))) (retM .non))) (mVar 11))) (.nm 8) finB) (sgF p most ih iw x4 ist ip n x8 x9 x10 none) h = .nx (sgF p most ih iw x4 ist ip n y8 y9 y10 none) h' ∧
      Sit p ih iw ist ip hands weak ss qs' h' ∧ Log hands weak qs' (some n) ∧ qs'.length = n ∧ (∀ (k : Nat) (q : Pc) (s : Nm), qs'[k]? = some q → q.s = some s → Done weak s q.brs) ∧ Pot p c' h' ∧ c' ≤ c + 150 * n := by
  let W : List (Pc × Nat) := qs.zipIdx.filter fun a => a.1.s.isSome
  let d : Pc × Nat → D := fun a => .ref a.1.id
  have ei : (qs.map fun q : Pc => D.ref q.id) = qs.zipIdx.map d := by
    refine List.ext_getElem? fun i => ?_
    simp only [List.getElem?_map, List.getElem?_zipIdx]
    cases qs[i]? with
    | none => rfl
    | some q => simp [d]
  let src : Src := ⟨qs.map fun q : Pc => D.ref q.id, Dn.liveOf (.ref ip) (qs.map fun q : Pc => D.ref q.id)⟩
  have ok : src.ok h := fun z hz => live_ok' (lst_of S.ep) z hz
  let σ0 : Sg := sgF p most ih iw x4 ist ip n x8 x9 x10 none
  have k1 := lcL_sift (h := h) (src := src) (p := .nm 11) (t := asB (op2 (gIs true) (op2 gIx (mVar 11) (retM (.int 1))) (retM .non))) (e := mVar 11) (σ0 := σ0) ok d (fun a => a.1.s.isSome) d qs.zipIdx [] (fun a ha => by
    obtain ⟨q, i⟩ := a
    have P := S.pc i q (List.mem_zipIdx_iff_getElem?.mp ha)
    refine ⟨sgF p most ih iw x4 ist ip n x8 x9 x10 (some (.ref q.id)), by simp [d, σ0], ?_, fun _ => ⟨rfl, rfl⟩⟩
    have i1 : gIx (.ref q.id) (.int 1) h = .ok (optD q.s) h := gIx_lst (lst_of P.er) rfl
    rw [ap_asB, ap_op2, ap_op2, ap_var]
    show ((((optV (some (some (.ref q.id))) h).bnd _).bnd _)).bnd _ = _
    rw [optV_some, bnd_ok, ap_ret, bnd_ok, i1, bnd_ok, ap_ret, bnd_ok, optD_is]
    rfl) (by simp; unfold line; omega)
  rw [List.nil_append] at k1
  let I : Nat → Sg → MH → Prop := fun j σ g => ∃ (y8 y9 y10 : Option D) (qs' : List Pc) (c' : Nat), σ = sgF p most ih iw x4 ist ip n y8 y9 y10 none ∧ Fine p ih iw ist ip hands weak ss qs qs' n (W.take j) g ∧ Pot p c' g ∧ c' ≤ c + 150 * j
  have wl : W.length ≤ n := by
    have := List.length_filter_le (fun a : Pc × Nat => a.1.s.isSome) qs.zipIdx
    simp at this
    show (qs.zipIdx.filter fun a => a.1.s.isSome).length ≤ n
    omega
  have tn : ∀ k G, To qs none k G → To qs (some n) k G := fun k G t => by
    rcases t with t | t
    · exact .inl t
    · cases t
  obtain ⟨σ2, h2, e2, y8, y9, y10, qs2, c2, rfl, F2, x2, d2⟩ := forL_inv (src := ⟨W.map d, []⟩) (p := .nm 8) (b := finB) I (W.map d) 0 σ0 h (fun _ _ _ _ _ _ => ok_nil) (fun j z σ g hj ed hI => by
    obtain ⟨y8, y9, y10, qs', c', rfl, F, x', d'⟩ := hI
    rw [Nat.sub_zero, List.getElem?_map] at ed
    obtain ⟨⟨q, i⟩, ea, rfl⟩ := Option.map_eq_some_iff.mp ed
    have jl := (List.getElem?_eq_some_iff.mp ea).1
    obtain ⟨m1, m2⟩ := List.mem_filter.mp (List.mem_of_getElem? ea)
    have eq := List.mem_zipIdx_iff_getElem?.mp m1
    obtain ⟨s, es⟩ : ∃ s, q.s = some s := Option.isSome_iff_exists.mp m2
    obtain ⟨bs, eq'⟩ := F.same i q eq
    obtain ⟨z9, z10, bs2, g2, c2, e2, M2, D2, x2, d2⟩ := fin_ok (most := most) (x4 := x4) (x9 := y9) (x10 := y10) (x11 := none) F.S F.L F.len n60 eq' es (pre_of (F.or i _ s eq' es)) x' (by omega) h6 s1 s6 sn
    refine ⟨sgF p most ih iw x4 ist ip n (some (.ref q.id)) y9 y10 none, by simp [d], _, g2, .inl e2, _, _, _, _, c2, rfl, ⟨M2.S, M2.L, by rw [List.length_set]; exact F.len, ?_, ?_, ?_⟩, x2, by omega⟩
    · intro k q1 e1
      by_cases c : k = i
      · subst c
        rw [eq] at e1
        cases e1
        exact ⟨bs2, List.getElem?_set_self (List.getElem?_eq_some_iff.mp eq').1⟩
      · obtain ⟨b, hb⟩ := F.same k q1 e1
        exact ⟨b, by rw [List.getElem?_set_ne (Ne.symm c)]; exact hb⟩
    · intro k q1 s1 e1 f1
      rcases get_set e1 with ⟨_, rfl⟩ | ⟨_, e1⟩
      · have : s1 = s := Option.some.inj (f1.symm.trans es)
        subst this
        exact .inl D2
      · exact F.or k q1 s1 e1 f1
    · intro a ha q1 s1 e1 f1
      rcases get_set e1 with ⟨_, rfl⟩ | ⟨c, e1⟩
      · have : s1 = s := Option.some.inj (f1.symm.trans es)
        subst this
        exact D2
      · rw [List.take_add_one, ea] at ha
        rcases List.mem_append.mp ha with ha | ha
        · exact F.dn a ha q1 s1 e1 f1
        · simp at ha
          subst ha
          exact absurd rfl c) ⟨x8, x9, x10, qs, c, rfl, ⟨S, ⟨fun k q e => (L.pl k q e).mono tn, L.up⟩, ql, fun i q e => ⟨q.brs, e⟩, fun i q s e _ => .inr (q6 i q e), fun a ha => by simp at ha⟩, x, by omega⟩
  have il : 0 + (W.map d).length = W.length := by simp
  rw [il] at F2 d2
  refine ⟨y8, y9, y10, qs2, h2, c2, s_for (h1 := h) (src := ⟨W.map d, []⟩) ?_ e2, F2.S, F2.L, F2.len, fun k q s e es => ?_, x2, by have := Nat.mul_le_mul_left 150 wl; omega⟩
  · rw [ap_op1, ap_lc, ap_op1, ap_var]
    show ((((optV (some (some (.ref ip))) h).bnd _).bnd _)).bnd _ = _
    rw [optV_some, bnd_ok, src_lst (lst_of S.ep), bnd_ok]
    show (lcL src _ _ _ σ0 (qs.map fun q : Pc => D.ref q.id) [] h).bnd _ = _
    rw [ei, k1, bnd_ok, src_tl]
  · have kl := (List.getElem?_eq_some_iff.mp e).1
    rw [F2.len, ← ql] at kl
    obtain ⟨q0, e0⟩ : ∃ q0, qs[k]? = some q0 := ⟨_, List.getElem?_eq_getElem kl⟩
    obtain ⟨bs, e1⟩ := F2.same k q0 e0
    rw [e] at e1
    cases e1
    refine F2.dn (q0, k) ?_ _ s e es
    rw [List.take_length]
    exact List.mem_filter.mpr ⟨List.mem_zipIdx_iff_getElem?.mpr e0, by show q0.s.isSome = true; rw [show q0.s = some s from es]; rfl⟩
end HD
end
noncomputable section
set_option Elab.async false
set_option linter.all false
set_option maxRecDepth 100000
set_option maxHeartbeats 4000000
namespace HD
open PySem PySem.Spec L2 Dn
variable {h h1 : MH} {p ih iw ist ip : Nat} {hands weak ss : List Nm} {qs : List Pc}
abbrev sgT (p most ih iw : Nat) (x4 : Option D) (ist ip n : Nat) (x8 x9 x10 x12 x13 : Option D) : Sg := [some (.ref p), some (.int (most : Int)), some (.ref ih), some (.ref iw), x4, some (.ref ist), some (.ref ip), some (.int (n : Int)), x8, x9, x10, none, x12, x13, none]
theorem optD_isn (s : Option Nm) : gIs false (optD s) .non h = .ok (.bl s.isNone) h := by cases s <;> rfl
theorem toldB_ok {most n : Nat} {x4 x8 x9 x10 : Option D} (S : Sit p ih iw ist ip hands weak ss qs h) (ql : qs.length < 60) (ky : ∀ (k : Nat) (q : Pc), qs[k]? = some q → q.brs.Pairwise fun b c => ¬ (b.hr = c.hr ∧ b.w = c.w)) :
    (setS 12 (ownM (lcM (op1 srcV (mVar 6)) (.nm 8) [8] (retM true) (ifM (asB (op2 (gIs false) (op2 gIx (mVar 8) (retM (.int 1))) (retM .non))) (retM .non) (tupM (consM (op2 gIx (mVar 8) (retM (.int 1))) (consM (op1 gTuple (op1 gSorted (op2 gIx (mVar 8) (retM (.int 2))))) nilM))))))) (sgT p most ih iw x4 ist ip n x8 x9 x10 none none) h =
      .nx (sgT p most ih iw x4 ist ip n x8 x9 x10 (some (.ref h.length)) none) (h ++ [.lst ((qs.map plOf).map plD)]) := by
  refine s_set (d := .ref h.length) ?_ rfl
  let src : Src := ⟨qs.map fun q : Pc => D.ref q.id, Dn.liveOf (.ref ip) (qs.map fun q : Pc => D.ref q.id)⟩
  have ok : src.ok h := fun z hz => live_ok' (lst_of S.ep) z hz
  let σ0 : Sg := sgT p most ih iw x4 ist ip n none x9 x10 none none
  have k1 := lcL_sift (h := h) (src := src) (p := .nm 8) (t := retM true) (e := ifM (asB (op2 (gIs false) (op2 gIx (mVar 8) (retM (.int 1))) (retM .non))) (retM .non) (tupM (consM (op2 gIx (mVar 8) (retM (.int 1))) (consM (op1 gTuple (op1 gSorted (op2 gIx (mVar 8) (retM (.int 2))))) nilM)))) (σ0 := σ0) ok (fun q : Pc => .ref q.id) (fun _ => true) (fun q => plD (plOf q)) qs [] (fun q hq => by
    obtain ⟨i, hi⟩ := List.getElem?_of_mem hq
    have P := S.pc i q hi
    let σ1 : Sg := sgT p most ih iw x4 ist ip n (some (.ref q.id)) x9 x10 none none
    refine ⟨σ1, by simp [σ0, σ1], rfl, fun _ => ⟨?_, by unfold plOf; cases q.s <;> rfl⟩⟩
    have i1 : gIx (.ref q.id) (.int 1) h = .ok (optD q.s) h := gIx_lst (lst_of P.er) rfl
    have i2 : gIx (.ref q.id) (.int 2) h = .ok (.ref q.b) h := gIx_lst (lst_of P.er) rfl
    have v1 : (op2 gIx (mVar 8) (retM (.int 1))) σ1 h = .ok (optD q.s) h := by
      rw [ap_op2, ap_var]
      show ((optV (some (some (.ref q.id))) h).bnd _) = _
      rw [optV_some, bnd_ok, ap_ret, bnd_ok, i1]
    have v2 : (op2 gIx (mVar 8) (retM (.int 2))) σ1 h = .ok (.ref q.b) h := by
      rw [ap_op2, ap_var]
      show ((optV (some (some (.ref q.id))) h).bnd _) = _
      rw [optV_some, bnd_ok, ap_ret, bnd_ok, i2]
    obtain ⟨so1, so2, _, _⟩ := sort_br (ky i q hi)
    have gs : gSorted (.ref q.b) h = .ok (.tl ((srtB q.brs).map Br.d)) h := by rw [gSorted_lst (lst_of P.eb) so1, so2]
    rw [ap_ifM, ap_asB, ap_op2, v1, bnd_ok, ap_ret, bnd_ok, optD_isn, bnd_ok, toB_bl, bnd_ok]
    cases es : q.s with
    | none =>
      rw [if_pos (show (none : Option Nm).isNone = true from rfl)]
      unfold plOf
      rw [es]
      rfl
    | some s =>
      rw [if_neg (by simp), ap_tup, ap_cons, v1, bnd_ok, ap_cons, ap_op1, ap_op1, v2, bnd_ok, gs, bnd_ok, gTuple_lst (ds := (srtB q.brs).map Br.d) rfl, bnd_ok, ap_nil, bnd_ok, bnd_ok, bnd_ok, es]
      rw [if_pos (⟨rfl, by unfold line; simp⟩ : ([optD (some s), D.tup (List.map Br.d (srtB q.brs))].all D.st = true ∧ [optD (some s), D.tup (List.map Br.d (srtB q.brs))].length ≤ line))]
      unfold plOf
      rw [es]
      rfl) (by simp; unfold line; omega)
  rw [List.nil_append, List.filter_eq_self.mpr (fun _ _ => rfl)] at k1
  rw [ap_own, ap_lc, ap_op1, ap_var]
  show own (((optV (some (some (.ref ip))) h).bnd _).bnd _) = _
  rw [optV_some, bnd_ok, src_lst (lst_of S.ep), bnd_ok]
  show own (lcL src _ _ _ σ0 (qs.map fun q : Pc => D.ref q.id) [] h) = _
  rw [k1, List.map_map]
  rfl
def wantsEnd (n : Nat) (q : Pc) : Bool := q.brs.any fun b => decide (b.th = n)
theorem filter_any {n : Nat} : ∀ bs : List Br, (bs.filter fun b => decide (b.th = n)).isEmpty = !(bs.any fun b => decide (b.th = n))
  | [] => rfl
  | b :: bs => by
    rw [List.any_cons]
    by_cases c : b.th = n
    · rw [List.filter_cons_of_pos (by simp [c])]
      simp [c]
    · rw [List.filter_cons_of_neg (by simp [c]), filter_any bs]
      simp [c]
theorem needsB_ok {most n : Nat} {x4 x8 x9 x10 : Option D} {o : Nat} (S : Sit p ih iw ist ip hands weak ss qs h) (ql : qs.length < 60) (b8 : ∀ (k : Nat) (q : Pc), qs[k]? = some q → q.brs.length ≤ 100) :
    (setS 13 (ownM (lcM (op1 srcV (mVar 6)) (.nm 8) [8] (asB (op2 (gEqE true) (lcM (op1 srcV (op2 gIx (mVar 8) (retM (.int 2)))) (.nm 14) [14] (asB (op2 (gEq false) (op2 gIx (mVar 14) (retM (.int 2))) (mVar 7))) (retM (.int 1))) (lstM nilM))) (mVar 8)))) (sgT p most ih iw x4 ist ip n x8 x9 x10 (some (.ref o)) none) h =
      .nx (sgT p most ih iw x4 ist ip n x8 x9 x10 (some (.ref o)) (some (.ref h.length))) (h ++ [.lst ((qs.filter (wantsEnd n)).map fun q => .ref q.id)]) := by
  refine s_set (d := .ref h.length) ?_ rfl
  let src : Src := ⟨qs.map fun q : Pc => D.ref q.id, Dn.liveOf (.ref ip) (qs.map fun q : Pc => D.ref q.id)⟩
  have ok : src.ok h := fun z hz => live_ok' (lst_of S.ep) z hz
  let σ0 : Sg := sgT p most ih iw x4 ist ip n none x9 x10 (some (.ref o)) none
  have k1 := lcL_sift (h := h) (src := src) (p := .nm 8) (t := asB (op2 (gEqE true) (lcM (op1 srcV (op2 gIx (mVar 8) (retM (.int 2)))) (.nm 14) [14] (asB (op2 (gEq false) (op2 gIx (mVar 14) (retM (.int 2))) (mVar 7))) (retM (.int 1))) (lstM nilM))) (e := mVar 8) (σ0 := σ0) ok (fun q : Pc => .ref q.id) (wantsEnd n) (fun q => .ref q.id) qs [] (fun q hq => by
    obtain ⟨i, hi⟩ := List.getElem?_of_mem hq
    have P := S.pc i q hi
    have bl := b8 i q hi
    let σ1 : Sg := sgT p most ih iw x4 ist ip n (some (.ref q.id)) x9 x10 (some (.ref o)) none
    refine ⟨σ1, by simp [σ0, σ1], ?_, fun _ => ⟨rfl, rfl⟩⟩
    have i2 : gIx (.ref q.id) (.int 2) h = .ok (.ref q.b) h := gIx_lst (lst_of P.er) rfl
    let src2 : Src := ⟨q.brs.map Br.d, Dn.liveOf (.ref q.b) (q.brs.map Br.d)⟩
    have ok2 : src2.ok h := fun z hz => live_ok' (lst_of P.eb) z hz
    have k := lcL_sift (h := h) (src := src2) (p := .nm 14) (t := asB (op2 (gEq false) (op2 gIx (mVar 14) (retM (.int 2))) (mVar 7))) (e := retM (.int 1)) (σ0 := σ1) ok2 Br.d (fun b => decide (b.th = n)) (fun _ => .int 1) q.brs [] (fun b hb => by
      let σ2 : Sg := [some (.ref p), some (.int (most : Int)), some (.ref ih), some (.ref iw), x4, some (.ref ist), some (.ref ip), some (.int (n : Int)), some (.ref q.id), x9, x10, none, some (.ref o), none, some b.d]
      refine ⟨σ2, by simp [br_st, σ1, σ2], ?_, fun _ => ⟨rfl, rfl⟩⟩
      rw [ap_asB, ap_op2, ap_op2, ap_var]
      show ((((optV (some (some b.d)) h).bnd _).bnd _)).bnd _ = _
      rw [optV_some, bnd_ok, ap_ret, bnd_ok, (br_ix b).2.2, bnd_ok, ap_var]
      show (((optV (some (some (.int (n : Int)))) h).bnd _)).bnd _ = _
      rw [optV_some, bnd_ok, gEq_int, bnd_ok]
      show R.ok (decide ((b.th : Int) = (n : Int))) h = _
      congr 1
      by_cases c : b.th = n
      · rw [decide_eq_true c, decide_eq_true (by omega)]
      · rw [decide_eq_false c, decide_eq_false (by omega)]) (by simp; unfold line; omega)
    rw [List.nil_append] at k
    rw [ap_asB, ap_op2, ap_lc, ap_op1, ap_op2, ap_var]
    show ((((((optV (some (some (.ref q.id))) h).bnd _).bnd _).bnd _).bnd _)).bnd _ = _
    rw [optV_some, bnd_ok, ap_ret, bnd_ok, i2, bnd_ok, src_lst (lst_of P.eb), bnd_ok]
    show ((lcL src2 _ _ _ σ1 (q.brs.map Br.d) [] h).bnd _).bnd _ = _
    rw [k, bnd_ok, ap_lst, ap_nil, bnd_ok, if_pos ⟨rfl, by unfold line; simp⟩, bnd_ok, gEqE_lst (neg := true) (h := h) (d := .tl _) rfl, bnd_ok]
    have z := filter_any (n := n) q.brs
    unfold wantsEnd
    cases e : (q.brs.filter fun b => decide (b.th = n)) with
    | nil => rw [e] at z; simp at z ⊢; exact z
    | cons a r => rw [e] at z; simp at z ⊢; exact z) (by simp; unfold line; omega)
  rw [List.nil_append] at k1
  rw [ap_own, ap_lc, ap_op1, ap_var]
  show own (((optV (some (some (.ref ip))) h).bnd _).bnd _) = _
  rw [optV_some, bnd_ok, src_lst (lst_of S.ep), bnd_ok]
  show own (lcL src _ _ _ σ0 (qs.map fun q : Pc => D.ref q.id) [] h) = _
  rw [k1]
  rfl
end HD
end
noncomputable section
set_option Elab.async false
set_option linter.all false
set_option maxRecDepth 100000
set_option maxHeartbeats 4000000
namespace HD
open PySem PySem.Spec L2 Dn
variable {h h1 : MH} {p : Nat}
theorem weakL_ok {c ih : Nat} {hands : List Nm} {σ : Sg} (x : Pot p c h) (hc : c + 100 < 1099511627776) (hp : ih ≠ p) (eh : h[ih]? = some (.lst (hands.map D.str))) (h6 : hands.length ≤ 6) (s0 : σ[0]? = some (some (.ref p))) (s2 : σ[2]? = some (some (.ref ih))) (s4 : 4 < σ.length) :
    ∃ (L : List Nm) (h' : MH) (c' : Nat), (lcM (op1 srcV (mVar 2)) (.nm 4) [4] (asB (op2 (gEq false) (fcallM F__law_take [] (consM (mVar 0) (consM (retM (.int 3)) nilM))) (retM (.int 0)))) (mVar 4)) σ h = .ok (.tl (L.map D.str)) h' ∧ L.Sublist hands ∧ Fr p h h' ∧ Pot p c' h' ∧ c' ≤ c + 6 := by
  let src : Src := ⟨hands.map D.str, Dn.liveOf (.ref ih) (hands.map D.str)⟩
  let I : Nat → List D → MH → Prop := fun j acc h' => ∃ (L : List Nm) (c' : Nat), acc = L.map D.str ∧ L.Sublist (hands.take j) ∧ Fr p h h' ∧ Pot p c' h' ∧ c' ≤ c + j
  obtain ⟨acc, h2, e2, L, c2, rfl, sl, f2, x2, d2⟩ := lcL_inv (src := src) (p := .nm 4) (t := asB (op2 (gEq false) (fcallM F__law_take [] (consM (mVar 0) (consM (retM (.int 3)) nilM))) (retM (.int 0)))) (e := mVar 4) (σ0 := wipeD σ [4]) I src.items 0 [] h (fun j acc h' _ _ hI => by
    obtain ⟨L, c', _, _, f, _, _⟩ := hI
    exact fun z hz => live_ok' (lst_of (f.get eh hp)) z hz) (fun j d acc h' hj ed hI => by
    obtain ⟨L, c', rfl, sl, f, x', d'⟩ := hI
    have jl : j < 6 := by
      have := (List.getElem?_eq_some_iff.mp ed).1
      simp [src] at this
      omega
    rw [Nat.sub_zero] at ed
    have ed : (hands.map D.str)[j]? = some d := ed
    rw [List.getElem?_map] at ed
    obtain ⟨y, ey, rfl⟩ := Option.map_eq_some_iff.mp ed
    let σ1 : Sg := (wipeD σ [4]).set 4 (some (.str y))
    have g0 : σ1[0]? = some (some (.ref p)) := by simp [σ1, wipeD, s0]
    have g4 : σ1[4]? = some (some (.str y)) := by simp [σ1, wipeD, s4]
    obtain ⟨r, h3, c3, e3, _, f3, x3, d3⟩ := take_ok (m := 3) x' (by omega) (by omega) (by omega)
    have tk := take_eq (h := h') (σ := σ1) (e := retM (.int 3)) (m := 3) g0 (fun _ => rfl)
    have et : (asB (op2 (gEq false) (fcallM F__law_take [] (consM (mVar 0) (consM (retM (.int 3)) nilM))) (retM (.int 0)))) σ1 h' = .ok (decide (r = 0)) h3 := by
      rw [ap_asB, ap_op2, tk, e3, bnd_ok, ap_ret, bnd_ok, gEq_int]
      rfl
    have st : hands.take (j + 1) = hands.take j ++ [y] := by rw [List.take_add_one, ey]; rfl
    refine ⟨σ1, by simp [σ1], h3, ?_⟩
    by_cases cr : r = 0
    · refine .inr ⟨by rw [et]; simp [cr], .str y, h3, by rw [ap_var, g4, optV_some], rfl, ?_, L ++ [y], c3, by simp, ?_, f.trans f3, x3, by omega⟩
      · rw [List.length_map]
        have := sl.length_le
        simp at this
        unfold line
        omega
      · rw [st]
        exact sl.append (List.Sublist.refl _)
    · refine .inl ⟨by rw [et]; simp [cr], L, c3, rfl, ?_, f.trans f3, x3, by omega⟩
      rw [st]
      exact sl.trans (List.sublist_append_left _ _)) ⟨[], c, rfl, List.nil_sublist _, Fr.refl p h, x, by omega⟩
  have il : 0 + src.items.length = hands.length := by simp [src]
  rw [il] at sl d2
  rw [List.take_length] at sl
  refine ⟨L, h2, c2, ?_, sl, f2, x2, by omega⟩
  rw [ap_lc, ap_op1, ap_var, s2, optV_some, bnd_ok, src_lst (lst_of eh), bnd_ok]
  exact e2
abbrev sgZ (p most : Nat) (x2 x3 x5 x6 x7 x8 x9 x10 x12 x13 : Option D) : Sg := [some (.ref p), some (.int (most : Int)), x2, x3, none, x5, x6, x7, x8, x9, x10, none, x12, x13, none]
theorem some_names {σ : Sg} {c k : Nat} (x : Pot p c h) (hc : c + 200 < 1099511627776) (k2 : k ≤ 2) (s0 : σ[0]? = some (some (.ref p))) :
    ∃ (ns : List Nm) (f : Nat) (h' : MH) (c' : Nat), (fcallM F__law_names [] (consM (mVar 0) (consM (op2 gAdd (retM (.int (k : Int))) (fcallM F__law_take [] (consM (mVar 0) (consM (retM (.int 5)) nilM)))) nilM))) σ h = .ok (.ref f) h' ∧ h.length ≤ f ∧ h'[f]? = some (.lst (ns.map D.str)) ∧ k ≤ ns.length ∧ ns.length ≤ 6 ∧ ns.Nodup ∧ (∀ x ∈ ns, isNm x = true) ∧ Fr p h h' ∧ Pot p c' h' ∧ c' ≤ c + 70 := by
  obtain ⟨r, h3, c3, e3, ⟨a3, b3⟩, f3, x3, d3⟩ := take_ok (m := 5) x (by omega) (by omega) (by omega)
  have tk := take_eq (h := h) (σ := σ) (e := retM (.int 5)) (m := 5) s0 (fun _ => rfl)
  obtain ⟨ns, h4, c4, e4, en, nl, nd, nn, f4, x4, d4⟩ := names_ok (m := k + r.toNat) x3 (by omega) (by omega)
  have er : (k : Int) + r = ((k + r.toNat : Nat) : Int) := by omega
  refine ⟨ns, h3.length, h4, c4, ?_, f3.len, en, by omega, by omega, nd, nn, f3.trans f4, x4, by omega⟩
  rw [ap_call, ap_cons, ap_var, s0, optV_some, bnd_ok, ap_cons, ap_op2, ap_ret, bnd_ok, tk, e3, bnd_ok, gAdd_ii, bnd_ok, ap_nil, bnd_ok, bnd_ok, bnd_ok, er]
  exact e4
theorem lawboard_ok {c most : Nat} (x : Pot p c h) (hc : c + 30000 < 1099511627776) (m1 : 1 ≤ most) (m2 : most ≤ 39) :
    ∃ (hands weak : List Nm) (pls : List Pl) (h' : MH) (c' : Nat), F__law_board [.ref p, .int (most : Int)] h = .ok (boardD hands weak pls) h' ∧ Good hands weak pls ∧ Pot p c' h' ∧ c' ≤ c + 10000 := by
  have hp := x.lt
  obtain ⟨hands, ih, h1, c1, e1, l1, eh1, hk, h6, hnd, hn, f1, x1, d1⟩ := some_names (k := 2) (σ := sgZ p most none none none none none none none none none none) x (by omega) (by omega) rfl
  have ihp : ih ≠ p := by omega
  obtain ⟨wl, h2, c2, e2, ws, f2, x2, d2⟩ := weakL_ok (σ := sgZ p most (some (.ref ih)) none none none none none none none none none) x1 (by omega) ihp eh1 h6 rfl rfl (by simp)
  obtain ⟨so1, weak, so2, wp, wu⟩ := sort_nm (ws.nodup hnd)
  have wn : ∀ y ∈ weak, y ∈ hands := fun y hy => ws.subset (wp.mem_iff.mp hy)
  let iw := h2.length
  let h3 : MH := h2 ++ [.lst (weak.map D.str)]
  have x3 : Pot p c2 h3 := x2.grow _
  have hp2 := x2.lt
  have ew3 : h3[iw]? = some (.lst (weak.map D.str)) := by simp [h3, iw]
  have eh3 : h3[ih]? = some (.lst (hands.map D.str)) := get_grow (f2.get eh1 ihp)
  have iwp : iw ≠ p := by show h2.length ≠ p; omega
  obtain ⟨ss, ist, h4, c4, e4, l4, es4, s1, s6, snd, sn, f4, x4, d4⟩ := some_names (k := 1) (σ := sgZ p most (some (.ref ih)) (some (.ref iw)) none none none none none none none none) x3 (by omega) (by omega) rfl
  have hp3 := x3.lt
  have isp : ist ≠ p := by omega
  have eh4 := f4.get eh3 ihp
  have ew4 := f4.get ew3 iwp
  obtain ⟨r, h5, c5, e5, ⟨a5, b5⟩, f5, x5, d5⟩ := take_ok (m := (most : Int)) x4 (by omega) (by omega) (by omega)
  have tk := take_eq (h := h4) (σ := sgZ p most (some (.ref ih)) (some (.ref iw)) (some (.ref ist)) none none none none none none none) (e := mVar 1) (m := (most : Int)) rfl (fun _ => rfl)
  obtain ⟨ip, h6', e6, qs, c6, S6, L6, q1, q2, q6, x6, d6⟩ := grown_ok (m := 1 + r.toNat) x5 (by omega) (by omega) (by omega) (f5.get eh4 ihp) (f5.get ew4 iwp) (f5.get es4 isp) ⟨ihp, iwp, isp⟩ h6 hnd s1 s6 sn
  have er : (1 : Int) + r = ((1 + r.toNat : Nat) : Int) := by omega
  let n := qs.length
  have n39 : n ≤ 39 := by show qs.length ≤ 39; omega
  obtain ⟨y8, y9, y10, qs', h7, c7, e7, S7, L7, n7, D7, x7, d7⟩ := finish_ok (most := most) (n := n) (x4 := none) (x8 := none) (x9 := none) (x10 := none) S6 L6 rfl (by omega) q6 x6 (by omega) h6 s1 s6 sn
  have L7' : Log hands weak qs' (some qs'.length) := by rw [n7]; exact L7
  have G := good_of L7' D7 hk h6 hn hnd wn wu (by omega) (by omega)
  have e8 := toldB_ok (most := most) (n := n) (x4 := none) (x8 := y8) (x9 := y9) (x10 := y10) S7 (by omega) (fun k q e => (L7.pl k q e).ky)
  let h8 : MH := h7 ++ [.lst ((qs'.map plOf).map plD)]
  have S8 := S7.keep (Fr.grow p h7 [.lst ((qs'.map plOf).map plD)])
  have b100 : ∀ (k : Nat) (q : Pc), qs'[k]? = some q → q.brs.length ≤ 100 := fun k q e => by
    cases es : q.s with
    | none =>
      have : q.brs = [] := by
        cases eb : q.brs with
        | nil => rfl
        | cons b r =>
          obtain ⟨s, es2, _⟩ := (L7.pl k q e).br b (by rw [eb]; simp)
          rw [es] at es2
          cases es2
      rw [this]
      simp
    | some s => have := (D7 k q s e es).l8; omega
  have e9 := needsB_ok (most := most) (n := n) (x4 := none) (x8 := y8) (x9 := y9) (x10 := y10) (o := h7.length) S8 (by omega) b100
  let W := qs'.filter (wantsEnd n)
  let h9 : MH := h8 ++ [.lst (W.map fun q => .ref q.id)]
  have S9 := S8.keep (Fr.grow p h8 [.lst (W.map fun q => .ref q.id)])
  have et9 : h9[h7.length]? = some (.lst ((qs'.map plOf).map plD)) := get_grow (by simp [h8])
  have ew9 : h9[h8.length]? = some (.lst (W.map fun q => .ref q.id)) := by simp [h9]
  have nW : needs qs' = !W.isEmpty := by
    have z : ∀ l : List Pc, (l.any fun q => q.brs.any fun b => decide (b.th = qs'.length)) = !(l.filter (wantsEnd n)).isEmpty := by
      intro l
      induction l with
      | nil => rfl
      | cons a l ihl =>
        have e : (a.brs.any fun b => decide (b.th = qs'.length)) = wantsEnd n a := by unfold wantsEnd; rw [n7]
        rw [List.any_cons, e]
        by_cases cc : wantsEnd n a = true
        · rw [List.filter_cons_of_pos cc, cc]; rfl
        · rw [List.filter_cons_of_neg cc, ← ihl]
          simp at cc
          rw [cc]
          rfl
    exact z qs'
  refine ⟨hands, weak, plsOf qs', h9, c7, ?_, G, (x7.grow _).grow _, by omega⟩
  let σT := sgT p most ih iw none ist ip n y8 y9 y10 (some (.ref h7.length)) (some (.ref h8.length))
  have st2 : setS 2 (fcallM F__law_names [] (consM (mVar 0) (consM (op2 gAdd (retM (.int 2)) (fcallM F__law_take [] (consM (mVar 0) (consM (retM (.int 5)) nilM)))) nilM))) (sgZ p most none none none none none none none none none none) h = .nx (sgZ p most (some (.ref ih)) none none none none none none none none none) h1 := s_set e1 rfl
  have st3 : setS 3 (ownM (op1 gSorted (lcM (op1 srcV (mVar 2)) (.nm 4) [4] (asB (op2 (gEq false) (fcallM F__law_take [] (consM (mVar 0) (consM (retM (.int 3)) nilM))) (retM (.int 0)))) (mVar 4)))) (sgZ p most (some (.ref ih)) none none none none none none none none none) h1 = .nx (sgZ p most (some (.ref ih)) (some (.ref iw)) none none none none none none none none) h3 := by
    refine s_set (d := .ref iw) ?_ rfl
    rw [ap_own, ap_op1, e2, bnd_ok, gSorted_lst (ds := wl.map D.str) rfl so1, so2]
    rfl
  have st5 : setS 5 (fcallM F__law_names [] (consM (mVar 0) (consM (op2 gAdd (retM (.int 1)) (fcallM F__law_take [] (consM (mVar 0) (consM (retM (.int 5)) nilM)))) nilM))) (sgZ p most (some (.ref ih)) (some (.ref iw)) none none none none none none none none) h3 = .nx (sgZ p most (some (.ref ih)) (some (.ref iw)) (some (.ref ist)) none none none none none none none) h4 := s_set e4 rfl
  have st6 : setS 6 (fcallM F__law_grown [] (consM (mVar 0) (consM (mVar 2) (consM (mVar 3) (consM (mVar 5) (consM (op2 gAdd (retM (.int 1)) (fcallM F__law_take [] (consM (mVar 0) (consM (mVar 1) nilM)))) nilM)))))) (sgZ p most (some (.ref ih)) (some (.ref iw)) (some (.ref ist)) none none none none none none none) h4 = .nx (sgZ p most (some (.ref ih)) (some (.ref iw)) (some (.ref ist)) (some (.ref ip)) none none none none none none) h6' := by
    refine s_set (d := .ref ip) ?_ rfl
    rw [ap_call, ap_cons, ap_var]
    show (((optV (some (some (.ref p))) h4).bnd _)).bnd _ = _
    rw [optV_some, bnd_ok, ap_cons, ap_var]
    show (((((optV (some (some (.ref ih))) h4).bnd _)).bnd _)).bnd _ = _
    rw [optV_some, bnd_ok, ap_cons, ap_var]
    show (((((((optV (some (some (.ref iw))) h4).bnd _)).bnd _)).bnd _)).bnd _ = _
    rw [optV_some, bnd_ok, ap_cons, ap_var]
    show (((((((((optV (some (some (.ref ist))) h4).bnd _)).bnd _)).bnd _)).bnd _)).bnd _ = _
    rw [optV_some, bnd_ok, ap_cons, ap_op2, ap_ret, bnd_ok, tk, e5, bnd_ok, gAdd_ii, bnd_ok, ap_nil, bnd_ok, bnd_ok, bnd_ok, bnd_ok, bnd_ok, bnd_ok, er]
    exact e6
  have st7 : setS 7 (op1 gLen (mVar 6)) (sgZ p most (some (.ref ih)) (some (.ref iw)) (some (.ref ist)) (some (.ref ip)) none none none none none none) h6' = .nx (sgF p most ih iw none ist ip n none none none none) h6' := by
    refine s_set (d := .int (n : Int)) ?_ rfl
    rw [ap_op1, ap_var]
    show (optV (some (some (.ref ip))) h6').bnd _ = _
    rw [optV_some, bnd_ok, gLen_lst (lst_of S6.ep), List.length_map]
  refine fn_rt rfl (s_seq st2 (s_seq st3 (s_seq st5 (s_seq st6 (s_seq st7 (s_seq e7 (s_seq e8 (s_seq e9 (s_ret (h1 := h9) (d := boardD hands weak (plsOf qs')) ?_ rfl)))))))))
  have g2 : gTuple (.ref ih) h9 = .ok (handsD hands) h9 := gTuple_lst (lst_of S9.eh)
  have g3 : gTuple (.ref iw) h9 = .ok (handsD weak) h9 := gTuple_lst (lst_of S9.ew)
  let k : Nat := if needs qs' = true then 1 else 0
  have gk : gInt (.bl (!W.isEmpty)) h9 = .ok (.int (k : Int)) h9 := by
    rw [gInt_bl, ← nW]
    show R.ok (D.int (if needs qs' = true then 1 else 0)) h9 = .ok (.int ((if needs qs' = true then 1 else 0 : Nat) : Int)) h9
    split <;> rfl
  have gm : gMulB (.tl [.non]) (.int (k : Int)) h9 = .ok (.tl (if needs qs' = true then [.non] else [])) h9 := by
    have k1 : k ≤ 1 := by show (if needs qs' = true then 1 else 0) ≤ 1; split <;> omega
    have lw : lstW h9 (.tl [.non]) = some [.non] := rfl
    unfold gMulB
    dsimp only
    unfold gMul
    dsimp only
    rw [lw]
    dsimp only
    rw [if_pos (by unfold line; simp; omega)]
    show R.ok (D.tl (List.replicate k [D.non]).flatten) h9 = _
    show R.ok (D.tl (List.replicate (if needs qs' = true then 1 else 0) [D.non]).flatten) h9 = _
    split <;> rfl
  have ga := gAdd_rt (h := h9) (ys := if needs qs' = true then [.non] else []) et9 (by simp; split <;> simp <;> omega)
  have epl : (qs'.map plOf).map plD ++ (if needs qs' = true then [D.non] else []) = (plsOf qs').map plD := by
    unfold plsOf
    rw [List.map_append]
    split <;> rfl
  rw [epl] at ga
  show (tupM _) σT h9 = _
  rw [ap_tup, ap_cons, ap_op1, ap_var]
  show ((((optV (some (some (.ref ih))) h9).bnd _).bnd _)).bnd _ = _
  rw [optV_some, bnd_ok, g2, bnd_ok, ap_cons, ap_op1, ap_var]
  show ((((((optV (some (some (.ref iw))) h9).bnd _).bnd _)).bnd _)).bnd _ = _
  rw [optV_some, bnd_ok, g3, bnd_ok, ap_cons, ap_op1, ap_op2, ap_var]
  show (((((((((optV (some (some (.ref h7.length))) h9).bnd _).bnd _).bnd _)).bnd _)).bnd _)).bnd _ = _
  rw [optV_some, bnd_ok, ap_op2, ap_lst, ap_cons, ap_ret, bnd_ok, ap_nil, bnd_ok, bnd_ok, if_pos ⟨rfl, by unfold line; simp⟩, bnd_ok, ap_op1, ap_op2, ap_var]
  show ((((((((((optV (some (some (.ref h8.length))) h9).bnd _).bnd _).bnd _).bnd _).bnd _).bnd _).bnd _).bnd _).bnd _).bnd _ = _
  have tl0 : (lstM nilM) σT h9 = .ok (.tl []) h9 := by rw [ap_lst, ap_nil, bnd_ok, if_pos ⟨rfl, by unfold line; simp⟩]
  have iw2 : (if true = true then !(W.map fun q => D.ref q.id).isEmpty else (W.map fun q => D.ref q.id).isEmpty) = !W.isEmpty := by cases W <;> rfl
  have ge : gEqE true (.ref h8.length) (.tl []) h9 = .ok (.bl (!W.isEmpty)) h9 := by rw [gEqE_lst (lst_of ew9), iw2]
  simp only [optV_some, bnd_ok, tl0, ge]
  rw [gk, bnd_ok, gm, bnd_ok, ga, bnd_ok, gTuple_lst (ds := (plsOf qs').map plD) rfl, bnd_ok, ap_nil, bnd_ok, bnd_ok, bnd_ok, bnd_ok]
  rw [if_pos (show ([handsD hands, handsD weak, D.tup ((plsOf qs').map plD)].all D.st = true ∧ [handsD hands, handsD weak, D.tup ((plsOf qs').map plD)].length ≤ line) from ⟨rfl, by unfold line; simp⟩)]
  rfl
end HD
end
noncomputable section
set_option Elab.async false
set_option linter.all false
set_option maxRecDepth 100000
set_option maxHeartbeats 4000000
namespace HD
open PySem PySem.Spec L2 Dn
variable {h h1 : MH}
theorem pot_ok (cell : Int) (k : Nat) : ∃ a b : Int, 0 ≤ a ∧ F__law_pot [.int cell, .int (k : Int)] h = .ok (.ref h.length) (h ++ [potO a b ((0 : Nat) : Int)]) := by
  obtain ⟨ab, eab⟩ : ∃ z : Int, z = if cell < 0 then -cell else cell := ⟨_, rfl⟩
  have g1 : gAbs (.int cell) h = .ok (.int ab) h := by rw [eab]; rfl
  obtain ⟨t, et⟩ : ∃ z : Int, z = (10 : Int) ^ (18 : Int).toNat := ⟨_, rfl⟩
  have g2 : gPow (.int 10) (.int 18) h = .ok (.int t) h := by rw [et]; exact gPow_ii (by omega) (by omega) (by omega) (by omega)
  obtain ⟨m, em⟩ : ∃ z : Int, z = ab.fmod 2305843009213693907 := ⟨_, rfl⟩
  have g3 : gMod (.int ab) (.int 2305843009213693907) h = .ok (.int m) h := by rw [gMod_ii (by decide), em]
  have g4 : gMulB (.int 6007) (.int (k : Int)) h = .ok (.int (6007 * (k : Int))) h := gMul_l (by omega) (by omega)
  obtain ⟨a, ea⟩ : ∃ z : Int, z = if ab - t > 0 then ab - t else 0 := ⟨_, rfl⟩
  have g5 : gMax (.int 0) (.int (ab - t)) h = .ok (.int a) h := by rw [ea]; rfl
  refine ⟨a, m + 6007 * (k : Int) + (if decide (cell < 0) = true then 1 else 0), by rw [ea]; split <;> omega, ?_⟩
  refine fn_rt rfl (s_ret (d := .ref h.length) ?_ rfl)
  simp only [begin_, ap_own, ap_lst, ap_cons, ap_nil, ap_op1, ap_op2, ap_var, ap_ret, bnd_ok, List.map, List.cons_append, List.nil_append, List.append_nil, List.getElem?_cons_succ, List.getElem?_cons_zero, optV_some, g1, g2, g3, g4, g5, gSub_ii, gAdd_ii, gLt_int, gInt_bl]
  rw [if_pos ⟨rfl, by unfold line; simp⟩]
  rfl
theorem rol_of {n : Nat} {ds : List D} (e : h[n]? = some (.rol ds)) : lstOf h (.ref n) = some ds := by simp [lstOf, e]
theorem fmod_nat (k m : Nat) : ((k : Int)).fmod (m : Int) = ((k % m : Nat) : Int) := by
  rw [Int.fmod_eq_emod_of_nonneg _ (by omega)]
  rfl
theorem range1_nat {n : Nat} (hn : n < 1000000) : range1V [.int (n : Int)] h = .ok ⟨(List.range n).map fun i : Nat => .int (0 + (i : Int)), []⟩ h := by
  unfold range1V
  dsimp only
  rw [if_pos (by omega), Int.toNat_natCast]
theorem pow_any {i j : Int} (h0 : 0 ≤ j) (h1 : j ≤ 1000000) (hi : 0 < i) (hl : i < 2 ^ 64) : ∃ t : Int, t ≠ 0 ∧ ∀ g : MH, gPow (.int i) (.int j) g = .ok (.int t) g :=
  ⟨i ^ j.toNat, Int.ne_of_gt (Int.pow_pos hi), fun g => gPow_ii h0 h1 (Int.le_of_lt hi) hl⟩
theorem folded_ok (m : Nat) (m1 : 1 ≤ m) (m6 : m ≤ 6) (ns : List Int) (hl : ns.length ≤ 63) : ∃ cs : List Int, F__law_folded [.ref 0, .int (m : Int)] (mh0 ns) = .ok (.ref 1) (mh0 ns ++ [.lst (cs.map D.int)]) ∧ cs.length ≤ m := by
  have e0 : ∀ o : MO, (mh0 ns ++ [o])[0]? = some (.rol (ns.map D.int)) := fun o => rfl
  have gl : ∀ {h : MH}, h[0]? = some (.rol (ns.map D.int)) → gLen (.ref 0) h = .ok (.int ((ns.length : Nat) : Int)) h := fun e => by
    rw [gLen_lst (rol_of e), List.length_map]
  let mn : Nat := if ns.length > m then m else ns.length
  have mn5 : mn ≤ m := by show (if ns.length > m then m else ns.length) ≤ m; split <;> omega
  have gm : gMin (.int (ns.length : Int)) (.int (m : Int)) (mh0 ns) = .ok (.int (mn : Int)) (mh0 ns) := by
    show R.ok (D.int (if (m : Int) < (ns.length : Int) then (m : Int) else (ns.length : Int))) _ = .ok (.int ((if ns.length > m then m else ns.length : Nat) : Int)) _
    by_cases c : ns.length > m
    · rw [if_pos (by omega), if_pos c]
    · rw [if_neg (by omega), if_neg c]
  have rep : (List.replicate mn [D.int 0]).flatten = (List.replicate mn (0 : Int)).map D.int := by
    rw [List.map_replicate]
    induction mn with
    | zero => rfl
    | succ n ih => rw [List.replicate_succ, List.flatten_cons, ih, List.replicate_succ]; rfl
  have gmu : gMulB (.tl [.int 0]) (.int (mn : Int)) (mh0 ns) = .ok (.tl ((List.replicate mn (0 : Int)).map D.int)) (mh0 ns) := by
    have lw : lstW (mh0 ns) (.tl [.int 0]) = some [.int 0] := rfl
    unfold gMulB
    dsimp only
    unfold gMul
    dsimp only
    rw [lw]
    dsimp only
    rw [if_pos (by unfold line; simp; omega), Int.toNat_natCast, rep]
  let H (cs : List Int) : MH := mh0 ns ++ [.lst (cs.map D.int)]
  let σ (x : Option D) : Sg := [some (.ref 0), some (.int (m : Int)), some (.ref 1), x]
  let src : Src := ⟨(List.range ns.length).map fun i : Nat => .int (0 + (i : Int)), []⟩
  have st1 : (setS 2 (ownM (op2 gMulB (lstM (consM (retM (.int 0)) nilM)) (op2 gMin (op1 gLen (mVar 0)) (mVar 1))))) [some (.ref 0), some (.int (m : Int)), none, none] (mh0 ns) = .nx (σ none) (H (List.replicate mn 0)) := by
    refine s_set (d := .ref 1) ?_ rfl
    simp only [ap_own, ap_lst, ap_cons, ap_nil, ap_op1, ap_op2, ap_var, ap_ret, bnd_ok, List.getElem?_cons_succ, List.getElem?_cons_zero, optV_some]
    rw [if_pos ⟨rfl, by unfold line; simp⟩, bnd_ok, gl (h := mh0 ns) rfl, bnd_ok, gm, bnd_ok, gmu]
    rfl
  obtain ⟨σ2, h2, e2, x2, cs, rfl, rfl, lc⟩ := forL_inv (src := src) (p := .nm 3) (b := (setIxS (mVar 2) (op2 gMod (mVar 3) (mVar 1)) (op2 gAdd (op2 gMulB (op2 gMod (op2 gIx (mVar 2) (op2 gMod (mVar 3) (mVar 1))) (op2 gPow (retM (.int 10)) (retM (.int 64)))) (retM (.int 1000003))) (op2 gIx (mVar 0) (mVar 3)))))
    (fun _ s g => ∃ (x : Option D) (cs : List Int), s = σ x ∧ g = H cs ∧ cs.length = mn) src.items 0 (σ none) (H (List.replicate mn 0)) (fun _ _ _ _ _ _ => ok_nil) (fun j d s g _ ed hI => by
    obtain ⟨x, cs, rfl, rfl, lc⟩ := hI
    have jl : j < ns.length := by
      have := (List.getElem?_eq_some_iff.mp ed).1
      simp [src] at this
      omega
    have dj : d = .int (j : Int) := by
      simp [src, List.getElem?_map, List.getElem?_range, jl] at ed
      exact ed.symm
    subst dj
    have jm : j % m < mn := by
      show j % m < if ns.length > m then m else ns.length
      split
      · exact Nat.mod_lt _ (by omega)
      · rw [Nat.mod_eq_of_lt (by omega)]; exact jl
    have f5 : gMod (.int (j : Int)) (.int (m : Int)) (H cs) = .ok (.int ((j % m : Nat) : Int)) (H cs) := by
      rw [gMod_ii (by omega), fmod_nat j m]
    obtain ⟨z, ez⟩ : ∃ z, cs[j % m]? = some z := ⟨_, List.getElem?_eq_getElem (by omega)⟩
    obtain ⟨w, ew⟩ : ∃ w, ns[j]? = some w := ⟨_, List.getElem?_eq_getElem jl⟩
    have e1 : (H cs)[1]? = some (.lst (cs.map D.int)) := rfl
    have i1 : gIx (.ref 1) (.int ((j % m : Nat) : Int)) (H cs) = .ok (.int z) (H cs) := gIx_lst (lst_of e1) (Dn.atI_nat (by rw [List.getElem?_map, ez]; rfl))
    have i0 : gIx (.ref 0) (.int (j : Int)) (H cs) = .ok (.int w) (H cs) := gIx_lst (rol_of rfl) (Dn.atI_nat (by rw [List.getElem?_map, ew]; rfl))
    obtain ⟨t, t0, gp0⟩ := pow_any (i := 10) (j := 64) (by omega) (by omega) (by omega) (by omega)
    have gp := gp0 (H cs)
    have gmm := gMod_ii (h := H cs) (i := z) t0
    obtain ⟨u, eu⟩ : ∃ q : Int, q = z.fmod t := ⟨_, rfl⟩
    rw [← eu] at gmm
    obtain ⟨m3, gx⟩ : ∃ m3 : Int, gMulB (.int u) (.int 1000003) (H cs) = .ok (.int m3) (H cs) := ⟨_, gMul_r (by omega) (by omega)⟩
    obtain ⟨v, gv⟩ : ∃ v : Int, gAdd (.int m3) (.int w) (H cs) = .ok (.int v) (H cs) := ⟨_, rfl⟩
    have es : gSet (.ref 1) (.int ((j % m : Nat) : Int)) (.int (v)) (H cs) = some (H (cs.set (j % m) (v))) := by
      rw [gSet_lst e1 (by simp; omega)]
      show some (mh0 ns ++ [MO.lst ((cs.map D.int).set (j % m) (.int (v)))]) = _
      rw [← List.map_set]
    refine ⟨σ (some (.int (j : Int))), by simp [σ], _, _, .inl (s_setIx (h1 := H cs) (h2 := H cs) (h3 := H cs) (v := .int (v)) (o := .ref 1) (i := .int ((j % m : Nat) : Int)) ?_ rfl ?_ rfl es), _, _, rfl, rfl, by rw [List.length_set]; exact lc⟩
    · simp only [σ, ap_op2, ap_var, ap_ret, bnd_ok, List.getElem?_cons_succ, List.getElem?_cons_zero, optV_some, f5, i1, gp, gmm, gx, i0, gv]
    · simp only [σ, ap_op2, ap_var, ap_ret, bnd_ok, List.getElem?_cons_succ, List.getElem?_cons_zero, optV_some, f5]) ⟨none, _, rfl, rfl, List.length_replicate⟩
  refine ⟨cs, fn_rt rfl (s_seq st1 (s_seq (s_for (src := src) (h1 := H (List.replicate mn 0)) ?_ e2) (s_ret rfl rfl))), by omega⟩
  have g0 := gl (h := H (List.replicate mn 0)) rfl
  have er : range1V [.int ((ns.length : Nat) : Int)] (H (List.replicate mn 0)) = .ok src (H (List.replicate mn 0)) := range1_nat (by omega)
  rw [ap_src, ap_cons, ap_op1, ap_var]
  show ((((optV (some (some (.ref 0))) (H (List.replicate mn 0))).bnd _).bnd _)).bnd _ = _
  rw [optV_some, bnd_ok, g0, bnd_ok, ap_nil, bnd_ok, bnd_ok]
  exact er
theorem abc_sign : ∀ c ∈ abc, signB c = true := by decide
theorem sm_name {x : Nm} (hx : isNm x = true) : smB (.str x) = true := by
  have hl := nm_len hx
  unfold isNm at hx
  simp only [Bool.and_eq_true, List.all_eq_true, decide_eq_true_eq] at hx
  simp only [smB, Bool.and_eq_true, decide_eq_true_eq, List.all_eq_true]
  exact ⟨hl.1, fun c hc => abc_sign c (hx.2 c hc)⟩
theorem sm_row {α : Type} (f : α → D) (n : Nat) : ∀ L : List α, (∀ x ∈ L, smB (f x) = true ∧ wD (f x) ≤ n) → smL (L.map f) = true ∧ wL (L.map f) ≤ (n + 2) * L.length
  | [], _ => ⟨rfl, Nat.le_refl _⟩
  | x :: L, hl => by
    obtain ⟨a, b⟩ := sm_row f n L fun y hy => hl y (List.mem_cons_of_mem _ hy)
    obtain ⟨c, d⟩ := hl x List.mem_cons_self
    refine ⟨by simp only [List.map_cons, smL, a, c, Bool.and_self], ?_⟩
    simp only [List.map_cons, wL, List.length_cons]
    rw [Nat.mul_succ]
    omega
theorem dep_row {α : Type} (f : α → D) (n : Nat) : ∀ L : List α, (∀ x ∈ L, (f x).py.depth ≤ n) → PyData.depthAll (pyL (L.map f)) ≤ n
  | [], _ => by simp [pyL, PyData.depthAll]
  | x :: L, hl => by
    have a := dep_row f n L fun y hy => hl y (List.mem_cons_of_mem _ hy)
    have c := hl x List.mem_cons_self
    simp only [List.map_cons, pyL, PyData.depthAll]
    omega
theorem nm_nodup {L : List Nm} (up : L.Pairwise (· < ·)) : L.Nodup := up.imp fun a e => by
  subst e
  exact List.lt_irrefl _ a
theorem dep_str (x : Nm) : (D.str x).py.depth = 0 := by simp [D.py, PyData.depth]
theorem dep_int (x : Int) : (D.int x).py.depth = 0 := by simp [D.py, PyData.depth]
theorem dep_tup (ds : List D) : (D.tup ds).py.depth = PyData.depthAll (pyL ds) + 1 := by simp [D.py, PyData.depth]
theorem board_sm {hands weak : List Nm} {pls : List Pl} (G : Good hands weak pls) : smL [handsD hands, handsD weak, .tup (pls.map plD)] = true ∧ wL [handsD hands, handsD weak, .tup (pls.map plD)] ≤ 100000 ∧ (boardD hands weak pls).py.depth ≤ 10 := by
  have nmw : ∀ x : Nm, wD (.str x) = 10 := fun x => by simp [wD]
  have inw : ∀ x : Int, wD (.int x) = 10 := fun x => by simp [wD]
  have h6 := G.h6
  have w6 : weak.length ≤ 6 := Nat.le_trans (List.Nodup.length_le_of_subset (nm_nodup G.wu) G.wn) G.h6
  have p40 := G.p40
  obtain ⟨a1, b1⟩ := sm_row D.str 10 hands fun x hx => ⟨sm_name (G.hn x hx), by rw [nmw]; omega⟩
  obtain ⟨a2, b2⟩ := sm_row D.str 10 weak fun x hx => ⟨sm_name (G.hn x (G.wn x hx)), by rw [nmw]; omega⟩
  have c1 := dep_row D.str 0 hands fun x _ => by rw [dep_str]; omega
  have c2 := dep_row D.str 0 weak fun x _ => by rw [dep_str]; omega
  have br : ∀ s bs, some (s, bs) ∈ pls → ∀ b ∈ bs, smB b.d = true ∧ wD b.d ≤ 39 ∧ b.d.py.depth ≤ 1 := fun s bs hm b hb => by
    obtain ⟨u1, u2, u3⟩ := (G.say s bs hm).br b hb
    have w1 : smB (.str b.w) = true := by
      rcases u2 with u | u
      · exact sm_name u
      · rw [u]; decide
    refine ⟨?_, ?_, ?_⟩
    · simp only [Br.d, smB, smL, Bool.and_eq_true]
      have s1 := sm_name (G.hn _ u1)
      simp only [smB] at s1 w1
      refine ⟨by simpa using s1, by simpa using w1, ?_, trivial⟩
      simp
      omega
    · simp only [Br.d, wD, wL]
      omega
    · simp [Br.d, D.py, pyL, PyData.depth, PyData.depthAll]
  have pl : ∀ q ∈ pls, smB (plD q) = true ∧ wD (plD q) ≤ 400 ∧ (plD q).py.depth ≤ 3 := fun q hq => by
    cases q with
    | none => exact ⟨rfl, by simp [plD, wD], by simp [plD, D.py, PyData.depth]⟩
    | some z =>
      obtain ⟨s, bs⟩ := z
      have S := G.say s bs hq
      have l8 := S.l8
      obtain ⟨a3, b3⟩ := sm_row Br.d 39 bs fun b hb => ⟨(br s bs hq b hb).1, (br s bs hq b hb).2.1⟩
      have c3 := dep_row Br.d 1 bs fun b hb => (br s bs hq b hb).2.2
      refine ⟨?_, ?_, ?_⟩
      · have s1 := sm_name (G.hn _ S.sh)
        simp only [plD, smB, smL, a3, Bool.and_true, Bool.and_self]
        simpa [smB] using s1
      · simp only [plD, wD, wL]
        omega
      · show (D.tup [.str s, .tup (bs.map Br.d)]).py.depth ≤ 3
        rw [dep_tup]
        simp only [pyL, PyData.depthAll, dep_str, dep_tup]
        omega
  obtain ⟨a4, b4⟩ := sm_row plD 400 pls fun q hq => ⟨(pl q hq).1, (pl q hq).2.1⟩
  have c4 := dep_row plD 3 pls fun q hq => (pl q hq).2.2
  refine ⟨?_, ?_, ?_⟩
  · simp only [handsD, smL, smB]
    rw [show smL (hands.map D.str) = true from a1, show smL (weak.map D.str) = true from a2, a4]
    rfl
  · simp only [handsD, wL, wD]
    omega
  · unfold boardD
    rw [dep_tup]
    simp only [handsD, pyL, PyData.depthAll, dep_tup]
    omega
theorem repr_board {hands weak : List Nm} {pls : List Pl} (G : Good hands weak pls) : ∃ t : List Nat, ∀ h : MH, gRepr (boardD hands weak pls) h = .ok (.str t) h := by
  obtain ⟨a, b, c⟩ := board_sm G
  exact ⟨_, fun h => repr_sm (ds := [handsD hands, handsD weak, .tup (pls.map plD)]) a (by omega) (by have : (D.tup [handsD hands, handsD weak, .tup (pls.map plD)]).py.depth ≤ 10 := c; omega)⟩
end HD
end
noncomputable section
set_option Elab.async false
set_option linter.all false
set_option maxRecDepth 100000
set_option maxHeartbeats 4000000
namespace Dn
open PySem PySem.Spec L2
mutual
def smP : PyData → Bool
  | .none => true
  | .bool _ => true
  | .int i => decide (0 ≤ i) && decide (i < 64)
  | .str x => decide (x.cps.toList.length ≤ 8) && x.cps.toList.all signB
  | .tuple ds => smPL ds
  | .list ds => smPL ds
  | .dict _ => false
def smPL : List PyData → Bool
  | [] => true
  | d :: ds => smP d && smPL ds
end
mutual
def wP : PyData → Nat
  | .tuple ds => 3 + wPL ds
  | .list ds => 3 + wPL ds
  | _ => 10
def wPL : List PyData → Nat
  | [] => 0
  | d :: ds => wP d + 2 + wPL ds
end
theorem okS_app (x y : Str) : okS (x ++ y).cps.toList = (okS x.cps.toList && okS y.cps.toList) := by
  rw [← okS_append]
  congr 1
  exact TL.tl_append x y
theorem len_text : ∀ (ts : List Str) (k : Nat) (acc : Str), (PySem.textFrom k acc ts).length ≤ acc.length + PySem.piled ts
  | [], k, acc => by
    show acc.length ≤ _
    omega
  | t :: r, k, acc => by
    have z := len_text r (k + 1) (acc ++ (if k > 0 then ", " else "" : String) ++ t)
    have e : PySem.textFrom k acc (t :: r) = PySem.textFrom (k + 1) (acc ++ (if k > 0 then ", " else "" : String) ++ t) r := rfl
    rw [e]
    rw [strLen_append, strLen_append] at z
    rw [PySem.piled_cons]
    have : (((if k > 0 then ", " else "" : String) : Str)).length ≤ 2 := by split <;> decide
    omega
theorem okS_text : ∀ (ts : List Str) (k : Nat) (acc : Str), okS acc.cps.toList = true → (∀ t ∈ ts, okS t.cps.toList = true) → okS (PySem.textFrom k acc ts).cps.toList = true
  | [], k, acc, ha, _ => ha
  | t :: r, k, acc, ha, ht => by
    have e : PySem.textFrom k acc (t :: r) = PySem.textFrom (k + 1) (acc ++ (if k > 0 then ", " else "" : String) ++ t) r := rfl
    rw [e]
    refine okS_text r _ _ ?_ fun x hx => ht x (List.mem_cons_of_mem _ hx)
    rw [okS_app, okS_app, ht t List.mem_cons_self, ha, Bool.true_and, Bool.and_true]
    split <;> decide
theorem okS_list {ts : List Str} (ht : ∀ t ∈ ts, okS t.cps.toList = true) : okS (PySem.listText ts).cps.toList = true := by
  unfold PySem.listText
  rw [okS_app, okS_text ts 0 _ (by decide) ht]
  decide
theorem len_list (ts : List Str) : (PySem.listText ts).length ≤ 3 + PySem.piled ts := by
  unfold PySem.listText
  rw [strLen_append]
  have := len_text ts 0 "["
  have e1 : (("[" : String) : Str).length = 1 := rfl
  have e2 : (("]" : String) : Str).length = 1 := rfl
  omega
mutual
theorem smP_shown : ∀ d : PyData, smP d = true → d.showable = true ∧ d.shown.length ≤ wP d ∧ okS d.shown.cps.toList = true
  | .none, _ => ⟨by simp [PyData.showable], by simp only [wP]; decide, by decide⟩
  | .bool b, _ => by cases b <;> exact ⟨by simp [PyData.showable], by simp only [wP]; decide, by decide⟩
  | .int i, e => by
    have e' : 0 ≤ i ∧ i < 64 := by
      simp only [smP, Bool.and_eq_true, decide_eq_true_eq] at e
      exact e
    obtain ⟨a, b, c⟩ := shown_int i e'.1 e'.2
    exact ⟨c, by simpa only [wP] using a, b⟩
  | .str x, e => by
    have ex : x = mx x.cps.toList := by simp [mx]
    have e' : x.cps.toList.length ≤ 8 ∧ x.cps.toList.all signB = true := by simpa only [smP, Bool.and_eq_true, decide_eq_true_eq] using e
    obtain ⟨l, hl⟩ : ∃ l, l = x.cps.toList := ⟨_, rfl⟩
    rw [← hl] at ex e'
    subst ex
    have z := shown_str e'.2
    refine ⟨by simp [PyData.showable], ?_, ?_⟩
    · simp only [wP]
      rw [slen, z]
      simp
      omega
    · rw [z]
      unfold okS
      simp only [List.all_cons, List.all_append, List.all_nil, Bool.and_true, Bool.and_eq_true, List.all_eq_true, decide_eq_true_eq]
      exact ⟨by decide, fun c hc => (sign_repr c (List.all_eq_true.mp e'.2 c hc)).2, by decide⟩
  | .tuple ds, e => by
    have e' : smPL ds = true := by simpa only [smP] using e
    obtain ⟨b, c, d⟩ := smP_all ds e'
    refine ⟨by simpa only [PyData.showable] using b, ?_, ?_⟩
    · simp only [PyData.shown, wP]
      exact Nat.le_trans (len_tup _) (by omega)
    · simp only [PyData.shown]
      exact okS_tup d
  | .list ds, e => by
    have e' : smPL ds = true := by simpa only [smP] using e
    obtain ⟨b, c, d⟩ := smP_all ds e'
    refine ⟨by simpa only [PyData.showable] using b, ?_, ?_⟩
    · simp only [PyData.shown, wP]
      exact Nat.le_trans (len_list _) (by omega)
    · simp only [PyData.shown]
      exact okS_list d
  | .dict _, e => by simp [smP] at e
theorem smP_all : ∀ ds : List PyData, smPL ds = true → PyData.showableAll ds = true ∧ PySem.piled (PyData.shownAll ds) ≤ wPL ds ∧ ∀ t ∈ PyData.shownAll ds, okS t.cps.toList = true
  | [], _ => ⟨by simp [PyData.showableAll], by simp [PyData.shownAll, PySem.piled], by simp [PyData.shownAll]⟩
  | d :: ds, e => by
    have e' : smP d = true ∧ smPL ds = true := by simpa only [smPL, Bool.and_eq_true] using e
    obtain ⟨a2, a3, a4⟩ := smP_shown d e'.1
    obtain ⟨b2, b3, b4⟩ := smP_all ds e'.2
    refine ⟨by simp only [PyData.showableAll, a2, b2, Bool.and_self], ?_, ?_⟩
    · simp only [PyData.shownAll, wPL]
      rw [PySem.piled_cons]
      omega
    · intro t ht
      simp only [PyData.shownAll] at ht
      rcases List.mem_cons.mp ht with rfl | ht
      · exact a4
      · exact b4 t ht
end
theorem reprOk_sm {p : PyData} (e : smP p = true) (hw : wP p ≤ 1000000) (hd : p.depth ≤ 60) : reprOk p = true := by
  obtain ⟨b, c, d⟩ := smP_shown p e
  unfold reprOk
  simp only [Bool.and_eq_true, decide_eq_true_eq]
  exact ⟨⟨⟨b, hd⟩, by unfold line; omega⟩, d⟩
theorem reprL_of {h : MH} {d : D} {p : PyData} (e : deepOf 8 h d = some p) (hr : gReprL.isRow d = true) (s : smP p = true) (hw : wP p ≤ 1000000) (hd : p.depth ≤ 60) : gReprL d h = .ok (.str (shownD p)) h := by
  unfold gReprL
  rw [e]
  dsimp only
  rw [if_pos ⟨hr, reprOk_sm s hw hd⟩]
theorem deep_pure {n : Nat} {h : MH} {d : D} (e : d.pure = true) : deepOf (n + 1) h d = some d.py := by
  unfold deepOf
  rw [if_pos e]
theorem allO_pure {n : Nat} {h : MH} : ∀ {ds : List D}, pureL ds = true → allO (deepOf (n + 1) h) ds = some (pyL ds)
  | [], _ => rfl
  | d :: ds, e => by
    have e' : d.pure = true ∧ pureL ds = true := by simpa only [pureL, Bool.and_eq_true] using e
    unfold allO
    rw [deep_pure e'.1, allO_pure e'.2]
    rfl
theorem deep_tl {n : Nat} {h : MH} {ds : List D} (e : pureL ds = true) : deepOf (n + 2) h (.tl ds) = some (.list (pyL ds)) := by
  unfold deepOf
  rw [if_neg (by simp [D.pure])]
  dsimp only
  show (allO (deepOf (n + 1) h) ds).map PyData.list = _
  rw [allO_pure e]
  rfl
end Dn
end
noncomputable section
set_option Elab.async false
set_option linter.all false
set_option maxRecDepth 100000
set_option maxHeartbeats 4000000
namespace HD
open PySem PySem.Spec L2 Dn
variable {h h1 : MH}
inductive It where
  | say (a b c : Nm)
  | noW (a b : Nm)
  | two (a b : Nm)
  | four (a b c : Nm)
  | lst (n : Nat)
  | non
def It.d : It → D
  | .say a b c => .tup [.str a, .str b, .str c]
  | .noW a b => .tup [.str a, .str b, .non]
  | .two a b => .tup [.str a, .str b]
  | .four a b c => .tup [.str a, .str b, .str c, .int 0]
  | .lst n => .ref n
  | .non => .non
theorem It.st (i : It) : i.d.st = true := by cases i <;> rfl
def isSay : It → Bool
  | .say _ _ _ => true
  | _ => false
def ItOk (h : MH) : It → Prop
  | .lst n => ∃ ds, h[n]? = some (.lst ds)
  | _ => True
theorem ItOk.grow {i : It} {g : MH} (o : ItOk h i) : ItOk (h ++ g) i := by
  cases i with
  | lst n => obtain ⟨ds, e⟩ := o; exact ⟨ds, get_grow e⟩
  | _ => trivial
theorem isi_lst {n : Nat} {ds : List D} (e : h[n]? = some (.lst ds)) (T : Kd) : gIsi T (.ref n) h = .ok (.bl (Kd.isA .lst T)) h := by
  unfold gIsi kdOf
  dsimp only
  rw [e]
def isStrD : D → Bool
  | .str _ => true
  | _ => false
def partD : D → Bool
  | .str _ => true
  | .non => true
  | .int _ => true
  | _ => false
theorem step_tup (ds : List D) (hp : ∀ d ∈ ds, partD d = true) (hl : ds.length ≤ 100) : F_is_step [.tup ds] h = .ok (.bl (decide (ds.length = 3) && ds.all isStrD)) h := by
  have key := all_lc (h := h) (src := ⟨ds, []⟩) (p := .nm 1) (e := op1 (gIsi .str) (mVar 1)) (σ0 := [some (.tup ds), none]) (items := ds) isStrD ok_nil (by unfold line; omega) (fun d hd => by
    refine ⟨[some (.tup ds), some d], ?_, ?_⟩
    · have := hp d hd
      cases d <;> first | rfl | cases this
    · have := hp d hd
      cases d <;> first | rfl | cases this)
  refine fn_rt rfl (s_ret (d := .bl _) ?_ rfl)
  by_cases c : ds.length = 3
  · simp [begin_, gEq_int, c, wipeD] at key ⊢
    exact key
  · have c' : ¬ ((ds.length : Int) = 3) := by omega
    simp [begin_, gEq_int, c, c']
theorem is_step_ok (i : It) (o : ItOk h i) : F_is_step [i.d] h = .ok (.bl (isSay i)) h := by
  cases i with
  | say a b c => exact step_tup _ (by simp [partD]) (by simp)
  | noW a b => exact step_tup _ (by simp [partD]) (by simp)
  | two a b => exact step_tup _ (by simp [partD]) (by simp)
  | four a b c => exact step_tup _ (by simp [partD]) (by simp)
  | lst n =>
    obtain ⟨ds, e⟩ := o
    refine fn_rt rfl (s_ret (d := .bl false) ?_ rfl)
    simp [begin_, It.d, isi_lst e, Kd.isA]
  | non =>
    refine fn_rt rfl (s_ret (d := .bl false) ?_ rfl)
    simp [begin_, It.d, Kd.isA]
def thenOf (bs : List Br) (b c : Nm) : Option Nat := (bs.find? fun x => decide (b = x.hr) && decide (c = x.w)).map Br.th
def stepI (pls : List Pl) (here : Nat) : It → Option Nat
  | .say a b c => match pls[here]? with
    | some (some (s, bs)) => if a = s then thenOf bs b c else none
    | _ => none
  | _ => none
def placeI (pls : List Pl) : Nat → List It → Option Nat
  | here, [] => some here
  | here, i :: r => match stepI pls here i with
    | some t => placeI pls t r
    | none => none
def optN : Option Nat → D
  | none => .non
  | some k => .int (k : Int)
theorem optN_st (o : Option Nat) : (optN o).st = true := by cases o <;> rfl
theorem eq_strs (neg : Bool) (xs ys : List Nm) : gEq neg (.tup (xs.map D.str)) (.tup (ys.map D.str)) h = .ok (.bl (if neg then !decide (xs = ys) else decide (xs = ys))) h := by
  have dp : ∀ L : List Nm, PyData.depthAll (pyL (L.map D.str)) = 0 := fun L => by
    induction L with
    | nil => simp [pyL, PyData.depthAll]
    | cons x L ih => simp [pyL, PyData.depthAll, D.py, PyData.depth, ih]
  have pr : ∀ L : List Nm, pureL (L.map D.str) = true := fun L => by
    induction L with
    | nil => rfl
    | cons x L ih => rw [List.map_cons, pureL, ih]; rfl
  have ev : ∀ xs ys : List Nm, PyData.eqvAll (pyL (xs.map D.str)) (pyL (ys.map D.str)) = decide (xs = ys) := fun xs => by
    induction xs with
    | nil => intro ys; cases ys <;> simp [pyL, PyData.eqvAll]
    | cons x xs ih =>
      intro ys
      cases ys with
      | nil => simp [pyL, PyData.eqvAll]
      | cons y ys =>
        simp only [List.map_cons, pyL, PyData.eqvAll, eqv_str, ih]
        by_cases c1 : x = y <;> by_cases c2 : xs = ys <;> simp [c1, c2]
  rw [gEq_pure (by simpa only [D.pure] using pr xs) (by simpa only [D.pure] using pr ys) (by simp only [D.py, PyData.depth, dp]; omega)]
  simp only [D.py, PyData.eqv, ev]
def thenB : MS := ifS (asB (op2 (gEq false) (mVar 2) (tupM (consM (mVar 3) (consM (mVar 5) (consM (mVar 6) nilM)))))) (retS (mVar 7)) skipS
theorem then_loop (x0 x1 BD : D) (a b c s : Nm) (its : List D) : ∀ (bs : List Br) (x5 x6 x7 : Option D),
    (∃ t, (if a = s then thenOf bs b c else none) = some t ∧ forL ⟨its, []⟩ (.tu [(.nm 5), (.nm 6), (.nm 7)]) thenB (bs.map Br.d) [some x0, some x1, some (.tup [.str a, .str b, .str c]), some (.str s), some BD, x5, x6, x7] h = .rt (.int (t : Int)) h) ∨
    ((if a = s then thenOf bs b c else none) = none ∧ ∃ y5 y6 y7 : Option D, forL ⟨its, []⟩ (.tu [(.nm 5), (.nm 6), (.nm 7)]) thenB (bs.map Br.d) [some x0, some x1, some (.tup [.str a, .str b, .str c]), some (.str s), some BD, x5, x6, x7] h = .nx [some x0, some x1, some (.tup [.str a, .str b, .str c]), some (.str s), some BD, y5, y6, y7] h)
  | [], x5, x6, x7 => .inr ⟨by unfold thenOf; split <;> rfl, x5, x6, x7, forL_nil ok_nil⟩
  | q :: bs, x5, x6, x7 => by
    let σ1 : Sg := [some x0, some x1, some (.tup [.str a, .str b, .str c]), some (.str s), some BD, some (.str q.hr), some (.str q.w), some (.int (q.th : Int))]
    have ep : Pat.put (.tu [(.nm 5), (.nm 6), (.nm 7)]) q.d [some x0, some x1, some (.tup [.str a, .str b, .str c]), some (.str s), some BD, x5, x6, x7] = some σ1 := by simp [Br.d, σ1]
    have ge : gEq false (.tup [.str a, .str b, .str c]) (.tup [.str s, .str q.hr, .str q.w]) h = .ok (.bl (decide ([a, b, c] = [s, q.hr, q.w]))) h := eq_strs false [a, b, c] [s, q.hr, q.w]
    have et : (asB (op2 (gEq false) (mVar 2) (tupM (consM (mVar 3) (consM (mVar 5) (consM (mVar 6) nilM)))))) σ1 h = .ok (decide ([a, b, c] = [s, q.hr, q.w])) h := by
      simp only [σ1, ap_asB, ap_op2, ap_var, ap_tup, ap_cons, ap_nil, bnd_ok, List.getElem?_cons_succ, List.getElem?_cons_zero, optV_some]
      rw [if_pos ⟨rfl, by unfold line; simp⟩, bnd_ok, ge]
      rfl
    rw [List.map_cons]
    by_cases cc : [a, b, c] = [s, q.hr, q.w]
    · left
      simp at cc
      obtain ⟨rfl, rfl, rfl⟩ := cc
      refine ⟨q.th, by unfold thenOf; simp, forL_rt ok_nil ep (s_ift (by rw [et]; simp) (s_ret rfl rfl))⟩
    · have e1 : (if a = s then thenOf (q :: bs) b c else none) = if a = s then thenOf bs b c else none := by
        by_cases ca : a = s
        · rw [if_pos ca, if_pos ca]
          unfold thenOf
          rw [List.find?_cons_of_neg]
          simp at cc
          simp
          exact cc ca
        · rw [if_neg ca, if_neg ca]
      have eb : thenB σ1 h = .nx σ1 h := s_iff (h1 := h) (by rw [et]; simp [cc]) rfl
      have key := forL_nx (src := ⟨its, []⟩) (b := thenB) (ds := bs.map Br.d) ok_nil ep eb
      rw [e1, key]
      exact then_loop x0 x1 BD a b c s its bs _ _ _
theorem then_by_ok {pls : List Pl} {here : Nat} (hh : here < pls.length) (i : It) (o : ItOk h i) : F_then_by [.tup (pls.map plD), .int (here : Int), i.d] h = .ok (optN (stepI pls here i)) h := by
  obtain ⟨pl, epl⟩ : ∃ pl, pls[here]? = some pl := ⟨_, List.getElem?_eq_getElem hh⟩
  have ix : gIx (.tup (pls.map plD)) (.int (here : Int)) h = .ok (plD pl) h := gIx_tup (Dn.atI_nat (by rw [List.getElem?_map, epl]; rfl))
  let σ0 : Sg := [some (.tup (pls.map plD)), some (.int (here : Int)), some i.d, none, none, none, none, none]
  have e1 : (op2 (gIs false) (op2 gIx (mVar 0) (mVar 1)) (retM .non)) σ0 h = .ok (.bl pl.isNone) h := by
    simp only [σ0, ap_op2, ap_var, ap_ret, bnd_ok, List.getElem?_cons_succ, List.getElem?_cons_zero, optV_some, ix]
    cases pl <;> rfl
  have e2 : (fcallM F_is_step [] (consM (mVar 2) nilM)) σ0 h = .ok (.bl (isSay i)) h := by
    simp only [σ0, ap_call, ap_cons, ap_nil, ap_var, bnd_ok, List.getElem?_cons_succ, List.getElem?_cons_zero, optV_some]
    rw [if_pos (by simp [i.st])]
    exact is_step_ok i o
  have ec : (orB (asB (op2 (gIs false) (op2 gIx (mVar 0) (mVar 1)) (retM .non))) (notB (asB (fcallM F_is_step [] (consM (mVar 2) nilM))))) σ0 h = .ok (pl.isNone || !isSay i) h := by
    rw [ap_orB, ap_asB, e1, bnd_ok, toB_bl, bnd_ok, ap_notB, ap_asB, e2]
    cases pl <;> rfl
  by_cases cc : (pl.isNone || !isSay i) = true
  · refine fn_rt rfl (s_seq_rt (s_ift (h1 := h) (by rw [← cc]; exact ec) ?_))
    have : stepI pls here i = none := by
      unfold stepI
      cases i with
      | say a b c =>
        rw [epl]
        cases pl with
        | none => rfl
        | some z => simp [isSay] at cc
      | _ => rfl
    rw [this]
    exact s_ret rfl rfl
  · cases pl with
    | none => simp at cc
    | some z =>
      obtain ⟨s, bs⟩ := z
      cases i with
      | say a b c =>
        have es : stepI pls here (.say a b c) = if a = s then thenOf bs b c else none := by
          show (match pls[here]? with
            | some (some (s, bs)) => if a = s then thenOf bs b c else none
            | _ => none) = _
          rw [epl]
        rw [es]
        have hc0 : (orB (asB (op2 (gIs false) (op2 gIx (mVar 0) (mVar 1)) (retM .non))) (notB (asB (fcallM F_is_step [] (consM (mVar 2) nilM))))) σ0 h = .ok false h := by
          rw [ec]
          simp [isSay]
        let σ2 : Sg := [some (.tup (pls.map plD)), some (.int (here : Int)), some (It.say a b c).d, some (.str s), some (.tup (bs.map Br.d)), none, none, none]
        have st : (asgS (.tu [(.nm 3), (.nm 4)]) (op2 gIx (mVar 0) (mVar 1))) σ0 h = .nx σ2 h := by
          refine s_asg (d := plD (some (s, bs))) ?_ ?_
          · simp only [σ0, ap_op2, ap_var, bnd_ok, List.getElem?_cons_succ, List.getElem?_cons_zero, optV_some, ix]
          · simp [plD, σ0, σ2]
        have sr : (op1 srcV (mVar 4)) σ2 h = .ok ⟨bs.map Br.d, []⟩ h := rfl
        rcases then_loop (h := h) (.tup (pls.map plD)) (.int (here : Int)) (.tup (bs.map Br.d)) a b c s (bs.map Br.d) bs none none none with ⟨t, et, el⟩ | ⟨et, x5, x6, x7, el⟩
        · rw [et]
          exact fn_rt rfl (s_seq (h1 := h) (σ1 := σ0) (s_iff (h1 := h) hc0 rfl) (s_seq (h1 := h) (σ1 := σ2) st (s_seq_rt (s_for (b := thenB) (h1 := h) sr el))))
        · rw [et]
          exact fn_rt rfl (s_seq (h1 := h) (σ1 := σ0) (s_iff (h1 := h) hc0 rfl) (s_seq (h1 := h) (σ1 := σ2) st (s_seq (h1 := h) (s_for (b := thenB) (h1 := h) sr el) (s_ret rfl rfl))))
      | _ => simp [isSay] at cc
def thOk (pls : List Pl) : Prop := ∀ s bs, some (s, bs) ∈ pls → ∀ b ∈ bs, b.th < pls.length
theorem step_lt {pls : List Pl} (ht : thOk pls) {here t : Nat} {i : It} (e : stepI pls here i = some t) : t < pls.length := by
  unfold stepI at e
  cases i with
  | say a b c =>
    dsimp only at e
    split at e
    · rename_i s bs e1
      split at e
      · unfold thenOf at e
        obtain ⟨q, eq, rfl⟩ := Option.map_eq_some_iff.mp e
        exact ht s bs (List.mem_of_getElem? e1) q (List.mem_of_find?_eq_some eq)
      · cases e
    · cases e
  | _ => cases e
def placeB : MS := seqS (setS 2 (fcallM F_then_by [] (consM (op2 gIx (mVar 0) (retM (.int 2))) (consM (mVar 2) (consM (mVar 3) nilM))))) (ifS (asB (op2 (gIs false) (mVar 2) (retM .non))) (retS (retM .non)) skipS)
theorem place_loop {hands weak : List Nm} {pls : List Pl} (ht : thOk pls) (R : D) (its : List D) : ∀ (is : List It) (here : Nat) (x3 : Option D), here < pls.length → (∀ i ∈ is, ItOk h i) →
    (∃ t, placeI pls here is = some t ∧ ∃ y3 : Option D, forL ⟨its, []⟩ (.nm 3) placeB (is.map It.d) [some (boardD hands weak pls), some R, some (.int (here : Int)), x3] h = .nx [some (boardD hands weak pls), some R, some (.int (t : Int)), y3] h) ∨
    (placeI pls here is = none ∧ forL ⟨its, []⟩ (.nm 3) placeB (is.map It.d) [some (boardD hands weak pls), some R, some (.int (here : Int)), x3] h = .rt .non h)
  | [], here, x3, _, _ => .inl ⟨here, rfl, x3, forL_nil ok_nil⟩
  | i :: is, here, x3, hh, ho => by
    have ep : Pat.put (.nm 3) i.d [some (boardD hands weak pls), some R, some (.int (here : Int)), x3] = some [some (boardD hands weak pls), some R, some (.int (here : Int)), some i.d] := by rw [put_nm, if_pos i.st]; rfl
    have ef : (fcallM F_then_by [] (consM (op2 gIx (mVar 0) (retM (.int 2))) (consM (mVar 2) (consM (mVar 3) nilM)))) [some (boardD hands weak pls), some R, some (.int (here : Int)), some i.d] h = .ok (optN (stepI pls here i)) h := by
      have i2 : gIx (boardD hands weak pls) (.int 2) h = .ok (.tup (pls.map plD)) h := rfl
      simp only [ap_call, ap_cons, ap_nil, ap_op2, ap_var, ap_ret, bnd_ok, List.getElem?_cons_succ, List.getElem?_cons_zero, optV_some, i2]
      rw [if_pos (by simp [i.st])]
      exact then_by_ok hh i (ho i List.mem_cons_self)
    have e2 : (setS 2 (fcallM F_then_by [] (consM (op2 gIx (mVar 0) (retM (.int 2))) (consM (mVar 2) (consM (mVar 3) nilM))))) [some (boardD hands weak pls), some R, some (.int (here : Int)), some i.d] h = .nx [some (boardD hands weak pls), some R, some (optN (stepI pls here i)), some i.d] h := s_set ef (optN_st _)
    rw [List.map_cons]
    cases es : stepI pls here i with
    | none =>
      rw [es] at e2
      refine .inr ⟨?_, forL_rt ok_nil ep (s_seq e2 (s_ift (h1 := h) rfl (s_ret rfl rfl)))⟩
      show (match stepI pls here i with
        | some t => placeI pls t is
        | none => none) = none
      rw [es]
    | some t =>
      rw [es] at e2
      have ez : placeI pls here (i :: is) = placeI pls t is := by
        show (match stepI pls here i with
          | some t => placeI pls t is
          | none => none) = _
        rw [es]
      have eb : placeB [some (boardD hands weak pls), some R, some (.int (here : Int)), some i.d] h = .nx [some (boardD hands weak pls), some R, some (.int (t : Int)), some i.d] h := s_seq e2 (s_iff (h1 := h) rfl rfl)
      have key := forL_nx (src := ⟨its, []⟩) (b := placeB) (ds := is.map It.d) ok_nil ep eb
      rw [ez, key]
      exact place_loop ht R its is t _ (step_lt ht es) fun j hj => ho j (List.mem_cons_of_mem _ hj)
theorem place_by_ok {hands weak : List Nm} {pls : List Pl} (ht : thOk pls) (p1 : 0 < pls.length) (is : List It) (ho : ∀ i ∈ is, ItOk h i) : F_place_by [boardD hands weak pls, .tup (is.map It.d)] h = .ok (optN (placeI pls 0 is)) h := by
  rcases place_loop (h := h) (hands := hands) (weak := weak) ht (.tup (is.map It.d)) (is.map It.d) is 0 none p1 ho with ⟨t, e, x3, el⟩ | ⟨e, el⟩
  · rw [e]
    exact fn_rt rfl (s_seq (h1 := h) (s_set rfl rfl) (s_seq (s_for (src := ⟨is.map It.d, []⟩) (b := placeB) (h1 := h) rfl el) (s_ret rfl rfl)))
  · rw [e]
    exact fn_rt rfl (s_seq (h1 := h) (s_set rfl rfl) (s_seq_rt (s_for (src := ⟨is.map It.d, []⟩) (b := placeB) (h1 := h) rfl el)))
end HD
end
noncomputable section
set_option Elab.async false
set_option linter.all false
set_option maxRecDepth 100000
set_option maxHeartbeats 4000000
namespace HD
open PySem PySem.Spec L2 Dn
variable {h h1 : MH}
def lawCond : M Bool := orB (asB (op2 (gIs false) (op2 gIx (mVar 0) (mVar 2)) (retM .non))) (orB (notB (asB (op1 (gIsi .tup) (mVar 3)))) (orB (asB (op2 (gEq true) (op1 gLen (mVar 3)) (retM (.int 3)))) (asB (op2 (gEq true) (op2 gIx (mVar 3) (retM (.int 0))) (op2 gIx (op2 gIx (mVar 0) (mVar 2)) (retM (.int 0)))))))
def lawThens : M D := lcM (op1 srcV (op2 gIx (op2 gIx (mVar 0) (mVar 2)) (retM (.int 1)))) (.nm 5) [5] (asB (op2 (gEq false) (slM (mVar 5) (retM .non) (partM (retM (.int 2)))) (slM (mVar 3) (partM (retM (.int 1))) (retM .non)))) (op2 gIx (mVar 5) (retM (.int 2)))
def lawB : MS := (seqS (ifS lawCond (retS (retM .non)) skipS)
  (seqS (setS 4 (ownM lawThens))
  (seqS (ifS (asB (op2 (gEq false) (mVar 4) (lstM nilM))) (retS (retM .non)) skipS)
  (setS 2 (op2 gIx (mVar 4) (retM (.int 0)))))))
def okI (s : Nm) : It → Bool
  | .say a _ _ => decide (a = s)
  | .noW a _ => decide (a = s)
  | _ => false
def hits (i : It) (q : Br) : Bool := match i with
  | .say _ b c => decide (b = q.hr) && decide (c = q.w)
  | _ => false
theorem gEq_sn (neg : Bool) (a b c : Nm) : gEq neg (.tup [.str a, .str b]) (.tup [.str c, .non]) h = .ok (.bl neg) h := by
  rw [gEq_pure (by simp [D.pure, pureL]) (by simp [D.pure, pureL]) (by simp [D.py, pyL, PyData.depth, PyData.depthAll])]
  simp [D.py, pyL, PyData.eqv, PyData.eqvAll]
theorem cond_ok {pls : List Pl} {here : Nat} {pl : Pl} (e : pls[here]? = some pl) (R : D) (i : It) (o : ItOk h i) (x4 x5 : Option D) :
    lawCond [some (.tup (pls.map plD)), some R, some (.int (here : Int)), some i.d, x4, x5] h = .ok (match pl with
      | none => true
      | some (s, _) => !okI s i) h := by
  have ix : gIx (.tup (pls.map plD)) (.int (here : Int)) h = .ok (plD pl) h := gIx_tup (Dn.atI_nat (by rw [List.getElem?_map, e]; rfl))
  unfold lawCond
  simp only [ap_orB, ap_asB, ap_notB, ap_op2, ap_op1, ap_var, ap_ret, bnd_ok, List.getElem?_cons_succ, List.getElem?_cons_zero, optV_some, ix]
  cases pl with
  | none => rfl
  | some z =>
    obtain ⟨s, bs⟩ := z
    have i0 : gIx (plD (some (s, bs))) (.int 0) h = .ok (.str s) h := rfl
    have n1 : gIs false (plD (some (s, bs))) .non h = .ok (.bl false) h := rfl
    simp only [i0, n1, bnd_ok, toB_bl]
    cases i with
    | say a b c =>
      have e0 : gIx (It.say a b c).d (.int 0) h = .ok (.str a) h := rfl
      have e1 : gLen (It.say a b c).d h = .ok (.int 3) h := rfl
      have e2 : gIsi .tup (It.say a b c).d h = .ok (.bl true) h := rfl
      simp [e0, e1, e2, gEq_int, gEq_str, okI, ix, i0]
    | noW a b =>
      have e0 : gIx (It.noW a b).d (.int 0) h = .ok (.str a) h := rfl
      have e1 : gLen (It.noW a b).d h = .ok (.int 3) h := rfl
      have e2 : gIsi .tup (It.noW a b).d h = .ok (.bl true) h := rfl
      simp [e0, e1, e2, gEq_int, gEq_str, okI, ix, i0]
    | two a b =>
      have e1 : gLen (It.two a b).d h = .ok (.int 2) h := rfl
      have e2 : gIsi .tup (It.two a b).d h = .ok (.bl true) h := rfl
      simp [e1, e2, gEq_int, okI]
    | four a b c =>
      have e1 : gLen (It.four a b c).d h = .ok (.int 4) h := rfl
      have e2 : gIsi .tup (It.four a b c).d h = .ok (.bl true) h := rfl
      simp [e1, e2, gEq_int, okI]
    | lst n =>
      obtain ⟨ds, en⟩ := o
      have e2 : gIsi .tup (It.lst n).d h = .ok (.bl false) h := isi_lst en _
      simp [e2, okI]
    | non =>
      have e2 : gIsi .tup It.non.d h = .ok (.bl false) h := rfl
      simp [e2, okI]
theorem thens_ok {pls : List Pl} {here : Nat} {s : Nm} {bs : List Br} (e : pls[here]? = some (some (s, bs))) (hb : bs.length ≤ 1000) (R : D) (i : It) (x4 x5 : Option D) (hi : okI s i = true) :
    (ownM lawThens) [some (.tup (pls.map plD)), some R, some (.int (here : Int)), some i.d, x4, x5] h = .ok (.ref h.length) (h ++ [.lst ((bs.filter (hits i)).map fun q => .int (q.th : Int))]) := by
  have ix : gIx (.tup (pls.map plD)) (.int (here : Int)) h = .ok (plD (some (s, bs))) h := gIx_tup (Dn.atI_nat (by rw [List.getElem?_map, e]; rfl))
  have i1 : gIx (plD (some (s, bs))) (.int 1) h = .ok (.tup (bs.map Br.d)) h := rfl
  have k := lcL_sift (h := h) (src := ⟨bs.map Br.d, []⟩) (p := .nm 5) (t := asB (op2 (gEq false) (slM (mVar 5) (retM .non) (partM (retM (.int 2)))) (slM (mVar 3) (partM (retM (.int 1))) (retM .non)))) (e := op2 gIx (mVar 5) (retM (.int 2))) (σ0 := [some (.tup (pls.map plD)), some R, some (.int (here : Int)), some i.d, x4, none]) ok_nil Br.d (hits i) (fun q => .int (q.th : Int)) bs [] (fun q hq => by
    let σ1 : Sg := [some (.tup (pls.map plD)), some R, some (.int (here : Int)), some i.d, x4, some q.d]
    refine ⟨σ1, by simp [σ1, br_st], ?_, fun _ => ⟨?_, rfl⟩⟩
    · have c1 : cutG q.d none (some 2) h = .ok (.tup [.str q.hr, .str q.w]) h := cut2 q
      have p1 : partOf (.int 1) = some (some 1) := rfl
      have p2 : partOf (.int 2) = some (some 2) := rfl
      have p3 : partOf .non = some none := rfl
      simp only [σ1, ap_asB, ap_op2, ap_sl, ap_part, ap_var, ap_ret, bnd_ok, List.getElem?_cons_succ, List.getElem?_cons_zero, optV_some, p1, p2, p3, c1]
      cases i with
      | say a b c =>
        have c2 : cutG (It.say a b c).d (some 1) none h = .ok (.tup [.str b, .str c]) h := rfl
        have c3 : gEq false (.tup [.str q.hr, .str q.w]) (.tup [.str b, .str c]) h = .ok (.bl (decide ([q.hr, q.w] = [b, c]))) h := eq_strs false [q.hr, q.w] [b, c]
        rw [c2, bnd_ok, c3, bnd_ok, toB_bl]
        congr 1
        unfold hits
        by_cases d1 : b = q.hr <;> by_cases d2 : c = q.w <;> simp [d1, d2, eq_comm]
        all_goals first | (intro _ z; exact d2 z.symm) | (intro z; exact absurd z.symm d1)
      | noW a b =>
        have c2 : cutG (It.noW a b).d (some 1) none h = .ok (.tup [.str b, .non]) h := rfl
        rw [c2, bnd_ok, gEq_sn]
        rfl
      | _ => simp [okI] at hi
    · exact (br_ix q).2.2) (by simp; unfold line; omega)
  rw [List.nil_append] at k
  unfold lawThens
  rw [ap_own, ap_lc]
  simp only [ap_op1, ap_op2, ap_var, ap_ret, bnd_ok, List.getElem?_cons_succ, List.getElem?_cons_zero, optV_some, ix, i1]
  have sv : srcV (.tup (bs.map Br.d)) h = .ok ⟨bs.map Br.d, []⟩ h := rfl
  rw [sv, bnd_ok]
  show own (lcL _ _ _ _ [some (.tup (pls.map plD)), some R, some (.int (here : Int)), some i.d, x4, none] (bs.map Br.d) [] h) = _
  rw [k]
  rfl
theorem filter_head {i : It} {s : Nm} {pls : List Pl} {here : Nat} {bs : List Br} (e : pls[here]? = some (some (s, bs))) (hi : okI s i = true) : stepI pls here i = (bs.filter (hits i)).head?.map Br.th := by
  unfold stepI
  cases i with
  | say a b c =>
    simp only [okI, decide_eq_true_eq] at hi
    dsimp only
    rw [e]
    dsimp only
    rw [if_pos hi]
    unfold thenOf
    rw [List.head?_filter]
    rfl
  | noW a b =>
    have : bs.filter (hits (.noW a b)) = [] := List.filter_eq_nil_iff.mpr fun q _ => by simp [hits]
    rw [this]
    rfl
  | _ => simp [okI] at hi
theorem lawB_ok {pls : List Pl} {here : Nat} (hh : here < pls.length) (hb : ∀ s bs, some (s, bs) ∈ pls → bs.length ≤ 1000) (R : D) (i : It) (o : ItOk h i) (x4 x5 : Option D) :
    ∃ g : MH, (∃ t, stepI pls here i = some t ∧ ∃ y4 : Option D, lawB [some (.tup (pls.map plD)), some R, some (.int (here : Int)), some i.d, x4, x5] h = .nx [some (.tup (pls.map plD)), some R, some (.int (t : Int)), some i.d, y4, x5] (h ++ g)) ∨
      (stepI pls here i = none ∧ lawB [some (.tup (pls.map plD)), some R, some (.int (here : Int)), some i.d, x4, x5] h = .rt .non (h ++ g)) := by
  obtain ⟨pl, epl⟩ : ∃ pl, pls[here]? = some pl := ⟨_, List.getElem?_eq_getElem hh⟩
  have ec := cond_ok (h := h) epl R i o x4 x5
  cases pl with
  | none =>
    refine ⟨[], .inr ⟨?_, ?_⟩⟩
    · unfold stepI
      cases i with
      | say a b c => dsimp only; rw [epl]
      | _ => rfl
    · rw [List.append_nil]
      exact s_seq_rt (s_ift ec (s_ret rfl rfl))
  | some z =>
    obtain ⟨s, bs⟩ := z
    dsimp only at ec
    by_cases hi : okI s i = true
    · rw [hi] at ec
      have et := thens_ok (h := h) epl (hb s bs (List.mem_of_getElem? epl)) R i x4 x5 hi
      have ef := filter_head epl hi
      let ts : List D := (bs.filter (hits i)).map fun q => .int (q.th : Int)
      let σ2 : Sg := [some (.tup (pls.map plD)), some R, some (.int (here : Int)), some i.d, some (.ref h.length), x5]
      have e4 : (h ++ [MO.lst ts])[h.length]? = some (.lst ts) := by simp
      have hp : pureL ts = true := by
        rw [pureL_eq]
        simp [ts, D.pure]
      have eq : (asB (op2 (gEq false) (mVar 4) (lstM nilM))) σ2 (h ++ [MO.lst ts]) = .ok ts.isEmpty (h ++ [MO.lst ts]) := by
        simp only [σ2, ap_asB, ap_op2, ap_var, ap_lst, ap_nil, bnd_ok, List.getElem?_cons_succ, List.getElem?_cons_zero, optV_some]
        rw [if_pos ⟨rfl, by unfold line; simp⟩, bnd_ok, gEq_lst (lst_of e4) rfl hp]
        rfl
      have s1 : (ifS lawCond (retS (retM .non)) skipS) [some (.tup (pls.map plD)), some R, some (.int (here : Int)), some i.d, x4, x5] h = .nx [some (.tup (pls.map plD)), some R, some (.int (here : Int)), some i.d, x4, x5] h := s_iff ec rfl
      have s2 : (setS 4 (ownM lawThens)) [some (.tup (pls.map plD)), some R, some (.int (here : Int)), some i.d, x4, x5] h = .nx σ2 (h ++ [MO.lst ts]) := s_set et rfl
      cases efl : bs.filter (hits i) with
      | nil =>
        have z : ts.isEmpty = true := by simp [ts, efl]
        rw [efl] at ef
        rw [z] at eq
        exact ⟨[MO.lst ts], .inr ⟨ef, s_seq s1 (s_seq s2 (s_seq_rt (s_ift eq (s_ret rfl rfl))))⟩⟩
      | cons q r =>
        have z : ts.isEmpty = false := by simp [ts, efl]
        rw [efl] at ef
        rw [z] at eq
        refine ⟨[MO.lst ts], .inl ⟨q.th, ef, some (.ref h.length), s_seq s1 (s_seq s2 (s_seq (s_iff eq rfl) (s_set (d := .int (q.th : Int)) ?_ rfl)))⟩⟩
        simp only [σ2, ap_op2, ap_var, ap_ret, bnd_ok, List.getElem?_cons_succ, List.getElem?_cons_zero, optV_some]
        exact gIx_lst (lst_of e4) (Dn.atI_nat (i := 0) (by simp [ts, efl]))
    · have hi' : okI s i = false := by simpa using hi
      rw [hi'] at ec
      refine ⟨[], .inr ⟨?_, ?_⟩⟩
      · unfold stepI
        cases i with
        | say a b c =>
          dsimp only
          rw [epl]
          dsimp only
          rw [if_neg (by simpa [okI] using hi')]
        | _ => rfl
      · rw [List.append_nil]
        exact s_seq_rt (s_ift ec (s_ret rfl rfl))
theorem law_place_loop {pls : List Pl} (ht : thOk pls) (hb : ∀ s bs, some (s, bs) ∈ pls → bs.length ≤ 1000) (R : D) (its : List D) (x5 : Option D) : ∀ (is : List It) (here : Nat) (x3 x4 : Option D) (h : MH), here < pls.length → (∀ i ∈ is, ItOk h i) →
    ∃ g : MH, (∃ t, placeI pls here is = some t ∧ ∃ y3 y4 : Option D, forL ⟨its, []⟩ (.nm 3) lawB (is.map It.d) [some (.tup (pls.map plD)), some R, some (.int (here : Int)), x3, x4, x5] h = .nx [some (.tup (pls.map plD)), some R, some (.int (t : Int)), y3, y4, x5] (h ++ g)) ∨
      (placeI pls here is = none ∧ forL ⟨its, []⟩ (.nm 3) lawB (is.map It.d) [some (.tup (pls.map plD)), some R, some (.int (here : Int)), x3, x4, x5] h = .rt .non (h ++ g))
  | [], here, x3, x4, h, _, _ => ⟨[], .inl ⟨here, rfl, x3, x4, by rw [List.append_nil]; exact forL_nil ok_nil⟩⟩
  | i :: is, here, x3, x4, h, hh, ho => by
    have ep : Pat.put (.nm 3) i.d [some (.tup (pls.map plD)), some R, some (.int (here : Int)), x3, x4, x5] = some [some (.tup (pls.map plD)), some R, some (.int (here : Int)), some i.d, x4, x5] := by rw [put_nm, if_pos i.st]; rfl
    have ez : placeI pls here (i :: is) = (match stepI pls here i with
      | some t => placeI pls t is
      | none => none) := rfl
    rw [List.map_cons, ez]
    obtain ⟨g, ⟨t, et, y4, eb⟩ | ⟨et, eb⟩⟩ := lawB_ok (h := h) hh hb R i (ho i List.mem_cons_self) x4 x5
    · have key := forL_nx (src := ⟨its, []⟩) (b := lawB) (ds := is.map It.d) ok_nil ep eb
      obtain ⟨g2, z⟩ := law_place_loop ht hb R its x5 is t (some i.d) y4 (h ++ g) (step_lt ht et) fun j hj => (ho j (List.mem_cons_of_mem _ hj)).grow
      rw [et, key]
      refine ⟨g ++ g2, ?_⟩
      rw [← List.append_assoc]
      exact z
    · have key := forL_rt (src := ⟨its, []⟩) (b := lawB) (ds := is.map It.d) ok_nil ep eb
      rw [et]
      exact ⟨g, .inr ⟨rfl, key⟩⟩
theorem law_place_ok {pls : List Pl} (ht : thOk pls) (hb : ∀ s bs, some (s, bs) ∈ pls → bs.length ≤ 1000) (p1 : 0 < pls.length) (is : List It) (ho : ∀ i ∈ is, ItOk h i) :
    ∃ g : MH, F__law_place_by [.tup (pls.map plD), .tup (is.map It.d)] h = .ok (optN (placeI pls 0 is)) (h ++ g) := by
  obtain ⟨g, ⟨t, e, y3, y4, el⟩ | ⟨e, el⟩⟩ := law_place_loop ht hb (.tup (is.map It.d)) (is.map It.d) none is 0 none none h p1 ho
  · rw [e]
    exact ⟨g, fn_rt rfl (s_seq (h1 := h) (s_set rfl rfl) (s_seq (h1 := h ++ g) (s_for (src := ⟨is.map It.d, []⟩) (b := lawB) (h1 := h) rfl el) (s_ret rfl rfl)))⟩
  · rw [e]
    exact ⟨g, fn_rt rfl (s_seq (h1 := h) (s_set rfl rfl) (s_seq_rt (s_for (src := ⟨is.map It.d, []⟩) (b := lawB) (h1 := h) rfl el)))⟩
end HD
end
noncomputable section
set_option Elab.async false
set_option linter.all false
set_option maxRecDepth 100000
set_option maxHeartbeats 4000000
namespace HD
open PySem PySem.Spec L2 Dn
variable {h h1 h2 : MH} {σ σ1 : Sg} {a b mb ms : MS} {x : MX} {m : M D}
theorem fn_ex {np k : Nat} {ds : List D} {n : MS} (hl : ds.length = np) (e : n (begin_ k ds) h = .ex x σ1 h1) : fnD np k n ds h = .exc x h1 := by rw [ap_fn, if_pos hl, e]; rfl
theorem s_seq_ex (e1 : a σ h = .ex x σ1 h1) : seqS a b σ h = .ex x σ1 h1 := by rw [as_seq, e1]; rfl
theorem s_expr_ex (e : m σ h = .exc x h1) : exprS m σ h = .ex x σ h1 := by rw [as_expr, e]; rfl
theorem s_try_ok {tab : List (Str × Bool)} (e : mb σ h = .nx σ1 h1) : tryS tab mb ms σ h = .nx σ1 h1 := by unfold tryS; rw [e]
theorem s_try_yes {tab : List (Str × Bool)} {C : Str} {σ2 : Sg} (e : mb σ h = .ex ⟨C, none⟩ σ1 h1) (et : tab.lookup C = some true) (e2 : ms σ1 h1 = .nx σ2 h2) : tryS tab mb ms σ h = .nx σ2 h2 := by
  unfold tryS
  rw [e]
  dsimp only
  rw [et]
  dsimp only
  rw [if_pos (show (none : Option (List (Str × D))).isNone = true from rfl), e2]
  rfl
inductive Wt where
  | row (is : List It)
  | lst (n : Nat)
def Wt.d : Wt → D
  | .row is => .tup (is.map It.d)
  | .lst n => .ref n
def WtOk (h : MH) : Wt → Prop
  | .row is => (∀ i ∈ is, ItOk h i) ∧ is.length ≤ 1000
  | .lst n => ∃ ds, h[n]? = some (.lst ds)
theorem WtOk.grow {w : Wt} {g : MH} (o : WtOk h w) : WtOk (h ++ g) w := by
  cases w with
  | row is => exact ⟨fun i hi => (o.1 i hi).grow, o.2⟩
  | lst n => obtain ⟨ds, e⟩ := o; exact ⟨ds, get_grow e⟩
theorem Wt.st (w : Wt) : w.d.st = true := by cases w <;> rfl
def Wt.pl (pls : List Pl) : Wt → Option Nat
  | .row is => placeI pls 0 is
  | .lst _ => none
section
variable {hands weak : List Nm} {pls : List Pl}
theorem good_th (G : Good hands weak pls) : thOk pls := fun s bs hm b hb => ((G.say s bs hm).br b hb).2.2
theorem good_bl (G : Good hands weak pls) : ∀ s bs, some (s, bs) ∈ pls → bs.length ≤ 1000 := fun s bs hm => by have := (G.say s bs hm).l8; omega
theorem is_row_of_ok (G : Good hands weak pls) (w : Wt) (o : WtOk h w) : F_is_row_of [boardD hands weak pls, w.d] h = .ok (.bl (w.pl pls).isSome) h := by
  refine fn_rt rfl (s_ret (d := .bl _) ?_ rfl)
  cases w with
  | row is =>
    have e := place_by_ok (h := h) (hands := hands) (weak := weak) (good_th G) G.p1 is o.1
    simp [begin_, Wt.d, board_st, e]
    show gIs true (optN (placeI pls 0 is)) .non h = .ok (.bl (placeI pls 0 is).isSome) h
    cases placeI pls 0 is <;> rfl
  | lst n =>
    obtain ⟨ds, e⟩ := o
    simp [begin_, Wt.d, isi_lst e, Kd.isA, Wt.pl]
theorem is_row_ok (G : Good hands weak pls) (w : Wt) (o : WtOk h w) : ∃ g, F_is_row [boardD hands weak pls, w.d] h = .ok (.bl (w.pl pls).isSome) (h ++ g) := by
  obtain ⟨g, e⟩ := need_board_ok (h := h) G
  refine ⟨g, fn_rt rfl (s_seq (h1 := h ++ g) (s_expr (d := .non) ?_) (s_ret (d := .bl _) ?_ rfl))⟩
  · simp [begin_, board_st, e]
  · simp [begin_, board_st, w.st, is_row_of_ok G w o.grow]
theorem need_row_ok (G : Good hands weak pls) (w : Wt) (o : WtOk h w) : ∃ g, F_need_row [boardD hands weak pls, w.d] h = if (w.pl pls).isSome = true then .ok .non (h ++ g) else .exc ⟨"NoRow", none⟩ (h ++ g) := by
  obtain ⟨g, e⟩ := need_board_ok (h := h) G
  have q1 := quiet_ok e
  have q2 := quiet_ok (is_row_of_ok G w (o.grow (g := g)))
  have s1 : (exprS (fcallM (quiet F_need_board) [] (consM (mVar 0) nilM))) [some (boardD hands weak pls), some w.d] h = .nx [some (boardD hands weak pls), some w.d] (h ++ g) := s_expr (d := .non) (by simp [board_st, q1])
  have t1 : (notB (asB (fcallM (quiet F_is_row_of) [] (consM (mVar 0) (consM (mVar 1) nilM))))) [some (boardD hands weak pls), some w.d] (h ++ g) = .ok (!(w.pl pls).isSome) (h ++ g) := by simp [board_st, w.st, q2]
  refine ⟨g, ?_⟩
  by_cases c : (w.pl pls).isSome = true
  · rw [if_pos c]
    exact fn_nx rfl (s_seq s1 (s_iff (by rw [t1, c]; rfl) rfl))
  · rw [if_neg c]
    exact fn_ex rfl (s_seq s1 (s_ift (by rw [t1]; simp [c]) rfl))
theorem place_behind_ok (G : Good hands weak pls) (w : Wt) (o : WtOk h w) : ∃ g, F_place_behind [boardD hands weak pls, w.d] h = match w.pl pls with
    | some t => .ok (.int (t : Int)) (h ++ g)
    | none => .exc ⟨"NoRow", none⟩ (h ++ g) := by
  obtain ⟨g, e⟩ := need_row_ok (h := h) G w o
  refine ⟨g, ?_⟩
  cases ew : w.pl pls with
  | none =>
    rw [ew, if_neg (by simp)] at e
    exact fn_ex rfl (s_seq_ex (s_expr_ex (by simp [begin_, board_st, w.st, e])))
  | some t =>
    rw [ew, if_pos (show (some t).isSome = true from rfl)] at e
    cases w with
    | row is =>
      have e2 := place_by_ok (h := h ++ g) (hands := hands) (weak := weak) (good_th G) G.p1 is (fun i hi => (o.1 i hi).grow)
      rw [show placeI pls 0 is = some t from ew] at e2
      have q2 := quiet_ok e2
      refine fn_rt rfl (s_seq (h1 := h ++ g) (s_expr (d := .non) ?_) (s_ret (d := .int (t : Int)) ?_ rfl))
      · have := (Wt.row is).st
        simp [begin_, board_st, this, e]
      · simp [begin_, board_st, Wt.d, q2, optN]
    | lst n => cases ew
theorem says_of {is : List It} : ∀ {is : List It} {here t : Nat}, placeI pls here is = some t → ∃ L : List (Nm × Nm × Nm), is = L.map fun q => It.say q.1 q.2.1 q.2.2
  | [], _, _, _ => ⟨[], rfl⟩
  | i :: is, here, t, e => by
    have ez : placeI pls here (i :: is) = (match stepI pls here i with
      | some t => placeI pls t is
      | none => none) := rfl
    rw [ez] at e
    cases es : stepI pls here i with
    | none => rw [es] at e; cases e
    | some k =>
      rw [es] at e
      obtain ⟨L, rfl⟩ := says_of (is := is) e
      cases i with
      | say a b c => exact ⟨(a, b, c) :: L, rfl⟩
      | _ => cases es
def sayD (q : Nm × Nm × Nm) : D := .tup [.str q.1, .str q.2.1, .str q.2.2]
theorem faultless_ok (G : Good hands weak pls) (L : List (Nm × Nm × Nm)) (hl : L.length ≤ 1000) {t : Nat} (et : (Wt.row (L.map fun q => It.say q.1 q.2.1 q.2.2)).pl pls = some t) : ∃ g, F_is_faultless [boardD hands weak pls, .tup (L.map sayD)] h = .ok (.bl (!decide (flt ∈ L.map fun q => q.2.2))) (h ++ g) := by
  have ed : (Wt.row (L.map fun q => It.say q.1 q.2.1 q.2.2)).d = .tup (L.map sayD) := by
    simp only [Wt.d, List.map_map]
    rfl
  have o : WtOk h (Wt.row (L.map fun q => It.say q.1 q.2.1 q.2.2)) := ⟨fun i hi => by obtain ⟨q, _, rfl⟩ := List.mem_map.mp hi; trivial, by simpa using hl⟩
  obtain ⟨g, e⟩ := need_row_ok (h := h) G _ o
  rw [et, if_pos (show (some t).isSome = true from rfl), ed] at e
  let σ (x2 x3 x4 : Option D) : Sg := [some (boardD hands weak pls), some (.tup (L.map sayD)), x2, x3, x4]
  have k := lcL_sift (h := h ++ g) (src := ⟨L.map sayD, []⟩) (p := .tu [(.nm 2), (.nm 3), (.nm 4)]) (t := retM true) (e := mVar 4) (σ0 := σ none none none) ok_nil sayD (fun _ => true) (fun q => .str q.2.2) L [] (fun q hq => by
    exact ⟨σ (some (.str q.1)) (some (.str q.2.1)) (some (.str q.2.2)), by simp [sayD, σ], rfl, fun _ => ⟨rfl, rfl⟩⟩) (by simp; unfold line; omega)
  rw [List.nil_append, List.filter_eq_self.mpr (fun _ _ => rfl)] at k
  refine ⟨g, fn_rt rfl (s_seq (h1 := h ++ g) (σ1 := σ none none none) (s_expr (d := .non) ?_) (s_ret (d := .bl _) ?_ rfl))⟩
  · simp [begin_, board_st, e]
  · rw [ap_op2, ap_ret, bnd_ok, ap_lc, ap_op1, ap_var]
    show ((((optV (some (some (.tup (L.map sayD)))) (h ++ g)).bnd srcV).bnd _)).bnd _ = _
    rw [optV_some, bnd_ok]
    show (lcL ⟨L.map sayD, []⟩ _ _ _ (σ none none none) (L.map sayD) [] (h ++ g)).bnd _ = _
    rw [k, bnd_ok]
    have gi := gIn_strs (h := h ++ g) (neg := true) (s := .tl (L.map fun q => .str q.2.2)) (L := L.map fun q => q.2.2) [33] (by
      show some (L.map fun q => D.str q.2.2) = _
      rw [List.map_map]
      rfl) (fun t e => by cases e)
    exact gi
end
end HD
end
noncomputable section
set_option Elab.async false
set_option linter.all false
set_option maxRecDepth 100000
set_option maxHeartbeats 4000000
namespace HD
open PySem PySem.Spec L2 Dn
variable {h h1 h2 : MH}
variable {hands weak : List Nm} {pls : List Pl}
theorem tab_row : List.lookup ("NoRow" : Str) ([("NoRow", true)] : List (Str × Bool)) = some true := by decide +kernel
theorem e_lst2 {a b : M D} {σ : Sg} {x y : D} (e1 : a σ h = .ok x h1) (e2 : b σ h1 = .ok y h2) (s1 : x.st = true) (s2 : y.st = true) : lstM (consM a (consM b nilM)) σ h = .ok (.tl [x, y]) h2 := by
  rw [ap_lst, ap_cons, e1, bnd_ok, ap_cons, e2, bnd_ok, ap_nil, bnd_ok, bnd_ok, bnd_ok, if_pos ⟨by simp [s1, s2], by unfold line; simp⟩]
theorem e_call2 {a b : M D} {σ : Sg} {x y : D} {F : List D → MH → R D} (e1 : a σ h = .ok x h1) (e2 : b σ h1 = .ok y h2) (s1 : x.st = true) (s2 : y.st = true) : fcallM F [] (consM a (consM b nilM)) σ h = F [x, y] h2 := by
  rw [ap_call, ap_cons, e1, bnd_ok, ap_cons, e2, bnd_ok, ap_nil, bnd_ok, bnd_ok, bnd_ok, if_pos (by simp [s1, s2])]
  rfl
theorem refused_ok (G : Good hands weak pls) (w : Wt) (o : WtOk h w) (hn : w.pl pls = none) : ∃ g, F__law_refused [boardD hands weak pls, w.d] h = .ok (.int 2) (h ++ g) := by
  obtain ⟨g1, e1⟩ := place_behind_ok (h := h) G w o
  rw [hn] at e1
  obtain ⟨g2, e2⟩ := need_row_ok (h := h ++ g1) G w o.grow
  rw [hn, if_neg (by simp)] at e2
  have e3 : F_is_faultless [boardD hands weak pls, w.d] (h ++ g1) = .exc ⟨"NoRow", none⟩ (h ++ g1 ++ g2) := fn_ex rfl (s_seq_ex (s_expr_ex (by simp [begin_, board_st, w.st, e2])))
  let σ (x : Option D) : Sg := [some (boardD hands weak pls), some w.d, x]
  have m1 : ∀ (k : Int) (g : MH), (setS 2 (op2 gAdd (mVar 2) (retM (.int 1)))) (σ (some (.int k))) g = .nx (σ (some (.int (k + 1)))) g := fun k g => s_set (d := .int (k + 1)) rfl rfl
  have b1 : (exprS (fcallM F_place_behind [] (consM (mVar 0) (consM (mVar 1) nilM)))) (σ (some (.int 0))) h = .ex ⟨"NoRow", none⟩ (σ (some (.int 0))) (h ++ g1) := s_expr_ex (by simp [σ, board_st, w.st, e1])
  have b2 : (exprS (fcallM F_is_faultless [] (consM (mVar 0) (consM (mVar 1) nilM)))) (σ (some (.int 1))) (h ++ g1) = .ex ⟨"NoRow", none⟩ (σ (some (.int 1))) (h ++ g1 ++ g2) := s_expr_ex (by simp [σ, board_st, w.st, e3])
  refine ⟨g1 ++ g2, ?_⟩
  rw [← List.append_assoc]
  exact fn_rt rfl (s_seq (h1 := h) (σ1 := σ (some (.int 0))) (s_set rfl rfl) (s_seq (h1 := h ++ g1) (σ1 := σ (some (.int 1))) (s_try_yes b1 tab_row (m1 0 _)) (s_seq (h1 := h ++ g1 ++ g2) (σ1 := σ (some (.int 2))) (s_try_yes b2 tab_row (m1 1 _)) (s_ret rfl rfl))))
theorem reprL_tl {ds : List D} (hp : pureL ds = true) (hs : smPL (pyL ds) = true) (hw : wPL (pyL ds) ≤ 100000) (hd : PyData.depthAll (pyL ds) ≤ 50) : gReprL (.tl ds) h = .ok (.str (shownD (.list (pyL ds)))) h :=
  reprL_of (deep_tl hp) rfl (by simpa only [smP] using hs) (by simp only [wP]; omega) (by simp only [PyData.depth]; omega)
theorem repr_bls (b : Bool) : ∃ t, ∀ h : MH, gReprL (.tl [.bl b, .bl b]) h = .ok (.str t) h :=
  ⟨_, fun h => reprL_tl (ds := [.bl b, .bl b]) rfl (by simp [pyL, D.py, smPL, smP]) (by simp [pyL, D.py, wPL, wP]) (by simp [pyL, D.py, PyData.depthAll, PyData.depth])⟩
theorem repr_ib (t : Nat) (ht : t < 64) (b : Bool) : ∃ x, ∀ h : MH, gReprL (.tl [.int (t : Int), .bl b]) h = .ok (.str x) h :=
  ⟨_, fun h => reprL_tl (ds := [.int (t : Int), .bl b]) rfl (by simp [pyL, D.py, smPL, smP]; omega) (by simp [pyL, D.py, wPL, wP]) (by simp [pyL, D.py, PyData.depthAll, PyData.depth])⟩
theorem mul_two (b : Bool) : gMulB (.tl [.bl b]) (.int 2) h = .ok (.tl [.bl b, .bl b]) h := by
  unfold gMulB
  dsimp only
  unfold gMul
  dsimp only
  rw [show lstW h (.tl [.bl b]) = some [.bl b] from rfl]
  dsimp only
  rw [if_pos (by unfold line; simp)]
  rfl
theorem place_lt (G : Good hands weak pls) {is : List It} : ∀ {is : List It} {here t : Nat}, here < pls.length → placeI pls here is = some t → t < pls.length
  | [], here, t, hh, e => by cases e; exact hh
  | i :: is, here, t, hh, e => by
    have ez : placeI pls here (i :: is) = (match stepI pls here i with
      | some t => placeI pls t is
      | none => none) := rfl
    rw [ez] at e
    cases es : stepI pls here i with
    | none => rw [es] at e; cases e
    | some k =>
      rw [es] at e
      exact place_lt (is := is) G (step_lt (good_th G) es) e
def tellB : MS := (seqS (ifS (asB (op2 (gEq true) (op1 gReprL (lstM (consM (fcallM F_is_row [] (consM (mVar 0) (consM (mVar 1) nilM))) (consM (fcallM F_is_row [] (consM (mVar 0) (consM (mVar 1) nilM))) nilM)))) (op1 gReprL (op2 gMulB (lstM (consM (op2 (gIs true) (mVar 2) (retM .non)) nilM)) (retM (.int 2)))))) (retS (retM (.bl false))) skipS)
  (seqS (ifS (asB (op2 (gIs false) (mVar 2) (retM .non))) (retS (op2 (gEq false) (fcallM F__law_refused [] (consM (mVar 0) (consM (mVar 1) nilM))) (retM (.int 2)))) skipS)
  (seqS (setS 3 (ownM (lcM (op1 srcV (mVar 1)) (.nm 4) [4] (asB (op2 (gEq false) (op2 gIx (mVar 4) (retM (.int 2))) (retM (.str [33])))) (mVar 4))))
  (retS (op2 (gEq false) (op1 gReprL (lstM (consM (fcallM F_place_behind [] (consM (mVar 0) (consM (mVar 1) nilM))) (consM (fcallM F_is_faultless [] (consM (mVar 0) (consM (mVar 1) nilM))) nilM)))) (op1 gReprL (lstM (consM (mVar 2) (consM (op2 (gEq false) (mVar 3) (lstM nilM)) nilM)))))))))
theorem isN_opt (o : Option Nat) : gIs true (optN o) .non h = .ok (.bl o.isSome) h ∧ gIs false (optN o) .non h = .ok (.bl o.isNone) h := by cases o <;> exact ⟨rfl, rfl⟩
theorem tell_ok (G : Good hands weak pls) (w : Wt) (o : WtOk h w) : ∃ g, tellB [some (boardD hands weak pls), some w.d, some (optN (w.pl pls)), none, none] h = .rt (.bl true) (h ++ g) := by
  obtain ⟨g1, e1⟩ := is_row_ok (h := h) G w o
  obtain ⟨g2, e2⟩ := is_row_ok (h := h ++ g1) G w o.grow
  obtain ⟨t1, r1⟩ := repr_bls (w.pl pls).isSome
  let σ (x3 : Option D) : Sg := [some (boardD hands weak pls), some w.d, some (optN (w.pl pls)), x3, none]
  have o2 : WtOk (h ++ g1 ++ g2) w := o.grow.grow
  have c1 : (asB (op2 (gEq true) (op1 gReprL (lstM (consM (fcallM F_is_row [] (consM (mVar 0) (consM (mVar 1) nilM))) (consM (fcallM F_is_row [] (consM (mVar 0) (consM (mVar 1) nilM))) nilM)))) (op1 gReprL (op2 gMulB (lstM (consM (op2 (gIs true) (mVar 2) (retM .non)) nilM)) (retM (.int 2)))))) (σ none) h = .ok false (h ++ g1 ++ g2) := by
    have a1 : (lstM (consM (fcallM F_is_row [] (consM (mVar 0) (consM (mVar 1) nilM))) (consM (fcallM F_is_row [] (consM (mVar 0) (consM (mVar 1) nilM))) nilM))) (σ none) h = .ok (.tl [.bl (w.pl pls).isSome, .bl (w.pl pls).isSome]) (h ++ g1 ++ g2) := by
      refine e_lst2 (h1 := h ++ g1) ?_ ?_ rfl rfl
      · rw [e_call2 (h1 := h) (h2 := h) (x := boardD hands weak pls) (y := w.d) rfl rfl rfl w.st]
        exact e1
      · rw [e_call2 (h1 := h ++ g1) (h2 := h ++ g1) (x := boardD hands weak pls) (y := w.d) rfl rfl rfl w.st]
        exact e2
    have a2 : (lstM (consM (op2 (gIs true) (mVar 2) (retM .non)) nilM)) (σ none) (h ++ g1 ++ g2) = .ok (.tl [.bl (w.pl pls).isSome]) (h ++ g1 ++ g2) := by
      simp only [σ, ap_lst, ap_cons, ap_nil, ap_op2, ap_var, ap_ret, bnd_ok, List.getElem?_cons_succ, List.getElem?_cons_zero, optV_some, (isN_opt _).1]
      rw [if_pos ⟨rfl, by unfold line; simp⟩]
    rw [ap_asB, ap_op2, ap_op1, a1, bnd_ok, r1, bnd_ok, ap_op1, ap_op2, a2, bnd_ok, ap_ret, bnd_ok, mul_two, bnd_ok, r1, bnd_ok, gEq_str]
    simp
  have s1 := s_iff (a := retS (retM (.bl false))) (b := skipS) c1 rfl
  have c2 : (asB (op2 (gIs false) (mVar 2) (retM .non))) (σ none) (h ++ g1 ++ g2) = .ok (w.pl pls).isNone (h ++ g1 ++ g2) := by
    simp only [σ, ap_asB, ap_op2, ap_var, ap_ret, bnd_ok, List.getElem?_cons_succ, List.getElem?_cons_zero, optV_some, (isN_opt _).2, toB_bl]
  rcases (show w.pl pls = none ∨ ∃ t, w.pl pls = some t by cases w.pl pls <;> simp) with ew | ⟨t, ew⟩
  · obtain ⟨g3, e3⟩ := refused_ok (h := h ++ g1 ++ g2) G w o2 ew
    rw [ew] at c2
    refine ⟨g1 ++ g2 ++ g3, ?_⟩
    rw [← List.append_assoc, ← List.append_assoc]
    refine s_seq s1 (s_seq_rt (s_ift c2 (s_ret (d := .bl true) ?_ rfl)))
    rw [ap_op2, e_call2 (h1 := h ++ g1 ++ g2) (h2 := h ++ g1 ++ g2) (x := boardD hands weak pls) (y := w.d) rfl rfl rfl w.st, e3, bnd_ok, ap_ret, bnd_ok, gEq_int]
    rfl
  · cases w with
    | lst n => cases ew
    | row is =>
      obtain ⟨L, rfl⟩ := says_of (is := is) (pls := pls) ew
      have hl : L.length ≤ 1000 := by simpa using o.2
      have ed : (Wt.row (L.map fun q => It.say q.1 q.2.1 q.2.2)).d = .tup (L.map sayD) := by
        simp only [Wt.d, List.map_map]
        rfl
      have tl : t < 64 := by
        have := place_lt (is := []) G (by have := G.p1; omega) (show placeI pls 0 _ = some t from ew)
        have := G.p40
        omega
      let w : Wt := Wt.row (L.map fun q => It.say q.1 q.2.1 q.2.2)
      let hA := h ++ g1 ++ g2
      let fs : List D := (L.filter fun q => decide (q.2.2 = flt)).map sayD
      have k := lcL_sift (h := hA) (src := ⟨L.map sayD, []⟩) (p := .nm 4) (t := asB (op2 (gEq false) (op2 gIx (mVar 4) (retM (.int 2))) (retM (.str [33])))) (e := mVar 4) (σ0 := σ none) ok_nil sayD (fun q => decide (q.2.2 = flt)) sayD L [] (fun q hq => by
        let σ1 : Sg := [some (boardD hands weak pls), some w.d, some (optN (w.pl pls)), none, some (sayD q)]
        refine ⟨σ1, by simp [σ, σ1, sayD, w], ?_, fun _ => ⟨rfl, rfl⟩⟩
        have i2 : gIx (sayD q) (.int 2) hA = .ok (.str q.2.2) hA := rfl
        simp only [σ1, ap_asB, ap_op2, ap_var, ap_ret, bnd_ok, List.getElem?_cons_succ, List.getElem?_cons_zero, optV_some, i2, gEq_str]
        rfl) (by simp; unfold line; omega)
      rw [List.nil_append] at k
      let hB := hA ++ [MO.lst fs]
      have eB : hB[hA.length]? = some (.lst fs) := by simp [hB]
      have s3 : (setS 3 (ownM (lcM (op1 srcV (mVar 1)) (.nm 4) [4] (asB (op2 (gEq false) (op2 gIx (mVar 4) (retM (.int 2))) (retM (.str [33])))) (mVar 4)))) (σ none) hA = .nx (σ (some (.ref hA.length))) hB := by
        refine s_set (d := .ref hA.length) ?_ rfl
        rw [ap_own, ap_lc, ap_op1, ap_var]
        show own (((optV (some (some w.d)) hA).bnd srcV).bnd _) = _
        rw [optV_some, bnd_ok, show w.d = .tup (L.map sayD) from ed]
        show own (lcL ⟨L.map sayD, []⟩ _ _ _ (σ none) (L.map sayD) [] hA) = _
        rw [k]
        rfl
      obtain ⟨g3, e3⟩ := place_behind_ok (h := hB) G w (WtOk.grow (w := w) o2)
      rw [show w.pl pls = some t from ew] at e3
      dsimp only at e3
      obtain ⟨g4, e4⟩ := faultless_ok (h := hB ++ g3) G L hl ew
      have e4' : F_is_faultless [boardD hands weak pls, w.d] (hB ++ g3) = .ok (.bl (!decide (flt ∈ L.map fun q => q.2.2))) (hB ++ g3 ++ g4) := by
        rw [show w.d = .tup (L.map sayD) from ed]
        exact e4
      let hC := hB ++ g3 ++ g4
      have eC : hC[hA.length]? = some (.lst fs) := get_grow (get_grow eB)
      have pf : pureL fs = true := by
        rw [pureL_eq]
        simp [fs, sayD, D.pure, pureL]
      have bb : fs.isEmpty = !decide (flt ∈ L.map fun q => q.2.2) := by
        by_cases c : flt ∈ L.map fun q => q.2.2
        · obtain ⟨q, hq, ef⟩ := List.mem_map.mp c
          have : q ∈ L.filter fun q => decide (q.2.2 = flt) := List.mem_filter.mpr ⟨hq, by simp [ef]⟩
          cases ez : L.filter fun q => decide (q.2.2 = flt) with
          | nil => rw [ez] at this; cases this
          | cons a r => simp only [fs, ez, decide_eq_true c]; rfl
        · have : L.filter (fun q => decide (q.2.2 = flt)) = [] := List.filter_eq_nil_iff.mpr fun q hq e => c (List.mem_map.mpr ⟨q, hq, by simpa using e⟩)
          simp only [fs, this, decide_eq_false c]
          rfl
      obtain ⟨t2, r2⟩ := repr_ib t tl (!decide (flt ∈ L.map fun q => q.2.2))
      have q1 : (lstM (consM (fcallM F_place_behind [] (consM (mVar 0) (consM (mVar 1) nilM))) (consM (fcallM F_is_faultless [] (consM (mVar 0) (consM (mVar 1) nilM))) nilM))) (σ (some (.ref hA.length))) hB = .ok (.tl [.int (t : Int), .bl (!decide (flt ∈ L.map fun q => q.2.2))]) hC := by
        refine e_lst2 (h1 := hB ++ g3) ?_ ?_ rfl rfl
        · rw [e_call2 (h1 := hB) (h2 := hB) (x := boardD hands weak pls) (y := w.d) rfl rfl rfl w.st]
          exact e3
        · rw [e_call2 (h1 := hB ++ g3) (h2 := hB ++ g3) (x := boardD hands weak pls) (y := w.d) rfl rfl rfl w.st]
          exact e4'
      have q2 : (lstM (consM (mVar 2) (consM (op2 (gEq false) (mVar 3) (lstM nilM)) nilM))) (σ (some (.ref hA.length))) hC = .ok (.tl [.int (t : Int), .bl (!decide (flt ∈ L.map fun q => q.2.2))]) hC := by
        have ge := gEq_lst (h := hC) (neg := false) (lst_of eC) rfl pf
        simp only [σ, ap_lst, ap_cons, ap_nil, ap_op2, ap_var, bnd_ok, List.getElem?_cons_succ, List.getElem?_cons_zero, optV_some, ew, optN]
        rw [if_pos ⟨rfl, by unfold line; simp⟩, bnd_ok, ge, bnd_ok, bnd_ok, bnd_ok]
        rw [if_pos ⟨rfl, by unfold line; simp⟩, ← bb]
        rfl
      refine ⟨g1 ++ g2 ++ [MO.lst fs] ++ g3 ++ g4, ?_⟩
      have eh : h ++ (g1 ++ g2 ++ [MO.lst fs] ++ g3 ++ g4) = hC := by simp [hC, hB, hA]
      rw [eh]
      rw [ew] at c2
      refine s_seq s1 (s_seq (s_iff c2 rfl) (s_seq s3 (s_ret (d := .bl true) ?_ rfl)))
      rw [ap_op2, ap_op1, q1, bnd_ok, r2, bnd_ok, ap_op1, q2, bnd_ok, r2, bnd_ok, gEq_str]
      simp
theorem told_right_ok (G : Good hands weak pls) (w : Wt) (o : WtOk h w) : ∃ g, F__law_told_right [boardD hands weak pls, w.d] h = .ok (.bl true) (h ++ g) := by
  cases w with
  | row is =>
    obtain ⟨g1, e1⟩ := law_place_ok (h := h) (good_th G) (good_bl G) G.p1 is o.1
    obtain ⟨g2, e2⟩ := tell_ok (h := h ++ g1) G (.row is) o.grow
    refine ⟨g1 ++ g2, ?_⟩
    rw [← List.append_assoc]
    refine fn_rt rfl (s_seq (h1 := h) (σ1 := [some (boardD hands weak pls), some (Wt.row is).d, some .non, none, none]) (s_set rfl rfl) (s_seq (h1 := h ++ g1) (s_ift (h1 := h) ?_ (s_set (d := optN (placeI pls 0 is)) ?_ (optN_st _))) e2))
    · simp [Wt.d]
    · simp [Wt.d, board_ix2, e1]
  | lst n =>
    obtain ⟨g2, e2⟩ := tell_ok (h := h) G (.lst n) o
    obtain ⟨ds, en⟩ := o
    refine ⟨g2, ?_⟩
    refine fn_rt rfl (s_seq (h1 := h) (σ1 := [some (boardD hands weak pls), some (Wt.lst n).d, some .non, none, none]) (s_set rfl rfl) (s_seq (h1 := h) (s_iff (h1 := h) ?_ rfl) e2))
    simp [Wt.d, isi_lst en, Kd.isA]
end HD
end
noncomputable section
set_option Elab.async false
set_option linter.all false
set_option maxRecDepth 100000
set_option maxHeartbeats 4000000
namespace HD
open PySem PySem.Spec L2 Dn
variable {h h1 h2 : MH}
variable {hands weak : List Nm} {pls : List Pl}
def smS (x : Nm) : Bool := decide (x.length ≤ 8) && x.all signB
def smQ (q : Nm × Nm × Nm) : Bool := smS q.1 && (smS q.2.1 && smS q.2.2)
theorem smS_nm {x : Nm} (hx : isNm x = true) : smS x = true := by
  have := sm_name hx
  simpa only [smB, smS] using this
theorem smS_flt : smS flt = true := by decide
def AllSm (L : List (Nm × Nm × Nm)) : Prop := ∀ q ∈ L, smQ q = true
def rowB : MS := (seqS (ifS (asB (op2 (gIs false) (op2 gIx (mVar 1) (mVar 3)) (retM .non))) (retS (op1 gTuple (mVar 4))) skipS)
  (seqS (asgS (.tu [(.nm 6), (.nm 7)]) (op2 gIx (mVar 1) (mVar 3)))
  (seqS (asgS (.tu [(.nm 8), (.nm 9), (.nm 10)]) (op2 gIx (mVar 7) (fcallM F__law_take [] (consM (mVar 0) (consM (op1 gLen (mVar 7)) nilM)))))
  (seqS (exprS (mtM .lst gAppend (mVar 4) (consM (tupM (consM (mVar 6) (consM (mVar 8) (consM (mVar 9) nilM)))) nilM)))
  (setS 3 (mVar 10))))))
abbrev sgR (p : Nat) (PD : D) (m here f : Nat) (x5 x6 x7 x8 x9 x10 : Option D) : Sg := [some (.ref p), some PD, some (.int (m : Int)), some (.int (here : Int)), some (.ref f), x5, x6, x7, x8, x9, x10]
theorem rowB_ok (G : Good hands weak pls) {p m here f c : Nat} {L : List (Nm × Nm × Nm)} (x : Pot p c h) (hc : c + 10 < 1099511627776) (ef : h[f]? = some (.lst (L.map sayD))) (hf : f ≠ p) (hh : here < pls.length) (sm : AllSm L) (ll : L.length ≤ 500) (x5 x6 x7 x8 x9 x10 : Option D) :
    (rowB (sgR p (.tup (pls.map plD)) m here f x5 x6 x7 x8 x9 x10) h = .rt (.tup (L.map sayD)) h) ∨
    ∃ (here' : Nat) (q : Nm × Nm × Nm) (y6 y7 y8 y9 y10 : Option D) (h' : MH) (c' : Nat), rowB (sgR p (.tup (pls.map plD)) m here f x5 x6 x7 x8 x9 x10) h = .nx (sgR p (.tup (pls.map plD)) m here' f x5 y6 y7 y8 y9 y10) h' ∧ here' < pls.length ∧ smQ q = true ∧ h'[f]? = some (.lst ((L ++ [q]).map sayD)) ∧ Pot p c' h' ∧ c' ≤ c + 1 := by
  obtain ⟨pl, epl⟩ : ∃ pl, pls[here]? = some pl := ⟨_, List.getElem?_eq_getElem hh⟩
  have ix : ∀ g : MH, gIx (.tup (pls.map plD)) (.int (here : Int)) g = .ok (plD pl) g := fun g => gIx_tup (Dn.atI_nat (by rw [List.getElem?_map, epl]; rfl))
  let s0 := sgR p (.tup (pls.map plD)) m here f x5 x6 x7 x8 x9 x10
  have c1 : (asB (op2 (gIs false) (op2 gIx (mVar 1) (mVar 3)) (retM .non))) s0 h = .ok pl.isNone h := by
    simp only [s0, sgR, ap_asB, ap_op2, ap_var, ap_ret, bnd_ok, List.getElem?_cons_succ, List.getElem?_cons_zero, optV_some, ix]
    cases pl <;> rfl
  cases pl with
  | none =>
    left
    refine s_seq_rt (s_ift c1 (s_ret ?_ rfl))
    simp only [s0, sgR, ap_op1, ap_var, List.getElem?_cons_succ, List.getElem?_cons_zero, optV_some, bnd_ok]
    exact gTuple_lst (lst_of ef)
  | some z =>
    obtain ⟨s, bs⟩ := z
    right
    have S := G.say s bs (List.mem_of_getElem? epl)
    obtain ⟨r, h3, c3, e3, ⟨a3, b3⟩, f3, x3, d3⟩ := take_ok (m := (bs.length : Int)) x (by have := S.l1; omega) (by have := S.l8; omega) (by omega)
    obtain ⟨q, eq⟩ : ∃ q, bs[r.toNat]? = some q := ⟨_, List.getElem?_eq_getElem (by omega)⟩
    have hq := S.br q (List.mem_of_getElem? eq)
    have er : r = ((r.toNat : Nat) : Int) := by omega
    have iq : gIx (.tup (bs.map Br.d)) (.int r) h3 = .ok q.d h3 := by
      rw [er]
      exact gIx_tup (Dn.atI_nat (by rw [List.getElem?_map, eq]; rfl))
    let s1 := sgR p (.tup (pls.map plD)) m here f x5 (some (.str s)) (some (.tup (bs.map Br.d))) x8 x9 x10
    let s2 := sgR p (.tup (pls.map plD)) m here f x5 (some (.str s)) (some (.tup (bs.map Br.d))) (some (.str q.hr)) (some (.str q.w)) (some (.int (q.th : Int)))
    let s3 := sgR p (.tup (pls.map plD)) m q.th f x5 (some (.str s)) (some (.tup (bs.map Br.d))) (some (.str q.hr)) (some (.str q.w)) (some (.int (q.th : Int)))
    let Q : Nm × Nm × Nm := (s, q.hr, q.w)
    have ef3 := f3.get ef hf
    let h4 : MH := h3.set f (.lst (L.map sayD ++ [sayD Q]))
    have st1 : (asgS (.tu [(.nm 6), (.nm 7)]) (op2 gIx (mVar 1) (mVar 3))) s0 h = .nx s1 h := by
      refine s_asg (d := plD (some (s, bs))) ?_ (by simp [plD, s0, s1, sgR])
      simp only [s0, sgR, ap_op2, ap_var, bnd_ok, List.getElem?_cons_succ, List.getElem?_cons_zero, optV_some, ix]
    have tk : fcallM F__law_take [] (consM (mVar 0) (consM (op1 gLen (mVar 7)) nilM)) s1 h = .ok (.int r) h3 := by
      rw [e_call2 (h1 := h) (h2 := h) (x := .ref p) (y := .int ((bs.length : Nat) : Int)) rfl (by
        simp only [s1, sgR, ap_op1, ap_var, bnd_ok, List.getElem?_cons_succ, List.getElem?_cons_zero, optV_some, gLen_tup', List.length_map]) rfl rfl]
      exact e3
    have st2 : (asgS (.tu [(.nm 8), (.nm 9), (.nm 10)]) (op2 gIx (mVar 7) (fcallM F__law_take [] (consM (mVar 0) (consM (op1 gLen (mVar 7)) nilM))))) s1 h = .nx s2 h3 := by
      refine s_asg (d := q.d) ?_ (by simp [Br.d, s1, s2, sgR])
      rw [ap_op2, ap_var]
      show ((optV (some (some (.tup (bs.map Br.d)))) h).bnd _) = _
      rw [optV_some, bnd_ok, tk, bnd_ok, iq]
    have st3 : (exprS (mtM .lst gAppend (mVar 4) (consM (tupM (consM (mVar 6) (consM (mVar 8) (consM (mVar 9) nilM)))) nilM))) s2 h3 = .nx s2 h4 := by
      refine s_expr (d := .non) ?_
      have ty : tyB .lst h3 (.ref f) = true := by simp [tyB, lst_of ef3]
      have ga : gAppend (.ref f) [sayD Q] h3 = .ok .non h4 := by
        unfold gAppend
        dsimp only
        rw [ef3]
        dsimp only
        rw [if_pos ⟨rfl, by unfold line; simp; omega⟩]
      have tq : (tupM (consM (mVar 6) (consM (mVar 8) (consM (mVar 9) nilM)))) s2 h3 = .ok (sayD Q) h3 := by
        simp only [s2, sgR, ap_tup, ap_cons, ap_nil, ap_var, bnd_ok, List.getElem?_cons_succ, List.getElem?_cons_zero, optV_some]
        rw [if_pos ⟨rfl, by unfold line; simp⟩]
        rfl
      rw [ap_mt, ap_var]
      show ((optV (some (some (.ref f))) h3).bnd _) = _
      rw [optV_some, bnd_ok, if_pos ty, ap_cons, tq, bnd_ok, ap_nil, bnd_ok, bnd_ok]
      exact ga
    have st4 : (setS 3 (mVar 10)) s2 h4 = .nx s3 h4 := s_set (d := .int (q.th : Int)) rfl rfl
    refine ⟨q.th, Q, some (.str s), some (.tup (bs.map Br.d)), some (.str q.hr), some (.str q.w), some (.int (q.th : Int)), h4, c3, s_seq (s_iff c1 rfl) (s_seq st1 (s_seq st2 (s_seq st3 st4))), hq.2.2, ?_, ?_, x3.setN hf, d3⟩
    · show (smS s && (smS q.hr && smS q.w)) = true
      have w1 : smS q.w = true := by
        rcases hq.2.1 with u | u
        · exact smS_nm u
        · rw [u]; exact smS_flt
      rw [smS_nm (G.hn _ S.sh), smS_nm (G.hn _ hq.1), w1]
      rfl
    · simp only [h4]
      rw [List.getElem?_set_self (get_lt ef3), List.map_append]
      rfl
theorem law_row_ok (G : Good hands weak pls) {p m c : Nat} (x : Pot p c h) (hc : c + 1000 < 1099511627776) (hm : m ≤ 400) :
    ∃ (L : List (Nm × Nm × Nm)) (h' : MH) (c' : Nat), F__law_row [.ref p, .tup (pls.map plD), .int (m : Int)] h = .ok (.tup (L.map sayD)) h' ∧ AllSm L ∧ L.length ≤ m ∧ Pot p c' h' ∧ c' ≤ c + m := by
  have hp := x.lt
  let f := h.length
  let h1 : MH := h ++ [MO.lst []]
  let I : Nat → Sg → MH → Prop := fun j s g => ∃ (here : Nat) (L : List (Nm × Nm × Nm)) (x5 x6 x7 x8 x9 x10 : Option D) (c' : Nat), s = sgR p (.tup (pls.map plD)) m here f x5 x6 x7 x8 x9 x10 ∧ here < pls.length ∧ AllSm L ∧ L.length ≤ j ∧ g[f]? = some (.lst (L.map sayD)) ∧ Pot p c' g ∧ c' ≤ c + j
  let Rr : D → MH → Prop := fun d g => ∃ (L : List (Nm × Nm × Nm)) (c' : Nat), d = .tup (L.map sayD) ∧ AllSm L ∧ L.length ≤ m ∧ Pot p c' g ∧ c' ≤ c + m
  let src : Src := ⟨(List.range m).map fun i : Nat => .int (0 + (i : Int)), []⟩
  have hfp : f ≠ p := by show h.length ≠ p; omega
  have st0 : (set2S 3 4 (consM (retM (.int 0)) (consM (ownM (lstM nilM)) nilM))) [some (.ref p), some (.tup (pls.map plD)), some (.int (m : Int)), none, none, none, none, none, none, none, none] h = .nx (sgR p (.tup (pls.map plD)) m 0 f none none none none none none) h1 := by
    unfold set2S
    rw [as_run, ap_cons, ap_ret, bnd_ok, ap_cons, ap_own, ap_lst, ap_nil, bnd_ok, if_pos ⟨rfl, by unfold line; simp⟩, own_tl, bnd_ok, ap_nil, bnd_ok, bnd_ok, bndS_ok]
    rfl
  have er : range1V [.int (m : Int)] h1 = .ok src h1 := range1_nat (by omega)
  have key := forL_or (src := src) (p := .nm 5) (b := rowB) I Rr src.items 0 (sgR p (.tup (pls.map plD)) m 0 f none none none none none none) h1 (fun _ _ _ _ _ _ => ok_nil) (fun j d s g _ ed hI => by
    obtain ⟨here, L, x5, x6, x7, x8, x9, x10, c', rfl, hh, sm, lL, ef, xx, dc⟩ := hI
    have jm : j < m := by
      have := (List.getElem?_eq_some_iff.mp ed).1
      simp [src] at this
      omega
    obtain ⟨i, _, rfl⟩ := List.mem_map.mp (List.mem_of_getElem? ed)
    refine ⟨sgR p (.tup (pls.map plD)) m here f (some (.int (0 + (i : Int)))) x6 x7 x8 x9 x10, by simp [sgR], ?_⟩
    rcases rowB_ok (m := m) G xx (by omega) ef hfp hh sm (by omega) (some (.int (0 + (i : Int)))) x6 x7 x8 x9 x10 with e | ⟨here', q, y6, y7, y8, y9, y10, h', c2, e, hh', sq, ef', xx', dc'⟩
    · exact .inr ⟨_, _, e, L, c', rfl, sm, by omega, xx, by omega⟩
    · refine .inl ⟨_, _, e, here', L ++ [q], _, _, _, _, _, _, c2, rfl, hh', ?_, by simp; omega, ef', xx', by omega⟩
      intro z hz
      rcases List.mem_append.mp hz with hz | hz
      · exact sm z hz
      · rw [List.mem_singleton.mp hz]; exact sq) ⟨0, [], none, none, none, none, none, none, c, rfl, by have := G.p1; omega, (fun _ h => by cases h), Nat.le_refl _, by simp [h1, f], x.grow _, by omega⟩
  have sf : (srcA range1V (consM (mVar 2) nilM)) (sgR p (.tup (pls.map plD)) m 0 f none none none none none none) h1 = .ok src h1 := by
    rw [ap_src, ap_cons, ap_var]
    show ((((optV (some (some (.int (m : Int)))) h1).bnd _)).bnd _) = _
    rw [optV_some, bnd_ok, ap_nil, bnd_ok, bnd_ok, er]
  rcases key with ⟨σ2, g2, el, here, L, x5, x6, x7, x8, x9, x10, c', rfl, hh, sm, lL, ef, xx, dc⟩ | ⟨y, g2, el, L, c', rfl, sm, lL, xx, dc⟩
  · have sl : src.items.length = m := by simp [src]
    rw [sl] at lL dc
    refine ⟨L, g2, c', fn_rt rfl (s_seq st0 (s_seq (s_for (src := src) (b := rowB) (h1 := h1) sf el) (s_ret (d := .tup (L.map sayD)) ?_ rfl))), sm, by omega, xx, by omega⟩
    simp only [sgR, ap_op1, ap_var, List.getElem?_cons_succ, List.getElem?_cons_zero, optV_some, bnd_ok]
    exact gTuple_lst (lst_of ef)
  · exact ⟨L, g2, c', fn_rt rfl (s_seq st0 (s_seq_rt (s_for (src := src) (b := rowB) (h1 := h1) sf el))), sm, lL, xx, dc⟩
end HD
end
noncomputable section
set_option Elab.async false
set_option linter.all false
set_option maxRecDepth 100000
set_option maxHeartbeats 4000000
namespace HD
open PySem PySem.Spec L2 Dn
variable {h h1 h2 : MH}
variable {hands weak : List Nm} {pls : List Pl}
def Sm (n w dp : Nat) (h : MH) (d : D) : Prop := ∃ q, deepOf n h d = some q ∧ smP q = true ∧ wP q ≤ w ∧ q.depth ≤ dp
def ItS (h : MH) (i : It) : Prop := ItOk h i ∧ Sm 6 60 2 h i.d
def WtS (h : MH) (w : Wt) : Prop := WtOk h w ∧ Sm 7 40000 3 h w.d
theorem allO_mono {α β : Type} {f g : α → Option β} (hf : ∀ a b, f a = some b → g a = some b) : ∀ {as : List α} {bs : List β}, allO f as = some bs → allO g as = some bs
  | [], bs, e => e
  | a :: as, bs, e => by
    unfold allO at e ⊢
    cases e1 : f a with
    | none => rw [e1] at e; cases e
    | some b =>
      rw [e1] at e
      cases e2 : allO f as with
      | none => rw [e2] at e; cases e
      | some cs =>
        rw [e2] at e
        rw [hf a b e1, allO_mono hf e2]
        exact e
theorem lstOf_grow {d : D} {ds : List D} {g : MH} (e : lstOf h d = some ds) : lstOf (h ++ g) d = some ds := by
  cases d with
  | tl es => exact e
  | ref n =>
    unfold lstOf at e ⊢
    dsimp only at e ⊢
    cases e1 : h[n]? with
    | none => rw [e1] at e; cases e
    | some o =>
      rw [e1] at e
      rw [get_grow e1]
      exact e
  | _ => cases e
theorem deep_grow {g : MH} : ∀ (n : Nat) {d : D} {q : PyData}, deepOf n h d = some q → deepOf n (h ++ g) d = some q
  | 0, _, _, e => by cases e
  | n + 1, d, q, e => by
    unfold deepOf at e ⊢
    by_cases c : d.pure = true
    · rw [if_pos c] at e ⊢
      exact e
    · rw [if_neg c] at e ⊢
      have ih : ∀ a b, deepOf n h a = some b → deepOf n (h ++ g) a = some b := fun a b e => deep_grow n e
      split at e
      · obtain ⟨ps, e1, rfl⟩ := Option.map_eq_some_iff.mp e
        show (allO (deepOf n (h ++ g)) _).map PyData.tuple = _
        rw [allO_mono ih e1]
        rfl
      · rename_i hne
        cases el : lstOf h d with
        | none => rw [el] at e; cases e
        | some ds =>
          rw [el] at e
          obtain ⟨ps, e1, rfl⟩ := Option.map_eq_some_iff.mp e
          rw [lstOf_grow el]
          show (allO (deepOf n (h ++ g)) ds).map PyData.list = _
          rw [allO_mono ih e1]
          rfl
theorem Sm.grow {n w dp : Nat} {d : D} {g : MH} (s : Sm n w dp h d) : Sm n w dp (h ++ g) d := by
  obtain ⟨q, e, a⟩ := s
  exact ⟨q, deep_grow n e, a⟩
theorem WtS.grow {w : Wt} {g : MH} (s : WtS h w) : WtS (h ++ g) w := ⟨s.1.grow, s.2.grow⟩
theorem sm_deep_tup {n : Nat} {ds : List D} {qs : List PyData} (e : allO (deepOf (n + 1) h) ds = some qs) : deepOf (n + 2) h (.tup ds) = some (.tuple qs) := by
  unfold deepOf
  by_cases c : (D.tup ds).pure = true
  · rw [if_pos c]
    have := allO_pure (n := n) (h := h) (ds := ds) (by simpa only [D.pure] using c)
    rw [this] at e
    cases e
    simp only [D.py]
  · rw [if_neg c]
    show (allO (deepOf (n + 1) h) ds).map PyData.tuple = _
    rw [e]
    rfl
theorem sm_row_of {α : Type} (f : α → D) {n w dp : Nat} : ∀ {as : List α}, (∀ a ∈ as, Sm (n + 1) w dp h (f a)) → ∃ qs, allO (deepOf (n + 1) h) (as.map f) = some qs ∧ smPL qs = true ∧ wPL qs ≤ (w + 2) * as.length ∧ PyData.depthAll qs ≤ dp
  | [], _ => ⟨[], rfl, rfl, Nat.zero_le _, by simp [PyData.depthAll]⟩
  | a :: as, ha => by
    obtain ⟨qs, e1, s1, w1, d1⟩ := sm_row_of f (as := as) fun b hb => ha b (List.mem_cons_of_mem _ hb)
    obtain ⟨q, e2, s2, w2, d2⟩ := ha a List.mem_cons_self
    refine ⟨q :: qs, ?_, by simp only [smPL, s1, s2, Bool.and_self], ?_, ?_⟩
    · rw [List.map_cons]
      unfold allO
      rw [e2, e1]
    · simp only [wPL, List.length_cons]
      rw [Nat.mul_succ]
      omega
    · simp only [PyData.depthAll]
      omega
theorem row_S {is : List It} (hi : ∀ i ∈ is, ItS h i) (hl : is.length ≤ 450) : WtS h (.row is) := by
  obtain ⟨qs, e, s, w, d⟩ := sm_row_of (n := 5) It.d (as := is) fun i m => (hi i m).2
  refine ⟨⟨fun i m => (hi i m).1, by omega⟩, .tuple qs, sm_deep_tup e, by simpa only [smP] using s, ?_, ?_⟩
  · simp only [wP]
    omega
  · simp only [PyData.depth]
    omega
theorem sm_str {x : Nm} (hx : smS x = true) (n : Nat) : Sm (n + 1) 10 0 h (.str x) := ⟨_, deep_pure rfl, by
  unfold smS at hx
  simp only [Bool.and_eq_true, decide_eq_true_eq] at hx
  simp only [D.py, smP, mx_cps, Bool.and_eq_true, decide_eq_true_eq]
  exact hx, by simp [D.py, wP], by simp [D.py, PyData.depth]⟩
theorem Sm.le {n w dp w' dp' : Nat} {d : D} (s : Sm n w dp h d) (a : w ≤ w') (b : dp ≤ dp') : Sm n w' dp' h d := by
  obtain ⟨q, e, s1, s2, s3⟩ := s
  exact ⟨q, e, s1, by omega, by omega⟩
theorem sm_parts {ds : List D} (hd : ∀ d ∈ ds, Sm 5 10 0 h d) (hl : ds.length ≤ 4) : Sm 6 60 2 h (.tup ds) := by
  obtain ⟨qs, e, s, w, d⟩ := sm_row_of (n := 4) (fun d : D => d) (as := ds) hd
  rw [List.map_id'] at e
  refine ⟨.tuple qs, sm_deep_tup e, by simpa only [smP] using s, ?_, ?_⟩
  · simp only [wP]
    omega
  · simp only [PyData.depth]
    omega
theorem sm_non (n : Nat) : Sm (n + 1) 10 0 h .non := ⟨_, deep_pure rfl, rfl, by simp [D.py, wP], by simp [D.py, PyData.depth]⟩
theorem sm_zero (n : Nat) : Sm (n + 1) 10 0 h (.int 0) := ⟨_, deep_pure rfl, rfl, by simp [D.py, wP], by simp [D.py, PyData.depth]⟩
theorem itS_say {a b c : Nm} (ha : smS a = true) (hb : smS b = true) (hc : smS c = true) : ItS h (.say a b c) := ⟨trivial, sm_parts (fun d hd => by
  simp only [List.mem_cons, List.mem_nil_iff, or_false] at hd
  rcases hd with rfl | rfl | rfl
  · exact sm_str ha 4
  · exact sm_str hb 4
  · exact sm_str hc 4) (by simp)⟩
theorem itS_noW {a b : Nm} (ha : smS a = true) (hb : smS b = true) : ItS h (.noW a b) := ⟨trivial, sm_parts (fun d hd => by
  simp only [List.mem_cons, List.mem_nil_iff, or_false] at hd
  rcases hd with rfl | rfl | rfl
  · exact sm_str ha 4
  · exact sm_str hb 4
  · exact sm_non 4) (by simp)⟩
theorem itS_two {a b : Nm} (ha : smS a = true) (hb : smS b = true) : ItS h (.two a b) := ⟨trivial, sm_parts (fun d hd => by
  simp only [List.mem_cons, List.mem_nil_iff, or_false] at hd
  rcases hd with rfl | rfl
  · exact sm_str ha 4
  · exact sm_str hb 4) (by simp)⟩
theorem itS_four {a b c : Nm} (ha : smS a = true) (hb : smS b = true) (hc : smS c = true) : ItS h (.four a b c) := ⟨trivial, sm_parts (fun d hd => by
  simp only [List.mem_cons, List.mem_nil_iff, or_false] at hd
  rcases hd with rfl | rfl | rfl | rfl
  · exact sm_str ha 4
  · exact sm_str hb 4
  · exact sm_str hc 4
  · exact sm_zero 4) (by simp)⟩
theorem itS_non : ItS h .non := ⟨trivial, (sm_non 5).le (by omega) (by omega)⟩
theorem deep_lst {n k : Nat} {ds : List D} {qs : List PyData} (e : h[k]? = some (.lst ds)) (ea : allO (deepOf n h) ds = some qs) : deepOf (n + 1) h (.ref k) = some (.list qs) := by
  unfold deepOf
  rw [if_neg (by simp [D.pure])]
  dsimp only
  rw [lst_of e]
  dsimp only
  rw [ea]
  rfl
theorem itS_lst {n : Nat} {q : Nm × Nm × Nm} (e : h[n]? = some (.lst [.str q.1, .str q.2.1, .str q.2.2])) (sq : smQ q = true) : ItS h (.lst n) := by
  unfold smQ at sq
  simp only [Bool.and_eq_true] at sq
  refine ⟨⟨_, e⟩, ?_⟩
  obtain ⟨qs, e1, s, w, d⟩ := sm_row_of (n := 4) (h := h) (w := 10) (dp := 0) (fun d : D => d) (as := [.str q.1, .str q.2.1, .str q.2.2]) (fun d hd => by
    simp only [List.mem_cons, List.mem_nil_iff, or_false] at hd
    rcases hd with rfl | rfl | rfl
    · exact sm_str sq.1 4
    · exact sm_str sq.2.1 4
    · exact sm_str sq.2.2 4)
  rw [List.map_id'] at e1
  refine ⟨.list qs, deep_lst e e1, by simpa only [smP] using s, ?_, ?_⟩
  · simp only [wP]
    simp at w
    omega
  · simp only [PyData.depth]
    omega
theorem wtS_lst {n : Nat} {L : List (Nm × Nm × Nm)} (e : h[n]? = some (.lst (L.map sayD))) (sm : AllSm L) (hl : L.length ≤ 450) : WtS h (.lst n) := by
  refine ⟨⟨_, e⟩, ?_⟩
  obtain ⟨qs, e1, s, w, d⟩ := sm_row_of (n := 5) (h := h) (w := 60) (dp := 2) sayD (as := L) (fun q hq => by
    have sq := sm q hq
    unfold smQ at sq
    simp only [Bool.and_eq_true] at sq
    exact (itS_say (h := h) sq.1 sq.2.1 sq.2.2).2)
  refine ⟨.list qs, deep_lst e e1, by simpa only [smP] using s, ?_, ?_⟩
  · simp only [wP]
    omega
  · simp only [PyData.depth]
    omega
theorem wtS_says {L : List (Nm × Nm × Nm)} (sm : AllSm L) (hl : L.length ≤ 450) : WtS h (.row (L.map fun q => It.say q.1 q.2.1 q.2.2)) := row_S (fun i hi => by
  obtain ⟨q, hq, rfl⟩ := List.mem_map.mp hi
  have sq := sm q hq
  unfold smQ at sq
  simp only [Bool.and_eq_true] at sq
  exact itS_say sq.1 sq.2.1 sq.2.2) (by simpa using hl)
mutual
theorem smP_py : ∀ d : D, smB d = true → d.pure = true ∧ smP d.py = true ∧ wP d.py ≤ wD d
  | .non, _ => ⟨rfl, rfl, by simp [D.py, wP, wD]⟩
  | .int i, e => ⟨rfl, by simpa only [smB, D.py, smP] using e, by simp [D.py, wP, wD]⟩
  | .str x, e => ⟨rfl, by simpa only [smB, D.py, smP, mx_cps] using e, by simp [D.py, wP, wD]⟩
  | .tup ds, e => by
    obtain ⟨a, b, c⟩ := smP_pyL ds (by simpa only [smB] using e)
    exact ⟨by simpa only [D.pure] using a, by simpa only [D.py, smP] using b, by simp only [D.py, wP, wD]; omega⟩
  | .bl _, e => by simp [smB] at e
  | .ref _, e => by simp [smB] at e
  | .cst _, e => by simp [smB] at e
  | .tl _, e => by simp [smB] at e
theorem smP_pyL : ∀ ds : List D, smL ds = true → pureL ds = true ∧ smPL (pyL ds) = true ∧ wPL (pyL ds) ≤ wL ds
  | [], _ => ⟨rfl, rfl, Nat.le_refl _⟩
  | d :: ds, e => by
    have e' : smB d = true ∧ smL ds = true := by simpa only [smL, Bool.and_eq_true] using e
    obtain ⟨a1, b1, c1⟩ := smP_py d e'.1
    obtain ⟨a2, b2, c2⟩ := smP_pyL ds e'.2
    exact ⟨by simp only [pureL, a1, a2, Bool.and_self], by simp only [pyL, smPL, b1, b2, Bool.and_self], by simp only [pyL, wPL, wL]; omega⟩
end
theorem board_Sm (G : Good hands weak pls) (n : Nat) : Sm (n + 1) 200000 10 h (boardD hands weak pls) := by
  obtain ⟨a, b, c⟩ := board_sm G
  obtain ⟨d, e, f⟩ := smP_py (boardD hands weak pls) (by unfold boardD; simpa only [smB] using a)
  refine ⟨_, deep_pure d, e, ?_, c⟩
  have : wD (boardD hands weak pls) = 3 + wL [handsD hands, handsD weak, .tup (pls.map plD)] := by unfold boardD; rw [wD]
  omega
theorem repr_both (G : Good hands weak pls) {w : Wt} (s : WtS h w) : ∃ t, ∀ g : MH, gReprL (.tl [boardD hands weak pls, w.d]) (h ++ g) = .ok (.str t) (h ++ g) := by
  obtain ⟨q1, e1, s1, w1, d1⟩ := board_Sm (h := h) G 6
  obtain ⟨q2, e2, s2, w2, d2⟩ := s.2
  have e : deepOf 8 h (.tl [boardD hands weak pls, w.d]) = some (.list [q1, q2]) := by
    unfold deepOf
    rw [if_neg (by simp [D.pure])]
    show (allO (deepOf 7 h) [boardD hands weak pls, w.d]).map PyData.list = _
    unfold allO
    rw [e1]
    unfold allO
    rw [e2]
    rfl
  refine ⟨shownD (.list [q1, q2]), fun g => reprL_of (deep_grow 8 e) rfl ?_ ?_ ?_⟩
  · simp only [smP, smPL, s1, s2, Bool.and_self]
  · simp only [wP, wPL]
    omega
  · simp only [PyData.depth, PyData.depthAll]
    omega
end HD
end
noncomputable section
set_option Elab.async false
set_option linter.all false
set_option maxRecDepth 100000
set_option maxHeartbeats 4000000
namespace HD
open PySem PySem.Spec L2 Dn
variable {h h1 h2 : MH}
variable {hands weak : List Nm} {pls : List Pl}
theorem cut_drop {α : Type} (l : List α) (k : Nat) : cutL l (some (k : Int)) none = l.drop k := by
  unfold cutL
  rw [HT.sIx_none, HT.sIx_nat]
  by_cases c : k ≤ l.length
  · rw [Nat.min_eq_left c]
    apply List.take_of_length_le
    simp
  · rw [Nat.min_eq_right (by omega), List.drop_eq_nil_of_le (by omega), List.drop_eq_nil_of_le (by omega)]
    simp
theorem cutG_take {α : Type} (f : α → D) (L : List α) (k : Nat) : cutG (.tup (L.map f)) none (some (k : Int)) h = .ok (.tup ((L.take k).map f)) h := by
  show R.ok (D.tup (cutL (L.map f) none (some (k : Int)))) h = _
  rw [cut_take, List.map_take]
theorem cutG_drop {α : Type} (f : α → D) (L : List α) (k : Nat) : cutG (.tup (L.map f)) (some (k : Int)) none h = .ok (.tup ((L.drop k).map f)) h := by
  show R.ok (D.tup (cutL (L.map f) (some (k : Int)) none)) h = _
  rw [cut_drop, List.map_drop]
theorem gAdd_tt {xs ys : List D} (hl : xs.length + ys.length ≤ 1000000) : gAdd (.tup xs) (.tup ys) h = .ok (.tup (xs ++ ys)) h := by
  unfold gAdd
  dsimp only
  rw [if_pos (by unfold line; omega)]
theorem e_take {α : Type} {f : α → D} {L : List α} {σ : Sg} {i j : Nat} {k : Nat} (hi : σ[i]? = some (some (.tup (L.map f)))) (hj : σ[j]? = some (some (.int (k : Int)))) : (slM (mVar i) (retM .non) (partM (mVar j))) σ h = .ok (.tup ((L.take k).map f)) h := by
  rw [ap_sl, ap_var, hi, optV_some, bnd_ok, ap_ret, bnd_ok]
  show ((partM (mVar j)) σ h).bnd _ = _
  rw [ap_part, ap_var, hj, optV_some, bnd_ok]
  show (R.ok (D.int (k : Int)) h).bnd _ = _
  rw [bnd_ok]
  exact cutG_take f L k
theorem e_drop {α : Type} {f : α → D} {L : List α} {σ : Sg} {i : Nat} {k : Nat} {e : M D} (hi : σ[i]? = some (some (.tup (L.map f)))) (hj : e σ h = .ok (.int (k : Int)) h) : (slM (mVar i) (partM e) (retM .non)) σ h = .ok (.tup ((L.drop k).map f)) h := by
  rw [ap_sl, ap_var, hi, optV_some, bnd_ok, ap_part, hj, bnd_ok]
  show (R.ok (D.int (k : Int)) h).bnd _ = _
  rw [bnd_ok]
  show ((retM D.non) σ h).bnd _ = _
  rw [ap_ret, bnd_ok]
  exact cutG_drop f L k
def optS : Option Nm → D
  | none => .non
  | some x => .str x
abbrev sgO (p : Nat) (B R : D) (x3 x4 x5 x6 x7 x8 x9 x10 x11 : Option D) : Sg := [some (.ref p), some B, some R, x3, x4, x5, x6, x7, x8, x9, x10, x11]
def sayI (q : Nm × Nm × Nm) : It := .say q.1 q.2.1 q.2.2
theorem sayI_d (q : Nm × Nm × Nm) : (sayI q).d = sayD q := rfl
theorem own_tup' (ds : List D) : own (R.ok (.tup ds) h) = R.ok (.tup ds) h := rfl
def someM : M D := ownM (lstM (consM (ownM (op2 gAdd (tupM (consM (mVar 6) nilM)) (slM (mVar 5) (partM (retM (.int 1))) (retM .non)))) (consM (tupM (consM (op2 gIx (mVar 5) (retM (.int 0))) (consM (mVar 6) (consM (op2 gIx (mVar 5) (retM (.int 2))) nilM)))) (consM (ownM (op2 gAdd (slM (mVar 5) (retM .non) (partM (retM (.int 2)))) (tupM (consM (mVar 8) nilM)))) (consM (ownM (slM (mVar 5) (retM .non) (partM (retM (.int 2))))) (consM (op2 gAdd (mVar 5) (tupM (consM (retM (.int 0)) nilM))) (consM (ownM (op1 gList (mVar 5))) (consM (retM .non) nilM))))))))
def itemsO (q : Nm × Nm × Nm) (hn : Nm) (wd : Option Nm) (n : Nat) : List It := [.say hn q.2.1 q.2.2, .say q.1 hn q.2.2, (match wd with
  | some w => .say q.1 q.2.1 w
  | none => .noW q.1 q.2.1), .two q.1 q.2.1, .four q.1 q.2.1 q.2.2, .lst n, .non]
theorem someM_ok {p : Nat} {B R : D} {x3 x4 x7 x9 x10 x11 : Option D} (q : Nm × Nm × Nm) (hn : Nm) (wd : Option Nm) :
    someM (sgO p B R x3 x4 (some (sayD q)) (some (.str hn)) x7 (some (optS wd)) x9 x10 x11) h = .ok (.ref (h.length + 1)) (h ++ [.lst [.str q.1, .str q.2.1, .str q.2.2]] ++ [.lst ((itemsO q hn wd h.length).map It.d)]) := by
  let σ : Sg := sgO p B R x3 x4 (some (sayD q)) (some (.str hn)) x7 (some (optS wd)) x9 x10 x11
  have c1 : cutG (sayD q) (some 1) none h = .ok (.tup [.str q.2.1, .str q.2.2]) h := rfl
  have c2 : cutG (sayD q) none (some 2) h = .ok (.tup [.str q.1, .str q.2.1]) h := rfl
  have p1 : partOf (.int 1) = some (some 1) := rfl
  have p2 : partOf (.int 2) = some (some 2) := rfl
  have p3 : partOf .non = some none := rfl
  have i0 : gIx (sayD q) (.int 0) h = .ok (.str q.1) h := rfl
  have i2 : gIx (sayD q) (.int 2) h = .ok (.str q.2.2) h := rfl
  have v5 : ∀ g : MH, (mVar 5) σ g = .ok (sayD q) g := fun g => rfl
  have v6 : ∀ g : MH, (mVar 6) σ g = .ok (.str hn) g := fun g => rfl
  have v8 : ∀ g : MH, (mVar 8) σ g = .ok (optS wd) g := fun g => rfl
  have ow : (optS wd).st = true := by cases wd <;> rfl
  have e1 : (ownM (op2 gAdd (tupM (consM (mVar 6) nilM)) (slM (mVar 5) (partM (retM (.int 1))) (retM .non)))) σ h = .ok (.tup [.str hn, .str q.2.1, .str q.2.2]) h := by
    rw [ap_own, ap_op2, ap_tup, ap_cons, v6, bnd_ok, ap_nil, bnd_ok, bnd_ok, if_pos ⟨rfl, by unfold line; simp⟩, bnd_ok, ap_sl, v5, bnd_ok, ap_part, ap_ret, bnd_ok]
    show own (((Dn.R.ok (D.int 1) h).bnd _).bnd _) = _
    rw [bnd_ok]
    show own ((((retM D.non) σ h).bnd _).bnd _) = _
    rw [ap_ret, bnd_ok]
    show own ((cutG (sayD q) (some 1) none h).bnd _) = _
    rw [c1, bnd_ok, gAdd_tt (by simp)]
    rfl
  have e2 : (tupM (consM (op2 gIx (mVar 5) (retM (.int 0))) (consM (mVar 6) (consM (op2 gIx (mVar 5) (retM (.int 2))) nilM)))) σ h = .ok (.tup [.str q.1, .str hn, .str q.2.2]) h := by
    rw [ap_tup, ap_cons, ap_op2, v5, bnd_ok, ap_ret, bnd_ok, i0, bnd_ok, ap_cons, v6, bnd_ok, ap_cons, ap_op2, v5, bnd_ok, ap_ret, bnd_ok, i2, bnd_ok, ap_nil, bnd_ok, bnd_ok, bnd_ok, bnd_ok, if_pos ⟨rfl, by unfold line; simp⟩]
  have s2 : (slM (mVar 5) (retM .non) (partM (retM (.int 2)))) σ h = .ok (.tup [.str q.1, .str q.2.1]) h := by
    rw [ap_sl, v5, bnd_ok, ap_ret, bnd_ok]
    show ((partM (retM (.int 2))) σ h).bnd _ = _
    rw [ap_part, ap_ret, bnd_ok]
    show (Dn.R.ok (D.int 2) h).bnd _ = _
    rw [bnd_ok]
    exact c2
  have e3 : (ownM (op2 gAdd (slM (mVar 5) (retM .non) (partM (retM (.int 2)))) (tupM (consM (mVar 8) nilM)))) σ h = .ok (.tup [.str q.1, .str q.2.1, optS wd]) h := by
    rw [ap_own, ap_op2, s2, bnd_ok, ap_tup, ap_cons, v8, bnd_ok, ap_nil, bnd_ok, bnd_ok, if_pos ⟨by simp [ow], by unfold line; simp⟩, bnd_ok, gAdd_tt (by simp)]
    rfl
  have e4 : (ownM (slM (mVar 5) (retM .non) (partM (retM (.int 2))))) σ h = .ok (.tup [.str q.1, .str q.2.1]) h := by
    rw [ap_own, s2]
    rfl
  have e5 : (op2 gAdd (mVar 5) (tupM (consM (retM (.int 0)) nilM))) σ h = .ok (.tup [.str q.1, .str q.2.1, .str q.2.2, .int 0]) h := by
    rw [ap_op2, v5, bnd_ok, ap_tup, ap_cons, ap_ret, bnd_ok, ap_nil, bnd_ok, bnd_ok, if_pos ⟨rfl, by unfold line; simp⟩, bnd_ok]
    show gAdd (.tup [.str q.1, .str q.2.1, .str q.2.2]) (.tup [.int 0]) h = _
    rw [gAdd_tt (by simp)]
    rfl
  have e6 : (ownM (op1 gList (mVar 5))) σ h = .ok (.ref h.length) (h ++ [.lst [.str q.1, .str q.2.1, .str q.2.2]]) := by
    rw [ap_own, ap_op1, v5, bnd_ok]
    rfl
  unfold someM
  rw [ap_own, ap_lst, ap_cons, e1, bnd_ok, ap_cons, e2, bnd_ok, ap_cons, e3, bnd_ok, ap_cons, e4, bnd_ok, ap_cons, e5, bnd_ok, ap_cons, e6, bnd_ok, ap_cons, ap_ret, bnd_ok, ap_nil, bnd_ok, bnd_ok, bnd_ok, bnd_ok, bnd_ok, bnd_ok, bnd_ok, bnd_ok]
  rw [if_pos ⟨rfl, by unfold line; simp⟩, own_tl]
  have il : (itemsO q hn wd h.length).map It.d = [.tup [.str hn, .str q.2.1, .str q.2.2], .tup [.str q.1, .str hn, .str q.2.2], .tup [.str q.1, .str q.2.1, optS wd], .tup [.str q.1, .str q.2.1], .tup [.str q.1, .str q.2.1, .str q.2.2, .int 0], .ref h.length, .non] := by
    cases wd <;> rfl
  rw [il]
  simp
theorem itemsO_S {q : Nm × Nm × Nm} {hn : Nm} {wd : Option Nm} {n : Nat} (sq : smQ q = true) (sh : smS hn = true) (sw : ∀ w, wd = some w → smS w = true) (e : h[n]? = some (.lst [.str q.1, .str q.2.1, .str q.2.2])) : ∀ i ∈ itemsO q hn wd n, ItS h i := by
  intro i hi
  have sq' := sq
  unfold smQ at sq'
  simp only [Bool.and_eq_true] at sq'
  unfold itemsO at hi
  simp only [List.mem_cons, List.mem_nil_iff, or_false] at hi
  rcases hi with rfl | rfl | rfl | rfl | rfl | rfl | rfl
  · exact itS_say sh sq'.2.1 sq'.2.2
  · exact itS_say sq'.1 sh sq'.2.2
  · cases wd with
    | none => exact itS_noW sq'.1 sq'.2.1
    | some w => exact itS_say sq'.1 sq'.2.1 (sw w rfl)
  · exact itS_two sq'.1 sq'.2.1
  · exact itS_four sq'.1 sq'.2.1 sq'.2.2
  · exact itS_lst e sq
  · exact itS_non
def restM : M D := ownM (lstM (consM (ownM (op2 gAdd (slM (mVar 2) (retM .non) (partM (mVar 4))) (slM (mVar 2) (partM (op2 gAdd (mVar 4) (retM (.int 1)))) (retM .non)))) (consM (ownM (op2 gAdd (op2 gAdd (slM (mVar 2) (retM .non) (partM (mVar 4))) (tupM (consM (mVar 5) nilM))) (slM (mVar 2) (partM (mVar 4)) (retM .non)))) (consM (op2 gAdd (mVar 2) (tupM (consM (mVar 5) nilM))) (consM (ownM (op1 gList (mVar 2))) (consM (ownM (slM (mVar 2) (partM (mVar 4)) (retM .non))) nilM))))))
def restL (L : List (Nm × Nm × Nm)) (k : Nat) (q : Nm × Nm × Nm) (n : Nat) : List Wt := [.row ((L.take k ++ L.drop (k + 1)).map sayI), .row ((L.take k ++ [q] ++ L.drop k).map sayI), .row ((L ++ [q]).map sayI), .lst n, .row ((L.drop k).map sayI)]
theorem row_d (L : List (Nm × Nm × Nm)) : (Wt.row (L.map sayI)).d = .tup (L.map sayD) := by
  simp only [Wt.d, List.map_map]
  rfl
theorem restM_ok {p k : Nat} {B : D} {L : List (Nm × Nm × Nm)} {x3 x6 x7 x8 x9 x10 x11 : Option D} (q : Nm × Nm × Nm) (hl : L.length ≤ 400) :
    restM (sgO p B (.tup (L.map sayD)) x3 (some (.int (k : Int))) (some (sayD q)) x6 x7 x8 x9 x10 x11) h = .ok (.ref (h.length + 1)) (h ++ [.lst (L.map sayD)] ++ [.lst ((restL L k q h.length).map Wt.d)]) := by
  let σ : Sg := sgO p B (.tup (L.map sayD)) x3 (some (.int (k : Int))) (some (sayD q)) x6 x7 x8 x9 x10 x11
  have v2 : ∀ g : MH, (mVar 2) σ g = .ok (.tup (L.map sayD)) g := fun g => rfl
  have v5 : ∀ g : MH, (mVar 5) σ g = .ok (sayD q) g := fun g => rfl
  have a1 : ∀ g : MH, (op2 gAdd (mVar 4) (retM (.int 1))) σ g = .ok (.int ((k + 1 : Nat) : Int)) g := fun g => rfl
  have l1 : (L.take k).length ≤ L.length := by simp; omega
  have l2 : (L.drop k).length ≤ L.length := by simp
  have l3 : (L.drop (k + 1)).length ≤ L.length := by simp
  have t1 : ∀ g : MH, (slM (mVar 2) (retM .non) (partM (mVar 4))) σ g = .ok (.tup ((L.take k).map sayD)) g := fun g => e_take (h := g) (f := sayD) (L := L) (σ := σ) (i := 2) (j := 4) (k := k) rfl rfl
  have t2 : ∀ g : MH, (slM (mVar 2) (partM (op2 gAdd (mVar 4) (retM (.int 1)))) (retM .non)) σ g = .ok (.tup ((L.drop (k + 1)).map sayD)) g := fun g => e_drop (h := g) (f := sayD) (L := L) (σ := σ) (i := 2) (k := k + 1) rfl (a1 g)
  have t3 : ∀ g : MH, (slM (mVar 2) (partM (mVar 4)) (retM .non)) σ g = .ok (.tup ((L.drop k).map sayD)) g := fun g => e_drop (h := g) (f := sayD) (L := L) (σ := σ) (i := 2) (k := k) rfl rfl
  have tq : ∀ g : MH, (tupM (consM (mVar 5) nilM)) σ g = .ok (.tup [sayD q]) g := fun g => by rw [ap_tup, ap_cons, v5, bnd_ok, ap_nil, bnd_ok, bnd_ok, if_pos ⟨rfl, by unfold line; simp⟩]
  have e1 : (ownM (op2 gAdd (slM (mVar 2) (retM .non) (partM (mVar 4))) (slM (mVar 2) (partM (op2 gAdd (mVar 4) (retM (.int 1)))) (retM .non)))) σ h = .ok (.tup ((L.take k ++ L.drop (k + 1)).map sayD)) h := by
    rw [ap_own, ap_op2, t1, bnd_ok, t2, bnd_ok, gAdd_tt (by simp only [List.length_map]; omega), List.map_append]
    rfl
  have e2 : (ownM (op2 gAdd (op2 gAdd (slM (mVar 2) (retM .non) (partM (mVar 4))) (tupM (consM (mVar 5) nilM))) (slM (mVar 2) (partM (mVar 4)) (retM .non)))) σ h = .ok (.tup ((L.take k ++ [q] ++ L.drop k).map sayD)) h := by
    rw [ap_own, ap_op2, ap_op2, t1, bnd_ok, tq, bnd_ok, gAdd_tt (by simp only [List.length_map, List.length_singleton]; omega), bnd_ok, t3, bnd_ok, gAdd_tt (by simp only [List.length_map, List.length_append, List.length_singleton]; omega), List.map_append, List.map_append]
    rfl
  have e3 : (op2 gAdd (mVar 2) (tupM (consM (mVar 5) nilM))) σ h = .ok (.tup ((L ++ [q]).map sayD)) h := by
    rw [ap_op2, v2, bnd_ok, tq, bnd_ok, gAdd_tt (by simp only [List.length_map, List.length_singleton]; omega), List.map_append]
    rfl
  have e4 : (ownM (op1 gList (mVar 2))) σ h = .ok (.ref h.length) (h ++ [.lst (L.map sayD)]) := by
    rw [ap_own, ap_op1, v2, bnd_ok]
    rfl
  have e5 : (ownM (slM (mVar 2) (partM (mVar 4)) (retM .non))) σ (h ++ [.lst (L.map sayD)]) = .ok (.tup ((L.drop k).map sayD)) (h ++ [.lst (L.map sayD)]) := by
    rw [ap_own, t3]
    rfl
  unfold restM
  rw [ap_own, ap_lst, ap_cons, e1, bnd_ok, ap_cons, e2, bnd_ok, ap_cons, e3, bnd_ok, ap_cons, e4, bnd_ok, ap_cons, e5, bnd_ok, ap_nil, bnd_ok, bnd_ok, bnd_ok, bnd_ok, bnd_ok, bnd_ok]
  rw [if_pos ⟨rfl, by unfold line; simp⟩, own_tl]
  have il : (restL L k q h.length).map Wt.d = [.tup ((L.take k ++ L.drop (k + 1)).map sayD), .tup ((L.take k ++ [q] ++ L.drop k).map sayD), .tup ((L ++ [q]).map sayD), .ref h.length, .tup ((L.drop k).map sayD)] := by
    simp only [restL, List.map_cons, List.map_nil, row_d]
    rfl
  rw [il]
  simp
theorem sm_sub {L M : List (Nm × Nm × Nm)} (sm : AllSm L) (s : ∀ x ∈ M, x ∈ L) : AllSm M := fun q hq => sm q (s q hq)
theorem restL_S {L : List (Nm × Nm × Nm)} {k n : Nat} {q : Nm × Nm × Nm} (sm : AllSm L) (sq : smQ q = true) (hl : L.length ≤ 400) (e : h[n]? = some (.lst (L.map sayD))) : ∀ w ∈ restL L k q n, WtS h w := by
  intro w hw
  unfold restL at hw
  simp only [List.mem_cons, List.mem_nil_iff, or_false] at hw
  have l1 : (L.take k).length ≤ L.length := by simp; omega
  have l2 : (L.drop k).length ≤ L.length := by simp
  have l3 : (L.drop (k + 1)).length ≤ L.length := by simp
  have l4 : (L.take k).length + (L.drop (k + 1)).length ≤ L.length := by simp; omega
  have s1 : AllSm (L.take k) := sm_sub sm fun x hx => List.mem_of_mem_take hx
  have s2 : AllSm (L.drop k) := sm_sub sm fun x hx => List.mem_of_mem_drop hx
  have s3 : AllSm (L.drop (k + 1)) := sm_sub sm fun x hx => List.mem_of_mem_drop hx
  have s4 : AllSm [q] := fun x hx => by rw [List.mem_singleton.mp hx]; exact sq
  have ap : ∀ {A B : List (Nm × Nm × Nm)}, AllSm A → AllSm B → AllSm (A ++ B) := fun a b x hx => (List.mem_append.mp hx).elim (a x) (b x)
  rcases hw with rfl | rfl | rfl | rfl | rfl
  · exact wtS_says (ap s1 s3) (by rw [List.length_append]; omega)
  · exact wtS_says (ap (ap s1 s4) s2) (by rw [List.length_append, List.length_append, List.length_singleton]; simp; omega)
  · exact wtS_says (ap sm s4) (by rw [List.length_append, List.length_singleton]; omega)
  · exact wtS_lst e sm (by omega)
  · exact wtS_says s2 (by omega)
end HD
end
noncomputable section
set_option Elab.async false
set_option linter.all false
set_option maxRecDepth 100000
set_option maxHeartbeats 4000000
namespace HD
open PySem PySem.Spec L2 Dn
variable {h h1 h2 : MH}
variable {hands weak : List Nm} {pls : List Pl}
theorem take_any {i p : Nat} {σ : Sg} {e : M D} {m : Int} (hp : σ[i]? = some (some (.ref p))) (he : e σ h = .ok (.int m) h) : (fcallM F__law_take [] (consM (mVar i) (consM e nilM))) σ h = F__law_take [.ref p, .int m] h := by
  simp only [ap_call, ap_cons, ap_nil, ap_var, hp, optV_some, bnd_ok, he]
  simp
theorem gEq_nil (neg : Bool) (L : List (Nm × Nm × Nm)) : gEq neg (.tup (L.map sayD)) (.tup []) h = .ok (.bl (if neg then !L.isEmpty else L.isEmpty)) h := by
  have pr : pureL (L.map sayD) = true := by rw [pureL_eq]; simp [sayD, D.pure, pureL]
  rw [gEq_pure (by simpa only [D.pure] using pr) rfl (by
    have : (D.tup []).py.depth = 1 := by simp [D.py, pyL, PyData.depth, PyData.depthAll]
    omega)]
  cases L with
  | nil => simp [D.py, pyL, PyData.eqv, PyData.eqvAll]
  | cons q L => simp [D.py, pyL, PyData.eqv, PyData.eqvAll]
theorem otherwise_ok (G : Good hands weak pls) {p c : Nat} {L : List (Nm × Nm × Nm)} (sm : AllSm L) (hl : L.length ≤ 400) (x : Pot p c h) (hc : c + 100 < 1099511627776) :
    ∃ (w : Wt) (h' : MH) (c' : Nat), F__law_otherwise [.ref p, boardD hands weak pls, .tup (L.map sayD)] h = .ok w.d h' ∧ WtS h' w ∧ Pot p c' h' ∧ c' ≤ c + 10 := by
  have h2' := G.h2
  have h6 := G.h6
  let B := boardD hands weak pls
  let R : D := .tup (L.map sayD)
  let HH := handsD hands
  let m1 : Int := if (L.length : Int) > 1 then (L.length : Int) else 1
  have m1a : 1 ≤ m1 := by show 1 ≤ (if (L.length : Int) > 1 then (L.length : Int) else 1); split <;> omega
  have m1b : m1 < 1000 := by show (if (L.length : Int) > 1 then (L.length : Int) else 1) < 1000; split <;> omega
  obtain ⟨r1, g1, c1, e1, ⟨a1, b1⟩, f1, x1, d1⟩ := take_ok (m := m1) x m1a (by omega) (by omega)
  let k := r1.toNat
  have er1 : r1 = ((k : Nat) : Int) := by show r1 = ((r1.toNat : Nat) : Int); omega
  have st3 : (setS 3 (op2 gIx (mVar 1) (retM (.int 0)))) (sgO p B R none none none none none none none none none) h = .nx (sgO p B R (some HH) none none none none none none none none) h := s_set rfl rfl
  have st4 : (setS 4 (fcallM F__law_take [] (consM (mVar 0) (consM (op2 gMax (retM (.int 1)) (op1 gLen (mVar 2))) nilM)))) (sgO p B R (some HH) none none none none none none none none) h = .nx (sgO p B R (some HH) (some (.int (k : Int))) none none none none none none none) g1 := by
    refine s_set (d := .int (k : Int)) ?_ rfl
    rw [take_any (i := 0) (p := p) (m := m1) rfl (by
      rw [ap_op2, ap_ret, bnd_ok, ap_op1, ap_var]
      show ((optV (some (some R)) h).bnd gLen).bnd _ = _
      rw [optV_some, bnd_ok]
      show (gLen (.tup (L.map sayD)) h).bnd _ = _
      rw [gLen_tup', bnd_ok, List.length_map]
      rfl), e1, er1]
  obtain ⟨q, sq, st5⟩ : ∃ q : Nm × Nm × Nm, smQ q = true ∧ (setS 5 (ifM (asB (op2 (gEq true) (mVar 2) (tupM nilM))) (op2 gIx (mVar 2) (mVar 4)) (tupM (consM (op2 gIx (mVar 3) (retM (.int 0))) (consM (op2 gIx (mVar 3) (retM (.int 1))) (consM (retM (.str [103, 111])) nilM)))))) (sgO p B R (some HH) (some (.int (k : Int))) none none none none none none none) g1 = .nx (sgO p B R (some HH) (some (.int (k : Int))) (some (sayD q)) none none none none none none) g1 := by
    have ec : (asB (op2 (gEq true) (mVar 2) (tupM nilM))) (sgO p B R (some HH) (some (.int (k : Int))) none none none none none none none) g1 = .ok (!L.isEmpty) g1 := by
      rw [ap_asB, ap_op2, ap_var]
      show ((optV (some (some R)) g1).bnd _).bnd _ = _
      rw [optV_some, bnd_ok, ap_tup, ap_nil, bnd_ok, if_pos ⟨rfl, by unfold line; simp⟩, bnd_ok, gEq_nil, bnd_ok]
      rfl
    cases eL : L with
    | nil =>
      obtain ⟨y0, y1, hr, ehs⟩ : ∃ y0 y1 hr, hands = y0 :: y1 :: hr := by
        cases hands with
        | nil => simp at h2'
        | cons a r =>
          cases r with
          | nil => simp at h2'
          | cons b r => exact ⟨a, b, r, rfl⟩
      refine ⟨(y0, y1, [103, 111]), ?_, s_set (d := sayD (y0, y1, [103, 111])) ?_ rfl⟩
      · unfold smQ
        rw [smS_nm (G.hn y0 (by simp [ehs])), smS_nm (G.hn y1 (by simp [ehs]))]
        show (true && (true && smS [103, 111])) = true
        decide
      · rw [eL] at ec
        have i0 : gIx HH (.int 0) g1 = .ok (.str y0) g1 := by
          show gIx (.tup (hands.map D.str)) (.int 0) g1 = _
          rw [ehs]
          exact gIx_tup (Dn.atI_nat (i := 0) rfl)
        have i1 : gIx HH (.int 1) g1 = .ok (.str y1) g1 := by
          show gIx (.tup (hands.map D.str)) (.int 1) g1 = _
          rw [ehs]
          exact gIx_tup (Dn.atI_nat (i := 1) rfl)
        have ec2 := ec
        rw [← eL] at ec2
        rw [ap_ifM, ec2, eL, bnd_ok, if_neg (by simp), ap_tup, ap_cons, ap_op2, ap_var]
        show (((((optV (some (some HH)) g1).bnd _)).bnd _)).bnd _ = _
        rw [optV_some, bnd_ok, ap_ret, bnd_ok, i0, bnd_ok, ap_cons, ap_op2, ap_var]
        show (((((((optV (some (some HH)) g1).bnd _)).bnd _)).bnd _)).bnd _ = _
        rw [optV_some, bnd_ok, ap_ret, bnd_ok, i1, bnd_ok, ap_cons, ap_ret, bnd_ok, ap_nil, bnd_ok, bnd_ok, bnd_ok, bnd_ok, if_pos ⟨rfl, by unfold line; simp⟩]
        rfl
    | cons z M =>
      have kl : k < L.length := by
        have lp : 1 ≤ L.length := by rw [eL]; simp
        have : m1 ≤ (L.length : Int) := by show (if (L.length : Int) > 1 then (L.length : Int) else 1) ≤ _; split <;> omega
        omega
      obtain ⟨q, eq⟩ : ∃ q, L[k]? = some q := ⟨_, List.getElem?_eq_getElem kl⟩
      have iq : gIx R (.int (k : Int)) g1 = .ok (sayD q) g1 := gIx_tup (Dn.atI_nat (by rw [List.getElem?_map, eq]; rfl))
      refine ⟨q, sm q (List.mem_of_getElem? eq), s_set (d := sayD q) ?_ rfl⟩
      rw [ap_ifM, ec, eL, bnd_ok, if_pos (show (!(z :: M).isEmpty) = true from rfl), ap_op2, ap_var]
      show (optV (some (some R)) g1).bnd _ = _
      rw [optV_some, bnd_ok, ap_var]
      show (optV (some (some (.int (k : Int)))) g1).bnd _ = _
      rw [optV_some, bnd_ok]
      exact iq
  obtain ⟨r2, g2, c2, e2, ⟨a2, b2⟩, f2, x2, d2⟩ := take_ok (m := (hands.length : Int)) x1 (by omega) (by omega) (by omega)
  obtain ⟨hn, ehn⟩ : ∃ y, hands[r2.toNat]? = some y := ⟨_, List.getElem?_eq_getElem (by omega)⟩
  have sh : smS hn = true := smS_nm (G.hn _ (List.mem_of_getElem? ehn))
  have er2 : r2 = ((r2.toNat : Nat) : Int) := by omega
  have ih : gIx HH (.int r2) g2 = .ok (.str hn) g2 := by
    rw [er2]
    exact gIx_tup (Dn.atI_nat (by rw [List.getElem?_map, ehn]; rfl))
  have st6 : (setS 6 (op2 gIx (mVar 3) (fcallM F__law_take [] (consM (mVar 0) (consM (op1 gLen (mVar 3)) nilM))))) (sgO p B R (some HH) (some (.int (k : Int))) (some (sayD q)) none none none none none none) g1 = .nx (sgO p B R (some HH) (some (.int (k : Int))) (some (sayD q)) (some (.str hn)) none none none none none) g2 := by
    refine s_set (d := .str hn) ?_ rfl
    rw [ap_op2, ap_var]
    show (optV (some (some HH)) g1).bnd _ = _
    rw [optV_some, bnd_ok, take_any (i := 0) (p := p) (m := (hands.length : Int)) rfl (by
      rw [ap_op1, ap_var]
      show (optV (some (some HH)) g1).bnd _ = _
      rw [optV_some, bnd_ok]
      show gLen (.tup (hands.map D.str)) g1 = _
      rw [gLen_tup', List.length_map]), e2, bnd_ok, ih]
  let ws : List (Option Nm) := [some q.2.2, some flt, some [113, 113, 113, 113, 113, 113, 113, 122], some [], none]
  let g3 : MH := g2 ++ [.lst (ws.map optS)]
  have st7 : (setS 7 (ownM (lstM (consM (op2 gIx (mVar 5) (retM (.int 2))) (consM (retM (.str [33])) (consM (retM (.str [113, 113, 113, 113, 113, 113, 113, 122])) (consM (retM (.str [])) (consM (retM .non) nilM)))))))) (sgO p B R (some HH) (some (.int (k : Int))) (some (sayD q)) (some (.str hn)) none none none none none) g2 = .nx (sgO p B R (some HH) (some (.int (k : Int))) (some (sayD q)) (some (.str hn)) (some (.ref g2.length)) none none none none) g3 := by
    refine s_set (d := .ref g2.length) ?_ rfl
    have i2 : gIx (sayD q) (.int 2) g2 = .ok (.str q.2.2) g2 := rfl
    rw [ap_own, ap_lst, ap_cons, ap_op2, ap_var]
    show own ((((((optV (some (some (sayD q))) g2).bnd _)).bnd _)).bnd _) = _
    rw [optV_some, bnd_ok, ap_ret, bnd_ok, i2, bnd_ok, ap_cons, ap_ret, bnd_ok, ap_cons, ap_ret, bnd_ok, ap_cons, ap_ret, bnd_ok, ap_cons, ap_ret, bnd_ok, ap_nil, bnd_ok, bnd_ok, bnd_ok, bnd_ok, bnd_ok, bnd_ok, if_pos ⟨rfl, by unfold line; simp⟩]
    rfl
  have x3 : Pot p c2 g3 := x2.grow _
  have ew3 : g3[g2.length]? = some (.lst (ws.map optS)) := by simp [g3]
  have hp3 := x2.lt
  obtain ⟨r4, g4, c4, e4, ⟨a4, b4⟩, f4, x4, d4⟩ := take_ok (m := 5) x3 (by omega) (by omega) (by omega)
  obtain ⟨wd, ewd⟩ : ∃ y, ws[r4.toNat]? = some y := ⟨_, List.getElem?_eq_getElem (by show r4.toNat < 5; omega)⟩
  have er4 : r4 = ((r4.toNat : Nat) : Int) := by omega
  have ew4 := f4.get ew3 (by omega)
  have iw : gIx (.ref g2.length) (.int r4) g4 = .ok (optS wd) g4 := by
    rw [er4]
    exact gIx_lst (lst_of ew4) (Dn.atI_nat (by rw [List.getElem?_map, ewd]; rfl))
  have ow : (optS wd).st = true := by cases wd <;> rfl
  have sw : ∀ w, wd = some w → smS w = true := by
    intro w e
    subst e
    have hm := List.mem_of_getElem? ewd
    simp only [ws, List.mem_cons, List.mem_nil_iff, or_false, Option.some.injEq, reduceCtorEq] at hm
    unfold smQ at sq
    simp only [Bool.and_eq_true] at sq
    rcases hm with rfl | rfl | rfl | rfl
    · exact sq.2.2
    · exact smS_flt
    · decide
    · decide
  have st8 : (setS 8 (op2 gIx (mVar 7) (fcallM F__law_take [] (consM (mVar 0) (consM (retM (.int 5)) nilM))))) (sgO p B R (some HH) (some (.int (k : Int))) (some (sayD q)) (some (.str hn)) (some (.ref g2.length)) none none none none) g3 = .nx (sgO p B R (some HH) (some (.int (k : Int))) (some (sayD q)) (some (.str hn)) (some (.ref g2.length)) (some (optS wd)) none none none) g4 := by
    refine s_set (d := optS wd) ?_ ow
    rw [ap_op2, ap_var]
    show (optV (some (some (.ref g2.length))) g3).bnd _ = _
    rw [optV_some, bnd_ok, take_any (i := 0) (p := p) (m := 5) rfl rfl, e4, bnd_ok, iw]
  let g5 : MH := g4 ++ [.lst [.str q.1, .str q.2.1, .str q.2.2]] ++ [.lst ((itemsO q hn wd g4.length).map It.d)]
  have st9 : (setS 9 someM) (sgO p B R (some HH) (some (.int (k : Int))) (some (sayD q)) (some (.str hn)) (some (.ref g2.length)) (some (optS wd)) none none none) g4 = .nx (sgO p B R (some HH) (some (.int (k : Int))) (some (sayD q)) (some (.str hn)) (some (.ref g2.length)) (some (optS wd)) (some (.ref (g4.length + 1))) none none) g5 := s_set (someM_ok q hn wd) rfl
  have x5 : Pot p c4 g5 := (x4.grow _).grow _
  have hp5 := x4.lt
  have es5 : g5[g4.length + 1]? = some (.lst ((itemsO q hn wd g4.length).map It.d)) := by simp [g5]
  have el5 : g5[g4.length]? = some (.lst [.str q.1, .str q.2.1, .str q.2.2]) := by simp [g5]
  obtain ⟨r6, g6, c6, e6, ⟨a6, b6⟩, f6, x6, d6⟩ := take_ok (m := 12) x5 (by omega) (by omega) (by omega)
  have es6 := f6.get es5 (by omega)
  have el6 := f6.get el5 (by omega)
  let σ (x11 : Option D) : Sg := sgO p B R (some HH) (some (.int (k : Int))) (some (sayD q)) (some (.str hn)) (some (.ref g2.length)) (some (optS wd)) (some (.ref (g4.length + 1))) (some (.int r6)) x11
  have st10 : (setS 10 (fcallM F__law_take [] (consM (mVar 0) (consM (retM (.int 12)) nilM)))) (sgO p B R (some HH) (some (.int (k : Int))) (some (sayD q)) (some (.str hn)) (some (.ref g2.length)) (some (optS wd)) (some (.ref (g4.length + 1))) none none) g5 = .nx (σ none) g6 := by
    refine s_set (d := .int r6) ?_ rfl
    rw [take_any (i := 0) (p := p) (m := 12) rfl rfl, e6]
  have ct : (asB (op2 gLt (mVar 10) (retM (.int 7)))) (σ none) g6 = .ok (decide (r6 < 7)) g6 := by
    rw [ap_asB, ap_op2, ap_var]
    show ((optV (some (some (.int r6))) g6).bnd _).bnd _ = _
    rw [optV_some, bnd_ok, ap_ret, bnd_ok, gLt_int]
    rfl
  have head : ∀ {fin : MS} {d : D} {hE : MH}, fin (σ none) g6 = .rt d hE → (seqS (setS 3 (op2 gIx (mVar 1) (retM (.int 0))))
  (seqS (setS 4 (fcallM F__law_take [] (consM (mVar 0) (consM (op2 gMax (retM (.int 1)) (op1 gLen (mVar 2))) nilM))))
  (seqS (setS 5 (ifM (asB (op2 (gEq true) (mVar 2) (tupM nilM))) (op2 gIx (mVar 2) (mVar 4)) (tupM (consM (op2 gIx (mVar 3) (retM (.int 0))) (consM (op2 gIx (mVar 3) (retM (.int 1))) (consM (retM (.str [103, 111])) nilM))))))
  (seqS (setS 6 (op2 gIx (mVar 3) (fcallM F__law_take [] (consM (mVar 0) (consM (op1 gLen (mVar 3)) nilM)))))
  (seqS (setS 7 (ownM (lstM (consM (op2 gIx (mVar 5) (retM (.int 2))) (consM (retM (.str [33])) (consM (retM (.str [113, 113, 113, 113, 113, 113, 113, 122])) (consM (retM (.str [])) (consM (retM .non) nilM))))))))
  (seqS (setS 8 (op2 gIx (mVar 7) (fcallM F__law_take [] (consM (mVar 0) (consM (retM (.int 5)) nilM)))))
  (seqS (setS 9 someM)
  (seqS (setS 10 (fcallM F__law_take [] (consM (mVar 0) (consM (retM (.int 12)) nilM)))) fin)))))))) (sgO p B R none none none none none none none none none) h = .rt d hE := fun {fin d hE} ef =>
    s_seq st3 (s_seq st4 (s_seq st5 (s_seq st6 (s_seq st7 (s_seq st8 (s_seq st9 (s_seq st10 ef)))))))
  by_cases cc : r6 < 7
  · obtain ⟨i, ei⟩ : ∃ i, (itemsO q hn wd g4.length)[r6.toNat]? = some i := ⟨_, List.getElem?_eq_getElem (by show r6.toNat < 7; omega)⟩
    have iS : ItS g6 i := itemsO_S sq sh sw el6 i (List.mem_of_getElem? ei)
    have er6 : r6 = ((r6.toNat : Nat) : Int) := by omega
    have ix : gIx (.ref (g4.length + 1)) (.int r6) g6 = .ok i.d g6 := by
      rw [er6]
      exact gIx_lst (lst_of es6) (Dn.atI_nat (by rw [List.getElem?_map, ei]; rfl))
    let w : Wt := .row ((L.take k).map sayI ++ [i] ++ (L.drop (k + 1)).map sayI)
    have ed : w.d = .tup ((L.take k).map sayD ++ [i.d] ++ (L.drop (k + 1)).map sayD) := by
      simp only [w, Wt.d, List.map_append, List.map_map, List.map_cons, List.map_nil]
      rfl
    have l4 : (L.take k).length + (L.drop (k + 1)).length ≤ L.length := by simp; omega
    have wS : WtS g6 w := by
      refine row_S (fun j hj => ?_) (by simp only [List.length_append, List.length_map, List.length_singleton]; omega)
      have says : ∀ {M : List (Nm × Nm × Nm)}, (∀ y ∈ M, y ∈ L) → j ∈ M.map sayI → ItS g6 j := fun {M} hs hm => by
        obtain ⟨y, hy, rfl⟩ := List.mem_map.mp hm
        have s := sm y (hs y hy)
        unfold smQ at s
        simp only [Bool.and_eq_true] at s
        exact itS_say s.1 s.2.1 s.2.2
      rcases List.mem_append.mp hj with hj | hj
      · rcases List.mem_append.mp hj with hj | hj
        · exact says (fun y hy => List.mem_of_mem_take hy) hj
        · rw [List.mem_singleton.mp hj]; exact iS
      · exact says (fun y hy => List.mem_of_mem_drop hy) hj
    refine ⟨w, g6, c6, fn_rt rfl (head (s_seq_rt (s_ift (h1 := g6) (by rw [ct]; simp [cc]) (s_ret (d := w.d) ?_ w.st)))), wS, x6, by omega⟩
    have t1 : (slM (mVar 2) (retM .non) (partM (mVar 4))) (σ none) g6 = .ok (.tup ((L.take k).map sayD)) g6 := e_take (f := sayD) (L := L) (i := 2) (j := 4) (k := k) rfl rfl
    have t2 : (slM (mVar 2) (partM (op2 gAdd (mVar 4) (retM (.int 1)))) (retM .non)) (σ none) g6 = .ok (.tup ((L.drop (k + 1)).map sayD)) g6 := e_drop (f := sayD) (L := L) (i := 2) (k := k + 1) rfl rfl
    have tq : (tupM (consM (op2 gIx (mVar 9) (mVar 10)) nilM)) (σ none) g6 = .ok (.tup [i.d]) g6 := by
      rw [ap_tup, ap_cons, ap_op2, ap_var]
      show (((((optV (some (some (.ref (g4.length + 1)))) g6).bnd _)).bnd _)).bnd _ = _
      rw [optV_some, bnd_ok, ap_var]
      show (((((optV (some (some (.int r6))) g6).bnd _)).bnd _)).bnd _ = _
      rw [optV_some, bnd_ok, ix, bnd_ok, ap_nil, bnd_ok, bnd_ok, if_pos ⟨by simp [i.st], by unfold line; simp⟩]
    rw [ap_own, ap_op2, ap_op2, t1, bnd_ok, tq, bnd_ok, gAdd_tt (by simp only [List.length_map, List.length_singleton]; omega), bnd_ok, t2, bnd_ok, gAdd_tt (by simp only [List.length_map, List.length_append, List.length_singleton]; omega), ed]
    rfl
  · let g7 : MH := g6 ++ [.lst (L.map sayD)] ++ [.lst ((restL L k q g6.length).map Wt.d)]
    have er7 : g7[g6.length + 1]? = some (.lst ((restL L k q g6.length).map Wt.d)) := by simp [g7]
    have el7 : g7[g6.length]? = some (.lst (L.map sayD)) := by simp [g7]
    obtain ⟨w, ew⟩ : ∃ w, (restL L k q g6.length)[(r6 - 7).toNat]? = some w := ⟨_, List.getElem?_eq_getElem (by show (r6 - 7).toNat < 5; omega)⟩
    have wS : WtS g7 w := restL_S sm sq hl el7 w (List.mem_of_getElem? ew)
    have er6 : r6 - 7 = (((r6 - 7).toNat : Nat) : Int) := by omega
    have ix : gIx (.ref (g6.length + 1)) (.int (r6 - 7)) g7 = .ok w.d g7 := by
      rw [er6]
      exact gIx_lst (lst_of er7) (Dn.atI_nat (by rw [List.getElem?_map, ew]; rfl))
    have st11 : (setS 11 restM) (σ none) g6 = .nx (σ (some (.ref (g6.length + 1)))) g7 := s_set (restM_ok q hl) rfl
    refine ⟨w, g7, c6, fn_rt rfl (head (s_seq (h1 := g6) (s_iff (h1 := g6) (by rw [ct]; simp [cc]) rfl) (s_seq st11 (s_ret (d := w.d) ?_ w.st)))), wS, (x6.grow _).grow _, by omega⟩
    rw [ap_op2, ap_var]
    show (optV (some (some (.ref (g6.length + 1)))) g7).bnd _ = _
    rw [optV_some, bnd_ok, ap_op2, ap_var]
    show (((optV (some (some (.int r6))) g7).bnd _)).bnd _ = _
    rw [optV_some, bnd_ok, ap_ret, bnd_ok, gSub_ii, bnd_ok, ix]
end HD
end
noncomputable section
set_option Elab.async false
set_option linter.all false
set_option maxRecDepth 100000
set_option maxHeartbeats 4000000
namespace HD
open PySem PySem.Spec L2 Dn
variable {h h1 h2 : MH}
variable {hands weak : List Nm} {pls : List Pl}
theorem told_call (G : Good hands weak pls) {σ : Sg} {i j : Nat} {w : Wt} (o : WtOk h w) (hi : σ[i]? = some (some (boardD hands weak pls))) (hj : σ[j]? = some (some w.d)) : ∃ g, (notB (asB (fcallM F__law_told_right [] (consM (mVar i) (consM (mVar j) nilM))))) σ h = .ok false (h ++ g) := by
  obtain ⟨g, e⟩ := told_right_ok (h := h) G w o
  refine ⟨g, ?_⟩
  rw [ap_notB, ap_asB, e_call2 (h1 := h) (h2 := h) (x := boardD hands weak pls) (y := w.d) (by rw [ap_var, hi, optV_some]) (by rw [ap_var, hj, optV_some]) rfl w.st, e]
  rfl
def otherB : MS := (seqS (setS 8 (fcallM F__law_otherwise [] (consM (mVar 3) (consM (mVar 4) (consM (mVar 5) nilM)))))
  (seqS (setS 9 (op1 gReprL (lstM (consM (mVar 4) (consM (mVar 8) nilM)))))
  (ifS (orB (notB (asB (fcallM F__law_told_right [] (consM (mVar 4) (consM (mVar 8) nilM))))) (asB (op2 (gEq true) (op1 gReprL (lstM (consM (mVar 4) (consM (mVar 8) nilM)))) (mVar 9)))) (retS (retM (.bl false))) skipS)))
abbrev sgQ (p : Nat) (B R : D) (x0 x1 x2 x6 x7 x8 x9 : Option D) : Sg := [x0, x1, x2, some (.ref p), some B, some R, x6, x7, x8, x9]
theorem otherB_ok (G : Good hands weak pls) {p c : Nat} {L : List (Nm × Nm × Nm)} (sm : AllSm L) (hl : L.length ≤ 400) (x : Pot p c h) (hc : c + 100 < 1099511627776) (x0 x1 x2 x6 x7 x8 x9 : Option D) :
    ∃ (y8 y9 : Option D) (h' : MH) (c' : Nat), otherB (sgQ p (boardD hands weak pls) (.tup (L.map sayD)) x0 x1 x2 x6 x7 x8 x9) h = .nx (sgQ p (boardD hands weak pls) (.tup (L.map sayD)) x0 x1 x2 x6 x7 y8 y9) h' ∧ Pot p c' h' ∧ c' ≤ c + 10 := by
  obtain ⟨w, h1, c1, e1, wS, x1', d1⟩ := otherwise_ok G sm hl x hc
  obtain ⟨t, rt⟩ := repr_both G wS
  let B := boardD hands weak pls
  let R : D := .tup (L.map sayD)
  let σ (a b : Option D) : Sg := sgQ p B R x0 x1 x2 x6 x7 a b
  have s1 : (setS 8 (fcallM F__law_otherwise [] (consM (mVar 3) (consM (mVar 4) (consM (mVar 5) nilM))))) (σ x8 x9) h = .nx (σ (some w.d) x9) h1 := by
    refine s_set (d := w.d) ?_ w.st
    rw [ap_call, ap_cons, ap_var]
    show ((((optV (some (some (.ref p))) h).bnd _).bnd _)) = _
    rw [optV_some, bnd_ok, ap_cons, ap_var]
    show ((((((optV (some (some B)) h).bnd _)).bnd _).bnd _)) = _
    rw [optV_some, bnd_ok, ap_cons, ap_var]
    show ((((((((optV (some (some R)) h).bnd _)).bnd _)).bnd _).bnd _)) = _
    rw [optV_some, bnd_ok, ap_nil, bnd_ok, bnd_ok, bnd_ok, bnd_ok]
    exact e1
  have lb : ∀ (y9 : Option D) (g : MH), (lstM (consM (mVar 4) (consM (mVar 8) nilM))) (σ (some w.d) y9) g = .ok (.tl [B, w.d]) g := fun y9 g => e_lst2 (h1 := g) rfl rfl rfl w.st
  have r0 := rt []
  rw [List.append_nil] at r0
  have s2 : (setS 9 (op1 gReprL (lstM (consM (mVar 4) (consM (mVar 8) nilM))))) (σ (some w.d) x9) h1 = .nx (σ (some w.d) (some (.str t))) h1 := s_set (d := .str t) (by rw [ap_op1, lb, bnd_ok]; exact r0) rfl
  obtain ⟨g, e3⟩ := told_call (h := h1) (σ := σ (some w.d) (some (.str t))) (i := 4) (j := 8) G wS.1 rfl rfl
  have s3 : (orB (notB (asB (fcallM F__law_told_right [] (consM (mVar 4) (consM (mVar 8) nilM))))) (asB (op2 (gEq true) (op1 gReprL (lstM (consM (mVar 4) (consM (mVar 8) nilM)))) (mVar 9)))) (σ (some w.d) (some (.str t))) h1 = .ok false (h1 ++ g) := by
    rw [ap_orB, e3, bnd_ok, if_neg (by simp), ap_asB, ap_op2, ap_op1, lb, bnd_ok, rt g, bnd_ok, ap_var]
    show ((optV (some (some (.str t))) (h1 ++ g)).bnd _).bnd _ = _
    rw [optV_some, bnd_ok, gEq_str]
    simp
  exact ⟨some w.d, some (.str t), h1 ++ g, c1, s_seq s1 (s_seq s2 (s_iff s3 rfl)), x1'.grow g, by omega⟩
def lawTurn : MS := (seqS (setS 3 (fcallM F__law_pot [] (consM (mVar 2) (consM (mVar 1) nilM))))
  (seqS (setS 4 (fcallM F__law_board [] (consM (mVar 3) (consM (op2 gIx (lstM (consM (retM (.int 7)) (consM (retM (.int 39)) nilM))) (op1 gInt (andV (op2 (gEq false) (fcallM F__law_take [] (consM (mVar 3) (consM (retM (.int 4)) nilM))) (retM (.int 0))) (op2 (gEq false) (mVar 1) (retM (.int 1)))))) nilM))))
  (seqS (setS 5 (fcallM F__law_row [] (consM (mVar 3) (consM (op2 gIx (mVar 4) (retM (.int 2))) (consM (op2 gIx (lstM (consM (fcallM F__law_take [] (consM (mVar 3) (consM (retM (.int 9)) nilM))) (consM (retM (.int 30)) (consM (retM (.int 399)) nilM)))) (fcallM F__law_take [] (consM (mVar 3) (consM (retM (.int 3)) nilM)))) nilM)))))
  (seqS (setS 6 (ownM (slM (mVar 5) (retM .non) (partM (fcallM F__law_take [] (consM (mVar 3) (consM (op2 gAdd (op1 gLen (mVar 5)) (retM (.int 1))) nilM)))))))
  (seqS (ifS (orB (notB (asB (fcallM F__law_told_right [] (consM (mVar 4) (consM (mVar 5) nilM))))) (notB (asB (fcallM F__law_told_right [] (consM (mVar 4) (consM (mVar 6) nilM)))))) (retS (retM (.bl false))) skipS)
  (forS (srcA range1V (consM (retM (.int 8)) nilM)) (.nm 7) otherB))))))
theorem lawTurn_ok (i : Nat) (cell : Int) (x0 x3 x4 x5 x6 x7 x8 x9 : Option D) : ∃ (y3 y4 y5 y6 y7 y8 y9 : Option D) (h' : MH),
    lawTurn [x0, some (.int (i : Int)), some (.int cell), x3, x4, x5, x6, x7, x8, x9] h = .nx [x0, some (.int (i : Int)), some (.int cell), y3, y4, y5, y6, y7, y8, y9] h' := by
  obtain ⟨a, b, ha, e1⟩ := pot_ok (h := h) cell i
  let p := h.length
  let h1 : MH := h ++ [potO a b ((0 : Nat) : Int)]
  have x1 : Pot p 0 h1 := ⟨a, b, ha, by simp [h1, p]⟩
  let I : Option D := some (.int (i : Int))
  let C : Option D := some (.int cell)
  obtain ⟨r, h2, c2, e2, ⟨a2, b2⟩, f2, x2, d2⟩ := take_ok (m := 4) x1 (by omega) (by omega) (by omega)
  let σ1 : Sg := [x0, I, C, some (.ref p), x4, x5, x6, x7, x8, x9]
  have s1 : (setS 3 (fcallM F__law_pot [] (consM (mVar 2) (consM (mVar 1) nilM)))) [x0, I, C, x3, x4, x5, x6, x7, x8, x9] h = .nx σ1 h1 := s_set (d := .ref p) (by
    rw [e_call2 (h1 := h) (h2 := h) (x := .int cell) (y := .int (i : Int)) rfl rfl rfl rfl]
    exact e1) rfl
  have tk := take_any (h := h1) (σ := σ1) (e := retM (.int 4)) (m := 4) (i := 3) (p := p) rfl rfl
  obtain ⟨mo, m1, m2, em⟩ : ∃ mo : Nat, 1 ≤ mo ∧ mo ≤ 39 ∧ ∀ g : MH, gIx (.tl [.int 7, .int 39]) (.int (if (decide (r = 0) && decide ((i : Int) = 1)) = true then 1 else 0)) g = .ok (.int (mo : Int)) g := by
    by_cases cc : (decide (r = 0) && decide ((i : Int) = 1)) = true
    · exact ⟨39, by omega, by omega, fun g => by rw [if_pos cc]; rfl⟩
    · exact ⟨7, by omega, by omega, fun g => by rw [if_neg cc]; rfl⟩
  obtain ⟨hands, weak, pls, h3, c3, e3, G, x3', d3⟩ := lawboard_ok (most := mo) x2 (by omega) m1 m2
  let B := boardD hands weak pls
  let σ4 : Sg := [x0, I, C, some (.ref p), some B, x5, x6, x7, x8, x9]
  have s2 : (setS 4 (fcallM F__law_board [] (consM (mVar 3) (consM (op2 gIx (lstM (consM (retM (.int 7)) (consM (retM (.int 39)) nilM))) (op1 gInt (andV (op2 (gEq false) (fcallM F__law_take [] (consM (mVar 3) (consM (retM (.int 4)) nilM))) (retM (.int 0))) (op2 (gEq false) (mVar 1) (retM (.int 1)))))) nilM)))) σ1 h1 = .nx σ4 h3 := by
    refine s_set (d := B) ?_ rfl
    have andE : ∀ g : MH, (op2 (gEq false) (mVar 1) (retM (.int 1))) σ1 g = .ok (.bl (decide ((i : Int) = 1))) g := fun g => by
      rw [ap_op2, ap_var]
      show ((optV (some (some (.int (i : Int)))) g).bnd _) = _
      rw [optV_some, bnd_ok, ap_ret, bnd_ok, gEq_int]
      rfl
    have eI : (op2 gIx (lstM (consM (retM (.int 7)) (consM (retM (.int 39)) nilM))) (op1 gInt (andV (op2 (gEq false) (fcallM F__law_take [] (consM (mVar 3) (consM (retM (.int 4)) nilM))) (retM (.int 0))) (op2 (gEq false) (mVar 1) (retM (.int 1)))))) σ1 h1 = .ok (.int (mo : Int)) h2 := by
      rw [ap_op2, e_lst2 (h1 := h1) (h2 := h1) (x := .int 7) (y := .int 39) rfl rfl rfl rfl, bnd_ok, ap_op1, ap_andV, ap_op2, tk, e2, bnd_ok, ap_ret, bnd_ok, gEq_int, bnd_ok, toB_bl, bnd_ok, andE]
      have z := em h2
      by_cases cc : r = 0
      · simp [cc] at z ⊢
        exact z
      · simp [cc] at z ⊢
        exact z
    rw [e_call2 (h1 := h1) (h2 := h2) (x := .ref p) (y := .int (mo : Int)) rfl eI rfl rfl]
    exact e3
  obtain ⟨r4, h4, c4, e4, ⟨a4, b4⟩, f4, x4', d4⟩ := take_ok (m := 9) x3' (by omega) (by omega) (by omega)
  obtain ⟨r5, h5, c5, e5, ⟨a5, b5⟩, f5, x5', d5⟩ := take_ok (m := 3) x4' (by omega) (by omega) (by omega)
  obtain ⟨ml, m5, em5⟩ : ∃ ml : Nat, ml ≤ 400 ∧ gIx (.tl [.int r4, .int 30, .int 399]) (.int r5) h5 = .ok (.int (ml : Int)) h5 := by
    have : r5 = 0 ∨ r5 = 1 ∨ r5 = 2 := by omega
    rcases this with rfl | rfl | rfl
    · exact ⟨r4.toNat, by omega, by
        have : ((r4.toNat : Nat) : Int) = r4 := by omega
        rw [this]
        rfl⟩
    · exact ⟨30, by omega, rfl⟩
    · exact ⟨399, by omega, rfl⟩
  obtain ⟨L, h6, c6, e6, sm, lL, x6', d6⟩ := law_row_ok G x5' (by omega) m5
  let R : D := .tup (L.map sayD)
  let σ5 : Sg := [x0, I, C, some (.ref p), some B, some R, x6, x7, x8, x9]
  have s3 : (setS 5 (fcallM F__law_row [] (consM (mVar 3) (consM (op2 gIx (mVar 4) (retM (.int 2))) (consM (op2 gIx (lstM (consM (fcallM F__law_take [] (consM (mVar 3) (consM (retM (.int 9)) nilM))) (consM (retM (.int 30)) (consM (retM (.int 399)) nilM)))) (fcallM F__law_take [] (consM (mVar 3) (consM (retM (.int 3)) nilM)))) nilM))))) σ4 h3 = .nx σ5 h6 := by
    refine s_set (d := R) ?_ rfl
    have i2 : (op2 gIx (mVar 4) (retM (.int 2))) σ4 h3 = .ok (.tup (pls.map plD)) h3 := rfl
    have el : (op2 gIx (lstM (consM (fcallM F__law_take [] (consM (mVar 3) (consM (retM (.int 9)) nilM))) (consM (retM (.int 30)) (consM (retM (.int 399)) nilM)))) (fcallM F__law_take [] (consM (mVar 3) (consM (retM (.int 3)) nilM)))) σ4 h3 = .ok (.int (ml : Int)) h5 := by
      rw [ap_op2, ap_lst, ap_cons, take_any (h := h3) (σ := σ4) (e := retM (.int 9)) (m := 9) (i := 3) (p := p) rfl rfl, e4, bnd_ok, ap_cons, ap_ret, bnd_ok, ap_cons, ap_ret, bnd_ok, ap_nil, bnd_ok, bnd_ok, bnd_ok, bnd_ok, if_pos ⟨rfl, by unfold line; simp⟩, bnd_ok, take_any (h := h4) (σ := σ4) (e := retM (.int 3)) (m := 3) (i := 3) (p := p) rfl rfl, e5, bnd_ok]
      exact em5
    rw [ap_call, ap_cons, ap_var]
    show ((((optV (some (some (.ref p))) h3).bnd _).bnd _)) = _
    rw [optV_some, bnd_ok, ap_cons, i2, bnd_ok, ap_cons, el, bnd_ok, ap_nil, bnd_ok, bnd_ok, bnd_ok, bnd_ok]
    exact e6
  obtain ⟨r7, h7, c7, e7, ⟨a7, b7⟩, f7, x7', d7⟩ := take_ok (m := (L.length : Int) + 1) x6' (by omega) (by omega) (by omega)
  let k := r7.toNat
  have er7 : r7 = ((k : Nat) : Int) := by show r7 = ((r7.toNat : Nat) : Int); omega
  let σ6 : Sg := [x0, I, C, some (.ref p), some B, some R, some (.tup ((L.take k).map sayD)), x7, x8, x9]
  have s4 : (setS 6 (ownM (slM (mVar 5) (retM .non) (partM (fcallM F__law_take [] (consM (mVar 3) (consM (op2 gAdd (op1 gLen (mVar 5)) (retM (.int 1))) nilM))))))) σ5 h6 = .nx σ6 h7 := by
    refine s_set (d := .tup ((L.take k).map sayD)) ?_ rfl
    have tk7 : fcallM F__law_take [] (consM (mVar 3) (consM (op2 gAdd (op1 gLen (mVar 5)) (retM (.int 1))) nilM)) σ5 h6 = .ok (.int r7) h7 := by
      rw [take_any (h := h6) (σ := σ5) (m := (L.length : Int) + 1) (i := 3) (p := p) rfl (by
        rw [ap_op2, ap_op1, ap_var]
        show ((optV (some (some R)) h6).bnd gLen).bnd _ = _
        rw [optV_some, bnd_ok]
        show (gLen (.tup (L.map sayD)) h6).bnd _ = _
        rw [gLen_tup', bnd_ok, List.length_map, ap_ret, bnd_ok, gAdd_ii]), e7]
    rw [ap_own, ap_sl, ap_var]
    show own ((optV (some (some R)) h6).bnd _) = _
    rw [optV_some, bnd_ok, ap_ret, bnd_ok]
    show own (((partM (fcallM F__law_take [] (consM (mVar 3) (consM (op2 gAdd (op1 gLen (mVar 5)) (retM (.int 1))) nilM)))) σ5 h6).bnd _) = _
    rw [ap_part, tk7, bnd_ok]
    show own ((Dn.R.ok (D.int r7) h7).bnd _) = _
    rw [bnd_ok, er7]
    show own (cutG (.tup (L.map sayD)) none (some (k : Int)) h7) = _
    rw [cutG_take]
    rfl
  have wd : ∀ M : List (Nm × Nm × Nm), (Wt.row (M.map sayI)).d = .tup (M.map sayD) := row_d
  have smk : AllSm (L.take k) := sm_sub sm fun x hx => List.mem_of_mem_take hx
  have lk : (L.take k).length ≤ L.length := by simp; omega
  have w1 : WtS h7 (.row (L.map sayI)) := wtS_says sm (by omega)
  obtain ⟨g8, e8⟩ := told_call (h := h7) (σ := σ6) (i := 4) (j := 5) G w1.1 rfl (by rw [wd]; rfl)
  have w2 : WtS (h7 ++ g8) (.row ((L.take k).map sayI)) := wtS_says smk (by omega)
  obtain ⟨g9, e9⟩ := told_call (h := h7 ++ g8) (σ := σ6) (i := 4) (j := 6) G w2.1 rfl (by rw [wd]; rfl)
  have s5 : (ifS (orB (notB (asB (fcallM F__law_told_right [] (consM (mVar 4) (consM (mVar 5) nilM))))) (notB (asB (fcallM F__law_told_right [] (consM (mVar 4) (consM (mVar 6) nilM)))))) (retS (retM (.bl false))) skipS) σ6 h7 = .nx σ6 (h7 ++ g8 ++ g9) := s_iff (h1 := h7 ++ g8 ++ g9) (by rw [ap_orB, e8, bnd_ok, if_neg (by simp), e9]) rfl
  let src : Src := ⟨(List.range 8).map fun i : Nat => .int (0 + (i : Int)), []⟩
  obtain ⟨σ2, hZ, e10, y7, y8, y9, cZ, rfl, _, _⟩ := forL_inv (src := src) (p := .nm 7) (b := otherB) (fun j s g => ∃ (y7 y8 y9 : Option D) (c' : Nat), s = sgQ p B R x0 I C (some (.tup ((L.take k).map sayD))) y7 y8 y9 ∧ Pot p c' g ∧ c' ≤ c7 + 10 * j) src.items 0 σ6 (h7 ++ g8 ++ g9) (fun _ _ _ _ _ _ => ok_nil) (fun j d s g _ ed hI => by
    obtain ⟨y7, y8, y9, c', rfl, xx, dc⟩ := hI
    have jl : j < 8 := by
      have := (List.getElem?_eq_some_iff.mp ed).1
      simp [src] at this
      omega
    obtain ⟨z, _, rfl⟩ := List.mem_map.mp (List.mem_of_getElem? ed)
    obtain ⟨z8, z9, hh, cc, ee, xx', dd⟩ := otherB_ok G sm (by omega) xx (by omega) x0 I C (some (.tup ((L.take k).map sayD))) (some (.int (0 + (z : Int)))) y8 y9
    exact ⟨sgQ p B R x0 I C (some (.tup ((L.take k).map sayD))) (some (.int (0 + (z : Int)))) y8 y9, by simp [sgQ], _, hh, .inl ee, _, _, _, cc, rfl, xx', by omega⟩) ⟨_, _, _, c7, rfl, (x7'.grow g8).grow g9, by omega⟩
  have s6 : (forS (srcA range1V (consM (retM (.int 8)) nilM)) (.nm 7) otherB) σ6 (h7 ++ g8 ++ g9) = .nx (sgQ p B R x0 I C (some (.tup ((L.take k).map sayD))) y7 y8 y9) hZ := s_for (src := src) (h1 := h7 ++ g8 ++ g9) (by
    rw [ap_src, ap_cons, ap_ret, bnd_ok, ap_nil, bnd_ok, bnd_ok]
    rfl) e10
  exact ⟨_, _, _, _, _, _, _, hZ, s_seq s1 (s_seq s2 (s_seq s3 (s_seq s4 (s_seq s5 s6))))⟩
theorem plain (ns : List Int) (hl : ns.length ≤ 63) (hb : ∀ z ∈ ns, Builtin.Int.intBits z ≤ 1048576) : ∃ h, F_law [.ref 0] (mh0 ns) = .ok (.bl true) h := by
  obtain ⟨cs, e1, lc⟩ := folded_ok 6 (by omega) (by omega) ns hl
  let h1 : MH := mh0 ns ++ [.lst (cs.map D.int)]
  let all : List D := .int 0 :: cs.map D.int
  let items : List D := all.mapIdx fun i x => .tup [.int (i : Int), x]
  let src : Src := ⟨items, []⟩
  obtain ⟨σ2, h2, e2, x1, x2, x3, x4, x5, x6, x7, x8, x9, rfl⟩ := forL_inv (src := src) (p := .tu [(.nm 1), (.nm 2)]) (b := lawTurn)
    (fun _ s _ => ∃ x1 x2 x3 x4 x5 x6 x7 x8 x9 : Option D, s = [some (.ref 0), x1, x2, x3, x4, x5, x6, x7, x8, x9]) src.items 0 [some (.ref 0), none, none, none, none, none, none, none, none, none] h1 (fun _ _ _ _ _ _ => ok_nil) (fun j d s g _ ed hI => by
    obtain ⟨x1, x2, x3, x4, x5, x6, x7, x8, x9, rfl⟩ := hI
    obtain ⟨cell, rfl⟩ : ∃ cell : Int, d = .tup [.int ((j : Nat) : Int), .int cell] := by
      rw [Nat.sub_zero] at ed
      have ed : (all.mapIdx fun i x => D.tup [.int (i : Int), x])[j]? = some d := ed
      rw [List.getElem?_mapIdx] at ed
      obtain ⟨y, ey, rfl⟩ := Option.map_eq_some_iff.mp ed
      have : ∃ c : Int, y = .int c := by
        have hm := List.mem_of_getElem? ey
        rcases List.mem_cons.mp hm with q | q
        · exact ⟨0, q⟩
        · obtain ⟨c, _, rfl⟩ := List.mem_map.mp q
          exact ⟨c, rfl⟩
      obtain ⟨c, rfl⟩ := this
      exact ⟨c, rfl⟩
    obtain ⟨y3, y4, y5, y6, y7, y8, y9, h', e⟩ := lawTurn_ok (h := g) j cell (some (.ref 0)) x3 x4 x5 x6 x7 x8 x9
    exact ⟨[some (.ref 0), some (.int (j : Int)), some (.int cell), x3, x4, x5, x6, x7, x8, x9], by simp, _, h', .inl e, _, _, _, _, _, _, _, _, _, rfl⟩) ⟨_, _, _, _, _, _, _, _, _, rfl⟩
  refine ⟨h2, fn_rt rfl (s_seq (h1 := h2) (s_for (src := src) (b := lawTurn) (h1 := h1) ?_ e2) (s_ret rfl rfl))⟩
  have g5 : fcallM F__law_folded [] (consM (mVar 0) (consM (retM (.int 6)) nilM)) [some (.ref 0), none, none, none, none, none, none, none, none, none] (mh0 ns) = .ok (.ref 1) h1 := by
    rw [e_call2 (h1 := mh0 ns) (h2 := mh0 ns) (x := .ref 0) (y := .int 6) rfl rfl rfl rfl]
    exact e1
  have ga : gAdd (.tl [.int 0]) (.ref 1) h1 = .ok (.tl all) h1 := by
    unfold gAdd
    dsimp only
    rw [show lstW h1 (.tl [.int 0]) = some [.int 0] from rfl, show lstW h1 (.ref 1) = some (cs.map D.int) from rfl]
    dsimp only
    rw [if_pos (by unfold line; simp; omega)]
    rfl
  show (srcA enumV _) [some (.ref 0), none, none, none, none, none, none, none, none, none] (mh0 ns) = _
  rw [ap_src, ap_cons, ap_op2, ap_lst, ap_cons, ap_ret, bnd_ok, ap_nil, bnd_ok, bnd_ok, if_pos ⟨rfl, by unfold line; simp⟩, bnd_ok, g5, bnd_ok, ga, bnd_ok, ap_nil, bnd_ok, bnd_ok]
  rfl
end HD
end
section
set_option Elab.async false
set_option linter.all false
set_option maxRecDepth 100000
set_option maxHeartbeats 0
namespace HD
open PySem PySem.Spec PyProof.Rows L2 Dn
theorem factsM {P : Program} {w : World} {K : PySem.W.Frag} {h : Heap} {mg : Str → Option Value} {f : Addr} (X : K.In h) (G : h.Ns mainGlobals mg) (hfa : mg ("law" : Str) = some (.ref f)) (c : He.SaysD fa fn K) :
    ∃ fd : FuncData, (∀ (s : Shared) (v : Value), BindsTo s fd ⟨[v], []⟩ [("script", v)]) ∧ ∀ base : Heap, K.In base → base.Ns mainGlobals mg → FnM P w K mg base 11 f fd ["script"] F_law := by
  have x : Fx K mg := ⟨c, h, X, G⟩
  obtain ⟨fd, F⟩ := c.def_ 39 (d := d_law) rfl
  have e := hfa.symm.trans (x.glo 39)
  cases e
  refine ⟨fd, fun s v => FunD.bindsA (ps := ["script"]) F (fun _ _ _ _ _ _ us hl => match us, hl with | [_], _ => rfl) s [v] rfl, fun base _ _ => ?_⟩
  obtain ⟨fd', F', M⟩ := ok_law (P := P) (w := w) (base := base) x
  have ee : fd' = fd := by
    obtain ⟨oc, od, dV, kV, doc, pm, an, cdv, ct, osl, e1, lk, _⟩ := F.ex
    obtain ⟨oc2, od2, dV2, kV2, doc2, pm2, an2, cdv2, ct2, osl2, e2, lk2, _⟩ := F'.ex
    have z := lk.symm.trans lk2
    cases z
    rfl
  subst ee
  exact M
end HD
open PySem PySem.W PySem.Calls PyProof.Rows
theorem PySem.Challenge.cw_sayloom_k04_rows_known_holds : PySem.Challenge.rw_sayloom_k04_rows_known.Holds := by
  w_on; o_law
  refine HandSHeadRun.head_any (r := OpenLaw.row PySem.Challenge.rw_sayloom_k04_rows_known) (q := view (OpenLaw.row PySem.Challenge.rw_sayloom_k04_rows_known).prog [52]) (H := HD.hk) (ob := HD.ob) (M := 20000) (loose := HD.loose) (d := HandSHeadRun.topDef (OpenLaw.row PySem.Challenge.rw_sayloom_k04_rows_known).prog 52) (kwd := []) HD.ob_eq
    (by kernel_rfl) (fun s => by kernel_rfl) HD.run (by kernel_rfl) (by kernel_rfl) (by kernel_rfl) (by rfl) (by first | assumption | decide +kernel) (by decide +kernel) ⟨rfl, rfl, rfl, rfl, rfl, by decide +kernel⟩ ?hw ?hc
  case hw => w_witness2
  case hc =>
    refine Dn.walk_ofM (l := PySem.Challenge.rw_sayloom_k04_rows_known) (n := 63) (k := 11) (x := "script") (F := HD.F_law) rfl (by decide) (by kernel_rfl) ⟨rfl, by decide, by decide⟩ ?F HD.plain
    intro w mg fa h Y G hmg0
    obtain ⟨K, KX, c⟩ := Y
    have hmg : mg ("law" : PySem.Str) = some (.ref fa) := by
      have e : (HandSHeadRun.topDef (OpenLaw.row PySem.Challenge.rw_sayloom_k04_rows_known).prog 52).name = ("law" : PySem.Str) := by kernel_rfl
      rw [← e]
      exact hmg0
    obtain ⟨fd, hb, hF⟩ := HD.factsM (P := (PySem.Challenge.rw_sayloom_k04_rows_known).prog) (w := w) KX G hmg c
    exact ⟨K, fd, KX, hb, hF⟩
end
