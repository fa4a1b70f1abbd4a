import PyProof.Rows.All
import Wide.All
import OpenK.AllK
import Wide.FinOn
import HandS.ForMost
import HandS.Exc
import HandS.ExcOwn
import HandS.ExcInit
import HandS.WordsExc
import HandS.CallSlots
import HandS.IsInst
import HandS.Deep
import HandS.Style
import HandS.TupAny
import HandS.RaiseMore
import HandS.Wide
import HandS.Conv
import HandS.NoneIn
import HandS.Rev
import HandS.HotCalls
import HandS.ExcField
import HandS.Zip
import KE.GoesMore
import KE.GoesZip
import KE.GoesEnum
import HandS.More
import HandS.Ends
import HandS.HeadEnd
import HandS.Head2
import HandS.HeadHook3
import PySem.Challenge.RW_eightcells_k61_wide_terms
set_option Elab.async false
set_option linter.all false
set_option maxRecDepth 100000
set_option maxHeartbeats 4000000
namespace Dl
open PySem PySem.Spec L2

/-! ### data and how the heap bears them -/
abbrev D := PyData
/-- the written part, and the names of the program's own classes -/
structure Kx where
  K : PySem.W.Frag
  cl : Addr → Option Str

/-- a list's node: tracked and apart from what may change -/
def NdL (k : Kx) (O : Addr → Prop) (H : Hp) (a : Addr) (xs : List V) : Prop := H a = some (.lst xs) ∧ ¬ O a
/-- a tuple's node: tracked and apart, or of the written part -/
def NdT (k : Kx) (O : Addr → Prop) (H : Hp) (a : Addr) (xs : List V) : Prop :=
  (H a = some (.tup xs) ∧ ¬ O a) ∨ ∃ (o : Obj) (its : Array Value) (n : Nat), k.K.lookup a = some o ∧ o.cls = .type "tuple" ∧ o.data = .seq its n ∧ its.size ≤ sizeLine ∧ Vals xs its.toList
mutual
inductive Rp (k : Kx) (O : Addr → Prop) (H : Hp) : V → D → Prop
  | non : Rp k O H .non .none
  | bl (b : Bool) : Rp k O H (.bl b) (.bool b)
  | int (i : Int) : Rp k O H (.int i) (.int i)
  | str (x : Str) : Rp k O H (.str x) (.str x)
  | lst {a : Addr} {xs : List V} {ds : List D} : NdL k O H a xs → RpAll k O H xs ds → Rp k O H (.ref a) (.list ds)
  | tup {a : Addr} {xs : List V} {ds : List D} : NdT k O H a xs → RpAll k O H xs ds → Rp k O H (.ref a) (.tuple ds)
  | ins {a C dx : Addr} {n : Str} {fs : List (Str × V)} {ds : List (D × D)} : H a = some (.ins C dx fs) → ¬ O a → k.cl C = some n → RpFs k O H fs ds → Rp k O H (.ref a) (.dict ((.none, .str n) :: ds))
inductive RpAll (k : Kx) (O : Addr → Prop) (H : Hp) : List V → List D → Prop
  | nil : RpAll k O H [] []
  | cons {v : V} {vs : List V} {d : D} {ds : List D} : Rp k O H v d → RpAll k O H vs ds → RpAll k O H (v :: vs) (d :: ds)
inductive RpFs (k : Kx) (O : Addr → Prop) (H : Hp) : List (Str × V) → List (D × D) → Prop
  | nil : RpFs k O H [] []
  | cons {f : Str} {v : V} {fs : List (Str × V)} {d : D} {ds : List (D × D)} : Rp k O H v d → RpFs k O H fs ds → RpFs k O H ((f, v) :: fs) ((.str f, d) :: ds)
end
section
variable {k : Kx} {O O' : Addr → Prop} {H H' : Hp}
/-- from one state to a later one: what is kept, what may change now -/
structure Mv (O O' : Addr → Prop) (H H' : Hp) : Prop where
  out : ∀ a, O' a → H a ≠ none → O a
  kp : ∀ b o, ¬ O b → H b = some o → H' b = some o
theorem NdL.mv (m : Mv O O' H H') {a : Addr} {xs : List V} (h : NdL k O H a xs) : NdL k O' H' a xs :=
  ⟨m.kp _ _ h.2 h.1, fun z => h.2 (m.out a z (by rw [h.1]; simp))⟩
theorem NdT.mv (m : Mv O O' H H') {a : Addr} {xs : List V} (h : NdT k O H a xs) : NdT k O' H' a xs := by
  rcases h with ⟨h, n⟩ | h
  · exact .inl ⟨m.kp _ _ n h, fun z => n (m.out a z (by rw [h]; simp))⟩
  · exact .inr h
mutual
theorem Rp.mv (m : Mv O O' H H') : ∀ {v : V} {d : D}, Rp k O H v d → Rp k O' H' v d
  | _, _, .non => .non
  | _, _, .bl b => .bl b
  | _, _, .int i => .int i
  | _, _, .str x => .str x
  | _, _, .lst n a => .lst (n.mv m) (RpAll.mv m a)
  | _, _, .tup n a => .tup (n.mv m) (RpAll.mv m a)
  | _, _, .ins e n c f => .ins (m.kp _ _ n e) (fun z => n (m.out _ z (by rw [e]; simp))) c (RpFs.mv m f)
theorem RpAll.mv (m : Mv O O' H H') : ∀ {vs : List V} {ds : List D}, RpAll k O H vs ds → RpAll k O' H' vs ds
  | _, _, .nil => .nil
  | _, _, .cons h t => .cons (Rp.mv m h) (RpAll.mv m t)
theorem RpFs.mv (m : Mv O O' H H') : ∀ {fs : List (Str × V)} {ds : List (D × D)}, RpFs k O H fs ds → RpFs k O' H' fs ds
  | _, _, .nil => .nil
  | _, _, .cons h t => .cons (Rp.mv m h) (RpFs.mv m t)
end
theorem NdL.sq {a : Addr} {xs : List V} (h : NdL k O H a xs) : SqL k.K H a xs := .inl (.inl h.1)
theorem NdT.sq {a : Addr} {xs : List V} (h : NdT k O H a xs) : SqT k.K H a xs := by
  rcases h with ⟨h, _⟩ | h
  · exact .inl (.inl h)
  · exact .inr h
/-! data without instances -/
mutual
def flat : D → Bool
  | .none => true
  | .bool _ => true
  | .int _ => true
  | .str _ => true
  | .list ds => flats ds
  | .tuple ds => flats ds
  | .dict _ => false
def flats : List D → Bool
  | [] => true
  | d :: ds => flat d && flats ds
end
mutual
theorem Rp.dp : ∀ {v : V} {d : D}, Rp k O H v d → flat d = true → Dp k.K H v d
  | _, _, .non, _ => .non
  | _, _, .bl b, _ => .bl b
  | _, _, .int i, _ => .int i
  | _, _, .str x, _ => .str x
  | _, _, .lst n a, h => .lst n.sq (RpAll.dp a (by simpa [flat] using h))
  | _, _, .tup n a, h => .tup n.sq (RpAll.dp a (by simpa [flat] using h))
  | _, _, .ins .., h => by simp [flat] at h
theorem RpAll.dp : ∀ {vs : List V} {ds : List D}, RpAll k O H vs ds → flats ds = true → DpAll k.K H vs ds
  | _, _, .nil, _ => .nil
  | _, _, .cons a t, h => by
    have h' := Bool.and_eq_true_iff.mp (show (_ && _) = true from by simpa [flats] using h)
    exact .cons (Rp.dp a h'.1) (RpAll.dp t h'.2)
end
theorem RpAll.length : ∀ {vs : List V} {ds : List D}, RpAll k O H vs ds → vs.length = ds.length
  | _, _, .nil => rfl
  | _, _, .cons _ t => congrArg (· + 1) (RpAll.length t)
theorem RpAll.get : ∀ {vs : List V} {ds : List D} {i : Nat} {d : D}, RpAll k O H vs ds → ds[i]? = some d → ∃ v, vs[i]? = some v ∧ Rp k O H v d
  | _, _, _, _, .nil, e => by simp at e
  | _, _, 0, _, .cons h _, e => by simp at e; subst e; exact ⟨_, rfl, h⟩
  | _, _, i + 1, d, .cons _ t, e => by
    obtain ⟨v, h1, h2⟩ := RpAll.get (i := i) (d := d) t (by simpa using e)
    exact ⟨v, by simpa using h1, h2⟩
theorem RpAll.getV : ∀ {vs : List V} {ds : List D} {i : Nat} {v : V}, RpAll k O H vs ds → vs[i]? = some v → ∃ d, ds[i]? = some d ∧ Rp k O H v d
  | _, _, _, _, .nil, e => by simp at e
  | _, _, 0, _, .cons h _, e => by simp at e; subst e; exact ⟨_, rfl, h⟩
  | _, _, i + 1, v, .cons _ t, e => by
    obtain ⟨d, h1, h2⟩ := RpAll.getV (i := i) (v := v) t (by simpa using e)
    exact ⟨d, by simpa using h1, h2⟩
theorem RpAll.append : ∀ {vs ws : List V} {ds es : List D}, RpAll k O H vs ds → RpAll k O H ws es → RpAll k O H (vs ++ ws) (ds ++ es)
  | _, _, _, _, .nil, t => t
  | _, _, _, _, .cons h r, t => .cons h (RpAll.append r t)
theorem RpAll.set : ∀ {vs : List V} {ds : List D} (i : Nat) {v : V} {d : D}, RpAll k O H vs ds → Rp k O H v d → RpAll k O H (vs.set i v) (ds.set i d)
  | _, _, _, _, _, .nil, _ => .nil
  | _, _, 0, _, _, .cons _ r, h => .cons h r
  | _, _, i + 1, _, _, .cons h0 r, h => .cons h0 (RpAll.set i r h)
theorem RpAll.take : ∀ {vs : List V} {ds : List D} (n : Nat), RpAll k O H vs ds → RpAll k O H (vs.take n) (ds.take n)
  | _, _, 0, _ => .nil
  | _, _, _ + 1, .nil => .nil
  | _, _, n + 1, .cons h r => .cons h (RpAll.take n r)
theorem RpAll.drop : ∀ {vs : List V} {ds : List D} (n : Nat), RpAll k O H vs ds → RpAll k O H (vs.drop n) (ds.drop n)
  | _, _, 0, h => h
  | _, _, _ + 1, .nil => .nil
  | _, _, n + 1, .cons _ r => RpAll.drop n r
theorem RpAll.reverse {vs : List V} {ds : List D} (h : RpAll k O H vs ds) : RpAll k O H vs.reverse ds.reverse := by
  induction vs generalizing ds with
  | nil => cases h; exact .nil
  | cons v vs ih =>
    cases h with
    | cons a t =>
      rw [List.reverse_cons, List.reverse_cons]
      exact (ih t).append (.cons a .nil)
theorem RpAll.insertIdx : ∀ {vs : List V} {ds : List D} (i : Nat) {v : V} {d : D}, RpAll k O H vs ds → Rp k O H v d → RpAll k O H (vs.insertIdx i v) (ds.insertIdx i d)
  | _, _, 0, _, _, r, h => by simp only [List.insertIdx_zero]; exact .cons h r
  | _, _, i + 1, _, _, .nil, _ => by simp only [List.insertIdx_succ_nil]; exact .nil
  | _, _, i + 1, _, _, .cons h0 r, h => by simp only [List.insertIdx_succ_cons]; exact .cons h0 (RpAll.insertIdx i r h)
theorem RpAll.eraseIdx : ∀ {vs : List V} {ds : List D} (i : Nat), RpAll k O H vs ds → RpAll k O H (vs.eraseIdx i) (ds.eraseIdx i)
  | _, _, _, .nil => .nil
  | _, _, 0, .cons _ r => r
  | _, _, i + 1, .cons h0 r => .cons h0 (RpAll.eraseIdx i r)
theorem RpAll.ints : ∀ {vs : List V} {is : List Int}, RpAll k O H vs (is.map PyData.int) → vs = is.map V.int
  | _, [], .nil => rfl
  | _, i :: is, .cons (.int _) t => congrArg (V.int i :: ·) (RpAll.ints t)
theorem RpAll.of_ints : ∀ (is : List Int), RpAll k O H (is.map V.int) (is.map PyData.int)
  | [] => .nil
  | i :: is => .cons (.int i) (RpAll.of_ints is)
end
end Dl

namespace Dl
open PySem PySem.Spec L2

/-- what a changeable container holds -/
inductive Ct where
  | l (ds : List D)
  | d (kvs : List (Key × D))
inductive Sl where
  | un
  | val (d : D)
  | own (t : Ct)
  | bor (t : Ct)
  | hnd
  | xc (fs : List (D × D))
  | scr (ns : List Int)
inductive Rs where
  | val (d : D)
  | new (t : Ct)
  | own (t : Ct)
  | bor (t : Ct)
  | hnd
abbrev Ec := Str × List (D × D)
structure Cs where
  kx : Kx
  hk : Option (Addr × Addr)
  xc : Option (Addr × Addr) := none
  W : WX
  ex : Ec → List Sl → Prop
/-- the drawn hand: a list of the great numbers' list, the seed, the count -/
def HandAt (a g : Addr) (H : Hp) : Prop :=
  ∃ (gs : List Int) (s n : Int), H a = some (.lst [.ref g, .int s, .int n]) ∧ H g = some (.lst (gs.map V.int)) ∧ gs.length ≤ 63 ∧ 0 ≤ s ∧ s < 2147483648
def Cs.M0 (c : Cs) (a : Addr) : Prop := match c.hk with
  | none => False
  | some (p, q) => a = p ∨ a = q
def Cs.HA (c : Cs) (H : Hp) : Prop := match c.hk with
  | none => True
  | some (p, q) => HandAt p q H
structure Base where
  H0 : Hp
  Mx : Addr → Prop
  O0 : Addr → Prop
/-- entry by entry of a dict -/
inductive RpKv (k : Kx) (O : Addr → Prop) (H : Hp) : List (Key × V) → List (Key × D) → Prop
  | nil : RpKv k O H [] []
  | cons {q : Key} {v : V} {d : D} {vs : List (Key × V)} {ds : List (Key × D)} : Rp k O H v d → RpKv k O H vs ds → RpKv k O H ((q, v) :: vs) ((q, d) :: ds)
theorem RpKv.mv {k : Kx} {O O' : Addr → Prop} {H H' : Hp} (m : Mv O O' H H') : ∀ {vs : List (Key × V)} {ds : List (Key × D)}, RpKv k O H vs ds → RpKv k O' H' vs ds
  | _, _, .nil => .nil
  | _, _, .cons h t => .cons (h.mv m) (RpKv.mv m t)
def CtAt (k : Kx) (O : Addr → Prop) (H : Hp) (a : Addr) : Ct → Prop
  | .l ds => ∃ xs, H a = some (.lst xs) ∧ RpAll k O H xs ds
  | .d kvs => ∃ xs, H a = some (.dK xs) ∧ RpKv k O H xs kvs
theorem CtAt.mv {k : Kx} {O O' : Addr → Prop} {H H' : Hp} {a : Addr} {t : Ct} (m : Mv O O' H H') (e : H' a = H a) (h : CtAt k O H a t) : CtAt k O' H' a t := by
  cases t with
  | l ds => obtain ⟨xs, h1, h2⟩ := h; exact ⟨xs, e.trans h1, h2.mv m⟩
  | d kvs => obtain ⟨xs, h1, h2⟩ := h; exact ⟨xs, e.trans h1, h2.mv m⟩
theorem CtAt.there {k : Kx} {O : Addr → Prop} {H : Hp} {a : Addr} {t : Ct} (h : CtAt k O H a t) : H a ≠ none := by
  cases t with
  | l ds => obtain ⟨xs, h1, _⟩ := h; rw [h1]; simp
  | d kvs => obtain ⟨xs, h1, _⟩ := h; rw [h1]; simp
def OwnA (B : Base) (O : Addr → Prop) (a : Addr) : Prop := O a ∧ ¬ B.O0 a ∧ (B.H0 a = none ∨ B.Mx a)
def Fz (c : Cs) (B : Base) (O : Addr → Prop) (a : Addr) : Prop := ¬ c.M0 a ∧ (O a → B.O0 a)
def Hnd (c : Cs) (v : V) : Prop := ∃ a g, c.hk = some (a, g) ∧ v = .ref a
/-- the law's script: it stands for good -/
def ScrAt (K : PySem.W.Frag) (O : Addr → Prop) (H : Hp) (a : Addr) (ns : List Int) : Prop :=
  (∃ ob, H a = some (.frz ob (.lst (ns.map V.int))) ∧ ¬ O a) ∨ ∃ (o : Obj) (its : Array Value) (n : Nat), K.lookup a = some o ∧ o.cls = .type "list" ∧ o.dict = none ∧ o.data = .seq its n ∧ its.size ≤ sizeLine ∧ Vals (ns.map V.int) its.toList
theorem ScrAt.mv {K : PySem.W.Frag} {O O' : Addr → Prop} {H H' : Hp} {a : Addr} {ns : List Int} (m : Mv O O' H H') (h : ScrAt K O H a ns) : ScrAt K O' H' a ns :=
  h.elim (fun ⟨ob, e, n⟩ => .inl ⟨ob, m.kp _ _ n e, fun z => n (m.out _ z (by rw [e]; simp))⟩) .inr
theorem ScrAt.sq {K : PySem.W.Frag} {O : Addr → Prop} {H : Hp} {a : Addr} {ns : List Int} (h : ScrAt K O H a ns) : SqL K H a (ns.map V.int) := h.elim (fun ⟨ob, e, _⟩ => .inl (.inr ⟨ob, e⟩)) .inr
def SlOk (c : Cs) (B : Base) (O : Addr → Prop) (H : Hp) (o : Option (Option V)) : Sl → Prop
  | .un => True
  | .val d => ∃ v, o = some (some v) ∧ Rp c.kx O H v d
  | .own t => ∃ a, o = some (some (.ref a)) ∧ OwnA B O a ∧ CtAt c.kx O H a t
  | .bor t => ∃ a, o = some (some (.ref a)) ∧ Fz c B O a ∧ CtAt c.kx O H a t
  | .hnd => ∃ v, o = some (some v) ∧ Hnd c v
  | .xc ds => ∃ a dd fs, c.xc = some (a, dd) ∧ o = some (some (.ref a)) ∧ H dd = some (.xd fs) ∧ RpFs c.kx O H fs ds
  | .scr ns => ∃ a, o = some (some (.ref a)) ∧ ScrAt c.kx.K O H a ns
structure Stt (c : Cs) (B : Base) (O : Addr → Prop) (Γ : List Sl) (σ : St) (H : Hp) : Prop where
  len : σ.length = Γ.length
  hand : c.HA H
  m0 : ∀ a, c.M0 a → B.O0 a
  mx0 : ∀ a, c.M0 a → B.Mx a
  sub : ∀ a, B.O0 a → O a
  ow : ∀ a, O a → B.O0 a ∨ B.H0 a = none ∨ B.Mx a
  al : ∀ a, O a → H a ≠ none
  mxa : ∀ a, B.Mx a → H a ≠ none
  keep : ∀ b o, ¬ B.Mx b → B.H0 b = some o → H b = some o
  sl : ∀ (i : Nat) (s : Sl), Γ[i]? = some s → SlOk c B O H σ[i]? s
  dist : ∀ (i j : Nat) (s t : Ct) (a : Addr), Γ[i]? = some (.own s) → Γ[j]? = some (.own t) → σ[i]? = some (some (.ref a)) → σ[j]? = some (some (.ref a)) → i = j
/-- an expression's step -/
def Kp (c : Cs) (H H' : Hp) : Prop := ∀ b o, ¬ c.M0 b → H b = some o → H' b = some o
theorem Kp.refl {c : Cs} {H : Hp} : Kp c H H := fun _ _ _ e => e
theorem Kp.trans {c : Cs} {H H1 H2 : Hp} (a : Kp c H H1) (b : Kp c H1 H2) : Kp c H H2 := fun x o n e => b x o n (a x o n e)
theorem Kp.new {c : Cs} {H : Hp} {p : Addr} {o : HO} (h : H p = none) : Kp c H (upd H p o) := fun x u _ e => by
  rw [upd_ne (ne_of_none e h)]; exact e
theorem Cs.HA.there {c : Cs} {H : Hp} (h : c.HA H) {a : Addr} (m : c.M0 a) : H a ≠ none := by
  unfold Cs.HA at h
  unfold Cs.M0 at m
  cases e : c.hk with
  | none => rw [e] at m; exact m.elim
  | some p =>
    obtain ⟨x, y⟩ := p
    rw [e] at h m
    obtain ⟨gs, s, n, h1, h2, _⟩ := h
    rcases m with m | m
    · rw [m, h1]; simp
    · rw [m, h2]; simp
theorem Cs.HA.same {c : Cs} {H H' : Hp} (h : c.HA H) (k : ∀ a, c.M0 a → H' a = H a) : c.HA H' := by
  unfold Cs.HA at h ⊢
  unfold Cs.M0 at k
  cases e : c.hk with
  | none => trivial
  | some p =>
    obtain ⟨x, y⟩ := p
    rw [e] at h k
    obtain ⟨gs, s, n, h1, h2, h3⟩ := h
    exact ⟨gs, s, n, (k x (.inl rfl)).trans h1, (k y (.inr rfl)).trans h2, h3⟩
/-- a new object changes nothing of the hand -/
theorem Cs.HA.new {c : Cs} {H : Hp} {p : Addr} {o : HO} (h : c.HA H) (hp : H p = none) : c.HA (upd H p o) :=
  h.same fun a m => upd_ne fun z => h.there m (z ▸ hp)
theorem Kp.free {c : Cs} {H H' : Hp} (k : Kp c H H') (ha : c.HA H') {p : Addr} (h : H' p = none) : H p = none := by
  cases e : H p with
  | none => rfl
  | some o =>
    by_cases m : c.M0 p
    · exact absurd h (ha.there m)
    · rw [k p o m e] at h; cases h
section
variable {c : Cs} {B : Base} {O : Addr → Prop} {Γ : List Sl} {σ : St} {H H' : Hp}
theorem Stt.mO (E : Stt c B O Γ σ H) {a : Addr} (m : c.M0 a) : O a := E.sub a (E.m0 a m)
theorem Stt.mv (E : Stt c B O Γ σ H) (k : Kp c H H') : Mv O O H H' := ⟨fun _ z _ => z, fun b o n e => k b o (fun m => n (E.mO m)) e⟩
theorem Stt.fresh (E : Stt c B O Γ σ H) {p : Addr} (h : H p = none) : ¬ O p ∧ ¬ B.O0 p ∧ ¬ c.M0 p ∧ ¬ B.Mx p ∧ B.H0 p = none := by
  have h1 : ¬ O p := fun z => E.al p z h
  have h2 : ¬ B.Mx p := fun z => E.mxa p z h
  refine ⟨h1, fun z => h1 (E.sub p z), fun z => h2 (E.mx0 p z), h2, ?_⟩
  cases e : B.H0 p with
  | none => rfl
  | some o => rw [E.keep p o h2 e] at h; cases h
theorem HandAt.lst {a g b : Addr} (h : HandAt a g H) (m : b = a ∨ b = g) : ∃ xs, H b = some (.lst xs) := by
  obtain ⟨gs, s, n, h1, h2, _⟩ := h
  rcases m with m | m
  · exact ⟨_, m ▸ h1⟩
  · exact ⟨_, m ▸ h2⟩
theorem Cs.HA.lst (h : c.HA H) {b : Addr} (m : c.M0 b) : ∃ xs, H b = some (.lst xs) := by
  unfold Cs.HA at h
  unfold Cs.M0 at m
  cases e : c.hk with
  | none => rw [e] at m; exact m.elim
  | some p =>
    obtain ⟨x, y⟩ := p
    rw [e] at h m
    exact HandAt.lst h m
theorem Cs.HA.noX (h : c.HA H) {b : Addr} {fs : List (Str × V)} (e : H b = some (.xd fs)) : ¬ c.M0 b := fun m => by
  obtain ⟨xs, z⟩ := h.lst m
  rw [e] at z; cases z
theorem Cs.HA.noF (h : c.HA H) {b : Addr} {ob : Obj} {x : HO} (e : H b = some (.frz ob x)) : ¬ c.M0 b := fun m => by
  obtain ⟨xs, z⟩ := h.lst m
  rw [e] at z; cases z
theorem OwnA.noM (E : Stt c B O Γ σ H) {a : Addr} (h : OwnA B O a) : ¬ c.M0 a := fun m => h.2.1 (E.m0 a m)
theorem SlOk.step (E : Stt c B O Γ σ H) (k : Kp c H H') {o : Option (Option V)} {s : Sl} (h : SlOk c B O H o s) : SlOk c B O H' o s := by
  cases s with
  | un => trivial
  | val d => obtain ⟨v, e, r⟩ := h; exact ⟨v, e, r.mv (E.mv k)⟩
  | own t =>
    obtain ⟨a, e, w, q⟩ := h
    obtain ⟨ob, ho⟩ := Option.ne_none_iff_exists'.mp q.there
    exact ⟨a, e, w, q.mv (E.mv k) ((k a ob (w.noM E) ho).trans ho.symm)⟩
  | bor t =>
    obtain ⟨a, e, w, q⟩ := h
    obtain ⟨ob, ho⟩ := Option.ne_none_iff_exists'.mp q.there
    exact ⟨a, e, w, q.mv (E.mv k) ((k a ob w.1 ho).trans ho.symm)⟩
  | hnd => exact h
  | xc ds =>
    obtain ⟨a, dd, fs, e1, e2, e3, r⟩ := h
    exact ⟨a, dd, fs, e1, e2, k dd _ (E.hand.noX e3) e3, r.mv (E.mv k)⟩
  | scr ns => obtain ⟨a, e, z⟩ := h; exact ⟨a, e, z.mv (E.mv k)⟩
theorem Stt.step (E : Stt c B O Γ σ H) (k : Kp c H H') (ha : c.HA H') : Stt c B O Γ σ H' where
  len := E.len
  hand := ha
  m0 := E.m0
  mx0 := E.mx0
  sub := E.sub
  ow := E.ow
  al := fun a z => by
    by_cases m : c.M0 a
    · exact ha.there m
    · obtain ⟨o, e⟩ := Option.ne_none_iff_exists'.mp (E.al a z)
      rw [k a o m e]; simp
  mxa := fun a z => by
    by_cases m : c.M0 a
    · exact ha.there m
    · obtain ⟨o, e⟩ := Option.ne_none_iff_exists'.mp (E.mxa a z)
      rw [k a o m e]; simp
  keep := fun b o n e => k b o (fun m => n (E.mx0 b m)) (E.keep b o n e)
  sl := fun i s e => (E.sl i s e).step E k
  dist := E.dist
end
/-- what an exception in the air is -/
def ExAt (k : Kx) (O : Addr → Prop) (H : Hp) (cls : Value) (d : Option Addr) (e : Ec) : Prop :=
  ∃ C dd fs, cls = .ref C ∧ k.cl C = some e.1 ∧ d = some dd ∧ H dd = some (.xd fs) ∧ RpFs k O H fs e.2
def ExC (c : Cs) (B : Base) : Prop := ∀ O Γ σ H cls d e, Stt c B O Γ σ H → ExAt c.kx O H cls d e → c.ex e Γ → c.W cls d σ H
def RsOk (c : Cs) (B : Base) (O : Addr → Prop) (H H' : Hp) (v : V) : Rs → Prop
  | .val d => Rp c.kx O H' v d
  | .new t => ∃ p, v = .ref p ∧ H p = none ∧ CtAt c.kx (fun a => O a ∨ a = p) H' p t
  | .own t => ∃ a, v = .ref a ∧ OwnA B O a ∧ CtAt c.kx O H' a t
  | .bor t => ∃ a, v = .ref a ∧ Fz c B O a ∧ CtAt c.kx O H' a t
  | .hnd => Hnd c v
section
variable {c : Cs} {B : Base} {O : Addr → Prop} {Γ : List Sl} {σ : St} {H H1 H2 : Hp} {v : V} {r : Rs}
/-- a result stands while the evaluation goes on -/
theorem RsOk.later (E : Stt c B O Γ σ H) (k : Kp c H H1) (ha : c.HA H1) (k2 : Kp c H1 H2) (h : RsOk c B O H H1 v r) : RsOk c B O H H2 v r := by
  have E1 := E.step k ha
  cases r with
  | val d => exact Rp.mv (E1.mv k2) h
  | new t =>
    obtain ⟨p, e, n, q⟩ := h
    have np : ¬ c.M0 p := (E.fresh n).2.2.1
    obtain ⟨ob, ho⟩ := Option.ne_none_iff_exists'.mp q.there
    exact ⟨p, e, n, q.mv ⟨fun _ z _ => z, fun b o nb eb => k2 b o (fun m => nb (.inl (E.mO m))) eb⟩ ((k2 p ob np ho).trans ho.symm)⟩
  | own t =>
    obtain ⟨a, e, w, q⟩ := h
    obtain ⟨ob, ho⟩ := Option.ne_none_iff_exists'.mp q.there
    exact ⟨a, e, w, q.mv (E1.mv k2) ((k2 a ob (w.noM E) ho).trans ho.symm)⟩
  | bor t =>
    obtain ⟨a, e, w, q⟩ := h
    obtain ⟨ob, ho⟩ := Option.ne_none_iff_exists'.mp q.there
    exact ⟨a, e, w, q.mv (E1.mv k2) ((k2 a ob w.1 ho).trans ho.symm)⟩
  | hnd => exact h
theorem RsOk.ahead (k : Kp c H H1) (ha : c.HA H1) (h : RsOk c B O H1 H2 v r) : RsOk c B O H H2 v r := by
  cases r with
  | new t =>
    obtain ⟨p, e, n, q⟩ := h
    exact ⟨p, e, k.free ha n, q⟩
  | val d => exact h
  | own t => exact h
  | bor t => exact h
  | hnd => exact h
end
/-! ### the judgement of an expression: what it comes to, as data -/
def tD (c : Cs) (Γ : List Sl) (K : Rs → Prop) : TE := fun σ H Q => ∃ B O, Stt c B O Γ σ H ∧ ExC c B ∧ ∀ v H' r, Kp c H H' → c.HA H' → RsOk c B O H H' v r → K r → Q v H'
def DE (X : Cx) (c : Cs) (e : Expr) (Γ : List Sl) (K : Rs → Prop) : Prop := PE X e (tD c Γ K)
def tDT (c : Cs) (Γ : List Sl) (K : Bool → Prop) : TT := fun σ H Q => ∃ B O, Stt c B O Γ σ H ∧ ExC c B ∧ ∀ b H', Kp c H H' → c.HA H' → K b → Q b H'
def DT (X : Cx) (c : Cs) (e : Expr) (Γ : List Sl) (K : Bool → Prop) : Prop := PT X e (tDT c Γ K)
inductive RsAll (c : Cs) (B : Base) (O : Addr → Prop) (H H' : Hp) : List V → List Rs → Prop
  | nil : RsAll c B O H H' [] []
  | cons {v : V} {vs : List V} {r : Rs} {rs : List Rs} : RsOk c B O H H' v r → RsAll c B O H H' vs rs → RsAll c B O H H' (v :: vs) (r :: rs)
def tDA (c : Cs) (Γ : List Sl) (K : List Rs → Prop) : TA := fun σ H Q => ∃ B O, Stt c B O Γ σ H ∧ ExC c B ∧ ∀ vs H' rs, Kp c H H' → c.HA H' → RsAll c B O H H' vs rs → K rs → Q vs H'
def DA (X : Cx) (c : Cs) (es : List Expr) (Γ : List Sl) (K : List Rs → Prop) : Prop := PA X es (tDA c Γ K)
section
variable {X : Cx} {c : Cs} {e a b : Expr} {es : List Expr} {Γ : List Sl} {K K' : Rs → Prop} {pos : Pos} {t : TE}
theorem PE.weak {t t' : TE} (h : PE X e t) (w : ∀ σ H Q, t' σ H Q → t σ H Q) : PE X e t' := ⟨fun pins s σ H Q I hw => h.run pins s σ H Q I (w _ _ _ hw)⟩
theorem PT.weak {t t' : TT} (h : PT X e t) (w : ∀ σ H Q, t' σ H Q → t σ H Q) : PT X e t' := ⟨fun pins s σ H Q I hw => h.run pins s σ H Q I (w _ _ _ hw)⟩
theorem PA.weak {t t' : TA} (h : PA X es t) (w : ∀ σ H Q, t' σ H Q → t σ H Q) : PA X es t' := ⟨fun pos pins s σ H Q I hw => h.run pos pins s σ H Q I (w _ _ _ hw)⟩
theorem DE.mono (h : DE X c e Γ K) (w : ∀ r, K r → K' r) : DE X c e Γ K' := PE.weak h fun σ H Q ⟨B, O, E, x, q⟩ => ⟨B, O, E, x, fun v H' r k ha ok z => q v H' r k ha ok (w r z)⟩
theorem DA.mono {K K' : List Rs → Prop} (h : DA X c es Γ K) (w : ∀ r, K r → K' r) : DA X c es Γ K' := PA.weak h fun σ H Q ⟨B, O, E, x, q⟩ => ⟨B, O, E, x, fun v H' r k ha ok z => q v H' r k ha ok (w r z)⟩
theorem DT.mono {K K' : Bool → Prop} (h : DT X c e Γ K) (w : ∀ r, K r → K' r) : DT X c e Γ K' := PT.weak h fun σ H Q ⟨B, O, E, x, q⟩ => ⟨B, O, E, x, fun v H' k ha z => q v H' k ha (w v z)⟩
/-- all that is shown of an expression -/
def tU (X : Cx) (c : Cs) (e : Expr) (Γ : List Sl) : TE := fun σ H Q => ∃ K, DE X c e Γ K ∧ tD c Γ K σ H Q
theorem pe_U : PE X e (tU X c e Γ) := ⟨fun pins s σ H Q I ⟨_, h, q⟩ => h.run pins s σ H Q I q⟩
def tUT (X : Cx) (c : Cs) (e : Expr) (Γ : List Sl) : TT := fun σ H Q => ∃ K, DT X c e Γ K ∧ tDT c Γ K σ H Q
theorem pt_U : PT X e (tUT X c e Γ) := ⟨fun pins s σ H Q I ⟨_, h, q⟩ => h.run pins s σ H Q I q⟩
def tUA (X : Cx) (c : Cs) (es : List Expr) (Γ : List Sl) : TA := fun σ H Q => ∃ K, DA X c es Γ K ∧ tDA c Γ K σ H Q
theorem pa_U : PA X es (tUA X c es Γ) := ⟨fun pos pins s σ H Q I ⟨_, h, q⟩ => h.run pos pins s σ H Q I q⟩

/-! constants and names -/
theorem de_int {i : Int} {j} (h : K (.val (.int i))) : DE X c (.Constant (.int i) j pos) Γ K := PE.weak pe_int fun _ H _ ⟨_, _, E, _, q⟩ => q _ H (.val (.int i)) Kp.refl E.hand (Rp.int i) h
theorem de_bl {i : Bool} {j} (h : K (.val (.bool i))) : DE X c (.Constant (.bool i) j pos) Γ K := PE.weak pe_bl fun _ H _ ⟨_, _, E, _, q⟩ => q _ H (.val (.bool i)) Kp.refl E.hand (Rp.bl i) h
theorem de_non {j} (h : K (.val .none)) : DE X c (.Constant .none j pos) Γ K := PE.weak pe_non fun _ H _ ⟨_, _, E, _, q⟩ => q _ H (.val .none) Kp.refl E.hand Rp.non h
theorem de_str {i : Str} {j} (h : K (.val (.str i))) : DE X c (.Constant (.str i) j pos) Γ K := PE.weak pe_str fun _ H _ ⟨_, _, E, _, q⟩ => q _ H (.val (.str i)) Kp.refl E.hand (Rp.str i) h
def Sl.rs : Sl → Option Rs
  | .un => none
  | .val d => some (.val d)
  | .own t => some (.own t)
  | .bor t => some (.bor t)
  | .hnd => some .hnd
  | .xc _ => none
  | .scr _ => none
theorem SlOk.rs {B : Base} {O : Addr → Prop} {H : Hp} {o : Option (Option V)} {s : Sl} {r : Rs} (h : SlOk c B O H o s) (e : s.rs = some r) : ∃ v, o = some (some v) ∧ RsOk c B O H H v r := by
  cases s with
  | un => cases e
  | val d => cases e; exact h
  | own t => cases e; obtain ⟨a, e, w, q⟩ := h; exact ⟨_, e, a, rfl, w, q⟩
  | bor t => cases e; obtain ⟨a, e, w, q⟩ := h; exact ⟨_, e, a, rfl, w, q⟩
  | hnd => cases e; exact h
  | xc ds => cases e
  | scr ns => cases e
theorem de_var (i : Nat) {x : Str} {s : Sl} {r : Rs} (hN : X.N[i]? = some x) (hv : Vis X.env.scope x) (hs : Γ[i]? = some s) (hr : s.rs = some r) (h : K r)
    (hd : (x == ("__debug__" : Str)) = false := by decide) (hcd : (x == ("__classdict__" : Str)) = false := by decide) : DE X c (.Name x pos) Γ K :=
  PE.weak (pe_var hN hv hd hcd) fun σ H Q ⟨B, O, E, _, q⟩ => by
    obtain ⟨v, e, ok⟩ := (E.sl i s hs).rs hr
    exact ⟨v, e, q v H r Kp.refl E.hand ok h⟩
/-- a result as it stands -/
def RsAt (c : Cs) (B : Base) (O : Addr → Prop) (H : Hp) (v : V) : Rs → Prop
  | .val d => Rp c.kx O H v d
  | .new t => ∃ p, v = .ref p ∧ ¬ O p ∧ CtAt c.kx (fun a => O a ∨ a = p) H p t
  | .own t => ∃ a, v = .ref a ∧ OwnA B O a ∧ CtAt c.kx O H a t
  | .bor t => ∃ a, v = .ref a ∧ Fz c B O a ∧ CtAt c.kx O H a t
  | .hnd => Hnd c v
theorem RsOk.at {B : Base} {O : Addr → Prop} {σ : St} {H H' : Hp} {v : V} {r : Rs} (E : Stt c B O Γ σ H) (h : RsOk c B O H H' v r) : RsAt c B O H' v r := by
  cases r with
  | new t => obtain ⟨p, e, n, q⟩ := h; exact ⟨p, e, (E.fresh n).1, q⟩
  | val d => exact h
  | own t => exact h
  | bor t => exact h
  | hnd => exact h
/-- the reading of a two-place rule -/
def W2 (c : Cs) (Γ : List Sl) (r2 : R2) (ra rb : Rs) (K : Rs → Prop) : Prop := ∀ B O H x y Q σ, Stt c B O Γ σ H → RsAt c B O H x ra → RsAt c B O H y rb →
  (∀ v H' r, Kp c H H' → c.HA H' → RsOk c B O H H' v r → K r → Q v H') → r2 x y H Q
theorem op2 {r2 : R2} (h : DE X c a Γ fun ra => DE X c b Γ fun rb => W2 c Γ r2 ra rb K) {σ : St} {H : Hp} {Q : VK} (t : tD c Γ K σ H Q) : tOp r2 (tU X c a Γ) (tU X c b Γ) σ H Q := by
  obtain ⟨B, O, E, xc, q⟩ := t
  refine ⟨_, h, B, O, E, xc, fun x H1 ra k1 a1 o1 hb => ?_⟩
  have E1 := E.step k1 a1
  refine ⟨_, hb, B, O, E1, xc, fun y H2 rb k2 a2 o2 hr => ?_⟩
  exact hr B O H2 x y Q σ (E1.step k2 a2) ((o1.later E k1 a1 k2).at E) (o2.at E1) fun v H' r k3 a3 o3 z => q v H' r ((k1.trans k2).trans k3) a3 (o3.ahead (k1.trans k2) a2) z
/-- one-place -/
def W1 (c : Cs) (Γ : List Sl) (r1 : V → Hp → VK → Prop) (ra : Rs) (K : Rs → Prop) : Prop := ∀ B O H x Q σ, Stt c B O Γ σ H → RsAt c B O H x ra →
  (∀ v H' r, Kp c H H' → c.HA H' → RsOk c B O H H' v r → K r → Q v H') → r1 x H Q
theorem op1 {r1 : V → Hp → VK → Prop} (h : DE X c a Γ fun ra => W1 c Γ r1 ra K) {σ : St} {H : Hp} {Q : VK} (t : tD c Γ K σ H Q) : tUn r1 (tU X c a Γ) σ H Q := by
  obtain ⟨B, O, E, xc, q⟩ := t
  refine ⟨_, h, B, O, E, xc, fun x H1 ra k1 a1 o1 hr => ?_⟩
  exact hr B O H1 x Q σ (E.step k1 a1) (o1.at E) fun v H' r k3 a3 o3 z => q v H' r (k1.trans k3) a3 (o3.ahead k1 a1) z
end
end Dl

namespace Dl
open PySem PySem.Spec L2

/-! ### what a result is to a reader -/
@[reducible] def Rs.its : Rs → Option (List D)
  | .val (.list ds) => some ds
  | .new (.l ds) => some ds
  | .own (.l ds) => some ds
  | .bor (.l ds) => some ds
  | _ => none
@[reducible] def Rs.dat : Rs → Option D
  | .val d => some d
  | .new (.l ds) => some (.list ds)
  | _ => none
@[reducible] def Rs.rd : Rs → Option D
  | .val d => some d
  | .new (.l ds) => some (.list ds)
  | .own (.l ds) => some (.list ds)
  | .bor (.l ds) => some (.list ds)
  | _ => none
/-- what holds where a body runs -/
structure Bd (X : Cx) (c : Cs) : Prop where
  kx : X.K = c.kx.K
  nd : X.N.Nodup
  un : X.A.units + 200 < cLine
  gd : X.A.guards = some []
  po : PassesOwn (model X.prog X.w) X.A X.env X.xe
section
variable {c : Cs} {B : Base} {O : Addr → Prop} {Γ : List Sl} {σ : St} {H : Hp} {v : V} {r : Rs} {ds : List D} {d : D}
theorem less {p : Addr} : Mv (fun a => O a ∨ a = p) O H H := ⟨fun _ z _ => .inl z, fun _ _ _ e => e⟩
theorem RsAt.list (h : RsAt c B O H v r) (e : r.its = some ds) : ∃ a xs, v = .ref a ∧ H a = some (.lst xs) ∧ RpAll c.kx O H xs ds := by
  cases r with
  | val d =>
    cases d <;> simp [Rs.its] at e
    subst e
    cases h with
    | lst n a => exact ⟨_, _, rfl, n.1, a⟩
  | new t =>
    cases t <;> simp [Rs.its] at e
    subst e
    obtain ⟨p, e, n, xs, h1, h2⟩ := h
    exact ⟨p, xs, e, h1, h2.mv less⟩
  | own t =>
    cases t <;> simp [Rs.its] at e
    subst e
    obtain ⟨p, e, n, xs, h1, h2⟩ := h
    exact ⟨p, xs, e, h1, h2⟩
  | bor t =>
    cases t <;> simp [Rs.its] at e
    subst e
    obtain ⟨p, e, n, xs, h1, h2⟩ := h
    exact ⟨p, xs, e, h1, h2⟩
  | hnd => simp [Rs.its] at e
theorem RsAt.rp (h : RsAt c B O H v r) (e : r.dat = some d) : Rp c.kx O H v d := by
  cases r with
  | val d => simp [Rs.dat] at e; subst e; exact h
  | new t =>
    cases t <;> simp [Rs.dat] at e
    subst e
    obtain ⟨p, e, n, xs, h1, h2⟩ := h
    subst e
    exact .lst ⟨h1, n⟩ (h2.mv less)
  | own t => simp [Rs.dat] at e
  | bor t => simp [Rs.dat] at e
  | hnd => simp [Rs.dat] at e
theorem RsAt.tup (h : RsAt c B O H v (.val (.tuple ds))) : ∃ a xs, v = .ref a ∧ SqT c.kx.K H a xs ∧ NdT c.kx O H a xs ∧ RpAll c.kx O H xs ds := by
  cases h with
  | tup n a => exact ⟨_, _, rfl, n.sq, n, a⟩
theorem RsAt.int {i : Int} (h : RsAt c B O H v (.val (.int i))) : v = .int i := by cases h; rfl
theorem RsAt.bl {i : Bool} (h : RsAt c B O H v (.val (.bool i))) : v = .bl i := by cases h; rfl
theorem RsAt.str {i : Str} (h : RsAt c B O H v (.val (.str i))) : v = .str i := by cases h; rfl
theorem RsAt.non (h : RsAt c B O H v (.val .none)) : v = .non := by cases h; rfl
mutual
theorem flat_of : ∀ d : D, d.canLay0 = true → flat d = true
  | .none, _ => rfl
  | .bool _, _ => rfl
  | .int _, _ => rfl
  | .str _, _ => rfl
  | .list ds, h => by simp only [flat]; exact flats_of ds (by simpa [PyData.canLay0] using h)
  | .tuple ds, h => by simp only [flat]; exact flats_of ds (by simpa [PyData.canLay0] using h)
  | .dict _, h => by simp [PyData.canLay0] at h
theorem flats_of : ∀ ds : List D, PyData.canLayAll0 ds = true → flats ds = true
  | [], _ => rfl
  | d :: ds, h => by
    have h' := Bool.and_eq_true_iff.mp (show (_ && _) = true from by simpa [PyData.canLayAll0] using h)
    simp only [flats, flat_of d h'.1, flats_of ds h'.2, Bool.and_self]
end
theorem flat_sh {d : D} (h : SeqAt.shaped d = true) : flat d = true := flat_of d (SeqAt.canLay_of_shaped h)
theorem RsAt.dp (h : RsAt c B O H v r) (e : r.rd = some d) (s : SeqAt.shaped d = true) : Dp c.kx.K H v d := by
  have lists : ∀ {a : Addr} {xs : List V} {ds : List D}, H a = some (.lst xs) → RpAll c.kx O H xs ds → SeqAt.shaped (.list ds) = true → Dp c.kx.K H (.ref a) (.list ds) := fun {a xs ds} h1 h2 s => by
    have f := flat_sh s
    simp only [flat] at f
    exact .lst (SqL.of h1) (h2.dp f)
  cases r with
  | val d => simp [Rs.rd] at e; subst e; exact Rp.dp h (flat_sh s)
  | new t =>
    cases t <;> simp [Rs.rd] at e
    subst e
    obtain ⟨p, e, n, xs, h1, h2⟩ := h
    subst e
    exact lists h1 (h2.mv less) s
  | own t =>
    cases t <;> simp [Rs.rd] at e
    subst e
    obtain ⟨p, e, n, xs, h1, h2⟩ := h
    subst e
    exact lists h1 h2 s
  | bor t =>
    cases t <;> simp [Rs.rd] at e
    subst e
    obtain ⟨p, e, n, xs, h1, h2⟩ := h
    subst e
    exact lists h1 h2 s
  | hnd => simp [Rs.rd] at e
end
section
variable {X : Cx} {c : Cs} {e a b e3 : Expr} {es : List Expr} {Γ : List Sl} {K : Rs → Prop} {pos : Pos} {ra rb : Rs} {i j : Int}
/-! ### rules that make no object -/
theorem w2_val {r2 : R2} (h : ∀ B O H x y, RsAt c B O H x ra → RsAt c B O H y rb → ∃ v r, (∀ Q : VK, Q v H → r2 x y H Q) ∧ (∀ B H0, RsOk c B O H0 H v r) ∧ K r) : W2 c Γ r2 ra rb K := fun B O H x y Q σ E h1 h2 q => by
  obtain ⟨v, r, h3, h4, h5⟩ := h B O H x y h1 h2
  exact h3 Q (q v H r Kp.refl E.hand (h4 B H) h5)
theorem w2_I0 {g : Int → Int → Int} (h : K (.val (.int (g i j)))) : W2 c Γ (rI0 fun i j => .int (g i j)) (.val (.int i)) (.val (.int j)) K := fun B O H x y Q σ E h1 h2 q => by
  cases h1.int; cases h2.int
  exact ⟨i, j, rfl, rfl, q _ H (.val (.int (g i j))) Kp.refl E.hand (Rp.int _) h⟩
theorem w2_B0 {g : Int → Int → Bool} (h : K (.val (.bool (g i j)))) : W2 c Γ (rI0 fun i j => .bl (g i j)) (.val (.int i)) (.val (.int j)) K := fun B O H x y Q σ E h1 h2 q => by
  cases h1.int; cases h2.int
  exact ⟨i, j, rfl, rfl, q _ H (.val (.bool (g i j))) Kp.refl E.hand (Rp.bl _) h⟩
theorem w2_I {C : Int → Int → Prop} {g : Int → Int → Int} (hc : C i j) (h : K (.val (.int (g i j)))) : W2 c Γ (rI C fun i j => .int (g i j)) (.val (.int i)) (.val (.int j)) K := fun B O H x y Q σ E h1 h2 q => by
  cases h1.int; cases h2.int
  exact ⟨i, j, rfl, rfl, hc, q _ H (.val (.int (g i j))) Kp.refl E.hand (Rp.int _) h⟩
/-! ### operators by the kinds of what they join -/
def rOr (r r' : R2) : R2 := fun x y H Q => r x y H Q ∨ r' x y H Q
theorem op_or {f : Value → Value → Sem Value} {r r' : R2} (h : OpR X f r) (h' : OpR X f r') : OpR X f (rOr r r') := h.or h'
theorem w2_l {r r' : R2} (h : W2 c Γ r ra rb K) : W2 c Γ (rOr r r') ra rb K := fun B O H x y Q σ E h1 h2 q => .inl (h B O H x y Q σ E h1 h2 q)
theorem w2_r {r r' : R2} (h : W2 c Γ r' ra rb K) : W2 c Γ (rOr r r') ra rb K := fun B O H x y Q σ E h1 h2 q => .inr (h B O H x y Q σ E h1 h2 q)
def rStrAdd : R2 := fun x y H Q => ∃ i j, x = .str i ∧ y = .str j ∧ i.length + j.length ≤ sizeLine ∧ Q (.str (i ++ j)) H
def rAddX (K : PySem.W.Frag) : R2 := rOr (rI0 fun i j => .int (i + j)) (rOr rCat (rOr (rCatA K) rStrAdd))
theorem op_addX : OpR X (binaryOp .Add) (rAddX X.K) := op_or op_add (op_or op_cat (op_or op_catA op_add_str))
theorem de_bin {op : Operator} {r2 : R2} (ho : OpR X (binaryOp op) r2) (h : DE X c a Γ fun ra => DE X c b Γ fun rb => W2 c Γ r2 ra rb K) : DE X c (.BinOp a op b pos) Γ K := PE.weak (pe_op ho pe_U pe_U) fun _ _ _ => op2 h
theorem de_add (h : DE X c a Γ fun ra => DE X c b Γ fun rb => W2 c Γ (rAddX X.K) ra rb K) : DE X c (.BinOp a .Add b pos) Γ K := de_bin op_addX h
theorem w_addI (h : K (.val (.int (i + j)))) : W2 c Γ (rAddX X.K) (.val (.int i)) (.val (.int j)) K := w2_l (w2_I0 (g := fun i j => i + j) h)
theorem w_addL {ds es : List D} (e1 : ra.its = some ds) (e2 : rb.its = some es) (hz : ds.length + es.length ≤ sizeLine) (h : K (.new (.l (ds ++ es)))) : W2 c Γ (rAddX X.K) ra rb K := w2_r (w2_l fun B O H x y Q σ E h1 h2 q => by
  obtain ⟨p, xs, rfl, hp, hx⟩ := h1.list e1
  obtain ⟨p2, ys, rfl, hp2, hy⟩ := h2.list e2
  refine ⟨p, p2, xs, ys, rfl, rfl, hp, hp2, by rw [hx.length, hy.length]; exact hz, fun n hn => q _ _ (.new (.l (ds ++ es))) (Kp.new hn) (E.hand.new hn) ⟨n, rfl, hn, _, upd_same, ?_⟩ h⟩
  exact (hx.append hy).mv ⟨fun z m _ => m.elim (fun z => z) fun z2 => absurd (z2 ▸ hn) (by assumption), fun z o _ e => by rw [upd_ne (ne_of_none e hn)]; exact e⟩)
theorem w_addT {ds es : List D} (kx : X.K = c.kx.K) (hz : ds.length + es.length ≤ sizeLine) (h : K (.val (.tuple (ds ++ es)))) : W2 c Γ (rAddX X.K) (.val (.tuple ds)) (.val (.tuple es)) K := w2_r (w2_r (w2_l fun B O H x y Q σ E h1 h2 q => by
  obtain ⟨p, xs, rfl, hp, np, hx⟩ := h1.tup
  obtain ⟨p2, ys, rfl, hp2, np2, hy⟩ := h2.tup
  refine ⟨p, p2, xs, ys, rfl, rfl, by rw [kx]; exact hp, by rw [kx]; exact hp2, by rw [hx.length, hy.length]; exact hz, fun z => ?_, fun _ z => ?_, fun _ _ n hn => ?_⟩
  · subst z
    cases hx
    exact q _ _ (.val (.tuple es)) Kp.refl E.hand (.tup np2 hy) (by simpa using h)
  · subst z
    cases hy
    exact q _ _ (.val (.tuple ds)) Kp.refl E.hand (.tup np hx) (by simpa using h)
  · have m : Mv O O H (upd H n (.tup (xs ++ ys))) := E.mv (Kp.new hn)
    exact q _ _ (.val (.tuple (ds ++ es))) (Kp.new hn) (E.hand.new hn) (.tup (.inl ⟨upd_same, (E.fresh hn).1⟩) ((hx.append hy).mv m)) h))
theorem de_sub (h : DE X c a Γ fun ra => DE X c b Γ fun rb => W2 c Γ (rI0 fun i j => .int (i - j)) ra rb K) : DE X c (.BinOp a .Sub b pos) Γ K := de_bin op_sub h
theorem de_mul (h : DE X c a Γ fun ra => DE X c b Γ fun rb => W2 c Γ (rI CMul fun i j => .int (i * j)) ra rb K) : DE X c (.BinOp a .Mult b pos) Γ K := de_bin op_mul h
theorem de_mod (h : DE X c a Γ fun ra => DE X c b Γ fun rb => W2 c Γ (rI (fun _ j => 0 < j) fun i j => .int (i % j)) ra rb K) : DE X c (.BinOp a .Mod b pos) Γ K := de_bin op_mod h
theorem de_fdiv (h : DE X c a Γ fun ra => DE X c b Γ fun rb => W2 c Γ (rI CDiv fun i j => .int (i / j)) ra rb K) : DE X c (.BinOp a .FloorDiv b pos) Γ K := de_bin op_fdiv h
theorem de_neg (h : DE X c a Γ fun ra => W1 c Γ (rU fun i => .int (-i)) ra K) : DE X c (.UnaryOp .USub a pos) Γ K := PE.weak (pe_un un_neg pe_U) fun _ _ _ => op1 h
theorem w_neg (h : K (.val (.int (-i)))) : W1 c Γ (rU fun i => .int (-i)) (.val (.int i)) K := fun B O H x Q σ E h1 q => by
  cases h1.int
  exact ⟨i, rfl, q _ H (.val (.int (-i))) Kp.refl E.hand (Rp.int _) h⟩
/-! ### comparisons -/
def rEqX (K : PySem.W.Frag) : R2 := rOr rEq (rEqD K)
def rNeX (K : PySem.W.Frag) : R2 := rOr rNe (rNeD K)
def rInDT (K : PySem.W.Frag) (neg : Bool) : R2 := fun x y H Q => ∃ d ds, Dp K H x d ∧ Dp K H y (.tuple ds) ∧ SeqAt.shaped d = true ∧ SeqAt.shaped (.tuple ds) = true ∧ Q (.bl (if neg then !(ds.any fun z => PyData.eqv z d) else ds.any fun z => PyData.eqv z d)) H
theorem op_inDT (hu : X.A.units + 65 < cLine) : OpR X (compareOp .In) (rInDT X.K false) := by
  intro pins s σ H x y v u Q I rx ry h
  obtain ⟨d, ds, hd, he, sd, se, q⟩ := h
  obtain ⟨as, r1⟩ := Dp.reads I d x v hd rx
  obtain ⟨bs, r2⟩ := Dp.reads I (.tuple ds) y u he ry
  exact SeqAt.in_tuple_reads r2 r1 (SeqAt.canLay_of_shaped se) (SeqAt.canLay_of_shaped sd) (PyProof.Rows.room_in_shaped sd hu) ⟨.bl _, H, I, rfl, q⟩
theorem op_notInDT (hu : X.A.units + 65 < cLine) : OpR X (compareOp .NotIn) (rInDT X.K true) := by
  intro pins s σ H x y v u Q I rx ry h
  obtain ⟨d, ds, hd, he, sd, se, q⟩ := h
  obtain ⟨as, r1⟩ := Dp.reads I d x v hd rx
  obtain ⟨bs, r2⟩ := Dp.reads I (.tuple ds) y u he ry
  exact SeqAt.notIn_tuple_reads r2 r1 (SeqAt.canLay_of_shaped se) (SeqAt.canLay_of_shaped sd) (PyProof.Rows.room_in_shaped sd hu) ⟨.bl _, H, I, rfl, q⟩
def rInX (K : PySem.W.Frag) : R2 := rOr (rInD K) (rInDT K false)
def rNiX (K : PySem.W.Frag) : R2 := rOr (rNotInD K) (rInDT K true)
def rIsX : R2 := rOr rIsB fun x y H Q => y = .non ∧ Q (.bl (decide (x = .non))) H
def rNotX : R2 := rOr rNotB fun x y H Q => y = .non ∧ Q (.bl (!decide (x = .non))) H
theorem op_isX : OpR X (compareOp .Is) rIsX := op_or op_isBl op_isN
theorem op_notX : OpR X (compareOp .IsNot) rNotX := op_or op_notBl op_notN
/-- the rule of each comparison -/
inductive CmpX (X : Cx) : CmpOp → R2 → Prop
  | lt : CmpX X .Lt (rI0 fun i j => .bl (decide (i < j)))
  | le : CmpX X .LtE (rI0 fun i j => .bl (decide (i ≤ j)))
  | gt : CmpX X .Gt (rI0 fun i j => .bl (decide (j < i)))
  | ge : CmpX X .GtE (rI0 fun i j => .bl (decide (j ≤ i)))
  | eq : CmpX X .Eq (rEqX X.K)
  | ne : CmpX X .NotEq (rNeX X.K)
  | inn : CmpX X .In (rInX X.K)
  | nin : CmpX X .NotIn (rNiX X.K)
  | is : CmpX X .Is rIsX
  | isn : CmpX X .IsNot rNotX
theorem CmpX.op {o : CmpOp} {r : R2} (h : CmpX X o r) (bd : Bd X c) : OpR X (compareOp o) r := by
  have u1 : X.A.units + 64 < cLine := by have := bd.un; omega
  have u2 : X.A.units + 65 < cLine := by have := bd.un; omega
  cases h with
  | lt => exact op_lt
  | le => exact op_le
  | gt => exact op_gt
  | ge => exact op_ge
  | eq => exact op_or op_eq (op_eqD u1)
  | ne => exact op_or op_ne (op_neD u1)
  | inn => exact op_or (op_inD u2) (op_inDT u2)
  | nin => exact op_or (op_notInD u2) (op_notInDT u2)
  | is => exact op_isX
  | isn => exact op_notX
theorem de_cmp {op : CmpOp} {r2 : R2} (bd : Bd X c) (ho : CmpX X op r2) (h : DE X c a Γ fun ra => DE X c b Γ fun rb => W2 c Γ r2 ra rb K) (hm : behindInMarks op b = false) : DE X c (.Compare a [op] [b] pos) Γ K :=
  PE.weak (pe_cmpR (ho.op bd) pe_U pe_U hm) fun _ _ _ => op2 h
theorem bool_of {K : Bool → Prop} {σ : St} {H : Hp} {Q : Bool → Hp → Prop} (t : tDT c Γ K σ H Q) : tD c Γ (fun r => ∃ k, r = .val (.bool k) ∧ K k) σ H fun x H' => ∃ k, x = .bl k ∧ Q k H' := by
  obtain ⟨B, O, E, xc, q⟩ := t
  refine ⟨B, O, E, xc, fun v H' r k1 a1 o1 ⟨k, e, z⟩ => ?_⟩
  subst e
  exact ⟨k, (o1.at E).bl, q k H' k1 a1 z⟩
theorem dt_cmp {op : CmpOp} {r2 : R2} {K : Bool → Prop} (bd : Bd X c) (ho : CmpX X op r2) (h : DE X c a Γ fun ra => DE X c b Γ fun rb => W2 c Γ r2 ra rb fun r => ∃ k, r = .val (.bool k) ∧ K k) (hm : behindInMarks op b = false) : DT X c (.Compare a [op] [b] pos) Γ K :=
  PT.weak (pt_cmpR (ho.op bd) pe_U pe_U hm) fun _ _ _ t => op2 h (bool_of t)
/-- a test by its value -/
theorem dt_val {K : Bool → Prop} (h : DE X c e Γ fun r => ∃ k, r = .val (.bool k) ∧ K k) (he : ∀ whole, isTrue e X.env whole = (do let v ← whole; standAt e.pos; holding [v] (truthy v)) := by intro _; rfl) : DT X c e Γ K :=
  PT.weak (pt_val h he) fun _ _ _ t => bool_of t
theorem w_lt (h : K (.val (.bool (decide (i < j))))) : W2 c Γ (rI0 fun i j => .bl (decide (i < j))) (.val (.int i)) (.val (.int j)) K := w2_B0 (g := fun i j => decide (i < j)) h
theorem w_le (h : K (.val (.bool (decide (i ≤ j))))) : W2 c Γ (rI0 fun i j => .bl (decide (i ≤ j))) (.val (.int i)) (.val (.int j)) K := w2_B0 (g := fun i j => decide (i ≤ j)) h
theorem w_gt (h : K (.val (.bool (decide (j < i))))) : W2 c Γ (rI0 fun i j => .bl (decide (j < i))) (.val (.int i)) (.val (.int j)) K := w2_B0 (g := fun i j => decide (j < i)) h
theorem w_ge (h : K (.val (.bool (decide (j ≤ i))))) : W2 c Γ (rI0 fun i j => .bl (decide (j ≤ i))) (.val (.int i)) (.val (.int j)) K := w2_B0 (g := fun i j => decide (j ≤ i)) h
theorem w_eqI (h : K (.val (.bool (decide (i = j))))) : W2 c Γ (rEqX X.K) (.val (.int i)) (.val (.int j)) K := w2_l fun B O H x y Q σ E h1 h2 q => by
  cases h1.int; cases h2.int
  refine ⟨rfl, ?_⟩
  have e : decide (V.int i = V.int j) = decide (i = j) := by by_cases z : i = j <;> simp [z]
  rw [e]
  exact q _ H (.val (.bool (decide (i = j)))) Kp.refl E.hand (Rp.bl _) h
theorem w_eqS {x y : Str} (h : K (.val (.bool (decide (x = y))))) : W2 c Γ (rEqX X.K) (.val (.str x)) (.val (.str y)) K := w2_l fun B O H u w Q σ E h1 h2 q => by
  cases h1.str; cases h2.str
  refine ⟨rfl, ?_⟩
  have e : decide (V.str x = V.str y) = decide (x = y) := by by_cases z : x = y <;> simp [z]
  rw [e]
  exact q _ H (.val (.bool (decide (x = y)))) Kp.refl E.hand (Rp.bl _) h
theorem w_eqD {d e : D} (bd : Bd X c) (e1 : ra.rd = some d) (e2 : rb.rd = some e) (s1 : SeqAt.shaped d = true) (s2 : SeqAt.shaped e = true) (h : K (.val (.bool (PyData.eqv d e)))) : W2 c Γ (rEqX X.K) ra rb K := w2_r fun B O H x y Q σ E h1 h2 q =>
  ⟨d, e, by rw [bd.kx]; exact h1.dp e1 s1, by rw [bd.kx]; exact h2.dp e2 s2, s1, s2, q _ H (.val (.bool _)) Kp.refl E.hand (Rp.bl _) h⟩
theorem w_neI (h : K (.val (.bool (!decide (i = j))))) : W2 c Γ (rNeX X.K) (.val (.int i)) (.val (.int j)) K := w2_l fun B O H x y Q σ E h1 h2 q => by
  cases h1.int; cases h2.int
  refine ⟨rfl, ?_⟩
  have e : decide (V.int i = V.int j) = decide (i = j) := by by_cases z : i = j <;> simp [z]
  rw [e]
  exact q _ H (.val (.bool (!decide (i = j)))) Kp.refl E.hand (Rp.bl _) h
theorem w_neS {x y : Str} (h : K (.val (.bool (!decide (x = y))))) : W2 c Γ (rNeX X.K) (.val (.str x)) (.val (.str y)) K := w2_l fun B O H u w Q σ E h1 h2 q => by
  cases h1.str; cases h2.str
  refine ⟨rfl, ?_⟩
  have e : decide (V.str x = V.str y) = decide (x = y) := by by_cases z : x = y <;> simp [z]
  rw [e]
  exact q _ H (.val (.bool (!decide (x = y)))) Kp.refl E.hand (Rp.bl _) h
theorem w_neD {d e : D} (bd : Bd X c) (e1 : ra.rd = some d) (e2 : rb.rd = some e) (s1 : SeqAt.shaped d = true) (s2 : SeqAt.shaped e = true) (h : K (.val (.bool (!PyData.eqv d e)))) : W2 c Γ (rNeX X.K) ra rb K := w2_r fun B O H x y Q σ E h1 h2 q =>
  ⟨d, e, by rw [bd.kx]; exact h1.dp e1 s1, by rw [bd.kx]; exact h2.dp e2 s2, s1, s2, q _ H (.val (.bool _)) Kp.refl E.hand (Rp.bl _) h⟩
theorem w_inL {d : D} {ds : List D} (bd : Bd X c) (e1 : ra.rd = some d) (e2 : rb.rd = some (.list ds)) (s1 : SeqAt.shaped d = true) (s2 : SeqAt.shaped (.list ds) = true) (h : K (.val (.bool (ds.any fun z => PyData.eqv z d)))) : W2 c Γ (rInX X.K) ra rb K := w2_l fun B O H x y Q σ E h1 h2 q =>
  ⟨d, ds, by rw [bd.kx]; exact h1.dp e1 s1, by rw [bd.kx]; exact h2.dp e2 s2, s1, s2, q _ H (.val (.bool _)) Kp.refl E.hand (Rp.bl _) h⟩
theorem w_inT {d : D} {ds : List D} (bd : Bd X c) (e1 : ra.rd = some d) (e2 : rb.rd = some (.tuple ds)) (s1 : SeqAt.shaped d = true) (s2 : SeqAt.shaped (.tuple ds) = true) (h : K (.val (.bool (ds.any fun z => PyData.eqv z d)))) : W2 c Γ (rInX X.K) ra rb K := w2_r fun B O H x y Q σ E h1 h2 q =>
  ⟨d, ds, by rw [bd.kx]; exact h1.dp e1 s1, by rw [bd.kx]; exact h2.dp e2 s2, s1, s2, q _ H (.val (.bool _)) Kp.refl E.hand (Rp.bl _) h⟩
theorem w_niL {d : D} {ds : List D} (bd : Bd X c) (e1 : ra.rd = some d) (e2 : rb.rd = some (.list ds)) (s1 : SeqAt.shaped d = true) (s2 : SeqAt.shaped (.list ds) = true) (h : K (.val (.bool (!ds.any fun z => PyData.eqv z d)))) : W2 c Γ (rNiX X.K) ra rb K := w2_l fun B O H x y Q σ E h1 h2 q =>
  ⟨d, ds, by rw [bd.kx]; exact h1.dp e1 s1, by rw [bd.kx]; exact h2.dp e2 s2, s1, s2, q _ H (.val (.bool _)) Kp.refl E.hand (Rp.bl _) h⟩
theorem w_niT {d : D} {ds : List D} (bd : Bd X c) (e1 : ra.rd = some d) (e2 : rb.rd = some (.tuple ds)) (s1 : SeqAt.shaped d = true) (s2 : SeqAt.shaped (.tuple ds) = true) (h : K (.val (.bool (!ds.any fun z => PyData.eqv z d)))) : W2 c Γ (rNiX X.K) ra rb K := w2_r fun B O H x y Q σ E h1 h2 q =>
  ⟨d, ds, by rw [bd.kx]; exact h1.dp e1 s1, by rw [bd.kx]; exact h2.dp e2 s2, s1, s2, q _ H (.val (.bool _)) Kp.refl E.hand (Rp.bl _) h⟩
@[reducible] def isNone : Rs → Bool
  | .val .none => true
  | _ => false
theorem RsAt.isNone {B : Base} {O : Addr → Prop} {H : Hp} {v : V} {r : Rs} (h : RsAt c B O H v r) : decide (v = .non) = Dl.isNone r := by
  cases r with
  | val d => cases h <;> simp [Dl.isNone]
  | new t => obtain ⟨p, e, _⟩ := h; subst e; simp [Dl.isNone]
  | own t => obtain ⟨p, e, _⟩ := h; subst e; simp [Dl.isNone]
  | bor t => obtain ⟨p, e, _⟩ := h; subst e; simp [Dl.isNone]
  | hnd => obtain ⟨p, g, _, e⟩ := h; subst e; simp [Dl.isNone]
theorem w_isN (h : K (.val (.bool (isNone ra)))) : W2 c Γ rIsX ra (.val .none) K := w2_r fun B O H x y Q σ E h1 h2 q => by
  cases h2.non
  refine ⟨rfl, ?_⟩
  rw [h1.isNone]
  exact q _ H (.val (.bool _)) Kp.refl E.hand (Rp.bl _) h
theorem w_isnN (h : K (.val (.bool (!isNone ra)))) : W2 c Γ rNotX ra (.val .none) K := w2_r fun B O H x y Q σ E h1 h2 q => by
  cases h2.non
  refine ⟨rfl, ?_⟩
  rw [h1.isNone]
  exact q _ H (.val (.bool _)) Kp.refl E.hand (Rp.bl _) h
theorem w_isB {k l : Bool} (h : K (.val (.bool (decide (k = l))))) : W2 c Γ rIsX (.val (.bool k)) (.val (.bool l)) K := w2_l fun B O H x y Q σ E h1 h2 q => by
  cases h1.bl; cases h2.bl
  exact ⟨k, l, rfl, rfl, q _ H (.val (.bool _)) Kp.refl E.hand (Rp.bl _) h⟩
theorem w_isnB {k l : Bool} (h : K (.val (.bool (!decide (k = l))))) : W2 c Γ rNotX (.val (.bool k)) (.val (.bool l)) K := w2_l fun B O H x y Q σ E h1 h2 q => by
  cases h1.bl; cases h2.bl
  exact ⟨k, l, rfl, rfl, q _ H (.val (.bool _)) Kp.refl E.hand (Rp.bl _) h⟩
/-- a chain of two -/
theorem chainR {r r' : R2} (h : DE X c a Γ fun ra => DE X c b Γ fun rb => W2 c Γ r ra rb fun r1 => ∃ k, r1 = .val (.bool k) ∧ if k = true then DE X c e3 Γ fun rc => W2 c Γ r' rb rc K else K (.val (.bool false)))
    {σ : St} {H : Hp} {Q : VK} (t : tD c Γ K σ H Q) : tChain r r' (tU X c a Γ) (tU X c b Γ) (tU X c e3 Γ) σ H Q := by
  obtain ⟨B, O, E, xc, q⟩ := t
  refine ⟨_, h, B, O, E, xc, fun x H1 ra k1 a1 o1 hb => ?_⟩
  have E1 := E.step k1 a1
  refine ⟨_, hb, B, O, E1, xc, fun y H2 rb k2 a2 o2 hr => ?_⟩
  have E2 := E1.step k2 a2
  refine hr B O H2 x y _ σ E2 ((o1.later E k1 a1 k2).at E) (o2.at E1) fun v H3 r k3 a3 o3 ⟨k, e, z⟩ => ?_
  subst e
  refine ⟨k, (o3.at E2).bl, ?_⟩
  have E3 := E2.step k3 a3
  cases k with
  | false => exact q _ H3 (.val (.bool false)) ((k1.trans k2).trans k3) a3 (Rp.bl _) z
  | true =>
    refine ⟨_, (show DE X c e3 Γ fun rc => W2 c Γ r' rb rc K from z), B, O, E3, xc, fun w H4 rc k4 a4 o4 hc => ?_⟩
    exact hc B O H4 y w Q σ (E3.step k4 a4) ((o2.later E1 k2 a2 (k3.trans k4)).at E1) (o4.at E3) fun v H' r k5 a5 o5 z => q v H' r ((((k1.trans k2).trans k3).trans k4).trans k5) a5 (o5.ahead (((k1.trans k2).trans k3).trans k4) a4) z
theorem de_chain {op op' : CmpOp} {r r' : R2} (bd : Bd X c) (ho : CmpX X op r) (ho' : CmpX X op' r') (h : DE X c a Γ fun ra => DE X c b Γ fun rb => W2 c Γ r ra rb fun r1 => ∃ k, r1 = .val (.bool k) ∧ if k = true then DE X c e3 Γ fun rc => W2 c Γ r' rb rc K else K (.val (.bool false)))
    (hm : lastMarks [op, op'] [b, e3] = false := by with_unfolding_all rfl) : DE X c (.Compare a [op, op'] [b, e3] pos) Γ K :=
  PE.weak (pe_chain (ho.op bd) (ho'.op bd) pe_U pe_U pe_U hm) fun _ _ _ t => chainR h t
theorem dt_chain {op op' : CmpOp} {r r' : R2} {K : Bool → Prop} (bd : Bd X c) (ho : CmpX X op r) (ho' : CmpX X op' r') (h : DE X c a Γ fun ra => DE X c b Γ fun rb => W2 c Γ r ra rb fun r1 => ∃ k, r1 = .val (.bool k) ∧ if k = true then DE X c e3 Γ fun rc => W2 c Γ r' rb rc (fun r => ∃ k, r = .val (.bool k) ∧ K k) else ∃ k, (.val (.bool false) : Rs) = .val (.bool k) ∧ K k)
    (hm : lastMarks [op, op'] [b, e3] = false := by with_unfolding_all rfl) : DT X c (.Compare a [op, op'] [b, e3] pos) Γ K :=
  PT.weak (pt_chain (ho.op bd) (ho'.op bd) pe_U pe_U pe_U hm) fun _ _ _ t => chainR h (bool_of t)
/-! ### and, or, not, if -/
def DW (X : Cx) (c : Cs) (e : Expr) (Γ : List Sl) (K : Bool → Prop) : Prop := PW X e (tDT c Γ K)
def tUW (X : Cx) (c : Cs) (e : Expr) (Γ : List Sl) : TT := fun σ H Q => ∃ K, DW X c e Γ K ∧ tDT c Γ K σ H Q
theorem pw_U : PW X e (tUW X c e Γ) := ⟨fun w pins s σ H Q I ⟨_, h, q⟩ => h.run w pins s σ H Q I q⟩
theorem PW.weak {t t' : TT} (h : PW X e t) (w : ∀ σ H Q, t' σ H Q → t σ H Q) : PW X e t' := ⟨fun wh pins s σ H Q I hw => h.run wh pins s σ H Q I (w _ _ _ hw)⟩
variable {rest : List Expr} {L : Bool → Prop}
theorem dt_w (h : DW X c e Γ L) : DT X c e Γ L := PW.pt h
theorem dw_and1 (h : DT X c a Γ L) : DW X c (.BoolOp .And [a] pos) Γ L := pw_and1 h
theorem dw_or1 (h : DT X c a Γ L) : DW X c (.BoolOp .Or [a] pos) Γ L := pw_or1 h
theorem dw_and (h : DT X c a Γ fun k => if k = true then DW X c (.BoolOp .And (b :: rest) pos) Γ L else L false) : DW X c (.BoolOp .And (a :: b :: rest) pos) Γ L :=
  PW.weak (pw_and pt_U pw_U) fun σ H Q t => by
    obtain ⟨B, O, E, xc, q⟩ := t
    refine ⟨_, h, B, O, E, xc, fun k H1 k1 a1 z => ?_⟩
    cases k with
    | true => exact ⟨_, z, B, O, E.step k1 a1, xc, fun b H' k2 a2 z2 => q b H' (k1.trans k2) a2 z2⟩
    | false => exact q false H1 k1 a1 z
theorem dw_or (h : DT X c a Γ fun k => if k = true then L true else DW X c (.BoolOp .Or (b :: rest) pos) Γ L) : DW X c (.BoolOp .Or (a :: b :: rest) pos) Γ L :=
  PW.weak (pw_or pt_U pw_U) fun σ H Q t => by
    obtain ⟨B, O, E, xc, q⟩ := t
    refine ⟨_, h, B, O, E, xc, fun k H1 k1 a1 z => ?_⟩
    cases k with
    | false => exact ⟨_, z, B, O, E.step k1 a1, xc, fun b H' k2 a2 z2 => q b H' (k1.trans k2) a2 z2⟩
    | true => exact q true H1 k1 a1 z
theorem dt_not (h : DT X c a Γ fun k => L (!k)) : DT X c (.UnaryOp .Not a pos) Γ L := PT.weak (pt_not pt_U) fun σ H Q ⟨B, O, E, xc, q⟩ => ⟨_, h, B, O, E, xc, fun k H1 k1 a1 z => q _ H1 k1 a1 z⟩
theorem de_one {op : BoolOp} (h : DE X c a Γ K) : DE X c (.BoolOp op [a] pos) Γ K := pe_one h
theorem de_and (h : DE X c a Γ fun r => ∃ k, r = .val (.bool k) ∧ if k = true then DE X c (.BoolOp .And (b :: rest) pos) Γ K else K (.val (.bool false))) : DE X c (.BoolOp .And (a :: b :: rest) pos) Γ K :=
  PE.weak (pe_and pe_U pe_U) fun σ H Q t => by
    obtain ⟨B, O, E, xc, q⟩ := t
    refine ⟨_, h, B, O, E, xc, fun v H1 r k1 a1 o1 ⟨k, e, z⟩ => ?_⟩
    subst e
    refine ⟨k, (o1.at E).bl, ?_⟩
    cases k with
    | true => exact ⟨_, z, B, O, E.step k1 a1, xc, fun v H' r k2 a2 o2 z2 => q v H' r (k1.trans k2) a2 (o2.ahead k1 a1) z2⟩
    | false => exact q _ H1 (.val (.bool false)) k1 a1 (Rp.bl _) z
theorem de_or (h : DE X c a Γ fun r => ∃ k, r = .val (.bool k) ∧ if k = true then K (.val (.bool true)) else DE X c (.BoolOp .Or (b :: rest) pos) Γ K) : DE X c (.BoolOp .Or (a :: b :: rest) pos) Γ K :=
  PE.weak (pe_or pe_U pe_U) fun σ H Q t => by
    obtain ⟨B, O, E, xc, q⟩ := t
    refine ⟨_, h, B, O, E, xc, fun v H1 r k1 a1 o1 ⟨k, e, z⟩ => ?_⟩
    subst e
    refine ⟨k, (o1.at E).bl, ?_⟩
    cases k with
    | false => exact ⟨_, z, B, O, E.step k1 a1, xc, fun v H' r k2 a2 o2 z2 => q v H' r (k1.trans k2) a2 (o2.ahead k1 a1) z2⟩
    | true => exact q _ H1 (.val (.bool true)) k1 a1 (Rp.bl _) z
theorem de_not (h : DE X c a Γ fun r => ∃ k, r = .val (.bool k) ∧ K (.val (.bool (!k)))) : DE X c (.UnaryOp .Not a pos) Γ K := PE.weak (pe_not pe_U) fun σ H Q ⟨B, O, E, xc, q⟩ =>
  ⟨_, h, B, O, E, xc, fun v H1 r k1 a1 o1 ⟨k, e, z⟩ => by
    subst e
    exact ⟨k, (o1.at E).bl, q _ H1 (.val (.bool (!k))) k1 a1 (Rp.bl _) z⟩⟩
theorem de_if {t : Expr} (h : DT X c t Γ fun k => if k = true then DE X c a Γ K else DE X c b Γ K) : DE X c (.IfExp t a b pos) Γ K := PE.weak (pe_ifExp pt_U pe_U pe_U) fun σ H Q t => by
  obtain ⟨B, O, E, xc, q⟩ := t
  refine ⟨_, h, B, O, E, xc, fun k H1 k1 a1 z => ?_⟩
  cases k with
  | true => exact ⟨_, z, B, O, E.step k1 a1, xc, fun v H' r k2 a2 o2 z2 => q v H' r (k1.trans k2) a2 (o2.ahead k1 a1) z2⟩
  | false => exact ⟨_, z, B, O, E.step k1 a1, xc, fun v H' r k2 a2 o2 z2 => q v H' r (k1.trans k2) a2 (o2.ahead k1 a1) z2⟩
/-! ### lists of values, displays -/
theorem da_nil {L : List Rs → Prop} (h : L []) : DA X c [] Γ L := PA.weak pa_nil fun σ H Q ⟨B, O, E, xc, q⟩ => q [] H [] Kp.refl E.hand .nil h
theorem RsAll.later {B : Base} {O : Addr → Prop} {σ : St} {H H1 H2 : Hp} (E : Stt c B O Γ σ H) (k : Kp c H H1) (ha : c.HA H1) (k2 : Kp c H1 H2) : ∀ {vs : List V} {rs : List Rs}, RsAll c B O H H1 vs rs → RsAll c B O H H2 vs rs
  | _, _, .nil => .nil
  | _, _, .cons h t => .cons (h.later E k ha k2) (RsAll.later E k ha k2 t)
theorem RsAll.ahead {B : Base} {O : Addr → Prop} {H H1 H2 : Hp} (k : Kp c H H1) (ha : c.HA H1) : ∀ {vs : List V} {rs : List Rs}, RsAll c B O H1 H2 vs rs → RsAll c B O H H2 vs rs
  | _, _, .nil => .nil
  | _, _, .cons h t => .cons (h.ahead k ha) (RsAll.ahead k ha t)
theorem da_cons {L : List Rs → Prop} (h : DE X c e Γ fun r => DA X c es Γ fun rs => L (r :: rs)) (hs : starEach (e :: es) X.env = (false, eval e X.env) :: starEach es X.env := by rfl) : DA X c (e :: es) Γ L :=
  PA.weak (pa_cons pe_U pa_U hs) fun σ H Q t => by
    obtain ⟨B, O, E, xc, q⟩ := t
    refine ⟨_, h, B, O, E, xc, fun v H1 r k1 a1 o1 z => ?_⟩
    exact ⟨_, z, B, O, E.step k1 a1, xc, fun vs H2 rs k2 a2 o2 z2 => q (v :: vs) H2 (r :: rs) (k1.trans k2) a2 (.cons (o1.later E k1 a1 k2) (o2.ahead k1 a1)) z2⟩
@[reducible] def dats : List Rs → Option (List D)
  | [] => some []
  | r :: rs => match r.dat, dats rs with
    | some d, some ds => some (d :: ds)
    | _, _ => none
theorem RsAll.rps {B : Base} {O : Addr → Prop} {σ : St} {H H' : Hp} (E : Stt c B O Γ σ H) : ∀ {vs : List V} {rs : List Rs} {ds : List D}, RsAll c B O H H' vs rs → dats rs = some ds → RpAll c.kx O H' vs ds
  | _, _, _, .nil, e => by cases e; exact .nil
  | _, _, ds, @RsAll.cons _ _ _ _ _ v vs r rs h t, e => by
    unfold dats at e
    cases e1 : r.dat with
    | none => rw [e1] at e; simp at e
    | some d =>
      cases e2 : dats rs with
      | none => rw [e1, e2] at e; simp at e
      | some es =>
        rw [e1, e2] at e
        cases e
        exact .cons ((h.at E).rp e1) (RsAll.rps E t e2)
theorem de_tup {x1} (h : DA X c es Γ fun rs => ∃ ds, dats rs = some ds ∧ ds.length ≤ sizeLine ∧ K (.val (.tuple ds))) : DE X c (.Tuple es x1 pos) Γ K := PE.weak (pe_tup pa_U) fun σ H Q t => by
  obtain ⟨B, O, E, xc, q⟩ := t
  refine ⟨_, h, B, O, E, xc, fun vs H1 rs k1 a1 o1 ⟨ds, e, hz, z⟩ => ?_⟩
  have R := o1.rps E e
  have E1 := E.step k1 a1
  refine ⟨by rw [R.length]; exact hz, fun p hp => q _ _ (.val (.tuple ds)) (k1.trans (Kp.new hp)) (a1.new hp) (.tup (.inl ⟨upd_same, (E1.fresh hp).1⟩) (R.mv (E1.mv (Kp.new hp)))) z⟩
theorem mvNew {O : Addr → Prop} {H : Hp} {p : Addr} {o : HO} (hp : H p = none) : Mv O (fun a => O a ∨ a = p) H (upd H p o) :=
  ⟨fun a z n => z.elim (fun z => z) fun z => absurd hp (z ▸ n), fun b u _ e => by rw [upd_ne (ne_of_none e hp)]; exact e⟩
theorem de_lst (h : DA X c es Γ fun rs => ∃ ds, dats rs = some ds ∧ ds.length ≤ sizeLine ∧ K (.new (.l ds))) : DE X c (.List es pos) Γ K := PE.weak (pe_lst pa_U) fun σ H Q t => by
  obtain ⟨B, O, E, xc, q⟩ := t
  refine ⟨_, h, B, O, E, xc, fun vs H1 rs k1 a1 o1 ⟨ds, e, hz, z⟩ => ?_⟩
  have R := o1.rps E e
  have E1 := E.step k1 a1
  exact ⟨by rw [R.length]; exact hz, fun p hp => q _ _ (.new (.l ds)) (k1.trans (Kp.new hp)) (a1.new hp) ⟨p, rfl, k1.free a1 hp, vs, upd_same, R.mv (mvNew hp)⟩ z⟩
/-! ### subscripts -/
theorem de_ix (h : DE X c a Γ fun ra => DE X c b Γ fun rb => W2 c Γ (rIx X.K) ra rb K) (hs : PlainIx b := by exact fun _ _ => rfl) : DE X c (.Subscript a b pos) Γ K := PE.weak (pe_ix ix_seq pe_U pe_U hs) fun _ _ _ => op2 h
theorem atI_get' {α : Type} {xs : List α} {i : Int} {v : α} (h : atI xs i = some v) : ∃ j, ixN xs.length i = some j ∧ xs[j]? = some v := by
  unfold atI at h
  cases e : ixN xs.length i with
  | none => rw [e] at h; cases h
  | some j => rw [e] at h; exact ⟨j, rfl, h⟩
theorem RpAll.at {k : Kx} {O : Addr → Prop} {H : Hp} {vs : List V} {ds : List D} {i : Int} {d : D} (h : RpAll k O H vs ds) (e : atI ds i = some d) : ∃ v, atI vs i = some v ∧ Rp k O H v d := by
  obtain ⟨j, e1, e2⟩ := atI_get' e
  obtain ⟨v, h1, h2⟩ := h.get e2
  refine ⟨v, ?_, h2⟩
  unfold atI
  rw [h.length, e1]
  exact h1
theorem w_ixL {ds : List D} {d : D} (e1 : ra.its = some ds) (e2 : atI ds i = some d) (h : K (.val d)) : W2 c Γ (rIx X.K) ra (.val (.int i)) K := fun B O H x y Q σ E h1 h2 q => by
  cases h2.int
  obtain ⟨p, xs, rfl, hp, hx⟩ := h1.list e1
  obtain ⟨v, e3, rv⟩ := hx.at e2
  exact .inl ⟨p, xs, i, v, rfl, rfl, SqL.of hp, e3, q v H (.val d) Kp.refl E.hand rv h⟩
theorem w_ixT {ds : List D} {d : D} (bd : Bd X c) (e2 : atI ds i = some d) (h : K (.val d)) : W2 c Γ (rIx X.K) (.val (.tuple ds)) (.val (.int i)) K := fun B O H x y Q σ E h1 h2 q => by
  cases h2.int
  obtain ⟨p, xs, rfl, hp, _, hx⟩ := h1.tup
  obtain ⟨v, e3, rv⟩ := hx.at e2
  exact .inr (.inl ⟨p, xs, i, v, rfl, rfl, by rw [bd.kx]; exact hp, e3, q v H (.val d) Kp.refl E.hand rv h⟩)
/-! ### calls of what is built in -/
inductive RsAts (c : Cs) (B : Base) (O : Addr → Prop) (H : Hp) : List V → List Rs → Prop
  | nil : RsAts c B O H [] []
  | cons {v : V} {vs : List V} {r : Rs} {rs : List Rs} : RsAt c B O H v r → RsAts c B O H vs rs → RsAts c B O H (v :: vs) (r :: rs)
theorem RsAll.ats {B : Base} {O : Addr → Prop} {σ : St} {H H' : Hp} (E : Stt c B O Γ σ H) : ∀ {vs : List V} {rs : List Rs}, RsAll c B O H H' vs rs → RsAts c B O H' vs rs
  | _, _, .nil => .nil
  | _, _, .cons h t => .cons (h.at E) (RsAll.ats E t)
def WA (c : Cs) (Γ : List Sl) (r : List V → Hp → VK → Prop) (rs : List Rs) (K : Rs → Prop) : Prop := ∀ B O H vs Q σ, Stt c B O Γ σ H → RsAts c B O H vs rs →
  (∀ v H' r, Kp c H H' → c.HA H' → RsOk c B O H H' v r → K r → Q v H') → r vs H Q
theorem opA {r : List V → Hp → VK → Prop} (h : DA X c es Γ fun rs => WA c Γ r rs K) {σ : St} {H : Hp} {Q : VK} (t : tD c Γ K σ H Q) : tCB r (tUA X c es Γ) σ H Q := by
  obtain ⟨B, O, E, xc, q⟩ := t
  refine ⟨_, h, B, O, E, xc, fun vs H1 rs k1 a1 o1 hr => ?_⟩
  exact hr B O H1 vs Q σ (E.step k1 a1) (o1.ats E) fun v H' r k3 a3 o3 z => q v H' r (k1.trans k3) a3 (o3.ahead k1 a1) z
theorem de_callB {x : Str} {id : String} {p : Pos} {r : List V → Hp → VK → Prop} (hc : CallR X (.builtin id) r) (hm : X.mg x = none) (h : DA X c (e :: es) Γ fun rs => WA c Γ r rs K) (hv : bootBuiltins x = some (.builtin id)) (hg : Gl X x) (hn : x ≠ "__name__" := by decide) (hdb : (x == ("__debug__" : Str)) = false := by decide)
    (he : starEach (e :: es) X.env = (false, eval e X.env) :: starEach es X.env := by rfl) (hpl : (backTo pos (starEach es X.env)).any (·.1) = false := by rfl) : DE X c (.Call (.Name x p) (e :: es) [] pos) Γ K :=
  PE.weak (pe_callB hc hg hm hv pa_U hn hdb he hpl) fun _ _ _ => opA h
theorem de_callTy {x : Str} {T : String} {p : Pos} {r : List V → Hp → VK → Prop} (hc : CallR X (.type T) r) (hm : X.mg x = none) (h : DA X c (e :: es) Γ fun rs => WA c Γ r rs K) (hv : bootBuiltins x = some (.type T)) (hg : Gl X x) (hn : x ≠ "__name__" := by decide) (hdb : (x == ("__debug__" : Str)) = false := by decide)
    (he : starEach (e :: es) X.env = (false, eval e X.env) :: starEach es X.env := by rfl) (hpl : (backTo pos (starEach es X.env)).any (·.1) = false := by rfl) : DE X c (.Call (.Name x p) (e :: es) [] pos) Γ K :=
  PE.weak (pe_callTy hc hg hm hv pa_U hn hdb he hpl) fun _ _ _ => opA h
end
end Dl

namespace Dl
open PySem PySem.Spec L2

/-! ### statements -/
/-- what is wanted behind a statement, as data -/
structure Pd where
  nx : List Sl → Prop
  rt : Rs → Prop
  bk : List Sl → Prop := fun _ => False
  ct : List Sl → Prop := fun _ => False
def RtOk (c : Cs) (B : Base) (H : Hp) (v : V) : Rs → Prop
  | .val d => Rp c.kx B.O0 H v d
  | .new t => ∃ p, v = .ref p ∧ ¬ B.O0 p ∧ (B.H0 p = none ∨ B.Mx p) ∧ CtAt c.kx (fun a => B.O0 a ∨ a = p) H p t
  | .own _ => False
  | .bor _ => False
  | .hnd => Hnd c v
structure Cn (c : Cs) (B : Base) (E : Pd) (Z : Ends) : Prop where
  nx : ∀ O Γ σ H, Stt c B O Γ σ H → E.nx Γ → Z.nx σ H
  rt : ∀ O Γ σ H v r, Stt c B O Γ σ H → RtOk c B H v r → E.rt r → Z.rt v H
  bk : ∀ O Γ σ H, Stt c B O Γ σ H → E.bk Γ → Z.bk σ H
  ct : ∀ O Γ σ H, Stt c B O Γ σ H → E.ct Γ → Z.ct σ H
def tDS (c : Cs) (Γ : List Sl) (E : Pd) : TS := fun Z σ H => ∃ B O, Stt c B O Γ σ H ∧ ExC c B ∧ Cn c B E Z
def DS (X : Cx) (c : Cs) (st : Stmt) (Γ : List Sl) (E : Pd) : Prop := PS X st (tDS c Γ E)
def DSs (X : Cx) (c : Cs) (st : List Stmt) (Γ : List Sl) (E : Pd) : Prop := PSs X st (tDS c Γ E)
section
variable {c : Cs} {B : Base} {O : Addr → Prop} {Γ : List Sl} {σ : St} {H H' : Hp} {v : V} {i : Nat}
/-- a slot is written -/
theorem Stt.setS (E : Stt c B O Γ σ H) (i : Nat) {v : Option V} {s : Sl} (ok : SlOk c B O H (some v) s) (no : ∀ t, s ≠ .own t) : Stt c B O (Γ.set i s) (σ.set i v) H where
  len := by rw [List.length_set, List.length_set]; exact E.len
  hand := E.hand
  m0 := E.m0
  mx0 := E.mx0
  sub := E.sub
  ow := E.ow
  al := E.al
  mxa := E.mxa
  keep := E.keep
  sl := fun j z e => by
    by_cases h : i = j
    · subst h
      by_cases hl : i < Γ.length
      · rw [List.getElem?_set_self hl] at e
        cases e
        rw [List.getElem?_set_self (by rw [E.len]; exact hl)]
        exact ok
      · rw [List.getElem?_eq_none (by rw [List.length_set]; omega)] at e
        cases e
    · rw [List.getElem?_set_ne h] at e ⊢
      exact E.sl j z e
  dist := fun j l t u a e1 e2 f1 f2 => by
    have nj : i ≠ j := fun h => by
      subst h
      by_cases hl : i < Γ.length
      · rw [List.getElem?_set_self hl] at e1
        exact no _ (Option.some.inj e1)
      · rw [List.getElem?_eq_none (by rw [List.length_set]; omega)] at e1
        cases e1
    have nl : i ≠ l := fun h => by
      subst h
      by_cases hl : i < Γ.length
      · rw [List.getElem?_set_self hl] at e2
        exact no _ (Option.some.inj e2)
      · rw [List.getElem?_eq_none (by rw [List.length_set]; omega)] at e2
        cases e2
    rw [List.getElem?_set_ne nj] at e1 f1
    rw [List.getElem?_set_ne nl] at e2 f2
    exact E.dist j l t u a e1 e2 f1 f2
theorem SlOk.mv (m : Mv O O' H H') (kd : ∀ a fs, H a = some (.xd fs) → H' a = some (.xd fs)) (k : ∀ a, OwnA B O a → OwnA B O' a ∧ H' a = H a) (f : ∀ a, Fz c B O a → H a ≠ none → Fz c B O' a ∧ H' a = H a) {o : Option (Option V)} {s : Sl} (h : SlOk c B O H o s) : SlOk c B O' H' o s := by
  cases s with
  | un => trivial
  | val d => obtain ⟨v, e, r⟩ := h; exact ⟨v, e, r.mv m⟩
  | own t => obtain ⟨a, e, w, q⟩ := h; exact ⟨a, e, (k a w).1, q.mv m (k a w).2⟩
  | bor t => obtain ⟨a, e, w, q⟩ := h; have z := f a w q.there; exact ⟨a, e, z.1, q.mv m z.2⟩
  | hnd => exact h
  | xc ds => obtain ⟨a, dd, fs, e1, e2, e3, r⟩ := h; exact ⟨a, dd, fs, e1, e2, kd dd fs e3, r.mv m⟩
  | scr ns => obtain ⟨a, e, z⟩ := h; exact ⟨a, e, z.mv m⟩
/-- a new container comes to a slot as one's own -/
theorem Stt.setN (E : Stt c B O Γ σ H) (i : Nat) {p : Addr} {t : Ct} (h1 : ¬ O p) (h2 : ¬ B.O0 p) (h3 : B.H0 p = none) (h4 : ∀ (j : Nat) (s : Ct), Γ[j]? = some (.own s) → σ[j]? ≠ some (some (.ref p)))
    (hc : CtAt c.kx (fun a => O a ∨ a = p) H p t) (h6 : ∀ (j : Nat) (s : Sl), Γ[j]? = some s → SlOk c B (fun a => O a ∨ a = p) H σ[j]? s) : Stt c B (fun a => O a ∨ a = p) (Γ.set i (.own t)) (σ.set i (some (.ref p))) H where
  len := by rw [List.length_set, List.length_set]; exact E.len
  hand := E.hand
  m0 := E.m0
  mx0 := E.mx0
  sub := fun a z => .inl (E.sub a z)
  ow := fun a z => z.elim (E.ow a) fun e => .inr (.inl (e ▸ h3))
  al := fun a z => z.elim (E.al a) fun e => e ▸ hc.there
  mxa := E.mxa
  keep := E.keep
  sl := fun j z e => by
    by_cases h : i = j
    · subst h
      by_cases hl : i < Γ.length
      · rw [List.getElem?_set_self hl] at e
        cases e
        rw [List.getElem?_set_self (by rw [E.len]; exact hl)]
        exact ⟨p, rfl, ⟨.inr rfl, h2, .inl h3⟩, hc⟩
      · rw [List.getElem?_eq_none (by rw [List.length_set]; omega)] at e
        cases e
    · rw [List.getElem?_set_ne h] at e ⊢
      exact h6 j z e
  dist := fun j l t u a e1 e2 f1 f2 => by
    by_cases hj : i = j
    · by_cases hl : i = l
      · exact hj.symm.trans hl
      · rw [List.getElem?_set_ne hl] at e2 f2
        subst hj
        by_cases hz : i < σ.length
        · rw [List.getElem?_set_self hz] at f1
          have e : a = p := (V.ref.inj (Option.some.inj (Option.some.inj f1))).symm
          exact absurd (e ▸ f2) (h4 l u e2)
        · rw [List.getElem?_eq_none (by rw [List.length_set]; omega)] at f1
          cases f1
    · rw [List.getElem?_set_ne hj] at e1 f1
      by_cases hl : i = l
      · subst hl
        by_cases hz : i < σ.length
        · rw [List.getElem?_set_self hz] at f2
          have e : a = p := (V.ref.inj (Option.some.inj (Option.some.inj f2))).symm
          exact absurd (e ▸ f1) (h4 j t e1)
        · rw [List.getElem?_eq_none (by rw [List.length_set]; omega)] at f2
          cases f2
      · rw [List.getElem?_set_ne hl] at e2 f2
        exact E.dist j l t u a e1 e2 f1 f2
/-- behind an expression's step, its new container is put into a slot -/
theorem Stt.setNew (E : Stt c B O Γ σ H) (k : Kp c H H') (ha : c.HA H') (i : Nat) {p : Addr} {t : Ct} (n : H p = none) (hc : CtAt c.kx (fun a => O a ∨ a = p) H' p t) : Stt c B (fun a => O a ∨ a = p) (Γ.set i (.own t)) (σ.set i (some (.ref p))) H' := by
  obtain ⟨f1, f2, f3, f4, f5⟩ := E.fresh n
  have E' := E.step k ha
  have m : Mv O (fun a => O a ∨ a = p) H H' := ⟨fun a z na => z.elim (fun z => z) fun z => absurd n (z ▸ na), (E.mv k).kp⟩
  have kp : ∀ a o, ¬ c.M0 a → H a = some o → H' a = H a := fun a o nm e => (k a o nm e).trans e.symm
  refine Stt.setN E' i f1 f2 f5 (fun j s e z => ?_) hc fun j s e => ?_
  · obtain ⟨a, e1, _, q⟩ := E.sl j _ e
    rw [e1] at z
    have e2 : a = p := V.ref.inj (Option.some.inj (Option.some.inj z))
    exact q.there (e2 ▸ n)
  · refine (E.sl j s e).mv m (fun a fs e => k a _ (E.hand.noX e) e) (fun a w => ?_) (fun a w na => ?_)
    · obtain ⟨o, ho⟩ := Option.ne_none_iff_exists'.mp (E.al a w.1)
      exact ⟨⟨.inl w.1, w.2.1, w.2.2⟩, kp a o (w.noM E) ho⟩
    · obtain ⟨o, ho⟩ := Option.ne_none_iff_exists'.mp na
      exact ⟨⟨w.1, fun z => z.elim w.2 fun z => absurd n (z ▸ na)⟩, kp a o w.1 ho⟩
end

/-- a result put into a slot -/
@[reducible] def Rs.sl : Rs → Option Sl
  | .val d => some (.val d)
  | .new t => some (.own t)
  | .own _ => none
  | .bor t => some (.bor t)
  | .hnd => some .hnd
@[reducible] def Rs.rt : Rs → Option Rs
  | .val d => some (.val d)
  | .new t => some (.new t)
  | .own t => some (.new t)
  | .bor _ => none
  | .hnd => some .hnd
section
variable {c : Cs} {B : Base} {O : Addr → Prop} {Γ : List Sl} {σ : St} {H H' : Hp} {v : V} {i : Nat} {r r' : Rs} {s : Sl}
theorem Stt.put (E : Stt c B O Γ σ H) (k : Kp c H H') (ha : c.HA H') (ok : RsOk c B O H H' v r) (i : Nat) (e : r.sl = some s) : ∃ O', Stt c B O' (Γ.set i s) (σ.set i (some v)) H' := by
  have E' := E.step k ha
  cases r with
  | val d => cases e; exact ⟨O, E'.setS i (s := .val d) ⟨v, rfl, ok⟩ fun t z => nomatch z⟩
  | new t => cases e; obtain ⟨p, rfl, n, q⟩ := ok; exact ⟨_, E.setNew k ha i n q⟩
  | own t => cases e
  | bor t => cases e; obtain ⟨p, rfl, w, q⟩ := ok; exact ⟨O, E'.setS i (s := .bor t) ⟨p, rfl, w, q⟩ fun t z => nomatch z⟩
  | hnd => cases e; exact ⟨O, E'.setS i (s := .hnd) ⟨v, rfl, ok⟩ fun t z => nomatch z⟩
theorem Stt.ret (E : Stt c B O Γ σ H) (k : Kp c H H') (ok : RsOk c B O H H' v r) (e : r.rt = some r') : RtOk c B H' v r' := by
  have m0 : ∀ {H : Hp}, Mv O B.O0 H H := fun {H} => ⟨fun a z _ => E.sub a z, fun _ _ _ e => e⟩
  cases r with
  | val d => cases e; exact Rp.mv m0 ok
  | new t =>
    cases e
    obtain ⟨p, rfl, n, q⟩ := ok
    obtain ⟨f1, f2, f3, f4, f5⟩ := E.fresh n
    exact ⟨p, rfl, f2, .inl f5, q.mv ⟨fun a z _ => z.elim (fun z => .inl (E.sub a z)) .inr, fun _ _ _ e => e⟩ rfl⟩
  | own t =>
    cases e
    obtain ⟨p, rfl, w, q⟩ := ok
    exact ⟨p, rfl, w.2.1, w.2.2, q.mv ⟨fun a z _ => z.elim (E.sub a) fun z => z ▸ w.1, fun _ _ _ e => e⟩ rfl⟩
  | bor t => cases e
  | hnd => cases e; exact ok
end
section
variable {X : Cx} {c : Cs} {st : Stmt} {rest body : List Stmt} {e t : Expr} {Γ : List Sl} {E : Pd} {pos pos' : Pos}
theorem PS.weak {u u' : TS} (h : PS X st u) (w : ∀ Z σ H, u' Z σ H → u Z σ H) : PS X st u' := ⟨fun pins s σ H Z I hw => h.run pins s σ H Z I (w _ _ _ hw)⟩
theorem PSs.weak {u u' : TS} (h : PSs X rest u) (w : ∀ Z σ H, u' Z σ H → u Z σ H) : PSs X rest u' := ⟨fun pins s σ H Z I hw => h.run pins s σ H Z I (w _ _ _ hw)⟩
def tUS (X : Cx) (c : Cs) (st : Stmt) : TS := fun Z σ H => ∃ Γ E, DS X c st Γ E ∧ tDS c Γ E Z σ H
theorem ps_U : PS X st (tUS X c st) := ⟨fun pins s σ H Z I ⟨_, _, h, q⟩ => h.run pins s σ H Z I q⟩
def tUSs (X : Cx) (c : Cs) (st : List Stmt) : TS := fun Z σ H => ∃ Γ E, DSs X c st Γ E ∧ tDS c Γ E Z σ H
theorem pss_U : PSs X rest (tUSs X c rest) := ⟨fun pins s σ H Z I ⟨_, _, h, q⟩ => h.run pins s σ H Z I q⟩
theorem dss_nil (h : E.nx Γ) : DSs X c [] Γ E := PSs.weak pss_nil fun _ σ H ⟨_, O, S, _, q⟩ => q.nx O Γ σ H S h
theorem dss_cons (h : DS X c st Γ { E with nx := fun Γ' => DSs X c rest Γ' E }) : DSs X c (st :: rest) Γ E := PSs.weak (pss_cons ps_U pss_U) fun Z σ H ⟨B, O, S, xc, q⟩ =>
  ⟨Γ, _, h, B, O, S, xc, fun O' Γ' σ' H' S' h' => ⟨Γ', E, h', B, O', S', xc, q⟩, q.rt, q.bk, q.ct⟩
theorem DS.mono {E' : Pd} (h : DS X c st Γ E) (w : (∀ Γ, E.nx Γ → E'.nx Γ) ∧ (∀ r, E.rt r → E'.rt r) ∧ (∀ Γ, E.bk Γ → E'.bk Γ) ∧ ∀ Γ, E.ct Γ → E'.ct Γ) : DS X c st Γ E' := PS.weak h fun Z σ H ⟨B, O, S, xc, q⟩ =>
  ⟨B, O, S, xc, fun O Γ σ H S z => q.nx O Γ σ H S (w.1 _ z), fun O Γ σ H v r S ok z => q.rt O Γ σ H v r S ok (w.2.1 _ z), fun O Γ σ H S z => q.bk O Γ σ H S (w.2.2.1 _ z), fun O Γ σ H S z => q.ct O Γ σ H S (w.2.2.2 _ z)⟩
theorem ds_pass (h : E.nx Γ) : DS X c (.Pass pos) Γ E := PS.weak ps_pass fun _ σ H ⟨_, O, S, _, q⟩ => q.nx O Γ σ H S h
theorem ds_break (h : E.bk Γ) : DS X c (.Break pos) Γ E := PS.weak ps_break fun _ σ H ⟨_, O, S, _, q⟩ => q.bk O Γ σ H S h
theorem ds_continue (h : E.ct Γ) : DS X c (.Continue pos) Γ E := PS.weak ps_continue fun _ σ H ⟨_, O, S, _, q⟩ => q.ct O Γ σ H S h
theorem ds_ret (h : DE X c e Γ fun r => ∃ r', r.rt = some r' ∧ E.rt r') : DS X c (.Return (some e) pos) Γ E := PS.weak (ps_ret pe_U) fun Z σ H ⟨B, O, S, xc, q⟩ =>
  ⟨_, h, B, O, S, xc, fun v H' r k ha ok ⟨r', e, z⟩ => q.rt O Γ σ H' v r' (S.step k ha) (S.ret k ok e) z⟩
theorem ds_retN (h : E.rt (.val .none)) : DS X c (.Return none pos) Γ E := PS.weak ps_retN fun Z σ H ⟨B, O, S, xc, q⟩ => q.rt O Γ σ H .non (.val .none) S Rp.non h
theorem ds_if {a b : List Stmt} (h : DT X c t Γ fun k => if k = true then DSs X c a Γ E else DSs X c b Γ E) : DS X c (.If t a b pos) Γ E := PS.weak (ps_if pt_U pss_U pss_U) fun Z σ H ⟨B, O, S, xc, q⟩ =>
  ⟨_, h, B, O, S, xc, fun k H' kp ha z => by
    have S' := S.step kp ha
    cases k with
    | true => exact ⟨Γ, E, z, B, O, S', xc, q⟩
    | false => exact ⟨Γ, E, z, B, O, S', xc, q⟩⟩
theorem ds_expr (h : DE X c e Γ fun _ => E.nx Γ) (hs : swapsWith e none pos.line X.env = pure false := by rfl) : DS X c (.Expr e pos) Γ E := PS.weak (ps_expr pe_U hs) fun Z σ H ⟨B, O, S, xc, q⟩ =>
  ⟨_, h, B, O, S, xc, fun v H' r k ha ok z => q.nx O Γ σ H' (S.step k ha) z⟩
theorem ds_set (i : Nat) {x : Str} (bd : Bd X c) (hi : X.N[i]? = some x) (hx : Loc X.env.scope x) (h : DE X c e Γ fun r => ∃ s, r.sl = some s ∧ E.nx (Γ.set i s)) (hs : swapsWith e (some (.Name x pos')) pos.line X.env = pure false := by rfl)
    (hf : X.fn x = true ∨ X.env.scope.names.lookup x = some .local := by first | exact .inl rfl | exact .inr rfl | assumption) : DS X c (.Assign [.Name x pos'] e pos) Γ E := PS.weak (ps_set bd.nd hi hx pe_U hs hf) fun Z σ H ⟨B, O, S, xc, q⟩ =>
  ⟨_, h, B, O, S, xc, fun v H' r k ha ok ⟨s, e, z⟩ => by
    obtain ⟨O', S'⟩ := S.put k ha ok i e
    exact q.nx O' _ _ H' S' z⟩
/-- x += e, ints -/
theorem ds_augI (i : Nat) {x : Str} {op : Operator} {g : Int → Int → Int} (bd : Bd X c) (hi : X.N[i]? = some x) (hx : Loc X.env.scope x) (ho : PIp X op (ipI g)) {n : Int} (hn : Γ[i]? = some (.val (.int n))) (h : DE X c e Γ fun r => ∃ m, r = .val (.int m) ∧ E.nx (Γ.set i (.val (.int (g n m)))))
    (hf : X.fn x = true ∨ X.env.scope.names.lookup x = some .local := by first | exact .inl rfl | exact .inr rfl | assumption) : DS X c (.AugAssign (.Name x pos') op e pos) Γ E := PS.weak (ps_aug bd.nd hi hx pe_U ho hf) fun Z σ H ⟨B, O, S, xc, q⟩ => by
  obtain ⟨v, ev, rv⟩ := S.sl i _ hn
  cases rv
  refine ⟨_, ev, _, h, B, O, S, xc, fun y H' r k ha ok ⟨m, e, z⟩ => ?_⟩
  subst e
  cases (ok.at S).int
  refine ⟨n, m, rfl, rfl, ?_⟩
  exact q.nx O _ _ H' ((S.step k ha).setS i (s := .val (.int (g n m))) ⟨_, rfl, Rp.int _⟩ fun t z => nomatch z) z
/-! ### targets -/
/-- a target takes an item -/
def DG (X : Cx) (c : Cs) (tg : Expr) (ix : List Nat) (f : D → List Sl → List Sl → Prop) : Prop := ∃ g : TG, PG X tg g ∧ ∀ B O Γ σ H v d Γ' (Q : St → Hp → Prop), Stt c B O Γ σ H → Rp c.kx O H v d → f d Γ Γ' →
  (∀ σ', Stt c B O Γ' σ' H → (∀ j, j ∉ ix → σ'[j]? = σ[j]?) → Q σ' H) → g v σ H Q
def DGs (X : Cx) (c : Cs) (ts : List Expr) (ix : List Nat) (f : List D → List Sl → List Sl → Prop) : Prop := ∃ g : TGs, PGs X ts g ∧ ∀ B O Γ σ H vs ds Γ' (Q : St → Hp → Prop), Stt c B O Γ σ H → RpAll c.kx O H vs ds → f ds Γ Γ' →
  (∀ σ', Stt c B O Γ' σ' H → (∀ j, j ∉ ix → σ'[j]? = σ[j]?) → Q σ' H) → g vs σ H Q
theorem dg_name (i : Nat) {x : Str} (bd : Bd X c) (hi : X.N[i]? = some x) (hx : Loc X.env.scope x) (hf : X.fn x = true ∨ X.env.scope.names.lookup x = some .local := by first | exact .inl rfl | exact .inr rfl | assumption) : DG X c (.Name x pos) [i] fun d Γ Γ' => Γ' = Γ.set i (.val d) :=
  ⟨gName i, pg_name bd.nd hi hx hf, fun B O Γ σ H v d Γ' Q S r e q => by
    subst e
    exact q _ (S.setS i (s := .val d) ⟨v, rfl, r⟩ fun t z => nomatch z) fun j hj => List.getElem?_set_ne (fun z => hj (by simp [z]))⟩
theorem dgs_nil : DGs X c [] [] fun ds Γ Γ' => ds = [] ∧ Γ' = Γ := ⟨gNil, pgs_nil, fun B O Γ σ H vs ds Γ' Q S r ⟨e, e2⟩ q => by
  subst e e2
  cases r
  exact ⟨rfl, q σ S fun _ _ => rfl⟩⟩
end
end Dl

namespace Dl
open PySem PySem.Spec L2

/-! ### targets, further -/
section
variable {X : Cx} {c : Cs} {tg e : Expr} {es : List Expr} {Γ : List Sl} {pos : Pos} {ix ix2 : List Nat}
theorem dgs_cons {f : D → List Sl → List Sl → Prop} {fs : List D → List Sl → List Sl → Prop} (h1 : DG X c e ix f) (h2 : DGs X c es ix2 fs)
    (hs : (assignEach (e :: es) X.env).map (·.2) = assign e X.env :: (assignEach es X.env).map (·.2) := by rfl) : DGs X c (e :: es) (ix ++ ix2) fun ds Γ Γ' => ∃ d r Γ1, ds = d :: r ∧ f d Γ Γ1 ∧ fs r Γ1 Γ' := by
  obtain ⟨g, pg, hg⟩ := h1
  obtain ⟨gs, pgs, hgs⟩ := h2
  refine ⟨gCons g gs, pgs_cons pg pgs hs, fun B O Γ σ H vs ds Γ' Q S r ⟨d, dr, Γ1, e, h1, h2⟩ q => ?_⟩
  subst e
  cases r with
  | cons r1 r2 =>
    refine ⟨_, _, rfl, hg B O Γ σ H _ d Γ1 _ S r1 h1 fun σ1 S1 k1 => ?_⟩
    exact hgs B O Γ1 σ1 H _ dr Γ' Q S1 r2 h2 fun σ2 S2 k2 => q σ2 S2 fun j hj => (k2 j fun z => hj (List.mem_append_right _ z)).trans (k1 j fun z => hj (List.mem_append_left _ z))
theorem dg_tup {fs : List D → List Sl → List Sl → Prop} {k n : Nat} (bd : Bd X c) (hc : X.calm = true) (h : DGs X c es ix fs)
    (hn : (assignEach es X.env).length = n := by rfl) (hst : (assignEach es X.env).findIdx? (·.1) = none := by rfl) : DG X c (.Tuple es k pos) ix fun d Γ Γ' => ∃ ds, d = .tuple ds ∧ ds.length = n ∧ fs ds Γ Γ' := by
  obtain ⟨gs, pgs, hgs⟩ := h
  refine ⟨gTup X.K n gs, pg_tup hc pgs hn hst, fun B O Γ σ H v d Γ' Q S r ⟨ds, e, hl, h⟩ q => ?_⟩
  subst e
  cases r with
  | tup nd a => exact ⟨_, _, rfl, by rw [bd.kx]; exact nd.sq, a.length.trans hl, hgs B O Γ σ H _ ds Γ' Q S a h q⟩
theorem dg_unl {fs : List D → List Sl → List Sl → Prop} {k n : Nat} (bd : Bd X c) (hc : X.calm = true) (h : DGs X c es ix fs)
    (hn : (assignEach es X.env).length = n := by rfl) (hst : (assignEach es X.env).findIdx? (·.1) = none := by rfl) : DG X c (.Tuple es k pos) ix fun d Γ Γ' => ∃ ds, d = .list ds ∧ ds.length = n ∧ fs ds Γ Γ' := by
  obtain ⟨gs, pgs, hgs⟩ := h
  refine ⟨gUnl X.K n gs, pg_unl hc pgs hn hst, fun B O Γ σ H v d Γ' Q S r ⟨ds, e, hl, h⟩ q => ?_⟩
  subst e
  cases r with
  | lst nd a => exact ⟨_, _, rfl, SqL.of nd.1, a.length.trans hl, hgs B O Γ σ H _ ds Γ' Q S a h q⟩
/-- a, b = e -/
theorem ds_unpack {f : D → List Sl → List Sl → Prop} {E : Pd} (hg : DG X c tg ix f) (h : DE X c e Γ fun r => ∃ d Γ', r.dat = some d ∧ f d Γ Γ' ∧ E.nx Γ')
    (hs : swapsWithSole [tg] e pos.line X.env = pure false := by rfl) (hw : swappedStores [tg] e X.env = pure none := by rfl)
    (h1 : (assignEach [tg] X.env).map (·.2) = [assign tg X.env] := by rfl) : DS X c (.Assign [tg] e pos) Γ E := by
  obtain ⟨g, pg, hg⟩ := hg
  refine PS.weak (ps_asg pe_U pg hs hw h1) fun Z σ H ⟨B, O, S, xc, q⟩ => ⟨_, h, B, O, S, xc, fun v H' r k ha ok ⟨d, Γ', e, hf, z⟩ => ?_⟩
  exact hg B O Γ σ H' v d Γ' _ (S.step k ha) ((ok.at S).rp e) hf fun σ' S' _ => q.nx O Γ' σ' H' S' z
end
/-! ### what a loop walks -/
def ItOk (k : Kx) (Mx O : Addr → Prop) (H1 : Hp) (J : It) (ds : List D) : Prop := ∀ (i : Nat) (O' : Addr → Prop) (H2 : Hp), (∀ b o, ¬ Mx b → H1 b = some o → H2 b = some o) → (∀ a, O' a → H1 a ≠ none → O a) → (∀ a, O' a → H2 a ≠ none) →
  (∀ d, ds[i]? = some d → J.go i H2 ∧ ∀ x H3, J.yld i H2 x H3 → (∀ b o, H2 b = some o → H3 b = some o) ∧ Rp k O' H3 x d) ∧ (i = ds.length → J.stop i H2)
def MxOf (c : Cs) (B : Base) (O : Addr → Prop) (a : Addr) : Prop := c.M0 a ∨ OwnA B O a
def tDI (c : Cs) (Γ : List Sl) (K : List D → Prop) : TI := fun σ H R => ∃ B O, Stt c B O Γ σ H ∧ ExC c B ∧ ∀ J H' ds, Kp c H H' → c.HA H' → ItOk c.kx (MxOf c B O) O H' J ds → K ds → R J H'
def DI (X : Cx) (c : Cs) (tg iter : Expr) (Γ : List Sl) (K : List D → Prop) : Prop := PI X tg iter (tDI c Γ K)
section
variable {X : Cx} {c : Cs} {tg e e2 : Expr} {Γ : List Sl} {K : List D → Prop} {pos p : Pos}
theorem PI.weak {w w' : TI} (h : PI X tg e w) (k : ∀ σ H R, w' σ H R → w σ H R) : PI X tg e w' := ⟨fun pins s σ H R I hw => h.run pins s σ H R I (k _ _ _ hw)⟩
theorem PI.either {w w' : TI} (h : PI X tg e w) (h' : PI X tg e w') : PI X tg e (fun σ H R => w σ H R ∨ w' σ H R) := ⟨fun pins s σ H R I hw => hw.elim (h.run pins s σ H R I) (h'.run pins s σ H R I)⟩
def tUI (X : Cx) (c : Cs) (tg e : Expr) : TI := fun σ H R => ∃ Γ K, DI X c tg e Γ K ∧ tDI c Γ K σ H R
theorem pi_U : PI X tg e (tUI X c tg e) := ⟨fun pins s σ H R I ⟨_, _, h, q⟩ => h.run pins s σ H R I q⟩
theorem DI.mono {K' : List D → Prop} (h : DI X c tg e Γ K) (w : ∀ ds, K ds → K' ds) : DI X c tg e Γ K' := PI.weak h fun σ H R ⟨B, O, S, xc, q⟩ => ⟨B, O, S, xc, fun J H' ds k ha ok z => q J H' ds k ha ok (w ds z)⟩
theorem mxO {B : Base} {O : Addr → Prop} {σ : St} {H : Hp} (S : Stt c B O Γ σ H) {a : Addr} (h : MxOf c B O a) : O a := h.elim S.mO fun h => h.1
/-- an unchanging list at a -/
theorem itl_ok {k : Kx} {Mx O : Addr → Prop} {H1 : Hp} {a : Addr} {xs : List V} {ds : List D} (e : H1 a = some (.lst xs)) (n : ¬ Mx a) (hm : ∀ a, Mx a → O a) (r : RpAll k O H1 xs ds) : ItOk k Mx O H1 (Itl k.K a) ds := fun i O' H2 k1 k2 k3 => by
  have e2 : H2 a = some (.lst xs) := k1 a _ n e
  have m : Mv O O' H1 H2 := ⟨k2, fun b o nb eb => k1 b o (fun z => nb (hm b z)) eb⟩
  have sq : SqL k.K H2 a xs := SqL.of e2
  have uniq : ∀ ys, SqL k.K H2 a ys → True := fun _ _ => trivial
  refine ⟨fun d hd => ?_, fun hl => ⟨xs, sq, by rw [r.length]; exact Nat.le_of_eq hl.symm⟩⟩
  obtain ⟨v, hv, rv⟩ := r.get hd
  refine ⟨⟨xs, v, sq, hv⟩, fun x H3 ⟨e3, f⟩ => ?_⟩
  subst e3
  refine ⟨fun _ _ z => z, ?_⟩
  have ex := f xs sq
  rw [hv] at ex
  cases ex
  exact rv.mv m
theorem itt_ok {k : Kx} {Mx O : Addr → Prop} {H1 : Hp} {a : Addr} {xs : List V} {ds : List D} (e : NdT k O H1 a xs) (hm : ∀ a, Mx a → O a) (r : RpAll k O H1 xs ds) : ItOk k Mx O H1 (Itt k.K a) ds := fun i O' H2 k1 k2 k3 => by
  have m : Mv O O' H1 H2 := ⟨k2, fun b o nb eb => k1 b o (fun z => nb (hm b z)) eb⟩
  have sq : SqT k.K H2 a xs := (e.mv m).sq
  refine ⟨fun d hd => ?_, fun hl => ⟨xs, sq, by rw [r.length]; exact Nat.le_of_eq hl.symm⟩⟩
  obtain ⟨v, hv, rv⟩ := r.get hd
  refine ⟨⟨xs, v, sq, hv⟩, fun x H3 ⟨e3, f⟩ => ?_⟩
  subst e3
  refine ⟨fun _ _ z => z, ?_⟩
  have ex := f xs sq
  rw [hv] at ex
  cases ex
  exact rv.mv m
theorem itr_ok {k : Kx} {Mx O : Addr → Prop} {H1 : Hp} {lo : Int} {n : Nat} : ItOk k Mx O H1 (Itr lo n) ((List.range n).map fun (i : Nat) => PyData.int (lo + i)) := fun i O' H2 k1 k2 k3 => by
  refine ⟨fun d hd => ?_, fun hl => by
    have hl' : n ≤ i := Nat.le_of_eq (by simpa using hl.symm)
    exact hl'⟩
  have hi : i < n := by
    by_cases h : i < n
    · exact h
    · rw [List.getElem?_eq_none (by simpa using h)] at hd; cases hd
  refine ⟨hi, fun x H3 ⟨e3, ex⟩ => ?_⟩
  subst e3 ex
  refine ⟨fun _ _ z => z, ?_⟩
  rw [List.getElem?_map, List.getElem?_range hi] at hd
  cases hd
  exact .int _
/-- a list that does not change meanwhile -/
@[reducible] def Rs.walk : Rs → Option (List D)
  | .val (.list ds) => some ds
  | .new (.l ds) => some ds
  | .bor (.l ds) => some ds
  | _ => none
theorem di_list (bd : Bd X c) (h : DE X c e Γ fun r => ∃ ds, r.walk = some ds ∧ K ds) : DI X c tg e Γ K := PI.weak (pi_list pe_U) fun σ H R ⟨B, O, S, xc, q⟩ => by
  refine ⟨_, h, B, O, S, xc, fun v H' r k ha ok ⟨ds, e, z⟩ => ?_⟩
  have S' := S.step k ha
  have fin : ∀ (a : Addr) (xs : List V), v = .ref a → H' a = some (.lst xs) → ¬ MxOf c B O a → RpAll c.kx O H' xs ds → ∃ a, v = .ref a ∧ (∃ xs, SqL X.K H' a xs) ∧ R (Itl X.K a) H' := fun a xs ev ea n r =>
    ⟨a, ev, ⟨xs, SqL.of ea⟩, by rw [bd.kx]; exact q _ H' ds k ha (itl_ok ea n (fun a m => mxO S m) r) z⟩
  cases r with
  | val d =>
    cases d <;> simp [Rs.walk] at e
    subst e
    cases ok with
    | lst nd a => exact fin _ _ rfl nd.1 (fun m => nd.2 (mxO S m)) a
  | new t =>
    cases t <;> simp [Rs.walk] at e
    subst e
    obtain ⟨p, ev, n, xs, h1, h2⟩ := ok
    exact fin p xs ev h1 (fun m => (S.fresh n).1 (mxO S m)) (h2.mv less)
  | own t => simp [Rs.walk] at e
  | bor t =>
    cases t <;> simp [Rs.walk] at e
    subst e
    obtain ⟨p, ev, n, xs, h1, h2⟩ := ok
    exact fin p xs ev h1 (fun m => m.elim n.1 fun w => w.2.1 (n.2 w.1)) h2
  | hnd => simp [Rs.walk] at e
theorem di_tup (bd : Bd X c) (h : DE X c e Γ fun r => ∃ ds, r = .val (.tuple ds) ∧ K ds) : DI X c tg e Γ K := PI.weak (pi_tup pe_U) fun σ H R ⟨B, O, S, xc, q⟩ => by
  refine ⟨_, h, B, O, S, xc, fun v H' r k ha ok ⟨ds, e, z⟩ => ?_⟩
  subst e
  cases ok with
  | tup nd a => exact ⟨_, rfl, ⟨_, by rw [bd.kx]; exact nd.sq⟩, by rw [bd.kx]; exact q _ H' ds k ha (itt_ok nd (fun a m => mxO S m) a) z⟩
theorem di_range1 (hm : X.mg "range" = none) (hg : Gl X "range") (h : DE X c e Γ fun r => ∃ j, r = .val (.int j) ∧ -(2 ^ 62) ≤ j ∧ j < 2 ^ 62 ∧ K ((List.range j.toNat).map fun (i : Nat) => PyData.int (0 + i)))
    (hs : starEach [e] X.env = [(false, eval e X.env)] := by rfl) (hs' : starEach [e] X.env = (false, eval e X.env) :: starEach [] X.env := by rfl) : DI X c tg (.Call (.Name "range" p) [e] [] pos) Γ K := PI.weak (pi_range1 hg hm (pa_cons (pe_U (c := c) (Γ := Γ)) pa_nil hs') hs) fun σ H R ⟨B, O, S, xc, q⟩ => by
  refine ⟨_, h, B, O, S, xc, fun v H' r k ha ok ⟨j, e, h1, h2, z⟩ => ?_⟩
  subst e
  cases (ok.at S).int
  exact ⟨j, rfl, h1, h2, q _ H' _ k ha itr_ok z⟩
theorem di_range2 (hm : X.mg "range" = none) (hg : Gl X "range") (h : DE X c e Γ fun r => ∃ i, r = .val (.int i) ∧ DE X c e2 Γ fun r2 => ∃ j, r2 = .val (.int j) ∧ (-(2 ^ 62) ≤ i ∧ i < 2 ^ 62 ∧ -(2 ^ 62) ≤ j ∧ j < 2 ^ 62) ∧ K ((List.range (j - i).toNat).map fun (n : Nat) => PyData.int (i + n)))
    (hs : starEach [e, e2] X.env = [(false, eval e X.env), (false, eval e2 X.env)] := by rfl) (hs2 : starEach [e2] X.env = [(false, eval e2 X.env)] := by rfl)
    (hs3 : starEach [e, e2] X.env = (false, eval e X.env) :: starEach [e2] X.env := by rfl) (hs4 : starEach [e2] X.env = (false, eval e2 X.env) :: starEach [] X.env := by rfl) : DI X c tg (.Call (.Name "range" p) [e, e2] [] pos) Γ K := PI.weak (pi_range2 hg hm (pa_cons (pe_U (c := c) (Γ := Γ)) (pa_cons (pe_U (c := c) (Γ := Γ)) pa_nil hs4) hs3) hs hs2) fun σ H R ⟨B, O, S, xc, q⟩ => by
  refine ⟨_, h, B, O, S, xc, fun v H' r k ha ok ⟨i, e, h'⟩ => ?_⟩
  subst e
  have S' := S.step k ha
  refine ⟨_, h', B, O, S', xc, fun v2 H2 r2 k2 ha2 ok2 ⟨j, e, h1, z⟩ => ?_⟩
  subst e
  cases (ok.at S).int
  cases (ok2.at S').int
  exact ⟨i, j, rfl, h1, q _ H2 _ (k.trans k2) ha2 itr_ok z⟩
/-- reversed(list) -/
theorem itv_ok {k : Kx} {Mx O : Addr → Prop} {H1 : Hp} {a : Addr} {xs : List V} {ds : List D} (e : H1 a = some (.lst xs)) (n : ¬ Mx a) (hm : ∀ a, Mx a → O a) (r : RpAll k O H1 xs ds) : ItOk k Mx O H1 (Itv k.K a xs.length) ds.reverse := fun i O' H2 k1 k2 k3 => by
  have e2 : H2 a = some (.lst xs) := k1 a _ n e
  have m : Mv O O' H1 H2 := ⟨k2, fun b o nb eb => k1 b o (fun z => nb (hm b z)) eb⟩
  have sq : SqL k.K H2 a xs := SqL.of e2
  refine ⟨fun d hd => ?_, fun hl => ?_⟩
  · have hi : i < ds.length := by
      by_cases h : i < ds.length
      · exact h
      · rw [List.getElem?_eq_none (by simpa using h)] at hd; cases hd
    rw [List.getElem?_reverse hi] at hd
    obtain ⟨v, hv, rv⟩ := r.get hd
    have hv' : xs[xs.length - 1 - i]? = some v := by rw [r.length]; exact hv
    have hil : i < xs.length := by rw [r.length]; exact hi
    refine ⟨⟨hil, xs, v, sq, hv'⟩, fun x H3 ⟨e3, f⟩ => ?_⟩
    subst e3
    refine ⟨fun _ _ z => z, ?_⟩
    have ex := f xs sq
    rw [hv'] at ex
    cases ex
    exact rv.mv m
  · have hl' : xs.length ≤ i := Nat.le_of_eq (by rw [r.length]; simpa using hl.symm)
    exact hl'
theorem di_rev (bd : Bd X c) (hm : X.mg "reversed" = none) (hg : Gl X "reversed") (h : DE X c e Γ fun r => ∃ ds, r.walk = some ds ∧ K ds.reverse) (hs : starEach [e] X.env = (false, eval e X.env) :: starEach [] X.env := by rfl) :
    DI X c tg (.Call (.Name "reversed" p) [e] [] pos) Γ K := PI.weak (RT.pi_revA hg hm (pe_U (c := c) (Γ := Γ)) hs) fun σ H R ⟨B, O, S, xc, q⟩ => by
  refine ⟨_, h, B, O, S, xc, fun v H' r k ha ok ⟨ds, e, z⟩ => ?_⟩
  have fin : ∀ (a : Addr) (xs : List V), v = .ref a → H' a = some (.lst xs) → ¬ MxOf c B O a → RpAll c.kx O H' xs ds → ∃ (a : Addr) (xs : List V), v = .ref a ∧ ((SqL X.K H' a xs ∧ R (Itv X.K a xs.length) H') ∨ (SqT X.K H' a xs ∧ R (RT.ItvT X.K a xs.length) H')) := fun a xs ev ea n r =>
    ⟨a, xs, ev, .inl ⟨SqL.of ea, by rw [bd.kx]; exact q _ H' _ k ha (itv_ok ea n (fun a m => mxO S m) r) z⟩⟩
  cases r with
  | val d =>
    cases d <;> simp [Rs.walk] at e
    subst e
    cases ok with
    | lst nd a => exact fin _ _ rfl nd.1 (fun m => nd.2 (mxO S m)) a
  | new t =>
    cases t <;> simp [Rs.walk] at e
    subst e
    obtain ⟨p, ev, n, xs, h1, h2⟩ := ok
    exact fin p xs ev h1 (fun m => (S.fresh n).1 (mxO S m)) (h2.mv less)
  | own t => simp [Rs.walk] at e
  | bor t =>
    cases t <;> simp [Rs.walk] at e
    subst e
    obtain ⟨p, ev, n, xs, h1, h2⟩ := ok
    exact fin p xs ev h1 (fun m => m.elim n.1 fun w => w.2.1 (n.2 w.1)) h2
  | hnd => simp [Rs.walk] at e
end
/-! ### a loop's base -/
section
variable {c : Cs} {B : Base} {O O' : Addr → Prop} {Γ Γ' : List Sl} {σ σ' : St} {H H' : Hp}
/-- the base at a loop's start -/
@[reducible] def loopB (c : Cs) (B : Base) (O : Addr → Prop) (H : Hp) : Base := ⟨H, MxOf c B O, B.O0⟩
theorem Stt.toLoop (S : Stt c B O Γ σ H) : Stt c (loopB c B O H) O Γ σ H where
  len := S.len
  hand := S.hand
  m0 := S.m0
  mx0 := fun a m => .inl m
  sub := S.sub
  ow := fun a z => by
    by_cases h0 : B.O0 a
    · exact .inl h0
    · exact .inr (.inr (.inr ⟨z, h0, (S.ow a z).elim (fun z => absurd z h0) fun z => z⟩))
  al := S.al
  mxa := fun a m => S.al a (mxO S m)
  keep := fun b o _ e => e
  sl := fun i s e => by
    have q := S.sl i s e
    cases s with
    | un => trivial
    | val d => exact q
    | own t => obtain ⟨a, e, w, q⟩ := q; exact ⟨a, e, ⟨w.1, w.2.1, .inr (.inr w)⟩, q⟩
    | bor t => exact q
    | hnd => exact q
    | xc ds => exact q
    | scr ns => exact q
  dist := S.dist
theorem Stt.ofLoop (S : Stt c B O Γ σ H) (S' : Stt c (loopB c B O H) O' Γ' σ' H') : Stt c B O' Γ' σ' H' where
  len := S'.len
  hand := S'.hand
  m0 := S.m0
  mx0 := S.mx0
  sub := S'.sub
  ow := fun a z => by
    rcases S'.ow a z with h | h | h
    · exact .inl h
    · exact .inr (.inl (S.fresh h).2.2.2.2)
    · rcases h with h | h
      · exact .inl (S.m0 a h)
      · exact .inr h.2.2
  al := S'.al
  mxa := fun a m => by
    by_cases h : MxOf c B O a
    · exact S'.mxa a h
    · obtain ⟨o, e⟩ := Option.ne_none_iff_exists'.mp (S.mxa a m)
      rw [S'.keep a o h e]; simp
  keep := fun b o n e => by
    have e1 := S.keep b o n e
    refine S'.keep b o (fun h => ?_) e1
    rcases h with h | h
    · exact n (S.mx0 b h)
    · rcases h.2.2 with z | z
      · rw [z] at e; cases e
      · exact n z
  sl := fun i s e => by
    have q := S'.sl i s e
    cases s with
    | un => trivial
    | val d => exact q
    | own t =>
      obtain ⟨a, e, w, q⟩ := q
      refine ⟨a, e, ⟨w.1, w.2.1, ?_⟩, q⟩
      rcases w.2.2 with z | z
      · exact .inl (S.fresh z).2.2.2.2
      · rcases z with z | z
        · exact absurd (S.m0 a z) w.2.1
        · exact z.2.2
    | bor t => exact q
    | hnd => exact q
    | xc ds => exact q
    | scr ns => exact q
  dist := S'.dist
theorem RtOk.ofLoop (S : Stt c B O Γ σ H) {v : V} {r : Rs} (h : RtOk c (loopB c B O H) H' v r) : RtOk c B H' v r := by
  cases r with
  | new t =>
    obtain ⟨p, e, n, f, q⟩ := h
    refine ⟨p, e, n, ?_, q⟩
    rcases f with z | z
    · exact .inl (S.fresh z).2.2.2.2
    · rcases z with z | z
      · exact absurd (S.m0 p z) n
      · exact z.2.2
  | val d => exact h
  | own t => exact h
  | bor t => exact h
  | hnd => exact h
theorem ExC.toLoop (S : Stt c B O Γ σ H) (x : ExC c B) : ExC c (loopB c B O H) := fun O' Γ' σ' H' cls d e S' ea ex => x O' Γ' σ' H' cls d e (S.ofLoop S') ea ex
end
section
variable {X : Cx} {c : Cs} {tg e : Expr} {body : List Stmt} {Γ : List Sl} {E : Pd} {pos : Pos} {ix : List Nat} {f : D → List Sl → List Sl → Prop}
/-- THE LOOP: Iv by the turns taken -/
theorem ds_for (bd : Bd X c) (hc : X.calm = true) (hg : DG X c tg ix f) (h : DI X c tg e Γ fun ds => ∃ Iv : Nat → List Sl → Prop, Iv 0 Γ ∧
      (∀ i d Γ1, ds[i]? = some d → Iv i Γ1 → ∃ Γ2, f d Γ1 Γ2 ∧ DSs X c body Γ2 { nx := Iv (i + 1), rt := E.rt, bk := E.nx, ct := Iv (i + 1) }) ∧ ∀ Γ1, Iv ds.length Γ1 → E.nx Γ1)
    (hs : ∀ x, foldedSetIterable e X.env x = pure x := by intro _; rfl) : DS X c (.For tg e body [] pos) Γ E := by
  obtain ⟨g, pg, hg⟩ := hg
  refine PS.weak (ps_for bd.po hc (pi_U (c := c)) pg (pss_U (c := c)) hs) fun Z σ H ⟨B, O, S, xc, q⟩ => ?_
  refine ⟨_, _, h, B, O, S, xc, fun J H1 ds k ha ok ⟨Iv, i0, it, ie⟩ => ?_⟩
  have S1 := S.step k ha
  have SL := S1.toLoop
  have xl := ExC.toLoop S1 xc
  refine ⟨fun i m σ H => m = ds.length - i ∧ i ≤ ds.length ∧ ∃ O' Γ', Stt c (loopB c B O H1) O' Γ' σ H ∧ Iv i Γ', ⟨ds.length, by simp, Nat.zero_le _, O, Γ, SL, i0⟩, ?_⟩
  rintro i m σ2 H2 ⟨rfl, hi, O2, Γ2, S2, iv⟩
  have io := ok i O2 H2 (fun b o n e => S2.keep b o n e) (fun a z n => ?_) S2.al
  · by_cases hl : i < ds.length
    · have hd : ds[i]? = some ds[i] := List.getElem?_eq_getElem hl
      obtain ⟨go, yl⟩ := io.1 _ hd
      refine .inr ⟨go, fun σ3 H3 => ∃ O' Γ', Stt c (loopB c B O H1) O' Γ' σ3 H3 ∧ Iv (i + 1) Γ', fun σ3 H3 w => ⟨ds.length - (i + 1), by omega, rfl, hl, w⟩, fun x H3 y => ?_⟩
      obtain ⟨kx, rx⟩ := yl x H3 y
      obtain ⟨Γ3, hf, hb⟩ := it i _ Γ2 hd iv
      have kk : Kp c H2 H3 := fun b o _ e => kx b o e
      have hh : c.HA H3 := S2.hand.same fun a m => by
        obtain ⟨o, e⟩ := Option.ne_none_iff_exists'.mp (S2.hand.there m)
        rw [e]; exact kx a o e
      refine hg _ O2 Γ2 σ2 H3 x _ Γ3 _ (S2.step kk hh) rx hf fun σ4 S4 _ => ?_
      refine ⟨Γ3, _, hb, _, O2, S4, xl, fun O Γ σ H S z => ⟨O, Γ, S, z⟩, fun O Γ σ H v r S rk z => q.rt O Γ σ H v r (S1.ofLoop S) (rk.ofLoop S1) z, fun O Γ σ H S z => q.nx O Γ σ H (S1.ofLoop S) z, fun O Γ σ H S z => ⟨O, Γ, S, z⟩⟩
    · have e : i = ds.length := by omega
      subst e
      exact .inl ⟨io.2 rfl, q.nx O2 Γ2 σ2 H2 (S1.ofLoop S2) (ie Γ2 iv)⟩
  · rcases S2.ow a z with h | h | h
    · exact S1.sub a h
    · exact absurd h n
    · exact mxO S1 h
/-- while: Iv with a measure -/
theorem ds_while {t : Expr} (bd : Bd X c) (Iv : Nat → List Sl → Prop) (m0 : Nat) (h0 : Iv m0 Γ)
    (h : ∀ m Γ1, Iv m Γ1 → DT X c t Γ1 fun k => if k = true then DSs X c body Γ1 { nx := fun Γ2 => ∃ m', m' < m ∧ Iv m' Γ2, rt := E.rt, bk := E.nx, ct := fun Γ2 => ∃ m', m' < m ∧ Iv m' Γ2 } else E.nx Γ1) : DS X c (.While t body [] pos) Γ E := by
  refine PS.weak (ps_while bd.po (tc := fun σ H Q => ∃ Γ, tUT X c t Γ σ H Q) ⟨fun pins s σ H Q I ⟨Γ, z⟩ => (pt_U (X := X) (c := c) (e := t) (Γ := Γ)).run pins s σ H Q I z⟩ (pss_U (c := c))) fun Z σ H ⟨B, O, S, xc, q⟩ => ?_
  refine ⟨fun m σ H => ∃ O' Γ', Stt c B O' Γ' σ H ∧ Iv m Γ', ⟨m0, O, Γ, S, h0⟩, ?_⟩
  rintro m σ2 H2 ⟨O2, Γ2, S2, iv⟩
  refine ⟨Γ2, _, h m Γ2 iv, B, O2, S2, xc, fun k H3 kp ha z => ?_⟩
  have S3 := S2.step kp ha
  cases k with
  | false => exact q.nx O2 Γ2 σ2 H3 S3 z
  | true =>
    refine ⟨fun σ4 H4 => ∃ m', m' < m ∧ ∃ O' Γ', Stt c B O' Γ' σ4 H4 ∧ Iv m' Γ', fun σ4 H4 w => w, Γ2, _, z, B, O2, S3, xc, fun O Γ σ H S ⟨m', l, w⟩ => ⟨m', l, O, Γ, S, w⟩, q.rt, q.nx, fun O Γ σ H S ⟨m', l, w⟩ => ⟨m', l, O, Γ, S, w⟩⟩
end
end Dl

namespace Dl
open PySem PySem.Spec L2

/-! ### comprehensions -/
/-- within a comprehension nothing is raised -/
@[reducible] def Cs.mute (c : Cs) : Cs := { c with W := fun _ _ _ _ => False, ex := fun _ _ => False }
section
variable {c : Cs} {B : Base} {O : Addr → Prop} {Γ : List Sl} {σ : St} {H H' : Hp}
theorem SlOk.mute {o : Option (Option V)} {s : Sl} (h : SlOk c B O H o s) : SlOk c.mute B O H o s := by cases s <;> exact h
theorem SlOk.loud {o : Option (Option V)} {s : Sl} (h : SlOk c.mute B O H o s) : SlOk c B O H o s := by cases s <;> exact h
theorem Stt.mute (S : Stt c B O Γ σ H) : Stt c.mute B O Γ σ H := ⟨S.len, S.hand, S.m0, S.mx0, S.sub, S.ow, S.al, S.mxa, S.keep, fun i s e => (S.sl i s e).mute, S.dist⟩
theorem exc_mute : ExC c.mute B := fun _ _ _ _ _ _ _ _ _ h => h.elim
/-- a new thing at p that no slot knows -/
theorem Stt.more (E : Stt c B O Γ σ H) (k : Kp c H H') (ha : c.HA H') {p : Addr} (n : H p = none) (th : H' p ≠ none) : Stt c B (fun a => O a ∨ a = p) Γ σ H' := by
  obtain ⟨f1, f2, f3, f4, f5⟩ := E.fresh n
  have E' := E.step k ha
  have m : Mv O (fun a => O a ∨ a = p) H H' := ⟨fun a z na => z.elim (fun z => z) fun z => absurd n (z ▸ na), (E.mv k).kp⟩
  have kp : ∀ a o, ¬ c.M0 a → H a = some o → H' a = H a := fun a o nm e => (k a o nm e).trans e.symm
  refine ⟨E'.len, ha, E'.m0, E'.mx0, fun a z => .inl (E'.sub a z), fun a z => z.elim (E'.ow a) fun e => .inr (.inl (e ▸ f5)), fun a z => z.elim (E'.al a) fun e => e ▸ th, E'.mxa, E'.keep, fun j s e => ?_, E'.dist⟩
  refine (E.sl j s e).mv m (fun a fs e => k a _ (E.hand.noX e) e) (fun a w => ?_) (fun a w na => ?_)
  · obtain ⟨o, ho⟩ := Option.ne_none_iff_exists'.mp (E.al a w.1)
    exact ⟨⟨.inl w.1, w.2.1, w.2.2⟩, kp a o (w.noM E) ho⟩
  · obtain ⟨o, ho⟩ := Option.ne_none_iff_exists'.mp na
    exact ⟨⟨w.1, fun z => z.elim w.2 fun z => absurd n (z ▸ na)⟩, kp a o w.1 ho⟩
def wipeG (Γ : List Sl) : List Nat → List Sl
  | [] => Γ
  | i :: is => (wipeG Γ is).set i .un
theorem Stt.wiped (S : Stt c B O Γ σ H) : ∀ vs : List Nat, Stt c B O (wipeG Γ vs) (wipe σ vs) H
  | [] => S
  | i :: is => (Stt.wiped S is).setS i (s := .un) trivial fun t z => nomatch z
theorem wipe_get {σ : St} : ∀ {vs : List Nat} {j : Nat}, (wipe σ vs)[j]? = if j ∈ vs then (if j < σ.length then some none else none) else σ[j]?
  | [], j => by simp [wipe]
  | i :: is, j => by
    unfold wipe
    have ih := wipe_get (σ := σ) (vs := is) (j := j)
    by_cases h : i = j
    · subst h
      by_cases hl : i < σ.length
      · rw [List.getElem?_set_self (by rw [wipe_length]; exact hl)]
        simp [hl]
      · rw [List.getElem?_eq_none (by rw [List.length_set, wipe_length]; omega)]
        simp [hl]
    · have hj : ¬ j = i := fun z => h z.symm
      rw [List.getElem?_set_ne h, ih]
      simp [List.mem_cons, hj]
theorem wipe_same {σ σ2 : St} {vs : List Nat} (hl : σ2.length = σ.length) (h : ∀ j, j ∉ vs → σ2[j]? = (wipe σ vs)[j]?) : wipe σ2 vs = wipe σ vs := by
  apply List.ext_getElem?
  intro j
  rw [wipe_get, wipe_get]
  by_cases hj : j ∈ vs
  · simp [hj, hl]
  · have e := h j hj
    rw [wipe_get] at e
    simp only [hj, if_false] at e ⊢
    exact e
end
abbrev Fam := Shared → Hp → Addr → List (Str × Addr) → List Addr → Cx
@[reducible] def famOf (X : Cx) (scope : Scope) : Fam := fun s H C cl fp => X.blk s H scope (compEnvC scope cl C X.env) fp
/-- a target within a comprehension -/
def DGB (F : Fam) (c : Cs) (tg : Expr) (ix : List Nat) (f : D → List Sl → List Sl → Prop) : Prop := ∃ g : TG, (∀ s H C cl fp, PG (F s H C cl fp) tg g) ∧ ∀ B O Γ σ H v d Γ' (Q : St → Hp → Prop), Stt c B O Γ σ H → Rp c.kx O H v d → f d Γ Γ' →
  (∀ σ', Stt c B O Γ' σ' H → σ'.length = σ.length → (∀ j, j ∉ ix → σ'[j]? = σ[j]?) → Q σ' H) → g v σ H Q
def DGBs (F : Fam) (c : Cs) (ts : List Expr) (ix : List Nat) (f : List D → List Sl → List Sl → Prop) : Prop := ∃ g : TGs, (∀ s H C cl fp, PGs (F s H C cl fp) ts g) ∧ ∀ B O Γ σ H vs ds Γ' (Q : St → Hp → Prop), Stt c B O Γ σ H → RpAll c.kx O H vs ds → f ds Γ Γ' →
  (∀ σ', Stt c B O Γ' σ' H → σ'.length = σ.length → (∀ j, j ∉ ix → σ'[j]? = σ[j]?) → Q σ' H) → g vs σ H Q
section
variable {F : Fam} {c : Cs} {e : Expr} {es : List Expr} {pos : Pos} {ix ix2 : List Nat}
theorem dgb_name (i : Nat) {x : Str} (hN : ∀ s H C cl fp, (F s H C cl fp).N.Nodup) (hi : ∀ s H C cl fp, (F s H C cl fp).N[i]? = some x) (hx : ∀ s H C cl fp, Loc (F s H C cl fp).env.scope x) (hf : ∀ s H C cl fp, (F s H C cl fp).fn x = true ∨ (F s H C cl fp).env.scope.names.lookup x = some .local) :
    DGB F c (.Name x pos) [i] fun d Γ Γ' => Γ' = Γ.set i (.val d) :=
  ⟨gName i, fun s H C cl fp => pg_name (hN s H C cl fp) (hi s H C cl fp) (hx s H C cl fp) (hf s H C cl fp), fun B O Γ σ H v d Γ' Q S r e q => by
    subst e
    exact q _ (S.setS i (s := .val d) ⟨v, rfl, r⟩ fun t z => nomatch z) List.length_set fun j hj => List.getElem?_set_ne (fun z => hj (by simp [z]))⟩
theorem dgbs_nil : DGBs F c [] [] fun ds Γ Γ' => ds = [] ∧ Γ' = Γ := ⟨gNil, fun _ _ _ _ _ => pgs_nil, fun B O Γ σ H vs ds Γ' Q S r ⟨e, e2⟩ q => by
  subst e e2
  cases r
  exact ⟨rfl, q σ S rfl fun _ _ => rfl⟩⟩
theorem dgbs_cons {f : D → List Sl → List Sl → Prop} {fs : List D → List Sl → List Sl → Prop} (h1 : DGB F c e ix f) (h2 : DGBs F c es ix2 fs)
    (hs : ∀ s H C cl fp, (assignEach (e :: es) (F s H C cl fp).env).map (·.2) = assign e (F s H C cl fp).env :: (assignEach es (F s H C cl fp).env).map (·.2)) : DGBs F c (e :: es) (ix ++ ix2) fun ds Γ Γ' => ∃ d r Γ1, ds = d :: r ∧ f d Γ Γ1 ∧ fs r Γ1 Γ' := by
  obtain ⟨g, pg, hg⟩ := h1
  obtain ⟨gs, pgs, hgs⟩ := h2
  refine ⟨gCons g gs, fun s H C cl fp => pgs_cons (pg s H C cl fp) (pgs s H C cl fp) (hs s H C cl fp), fun B O Γ σ H vs ds Γ' Q S r ⟨d, dr, Γ1, e, h1, h2⟩ q => ?_⟩
  subst e
  cases r with
  | cons r1 r2 =>
    refine ⟨_, _, rfl, hg B O Γ σ H _ d Γ1 _ S r1 h1 fun σ1 S1 l1 k1 => ?_⟩
    exact hgs B O Γ1 σ1 H _ dr Γ' Q S1 r2 h2 fun σ2 S2 l2 k2 => q σ2 S2 (l2.trans l1) fun j hj => (k2 j fun z => hj (List.mem_append_right _ z)).trans (k1 j fun z => hj (List.mem_append_left _ z))
theorem dgb_tup {fs : List D → List Sl → List Sl → Prop} {k n : Nat} (hK : ∀ s H C cl fp, (F s H C cl fp).K = c.kx.K) (hc : ∀ s H C cl fp, (F s H C cl fp).calm = true) (h : DGBs F c es ix fs)
    (hn : ∀ s H C cl fp, (assignEach es (F s H C cl fp).env).length = n) (hst : ∀ s H C cl fp, (assignEach es (F s H C cl fp).env).findIdx? (·.1) = none) : DGB F c (.Tuple es k pos) ix fun d Γ Γ' => ∃ ds, d = .tuple ds ∧ ds.length = n ∧ fs ds Γ Γ' := by
  obtain ⟨gs, pgs, hgs⟩ := h
  refine ⟨gTup c.kx.K n gs, fun s H C cl fp => by
    have z := pg_tup (X := F s H C cl fp) (k := k) (pos := pos) (hc s H C cl fp) (pgs s H C cl fp) (hn s H C cl fp) (hst s H C cl fp)
    rw [hK] at z
    exact z, fun B O Γ σ H v d Γ' Q S r ⟨ds, e, hl, h⟩ q => ?_⟩
  subst e
  cases r with
  | tup nd a => exact ⟨_, _, rfl, nd.sq, a.length.trans hl, hgs B O Γ σ H _ ds Γ' Q S a h q⟩
end
/-- the tests of a comprehension -/
def DTs (X : Cx) (c : Cs) (ifs : List Expr) (Γ : List Sl) (K : Bool → Prop) : Prop := PTs X ifs (tDT c Γ K)
section
variable {X : Cx} {c : Cs} {e elt tg iter : Expr} {ifs : List Expr} {Γ : List Sl} {K : Rs → Prop} {pos : Pos} {scope : Scope} {own : List (Str × Nat)} {ix : List Nat} {f : D → List Sl → List Sl → Prop}
theorem dts_nil {L : Bool → Prop} (h : L true) : DTs X c [] Γ L := ⟨fun pins s σ H Q I ⟨B, O, S, xc, q⟩ => pts_nil.run pins s σ H Q I (q true H Kp.refl S.hand h)⟩
theorem dts_one {L : Bool → Prop} (h : DT X c e Γ L) : DTs X c [e] Γ L := pts_one h
/-- what is shown of the parts of a comprehension, whatever its block's frame is -/
def tEB (F : Fam) (c : Cs) (elt : Expr) : TE := fun σ H Q => ∃ Γ K, (∀ s H C cl fp, DE (F s H C cl fp) c elt Γ K) ∧ tD c Γ K σ H Q
def tTB (F : Fam) (c : Cs) (ifs : List Expr) : TT := fun σ H Q => ∃ Γ K, (∀ s H C cl fp, DTs (F s H C cl fp) c ifs Γ K) ∧ tDT c Γ K σ H Q
theorem compR {g : TG} (hix : ∀ i ∈ ix, i ∈ own.map (·.2))
    (hg : ∀ B O Γ σ H v d Γ' (Q : St → Hp → Prop), Stt c.mute B O Γ σ H → Rp c.kx O H v d → f d Γ Γ' → (∀ σ', Stt c.mute B O Γ' σ' H → σ'.length = σ.length → (∀ j, j ∉ ix → σ'[j]? = σ[j]?) → Q σ' H) → g v σ H Q)
    (h : DI X c tg iter Γ fun ds => ds.length ≤ sizeLine ∧ ∃ Pv : Nat → List D → Prop, Pv 0 [] ∧
      (∀ i d acc, ds[i]? = some d → Pv i acc → ∃ Γ2, f d (wipeG Γ (own.map (·.2))) Γ2 ∧ ∃ L : Bool → Prop, (∀ s H C cl fp, DTs (famOf X scope s H C cl fp) c.mute ifs Γ2 L) ∧ (L false → Pv (i + 1) acc) ∧
        (L true → ∃ M : Rs → Prop, (∀ s H C cl fp, DE (famOf X scope s H C cl fp) c.mute elt Γ2 M) ∧ ∀ r, M r → ∃ e, r.dat = some e ∧ Pv (i + 1) (acc ++ [e]))) ∧
      ∀ acc, Pv ds.length acc → K (.new (.l acc))) {σ : St} {H : Hp} {Q : VK} (t : tD c Γ K σ H Q) :
    tLc (tUI X c tg iter) g (tTB (famOf X scope) c.mute ifs) (tEB (famOf X scope) c.mute elt) (own.map (·.2)) σ H Q := by
  obtain ⟨B, O, S, xc, q⟩ := t
  refine ⟨_, _, h, B, O, S, xc, fun J H1 ds k ha ok ⟨hz, Pv, p0, pt, pe⟩ => ?_⟩
  have S1 := S.step k ha
  intro p hp
  obtain ⟨f1, f2, f3, f4, f5⟩ := S1.fresh hp
  refine ⟨fun i m H => m = ds.length - i ∧ i ≤ ds.length ∧ Kp c H1 H ∧ c.HA H ∧ ∃ xs acc, H p = some (.lst xs) ∧ RpAll c.kx (fun a => O a ∨ a = p) H xs acc ∧ acc.length ≤ i ∧ Pv i acc, ⟨ds.length, by simp, Nat.zero_le _, Kp.new hp, ha.new hp, [], [], upd_same, .nil, Nat.le_refl _, p0⟩, ?_⟩
  rintro i m H2 ⟨rfl, hi, k2, ha2, xs, acc, e2, r2, hl2, pv⟩
  have th : H2 p ≠ none := by rw [e2]; simp
  have S2 := S1.more k2 ha2 hp th
  have io := ok i (fun a => O a ∨ a = p) H2 (fun b o n e => k2 b o (fun z => n (.inl z)) e) (fun a z n => z.elim (fun z => z) fun z => absurd hp (z ▸ n)) S2.al
  by_cases hl : i < ds.length
  · have hd : ds[i]? = some ds[i] := List.getElem?_eq_getElem hl
    obtain ⟨go, yl⟩ := io.1 _ hd
    obtain ⟨Γ2, hf, L, hL, hF, hT⟩ := pt i _ acc hd pv
    refine .inr ⟨go, fun H' => Kp c H1 H' ∧ c.HA H' ∧ ∃ xs acc, H' p = some (.lst xs) ∧ RpAll c.kx (fun a => O a ∨ a = p) H' xs acc ∧ acc.length ≤ i + 1 ∧ Pv (i + 1) acc, fun H' w => ⟨ds.length - (i + 1), by omega, rfl, hl, w⟩, fun x H3 y => ?_⟩
    obtain ⟨kx, rx⟩ := yl x H3 y
    have kk : Kp c H2 H3 := fun b o _ e => kx b o e
    have hh : c.HA H3 := ha2.same fun a m => by
      obtain ⟨o, e⟩ := Option.ne_none_iff_exists'.mp (ha2.there m)
      rw [e]; exact kx a o e
    have S3 := ((S2.step kk hh).wiped (own.map (·.2))).mute
    refine hg B _ _ _ H3 x _ Γ2 _ S3 rx hf fun σ4 S4 l4 k4 => ?_
    have hw : wipe σ4 (own.map (·.2)) = wipe σ (own.map (·.2)) := wipe_same (l4.trans (wipe_length _ _)) fun j hj => k4 j fun z => hj (hix j z)
    refine ⟨hw, Γ2, L, hL, B, _, S4, exc_mute, fun b H5 k5 ha5 z5 => ?_⟩
    have k15 : Kp c H1 H5 := (k2.trans kk).trans k5
    have e5 : H5 p = some (.lst xs) := k5 p _ f3 (kk p _ f3 e2)
    have mv5 : Mv (fun a => O a ∨ a = p) (fun a => O a ∨ a = p) H2 H5 := S2.mv (kk.trans k5)
    have S5 := S4.step k5 ha5
    cases b with
    | false => exact ⟨k15, ha5, xs, acc, e5, r2.mv mv5, Nat.le_succ_of_le hl2, hF z5⟩
    | true =>
      obtain ⟨M, hM, hR⟩ := hT z5
      refine ⟨Γ2, M, hM, B, _, S5, exc_mute, fun y H6 r k6 ha6 o6 z6 => ?_⟩
      obtain ⟨e, er, pv'⟩ := hR r z6
      have ry := (o6.at S5).rp er
      have e6 : H6 p = some (.lst xs) := k6 p _ f3 e5
      have lx : xs.length < sizeLine := by rw [r2.length]; omega
      have k7 : ∀ b o, ¬ (O b ∨ b = p) → H6 b = some o → upd H6 p (.lst (xs ++ [y])) b = some o := fun b o n e => by rw [upd_ne (fun z => n (.inr z))]; exact e
      have mv7 : Mv (fun a => O a ∨ a = p) (fun a => O a ∨ a = p) H6 (upd H6 p (.lst (xs ++ [y]))) := ⟨fun _ z _ => z, k7⟩
      refine ⟨xs, e6, lx, fun b o n e => ?_, ?_, xs ++ [y], acc ++ [e], upd_same, ?_, ?_, pv'⟩
      · have nb : b ≠ p := ne_of_none e hp
        rw [upd_ne nb]
        exact k6 b o n (k15 b o n e)
      · exact Cs.HA.same (c := c) ha6 fun a m => upd_ne fun z => f3 (z ▸ m)
      · exact (((r2.mv mv5).mv (S5.mv k6)).mv mv7).append (.cons (ry.mv mv7) .nil)
      · rw [List.length_append]
        show acc.length + 1 ≤ i + 1
        omega
  · have e : i = ds.length := by omega
    subst e
    exact .inl ⟨io.2 rfl, q _ H2 (.new (.l acc)) (k.trans k2) ha2 ⟨p, rfl, k.free ha hp, xs, e2, r2⟩ (pe acc pv)⟩
theorem de_comp (bd : Bd X c) (hc : X.calm = true) (ok : BlkOk X.N X.env.scope scope own) (hg : DGB (famOf X scope) c.mute tg ix f) (hix : ∀ i ∈ ix, i ∈ own.map (·.2))
    (h : DI X c tg iter Γ fun ds => ds.length ≤ sizeLine ∧ ∃ Pv : Nat → List D → Prop, Pv 0 [] ∧
      (∀ i d acc, ds[i]? = some d → Pv i acc → ∃ Γ2, f d (wipeG Γ (own.map (·.2))) Γ2 ∧ ∃ L : Bool → Prop, (∀ s H C cl fp, DTs (famOf X scope s H C cl fp) c.mute ifs Γ2 L) ∧ (L false → Pv (i + 1) acc) ∧
        (L true → ∃ M : Rs → Prop, (∀ s H C cl fp, DE (famOf X scope s H C cl fp) c.mute elt Γ2 M) ∧ ∀ r, M r → ∃ e, r.dat = some e ∧ Pv (i + 1) (acc ++ [e]))) ∧
      ∀ acc, Pv ds.length acc → K (.new (.l acc))) (hs : ∀ x, foldedSetIterable iter X.env x = pure x := by intro _; rfl) : DE X c (.ListComp elt [⟨tg, iter, ifs, 0⟩] scope pos) Γ K := by
  obtain ⟨g, pg, hg⟩ := hg
  exact PE.weak (pe_lc (tt := tTB (famOf X scope) c.mute ifs) (te := tEB (famOf X scope) c.mute elt) hc bd.nd (pi_U (c := c)) ok pg (fun s H C cl fp => ⟨fun pins s' σ H' Q I ⟨_, _, z, q⟩ => (z s H C cl fp).run pins s' σ H' Q I q⟩)
    (fun s H C cl fp => ⟨fun pins s' σ H' Q I ⟨_, _, z, q⟩ => (z s H C cl fp).run pins s' σ H' Q I q⟩) hs) fun _ _ _ t => compR hix hg h t
/-- x = [..] -/
theorem ds_setComp {i : Nat} {y : Str} {py spos : Pos} {E : Pd} (bd : Bd X c) (hc : X.calm = true) (hy : X.N[i]? = some y) (hyl : X.env.scope.names.lookup y = some .local)
    (hsw : swapsWith (.ListComp elt [⟨tg, iter, ifs, 0⟩] scope pos) (some (.Name y py)) spos.line X.env = pure true) (ok : BlkOk X.N X.env.scope scope own) (hg : DGB (famOf X scope) c.mute tg ix f) (hix : ∀ i ∈ ix, i ∈ own.map (·.2))
    (h : DI X c tg iter Γ fun ds => ds.length ≤ sizeLine ∧ ∃ Pv : Nat → List D → Prop, Pv 0 [] ∧
      (∀ i d acc, ds[i]? = some d → Pv i acc → ∃ Γ2, f d (wipeG Γ (own.map (·.2))) Γ2 ∧ ∃ L : Bool → Prop, (∀ s H C cl fp, DTs (famOf X scope s H C cl fp) c.mute ifs Γ2 L) ∧ (L false → Pv (i + 1) acc) ∧
        (L true → ∃ M : Rs → Prop, (∀ s H C cl fp, DE (famOf X scope s H C cl fp) c.mute elt Γ2 M) ∧ ∀ r, M r → ∃ e, r.dat = some e ∧ Pv (i + 1) (acc ++ [e]))) ∧
      ∀ acc, Pv ds.length acc → E.nx (Γ.set i (.own (.l acc)))) (hs : ∀ x, foldedSetIterable iter X.env x = pure x := by intro _; rfl) : DS X c (.Assign [.Name y py] (.ListComp elt [⟨tg, iter, ifs, 0⟩] scope pos) spos) Γ E := by
  obtain ⟨g, pg, hg⟩ := hg
  refine PS.weak (ps_setLc (tt := tTB (famOf X scope) c.mute ifs) (te := tEB (famOf X scope) c.mute elt) hc bd.nd hy hyl hsw (pi_U (c := c)) ok pg (fun s H C cl fp => ⟨fun pins s' σ H' Q I ⟨_, _, z, q⟩ => (z s H C cl fp).run pins s' σ H' Q I q⟩)
    (fun s H C cl fp => ⟨fun pins s' σ H' Q I ⟨_, _, z, q⟩ => (z s H C cl fp).run pins s' σ H' Q I q⟩) hs) fun Z σ H ⟨B, O, S, xc, q⟩ => ?_
  refine compR (K := fun r => ∃ acc, r = .new (.l acc) ∧ E.nx (Γ.set i (.own (.l acc)))) hix hg (DI.mono h fun ds ⟨hz, Pv, p0, pt, pe⟩ => ⟨hz, Pv, p0, pt, fun acc z => ⟨acc, rfl, pe acc z⟩⟩) ⟨B, O, S, xc, fun v H' r k ha ok ⟨acc, e, z⟩ => ?_⟩
  subst e
  obtain ⟨O', S'⟩ := S.put k ha ok i (s := .own (.l acc)) rfl
  exact q.nx O' _ _ H' S' z
end
end Dl

namespace Dl
open PySem PySem.Spec L2

/-! ### what a def promises, as data -/
abbrev Fs := List Rs → (Rs → Prop) → (Ec → Prop) → Prop
def ArgOk (c : Cs) (O0 : Addr → Prop) (H : Hp) (v : V) : Rs → Prop
  | .val d => Rp c.kx O0 H v d
  | .bor t => ∃ a, v = .ref a ∧ ¬ c.M0 a ∧ CtAt c.kx O0 H a t
  | .hnd => Hnd c v
  | _ => False
inductive ArgsOk (c : Cs) (O0 : Addr → Prop) (H : Hp) : List V → List Rs → Prop
  | nil : ArgsOk c O0 H [] []
  | cons {v : V} {vs : List V} {r : Rs} {rs : List Rs} : ArgOk c O0 H v r → ArgsOk c O0 H vs rs → ArgsOk c O0 H (v :: vs) (r :: rs)
@[reducible] def csOf (kx : Kx) (hk : Option (Addr × Addr)) (E : XK) (Xp : Ec → Prop) : Cs := { kx := kx, hk := hk, W := fun cls d _ H => E cls d H, ex := fun e _ => Xp e }
def spG (kx : Kx) (F : Fs) : Sp := fun vs H Q E => ∃ (hk : Option (Addr × Addr)) (O0 : Addr → Prop) (rs : List Rs) (R : Rs → Prop) (Xp : Ec → Prop),
  ArgsOk (csOf kx hk E Xp) O0 H vs rs ∧ (csOf kx hk E Xp).HA H ∧ (∀ a, (csOf kx hk E Xp).M0 a → O0 a) ∧ (∀ a, O0 a → H a ≠ none) ∧ F rs R Xp ∧
  (∀ v H' r, Kp (csOf kx hk E Xp) H H' → (csOf kx hk E Xp).HA H' → RtOk (csOf kx hk E Xp) ⟨H, (csOf kx hk E Xp).M0, O0⟩ H' v r → R r → Q v H') ∧
  ∀ cls d H' e, Kp (csOf kx hk E Xp) H H' → (csOf kx hk E Xp).HA H' → ExAt kx O0 H' cls d e → Xp e → E cls d H'
theorem ArgsOk.length {c : Cs} {O0 : Addr → Prop} {H : Hp} : ∀ {vs : List V} {rs : List Rs}, ArgsOk c O0 H vs rs → vs.length = rs.length
  | _, _, .nil => rfl
  | _, _, .cons _ t => congrArg (· + 1) (ArgsOk.length t)
/-- a def as it stands, called where no text is being told -/
structure FnG (P : Program) (w : World) (K : PySem.W.Frag) (mg : Str → Option Value) (base : Heap) (k : Nat) (f : Addr) (fd : FuncData) (ps : List Str) (sp : Sp) : Prop where
  len : ∀ vs H Q E, sp vs H Q E → vs.length = ps.length
  run : ∀ (A : Around) (outer : List PySem.Env) (s : Shared) (H : Hp) (args : Args) (us : List Value) (vs : List V) (Q : VK) (E : XK), Room k A → A.guards = some [] →
    Env0 P w K mg base A outer s H → BindsTo s fd args (ps.zip us) → Vals vs us → sp vs H Q E → codeAny (model P w) A (.call (.ref f) args) (CR (L2.CX P w) outer P w H s Q E) s
theorem FnG.mono {P : Program} {w : World} {K : PySem.W.Frag} {mg : Str → Option Value} {base : Heap} {j k : Nat} {f : Addr} {fd : FuncData} {ps : List Str} {sp : Sp} (F : FnG P w K mg base j f fd ps sp) (h : j ≤ k) : FnG P w K mg base k f fd ps sp :=
  ⟨F.len, fun A outer s H args us vs Q E hr => F.run A outer s H args us vs Q E (hr.mono h)⟩
theorem FnG.imp {P : Program} {w : World} {K : PySem.W.Frag} {mg : Str → Option Value} {base : Heap} {k : Nat} {f : Addr} {fd : FuncData} {ps : List Str} {sp sp' : Sp} (F : FnG P w K mg base k f fd ps sp) (h : ∀ vs H Q E, sp' vs H Q E → sp vs H Q E) : FnG P w K mg base k f fd ps sp' :=
  ⟨fun vs H Q E z => F.len vs H Q E (h _ _ _ _ z), fun A outer s H args us vs Q E hr hg he hb hv hs => F.run A outer s H args us vs Q E hr hg he hb hv (h _ _ _ _ hs)⟩
theorem ArgsOk.re {c c' : Cs} {O0 : Addr → Prop} {H : Hp} (h1 : c'.kx = c.kx) (h2 : c'.hk = c.hk) : ∀ {vs : List V} {rs : List Rs}, ArgsOk c O0 H vs rs → ArgsOk c' O0 H vs rs
  | _, _, .nil => .nil
  | _, _, @ArgsOk.cons _ _ _ v _ r _ a t => .cons (by
      cases r with
      | val d => show Rp c'.kx O0 H v d; rw [h1]; exact a
      | bor t => obtain ⟨p, e, n, q⟩ := a; exact ⟨p, e, by unfold Cs.M0 at n ⊢; rw [h2]; exact n, by rw [h1]; exact q⟩
      | hnd => obtain ⟨p, g, e, q⟩ := a; exact ⟨p, g, h2.trans e, q⟩
      | new t => exact a
      | own t => exact a) (ArgsOk.re h1 h2 t)
/-- a promise weakened, as data -/
theorem spG.imp {kx : Kx} {F F' : Fs} (h : ∀ rs R X, F' rs R X → ∃ R' X', F rs R' X' ∧ (∀ r, R' r → R r) ∧ ∀ e, X' e → X e) : ∀ vs H Q E, spG kx F' vs H Q E → spG kx F vs H Q E := fun vs H Q E ⟨hk, O0, rs, R, Xp, h1, h2, h3, h4, h5, h6, h7⟩ => by
  obtain ⟨R', X', g, gr, gx⟩ := h rs R Xp h5
  refine ⟨hk, O0, rs, R', X', ArgsOk.re (c := csOf kx hk E Xp) (c' := csOf kx hk E X') rfl rfl h1, h2, h3, h4, g, fun v H' r k ha ok z => h6 v H' r k ha ?_ (gr r z), fun cls d H' e k ha ea z => h7 cls d H' e k ha ea (gx e z)⟩
  cases r <;> exact ok
@[reducible] def argSl : Rs → Sl
  | .val d => .val d
  | .bor t => .bor t
  | .hnd => .hnd
  | _ => .un
@[reducible] def startG (N : List Str) (rs : List Rs) : List Sl := rs.map argSl ++ List.replicate (N.length - rs.length) .un
section
variable {P : Program} {w : World} {K : PySem.W.Frag} {mg : Str → Option Value} {base : Heap}
theorem start_ok {c : Cs} {O0 : Addr → Prop} {H : Hp} {vs : List V} {rs : List Rs} {N : List Str} (h : ArgsOk c O0 H vs rs) (ha : c.HA H) (m0 : ∀ a, c.M0 a → O0 a) (al : ∀ a, O0 a → H a ≠ none) (hn : vs.length ≤ N.length) : Stt c ⟨H, c.M0, O0⟩ O0 (startG N rs) (L2.start N vs) H := by
  have len := h.length
  have get : ∀ (i : Nat) (s : Sl), (startG N rs)[i]? = some s → SlOk c ⟨H, c.M0, O0⟩ O0 H (L2.start N vs)[i]? s := by
    intro i s e
    unfold startG at e
    unfold L2.start
    by_cases hi : i < rs.length
    · rw [List.getElem?_append_left (by simpa using hi)] at e
      rw [List.getElem?_append_left (by simpa [len] using hi)]
      clear hn len
      induction h generalizing i with
      | nil => simp at hi
      | cons a t ih =>
        rename_i v vs r rs
        cases i with
        | zero =>
          simp at e
          subst e
          simp only [List.map_cons, List.getElem?_cons_zero]
          cases r with
          | val d => exact ⟨v, rfl, a⟩
          | bor t => obtain ⟨p, rfl, n, q⟩ := a; exact ⟨p, rfl, ⟨n, fun z => z⟩, q⟩
          | hnd => exact ⟨v, rfl, a⟩
          | new t => trivial
          | own t => trivial
        | succ j =>
          simp only [List.map_cons, List.getElem?_cons_succ] at e ⊢
          exact ih j e (by simpa using hi)
    · rw [List.getElem?_append_right (by simpa using hi), List.getElem?_replicate] at e
      split at e
      · cases e; trivial
      · cases e
  refine ⟨?_, ha, m0, fun a m => m, fun a z => z, fun a z => .inl z, al, fun a m => al a (m0 a m), fun b o _ e => e, get, fun i j s t a e1 e2 => ?_⟩
  · unfold L2.start startG
    simp only [List.length_append, List.length_map, List.length_replicate, len]
  · have no : ∀ (i : Nat) (s : Ct), (startG N rs)[i]? ≠ some (.own s) := fun i s e => by
      unfold startG at e
      rcases List.getElem?_append (l₁ := rs.map argSl) ▸ e with z
      by_cases hi : i < (rs.map argSl).length
      · rw [List.getElem?_append_left hi, List.getElem?_map] at e
        cases q : rs[i]? with
        | none => rw [q] at e; cases e
        | some r => rw [q] at e; cases r <;> cases e
      · rw [List.getElem?_append_right (by omega), List.getElem?_replicate] at e
        split at e <;> cases e
    exact absurd e1 (no i s)
/-- THE RULE for a def: its body, as data -/
theorem fnG_of {x qual : Str} {st : Stmt} {f : Addr} {fd : FuncData} {N ps : List Str} {k : Nat} {F : Fs} {kx : Kx} (Fn : Fun K x qual st f fd) (S : FnScope N ps (defScope st)) (hK : kx.K = K) (len : ∀ rs R X, F rs R X → rs.length = ps.length)
    (body : ∀ (cdv : Value) (A : Around) (outer : List PySem.Env) (s : Shared) (H : Hp) (E : XK) (hk : Option (Addr × Addr)) (rs : List Rs) (R : Rs → Prop) (Xp : Ec → Prop), F rs R Xp →
      Room k (cxOf (L2.CX P w) P w K mg base N qual (defScope st) f cdv A outer s H E).A → Bd (cxOf (L2.CX P w) P w K mg base N qual (defScope st) f cdv A outer s H E) (csOf kx hk E Xp) →
      Takes (cxOf (L2.CX P w) P w K mg base N qual (defScope st) f cdv A outer s H E) (csOf kx hk E Xp).W →
      DSs (cxOf (L2.CX P w) P w K mg base N qual (defScope st) f cdv A outer s H E) (csOf kx hk E Xp) (defBody st) (startG N rs) { nx := fun _ => R (.val .none), rt := R }) : FnG P w K mg base (k + 1) f fd ps (spG kx F) := by
  obtain ⟨oc, od, kV, doc, pm, an, cdv, ct, osl, rfl, lk, hcd⟩ := Fn.ex
  have hlen : ∀ vs H Q E, spG kx F vs H Q E → vs.length = ps.length := fun vs H Q E ⟨hk, O0, rs, R, Xp, h1, _, _, _, h5, _⟩ => h1.length.trans (len rs R Xp h5)
  have hpl : ps.length ≤ N.length := by
    have z := congrArg List.length S.pre
    rw [List.length_take] at z
    omega
  refine ⟨hlen, fun A outer s H args us vs Q E hr hg e0 hb r hsp => ?_⟩
  have hl := hlen _ _ _ _ hsp
  obtain ⟨hk, O0, rs, R, Xp, h1, h2, h3, h4, h5, h6, h7⟩ := hsp
  have inK : K.In s.heap := e0.mod.kin.keeps fun b o e => (e0.bs b o e).1
  have lim : s.heap.NoLimit := e0.mod.nolimit.keeps fun b o e => (e0.bs b o e).1
  refine codeAny_call_function hr.depth (inK _ _ lk) rfl S.co S.gen rfl (PySem.W.codeRec_of inK hcd) (hb _ _ _ _ ?_)
  refine wpAny_newFunctionEnv_cells S.kind (fun y hy => ?_) fun env he s1 x => ?_
  · rcases S.par y.1 (List.of_mem_zip (show (y.1, y.2) ∈ ps.zip us from hy)).1 with q | q
    · exact .inl q
    · exact .inr ⟨q, PySem.W.cellsFrom_some _ _ _ (.inl q)⟩
  subst he
  refine ⟨lim.keeps x.toInCall.keep, codeAny_func ?_⟩
  have I := inv_start (CX := L2.CX P w) (cd := cdv) (f := f) (qual := qual) (E := E) S hr.hd e0 hl r x
  have room := hr.deeper (PyProof.Rows.envOfC qual (defScope st) s.heap.objs.size f cdv)
  have tk := takes_of (X := cxOf (L2.CX P w) P w K mg base N qual (defScope st) f cdv A outer s H E) (E := E) rfl rfl rfl rfl
  have bd : Bd (cxOf (L2.CX P w) P w K mg base N qual (defScope st) f cdv A outer s H E) (csOf kx hk E Xp) := ⟨hK.symm, S.nd, by
    have z : (A.deeper (PyProof.Rows.envOfC qual (defScope st) s.heap.objs.size f cdv)).units + 16 * k + 200 < cLine := room.un
    show (A.deeper (PyProof.Rows.envOfC qual (defScope st) s.heap.objs.size f cdv)).units + 200 < cLine
    omega, hg, passes_of rfl⟩
  have ht := body cdv A outer s H E hk rs R Xp h5 room bd tk
  have S0 := start_ok (N := N) h1 h2 h3 h4 (by omega)
  refine wpAny_mono (ht.run [] s1 (L2.start N vs) H { nx := fun _ H' => Q .non H', rt := Q } I ⟨_, _, S0, fun O Γ σ H' cls d e S ea ex => h7 cls d H' e S.keep S.hand ?_ ex, ⟨fun O Γ σ H' S z => h6 .non H' (.val .none) S.keep S.hand Rp.non z, fun O Γ σ H' v r S ok z => h6 v H' r S.keep S.hand ok z, fun _ _ _ _ _ z => z.elim, fun _ _ _ _ _ z => z.elim⟩⟩) (fun fl s' hs => ?_) fun e s' hs => hs
  · obtain ⟨C, dd, fs, e1, e2, e3, e4, e5⟩ := ea
    exact ⟨C, dd, fs, e1, e2, e3, e4, e5.mv ⟨fun a z _ => S.sub a z, fun _ _ _ e => e⟩⟩
  · cases fl with
    | ret u => obtain ⟨v, σ', H', J, rv, q⟩ := hs; exact ⟨v, H', J.os, J.bare, J.base, J.hok, rv, q⟩
    | next => obtain ⟨σ', H', J, q⟩ := hs; exact ⟨V.non, H', J.os, J.bare, J.base, J.hok, rfl, q⟩
    | brk => obtain ⟨_, _, _, q⟩ := hs; exact q.elim
    | cont => obtain ⟨_, _, _, q⟩ := hs; exact q.elim
end
end Dl

namespace Dl
open PySem PySem.Spec L2

/-! ### calls -/
section
variable {X : Cx} {W : WX} {k : Nat} {f : Addr} {fd : FuncData} {ps : List Str} {sp : Sp} {dvs : List V} {ds : List Value}
theorem run_fnG {pins : List (Addr × Obj)} {σ : St} {H : Hp} {s : Shared} {Q : VK} {us : List Value} {vs : List V} (F : FnG X.prog X.w X.K X.mg X.base k f fd ps sp) (hr : Room k X.A) (gd : X.A.guards = some []) (hb : Binds X.K fd ps ds) (hd : Vals dvs ds)
    (tk : Takes X W) (I : Inv X pins σ H s) (r : Vals vs us) (h : sp (vs ++ dvs) H Q (fun cls d H' => W cls d σ H')) : wpAny (model X.prog X.w) X.A (call (.ref f) us) (EP X pins σ Q) X.xe s := by
  have r2 := r.append hd
  have hl : (us ++ ds).length = ps.length := r2.length.symm.trans (F.len _ _ _ _ h)
  refine wpAny_call (codeAny_mono (F.run X.A X.stack s H ⟨us, []⟩ _ _ Q _ hr gd I.env0 (hb s us I.kIn hl) r2 h) fun r s' hq => ?_)
  cases r with
  | error e => exact tk e s' (XE.of_call I (fun _ _ _ z => z) hq)
  | ok fl =>
    cases fl with
    | ret u => exact I.after hq
    | next => exact hq.elim
    | brk => exact hq.elim
    | cont => exact hq.elim
end
@[reducible] def Rs.arg : Rs → Option Rs
  | .val d => some (.val d)
  | .new (.l ds) => some (.val (.list ds))
  | .new (.d _) => none
  | .own t => some (.bor t)
  | .bor t => some (.bor t)
  | .hnd => some .hnd
@[reducible] def argsOf : List Rs → Option (List Rs)
  | [] => some []
  | r :: rs => match r.arg, argsOf rs with
    | some a, some as => some (a :: as)
    | _, _ => none
section
variable {c : Cs} {B : Base} {O : Addr → Prop} {Γ : List Sl} {σ : St} {H H' : Hp} {v : V} {r a : Rs}
theorem RsAt.arg (E : Stt c B O Γ σ H) (h : RsAt c B O H v r) (e : r.arg = some a) : ArgOk c O H v a := by
  cases r with
  | val d => cases e; exact h
  | new t =>
    cases t with
    | l ds => cases e; exact RsAt.rp (r := .new (.l ds)) h rfl
    | d kvs => cases e
  | own t => cases e; obtain ⟨p, rfl, w, q⟩ := h; exact ⟨p, rfl, w.noM E, q⟩
  | bor t => cases e; obtain ⟨p, rfl, w, q⟩ := h; exact ⟨p, rfl, w.1, q⟩
  | hnd => cases e; exact h
theorem RsAts.args (E : Stt c B O Γ σ H) : ∀ {vs : List V} {rs as : List Rs}, RsAts c B O H vs rs → argsOf rs = some as → ArgsOk c O H vs as
  | _, _, _, .nil, e => by cases e; exact .nil
  | _, _, as, @RsAts.cons _ _ _ _ v vs r rs h t, e => by
    unfold argsOf at e
    cases e1 : r.arg with
    | none => rw [e1] at e; simp at e
    | some b =>
      cases e2 : argsOf rs with
      | none => rw [e1, e2] at e; simp at e
      | some bs =>
        rw [e1, e2] at e
        cases e
        exact .cons (h.arg E e1) (RsAts.args E t e2)
/-- what a callee hands back -/
theorem RtOk.back {kx : Kx} {hk : Option (Addr × Addr)} {E' : XK} {Xp : Ec → Prop} (e1 : kx = c.kx) (e2 : hk = c.hk) (E : Stt c B O Γ σ H) (h : RtOk (csOf kx hk E' Xp) ⟨H, (csOf kx hk E' Xp).M0, O⟩ H' v r) : RsOk c B O H H' v r := by
  subst e1 e2
  cases r with
  | val d => exact h
  | new t =>
    obtain ⟨p, e, n, f, q⟩ := h
    refine ⟨p, e, ?_, q⟩
    rcases f with z | z
    · exact z
    · exact absurd (E.mO z) n
  | own t => exact h.elim
  | bor t => exact h.elim
  | hnd => exact h
end
section
variable {X : Cx} {c : Cs} {k : Nat} {f : Addr} {fd : FuncData} {ps : List Str} {F : Fs} {x : Str} {p pos : Pos} {e : Expr} {es : List Expr} {Γ : List Sl} {K : Rs → Prop} {dvs : List V} {ds : List Value}
/-- a promise asked with such arguments -/
theorem spG_use {c : Cs} {B : Base} {O : Addr → Prop} {Γ : List Sl} {σ : St} {H : Hp} {vs : List V} {as : List Rs} {Q : VK} (S : Stt c B O Γ σ H) (xc : ExC c B) (ha : ArgsOk c O H vs as) (hF : F as K (fun e => c.ex e Γ)) (q : ∀ v H' r, Kp c H H' → c.HA H' → RsOk c B O H H' v r → K r → Q v H') :
    spG c.kx F vs H Q (fun cls d H' => c.W cls d σ H') :=
  ⟨c.hk, O, as, K, fun e => c.ex e Γ, ArgsOk.re (c := c) (c' := csOf c.kx c.hk _ _) rfl rfl ha, S.hand, fun a m => S.mO m, S.al, hF, fun v H' r k ha ok z => q v H' r k ha (RtOk.back rfl rfl S ok) z,
    fun cls d H' e k ha ea z => xc O Γ σ H' cls d e (S.step k ha) ea z⟩
theorem ArgsOk.app {c : Cs} {O : Addr → Prop} {H : Hp} : ∀ {vs ws : List V} {rs ss : List Rs}, ArgsOk c O H vs rs → ArgsOk c O H ws ss → ArgsOk c O H (vs ++ ws) (rs ++ ss)
  | _, _, _, _, .nil, t => t
  | _, _, _, _, .cons h r, t => .cons h (ArgsOk.app r t)
/-- f(e, ..) -/
theorem de_call (Fn : FnG X.prog X.w X.K X.mg X.base k f fd ps (spG c.kx F)) (hr : Room k X.A) (bd : Bd X c) (tk : Takes X c.W) (hm : X.mg x = some (.ref f)) (hk : PySem.W.keepIn X.K (.ref f) = true) (hb : Binds X.K fd ps [])
    (h : DA X c (e :: es) Γ fun rs => ∃ as, argsOf rs = some as ∧ F as K (fun e => c.ex e Γ)) (hg : Gl X x := by rfl)
    (hdb : (x == ("__debug__" : Str)) = false := by decide) (he : starEach (e :: es) X.env = (false, eval e X.env) :: starEach es X.env := by rfl) (hpl : (backTo pos (starEach es X.env)).any (·.1) = false := by rfl) : DE X c (.Call (.Name x p) (e :: es) [] pos) Γ K := by
  refine ⟨fun pins s σ H Q I ⟨B, O, S, xc, q⟩ => ?_⟩
  refine wpAny_Call_Name_kw (ld_glob I hg hm ?_ hdb)
  refine PySem.W.callWith_K (h₀ := X.base) I.ok.mod.kin hk (thn ((pa_U (X := X) (c := c) (Γ := Γ)).run pos pins s σ H (fun vs H1 => ∃ as, ArgsOk c O H1 vs as ∧ F as K (fun e => c.ex e Γ) ∧ Kp c H H1 ∧ c.HA H1) I ?_) fun us s1 ⟨vs, H1, I1, r, as, ao, hF, k1, a1⟩ => ⟨I1.kIn, ?_⟩) he hpl
  · exact ⟨_, h, B, O, S, xc, fun vs H1 rs k1 a1 o1 ⟨as, ea, hF⟩ => ⟨as, (o1.ats S).args (S.step k1 a1) ea, hF, k1, a1⟩⟩
  · refine run_fnG (dvs := []) (ds := []) Fn hr bd.gd hb .nil tk I1 r ?_
    rw [List.append_nil]
    exact spG_use (S.step k1 a1) xc ao hF fun v H' r k2 a2 o2 z => q v H' r (k1.trans k2) a2 (o2.ahead k1 a1) z
/-- f() -/
theorem de_call0 (Fn : FnG X.prog X.w X.K X.mg X.base k f fd ps (spG c.kx F)) (hr : Room k X.A) (bd : Bd X c) (tk : Takes X c.W) (hm : X.mg x = some (.ref f)) (hk : PySem.W.keepIn X.K (.ref f) = true) (hb : Binds X.K fd ps [])
    (h : F [] K (fun e => c.ex e Γ)) (hg : Gl X x := by rfl) (hdb : (x == ("__debug__" : Str)) = false := by decide) : DE X c (.Call (.Name x p) [] [] pos) Γ K := by
  refine ⟨fun pins s σ H Q I ⟨B, O, S, xc, q⟩ => ?_⟩
  refine wpAny_Call_Name_kw (ld_glob I hg hm ?_ hdb)
  refine PySem.W.callWith_K0 I.kIn hk ?_
  exact run_fnG (us := []) (vs := []) (dvs := []) (ds := []) Fn hr bd.gd hb .nil tk I .nil (spG_use S xc .nil h q)
theorem RsAll.length {c : Cs} {B : Base} {O : Addr → Prop} {H H' : Hp} : ∀ {vs : List V} {rs : List Rs}, RsAll c B O H H' vs rs → vs.length = rs.length
  | _, _, .nil => rfl
  | _, _, .cons _ t => congrArg (· + 1) (RsAll.length t)
/-! keywords -/
def DK (X : Cx) (c : Cs) (kws : List Keyword) (Γ : List Sl) (K : List Rs → Prop) : Prop := PK X kws (tDA c Γ K)
theorem PK.weak {kws : List Keyword} {t t' : TA} (h : PK X kws t) (w : ∀ σ H Q, t' σ H Q → t σ H Q) : PK X kws t' := ⟨fun pos pins s σ H Q I hw => h.run pos pins s σ H Q I (w _ _ _ hw)⟩
def tUK (X : Cx) (c : Cs) (kws : List Keyword) (Γ : List Sl) : TA := fun σ H Q => ∃ K, DK X c kws Γ K ∧ tDA c Γ K σ H Q
theorem pk_U {kws : List Keyword} : PK X kws (tUK X c kws Γ) := ⟨fun pos pins s σ H Q I ⟨_, h, q⟩ => h.run pos pins s σ H Q I q⟩
theorem dk_nil {L : List Rs → Prop} (h : L []) : DK X c [] Γ L := PK.weak pk_nil fun σ H Q ⟨B, O, E, xc, q⟩ => q [] H [] Kp.refl E.hand .nil h
theorem dk_cons {nm : Option Str} {kpos : Pos} {kws : List Keyword} {L : List Rs → Prop} (h : DE X c e Γ fun r => DK X c kws Γ fun rs => L (r :: rs)) : DK X c (⟨nm, e, kpos⟩ :: kws) Γ L :=
  PK.weak (pk_cons pe_U pk_U) fun σ H Q t => by
    obtain ⟨B, O, E, xc, q⟩ := t
    refine ⟨_, h, B, O, E, xc, fun v H1 r k1 a1 o1 z => ?_⟩
    exact ⟨_, z, B, O, E.step k1 a1, xc, fun vs H2 rs k2 a2 o2 z2 => q (v :: vs) H2 (r :: rs) (k1.trans k2) a2 (.cons (o1.later E k1 a1 k2) (o2.ahead k1 a1)) z2⟩
/-- how a call by keywords alone binds: perm puts the keywords' values in the parameters' order -/
structure KwBinds (K : PySem.W.Frag) (fd : FuncData) (ps ks : List Str) (g : ∀ {α : Type}, List α → List α) : Prop where
  to : ∀ (s : Shared) (ws : List Value), ws.length = ks.length → BindsTo s fd ⟨[], ks.zip ws⟩ (ps.zip (g ws))
  rel : ∀ {α β : Type} (R : α → β → Prop) (xs : List α) (ys : List β), Paired R xs ys → Paired R (g xs) (g ys)
theorem run_fnKw {W : WX} {sp : Sp} {ks : List Str} {g : ∀ {α : Type}, List α → List α} {pins : List (Addr × Obj)} {σ : St} {H : Hp} {s : Shared} {Q : VK} {us : List Value} {vs : List V} (F : FnG X.prog X.w X.K X.mg X.base k f fd ps sp) (hr : Room k X.A) (gd : X.A.guards = some []) (hb : KwBinds X.K fd ps ks g)
    (tk : Takes X W) (I : Inv X pins σ H s) (r : Vals vs us) (hl : us.length = ks.length) (h : sp (g vs) H Q (fun cls d H' => W cls d σ H')) : wpAny (model X.prog X.w) X.A (call (.ref f) [] (ks.zip us)) (EP X pins σ Q) X.xe s := by
  refine wpAny_call (codeAny_mono (F.run X.A X.stack s H ⟨[], ks.zip us⟩ (g us) (g vs) Q _ hr gd I.env0 (hb.to s us hl) (hb.rel _ _ _ r) h) fun r s' hq => ?_)
  cases r with
  | error e => exact tk e s' (XE.of_call I (fun _ _ _ z => z) hq)
  | ok fl =>
    cases fl with
    | ret u => exact I.after hq
    | next => exact hq.elim
    | brk => exact hq.elim
    | cont => exact hq.elim
theorem argsOk_of {c : Cs} {O : Addr → Prop} {H : Hp} : ∀ {vs : List V} {rs : List Rs}, Paired (fun v r => ArgOk c O H v r) vs rs → ArgsOk c O H vs rs
  | _, _, .nil => .nil
  | _, _, .cons h t => .cons h (argsOk_of t)
theorem argsOk_to {c : Cs} {O : Addr → Prop} {H : Hp} : ∀ {vs : List V} {rs : List Rs}, ArgsOk c O H vs rs → Paired (fun v r => ArgOk c O H v r) vs rs
  | _, _, .nil => .nil
  | _, _, .cons h t => .cons h (argsOk_to t)
/-- f(k = e, ..), keywords alone -/
theorem de_callKw {kws : List Keyword} {ks : List Str} {g : ∀ {α : Type}, List α → List α} (Fn : FnG X.prog X.w X.K X.mg X.base k f fd ps (spG c.kx F)) (hr : Room k X.A) (bd : Bd X c) (tk : Takes X c.W) (hm : X.mg x = some (.ref f)) (hk : PySem.W.keepIn X.K (.ref f) = true) (hb : KwBinds X.K fd ps ks g)
    (h : DK X c kws Γ fun rs => ∃ as, argsOf rs = some as ∧ rs.length = kws.length ∧ F (g as) K (fun e => c.ex e Γ)) (hn : kws.length = ks.length := by rfl) (hg : Gl X x := by rfl)
    (hall : (backToKw pos (keywordEach kws X.env)).all (·.1.isSome) = true := by rfl) (hks : (backToKw pos (keywordEach kws X.env)).filterMap (·.1) = ks := by rfl)
    (hdb : (x == ("__debug__" : Str)) = false := by decide) (hpl : ((backTo pos (starEach [] X.env)).any (·.1) || (backToKw pos (keywordEach kws X.env)).any (·.1.isNone)) = false := by rfl) : DE X c (.Call (.Name x p) [] kws pos) Γ K := by
  refine ⟨fun pins s σ H Q I ⟨B, O, S, xc, q⟩ => ?_⟩
  refine wpAny_Call_Name_kw (ld_glob I hg hm ?_ hdb)
  refine PySem.W.callWith_KW0 (h₀ := X.base) I.ok.mod.kin hk hall (thn ((pk_U (X := X) (c := c) (Γ := Γ)).run pos pins s σ H (fun vs H1 => ∃ as, ArgsOk c O H1 vs as ∧ F (g as) K (fun e => c.ex e Γ) ∧ Kp c H H1 ∧ c.HA H1 ∧ vs.length = kws.length) I ?_) fun us s1 ⟨vs, H1, I1, r, as, ao, hF, k1, a1, hvl⟩ => ⟨I1.kIn, ?_⟩) hpl
  · refine ⟨_, h, B, O, S, xc, fun vs H1 rs k1 a1 o1 ⟨as, ea, el, hF⟩ => ⟨as, (o1.ats S).args (S.step k1 a1) ea, hF, k1, a1, o1.length.trans el⟩⟩
  · rw [hks]
    refine run_fnKw (g := g) Fn hr bd.gd hb tk I1 r (by rw [← r.length, hvl, hn]) ?_
    exact spG_use (S.step k1 a1) xc (argsOk_of (hb.rel _ _ _ (argsOk_to ao))) hF fun v H' r k2 a2 o2 z => q v H' r (k1.trans k2) a2 (o2.ahead k1 a1) z
end
/-! ### raise, try -/
theorem Kp.own {c : Cs} {H H' : Hp} (h : ∀ b o, H b = some o → H' b = some o) : Kp c H H' := fun b o _ e => h b o e
/-- what the text says of an exception class C with __init__(self, n): self.n = n -/
structure XcC (P : Program) (w : World) (K : PySem.W.Frag) (mg : Str → Option Value) (base : Heap) (kx : Kx) (C fI : Addr) (fd : FuncData) (name f : Str) (ps : List Str) : Prop where
  T : OexC K C
  iC : PySem.W.findIn K (.ref C) "__init__" = some (some (.ref fI))
  tI : PySem.W.typeIn K (.ref fI) = some (.type "function")
  cl : kx.cl C = some name
  bI : Binds K fd ps []
  F : FnOk P w K mg base (L2.CX P w) 1 fI fd ps (fun vs H Q _ => ∃ a v, vs = [.ref a, v] ∧ H a = some (exo a C none) ∧ ∀ dx, H dx = none → dx ≠ a → Q .non (upd (upd H dx (exd dx [(f, v)])) a (exo a C (some dx))))
section
variable {X : Cx} {c : Cs} {C fI : Addr} {fd : FuncData} {name f x : Str} {ps : List Str} {k : Nat} {p pos pos2 : Pos} {e : Expr} {Γ : List Sl} {E : Pd}
theorem ds_raise (hc : X.calm = true) (bd : Bd X c) (tk : Takes X c.W) (hr : Room 2 X.A) (T : XcC X.prog X.w X.K X.mg X.base c.kx C fI fd name f ps) (hm : X.mg x = some (.ref C)) (h : DE X c e Γ fun r => ∃ d, r.dat = some d ∧ c.ex (name, [(.str f, d)]) Γ) (hg : Gl X x := by rfl)
    (hdb : (x == ("__debug__" : Str)) = false := by decide) (hs : starEach (e :: []) X.env = (false, eval e X.env) :: starEach [] X.env := by rfl) (hpl : (backTo pos (starEach [] X.env)).any (·.1) = false := by rfl) :
    DS X c (.Raise (some (.Call (.Name x p) [e] [] pos)) none pos2) Γ E := by
  refine PS.weak (ps_raise hc tk (pmk_oex (CX := L2.CX X.prog X.w) T.T T.iC T.tI T.F hr T.bI .nil passL hg hm (pa_cons (pe_U (c := c) (Γ := Γ)) pa_nil hs) hdb hs hpl)) fun Z σ H ⟨B, O, S, xc, q⟩ => ?_
  refine ⟨_, h, B, O, S, xc, fun v H1 r k1 a1 ok ⟨d, ed, hx⟩ => ⟨by show 1 ≤ 1000; decide, fun a ha => ?_⟩⟩
  have S1 := S.step k1 a1
  have rv := (ok.at S).rp ed
  refine ⟨a, v, rfl, upd_same, fun dx hdx hne => ⟨rfl, dx, [(f, v)], upd_same, by rw [upd_ne hne]; exact upd_same, ?_, ?_⟩⟩
  · rw [upd_ne hne] at hdx
    exact hdx
  · have hd1 : H1 dx = none := by rw [upd_ne hne] at hdx; exact hdx
    generalize hH : upd (del (upd (upd (upd H1 a (exo a C none)) dx (exd dx [(f, v)])) a (exo a C (some dx))) a) dx (.xd [(f, v)]) = H2
    have ext : ∀ b o, H1 b = some o → H2 b = some o := fun b o e => by
      rw [← hH, upd_ne (ne_of_none e hd1), del_ne (ne_of_none e ha), upd_ne (ne_of_none e ha), upd_ne (ne_of_none e hd1), upd_ne (ne_of_none e ha)]
      exact e
    have ha2 : c.HA H2 := a1.same fun b m => by
      obtain ⟨o, eo⟩ := Option.ne_none_iff_exists'.mp (a1.there m)
      rw [eo]; exact ext b o eo
    have S2 := S1.step (Kp.own ext) ha2
    refine xc O Γ σ H2 _ _ (name, [(.str f, d)]) S2 ⟨C, dx, _, rfl, T.cl, rfl, by rw [← hH]; exact upd_same, .cons (rv.mv (S1.mv (Kp.own ext))) .nil⟩ hx
/-- the context of a suite -/
@[reducible] def Cs.suite (c : Cs) (a dd : Addr) : Cs := { kx := c.kx, hk := c.hk, xc := some (a, dd), W := fun _ _ _ _ => False, ex := fun _ _ => False }
def SuiteOk (X : Cx) (c : Cs) (i : Nat) (sts : List Stmt) (Γ1 : List Sl) (e : Ec) (E : Pd) : Prop := ∀ (a dd C : Addr) (oe : Obj) (pn : List (Addr × Obj)), c.kx.cl C = some e.1 → Zc (.ref C) (some dd) oe → (∃ vs, oe.data = .fields vs) →
  DSs (X.suite a ((a, oe) :: pn)) (c.suite a dd) sts (Γ1.set i (.xc e.2)) { nx := fun Γ => (∀ (j : Nat) ds, Γ[j]? = some (.xc ds) → j = i) ∧ E.nx (Γ.set i .un), rt := E.rt, bk := fun Γ => (∀ (j : Nat) ds, Γ[j]? = some (.xc ds) → j = i) ∧ E.bk (Γ.set i .un), ct := fun Γ => (∀ (j : Nat) ds, Γ[j]? = some (.xc ds) → j = i) ∧ E.ct (Γ.set i .un) }
theorem Stt.reW {B : Base} {O : Addr → Prop} {σ : St} {H : Hp} {W : WX} {ex : Ec → List Sl → Prop} (S : Stt c B O Γ σ H) : Stt { c with W := W, ex := ex } B O Γ σ H := ⟨S.len, S.hand, S.m0, S.mx0, S.sub, S.ow, S.al, S.mxa, S.keep, fun i s e => by
  have q := S.sl i s e
  cases s <;> exact q, S.dist⟩
theorem Stt.unW {B : Base} {O : Addr → Prop} {σ : St} {H : Hp} {W : WX} {ex : Ec → List Sl → Prop} (S : Stt { c with W := W, ex := ex } B O Γ σ H) : Stt c B O Γ σ H := ⟨S.len, S.hand, S.m0, S.mx0, S.sub, S.ow, S.al, S.mxa, S.keep, fun i s e => by
  have q := S.sl i s e
  cases s <;> exact q, S.dist⟩
theorem Stt.suite {B : Base} {O : Addr → Prop} {σ : St} {H : Hp} (hx : c.xc = none) (S : Stt c B O Γ σ H) (a dd : Addr) : Stt (c.suite a dd) B O Γ σ H := ⟨S.len, S.hand, S.m0, S.mx0, S.sub, S.ow, S.al, S.mxa, S.keep, fun i s e => by
  have q := S.sl i s e
  cases s with
  | xc ds => obtain ⟨a, dd, fs, e1, _⟩ := q; rw [hx] at e1; cases e1
  | scr ns => exact q
  | un => trivial
  | val d => exact q
  | own t => exact q
  | bor t => exact q
  | hnd => exact q, S.dist⟩
/-- behind a suite: the exception's name is gone -/
theorem Stt.unsuite {B : Base} {O : Addr → Prop} {σ : St} {H : Hp} {a dd : Addr} {i : Nat} (S : Stt (c.suite a dd) B O Γ σ H) (hn : ∀ (j : Nat) ds, Γ[j]? = some (.xc ds) → j = i) : Stt c B O (Γ.set i .un) (σ.set i none) H := by
  have S2 := S.setS i (v := none) (s := .un) trivial fun t z => nomatch z
  refine ⟨S2.len, S2.hand, S2.m0, S2.mx0, S2.sub, S2.ow, S2.al, S2.mxa, S2.keep, fun j s e => ?_, S2.dist⟩
  have q := S2.sl j s e
  cases s with
  | xc ds =>
    exfalso
    by_cases h : i = j
    · subst h
      by_cases hl : i < Γ.length
      · rw [List.getElem?_set_self hl] at e; cases e
      · rw [List.getElem?_eq_none (by rw [List.length_set]; omega)] at e; cases e
    · rw [List.getElem?_set_ne h] at e
      exact h (hn j ds e).symm
  | un => trivial
  | val d => exact q
  | own t => exact q
  | bor t => exact q
  | hnd => exact q
  | scr ns => exact q
theorem Stt.blank {B : Base} {O : Addr → Prop} {σ : St} {H : Hp} {a dd : Addr} (S : Stt (c.suite a dd) B O Γ σ H) : Stt c B O (Γ.map fun _ => Sl.un) σ H := by
  have un : ∀ (i : Nat) (s : Sl), (Γ.map fun _ => Sl.un)[i]? = some s → s = .un := fun i s e => by
    rw [List.getElem?_map] at e
    cases q : Γ[i]? with
    | none => rw [q] at e; cases e
    | some z => rw [q] at e; cases e; rfl
  refine ⟨by rw [List.length_map]; exact S.len, S.hand, S.m0, S.mx0, S.sub, S.ow, S.al, S.mxa, S.keep, fun i s e => ?_, fun i j s t a e1 e2 => ?_⟩
  · rw [un i s e]; trivial
  · cases un i _ e1
theorem ds_try {i : Nat} {n : Str} {body suite : List Stmt} {b0 : Stmt} {np pos' : Pos} {catches : Str → Bool} (bd : Bd X c) (hx : c.xc = none) (hs : X.stack = X.env :: X.outer) (hf : X.env.frame = some X.env.locals) (hi : X.N[i]? = some n) (hln : X.env.kindOf n = some .local) (hcl : Names X x (.ref C)) (tk : Takes X c.W)
    (exm : ∀ C' nm, c.kx.cl C' = some nm → PySem.W.exmOne X.K (.ref C') (.ref C) = some (catches nm))
    (hb : ∀ (W : WX) (pn : List (Addr × Obj)) (xe : Value → Shared → Prop), Takes (X.tr pn xe) W → PassesOwn (model X.prog X.w) X.A X.env xe →
      DSs (X.tr pn xe) { c with W := W, ex := fun e Γ1 => if catches e.1 = true then SuiteOk X c i (b0 :: suite) Γ1 e E else c.ex e Γ1 } body Γ E) :
    DS X c (.Try body [.ExceptHandler (some (.Name x np)) (some n) (b0 :: suite) pos'] [] [] pos) Γ E := by
  refine PS.weak (ps_try_as (tb := fun W => tDS { c with W := W, ex := fun e Γ1 => if catches e.1 = true then SuiteOk X c i (b0 :: suite) Γ1 e E else c.ex e Γ1 } Γ E)
    (ts := fun a cls d Z σ H => ∃ Γ1 E' cs, (∀ oe pn, Zc cls d oe → (∃ vs, oe.data = .fields vs) → DSs (X.suite a ((a, oe) :: pn)) cs (b0 :: suite) Γ1 E') ∧ tDS cs Γ1 E' Z σ H) hs hf bd.nd hi hln hcl tk hb
    (fun a oe cls d pn hz hfl => ⟨fun pins s σ H Z I ⟨Γ1, E', cs, z, t⟩ => (z oe pn hz hfl).run pins s σ H Z I t⟩)) fun Z σ H ⟨B, O, S, xc, q⟩ => ?_
  refine ⟨B, O, S.reW, fun O1 Γ1 σ1 H1 cls d e S1 ea ex => ?_, fun O Γ σ H S z => q.nx O Γ σ H S.unW z, fun O Γ σ H v r S ok z => q.rt O Γ σ H v r S.unW (by cases r <;> exact ok) z, fun O Γ σ H S z => q.bk O Γ σ H S.unW z, fun O Γ σ H S z => q.ct O Γ σ H S.unW z⟩
  have S1' := S1.unW
  obtain ⟨C', dd, fs, e1, e2, e3, e4, e5⟩ := id ea
  subst e1 e3
  refine ⟨catches e.1, exm C' _ e2, fun hc a ha => ?_, fun hc => ?_⟩
  · have ex' : SuiteOk X c i (b0 :: suite) Γ1 e E := by
      have z : (if catches e.1 = true then SuiteOk X c i (b0 :: suite) Γ1 e E else c.ex e Γ1) := ex
      rw [if_pos hc] at z
      exact z
    refine ⟨_, _, c.suite a dd, fun oe pn hz hfl => ex' a dd C' oe pn e2 hz hfl, B, O1, (S1'.suite hx a dd).setS i (v := some (.ref a)) (s := .xc e.2) ⟨a, dd, fs, rfl, rfl, e4, e5⟩ (fun t z => nomatch z), (fun _ _ _ _ _ _ _ _ _ (z : False) => z.elim),
      fun O Γ σ H S z => q.nx O _ _ H (S.unsuite z.1) z.2, fun O Γ σ H v r S ok z => q.rt O _ σ H v r S.blank (by cases r <;> exact ok) z, fun O Γ σ H S z => q.bk O _ _ H (S.unsuite z.1) z.2, fun O Γ σ H S z => q.ct O _ _ H (S.unsuite z.1) z.2⟩
  · have ex' : c.ex e Γ1 := by
      have z : (if catches e.1 = true then SuiteOk X c i (b0 :: suite) Γ1 e E else c.ex e Γ1) := ex
      rw [if_neg (by rw [hc]; simp)] at z
      exact z
    exact xc O1 Γ1 σ1 H1 _ _ e S1' ea ex'
/-- a field by its name -/
def fget (f : Str) : List (D × D) → Option D
  | [] => none
  | (.str g, d) :: r => if f = g then some d else fget f r
  | (_, _) :: r => fget f r
theorem RpFs.get {k : Kx} {O : Addr → Prop} {H : Hp} {f : Str} {d : D} : ∀ {fs : List (Str × V)} {ds : List (D × D)}, RpFs k O H fs ds → fget f ds = some d → ∃ v, fs.lookup f = some v ∧ Rp k O H v d
  | _, _, .nil, e => by cases e
  | _, _, @RpFs.cons _ _ _ g v fs d' ds h t, e => by
    unfold fget at e
    by_cases hg : f = g
    · rw [if_pos hg] at e
      cases e
      exact ⟨v, by simp [List.lookup, hg], h⟩
    · rw [if_neg hg] at e
      obtain ⟨w, e1, e2⟩ := RpFs.get t e
      have hb : (f == g) = false := by simpa using hg
      exact ⟨w, by simp [List.lookup, hb]; exact e1, e2⟩
/-- e.f, e the exception that a suite holds -/
theorem de_xf {i : Nat} {a dd : Addr} {oe : Obj} {pn : List (Addr × Obj)} {y : Str} {ds : List (D × D)} {d : D} {K : Rs → Prop} (T : XfC X.K C) (hno : PySem.W.findIn X.K (.ref C) f = some none) (hz : Zc (.ref C) (some dd) oe) (hfl : ∃ vs, oe.data = .fields vs)
    (hN : X.N[i]? = some y) (hv : Vis X.env.scope y) (hs : Γ[i]? = some (.xc ds)) (hl : fget f ds = some d) (h : K (.val d)) (hb : attributeBase (.Name y p) f X.env (eval (.Name y p) X.env) = eval (.Name y p) X.env := by rfl)
    (hd : (y == ("__debug__" : Str)) = false := by decide) (hcd : (y == ("__classdict__" : Str)) = false := by decide) : DE (X.suite a ((a, oe) :: pn)) (c.suite a dd) (.Attribute (.Name y p) f pos) Γ K := by
  refine PE.weak (pe_xf T hno hz hfl (pe_var (X := X.suite a ((a, oe) :: pn)) hN hv hd hcd) hb) fun σ H Q ⟨B, O, S, xc, q⟩ => ?_
  obtain ⟨a', dd', fs, e1, e2, e3, r⟩ := S.sl i _ hs
  cases e1
  obtain ⟨v, hv, rv⟩ := r.get hl
  exact ⟨_, e2, rfl, rfl, dd, fs, v, rfl, e3, hv, q v H (.val d) Kp.refl S.hand rv h⟩
end
end Dl

namespace Dl
open PySem PySem.Spec L2

/-! ### built-in calls by their values -/
section
variable {X : Cx} {c : Cs} {Γ : List Sl} {K : Rs → Prop} {r : Rs}
@[reducible] def Rs.ln : Rs → Option Nat
  | .val (.list ds) => some ds.length
  | .val (.tuple ds) => some ds.length
  | .new (.l ds) => some ds.length
  | .own (.l ds) => some ds.length
  | .bor (.l ds) => some ds.length
  | _ => none
def rLenX (K : PySem.W.Frag) : List V → Hp → VK → Prop := fun xs H Q => ∃ p ys, xs = [.ref p] ∧ (SqL K H p ys ∨ SqT K H p ys) ∧ Q (.int ys.length) H
theorem call_lenX : CallR X (.builtin "len") (rLenX X.K) := call_len_seq
theorem wa_len {n : Nat} (bd : Bd X c) (e : r.ln = some n) (h : K (.val (.int n))) : WA c Γ (rLenX X.K) [r] K := fun B O H vs Q σ S a q => by
  cases a with
  | cons a t =>
    cases t
    have fin : ∀ {p : Addr} {xs : List V}, (SqL X.K H p xs ∨ SqT X.K H p xs) → xs.length = n → rLenX X.K [.ref p] H Q := fun {p xs} hs hl => ⟨p, xs, rfl, hs, by rw [hl]; exact q _ H (.val (.int n)) Kp.refl S.hand (Rp.int _) h⟩
    cases r with
    | val d =>
      cases d <;> simp [Rs.ln] at e
      · obtain ⟨p, xs, rfl, hp, hx⟩ := RsAt.list (r := .val (.list _)) a rfl
        exact fin (.inl (SqL.of hp)) (hx.length.trans e)
      · obtain ⟨p, xs, rfl, hp, _, hx⟩ := RsAt.tup a
        exact fin (.inr (by rw [bd.kx]; exact hp)) (hx.length.trans e)
    | new t =>
      cases t <;> simp [Rs.ln] at e
      obtain ⟨p, xs, rfl, hp, hx⟩ := RsAt.list (r := .new (.l _)) a rfl
      exact fin (.inl (SqL.of hp)) (hx.length.trans e)
    | own t =>
      cases t <;> simp [Rs.ln] at e
      obtain ⟨p, xs, rfl, hp, hx⟩ := RsAt.list (r := .own (.l _)) a rfl
      exact fin (.inl (SqL.of hp)) (hx.length.trans e)
    | bor t =>
      cases t <;> simp [Rs.ln] at e
      obtain ⟨p, xs, rfl, hp, hx⟩ := RsAt.list (r := .bor (.l _)) a rfl
      exact fin (.inl (SqL.of hp)) (hx.length.trans e)
    | hnd => simp [Rs.ln] at e
/-! isinstance of a built-in class -/
@[reducible] def Rs.ty : Rs → Option String
  | .val .none => some "NoneType"
  | .val (.bool _) => some "bool"
  | .val (.int _) => some "int"
  | .val (.str _) => some "str"
  | .val (.list _) => some "list"
  | .val (.tuple _) => some "tuple"
  | .val (.dict _) => none
  | .new (.l _) => some "list"
  | .own (.l _) => some "list"
  | .bor (.l _) => some "list"
  | _ => none
theorem RsAt.ty {B : Base} {O : Addr → Prop} {H : Hp} {v : V} {t : String} (h : RsAt c B O H v r) (e : r.ty = some t) : TyX c.kx.K H v (.type t) := by
  have L : ∀ {ds : List D}, r.its = some ds → t = "list" → TyX c.kx.K H v (.type t) := fun {ds} e1 e2 => by
    obtain ⟨p, xs, rfl, hp, _⟩ := RsAt.list h e1
    subst e2
    exact .base (.lst hp)
  cases r with
  | val d =>
    cases h with
    | non => cases e; exact .base .non
    | bl b => cases e; exact .base (.bl b)
    | int i => cases e; exact .base (.int i)
    | str x => cases e; exact .base (.str x)
    | lst n a => cases e; exact .base (.lst n.1)
    | tup n a =>
      cases e
      rcases n with ⟨n, _⟩ | ⟨o, its, m, e1, e2, _⟩
      · exact .base (.tup n)
      · exact .kTuple e1 e2
    | ins => cases e
  | new t => cases t <;> simp [Rs.ty] at e; exact L rfl e.symm
  | own t => cases t <;> simp [Rs.ty] at e; exact L rfl e.symm
  | bor t => cases t <;> simp [Rs.ty] at e; exact L rfl e.symm
  | hnd => simp [Rs.ty] at e
theorem de_isi {e : Expr} {p p2 pos : Pos} {T : Str} {tn : String} (bd : Bd X c) (hm : X.mg "isinstance" = none) (hm2 : X.mg T = none) (hv2 : bootBuiltins T = some (.type tn)) (h : DE X c e Γ fun r => ∃ t b, r.ty = some t ∧ kitB t tn = some b ∧ K (.val (.bool b)))
    (hg : Gl X "isinstance" := by rfl) (hg2 : Gl X T := by rfl) (hn : T ≠ "__name__" := by decide) (hd : (T == ("__debug__" : Str)) = false := by decide)
    (he : starEach [e, .Name T p2] X.env = (false, eval e X.env) :: starEach [.Name T p2] X.env := by rfl) (hs2 : starEach [.Name T p2] X.env = (false, eval (.Name T p2) X.env) :: starEach [] X.env := by rfl) (hpl : (backTo pos (starEach [.Name T p2] X.env)).any (·.1) = false := by rfl) :
    DE X c (.Call (.Name "isinstance" p) [e, .Name T p2] [] pos) Γ K := by
  refine PE.weak (pe_callB (t := tCons (tU X c e Γ) (tCons (tC (.ty tn)) tNil)) call_isi hg hm PyProof.Rows.boot_isinstance (pa_cons pe_U (pa_cons (pe_bltn hg2 hm2 hv2 rfl hn hd) pa_nil hs2) he) (by decide) (by decide) he hpl) fun σ H Q ⟨B, O, S, xc, q⟩ => ?_
  refine ⟨_, h, B, O, S, xc, fun v H1 r k1 a1 o1 ⟨t, b, e1, e2, z⟩ => ?_⟩
  exact ⟨v, .ty tn, .type t, .type tn, b, rfl, .ty tn, by rw [bd.kx]; exact (o1.at S).ty e1, kit_ty e2, q _ H1 (.val (.bool b)) k1 a1 (Rp.bl b) z⟩
/-! tuple(x), list(x), int(x), abs(x) -/
@[reducible] def Rs.sq : Rs → Option (List D)
  | .val (.list ds) => some ds
  | .val (.tuple ds) => some ds
  | .new (.l ds) => some ds
  | .own (.l ds) => some ds
  | .bor (.l ds) => some ds
  | _ => none
theorem de_tupleOf {e : Expr} {p pos : Pos} {ds : List D} (bd : Bd X c) (hm : X.mg "tuple" = none) (h : DE X c e Γ fun r => ∃ ds, r.sq = some ds ∧ K (.val (.tuple ds))) (hg : Gl X "tuple" := by rfl) (na : starEach [e] X.env = (false, eval e X.env) :: starEach [] X.env := by rfl) :
    DE X c (.Call (.Name "tuple" p) [e] [] pos) Γ K := PE.weak (pe_tupleOf hg hm pe_U na) fun σ H Q ⟨B, O, S, xc, q⟩ => by
  refine ⟨_, h, B, O, S, xc, fun v H1 r k1 a1 o1 ⟨ds, e1, z⟩ => ?_⟩
  have S1 := S.step k1 a1
  have L : r.its = some ds → kTup X.K v H1 Q := fun e2 => by
    obtain ⟨p, xs, rfl, hp, hx⟩ := (o1.at S).list e2
    refine .inl ⟨p, xs, rfl, SqL.of hp, fun n hn => q _ _ (.val (.tuple ds)) (k1.trans (Kp.new hn)) (a1.new hn) (.tup (.inl ⟨upd_same, (S1.fresh hn).1⟩) (hx.mv (S1.mv (Kp.new hn)))) z⟩
  cases r with
  | val d =>
    cases d <;> simp [Rs.sq] at e1
    · subst e1; exact L rfl
    · subst e1
      obtain ⟨p, xs, rfl, hp, np, hx⟩ := (o1.at S).tup
      exact .inr ⟨p, xs, rfl, by rw [bd.kx]; exact hp, q _ H1 (.val (.tuple _)) k1 a1 (.tup np hx) z⟩
  | new t => cases t <;> simp [Rs.sq] at e1; subst e1; exact L rfl
  | own t => cases t <;> simp [Rs.sq] at e1; subst e1; exact L rfl
  | bor t => cases t <;> simp [Rs.sq] at e1; subst e1; exact L rfl
  | hnd => simp [Rs.sq] at e1
def rListX (K : PySem.W.Frag) : List V → Hp → VK → Prop := fun xs H Q => ∃ p ys, xs = [.ref p] ∧ (SqL K H p ys ∨ SqT K H p ys) ∧ ∀ l, H l = none → Q (.ref l) (upd H l (.lst ys))
theorem call_listX : CallR X (.type "list") (rListX X.K) := call_list_of
theorem wa_list {ds : List D} (bd : Bd X c) (e : r.sq = some ds) (h : K (.new (.l ds))) : WA c Γ (rListX X.K) [r] K := fun B O H vs Q σ S a q => by
  cases a with
  | cons a t =>
    cases t
    have fin : ∀ {p : Addr} {xs : List V}, (SqL X.K H p xs ∨ SqT X.K H p xs) → RpAll c.kx O H xs ds → rListX X.K [.ref p] H Q := fun {p xs} hs hr => ⟨p, xs, rfl, hs, fun l hl => q _ _ (.new (.l ds)) (Kp.new hl) (S.hand.new hl) ⟨l, rfl, hl, xs, upd_same, hr.mv (mvNew hl)⟩ h⟩
    rename_i v
    have L' : r.its = some ds → rListX X.K [v] H Q := fun e2 => by
      obtain ⟨p, xs, e3, hp, hx⟩ := a.list e2
      subst e3
      exact fin (.inl (SqL.of hp)) hx
    cases r with
    | val d =>
      cases d <;> simp [Rs.sq] at e
      · subst e; exact L' rfl
      · subst e
        obtain ⟨p, xs, rfl, hp, _, hx⟩ := RsAt.tup a
        exact fin (.inr (by rw [bd.kx]; exact hp)) hx
    | new t => cases t <;> simp [Rs.sq] at e; subst e; exact L' rfl
    | own t => cases t <;> simp [Rs.sq] at e; subst e; exact L' rfl
    | bor t => cases t <;> simp [Rs.sq] at e; subst e; exact L' rfl
    | hnd => simp [Rs.sq] at e
def rIntX : List V → Hp → VK → Prop := fun xs H Q => (∃ i, xs = [.int i] ∧ Q (.int i) H) ∨ ∃ k, xs = [.bl k] ∧ Q (.int (if k then 1 else 0)) H
theorem call_intX : CallR X (.type "int") rIntX := call_int1
theorem wa_int {i : Int} (h : K (.val (.int i))) : WA c Γ rIntX [.val (.int i)] K := fun B O H vs Q σ S a q => by
  cases a with
  | cons a t => cases t; cases a.int; exact .inl ⟨i, rfl, q _ H (.val (.int i)) Kp.refl S.hand (Rp.int _) h⟩
theorem wa_intB {k : Bool} (h : K (.val (.int (if k then 1 else 0)))) : WA c Γ rIntX [.val (.bool k)] K := fun B O H vs Q σ S a q => by
  cases a with
  | cons a t => cases t; cases a.bl; exact .inr ⟨k, rfl, q _ H (.val (.int _)) Kp.refl S.hand (Rp.int _) h⟩
def rMax3 : List V → Hp → VK → Prop := fun xs H Q => ∃ i j k, xs = [.int i, .int j, .int k] ∧ Q (.int (max (max i j) k)) H
theorem call_max3 (hc : X.calm = true) : CallR X (.builtin "max") rMax3 := by
  intro pins s σ H xs us Q I r h
  obtain ⟨i, j, k, rfl, q⟩ := h
  cases r with
  | cons r1 r => cases r with
    | cons r2 r => cases r with
      | cons r3 r =>
        cases r
        obtain ⟨t, rfl⟩ := r1
        obtain ⟨t', rfl⟩ := r2
        obtain ⟨t'', rfl⟩ := r3
        refine max_three_ints (I.ok.hd hc) fun h' tk kk => ⟨_, H, I.kept kk, ?_, q⟩
        by_cases h1 : j > i
        · rw [if_pos h1]
          by_cases h2 : k > j
          · rw [if_pos h2, show max (max i j) k = k by omega]; exact ⟨_, rfl⟩
          · rw [if_neg h2, show max (max i j) k = j by omega]; exact ⟨_, rfl⟩
        · rw [if_neg h1]
          by_cases h2 : k > i
          · rw [if_pos h2, show max (max i j) k = k by omega]; exact ⟨_, rfl⟩
          · rw [if_neg h2, show max (max i j) k = i by omega]; exact ⟨_, rfl⟩
theorem wa_max3 {i j k : Int} (h : K (.val (.int (max (max i j) k)))) : WA c Γ rMax3 [.val (.int i), .val (.int j), .val (.int k)] K := fun B O H vs Q σ S a q => by
  cases a with
  | cons a t => cases t with
    | cons b t => cases t with
      | cons d t =>
        cases t; cases a.int; cases b.int; cases d.int
        exact ⟨i, j, k, rfl, q _ H (.val (.int _)) Kp.refl S.hand (Rp.int _) h⟩
theorem wa_sum {ds : List D} {ns : List Int} (e : r.its = some ds) (en : ds = ns.map PyData.int) (h : K (.val (.int ns.sum))) : WA c Γ (rSum X.K) [r] K := fun B O H vs Q σ S a q => by
  cases a with
  | cons a t =>
    cases t
    obtain ⟨p, xs, rfl, hp, hx⟩ := a.list e
    subst en
    have ex := hx.ints
    subst ex
    exact ⟨p, ns, rfl, SqL.of hp, q _ H (.val (.int _)) Kp.refl S.hand (Rp.int _) h⟩
/-! repr of data -/
def rRepr (K : PySem.W.Frag) : List V → Hp → VK → Prop := fun xs H Q => ∃ x d, xs = [x] ∧ Dp K H x d ∧ d.hasDict = false ∧ d.depth ≤ 64 ∧ d.showable = true ∧ d.shown.length ≤ sizeLine ∧ Q (.str d.shown) H
theorem call_reprD (bd : Bd X c) : CallR X (.builtin "repr") (rRepr X.K) := by
  intro pins s σ H xs us Q I r h
  obtain ⟨x, d, rfl, hd, hnd, hdp, hs, hz, q⟩ := h
  cases r with
  | cons r1 r =>
    cases r
    have un := bd.un
    have go : ∀ (a : Addr), x = .ref a → ∀ u, RelV x u → wpAny (model X.prog X.w) X.A (call (.builtin "repr") [u]) (EP X pins σ Q) X.xe s := fun a e u ru => by
      obtain ⟨as, rd⟩ := Dp.reads I d x u hd ru
      subst e
      cases ru
      exact repr_of_reads' rd hs (PyData.noDict_hsm hnd) bd.gd (by omega) (fun _ _ e => e) (fun h' u tk hk => ⟨.str d.shown, H, I.kept hk, ⟨u, rfl⟩, q⟩) hz
    cases hd with
    | non => cases r1; exact PySem.P.repr_of_none ⟨.str _, H, I.tok _, ⟨_, rfl⟩, q⟩
    | bl b => cases r1; exact PySem.P.repr_of_bool ⟨.str _, H, I.tok _, ⟨_, rfl⟩, by cases b <;> exact q⟩
    | int i => obtain ⟨t, rfl⟩ := r1; exact PySem.P.repr_of_int (by simpa [PyData.showable] using hs) ⟨.str _, H, I.tok _, ⟨_, rfl⟩, q⟩
    | str y => obtain ⟨t, rfl⟩ := r1; exact PySem.P.repr_of_str ⟨.str _, H, I.tok _, ⟨_, rfl⟩, q⟩ hz
    | lst n a => exact go _ rfl _ r1
    | tup n a => exact go _ rfl _ r1
theorem wa_repr {d : D} (bd : Bd X c) (e : r.rd = some d) (sh : SeqAt.shaped d = true) (hs : d.showable = true) (hz : d.shown.length ≤ sizeLine) (h : K (.val (.str d.shown))) : WA c Γ (rRepr X.K) [r] K := fun B O H vs Q σ S a q => by
  cases a with
  | cons a t =>
    cases t
    have s2 := sh
    unfold SeqAt.shaped at s2
    rw [Bool.and_eq_true] at s2
    exact ⟨_, d, rfl, by rw [bd.kx]; exact a.dp e sh, PyData.hasDict_of_canLay d s2.1, of_decide_eq_true s2.2, hs, hz, q _ H (.val (.str _)) Kp.refl S.hand (Rp.str _) h⟩
end
/-! ### one's own containers change -/
section
variable {c : Cs} {B : Base} {O : Addr → Prop} {Γ : List Sl} {σ : St} {H : Hp} {a : Addr} {i : Nat} {t : Ct}
theorem mvAt {o : HO} (w : O a) : Mv O O H (upd H a o) := ⟨fun _ z _ => z, fun b u n e => by rw [upd_ne (fun z : b = a => n (by rw [z]; exact w))]; exact e⟩
theorem Stt.change (S : Stt c B O Γ σ H) (hi : Γ[i]? = some (.own t)) (ha : σ[i]? = some (some (.ref a))) {o : HO} {t' : Ct} (hc : CtAt c.kx O (upd H a o) a t') : Stt c B O (Γ.set i (.own t')) σ (upd H a o) := by
  obtain ⟨a', e, w, q⟩ := S.sl i _ hi
  rw [ha] at e
  cases e
  have hil : i < Γ.length := (List.getElem?_eq_some_iff.mp hi).1
  have nM : ¬ c.M0 a := w.noM S
  have mv : Mv O O H (upd H a o) := mvAt w.1
  have other : ∀ j s, j ≠ i → Γ[j]? = some s → SlOk c B O (upd H a o) σ[j]? s := fun j s hj e => by
    have q2 := S.sl j s e
    cases s with
    | un => trivial
    | val d => obtain ⟨v, e, r⟩ := q2; exact ⟨v, e, r.mv mv⟩
    | own u =>
      obtain ⟨b, e2, w2, q3⟩ := q2
      have nb : b ≠ a := fun z => hj (S.dist j i u t a e hi (z ▸ e2) ha)
      exact ⟨b, e2, w2, q3.mv mv (upd_ne nb)⟩
    | bor u =>
      obtain ⟨b, e2, w2, q3⟩ := q2
      have nb : b ≠ a := fun z => by subst z; exact w.2.1 (w2.2 w.1)
      exact ⟨b, e2, w2, q3.mv mv (upd_ne nb)⟩
    | hnd => exact q2
    | xc ds =>
      obtain ⟨x, dd, fs, e1, e2, e3, r⟩ := q2
      have nd : dd ≠ a := fun z => by
        subst z
        cases t with
        | l ds => obtain ⟨xs, h1, _⟩ := q; rw [e3] at h1; cases h1
        | d kvs => obtain ⟨xs, h1, _⟩ := q; rw [e3] at h1; cases h1
      exact ⟨x, dd, fs, e1, e2, by rw [upd_ne nd]; exact e3, r.mv mv⟩
    | scr ns =>
      obtain ⟨x, ex, z⟩ := q2
      exact ⟨x, ex, z.mv mv⟩
  refine ⟨by rw [List.length_set]; exact S.len, S.hand.same fun b m => upd_ne fun z => nM (z ▸ m), S.m0, S.mx0, S.sub, S.ow, fun b z => ?_, fun b z => ?_, fun b u n e => ?_, fun j s e => ?_, fun j l u v b e1 e2 f1 f2 => ?_⟩
  · by_cases h : b = a
    · rw [h, upd_same]; simp
    · rw [upd_ne h]; exact S.al b z
  · by_cases h : b = a
    · rw [h, upd_same]; simp
    · rw [upd_ne h]; exact S.mxa b z
  · have nb : b ≠ a := fun z => by
      subst z
      rcases w.2.2 with y | y
      · rw [y] at e; cases e
      · exact n y
    rw [upd_ne nb]
    exact S.keep b u n e
  · by_cases h : j = i
    · subst h
      rw [List.getElem?_set_self hil] at e
      cases e
      exact ⟨a, ha, w, hc⟩
    · rw [List.getElem?_set_ne (fun z => h z.symm)] at e
      exact other j s h e
  · have back : ∀ (j : Nat) (u : Ct), (Γ.set i (.own t'))[j]? = some (.own u) → ∃ u', Γ[j]? = some (.own u') := fun j u e => by
      by_cases h : j = i
      · subst h; exact ⟨t, hi⟩
      · rw [List.getElem?_set_ne (fun z => h z.symm)] at e; exact ⟨u, e⟩
    obtain ⟨u', e1'⟩ := back j u e1
    obtain ⟨v', e2'⟩ := back l v e2
    exact S.dist j l u' v' b e1' e2' f1 f2
/-- from now on it stands still -/
theorem Stt.freeze {ds : List D} (S : Stt c B O Γ σ H) (hi : Γ[i]? = some (.own (.l ds))) : ∃ O', Stt c B O' (Γ.set i (.val (.list ds))) σ H := by
  obtain ⟨a, e, w, xs, h1, h2⟩ := S.sl i _ hi
  have hil : i < Γ.length := (List.getElem?_eq_some_iff.mp hi).1
  have mv : Mv O (fun z => O z ∧ z ≠ a) H H := ⟨fun _ z _ => z.1, fun _ _ _ e => e⟩
  refine ⟨fun z => O z ∧ z ≠ a, by rw [List.length_set]; exact S.len, S.hand, S.m0, S.mx0, fun z h => ⟨S.sub z h, fun y => w.2.1 (y ▸ h)⟩, fun z h => S.ow z h.1, fun z h => S.al z h.1, S.mxa, S.keep, fun j s es => ?_, fun j l u v b e1 e2 f1 f2 => ?_⟩
  · by_cases h : i = j
    · subst h
      rw [List.getElem?_set_self hil] at es
      cases es
      exact ⟨_, e, .lst ⟨h1, fun z => z.2 rfl⟩ (h2.mv mv)⟩
    · rw [List.getElem?_set_ne h] at es
      have q2 := S.sl j s es
      cases s with
      | un => trivial
      | val d => obtain ⟨v, e, r⟩ := q2; exact ⟨v, e, r.mv mv⟩
      | own u =>
        obtain ⟨b, e2, w2, q3⟩ := q2
        have nb : b ≠ a := fun z => h (S.dist i j _ u a hi es e (z ▸ e2))
        exact ⟨b, e2, ⟨⟨w2.1, nb⟩, w2.2⟩, q3.mv mv rfl⟩
      | bor u => obtain ⟨b, e2, w2, q3⟩ := q2; exact ⟨b, e2, ⟨w2.1, fun z => w2.2 z.1⟩, q3.mv mv rfl⟩
      | hnd => exact q2
      | xc ds => obtain ⟨x, dd, fs, e1, e2, e3, r⟩ := q2; exact ⟨x, dd, fs, e1, e2, e3, r.mv mv⟩
      | scr ns => obtain ⟨x, ex, z⟩ := q2; exact ⟨x, ex, z.mv mv⟩
  · have nj : i ≠ j := fun z => by
      subst z
      rw [List.getElem?_set_self hil] at e1; cases e1
    have nl : i ≠ l := fun z => by
      subst z
      rw [List.getElem?_set_self hil] at e2; cases e2
    rw [List.getElem?_set_ne nj] at e1
    rw [List.getElem?_set_ne nl] at e2
    exact S.dist j l u v b e1 e2 f1 f2
end
section
variable {X : Cx} {c : Cs} {e e2 : Expr} {sts : List Stmt} {Γ : List Sl} {E : Pd} {pos p apos cpos : Pos} {x : Str} {ds : List D}
theorem dss_freeze (i : Nat) (hi : Γ[i]? = some (.own (.l ds))) (h : DSs X c sts (Γ.set i (.val (.list ds))) E) : DSs X c sts Γ E := PSs.weak h fun Z σ H ⟨B, O, S, xc, q⟩ => by
  obtain ⟨O', S'⟩ := S.freeze hi
  exact ⟨B, O', S', xc, q⟩
/-- x.append(e), x one's own list -/
theorem ds_append (i : Nat) (bd : Bd X c) (hN : X.N[i]? = some x) (hv : Vis X.env.scope x) (hi : Γ[i]? = some (.own (.l ds))) (h : DE X c e Γ fun r => ∃ d, r.dat = some d ∧ ds.length < sizeLine ∧ E.nx (Γ.set i (.own (.l (ds ++ [d])))))
    (hsw : swapsWith (.Call (.Attribute (.Name x p) "append" apos) [e] [] cpos) none pos.line X.env = pure false := by rfl) (hd : (x == ("__debug__" : Str)) = false := by decide) (hcd : (x == ("__classdict__" : Str)) = false := by decide)
    (hbase : attributeBase (.Name x p) "append" X.env (eval (.Name x p) X.env) = eval (.Name x p) X.env := by rfl)
    (hfew : ((backTo cpos (starEach (e :: []) X.env)).all (fun x => !x.1) && (backToKw cpos (keywordEach [] X.env)).all (fun x => x.1.isSome)
      && decide ((e :: ([] : List Expr)).length + ([] : List Keyword).length + (if ([] : List Keyword).isEmpty then 0 else 1) < 30)) = true := by rfl)
    (hline : (apos.endLine == cpos.line) = true := by rfl) (hs : starEach (e :: []) X.env = (false, eval e X.env) :: starEach [] X.env := by rfl) (hplain : (backTo cpos (starEach [] X.env)).any (·.1) = false := by rfl) :
    DS X c (.Expr (.Call (.Attribute (.Name x p) "append" apos) [e] [] cpos) pos) Γ E := by
  refine PS.weak (ps_expr (pe_bm PySem.F.plainAttrs_list PySem.F.slot_list_append PySem.F.type_list_append mt_append (pe_var hN hv hd hcd) (pa_cons (pe_U (c := c) (Γ := Γ)) pa_nil hs) hbase hfew hline hs hplain) hsw) fun Z σ H ⟨B, O, S, xc, q⟩ => ?_
  obtain ⟨a, ea, w, xs, h1, h2⟩ := S.sl i _ hi
  refine ⟨_, ea, .inl ⟨rfl, xs, SqL.of h1⟩, ?_⟩
  refine ⟨_, h, B, O, S, xc, fun v H1 r k1 a1 o1 ⟨d, ed, hz, z⟩ => ?_⟩
  have S1 := S.step k1 a1
  have rv := (o1.at S).rp ed
  have h1' := k1 a _ (w.noM S) h1
  have mv1 := S.mv k1
  have mv2 : Mv O O H1 (upd H1 a (.lst (xs ++ [v]))) := mvAt w.1
  refine ⟨a, xs, v, rfl, rfl, h1', by rw [h2.length]; exact hz, ?_⟩
  exact q.nx O _ σ _ (S1.change (t' := .l (ds ++ [d])) hi ea ⟨_, upd_same, ((h2.mv mv1).mv mv2).append (.cons (rv.mv mv2) .nil)⟩) z
/-- x[e2] = e, x one's own list -/
theorem ds_setItem (i : Nat) {tp : Pos} (bd : Bd X c) (hN : X.N[i]? = some x) (hv : Vis X.env.scope x) (hi : Γ[i]? = some (.own (.l ds))) (h : DE X c e Γ fun r => ∃ d, r.dat = some d ∧ DE X c e2 Γ fun r2 => ∃ k j, r2 = .val (.int k) ∧ ixN ds.length k = some j ∧ E.nx (Γ.set i (.own (.l (ds.set j d)))))
    (hd : (x == ("__debug__" : Str)) = false := by decide) (hcd : (x == ("__classdict__" : Str)) = false := by decide) (pg : ∀ {to ti : TE}, PE X (.Name x p) to → PE X e2 ti → PG X (.Subscript (.Name x p) e2 tp) (gSub to ti rSetL) := by exact fun h1 h2 => pg_sub h1 h2 set_list)
    (hs : swapsWithSole [.Subscript (.Name x p) e2 tp] e pos.line X.env = pure false := by rfl) (hw : swappedStores [.Subscript (.Name x p) e2 tp] e X.env = pure none := by rfl)
    (h1 : (assignEach [.Subscript (.Name x p) e2 tp] X.env).map (·.2) = [assign (.Subscript (.Name x p) e2 tp) X.env] := by rfl) :
    DS X c (.Assign [.Subscript (.Name x p) e2 tp] e pos) Γ E := by
  refine PS.weak (ps_asg (pe_U (c := c) (Γ := Γ)) (pg (pe_var hN hv hd hcd) (pe_U (c := c) (Γ := Γ))) hs hw h1) fun Z σ H ⟨B, O, S, xc, q⟩ => ?_
  refine ⟨_, h, B, O, S, xc, fun v H1 r k1 a1 o1 ⟨d, ed, h2⟩ => ?_⟩
  have S1 := S.step k1 a1
  have rv := (o1.at S).rp ed
  obtain ⟨a, ea, w, xs, g1, g2⟩ := S1.sl i _ hi
  refine ⟨_, ea, _, h2, B, O, S1, xc, fun v2 H2 r2 k2 a2 o2 ⟨k, j, e, ej, z⟩ => ?_⟩
  subst e
  have S2 := S1.step k2 a2
  cases (o2.at S1).int
  have g1' := k2 a _ (w.noM S1) g1
  have mv2 : Mv O O H2 (upd H2 a (.lst (xs.set j v))) := mvAt w.1
  refine ⟨a, xs, k, j, rfl, rfl, g1', by rw [g2.length]; exact ej, ?_⟩
  exact q.nx O _ σ _ (S2.change (t' := .l (ds.set j d)) hi ea ⟨_, upd_same, ((g2.mv (S1.mv k2)).mv mv2).set j ((rv.mv (S1.mv k2)).mv mv2)⟩) z
end
end Dl

namespace Dl
open PySem PySem.Spec L2

/-! ### isinstance, by the class -/
@[reducible] def Rs.isInt : Rs → Bool
  | .val (.int _) => true
  | .val (.bool _) => true
  | _ => false
@[reducible] def Rs.isBool : Rs → Bool
  | .val (.bool _) => true
  | _ => false
@[reducible] def Rs.isStr : Rs → Bool
  | .val (.str _) => true
  | _ => false
@[reducible] def Rs.isTup : Rs → Bool
  | .val (.tuple _) => true
  | _ => false
@[reducible] def Rs.isList : Rs → Bool
  | .val (.list _) => true
  | .new (.l _) => true
  | .own (.l _) => true
  | .bor (.l _) => true
  | _ => false
@[reducible] def Rs.plain : Rs → Bool
  | .val (.dict _) => false
  | .val _ => true
  | .new (.l _) => true
  | .own (.l _) => true
  | .bor (.l _) => true
  | _ => false
theorem kb1 : kitB "NoneType" "int" = some false ∧ kitB "bool" "int" = some true ∧ kitB "int" "int" = some true ∧ kitB "str" "int" = some false ∧ kitB "list" "int" = some false ∧ kitB "tuple" "int" = some false := by decide +kernel
theorem kb2 : kitB "NoneType" "bool" = some false ∧ kitB "bool" "bool" = some true ∧ kitB "int" "bool" = some false ∧ kitB "str" "bool" = some false ∧ kitB "list" "bool" = some false ∧ kitB "tuple" "bool" = some false := by decide +kernel
theorem kb3 : kitB "NoneType" "str" = some false ∧ kitB "bool" "str" = some false ∧ kitB "int" "str" = some false ∧ kitB "str" "str" = some true ∧ kitB "list" "str" = some false ∧ kitB "tuple" "str" = some false := by decide +kernel
theorem kb4 : kitB "NoneType" "tuple" = some false ∧ kitB "bool" "tuple" = some false ∧ kitB "int" "tuple" = some false ∧ kitB "str" "tuple" = some false ∧ kitB "list" "tuple" = some false ∧ kitB "tuple" "tuple" = some true := by decide +kernel
theorem kb5 : kitB "NoneType" "list" = some false ∧ kitB "bool" "list" = some false ∧ kitB "int" "list" = some false ∧ kitB "str" "list" = some false ∧ kitB "list" "list" = some true ∧ kitB "tuple" "list" = some false := by decide +kernel
section
variable {X : Cx} {c : Cs} {Γ : List Sl} {K : Rs → Prop} {r : Rs} {e : Expr} {p p2 pos : Pos}
theorem isi_int (hp : r.plain = true) : ∃ t b, r.ty = some t ∧ kitB t "int" = some b ∧ b = r.isInt := by
  obtain ⟨h1, h2, h3, h4, h5, h6⟩ := kb1
  cases r with
  | val d => cases d <;> first | exact ⟨_, _, rfl, h1, rfl⟩ | exact ⟨_, _, rfl, h2, rfl⟩ | exact ⟨_, _, rfl, h3, rfl⟩ | exact ⟨_, _, rfl, h4, rfl⟩ | exact ⟨_, _, rfl, h5, rfl⟩ | exact ⟨_, _, rfl, h6, rfl⟩ | cases hp
  | new t => cases t <;> first | exact ⟨_, _, rfl, h5, rfl⟩ | cases hp
  | own t => cases t <;> first | exact ⟨_, _, rfl, h5, rfl⟩ | cases hp
  | bor t => cases t <;> first | exact ⟨_, _, rfl, h5, rfl⟩ | cases hp
  | hnd => cases hp
theorem isi_bool (hp : r.plain = true) : ∃ t b, r.ty = some t ∧ kitB t "bool" = some b ∧ b = r.isBool := by
  obtain ⟨h1, h2, h3, h4, h5, h6⟩ := kb2
  cases r with
  | val d => cases d <;> first | exact ⟨_, _, rfl, h1, rfl⟩ | exact ⟨_, _, rfl, h2, rfl⟩ | exact ⟨_, _, rfl, h3, rfl⟩ | exact ⟨_, _, rfl, h4, rfl⟩ | exact ⟨_, _, rfl, h5, rfl⟩ | exact ⟨_, _, rfl, h6, rfl⟩ | cases hp
  | new t => cases t <;> first | exact ⟨_, _, rfl, h5, rfl⟩ | cases hp
  | own t => cases t <;> first | exact ⟨_, _, rfl, h5, rfl⟩ | cases hp
  | bor t => cases t <;> first | exact ⟨_, _, rfl, h5, rfl⟩ | cases hp
  | hnd => cases hp
theorem isi_str (hp : r.plain = true) : ∃ t b, r.ty = some t ∧ kitB t "str" = some b ∧ b = r.isStr := by
  obtain ⟨h1, h2, h3, h4, h5, h6⟩ := kb3
  cases r with
  | val d => cases d <;> first | exact ⟨_, _, rfl, h1, rfl⟩ | exact ⟨_, _, rfl, h2, rfl⟩ | exact ⟨_, _, rfl, h3, rfl⟩ | exact ⟨_, _, rfl, h4, rfl⟩ | exact ⟨_, _, rfl, h5, rfl⟩ | exact ⟨_, _, rfl, h6, rfl⟩ | cases hp
  | new t => cases t <;> first | exact ⟨_, _, rfl, h5, rfl⟩ | cases hp
  | own t => cases t <;> first | exact ⟨_, _, rfl, h5, rfl⟩ | cases hp
  | bor t => cases t <;> first | exact ⟨_, _, rfl, h5, rfl⟩ | cases hp
  | hnd => cases hp
theorem isi_tup (hp : r.plain = true) : ∃ t b, r.ty = some t ∧ kitB t "tuple" = some b ∧ b = r.isTup := by
  obtain ⟨h1, h2, h3, h4, h5, h6⟩ := kb4
  cases r with
  | val d => cases d <;> first | exact ⟨_, _, rfl, h1, rfl⟩ | exact ⟨_, _, rfl, h2, rfl⟩ | exact ⟨_, _, rfl, h3, rfl⟩ | exact ⟨_, _, rfl, h4, rfl⟩ | exact ⟨_, _, rfl, h5, rfl⟩ | exact ⟨_, _, rfl, h6, rfl⟩ | cases hp
  | new t => cases t <;> first | exact ⟨_, _, rfl, h5, rfl⟩ | cases hp
  | own t => cases t <;> first | exact ⟨_, _, rfl, h5, rfl⟩ | cases hp
  | bor t => cases t <;> first | exact ⟨_, _, rfl, h5, rfl⟩ | cases hp
  | hnd => cases hp
theorem isi_list (hp : r.plain = true) : ∃ t b, r.ty = some t ∧ kitB t "list" = some b ∧ b = r.isList := by
  obtain ⟨h1, h2, h3, h4, h5, h6⟩ := kb5
  cases r with
  | val d => cases d <;> first | exact ⟨_, _, rfl, h1, rfl⟩ | exact ⟨_, _, rfl, h2, rfl⟩ | exact ⟨_, _, rfl, h3, rfl⟩ | exact ⟨_, _, rfl, h4, rfl⟩ | exact ⟨_, _, rfl, h5, rfl⟩ | exact ⟨_, _, rfl, h6, rfl⟩ | cases hp
  | new t => cases t <;> first | exact ⟨_, _, rfl, h5, rfl⟩ | cases hp
  | own t => cases t <;> first | exact ⟨_, _, rfl, h5, rfl⟩ | cases hp
  | bor t => cases t <;> first | exact ⟨_, _, rfl, h5, rfl⟩ | cases hp
  | hnd => cases hp
/-- isinstance(e, T), T one of these five -/
theorem de_isa {T : Str} {tn : String} {g : Rs → Bool} (bd : Bd X c) (hg' : ∀ r : Rs, r.plain = true → ∃ t b, r.ty = some t ∧ kitB t tn = some b ∧ b = g r) (hv2 : bootBuiltins T = some (.type tn)) (hm : X.mg "isinstance" = none) (hm2 : X.mg T = none)
    (h : DE X c e Γ fun r => r.plain = true ∧ K (.val (.bool (g r))))
    (hg : Gl X "isinstance" := by rfl) (hg2 : Gl X T := by rfl) (hn : T ≠ "__name__" := by decide) (hd : (T == ("__debug__" : Str)) = false := by decide)
    (he : starEach [e, .Name T p2] X.env = (false, eval e X.env) :: starEach [.Name T p2] X.env := by rfl) (hs2 : starEach [.Name T p2] X.env = (false, eval (.Name T p2) X.env) :: starEach [] X.env := by rfl) (hpl : (backTo pos (starEach [.Name T p2] X.env)).any (·.1) = false := by rfl) :
    DE X c (.Call (.Name "isinstance" p) [e, .Name T p2] [] pos) Γ K :=
  de_isi bd hm hm2 hv2 (h.mono fun r ⟨hp, z⟩ => by
    obtain ⟨t, b, e1, e2, e3⟩ := hg' r hp
    subst e3
    exact ⟨t, _, e1, e2, z⟩) hg hg2 hn hd he hs2 hpl
end
/-! ### a callee, told at once -/
structure Cal (P : Program) (w : World) (K : PySem.W.Frag) (mg : Str → Option Value) (base : Heap) (kx : Kx) (k : Nat) (x : Str) (F : Fs) : Prop where
  ex : ∃ f fd ps, FnG P w K mg base k f fd ps (spG kx F) ∧ mg x = some (.ref f) ∧ PySem.W.keepIn K (.ref f) = true ∧ Binds K fd ps []
section
variable {X : Cx} {c : Cs} {k : Nat} {F : Fs} {x : Str} {p pos : Pos} {e : Expr} {es : List Expr} {Γ : List Sl} {K : Rs → Prop}
theorem de_callC (C : Cal X.prog X.w X.K X.mg X.base c.kx k x F) (hr : Room k X.A) (bd : Bd X c) (tk : Takes X c.W) (h : DA X c (e :: es) Γ fun rs => ∃ as, argsOf rs = some as ∧ F as K (fun e => c.ex e Γ)) (hg : Gl X x := by rfl)
    (hdb : (x == ("__debug__" : Str)) = false := by decide) (he : starEach (e :: es) X.env = (false, eval e X.env) :: starEach es X.env := by rfl) (hpl : (backTo pos (starEach es X.env)).any (·.1) = false := by rfl) : DE X c (.Call (.Name x p) (e :: es) [] pos) Γ K := by
  obtain ⟨f, fd, ps, Fn, hm, hk, hb⟩ := C.ex
  exact de_call Fn hr bd tk hm hk hb h hg hdb he hpl
theorem de_callC0 (C : Cal X.prog X.w X.K X.mg X.base c.kx k x F) (hr : Room k X.A) (bd : Bd X c) (tk : Takes X c.W) (h : F [] K (fun e => c.ex e Γ)) (hg : Gl X x := by rfl)
    (hdb : (x == ("__debug__" : Str)) = false := by decide) : DE X c (.Call (.Name x p) [] [] pos) Γ K := by
  obtain ⟨f, fd, ps, Fn, hm, hk, hb⟩ := C.ex
  exact de_call0 Fn hr bd tk hm hk hb h hg hdb
end
/-! ### comprehensions, the usual ones -/
theorem Bd.blk {X : Cx} {c : Cs} (bd : Bd X c) (scope : Scope) (s : Shared) (H : Hp) (C : Addr) (cl : List (Str × Addr)) (fp : List Addr) : Bd (famOf X scope s H C cl fp) c.mute := ⟨bd.kx, bd.nd, bd.un, bd.gd, PassesOwn.never⟩
section
variable {X : Cx} {c : Cs} {e elt tg iter : Expr} {ifs : List Expr} {Γ : List Sl} {K : Rs → Prop} {pos : Pos} {scope : Scope} {own : List (Str × Nat)} {ix : List Nat} {f : D → List Sl → List Sl → Prop}
/-- what a comprehension without a test tells: each item's element has P -/
def CompAll (X : Cx) (c : Cs) (elt : Expr) (scope : Scope) (own : List (Str × Nat)) (f : D → List Sl → List Sl → Prop) (Γ : List Sl) (ds : List D) (L : List D → Prop) : Prop := ds.length ≤ sizeLine ∧ ∃ P : D → D → Prop,
  (∀ d, d ∈ ds → ∃ Γ2, f d (wipeG Γ (own.map (·.2))) Γ2 ∧ ∀ s H C cl fp, DE (famOf X scope s H C cl fp) c.mute elt Γ2 fun r => ∃ e, r.dat = some e ∧ P d e) ∧ ∀ es, Paired P ds es → L es
theorem comp_all {ds : List D} {L : List D → Prop} (h : CompAll X c elt scope own f Γ ds L) : ds.length ≤ sizeLine ∧ ∃ Pv : Nat → List D → Prop, Pv 0 [] ∧
      (∀ i d acc, ds[i]? = some d → Pv i acc → ∃ Γ2, f d (wipeG Γ (own.map (·.2))) Γ2 ∧ ∃ M : Bool → Prop, (∀ s H C cl fp, DTs (famOf X scope s H C cl fp) c.mute [] Γ2 M) ∧ (M false → Pv (i + 1) acc) ∧
        (M true → ∃ M : Rs → Prop, (∀ s H C cl fp, DE (famOf X scope s H C cl fp) c.mute elt Γ2 M) ∧ ∀ r, M r → ∃ e, r.dat = some e ∧ Pv (i + 1) (acc ++ [e]))) ∧ ∀ acc, Pv ds.length acc → L acc := by
  obtain ⟨hz, P, h1, h2⟩ := h
  refine ⟨hz, fun i acc => Paired P (ds.take i) acc, by dsimp only; rw [List.take_zero]; exact .nil, fun i d acc hd hp => ?_, fun acc hp => h2 acc (by dsimp only at hp; rwa [List.take_length] at hp)⟩
  obtain ⟨Γ2, hf, he⟩ := h1 d (List.mem_of_getElem? hd)
  refine ⟨Γ2, hf, fun b => b = true, fun s H C cl fp => dts_nil rfl, fun z => (Bool.noConfusion z), fun _ => ⟨_, he, fun r ⟨e, er, pe⟩ => ⟨e, er, ?_⟩⟩⟩
  dsimp only
  rw [List.take_add_one, hd]
  dsimp only at hp
  show Paired P (ds.take i ++ [d]) (acc ++ [e])
  clear h1 h2 hz hf he
  generalize ds.take i = xs at hp
  induction hp with
  | nil => exact .cons pe .nil
  | cons a _ ih => exact .cons a ih
theorem de_compA (bd : Bd X c) (hc : X.calm = true) (ok : BlkOk X.N X.env.scope scope own) (hg : DGB (famOf X scope) c.mute tg ix f) (hix : ∀ i ∈ ix, i ∈ own.map (·.2))
    (h : DI X c tg iter Γ fun ds => CompAll X c elt scope own f Γ ds fun es => K (.new (.l es))) (hs : ∀ x, foldedSetIterable iter X.env x = pure x := by intro _; rfl) : DE X c (.ListComp elt [⟨tg, iter, [], 0⟩] scope pos) Γ K :=
  de_comp bd hc ok hg hix (h.mono fun ds z => comp_all z) hs
theorem ds_setCompA {i : Nat} {y : Str} {py spos : Pos} {E : Pd} (bd : Bd X c) (hc : X.calm = true) (hy : X.N[i]? = some y) (hyl : X.env.scope.names.lookup y = some .local)
    (hsw : swapsWith (.ListComp elt [⟨tg, iter, [], 0⟩] scope pos) (some (.Name y py)) spos.line X.env = pure true) (ok : BlkOk X.N X.env.scope scope own) (hg : DGB (famOf X scope) c.mute tg ix f) (hix : ∀ i ∈ ix, i ∈ own.map (·.2))
    (h : DI X c tg iter Γ fun ds => CompAll X c elt scope own f Γ ds fun es => E.nx (Γ.set i (.own (.l es)))) (hs : ∀ x, foldedSetIterable iter X.env x = pure x := by intro _; rfl) : DS X c (.Assign [.Name y py] (.ListComp elt [⟨tg, iter, [], 0⟩] scope pos) spos) Γ E :=
  ds_setComp bd hc hy hyl hsw ok hg hix (h.mono fun ds z => comp_all z) hs
/-- with a test: told by a function t which items are kept -/
def CompSome (X : Cx) (c : Cs) (elt tst : Expr) (scope : Scope) (own : List (Str × Nat)) (f : D → List Sl → List Sl → Prop) (Γ : List Sl) (ds : List D) (L : List D → Prop) : Prop := ds.length ≤ sizeLine ∧ ∃ (t : D → Bool) (P : D → D → Prop),
  (∀ d, d ∈ ds → ∃ Γ2, f d (wipeG Γ (own.map (·.2))) Γ2 ∧ ∀ s H C cl fp, DT (famOf X scope s H C cl fp) c.mute tst Γ2 (fun b => b = t d) ∧ (t d = true → DE (famOf X scope s H C cl fp) c.mute elt Γ2 fun r => ∃ e, r.dat = some e ∧ P d e)) ∧ ∀ es, Paired P (ds.filter t) es → L es
theorem comp_some {tst : Expr} {ds : List D} {L : List D → Prop} (h : CompSome X c elt tst scope own f Γ ds L) : ds.length ≤ sizeLine ∧ ∃ Pv : Nat → List D → Prop, Pv 0 [] ∧
      (∀ i d acc, ds[i]? = some d → Pv i acc → ∃ Γ2, f d (wipeG Γ (own.map (·.2))) Γ2 ∧ ∃ M : Bool → Prop, (∀ s H C cl fp, DTs (famOf X scope s H C cl fp) c.mute [tst] Γ2 M) ∧ (M false → Pv (i + 1) acc) ∧
        (M true → ∃ M : Rs → Prop, (∀ s H C cl fp, DE (famOf X scope s H C cl fp) c.mute elt Γ2 M) ∧ ∀ r, M r → ∃ e, r.dat = some e ∧ Pv (i + 1) (acc ++ [e]))) ∧ ∀ acc, Pv ds.length acc → L acc := by
  obtain ⟨hz, t, P, h1, h2⟩ := h
  refine ⟨hz, fun i acc => Paired P ((ds.take i).filter t) acc, by dsimp only; rw [List.take_zero]; exact .nil, fun i d acc hd hp => ?_, fun acc hp => h2 acc (by dsimp only at hp; rwa [List.take_length] at hp)⟩
  obtain ⟨Γ2, hf, he⟩ := h1 d (List.mem_of_getElem? hd)
  have et : ds.take (i + 1) = ds.take i ++ [d] := by rw [List.take_add_one, hd]; rfl
  refine ⟨Γ2, hf, fun b => b = t d, fun s H C cl fp => dts_one (he s H C cl fp).1, fun z => ?_, fun z => ⟨_, fun s H C cl fp => (he s H C cl fp).2 z.symm, fun r ⟨e, er, pe⟩ => ⟨e, er, ?_⟩⟩⟩
  · dsimp only at hp ⊢
    rw [et, List.filter_append, List.filter_cons, ← z]
    simpa using hp
  · dsimp only at hp ⊢
    rw [et, List.filter_append, List.filter_cons, ← z]
    show Paired P ((ds.take i).filter t ++ [d]) (acc ++ [e])
    clear h1 h2 hz hf he et
    generalize (ds.take i).filter t = xs at hp
    induction hp with
    | nil => exact .cons pe .nil
    | cons a _ ih => exact .cons a ih
theorem de_compS {tst : Expr} (bd : Bd X c) (hc : X.calm = true) (ok : BlkOk X.N X.env.scope scope own) (hg : DGB (famOf X scope) c.mute tg ix f) (hix : ∀ i ∈ ix, i ∈ own.map (·.2))
    (h : DI X c tg iter Γ fun ds => CompSome X c elt tst scope own f Γ ds fun es => K (.new (.l es))) (hs : ∀ x, foldedSetIterable iter X.env x = pure x := by intro _; rfl) : DE X c (.ListComp elt [⟨tg, iter, [tst], 0⟩] scope pos) Γ K :=
  de_comp bd hc ok hg hix (h.mono fun ds z => comp_some z) hs
theorem ds_setCompS {tst : Expr} {i : Nat} {y : Str} {py spos : Pos} {E : Pd} (bd : Bd X c) (hc : X.calm = true) (hy : X.N[i]? = some y) (hyl : X.env.scope.names.lookup y = some .local)
    (hsw : swapsWith (.ListComp elt [⟨tg, iter, [tst], 0⟩] scope pos) (some (.Name y py)) spos.line X.env = pure true) (ok : BlkOk X.N X.env.scope scope own) (hg : DGB (famOf X scope) c.mute tg ix f) (hix : ∀ i ∈ ix, i ∈ own.map (·.2))
    (h : DI X c tg iter Γ fun ds => CompSome X c elt tst scope own f Γ ds fun es => E.nx (Γ.set i (.own (.l es)))) (hs : ∀ x, foldedSetIterable iter X.env x = pure x := by intro _; rfl) : DS X c (.Assign [.Name y py] (.ListComp elt [⟨tg, iter, [tst], 0⟩] scope pos) spos) Γ E :=
  ds_setComp bd hc hy hyl hsw ok hg hix (h.mono fun ds z => comp_some z) hs
theorem paired_map {g : D → D} {P : D → D → Prop} (h : ∀ d e, P d e → e = g d) : ∀ {ds es : List D}, Paired P ds es → es = ds.map g
  | _, _, .nil => rfl
  | _, _, .cons a t => by rw [List.map_cons, ← h _ _ a, ← paired_map h t]
end
end Dl

namespace Dl
open PySem PySem.Spec L2

/-- the module binds none of these names -/
structure Bt (mg : Str → Option Value) : Prop where
  isi : mg "isinstance" = none
  bool : mg "bool" = none
  int : mg "int" = none
  str : mg "str" = none
  tuple : mg "tuple" = none
  list : mg "list" = none
  len : mg "len" = none
  range : mg "range" = none
  zip : mg "zip" = none
  max : mg "max" = none
  abs : mg "abs" = none
  sum : mg "sum" = none
  repr : mg "repr" = none
  rev : mg "reversed" = none
/-! which rule a goal wants: told by its head alone -/
section
variable {X : Cx} {c : Cs} {e e2 e3 : Expr} {es : List Expr} {kws : List Keyword} {Γ : List Sl} {K : Rs → Prop} {L : Bool → Prop} {M : List Rs → Prop} {pos p p2 : Pos} {st : Stmt} {sts : List Stmt} {E : Pd} {x T : Str} {k : Nat}
theorem gE (h : DE X c e Γ K) : DE X c e Γ K := h
theorem gT (h : DT X c e Γ L) : DT X c e Γ L := h
theorem gW (h : DW X c e Γ L) : DW X c e Γ L := h
theorem gA (h : DA X c es Γ M) : DA X c es Γ M := h
theorem gS (h : DS X c st Γ E) : DS X c st Γ E := h
theorem gSs (h : DSs X c sts Γ E) : DSs X c sts Γ E := h
theorem gW2 {r2 : R2} {ra rb : Rs} (h : W2 c Γ r2 ra rb K) : W2 c Γ r2 ra rb K := h
theorem gW1 {r1 : V → Hp → VK → Prop} {ra : Rs} (h : W1 c Γ r1 ra K) : W1 c Γ r1 ra K := h
theorem gWA {r1 : List V → Hp → VK → Prop} {rs : List Rs} (h : WA c Γ r1 rs K) : WA c Γ r1 rs K := h
theorem gName (h : DE X c (.Name x pos) Γ K) : DE X c (.Name x pos) Γ K := h
theorem gCon {k : Const} {j} (h : DE X c (.Constant k j pos) Γ K) : DE X c (.Constant k j pos) Γ K := h
theorem gCall (h : DE X c (.Call e es kws pos) Γ K) : DE X c (.Call e es kws pos) Γ K := h
theorem gCmp {o : List CmpOp} (h : DE X c (.Compare e o es pos) Γ K) : DE X c (.Compare e o es pos) Γ K := h
theorem gBin {o : Operator} (h : DE X c (.BinOp e o e2 pos) Γ K) : DE X c (.BinOp e o e2 pos) Γ K := h
theorem gBoo {o : BoolOp} (h : DE X c (.BoolOp o es pos) Γ K) : DE X c (.BoolOp o es pos) Γ K := h
theorem gTCmp {o : List CmpOp} (h : DT X c (.Compare e o es pos) Γ L) : DT X c (.Compare e o es pos) Γ L := h
theorem gTBoo {o : BoolOp} (h : DT X c (.BoolOp o es pos) Γ L) : DT X c (.BoolOp o es pos) Γ L := h
theorem gIsi (h : DE X c (.Call (.Name "isinstance" p) es kws pos) Γ K) : DE X c (.Call (.Name "isinstance" p) es kws pos) Γ K := h
theorem gEq {ra rb : Rs} {k : PySem.W.Frag} (h : W2 c Γ (rEqX k) ra rb K) : W2 c Γ (rEqX k) ra rb K := h
theorem gNe {ra rb : Rs} {k : PySem.W.Frag} (h : W2 c Γ (rNeX k) ra rb K) : W2 c Γ (rNeX k) ra rb K := h
theorem gAdd {ra rb : Rs} {k : PySem.W.Frag} (h : W2 c Γ (rAddX k) ra rb K) : W2 c Γ (rAddX k) ra rb K := h
theorem gIx {ra rb : Rs} {k : PySem.W.Frag} (h : W2 c Γ (rIx k) ra rb K) : W2 c Γ (rIx k) ra rb K := h
theorem gIs {ra rb : Rs} (h : W2 c Γ rIsX ra rb K) : W2 c Γ rIsX ra rb K := h
theorem gIsn {ra rb : Rs} (h : W2 c Γ rNotX ra rb K) : W2 c Γ rNotX ra rb K := h
theorem isa_int (bd : Bd X c) (B : Bt X.mg) (h : DE X c e Γ fun r => r.plain = true ∧ K (.val (.bool r.isInt)))
    (hg : Gl X "isinstance" := by rfl) (hg2 : Gl X "int" := by rfl)
    (he : starEach [e, .Name "int" p2] X.env = (false, eval e X.env) :: starEach [.Name "int" p2] X.env := by rfl) (hs2 : starEach [.Name "int" p2] X.env = (false, eval (.Name "int" p2) X.env) :: starEach [] X.env := by rfl) (hpl : (backTo pos (starEach [.Name "int" p2] X.env)).any (·.1) = false := by rfl) :
    DE X c (.Call (.Name "isinstance" p) [e, .Name "int" p2] [] pos) Γ K := de_isa bd (fun _ h => isi_int h) PyProof.Rows.boot_int B.isi B.int h hg hg2 (by decide) (by decide) he hs2 hpl
theorem isa_bool (bd : Bd X c) (B : Bt X.mg) (h : DE X c e Γ fun r => r.plain = true ∧ K (.val (.bool r.isBool)))
    (hg : Gl X "isinstance" := by rfl) (hg2 : Gl X "bool" := by rfl)
    (he : starEach [e, .Name "bool" p2] X.env = (false, eval e X.env) :: starEach [.Name "bool" p2] X.env := by rfl) (hs2 : starEach [.Name "bool" p2] X.env = (false, eval (.Name "bool" p2) X.env) :: starEach [] X.env := by rfl) (hpl : (backTo pos (starEach [.Name "bool" p2] X.env)).any (·.1) = false := by rfl) :
    DE X c (.Call (.Name "isinstance" p) [e, .Name "bool" p2] [] pos) Γ K := de_isa bd (fun _ h => isi_bool h) PyProof.Rows.boot_bool B.isi B.bool h hg hg2 (by decide) (by decide) he hs2 hpl
theorem isa_str (bd : Bd X c) (B : Bt X.mg) (h : DE X c e Γ fun r => r.plain = true ∧ K (.val (.bool r.isStr)))
    (hg : Gl X "isinstance" := by rfl) (hg2 : Gl X "str" := by rfl)
    (he : starEach [e, .Name "str" p2] X.env = (false, eval e X.env) :: starEach [.Name "str" p2] X.env := by rfl) (hs2 : starEach [.Name "str" p2] X.env = (false, eval (.Name "str" p2) X.env) :: starEach [] X.env := by rfl) (hpl : (backTo pos (starEach [.Name "str" p2] X.env)).any (·.1) = false := by rfl) :
    DE X c (.Call (.Name "isinstance" p) [e, .Name "str" p2] [] pos) Γ K := de_isa bd (fun _ h => isi_str h) PyProof.Rows.boot_str B.isi B.str h hg hg2 (by decide) (by decide) he hs2 hpl
theorem isa_tup (bd : Bd X c) (B : Bt X.mg) (h : DE X c e Γ fun r => r.plain = true ∧ K (.val (.bool r.isTup)))
    (hg : Gl X "isinstance" := by rfl) (hg2 : Gl X "tuple" := by rfl)
    (he : starEach [e, .Name "tuple" p2] X.env = (false, eval e X.env) :: starEach [.Name "tuple" p2] X.env := by rfl) (hs2 : starEach [.Name "tuple" p2] X.env = (false, eval (.Name "tuple" p2) X.env) :: starEach [] X.env := by rfl) (hpl : (backTo pos (starEach [.Name "tuple" p2] X.env)).any (·.1) = false := by rfl) :
    DE X c (.Call (.Name "isinstance" p) [e, .Name "tuple" p2] [] pos) Γ K := de_isa bd (fun _ h => isi_tup h) PyProof.Rows.boot_tuple B.isi B.tuple h hg hg2 (by decide) (by decide) he hs2 hpl
theorem isa_list (bd : Bd X c) (B : Bt X.mg) (h : DE X c e Γ fun r => r.plain = true ∧ K (.val (.bool r.isList)))
    (hg : Gl X "isinstance" := by rfl) (hg2 : Gl X "list" := by rfl)
    (he : starEach [e, .Name "list" p2] X.env = (false, eval e X.env) :: starEach [.Name "list" p2] X.env := by rfl) (hs2 : starEach [.Name "list" p2] X.env = (false, eval (.Name "list" p2) X.env) :: starEach [] X.env := by rfl) (hpl : (backTo pos (starEach [.Name "list" p2] X.env)).any (·.1) = false := by rfl) :
    DE X c (.Call (.Name "isinstance" p) [e, .Name "list" p2] [] pos) Γ K := de_isa bd (fun _ h => isi_list h) PyProof.Rows.boot_list B.isi B.list h hg hg2 (by decide) (by decide) he hs2 hpl
theorem b_len (bd : Bd X c) (B : Bt X.mg) (h : DE X c e Γ fun r => ∃ n : Nat, r.ln = some n ∧ K (.val (.int n))) (hg : Gl X "len" := by rfl) (he : starEach [e] X.env = (false, eval e X.env) :: starEach [] X.env := by rfl) (hpl : (backTo pos (starEach [] X.env)).any (·.1) = false := by rfl) :
    DE X c (.Call (.Name "len" p) [e] [] pos) Γ K := de_callB call_lenX B.len (da_cons (h.mono fun r ⟨n, e, z⟩ => da_nil (wa_len bd e z)) he) boot_len hg (by decide) (by decide) he hpl
theorem b_tuple (bd : Bd X c) (B : Bt X.mg) (h : DE X c e Γ fun r => ∃ ds, r.sq = some ds ∧ K (.val (.tuple ds))) (hg : Gl X "tuple" := by rfl) (na : starEach [e] X.env = (false, eval e X.env) :: starEach [] X.env := by rfl) :
    DE X c (.Call (.Name "tuple" p) [e] [] pos) Γ K := de_tupleOf (ds := []) bd B.tuple h hg na
theorem b_list (bd : Bd X c) (B : Bt X.mg) (h : DE X c e Γ fun r => ∃ ds, r.sq = some ds ∧ K (.new (.l ds))) (hg : Gl X "list" := by rfl) (he : starEach [e] X.env = (false, eval e X.env) :: starEach [] X.env := by rfl) (hpl : (backTo pos (starEach [] X.env)).any (·.1) = false := by rfl) :
    DE X c (.Call (.Name "list" p) [e] [] pos) Γ K := de_callTy call_listX B.list (da_cons (h.mono fun r ⟨n, e, z⟩ => da_nil (wa_list bd e z)) he) PyProof.Rows.boot_list hg (by decide) (by decide) he hpl
theorem b_int (B : Bt X.mg) (h : DE X c e Γ fun r => ∃ n : Int, (r = .val (.int n) ∨ ∃ b : Bool, r = .val (.bool b) ∧ n = if b then 1 else 0) ∧ K (.val (.int n))) (hg : Gl X "int" := by rfl) (he : starEach [e] X.env = (false, eval e X.env) :: starEach [] X.env := by rfl) (hpl : (backTo pos (starEach [] X.env)).any (·.1) = false := by rfl) :
    DE X c (.Call (.Name "int" p) [e] [] pos) Γ K := de_callTy call_intX B.int (da_cons (h.mono fun r ⟨n, e, z⟩ => da_nil (by
      rcases e with e | ⟨b, e, eb⟩
      · subst e; exact wa_int z
      · subst e eb; exact wa_intB z)) he) PyProof.Rows.boot_int hg (by decide) (by decide) he hpl
theorem b_repr (bd : Bd X c) (B : Bt X.mg) (h : DE X c e Γ fun r => ∃ d, r.rd = some d ∧ SeqAt.shaped d = true ∧ d.showable = true ∧ d.shown.length ≤ sizeLine ∧ K (.val (.str d.shown))) (hg : Gl X "repr" := by rfl) (he : starEach [e] X.env = (false, eval e X.env) :: starEach [] X.env := by rfl) (hpl : (backTo pos (starEach [] X.env)).any (·.1) = false := by rfl) :
    DE X c (.Call (.Name "repr" p) [e] [] pos) Γ K := de_callB (call_reprD bd) B.repr (da_cons (h.mono fun r ⟨d, e, s1, s2, s3, z⟩ => da_nil (wa_repr bd e s1 s2 s3 z)) he) PyProof.Rows.boot_repr hg (by decide) (by decide) he hpl
theorem b_sum (hc : X.calm = true) (B : Bt X.mg) (h : DE X c e Γ fun r => ∃ ns : List Int, r.its = some (ns.map PyData.int) ∧ K (.val (.int ns.sum))) (hg : Gl X "sum" := by rfl) (he : starEach [e] X.env = (false, eval e X.env) :: starEach [] X.env := by rfl) (hpl : (backTo pos (starEach [] X.env)).any (·.1) = false := by rfl) :
    DE X c (.Call (.Name "sum" p) [e] [] pos) Γ K := de_callB (cr_sum hc) B.sum (da_cons (h.mono fun r ⟨ns, e, z⟩ => da_nil (wa_sum e rfl z)) he) PyProof.Rows.boot_sum hg (by decide) (by decide) he hpl
theorem b_max3 (hc : X.calm = true) (B : Bt X.mg) (h : DA X c [e, e2, e3] Γ fun rs => ∃ i j k : Int, rs = [.val (.int i), .val (.int j), .val (.int k)] ∧ K (.val (.int (max (max i j) k)))) (hg : Gl X "max" := by rfl) (he : starEach [e, e2, e3] X.env = (false, eval e X.env) :: starEach [e2, e3] X.env := by rfl) (hpl : (backTo pos (starEach [e2, e3] X.env)).any (·.1) = false := by rfl) :
    DE X c (.Call (.Name "max" p) [e, e2, e3] [] pos) Γ K := de_callB (call_max3 hc) B.max (h.mono fun rs ⟨i, j, k, e, z⟩ => by subst e; exact wa_max3 z) PyProof.Rows.boot_max hg (by decide) (by decide) he hpl
end
end Dl

namespace Dl
open PySem PySem.Spec L2

/-! ### zip of three tuples -/
/-- three tuples as they stand, the items told in new triples -/
def Itz3 (K : PySem.W.Frag) (a b d : Addr) : It :=
  ⟨fun i H => ∃ (xs ys us : List V) (x y u : V), SqT K H a xs ∧ SqT K H b ys ∧ SqT K H d us ∧ xs[i]? = some x ∧ ys[i]? = some y ∧ us[i]? = some u ∧ i ≤ xs.length,
    fun i H v H' => ∃ T x y u, v = .ref T ∧ H T = none ∧ H' = upd H T (.tup [x, y, u]) ∧ (∀ xs, SqT K H a xs → xs[i]? = some x) ∧ (∀ ys, SqT K H b ys → ys[i]? = some y) ∧ ∀ us, SqT K H d us → us[i]? = some u,
    fun i H => ∃ xs ys us : List V, SqT K H a xs ∧ SqT K H b ys ∧ SqT K H d us ∧ i ≤ xs.length ∧ i ≤ ys.length ∧ i ≤ us.length ∧ (i = xs.length ∨ i = ys.length ∨ i = us.length)⟩
theorem turn_zip3 {P : Program} {w : World} {K : PySem.W.Frag} {elts : List Expr} {kk : Nat} {tpos : Pos} {a b d z TI TO i1 i2 i3 : Addr} (S : ZipSep3 z TI TO i1 i2 i3 [i1, a] [i2, b] [i3, d]) (na : a ≠ i1) (nb : b ≠ i2) (nd : d ≠ i3) :
    Turn P w K (.Tuple elts kk tpos) (Itz3 K a b d) [z, TI, TO, i1, i2, i3] z (fun i h => IsZip h z TI TO .none ∧ IsTupOf3 h TI (.ref i1) (.ref i2) (.ref i3) ∧ (∃ x y u, IsTupOf3 h TO x y u) ∧ h.IsTupleIter i1 a i ∧ h.IsTupleIter i2 b i ∧ h.IsTupleIter i3 d i) where
  mem := by simp
  obj := fun i h st c hc => by
    obtain ⟨hz, hTI, ⟨x, y, u, hTO⟩, ⟨o1, e1, _, d1⟩, ⟨o2, e2, _, d2⟩, ⟨o3, e3, _, d3⟩⟩ := st
    have e' : c = z ∨ c = TI ∨ c = TO ∨ c = i1 ∨ c = i2 ∨ c = i3 := by simpa using hc
    rcases e' with q | q | q | q | q | q
    · rw [q]; exact ⟨_, hz, fun v q => nomatch q⟩
    · rw [q]; exact ⟨_, hTI, fun v q => nomatch q⟩
    · rw [q]; exact ⟨_, hTO, fun v q => nomatch q⟩
    · rw [q]; exact ⟨_, e1, fun v q => by rw [d1] at q; cases q⟩
    · rw [q]; exact ⟨_, e2, fun v q => by rw [d2] at q; cases q⟩
    · rw [q]; exact ⟨_, e3, fun v q => by rw [d3] at q; cases q⟩
  keep := fun i h h' st k => by
    obtain ⟨hz, hTI, ⟨x, y, u, hTO⟩, h1, h2, h3⟩ := st
    exact ⟨k z (by simp) _ hz, k TI (by simp) _ hTI, ⟨x, y, u, k TO (by simp) _ hTO⟩, h1.at fun o q => k i1 (by simp) o q, h2.at fun o q => k i2 (by simp) o q, h3.at fun o q => k i3 (by simp) o q⟩
  item := by
    intro X hP hw hK hc i pins s σ H E I hf st hg
    subst hP hw hK
    obtain ⟨hz, hTI, ⟨x0, y0, u0, hTO⟩, h1, h2, h3⟩ := st
    obtain ⟨xs, ys, us, x, y, u, hqx, hqy, hqu, hx, hy, hu, _⟩ := hg
    obtain ⟨its, rv, p, _⟩ := I.tuple hqx
    obtain ⟨its2, rv2, p2, _⟩ := I.tuple hqy
    obtain ⟨its3, rv3, p3, _⟩ := I.tuple hqu
    obtain ⟨w1, hw1, rw1⟩ := rv.get hx
    obtain ⟨w2, hw2, rw2⟩ := rv2.get hy
    obtain ⟨w3, hw3, rw3⟩ := rv3.get hu
    have hd : X.A.in1.handled = none := I.ok.hd hc
    have hzl : z < s.heap.objs.size := Heap.lt_size hz
    have l1 : i < its.toArray.size := by rw [List.size_toArray]; exact (List.getElem?_eq_some_iff.mp hw1).1
    have l2 : i < its2.toArray.size := by rw [List.size_toArray]; exact (List.getElem?_eq_some_iff.mp hw2).1
    have l3 : i < its3.toArray.size := by rw [List.size_toArray]; exact (List.getElem?_eq_some_iff.mp hw3).1
    refine wpAny_pyNext_zipD3_item S (Draws.tuple hd i1 a na its.toArray) (Draws.tuple hd i2 b nb its2.toArray) (Draws.tuple hd i3 d nd its3.toArray) hz hTI hTO ⟨h1, p⟩ ⟨h2, p2⟩ ⟨h3, p3⟩ l1 l2 l3 fun x1 x2 x3 h' tk ex1 ex2 ex3 z' TO' s1' s2' s3' hT hsz hk => ?_
    have e1 : x1 = w1 := by have q : its.toArray[i]? = some x1 := ex1; rw [List.getElem?_toArray, hw1] at q; exact (Option.some.inj q).symm
    have e2 : x2 = w2 := by have q : its2.toArray[i]? = some x2 := ex2; rw [List.getElem?_toArray, hw2] at q; exact (Option.some.inj q).symm
    have e3 : x3 = w3 := by have q : its3.toArray[i]? = some x3 := ex3; rw [List.getElem?_toArray, hw3] at q; exact (Option.some.inj q).symm
    subst e1 e2 e3
    refine ⟨_, rfl, wpAny_letOwnedTupleGo_zip (s := { s with heap := h', toks := tk }) z' fun h'' z'' sb => ?_⟩
    have hT2 : h''.get? s.heap.objs.size = some { cls := .type "tuple", data := .seq #[x1, x2, x3] } := (sb.2 _ (Nat.ne_of_gt hzl)).trans hT
    have new : ObjOk X.prog X.w (upd H s.heap.objs.size (.tup [x, y, u])) h'' s.heap.objs.size (.tup [x, y, u]) :=
      ⟨by show 3 ≤ sizeLine; decide, [x1, x2, x3], .cons rw1 (.cons rw2 (.cons rw3 .nil)), ⟨_, hT2, rfl, _, rfl⟩⟩
    have I1 : Inv X pins σ (upd H s.heap.objs.size (.tup [x, y, u])) { s with heap := h'', toks := tk } :=
      I.turnedNew (t' := tk) (ch := [z, TI, TO, i1, i2, i3]) (fun c o hb q => (sb.2 c (fun q' => hb (by simp [q']))).trans (hk c o (fun q' => hb (by simp [q'])) (fun q' => hb (by simp [q'])) (fun q' => hb (by simp [q'])) (fun q' => hb (by simp [q'])) (fun q' => hb (by simp [q'])) q)) hf (Nat.le_refl _) new
    refine ⟨.ref s.heap.objs.size, _, I1, rfl, ⟨_, x, y, u, rfl, I.hok.fresh (Nat.le_refl _), rfl, fun l hl => by rw [I.tuple_inj hl hqx]; exact hx, fun l hl => by rw [I.tuple_inj hl hqy]; exact hy, fun l hl => by rw [I.tuple_inj hl hqu]; exact hu⟩, ⟨z'', ?_, ⟨x1, x2, x3, ?_⟩, ?_, ?_, ?_⟩, fun c hcm => ?_⟩
    · exact (sb.2 _ S.TIz).trans (hk _ _ S.TIz S.TITO S.TIi1 S.TIi2 S.TIi3 hTI)
    · exact (sb.2 _ S.TOz).trans TO'
    · exact s1'.1.at fun o q => (sb.2 _ (Ne.symm S.zi1)).trans q
    · exact s2'.1.at fun o q => (sb.2 _ (Ne.symm S.zi2)).trans q
    · exact s3'.1.at fun o q => (sb.2 _ (Ne.symm S.zi3)).trans q
    · have hlt : c < s.heap.objs.size := by
        have e' : c = z ∨ c = TI ∨ c = TO ∨ c = i1 ∨ c = i2 ∨ c = i3 := by simpa using hcm
        rcases e' with q | q | q | q | q | q
        · rw [q]; exact hzl
        · rw [q]; exact Heap.lt_size hTI
        · rw [q]; exact Heap.lt_size hTO
        · rw [q]; obtain ⟨_, e1, _⟩ := h1; exact Heap.lt_size e1
        · rw [q]; obtain ⟨_, e2, _⟩ := h2; exact Heap.lt_size e2
        · rw [q]; obtain ⟨_, e3, _⟩ := h3; exact Heap.lt_size e3
      rw [upd_ne (Nat.ne_of_lt hlt)]
      exact (hf c hcm).1
  done := by
    intro X hP hw hK hc i pins s σ H E I hf st hg
    subst hP hw hK
    obtain ⟨hz, hTI, ⟨x0, y0, u0, hTO⟩, h1, h2, h3⟩ := st
    obtain ⟨xs, ys, us, hqx, hqy, hqu, b1, b2, b3, hend⟩ := hg
    obtain ⟨its, rv, p, _⟩ := I.tuple hqx
    obtain ⟨its2, rv2, p2, _⟩ := I.tuple hqy
    obtain ⟨its3, rv3, p3, _⟩ := I.tuple hqu
    have l1 := rv.length
    have l2 := rv2.length
    have l3 := rv3.length
    have hd : X.A.in1.handled = none := I.ok.hd hc
    refine wpAny_pyNext_zipD3_end S (Draws.tuple hd i1 a na its.toArray) (Draws.tuple hd i2 b nb its2.toArray) (Draws.tuple hd i3 d nd its3.toArray) hz hTI hTO ⟨h1, p⟩ ⟨h2, p2⟩ ⟨h3, p3⟩ (by rw [List.size_toArray]; omega) (by rw [List.size_toArray]; omega) (by rw [List.size_toArray]; omega) (by simp only [List.size_toArray]; omega)
      fun h' tk hk => ⟨rfl, I.turnedL (t' := tk) (ch := [z, TI, TO, i1, i2, i3]) (fun c o hb q => hk c o (fun q' => hb (by simp [q'])) (fun q' => hb (by simp [q'])) (fun q' => hb (by simp [q'])) (fun q' => hb (by simp [q'])) (fun q' => hb (by simp [q'])) q) hf⟩
  self := fun A i s Q E st h => wpAny_pyIter_zip st.1 h
def iZip3 (K : PySem.W.Frag) (ta : TA) : TI := fun σ H R => ta σ H fun vs H1 => ∃ a b d xs ys us, vs = [.ref a, .ref b, .ref d] ∧ SqT K H1 a xs ∧ SqT K H1 b ys ∧ SqT K H1 d us ∧ R (Itz3 K a b d) H1
theorem pi_zip3 {X : Cx} {e e2 e3 : Expr} {ta : TA} {p pos tpos : Pos} {elts : List Expr} {kk : Nat} (hg : Gl X "zip") (hm : X.mg "zip" = none) (ha : PA X [e, e2, e3] ta)
    (hs : starEach [e, e2, e3] X.env = (false, eval e X.env) :: starEach [e2, e3] X.env := by rfl) (hpl : (backTo pos (starEach [e2, e3] X.env)).any (·.1) = false := by rfl) :
    PI X (.Tuple elts kk tpos) (.Call (.Name "zip" p) [e, e2, e3] [] pos) (iZip3 X.K ta) := by
  refine ⟨fun pins s σ H R I h => ?_⟩
  refine PyProof.Rows.Call_ (ld_blt I hg hm PyProof.Rows.boot_zip (PyProof.Rows.callWith_type1 (thn (ha.run pos pins s σ H _ I h) fun us s1 ⟨vs, H1, I1, r1, q1⟩ => ?_) hs hpl))
  obtain ⟨a, b, d, xs, ys, zs, ex, hqx, hqy, hqu, q⟩ := q1
  subst ex
  cases r1 with
  | cons r rr =>
    cases rr with
    | cons r' rr =>
      cases rr with
      | cons r'' rr =>
        cases rr
        cases r
        cases r'
        cases r''
        obtain ⟨its, rv, p1, _⟩ := I1.tuple hqx
        obtain ⟨its2, rv2, p2, _⟩ := I1.tuple hqy
        obtain ⟨its3, rv3, p3, _⟩ := I1.tuple hqu
        obtain ⟨o1, ho1, _⟩ := id p1
        obtain ⟨o2, ho2, _⟩ := id p2
        obtain ⟨o3, ho3, _⟩ := id p3
        have n1 := Heap.lt_size ho1
        have n2 := Heap.lt_size ho2
        have n3 := Heap.lt_size ho3
        have fresh6 : ∀ c, c ∈ [s1.heap.objs.size + 5, s1.heap.objs.size + 3, s1.heap.objs.size + 4, s1.heap.objs.size, s1.heap.objs.size + 1, s1.heap.objs.size + 2] → FpOk X pins H1 c := fun c hcm => by
          have e' : c = s1.heap.objs.size + 5 ∨ c = s1.heap.objs.size + 3 ∨ c = s1.heap.objs.size + 4 ∨ c = s1.heap.objs.size ∨ c = s1.heap.objs.size + 1 ∨ c = s1.heap.objs.size + 2 := by simpa using hcm
          have hle : s1.heap.objs.size ≤ c := by
            rcases e' with z | z | z | z | z | z
            · rw [z]; exact Nat.le_add_right _ _
            · rw [z]; exact Nat.le_add_right _ _
            · rw [z]; exact Nat.le_add_right _ _
            · rw [z]; exact Nat.le_refl _
            · rw [z]; exact Nat.le_add_right _ _
            · rw [z]; exact Nat.le_add_right _ _
          exact I1.fpOk hle (I1.hok.fresh hle)
        refine zip_begins3 (begins_tuple a its.toArray) (begins_tuple b its2.toArray) (begins_tuple d its3.toArray) p1 p2 p3 fun h' hz hTI hTO h1 h2 h3 hsz hk => wpAny_pyIter_zip hz ?_
        have I2 : Inv X pins σ H1 { s1 with heap := h' } := I1.kept (t' := s1.toks) hk
        have sep : ZipSep3 (s1.heap.objs.size + 5) (s1.heap.objs.size + 3) (s1.heap.objs.size + 4) s1.heap.objs.size (s1.heap.objs.size + 1) (s1.heap.objs.size + 2) [s1.heap.objs.size, a] [s1.heap.objs.size + 1, b] [s1.heap.objs.size + 2, d] :=
          zip_sep3 (by simpa using n1) (by simpa using n2) (by simpa using n3)
        exact ⟨s1.heap.objs.size + 5, [s1.heap.objs.size + 5, s1.heap.objs.size + 3, s1.heap.objs.size + 4, s1.heap.objs.size, s1.heap.objs.size + 1, s1.heap.objs.size + 2], _, _, H1, rfl, I2, turn_zip3 sep (Nat.ne_of_lt n1) (Nat.ne_of_lt (Nat.lt_of_lt_of_le n2 (Nat.le_add_right _ 1))) (Nat.ne_of_lt (Nat.lt_of_lt_of_le n3 (Nat.le_add_right _ 2))),
          ⟨hz, hTI, ⟨_, _, _, hTO⟩, ⟨_, h1, rfl, rfl⟩, ⟨_, h2, rfl, rfl⟩, ⟨_, h3, rfl, rfl⟩⟩, fresh6, q⟩
section
variable {X : Cx} {c : Cs} {e e2 e3 : Expr} {Γ : List Sl} {K : List D → Prop} {pos p tpos : Pos} {elts : List Expr} {kk : Nat}
def zipD3 : List D → List D → List D → List D
  | a :: as, b :: bs, d :: ds => .tuple [a, b, d] :: zipD3 as bs ds
  | _, _, _ => []
theorem zipD3_get : ∀ {as bs ds : List D} {i : Nat} {z : D}, (zipD3 as bs ds)[i]? = some z → ∃ a b d, z = .tuple [a, b, d] ∧ as[i]? = some a ∧ bs[i]? = some b ∧ ds[i]? = some d
  | a :: as, b :: bs, d :: ds, 0, z, h => by simp [zipD3] at h; exact ⟨a, b, d, h.symm, rfl, rfl, rfl⟩
  | a :: as, b :: bs, d :: ds, i + 1, z, h => by
    have h' : (zipD3 as bs ds)[i]? = some z := by simpa [zipD3] using h
    obtain ⟨a', b', d', e1, e2, e3, e4⟩ := zipD3_get h'
    exact ⟨a', b', d', e1, by simpa using e2, by simpa using e3, by simpa using e4⟩
  | [], _, _, _, _, h => by simp [zipD3] at h
  | _ :: _, [], _, _, _, h => by simp [zipD3] at h
  | _ :: _, _ :: _, [], _, _, h => by simp [zipD3] at h
theorem zipD3_len : ∀ {as bs ds : List D}, as.length = bs.length → as.length = ds.length → (zipD3 as bs ds).length = as.length
  | a :: as, b :: bs, d :: ds, h1, h2 => by simp [zipD3, zipD3_len (by simpa using h1) (by simpa using h2)]
  | [], [], [], _, _ => rfl
theorem di_zip3 (bd : Bd X c) (B : Bt X.mg) (h : DA X c [e, e2, e3] Γ fun rs => ∃ as bs ds, rs = [.val (.tuple as), .val (.tuple bs), .val (.tuple ds)] ∧ as.length = bs.length ∧ as.length = ds.length ∧ K (zipD3 as bs ds)) (hg : Gl X "zip" := by rfl)
    (hs : starEach [e, e2, e3] X.env = (false, eval e X.env) :: starEach [e2, e3] X.env := by rfl) (hpl : (backTo pos (starEach [e2, e3] X.env)).any (·.1) = false := by rfl) : DI X c (.Tuple elts kk tpos) (.Call (.Name "zip" p) [e, e2, e3] [] pos) Γ K :=
  PI.weak (pi_zip3 hg B.zip (pa_U (c := c) (Γ := Γ)) hs hpl) fun σ H R ⟨B, O, S, xc, q⟩ => by
  refine ⟨_, h, B, O, S, xc, fun vs H1 rs k1 a1 o1 ⟨as, bs, ds, e, l1, l2, z⟩ => ?_⟩
  subst e
  have S1 := S.step k1 a1
  cases o1.ats S with
  | cons r1 t =>
    cases t with
    | cons r2 t =>
      cases t with
      | cons r3 t =>
        cases t
        obtain ⟨a, xs, rfl, qa, na, ra⟩ := r1.tup
        obtain ⟨b, ys, rfl, qb, nb, rb⟩ := r2.tup
        obtain ⟨d, us, rfl, qd, nd, rd⟩ := r3.tup
        refine ⟨a, b, d, xs, ys, us, rfl, by rw [bd.kx]; exact qa, by rw [bd.kx]; exact qb, by rw [bd.kx]; exact qd, ?_⟩
        rw [bd.kx]
        refine q _ H1 _ k1 a1 (fun i O' H2 m1 m2 m3 => ?_) z
        have m : Mv O O' H1 H2 := ⟨m2, fun b o nb eb => m1 b o (fun z => nb (mxO S1 z)) eb⟩
        have la := ra.length
        have lb := rb.length
        have ld := rd.length
        refine ⟨fun zz hz => ?_, fun hl => ⟨xs, ys, us, (na.mv m).sq, (nb.mv m).sq, (nd.mv m).sq, ?_⟩⟩
        · obtain ⟨da, db, dd, rfl, h1, h2, h3⟩ := zipD3_get hz
          obtain ⟨x, hx, rx⟩ := ra.get h1
          obtain ⟨y, hy, ry⟩ := rb.get h2
          obtain ⟨u, hu, ru⟩ := rd.get h3
          refine ⟨⟨xs, ys, us, x, y, u, (na.mv m).sq, (nb.mv m).sq, (nd.mv m).sq, hx, hy, hu, Nat.le_of_lt (List.getElem?_eq_some_iff.mp hx).1⟩, fun v H3 yl => ?_⟩
          obtain ⟨T, x', y', u', rfl, hT, rfl, f1, f2, f3⟩ := yl
          have ex := f1 _ (na.mv m).sq
          have ey := f2 _ (nb.mv m).sq
          have eu := f3 _ (nd.mv m).sq
          rw [hx] at ex; rw [hy] at ey; rw [hu] at eu
          cases ex; cases ey; cases eu
          have mv3 : Mv O' O' H2 (upd H2 T (.tup [x, y, u])) := ⟨fun _ z _ => z, fun b o _ e => by rw [upd_ne (ne_of_none e hT)]; exact e⟩
          refine ⟨fun b o e => by rw [upd_ne (ne_of_none e hT)]; exact e, .tup (.inl ⟨upd_same, fun z => m3 T z hT⟩) (.cons ((rx.mv m).mv mv3) (.cons ((ry.mv m).mv mv3) (.cons ((ru.mv m).mv mv3) .nil)))⟩
        · rw [zipD3_len l1 l2] at hl; have := la; have := lb; have := ld; refine ⟨?_, ?_, ?_, .inl ?_⟩ <;> omega
end
end Dl

namespace Dl
open PySem PySem.Spec L2

/-! ### the module's constants -/
/-- the module's name x tells d -/
def Con (k : Kx) (mg : Str → Option Value) (x : Str) (d : D) : Prop := ∃ u v, mg x = some u ∧ RelV v u ∧ ∀ O H, Rp k O H v d
section
variable {X : Cx} {c : Cs} {e e2 : Expr} {es : List Expr} {Γ : List Sl} {K : Rs → Prop} {pos p tpos : Pos} {x : Str} {d : D}
theorem de_con (C : Con c.kx X.mg x d) (h : K (.val d)) (hg : Gl X x := by rfl) (hd : (x == ("__debug__" : Str)) = false := by decide) : DE X c (.Name x pos) Γ K := by
  obtain ⟨u, v, hm, r, rp⟩ := C
  exact PE.weak (pe_glob hg hm r hd) fun σ H Q ⟨B, O, E, _, q⟩ => q v H (.val d) Kp.refl E.hand (rp O H) h
/-- a written dict with text keys: what stands at some keys -/
structure DictC (k : Kx) (w : World) (mg : Str → Option Value) (x : Str) (kvs : List (Str × D)) : Prop where
  ex : ∃ a es n, mg x = some (.ref a) ∧ KDict k.K w a es n ∧ ∀ z d, (z, d) ∈ kvs → ∃ u v, PySem.W.nsIn k.K a z = some (some u) ∧ RelV v u ∧ ∀ O H, Rp k O H v d
theorem PE.gl {u : Value} {v : V} (hg : Gl X x) (hm : X.mg x = some u) (r : RelV v u) (hd : (x == ("__debug__" : Str)) = false) : PE X (.Name x pos) (tC v) := pe_glob hg hm r hd
/-- e in T -/
theorem de_inC {kvs : List (Str × D)} (bd : Bd X c) (C : DictC c.kx X.w X.mg x kvs) (h : DE X c e Γ fun r => ∃ z d, r = .val (.str z) ∧ (z, d) ∈ kvs ∧ K (.val (.bool true))) (hg : Gl X x := by rfl) (hd : (x == ("__debug__" : Str)) = false := by decide) (hm : behindInMarks .In (.Name x p) = false := by rfl) :
    DE X c (.Compare e [.In] [.Name x p] pos) Γ K := by
  obtain ⟨a, es, n, hmg, kd, hk⟩ := C.ex
  refine PE.weak (pe_cmpR (op_in_kd (X := X) (by rw [bd.kx]; exact kd)) (pe_U (c := c) (Γ := Γ)) (PE.gl hg hmg (show RelV (.ref a) (.ref a) from rfl) hd) hm) fun σ H Q ⟨B, O, S, xc, q⟩ => ?_
  refine ⟨_, h, B, O, S, xc, fun v H1 r k1 a1 o1 ⟨z, d, e, hz, hK⟩ => ?_⟩
  subst e
  cases (o1.at S).str
  obtain ⟨u, v, hn, _⟩ := hk z d hz
  exact ⟨z, some u, rfl, rfl, by rw [bd.kx]; exact hn, q _ H1 (.val (.bool true)) k1 a1 (Rp.bl _) hK⟩
theorem de_niC {kvs : List (Str × D)} (bd : Bd X c) (C : DictC c.kx X.w X.mg x kvs) (h : DE X c e Γ fun r => ∃ z d, r = .val (.str z) ∧ (z, d) ∈ kvs ∧ K (.val (.bool false))) (hg : Gl X x := by rfl) (hd : (x == ("__debug__" : Str)) = false := by decide) (hm : behindInMarks .NotIn (.Name x p) = false := by rfl) :
    DE X c (.Compare e [.NotIn] [.Name x p] pos) Γ K := by
  obtain ⟨a, es, n, hmg, kd, hk⟩ := C.ex
  refine PE.weak (pe_cmpR (op_notIn_kd (X := X) (by rw [bd.kx]; exact kd)) (pe_U (c := c) (Γ := Γ)) (PE.gl hg hmg (show RelV (.ref a) (.ref a) from rfl) hd) hm) fun σ H Q ⟨B, O, S, xc, q⟩ => ?_
  refine ⟨_, h, B, O, S, xc, fun v H1 r k1 a1 o1 ⟨z, d, e, hz, hK⟩ => ?_⟩
  subst e
  cases (o1.at S).str
  obtain ⟨u, v, hn, _⟩ := hk z d hz
  exact ⟨z, some u, rfl, rfl, by rw [bd.kx]; exact hn, q _ H1 (.val (.bool false)) k1 a1 (Rp.bl _) hK⟩
theorem dt_niC {kvs : List (Str × D)} {L : Bool → Prop} (bd : Bd X c) (C : DictC c.kx X.w X.mg x kvs) (h : DE X c e Γ fun r => ∃ z d, r = .val (.str z) ∧ (z, d) ∈ kvs ∧ L false) (hg : Gl X x := by rfl) (hd : (x == ("__debug__" : Str)) = false := by decide) (hm : behindInMarks .NotIn (.Name x p) = false := by rfl) :
    DT X c (.Compare e [.NotIn] [.Name x p] pos) Γ L := by
  obtain ⟨a, es, n, hmg, kd, hk⟩ := C.ex
  refine PT.weak (pt_cmpR (op_notIn_kd (X := X) (by rw [bd.kx]; exact kd)) (pe_U (c := c) (Γ := Γ)) (PE.gl hg hmg (show RelV (.ref a) (.ref a) from rfl) hd) hm) fun σ H Q ⟨B, O, S, xc, q⟩ => ?_
  refine ⟨_, h, B, O, S, xc, fun v H1 r k1 a1 o1 ⟨z, d, e, hz, hK⟩ => ?_⟩
  subst e
  cases (o1.at S).str
  obtain ⟨u, v, hn, _⟩ := hk z d hz
  exact ⟨z, some u, rfl, rfl, by rw [bd.kx]; exact hn, false, rfl, q _ H1 k1 a1 hK⟩
/-- T[e] -/
theorem de_ixC {kvs : List (Str × D)} (bd : Bd X c) (C : DictC c.kx X.w X.mg x kvs) (h : DE X c e Γ fun r => ∃ z d, r = .val (.str z) ∧ (z, d) ∈ kvs ∧ K (.val d)) (hg : Gl X x := by rfl) (hd : (x == ("__debug__" : Str)) = false := by decide) (hs : PlainIx e := by exact fun _ _ => rfl) :
    DE X c (.Subscript (.Name x p) e pos) Γ K := by
  obtain ⟨a, es, n, hmg, kd, hk⟩ := C.ex
  have kd' : KDict X.K X.w a es n := by rw [bd.kx]; exact kd
  refine PE.weak (pe_ix (ix_kdict (X := X)) (PE.gl hg hmg (show RelV (.ref a) (.ref a) from rfl) hd) (pe_U (c := c) (Γ := Γ)) hs) fun σ H Q ⟨B, O, S, xc, q⟩ => ?_
  refine ⟨_, h, B, O, S, xc, fun v H1 r k1 a1 o1 ⟨z, d, e, hz, hK⟩ => ?_⟩
  subst e
  cases (o1.at S).str
  obtain ⟨u, v, hn, hr, rp⟩ := hk z d hz
  exact ⟨a, z, v, rfl, rfl, ⟨es, n, u, kd'.at_, kd'.lit, by rw [bd.kx]; exact hn, hr⟩, q v H1 (.val d) k1 a1 (rp O H1) hK⟩
/-! ### the script -/
theorem itl_scr {k : Kx} {Mx O : Addr → Prop} {H1 : Hp} {a : Addr} {ns : List Int} (e : ScrAt k.K O H1 a ns) (hm : ∀ a, Mx a → O a) : ItOk k Mx O H1 (Itl k.K a) (ns.map PyData.int) := fun i O' H2 k1 k2 k3 => by
  have m : Mv O O' H1 H2 := ⟨k2, fun b o nb eb => k1 b o (fun z => nb (hm b z)) eb⟩
  have sq := (e.mv m).sq
  refine ⟨fun d hd => ?_, fun hl => ⟨_, sq, by rw [List.length_map]; rw [List.length_map] at hl; exact Nat.le_of_eq hl.symm⟩⟩
  rw [List.getElem?_map] at hd
  cases hi : ns[i]? with
  | none => rw [hi] at hd; cases hd
  | some w =>
    rw [hi] at hd
    cases hd
    have hx : (ns.map V.int)[i]? = some (.int w) := by rw [List.getElem?_map, hi]; rfl
    refine ⟨⟨_, _, sq, hx⟩, fun x H3 ⟨e3, f⟩ => ?_⟩
    subst e3
    refine ⟨fun _ _ z => z, ?_⟩
    have ex := f _ sq
    rw [hx] at ex
    cases ex
    exact .int w
theorem di_scr (i : Nat) {tg : Expr} {L : List D → Prop} {ns : List Int} (bd : Bd X c) (hN : X.N[i]? = some x) (hv : Vis X.env.scope x) (hs : Γ[i]? = some (.scr ns)) (h : L (ns.map PyData.int))
    (hd : (x == ("__debug__" : Str)) = false := by decide) (hcd : (x == ("__classdict__" : Str)) = false := by decide) : DI X c tg (.Name x pos) Γ L :=
  PI.weak (pi_list (pe_var hN hv hd hcd)) fun σ H R ⟨B, O, S, xc, q⟩ => by
    obtain ⟨a, ea, z⟩ := S.sl i _ hs
    exact ⟨_, ea, a, rfl, ⟨_, by rw [bd.kx]; exact z.sq⟩, by rw [bd.kx]; exact q _ H _ Kp.refl S.hand (itl_scr z fun a m => mxO S m) h⟩
end
/-! ### a def that takes the script -/
@[reducible] def no1 : Addr → Prop := fun _ => False
@[reducible] def noE : Ec → Prop := fun _ => False
def spScr (kx : Kx) (F : List Int → (Rs → Prop) → Prop) : Sp := fun vs H Q E => ∃ a ns R, vs = [.ref a] ∧ ScrAt kx.K no1 H a ns ∧ F ns R ∧
  ∀ v H' r, (∀ b o, H b = some o → H' b = some o) → RtOk (csOf kx none E noE) ⟨H, no1, no1⟩ H' v r → R r → Q v H'
@[reducible] def scrG (N : List Str) (ns : List Int) : List Sl := .scr ns :: List.replicate (N.length - 1) .un
theorem start_scr {kx : Kx} {E : XK} {H : Hp} {a : Addr} {ns : List Int} {N : List Str} (h : ScrAt kx.K no1 H a ns) (hn : 1 ≤ N.length) : Stt (csOf kx none E noE) ⟨H, no1, no1⟩ no1 (scrG N ns) (L2.start N [.ref a]) H := by
  refine ⟨?_, trivial, fun _ z => z.elim, fun _ z => z.elim, fun _ z => z, fun _ z => z.elim, fun _ z => z.elim, fun _ z => z.elim, fun b o _ e => e, fun i s e => ?_, fun i j s t b e1 e2 => ?_⟩
  · unfold L2.start scrG
    simp only [List.length_append, List.length_map, List.length_replicate, List.length_cons, List.length_nil]
    omega
  · cases i with
    | zero => cases e; exact ⟨a, rfl, h⟩
    | succ i =>
      have e' : (List.replicate (N.length - 1) Sl.un)[i]? = some s := e
      rw [List.getElem?_replicate] at e'
      split at e'
      · cases e'; trivial
      · cases e'
  · cases i with
    | zero => cases e1
    | succ i =>
      have e' : (List.replicate (N.length - 1) Sl.un)[i]? = some (.own s) := e1
      rw [List.getElem?_replicate] at e'
      split at e' <;> cases e'
section
variable {P : Program} {w : World} {K : PySem.W.Frag} {mg : Str → Option Value} {base : Heap}
/-- the rule of a def by what is shown of its body -/
theorem fnG_raw {x qual : Str} {st : Stmt} {f : Addr} {fd : FuncData} {N ps : List Str} {k : Nat} {sp : Sp} {kx : Kx} (Fn : Fun K x qual st f fd) (S : FnScope N ps (defScope st)) (hK : kx.K = K) (len : ∀ vs H Q E, sp vs H Q E → vs.length = ps.length)
    (body : ∀ (cdv : Value) (A : Around) (outer : List PySem.Env) (s : Shared) (H : Hp) (E : XK) (vs : List V) (Q : VK), sp vs H Q E →
      Room k (cxOf (L2.CX P w) P w K mg base N qual (defScope st) f cdv A outer s H E).A → (∀ c : Cs, c.kx = kx → Bd (cxOf (L2.CX P w) P w K mg base N qual (defScope st) f cdv A outer s H E) c) →
      Takes (cxOf (L2.CX P w) P w K mg base N qual (defScope st) f cdv A outer s H E) (fun cls d _ H => E cls d H) →
      ∃ t, PSs (cxOf (L2.CX P w) P w K mg base N qual (defScope st) f cdv A outer s H E) (defBody st) t ∧ t { nx := fun _ H' => Q .non H', rt := Q } (L2.start N vs) H) : FnG P w K mg base (k + 1) f fd ps sp := by
  obtain ⟨oc, od, kV, doc, pm, an, cdv, ct, osl, rfl, lk, hcd⟩ := Fn.ex
  refine ⟨len, fun A outer s H args us vs Q E hr hg e0 hb r hsp => ?_⟩
  have hl := len _ _ _ _ hsp
  have inK : K.In s.heap := e0.mod.kin.keeps fun b o e => (e0.bs b o e).1
  have lim : s.heap.NoLimit := e0.mod.nolimit.keeps fun b o e => (e0.bs b o e).1
  refine codeAny_call_function hr.depth (inK _ _ lk) rfl S.co S.gen rfl (PySem.W.codeRec_of inK hcd) (hb _ _ _ _ ?_)
  refine wpAny_newFunctionEnv_cells S.kind (fun y hy => ?_) fun env he s1 x => ?_
  · rcases S.par y.1 (List.of_mem_zip (show (y.1, y.2) ∈ ps.zip us from hy)).1 with q | q
    · exact .inl q
    · exact .inr ⟨q, PySem.W.cellsFrom_some _ _ _ (.inl q)⟩
  subst he
  refine ⟨lim.keeps x.toInCall.keep, codeAny_func ?_⟩
  have I := inv_start (CX := L2.CX P w) (cd := cdv) (f := f) (qual := qual) (E := E) S hr.hd e0 hl r x
  have room := hr.deeper (PyProof.Rows.envOfC qual (defScope st) s.heap.objs.size f cdv)
  have tk := takes_of (X := cxOf (L2.CX P w) P w K mg base N qual (defScope st) f cdv A outer s H E) (E := E) rfl rfl rfl rfl
  have bd : ∀ c : Cs, c.kx = kx → Bd (cxOf (L2.CX P w) P w K mg base N qual (defScope st) f cdv A outer s H E) c := fun c ec => ⟨(hK.symm.trans (by rw [ec]) : K = c.kx.K), S.nd, by
    have z : (A.deeper (PyProof.Rows.envOfC qual (defScope st) s.heap.objs.size f cdv)).units + 16 * k + 200 < cLine := room.un
    show (A.deeper (PyProof.Rows.envOfC qual (defScope st) s.heap.objs.size f cdv)).units + 200 < cLine
    omega, hg, passes_of rfl⟩
  obtain ⟨t, ht, ht2⟩ := body cdv A outer s H E vs Q hsp room bd tk
  refine wpAny_mono (ht.run [] s1 (L2.start N vs) H { nx := fun _ H' => Q .non H', rt := Q } I ht2) (fun fl s' hs => ?_) fun e s' hs => hs
  cases fl with
  | ret u => obtain ⟨v, σ', H', J, rv, q⟩ := hs; exact ⟨v, H', J.os, J.bare, J.base, J.hok, rv, q⟩
  | next => obtain ⟨σ', H', J, q⟩ := hs; exact ⟨V.non, H', J.os, J.bare, J.base, J.hok, rfl, q⟩
  | brk => obtain ⟨_, _, _, q⟩ := hs; exact q.elim
  | cont => obtain ⟨_, _, _, q⟩ := hs; exact q.elim
theorem fnG_scr {x qual p1 : Str} {st : Stmt} {f : Addr} {fd : FuncData} {N : List Str} {k : Nat} {F : List Int → (Rs → Prop) → Prop} {kx : Kx} (Fn : Fun K x qual st f fd) (S : FnScope N [p1] (defScope st)) (hK : kx.K = K) (hN : 1 ≤ N.length)
    (body : ∀ (cdv : Value) (A : Around) (outer : List PySem.Env) (s : Shared) (H : Hp) (E : XK) (ns : List Int) (R : Rs → Prop), F ns R →
      Room k (cxOf (L2.CX P w) P w K mg base N qual (defScope st) f cdv A outer s H E).A → Bd (cxOf (L2.CX P w) P w K mg base N qual (defScope st) f cdv A outer s H E) (csOf kx none E noE) →
      Takes (cxOf (L2.CX P w) P w K mg base N qual (defScope st) f cdv A outer s H E) (csOf kx none E noE).W →
      DSs (cxOf (L2.CX P w) P w K mg base N qual (defScope st) f cdv A outer s H E) (csOf kx none E noE) (defBody st) (scrG N ns) { nx := fun _ => R (.val .none), rt := R }) : FnG P w K mg base (k + 1) f fd [p1] (spScr kx F) :=
  fnG_raw Fn S hK (fun vs H Q E ⟨a, ns, R, e, _⟩ => by rw [e]; rfl) fun cdv A outer s H E vs Q ⟨a, ns, R, e, hs, hF, q⟩ room bd tk => by
    subst e
    have S0 := start_scr (kx := kx) (E := E) (N := N) hs hN
    refine ⟨_, body cdv A outer s H E ns R hF room (bd _ rfl) tk, _, _, S0, fun _ _ _ _ _ _ _ _ _ (z : False) => z.elim, ⟨fun O Γ σ H' S z => q .non H' (.val .none) (fun b o e => S.keep b o (fun z => z) e) Rp.non z, fun O Γ σ H' v r S ok z => q v H' r (fun b o e => S.keep b o (fun z => z) e) ok z, fun _ _ _ _ _ z => z.elim, fun _ _ _ _ _ z => z.elim⟩⟩
/-! ### the law's def: hand = _law_hand(script), then the rest -/
/-- what _law_hand tells: a new hand -/
@[reducible] def fs_hand : List Int → (Rs → Prop) → Prop := fun ns R => ns.length ≤ 63 ∧ ∀ (gs : List Int) (s n : Int), gs.length ≤ 63 → 0 ≤ s → s < 2147483648 → R (.new (.l [.list (gs.map PyData.int), .int s, .int n]))
def spLaw (kx : Kx) : Sp := fun vs H Q _ => ∃ a ns, vs = [.ref a] ∧ ScrAt kx.K no1 H a ns ∧ ns.length ≤ 63 ∧ ∀ H', Q (.bl true) H'
theorem hand_of {kx : Kx} {O : Addr → Prop} {H : Hp} {p : Addr} {gs : List Int} {s n : Int} (h : CtAt kx O H p (.l [.list (gs.map PyData.int), .int s, .int n])) (hl : gs.length ≤ 63) (h0 : 0 ≤ s) (h1 : s < 2147483648) : ∃ g, HandAt p g H := by
  obtain ⟨xs, e, r⟩ := h
  cases r with
  | cons r1 t =>
    cases t with
    | cons r2 t =>
      cases t with
      | cons r3 t =>
        cases t
        cases r2
        cases r3
        cases r1 with
        | lst nd ra =>
          have ex := ra.ints
          subst ex
          exact ⟨_, gs, s, n, e, nd.1, hl, h0, h1⟩
theorem fnG_law {x qual hn fn sn : Str} {i : Nat} {p1 p2 p3 p4 p5 : Pos} {st : Stmt} {rest : List Stmt} {f fh : Addr} {fd fdh : FuncData} {N psh : List Str} {k : Nat} {kx : Kx} (Fn : Fun K x qual st f fd) (S : FnScope N [sn] (defScope st)) (hK : kx.K = K)
    (hb : defBody st = .Assign [.Name hn p1] (.Call (.Name fn p2) [.Name sn p3] [] p4) p5 :: rest) (hi : N[i]? = some hn) (hN : 1 ≤ N.length) (h0 : N[0]? = some sn)
    (Fh : FnG P w K mg base k fh fdh psh (spScr kx fs_hand)) (hmg : mg fn = some (.ref fh)) (hk : PySem.W.keepIn K (.ref fh) = true) (hbi : Binds K fdh psh [])
    (lh : Loc (defScope st) hn) (lf : (defScope st).names.lookup hn = some .local) (vs : Vis (defScope st) sn)
    (hsw : ∀ env : PySem.Env, swapsWith (.Call (.Name fn p2) [.Name sn p3] [] p4) (some (.Name hn p1)) p5.line env = pure false)
    (hg : ∀ (cdv : Value) (A : Around) (outer : List PySem.Env) (s : Shared) (H : Hp) (E : XK), Gl (cxOf (L2.CX P w) P w K mg base N qual (defScope st) f cdv A outer s H E) fn)
    (d1 : (fn == ("__debug__" : Str)) = false) (d2 : (sn == ("__debug__" : Str)) = false) (d3 : (sn == ("__classdict__" : Str)) = false)
    (he : ∀ env : PySem.Env, starEach [.Name sn p3] env = (false, eval (.Name sn p3) env) :: starEach [] env)
    (hpl : ∀ env : PySem.Env, (backTo p4 (starEach [] env)).any (·.1) = false)
    (body : ∀ (cdv : Value) (A : Around) (outer : List PySem.Env) (s : Shared) (H : Hp) (E : XK) (h g : Addr),
      Room k (cxOf (L2.CX P w) P w K mg base N qual (defScope st) f cdv A outer s H E).A → Bd (cxOf (L2.CX P w) P w K mg base N qual (defScope st) f cdv A outer s H E) (csOf kx (some (h, g)) E noE) →
      Takes (cxOf (L2.CX P w) P w K mg base N qual (defScope st) f cdv A outer s H E) (csOf kx (some (h, g)) E noE).W →
      DSs (cxOf (L2.CX P w) P w K mg base N qual (defScope st) f cdv A outer s H E) (csOf kx (some (h, g)) E noE) rest ((List.replicate N.length Sl.un).set i .hnd) { nx := fun _ => False, rt := fun r => r = .val (.bool true) }) : FnG P w K mg base (k + 1) f fd [sn] (spLaw kx) :=
  fnG_raw Fn S hK (fun vs H Q E ⟨a, ns, e, _⟩ => by rw [e]; rfl) fun cdv A outer s H E vs' Q ⟨a, ns, e, hs, hl, q⟩ room bd tk => by
    subst e
    rw [hb]
    let X := cxOf (L2.CX P w) P w K mg base N qual (defScope st) f cdv A outer s H E
    have pc : PE X (.Call (.Name fn p2) [.Name sn p3] [] p4) (fun σ H Q => ∃ v, σ[0]? = some (some v) ∧ spScr kx fs_hand [v] H Q (fun cls d H' => E cls d H')) := by
      refine ⟨fun pins s' σ H' Q' I ⟨v, ev, hsp⟩ => ?_⟩
      refine wpAny_Call_Name_kw (ld_glob I (hg cdv A outer s H E) hmg ?_ d1)
      refine PySem.W.callWith_K (h₀ := X.base) I.ok.mod.kin hk (thn ((pa_cons (pe_var (X := X) (i := 0) h0 vs d2 d3) pa_nil (he _)).run p4 pins s' σ H' (fun us H1 => us = [v] ∧ spScr kx fs_hand [v] H1 Q' (fun cls d H' => E cls d H')) I ?_) fun us s1 ⟨ws, H1, I1, r, e, z⟩ => ⟨I1.kIn, ?_⟩) (he _) (hpl _)
      · exact ⟨v, ev, rfl, hsp⟩
      · subst e
        exact run_fnG (W := fun cls d _ H => E cls d H) (dvs := []) (ds := []) Fh room (bd (csOf kx none E noE) rfl).gd hbi .nil tk I1 r (by rw [List.append_nil]; exact z)
    have prest : PSs X rest (fun Z σ H => ∃ c Γ E, DSs X c rest Γ E ∧ tDS c Γ E Z σ H) := ⟨fun pins s σ H Z I ⟨_, _, _, h, q⟩ => h.run pins s σ H Z I q⟩
    refine ⟨_, pss_cons (ps_set S.nd hi lh pc (hsw _) (.inr lf)) prest, ?_⟩
    refine ⟨.ref a, rfl, a, ns, fun r => ∃ (gs : List Int) (s n : Int), r = Rs.new (.l [.list (gs.map PyData.int), .int s, .int n]) ∧ gs.length ≤ 63 ∧ 0 ≤ s ∧ s < 2147483648, rfl, hs, ⟨hl, fun gs s n l1 l2 l3 => ⟨gs, s, n, rfl, l1, l2, l3⟩⟩, fun v H' r ext ok z => ?_⟩
    obtain ⟨gs, s2, n, er, l1, l2, l3⟩ := z
    subst er
    obtain ⟨p, rfl, _, _, ct⟩ := ok
    obtain ⟨g, hh⟩ := hand_of ct l1 l2 l3
    have hh' := hh
    obtain ⟨gs', s', n', e1, e2, _⟩ := hh'
    have iN : i < N.length := (List.getElem?_eq_some_iff.mp hi).1
    refine ⟨csOf kx (some (p, g)) E noE, _, _, body cdv A outer s H E p g room (bd _ rfl) tk, ⟨H', fun b => b = p ∨ b = g, fun b => b = p ∨ b = g⟩, fun b => b = p ∨ b = g, ?_, fun _ _ _ _ _ _ _ _ _ (z : False) => z.elim, ⟨fun _ _ _ _ _ z => z.elim, fun O Γ σ H' v r S ok z => ?_, fun _ _ _ _ _ z => z.elim, fun _ _ _ _ _ z => z.elim⟩⟩
    · refine ⟨?_, hh, fun b z => z, fun b z => z, fun b z => z, fun b z => .inl z, fun b z => ?_, fun b z => ?_, fun b o _ e => e, fun j sl e => ?_, fun j l u v b ej el _ _ => ?_⟩
      · have z : (L2.start N [V.ref a]).length = N.length := by unfold L2.start; simp only [List.length_append, List.length_map, List.length_replicate, List.length_cons, List.length_nil]; omega
        simp only [List.length_set, List.length_replicate, z]
      · rcases z with z | z
        · rw [z, e1]; simp
        · rw [z, e2]; simp
      · rcases z with z | z
        · rw [z, e1]; simp
        · rw [z, e2]; simp
      · by_cases hj : i = j
        · subst hj
          rw [List.getElem?_set_self (by rw [List.length_replicate]; exact iN)] at e
          cases e
          refine ⟨.ref p, ?_, p, g, rfl, rfl⟩
          rw [List.getElem?_set_self]
          have z : (L2.start N [V.ref a]).length = N.length := by unfold L2.start; simp only [List.length_append, List.length_map, List.length_replicate, List.length_cons, List.length_nil]; omega
          rw [z]; exact iN
        · rw [List.getElem?_set_ne hj, List.getElem?_replicate] at e
          split at e
          · cases e; trivial
          · cases e
      · exfalso
        by_cases hj : i = j
        · subst hj
          rw [List.getElem?_set_self (by rw [List.length_replicate]; exact iN)] at ej
          cases ej
        · rw [List.getElem?_set_ne hj, List.getElem?_replicate] at ej
          split at ej <;> cases ej
    · have z' : r = .val (.bool true) := z
      subst z'
      cases ok
      exact q H'
end
end Dl

namespace Dl
open PySem PySem.Spec L2 PyProof.Rows

/-! ### the law, called from the top -/
theorem run_law {P : Program} {w : World} {K : PySem.W.Frag} {mg mb : Str → Option Value} {k : Nat} {fa a : Addr} {fd : FuncData} {x : Str} {cl : Addr → Option Str} {s₁ : Shared} {us : List Value} {ns : List Int}
    (inK : K.In s₁.heap) (gns : s₁.heap.Ns mainGlobals mg) (bns : s₁.heap.Ns builtinsNs mb) (bb : ∀ y : Str, y ≠ "__name__" → mb y = bootBuiltins y) (nl : s₁.heap.NoLimit) (ng : s₁.gens = #[])
    (hat : s₁.heap.get? a = some { cls := .type "list", data := .seq us.toArray }) (hin : IntsAre us ns) (len : ns.length ≤ 63) (room : Room k callerA)
    (F : ∀ base : Heap, K.In base → base.Ns mainGlobals mg → FnG P w K mg base k fa fd [x] (spLaw ⟨K, cl⟩)) (bind : ∀ (s : Shared) (u : Value), BindsTo s fd ⟨[u], []⟩ [(x, u)]) :
    codeAny (model P w) callerA (.call (.ref fa) ⟨[.ref a], []⟩) (fun r s' => r = .ok (.ret (.bool true)) ∧ OldK s₁.heap s'.heap ∧ s'.os = s₁.os ∧ AllBare s'.gens) s₁ := by
  have vals := vals_ints hin
  have lu := hin.length
  have small : ns.length ≤ sizeLine := Nat.le_trans len (by decide)
  have main : ∀ Hs : Hp, (∀ b, Hs b = none ∨ ∃ o ys, Hs b = some (.frz o (.lst ys))) → ScrAt K no1 Hs a ns → HOk P w Hs s₁.heap → (∀ b, Hs b ≠ none → b = a) → (Hs a ≠ none → K.lookup a = none) →
      codeAny (model P w) callerA (.call (.ref fa) ⟨[.ref a], []⟩) (fun r s' => r = .ok (.ret (.bool true)) ∧ OldK s₁.heap s'.heap ∧ s'.os = s₁.os ∧ AllBare s'.gens) s₁ := by
    intro Hs only scr hok one freeK
    have low : ∀ {b : Addr} {o : Obj}, s₁.heap.get? b = some o → Hs b = none → (hidT s₁.heap Hs).get? b = some o := fun e n => hidT_get e n
    have dictFree : ∀ {b : Addr} {o : Obj} {es : Array DictEntry} {q : Nat}, s₁.heap.get? b = some o → o.data = .dict es q → Hs b = none := fun {b o es q} e d => by
      cases hb : Hs b with
      | none => rfl
      | some u =>
        obtain rfl : b = a := one b (by rw [hb]; exact Option.some_ne_none u)
        rw [hat] at e
        cases e
        exact Data.noConfusion (show Data.seq us.toArray _ = Data.dict es q from d)
    have nsLow : ∀ {b : Addr} {m : Str → Option Value}, s₁.heap.Ns b m → (hidT s₁.heap Hs).Ns b m := fun {b m} z => by
      obtain ⟨o, es, q, e, d, r⟩ := z
      exact ⟨o, es, q, low e (dictFree e d), d, r⟩
    have kLow : K.In (hidT s₁.heap Hs) := fun b o e => low (inK b o e) (by
      cases hb : Hs b with
      | none => rfl
      | some u =>
        have ne : Hs b ≠ none := by rw [hb]; exact Option.some_ne_none u
        obtain rfl : b = a := one b ne
        rw [freeK ne] at e
        cases e)
    obtain ⟨mc, n1, n2⟩ := nl
    have modLow : Mod K mg (hidT s₁.heap Hs) := ⟨kLow, nsLow gns, ⟨mb, nsLow bns, bb⟩, mc, nsLow n1, n2⟩
    have env : Env0 P w K mg (hidT s₁.heap Hs) callerA [] s₁ Hs := ⟨rfl, modLow, fun b o e => of_hidT e, Nat.le_of_eq (hidT_size _ _), trivial, fun b hb => absurd (show b ∈ ([] : List Addr) from hb) List.not_mem_nil, hok, .of_eq ng⟩
    have run := (F _ kLow (nsLow gns)).run callerA [] s₁ Hs ⟨[.ref a], []⟩ [.ref a] [.ref a] (fun v _ => v = .bl true) (fun _ _ _ => False) room rfl env (bind s₁ (.ref a)) (.cons rfl .nil) ⟨a, ns, rfl, scr, len, fun _ => rfl⟩
    refine codeAny_mono run fun r s' h => ?_
    cases r with
    | error e =>
      obtain ⟨_, _, _, _, _, _, _, _, _, _, _, _, z⟩ := h
      exact z.elim
    | ok fl =>
      cases fl with
      | next => exact False.elim h
      | brk => exact False.elim h
      | cont => exact False.elim h
      | ret u =>
        obtain ⟨v, H', os, bare, un, hok', rv, q⟩ := h
        obtain rfl : v = .bl true := q
        obtain rfl : u = Value.bool true := rv
        refine ⟨rfl, OldK.of_keep fun b o e => ?_, os, bare⟩
        rcases only b with z | ⟨ob, ys, z⟩
        · exact un.keep b o e z (fun y => absurd (show b ∈ ([] : List Addr) from y) List.not_mem_nil) List.not_mem_nil
        · have z2 := un.frzs b ob _ z
          obtain ⟨e1, _⟩ := hok b _ z
          obtain ⟨e2, _⟩ := hok' b _ z2
          rw [e] at e1
          cases e1
          exact e2
  cases hk : K.lookup a with
  | some o =>
    have e := inK a o hk
    rw [hat] at e
    cases e
    refine main (fun _ => none) (fun _ => .inl rfl) (.inr ⟨_, us.toArray, _, hk, rfl, rfl, rfl, by rw [List.size_toArray, lu]; exact small, vals⟩) (fun b u z => nomatch (show (none : Option HO) = some u from z)) (fun b z => absurd rfl z) fun z => absurd rfl z
  | none =>
    let Hs : Hp := fun b => if b = a then some (.frz { cls := .type "list", data := .seq us.toArray } (.lst (ns.map V.int))) else none
    have at_a : Hs a = some (.frz { cls := .type "list", data := .seq us.toArray } (.lst (ns.map V.int))) := if_pos rfl
    have off : ∀ b, b ≠ a → Hs b = none := fun b hb => if_neg hb
    refine main Hs (fun b => ?_) (.inl ⟨_, at_a, fun z => z⟩) (fun b u z => ?_) (fun b z => ?_) fun _ => hk
    · by_cases hb : b = a
      · rw [hb]; exact .inr ⟨_, _, at_a⟩
      · exact .inl (off b hb)
    · by_cases hb : b = a
      · rw [hb, at_a] at z
        cases z
        rw [hb]
        exact ⟨hat, by rw [List.length_map]; exact small, us, _, vals, hat⟩
      · rw [off b hb] at z; cases z
    · by_cases hb : b = a
      · exact hb
      · exact absurd (off b hb) z
/-- the goal behind the head -/
theorem walk_ofG {l : PySem.W.OpenLaw} {k : Nat} {q : Program} {loose : List Str} {XP : (Str → Option Value) → Heap → Prop} {YP : World → Heap → Prop} {d : DefRec} {x : Str}
    (hn : l.most = some 63) (hdf : d.params.defaults = []) (hr : Room k callerA)
    (F : ∀ (w : World) (mg : Str → Option Value) (fa : Addr) (h : Heap), YP w h → h.Ns mainGlobals mg → mg d.name = some (.ref fa) →
      ∃ (K : PySem.W.Frag) (fd : FuncData) (cl : Addr → Option Str), K.In h ∧ (∀ (s : Shared) (u : Value), BindsTo s fd ⟨[u], []⟩ [(x, u)]) ∧ ∀ base : Heap, K.In base → base.Ns mainGlobals mg → FnG l.prog w K mg base k fa fd [x] (spLaw ⟨K, cl⟩)) :
    PySem.W.WalkO q loose XP YP l.row.toRowW d [] (fun f vs => PySem.call f vs) := by
  refine Att.attach_call hn hdf fun w s₀ s₁ mg mb fa o pm cd doc a us ns G Y ho hd hcd hmg hobj hints hlen hg => ?_
  obtain ⟨K, fd, cl, KX, hb, hF⟩ := F w mg fa _ Y G.T.g hmg
  exact run_law KX G.T.g G.T.b G.T.builtins G.T.nolimit hg hobj hints hlen hr hF hb

/-- the same where the written part is a function of the world's parameters -/
theorem walk_ofGK {l : PySem.W.OpenLaw} {k : Nat} {q : Program} {loose : List Str} {XP : (Str → Option Value) → Heap → Prop} {YP : World → Heap → Prop} {d : DefRec} {x : Str} {K : Params → PySem.W.Frag}
    (hn : l.most = some 63) (hdf : d.params.defaults = []) (hr : Room k callerA) (hY : ∀ (w : World) (h : Heap), YP w h → (K w.params).In h)
    (F : ∀ (w : World) (mg : Str → Option Value) (fa : Addr) (h : Heap), (K w.params).In h → h.Ns mainGlobals mg → mg d.name = some (.ref fa) →
      ∃ (fd : FuncData) (cl : Addr → Option Str), (∀ (s : Shared) (u : Value), BindsTo s fd ⟨[u], []⟩ [(x, u)]) ∧ ∀ base : Heap, (K w.params).In base → base.Ns mainGlobals mg → FnG l.prog w (K w.params) mg base k fa fd [x] (spLaw ⟨K w.params, cl⟩)) :
    PySem.W.WalkO q loose XP YP l.row.toRowW d [] (fun f vs => PySem.call f vs) :=
  walk_ofG hn hdf hr fun w mg fa h Y G hm => by
    obtain ⟨fd, cl, h1, h2⟩ := F w mg fa h (hY w h Y) G hm
    exact ⟨K w.params, fd, cl, hY w h Y, h1, h2⟩
/-! ### the head's facts -/
mutual
/-- the written value tells d -/
def datB (K : PySem.W.Frag) (v : Value) : D → Bool
  | .none => match v with | .none => true | _ => false
  | .bool b => match v with | .bool c => b == c | _ => false
  | .int i => match v with | .int j _ => decide (i = j) | _ => false
  | .str x => match v with | .str y _ => decide (x = y) | _ => false
  | .tuple ds => match v with
    | .ref a => (match K.lookup a with
      | some ⟨.type c, _, .seq its _, _⟩ => decide (c = "tuple") && (decide (its.size ≤ sizeLine) && datsB K its.toList ds)
      | _ => false)
    | _ => false
  | .list _ => false
  | .dict _ => false
def datsB (K : PySem.W.Frag) (vs : List Value) : List D → Bool
  | [] => vs.isEmpty
  | d :: ds => match vs with
    | v :: vs => datB K v d && datsB K vs ds
    | [] => false
end
mutual
theorem datB_ok {k : Kx} : ∀ {v : Value} {d : D}, datB k.K v d = true → ∃ x, RelV x v ∧ ∀ O H, Rp k O H x d
  | v, .none, h => by
    unfold datB at h
    split at h
    · exact ⟨.non, rfl, fun _ _ => .non⟩
    · cases h
  | v, .bool b, h => by
    unfold datB at h
    split at h
    · rename_i c
      have e : b = c := by simpa using h
      subst e
      exact ⟨.bl b, rfl, fun _ _ => .bl b⟩
    · cases h
  | v, .int i, h => by
    unfold datB at h
    split at h
    · rename_i j t
      have e := of_decide_eq_true h
      subst e
      exact ⟨.int i, ⟨t, rfl⟩, fun _ _ => .int i⟩
    · cases h
  | v, .str x, h => by
    unfold datB at h
    split at h
    · rename_i y t
      have e := of_decide_eq_true h
      subst e
      exact ⟨.str x, ⟨t, rfl⟩, fun _ _ => .str x⟩
    · cases h
  | v, .tuple ds, h => by
    unfold datB at h
    split at h
    · rename_i a
      split at h
      · rename_i c o2 its n sl lk
        obtain ⟨h1, h2⟩ := Bool.and_eq_true_iff.mp h
        obtain ⟨h3, h4⟩ := Bool.and_eq_true_iff.mp h2
        obtain ⟨xs, hv, hr⟩ := datsB_ok (k := k) h4
        exact ⟨.ref a, rfl, fun O H => .tup (.inr ⟨_, its, n, lk, congrArg Value.type (of_decide_eq_true h1), rfl, of_decide_eq_true h3, hv⟩) (hr O H)⟩
      · cases h
    · cases h
  | v, .list _, h => by unfold datB at h; cases h
  | v, .dict _, h => by unfold datB at h; cases h
theorem datsB_ok {k : Kx} : ∀ {vs : List Value} {ds : List D}, datsB k.K vs ds = true → ∃ xs, Vals xs vs ∧ ∀ O H, RpAll k O H xs ds
  | vs, [], h => by
    unfold datsB at h
    have e : vs = [] := List.isEmpty_iff.mp h
    subst e
    exact ⟨[], .nil, fun _ _ => .nil⟩
  | vs, d :: ds, h => by
    unfold datsB at h
    split at h
    · obtain ⟨h1, h2⟩ := Bool.and_eq_true_iff.mp h
      obtain ⟨x, hx, rx⟩ := datB_ok (k := k) h1
      obtain ⟨xs, hxs, rxs⟩ := datsB_ok (k := k) h2
      exact ⟨x :: xs, .cons hx hxs, fun O H => .cons (rx O H) (rxs O H)⟩
    · cases h
end
/-- further facts: a constant, a dict's rows -/
inductive Fx where
  | con (x : Str) (d : D)
  | tab (x : Str) (kvs : List (Str × D))
  | exc (x f : Str)
  | cls (xs : List Str)
  | exm (xs : List Str) (x : Str) (ys : List Str)
/-- a class over ValueError -/
def oexB (K : PySem.W.Frag) (C : Addr) : Bool := match K.lookup C with
  | some ⟨.type t, _, .cls ⟨_, _, .ref C' :: bm, _, _, hd, _, _, _, _, false⟩, ⟨[_, _, _, _, some (.builtin n), _]⟩⟩ => decide (t = "type") && (decide (C' = C) && (hd && (decide (n = "ValueError.__new__") && PySem.HandSPX.refsVE bm)))
  | _ => false
/-- the class's name, of these -/
def clOf (K : PySem.W.Frag) (xs : List Str) (a : Addr) : Option Str := xs.find? fun x => decide (He.ga K x = a)
def Fx.ok (K : PySem.W.Frag) : Fx → Bool
  | .con x d => (match PySem.W.nsIn K mainGlobals x with
    | some (some u) => datB K u d
    | _ => false)
  | .tab x kvs => He.eqO (PySem.W.nsIn K mainGlobals x) (some (some (.ref (He.ga K x)))) && kvs.all fun q => (match PySem.W.nsIn K (He.ga K x) q.1 with
    | some (some u) => datB K u q.2
    | _ => false)
  | .exc x f => He.eqO (PySem.W.nsIn K mainGlobals x) (some (some (.ref (He.ga K x)))) && (oexB K (He.ga K x) && (He.eqO (PySem.W.findIn K (.ref (He.ga K x)) "__setattr__") (some (some (.builtin "object.__setattr__"))) && (decide (PySem.W.subIn K (.ref (He.ga K x)) (.type "BaseException") = some true) && (decide (PySem.W.typeIn K (.ref (He.ga K x)) = some (.type "type"))
    && (PySem.W.keepIn K (.ref (He.ga K x)) && (He.eqO (PySem.W.findIn K (.ref (He.ga K x)) "__init__") (some (some (.ref (He.ma K (He.ga K x) "__init__")))) && (decide (PySem.W.typeIn K (.ref (He.ma K (He.ga K x) "__init__")) = some (.type "function")) && He.eqO (PySem.W.findIn K (.ref (He.ga K x)) f) (some none))))))))
  | .cls xs => xs.all fun x => decide (clOf K xs (He.ga K x) = some x)
  | .exm xs x ys => xs.all fun y => decide (PySem.W.exmOne K (.ref (He.ga K y)) (.ref (He.ga K x)) = some (ys.contains y))
theorem con_ok {k : Kx} {h : Heap} {mg : Str → Option Value} {x : Str} {d : D} (X : k.K.In h) (G : h.Ns mainGlobals mg) (c : (Fx.con x d).ok k.K = true) : Con k mg x d := by
  have c2 : (match PySem.W.nsIn k.K mainGlobals x with
    | some (some u) => datB k.K u d
    | _ => false) = true := c
  split at c2
  · rename_i u e
    obtain ⟨v, r, rp⟩ := datB_ok (k := k) c2
    exact ⟨u, v, PySem.W.mg_of X G e, r, rp⟩
  · cases c2
theorem tab_ok {k : Kx} {w : World} {h : Heap} {mg : Str → Option Value} {x : Str} {kvs : List (Str × D)} (X : k.K.In h) (G : h.Ns mainGlobals mg) (c : (Fx.tab x kvs).ok k.K = true) (kd : ∃ es n, KDict k.K w (He.ga k.K x) es n) : DictC k w mg x kvs := by
  obtain ⟨c1, c2⟩ := He.ba (show (_ && _) = true from c)
  obtain ⟨es, n, kd⟩ := kd
  refine ⟨⟨_, es, n, PySem.W.mg_of X G (He.eqO_ok c1), kd, fun z d hz => ?_⟩⟩
  have c3 := List.all_eq_true.mp c2 _ hz
  dsimp only at c3
  split at c3
  · rename_i u e
    obtain ⟨v, r, rp⟩ := datB_ok (k := k) c3
    exact ⟨u, v, e, r, rp⟩
  · cases c3
abbrev AlX : Type := He.AlT × Bool
def obsX (fa : List He.Fa) (fn : List He.DefD) (ts : List He.Tab) (fx : List Fx) (K : PySem.W.Frag) : AlX := (He.obsT fa fn ts K, fx.all fun f => f.ok K)
def valX (fn : List He.DefD) (ts : List He.Tab) (w : World) : AlX := (He.valT fn ts w, true)
def obsXG (n : Nat) (fa : List He.Fa) (fn : List He.DefD) (ts : List He.Tab) (fx : List Fx) (g : Addr → Option Obj) : AlX := obsX fa fn ts fx (He.frG g (He.asD g n))
def SaysX (fa : List He.Fa) (fn : List He.DefD) (ts : List He.Tab) (fx : List Fx) (w : World) (K : PySem.W.Frag) : Prop := obsX fa fn ts fx K = valX fn ts w
def hookX (n : Nat) (fa : List He.Fa) (fn : List He.DefD) (ts : List He.Tab) (fx : List Fx) : PySem.W.Hook where
  α := AlX
  obs := fun s => obsXG n fa fn ts fx s.heap.get?
  val := fun w => valX fn ts w
  says := fun w h => ∃ K : PySem.W.Frag, K.In h ∧ SaysX fa fn ts fx w K
  of := fun _ _ e => ⟨_, He.frG_in, e⟩
  keeps := fun _ _ _ ⟨K, hK, c⟩ k => ⟨K, PySem.W.Frag.In.keeps hK k, c⟩
theorem obsXG_eq {n : Nat} {fa : List He.Fa} {fn : List He.DefD} {ts : List He.Tab} {fx : List Fx} {g : Addr → Option Obj} {s : Shared} (h : ∀ a, g a = s.heap.get? a) : obsXG n fa fn ts fx g = (hookX n fa fn ts fx).obs s := by
  have e : g = s.heap.get? := funext h
  rw [e] <;> rfl
section
variable {fa : List He.Fa} {fn : List He.DefD} {ts : List He.Tab} {fx : List Fx} {w : World} {K : PySem.W.Frag}
theorem SaysX.t (c : SaysX fa fn ts fx w K) : He.SaysT fa fn ts w K := congrArg (fun z : AlX => z.1) c
theorem SaysX.ex (c : SaysX fa fn ts fx w K) (i : Nat) {f : Fx} (h : fx[i]? = some f := by rfl) : f.ok K = true :=
  List.all_eq_true.mp (show (fx.all fun f => f.ok K) = true from congrArg (fun z : AlX => z.2) c) f (List.mem_of_getElem? h)
end
/-- a def of no default -/
theorem fun_of {K : PySem.W.Frag} {x qual : Str} {st : Stmt} {f : Addr} {fd : FuncData} (F : FunD K x qual (defArgs st) (defBody st) (defScope st) [] [] f fd) : Fun K x qual st f fd := by
  obtain ⟨oc, od, dV, kV, doc, pm, an, cdv, ct, osl, e, lk, cd, dv, _⟩ := F.ex
  rcases dv with ⟨_, z⟩ | ⟨z, _⟩
  · subst z
    exact ⟨⟨oc, od, kV, doc, pm, an, cdv, ct, osl, e, lk, cd⟩, F.kp⟩
  · exact absurd rfl z
/-! ### the module's own exceptions -/
theorem oexB_ok {K : PySem.W.Frag} {C : Addr} (h : oexB K C = true) : ∃ nm q N bs bm sn sub ab col dd k0 k1 k2 k3 k5, K.lookup C = some (excClassObj nm q C N bs bm true sn sub ab col dd k0 k1 k2 k3 k5 "ValueError.__new__") ∧ PySem.HandSPX.refsVE bm = true := by
  unfold oexB at h
  split at h
  · rename_i lk
    obtain ⟨h1, h2⟩ := He.ba h
    obtain ⟨h3, h4⟩ := He.ba h2
    obtain ⟨h5, h6⟩ := He.ba h4
    obtain ⟨h7, h8⟩ := He.ba h6
    have e1 := of_decide_eq_true h1
    have e2 := of_decide_eq_true h3
    have e3 := of_decide_eq_true h7
    subst e1 e2 h5 e3
    exact ⟨_, _, _, _, _, _, _, _, _, _, _, _, _, _, _, lk, h8⟩
  · cases h
theorem cl_back {K : PySem.W.Frag} {xs : List Str} {a : Addr} {x : Str} (h : clOf K xs a = some x) : x ∈ xs ∧ a = He.ga K x :=
  ⟨List.mem_of_find?_eq_some h, (of_decide_eq_true (List.find?_some (p := fun y => decide (He.ga K y = a)) (a := x) (l := xs) h)).symm⟩
theorem cls_at {K : PySem.W.Frag} {xs : List Str} {x : Str} (c : (Fx.cls xs).ok K = true) (h : x ∈ xs) : clOf K xs (He.ga K x) = some x := of_decide_eq_true (List.all_eq_true.mp c x h)
theorem exm_at {K : PySem.W.Frag} {xs ys : List Str} {x : Str} (c : (Fx.exm xs x ys).ok K = true) : ∀ C' nm, clOf K xs C' = some nm → PySem.W.exmOne K (.ref C') (.ref (He.ga K x)) = some (ys.contains nm) := fun C' nm h => by
  obtain ⟨h1, h2⟩ := cl_back h
  subst h2
  exact of_decide_eq_true (List.all_eq_true.mp c nm h1)
theorem exc_at {P : Program} {w : World} {k : Kx} {h : Heap} {mg : Str → Option Value} {base : Heap} {x f sn pn qual : Str} {st : Stmt} {p1 p2 p3 p4 : Pos} {fd : FuncData} (X : k.K.In h) (G : h.Ns mainGlobals mg) (c : (Fx.exc x f).ok k.K = true) (hcl : k.cl (He.ga k.K x) = some x)
    (F : FunD k.K "__init__" qual (defArgs st) (defBody st) (defScope st) [] [] (He.fAd k.K (x, some "__init__")) fd) (S : FnScope [sn, pn] [sn, pn] (defScope st)) (hb : defBody st = [.Assign [.Attribute (.Name sn p1) f p2] (.Name pn p3) p4])
    (bI : Binds k.K fd [sn, pn] []) (v1 : Vis (defScope st) sn) (v2 : Vis (defScope st) pn) (hsw : ∀ env : PySem.Env, swapsWith (.Name pn p3) (some (.Attribute (.Name sn p1) f p2)) p4.line env = pure false)
    (d1 : (sn == ("__debug__" : Str)) = false) (d2 : (sn == ("__classdict__" : Str)) = false) (d3 : (pn == ("__debug__" : Str)) = false) (d4 : (pn == ("__classdict__" : Str)) = false) :
    mg x = some (.ref (He.ga k.K x)) ∧ XcC P w k.K mg base k (He.ga k.K x) (He.fAd k.K (x, some "__init__")) fd x f [sn, pn] := by
  obtain ⟨c0, c⟩ := He.ba (show (_ && _) = true from c)
  obtain ⟨c1, c⟩ := He.ba c
  obtain ⟨c2, c⟩ := He.ba c
  obtain ⟨c3, c⟩ := He.ba c
  obtain ⟨c4, c⟩ := He.ba c
  obtain ⟨c5, c⟩ := He.ba c
  obtain ⟨c6, c⟩ := He.ba c
  obtain ⟨c7, c8⟩ := He.ba c
  have T : OexC k.K (He.ga k.K x) := ⟨oexB_ok c1, He.eqO_ok c2, of_decide_eq_true c3, of_decide_eq_true c4, c5⟩
  refine ⟨PySem.W.mg_of X G (He.eqO_ok c0), ⟨T, He.eqO_ok c6, of_decide_eq_true c7, hcl, bI, ?_⟩⟩
  refine FunD.ok (CX := L2.CX P w) (k := 0) F S (fun vs H Q E h => ?_) fun cdv A outer s H vs Q E hr h => ?_
  · obtain ⟨a, v, e, _⟩ := h
    rw [e] <;> rfl
  · obtain ⟨a, v, e, ha, q⟩ := h
    subst e
    rw [hb]
    refine ⟨_, pss_one (ps_ost (pe_var (i := 0) rfl v1 d1 d2) (pe_var (i := 1) rfl v2 d3 d4) (hsw _)), ?_⟩
    exact ⟨v, rfl, .ref a, rfl, a, _, rfl, T, He.eqO_ok c8, .inl ⟨ha, fun dx n ne => q dx n ne⟩⟩
end Dl

namespace Dl
open PySem PySem.Spec L2

/-! ### a def of the text, and its call -/
/-- where the def stands, and its name -/
structure Df (K : PySem.W.Frag) (mg : Str → Option Value) (x : Str) (st : Stmt) (ps : List Str) : Prop where
  ex : ∃ f fd, Fun K x x st f fd ∧ mg x = some (.ref f) ∧ Binds K fd ps []
theorem cal_of {P : Program} {w : World} {K : PySem.W.Frag} {mg : Str → Option Value} {base : Heap} {x : Str} {st : Stmt} {N ps : List Str} {k : Nat} {F : Fs} {kx : Kx} (D : Df K mg x st ps) (S : FnScope N ps (defScope st)) (hK : kx.K = K) (len : ∀ rs R X, F rs R X → rs.length = ps.length)
    (body : ∀ (f : Addr) (cdv : Value) (A : Around) (outer : List PySem.Env) (s : Shared) (H : Hp) (E : XK) (hk : Option (Addr × Addr)) (rs : List Rs) (R : Rs → Prop) (Xp : Ec → Prop), F rs R Xp →
      Room k (cxOf (L2.CX P w) P w K mg base N x (defScope st) f cdv A outer s H E).A → Bd (cxOf (L2.CX P w) P w K mg base N x (defScope st) f cdv A outer s H E) (csOf kx hk E Xp) →
      Takes (cxOf (L2.CX P w) P w K mg base N x (defScope st) f cdv A outer s H E) (csOf kx hk E Xp).W →
      DSs (cxOf (L2.CX P w) P w K mg base N x (defScope st) f cdv A outer s H E) (csOf kx hk E Xp) (defBody st) (startG N rs) { nx := fun _ => R (.val .none), rt := R }) : Cal P w K mg base kx (k + 1) x F := by
  obtain ⟨f, fd, Fn, m, b⟩ := D.ex
  exact ⟨f, fd, ps, fnG_of (F := F) Fn S hK len (body f), m, Fn.kp, b⟩
theorem Cal.imp {P : Program} {w : World} {K : PySem.W.Frag} {mg : Str → Option Value} {base : Heap} {x : Str} {k : Nat} {F F' : Fs} {kx : Kx} (C : Cal P w K mg base kx k x F) (h : ∀ rs R X, F' rs R X → F rs R X) : Cal P w K mg base kx k x F' := by
  obtain ⟨f, fd, ps, Fn, m, kp, b⟩ := C.ex
  exact ⟨f, fd, ps, Fn.imp (spG.imp fun rs R X z => ⟨R, X, h rs R X z, fun _ z => z, fun _ z => z⟩), m, kp, b⟩
theorem Cal.mono {P : Program} {w : World} {K : PySem.W.Frag} {mg : Str → Option Value} {base : Heap} {x : Str} {j k : Nat} {F : Fs} {kx : Kx} (C : Cal P w K mg base kx j x F) (h : j ≤ k) : Cal P w K mg base kx k x F := by
  obtain ⟨f, fd, ps, Fn, m, kp, b⟩ := C.ex
  exact ⟨f, fd, ps, Fn.mono h, m, kp, b⟩
/-! ### comprehensions over one name -/
def blkB (N : List Str) (sc scope : Scope) (own : List (Str × Nat)) : Bool := (match scope.kind with | .function => true | _ => false) && (scope.names.all (fun y => decide (scope.names.lookup y.1 = some y.2)) && (own.all (fun p => decide (N[p.2]? = some p.1))
  && (scope.names.all (fun y => !(decide (y.2 = .free)) || (decide (sc.names.lookup y.1 = some .cell) || decide (sc.names.lookup y.1 = some .free))) && scope.names.all (fun y => !(decide (y.2 = .local) || decide (y.2 = .cell)) || (decide (y.1 ∈ own.map (·.1)) || decide (y.1 ∉ N))))))
theorem blk_of {N : List Str} {sc scope : Scope} {own : List (Str × Nat)} (h : blkB N sc scope own = true) : BlkOk N sc scope own := by
  obtain ⟨h1, h⟩ := He.ba h
  obtain ⟨h2, h⟩ := He.ba h
  obtain ⟨h3, h⟩ := He.ba h
  obtain ⟨h4, h5⟩ := He.ba h
  refine ⟨?_, fun y hy => of_decide_eq_true (List.all_eq_true.mp h2 y hy), fun p hp => of_decide_eq_true (List.all_eq_true.mp h3 p hp), fun y hy e => ?_, fun y hy e => ?_⟩
  · split at h1
    · assumption
    · cases h1
  · have z := List.all_eq_true.mp h4 y hy
    simp only [e, decide_true, Bool.not_true, Bool.false_or, Bool.or_eq_true, decide_eq_true_eq] at z
    exact z
  · have z := List.all_eq_true.mp h5 y hy
    have e' : (decide (y.2 = NameKind.local) || decide (y.2 = NameKind.cell)) = true := by rcases e with e | e <;> simp [e]
    rw [e', Bool.not_true, Bool.false_or, Bool.or_eq_true, decide_eq_true_eq, decide_eq_true_eq] at z
    exact z
section
variable {X : Cx} {c : Cs} {e e2 elt iter : Expr} {body : List Stmt} {Γ : List Sl} {K : Rs → Prop} {pos tp spos py : Pos} {scope : Scope} {x y : Str} {E : Pd}
theorem dgb1 (i : Nat) (bd : Bd X c) (hi : X.N[i]? = some x) (hf : scope.names.lookup x = some .local) : DGB (famOf X scope) c.mute (.Name x tp) [i] fun d Γ Γ' => Γ' = Γ.set i (.val d) :=
  dgb_name i (fun _ _ _ _ _ => bd.nd) (fun _ _ _ _ _ => hi) (fun _ _ _ _ _ => .inl (lookup_relabel_local hf)) (fun _ _ _ _ _ => .inr (lookup_relabel_local hf))
/-- what is shown of [elt for x in ds] -/
def Comp1 (X : Cx) (c : Cs) (elt : Expr) (scope : Scope) (i : Nat) (Γ : List Sl) (ds : List D) (L : List D → Prop) : Prop := ds.length ≤ sizeLine ∧ ∃ P : D → D → Prop,
  (∀ d, d ∈ ds → ∀ s H C cl fp, Bd (famOf X scope s H C cl fp) c.mute → DE (famOf X scope s H C cl fp) c.mute elt (Γ.set i (.val d)) fun r => ∃ e, r.dat = some e ∧ P d e) ∧ ∀ es, Paired P ds es → L es
theorem comp1 {i : Nat} {ds : List D} {L : List D → Prop} (bd : Bd X c) (h : Comp1 X c elt scope i Γ ds L) : CompAll X c elt scope [(x, i)] (fun d Γ Γ' => Γ' = Γ.set i (.val d)) Γ ds L := by
  obtain ⟨h1, P, h2, h3⟩ := h
  refine ⟨h1, P, fun d hd => ⟨_, rfl, fun s H C cl fp => ?_⟩, h3⟩
  have z := h2 d hd s H C cl fp (bd.blk scope s H C cl fp)
  show DE (famOf X scope s H C cl fp) c.mute elt ((Γ.set i .un).set i (.val d)) _
  rw [List.set_set]
  exact z
theorem de_comp1 (i : Nat) (bd : Bd X c) (hc : X.calm = true) (hi : X.N[i]? = some x) (hf : scope.names.lookup x = some .local) (ok : blkB X.N X.env.scope scope [(x, i)] = true) (h : DI X c (.Name x tp) iter Γ fun ds => Comp1 X c elt scope i Γ ds fun es => K (.new (.l es)))
    (hs : ∀ x, foldedSetIterable iter X.env x = pure x := by intro _; rfl) : DE X c (.ListComp elt [⟨.Name x tp, iter, [], 0⟩] scope pos) Γ K :=
  de_compA bd hc (blk_of ok) (dgb1 i bd hi hf) (by simp) (h.mono fun ds z => comp1 (x := x) bd z) hs
theorem ds_setComp1 (i j : Nat) (bd : Bd X c) (hc : X.calm = true) (hi : X.N[i]? = some x) (hf : scope.names.lookup x = some .local) (ok : blkB X.N X.env.scope scope [(x, i)] = true) (hy : X.N[j]? = some y) (hyl : X.env.scope.names.lookup y = some .local)
    (hsw : swapsWith (.ListComp elt [⟨.Name x tp, iter, [], 0⟩] scope pos) (some (.Name y py)) spos.line X.env = pure true) (h : DI X c (.Name x tp) iter Γ fun ds => Comp1 X c elt scope i Γ ds fun es => E.nx (Γ.set j (.own (.l es))))
    (hs : ∀ x, foldedSetIterable iter X.env x = pure x := by intro _; rfl) : DS X c (.Assign [.Name y py] (.ListComp elt [⟨.Name x tp, iter, [], 0⟩] scope pos) spos) Γ E :=
  ds_setCompA bd hc hy hyl hsw (blk_of ok) (dgb1 i bd hi hf) (by simp) (h.mono fun ds z => comp1 (x := x) bd z) hs
/-- [elt for x in ds if tst]: t tells the test -/
def Comp1S (X : Cx) (c : Cs) (elt tst : Expr) (scope : Scope) (i : Nat) (Γ : List Sl) (ds : List D) (L : List D → Prop) : Prop := ds.length ≤ sizeLine ∧ ∃ (t : D → Bool) (P : D → D → Prop),
  (∀ d, d ∈ ds → ∀ s H C cl fp, Bd (famOf X scope s H C cl fp) c.mute → DT (famOf X scope s H C cl fp) c.mute tst (Γ.set i (.val d)) (fun b => b = t d) ∧ (t d = true → DE (famOf X scope s H C cl fp) c.mute elt (Γ.set i (.val d)) fun r => ∃ e, r.dat = some e ∧ P d e)) ∧ ∀ es, Paired P (ds.filter t) es → L es
theorem comp1S {i : Nat} {tst : Expr} {ds : List D} {L : List D → Prop} (bd : Bd X c) (h : Comp1S X c elt tst scope i Γ ds L) : CompSome X c elt tst scope [(x, i)] (fun d Γ Γ' => Γ' = Γ.set i (.val d)) Γ ds L := by
  obtain ⟨h1, t, P, h2, h3⟩ := h
  refine ⟨h1, t, P, fun d hd => ⟨_, rfl, fun s H C cl fp => ?_⟩, h3⟩
  have z := h2 d hd s H C cl fp (bd.blk scope s H C cl fp)
  show DT (famOf X scope s H C cl fp) c.mute tst ((Γ.set i .un).set i (.val d)) _ ∧ (_ → DE (famOf X scope s H C cl fp) c.mute elt ((Γ.set i .un).set i (.val d)) _)
  rw [List.set_set]
  exact z
theorem de_comp1S {tst : Expr} (i : Nat) (bd : Bd X c) (hc : X.calm = true) (hi : X.N[i]? = some x) (hf : scope.names.lookup x = some .local) (ok : blkB X.N X.env.scope scope [(x, i)] = true) (h : DI X c (.Name x tp) iter Γ fun ds => Comp1S X c elt tst scope i Γ ds fun es => K (.new (.l es)))
    (hs : ∀ x, foldedSetIterable iter X.env x = pure x := by intro _; rfl) : DE X c (.ListComp elt [⟨.Name x tp, iter, [tst], 0⟩] scope pos) Γ K :=
  de_compS bd hc (blk_of ok) (dgb1 i bd hi hf) (by simp) (h.mono fun ds z => comp1S (x := x) bd z) hs
theorem ds_setComp1S {tst : Expr} (i j : Nat) (bd : Bd X c) (hc : X.calm = true) (hi : X.N[i]? = some x) (hf : scope.names.lookup x = some .local) (ok : blkB X.N X.env.scope scope [(x, i)] = true) (hy : X.N[j]? = some y) (hyl : X.env.scope.names.lookup y = some .local)
    (hsw : swapsWith (.ListComp elt [⟨.Name x tp, iter, [tst], 0⟩] scope pos) (some (.Name y py)) spos.line X.env = pure true) (h : DI X c (.Name x tp) iter Γ fun ds => Comp1S X c elt tst scope i Γ ds fun es => E.nx (Γ.set j (.own (.l es))))
    (hs : ∀ x, foldedSetIterable iter X.env x = pure x := by intro _; rfl) : DS X c (.Assign [.Name y py] (.ListComp elt [⟨.Name x tp, iter, [tst], 0⟩] scope pos) spos) Γ E :=
  ds_setCompS bd hc hy hyl hsw (blk_of ok) (dgb1 i bd hi hf) (by simp) (h.mono fun ds z => comp1S (x := x) bd z) hs
/-- for x in ds -/
theorem ds_for1 (i : Nat) (bd : Bd X c) (hc : X.calm = true) (hi : X.N[i]? = some x) (hx : Loc X.env.scope x) (hf : X.fn x = true ∨ X.env.scope.names.lookup x = some .local) (h : DI X c (.Name x tp) iter Γ fun ds => ∃ Iv : Nat → List Sl → Prop, Iv 0 Γ ∧
      (∀ j d Γ1, ds[j]? = some d → Iv j Γ1 → DSs X c body (Γ1.set i (.val d)) { nx := Iv (j + 1), rt := E.rt, bk := E.nx, ct := Iv (j + 1) }) ∧ ∀ Γ1, Iv ds.length Γ1 → E.nx Γ1)
    (hs : ∀ x, foldedSetIterable iter X.env x = pure x := by intro _; rfl) : DS X c (.For (.Name x tp) iter body [] pos) Γ E :=
  ds_for bd hc (dg_name i bd hi hx hf) (h.mono fun ds ⟨Iv, h0, h1, h2⟩ => ⟨Iv, h0, fun j d Γ1 hd hI => ⟨_, rfl, h1 j d Γ1 hd hI⟩, h2⟩) hs
/-! ### list.index, slices -/
theorem its_rd {r : Rs} {ds : List D} (h : r.its = some ds) : r.rd = some (.list ds) := by
  cases r with
  | val d => cases d <;> simp [Rs.its] at h; subst h; rfl
  | new t => cases t <;> simp [Rs.its] at h; subst h; rfl
  | own t => cases t <;> simp [Rs.its] at h; subst h; rfl
  | bor t => cases t <;> simp [Rs.its] at h; subst h; rfl
  | hnd => simp [Rs.its] at h
theorem de_index {apos cpos : Pos} (bd : Bd X c) (h : DE X c e Γ fun ra => ∃ ds, ra.its = some ds ∧ DE X c e2 Γ fun rb => ∃ d j z, rb.rd = some d ∧ SeqAt.shaped (.list ds) = true ∧ SeqAt.shaped d = true ∧ ds[j]? = some z ∧ PyData.eqv z d = true ∧ (∀ (m : Nat) (z' : D), m < j → ds[m]? = some z' → PyData.eqv z' d = false) ∧ K (.val (.int (j : Nat))))
    (hbase : attributeBase e "index" X.env (eval e X.env) = eval e X.env := by rfl)
    (hfew : ((backTo cpos (starEach (e2 :: []) X.env)).all (fun x => !x.1) && (backToKw cpos (keywordEach [] X.env)).all (fun x => x.1.isSome)
      && decide ((e2 :: ([] : List Expr)).length + ([] : List Keyword).length + (if ([] : List Keyword).isEmpty then 0 else 1) < 30)) = true := by rfl)
    (hline : (apos.endLine == cpos.line) = true := by rfl) (hs : starEach (e2 :: []) X.env = (false, eval e2 X.env) :: starEach [] X.env := by rfl) (hplain : (backTo cpos (starEach [] X.env)).any (·.1) = false := by rfl) :
    DE X c (.Call (.Attribute e "index" apos) [e2] [] cpos) Γ K := by
  have u2 : X.A.units + 65 < cLine := by have := bd.un; omega
  refine PE.weak (pe_bm PySem.F.plainAttrs_list PySem.F.slot_list_index PySem.F.type_list_index (mt_indexD u2) (pe_U (c := c) (Γ := Γ)) (pa_cons (pe_U (c := c) (Γ := Γ)) pa_nil hs) hbase hfew hline hs hplain) fun σ H Q ⟨B, O, S, xc, q⟩ => ?_
  refine ⟨_, h, B, O, S, xc, fun v H1 ra k1 a1 o1 ⟨ds, el, h2⟩ => ?_⟩
  have S1 := S.step k1 a1
  obtain ⟨p, xs, rfl, hp, hx⟩ := (o1.at S).list el
  refine ⟨.inl ⟨rfl, xs, SqL.of hp⟩, _, h2, B, O, S1, xc, fun v2 H2 rb k2 a2 o2 ⟨d, j, z, e2, s1, s2, hz, hq, hno, hK⟩ => ?_⟩
  have S2 := S1.step k2 a2
  have r1 := (o1.later S k1 a1 k2).at S
  have er : ra.rd = some (.list ds) := its_rd el
  exact ⟨p, v2, d, ds, j, z, rfl, rfl, by rw [bd.kx]; exact r1.dp er s1, by rw [bd.kx]; exact (o2.at S1).dp e2 s2, s1, s2, hz, hq, hno, q _ H2 (.val (.int (j : Nat))) (k1.trans k2) a2 (Rp.int _) hK⟩
end
end Dl

namespace Dl
open PySem PySem.Spec L2

/-! ### calls from an except suite -/
structure FnW (P : Program) (w : World) (K : PySem.W.Frag) (mg : Str → Option Value) (base : Heap) (k : Nat) (f : Addr) (fd : FuncData) (ps : List Str) (sp : Sp) : Prop where
  len : ∀ vs H Q E, sp vs H Q E → vs.length = ps.length
  run : ∀ (A : Around) (outer : List PySem.Env) (s : Shared) (H : Hp) (args : Args) (us : List Value) (vs : List V) (Q : VK) (E : XK) (p : Addr × Obj), L2H.RoomH k A → A.guards = some [] → L2H.PinOk outer H s p →
    Env0 P w K mg base A outer s H → BindsTo s fd args (ps.zip us) → Vals vs us → sp vs H Q E → codeAny (model P w) A (.call (.ref f) args) (CR (L2.CX P w) outer P w H s Q E) s
structure CalW (P : Program) (w : World) (K : PySem.W.Frag) (mg : Str → Option Value) (base : Heap) (kx : Kx) (k : Nat) (x : Str) (F : Fs) : Prop where
  ex : ∃ f fd ps, FnW P w K mg base k f fd ps (spG kx F) ∧ mg x = some (.ref f) ∧ PySem.W.keepIn K (.ref f) = true ∧ Binds K fd ps []
theorem calW_of {P : Program} {w : World} {K : PySem.W.Frag} {mg : Str → Option Value} {base : Heap} {x : Str} {st : Stmt} {N ps : List Str} {k : Nat} {F : Fs} {kx : Kx} (Dd : Df K mg x st ps) (S : FnScope N ps (defScope st)) (hK : kx.K = K) (len : ∀ rs R X, F rs R X → rs.length = ps.length)
    (body : ∀ (f : Addr) (cdv : Value) (A : Around) (outer : List PySem.Env) (s : Shared) (H : Hp) (E : XK) (hk : Option (Addr × Addr)) (rs : List Rs) (R : Rs → Prop) (Xp : Ec → Prop) (p : Addr × Obj), F rs R Xp →
      L2H.RoomH k (L2H.cxH (L2.CX P w) P w K mg base N x (defScope st) f cdv A outer s H E p).A → Bd (L2H.cxH (L2.CX P w) P w K mg base N x (defScope st) f cdv A outer s H E p) (csOf kx hk E Xp).mute →
      DSs (L2H.cxH (L2.CX P w) P w K mg base N x (defScope st) f cdv A outer s H E p) (csOf kx hk E Xp).mute (defBody st) (startG N rs) { nx := fun _ => R (.val .none), rt := R }) : CalW P w K mg base kx (k + 1) x F := by
  obtain ⟨f, fd, Fn, m, b⟩ := Dd.ex
  refine ⟨f, fd, ps, ?_, m, Fn.kp, b⟩
  obtain ⟨oc, od, kV, doc, pm, an, cdv, ct, osl, rfl, lk, hcd⟩ := Fn.ex
  have hlen : ∀ vs H Q E, spG kx F vs H Q E → vs.length = ps.length := fun vs H Q E ⟨hk, O0, rs, R, Xp, h1, _, _, _, h5, _⟩ => h1.length.trans (len rs R Xp h5)
  have hpl : ps.length ≤ N.length := by
    have z := congrArg List.length S.pre
    rw [List.length_take] at z
    omega
  refine ⟨hlen, fun A outer s H args us vs Q E p hr hg pin e0 hb r hsp => ?_⟩
  have hl := hlen _ _ _ _ hsp
  obtain ⟨hk, O0, rs, R, Xp, h1, h2, h3, h4, h5, h6, h7⟩ := hsp
  have inK : K.In s.heap := e0.mod.kin.keeps fun b o e => (e0.bs b o e).1
  have lim : s.heap.NoLimit := e0.mod.nolimit.keeps fun b o e => (e0.bs b o e).1
  refine codeAny_call_function hr.depth (inK _ _ lk) rfl S.co S.gen rfl (PySem.W.codeRec_of inK hcd) (hb _ _ _ _ ?_)
  refine wpAny_newFunctionEnv_cells S.kind (fun y hy => ?_) fun env he s1 ic => ?_
  · rcases S.par y.1 (List.of_mem_zip (show (y.1, y.2) ∈ ps.zip us from hy)).1 with q | q
    · exact .inl q
    · exact .inr ⟨q, PySem.W.cellsFrom_some _ _ _ (.inl q)⟩
  subst he
  refine ⟨lim.keeps ic.toInCall.keep, codeAny_func ?_⟩
  have I := L2H.inv_startH (CX := L2.CX P w) (cd := cdv) (f := f) (qual := x) (E := E) S pin e0 hl r ic
  have room := hr.deeper (PyProof.Rows.envOfC x (defScope st) s.heap.objs.size f cdv)
  have bd : Bd (L2H.cxH (L2.CX P w) P w K mg base N x (defScope st) f cdv A outer s H E p) (csOf kx hk E Xp).mute := ⟨hK.symm, S.nd, by
    have z : (A.deeper (PyProof.Rows.envOfC x (defScope st) s.heap.objs.size f cdv)).units + 16 * k + 200 < cLine := room.un
    show (A.deeper (PyProof.Rows.envOfC x (defScope st) s.heap.objs.size f cdv)).units + 200 < cLine
    omega, hg, passes_of rfl⟩
  have ht := body f cdv A outer s H E hk rs R Xp p h5 room bd
  have S0 := (start_ok (N := N) h1 h2 h3 h4 (by omega)).mute
  refine wpAny_mono (ht.run [] s1 (L2.start N vs) H { nx := fun _ H' => Q .non H', rt := Q } I ⟨_, _, S0, exc_mute, ⟨fun O Γ σ H' S z => h6 .non H' (.val .none) S.keep S.hand Rp.non z, fun O Γ σ H' v r S ok z => h6 v H' r S.keep S.hand (by cases r <;> exact ok) z, fun _ _ _ _ _ z => z.elim, fun _ _ _ _ _ z => z.elim⟩⟩) (fun fl s' hs => ?_) fun e s' hs => hs
  cases fl with
  | ret u => obtain ⟨v, σ', H', J, rv, q⟩ := hs; exact ⟨v, H', J.os, J.bare, J.base, J.hok, rv, q⟩
  | next => obtain ⟨σ', H', J, q⟩ := hs; exact ⟨V.non, H', J.os, J.bare, J.base, J.hok, rfl, q⟩
  | brk => obtain ⟨_, _, _, q⟩ := hs; exact q.elim
  | cont => obtain ⟨_, _, _, q⟩ := hs; exact q.elim
section
variable {X : Cx} {c : Cs} {k : Nat} {F : Fs} {x : Str} {p pos p2 : Pos} {e e2 : Expr} {es : List Expr} {Γ : List Sl} {K : Rs → Prop}
theorem de_callW (C : CalW X.prog X.w X.K X.mg X.base c.kx k x F) (hr : L2H.RoomH k X.A) (bd : Bd X c) (hp : ∃ q, q ∈ X.pn) (h : DA X c (e :: es) Γ fun rs => ∃ as, argsOf rs = some as ∧ F as K (fun _ => False)) (hg : Gl X x := by rfl)
    (hdb : (x == ("__debug__" : Str)) = false := by decide) (he : starEach (e :: es) X.env = (false, eval e X.env) :: starEach es X.env := by rfl) (hpl : (backTo pos (starEach es X.env)).any (·.1) = false := by rfl) : DE X c (.Call (.Name x p) (e :: es) [] pos) Γ K := by
  obtain ⟨f, fd, ps, Fn, hm, hk, hb⟩ := C.ex
  obtain ⟨q0, hq0⟩ := hp
  refine ⟨fun pins s σ H Q I ⟨B, O, S, xc, q⟩ => ?_⟩
  refine wpAny_Call_Name_kw (ld_glob I hg hm ?_ hdb)
  refine PySem.W.callWith_K (h₀ := X.base) I.ok.mod.kin hk (thn ((pa_U (X := X) (c := c) (Γ := Γ)).run pos pins s σ H (fun vs H1 => ∃ as, ArgsOk c O H1 vs as ∧ F as K (fun _ => False) ∧ Kp c H H1 ∧ c.HA H1) I ?_) fun us s1 ⟨vs, H1, I1, r, as, ao, hF, k1, a1⟩ => ⟨I1.kIn, ?_⟩) he hpl
  · exact ⟨_, h, B, O, S, xc, fun vs H1 rs k1 a1 o1 ⟨as, ea, hF⟩ => ⟨as, (o1.ats S).args (S.step k1 a1) ea, hF, k1, a1⟩⟩
  · have S1 := S.step k1 a1
    have hsp : spG c.kx F vs H1 Q (fun _ _ _ => False) := ⟨c.hk, O, as, K, fun _ => False, ArgsOk.re (c := c) (c' := csOf c.kx c.hk _ _) rfl rfl ao, S1.hand, fun a m => S1.mO m, S1.al, hF,
      fun v H' r k ha ok z => q v H' r (k1.trans k) ha ((RtOk.back rfl rfl S1 ok).ahead k1 a1) z, fun cls d H' e k ha ea z => z⟩
    have hl : us.length = ps.length := r.length.symm.trans (Fn.len _ _ _ _ hsp)
    have b := hb s1 us I1.kIn (by rw [List.append_nil]; exact hl)
    rw [List.append_nil] at b
    have P1 := I1.pin q0 (List.mem_append_left _ hq0)
    have hpin : L2H.PinOk X.stack H1 s1 q0 := ⟨P1.1, P1.2.1, fun hm => (List.mem_cons.mp (I1.stkSub q0.1 hm)).elim P1.2.2.1 P1.2.2.2.1, P1.2.2.2.2⟩
    refine wpAny_call (codeAny_mono (Fn.run X.A X.stack s1 H1 ⟨us, []⟩ us vs Q (fun _ _ _ => False) q0 hr bd.gd hpin I1.env0 b r hsp) fun r s' hq => ?_)
    cases r with
    | error e =>
      obtain ⟨_, _, _, _, _, _, _, _, _, _, _, _, z⟩ := hq
      exact z.elim
    | ok fl =>
      cases fl with
      | ret u => exact I1.after hq
      | next => exact hq.elim
      | brk => exact hq.elim
      | cont => exact hq.elim
theorem Bd.suite (bd : Bd X c) (a dd : Addr) (pn : List (Addr × Obj)) : Bd (X.suite a pn) (c.suite a dd) := ⟨bd.kx, bd.nd, bd.un, bd.gd, PassesOwn.never⟩
theorem Bd.tr (bd : Bd X c) {pn : List (Addr × Obj)} {xe : Value → Shared → Prop} {W : WX} {ex : Ec → List Sl → Prop} (po : PassesOwn (model X.prog X.w) X.A X.env xe) : Bd (X.tr pn xe) { c with W := W, ex := ex } := ⟨bd.kx, bd.nd, bd.un, bd.gd, po⟩
theorem roomS {a : Addr} {pn : List (Addr × Obj)} {j : Nat} (hr : Room j X.A) (h : k ≤ j) : L2H.RoomH k (X.suite a pn).A := L2H.RoomH.mono (j := k) (k := j) ⟨hr.dp, hr.un⟩ h
/-! ### slices -/
def cutD (ds : List D) (lo hi : Option Int) : List D := (ds.drop (HT.sIx ds.length 0 lo)).take (HT.sIx ds.length ds.length hi - HT.sIx ds.length 0 lo)
theorem RpAll.cut {k : Kx} {O : Addr → Prop} {H : Hp} {xs : List V} {ds : List D} (h : RpAll k O H xs ds) (lo hi : Option Int) : RpAll k O H (cutV xs lo hi) (cutD ds lo hi) := by
  unfold cutV cutD
  rw [h.length]
  exact (h.drop _).take _
/-- xs[:e] -/
theorem de_cutHi (bd : Bd X c) (h : DE X c e Γ fun ra => ∃ ds, ra.its = some ds ∧ DE X c e2 Γ fun rb => ∃ i, rb = .val (.int i) ∧ K (.new (.l (cutD ds none (some i))))) : DE X c (.Subscript e (.Slice none (some e2) none p2) pos) Γ K :=
  PE.weak (pe_slice sl_list (pe_U (c := c) (Γ := Γ)) po_none (po_some (pe_U (c := c) (Γ := Γ)))) fun σ H Q ⟨B, O, S, xc, q⟩ => by
    refine ⟨_, h, B, O, S, xc, fun v H1 ra k1 a1 o1 ⟨ds, el, h2⟩ => ?_⟩
    have S1 := S.step k1 a1
    refine ⟨_, h2, B, O, S1, xc, fun v2 H2 rb k2 a2 o2 ⟨i, e, z⟩ => ?_⟩
    subst e
    have S2 := S1.step k2 a2
    cases (o2.at S1).int
    obtain ⟨p, xs, rfl, hp, hx⟩ := ((o1.later S k1 a1 k2).at S).list el
    exact ⟨i, rfl, p, xs, rfl, SqL.of hp, fun l hl => q _ _ (.new (.l (cutD ds none (some i)))) ((k1.trans k2).trans (Kp.new hl)) (a2.new hl) ⟨l, rfl, (k1.trans k2).free a2 hl, _, upd_same, (hx.cut none (some i)).mv (mvNew hl)⟩ z⟩
/-- xs[e:] -/
theorem de_cutLo (bd : Bd X c) (h : DE X c e Γ fun ra => ∃ ds, ra.its = some ds ∧ DE X c e2 Γ fun rb => ∃ i, rb = .val (.int i) ∧ K (.new (.l (cutD ds (some i) none)))) : DE X c (.Subscript e (.Slice (some e2) none none p2) pos) Γ K :=
  PE.weak (pe_slice sl_list (pe_U (c := c) (Γ := Γ)) (po_some (pe_U (c := c) (Γ := Γ))) po_none) fun σ H Q ⟨B, O, S, xc, q⟩ => by
    refine ⟨_, h, B, O, S, xc, fun v H1 ra k1 a1 o1 ⟨ds, el, h2⟩ => ?_⟩
    have S1 := S.step k1 a1
    refine ⟨_, h2, B, O, S1, xc, fun v2 H2 rb k2 a2 o2 ⟨i, e, z⟩ => ?_⟩
    subst e
    have S2 := S1.step k2 a2
    cases (o2.at S1).int
    obtain ⟨p, xs, rfl, hp, hx⟩ := ((o1.later S k1 a1 k2).at S).list el
    exact ⟨i, rfl, p, xs, rfl, SqL.of hp, fun l hl => q _ _ (.new (.l (cutD ds (some i) none))) ((k1.trans k2).trans (Kp.new hl)) (a2.new hl) ⟨l, rfl, (k1.trans k2).free a2 hl, _, upd_same, (hx.cut (some i) none).mv (mvNew hl)⟩ z⟩
end
end Dl

namespace Dl
open PySem PySem.Spec L2

theorem iteNo {k : Bool} {A B : Prop} (h : k = false) (b : B) : if k = true then A else B := by subst h; exact iteF b
theorem iteYes {k : Bool} {A B : Prop} (h : k = true) (a : A) : if k = true then A else B := by subst h; exact iteT a
theorem iteBy {k : Bool} {A B : Prop} (h : k = true → A) (h' : k = false → B) : if k = true then A else B := by
  cases k with
  | true => exact iteT (h rfl)
  | false => exact iteF (h' rfl)
section
variable {X : Cx} {c : Cs} {e e2 elt tst iter : Expr} {body : List Stmt} {Γ : List Sl} {K : Rs → Prop} {pos tp spos py : Pos} {scope : Scope} {x y : Str} {E : Pd} {i : Nat} {ds : List D} {L : List D → Prop}
/-- a loop's invariant is to be told -/
def LoopI (X : Cx) (c : Cs) (i : Nat) (body : List Stmt) (Γ : List Sl) (E : Pd) (ds : List D) : Prop := ∃ Iv : Nat → List Sl → Prop, Iv 0 Γ ∧
      (∀ j d Γ1, ds[j]? = some d → Iv j Γ1 → DSs X c body (Γ1.set i (.val d)) { nx := Iv (j + 1), rt := E.rt, bk := E.nx, ct := Iv (j + 1) }) ∧ ∀ Γ1, Iv ds.length Γ1 → E.nx Γ1
theorem loopI (Iv : Nat → List Sl → Prop) (h0 : Iv 0 Γ) (hs : ∀ j d Γ1, ds[j]? = some d → Iv j Γ1 → DSs X c body (Γ1.set i (.val d)) { nx := Iv (j + 1), rt := E.rt, bk := E.nx, ct := Iv (j + 1) }) (he : ∀ Γ1, Iv ds.length Γ1 → E.nx Γ1) : LoopI X c i body Γ E ds := ⟨Iv, h0, hs, he⟩
theorem ds_loop (i : Nat) (bd : Bd X c) (hc : X.calm = true) (hi : X.N[i]? = some x) (hx : Loc X.env.scope x) (hf : X.fn x = true ∨ X.env.scope.names.lookup x = some .local) (h : DI X c (.Name x tp) iter Γ (LoopI X c i body Γ E))
    (hs : ∀ x, foldedSetIterable iter X.env x = pure x := by intro _; rfl) : DS X c (.For (.Name x tp) iter body [] pos) Γ E :=
  ds_for1 i bd hc hi hx hf (h.mono fun ds ⟨Iv, a, b, d⟩ => ⟨Iv, a, b, d⟩) hs
/-- a loop over tuples: the target's own rule f -/
def LoopT (X : Cx) (c : Cs) (f : D → List Sl → List Sl → Prop) (body : List Stmt) (Γ : List Sl) (E : Pd) (ds : List D) : Prop := ∃ Iv : Nat → List Sl → Prop, Iv 0 Γ ∧
      (∀ j d Γ1, ds[j]? = some d → Iv j Γ1 → ∃ Γ2, f d Γ1 Γ2 ∧ DSs X c body Γ2 { nx := Iv (j + 1), rt := E.rt, bk := E.nx, ct := Iv (j + 1) }) ∧ ∀ Γ1, Iv ds.length Γ1 → E.nx Γ1
theorem loopT {f : D → List Sl → List Sl → Prop} (Iv : Nat → List Sl → Prop) (h0 : Iv 0 Γ) (hs : ∀ j d Γ1, ds[j]? = some d → Iv j Γ1 → ∃ Γ2, f d Γ1 Γ2 ∧ DSs X c body Γ2 { nx := Iv (j + 1), rt := E.rt, bk := E.nx, ct := Iv (j + 1) }) (he : ∀ Γ1, Iv ds.length Γ1 → E.nx Γ1) : LoopT X c f body Γ E ds := ⟨Iv, h0, hs, he⟩
theorem ds_loopT {tg : Expr} {ix : List Nat} {f : D → List Sl → List Sl → Prop} (bd : Bd X c) (hc : X.calm = true) (hg : DG X c tg ix f) (h : DI X c tg iter Γ (LoopT X c f body Γ E))
    (hs : ∀ x, foldedSetIterable iter X.env x = pure x := by intro _; rfl) : DS X c (.For tg iter body [] pos) Γ E :=
  ds_for bd hc hg (h.mono fun ds ⟨Iv, a, b, d⟩ => ⟨Iv, a, b, d⟩) hs
/-- a comprehension by a function -/
theorem comp1F (g : D → D) (h1 : ds.length ≤ sizeLine) (h2 : ∀ d, d ∈ ds → ∀ s H C cl fp, Bd (famOf X scope s H C cl fp) c.mute → DE (famOf X scope s H C cl fp) c.mute elt (Γ.set i (.val d)) fun r => r.dat = some (g d)) (h3 : L (ds.map g)) : Comp1 X c elt scope i Γ ds L :=
  ⟨h1, fun d e => e = g d, fun d hd s H C cl fp b => (h2 d hd s H C cl fp b).mono fun r z => ⟨_, z, rfl⟩, fun es hp => by rw [paired_map (fun _ _ h => h) hp]; exact h3⟩
theorem comp1P (P : D → D → Prop) (h1 : ds.length ≤ sizeLine) (h2 : ∀ d, d ∈ ds → ∀ s H C cl fp, Bd (famOf X scope s H C cl fp) c.mute → DE (famOf X scope s H C cl fp) c.mute elt (Γ.set i (.val d)) fun r => ∃ e, r.dat = some e ∧ P d e) (h3 : ∀ es, Paired P ds es → L es) : Comp1 X c elt scope i Γ ds L :=
  ⟨h1, P, h2, h3⟩
theorem comp1SF (t : D → Bool) (g : D → D) (h1 : ds.length ≤ sizeLine) (h2 : ∀ d, d ∈ ds → ∀ s H C cl fp, Bd (famOf X scope s H C cl fp) c.mute → DT (famOf X scope s H C cl fp) c.mute tst (Γ.set i (.val d)) (fun b => b = t d) ∧ (t d = true → DE (famOf X scope s H C cl fp) c.mute elt (Γ.set i (.val d)) fun r => r.dat = some (g d))) (h3 : L ((ds.filter t).map g)) : Comp1S X c elt tst scope i Γ ds L :=
  ⟨h1, t, fun d e => e = g d, fun d hd s H C cl fp b => ⟨(h2 d hd s H C cl fp b).1, fun ht => ((h2 d hd s H C cl fp b).2 ht).mono fun r z => ⟨_, z, rfl⟩⟩, fun es hp => by rw [paired_map (fun _ _ h => h) hp]; exact h3⟩
theorem b_range {tg : Expr} {p : Pos} {Kd : List D → Prop} (B : Bt X.mg) (h : DE X c e Γ fun r => ∃ j : Int, r = .val (.int j) ∧ ((-(2 ^ 62) ≤ j ∧ j < 2 ^ 62) ∧ Kd ((List.range j.toNat).map fun (i : Nat) => PyData.int (0 + i)))) (hg : Gl X "range" := by rfl)
    (hs : starEach [e] X.env = [(false, eval e X.env)] := by rfl) (hs' : starEach [e] X.env = (false, eval e X.env) :: starEach [] X.env := by rfl) : DI X c tg (.Call (.Name "range" p) [e] [] pos) Γ Kd :=
  di_range1 B.range hg (h.mono fun r ⟨j, e, ⟨a, b⟩, z⟩ => ⟨j, e, a, b, z⟩) hs hs'
end
theorem mem_range {n : Nat} {d : D} (h : d ∈ (List.range n).map fun (i : Nat) => PyData.int (0 + i)) : ∃ i : Nat, i < n ∧ d = .int i := by
  obtain ⟨i, hi, e⟩ := List.mem_map.mp h
  exact ⟨i, List.mem_range.mp hi, by rw [← e, Int.zero_add]⟩
section
variable {X : Cx} {c : Cs} {elt : Expr} {Γ : List Sl} {scope : Scope} {i n : Nat} {L : List D → Prop}
/-- over a range -/
theorem comp1R (g : Nat → D) (h1 : n ≤ sizeLine) (h2 : ∀ j, j < n → ∀ s H C cl fp, Bd (famOf X scope s H C cl fp) c.mute → DE (famOf X scope s H C cl fp) c.mute elt (Γ.set i (.val (.int j))) fun r => r.dat = some (g j)) (h3 : L ((List.range n).map g)) :
    Comp1 X c elt scope i Γ ((List.range n).map fun (i : Nat) => PyData.int (0 + i)) L := by
  refine comp1F (fun d => match d with | .int j => g j.toNat | _ => .none) (by simpa using h1) (fun d hd s H C cl fp b => ?_) ?_
  · obtain ⟨j, hj, rfl⟩ := mem_range hd
    exact h2 j hj s H C cl fp b
  · rw [List.map_map]
    have e : ((fun d : D => match d with | .int j => g j.toNat | _ => .none) ∘ fun (i : Nat) => PyData.int (0 + i)) = g := by
      funext j
      show g ((0 + (j : Int)).toNat) = g j
      rw [Int.zero_add, Int.toNat_natCast]
    rw [e]
    exact h3
theorem comp1RP (P : Nat → D → Prop) (h1 : n ≤ sizeLine) (h2 : ∀ j, j < n → ∀ s H C cl fp, Bd (famOf X scope s H C cl fp) c.mute → DE (famOf X scope s H C cl fp) c.mute elt (Γ.set i (.val (.int j))) fun r => ∃ e, r.dat = some e ∧ P j e) (h3 : ∀ es, Paired P (List.range n) es → L es) :
    Comp1 X c elt scope i Γ ((List.range n).map fun (i : Nat) => PyData.int (0 + i)) L := by
  refine comp1P (fun d e => ∃ j, d = .int (j : Nat) ∧ P j e) (by simpa using h1) (fun d hd s H C cl fp b => ?_) fun es hp => h3 es ?_
  · obtain ⟨j, hj, rfl⟩ := mem_range hd
    exact (h2 j hj s H C cl fp b).mono fun r ⟨e, a, b⟩ => ⟨e, a, j, rfl, b⟩
  · have go : ∀ (l : List Nat) (es : List D), Paired (fun d e => ∃ j : Nat, d = PyData.int j ∧ P j e) (l.map fun (i : Nat) => PyData.int (0 + i)) es → Paired P l es := fun l => by
      induction l with
      | nil => intro es h; cases h; exact .nil
      | cons a l ih =>
        intro es h
        cases h with
        | cons h1 h2 =>
          obtain ⟨j, e, hp⟩ := h1
          have ej : a = j := by
            have z := PyData.int.inj e
            omega
          subst ej
          exact .cons hp (ih _ h2)
    exact go _ _ hp
end
theorem getD_some {ds : List D} {k : Nat} {d : D} (h : k < ds.length) : ds[k]? = some (ds.getD k d) := by
  rw [List.getD_eq_getElem?_getD, List.getElem?_eq_getElem h]
  rfl
theorem ixN_nat {n i : Nat} (h : i < n) : ixN n (i : Int) = some i := by
  unfold ixN
  rw [if_pos (by omega), if_pos (by omega), Int.toNat_natCast]
theorem atI_n {α : Type} {xs : List α} {i : Nat} {v : α} (h : xs[i]? = some v) : atI xs (i : Int) = some v := by
  unfold atI
  rw [ixN_nat (List.getElem?_eq_some_iff.mp h).1]
  exact h
/-- a place that a draw tells -/
theorem atI_in {α : Type} {xs : List α} {i : Int} (h0 : 0 ≤ i) (h1 : i < xs.length) : ∃ v, v ∈ xs ∧ atI xs i = some v := by
  obtain ⟨n, rfl⟩ := Int.eq_ofNat_of_zero_le h0
  have hl : n < xs.length := by omega
  exact ⟨xs[n], List.getElem_mem hl, atI_n (List.getElem?_eq_getElem hl)⟩
theorem atI_last {α : Type} {xs : List α} {v : α} (h : xs.getLast? = some v) : atI xs (-1) = some v := by
  have hne : xs ≠ [] := fun z => by subst z; cases h
  have hp : 0 < xs.length := List.length_pos_iff.mpr hne
  have e : xs[xs.length - 1]? = some v := by rw [← List.getLast?_eq_getElem?]; exact h
  have q : ixN xs.length (-1) = some (xs.length - 1) := by
    unfold ixN
    rw [if_neg (by omega), if_pos (by omega)]
    congr 1
    omega
  unfold atI
  rw [q]
  exact e
end Dl

namespace Dl
open PySem PySem.Spec L2

/-! ### targets of two and three names -/
section
variable {X : Cx} {c : Cs} {e elt iter : Expr} {Γ : List Sl} {K : Rs → Prop} {E : Pd} {x y z : Str} {px py pz pos tp : Pos} {k : Nat} {scope : Scope} {sp : Pos}
/-- the name is a local one of the text -/
@[reducible] def LcN (X : Cx) (i : Nat) (x : Str) : Prop := X.N[i]? = some x ∧ Loc X.env.scope x ∧ (X.fn x = true ∨ X.env.scope.names.lookup x = some .local)
theorem dg2 (i j : Nat) (bd : Bd X c) (hc : X.calm = true) (hx : LcN X i x) (hy : LcN X j y) : DG X c (.Tuple [.Name x px, .Name y py] k pos) [i, j] fun d Γ Γ' => ∃ a b, d = .tuple [a, b] ∧ Γ' = (Γ.set i (.val a)).set j (.val b) := by
  obtain ⟨g, pg, hg⟩ := dg_tup (n := 2) (k := k) (pos := pos) bd hc (dgs_cons (dg_name i (pos := px) bd hx.1 hx.2.1 hx.2.2) (dgs_cons (dg_name j (pos := py) bd hy.1 hy.2.1 hy.2.2) dgs_nil))
  exact ⟨g, pg, fun B O Γ σ H v d Γ' Q S r ⟨a, b, e1, e2⟩ q => hg B O Γ σ H v d Γ' Q S r ⟨[a, b], e1, rfl, a, [b], _, rfl, rfl, b, [], _, rfl, rfl, rfl, e2⟩ fun σ' S' hj => q σ' S' fun j hn => hj j (by simpa using hn)⟩
theorem dg3 (i j l : Nat) (bd : Bd X c) (hc : X.calm = true) (hx : LcN X i x) (hy : LcN X j y) (hz : LcN X l z) : DG X c (.Tuple [.Name x px, .Name y py, .Name z pz] k pos) [i, j, l] fun d Γ Γ' => ∃ a b e, d = .tuple [a, b, e] ∧ Γ' = ((Γ.set i (.val a)).set j (.val b)).set l (.val e) := by
  obtain ⟨g, pg, hg⟩ := dg_tup (n := 3) (k := k) (pos := pos) bd hc (dgs_cons (dg_name i (pos := px) bd hx.1 hx.2.1 hx.2.2) (dgs_cons (dg_name j (pos := py) bd hy.1 hy.2.1 hy.2.2) (dgs_cons (dg_name l (pos := pz) bd hz.1 hz.2.1 hz.2.2) dgs_nil)))
  exact ⟨g, pg, fun B O Γ σ H v d Γ' Q S r ⟨a, b, e, e1, e2⟩ q => hg B O Γ σ H v d Γ' Q S r ⟨[a, b, e], e1, rfl, a, [b, e], _, rfl, rfl, b, [e], _, rfl, rfl, e, [], _, rfl, rfl, rfl, e2⟩ fun σ' S' hj => q σ' S' fun j hn => hj j (by simpa using hn)⟩
theorem dg3L (i j l : Nat) (bd : Bd X c) (hc : X.calm = true) (hx : LcN X i x) (hy : LcN X j y) (hz : LcN X l z) : DG X c (.Tuple [.Name x px, .Name y py, .Name z pz] k pos) [i, j, l] fun d Γ Γ' => ∃ a b e, d = .list [a, b, e] ∧ Γ' = ((Γ.set i (.val a)).set j (.val b)).set l (.val e) := by
  obtain ⟨g, pg, hg⟩ := dg_unl (n := 3) (k := k) (pos := pos) bd hc (dgs_cons (dg_name i (pos := px) bd hx.1 hx.2.1 hx.2.2) (dgs_cons (dg_name j (pos := py) bd hy.1 hy.2.1 hy.2.2) (dgs_cons (dg_name l (pos := pz) bd hz.1 hz.2.1 hz.2.2) dgs_nil)))
  exact ⟨g, pg, fun B O Γ σ H v d Γ' Q S r ⟨a, b, e, e1, e2⟩ q => hg B O Γ σ H v d Γ' Q S r ⟨[a, b, e], e1, rfl, a, [b, e], _, rfl, rfl, b, [e], _, rfl, rfl, e, [], _, rfl, rfl, rfl, e2⟩ fun σ' S' hj => q σ' S' fun j hn => hj j (by simpa using hn)⟩
theorem ds_unp2 (i j : Nat) (bd : Bd X c) (hc : X.calm = true) (hx : LcN X i x) (hy : LcN X j y) (h : DE X c e Γ fun r => ∃ a b, r.dat = some (.tuple [a, b]) ∧ E.nx ((Γ.set i (.val a)).set j (.val b)))
    (hs : swapsWithSole [.Tuple [.Name x px, .Name y py] k tp] e pos.line X.env = pure false := by rfl) (hw : swappedStores [.Tuple [.Name x px, .Name y py] k tp] e X.env = pure none := by rfl)
    (h1 : (assignEach [.Tuple [.Name x px, .Name y py] k tp] X.env).map (·.2) = [assign (.Tuple [.Name x px, .Name y py] k tp) X.env] := by rfl) : DS X c (.Assign [.Tuple [.Name x px, .Name y py] k tp] e pos) Γ E :=
  ds_unpack (dg2 i j bd hc hx hy) (h.mono fun r ⟨a, b, e, z⟩ => ⟨_, _, e, ⟨a, b, rfl, rfl⟩, z⟩) hs hw h1
theorem ds_unp3 (i j l : Nat) (bd : Bd X c) (hc : X.calm = true) (hx : LcN X i x) (hy : LcN X j y) (hz : LcN X l z) (h : DE X c e Γ fun r => ∃ a b d, r.dat = some (.tuple [a, b, d]) ∧ E.nx (((Γ.set i (.val a)).set j (.val b)).set l (.val d)))
    (hs : swapsWithSole [.Tuple [.Name x px, .Name y py, .Name z pz] k tp] e pos.line X.env = pure false := by rfl) (hw : swappedStores [.Tuple [.Name x px, .Name y py, .Name z pz] k tp] e X.env = pure none := by rfl)
    (h1 : (assignEach [.Tuple [.Name x px, .Name y py, .Name z pz] k tp] X.env).map (·.2) = [assign (.Tuple [.Name x px, .Name y py, .Name z pz] k tp) X.env] := by rfl) : DS X c (.Assign [.Tuple [.Name x px, .Name y py, .Name z pz] k tp] e pos) Γ E :=
  ds_unpack (dg3 i j l bd hc hx hy hz) (h.mono fun r ⟨a, b, d, e, z⟩ => ⟨_, _, e, ⟨a, b, d, rfl, rfl⟩, z⟩) hs hw h1
theorem ds_unp3L (i j l : Nat) (bd : Bd X c) (hc : X.calm = true) (hx : LcN X i x) (hy : LcN X j y) (hz : LcN X l z) (h : DE X c e Γ fun r => ∃ a b d, r.dat = some (.list [a, b, d]) ∧ E.nx (((Γ.set i (.val a)).set j (.val b)).set l (.val d)))
    (hs : swapsWithSole [.Tuple [.Name x px, .Name y py, .Name z pz] k tp] e pos.line X.env = pure false := by rfl) (hw : swappedStores [.Tuple [.Name x px, .Name y py, .Name z pz] k tp] e X.env = pure none := by rfl)
    (h1 : (assignEach [.Tuple [.Name x px, .Name y py, .Name z pz] k tp] X.env).map (·.2) = [assign (.Tuple [.Name x px, .Name y py, .Name z pz] k tp) X.env] := by rfl) : DS X c (.Assign [.Tuple [.Name x px, .Name y py, .Name z pz] k tp] e pos) Γ E :=
  ds_unpack (dg3L i j l bd hc hx hy hz) (h.mono fun r ⟨a, b, d, e, z⟩ => ⟨_, _, e, ⟨a, b, d, rfl, rfl⟩, z⟩) hs hw h1
/-! in comprehensions -/
theorem dgb2 (i j : Nat) (bd : Bd X c) (hc : X.calm = true) (hi : X.N[i]? = some x) (hj : X.N[j]? = some y) (hx : scope.names.lookup x = some .local) (hy : scope.names.lookup y = some .local) :
    DGB (famOf X scope) c.mute (.Tuple [.Name x px, .Name y py] k pos) [i, j] fun d Γ Γ' => ∃ a b, d = .tuple [a, b] ∧ Γ' = (Γ.set i (.val a)).set j (.val b) := by
  obtain ⟨g, pg, hg⟩ := dgb_tup (n := 2) (k := k) (pos := pos) (F := famOf X scope) (c := c.mute) (fun _ _ _ _ _ => bd.kx) (fun _ _ _ _ _ => hc) (dgbs_cons (dgb1 i (tp := px) bd hi hx) (dgbs_cons (dgb1 j (tp := py) bd hj hy) dgbs_nil (fun _ _ _ _ _ => rfl)) (fun _ _ _ _ _ => rfl)) (fun _ _ _ _ _ => rfl) (fun _ _ _ _ _ => rfl)
  exact ⟨g, pg, fun B O Γ σ H v d Γ' Q S r ⟨a, b, e1, e2⟩ q => hg B O Γ σ H v d Γ' Q S r ⟨[a, b], e1, rfl, a, [b], _, rfl, rfl, b, [], _, rfl, rfl, rfl, e2⟩ fun σ' S' hl hj => q σ' S' hl fun j hn => hj j (by simpa using hn)⟩
theorem dgb3 (i j l : Nat) (bd : Bd X c) (hc : X.calm = true) (hi : X.N[i]? = some x) (hj : X.N[j]? = some y) (hl : X.N[l]? = some z) (hx : scope.names.lookup x = some .local) (hy : scope.names.lookup y = some .local) (hz : scope.names.lookup z = some .local) :
    DGB (famOf X scope) c.mute (.Tuple [.Name x px, .Name y py, .Name z pz] k pos) [i, j, l] fun d Γ Γ' => ∃ a b e, d = .tuple [a, b, e] ∧ Γ' = ((Γ.set i (.val a)).set j (.val b)).set l (.val e) := by
  obtain ⟨g, pg, hg⟩ := dgb_tup (n := 3) (k := k) (pos := pos) (F := famOf X scope) (c := c.mute) (fun _ _ _ _ _ => bd.kx) (fun _ _ _ _ _ => hc) (dgbs_cons (dgb1 i (tp := px) bd hi hx) (dgbs_cons (dgb1 j (tp := py) bd hj hy) (dgbs_cons (dgb1 l (tp := pz) bd hl hz) dgbs_nil (fun _ _ _ _ _ => rfl)) (fun _ _ _ _ _ => rfl)) (fun _ _ _ _ _ => rfl)) (fun _ _ _ _ _ => rfl) (fun _ _ _ _ _ => rfl)
  exact ⟨g, pg, fun B O Γ σ H v d Γ' Q S r ⟨a, b, e, e1, e2⟩ q => hg B O Γ σ H v d Γ' Q S r ⟨[a, b, e], e1, rfl, a, [b, e], _, rfl, rfl, b, [e], _, rfl, rfl, e, [], _, rfl, rfl, rfl, e2⟩ fun σ' S' hl hj => q σ' S' hl fun j hn => hj j (by simpa using hn)⟩
/-- [elt for x, y in ds] -/
def Comp2 (X : Cx) (c : Cs) (elt : Expr) (scope : Scope) (i j : Nat) (Γ : List Sl) (ds : List D) (L : List D → Prop) : Prop := ds.length ≤ sizeLine ∧ ∃ P : D → D → Prop,
  (∀ d, d ∈ ds → ∃ a b, d = .tuple [a, b] ∧ ∀ s H C cl fp, Bd (famOf X scope s H C cl fp) c.mute → DE (famOf X scope s H C cl fp) c.mute elt (((wipeG Γ [i, j]).set i (.val a)).set j (.val b)) fun r => ∃ e, r.dat = some e ∧ P d e) ∧ ∀ es, Paired P ds es → L es
theorem de_comp2 (i j : Nat) (bd : Bd X c) (hc : X.calm = true) (hi : X.N[i]? = some x) (hj : X.N[j]? = some y) (hx : scope.names.lookup x = some .local) (hy : scope.names.lookup y = some .local) (ok : blkB X.N X.env.scope scope [(x, i), (y, j)] = true)
    (h : DI X c (.Tuple [.Name x px, .Name y py] k tp) iter Γ fun ds => Comp2 X c elt scope i j Γ ds fun es => K (.new (.l es))) (hs : ∀ x, foldedSetIterable iter X.env x = pure x := by intro _; rfl) : DE X c (.ListComp elt [⟨.Tuple [.Name x px, .Name y py] k tp, iter, [], 0⟩] scope pos) Γ K :=
  de_compA bd hc (blk_of ok) (dgb2 i j bd hc hi hj hx hy) (by simp) (h.mono fun ds ⟨h1, P, h2, h3⟩ => ⟨h1, P, fun d hd => by
    obtain ⟨a, b, e, z⟩ := h2 d hd
    exact ⟨_, ⟨a, b, e, rfl⟩, fun s H C cl fp => z s H C cl fp (bd.blk scope s H C cl fp)⟩, h3⟩) hs
theorem ds_setComp2 {spos : Pos} {v : Str} {pv : Pos} (i j l : Nat) (bd : Bd X c) (hc : X.calm = true) (hi : X.N[i]? = some x) (hj : X.N[j]? = some y) (hx : scope.names.lookup x = some .local) (hy : scope.names.lookup y = some .local) (ok : blkB X.N X.env.scope scope [(x, i), (y, j)] = true)
    (hv : X.N[l]? = some v) (hvl : X.env.scope.names.lookup v = some .local) (hsw : swapsWith (.ListComp elt [⟨.Tuple [.Name x px, .Name y py] k tp, iter, [], 0⟩] scope pos) (some (.Name v pv)) spos.line X.env = pure true)
    (h : DI X c (.Tuple [.Name x px, .Name y py] k tp) iter Γ fun ds => Comp2 X c elt scope i j Γ ds fun es => E.nx (Γ.set l (.own (.l es)))) (hs : ∀ x, foldedSetIterable iter X.env x = pure x := by intro _; rfl) : DS X c (.Assign [.Name v pv] (.ListComp elt [⟨.Tuple [.Name x px, .Name y py] k tp, iter, [], 0⟩] scope pos) spos) Γ E :=
  ds_setCompA bd hc hv hvl hsw (blk_of ok) (dgb2 i j bd hc hi hj hx hy) (by simp) (h.mono fun ds ⟨h1, P, h2, h3⟩ => ⟨h1, P, fun d hd => by
    obtain ⟨a, b, e, z⟩ := h2 d hd
    exact ⟨_, ⟨a, b, e, rfl⟩, fun s H C cl fp => z s H C cl fp (bd.blk scope s H C cl fp)⟩, h3⟩) hs
def Comp3 (X : Cx) (c : Cs) (elt : Expr) (scope : Scope) (i j l : Nat) (Γ : List Sl) (ds : List D) (L : List D → Prop) : Prop := ds.length ≤ sizeLine ∧ ∃ P : D → D → Prop,
  (∀ d, d ∈ ds → ∃ a b u, d = .tuple [a, b, u] ∧ ∀ s H C cl fp, Bd (famOf X scope s H C cl fp) c.mute → DE (famOf X scope s H C cl fp) c.mute elt ((((wipeG Γ [i, j, l]).set i (.val a)).set j (.val b)).set l (.val u)) fun r => ∃ e, r.dat = some e ∧ P d e) ∧ ∀ es, Paired P ds es → L es
theorem de_comp3 (i j l : Nat) (bd : Bd X c) (hc : X.calm = true) (hi : X.N[i]? = some x) (hj : X.N[j]? = some y) (hl : X.N[l]? = some z) (hx : scope.names.lookup x = some .local) (hy : scope.names.lookup y = some .local) (hz : scope.names.lookup z = some .local) (ok : blkB X.N X.env.scope scope [(x, i), (y, j), (z, l)] = true)
    (h : DI X c (.Tuple [.Name x px, .Name y py, .Name z pz] k tp) iter Γ fun ds => Comp3 X c elt scope i j l Γ ds fun es => K (.new (.l es))) (hs : ∀ x, foldedSetIterable iter X.env x = pure x := by intro _; rfl) : DE X c (.ListComp elt [⟨.Tuple [.Name x px, .Name y py, .Name z pz] k tp, iter, [], 0⟩] scope pos) Γ K :=
  de_compA bd hc (blk_of ok) (dgb3 i j l bd hc hi hj hl hx hy hz) (by simp) (h.mono fun ds ⟨h1, P, h2, h3⟩ => ⟨h1, P, fun d hd => by
    obtain ⟨a, b, u, e, z⟩ := h2 d hd
    exact ⟨_, ⟨a, b, u, e, rfl⟩, fun s H C cl fp => z s H C cl fp (bd.blk scope s H C cl fp)⟩, h3⟩) hs
end
end Dl

namespace Dl
open PySem PySem.Spec L2

theorem lenOk {n : Nat} {B : Prop} (h : n ≤ sizeLine) (b : B) : n ≤ sizeLine ∧ B := ⟨h, b⟩
/-! ### calls by keywords, the module's exceptions, told at once -/
structure KwC (K : PySem.W.Frag) (mg : Str → Option Value) (x : Str) (st : Stmt) (ps ks : List Str) (g : ∀ {α : Type}, List α → List α) : Prop where
  ex : ∃ f fd, Fun K x x st f fd ∧ mg x = some (.ref f) ∧ Binds K fd ps [] ∧ KwBinds K fd ps ks g
structure CalK (P : Program) (w : World) (K : PySem.W.Frag) (mg : Str → Option Value) (base : Heap) (kx : Kx) (k : Nat) (x : Str) (ks : List Str) (g : ∀ {α : Type}, List α → List α) (F : Fs) : Prop where
  ex : ∃ f fd ps, FnG P w K mg base k f fd ps (spG kx F) ∧ mg x = some (.ref f) ∧ PySem.W.keepIn K (.ref f) = true ∧ KwBinds K fd ps ks g
theorem kw_of {K : PySem.W.Frag} {x qual : Str} {st : Stmt} {f : Addr} {fd : FuncData} {ps ks : List Str} {g : ∀ {α : Type}, List α → List α} (F : Fun K x qual st f fd)
    (h : ∀ (kV doc pm : Value) (an : Option Addr) (cdv ct : Value) (ws : List Value), ws.length = ks.length → bindArgs (PySem.W.fnOf x qual (defArgs st) (defBody st) (defScope st) .none kV doc pm an cdv ct) ⟨[], ks.zip ws⟩ = pure (ps.zip (g ws)))
    (rel : ∀ {α β : Type} (R : α → β → Prop) (xs : List α) (ys : List β), Paired R xs ys → Paired R (g xs) (g ys)) : KwBinds K fd ps ks g := by
  obtain ⟨oc, od, kV, doc, pm, an, cdv, ct, osl, rfl, lk, hcd⟩ := F.ex
  exact ⟨fun s ws hl => .of_eq (h kV doc pm an cdv ct ws hl), rel⟩
theorem cals_of {P : Program} {w : World} {K : PySem.W.Frag} {mg : Str → Option Value} {base : Heap} {x : Str} {st : Stmt} {N ps ks : List Str} {g : ∀ {α : Type}, List α → List α} {k : Nat} {F : Fs} {kx : Kx} (Dd : KwC K mg x st ps ks g) (S : FnScope N ps (defScope st)) (hK : kx.K = K) (len : ∀ rs R X, F rs R X → rs.length = ps.length)
    (body : ∀ (f : Addr) (cdv : Value) (A : Around) (outer : List PySem.Env) (s : Shared) (H : Hp) (E : XK) (hk : Option (Addr × Addr)) (rs : List Rs) (R : Rs → Prop) (Xp : Ec → Prop), F rs R Xp →
      Room k (cxOf (L2.CX P w) P w K mg base N x (defScope st) f cdv A outer s H E).A → Bd (cxOf (L2.CX P w) P w K mg base N x (defScope st) f cdv A outer s H E) (csOf kx hk E Xp) →
      Takes (cxOf (L2.CX P w) P w K mg base N x (defScope st) f cdv A outer s H E) (csOf kx hk E Xp).W →
      DSs (cxOf (L2.CX P w) P w K mg base N x (defScope st) f cdv A outer s H E) (csOf kx hk E Xp) (defBody st) (startG N rs) { nx := fun _ => R (.val .none), rt := R }) : Cal P w K mg base kx (k + 1) x F ∧ CalK P w K mg base kx (k + 1) x ks g F := by
  obtain ⟨f, fd, Fn, m, b, kb⟩ := Dd.ex
  have z := fnG_of (F := F) Fn S hK len (body f)
  exact ⟨⟨f, fd, ps, z, m, Fn.kp, b⟩, ⟨f, fd, ps, z, m, Fn.kp, kb⟩⟩
section
variable {X : Cx} {c : Cs} {k : Nat} {F : Fs} {x : Str} {p pos pos2 : Pos} {e : Expr} {kws : List Keyword} {ks : List Str} {g : ∀ {α : Type}, List α → List α} {Γ : List Sl} {K : Rs → Prop} {E : Pd}
theorem de_callK (C : CalK X.prog X.w X.K X.mg X.base c.kx k x ks g F) (hr : Room k X.A) (bd : Bd X c) (tk : Takes X c.W) (h : DK X c kws Γ fun rs => ∃ as, argsOf rs = some as ∧ rs.length = kws.length ∧ F (g as) K (fun e => c.ex e Γ))
    (hn : kws.length = ks.length := by rfl) (hg : Gl X x := by rfl) (hall : (backToKw pos (keywordEach kws X.env)).all (·.1.isSome) = true := by rfl) (hks : (backToKw pos (keywordEach kws X.env)).filterMap (·.1) = ks := by rfl)
    (hdb : (x == ("__debug__" : Str)) = false := by decide) (hpl : ((backTo pos (starEach [] X.env)).any (·.1) || (backToKw pos (keywordEach kws X.env)).any (·.1.isNone)) = false := by rfl) : DE X c (.Call (.Name x p) [] kws pos) Γ K := by
  obtain ⟨f, fd, ps, Fn, hm, hk, hb⟩ := C.ex
  exact de_callKw Fn hr bd tk hm hk hb h hn hg hall hks hdb hpl
end
/-- an exception of the module -/
structure Xc (P : Program) (w : World) (K : PySem.W.Frag) (mg : Str → Option Value) (base : Heap) (kx : Kx) (x f : Str) : Prop where
  ex : ∃ C fI fd ps, mg x = some (.ref C) ∧ XcC P w K mg base kx C fI fd x f ps
section
variable {X : Cx} {c : Cs} {x f : Str} {p pos pos2 : Pos} {e : Expr} {Γ : List Sl} {E : Pd}
theorem ds_raiseX (hc : X.calm = true) (bd : Bd X c) (tk : Takes X c.W) (hr : Room 2 X.A) (T : Xc X.prog X.w X.K X.mg X.base c.kx x f) (h : DE X c e Γ fun r => ∃ d, r.dat = some d ∧ c.ex (x, [(.str f, d)]) Γ) (hg : Gl X x := by rfl)
    (hdb : (x == ("__debug__" : Str)) = false := by decide) (hs : starEach (e :: []) X.env = (false, eval e X.env) :: starEach [] X.env := by rfl) (hpl : (backTo pos (starEach [] X.env)).any (·.1) = false := by rfl) :
    DS X c (.Raise (some (.Call (.Name x p) [e] [] pos)) none pos2) Γ E := by
  obtain ⟨C, fI, fd, ps, hm, T⟩ := T.ex
  exact ds_raise hc bd tk hr T hm h hg hdb hs hpl
end
end Dl

namespace Dl
open PySem PySem.Spec L2

section
variable {X : Cx} {c : Cs} {a b e : Expr} {Γ : List Sl} {K : Rs → Prop} {p pos : Pos} {i j : Int}
theorem w_mod (hj : 0 < j) (h : K (.val (.int (i % j)))) : W2 c Γ (rI (fun _ j => 0 < j) fun i j => .int (i % j)) (.val (.int i)) (.val (.int j)) K := w2_I (C := fun _ j => 0 < j) (g := fun i j => i % j) hj h
theorem w_div (h0 : 0 < j) (h1 : j < 1073741824) (h : K (.val (.int (i / j)))) : W2 c Γ (rI CDiv fun i j => .int (i / j)) (.val (.int i)) (.val (.int j)) K := w2_I (C := CDiv) (g := fun i j => i / j) ⟨h0, h1⟩ h
theorem w_mulL (h0 : -(2 ^ 64) < i) (h1 : i < 2 ^ 64) (h : K (.val (.int (i * j)))) : W2 c Γ (rI CMul fun i j => .int (i * j)) (.val (.int i)) (.val (.int j)) K := w2_I (C := CMul) (g := fun i j => i * j) (.inl ⟨h0, h1⟩) h
theorem w_mulR (h0 : -(2 ^ 64) < j) (h1 : j < 2 ^ 64) (h : K (.val (.int (i * j)))) : W2 c Γ (rI CMul fun i j => .int (i * j)) (.val (.int i)) (.val (.int j)) K := w2_I (C := CMul) (g := fun i j => i * j) (.inr ⟨h0, h1⟩) h
theorem de_pow (h : DE X c a Γ fun ra => DE X c b Γ fun rb => W2 c Γ (rI CPow fun i j => .int (i ^ j.toNat)) ra rb K) : DE X c (.BinOp a .Pow b pos) Γ K := de_bin op_pow h
theorem w_pow (h0 : 0 ≤ j ∧ j ≤ 1000000 ∧ i.natAbs < 2 ^ 64) (h : K (.val (.int (i ^ j.toNat)))) : W2 c Γ (rI CPow fun i j => .int (i ^ j.toNat)) (.val (.int i)) (.val (.int j)) K := w2_I (C := CPow) (g := fun i j => i ^ j.toNat) h0 h
theorem b_abs (B : Bt X.mg) (h : DE X c e Γ fun r => ∃ n : Int, r = .val (.int n) ∧ K (.val (.int (if n < 0 then -n else n)))) (hg : Gl X "abs" := by rfl) (he : starEach [e] X.env = (false, eval e X.env) :: starEach [] X.env := by rfl) (hpl : (backTo pos (starEach [] X.env)).any (·.1) = false := by rfl) :
    DE X c (.Call (.Name "abs" p) [e] [] pos) Γ K := de_callB call_abs B.abs (da_cons (h.mono fun r ⟨n, e, z⟩ => da_nil (by
      subst e
      intro B O H vs Q σ S a q
      cases a with
      | cons a t => cases t; cases a.int; exact ⟨n, rfl, q _ H (.val (.int _)) Kp.refl S.hand (Rp.int _) z⟩)) he) PyProof.Rows.boot_abs hg (by decide) (by decide) he hpl
theorem b_intI (B : Bt X.mg) (h : DE X c e Γ fun r => ∃ n : Int, r = .val (.int n) ∧ K (.val (.int n))) (hg : Gl X "int" := by rfl) (he : starEach [e] X.env = (false, eval e X.env) :: starEach [] X.env := by rfl) (hpl : (backTo pos (starEach [] X.env)).any (·.1) = false := by rfl) :
    DE X c (.Call (.Name "int" p) [e] [] pos) Γ K := b_int B (h.mono fun r ⟨n, e, z⟩ => ⟨n, .inl e, z⟩) hg he hpl
end
theorem filter_map_int {ns : List Int} {t : D → Bool} {g : D → D} {t' : Int → Bool} {g' : Int → Int} (ht : ∀ i, t (.int i) = t' i) (hg : ∀ i, g (.int i) = .int (g' i)) : ((ns.map PyData.int).filter t).map g = ((ns.filter t').map g').map PyData.int := by
  induction ns with
  | nil => rfl
  | cons i is ih =>
    rw [List.map_cons, List.filter_cons, List.filter_cons, ht i]
    cases t' i with
    | true => simp only [if_true, List.map_cons, hg, ih]
    | false => simpa using ih
end Dl

namespace Dl
open PySem PySem.Spec L2

/-- the clause 'except x': which of the module's exceptions it takes -/
structure ExM (K : PySem.W.Frag) (mg : Str → Option Value) (cl : Addr → Option Str) (x : Str) (ys : List Str) : Prop where
  ex : ∃ C, mg x = some (.ref C) ∧ ∀ C' nm, cl C' = some nm → PySem.W.exmOne K (.ref C') (.ref C) = some (ys.contains nm)
section
variable {X : Cx} {c : Cs} {n x : Str} {body suite : List Stmt} {b0 : Stmt} {np pos pos' : Pos} {ys : List Str} {Γ : List Sl} {E : Pd}
theorem ds_tryX (i : Nat) (bd : Bd X c) (M : ExM X.K X.mg c.kx.cl x ys) (hx : c.xc = none) (hs : X.stack = X.env :: X.outer) (hf : X.env.frame = some X.env.locals) (hi : X.N[i]? = some n) (hln : X.env.kindOf n = some .local) (hg : Gl X x) (tk : Takes X c.W)
    (hb : ∀ (W : WX) (pn : List (Addr × Obj)) (xe : Value → Shared → Prop), Takes (X.tr pn xe) W → Bd (X.tr pn xe) { c with W := W, ex := fun e Γ1 => if ys.contains e.1 = true then SuiteOk X c i (b0 :: suite) Γ1 e E else c.ex e Γ1 } →
      DSs (X.tr pn xe) { c with W := W, ex := fun e Γ1 => if ys.contains e.1 = true then SuiteOk X c i (b0 :: suite) Γ1 e E else c.ex e Γ1 } body Γ E) (hd : (x == ("__debug__" : Str)) = false := by decide) :
    DS X c (.Try body [.ExceptHandler (some (.Name x np)) (some n) (b0 :: suite) pos'] [] [] pos) Γ E := by
  obtain ⟨C, hm, he⟩ := M.ex
  exact ds_try (catches := fun nm => ys.contains nm) bd hx hs hf hi hln ⟨hg, hd, .inl hm⟩ tk he fun W pn xe tk' po => hb W pn xe tk' (bd.tr po)
theorem suite_of {i : Nat} {sts : List Stmt} {Γ1 : List Sl} {e : Ec} (bd : Bd X c) (h : ∀ (a dd C : Addr) (oe : Obj) (pn : List (Addr × Obj)), c.kx.cl C = some e.1 → Zc (.ref C) (some dd) oe → (∃ vs, oe.data = .fields vs) → Bd (X.suite a ((a, oe) :: pn)) (c.suite a dd) →
      DSs (X.suite a ((a, oe) :: pn)) (c.suite a dd) sts (Γ1.set i (.xc e.2)) { nx := fun Γ => (∀ (j : Nat) ds, Γ[j]? = some (.xc ds) → j = i) ∧ E.nx (Γ.set i .un), rt := E.rt, bk := fun Γ => (∀ (j : Nat) ds, Γ[j]? = some (.xc ds) → j = i) ∧ E.bk (Γ.set i .un), ct := fun Γ => (∀ (j : Nat) ds, Γ[j]? = some (.xc ds) → j = i) ∧ E.ct (Γ.set i .un) }) :
    SuiteOk X c i sts Γ1 e E := fun a dd C oe pn h1 h2 h3 => h a dd C oe pn h1 h2 h3 (bd.suite a dd _)
/-- e.f of an exception of class x -/
structure XfM (K : PySem.W.Frag) (cl : Addr → Option Str) (x f : Str) : Prop where
  at_ : ∀ C, cl C = some x → XfC K C ∧ PySem.W.findIn K (.ref C) f = some none
theorem de_xfM {i : Nat} {a dd C : Addr} {oe : Obj} {pn : List (Addr × Obj)} {f y : Str} {p : Pos} {ds : List (D × D)} {d : D} {K : Rs → Prop} (T : XfM X.K c.kx.cl x f) (hC : c.kx.cl C = some x) (hz : Zc (.ref C) (some dd) oe) (hfl : ∃ vs, oe.data = .fields vs)
    (hN : X.N[i]? = some y) (hv : Vis X.env.scope y) (hs : Γ[i]? = some (.xc ds)) (hl : fget f ds = some d) (h : K (.val d)) (hb : attributeBase (.Name y p) f X.env (eval (.Name y p) X.env) = eval (.Name y p) X.env := by rfl)
    (hd : (y == ("__debug__" : Str)) = false := by decide) (hcd : (y == ("__classdict__" : Str)) = false := by decide) : DE (X.suite a ((a, oe) :: pn)) (c.suite a dd) (.Attribute (.Name y p) f pos) Γ K :=
  de_xf (T.at_ C hC).1 (T.at_ C hC).2 hz hfl hN hv hs hl h hb hd hcd
end
end Dl

namespace K61
open PySem PySem.Spec L2 Dl
def topS (i : Nat) : Stmt := PySem.Challenge.pw_eightcells_k61_wide_terms.main.body.getD i (.Pass ⟨0, 0, 0, 0⟩)
abbrev s_InvalidTable_init : Stmt := inClass (topS 2) 0
abbrev n_InvalidTable_init : List Str := ["self", "value"]
abbrev p_InvalidTable_init : List Str := ["self", "value"]
theorem c_InvalidTable_init : FnScope n_InvalidTable_init p_InvalidTable_init (defScope s_InvalidTable_init) := ⟨rfl, rfl, rfl, by decide +kernel, rfl, by decide +kernel, by decide +kernel⟩
abbrev s_Undefined_init : Stmt := inClass (topS 3) 0
abbrev n_Undefined_init : List Str := ["self", "what"]
abbrev p_Undefined_init : List Str := ["self", "what"]
theorem c_Undefined_init : FnScope n_Undefined_init p_Undefined_init (defScope s_Undefined_init) := ⟨rfl, rfl, rfl, by decide +kernel, rfl, by decide +kernel, by decide +kernel⟩
abbrev s_is_bit : Stmt := topS 7
abbrev n_is_bit : List Str := ["value"]
abbrev p_is_bit : List Str := ["value"]
theorem c_is_bit : FnScope n_is_bit p_is_bit (defScope s_is_bit) := ⟨rfl, rfl, rfl, by decide +kernel, rfl, by decide +kernel, by decide +kernel⟩
abbrev s_is_table : Stmt := topS 8
abbrev n_is_table : List Str := ["value", "m", "worth"]
abbrev p_is_table : List Str := ["value", "m"]
theorem c_is_table : FnScope n_is_table p_is_table (defScope s_is_table) := ⟨rfl, rfl, rfl, by decide +kernel, rfl, by decide +kernel, by decide +kernel⟩
abbrev s_table_of : Stmt := topS 9
abbrev n_table_of : List Str := ["word"]
abbrev p_table_of : List Str := ["word"]
theorem c_table_of : FnScope n_table_of p_table_of (defScope s_table_of) := ⟨rfl, rfl, rfl, by decide +kernel, rfl, by decide +kernel, by decide +kernel⟩
abbrev s_widened : Stmt := topS 10
abbrev n_widened : List Str := ["table", "at"]
abbrev p_widened : List Str := ["table"]
theorem c_widened : FnScope n_widened p_widened (defScope s_widened) := ⟨rfl, rfl, rfl, by decide +kernel, rfl, by decide +kernel, by decide +kernel⟩
abbrev s_is_term : Stmt := topS 14
abbrev n_is_term : List Str := ["value", "left"]
abbrev p_is_term : List Str := ["value", "left"]
theorem c_is_term : FnScope n_is_term p_is_term (defScope s_is_term) := ⟨rfl, rfl, rfl, by decide +kernel, rfl, by decide +kernel, by decide +kernel⟩
abbrev s_put_in : Stmt := topS 15
abbrev n_put_in : List Str := ["table", "parts", "one", "two", "three", "at"]
abbrev p_put_in : List Str := ["table", "parts"]
theorem c_put_in : FnScope n_put_in p_put_in (defScope s_put_in) := ⟨rfl, rfl, rfl, by decide +kernel, rfl, by decide +kernel, by decide +kernel⟩
abbrev s_told : Stmt := topS 16
abbrev n_told : List Str := ["table", "term", "part"]
abbrev p_told : List Str := ["table", "term"]
theorem c_told : FnScope n_told p_told (defScope s_told) := ⟨rfl, rfl, rfl, by decide +kernel, rfl, by decide +kernel, by decide +kernel⟩
abbrev s_term_table : Stmt := topS 17
abbrev n_term_table : List Str := ["table", "term"]
abbrev p_term_table : List Str := ["table", "term"]
theorem c_term_table : FnScope n_term_table p_term_table (defScope s_term_table) := ⟨rfl, rfl, rfl, by decide +kernel, rfl, by decide +kernel, by decide +kernel⟩
abbrev s_turned : Stmt := topS 18
abbrev n_turned : List Str := ["table", "worth"]
abbrev p_turned : List Str := ["table"]
theorem c_turned : FnScope n_turned p_turned (defScope s_turned) := ⟨rfl, rfl, rfl, by decide +kernel, rfl, by decide +kernel, by decide +kernel⟩
abbrev s_is_plain : Stmt := topS 19
abbrev n_is_plain : List Str := ["table"]
abbrev p_is_plain : List Str := ["table"]
theorem c_is_plain : FnScope n_is_plain p_is_plain (defScope s_is_plain) := ⟨rfl, rfl, rfl, by decide +kernel, rfl, by decide +kernel, by decide +kernel⟩
abbrev s_applied : Stmt := topS 20
abbrev n_applied : List Str := ["turns", "parts"]
abbrev p_applied : List Str := ["turns", "parts"]
theorem c_applied : FnScope n_applied p_applied (defScope s_applied) := ⟨rfl, rfl, rfl, by decide +kernel, rfl, by decide +kernel, by decide +kernel⟩
abbrev s_readings : Stmt := topS 21
abbrev n_readings : List Str := ["table"]
abbrev p_readings : List Str := ["table"]
theorem c_readings : FnScope n_readings p_readings (defScope s_readings) := ⟨rfl, rfl, rfl, by decide +kernel, rfl, by decide +kernel, by decide +kernel⟩
abbrev s_term_of : Stmt := topS 22
abbrev n_term_of : List Str := ["table", "turns", "readings", "worths", "parts", "once", "whole", "_"]
abbrev p_term_of : List Str := ["table"]
theorem c_term_of : FnScope n_term_of p_term_of (defScope s_term_of) := ⟨rfl, rfl, rfl, by decide +kernel, rfl, by decide +kernel, by decide +kernel⟩
abbrev s_term_holds : Stmt := topS 23
abbrev n_term_holds : List Str := ["table", "claim", "word", "term"]
abbrev p_term_holds : List Str := ["table", "claim"]
theorem c_term_holds : FnScope n_term_holds p_term_holds (defScope s_term_holds) := ⟨rfl, rfl, rfl, by decide +kernel, rfl, by decide +kernel, by decide +kernel⟩
abbrev s_law_hand : Stmt := topS 25
abbrev n_law_hand : List Str := ["script", "great", "seed", "cell"]
abbrev p_law_hand : List Str := ["script"]
theorem c_law_hand : FnScope n_law_hand p_law_hand (defScope s_law_hand) := ⟨rfl, rfl, rfl, by decide +kernel, rfl, by decide +kernel, by decide +kernel⟩
abbrev s_law_take : Stmt := topS 26
abbrev n_law_take : List Str := ["hand", "many", "great", "rest", "seed", "mixed"]
abbrev p_law_take : List Str := ["hand", "many"]
theorem c_law_take : FnScope n_law_take p_law_take (defScope s_law_take) := ⟨rfl, rfl, rfl, by decide +kernel, rfl, by decide +kernel, by decide +kernel⟩
abbrev s_law_table : Stmt := topS 27
abbrev n_law_table : List Str := ["hand", "known", "place"]
abbrev p_law_table : List Str := ["hand"]
theorem c_law_table : FnScope n_law_table p_law_table (defScope s_law_table) := ⟨rfl, rfl, rfl, by decide +kernel, rfl, by decide +kernel, by decide +kernel⟩
abbrev s_law_places : Stmt := topS 28
abbrev n_law_places : List Str := ["first", "second"]
abbrev p_law_places : List Str := []
theorem c_law_places : FnScope n_law_places p_law_places (defScope s_law_places) := ⟨rfl, rfl, rfl, by decide +kernel, rfl, by decide +kernel, by decide +kernel⟩
abbrev s_law_put : Stmt := topS 29
abbrev n_law_put : List Str := ["table", "parts", "one", "two", "three", "made", "depth", "a", "b", "c"]
abbrev p_law_put : List Str := ["table", "parts"]
theorem c_law_put : FnScope n_law_put p_law_put (defScope s_law_put) := ⟨rfl, rfl, rfl, by decide +kernel, rfl, by decide +kernel, by decide +kernel⟩
abbrev s_law_terms : Stmt := topS 30
abbrev n_law_terms : List Str := ["hand", "table", "most", "pool", "turn", "parts", "k", "at", "made"]
abbrev p_law_terms : List Str := ["hand", "table"]
theorem c_law_terms : FnScope n_law_terms p_law_terms (defScope s_law_terms) := ⟨rfl, rfl, rfl, by decide +kernel, rfl, by decide +kernel, by decide +kernel⟩
abbrev s_law_wides : Stmt := topS 31
abbrev n_law_wides : List Str := ["zeros", "ones", "odd"]
abbrev p_law_wides : List Str := []
theorem c_law_wides : FnScope n_law_wides p_law_wides (defScope s_law_wides) := ⟨rfl, rfl, rfl, by decide +kernel, rfl, by decide +kernel, by decide +kernel⟩
abbrev s_law_words : Stmt := topS 32
abbrev n_law_words : List Str := []
abbrev p_law_words : List Str := []
theorem c_law_words : FnScope n_law_words p_law_words (defScope s_law_words) := ⟨rfl, rfl, rfl, by decide +kernel, rfl, by decide +kernel, by decide +kernel⟩
abbrev s_law_made_wide : Stmt := topS 33
abbrev n_law_made_wide : List Str := ["hand", "table", "pool", "most", "wides", "some", "kept", "now", "turn", "like", "parts", "grown", "one"]
abbrev p_law_made_wide : List Str := ["hand", "table", "pool", "most"]
theorem c_law_made_wide : FnScope n_law_made_wide p_law_made_wide (defScope s_law_made_wide) := ⟨rfl, rfl, rfl, by decide +kernel, rfl, by decide +kernel, by decide +kernel⟩
abbrev s_law_made_deep : Stmt := topS 34
abbrev n_law_made_deep : List Str := ["hand", "table", "one", "deep", "places", "turn", "parts", "k"]
abbrev p_law_made_deep : List Str := ["hand", "table", "one"]
theorem c_law_made_deep : FnScope n_law_made_deep p_law_made_deep (defScope s_law_made_deep) := ⟨rfl, rfl, rfl, by decide +kernel, rfl, by decide +kernel, by decide +kernel⟩
abbrev s_law_spoilt : Stmt := topS 35
abbrev n_law_spoilt : List Str := ["hand", "term", "path", "now", "turn", "at", "spoilt", "ahead", "members"]
abbrev p_law_spoilt : List Str := ["hand", "term"]
theorem c_law_spoilt : FnScope n_law_spoilt p_law_spoilt (defScope s_law_spoilt) := ⟨rfl, rfl, rfl, by decide +kernel, rfl, by decide +kernel, by decide +kernel⟩
abbrev s_law_same : Stmt := topS 36
abbrev n_law_same : List Str := ["told", "due"]
abbrev p_law_same : List Str := ["told", "due"]
theorem c_law_same : FnScope n_law_same p_law_same (defScope s_law_same) := ⟨rfl, rfl, rfl, by decide +kernel, rfl, by decide +kernel, by decide +kernel⟩
abbrev s_law_asked : Stmt := topS 37
abbrev n_law_asked : List Str := ["table", "term", "e"]
abbrev p_law_asked : List Str := ["table", "term"]
theorem c_law_asked : FnScope n_law_asked p_law_asked (defScope s_law_asked) := ⟨rfl, rfl, rfl, by decide +kernel, rfl, by decide +kernel, by decide +kernel⟩
abbrev s_law_is_of : Stmt := topS 38
abbrev n_law_is_of : List Str := ["table", "places", "plain", "claim", "e", "wide", "one", "value"]
abbrev p_law_is_of : List Str := ["table"]
theorem c_law_is_of : FnScope n_law_is_of p_law_is_of (defScope s_law_is_of) := ⟨rfl, rfl, rfl, by decide +kernel, rfl, by decide +kernel, by decide +kernel⟩
abbrev s_law : Stmt := topS 39
abbrev n_law : List Str := ["script", "hand", "table", "pool", "most", "words", "wides", "wide", "drawn", "deep", "one", "at", "over", "term"]
abbrev p_law : List Str := ["script"]
theorem c_law : FnScope n_law p_law (defScope s_law) := ⟨rfl, rfl, rfl, by decide +kernel, rfl, by decide +kernel, by decide +kernel⟩


/-! steps of the walk -/
local macro_rules | `(tactic| walk_at "vis") => `(tactic| first | exact Or.inl rfl | exact Or.inr (Or.inl rfl) | exact Or.inr (Or.inr rfl))
local macro_rules | `(tactic| walk_at "dv") => `(tactic| first
  | refine de_var 0 rfl (by walk_at "vis") rfl rfl ?_
  | refine de_var 1 rfl (by walk_at "vis") rfl rfl ?_
  | refine de_var 2 rfl (by walk_at "vis") rfl rfl ?_
  | refine de_var 3 rfl (by walk_at "vis") rfl rfl ?_
  | refine de_var 4 rfl (by walk_at "vis") rfl rfl ?_
  | refine de_var 5 rfl (by walk_at "vis") rfl rfl ?_
  | refine de_var 6 rfl (by walk_at "vis") rfl rfl ?_
  | refine de_var 7 rfl (by walk_at "vis") rfl rfl ?_
  | refine de_var 8 rfl (by walk_at "vis") rfl rfl ?_
  | refine de_var 9 rfl (by walk_at "vis") rfl rfl ?_
  | refine de_var 10 rfl (by walk_at "vis") rfl rfl ?_
  | refine de_var 11 rfl (by walk_at "vis") rfl rfl ?_
  | refine de_var 12 rfl (by walk_at "vis") rfl rfl ?_
  | refine de_var 13 rfl (by walk_at "vis") rfl rfl ?_
  | refine de_var 14 rfl (by walk_at "vis") rfl rfl ?_
  | refine de_var 15 rfl (by walk_at "vis") rfl rfl ?_)
local macro_rules | `(tactic| walk_at "loc") => `(tactic| first | exact Or.inl rfl | exact Or.inr rfl)
local macro_rules | `(tactic| walk_at "lc") => `(tactic| exact ⟨rfl, by walk_at "loc", by walk_at "loc"⟩)
local macro_rules | `(tactic| walk_at "dset") => `(tactic| first
  | refine ds_set 0 (by assumption) rfl (by walk_at "loc") ?_
  | refine ds_set 1 (by assumption) rfl (by walk_at "loc") ?_
  | refine ds_set 2 (by assumption) rfl (by walk_at "loc") ?_
  | refine ds_set 3 (by assumption) rfl (by walk_at "loc") ?_
  | refine ds_set 4 (by assumption) rfl (by walk_at "loc") ?_
  | refine ds_set 5 (by assumption) rfl (by walk_at "loc") ?_
  | refine ds_set 6 (by assumption) rfl (by walk_at "loc") ?_
  | refine ds_set 7 (by assumption) rfl (by walk_at "loc") ?_
  | refine ds_set 8 (by assumption) rfl (by walk_at "loc") ?_
  | refine ds_set 9 (by assumption) rfl (by walk_at "loc") ?_
  | refine ds_set 10 (by assumption) rfl (by walk_at "loc") ?_
  | refine ds_set 11 (by assumption) rfl (by walk_at "loc") ?_
  | refine ds_set 12 (by assumption) rfl (by walk_at "loc") ?_
  | refine ds_set 13 (by assumption) rfl (by walk_at "loc") ?_
  | refine ds_set 14 (by assumption) rfl (by walk_at "loc") ?_
  | refine ds_set 15 (by assumption) rfl (by walk_at "loc") ?_
  | refine ds_set 16 (by assumption) rfl (by walk_at "loc") ?_
  | refine ds_set 17 (by assumption) rfl (by walk_at "loc") ?_
  | refine ds_set 18 (by assumption) rfl (by walk_at "loc") ?_
  | refine ds_set 19 (by assumption) rfl (by walk_at "loc") ?_)
local macro_rules | `(tactic| walk_at "dcmp") => `(tactic| first
  | refine de_inC (by assumption) (by assumption) ?_
  | refine de_niC (by assumption) (by assumption) ?_
  | refine de_cmp (by assumption) .eq ?_ (nomark _)
  | refine de_cmp (by assumption) .ne ?_ (nomark _)
  | refine de_cmp (by assumption) .lt ?_ (nomark _)
  | refine de_cmp (by assumption) .le ?_ (nomark _)
  | refine de_cmp (by assumption) .gt ?_ (nomark _)
  | refine de_cmp (by assumption) .ge ?_ (nomark _)
  | refine de_cmp (by assumption) .is ?_ (nomark _)
  | refine de_cmp (by assumption) .isn ?_ (nomark _)
  | refine de_cmp (by assumption) .inn ?_ (by rfl)
  | refine de_cmp (by assumption) .nin ?_ (by rfl)
  | refine de_chain (by assumption) .le .le ?_
  | refine de_chain (by assumption) .le .lt ?_)
local macro_rules | `(tactic| walk_at "tcmp") => `(tactic| first
  | refine dt_niC (by assumption) (by assumption) ?_
  | refine dt_cmp (by assumption) .eq ?_ (nomark _)
  | refine dt_cmp (by assumption) .ne ?_ (nomark _)
  | refine dt_cmp (by assumption) .lt ?_ (nomark _)
  | refine dt_cmp (by assumption) .le ?_ (nomark _)
  | refine dt_cmp (by assumption) .gt ?_ (nomark _)
  | refine dt_cmp (by assumption) .ge ?_ (nomark _)
  | refine dt_cmp (by assumption) .is ?_ (nomark _)
  | refine dt_cmp (by assumption) .isn ?_ (nomark _)
  | refine dt_cmp (by assumption) .inn ?_ (by rfl)
  | refine dt_cmp (by assumption) .nin ?_ (by rfl)
  | refine dt_chain (by assumption) .le .le ?_
  | refine dt_chain (by assumption) .le .lt ?_)
local macro_rules | `(tactic| walk_at "dw") => `(tactic| first
  | ((with_reducible refine gEq ?_); first | refine w_eqI ?_ | refine w_eqS ?_)
  | ((with_reducible refine gNe ?_); first | refine w_neI ?_ | refine w_neS ?_)
  | ((with_reducible refine gAdd ?_); refine w_addI ?_)
  | ((with_reducible refine gIx ?_); first | refine w_ixL rfl rfl ?_ | refine w_ixT (by assumption) rfl ?_)
  | ((with_reducible refine gIs ?_); first | refine w_isN ?_ | refine w_isB ?_)
  | ((with_reducible refine gIsn ?_); first | refine w_isnN ?_ | refine w_isnB ?_)
  | refine w_lt ?_
  | refine w_le ?_
  | refine w_gt ?_
  | refine w_ge ?_
  | refine w2_I0 ?_
  | refine w_mod (by first | decide | assumption | omega) ?_
  | refine w_div (by first | decide | assumption | omega) (by first | decide | assumption | omega) ?_
  | refine w_mulR (by decide) (by decide) ?_
  | refine w_mulL (by decide) (by decide) ?_
  | refine w_pow (by decide) ?_
  | refine w_mulL (by omega) (by omega) ?_
  | refine w_mulR (by omega) (by omega) ?_)
local macro_rules | `(tactic| walk_at "dcall") => `(tactic| first
  | ((with_reducible refine gIsi ?_); first
    | refine isa_int (by assumption) (by assumption) ?_
    | refine isa_tup (by assumption) (by assumption) ?_
    | refine isa_bool (by assumption) (by assumption) ?_
    | refine isa_str (by assumption) (by assumption) ?_
    | refine isa_list (by assumption) (by assumption) ?_)
  | refine b_len (by assumption) (by assumption) ?_
  | refine b_tuple (by assumption) (by assumption) ?_
  | refine b_list (by assumption) (by assumption) ?_
  | refine b_intI (by assumption) ?_
  | refine b_int (by assumption) ?_
  | refine b_abs (by assumption) ?_
  | refine b_max3 rfl (by assumption) ?_
  | refine b_repr (by assumption) (by assumption) ?_
  | refine b_sum rfl (by assumption) ?_
  | refine de_callC (by assumption) (Room.mono (by assumption) (by first | decide | exact Nat.le_refl _ | omega)) (by assumption) (by first | assumption | exact takes0) ?_
  | refine de_callC0 (by assumption) (Room.mono (by assumption) (by first | decide | exact Nat.le_refl _ | omega)) (by assumption) (by first | assumption | exact takes0) ?_)
local macro_rules | `(tactic| walk_at "dE") => `(tactic| first
  | ((with_reducible refine gName ?_); first | walk_at "dv" | refine de_con (by assumption) ?_)
  | ((with_reducible refine gCon ?_); first | refine de_int ?_ | refine de_str ?_ | refine de_bl ?_ | refine de_non ?_)
  | ((with_reducible refine gCmp ?_); walk_at "dcmp")
  | ((with_reducible refine gCall ?_); walk_at "dcall")
  | ((with_reducible refine gBin ?_); first | refine de_add ?_ | refine de_sub ?_ | refine de_mul ?_ | refine de_mod ?_ | refine de_fdiv ?_ | refine de_pow ?_)
  | ((with_reducible refine gBoo ?_); first | refine de_and ?_ | refine de_or ?_ | refine de_one ?_)
  | refine de_ixC (by assumption) (by assumption) ?_
  | refine de_ix ?_
  | refine de_tup ?_
  | refine de_lst ?_
  | refine de_not ?_
  | refine de_neg ?_
  | refine de_if ?_)
local macro_rules | `(tactic| walk_at "dT") => `(tactic| first
  | ((with_reducible refine gTCmp ?_); walk_at "tcmp")
  | ((with_reducible refine gTBoo ?_); first | refine dt_w (dw_and ?_) | refine dt_w (dw_or ?_))
  | refine dt_not ?_
  | refine dt_val ?_)
local macro_rules | `(tactic| walk_at "d1") => `(tactic| first
  | ((with_reducible refine gE ?_); walk_at "dE")
  | ((with_reducible refine gT ?_); walk_at "dT")
  | ((with_reducible refine gA ?_); first | refine da_cons ?_ | refine da_nil ?_)
  | ((with_reducible refine gW2 ?_); walk_at "dw")
  | ((with_reducible refine gW ?_); first | refine dw_and ?_ | refine dw_or ?_ | refine dw_and1 ?_ | refine dw_or1 ?_)
  | ((with_reducible refine gSs ?_); first | refine dss_cons ?_ | refine dss_nil ?_)
  | ((with_reducible refine gS ?_); first | refine ds_ret ?_ | refine ds_if ?_ | refine ds_retN ?_ | refine ds_pass ?_ | refine ds_break ?_ | refine ds_continue ?_ | walk_at "dset")
  | ((with_reducible refine gW1 ?_); refine w_neg ?_)
  | refine iteT ?_
  | refine iteF ?_
  | refine ⟨_, rfl, ?_⟩
  | refine ⟨rfl, ?_⟩
  | ((with_reducible refine lenOk ?_ ?_); exact Nat.le_of_ble_eq_true rfl))
local macro_rules | `(tactic| walk_at "dx") => `(tactic| repeat walk_at "d1")
local macro_rules | `(tactic| walk_at "dy1") => `(tactic| first
  | ((with_reducible refine gE ?_); walk_at "dE")
  | ((with_reducible refine gT ?_); walk_at "dT")
  | ((with_reducible refine gA ?_); first | refine da_cons ?_ | refine da_nil ?_)
  | ((with_reducible refine gW2 ?_); walk_at "dw")
  | ((with_reducible refine gW ?_); first | refine dw_and ?_ | refine dw_or ?_ | refine dw_and1 ?_ | refine dw_or1 ?_)
  | ((with_reducible refine gSs ?_); refine dss_nil ?_)
  | ((with_reducible refine gS ?_); first | refine ds_ret ?_ | refine ds_if ?_ | refine ds_retN ?_ | refine ds_pass ?_ | refine ds_break ?_ | refine ds_continue ?_ | walk_at "dset")
  | ((with_reducible refine gW1 ?_); refine w_neg ?_)
  | refine iteT ?_
  | refine iteF ?_
  | refine ⟨_, rfl, ?_⟩
  | refine ⟨rfl, ?_⟩
  | ((with_reducible refine lenOk ?_ ?_); exact Nat.le_of_ble_eq_true rfl))
local macro_rules | `(tactic| walk_at "dy") => `(tactic| repeat walk_at "dy1")
local macro_rules | `(tactic| walk_at "ds") => `(tactic| (refine dss_cons ?_; repeat walk_at "dy1"))

def d_InvalidTable_init : He.DefD := ⟨("InvalidTable", some "__init__"), "__init__", "InvalidTable.__init__", defArgs s_InvalidTable_init, defBody s_InvalidTable_init, defScope s_InvalidTable_init, [], []⟩
def d_Undefined_init : He.DefD := ⟨("Undefined", some "__init__"), "__init__", "Undefined.__init__", defArgs s_Undefined_init, defBody s_Undefined_init, defScope s_Undefined_init, [], []⟩
def k_SIZES : D := .tuple [.int 1, .int 2, .int 4, .int 8, .int 16]
def t_TABLES : List (Str × D) := [("all no", .tuple [.int 0, .int 0]), ("all yes", .tuple [.int 1, .int 1]), ("and", .tuple [.int 0, .int 0, .int 0, .int 1]), ("or", .tuple [.int 0, .int 1, .int 1, .int 1]), ("majority", .tuple [.int 0, .int 0, .int 0, .int 1, .int 0, .int 1, .int 1, .int 1]), ("odd one", .tuple [.int 0, .int 1, .int 1, .int 0, .int 1, .int 0, .int 0, .int 1])]
def d_is_bit : He.DefD := ⟨("is_bit", none), "is_bit", "is_bit", defArgs s_is_bit, defBody s_is_bit, defScope s_is_bit, [], []⟩
def d_is_table : He.DefD := ⟨("is_table", none), "is_table", "is_table", defArgs s_is_table, defBody s_is_table, defScope s_is_table, [], []⟩
def d_table_of : He.DefD := ⟨("table_of", none), "table_of", "table_of", defArgs s_table_of, defBody s_table_of, defScope s_table_of, [], []⟩
def d_widened : He.DefD := ⟨("widened", none), "widened", "widened", defArgs s_widened, defBody s_widened, defScope s_widened, [], []⟩
def k_PLACES : D := .tuple [.tuple [.int 0, .int 0, .int 0, .int 0, .int 1, .int 1, .int 1, .int 1], .tuple [.int 0, .int 0, .int 1, .int 1, .int 0, .int 0, .int 1, .int 1], .tuple [.int 0, .int 1, .int 0, .int 1, .int 0, .int 1, .int 0, .int 1]]
def k_DEEPEST : D := .int 12
def d_is_term : He.DefD := ⟨("_is_term", none), "_is_term", "_is_term", defArgs s_is_term, defBody s_is_term, defScope s_is_term, [], []⟩
def d_put_in : He.DefD := ⟨("put_in", none), "put_in", "put_in", defArgs s_put_in, defBody s_put_in, defScope s_put_in, [], []⟩
def d_told : He.DefD := ⟨("_told", none), "_told", "_told", defArgs s_told, defBody s_told, defScope s_told, [], []⟩
def d_term_table : He.DefD := ⟨("term_table", none), "term_table", "term_table", defArgs s_term_table, defBody s_term_table, defScope s_term_table, [], []⟩
def d_turned : He.DefD := ⟨("turned", none), "turned", "turned", defArgs s_turned, defBody s_turned, defScope s_turned, [], []⟩
def d_is_plain : He.DefD := ⟨("is_plain", none), "is_plain", "is_plain", defArgs s_is_plain, defBody s_is_plain, defScope s_is_plain, [], []⟩
def d_applied : He.DefD := ⟨("_applied", none), "_applied", "_applied", defArgs s_applied, defBody s_applied, defScope s_applied, [], []⟩
def d_readings : He.DefD := ⟨("_readings", none), "_readings", "_readings", defArgs s_readings, defBody s_readings, defScope s_readings, [], []⟩
def d_term_of : He.DefD := ⟨("term_of", none), "term_of", "term_of", defArgs s_term_of, defBody s_term_of, defScope s_term_of, [], []⟩
def d_term_holds : He.DefD := ⟨("term_holds", none), "term_holds", "term_holds", defArgs s_term_holds, defBody s_term_holds, defScope s_term_holds, [], []⟩
def d_law_hand : He.DefD := ⟨("_law_hand", none), "_law_hand", "_law_hand", defArgs s_law_hand, defBody s_law_hand, defScope s_law_hand, [], []⟩
def d_law_take : He.DefD := ⟨("_law_take", none), "_law_take", "_law_take", defArgs s_law_take, defBody s_law_take, defScope s_law_take, [], []⟩
def d_law_table : He.DefD := ⟨("_law_table", none), "_law_table", "_law_table", defArgs s_law_table, defBody s_law_table, defScope s_law_table, [], []⟩
def d_law_places : He.DefD := ⟨("_law_places", none), "_law_places", "_law_places", defArgs s_law_places, defBody s_law_places, defScope s_law_places, [], []⟩
def d_law_put : He.DefD := ⟨("_law_put", none), "_law_put", "_law_put", defArgs s_law_put, defBody s_law_put, defScope s_law_put, [], []⟩
def d_law_terms : He.DefD := ⟨("_law_terms", none), "_law_terms", "_law_terms", defArgs s_law_terms, defBody s_law_terms, defScope s_law_terms, [], []⟩
def d_law_wides : He.DefD := ⟨("_law_wides", none), "_law_wides", "_law_wides", defArgs s_law_wides, defBody s_law_wides, defScope s_law_wides, [], []⟩
def d_law_words : He.DefD := ⟨("_law_words", none), "_law_words", "_law_words", defArgs s_law_words, defBody s_law_words, defScope s_law_words, [], []⟩
def d_law_made_wide : He.DefD := ⟨("_law_made_wide", none), "_law_made_wide", "_law_made_wide", defArgs s_law_made_wide, defBody s_law_made_wide, defScope s_law_made_wide, [], []⟩
def d_law_made_deep : He.DefD := ⟨("_law_made_deep", none), "_law_made_deep", "_law_made_deep", defArgs s_law_made_deep, defBody s_law_made_deep, defScope s_law_made_deep, [], []⟩
def d_law_spoilt : He.DefD := ⟨("_law_spoilt", none), "_law_spoilt", "_law_spoilt", defArgs s_law_spoilt, defBody s_law_spoilt, defScope s_law_spoilt, [], []⟩
def d_law_same : He.DefD := ⟨("_law_same", none), "_law_same", "_law_same", defArgs s_law_same, defBody s_law_same, defScope s_law_same, [], []⟩
def d_law_asked : He.DefD := ⟨("_law_asked", none), "_law_asked", "_law_asked", defArgs s_law_asked, defBody s_law_asked, defScope s_law_asked, [], []⟩
def d_law_is_of : He.DefD := ⟨("_law_is_of", none), "_law_is_of", "_law_is_of", defArgs s_law_is_of, defBody s_law_is_of, defScope s_law_is_of, [], []⟩
def d_law : He.DefD := ⟨("law", none), "law", "law", defArgs s_law, defBody s_law, defScope s_law, [], []⟩
def hfn : List He.DefD := [d_InvalidTable_init, d_Undefined_init, d_is_bit, d_is_table, d_table_of, d_widened, d_is_term, d_put_in, d_told, d_term_table, d_turned, d_is_plain, d_applied, d_readings, d_term_of, d_term_holds, d_law_hand, d_law_take, d_law_table, d_law_places, d_law_put, d_law_terms, d_law_wides, d_law_words, d_law_made_wide, d_law_made_deep, d_law_spoilt, d_law_same, d_law_asked, d_law_is_of, d_law]
def hfa : List He.Fa := [.glo "is_bit", .glo "is_table", .glo "table_of", .glo "widened", .glo "_is_term", .glo "put_in", .glo "_told", .glo "term_table", .glo "turned", .glo "is_plain", .glo "_applied", .glo "_readings", .glo "term_of", .glo "term_holds", .glo "_law_hand", .glo "_law_take", .glo "_law_table", .glo "_law_places", .glo "_law_put", .glo "_law_terms", .glo "_law_wides", .glo "_law_words", .glo "_law_made_wide", .glo "_law_made_deep", .glo "_law_spoilt", .glo "_law_same", .glo "_law_asked", .glo "_law_is_of", .glo "law", .free "isinstance", .free "bool", .free "int", .free "str", .free "tuple", .free "list", .free "len", .free "range", .free "zip", .free "max", .free "abs", .free "sum", .free "repr", .free "reversed"]
def hts : List He.Tab := [(fun K => He.ga K "TABLES", ["all no", "all yes", "and", "or", "majority", "odd one"])]
def hfx : List Fx := [.con "SIZES" k_SIZES, .tab "TABLES" t_TABLES, .con "PLACES" k_PLACES, .con "DEEPEST" k_DEEPEST, .exc "InvalidTable" "value", .exc "Undefined" "what", .cls ["InvalidTable", "Undefined"], .exm ["InvalidTable", "Undefined"] "InvalidTable" ["InvalidTable"], .exm ["InvalidTable", "Undefined"] "Undefined" ["Undefined"]]
def hcl : List Str := ["InvalidTable", "Undefined"]
def hloose0 : List Str := ["CellError", "InvalidTable", "Undefined", "SIZES", "TABLES", "is_bit", "is_table", "table_of", "widened", "PLACES", "DEEPEST", "_is_term", "put_in", "_told", "term_table", "turned", "is_plain", "_applied", "_readings", "term_of", "term_holds", "_law_hand", "_law_take", "_law_table", "_law_places", "_law_put", "_law_terms", "_law_wides", "_law_words", "_law_made_wide"]
def hloose1 : List Str := ["_law_made_deep", "_law_spoilt", "_law_same", "_law_asked", "_law_is_of"]
def hloose : List Str := hloose0 ++ hloose1
def hlaw : Nat := 39
-- fn 0 InvalidTable.__init__
-- fn 1 Undefined.__init__
-- fn 2 is_bit
-- fn 3 is_table
-- fn 4 table_of
-- fn 5 widened
-- fn 6 _is_term
-- fn 7 put_in
-- fn 8 _told
-- fn 9 term_table
-- fn 10 turned
-- fn 11 is_plain
-- fn 12 _applied
-- fn 13 _readings
-- fn 14 term_of
-- fn 15 term_holds
-- fn 16 _law_hand
-- fn 17 _law_take
-- fn 18 _law_table
-- fn 19 _law_places
-- fn 20 _law_put
-- fn 21 _law_terms
-- fn 22 _law_wides
-- fn 23 _law_words
-- fn 24 _law_made_wide
-- fn 25 _law_made_deep
-- fn 26 _law_spoilt
-- fn 27 _law_same
-- fn 28 _law_asked
-- fn 29 _law_is_of
-- fn 30 law
-- fa 0 is_bit
-- fa 1 is_table
-- fa 2 table_of
-- fa 3 widened
-- fa 4 _is_term
-- fa 5 put_in
-- fa 6 _told
-- fa 7 term_table
-- fa 8 turned
-- fa 9 is_plain
-- fa 10 _applied
-- fa 11 _readings
-- fa 12 term_of
-- fa 13 term_holds
-- fa 14 _law_hand
-- fa 15 _law_take
-- fa 16 _law_table
-- fa 17 _law_places
-- fa 18 _law_put
-- fa 19 _law_terms
-- fa 20 _law_wides
-- fa 21 _law_words
-- fa 22 _law_made_wide
-- fa 23 _law_made_deep
-- fa 24 _law_spoilt
-- fa 25 _law_same
-- fa 26 _law_asked
-- fa 27 _law_is_of
-- fa 28 law
-- fa 29 isinstance
-- fa 30 bool
-- fa 31 int
-- fa 32 str
-- fa 33 tuple
-- fa 34 list
-- fa 35 len
-- fa 36 range
-- fa 37 zip
-- fa 38 max
-- fa 39 abs
-- fa 40 sum
-- fa 41 repr
-- fa 42 reversed
-- fx 0 SIZES
-- fx 1 TABLES
-- fx 2 PLACES
-- fx 3 DEEPEST
-- fx 4 exc InvalidTable
-- fx 5 exc Undefined
-- fx 6 cls
-- fx 7 exm InvalidTable
-- fx 8 exm Undefined

/-! ### the mathematics: tables, terms -/
def bD (b : Bool) : D := .int (if b then 1 else 0)
def tbD (b : List Bool) : D := .tuple (b.map bD)
inductive Tm where
  | pl (i : Nat)
  | nd (a b c : Tm)
def Tm.D : Tm → D
  | .pl i => .int i
  | .nd a b c => .tuple [a.D, b.D, c.D]
def Tm.size : Tm → Int
  | .pl _ => 1
  | .nd a b c => a.size + b.size + c.size
def Tm.depth : Tm → Int
  | .pl _ => 0
  | .nd a b c => 1 + max (max a.depth b.depth) c.depth
def Tm.ok : Tm → Prop
  | .pl i => i < 3
  | .nd a b c => a.ok ∧ b.ok ∧ c.ok
def place : Nat → List Bool
  | 0 => [false, false, false, false, true, true, true, true]
  | 1 => [false, false, true, true, false, false, true, true]
  | _ => [false, true, false, true, false, true, false, true]
def bN (b : Bool) : Nat := if b then 1 else 0
def putB (b x y z : List Bool) : List Bool := (List.range 8).map fun i => b.getD (4 * bN (x.getD i false) + 2 * bN (y.getD i false) + bN (z.getD i false)) false
def tell (b : List Bool) : Tm → List Bool
  | .pl i => place i
  | .nd x y z => putB b (tell b x) (tell b y) (tell b z)
/-- whether a value is a term of a depth of at most left -/
def isT : Nat → D → Bool
  | _, .int i => decide (0 ≤ i ∧ i ≤ 2)
  | n + 1, .tuple [a, b, c] => isT n a && (isT n b && isT n c)
  | _, _ => false
theorem tell_len (b : List Bool) : ∀ t : Tm, (tell b t).length = 8
  | .pl 0 => rfl
  | .pl 1 => rfl
  | .pl (_ + 2) => rfl
  | .nd _ _ _ => by simp [tell, putB]
theorem putB_len (b x y z : List Bool) : (putB b x y z).length = 8 := by simp [putB]
theorem isT_D {t : Tm} (h : t.ok) : ∀ n : Nat, isT n t.D = decide (t.depth ≤ n) := by
  induction t with
  | pl i =>
    intro n
    have h3 : i < 3 := h
    have e : isT n (Tm.pl i).D = decide ((0 : Int) ≤ i ∧ (i : Int) ≤ 2) := by cases n <;> rfl
    rw [e]
    simp only [Tm.depth]
    have a : ((0 : Int) ≤ i ∧ (i : Int) ≤ 2) := ⟨by omega, by omega⟩
    have b : (0 : Int) ≤ (n : Nat) := by omega
    simp [a, b]
  | nd x y z hx hy hz =>
    intro n
    obtain ⟨ox, oy, oz⟩ := h
    have dp : ∀ t : Tm, 0 ≤ t.depth := fun t => by
      induction t with
      | pl _ => exact Int.le_refl _
      | nd a b c ha hb hc => simp only [Tm.depth]; omega
    have d1 := dp x
    have d2 := dp y
    have d3 := dp z
    cases n with
    | zero =>
      have e : isT 0 (Tm.nd x y z).D = false := rfl
      rw [e]
      simp only [Tm.depth]
      have q : ¬ (1 + max (max x.depth y.depth) z.depth ≤ ((0 : Nat) : Int)) := by omega
      simp only [q, decide_false]
    | succ n =>
      have e : isT (n + 1) (Tm.nd x y z).D = (isT n x.D && (isT n y.D && isT n z.D)) := rfl
      rw [e, hx ox, hy oy, hz oz, ← Bool.decide_and, ← Bool.decide_and]
      simp only [Tm.depth]
      congr 1
      apply propext
      omega
theorem isT_back : ∀ {n : Nat} {d : D}, isT n d = true → ∃ t : Tm, d = t.D ∧ t.ok ∧ t.depth ≤ n
  | n, .int i, h => by
    have h' : decide (0 ≤ i ∧ i ≤ 2) = true := by cases n <;> exact h
    obtain ⟨a, b⟩ := of_decide_eq_true h'
    obtain ⟨m, rfl⟩ := Int.eq_ofNat_of_zero_le a
    exact ⟨.pl m, rfl, show m < 3 by omega, show (0 : Int) ≤ n by omega⟩
  | 0, .none, h => by simp [isT] at h
  | 0, .bool _, h => by simp [isT] at h
  | 0, .str _, h => by simp [isT] at h
  | 0, .list _, h => by simp [isT] at h
  | 0, .tuple _, h => by simp [isT] at h
  | 0, .dict _, h => by simp [isT] at h
  | n + 1, .none, h => by simp [isT] at h
  | n + 1, .bool _, h => by simp [isT] at h
  | n + 1, .str _, h => by simp [isT] at h
  | n + 1, .list _, h => by simp [isT] at h
  | n + 1, .dict _, h => by simp [isT] at h
  | n + 1, .tuple [a, b, c], h => by
    have h' : (isT n a && (isT n b && isT n c)) = true := h
    rw [Bool.and_eq_true, Bool.and_eq_true] at h'
    obtain ⟨x, ex, ox, dx⟩ := isT_back h'.1
    obtain ⟨y, ey, oy, dy⟩ := isT_back h'.2.1
    obtain ⟨z, ez, oz, dz⟩ := isT_back h'.2.2
    exact ⟨.nd x y z, by rw [ex, ey, ez]; rfl, ⟨ox, oy, oz⟩, by simp only [Tm.depth]; omega⟩
  | n + 1, .tuple [], h => by simp [isT] at h
  | n + 1, .tuple [_], h => by simp [isT] at h
  | n + 1, .tuple [_, _], h => by simp [isT] at h
  | n + 1, .tuple (_ :: _ :: _ :: _ :: _), h => by simp [isT] at h
/-! tables as data -/
theorem lay_b (b : Bool) : (bD b).canLay0 = true := rfl
theorem lays_b : ∀ b : List Bool, PyData.canLayAll0 (b.map bD) = true
  | [] => rfl
  | b :: bs => by simp [PyData.canLayAll0, lay_b b, lays_b bs]
theorem depths_b : ∀ b : List Bool, PyData.depthAll (b.map bD) ≤ 1
  | [] => by simp [PyData.depthAll]
  | b :: bs => by
    have h := depths_b bs
    simp [PyData.depthAll, bD, PyData.depth]
    omega
theorem eqv_b (a b : Bool) : PyData.eqv (bD a) (bD b) = decide (a = b) := by cases a <;> cases b <;> decide

theorem eqvs_b : ∀ a b : List Bool, PyData.eqvAll (a.map bD) (b.map bD) = decide (a = b)
  | [], [] => rfl
  | [], _ :: _ => rfl
  | _ :: _, [] => rfl
  | x :: a, y :: b => by
    rw [List.map_cons, List.map_cons, PyData.eqvAll, eqv_b, eqvs_b a b]
    by_cases h1 : x = y <;> by_cases h2 : a = b <;> simp [h1, h2]
theorem eqv_tb (a b : List Bool) : PyData.eqv (tbD a) (tbD b) = decide (a = b) := by
  unfold tbD
  rw [PyData.eqv]
  exact eqvs_b a b
theorem sh_tb (b : List Bool) : SeqAt.shaped (tbD b) = true := by
  unfold SeqAt.shaped tbD
  have h := depths_b b
  simp only [PyData.canLay0, lays_b, PyData.depth, Bool.true_and]
  exact decide_eq_true (by omega)

section
variable {P : Program} {w : World} {K : PySem.W.Frag} {mg : Str → Option Value} {base : Heap} {kx : Kx}
@[reducible] def fs_is_bit : Fs := fun rs R _ => ∃ b : Bool, rs = [.val (bD b)] ∧ R (.val (.bool true))
theorem cal_is_bit (Dd : Df K mg "is_bit" s_is_bit p_is_bit) (hK : kx.K = K) (T : Bt mg) : Cal P w K mg base kx 1 "is_bit" fs_is_bit := by
  refine cal_of Dd c_is_bit hK (fun rs R X ⟨d, e, _⟩ => by rw [e]; rfl) ?_
  intro f cdv A outer s H E hk rs R Xp hF hr bd tk
  obtain ⟨b, rfl, q⟩ := hF
  cases b with
  | true => walk_at "dx"; exact q
  | false => walk_at "dx"; exact q
@[reducible] def fs_is_table : Fs := fun rs R _ => ∃ b : List Bool, rs = [.val (tbD b), .val (.int 3)] ∧ b.length = 8 ∧ R (.val (.bool true))
theorem mem_tb {b : List Bool} {d : D} {j : Nat} (h : (b.map bD)[j]? = some d) : ∃ v, d = bD v := by
  obtain ⟨v, _, e⟩ := List.mem_map.mp (List.mem_of_getElem? h)
  exact ⟨v, e.symm⟩
theorem cal_is_table (Dd : Df K mg "is_table" s_is_table p_is_table) (hK : kx.K = K) (T : Bt mg) (k1 : Con kx mg "SIZES" k_SIZES) (c1 : Cal P w K mg base kx 1 "is_bit" fs_is_bit) : Cal P w K mg base kx 2 "is_table" fs_is_table := by
  refine cal_of Dd c_is_table hK (fun rs R X ⟨d, e, _⟩ => by rw [e]; rfl) ?_
  intro f cdv A outer s H E hk rs R Xp hF hr bd tk
  obtain ⟨b, rfl, hl, q⟩ := hF
  walk_at "dx"
  refine iteNo (by simp [hl]) ?_
  walk_at "dx"
  refine ds_loop 2 bd rfl rfl (.inl rfl) (.inr rfl) (di_tup bd ?_)
  walk_at "dx"
  refine loopI (fun _ Γ => ∃ s, Γ = [.val (tbD b), .val (.int 3), s]) ⟨_, rfl⟩ (fun j d Γ1 hd hI => ?_) (fun Γ1 hI => ?_)
  · obtain ⟨s, rfl⟩ := hI
    obtain ⟨v, rfl⟩ := mem_tb hd
    walk_at "dx"
    exact ⟨_, rfl⟩
  · obtain ⟨s, rfl⟩ := hI
    walk_at "dx"
    exact q
@[reducible] def fs_table_of : Fs := fun rs R _ => ∃ z d, rs = [.val (.str z)] ∧ (z, d) ∈ t_TABLES ∧ R (.val d)
theorem cal_table_of (Dd : Df K mg "table_of" s_table_of p_table_of) (hK : kx.K = K) (T : Bt mg) (k1 : DictC kx w mg "TABLES" t_TABLES) : Cal P w K mg base kx 1 "table_of" fs_table_of := by
  refine cal_of Dd c_table_of hK (fun rs R X ⟨d, z, e, _⟩ => by rw [e]; rfl) ?_
  intro f cdv A outer s H E hk rs R Xp hF hr bd tk
  obtain ⟨z, d, rfl, hm, q⟩ := hF
  walk_at "dx"
  refine ⟨z, d, rfl, hm, ?_⟩
  walk_at "dx"
  refine ⟨z, d, rfl, hm, ?_⟩
  walk_at "dx"
  exact q
def widD (ds : List D) : D := .tuple ((List.range 8).map fun i => ds.getD (i / (8 / ds.length)) .none)
@[reducible] def fs_widened : Fs := fun rs R _ => ∃ ds : List D, rs = [.val (.tuple ds)] ∧ (ds.length = 2 ∨ ds.length = 4 ∨ ds.length = 8) ∧ R (.val (widD ds))
theorem cal_widened (Dd : Df K mg "widened" s_widened p_widened) (hK : kx.K = K) (T : Bt mg) : Cal P w K mg base kx 1 "widened" fs_widened := by
  refine cal_of Dd c_widened hK (fun rs R X ⟨d, e, _⟩ => by rw [e]; rfl) ?_
  intro f cdv A outer s H E hk rs R Xp hF hr bd tk
  obtain ⟨ds, rfl, hl, q⟩ := hF
  walk_at "dx"
  refine de_comp1 1 bd rfl rfl rfl rfl (b_range T ?_)
  walk_at "dx"
  refine ⟨by decide, ?_⟩
  have l0 : 0 < ds.length ∧ ds.length ≤ 8 := by omega
  refine comp1R (fun i => ds.getD (i / (8 / ds.length)) .none) (by decide) (fun i hi s H C cl fp bd => ?_) ?_
  · walk_at "dx"
    have e1 : (8 : Int) / (ds.length : Int) = ((8 / ds.length : Nat) : Int) := rfl
    have p1 : 0 < 8 / ds.length := Nat.div_pos l0.2 l0.1
    have p2 : 8 / ds.length ≤ 8 := Nat.div_le_self _ _
    rw [e1]
    refine w2_I (show CDiv _ _ from ⟨by omega, by omega⟩) ?_
    have e2 : (i : Int) / ((8 / ds.length : Nat) : Int) = ((i / (8 / ds.length) : Nat) : Int) := rfl
    rw [e2]
    have i8 : i < 8 := hi
    have lt : i / (8 / ds.length) < ds.length := by
      rw [Nat.div_lt_iff_lt_mul p1]
      rcases hl with h | h | h <;> rw [h] <;> omega
    exact w_ixT bd (atI_n (getD_some lt)) rfl
  · walk_at "dx"
    exact q
/-! ### _is_term: the levels -/
@[reducible] def fs_is_term (n : Nat) : Fs := fun rs R _ => ∃ d, rs = [.val d, .val (.int n)] ∧ flat d = true ∧ R (.val (.bool (isT n d)))
theorem flat3 {a b e : D} (h : flat (.tuple [a, b, e]) = true) : flat a = true ∧ flat b = true ∧ flat e = true := by
  simp only [flat, flats, Bool.and_true, Bool.and_eq_true] at h
  exact h
theorem isT_len : ∀ {m : Nat} {xs : List D}, xs.length ≠ 3 → isT m (.tuple xs) = false
  | 0, _, _ => by simp [isT]
  | _ + 1, [], _ => by simp [isT]
  | _ + 1, [_], _ => by simp [isT]
  | _ + 1, [_, _], _ => by simp [isT]
  | _ + 1, [_, _, _], h => absurd rfl h
  | _ + 1, _ :: _ :: _ :: _ :: _, _ => by simp [isT]
theorem isT_0 {xs : List D} : isT 0 (.tuple xs) = false := by simp [isT]
theorem cal_is_term (Dd : Df K mg "_is_term" s_is_term p_is_term) (hK : kx.K = K) (T : Bt mg) : ∀ n : Nat, Cal P w K mg base kx (n + 1) "_is_term" (fs_is_term n) := by
  intro n
  induction n with
  | zero =>
    refine cal_of Dd c_is_term hK (fun rs R X ⟨d, e, _⟩ => by rw [e]; rfl) ?_
    intro f cdv A outer s H E hk rs R Xp hF hr bd tk
    obtain ⟨d, rfl, hf, q⟩ := hF
    cases d with
    | dict kvs => simp [flat] at hf
    | int i =>
      walk_at "dx"
      refine iteBy (fun h => ?_) fun h => ?_
      · walk_at "dx"
        have e : isT 0 (.int i) = decide (i ≤ 2) := by simp [isT, of_decide_eq_true h]
        rw [← e]
        exact q
      · walk_at "dx"
        have e : isT 0 (.int i) = false := by simp [isT, of_decide_eq_false h]
        rw [← e]
        exact q
    | none => walk_at "dx"; exact q
    | bool b => walk_at "dx"; exact q
    | str x => walk_at "dx"; exact q
    | list xs => walk_at "dx"; exact q
    | tuple xs =>
      walk_at "dx"
      refine iteBy (fun h => ?_) fun h => ?_
      · walk_at "dx"
        rw [isT_0] at q
        exact q
      · walk_at "dx"
        rw [isT_0] at q
        exact q
  | succ n ih =>
    refine cal_of Dd c_is_term hK (fun rs R X ⟨d, e, _⟩ => by rw [e]; rfl) ?_
    intro f cdv A outer s H E hk rs R Xp hF hr bd tk
    obtain ⟨d, rfl, hf, q⟩ := hF
    have e1 : ((n + 1 : Nat) : Int) - 1 = (n : Nat) := by omega
    cases d with
    | dict kvs => simp [flat] at hf
    | int i =>
      walk_at "dx"
      refine iteBy (fun h => ?_) fun h => ?_
      · walk_at "dx"
        have e : isT (n + 1) (.int i) = decide (i ≤ 2) := by simp [isT, of_decide_eq_true h]
        rw [← e]
        exact q
      · walk_at "dx"
        have e : isT (n + 1) (.int i) = false := by simp [isT, of_decide_eq_false h]
        rw [← e]
        exact q
    | none => walk_at "dx"; exact q
    | bool b => walk_at "dx"; exact q
    | str x => walk_at "dx"; exact q
    | list xs => walk_at "dx"; exact q
    | tuple xs =>
      walk_at "dx"
      refine iteBy (fun h => ?_) fun h => ?_
      · walk_at "dx"
        rw [isT_len (by simp at h; omega)] at q
        exact q
      · have hl : xs.length = 3 := by simp at h; omega
        obtain ⟨a, b, e, rfl⟩ : ∃ a b e, xs = [a, b, e] := by
          match xs, hl with
          | [a, b, e], _ => exact ⟨a, b, e, rfl⟩
        obtain ⟨fa, fb, fe⟩ := flat3 hf
        have eq : isT (n + 1) (.tuple [a, b, e]) = (isT n a && (isT n b && isT n e)) := rfl
        rw [eq] at q
        walk_at "dx"
        refine ⟨a, by rw [e1], fa, ?_⟩
        refine ⟨_, rfl, iteBy (fun h1 => ?_) fun h1 => ?_⟩
        · rw [h1, Bool.true_and] at q
          walk_at "dx"
          refine ⟨b, by rw [e1], fb, ?_⟩
          refine ⟨_, rfl, iteBy (fun h2 => ?_) fun h2 => ?_⟩
          · rw [h2, Bool.true_and] at q
            walk_at "dx"
            refine ⟨e, by rw [e1], fe, ?_⟩
            walk_at "dx"
            exact q
          · rw [h2] at q
            walk_at "dx"
            exact q
        · rw [h1] at q
          walk_at "dx"
          exact q
end

section
variable {P : Program} {w : World} {K : PySem.W.Frag} {mg : Str → Option Value} {base : Heap} {kx : Kx}
/-! put_in, _told -/
@[reducible] def fs_put_in : Fs := fun rs R _ => ∃ b x y z : List Bool, (rs = [.val (tbD b), .val (.tuple [tbD x, tbD y, tbD z])] ∨ rs = [.val (tbD b), .val (.list [tbD x, tbD y, tbD z])]) ∧ b.length = 8 ∧ x.length = 8 ∧ y.length = 8 ∧ z.length = 8 ∧ R (.val (tbD (putB b x y z)))
theorem putB_D {b x y z : List Bool} : tbD (putB b x y z) = .tuple ((List.range 8).map fun i => bD (b.getD (4 * bN (x.getD i false) + 2 * bN (y.getD i false) + bN (z.getD i false)) false)) := by
  unfold tbD putB
  rw [List.map_map]
  rfl
theorem bD_N (b : Bool) : bD b = .int (bN b : Nat) := by cases b <;> rfl
theorem tb_get {b : List Bool} {i : Nat} (h : i < b.length) : (b.map bD)[i]? = some (bD (b.getD i false)) := by
  rw [List.getElem?_map, List.getD_eq_getElem?_getD, List.getElem?_eq_getElem h]
  rfl
theorem tb_getN {b : List Bool} {i : Nat} (h : i < b.length) : (b.map bD)[i]? = some (.int (bN (b.getD i false) : Nat)) := by rw [← bD_N]; exact tb_get h
theorem bN_le (b : Bool) : bN b ≤ 1 := by cases b <;> decide
theorem cal_put_in (Dd : Df K mg "put_in" s_put_in p_put_in) (hK : kx.K = K) (T : Bt mg) : Cal P w K mg base kx 1 "put_in" fs_put_in := by
  refine cal_of Dd c_put_in hK (fun rs R X ⟨b, x, y, z, e, _⟩ => by rcases e with e | e <;> (rw [e]; rfl)) ?_
  intro f cdv A outer s H E hk rs R Xp hF hr bd tk
  obtain ⟨b, x, y, z, e, lb, lx, ly, lz, q⟩ := hF
  rcases e with rfl | rfl
  case' inl =>
    walk_at "dx"
    refine ds_unp3 2 3 4 bd rfl ⟨rfl, .inr rfl, .inl rfl⟩ ⟨rfl, .inr rfl, .inl rfl⟩ ⟨rfl, .inr rfl, .inl rfl⟩ ?_
    walk_at "dx"
    refine ⟨_, _, _, rfl, ?_⟩
  case' inr =>
    walk_at "dx"
    refine ds_unp3L 2 3 4 bd rfl ⟨rfl, .inr rfl, .inl rfl⟩ ⟨rfl, .inr rfl, .inl rfl⟩ ⟨rfl, .inr rfl, .inl rfl⟩ ?_
    walk_at "dx"
    refine ⟨_, _, _, rfl, ?_⟩
  all_goals
    walk_at "dx"
    refine de_comp1 5 bd rfl rfl rfl rfl (b_range T ?_)
    walk_at "dx"
    refine ⟨by decide, ?_⟩
    refine comp1R (fun i => bD (b.getD (4 * bN (x.getD i false) + 2 * bN (y.getD i false) + bN (z.getD i false)) false)) (by decide) (fun i hi s H C cl fp bd => ?_) ?_
    · have i8 : i < 8 := hi
      walk_at "dx"
      refine w_ixT (ds := x.map bD) bd (atI_n (tb_getN (by omega))) ?_
      walk_at "dx"
      refine w_ixT (ds := y.map bD) bd (atI_n (tb_getN (by omega))) ?_
      walk_at "dx"
      refine w_ixT (ds := z.map bD) bd (atI_n (tb_getN (by omega))) ?_
      walk_at "dx"
      have l1 := bN_le (x.getD i false)
      have l2 := bN_le (y.getD i false)
      have l3 := bN_le (z.getD i false)
      have e : (4 : Int) * (bN (x.getD i false) : Nat) + 2 * (bN (y.getD i false) : Nat) + (bN (z.getD i false) : Nat) = ((4 * bN (x.getD i false) + 2 * bN (y.getD i false) + bN (z.getD i false) : Nat) : Int) := by omega
      rw [e]
      exact w_ixT (ds := b.map bD) bd (atI_n (tb_get (by omega))) rfl
    · walk_at "dx"
      rw [putB_D] at q
      exact q
/-! _told -/
@[reducible] def fs_told (n : Nat) : Fs := fun rs R _ => ∃ b t, rs = [.val (tbD b), .val (Tm.D t)] ∧ b.length = 8 ∧ t.ok ∧ t.depth ≤ n ∧ R (.val (tbD (tell b t)))
theorem k_PLACES_eq : k_PLACES = .tuple [tbD (place 0), tbD (place 1), tbD (place 2)] := rfl
theorem Tm.depth_nn : ∀ t : Tm, 0 ≤ t.depth := fun t => by
  induction t with
  | pl _ => exact Int.le_refl _
  | nd a b c ha hb hc => simp only [Tm.depth]; omega
theorem Tm.inj : ∀ {t u : Tm}, t.D = u.D → t = u
  | .pl i, .pl j, h => by
    have e : (i : Int) = j := PyData.int.inj h
    have : i = j := by omega
    rw [this]
  | .pl _, .nd _ _ _, h => by cases h
  | .nd _ _ _, .pl _, h => by cases h
  | .nd a b c, .nd d e f, h => by
    have h' : [a.D, b.D, c.D] = [d.D, e.D, f.D] := PyData.tuple.inj h
    injection h' with h1 h'
    injection h' with h2 h'
    injection h' with h3 _
    rw [Tm.inj h1, Tm.inj h2, Tm.inj h3]
theorem cal_told (Dd : Df K mg "_told" s_told p_told) (hK : kx.K = K) (T : Bt mg) (k1 : Con kx mg "PLACES" k_PLACES) (c1 : Cal P w K mg base kx 1 "put_in" fs_put_in) : ∀ n : Nat, Cal P w K mg base kx (n + 2) "_told" (fs_told n) := by
  intro n
  induction n with
  | zero =>
    refine cal_of Dd c_told hK (fun rs R X ⟨b, t, e, _⟩ => by rw [e]; rfl) ?_
    intro f cdv A outer s H E hk rs R Xp hF hr bd tk
    obtain ⟨b, t, rfl, lb, ho, hd, q⟩ := hF
    cases t with
    | nd x y z =>
      exfalso
      have d1 := x.depth_nn
      simp only [Tm.depth] at hd
      omega
    | pl i =>
      obtain rfl | rfl | rfl : i = 0 ∨ i = 1 ∨ i = 2 := by have h3 : i < 3 := ho; omega
      · walk_at "dx"; exact q
      · walk_at "dx"; exact q
      · walk_at "dx"; exact q
  | succ n ih =>
    refine cal_of Dd c_told hK (fun rs R X ⟨b, t, e, _⟩ => by rw [e]; rfl) ?_
    intro f cdv A outer s H E hk rs R Xp hF hr bd tk
    obtain ⟨b, t, rfl, lb, ho, hd, q⟩ := hF
    cases t with
    | pl i =>
      obtain rfl | rfl | rfl : i = 0 ∨ i = 1 ∨ i = 2 := by have h3 : i < 3 := ho; omega
      · walk_at "dx"; exact q
      · walk_at "dx"; exact q
      · walk_at "dx"; exact q
    | nd x y z =>
      obtain ⟨ox, oy, oz⟩ := ho
      have dd : x.depth ≤ (n : Nat) ∧ y.depth ≤ (n : Nat) ∧ z.depth ≤ (n : Nat) := by
        simp only [Tm.depth] at hd
        omega
      walk_at "dx"
      refine de_comp1 2 bd rfl rfl rfl rfl (di_tup bd ?_)
      walk_at "dx"
      refine comp1P (fun d e => ∃ u : Tm, d = u.D ∧ e = tbD (tell b u)) (show 3 ≤ sizeLine by decide) (fun d hd s H C cl fp bd => ?_) fun es hp => ?_
      · obtain ⟨u, rfl, ou, du⟩ : ∃ u : Tm, d = u.D ∧ u.ok ∧ u.depth ≤ (n : Nat) := by
          rcases List.mem_cons.mp hd with h | hd
          · exact ⟨x, h, ox, dd.1⟩
          · rcases List.mem_cons.mp hd with h | hd
            · exact ⟨y, h, oy, dd.2.1⟩
            · rcases List.mem_cons.mp hd with h | hd
              · exact ⟨z, h, oz, dd.2.2⟩
              · cases hd
        walk_at "dx"
        exact ⟨b, u, rfl, lb, ou, du, _, rfl, u, rfl, rfl⟩
      · have es3 : es = [tbD (tell b x), tbD (tell b y), tbD (tell b z)] := by
          cases hp with
          | cons h1 hp =>
            cases hp with
            | cons h2 hp =>
              cases hp with
              | cons h3 hp =>
                cases hp
                obtain ⟨u1, e1, rfl⟩ := h1
                obtain ⟨u2, e2, rfl⟩ := h2
                obtain ⟨u3, e3, rfl⟩ := h3
                rw [Tm.inj e1, Tm.inj e2, Tm.inj e3]
        subst es3
        walk_at "dx"
        exact ⟨b, tell b x, tell b y, tell b z, .inr rfl, lb, tell_len b x, tell_len b y, tell_len b z, _, rfl, q⟩
end

section
variable {P : Program} {w : World} {K : PySem.W.Frag} {mg : Str → Option Value} {base : Heap} {kx : Kx}
@[reducible] def fs_term_table : Fs := fun rs R Xp => ∃ b d, rs = [.val (tbD b), .val d] ∧ b.length = 8 ∧ flat d = true ∧ (∀ t : Tm, d = t.D → t.ok → t.depth ≤ 12 → R (.val (tbD (tell b t)))) ∧ (isT 12 d = false → Xp ("Undefined", [(.str "what", .str "term")]))
@[reducible] def g2 : ∀ {α : Type}, List α → List α := fun l => l
theorem cal_term_table (Dd : KwC K mg "term_table" s_term_table p_term_table ["table", "term"] g2) (hK : kx.K = K) (T : Bt mg) (k1 : Con kx mg "DEEPEST" k_DEEPEST) (c1 : Cal P w K mg base kx 2 "is_table" fs_is_table) (c2 : Cal P w K mg base kx 13 "_is_term" (fs_is_term 12))
    (c3 : Cal P w K mg base kx 14 "_told" (fs_told 12)) (x1 : Xc P w K mg base kx "Undefined" "what") : Cal P w K mg base kx 15 "term_table" fs_term_table ∧ CalK P w K mg base kx 15 "term_table" ["table", "term"] g2 fs_term_table := by
  refine cals_of Dd c_term_table hK (fun rs R X ⟨b, d, e, _⟩ => by rw [e]; rfl) ?_
  intro f cdv A outer s H E hk rs R Xp hF hr bd tk
  obtain ⟨b, d, rfl, lb, hf, q1, q2⟩ := hF
  walk_at "dx"
  refine ⟨lb, ?_⟩
  walk_at "dx"
  refine ⟨hf, ?_⟩
  refine ⟨_, rfl, ?_⟩
  refine iteBy (fun h => ?_) fun h => ?_
  · walk_at "dx"
    refine ds_raiseX rfl bd tk (Room.mono hr (by decide)) x1 ?_
    walk_at "dx"
    exact q2 (by simpa using h)
  · have h' : isT 12 d = true := by simpa using h
    obtain ⟨t, rfl, ot, dt⟩ := isT_back h'
    walk_at "dx"
    exact ⟨b, t, rfl, lb, ot, dt, _, rfl, q1 t rfl ot dt⟩
@[reducible] def fs_turned : Fs := fun rs R _ => ∃ b : List Bool, rs = [.val (tbD b)] ∧ b.length = 8 ∧ R (.val (tbD (b.map not)))
theorem mem_tb' {b : List Bool} {d : D} (h : d ∈ b.map bD) : ∃ v, d = bD v := by
  obtain ⟨v, _, e⟩ := List.mem_map.mp h
  exact ⟨v, e.symm⟩
theorem cal_turned (Dd : Df K mg "turned" s_turned p_turned) (hK : kx.K = K) (T : Bt mg) : Cal P w K mg base kx 1 "turned" fs_turned := by
  refine cal_of Dd c_turned hK (fun rs R X ⟨d, e, _⟩ => by rw [e]; rfl) ?_
  intro f cdv A outer s H E hk rs R Xp hF hr bd tk
  obtain ⟨b, rfl, lb, q⟩ := hF
  walk_at "dx"
  refine de_comp1 1 bd rfl rfl rfl rfl (di_tup bd ?_)
  walk_at "dx"
  refine comp1F (fun d => match d with | .int i => .int (1 - i) | _ => .none) (by rw [List.length_map, lb]; decide) (fun d hd s H C cl fp bd => ?_) ?_
  · obtain ⟨v, rfl⟩ := mem_tb' hd
    walk_at "dx"
    rfl
  · walk_at "dx"
    have e : (b.map bD).map (fun d : D => match d with | .int i => .int (1 - i) | _ => .none) = (b.map not).map bD := by
      rw [List.map_map, List.map_map]
      apply List.map_congr_left
      intro v _
      cases v <;> rfl
    rw [e]
    exact q
def inP (b : List Bool) : Bool := [place 0, place 1, place 2].any fun z => decide (z = b)
def plainB (b : List Bool) : Bool := inP b || inP (b.map not)
theorem inP_any (b : List Bool) : ([tbD (place 0), tbD (place 1), tbD (place 2)].any fun z => PyData.eqv z (tbD b)) = inP b := by
  simp only [List.any_cons, List.any_nil, eqv_tb, inP]
@[reducible] def fs_is_plain : Fs := fun rs R _ => ∃ b : List Bool, rs = [.val (tbD b)] ∧ b.length = 8 ∧ R (.val (.bool (plainB b)))
theorem cal_is_plain (Dd : Df K mg "is_plain" s_is_plain p_is_plain) (hK : kx.K = K) (T : Bt mg) (k1 : Con kx mg "PLACES" k_PLACES) (c1 : Cal P w K mg base kx 1 "turned" fs_turned) : Cal P w K mg base kx 2 "is_plain" fs_is_plain := by
  refine cal_of Dd c_is_plain hK (fun rs R X ⟨d, e, _⟩ => by rw [e]; rfl) ?_
  intro f cdv A outer s H E hk rs R Xp hF hr bd tk
  obtain ⟨b, rfl, lb, q⟩ := hF
  walk_at "dx"
  refine w_inT (ds := [tbD (place 0), tbD (place 1), tbD (place 2)]) bd rfl rfl (sh_tb b) (by decide) ?_
  rw [inP_any]
  refine ⟨_, rfl, iteBy (fun h => ?_) fun h => ?_⟩
  · walk_at "dx"
    have e : plainB b = true := by simp [plainB, h]
    rw [e] at q
    exact q
  · walk_at "dx"
    refine ⟨lb, ?_⟩
    walk_at "dx"
    refine w_inT (ds := [tbD (place 0), tbD (place 1), tbD (place 2)]) bd rfl rfl (sh_tb _) (by decide) ?_
    rw [inP_any]
    walk_at "dx"
    have e : plainB b = inP (b.map not) := by simp [plainB, h]
    rw [e] at q
    exact q
def appl (k : Bool) (t : Tm) : Tm := if k then .nd t t t else t
@[reducible] def fs_applied : Fs := fun rs R _ => ∃ (k : Bool) (t : Tm), rs = [.val (.bool k), .val t.D] ∧ R (.val (appl k t).D)
theorem cal_applied (Dd : Df K mg "_applied" s_applied p_applied) (hK : kx.K = K) (T : Bt mg) : Cal P w K mg base kx 1 "_applied" fs_applied := by
  refine cal_of Dd c_applied hK (fun rs R X ⟨k, t, e, _⟩ => by rw [e]; rfl) ?_
  intro f cdv A outer s H E hk rs R Xp hF hr bd tk
  obtain ⟨k, t, rfl, q⟩ := hF
  cases k with
  | true => walk_at "dx"; exact q
  | false => walk_at "dx"; exact q
@[reducible] def rdD (a b : Bool) (t : Tm) : D := .tuple [.tuple [bD a, bD b], t.D]
@[reducible] def t001 : Tm := .nd (.pl 0) (.pl 0) (.pl 1)
@[reducible] def t010 : Tm := .nd (.pl 0) (.pl 1) (.pl 0)
@[reducible] def t100 : Tm := .nd (.pl 1) (.pl 0) (.pl 0)
@[reducible] def t012 : Tm := .nd (.pl 0) (.pl 1) (.pl 2)
@[reducible] def fs_readings : Fs := fun rs R _ => ∃ b0 b1 b2 b3 b4 b5 b6 b7 : Bool, rs = [.val (tbD [b0, b1, b2, b3, b4, b5, b6, b7])] ∧ R (.val (.tuple [rdD b1 b6 t001, rdD b2 b5 t010, rdD b4 b3 t100]))
theorem cal_readings (Dd : Df K mg "_readings" s_readings p_readings) (hK : kx.K = K) (T : Bt mg) : Cal P w K mg base kx 1 "_readings" fs_readings := by
  refine cal_of Dd c_readings hK (fun rs R X ⟨b0, b1, b2, b3, b4, b5, b6, b7, e, _⟩ => by rw [e]; rfl) ?_
  intro f cdv A outer s H E hk rs R Xp hF hr bd tk
  obtain ⟨b0, b1, b2, b3, b4, b5, b6, b7, rfl, q⟩ := hF
  walk_at "dx"
  exact q
/-! term_of -/
def wd : Nat → Str
  | 0 => "all no"
  | 1 => "all yes"
  | 2 => "and"
  | 3 => "or"
  | 4 => "majority"
  | _ => "odd one"
def wide : Nat → List Bool
  | 0 => [false, false, false, false, false, false, false, false]
  | 1 => [true, true, true, true, true, true, true, true]
  | 2 => [false, false, false, false, false, false, true, true]
  | 3 => [false, false, true, true, true, true, true, true]
  | 4 => [false, false, false, true, false, true, true, true]
  | _ => [false, true, true, false, true, false, false, true]
def tailR (k : Bool) : Bool → Bool → Bool → Nat × Tm
  | false, false, false => (4, appl k t012)
  | true, true, true => (5, appl k t012)
  | false, _, _ => (4, appl k (.nd (.pl 0) (.pl 1) (appl k t012)))
  | true, false, _ => (4, appl k (.nd (.pl 0) (appl k t012) (.pl 2)))
  | true, true, false => (4, appl k (.nd (appl k t012) (.pl 1) (.pl 2)))
/-- what the readings of the table lead to -/
def rest (k c1 c2 c3 c4 c5 c6 : Bool) : Nat × Tm :=
  if c1 = c6 then (if c1 then 3 else 2, appl k t001)
  else if c2 = c5 then (if c2 then 3 else 2, appl k t010)
  else if c4 = c3 then (if c4 then 3 else 2, appl k t100)
  else tailR k c1 c2 c4
def termOf : List Bool → Nat × Tm
  | [b0, b1, b2, b3, b4, b5, b6, b7] =>
    if b0 = b7 then (if b0 then 1 else 0, .nd (.pl 0) (.pl 0) (.pl 0))
    else match (if b0 then putB [b0, b1, b2, b3, b4, b5, b6, b7] [b0, b1, b2, b3, b4, b5, b6, b7] [b0, b1, b2, b3, b4, b5, b6, b7] [b0, b1, b2, b3, b4, b5, b6, b7] else [b0, b1, b2, b3, b4, b5, b6, b7]) with
      | [_, c1, c2, c3, c4, c5, c6, _] => rest b0 c1 c2 c3 c4 c5 c6
      | _ => (0, .pl 0)
  | _ => (0, .pl 0)
def Tm.okB : Tm → Bool
  | .pl i => decide (i < 3)
  | .nd a b c => a.okB && (b.okB && c.okB)
theorem Tm.okB_ok : ∀ {t : Tm}, t.okB = true → t.ok
  | .pl i, h => by have h2 : decide (i < 3) = true := h; show i < 3; exact of_decide_eq_true h2
  | .nd a b c, h => by
    have h' : (a.okB && (b.okB && c.okB)) = true := h
    rw [Bool.and_eq_true, Bool.and_eq_true] at h'
    exact ⟨Tm.okB_ok h'.1, Tm.okB_ok h'.2.1, Tm.okB_ok h'.2.2⟩
/-- THE PLAIN LAW of term_of -/
theorem termOf_all : ∀ b0 b1 b2 b3 b4 b5 b6 b7 : Bool, plainB [b0, b1, b2, b3, b4, b5, b6, b7] = true ∨ ((termOf [b0, b1, b2, b3, b4, b5, b6, b7]).1 < 6 ∧ (termOf [b0, b1, b2, b3, b4, b5, b6, b7]).2.okB = true ∧ (termOf [b0, b1, b2, b3, b4, b5, b6, b7]).2.depth ≤ 12 ∧
    tell [b0, b1, b2, b3, b4, b5, b6, b7] (termOf [b0, b1, b2, b3, b4, b5, b6, b7]).2 = wide (termOf [b0, b1, b2, b3, b4, b5, b6, b7]).1) := by decide +kernel
theorem eight {b : List Bool} (h : b.length = 8) : ∃ b0 b1 b2 b3 b4 b5 b6 b7, b = [b0, b1, b2, b3, b4, b5, b6, b7] := by
  match b, h with
  | [b0, b1, b2, b3, b4, b5, b6, b7], _ => exact ⟨b0, b1, b2, b3, b4, b5, b6, b7, rfl⟩
theorem termOf_ok {b : List Bool} (h : b.length = 8) (hp : plainB b = false) : (termOf b).1 < 6 ∧ (termOf b).2.ok ∧ (termOf b).2.depth ≤ 12 ∧ tell b (termOf b).2 = wide (termOf b).1 := by
  obtain ⟨b0, b1, b2, b3, b4, b5, b6, b7, rfl⟩ := eight h
  rcases termOf_all b0 b1 b2 b3 b4 b5 b6 b7 with z | ⟨z1, z2, z3, z4⟩
  · rw [hp] at z; cases z
  · exact ⟨z1, Tm.okB_ok z2, z3, z4⟩
end

section
variable {P : Program} {w : World} {K : PySem.W.Frag} {mg : Str → Option Value} {base : Heap} {kx : Kx}
theorem td_mem : ∀ i : Nat, i < 6 → ∃ ds, (wd i, PyData.tuple ds) ∈ t_TABLES ∧ (ds.length = 2 ∨ ds.length = 4 ∨ ds.length = 8) ∧ widD ds = tbD (wide i)
  | 0, _ => ⟨_, List.getElem_mem (l := t_TABLES) (n := 0) (by decide), by decide, rfl⟩
  | 1, _ => ⟨_, List.getElem_mem (l := t_TABLES) (n := 1) (by decide), by decide, rfl⟩
  | 2, _ => ⟨_, List.getElem_mem (l := t_TABLES) (n := 2) (by decide), by decide, rfl⟩
  | 3, _ => ⟨_, List.getElem_mem (l := t_TABLES) (n := 3) (by decide), by decide, rfl⟩
  | 4, _ => ⟨_, List.getElem_mem (l := t_TABLES) (n := 4) (by decide), by decide, rfl⟩
  | 5, _ => ⟨_, List.getElem_mem (l := t_TABLES) (n := 5) (by decide), by decide, rfl⟩
  | _ + 6, h => by omega
@[reducible] def fs_term_holds : Fs := fun rs R _ => ∃ b i d, rs = [.val (tbD b), .val (.tuple [.str (wd i), d])] ∧ b.length = 8 ∧ i < 6 ∧ flat d = true ∧ (isT 12 d = false → R (.val (.bool false))) ∧ (∀ t : Tm, d = t.D → t.ok → t.depth ≤ 12 → R (.val (.bool (decide (tell b t = wide i)))))
theorem cal_term_holds (Dd : KwC K mg "term_holds" s_term_holds p_term_holds ["table", "claim"] g2) (hK : kx.K = K) (T : Bt mg) (k1 : Con kx mg "DEEPEST" k_DEEPEST) (k2 : DictC kx w mg "TABLES" t_TABLES) (c1 : Cal P w K mg base kx 1 "table_of" fs_table_of) (c4 : Cal P w K mg base kx 1 "widened" fs_widened) (c2 : Cal P w K mg base kx 13 "_is_term" (fs_is_term 12))
    (c3 : Cal P w K mg base kx 14 "_told" (fs_told 12)) : Cal P w K mg base kx 15 "term_holds" fs_term_holds ∧ CalK P w K mg base kx 15 "term_holds" ["table", "claim"] g2 fs_term_holds := by
  refine cals_of Dd c_term_holds hK (fun rs R X ⟨b, i, d, e, _⟩ => by rw [e]; rfl) ?_
  intro f cdv A outer s H E hk rs R Xp hF hr bd tk
  obtain ⟨b, i, d, rfl, lb, hi, hf, q1, q2⟩ := hF
  obtain ⟨td, hm, tl, ew⟩ := td_mem i hi
  walk_at "dx"
  refine ds_unp2 2 3 bd rfl (by walk_at "lc") (by walk_at "lc") ?_
  walk_at "dx"
  refine ⟨_, _, rfl, ?_⟩
  walk_at "dx"
  refine ⟨_, _, rfl, hm, ?_⟩
  walk_at "dx"
  refine ⟨hf, ?_⟩
  refine ⟨_, rfl, ?_⟩
  refine iteBy (fun h => ?_) fun h => ?_
  · walk_at "dx"
    exact q1 (by simpa using h)
  · have h' : isT 12 d = true := by simpa using h
    obtain ⟨t, rfl, ot, dt⟩ := isT_back h'
    walk_at "dx"
    refine ⟨b, t, rfl, lb, ot, dt, ?_⟩
    walk_at "dx"
    refine ⟨_, _, rfl, hm, ?_⟩
    walk_at "dx"
    refine ⟨tl, ?_⟩
    rw [ew]
    refine w_eqD bd rfl rfl (sh_tb _) (sh_tb _) ?_
    rw [eqv_tb]
    walk_at "dx"
    exact q2 t rfl ot dt
end

section
variable {P : Program} {w : World} {K : PySem.W.Frag} {mg : Str → Option Value} {base : Heap} {kx : Kx}
/-- behind the loop -/
theorem term_of_tail {f : Addr} {cdv : Value} {A : Around} {outer : List Env} {s : Shared} {H : Hp} {E : XK} {hk : Option (Addr × Addr)} {Xp : Ec → Prop} {R : Rs → Prop} (T : Bt mg) (c5 : Cal P w K mg base kx 1 "_applied" fs_applied)
    (hr : Room 2 (cxOf (CX P w) P w K mg base n_term_of "term_of" (defScope s_term_of) f cdv A outer s H E).A) (bd : Bd (cxOf (CX P w) P w K mg base n_term_of "term_of" (defScope s_term_of) f cdv A outer s H E) (csOf kx hk E Xp))
    (tk : Takes (cxOf (CX P w) P w K mg base n_term_of "term_of" (defScope s_term_of) f cdv A outer s H E) (csOf kx hk E Xp).W) (k c1 c2 c4 : Bool) (a b e : Bool) (tb : D) (s3 s4 : Sl)
    (q : R (.val (.tuple [.str (wd (tailR k c1 c2 c4).1), (tailR k c1 c2 c4).2.D]))) :
    DSs (cxOf (CX P w) P w K mg base n_term_of "term_of" (defScope s_term_of) f cdv A outer s H E) (csOf kx hk E Xp) ((defBody s_term_of).drop 7) [.val tb, .val (.bool k), .val (.tuple [rdD c1 a t001, rdD c2 b t010, rdD c4 e t100]), s3, s4, .un, .un, .un] { nx := fun _ => R (.val .none), rt := R } := by
  walk_at "ds"
  refine ds_setComp2 3 7 5 bd rfl rfl rfl rfl rfl rfl rfl rfl (sw_true rfl rfl rfl rfl) (di_tup bd ?_)
  walk_at "dy"
  refine ⟨by show 3 ≤ sizeLine; decide, fun d e => ∃ z u, d = .tuple [.tuple [e, z], u], fun d hd => ?_, fun es hp => ?_⟩
  · obtain ⟨v, z, t, rfl⟩ : ∃ (v z : Bool) (t : Tm), d = rdD v z t := by
      rcases List.mem_cons.mp hd with h | hd
      · exact ⟨_, _, _, h⟩
      · rcases List.mem_cons.mp hd with h | hd
        · exact ⟨_, _, _, h⟩
        · rcases List.mem_cons.mp hd with h | hd
          · exact ⟨_, _, _, h⟩
          · cases hd
    refine ⟨_, _, rfl, fun s H C cl fp bd => ?_⟩
    walk_at "dx"
    exact ⟨_, _, rfl⟩
  · have e3 : es = [bD c1, bD c2, bD c4] := by
      cases hp with
      | cons h1 hp =>
        cases hp with
        | cons h2 hp =>
          cases hp with
          | cons h3 hp =>
            cases hp
            obtain ⟨_, _, e1⟩ := h1
            obtain ⟨_, _, e2⟩ := h2
            obtain ⟨_, _, e3⟩ := h3
            cases e1
            cases e2
            cases e3
            rfl
    subst e3
    walk_at "dy"
    walk_at "ds"
    refine ⟨k, t012, rfl, ?_⟩
    walk_at "dy"
    walk_at "ds"
    cases c1 <;> cases c2 <;> cases c4
    · refine ⟨[0, 0, 0], rfl, ?_⟩
      walk_at "dx"
      exact q
    · refine ⟨[0, 0, 1], rfl, ?_⟩
      walk_at "dx"
      refine ⟨[0, 0, 1], rfl, ?_⟩
      walk_at "dx"
      refine ds_setItem 4 bd rfl (by walk_at "vis") rfl ?_
      walk_at "dx"
      refine de_index bd ?_
      walk_at "dx"
      refine ⟨.int 0, 0, .int 0, rfl, rfl, rfl, rfl, rfl, fun m z' hm hz => ?_, ?_⟩
      · rcases m with _ | _ | m
        all_goals first | (cases hz; rfl) | omega
      · walk_at "dx"
        refine ⟨_, _, rfl, rfl, ?_⟩
        walk_at "dx"
        refine ⟨k, .nd (.pl 0) (.pl 1) (appl k t012), rfl, ?_⟩
        walk_at "dx"
        exact q
    · refine ⟨[0, 1, 0], rfl, ?_⟩
      walk_at "dx"
      refine ⟨[0, 1, 0], rfl, ?_⟩
      walk_at "dx"
      refine ds_setItem 4 bd rfl (by walk_at "vis") rfl ?_
      walk_at "dx"
      refine de_index bd ?_
      walk_at "dx"
      refine ⟨.int 0, 0, .int 0, rfl, rfl, rfl, rfl, rfl, fun m z' hm hz => ?_, ?_⟩
      · rcases m with _ | _ | m
        all_goals first | (cases hz; rfl) | omega
      · walk_at "dx"
        refine ⟨_, _, rfl, rfl, ?_⟩
        walk_at "dx"
        refine ⟨k, .nd (.pl 0) (.pl 1) (appl k t012), rfl, ?_⟩
        walk_at "dx"
        exact q
    · refine ⟨[0, 1, 1], rfl, ?_⟩
      walk_at "dx"
      refine ⟨[0, 1, 1], rfl, ?_⟩
      walk_at "dx"
      refine ds_setItem 4 bd rfl (by walk_at "vis") rfl ?_
      walk_at "dx"
      refine de_index bd ?_
      walk_at "dx"
      refine ⟨.int 0, 0, .int 0, rfl, rfl, rfl, rfl, rfl, fun m z' hm hz => ?_, ?_⟩
      · rcases m with _ | _ | m
        all_goals first | (cases hz; rfl) | omega
      · walk_at "dx"
        refine ⟨_, _, rfl, rfl, ?_⟩
        walk_at "dx"
        refine ⟨k, .nd (.pl 0) (.pl 1) (appl k t012), rfl, ?_⟩
        walk_at "dx"
        exact q
    · refine ⟨[1, 0, 0], rfl, ?_⟩
      walk_at "dx"
      refine ⟨[1, 0, 0], rfl, ?_⟩
      walk_at "dx"
      refine ds_setItem 4 bd rfl (by walk_at "vis") rfl ?_
      walk_at "dx"
      refine de_index bd ?_
      walk_at "dx"
      refine ⟨.int 0, 1, .int 0, rfl, rfl, rfl, rfl, rfl, fun m z' hm hz => ?_, ?_⟩
      · rcases m with _ | _ | m
        all_goals first | (cases hz; rfl) | omega
      · walk_at "dx"
        refine ⟨_, _, rfl, rfl, ?_⟩
        walk_at "dx"
        refine ⟨k, .nd (.pl 0) (appl k t012) (.pl 2), rfl, ?_⟩
        walk_at "dx"
        exact q
    · refine ⟨[1, 0, 1], rfl, ?_⟩
      walk_at "dx"
      refine ⟨[1, 0, 1], rfl, ?_⟩
      walk_at "dx"
      refine ds_setItem 4 bd rfl (by walk_at "vis") rfl ?_
      walk_at "dx"
      refine de_index bd ?_
      walk_at "dx"
      refine ⟨.int 0, 1, .int 0, rfl, rfl, rfl, rfl, rfl, fun m z' hm hz => ?_, ?_⟩
      · rcases m with _ | _ | m
        all_goals first | (cases hz; rfl) | omega
      · walk_at "dx"
        refine ⟨_, _, rfl, rfl, ?_⟩
        walk_at "dx"
        refine ⟨k, .nd (.pl 0) (appl k t012) (.pl 2), rfl, ?_⟩
        walk_at "dx"
        exact q
    · refine ⟨[1, 1, 0], rfl, ?_⟩
      walk_at "dx"
      refine ⟨[1, 1, 0], rfl, ?_⟩
      walk_at "dx"
      refine ds_setItem 4 bd rfl (by walk_at "vis") rfl ?_
      walk_at "dx"
      refine de_index bd ?_
      walk_at "dx"
      refine ⟨.int 0, 2, .int 0, rfl, rfl, rfl, rfl, rfl, fun m z' hm hz => ?_, ?_⟩
      · rcases m with _ | _ | m
        all_goals first | (cases hz; rfl) | omega
      · walk_at "dx"
        refine ⟨_, _, rfl, rfl, ?_⟩
        walk_at "dx"
        refine ⟨k, .nd (appl k t012) (.pl 1) (.pl 2), rfl, ?_⟩
        walk_at "dx"
        exact q
    · refine ⟨[1, 1, 1], rfl, ?_⟩
      walk_at "dx"
      refine ⟨[1, 1, 1], rfl, ?_⟩
      walk_at "dx"
      exact q
end
theorem termOf_t {b1 b2 b3 b4 b5 b6 c0 c1 c2 c3 c4 c5 c6 c7 : Bool} (ec : putB [true, b1, b2, b3, b4, b5, b6, false] [true, b1, b2, b3, b4, b5, b6, false] [true, b1, b2, b3, b4, b5, b6, false] [true, b1, b2, b3, b4, b5, b6, false] = [c0, c1, c2, c3, c4, c5, c6, c7]) :
    termOf [true, b1, b2, b3, b4, b5, b6, false] = rest true c1 c2 c3 c4 c5 c6 := by
  unfold termOf
  dsimp only
  rw [if_neg (by decide), if_pos rfl, ec]

section
variable {P : Program} {w : World} {K : PySem.W.Frag} {mg : Str → Option Value} {base : Heap} {kx : Kx}
@[reducible] def fs_term_of : Fs := fun rs R Xp => ∃ b : List Bool, rs = [.val (tbD b)] ∧ b.length = 8 ∧ (plainB b = true → Xp ("Undefined", [(.str "what", .str "plain")])) ∧ (plainB b = false → R (.val (.tuple [.str (wd (termOf b).1), (termOf b).2.D])))
theorem cal_term_of (Dd : Df K mg "term_of" s_term_of p_term_of) (hK : kx.K = K) (T : Bt mg) (c1 : Cal P w K mg base kx 2 "is_table" fs_is_table) (c2 : Cal P w K mg base kx 2 "is_plain" fs_is_plain) (c3 : Cal P w K mg base kx 1 "put_in" fs_put_in) (c4 : Cal P w K mg base kx 1 "_readings" fs_readings)
    (c5' : Cal P w K mg base kx 1 "_applied" fs_applied) (x1 : Xc P w K mg base kx "Undefined" "what") : Cal P w K mg base kx 3 "term_of" fs_term_of := by
  refine cal_of Dd c_term_of hK (fun rs R X ⟨b, e, _⟩ => by rw [e]; rfl) ?_
  intro f cdv A outer s H E hk rs R Xp hF hr bd tk
  obtain ⟨b, rfl, lb, q1, q2⟩ := hF
  walk_at "dx"
  refine ⟨lb, ?_⟩
  walk_at "dx"
  refine ⟨lb, ?_⟩
  refine ⟨_, rfl, ?_⟩
  refine iteBy (fun h => ?_) fun h => ?_
  · walk_at "dx"
    refine ds_raiseX rfl bd tk (Room.mono hr (by decide)) x1 ?_
    walk_at "dx"
    exact q1 h
  replace q2 := q2 h
  walk_at "dy"
  walk_at "ds"
  have fin : ∀ k c0 c1 c2 c3 c4 c5 c6 c7 : Bool, R (.val (.tuple [.str (wd (rest k c1 c2 c3 c4 c5 c6).1), (rest k c1 c2 c3 c4 c5 c6).2.D])) →
      DSs (cxOf (CX P w) P w K mg base n_term_of "term_of" (defScope s_term_of) f cdv A outer s H E) (csOf kx hk E Xp) ((defBody s_term_of).drop 5) [.val (tbD [c0, c1, c2, c3, c4, c5, c6, c7]), .val (.bool k), .un, .un, .un, .un, .un, .un] { nx := fun _ => R (.val .none), rt := R } := by
    intro k c0 c1 c2 c3 c4 c5 c6 c7 q
    walk_at "ds"
    refine ⟨_, _, _, _, _, _, _, _, rfl, ?_⟩
    walk_at "dx"
    refine ds_loopT bd rfl (dg2 3 4 bd rfl (by walk_at "lc") (by walk_at "lc")) (di_tup bd ?_)
    walk_at "dx"
    refine loopT (fun j Γ => ∃ s3 s4 : D, (Γ = [.val (tbD [c0, c1, c2, c3, c4, c5, c6, c7]), .val (.bool k), .val (.tuple [rdD c1 c6 t001, rdD c2 c5 t010, rdD c4 c3 t100]), .val s3, .val s4, .un, .un, .un] ∨ Γ = [.val (tbD [c0, c1, c2, c3, c4, c5, c6, c7]), .val (.bool k), .val (.tuple [rdD c1 c6 t001, rdD c2 c5 t010, rdD c4 c3 t100]), .un, .un, .un, .un, .un])
      ∧ (1 ≤ j → c1 ≠ c6) ∧ (2 ≤ j → c2 ≠ c5) ∧ (3 ≤ j → c4 ≠ c3)) ⟨.none, .none, .inr rfl, fun h => by omega, fun h => by omega, fun h => by omega⟩ (fun j d Γ1 hd hI => ?_) (fun Γ1 hI => ?_)
    · obtain ⟨s3, s4, hΓ, h1, h2, h3⟩ := hI
      have reach : ∃ Γ2, (∃ a b, d = .tuple [a, b] ∧ Γ2 = (Γ1.set 3 (.val a)).set 4 (.val b) ∧ Γ2 = [.val (tbD [c0, c1, c2, c3, c4, c5, c6, c7]), .val (.bool k), .val (.tuple [rdD c1 c6 t001, rdD c2 c5 t010, rdD c4 c3 t100]), .val a, .val b, .un, .un, .un]) := by
        obtain ⟨a, b, e⟩ : ∃ a b, d = .tuple [a, b] := by
          rcases j with _ | _ | _ | j
          · cases hd; exact ⟨_, _, rfl⟩
          · cases hd; exact ⟨_, _, rfl⟩
          · cases hd; exact ⟨_, _, rfl⟩
          · cases hd
        rcases hΓ with rfl | rfl
        · exact ⟨_, a, b, e, rfl, rfl⟩
        · exact ⟨_, a, b, e, rfl, rfl⟩
      obtain ⟨Γ2, a, b, e1, e2, e3⟩ := reach
      refine ⟨Γ2, ⟨a, b, e1, e2⟩, ?_⟩
      rw [e3]
      clear e2 e3 hΓ
      rcases j with _ | _ | _ | j
      · cases hd
        cases e1
        by_cases hc : c1 = c6
        · subst hc
          have er : rest k c1 c2 c3 c4 c5 c1 = (if c1 then 3 else 2, appl k t001) := by unfold rest; rw [if_pos rfl]
          rw [er] at q
          cases c1
          · walk_at "dx"
            walk_at "dx"
            refine ⟨k, t001, rfl, ?_⟩
            walk_at "dx"
            exact q
          · walk_at "dx"
            walk_at "dx"
            refine ⟨k, t001, rfl, ?_⟩
            walk_at "dx"
            exact q
        · cases c1 <;> cases c6 <;> first | exact absurd rfl hc | skip
          · walk_at "dx"
            exact ⟨_, _, .inl rfl, fun _ => hc, fun h => by omega, fun h => by omega⟩
          · walk_at "dx"
            exact ⟨_, _, .inl rfl, fun _ => hc, fun h => by omega, fun h => by omega⟩
      · cases hd
        cases e1
        have hc1 := h1 (by omega)
        by_cases hc : c2 = c5
        · subst hc
          have er : rest k c1 c2 c3 c4 c2 c6 = (if c2 then 3 else 2, appl k t010) := by unfold rest; rw [if_neg hc1, if_pos rfl]
          rw [er] at q
          cases c2
          · walk_at "dx"
            walk_at "dx"
            refine ⟨k, t010, rfl, ?_⟩
            walk_at "dx"
            exact q
          · walk_at "dx"
            walk_at "dx"
            refine ⟨k, t010, rfl, ?_⟩
            walk_at "dx"
            exact q
        · cases c2 <;> cases c5 <;> first | exact absurd rfl hc | skip
          · walk_at "dx"
            exact ⟨_, _, .inl rfl, fun _ => hc1, fun _ => hc, fun h => by omega⟩
          · walk_at "dx"
            exact ⟨_, _, .inl rfl, fun _ => hc1, fun _ => hc, fun h => by omega⟩
      · cases hd
        cases e1
        have hc1 := h1 (by omega)
        have hc2 := h2 (by omega)
        by_cases hc : c4 = c3
        · subst hc
          have er : rest k c1 c2 c4 c4 c5 c6 = (if c4 then 3 else 2, appl k t100) := by unfold rest; rw [if_neg hc1, if_neg hc2, if_pos rfl]
          rw [er] at q
          cases c4
          · walk_at "dx"
            walk_at "dx"
            refine ⟨k, t100, rfl, ?_⟩
            walk_at "dx"
            exact q
          · walk_at "dx"
            walk_at "dx"
            refine ⟨k, t100, rfl, ?_⟩
            walk_at "dx"
            exact q
        · cases c4 <;> cases c3 <;> first | exact absurd rfl hc | skip
          · walk_at "dx"
            exact ⟨_, _, .inl rfl, fun _ => hc1, fun _ => hc2, fun _ => hc⟩
          · walk_at "dx"
            exact ⟨_, _, .inl rfl, fun _ => hc1, fun _ => hc2, fun _ => hc⟩
      · cases hd
    · obtain ⟨s3, s4, hΓ, h1, h2, h3⟩ := hI
      have n1 := h1 (show 1 ≤ 3 by decide)
      have n2 := h2 (show 2 ≤ 3 by decide)
      have n3 := h3 (show 3 ≤ 3 by decide)
      have er : rest k c1 c2 c3 c4 c5 c6 = tailR k c1 c2 c4 := by unfold rest; rw [if_neg n1, if_neg n2, if_neg n3]
      rw [er] at q
      rcases hΓ with rfl | rfl
      · exact term_of_tail T c5' hr bd tk k c1 c2 c4 c6 c5 c3 _ _ _ q
      · exact term_of_tail T c5' hr bd tk k c1 c2 c4 c6 c5 c3 _ _ _ q
  obtain ⟨b0, b1, b2, b3, b4, b5, b6, b7, rfl⟩ := eight lb
  cases b0 <;> cases b7
  · walk_at "dx"
    exact q2
  · walk_at "dy"
    walk_at "ds"
    walk_at "ds"
    exact fin false _ _ _ _ _ _ _ _ q2
  · walk_at "dy"
    walk_at "ds"
    walk_at "ds"
    walk_at "ds"
    refine ⟨_, _, _, _, .inl rfl, lb, lb, lb, lb, ?_⟩
    obtain ⟨c0, c1, c2, c3, c4, c5, c6, c7, ec⟩ := eight (putB_len [true, b1, b2, b3, b4, b5, b6, false] [true, b1, b2, b3, b4, b5, b6, false] [true, b1, b2, b3, b4, b5, b6, false] [true, b1, b2, b3, b4, b5, b6, false])
    rw [ec]
    walk_at "dy"
    refine fin true _ _ _ _ _ _ _ _ ?_
    have et : termOf [true, b1, b2, b3, b4, b5, b6, false] = rest true c1 c2 c3 c4 c5 c6 := termOf_t ec
    rw [et] at q2
    exact q2
  · walk_at "dx"
    exact q2
end

section
variable {P : Program} {w : World} {K : PySem.W.Frag} {mg : Str → Option Value} {base : Heap} {kx : Kx}
/-! ### the hand: one draw -/
@[reducible] def fs_take : Fs := fun rs R _ => ∃ n : Int, rs = [.hnd, .val (.int n)] ∧ 0 < n ∧ n < 1073741824 ∧ ∀ i : Int, 0 ≤ i → i < n → R (.val (.int i))
/-- the hand as it stands -/
def HS (a g : Addr) (gs : List Int) (s n : Int) (H : Hp) : Prop := H a = some (.lst [.ref g, .int s, .int n]) ∧ H g = some (.lst (gs.map V.int)) ∧ gs.length ≤ 63 ∧ 0 ≤ s ∧ s < 2147483648
theorem HS.ne {a g : Addr} {gs : List Int} {s n : Int} {H : Hp} (h : HS a g gs s n H) : a ≠ g := fun e => by
  have h1 := h.1
  rw [e, h.2.1] at h1
  have z : gs.map V.int = [.ref g, .int s, .int n] := HO.lst.inj (Option.some.inj h1)
  cases gs with
  | nil => cases z
  | cons x xs => cases z
theorem HS.great {a g : Addr} {gs gs' : List Int} {s n : Int} {H : Hp} (h : HS a g gs s n H) (l : gs'.length ≤ 63) : HS a g gs' s n (upd H g (.lst (gs'.map V.int))) :=
  ⟨by rw [upd_ne h.ne]; exact h.1, upd_same, l, h.2.2.2.1, h.2.2.2.2⟩
theorem HS.seed {a g : Addr} {gs : List Int} {s n s' n' : Int} {H : Hp} (h : HS a g gs s n H) (h0 : 0 ≤ s') (h1 : s' < 2147483648) : HS a g gs s' n' (upd H a (.lst [.ref g, .int s', .int n'])) :=
  ⟨upd_same, by rw [upd_ne h.ne.symm]; exact h.2.1, h.2.2.1, h0, h1⟩
/-- only the hand changes -/
def Hk (a g : Addr) (H H' : Hp) : Prop := ∀ b o, b ≠ a → b ≠ g → H b = some o → H' b = some o
theorem fn_take {f : Addr} {fd : FuncData} (Fn : Fun K "_law_take" "_law_take" s_law_take f fd) (hK : kx.K = K) (T : Bt mg) : FnG P w K mg base 1 f fd p_law_take (spG kx fs_take) := by
  refine fnG_raw (kx := kx) Fn c_law_take hK (fun vs H Q E ⟨hk, O0, rs, R, Xp, h1, _, _, _, ⟨n, e, _⟩, _⟩ => by rw [h1.length, e]; rfl) ?_
  intro cdv A outer s H E vs Q hsp hr bd tk
  obtain ⟨hk, O0, rs, R, Xp, h1, h2, h3, h4, ⟨n, e, n0, n1, hR⟩, h6, _⟩ := hsp
  subst e
  cases h1 with
  | cons a1 t1 =>
    cases t1 with
    | cons a2 t2 =>
      cases t2
      cases a2
      obtain ⟨a, g, eh, rfl⟩ := a1
      have eh' : hk = some (a, g) := eh
      subst eh'
      obtain ⟨gs, s0, m, x1, x2, x3, x4, x5⟩ := (show HandAt a g H from h2)
      have hs : HS a g gs s0 m H := ⟨x1, x2, x3, x4, x5⟩
      have fin : ∀ (H' : Hp) (gs' : List Int) (s' m' i : Int), Hk a g H H' → HS a g gs' s' m' H' → 0 ≤ i → i < n → Q (.int i) H' := fun H' gs' s' m' i k h i0 i1 =>
        h6 (.int i) H' (.val (.int i)) (fun b o nb e => k b o (fun z => nb (.inl z)) (fun z => nb (.inr z)) e) (show HandAt a g H' from ⟨gs', s', m', h.1, h.2.1, h.2.2.1, h.2.2.2.1, h.2.2.2.2⟩) (Rp.int i) (hR i i0 i1)
      let X := cxOf (CX P w) P w K mg base n_law_take "_law_take" (defScope s_law_take) f cdv A outer s H E
      have nd := c_law_take.nd
      -- the seed's draw
      have tail : ∃ t, PSs X ((defBody s_law_take).drop 3) t ∧ ∀ (H1 : Hp) (gs1 : List Int) (v : V), Hk a g H H1 → HS a g gs1 s0 m H1 → t { nx := fun _ H' => Q .non H', rt := Q } [some (.ref a), some (.int n), some v, none, none, none] H1 := by
        refine ⟨_, pss_cons (ps_asg (pe_op op_add (pe_ix ix_seq (pv 0) pe_int (fun _ _ => rfl)) pe_int) (pg_sub (pv 0) pe_int set_list)) (pss_cons (ps_set nd (i := 4) rfl (.inl rfl) (pe_op op_mod (pe_callTy call_int1 rfl T.int PyProof.Rows.boot_int (pa_cons (pe_op op_add (pe_op op_add (pe_op op_mul (pe_ix ix_seq (pv 0) pe_int (fun _ _ => rfl)) pe_int) (pe_op op_mul (pe_ix ix_seq (pv 0) pe_int (fun _ _ => rfl)) pe_int)) pe_int) pa_nil)) pe_int))
          (pss_cons (ps_asg (pv 4) (pg_sub (pv 0) pe_int set_list)) (pss_cons (ps_set nd (i := 5) rfl (.inl rfl) (pe_op op_mod (pe_callTy call_int1 rfl T.int PyProof.Rows.boot_int (pa_cons (pe_op op_add (pe_op op_fdiv (pe_op op_mul (pv 4) (pv 4)) pe_int) (pe_op op_fdiv (pv 4) pe_int)) pa_nil)) pe_int))
          (pss_one (ps_ret (pe_op op_mod (pe_callTy call_int1 rfl T.int PyProof.Rows.boot_int (pa_cons (pv 5) pa_nil)) (pv 1))))))), ?_⟩
        intro H1 gs1 v hk1 h
        refine ⟨_, rfl, .inl ⟨a, _, 2, _, rfl, rfl, SqL.of h.1, rfl, ⟨_, _, rfl, rfl, ⟨_, rfl, a, _, 2, 2, rfl, rfl, h.1, rfl, ?_⟩⟩⟩⟩
        have hh2 := h.seed (s' := s0) (n' := m + 1) h.2.2.2.1 h.2.2.2.2
        have hk2 : Hk a g H (upd H1 a (.lst [.ref g, .int s0, .int (m + 1)])) := fun b o na ng e => by rw [upd_ne na]; exact hk1 b o na ng e
        refine ⟨_, rfl, .inl ⟨a, _, 1, _, rfl, rfl, SqL.of hh2.1, rfl, ⟨_, _, rfl, rfl, .inr ⟨by decide, by decide⟩, ⟨_, rfl, .inl ⟨a, _, 2, _, rfl, rfl, SqL.of hh2.1, rfl, ⟨_, _, rfl, rfl, .inr ⟨by decide, by decide⟩, ⟨_, _, rfl, rfl, ⟨_, _, rfl, rfl, .inl ⟨_, rfl, ⟨_, _, rfl, rfl, (by show (0 : Int) < 2147483647; decide), ?_⟩⟩⟩⟩⟩⟩⟩⟩⟩⟩
        have b0 : 0 ≤ (s0 * 48271 + (m + 1) * 6151 + 3) % 2147483647 := Int.emod_nonneg _ (by decide)
        have b1 : (s0 * 48271 + (m + 1) * 6151 + 3) % 2147483647 < 2147483647 := Int.emod_lt_of_pos _ (by decide)
        refine ⟨_, rfl, _, rfl, a, _, 1, 1, rfl, rfl, hh2.1, rfl, ?_⟩
        have hh3 := hh2.seed (s' := (s0 * 48271 + (m + 1) * 6151 + 3) % 2147483647) (n' := m + 1) b0 (by omega)
        refine ⟨_, rfl, ⟨_, rfl, ⟨_, _, rfl, rfl, .inl ⟨by omega, by omega⟩, ⟨_, _, rfl, rfl, ⟨by decide, by decide⟩, ⟨_, rfl, ⟨_, _, rfl, rfl, ⟨by decide, by decide⟩, ⟨_, _, rfl, rfl, .inl ⟨_, rfl, ⟨_, _, rfl, rfl, (by show (0 : Int) < 2147483629; decide), ?_⟩⟩⟩⟩⟩⟩⟩⟩⟩
        refine ⟨_, rfl, .inl ⟨_, rfl, ⟨_, rfl, ⟨_, _, rfl, rfl, n0, ?_⟩⟩⟩⟩
        exact fin _ gs1 _ (m + 1) _ (fun b o na ng e => by rw [upd_ne na]; exact hk2 b o na ng e) hh3 (Int.emod_nonneg _ (by omega)) (Int.emod_lt_of_pos _ n0)
      obtain ⟨tt, ptail, htail⟩ := tail
      have pos : ∀ (y : Int) (ys : List Int), decide ((0 : Int) < (((y :: ys).map V.int).length : Nat)) = true := fun y ys => decide_eq_true (by simp only [List.map_cons, List.length_cons]; omega)
      have ix0 : ∀ (y : Int) (ys : List Int), ixN ((y :: ys).map V.int).length 0 = some 0 := fun y ys => ixN_nat (i := 0) (by simp only [List.map_cons, List.length_cons]; omega)
      have tail2 : ∃ t, PSs X ((defBody s_law_take).drop 2) t ∧ ∀ (H1 : Hp) (gs1 : List Int), Hk a g H H1 → HS a g gs1 s0 m H1 → t { nx := fun _ H' => Q .non H', rt := Q } [some (.ref a), some (.int n), some (.ref g), none, none, none] H1 := by
        refine ⟨_, pss_cons (ps_if (pt_cmpR op_gt (pe_callB call_len_seq rfl T.len boot_len (pa_cons (pv 2) pa_nil)) pe_int (nomark _)) (pss_cons (ps_set nd (i := 3) rfl (.inl rfl) (pe_callTy call_int1 rfl T.int PyProof.Rows.boot_int (pa_cons (pe_ix ix_seq (pv 2) pe_int (fun _ _ => rfl)) pa_nil)))
          (pss_cons (ps_asg (pe_op op_fdiv (pv 3) (pv 1)) (pg_sub (pv 2) pe_int set_list)) (pss_one (ps_ret (pe_op op_mod (pe_callTy call_int1 rfl T.int PyProof.Rows.boot_int (pa_cons (pv 3) pa_nil)) (pv 1)))))) pss_nil) ptail, ?_⟩
        intro H1 gs1 hk1 h
        cases gs1 with
        | nil =>
          refine ⟨_, rfl, _, _, rfl, .inl (SqL.of h.2.1), ⟨_, _, rfl, rfl, false, rfl, ?_⟩⟩
          exact iteF (htail H1 [] _ hk1 h)
        | cons y ys =>
          refine ⟨_, rfl, _, _, rfl, .inl (SqL.of h.2.1), ⟨_, _, rfl, rfl, _, rfl, ?_⟩⟩
          refine iteYes (pos y ys) ?_
          refine ⟨_, rfl, .inl ⟨g, _, 0, _, rfl, rfl, SqL.of h.2.1, atI_n (i := 0) rfl, .inl ⟨_, rfl, ?_⟩⟩⟩
          refine ⟨_, rfl, _, rfl, ⟨_, _, rfl, rfl, ⟨n0, n1⟩, ⟨_, rfl, g, _, 0, 0, rfl, rfl, h.2.1, ix0 y ys, ?_⟩⟩⟩
          refine ⟨_, rfl, .inl ⟨_, rfl, ⟨_, rfl, ⟨_, _, rfl, rfl, n0, ?_⟩⟩⟩⟩
          have hl : ((y / n) :: ys).length ≤ 63 := h.2.2.1
          exact fin _ _ s0 m _ (fun b o na ng e => by rw [upd_ne ng]; exact hk1 b o na ng e) (h.great (gs' := (y / n) :: ys) hl) (Int.emod_nonneg _ (by omega)) (Int.emod_lt_of_pos _ n0)
      obtain ⟨t2, ptail2, htail2⟩ := tail2
      refine ⟨_, pss_cons (ps_set nd (i := 2) rfl (.inl rfl) (pe_ix ix_seq (pv 0) pe_int (fun _ _ => rfl))) (pss_cons (ps_if (PW.pt (pw_and (pt_cmpR op_gt (pe_callB call_len_seq rfl T.len boot_len (pa_cons (pv 2) pa_nil)) pe_int (nomark _)) (pw_and1 (pt_cmpR op_eq (pe_ix ix_seq (pv 2) pe_int (fun _ _ => rfl)) pe_int (nomark _)))))
        (pss_one (ps_expr (pe_bm PySem.F.plainAttrs_list PySem.F.slot_list_pop PySem.F.type_list_pop mt_popAt (pv 2) (pa_cons pe_int pa_nil)))) pss_nil) ptail2), ?_⟩
      refine ⟨_, rfl, .inl ⟨a, _, 0, _, rfl, rfl, SqL.of hs.1, rfl, ?_⟩⟩
      have hk0 : Hk a g H H := fun b o _ _ e => e
      cases gs with
      | nil =>
        refine ⟨_, rfl, _, _, rfl, .inl (SqL.of hs.2.1), ⟨_, _, rfl, rfl, false, rfl, ?_⟩⟩
        exact iteF (iteF (htail2 H [] hk0 hs))
      | cons y ys =>
        refine ⟨_, rfl, _, _, rfl, .inl (SqL.of hs.2.1), ⟨_, _, rfl, rfl, _, rfl, ?_⟩⟩
        refine iteYes (pos y ys) ?_
        refine ⟨_, rfl, .inl ⟨g, _, 0, _, rfl, rfl, SqL.of hs.2.1, atI_n (i := 0) rfl, ⟨rfl, _, rfl, ?_⟩⟩⟩
        refine iteBy (fun hy => ?_) fun hy => ?_
        · refine ⟨_, rfl, .inl ⟨rfl, _, SqL.of hs.2.1⟩, ⟨g, _, 0, 0, _, rfl, rfl, hs.2.1, by decide, by decide, (ixN_seq (ix0 y ys)).1, rfl, ?_⟩⟩
          have hl : ys.length ≤ 63 := Nat.le_of_succ_le hs.2.2.1
          exact htail2 _ ys (fun b o na ng e => by rw [upd_ne ng]; exact e) (hs.great (gs' := ys) hl)
        · exact htail2 H (y :: ys) hk0 hs
end

section
variable {P : Program} {w : World} {K : PySem.W.Frag} {mg : Str → Option Value} {base : Heap} {kx : Kx}
def absI (n : Int) : Int := if n < 0 then -n else n
theorem fn_hand {f : Addr} {fd : FuncData} (Fn : Fun K "_law_hand" "_law_hand" s_law_hand f fd) (hK : kx.K = K) (T : Bt mg) : FnG P w K mg base 1 f fd p_law_hand (spScr kx fs_hand) := by
  refine fnG_scr Fn c_law_hand hK (by decide) ?_
  intro cdv A outer s H E ns R hF hr bd tk
  obtain ⟨hl, hR⟩ := hF
  have l63 : ns.length ≤ sizeLine := Nat.le_trans hl (by decide)
  refine dss_cons ?_
  refine ds_setComp1S 3 1 bd rfl rfl rfl rfl rfl rfl (sw_true rfl rfl rfl rfl) (di_scr 0 bd rfl (by walk_at "vis") rfl ?_)
  refine comp1SF (fun d => match d with | .int i => decide (10 ^ 18 ≤ absI i) | _ => false) (fun d => match d with | .int i => .int (absI i) | _ => .none) (by rw [List.length_map]; exact l63) (fun d hd s H C cl fp bd => ?_) ?_
  · obtain ⟨i, _, rfl⟩ := List.mem_map.mp hd
    refine ⟨?_, fun ht => ?_⟩
    · walk_at "dx"
      rfl
    · walk_at "dx"
      rfl
  · rw [filter_map_int (t' := fun i => decide (10 ^ 18 ≤ absI i)) (g' := absI) (fun _ => rfl) (fun _ => rfl)]
    have hgl : ((ns.filter fun i => decide (10 ^ 18 ≤ absI i)).map absI).length ≤ 63 := by
      rw [List.length_map]
      exact Nat.le_trans (List.length_filter_le _ _) hl
    generalize (ns.filter fun i => decide (10 ^ 18 ≤ absI i)).map absI = gs at hgl
    walk_at "dx"
    refine ds_loop 3 bd rfl rfl (.inl rfl) (.inr rfl) (di_scr 0 bd rfl (by walk_at "vis") rfl ?_)
    refine loopI (fun _ Γ => ∃ (s : Int) (x : Sl), 0 ≤ s ∧ s < 2147483648 ∧ Γ = [.scr ns, .own (.l (gs.map PyData.int)), .val (.int s), x]) ⟨80021, .un, by decide, by decide, rfl⟩ (fun j d Γ1 hd hI => ?_) (fun Γ1 hI => ?_)
    · obtain ⟨s, x, s0, s1, rfl⟩ := hI
      obtain ⟨i, _, rfl⟩ := List.mem_map.mp (List.mem_of_getElem? hd)
      walk_at "dx"
      exact ⟨_, _, Int.emod_nonneg _ (by decide), Int.lt_of_lt_of_le (Int.emod_lt_of_pos _ (by decide)) (by decide), rfl⟩
    · obtain ⟨s, x, s0, s1, rfl⟩ := hI
      refine dss_freeze 1 rfl ?_
      walk_at "dx"
      exact hR gs s 0 hgl s0 s1
end

section
variable {P : Program} {w : World} {K : PySem.W.Frag} {mg : Str → Option Value} {base : Heap} {kx : Kx}
theorem cal_take (Dd : Df K mg "_law_take" s_law_take p_law_take) (hK : kx.K = K) (T : Bt mg) : Cal P w K mg base kx 1 "_law_take" fs_take := by
  obtain ⟨f, fd, Fn, m, b⟩ := Dd.ex
  exact ⟨f, fd, _, fn_take Fn hK T, m, Fn.kp, b⟩
@[reducible] def fs_law_table : Fs := fun rs R _ => rs = [.hnd] ∧ ∀ b : List Bool, b.length = 8 → R (.val (tbD b))
theorem bits_of : ∀ {es : List D} {l : List Nat}, Paired (fun _ e => ∃ v, e = bD v) l es → ∃ b : List Bool, es = b.map bD ∧ b.length = l.length
  | _, _, .nil => ⟨[], rfl, rfl⟩
  | _, _, .cons h t => by
    obtain ⟨v, rfl⟩ := h
    obtain ⟨b, e, l⟩ := bits_of t
    exact ⟨v :: b, by rw [e]; rfl, by rw [List.length_cons, List.length_cons, l]⟩
theorem cal_law_table (Dd : Df K mg "_law_table" s_law_table p_law_table) (hK : kx.K = K) (T : Bt mg) (ct : Cal P w K mg base kx 1 "_law_take" fs_take) : Cal P w K mg base kx 2 "_law_table" fs_law_table := by
  refine cal_of Dd c_law_table hK (fun rs R X ⟨e, _⟩ => by rw [e]; rfl) ?_
  intro f cdv A outer s H E hk rs R Xp hF hr bd tk
  obtain ⟨rfl, q⟩ := hF
  walk_at "dx"
  refine ⟨by decide, by decide, fun i i0 i1 => ?_⟩
  walk_at "dx"
  refine iteBy (fun h => ?_) fun h => ?_
  · walk_at "dx"
    refine ⟨by decide, by decide, fun i i0 i1 => ?_⟩
    obtain ⟨d, hd, hi⟩ := atI_in (xs := [tbD [false, false, false, true, false, true, true, true], tbD [false, true, true, false, true, false, false, true], tbD [false, false, true, true, false, true, false, true], tbD [true, true, true, false, true, false, false, false], tbD [false, false, false, false, false, false, false, true], tbD [false, true, false, true, true, true, false, false], tbD [true, false, false, true, false, true, true, false], tbD [false, false, true, false, false, true, true, true]]) i0 i1
    obtain ⟨b, rfl, lb⟩ : ∃ b : List Bool, d = tbD b ∧ b.length = 8 := by
      simp only [List.mem_cons, List.not_mem_nil, or_false] at hd
      rcases hd with rfl | rfl | rfl | rfl | rfl | rfl | rfl | rfl <;> exact ⟨_, rfl, rfl⟩
    refine w_ixL rfl hi ?_
    walk_at "dx"
    exact q b lb
  · walk_at "dx"
    refine de_comp1 2 bd rfl rfl rfl rfl (b_range T ?_)
    walk_at "dx"
    refine ⟨by decide, ?_⟩
    refine comp1RP (fun _ e => ∃ v, e = bD v) (by decide) (fun j hj s H C cl fp bd => ?_) fun es hp => ?_
    · walk_at "dx"
      refine ⟨by decide, by decide, fun i i0 i1 => ?_⟩
      refine ⟨_, rfl, decide (i = 1), ?_⟩
      have e : i = 0 ∨ i = 1 := by omega
      rcases e with rfl | rfl <;> rfl
    · obtain ⟨b, rfl, lb⟩ := bits_of hp
      walk_at "dx"
      exact q b lb
/-- an entry of the pool -/
def entD (b : List Bool) (t : Tm) : D := .tuple [t.D, tbD (tell b t), .int t.size, .int t.depth]
@[reducible] def fs_places : Fs := fun rs R _ => ∃ b : List Bool, rs = [] ∧ R (.new (.l [entD b (.pl 0), entD b (.pl 1), entD b (.pl 2)]))
theorem cal_places (Dd : Df K mg "_law_places" s_law_places p_law_places) (hK : kx.K = K) (T : Bt mg) : Cal P w K mg base kx 1 "_law_places" fs_places := by
  refine cal_of Dd c_law_places hK (fun rs R X ⟨_, e, _⟩ => by rw [e]; rfl) ?_
  intro f cdv A outer s H E hk rs R Xp hF hr bd tk
  obtain ⟨b, rfl, q⟩ := hF
  walk_at "dx"
  exact q
def widesD : List D := [tbD (wide 0), tbD (wide 1), tbD (wide 2), tbD (wide 3), tbD (wide 4), tbD (wide 5)]
def wordsD : List D := [.str (wd 0), .str (wd 1), .str (wd 2), .str (wd 3), .str (wd 4), .str (wd 5)]
@[reducible] def fs_wides : Fs := fun rs R _ => rs = [] ∧ R (.new (.l widesD))
@[reducible] def fs_words : Fs := fun rs R _ => rs = [] ∧ R (.new (.l wordsD))
theorem cal_wides (Dd : Df K mg "_law_wides" s_law_wides p_law_wides) (hK : kx.K = K) (T : Bt mg) : Cal P w K mg base kx 1 "_law_wides" fs_wides := by
  refine cal_of Dd c_law_wides hK (fun rs R X ⟨e, _⟩ => by rw [e]; rfl) ?_
  intro f cdv A outer s H E hk rs R Xp hF hr bd tk
  obtain ⟨rfl, q⟩ := hF
  walk_at "dx"
  exact q
theorem cal_words (Dd : Df K mg "_law_words" s_law_words p_law_words) (hK : kx.K = K) (T : Bt mg) : Cal P w K mg base kx 1 "_law_words" fs_words := by
  refine cal_of Dd c_law_words hK (fun rs R X ⟨e, _⟩ => by rw [e]; rfl) ?_
  intro f cdv A outer s H E hk rs R Xp hF hr bd tk
  obtain ⟨rfl, q⟩ := hF
  walk_at "dx"
  exact q
end

section
variable {P : Program} {w : World} {K : PySem.W.Frag} {mg : Str → Option Value} {base : Heap} {kx : Kx}
@[reducible] def fs_put : Fs := fun rs R _ => ∃ (b : List Bool) (x y z : Tm), rs = [.val (tbD b), .val (.list [entD b x, entD b y, entD b z])] ∧ b.length = 8 ∧ R (.val (entD b (.nd x y z)))
/-- what the walk along three tables makes -/
def mkBit (b : List Bool) (u v t : Bool) : D := bD (b.getD (4 * bN u + 2 * bN v + bN t) false)
theorem zip_mem : ∀ {x y z : List Bool} {d : D}, d ∈ zipD3 (x.map bD) (y.map bD) (z.map bD) → ∃ u v t, d = .tuple [bD u, bD v, bD t]
  | a :: x, b :: y, e :: z, d, h => by
    have h' : d ∈ PyData.tuple [bD a, bD b, bD e] :: zipD3 (x.map bD) (y.map bD) (z.map bD) := h
    rcases List.mem_cons.mp h' with h | h
    · exact ⟨a, b, e, h⟩
    · exact zip_mem h
  | [], _, _, _, h => by cases h
  | _ :: _, [], _, _, h => by cases h
  | _ :: _, _ :: _, [], _, h => by cases h
theorem bD_inj {a b : Bool} (h : bD a = bD b) : a = b := by cases a <;> cases b <;> first | rfl | cases h
theorem zip_put {b : List Bool} : ∀ {x y z : List Bool} {es : List D}, x.length = y.length → x.length = z.length → Paired (fun d e => ∃ u v t, d = .tuple [bD u, bD v, bD t] ∧ e = mkBit b u v t) (zipD3 (x.map bD) (y.map bD) (z.map bD)) es →
    es = (List.range x.length).map fun i => mkBit b (x.getD i false) (y.getD i false) (z.getD i false)
  | [], [], [], es, _, _, h => by cases h; rfl
  | a :: x, c :: y, e :: z, es, h1, h2, h => by
    have h' : Paired (fun d e => ∃ u v t, d = .tuple [bD u, bD v, bD t] ∧ e = mkBit b u v t) (PyData.tuple [bD a, bD c, bD e] :: zipD3 (x.map bD) (y.map bD) (z.map bD)) es := h
    cases h' with
    | cons p1 p2 =>
      obtain ⟨u, v, t, e1, rfl⟩ := p1
      have e2 := PyData.tuple.inj e1
      injection e2 with q1 e2
      injection e2 with q2 e2
      injection e2 with q3 _
      rw [← bD_inj q1, ← bD_inj q2, ← bD_inj q3, zip_put (by simpa using h1) (by simpa using h2) p2]
      rw [List.length_cons, List.range_succ_eq_map, List.map_cons, List.map_map]
      rfl
  | [], _ :: _, _, _, h, _, _ => by cases h
  | _ :: _, [], _, _, h, _, _ => by cases h
  | [], [], _ :: _, _, _, h, _ => by cases h
  | _ :: _, _ :: _, [], _, _, h, _ => by cases h
theorem cal_put (Dd : Df K mg "_law_put" s_law_put p_law_put) (hK : kx.K = K) (T : Bt mg) : Cal P w K mg base kx 1 "_law_put" fs_put := by
  refine cal_of Dd c_law_put hK (fun rs R X ⟨b, x, y, z, e, _⟩ => by rw [e]; rfl) ?_
  intro f cdv A outer s H E hk rs R Xp hF hr bd tk
  obtain ⟨b, x, y, z, rfl, lb, q⟩ := hF
  refine dss_cons ?_
  refine ds_unp3L 2 3 4 bd rfl (by walk_at "lc") (by walk_at "lc") (by walk_at "lc") ?_
  walk_at "dx"
  refine ⟨_, _, _, rfl, ?_⟩
  walk_at "dx"
  refine de_comp3 7 8 9 bd rfl rfl rfl rfl rfl rfl rfl rfl (di_zip3 bd T ?_)
  walk_at "dx"
  refine ⟨_, _, _, rfl, by simp only [List.length_map, tell_len], by simp only [List.length_map, tell_len], ?_⟩
  refine ⟨by rw [zipD3_len (by simp only [List.length_map, tell_len]) (by simp only [List.length_map, tell_len]), List.length_map, tell_len]; decide, fun d e => ∃ u v t, d = .tuple [bD u, bD v, bD t] ∧ e = mkBit b u v t, fun d hd => ?_, fun es hp => ?_⟩
  · obtain ⟨u, v, t, rfl⟩ := zip_mem hd
    refine ⟨_, _, _, rfl, fun s H C cl fp bd => ?_⟩
    have l1 := bN_le u
    have l2 := bN_le v
    have l3 := bN_le t
    have e : (4 : Int) * (bN u : Nat) + 2 * (bN v : Nat) + (bN t : Nat) = ((4 * bN u + 2 * bN v + bN t : Nat) : Int) := by omega
    rw [bD_N u, bD_N v, bD_N t]
    walk_at "dx"
    rw [e]
    refine w_ixT (ds := b.map bD) bd (atI_n (tb_get (by omega))) ?_
    exact ⟨_, rfl, u, v, t, by rw [bD_N u, bD_N v, bD_N t], rfl⟩
  · have e8 : es = (putB b (tell b x) (tell b y) (tell b z)).map bD := by
      rw [zip_put (by rw [tell_len, tell_len]) (by rw [tell_len, tell_len]) hp, tell_len]
      unfold putB
      rw [List.map_map]
      rfl
    subst e8
    walk_at "dx"
    refine ⟨_, _, _, rfl, ?_⟩
    walk_at "dx"
    exact q
/-- the pool: terms with what stands beside them -/
def PoolOk (pool : List Tm) : Prop := Tm.pl 0 ∈ pool ∧ ∀ t, t ∈ pool → t.ok ∧ t.depth ≤ 12
@[reducible] def poolD (b : List Bool) (pool : List Tm) : List D := pool.map (entD b)
@[reducible] def fs_terms : Fs := fun rs R _ => ∃ b : List Bool, rs = [.hnd, .val (tbD b)] ∧ b.length = 8 ∧ ∀ pool, PoolOk pool → pool.length ≤ 63 → R (.new (.l (poolD b pool)))
theorem poolD_app {b : List Bool} {pool : List Tm} {t : Tm} : poolD b (pool ++ [t]) = poolD b pool ++ [entD b t] := by
  show (pool ++ [t]).map (entD b) = _
  rw [List.map_append]
  rfl
theorem pool_at {b : List Bool} {pool : List Tm} {i : Int} (h0 : 0 ≤ i) (h1 : i < pool.length) : ∃ t, t ∈ pool ∧ atI (poolD b pool) i = some (entD b t) := by
  obtain ⟨v, hv, e⟩ := atI_in (xs := poolD b pool) h0 (by rw [List.length_map]; exact h1)
  obtain ⟨t, ht, rfl⟩ := List.mem_map.mp hv
  exact ⟨t, ht, e⟩
end

section
variable {P : Program} {w : World} {K : PySem.W.Frag} {mg : Str → Option Value} {base : Heap} {kx : Kx}
theorem cal_terms (Dd : Df K mg "_law_terms" s_law_terms p_law_terms) (hK : kx.K = K) (T : Bt mg) (ct : Cal P w K mg base kx 1 "_law_take" fs_take) (cp : Cal P w K mg base kx 1 "_law_places" fs_places) (cu : Cal P w K mg base kx 1 "_law_put" fs_put) : Cal P w K mg base kx 2 "_law_terms" fs_terms := by
  refine cal_of Dd c_law_terms hK (fun rs R X ⟨b, e, _⟩ => by rw [e]; rfl) ?_
  intro f cdv A outer s H E hk rs R Xp hF hr bd tk
  obtain ⟨b, rfl, lb, q⟩ := hF
  walk_at "ds"
  refine ⟨by decide, by decide, fun i i0 i1 => ?_⟩
  obtain ⟨d, hd, hi⟩ := atI_in (xs := [PyData.int 9, PyData.int 30, PyData.int 150, PyData.int 300, PyData.int 400]) i0 i1
  obtain ⟨mo, rfl⟩ : ∃ mo : Int, d = .int mo := by
    simp only [List.mem_cons, List.not_mem_nil, or_false] at hd
    rcases hd with rfl | rfl | rfl | rfl | rfl <;> exact ⟨_, rfl⟩
  refine w_ixL rfl hi ?_
  walk_at "dy"
  walk_at "ds"
  refine ⟨b, rfl, ?_⟩
  walk_at "dy"
  refine dss_cons ?_
  refine ds_loop 4 bd rfl rfl (.inl rfl) (.inr rfl) (b_range T ?_)
  walk_at "dx"
  refine ⟨by decide, by decide, fun nt n0 n1 => ?_⟩
  walk_at "dx"
  refine ⟨⟨by omega, by omega⟩, ?_⟩
  refine loopI (fun j Γ => ∃ (pool : List Tm) (x4 x5 x6 x7 x8 : Sl), PoolOk pool ∧ 3 ≤ pool.length ∧ pool.length ≤ 3 + j ∧ Γ = [.hnd, .val (tbD b), .val (.int mo), .own (.l (poolD b pool)), x4, x5, x6, x7, x8])
    ⟨[.pl 0, .pl 1, .pl 2], .un, .un, .un, .un, .un, ⟨by simp, fun t ht => by
      simp only [List.mem_cons, List.not_mem_nil, or_false] at ht
      rcases ht with rfl | rfl | rfl <;> exact ⟨by show _ < 3; decide, by show (0 : Int) ≤ 12; decide⟩⟩, by decide, by decide, rfl⟩ (fun j d Γ1 hd hI => ?_) (fun Γ1 hI => ?_)
  · obtain ⟨pool, x4, x5, x6, x7, x8, hp, l3, lj, rfl⟩ := hI
    have hj : j < 41 := by
      have z := (List.getElem?_eq_some_iff.mp hd).1
      rw [List.length_map, List.length_range] at z
      omega
    have hturn : ∃ tn : Int, d = .int tn := by
      obtain ⟨n, _, rfl⟩ := mem_range (List.mem_of_getElem? hd)
      exact ⟨_, rfl⟩
    obtain ⟨tn, rfl⟩ := hturn
    walk_at "ds"
    refine dss_cons ?_
    refine ds_loop 6 bd rfl rfl (.inl rfl) (.inr rfl) (b_range T ?_)
    walk_at "dx"
    refine ⟨by decide, ?_⟩
    refine loopI (fun k Γ => ∃ (qs : List Tm) (x6 x7 : Sl), (∀ t, t ∈ qs → t ∈ pool) ∧ qs.length = k ∧ Γ = [.hnd, .val (tbD b), .val (.int mo), .own (.l (poolD b pool)), .val (.int tn), .own (.l (poolD b qs)), x6, x7, x8])
      ⟨[], x6, x7, fun t h => by simp at h, rfl, rfl⟩ (fun k d2 Γ2 hd2 hI2 => ?_) (fun Γ2 hI2 => ?_)
    · obtain ⟨qs, y6, y7, hq, lq, rfl⟩ := hI2
      have lp : (poolD b pool).length = pool.length := List.length_map _
      walk_at "ds"
      refine ⟨by rw [lp]; omega, by rw [lp]; omega, fun at1 a0 a1 => ?_⟩
      rw [lp] at a1
      walk_at "dy"
      refine dss_cons ?_
      walk_at "dy"
      refine ⟨by decide, by decide, fun u u0 u1 => ?_⟩
      walk_at "dy"
      have hk : k < 3 := by
        have z := (List.getElem?_eq_some_iff.mp hd2).1
        rw [List.length_map, List.length_range] at z
        exact z
      refine iteBy (fun h => ?_) fun h => ?_
      · walk_at "ds"
        refine ⟨by decide, by decide, fun v v0 v1 => ?_⟩
        rw [lp]
        walk_at "dy"
        refine dss_cons ?_
        refine ds_append 5 bd rfl (by walk_at "vis") rfl ?_
        walk_at "dy"
        obtain ⟨t, ht, ha⟩ := pool_at (b := b) (pool := pool) (i := (pool.length : Int) - 1 - v) (by omega) (by omega)
        refine w_ixL rfl ha ?_
        walk_at "dy"
        refine ⟨by rw [List.length_map, lq]; exact Nat.lt_trans hk (by decide), ?_⟩
        walk_at "dy"
        exact ⟨qs ++ [t], _, _, fun u hu => (List.mem_append.mp hu).elim (hq u) fun h => by rw [List.mem_singleton.mp h]; exact ht, by rw [List.length_append, lq]; rfl, by rw [poolD_app]; rfl⟩
      · walk_at "dy"
        refine dss_cons ?_
        refine ds_append 5 bd rfl (by walk_at "vis") rfl ?_
        walk_at "dy"
        obtain ⟨t, ht, ha⟩ := pool_at (b := b) (pool := pool) (i := at1) (by omega) (by omega)
        refine w_ixL rfl ha ?_
        walk_at "dy"
        refine ⟨by rw [List.length_map, lq]; exact Nat.lt_trans hk (by decide), ?_⟩
        walk_at "dy"
        exact ⟨qs ++ [t], _, _, fun u hu => (List.mem_append.mp hu).elim (hq u) fun h => by rw [List.mem_singleton.mp h]; exact ht, by rw [List.length_append, lq]; rfl, by rw [poolD_app]; rfl⟩
    · obtain ⟨qs, y6, y7, hq, lq, rfl⟩ := hI2
      have lq3 : qs.length = 3 := by rw [lq, List.length_map, List.length_range]; rfl
      obtain ⟨x, y, z, rfl⟩ : ∃ x y z, qs = [x, y, z] := by
        match qs, lq3 with
        | [x, y, z], _ => exact ⟨x, y, z, rfl⟩
      walk_at "ds"
      refine iteBy (fun h => ?_) fun h => ?_
      · walk_at "ds"
        refine ⟨b, rfl, ?_⟩
        walk_at "dy"
        have hx : (Tm.pl 0).ok := (by decide : 0 < 3)
        have hy : (Tm.pl 1).ok := (by decide : 1 < 3)
        have hz : (Tm.pl 2).ok := (by decide : 2 < 3)
        refine dss_freeze 5 rfl ?_
        walk_at "ds"
        refine ⟨b, .pl 0, .pl 1, .pl 2, rfl, lb, ?_⟩
        walk_at "dy"
        walk_at "ds"
        refine iteBy (fun h1 => ?_) fun h1 => ?_
        · walk_at "dy"
          refine dss_cons ?_
          refine ds_append 3 bd rfl (by walk_at "vis") rfl ?_
          walk_at "dy"
          refine ⟨by rw [List.length_map]; exact Nat.lt_of_le_of_lt (show pool.length ≤ 43 by omega) (by decide), ?_⟩
          walk_at "dy"
          refine ⟨pool ++ [.nd (.pl 0) (.pl 1) (.pl 2)], _, _, _, _, _, ⟨List.mem_append_left _ hp.1, fun t ht => ?_⟩, by rw [List.length_append]; omega, by rw [List.length_append, List.length_singleton]; omega, by rw [poolD_app]; rfl⟩
          rcases List.mem_append.mp ht with ht | ht
          · exact hp.2 t ht
          · rw [List.mem_singleton.mp ht]
            exact ⟨⟨hx, hy, hz⟩, (by show (1 : Int) ≤ 12; decide)⟩
        · walk_at "dy"
          exact ⟨pool, _, _, _, _, _, hp, l3, by omega, rfl⟩
      · walk_at "dy"
        have hx := (hp.2 x (hq x (by simp))).1
        have hy := (hp.2 y (hq y (by simp))).1
        have hz := (hp.2 z (hq z (by simp))).1
        refine dss_freeze 5 rfl ?_
        walk_at "ds"
        refine ⟨b, x, y, z, rfl, lb, ?_⟩
        walk_at "dy"
        walk_at "ds"
        refine iteBy (fun h1 => ?_) fun h1 => ?_
        · walk_at "dy"
          refine iteBy (fun h2 => ?_) fun h2 => ?_
          · refine dss_cons ?_
            refine ds_append 3 bd rfl (by walk_at "vis") rfl ?_
            walk_at "dy"
            refine ⟨by rw [List.length_map]; exact Nat.lt_of_le_of_lt (show pool.length ≤ 43 by omega) (by decide), ?_⟩
            walk_at "dy"
            refine ⟨pool ++ [.nd x y z], _, _, _, _, _, ⟨List.mem_append_left _ hp.1, fun t ht => ?_⟩, by rw [List.length_append]; omega, by rw [List.length_append, List.length_singleton]; omega, by rw [poolD_app]; rfl⟩
            rcases List.mem_append.mp ht with ht | ht
            · exact hp.2 t ht
            · rw [List.mem_singleton.mp ht]
              exact ⟨⟨hx, hy, hz⟩, of_decide_eq_true h2⟩
          · walk_at "dy"
            exact ⟨pool, _, _, _, _, _, hp, l3, by omega, rfl⟩
        · walk_at "dy"
          exact ⟨pool, _, _, _, _, _, hp, l3, by omega, rfl⟩
  · obtain ⟨pool, x4, x5, x6, x7, x8, hp, l3, lj, rfl⟩ := hI
    walk_at "dx"
    refine q pool hp ?_
    rw [List.length_map, List.length_range] at lj
    omega
end

section
variable {P : Program} {w : World} {K : PySem.W.Frag} {mg : Str → Option Value} {base : Heap} {kx : Kx}
/-! ### twelve deep -/
@[reducible] def fs_deep : Fs := fun rs R _ => ∃ (b : List Bool) (t : Tm), rs = [.hnd, .val (tbD b), .val (entD b t)] ∧ b.length = 8 ∧ t.ok ∧ t.depth ≤ 12 ∧ ∀ u : Tm, u.ok → u.depth = 12 → R (.val (entD b u))
theorem pl_at {b : List Bool} {i : Int} (h0 : 0 ≤ i) (h1 : i < 3) : ∃ k : Nat, k < 3 ∧ atI [entD b (.pl 0), entD b (.pl 1), entD b (.pl 2)] i = some (entD b (.pl k)) := by
  obtain rfl | rfl | rfl : i = 0 ∨ i = 1 ∨ i = 2 := by omega
  · exact ⟨0, by decide, rfl⟩
  · exact ⟨1, by decide, rfl⟩
  · exact ⟨2, by decide, rfl⟩
theorem pls3 {b : List Bool} {es : List D} (h : Paired (fun (_ : Nat) e => ∃ k : Nat, k < 3 ∧ e = entD b (.pl k)) [0, 1, 2] es) : ∃ k1 k2 k3 : Nat, k1 < 3 ∧ k2 < 3 ∧ k3 < 3 ∧ es = [entD b (.pl k1), entD b (.pl k2), entD b (.pl k3)] := by
  cases h with
  | cons a1 h =>
    cases h with
    | cons a2 h =>
      cases h with
      | cons a3 h =>
        cases h
        obtain ⟨k1, h1, rfl⟩ := a1
        obtain ⟨k2, h2, rfl⟩ := a2
        obtain ⟨k3, h3, rfl⟩ := a3
        exact ⟨k1, k2, k3, h1, h2, h3, rfl⟩
theorem cal_deep (Dd : Df K mg "_law_made_deep" s_law_made_deep p_law_made_deep) (hK : kx.K = K) (T : Bt mg) (ct : Cal P w K mg base kx 1 "_law_take" fs_take) (cp : Cal P w K mg base kx 1 "_law_places" fs_places) (cu : Cal P w K mg base kx 1 "_law_put" fs_put) : Cal P w K mg base kx 2 "_law_made_deep" fs_deep := by
  refine cal_of Dd c_law_made_deep hK (fun rs R X ⟨b, t, e, _⟩ => by rw [e]; rfl) ?_
  intro f cdv A outer s H E hk rs R Xp hF hr bd tk
  obtain ⟨b, t, rfl, lb, ot, dt, q⟩ := hF
  have dn := t.depth_nn
  walk_at "ds"
  walk_at "ds"
  refine ⟨b, rfl, ?_⟩
  walk_at "dy"
  refine dss_cons ?_
  refine ds_loop 5 bd rfl rfl (.inl rfl) (.inr rfl) (b_range T ?_)
  walk_at "dx"
  refine ⟨by decide, ?_⟩
  refine loopI (fun j Γ => ∃ (u : Tm) (x5 x6 x7 : Sl), u.ok ∧ u.depth ≤ 12 ∧ min 12 (j : Int) ≤ u.depth ∧ Γ = [.hnd, .val (tbD b), .val (entD b t), .val (entD b u), .own (.l [entD b (.pl 0), entD b (.pl 1), entD b (.pl 2)]), x5, x6, x7])
    ⟨t, .un, .un, .un, ot, dt, by omega, rfl⟩ (fun j d Γ1 hd hI => ?_) (fun Γ1 hI => ?_)
  · obtain ⟨u, x5, x6, x7, ou, du, mu, rfl⟩ := hI
    walk_at "ds"
    refine iteBy (fun h => ?_) fun h => ?_
    · have h12 : u.depth < 12 := of_decide_eq_true h
      refine dss_cons ?_
      refine ds_setComp1 7 6 bd rfl rfl rfl rfl rfl rfl (sw_true rfl rfl rfl rfl) (b_range T ?_)
      walk_at "dx"
      refine ⟨by decide, ?_⟩
      refine comp1RP (fun _ e => ∃ k : Nat, k < 3 ∧ e = entD b (.pl k)) (by decide) (fun j hj s H C cl fp bd => ?_) fun es hp => ?_
      · walk_at "dx"
        refine ⟨by decide, by decide, fun i i0 i1 => ?_⟩
        obtain ⟨k, hk, hi⟩ := pl_at (b := b) i0 i1
        exact w_ixL rfl hi ⟨_, rfl, k, hk, rfl⟩
      · obtain ⟨k1, k2, k3, h1, h2, h3, rfl⟩ : ∃ k1 k2 k3 : Nat, k1 < 3 ∧ k2 < 3 ∧ k3 < 3 ∧ es = [entD b (.pl k1), entD b (.pl k2), entD b (.pl k3)] := by
          exact pls3 hp
        refine dss_cons ?_
        refine ds_setItem 6 bd rfl (by walk_at "vis") rfl ?_
        walk_at "dy"
        refine ⟨by decide, by decide, fun i i0 i1 => ?_⟩
        have dpl : ∀ k, (Tm.pl k).depth = 0 := fun _ => rfl
        have un := u.depth_nn
        obtain rfl | rfl | rfl : i = 0 ∨ i = 1 ∨ i = 2 := by omega
        · refine ⟨0, 0, rfl, rfl, ?_⟩
          refine dss_freeze 6 rfl ?_
          walk_at "ds"
          refine ⟨b, u, .pl k2, .pl k3, rfl, lb, ?_⟩
          walk_at "dy"
          have e : (Tm.nd u (.pl k2) (.pl k3)).depth = 1 + u.depth := by simp only [Tm.depth]; omega
          exact ⟨.nd u (.pl k2) (.pl k3), _, _, _, ⟨ou, h2, h3⟩, by rw [e]; omega, by rw [e]; omega, rfl⟩
        · refine ⟨1, 1, rfl, rfl, ?_⟩
          refine dss_freeze 6 rfl ?_
          walk_at "ds"
          refine ⟨b, .pl k1, u, .pl k3, rfl, lb, ?_⟩
          walk_at "dy"
          have e : (Tm.nd (.pl k1) u (.pl k3)).depth = 1 + u.depth := by simp only [Tm.depth]; omega
          exact ⟨.nd (.pl k1) u (.pl k3), _, _, _, ⟨h1, ou, h3⟩, by rw [e]; omega, by rw [e]; omega, rfl⟩
        · refine ⟨2, 2, rfl, rfl, ?_⟩
          refine dss_freeze 6 rfl ?_
          walk_at "ds"
          refine ⟨b, .pl k1, .pl k2, u, rfl, lb, ?_⟩
          walk_at "dy"
          have e : (Tm.nd (.pl k1) (.pl k2) u).depth = 1 + u.depth := by simp only [Tm.depth]; omega
          exact ⟨.nd (.pl k1) (.pl k2) u, _, _, _, ⟨h1, h2, ou⟩, by rw [e]; omega, by rw [e]; omega, rfl⟩
    · have h12 : ¬ u.depth < 12 := of_decide_eq_false h
      walk_at "dy"
      exact ⟨u, _, _, _, ou, du, by omega, rfl⟩
  · obtain ⟨u, x5, x6, x7, ou, du, mu, rfl⟩ := hI
    rw [List.length_map, List.length_range] at mu
    walk_at "dx"
    exact q u ou (by have e : ((Int.toNat 13 : Nat) : Int) = 13 := rfl; omega)
end

section
variable {P : Program} {w : World} {K : PySem.W.Frag} {mg : Str → Option Value} {base : Heap} {kx : Kx}
/-! ### made wide -/
theorem inW {x : List Bool} (h : (widesD.any fun z => PyData.eqv z (tbD x)) = true) : ∃ i, i < 6 ∧ x = wide i := by
  obtain ⟨z, hz, e⟩ := List.any_eq_true.mp h
  simp only [widesD, List.mem_cons, List.not_mem_nil, or_false] at hz
  rcases hz with rfl | rfl | rfl | rfl | rfl | rfl
  · rw [eqv_tb] at e; exact ⟨0, by decide, (of_decide_eq_true e).symm⟩
  · rw [eqv_tb] at e; exact ⟨1, by decide, (of_decide_eq_true e).symm⟩
  · rw [eqv_tb] at e; exact ⟨2, by decide, (of_decide_eq_true e).symm⟩
  · rw [eqv_tb] at e; exact ⟨3, by decide, (of_decide_eq_true e).symm⟩
  · rw [eqv_tb] at e; exact ⟨4, by decide, (of_decide_eq_true e).symm⟩
  · rw [eqv_tb] at e; exact ⟨5, by decide, (of_decide_eq_true e).symm⟩
@[reducible] def tabOf (f : D → Bool) : D → Bool := fun d => match d with
  | .tuple [_, x, _, _] => f x
  | _ => false
theorem filter_pool {b : List Bool} {pool : List Tm} {f : D → Bool} : ((poolD b pool).filter (tabOf f)).map (fun d => d) = poolD b (pool.filter fun t => f (tbD (tell b t))) := by
  rw [List.map_id']
  show (pool.map (entD b)).filter _ = _
  rw [List.filter_map]
  rfl
@[reducible] def Wd (b : List Bool) (t : Tm) : Prop := ∃ i, i < 6 ∧ tell b t = wide i
@[reducible] def fs_made : Fs := fun rs R _ => ∃ (b : List Bool) (pool : List Tm) (mo : Int), rs = [.hnd, .val (tbD b), .val (.list (poolD b pool)), .val (.int mo)] ∧ b.length = 8 ∧ PoolOk pool ∧ pool.length ≤ 63 ∧ R (.val .none) ∧ ∀ t : Tm, t.ok → t.depth ≤ 12 → Wd b t → R (.val (entD b t))
def forBody : Stmt → List Stmt
  | .For _ _ b _ _ => b
  | _ => []
/-- the end of a turn -/
theorem made_end {f : Addr} {cdv : Value} {A : Around} {outer : List Env} {s : Shared} {H : Hp} {E : XK} {hk : Option (Addr × Addr)} {Xp : Ec → Prop} {R : Rs → Prop} {b : List Bool} {pool ts : List Tm} {mo : Int} {tk : Tm} {E0 : Pd} (T : Bt mg)
    (bd : Bd (cxOf (CX P w) P w K mg base n_law_made_wide "_law_made_wide" (defScope s_law_made_wide) f cdv A outer s H E) (csOf kx hk E Xp))
    (hr : Room 1 (cxOf (CX P w) P w K mg base n_law_made_wide "_law_made_wide" (defScope s_law_made_wide) f cdv A outer s H E).A)
    (tk' : Takes (cxOf (CX P w) P w K mg base n_law_made_wide "_law_made_wide" (defScope s_law_made_wide) f cdv A outer s H E) (csOf kx hk E Xp).W) (lb : b.length = 8) (hp : PoolOk pool)
    (q : ∀ (t : Tm), t.ok → t.depth ≤ 12 → Wd b t → R (Rs.val (entD b t))) (u : Tm) (x7 x8 x9 x10 x12 : Sl) (hkp : (tk.ok ∧ tk.depth ≤ 12) ∧ Wd b tk) (ou : u.ok)
    (hrt : E0.rt = R) (hnx : ∀ (tn tk : Tm) (x8 x9 x10 x11 x12 : Sl), (tn.ok ∧ tn.depth ≤ 12) → ((tk.ok ∧ tk.depth ≤ 12) ∧ Wd b tk) → E0.nx [.hnd, .val (tbD b), .val (.list (poolD b pool)), .val (.int mo), .own (.l widesD), .own (.l (poolD b ts)), .val (entD b tk), .val (entD b tn), x8, x9, x10, x11, x12]) :
    DSs (cxOf (CX P w) P w K mg base n_law_made_wide "_law_made_wide" (defScope s_law_made_wide) f cdv A outer s H E) (csOf kx hk E Xp) ((forBody ((defBody s_law_made_wide).getD 5 (.Pass default))).drop 4)
      [.hnd, .val (tbD b), .val (.list (poolD b pool)), .val (.int mo), .own (.l widesD), .own (.l (poolD b ts)), .val (entD b tk), x7, x8, x9, x10, .val (entD b u), x12] E0 := by
  walk_at "ds"
  refine iteBy (fun h => ?_) fun h => ?_
  · walk_at "dx"
    rw [hrt]
    exact q tk hkp.1.1 hkp.1.2 hkp.2
  · walk_at "dy"
    refine iteBy (fun h2 => ?_) fun h2 => ?_
    · walk_at "dx"
      rw [hrt]
      exact q tk hkp.1.1 hkp.1.2 hkp.2
    · have du : u.depth ≤ 12 := by have := of_decide_eq_false h2; omega
      walk_at "dy"
      walk_at "ds"
      walk_at "ds"
      refine w_inL bd rfl rfl (sh_tb _) rfl ?_
      refine ⟨_, rfl, iteBy (fun h3 => ?_) fun h3 => ?_⟩
      · walk_at "ds"
        exact hnx u u _ _ _ _ _ ⟨ou, du⟩ ⟨⟨ou, du⟩, inW h3⟩
      · walk_at "dy"
        exact hnx u tk _ _ _ _ _ ⟨ou, du⟩ hkp
theorem cal_made (Dd : Df K mg "_law_made_wide" s_law_made_wide p_law_made_wide) (hK : kx.K = K) (T : Bt mg) (ct : Cal P w K mg base kx 1 "_law_take" fs_take) (cw : Cal P w K mg base kx 1 "_law_wides" fs_wides) (cu : Cal P w K mg base kx 1 "_law_put" fs_put) : Cal P w K mg base kx 2 "_law_made_wide" fs_made := by
  refine cal_of Dd c_law_made_wide hK (fun rs R X ⟨b, pool, mo, e, _⟩ => by rw [e]; rfl) ?_
  intro f cdv A outer s H E hk rs R Xp hF hr bd tk
  obtain ⟨b, pool, mo, rfl, lb, hp, lp, qn, q⟩ := hF
  have lpD : (poolD b pool).length = pool.length := List.length_map _
  have lpS : (poolD b pool).length ≤ sizeLine := by rw [lpD]; exact Nat.le_trans lp (by decide)
  walk_at "ds"
  refine dss_cons ?_
  refine ds_setComp1S 12 5 bd rfl rfl rfl rfl rfl rfl (sw_true rfl rfl rfl rfl) (di_list bd ?_)
  walk_at "dy"
  refine comp1SF (tabOf fun x => widesD.any fun z => PyData.eqv z x) (fun d => d) lpS (fun d hd s H C cl fp bd => ?_) ?_
  · obtain ⟨t, _, rfl⟩ := List.mem_map.mp hd
    refine ⟨?_, fun _ => ?_⟩
    · walk_at "dx"
      refine w_inL bd rfl rfl (sh_tb _) rfl ?_
      exact ⟨_, rfl, rfl⟩
    · walk_at "dx"
      rfl
  rw [filter_pool]
  have hts : ∀ t, t ∈ pool.filter (fun t => widesD.any fun z => PyData.eqv z (tbD (tell b t))) → (t.ok ∧ t.depth ≤ 12) ∧ Wd b t := fun t ht => by
    obtain ⟨h1, h2⟩ := List.mem_filter.mp ht
    exact ⟨hp.2 t h1, inW h2⟩
  have ltl : (pool.filter (fun t => widesD.any fun z => PyData.eqv z (tbD (tell b t)))).length ≤ 63 := Nat.le_trans (List.length_filter_le _ _) lp
  generalize pool.filter (fun t => widesD.any fun z => PyData.eqv z (tbD (tell b t))) = ts at hts ltl
  have lts : (poolD b ts).length = ts.length := List.length_map _
  walk_at "dy"
  walk_at "ds"
  refine iteBy (fun h => ?_) fun h => ?_
  · walk_at "dx"
    exact qn
  have hne : 0 < ts.length := by
    have z := of_decide_eq_false h
    rw [lts] at z
    omega
  walk_at "dy"
  walk_at "ds"
  refine ⟨by rw [lts]; omega, by rw [lts]; omega, fun i i0 i1 => ?_⟩
  rw [lts] at i1
  obtain ⟨t0, ht0, hi⟩ := pool_at (b := b) i0 i1
  refine w_ixL rfl hi ?_
  walk_at "dy"
  walk_at "ds"
  refine dss_cons ?_
  refine ds_loop 8 bd rfl rfl (.inl rfl) (.inr rfl) (b_range T ?_)
  walk_at "dx"
  refine ⟨by decide, ?_⟩
  refine loopI (fun j Γ => ∃ (tn tk : Tm) (x8 x9 x10 x11 x12 : Sl), (tn.ok ∧ tn.depth ≤ 12) ∧ ((tk.ok ∧ tk.depth ≤ 12) ∧ Wd b tk) ∧ Γ = [.hnd, .val (tbD b), .val (.list (poolD b pool)), .val (.int mo), .own (.l widesD), .own (.l (poolD b ts)), .val (entD b tk), .val (entD b tn), x8, x9, x10, x11, x12])
    ⟨t0, t0, .un, .un, .un, .un, .un, (hts t0 ht0).1, hts t0 ht0, rfl⟩ (fun j d Γ1 hd hI => ?_) (fun Γ1 hI => ?_)
  · obtain ⟨tn, tq, x8, x9, x10, x11, x12, hn, hkp, rfl⟩ := hI
    refine dss_cons ?_
    refine ds_set 9 bd rfl (by walk_at "loc") ?_
    refine de_add ?_
    refine de_comp1S 12 bd rfl rfl rfl rfl (di_list bd ?_)
    walk_at "dy"
    refine comp1SF (tabOf fun x => PyData.eqv x (tbD (tell b tn))) (fun d => d) lpS (fun d hd s H C cl fp bd => ?_) ?_
    · obtain ⟨t, _, rfl⟩ := List.mem_map.mp hd
      refine ⟨?_, fun _ => ?_⟩
      · walk_at "dx"
        refine w_eqD bd rfl rfl (sh_tb _) (sh_tb _) ?_
        exact ⟨_, rfl, rfl⟩
      · walk_at "dx"
        rfl
    rw [filter_pool]
    have hlk : ∀ t, t ∈ pool.filter (fun t => PyData.eqv (tbD (tell b t)) (tbD (tell b tn))) → t.ok ∧ t.depth ≤ 12 := fun t ht => hp.2 t (List.mem_filter.mp ht).1
    have lll : (pool.filter (fun t => PyData.eqv (tbD (tell b t)) (tbD (tell b tn)))).length ≤ 63 := Nat.le_trans (List.length_filter_le _ _) lp
    generalize pool.filter (fun t => PyData.eqv (tbD (tell b t)) (tbD (tell b tn))) = lk at hlk lll
    have llk : (poolD b lk).length = lk.length := List.length_map _
    walk_at "dy"
    refine w_addL rfl rfl (by rw [llk]; exact Nat.le_trans (Nat.add_le_add lll (Nat.le_refl 1)) (by decide)) ?_
    rw [show poolD b lk ++ [entD b tn] = poolD b (lk ++ [tn]) from poolD_app.symm]
    have hlk2 : ∀ t, t ∈ lk ++ [tn] → t.ok ∧ t.depth ≤ 12 := fun t ht => (List.mem_append.mp ht).elim (hlk t) fun h => by rw [List.mem_singleton.mp h]; exact hn
    have ll2 : 0 < (lk ++ [tn]).length ∧ (lk ++ [tn]).length ≤ 64 := by rw [List.length_append, List.length_singleton]; omega
    generalize lk ++ [tn] = lk2 at hlk2 ll2
    have ll3 : (poolD b lk2).length = lk2.length := List.length_map _
    walk_at "dy"
    walk_at "ds"
    refine dss_cons ?_
    refine ds_setItem 10 bd rfl (by walk_at "vis") rfl ?_
    walk_at "dy"
    refine ⟨by rw [ll3]; omega, by rw [ll3]; omega, fun i2 j0 j1 => ?_⟩
    rw [ll3] at j1
    obtain ⟨t2, ht2, hi2⟩ := pool_at (b := b) j0 j1
    have h2 := hlk2 t2 ht2
    refine w_ixL rfl hi2 ?_
    walk_at "dy"
    refine ⟨by decide, by decide, fun i3 k0 k1 => ?_⟩
    obtain rfl | rfl | rfl : i3 = 0 ∨ i3 = 1 ∨ i3 = 2 := by omega
    · refine ⟨0, 0, rfl, rfl, ?_⟩
      refine dss_freeze 10 rfl ?_
      walk_at "ds"
      refine ⟨b, t2, tn, tn, rfl, lb, ?_⟩
      walk_at "dy"
      exact made_end (ts := ts) T bd hr tk lb hp q _ _ _ _ _ _ hkp ⟨h2.1, hn.1, hn.1⟩ rfl fun tn tk x8 x9 x10 x11 x12 a1 a2 => ⟨tn, tk, x8, x9, x10, x11, x12, a1, a2, rfl⟩
    · refine ⟨1, 1, rfl, rfl, ?_⟩
      refine dss_freeze 10 rfl ?_
      walk_at "ds"
      refine ⟨b, tn, t2, tn, rfl, lb, ?_⟩
      walk_at "dy"
      exact made_end (ts := ts) T bd hr tk lb hp q _ _ _ _ _ _ hkp ⟨hn.1, h2.1, hn.1⟩ rfl fun tn tk x8 x9 x10 x11 x12 a1 a2 => ⟨tn, tk, x8, x9, x10, x11, x12, a1, a2, rfl⟩
    · refine ⟨2, 2, rfl, rfl, ?_⟩
      refine dss_freeze 10 rfl ?_
      walk_at "ds"
      refine ⟨b, tn, tn, t2, rfl, lb, ?_⟩
      walk_at "dy"
      exact made_end (ts := ts) T bd hr tk lb hp q _ _ _ _ _ _ hkp ⟨hn.1, hn.1, h2.1⟩ rfl fun tn tk x8 x9 x10 x11 x12 a1 a2 => ⟨tn, tk, x8, x9, x10, x11, x12, a1, a2, rfl⟩
  · obtain ⟨tn, tq, x8, x9, x10, x11, x12, hn, hkp, rfl⟩ := hI
    walk_at "dx"
    exact q tq hkp.1.1 hkp.1.2 hkp.2
end

section
variable {P : Program} {w : World} {K : PySem.W.Frag} {mg : Str → Option Value} {base : Heap} {kx : Kx}
/-! ### a term spoilt -/
def Bad (d : D) : Prop := (∀ n, isT n d = false) ∧ flat d = true
theorem isT_tup3 {n : Nat} {a b c : D} : isT n (.tuple [a, b, c]) = match n with | 0 => false | m + 1 => isT m a && (isT m b && isT m c) := by cases n <;> rfl
theorem bad3 {a b c : D} {i : Nat} {x : D} (hx : Bad x) (h : flat (.tuple [a, b, c]) = true) : Bad (.tuple ([a, b, c].set i x)) ∨ 3 ≤ i := by
  obtain ⟨fa, fb, fc⟩ := flat3 h
  rcases i with _ | _ | _ | i
  · refine .inl ⟨fun n => ?_, by simp [flat, flats, hx.2, fb, fc]⟩
    show isT n (.tuple [x, b, c]) = false
    cases n with
    | zero => rfl
    | succ m => show (isT m x && _) = false; rw [hx.1 m]; rfl
  · refine .inl ⟨fun n => ?_, by simp [flat, flats, hx.2, fa, fc]⟩
    show isT n (.tuple [a, x, c]) = false
    cases n with
    | zero => rfl
    | succ m => show (isT m a && (isT m x && _)) = false; rw [hx.1 m]; simp
  · refine .inl ⟨fun n => ?_, by simp [flat, flats, hx.2, fa, fb]⟩
    show isT n (.tuple [a, b, x]) = false
    cases n with
    | zero => rfl
    | succ m => show (isT m a && (isT m b && isT m x)) = false; rw [hx.1 m]; simp
  · exact .inr (by omega)
@[reducible] def fs_spoilt : Fs := fun rs R _ => ∃ t : Tm, rs = [.hnd, .val t.D] ∧ t.ok ∧ ∀ d, Bad d → R (.val d)
theorem flat_D : ∀ t : Tm, flat t.D = true
  | .pl _ => rfl
  | .nd a b c => by simp [Tm.D, flat, flats, flat_D a, flat_D b, flat_D c]
/-- what stands on the path: a triple and a place in it -/
def StepD (d : D) : Prop := ∃ (a b c : Tm) (i : Int), 0 ≤ i ∧ i < 3 ∧ d = .tuple [(Tm.nd a b c).D, .int i]
theorem cal_spoilt (Dd : Df K mg "_law_spoilt" s_law_spoilt p_law_spoilt) (hK : kx.K = K) (T : Bt mg) (ct : Cal P w K mg base kx 1 "_law_take" fs_take) : Cal P w K mg base kx 2 "_law_spoilt" fs_spoilt := by
  refine cal_of Dd c_law_spoilt hK (fun rs R X ⟨b, e, _⟩ => by rw [e]; rfl) ?_
  intro f cdv A outer s H E hk rs R Xp hF hr bd tk
  obtain ⟨t, rfl, ot, q⟩ := hF
  walk_at "ds"
  walk_at "ds"
  refine dss_cons ?_
  refine ds_loop 4 bd rfl rfl (.inl rfl) (.inr rfl) (b_range T ?_)
  walk_at "dx"
  refine ⟨by decide, ?_⟩
  refine loopI (fun j Γ => ∃ (u : Tm) (ps : List D) (x4 x5 : Sl), (∀ d, d ∈ ps → StepD d) ∧ ps.length ≤ j ∧ Γ = [.hnd, .val t.D, .own (.l ps), .val u.D, x4, x5, .un, .un, .un])
    ⟨t, [], .un, .un, fun d h => by simp at h, by decide, rfl⟩ (fun j d Γ1 hd hI => ?_) (fun Γ1 hI => ?_)
  · obtain ⟨u, ps, x4, x5, hps, lj, rfl⟩ := hI
    have hj : j < 13 := by
      have z := (List.getElem?_eq_some_iff.mp hd).1
      rw [List.length_map, List.length_range] at z
      exact z
    cases u with
    | pl i =>
      walk_at "ds"
      exact ⟨.pl i, ps, _, _, hps, by omega, rfl⟩
    | nd a b e =>
      walk_at "ds"
      walk_at "ds"
      refine ⟨by decide, by decide, fun i i0 i1 => ?_⟩
      walk_at "dy"
      refine dss_cons ?_
      refine ds_append 2 bd rfl (by walk_at "vis") rfl ?_
      walk_at "dy"
      refine ⟨Nat.lt_of_le_of_lt (show ps.length ≤ 13 by omega) (by decide), ?_⟩
      walk_at "ds"
      have hps2 : ∀ d, d ∈ ps ++ [PyData.tuple [(Tm.nd a b e).D, .int i]] → StepD d := fun d hd => (List.mem_append.mp hd).elim (hps d) fun h => ⟨a, b, e, i, i0, i1, List.mem_singleton.mp h⟩
      have ll : (ps ++ [PyData.tuple [(Tm.nd a b e).D, .int i]]).length ≤ j + 1 := by rw [List.length_append, List.length_singleton]; omega
      obtain rfl | rfl | rfl : i = 0 ∨ i = 1 ∨ i = 2 := by omega
      · refine w_ixT (ds := [a.D, b.D, e.D]) (d := a.D) bd rfl ?_
        walk_at "dy"
        exact ⟨a, _, _, _, hps2, ll, rfl⟩
      · refine w_ixT (ds := [a.D, b.D, e.D]) (d := b.D) bd rfl ?_
        walk_at "dy"
        exact ⟨b, _, _, _, hps2, ll, rfl⟩
      · refine w_ixT (ds := [a.D, b.D, e.D]) (d := e.D) bd rfl ?_
        walk_at "dy"
        exact ⟨e, _, _, _, hps2, ll, rfl⟩
  · obtain ⟨u, ps, x4, x5, hps, lj, rfl⟩ := hI
    refine dss_freeze 2 rfl ?_
    walk_at "ds"
    refine ⟨by decide, by decide, fun i i0 i1 => ?_⟩
    obtain ⟨x, hx, hi⟩ := atI_in (xs := [PyData.int 3, .int (-1), .bool true, .bool false, .none, .str "0", .list [.int 0, .int 1, .int 2], .tuple [.int 0, .int 1], .tuple [.int 0, .int 1, .int 2, .int 0], .tuple []]) i0 i1
    have bx : Bad x := by
      simp only [List.mem_cons, List.not_mem_nil, or_false] at hx
      rcases hx with rfl | rfl | rfl | rfl | rfl | rfl | rfl | rfl | rfl | rfl <;> exact ⟨fun n => by cases n <;> rfl, rfl⟩
    refine w_ixL rfl hi ?_
    walk_at "dy"
    refine dss_cons ?_
    refine ds_loopT bd rfl (dg2 7 5 bd rfl (by walk_at "lc") (by walk_at "lc")) (di_rev bd T.rev rfl ?_)
    walk_at "dx"
    refine loopT (fun j Γ => ∃ (x : D) (x4 x5 x7 x8 : Sl), Bad x ∧ Γ = [.hnd, .val t.D, .val (.list ps), .val u.D, x4, x5, .val x, x7, x8])
      ⟨x, _, _, _, _, bx, rfl⟩ (fun j d Γ1 hd hI => ?_) (fun Γ1 hI => ?_)
    · obtain ⟨y, y4, y5, y7, y8, by', rfl⟩ := hI
      obtain ⟨a, b, e, i, i0, i1, rfl⟩ := hps d (List.mem_reverse.mp (List.mem_of_getElem? hd))
      refine ⟨_, ⟨_, _, rfl, rfl⟩, ?_⟩
      walk_at "ds"
      refine dss_cons ?_
      refine ds_setItem 8 bd rfl (by walk_at "vis") rfl ?_
      walk_at "dy"
      have fl : flat (.tuple [a.D, b.D, e.D]) = true := flat_D (.nd a b e)
      obtain rfl | rfl | rfl : i = 0 ∨ i = 1 ∨ i = 2 := by omega
      · refine ⟨0, 0, rfl, rfl, ?_⟩
        walk_at "ds"
        exact ⟨_, _, _, _, _, (bad3 (i := 0) by' fl).resolve_right (by decide), rfl⟩
      · refine ⟨1, 1, rfl, rfl, ?_⟩
        walk_at "ds"
        exact ⟨_, _, _, _, _, (bad3 (i := 1) by' fl).resolve_right (by decide), rfl⟩
      · refine ⟨2, 2, rfl, rfl, ?_⟩
        walk_at "ds"
        exact ⟨_, _, _, _, _, (bad3 (i := 2) by' fl).resolve_right (by decide), rfl⟩
    · obtain ⟨y, y4, y5, y7, y8, by', rfl⟩ := hI
      walk_at "dx"
      exact q y by'
end

section
variable {P : Program} {w : World} {K : PySem.W.Frag} {mg : Str → Option Value} {base : Heap} {kx : Kx}
@[reducible] def Sm (d : D) : Prop := SeqAt.shaped d = true ∧ d.showable = true ∧ d.shown.length ≤ sizeLine
@[reducible] def fs_same : Fs := fun rs R _ => ∃ d : D, rs = [.val d, .val d] ∧ Sm d ∧ R (.val (.bool true))
theorem cal_same (Dd : Df K mg "_law_same" s_law_same p_law_same) (hK : kx.K = K) (T : Bt mg) : Cal P w K mg base kx 1 "_law_same" fs_same := by
  refine cal_of Dd c_law_same hK (fun rs R X ⟨d, e, _⟩ => by rw [e]; rfl) ?_
  intro f cdv A outer s H E hk rs R Xp hF hr bd tk
  obtain ⟨d, rfl, ⟨h1, h2, h3⟩, q⟩ := hF
  walk_at "dx"
  refine w_eqD bd rfl rfl h1 h1 ?_
  rw [SeqAt.eqv_refl d (SeqAt.canLay_of_shaped h1)]
  walk_at "dx"
  refine ⟨h1, h2, h3, ?_⟩
  walk_at "dx"
  refine ⟨h1, h2, h3, ?_⟩
  refine w_eqS ?_
  rw [decide_eq_true rfl]
  walk_at "dx"
  exact q
theorem calW_same (Dd : Df K mg "_law_same" s_law_same p_law_same) (hK : kx.K = K) (T : Bt mg) : CalW P w K mg base kx 1 "_law_same" fs_same := by
  refine calW_of Dd c_law_same hK (fun rs R X ⟨d, e, _⟩ => by rw [e]; rfl) ?_
  intro f cdv A outer s H E hk rs R Xp p hF hr bd
  obtain ⟨d, rfl, ⟨h1, h2, h3⟩, q⟩ := hF
  walk_at "dx"
  refine w_eqD bd rfl rfl h1 h1 ?_
  rw [SeqAt.eqv_refl d (SeqAt.canLay_of_shaped h1)]
  walk_at "dx"
  refine ⟨h1, h2, h3, ?_⟩
  walk_at "dx"
  refine ⟨h1, h2, h3, ?_⟩
  refine w_eqS ?_
  rw [decide_eq_true rfl]
  walk_at "dx"
  exact q
@[reducible] def fs_asked : Fs := fun rs R _ => ∃ (b : List Bool) (d : D), rs = [.val (tbD b), .val d] ∧ b.length = 8 ∧ flat d = true ∧ (∀ t : Tm, d = t.D → t.ok → t.depth ≤ 12 → R (.val (.tuple [.str "told", tbD (tell b t)]))) ∧ (isT 12 d = false → R (.val (.tuple [.str "raised", .str "term"])))
theorem cal_asked (Dd : Df K mg "_law_asked" s_law_asked p_law_asked) (hK : kx.K = K) (T : Bt mg) (c1 : CalK P w K mg base kx 15 "term_table" ["table", "term"] g2 fs_term_table) (M : ExM K mg kx.cl "Undefined" ["Undefined"]) (F : XfM K kx.cl "Undefined" "what") : Cal P w K mg base kx 16 "_law_asked" fs_asked := by
  refine cal_of Dd c_law_asked hK (fun rs R X ⟨b, d, e, _⟩ => by rw [e]; rfl) ?_
  intro f cdv A outer s H E hk rs R Xp hF hr bd tk
  obtain ⟨b, d, rfl, lb, hf, q1, q2⟩ := hF
  refine dss_cons ?_
  refine ds_tryX 2 bd M rfl rfl rfl rfl rfl rfl tk fun W pn xe tk' bd' => ?_
  refine dss_cons ?_
  refine ds_ret ?_
  refine de_tup ?_
  refine da_cons ?_
  refine de_str ?_
  refine da_cons ?_
  refine de_callK c1 (Room.mono hr (by decide)) bd' tk' ?_
  refine dk_cons ?_
  walk_at "dv"
  refine dk_cons ?_
  walk_at "dv"
  refine dk_nil ?_
  refine ⟨_, rfl, rfl, b, d, rfl, lb, hf, fun t e ot dt => ?_, fun h => ?_⟩
  · walk_at "dx"
    exact q1 t e ot dt
  · dsimp only
    refine iteYes (by decide) ?_
    refine suite_of bd fun a dd C oe pn hC hz hfl bds => ?_
    refine dss_cons ?_
    refine ds_ret ?_
    refine de_tup ?_
    refine da_cons ?_
    refine de_str ?_
    refine da_cons ?_
    refine de_xfM (i := 2) (ds := [(.str "what", .str "term")]) (d := .str "term") F hC hz hfl rfl (by walk_at "vis") rfl (by unfold fget; exact if_pos rfl) ?_
    walk_at "dx"
    exact q2 h
theorem wd_mem : ∀ i : Nat, i < 6 → (wordsD.any fun z => PyData.eqv z (.str (wd i))) = true ∧ wordsD[i]? = some (.str (wd i)) ∧ (∀ (m : Nat) (z : D), m < i → wordsD[m]? = some z → PyData.eqv z (.str (wd i)) = false) ∧ widesD[i]? = some (tbD (wide i))
  | 0, _ => ⟨by decide, rfl, fun m z h => by omega, rfl⟩
  | 1, _ => ⟨by decide, rfl, fun m z h e => by (rcases m with _ | m) <;> first | (cases e; decide) | omega, rfl⟩
  | 2, _ => ⟨by decide, rfl, fun m z h e => by (rcases m with _ | _ | m) <;> first | (cases e; decide) | omega, rfl⟩
  | 3, _ => ⟨by decide, rfl, fun m z h e => by (rcases m with _ | _ | _ | m) <;> first | (cases e; decide) | omega, rfl⟩
  | 4, _ => ⟨by decide, rfl, fun m z h e => by (rcases m with _ | _ | _ | _ | m) <;> first | (cases e; decide) | omega, rfl⟩
  | 5, _ => ⟨by decide, rfl, fun m z h e => by (rcases m with _ | _ | _ | _ | _ | m) <;> first | (cases e; decide) | omega, rfl⟩
  | _ + 6, h => by omega
theorem plain6_all : ∀ b0 b1 b2 b3 b4 b5 b6 b7 : Bool, ([place 0, place 1, place 2, (place 0).map not, (place 1).map not, (place 2).map not].any fun z => decide (z = [b0, b1, b2, b3, b4, b5, b6, b7])) = plainB [b0, b1, b2, b3, b4, b5, b6, b7] := by decide +kernel
theorem plain6 {b : List Bool} (h : b.length = 8) : ([tbD (place 0), tbD (place 1), tbD (place 2), tbD ((place 0).map not), tbD ((place 1).map not), tbD ((place 2).map not)].any fun z => PyData.eqv z (tbD b)) = plainB b := by
  obtain ⟨b0, b1, b2, b3, b4, b5, b6, b7, rfl⟩ := eight h
  rw [← plain6_all]
  simp only [List.any_cons, List.any_nil, eqv_tb]
theorem sm_bool (k : Bool) : Sm (.bool k) := by cases k <;> exact ⟨rfl, rfl, by decide⟩
theorem sm_wide : ∀ i : Nat, i < 6 → Sm (tbD (wide i)) ∧ Sm (.tuple [.str "told", tbD (wide i)])
  | 0, _ => ⟨⟨by decide +kernel, by decide +kernel, by decide +kernel⟩, ⟨by decide +kernel, by decide +kernel, by decide +kernel⟩⟩
  | 1, _ => ⟨⟨by decide +kernel, by decide +kernel, by decide +kernel⟩, ⟨by decide +kernel, by decide +kernel, by decide +kernel⟩⟩
  | 2, _ => ⟨⟨by decide +kernel, by decide +kernel, by decide +kernel⟩, ⟨by decide +kernel, by decide +kernel, by decide +kernel⟩⟩
  | 3, _ => ⟨⟨by decide +kernel, by decide +kernel, by decide +kernel⟩, ⟨by decide +kernel, by decide +kernel, by decide +kernel⟩⟩
  | 4, _ => ⟨⟨by decide +kernel, by decide +kernel, by decide +kernel⟩, ⟨by decide +kernel, by decide +kernel, by decide +kernel⟩⟩
  | 5, _ => ⟨⟨by decide +kernel, by decide +kernel, by decide +kernel⟩, ⟨by decide +kernel, by decide +kernel, by decide +kernel⟩⟩
  | _ + 6, h => by omega
end

theorem sh_wd : ∀ i : Nat, i < 6 → SeqAt.shaped (.str (wd i)) = true := by decide +kernel
section
variable {P : Program} {w : World} {K : PySem.W.Frag} {mg : Str → Option Value} {base : Heap} {kx : Kx}
@[reducible] def fs_is_of : Fs := fun rs R _ => ∃ b : List Bool, rs = [.val (tbD b)] ∧ b.length = 8 ∧ R (.val (.bool true))
theorem cal_is_of (Dd : Df K mg "_law_is_of" s_law_is_of p_law_is_of) (hK : kx.K = K) (T : Bt mg) (cp : Cal P w K mg base kx 1 "_law_places" fs_places) (cs : Cal P w K mg base kx 1 "_law_same" fs_same) (csw : CalW P w K mg base kx 1 "_law_same" fs_same) (ci : Cal P w K mg base kx 2 "is_plain" fs_is_plain)
    (ct : Cal P w K mg base kx 3 "term_of" fs_term_of) (cw : Cal P w K mg base kx 1 "_law_words" fs_words) (ch : Cal P w K mg base kx 15 "term_holds" fs_term_holds) (cd : Cal P w K mg base kx 1 "_law_wides" fs_wides) (ce : Cal P w K mg base kx 1 "widened" fs_widened) (cf : Cal P w K mg base kx 1 "table_of" fs_table_of)
    (ca : Cal P w K mg base kx 16 "_law_asked" fs_asked) (M : ExM K mg kx.cl "Undefined" ["Undefined"]) (F : XfM K kx.cl "Undefined" "what") : Cal P w K mg base kx 17 "_law_is_of" fs_is_of := by
  refine cal_of Dd c_law_is_of hK (fun rs R X ⟨b, e, _⟩ => by rw [e]; rfl) ?_
  intro f cdv A outer s H E hk rs R Xp hF hr bd tk
  obtain ⟨b, rfl, lb, q⟩ := hF
  refine dss_cons ?_
  refine ds_setComp1 6 1 bd rfl rfl rfl rfl rfl rfl (sw_true rfl rfl rfl rfl) (di_list bd ?_)
  walk_at "dy"
  refine ⟨b, rfl, _, rfl, ?_⟩
  refine comp1F (fun d => match d with | .tuple [_, x, _, _] => x | _ => .none) (show 3 ≤ sizeLine by decide) (fun d hd s H C cl fp bd => ?_) ?_
  · obtain ⟨t, rfl⟩ : ∃ t, d = entD b t := by
      simp only [List.mem_cons, List.not_mem_nil, or_false] at hd
      rcases hd with rfl | rfl | rfl <;> exact ⟨_, rfl⟩
    walk_at "dx"
    rfl
  walk_at "dy"
  refine dss_freeze (ds := [tbD (place 0), tbD (place 1), tbD (place 2)]) 1 rfl ?_
  refine dss_cons ?_
  refine ds_set 2 bd rfl (by walk_at "loc") ?_
  refine de_cmp bd .inn ?_ (by rfl)
  walk_at "dy"
  refine de_comp1 6 bd rfl rfl rfl rfl (di_list bd ?_)
  walk_at "dy"
  refine comp1F (fun d => match d with | .tuple xs => .tuple (xs.map fun d => match d with | .int i => .int (1 - i) | _ => .none) | _ => .none) (show 3 ≤ sizeLine by decide) (fun d hd s H C cl fp bd => ?_) ?_
  · obtain ⟨x, rfl, lx⟩ : ∃ x : List Bool, d = tbD x ∧ x.length = 8 := by
      simp only [List.mem_cons, List.not_mem_nil, or_false] at hd
      rcases hd with rfl | rfl | rfl <;> exact ⟨_, rfl, rfl⟩
    walk_at "dx"
    refine de_comp1 7 bd rfl rfl rfl rfl (di_tup bd ?_)
    walk_at "dx"
    refine comp1F (fun d => match d with | .int i => .int (1 - i) | _ => .none) (by rw [List.length_map, lx]; decide) (fun d hd s H C cl fp bd => ?_) ?_
    · obtain ⟨v, rfl⟩ := mem_tb' hd
      walk_at "dx"
      rfl
    · walk_at "dx"
      rfl
  walk_at "dy"
  refine w_addL rfl rfl (show 6 ≤ sizeLine by decide) ?_
  refine w_inL (ds := [tbD (place 0), tbD (place 1), tbD (place 2), tbD ((place 0).map not), tbD ((place 1).map not), tbD ((place 2).map not)]) bd rfl rfl (sh_tb b) rfl ?_
  rw [plain6 lb]
  walk_at "dy"
  walk_at "ds"
  refine ⟨lb, ?_⟩
  walk_at "dy"
  refine ⟨sm_bool _, ?_⟩
  walk_at "dy"
  refine dss_cons ?_
  refine ds_tryX 4 bd M rfl rfl rfl rfl rfl rfl tk fun W pn xe tk' bd' => ?_
  walk_at "ds"
  refine ⟨lb, fun hp => ?_, fun hp => ?_⟩
  · dsimp only
    refine iteYes (by decide) ?_
    refine suite_of bd fun a dd C oe pn hC hz hfl bds => ?_
    refine dss_cons ?_
    refine ds_ret ?_
    refine de_and ?_
    refine de_var 2 rfl (by walk_at "vis") rfl rfl ?_
    refine ⟨_, rfl, ?_⟩
    refine iteYes hp ?_
    refine de_one ?_
    refine de_callW csw (roomS hr (by decide)) bds ⟨_, List.mem_cons_self⟩ ?_
    refine da_cons ?_
    refine de_xfM (i := 4) (ds := [(.str "what", .str "plain")]) (d := .str "plain") F hC hz hfl rfl (by walk_at "vis") rfl (by unfold fget; exact if_pos rfl) ?_
    walk_at "dx"
    refine ⟨⟨by decide +kernel, by decide +kernel, by decide +kernel⟩, ?_⟩
    walk_at "dx"
    exact q
  · obtain ⟨hi, ok, dt, et⟩ := termOf_ok lb hp
    generalize (termOf b).1 = i at hi et
    generalize (termOf b).2 = t at ok dt et
    obtain ⟨w1, w2, w3, w4⟩ := wd_mem i hi
    obtain ⟨td, hm, tl, ew⟩ := td_mem i hi
    have noT : isT 12 t.D = false → False := fun h => by
      rw [isT_D ok] at h
      exact of_decide_eq_false h dt
    walk_at "dy"
    walk_at "ds"
    refine iteNo hp ?_
    walk_at "dy"
    walk_at "ds"
    refine w_niL bd rfl rfl (sh_wd i hi) (by decide +kernel) ?_
    rw [w1]
    walk_at "dy"
    refine ⟨b, i, t.D, rfl, lb, hi, flat_D t, fun h => (noT h).elim, fun u hu ou du => ?_⟩
    have eu := Tm.inj hu
    subst eu
    rw [decide_eq_true et]
    walk_at "dy"
    walk_at "ds"
    refine de_index bd ?_
    walk_at "dy"
    refine ⟨_, i, _, rfl, by decide +kernel, sh_wd i hi, w2, by simp [PyData.eqv], w3, ?_⟩
    refine w_ixL rfl (atI_n w4) ?_
    walk_at "dy"
    walk_at "ds"
    refine ⟨_, _, rfl, hm, ?_⟩
    walk_at "dy"
    refine ⟨tl, ?_⟩
    rw [ew]
    walk_at "dy"
    refine ⟨(sm_wide i hi).1, ?_⟩
    walk_at "dy"
    walk_at "ds"
    refine ⟨b, _, rfl, lb, flat_D t, fun u hu ou du => ?_, fun h => (noT h).elim⟩
    have eu := Tm.inj hu
    subst eu
    rw [et]
    walk_at "dy"
    refine ⟨(sm_wide i hi).2, ?_⟩
    walk_at "dy"
    exact q
end

theorem first_of {l : List D} {p : D → Bool} (h : l.any p = true) : ∃ j z, j < l.length ∧ l[j]? = some z ∧ p z = true ∧ ∀ (m : Nat) (z' : D), m < j → l[m]? = some z' → p z' = false := by
  induction l with
  | nil => cases h
  | cons a l ih =>
    cases ha : p a with
    | true => exact ⟨0, a, Nat.succ_pos _, rfl, ha, fun m z' hm _ => by omega⟩
    | false =>
      have h' : l.any p = true := by simpa [List.any_cons, ha] using h
      obtain ⟨j, z, hl, h1, h2, h3⟩ := ih h'
      refine ⟨j + 1, z, Nat.succ_lt_succ hl, h1, h2, fun m z' hm e => ?_⟩
      cases m with
      | zero => cases e; exact ha
      | succ m => exact h3 m z' (by omega) e
theorem first_wide {x : List Bool} (h : (widesD.any fun z => PyData.eqv z (tbD x)) = true) : ∃ j, j < 6 ∧ ∃ z, widesD[j]? = some z ∧ PyData.eqv z (tbD x) = true ∧ (∀ (m : Nat) (z' : D), m < j → widesD[m]? = some z' → PyData.eqv z' (tbD x) = false) ∧ x = wide j := by
  obtain ⟨j, z, hl, h1, h2, h3⟩ := first_of h
  have hj : j < 6 := hl
  have e := (wd_mem j hj).2.2.2
  rw [h1] at e
  cases e
  have h2' := h2
  rw [eqv_tb] at h2'
  exact ⟨j, hj, _, h1, h2, h3, (of_decide_eq_true h2').symm⟩
theorem any_wide {x : List Bool} {i : Nat} (h : i < 6) (e : x = wide i) : (widesD.any fun z => PyData.eqv z (tbD x)) = true := by
  refine List.any_eq_true.mpr ⟨tbD (wide i), List.mem_of_getElem? (wd_mem i h).2.2.2, ?_⟩
  rw [eqv_tb, e, decide_eq_true rfl]
theorem sm_told_all : ∀ b0 b1 b2 b3 b4 b5 b6 b7 : Bool, Sm (.tuple [.str "told", tbD [b0, b1, b2, b3, b4, b5, b6, b7]]) := by decide +kernel
theorem sm_told {x : List Bool} (h : x.length = 8) : Sm (.tuple [.str "told", tbD x]) := by
  obtain ⟨b0, b1, b2, b3, b4, b5, b6, b7, rfl⟩ := eight h
  exact sm_told_all ..
theorem last_of {b : List Bool} {pool : List Tm} (h : pool ≠ []) : ∃ t, t ∈ pool ∧ atI (poolD b pool) (-1) = some (entD b t) := by
  have e : (poolD b pool).getLast? = some (entD b (pool.getLast h)) := by
    show (pool.map (entD b)).getLast? = _
    rw [List.getLast?_map, List.getLast?_eq_getLast h]
    rfl
  exact ⟨_, List.getLast_mem h, atI_last e⟩
section
variable {P : Program} {w : World} {K : PySem.W.Frag} {mg : Str → Option Value} {base : Heap} {kx : Kx}
/-- all that the law calls -/
structure LawC (P : Program) (w : World) (K : PySem.W.Frag) (mg : Str → Option Value) (base : Heap) (kx : Kx) : Prop where
  take : Cal P w K mg base kx 1 "_law_take" fs_take
  table : Cal P w K mg base kx 2 "_law_table" fs_law_table
  terms : Cal P w K mg base kx 2 "_law_terms" fs_terms
  words : Cal P w K mg base kx 1 "_law_words" fs_words
  wides : Cal P w K mg base kx 1 "_law_wides" fs_wides
  made : Cal P w K mg base kx 2 "_law_made_wide" fs_made
  holds : Cal P w K mg base kx 15 "term_holds" fs_term_holds
  holdsK : CalK P w K mg base kx 15 "term_holds" ["table", "claim"] g2 fs_term_holds
  same : Cal P w K mg base kx 1 "_law_same" fs_same
  asked : Cal P w K mg base kx 16 "_law_asked" fs_asked
  deep : Cal P w K mg base kx 2 "_law_made_deep" fs_deep
  put : Cal P w K mg base kx 1 "_law_put" fs_put
  places : Cal P w K mg base kx 1 "_law_places" fs_places
  spoilt : Cal P w K mg base kx 2 "_law_spoilt" fs_spoilt
  isof : Cal P w K mg base kx 17 "_law_is_of" fs_is_of
@[reducible] def lawE : Pd := { nx := fun _ => False, rt := fun r => r = .val (.bool true) }
theorem noT {t : Tm} (o : t.ok) (d : t.depth ≤ 12) (h : isT 12 t.D = false) : False := by
  rw [isT_D o] at h
  exact of_decide_eq_false h d
section
variable {f : Addr} {cdv : Value} {A : Around} {outer : List Env} {s : Shared} {H : Hp} {E : XK} {h g : Addr} {b : List Bool} {pool : List Tm} {mo : Int}
/-- the last loop and the end -/
theorem law_end (C : LawC P w K mg base kx) (T : Bt mg) (hr : Room 17 (cxOf (CX P w) P w K mg base n_law "law" (defScope s_law) f cdv A outer s H E).A) (bd : Bd (cxOf (CX P w) P w K mg base n_law "law" (defScope s_law) f cdv A outer s H E) (csOf kx (some (h, g)) E noE))
    (tk : Takes (cxOf (CX P w) P w K mg base n_law "law" (defScope s_law) f cdv A outer s H E) (csOf kx (some (h, g)) E noE).W) (lb : b.length = 8) {x7 x10 x13 : Sl} {td uo : Tm} (od : td.ok) (dd : td.depth ≤ 12) (oo : uo.ok) (do_ : uo.depth = 13) {n : Nat} (hn : n < 6) {x9 : D} :
    DSs (cxOf (CX P w) P w K mg base n_law "law" (defScope s_law) f cdv A outer s H E) (csOf kx (some (h, g)) E noE) ((defBody s_law).drop 16)
      [.un, .hnd, .val (tbD b), .val (.list (poolD b pool)), .val (.int mo), .own (.l wordsD), .own (.l widesD), x7, .val (entD b td), .val x9, x10, .val (.int n), .val (entD b uo), x13] lawE := by
  obtain ⟨ct, cta, cte, cwo, cwi, cma, cho, chk, csa, cas, cde, cpu, cpl, csp, cis⟩ := C
  have hov : isT 12 uo.D = false ∧ flat uo.D = true := ⟨by rw [isT_D oo, do_]; rfl, flat_D uo⟩
  refine dss_cons ?_
  refine ds_loop 13 bd rfl rfl (.inl rfl) (.inr rfl) (di_list bd ?_)
  walk_at "dx"
  refine ⟨od, fun ds bds => ?_⟩
  walk_at "dx"
  refine loopI (fun j Γ => ∃ (n : Nat) (x13 : Sl), n < 6 ∧ Γ = [.un, .hnd, .val (tbD b), .val (.list (poolD b pool)), .val (.int mo), .own (.l wordsD), .own (.l widesD), x7, .val (entD b td), .val x9, x10, .val (.int n), .val (entD b uo), x13])
    ⟨n, x13, hn, rfl⟩ (fun j d Γ1 hd hI => ?_) (fun Γ1 hI => ?_)
  · obtain ⟨n, x13, hn, rfl⟩ := hI
    have hbad : isT 12 d = false ∧ flat d = true := by
      rcases List.mem_cons.mp (List.mem_of_getElem? hd) with e | hm
      · rw [e]; exact hov
      · rcases List.mem_cons.mp hm with e | hm
        · rw [e]; exact ⟨bds.1 12, bds.2⟩
        · cases hm
    have bad : ∀ t : Tm, d = t.D → t.ok → t.depth ≤ 12 → False := fun t e o dp => noT o dp (by rw [← e]; exact hbad.1)
    walk_at "ds"
    refine ⟨b, _, rfl, lb, hbad.2, fun t e o dp => (bad t e o dp).elim, fun _ => ?_⟩
    walk_at "dy"
    refine ⟨⟨by decide +kernel, by decide +kernel, by decide +kernel⟩, ?_⟩
    walk_at "dy"
    walk_at "ds"
    refine w_inL bd rfl rfl (sh_tb _) rfl ?_
    refine ⟨_, rfl, ?_⟩
    have step : ∀ n : Nat, n < 6 → ∀ E1 : Pd, (∀ x13 : Sl, E1.nx [.un, .hnd, .val (tbD b), .val (.list (poolD b pool)), .val (.int mo), .own (.l wordsD), .own (.l widesD), x7, .val (entD b td), .val x9, x10, .val (.int n), .val (entD b uo), x13]) → DSs (cxOf (CX P w) P w K mg base n_law "law" (defScope s_law) f cdv A outer s H E) (csOf kx (some (h, g)) E noE) ((match (defBody s_law).getD 16 (.Pass default) with | .For _ _ bo _ _ => bo | _ => []).drop 2)
        [.un, .hnd, .val (tbD b), .val (.list (poolD b pool)), .val (.int mo), .own (.l wordsD), .own (.l widesD), x7, .val (entD b td), .val x9, x10, .val (.int n), .val (entD b uo), .val d] E1 := fun n hn E1 hE => by
      obtain ⟨w1, w2, w3, w4⟩ := wd_mem n hn
      walk_at "ds"
      refine w_ixL rfl (atI_n w2) ?_
      walk_at "dy"
      refine ⟨b, n, d, rfl, lb, hn, hbad.2, fun _ => ?_, fun t e o dp => (bad t e o dp).elim⟩
      walk_at "dy"
      exact hE _
    refine iteBy (fun h => ?_) fun h => ?_
    · obtain ⟨j, hj, z, f1, f2, f3, _⟩ := first_wide h
      walk_at "ds"
      refine de_index bd ?_
      walk_at "dy"
      refine ⟨_, j, z, rfl, rfl, sh_tb _, f1, f2, f3, ?_⟩
      walk_at "dy"
      exact step j hj _ fun x => ⟨j, x, hj, rfl⟩
    · walk_at "dy"
      exact step n hn _ fun x => ⟨n, x, hn, rfl⟩
  · obtain ⟨n, x13, hn, rfl⟩ := hI
    walk_at "dx"
    exact ⟨lb, _, rfl, rfl⟩
/-- from the last but one put on -/
theorem law_over (C : LawC P w K mg base kx) (T : Bt mg) (hr : Room 17 (cxOf (CX P w) P w K mg base n_law "law" (defScope s_law) f cdv A outer s H E).A) (bd : Bd (cxOf (CX P w) P w K mg base n_law "law" (defScope s_law) f cdv A outer s H E) (csOf kx (some (h, g)) E noE))
    (tk : Takes (cxOf (CX P w) P w K mg base n_law "law" (defScope s_law) f cdv A outer s H E) (csOf kx (some (h, g)) E noE).W) (lb : b.length = 8) {x7 x10 : Sl} {td tp : Tm} (od : td.ok) (dd : td.depth ≤ 12) (op : tp.ok) (dp : tp.depth = 12) {n : Nat} (hn : n < 6) :
    DSs (cxOf (CX P w) P w K mg base n_law "law" (defScope s_law) f cdv A outer s H E) (csOf kx (some (h, g)) E noE) ((defBody s_law).drop 14)
      [.un, .hnd, .val (tbD b), .val (.list (poolD b pool)), .val (.int mo), .own (.l wordsD), .own (.l widesD), x7, .val (entD b td), .val (entD b tp), x10, .val (.int n), .un, .un] lawE := by
  have C' := C
  obtain ⟨ct, cta, cte, cwo, cwi, cma, cho, chk, csa, cas, cde, cpu, cpl, csp, cis⟩ := C
  walk_at "ds"
  refine ⟨b, tp, td, tp, rfl, lb, ?_⟩
  walk_at "dy"
  walk_at "ds"
  have dn := td.depth_nn
  refine iteBy (fun h => ?_) fun h => ?_
  · walk_at "ds"
    refine de_cutHi bd ?_
    walk_at "dy"
    refine ⟨b, rfl, _, rfl, ?_⟩
    walk_at "dy"
    refine w_addL rfl rfl (show 3 ≤ sizeLine by decide) ?_
    walk_at "dy"
    refine ⟨b, tp, .pl 0, .pl 1, rfl, lb, ?_⟩
    walk_at "dy"
    exact law_end C' T hr bd tk lb od dd (uo := .nd tp (.pl 0) (.pl 1)) ⟨op, (by decide : 0 < 3), (by decide : 1 < 3)⟩ (by simp only [Tm.depth]; omega) hn
  · walk_at "dy"
    exact law_end C' T hr bd tk lb od dd (uo := .nd tp td tp) ⟨op, od, op⟩ (by simp only [Tm.depth]; omega) hn
/-- the draws ahead of it -/
theorem law_mid (C : LawC P w K mg base kx) (T : Bt mg) (hr : Room 17 (cxOf (CX P w) P w K mg base n_law "law" (defScope s_law) f cdv A outer s H E).A) (bd : Bd (cxOf (CX P w) P w K mg base n_law "law" (defScope s_law) f cdv A outer s H E) (csOf kx (some (h, g)) E noE))
    (tk : Takes (cxOf (CX P w) P w K mg base n_law "law" (defScope s_law) f cdv A outer s H E) (csOf kx (some (h, g)) E noE).W) (lb : b.length = 8) {x7 : Sl} (hp : PoolOk pool) (lp : pool.length ≤ 63) :
    DSs (cxOf (CX P w) P w K mg base n_law "law" (defScope s_law) f cdv A outer s H E) (csOf kx (some (h, g)) E noE) ((defBody s_law).drop 9)
      [.un, .hnd, .val (tbD b), .val (.list (poolD b pool)), .val (.int mo), .own (.l wordsD), .own (.l widesD), x7, .un, .un, .un, .un, .un, .un] lawE := by
  have C' := C
  obtain ⟨ct, cta, cte, cwo, cwi, cma, cho, chk, csa, cas, cde, cpu, cpl, csp, cis⟩ := C
  have lpD : (poolD b pool).length = pool.length := List.length_map _
  have lpS : (poolD b pool).length ≤ sizeLine := by rw [lpD]; exact Nat.le_trans lp (by decide)
  have hne : pool ≠ [] := fun e => by rw [e] at hp; have := hp.1; simp at this
  have lpos : 0 < pool.length := List.length_pos_iff.mpr hne
  walk_at "ds"
  refine ⟨by rw [lpD]; omega, by rw [lpD]; omega, fun i i0 i1 => ?_⟩
  rw [lpD] at i1
  obtain ⟨td, htd, hi⟩ := pool_at (b := b) i0 i1
  obtain ⟨od, dd⟩ := hp.2 td htd
  refine w_ixL rfl hi ?_
  walk_at "dy"
  walk_at "ds"
  refine de_comp1S 10 bd rfl rfl rfl rfl (di_list bd ?_)
  walk_at "dy"
  refine comp1SF (fun d => match d with | .tuple [_, _, .int s, _] => decide (s ≤ 150) | _ => false) (fun d => d) lpS (fun d hd s H C cl fp bd => ?_) ?_
  · obtain ⟨t, _, rfl⟩ := List.mem_map.mp hd
    refine ⟨?_, fun _ => ?_⟩
    · walk_at "dx"
      rfl
    · walk_at "dx"
      rfl
  have ef : ((poolD b pool).filter (fun d => match d with | .tuple [_, _, .int s, _] => decide (s ≤ 150) | _ => false)).map (fun d => d) = poolD b (pool.filter fun t => decide (t.size ≤ 150)) := by
    rw [List.map_id']
    show (pool.map (entD b)).filter _ = _
    rw [List.filter_map]
    rfl
  rw [ef]
  have hne2 : pool.filter (fun t => decide (t.size ≤ 150)) ≠ [] := fun e => by
    have z : Tm.pl 0 ∈ pool.filter (fun t => decide (t.size ≤ 150)) := List.mem_filter.mpr ⟨hp.1, by decide⟩
    rw [e] at z
    simp at z
  obtain ⟨t0, ht0, hl0⟩ := last_of (b := b) hne2
  obtain ⟨o0, d0⟩ := hp.2 t0 (List.mem_filter.mp ht0).1
  walk_at "dy"
  refine w_ixL rfl hl0 ?_
  walk_at "dy"
  refine ⟨b, t0, rfl, lb, o0, d0, fun tp op dp' => ?_⟩
  walk_at "dy"
  obtain ⟨tl, htl, hl⟩ := last_of (b := b) hne
  obtain ⟨ol, dl⟩ := hp.2 tl htl
  refine dss_cons ?_
  refine ds_loop 10 bd rfl rfl (.inl rfl) (.inr rfl) (di_list bd ?_)
  walk_at "dx"
  refine w_ixL rfl hl ?_
  walk_at "dx"
  refine loopI (fun j Γ => ∃ x10 : Sl, Γ = [.un, .hnd, .val (tbD b), .val (.list (poolD b pool)), .val (.int mo), .own (.l wordsD), .own (.l widesD), x7, .val (entD b td), .val (entD b tp), x10, .un, .un, .un])
    ⟨.un, rfl⟩ (fun j d Γ1 hd hI => ?_) (fun Γ1 hI => ?_)
  · obtain ⟨x10, rfl⟩ := hI
    obtain ⟨t, rfl, ot, dt⟩ : ∃ t : Tm, d = entD b t ∧ t.ok ∧ t.depth ≤ 12 := by
      have hm := List.mem_of_getElem? hd
      simp only [List.mem_cons, List.not_mem_nil, or_false] at hm
      rcases hm with rfl | rfl | rfl
      · exact ⟨_, rfl, ol, dl⟩
      · exact ⟨_, rfl, op, by omega⟩
      · exact ⟨_, rfl, od, dd⟩
    walk_at "ds"
    refine ⟨b, _, rfl, lb, flat_D t, fun u hu ou du => ?_, fun h => (noT ot dt h).elim⟩
    have eu := Tm.inj hu
    subst eu
    walk_at "dy"
    refine ⟨sm_told (tell_len b t), ?_⟩
    walk_at "dy"
    exact ⟨_, rfl⟩
  · obtain ⟨x10, rfl⟩ := hI
    walk_at "ds"
    refine ⟨by decide, by decide, fun i i0 i1 => ?_⟩
    obtain ⟨n, rfl⟩ := Int.eq_ofNat_of_zero_le i0
    have hn : n < 6 := by omega
    obtain ⟨w1, w2, w3, w4⟩ := wd_mem n hn
    walk_at "dy"
    walk_at "ds"
    refine de_callK chk (Room.mono hr (by decide)) bd tk ?_
    refine dk_cons ?_
    walk_at "dv"
    refine dk_cons ?_
    walk_at "dy"
    refine w_ixL rfl (atI_n w2) ?_
    walk_at "dy"
    refine dk_nil ?_
    refine ⟨_, rfl, rfl, b, n, td.D, rfl, lb, hn, flat_D td, fun h => (noT od dd h).elim, fun t e o dp => ?_⟩
    have eu := Tm.inj e
    subst eu
    walk_at "dy"
    refine w_ixL rfl (atI_n w4) ?_
    refine w_eqD bd rfl rfl (sh_tb _) (sh_tb _) ?_
    rw [eqv_tb]
    walk_at "dy"
    refine ⟨sm_bool _, ?_⟩
    walk_at "dy"
    exact law_over C' T hr bd tk lb od dd op dp' hn
/-- the one made wide -/
theorem law_w (C : LawC P w K mg base kx) (T : Bt mg) (hr : Room 17 (cxOf (CX P w) P w K mg base n_law "law" (defScope s_law) f cdv A outer s H E).A) (bd : Bd (cxOf (CX P w) P w K mg base n_law "law" (defScope s_law) f cdv A outer s H E) (csOf kx (some (h, g)) E noE))
    (tk : Takes (cxOf (CX P w) P w K mg base n_law "law" (defScope s_law) f cdv A outer s H E) (csOf kx (some (h, g)) E noE).W) (lb : b.length = 8) (hp : PoolOk pool) (lp : pool.length ≤ 63) :
    DSs (cxOf (CX P w) P w K mg base n_law "law" (defScope s_law) f cdv A outer s H E) (csOf kx (some (h, g)) E noE) ((defBody s_law).drop 7)
      [.un, .hnd, .val (tbD b), .val (.list (poolD b pool)), .val (.int mo), .own (.l wordsD), .own (.l widesD), .un, .un, .un, .un, .un, .un, .un] lawE := by
  have C' := C
  obtain ⟨ct, cta, cte, cwo, cwi, cma, cho, chk, csa, cas, cde, cpu, cpl, csp, cis⟩ := C
  walk_at "ds"
  refine ⟨b, pool, mo, rfl, lb, hp, lp, ?_, fun t ot dt hw => ?_⟩
  · walk_at "dy"
    walk_at "ds"
    exact law_mid C' T hr bd tk lb hp lp
  · obtain ⟨i, hi, et⟩ := hw
    obtain ⟨j, hj, z, f1, f2, f3, ej⟩ := first_wide (any_wide hi et)
    walk_at "dy"
    walk_at "ds"
    walk_at "ds"
    refine de_index bd ?_
    walk_at "dy"
    refine ⟨_, j, z, rfl, rfl, sh_tb _, f1, f2, f3, ?_⟩
    refine w_ixL rfl (atI_n (wd_mem j hj).2.1) ?_
    walk_at "dy"
    refine ⟨b, j, t.D, rfl, lb, hj, flat_D t, fun h => (noT ot dt h).elim, fun u e o dp => ?_⟩
    have eu := Tm.inj e
    subst eu
    rw [decide_eq_true ej]
    walk_at "dy"
    walk_at "ds"
    refine iteBy (fun h => ?_) fun h => ?_
    · walk_at "dy"
      refine ⟨b, _, rfl, lb, flat_D t, fun u hu ou du => ?_, fun h => (noT ot dt h).elim⟩
      have eu := Tm.inj hu
      subst eu
      walk_at "dy"
      refine ⟨sm_told (tell_len b t), ?_⟩
      walk_at "dy"
      exact law_mid C' T hr bd tk lb hp lp
    · walk_at "dy"
      exact law_mid C' T hr bd tk lb hp lp
/-- the law, behind its hand -/
theorem law_main (C : LawC P w K mg base kx) (T : Bt mg) (hr : Room 17 (cxOf (CX P w) P w K mg base n_law "law" (defScope s_law) f cdv A outer s H E).A) (bd : Bd (cxOf (CX P w) P w K mg base n_law "law" (defScope s_law) f cdv A outer s H E) (csOf kx (some (h, g)) E noE))
    (tk : Takes (cxOf (CX P w) P w K mg base n_law "law" (defScope s_law) f cdv A outer s H E) (csOf kx (some (h, g)) E noE).W) :
    DSs (cxOf (CX P w) P w K mg base n_law "law" (defScope s_law) f cdv A outer s H E) (csOf kx (some (h, g)) E noE) ((defBody s_law).drop 1) ((List.replicate n_law.length Sl.un).set 1 .hnd) lawE := by
  have C' := C
  obtain ⟨ct, cta, cte, cwo, cwi, cma, cho, chk, csa, cas, cde, cpu, cpl, csp, cis⟩ := C
  walk_at "ds"
  refine fun b lb => ?_
  walk_at "dy"
  walk_at "ds"
  refine ⟨lb, fun pool hp lp => ?_⟩
  walk_at "dy"
  refine dss_freeze 3 rfl ?_
  walk_at "ds"
  walk_at "ds"
  refine ⟨by decide, by decide, fun i i0 i1 => ?_⟩
  walk_at "dy"
  refine iteBy (fun h => ?_) fun h => ?_
  · walk_at "ds"
    walk_at "ds"
    walk_at "ds"
    exact law_w C' T hr bd tk lb hp lp
  · walk_at "dy"
    walk_at "ds"
    walk_at "ds"
    exact law_w C' T hr bd tk lb hp lp
end
end

section
theorem facts {w : World} {mg : Str → Option Value} {fa : Addr} {h : Heap} {K : PySem.W.Frag} (X : K.In h) (G : h.Ns mainGlobals mg) (hm : mg ("law" : Str) = some (.ref fa)) (c : SaysX hfa hfn hts hfx w K) (cx : L2.xfB K (He.ga K "Undefined") = true) :
    ∃ (fd : FuncData) (cl : Addr → Option Str), (∀ (s : Shared) (u : Value), BindsTo s fd ⟨[u], []⟩ [("script", u)]) ∧ ∀ base : Heap, K.In base → base.Ns mainGlobals mg → FnG (PySem.Challenge.rw_eightcells_k61_wide_terms).prog w K mg base 18 fa fd ["script"] (spLaw ⟨K, cl⟩) := by
  have D_is_bit : Df K mg "is_bit" s_is_bit p_is_bit := by
    obtain ⟨fd, F⟩ := c.t.d.def_ 2 (d := d_is_bit) rfl
    exact ⟨_, fd, fun_of F, He.glo_ok X G (c.t.d.fact 0 (f := .glo "is_bit") rfl), FunD.bindsN F fun _ _ _ _ _ _ us hl => match us, hl with | [_], _ => rfl⟩
  have D_is_table : Df K mg "is_table" s_is_table p_is_table := by
    obtain ⟨fd, F⟩ := c.t.d.def_ 3 (d := d_is_table) rfl
    exact ⟨_, fd, fun_of F, He.glo_ok X G (c.t.d.fact 1 (f := .glo "is_table") rfl), FunD.bindsN F fun _ _ _ _ _ _ us hl => match us, hl with | [_, _], _ => rfl⟩
  have D_table_of : Df K mg "table_of" s_table_of p_table_of := by
    obtain ⟨fd, F⟩ := c.t.d.def_ 4 (d := d_table_of) rfl
    exact ⟨_, fd, fun_of F, He.glo_ok X G (c.t.d.fact 2 (f := .glo "table_of") rfl), FunD.bindsN F fun _ _ _ _ _ _ us hl => match us, hl with | [_], _ => rfl⟩
  have D_widened : Df K mg "widened" s_widened p_widened := by
    obtain ⟨fd, F⟩ := c.t.d.def_ 5 (d := d_widened) rfl
    exact ⟨_, fd, fun_of F, He.glo_ok X G (c.t.d.fact 3 (f := .glo "widened") rfl), FunD.bindsN F fun _ _ _ _ _ _ us hl => match us, hl with | [_], _ => rfl⟩
  have D_is_term : Df K mg "_is_term" s_is_term p_is_term := by
    obtain ⟨fd, F⟩ := c.t.d.def_ 6 (d := d_is_term) rfl
    exact ⟨_, fd, fun_of F, He.glo_ok X G (c.t.d.fact 4 (f := .glo "_is_term") rfl), FunD.bindsN F fun _ _ _ _ _ _ us hl => match us, hl with | [_, _], _ => rfl⟩
  have D_put_in : Df K mg "put_in" s_put_in p_put_in := by
    obtain ⟨fd, F⟩ := c.t.d.def_ 7 (d := d_put_in) rfl
    exact ⟨_, fd, fun_of F, He.glo_ok X G (c.t.d.fact 5 (f := .glo "put_in") rfl), FunD.bindsN F fun _ _ _ _ _ _ us hl => match us, hl with | [_, _], _ => rfl⟩
  have D_told : Df K mg "_told" s_told p_told := by
    obtain ⟨fd, F⟩ := c.t.d.def_ 8 (d := d_told) rfl
    exact ⟨_, fd, fun_of F, He.glo_ok X G (c.t.d.fact 6 (f := .glo "_told") rfl), FunD.bindsN F fun _ _ _ _ _ _ us hl => match us, hl with | [_, _], _ => rfl⟩
  have D_term_table : Df K mg "term_table" s_term_table p_term_table := by
    obtain ⟨fd, F⟩ := c.t.d.def_ 9 (d := d_term_table) rfl
    exact ⟨_, fd, fun_of F, He.glo_ok X G (c.t.d.fact 7 (f := .glo "term_table") rfl), FunD.bindsN F fun _ _ _ _ _ _ us hl => match us, hl with | [_, _], _ => rfl⟩
  have D_turned : Df K mg "turned" s_turned p_turned := by
    obtain ⟨fd, F⟩ := c.t.d.def_ 10 (d := d_turned) rfl
    exact ⟨_, fd, fun_of F, He.glo_ok X G (c.t.d.fact 8 (f := .glo "turned") rfl), FunD.bindsN F fun _ _ _ _ _ _ us hl => match us, hl with | [_], _ => rfl⟩
  have D_is_plain : Df K mg "is_plain" s_is_plain p_is_plain := by
    obtain ⟨fd, F⟩ := c.t.d.def_ 11 (d := d_is_plain) rfl
    exact ⟨_, fd, fun_of F, He.glo_ok X G (c.t.d.fact 9 (f := .glo "is_plain") rfl), FunD.bindsN F fun _ _ _ _ _ _ us hl => match us, hl with | [_], _ => rfl⟩
  have D_applied : Df K mg "_applied" s_applied p_applied := by
    obtain ⟨fd, F⟩ := c.t.d.def_ 12 (d := d_applied) rfl
    exact ⟨_, fd, fun_of F, He.glo_ok X G (c.t.d.fact 10 (f := .glo "_applied") rfl), FunD.bindsN F fun _ _ _ _ _ _ us hl => match us, hl with | [_, _], _ => rfl⟩
  have D_readings : Df K mg "_readings" s_readings p_readings := by
    obtain ⟨fd, F⟩ := c.t.d.def_ 13 (d := d_readings) rfl
    exact ⟨_, fd, fun_of F, He.glo_ok X G (c.t.d.fact 11 (f := .glo "_readings") rfl), FunD.bindsN F fun _ _ _ _ _ _ us hl => match us, hl with | [_], _ => rfl⟩
  have D_term_of : Df K mg "term_of" s_term_of p_term_of := by
    obtain ⟨fd, F⟩ := c.t.d.def_ 14 (d := d_term_of) rfl
    exact ⟨_, fd, fun_of F, He.glo_ok X G (c.t.d.fact 12 (f := .glo "term_of") rfl), FunD.bindsN F fun _ _ _ _ _ _ us hl => match us, hl with | [_], _ => rfl⟩
  have D_term_holds : Df K mg "term_holds" s_term_holds p_term_holds := by
    obtain ⟨fd, F⟩ := c.t.d.def_ 15 (d := d_term_holds) rfl
    exact ⟨_, fd, fun_of F, He.glo_ok X G (c.t.d.fact 13 (f := .glo "term_holds") rfl), FunD.bindsN F fun _ _ _ _ _ _ us hl => match us, hl with | [_, _], _ => rfl⟩
  have D_law_hand : Df K mg "_law_hand" s_law_hand p_law_hand := by
    obtain ⟨fd, F⟩ := c.t.d.def_ 16 (d := d_law_hand) rfl
    exact ⟨_, fd, fun_of F, He.glo_ok X G (c.t.d.fact 14 (f := .glo "_law_hand") rfl), FunD.bindsN F fun _ _ _ _ _ _ us hl => match us, hl with | [_], _ => rfl⟩
  have D_law_take : Df K mg "_law_take" s_law_take p_law_take := by
    obtain ⟨fd, F⟩ := c.t.d.def_ 17 (d := d_law_take) rfl
    exact ⟨_, fd, fun_of F, He.glo_ok X G (c.t.d.fact 15 (f := .glo "_law_take") rfl), FunD.bindsN F fun _ _ _ _ _ _ us hl => match us, hl with | [_, _], _ => rfl⟩
  have D_law_table : Df K mg "_law_table" s_law_table p_law_table := by
    obtain ⟨fd, F⟩ := c.t.d.def_ 18 (d := d_law_table) rfl
    exact ⟨_, fd, fun_of F, He.glo_ok X G (c.t.d.fact 16 (f := .glo "_law_table") rfl), FunD.bindsN F fun _ _ _ _ _ _ us hl => match us, hl with | [_], _ => rfl⟩
  have D_law_places : Df K mg "_law_places" s_law_places p_law_places := by
    obtain ⟨fd, F⟩ := c.t.d.def_ 19 (d := d_law_places) rfl
    exact ⟨_, fd, fun_of F, He.glo_ok X G (c.t.d.fact 17 (f := .glo "_law_places") rfl), FunD.bindsN F fun _ _ _ _ _ _ us hl => match us, hl with | [], _ => rfl⟩
  have D_law_put : Df K mg "_law_put" s_law_put p_law_put := by
    obtain ⟨fd, F⟩ := c.t.d.def_ 20 (d := d_law_put) rfl
    exact ⟨_, fd, fun_of F, He.glo_ok X G (c.t.d.fact 18 (f := .glo "_law_put") rfl), FunD.bindsN F fun _ _ _ _ _ _ us hl => match us, hl with | [_, _], _ => rfl⟩
  have D_law_terms : Df K mg "_law_terms" s_law_terms p_law_terms := by
    obtain ⟨fd, F⟩ := c.t.d.def_ 21 (d := d_law_terms) rfl
    exact ⟨_, fd, fun_of F, He.glo_ok X G (c.t.d.fact 19 (f := .glo "_law_terms") rfl), FunD.bindsN F fun _ _ _ _ _ _ us hl => match us, hl with | [_, _], _ => rfl⟩
  have D_law_wides : Df K mg "_law_wides" s_law_wides p_law_wides := by
    obtain ⟨fd, F⟩ := c.t.d.def_ 22 (d := d_law_wides) rfl
    exact ⟨_, fd, fun_of F, He.glo_ok X G (c.t.d.fact 20 (f := .glo "_law_wides") rfl), FunD.bindsN F fun _ _ _ _ _ _ us hl => match us, hl with | [], _ => rfl⟩
  have D_law_words : Df K mg "_law_words" s_law_words p_law_words := by
    obtain ⟨fd, F⟩ := c.t.d.def_ 23 (d := d_law_words) rfl
    exact ⟨_, fd, fun_of F, He.glo_ok X G (c.t.d.fact 21 (f := .glo "_law_words") rfl), FunD.bindsN F fun _ _ _ _ _ _ us hl => match us, hl with | [], _ => rfl⟩
  have D_law_made_wide : Df K mg "_law_made_wide" s_law_made_wide p_law_made_wide := by
    obtain ⟨fd, F⟩ := c.t.d.def_ 24 (d := d_law_made_wide) rfl
    exact ⟨_, fd, fun_of F, He.glo_ok X G (c.t.d.fact 22 (f := .glo "_law_made_wide") rfl), FunD.bindsN F fun _ _ _ _ _ _ us hl => match us, hl with | [_, _, _, _], _ => rfl⟩
  have D_law_made_deep : Df K mg "_law_made_deep" s_law_made_deep p_law_made_deep := by
    obtain ⟨fd, F⟩ := c.t.d.def_ 25 (d := d_law_made_deep) rfl
    exact ⟨_, fd, fun_of F, He.glo_ok X G (c.t.d.fact 23 (f := .glo "_law_made_deep") rfl), FunD.bindsN F fun _ _ _ _ _ _ us hl => match us, hl with | [_, _, _], _ => rfl⟩
  have D_law_spoilt : Df K mg "_law_spoilt" s_law_spoilt p_law_spoilt := by
    obtain ⟨fd, F⟩ := c.t.d.def_ 26 (d := d_law_spoilt) rfl
    exact ⟨_, fd, fun_of F, He.glo_ok X G (c.t.d.fact 24 (f := .glo "_law_spoilt") rfl), FunD.bindsN F fun _ _ _ _ _ _ us hl => match us, hl with | [_, _], _ => rfl⟩
  have D_law_same : Df K mg "_law_same" s_law_same p_law_same := by
    obtain ⟨fd, F⟩ := c.t.d.def_ 27 (d := d_law_same) rfl
    exact ⟨_, fd, fun_of F, He.glo_ok X G (c.t.d.fact 25 (f := .glo "_law_same") rfl), FunD.bindsN F fun _ _ _ _ _ _ us hl => match us, hl with | [_, _], _ => rfl⟩
  have D_law_asked : Df K mg "_law_asked" s_law_asked p_law_asked := by
    obtain ⟨fd, F⟩ := c.t.d.def_ 28 (d := d_law_asked) rfl
    exact ⟨_, fd, fun_of F, He.glo_ok X G (c.t.d.fact 26 (f := .glo "_law_asked") rfl), FunD.bindsN F fun _ _ _ _ _ _ us hl => match us, hl with | [_, _], _ => rfl⟩
  have D_law_is_of : Df K mg "_law_is_of" s_law_is_of p_law_is_of := by
    obtain ⟨fd, F⟩ := c.t.d.def_ 29 (d := d_law_is_of) rfl
    exact ⟨_, fd, fun_of F, He.glo_ok X G (c.t.d.fact 27 (f := .glo "_law_is_of") rfl), FunD.bindsN F fun _ _ _ _ _ _ us hl => match us, hl with | [_], _ => rfl⟩
  have T : Bt mg := ⟨He.free_ok X G (c.t.d.fact 29 (f := .free "isinstance") rfl), He.free_ok X G (c.t.d.fact 30 (f := .free "bool") rfl), He.free_ok X G (c.t.d.fact 31 (f := .free "int") rfl), He.free_ok X G (c.t.d.fact 32 (f := .free "str") rfl), He.free_ok X G (c.t.d.fact 33 (f := .free "tuple") rfl), He.free_ok X G (c.t.d.fact 34 (f := .free "list") rfl), He.free_ok X G (c.t.d.fact 35 (f := .free "len") rfl), He.free_ok X G (c.t.d.fact 36 (f := .free "range") rfl), He.free_ok X G (c.t.d.fact 37 (f := .free "zip") rfl), He.free_ok X G (c.t.d.fact 38 (f := .free "max") rfl), He.free_ok X G (c.t.d.fact 39 (f := .free "abs") rfl), He.free_ok X G (c.t.d.fact 40 (f := .free "sum") rfl), He.free_ok X G (c.t.d.fact 41 (f := .free "repr") rfl), He.free_ok X G (c.t.d.fact 42 (f := .free "reversed") rfl)⟩
  obtain ⟨fL, FL⟩ := c.t.d.def_ 30 (d := d_law) rfl
  have el := hm.symm.trans (He.glo_ok X G (c.t.d.fact 28 (f := .glo "law") rfl))
  cases el
  let kx : Kx := ⟨K, clOf K hcl⟩
  have hK : kx.K = K := rfl
  have k1 : Dl.Con kx mg "SIZES" k_SIZES := con_ok X G (c.ex 0 (f := .con "SIZES" k_SIZES) rfl)
  have k2 : DictC kx w mg "TABLES" t_TABLES := tab_ok X G (c.ex 1 (f := .tab "TABLES" t_TABLES) rfl) (c.t.tab 0)
  have k3 : Dl.Con kx mg "PLACES" k_PLACES := con_ok X G (c.ex 2 (f := .con "PLACES" k_PLACES) rfl)
  have k4 : Dl.Con kx mg "DEEPEST" k_DEEPEST := con_ok X G (c.ex 3 (f := .con "DEEPEST" k_DEEPEST) rfl)
  have cu := c.ex 5 (f := .exc "Undefined" "what") rfl
  have cc := c.ex 6 (f := .cls hcl) rfl
  have ce := c.ex 8 (f := .exm hcl "Undefined" ["Undefined"]) rfl
  have clU : clOf K hcl (He.ga K "Undefined") = some "Undefined" := cls_at cc (by decide)
  have M : ExM K mg kx.cl "Undefined" ["Undefined"] := ⟨_, PySem.W.mg_of X G (He.eqO_ok (He.ba (show (_ && _) = true from cu)).1), exm_at ce⟩
  have Fx : XfM K kx.cl "Undefined" "what" := ⟨fun C hC => by
    obtain ⟨_, e⟩ := cl_back hC
    subst e
    have z := (He.ba (He.ba (He.ba (He.ba (He.ba (He.ba (He.ba (He.ba (show (_ && _) = true from cu)).2).2).2).2).2).2).2).2
    exact ⟨L2.xfB_ok cx, He.eqO_ok z⟩⟩
  obtain ⟨fdU, FU⟩ := c.t.d.def_ 1 (d := d_Undefined_init) rfl
  have bU : Binds K fdU p_Undefined_init [] := FunD.bindsN FU fun _ _ _ _ _ _ us hl => match us, hl with | [_, _], _ => rfl
  refine ⟨fL, kx.cl, fun s v => FunD.bindsA (ps := ["script"]) FL (fun _ _ _ _ _ _ us hl => match us, hl with | [_], _ => rfl) s [v] rfl, fun base _ _ => ?_⟩
  have x1 : Xc (PySem.Challenge.rw_eightcells_k61_wide_terms).prog w K mg base kx "Undefined" "what" := ⟨_, _, _, _, exc_at (k := kx) (st := s_Undefined_init) (sn := "self") (pn := "what") X G cu clU FU c_Undefined_init rfl bU (.inl rfl) (.inl rfl) (fun _ => rfl) (by decide) (by decide) (by decide) (by decide)⟩
  have kwT : KwC K mg "term_table" s_term_table p_term_table ["table", "term"] g2 := by
    obtain ⟨fd, F⟩ := c.t.d.def_ 9 (d := d_term_table) rfl
    have F' : Fun K "term_table" "term_table" s_term_table _ fd := fun_of F
    exact ⟨_, fd, fun_of F, He.glo_ok X G (c.t.d.fact 7 (f := .glo "term_table") rfl), FunD.bindsN F fun _ _ _ _ _ _ us hl => match us, hl with | [_, _], _ => rfl, kw_of (g := g2) F' (fun _ _ _ _ _ _ us hl => match us, hl with | [_, _], _ => rfl) fun _ _ _ h => h⟩
  have kwH : KwC K mg "term_holds" s_term_holds p_term_holds ["table", "claim"] g2 := by
    obtain ⟨fd, F⟩ := c.t.d.def_ 15 (d := d_term_holds) rfl
    have F' : Fun K "term_holds" "term_holds" s_term_holds _ fd := fun_of F
    exact ⟨_, fd, fun_of F, He.glo_ok X G (c.t.d.fact 13 (f := .glo "term_holds") rfl), FunD.bindsN F fun _ _ _ _ _ _ us hl => match us, hl with | [_, _], _ => rfl, kw_of (g := g2) F' (fun _ _ _ _ _ _ us hl => match us, hl with | [_, _], _ => rfl) fun _ _ _ h => h⟩
  have a1 := cal_is_bit (P := (PySem.Challenge.rw_eightcells_k61_wide_terms).prog) (w := w) (base := base) (kx := kx) D_is_bit hK T
  have a2 := cal_is_table D_is_table hK T k1 a1
  have a3 := cal_table_of (P := (PySem.Challenge.rw_eightcells_k61_wide_terms).prog) (base := base) D_table_of hK T k2
  have a4 := cal_widened (P := (PySem.Challenge.rw_eightcells_k61_wide_terms).prog) (w := w) (base := base) D_widened hK T
  have a5 := cal_is_term (P := (PySem.Challenge.rw_eightcells_k61_wide_terms).prog) (w := w) (base := base) D_is_term hK T 12
  have a6 := cal_put_in (P := (PySem.Challenge.rw_eightcells_k61_wide_terms).prog) (w := w) (base := base) D_put_in hK T
  have a7 := cal_told D_told hK T k3 a6 12
  have a8 := cal_term_table kwT hK T k4 a2 a5 a7 x1
  have a9 := cal_turned (P := (PySem.Challenge.rw_eightcells_k61_wide_terms).prog) (w := w) (base := base) D_turned hK T
  have a10 := cal_is_plain D_is_plain hK T k3 a9
  have a11 := cal_applied (P := (PySem.Challenge.rw_eightcells_k61_wide_terms).prog) (w := w) (base := base) D_applied hK T
  have a12 := cal_readings (P := (PySem.Challenge.rw_eightcells_k61_wide_terms).prog) (w := w) (base := base) D_readings hK T
  have a13 := cal_term_of D_term_of hK T a2 a10 a6 a12 a11 x1
  have a14 := cal_term_holds kwH hK T k4 k2 a3 a4 a5 a7
  have b1 := cal_take (P := (PySem.Challenge.rw_eightcells_k61_wide_terms).prog) (w := w) (base := base) (kx := kx) D_law_take hK T
  have b2 := cal_law_table D_law_table hK T b1
  have b3 := cal_places (P := (PySem.Challenge.rw_eightcells_k61_wide_terms).prog) (w := w) (base := base) (kx := kx) D_law_places hK T
  have b4 := cal_put (P := (PySem.Challenge.rw_eightcells_k61_wide_terms).prog) (w := w) (base := base) (kx := kx) D_law_put hK T
  have b5 := cal_terms D_law_terms hK T b1 b3 b4
  have b6 := cal_wides (P := (PySem.Challenge.rw_eightcells_k61_wide_terms).prog) (w := w) (base := base) (kx := kx) D_law_wides hK T
  have b7 := cal_words (P := (PySem.Challenge.rw_eightcells_k61_wide_terms).prog) (w := w) (base := base) (kx := kx) D_law_words hK T
  have b8 := cal_made D_law_made_wide hK T b1 b6 b4
  have b9 := cal_deep D_law_made_deep hK T b1 b3 b4
  have b10 := cal_spoilt D_law_spoilt hK T b1
  have b11 := cal_same (P := (PySem.Challenge.rw_eightcells_k61_wide_terms).prog) (w := w) (base := base) (kx := kx) D_law_same hK T
  have b12 := calW_same (P := (PySem.Challenge.rw_eightcells_k61_wide_terms).prog) (w := w) (base := base) (kx := kx) D_law_same hK T
  have b13 := cal_asked D_law_asked hK T a8.2 M Fx
  have b14 := cal_is_of D_law_is_of hK T b3 b11 b12 a10 a13 b7 a14.1 b6 a4 a3 b13 M Fx
  have C : LawC (PySem.Challenge.rw_eightcells_k61_wide_terms).prog w K mg base kx := ⟨b1, b2, b5, b7, b6, b8, a14.1, a14.2, b11, b13, b9, b4, b3, b10, b14⟩
  obtain ⟨fh, fdh, Fh, mh, bh⟩ := D_law_hand.ex
  exact fnG_law (fun_of FL) c_law hK rfl (i := 1) rfl (by decide) rfl ((fn_hand Fh hK T).mono (by decide)) mh Fh.kp bh (.inl rfl) rfl (.inl rfl) (fun _ => rfl) (fun _ _ _ _ _ _ => rfl) (by decide) (by decide) (by decide) (fun _ => rfl) (fun _ => rfl) fun cdv A outer s H E h g hr bd tk => law_main C T hr bd tk
end
end K61
section
open PySem PySem.W PyProof.Rows L2 PySem.Spec
set_option maxRecDepth 100000 in
set_option maxHeartbeats 0 in
theorem PySem.Challenge.cw_eightcells_k61_wide_terms_holds : PySem.Challenge.rw_eightcells_k61_wide_terms.Holds := by
  w_on; o_law; k_head; (case hw => w_witness2)
  k_fill
  refine Dl.walk_ofGK (l := PySem.Challenge.rw_eightcells_k61_wide_terms) (k := 18) (x := "script") rfl rfl ⟨rfl, by decide, by decide⟩ (fun w h Y => PySem.W.kIn_of Y) ?F
  case F =>
    intro w mg fa h KX G hmg
    exact K61.facts KX G hmg (by unfold Dl.SaysX; kernel_rfl) (by kernel_rfl)
end
