import PyProof.Rows.All
import Wide.All
import OpenK.AllK
import Wide.FinOn
import HandS.ForMost
import HandS.ForExc
import KE.SortData
import HandS.IsInst
import HandS.Flow
import HandS.DeepEq
import HandS.Deep
import HandS.CallSlots
import HandS.TupAny
import HandS.Style
import PySem.Challenge.RW_stridekinds_k05_arrows_and_bars
set_option Elab.async false
set_option linter.all false
set_option maxRecDepth 100000
set_option maxHeartbeats 4000000
namespace Ev
open PySem PySem.Spec PyProof.Rows L2
/-! ### data -/
inductive D where
  | non | bl (b : Bool) | int (i : Int) | str (x : Str)
  | tup (xs : List D) | lst (xs : List D) | mls (xs : List D) | rol (xs : List D)
mutual
/-- no owned list within -/
def D.noM : D → Bool
  | .mls _ => false
  | .tup xs => D.noMs xs
  | .lst xs => D.noMs xs
  | .rol xs => D.noMs xs
  | .non => true
  | .bl _ => true
  | .int _ => true
  | .str _ => true
def D.noMs : List D → Bool
  | [] => true
  | x :: xs => D.noM x && D.noMs xs
end
mutual
/-- no list within -/
def D.noL : D → Bool
  | .mls _ => false
  | .lst _ => false
  | .rol _ => false
  | .tup xs => D.noLs xs
  | .non => true
  | .bl _ => true
  | .int _ => true
  | .str _ => true
def D.noLs : List D → Bool
  | [] => true
  | x :: xs => D.noL x && D.noLs xs
end
mutual
/-- all owned lists given up -/
def D.fz : D → D
  | .mls xs => .lst (D.fzs xs)
  | .tup xs => .tup (D.fzs xs)
  | .lst xs => .lst (D.fzs xs)
  | .rol xs => .rol (D.fzs xs)
  | .non => .non
  | .bl b => .bl b
  | .int i => .int i
  | .str x => .str x
def D.fzs : List D → List D
  | [] => []
  | x :: xs => D.fz x :: D.fzs xs
end
mutual
def D.toP : D → PyData
  | .mls xs => .list (D.toPs xs)
  | .tup xs => .tuple (D.toPs xs)
  | .lst xs => .list (D.toPs xs)
  | .rol xs => .list (D.toPs xs)
  | .non => .none
  | .bl b => .bool b
  | .int i => .int i
  | .str x => .str x
def D.toPs : List D → List PyData
  | [] => []
  | x :: xs => D.toP x :: D.toPs xs
end
/-! ### what stands for what -/
mutual
/-- a value that is shared: no owned list is within reach -/
inductive RpV (K : PySem.W.Frag) (H : Hp) : V → D → Prop
  | non : RpV K H .non .non
  | bl (b : Bool) : RpV K H (.bl b) (.bl b)
  | int (i : Int) : RpV K H (.int i) (.int i)
  | str (x : Str) : RpV K H (.str x) (.str x)
  | tup {a : Addr} {vs : List V} {ds : List D} : SqT K H a vs → RpVs K H vs ds → RpV K H (.ref a) (.tup ds)
  | lst {a : Addr} {vs : List V} {ds : List D} : H a = some (.lst vs) → RpVs K H vs ds → RpV K H (.ref a) (.lst ds)
  | rol {a : Addr} {vs : List V} {ds : List D} : SqL K H a vs → RpVs K H vs ds → RpV K H (.ref a) (.rol ds)
inductive RpVs (K : PySem.W.Frag) (H : Hp) : List V → List D → Prop
  | nil : RpVs K H [] []
  | cons {v : V} {d : D} {vs : List V} {ds : List D} : RpV K H v d → RpVs K H vs ds → RpVs K H (v :: vs) (d :: ds)
end
/-- the heap without what is hidden -/
def hid (Z : Addr → Bool) (H : Hp) : Hp := fun a => if Z a then none else H a
theorem hid_some {Z : Addr → Bool} {H : Hp} {a : Addr} {o : HO} : hid Z H a = some o ↔ Z a = false ∧ H a = some o := by
  unfold hid
  cases h : Z a <;> simp
/-- H' knows all that H knows -/
def Sub (H H' : Hp) : Prop := ∀ a o, H a = some o → H' a = some o
theorem Sub.refl (H : Hp) : Sub H H := fun _ _ h => h
theorem Sub.trans {H H1 H2 : Hp} (a : Sub H H1) (b : Sub H1 H2) : Sub H H2 := fun x o h => b x o (a x o h)
theorem hid_sub {Z : Addr → Bool} {H : Hp} : Sub (hid Z H) H := fun _ _ h => (hid_some.mp h).2
section
variable {K : PySem.W.Frag} {H H' : Hp}
theorem Sub.rd (e : Sub H H') {a : Addr} {u : HO} (h : Rd H a u) : Rd H' a u := by
  rcases h with h | ⟨o, h⟩
  · exact .inl (e _ _ h)
  · exact .inr ⟨o, e _ _ h⟩
theorem Sub.l (e : Sub H H') {a : Addr} {xs : List V} (h : SqL K H a xs) : SqL K H' a xs := by
  rcases h with h | h
  · exact .inl (e.rd h)
  · exact .inr h
theorem Sub.t (e : Sub H H') {a : Addr} {xs : List V} (h : SqT K H a xs) : SqT K H' a xs := by
  rcases h with h | h
  · exact .inl (e.rd h)
  · exact .inr h
mutual
theorem RpV.mono (e : Sub H H') : ∀ (d : D) {v : V}, RpV K H v d → RpV K H' v d
  | .non, _, h => by cases h; exact .non
  | .bl _, _, h => by cases h; exact .bl _
  | .int _, _, h => by cases h; exact .int _
  | .str _, _, h => by cases h; exact .str _
  | .tup ds, _, h => by
    cases h with
    | tup a b => exact .tup (e.t a) (RpVs.mono e ds b)
  | .lst ds, _, h => by
    cases h with
    | lst a b => exact .lst (e _ _ a) (RpVs.mono e ds b)
  | .rol ds, _, h => by
    cases h with
    | rol a b => exact .rol (e.l a) (RpVs.mono e ds b)
  | .mls _, _, h => by cases h
theorem RpVs.mono (e : Sub H H') : ∀ (ds : List D) {vs : List V}, RpVs K H vs ds → RpVs K H' vs ds
  | [], _, h => by cases h; exact .nil
  | d :: ds, _, h => by
    cases h with
    | cons a b => exact .cons (RpV.mono e d a) (RpVs.mono e ds b)
end
mutual
theorem RpV.noM : ∀ (d : D) {v : V}, RpV K H v d → d.noM = true
  | .non, _, _ => rfl
  | .bl _, _, _ => rfl
  | .int _, _, _ => rfl
  | .str _, _, _ => rfl
  | .tup ds, _, h => by
    cases h with
    | tup a b => exact RpVs.noM ds b
  | .lst ds, _, h => by
    cases h with
    | lst a b => exact RpVs.noM ds b
  | .rol ds, _, h => by
    cases h with
    | rol a b => exact RpVs.noM ds b
  | .mls _, _, h => by cases h
theorem RpVs.noM : ∀ (ds : List D) {vs : List V}, RpVs K H vs ds → D.noMs ds = true
  | [], _, _ => rfl
  | d :: ds, _, h => by
    cases h with
    | cons a b =>
      show (D.noM d && D.noMs ds) = true
      rw [RpV.noM d a, RpVs.noM ds b]; rfl
end
mutual
theorem RpV.fz : ∀ (d : D) {v : V}, RpV K H v d → d.fz = d
  | .non, _, _ => rfl
  | .bl _, _, _ => rfl
  | .int _, _, _ => rfl
  | .str _, _, _ => rfl
  | .tup ds, _, h => by
    cases h with
    | tup a b => show D.tup (D.fzs ds) = _; rw [RpVs.fz ds b]
  | .lst ds, _, h => by
    cases h with
    | lst a b => show D.lst (D.fzs ds) = _; rw [RpVs.fz ds b]
  | .rol ds, _, h => by
    cases h with
    | rol a b => show D.rol (D.fzs ds) = _; rw [RpVs.fz ds b]
  | .mls _, _, h => by cases h
theorem RpVs.fz : ∀ (ds : List D) {vs : List V}, RpVs K H vs ds → D.fzs ds = ds
  | [], _, _ => rfl
  | d :: ds, _, h => by
    cases h with
    | cons a b => show D.fz d :: D.fzs ds = _; rw [RpV.fz d a, RpVs.fz ds b]
end
mutual
theorem RpV.dp : ∀ (d : D) {v : V}, RpV K H v d → Dp K H v d.toP
  | .non, _, h => by cases h; exact .non
  | .bl _, _, h => by cases h; exact .bl _
  | .int _, _, h => by cases h; exact .int _
  | .str _, _, h => by cases h; exact .str _
  | .tup ds, _, h => by
    cases h with
    | tup a b => exact .tup a (RpVs.dp ds b)
  | .lst ds, _, h => by
    cases h with
    | lst a b => exact .lst (.inl (.inl a)) (RpVs.dp ds b)
  | .rol ds, _, h => by
    cases h with
    | rol a b => exact .lst a (RpVs.dp ds b)
  | .mls _, _, h => by cases h
theorem RpVs.dp : ∀ (ds : List D) {vs : List V}, RpVs K H vs ds → DpAll K H vs (D.toPs ds)
  | [], _, h => by cases h; exact .nil
  | d :: ds, _, h => by
    cases h with
    | cons a b => exact .cons (RpV.dp d a) (RpVs.dp ds b)
end
mutual
/-- data without lists does not lean on the lists that are hidden -/
theorem RpV.hideL {Z : Addr → Bool} (hz : ∀ a, Z a = true → ∃ xs, H a = some (.lst xs)) : ∀ (d : D) {v : V}, d.noL = true → RpV K H v d → RpV K (hid Z H) v d
  | .non, _, _, h => by cases h; exact .non
  | .bl _, _, _, h => by cases h; exact .bl _
  | .int _, _, _, h => by cases h; exact .int _
  | .str _, _, _, h => by cases h; exact .str _
  | .tup ds, _, n, h => by
    cases h with
    | @tup a vs _ s b =>
      have hh : ∀ u : HO, (∀ xs, u ≠ .lst xs) → H a = some u → hid Z H a = some u := fun u hu e => hid_some.mpr ⟨by
        cases q : Z a with
        | false => rfl
        | true =>
          obtain ⟨xs, e2⟩ := hz a q
          rw [e] at e2; cases e2; exact absurd rfl (hu xs), e⟩
      refine .tup ?_ (RpVs.hideL hz ds n b)
      rcases s with (s | ⟨o, s⟩) | s
      · exact .inl (.inl (hh _ (fun _ z => by cases z) s))
      · exact .inl (.inr ⟨o, hh _ (fun _ z => by cases z) s⟩)
      · exact .inr s
  | .lst ds, _, n, _ => by cases n
  | .rol ds, _, n, _ => by cases n
  | .mls _, _, n, _ => by cases n
theorem RpVs.hideL {Z : Addr → Bool} (hz : ∀ a, Z a = true → ∃ xs, H a = some (.lst xs)) : ∀ (ds : List D) {vs : List V}, D.noLs ds = true → RpVs K H vs ds → RpVs K (hid Z H) vs ds
  | [], _, _, h => by cases h; exact .nil
  | d :: ds, _, n, h => by
    have n' : (D.noL d && D.noLs ds) = true := n
    rw [Bool.and_eq_true] at n'
    cases h with
    | cons a b => exact .cons (RpV.hideL hz d n'.1 a) (RpVs.hideL hz ds n'.2 b)
end
theorem RpVs.len {vs : List V} {ds : List D} (h : RpVs K H vs ds) : vs.length = ds.length := by
  induction ds generalizing vs with
  | nil => cases h; rfl
  | cons d ds ih =>
    cases h with
    | cons a b => simp [ih b]
theorem RpVs.get {vs : List V} {ds : List D} (h : RpVs K H vs ds) {i : Nat} {d : D} (e : ds[i]? = some d) : ∃ v, vs[i]? = some v ∧ RpV K H v d := by
  induction ds generalizing vs i with
  | nil => simp at e
  | cons x ds ih =>
    cases h with
    | @cons v _ vs _ a b =>
      cases i with
      | zero => simp at e; subst e; exact ⟨v, rfl, a⟩
      | succ i => simpa using ih b (by simpa using e)
theorem RpVs.getV {vs : List V} {ds : List D} (h : RpVs K H vs ds) {i : Nat} {v : V} (e : vs[i]? = some v) : ∃ d, ds[i]? = some d ∧ RpV K H v d := by
  induction ds generalizing vs i with
  | nil => cases h; simp at e
  | cons x ds ih =>
    cases h with
    | @cons v _ vs _ a b =>
      cases i with
      | zero => simp at e; subst e; exact ⟨x, rfl, a⟩
      | succ i => simpa using ih b (by simpa using e)
theorem RpVs.append {vs ws : List V} {ds es : List D} (h : RpVs K H vs ds) (h' : RpVs K H ws es) : RpVs K H (vs ++ ws) (ds ++ es) := by
  induction ds generalizing vs with
  | nil => cases h; exact h'
  | cons d ds ih =>
    cases h with
    | cons a b => exact .cons a (ih b)
theorem RpVs.drop {vs : List V} {ds : List D} (h : RpVs K H vs ds) (n : Nat) : RpVs K H (vs.drop n) (ds.drop n) := by
  induction n generalizing vs ds with
  | zero => exact h
  | succ n ih =>
    cases h with
    | nil => exact .nil
    | cons a b => exact ih b
theorem RpVs.take {vs : List V} {ds : List D} (h : RpVs K H vs ds) (n : Nat) : RpVs K H (vs.take n) (ds.take n) := by
  induction n generalizing vs ds with
  | zero => exact .nil
  | succ n ih =>
    cases h with
    | nil => exact .nil
    | cons a b => exact .cons a (ih b)
theorem RpVs.reverse {vs : List V} {ds : List D} (h : RpVs K H vs ds) : RpVs K H vs.reverse ds.reverse := by
  induction ds generalizing vs with
  | nil => cases h; exact .nil
  | cons d ds ih =>
    cases h with
    | @cons v _ vs _ a b =>
      rw [List.reverse_cons, List.reverse_cons]
      exact (ih b).append (.cons a .nil)
end
/-! ### owned lists -/
mutual
/-- a value with the addresses of the lists that it owns -/
inductive RpX (K : PySem.W.Frag) (H : Hp) (Z : Addr → Bool) : V → D → List Addr → Prop
  | val {v : V} {d : D} : RpV K (hid Z H) v d → RpX K H Z v d []
  | mls {a : Addr} {vs : List V} {ds : List D} {L : List Addr} : H a = some (.lst vs) → RpXs K H Z vs ds L → RpX K H Z (.ref a) (.mls ds) (a :: L)
inductive RpXs (K : PySem.W.Frag) (H : Hp) (Z : Addr → Bool) : List V → List D → List Addr → Prop
  | nil : RpXs K H Z [] [] []
  | cons {v : V} {d : D} {L : List Addr} {vs : List V} {ds : List D} {L' : List Addr} : RpX K H Z v d L → RpXs K H Z vs ds L' → RpXs K H Z (v :: vs) (d :: ds) (L ++ L')
end
section
variable {K : PySem.W.Frag} {H H' : Hp} {Z Z' : Addr → Bool}
mutual
theorem RpX.mono (e : Sub (hid Z H) (hid Z' H')) : ∀ (d : D) {v : V} {L : List Addr}, (∀ a ∈ L, H' a = H a) → RpX K H Z v d L → RpX K H' Z' v d L
  | .mls ds, _, _, k, h => by
    cases h with
    | val h => cases h
    | mls h1 h2 =>
      refine .mls ?_ (RpXs.mono e ds (fun a ha => k a (List.mem_cons_of_mem _ ha)) h2)
      rw [k _ List.mem_cons_self]; exact h1
  | .non, _, _, _, h => by cases h with | val h => exact .val (RpV.mono e _ h)
  | .bl _, _, _, _, h => by cases h with | val h => exact .val (RpV.mono e _ h)
  | .int _, _, _, _, h => by cases h with | val h => exact .val (RpV.mono e _ h)
  | .str _, _, _, _, h => by cases h with | val h => exact .val (RpV.mono e _ h)
  | .tup _, _, _, _, h => by cases h with | val h => exact .val (RpV.mono e _ h)
  | .lst _, _, _, _, h => by cases h with | val h => exact .val (RpV.mono e _ h)
  | .rol _, _, _, _, h => by cases h with | val h => exact .val (RpV.mono e _ h)
theorem RpXs.mono (e : Sub (hid Z H) (hid Z' H')) : ∀ (ds : List D) {vs : List V} {L : List Addr}, (∀ a ∈ L, H' a = H a) → RpXs K H Z vs ds L → RpXs K H' Z' vs ds L
  | [], _, _, _, h => by cases h; exact .nil
  | d :: ds, _, _, k, h => by
    cases h with
    | cons a b => exact .cons (RpX.mono e d (fun x hx => k x (List.mem_append_left _ hx)) a) (RpXs.mono e ds (fun x hx => k x (List.mem_append_right _ hx)) b)
end
theorem RpX.ofNoM {d : D} {v : V} {L : List Addr} (n : d.noM = true) (h : RpX K H Z v d L) : RpV K (hid Z H) v d ∧ L = [] := by
  cases h with
  | val h => exact ⟨h, rfl⟩
  | mls _ _ => cases n
theorem RpXs.ofNoM : ∀ {ds : List D} {vs : List V} {L : List Addr}, D.noMs ds = true → RpXs K H Z vs ds L → RpVs K (hid Z H) vs ds ∧ L = []
  | [], _, _, _, h => by cases h; exact ⟨.nil, rfl⟩
  | d :: ds, _, _, n, h => by
    have n' : (D.noM d && D.noMs ds) = true := n
    rw [Bool.and_eq_true] at n'
    cases h with
    | cons a b =>
      obtain ⟨a1, a2⟩ := RpX.ofNoM n'.1 a
      obtain ⟨b1, b2⟩ := RpXs.ofNoM n'.2 b
      exact ⟨.cons a1 b1, by rw [a2, b2]; rfl⟩
theorem RpXs.vals : ∀ {ds : List D} {vs : List V}, RpVs K (hid Z H) vs ds → RpXs K H Z vs ds []
  | _, _, .nil => .nil
  | _, _, .cons a b => RpXs.cons (L := []) (L' := []) (.val a) (RpXs.vals b)
theorem RpXs.len {vs : List V} {ds : List D} {L : List Addr} (h : RpXs K H Z vs ds L) : vs.length = ds.length := by
  induction ds generalizing vs L with
  | nil => cases h; rfl
  | cons d ds ih =>
    cases h with
    | cons a b => simp [ih b]
theorem RpXs.append {vs ws : List V} {ds es : List D} {L M : List Addr} (h : RpXs K H Z vs ds L) (h' : RpXs K H Z ws es M) : RpXs K H Z (vs ++ ws) (ds ++ es) (L ++ M) := by
  induction ds generalizing vs L with
  | nil => cases h; exact h'
  | cons d ds ih =>
    cases h with
    | cons a b =>
      rw [List.append_assoc]
      exact .cons a (ih b)
/-- Z without L -/
def out (Z : Addr → Bool) (L : List Addr) : Addr → Bool := fun a => Z a && !L.contains a
/-- Z with L -/
def inn (Z : Addr → Bool) (L : List Addr) : Addr → Bool := fun a => Z a || L.contains a
theorem out_true {L : List Addr} {a : Addr} : out Z L a = true ↔ Z a = true ∧ a ∉ L := by
  unfold out; simp
theorem inn_true {L : List Addr} {a : Addr} : inn Z L a = true ↔ Z a = true ∨ a ∈ L := by
  unfold inn; simp
theorem hid_imp (h : ∀ a, Z' a = true → Z a = true) : Sub (hid Z H) (hid Z' H) := fun a o e => by
  obtain ⟨e1, e2⟩ := hid_some.mp e
  refine hid_some.mpr ⟨?_, e2⟩
  cases q : Z' a with
  | false => rfl
  | true => rw [h a q] at e1; cases e1
mutual
/-- an owned value given up -/
theorem RpX.fz (e : Sub (hid Z H) (hid Z' H)) : ∀ (d : D) {v : V} {L : List Addr}, (∀ a ∈ L, Z' a = false) → RpX K H Z v d L → RpV K (hid Z' H) v d.fz
  | .mls ds, _, _, k, h => by
    cases h with
    | val h => cases h
    | mls h1 h2 => exact .lst (hid_some.mpr ⟨k _ List.mem_cons_self, h1⟩) (RpXs.fz e ds (fun a ha => k a (List.mem_cons_of_mem _ ha)) h2)
  | .non, _, _, _, h => by cases h with | val h => rw [RpV.fz _ h]; exact RpV.mono e _ h
  | .bl _, _, _, _, h => by cases h with | val h => rw [RpV.fz _ h]; exact RpV.mono e _ h
  | .int _, _, _, _, h => by cases h with | val h => rw [RpV.fz _ h]; exact RpV.mono e _ h
  | .str _, _, _, _, h => by cases h with | val h => rw [RpV.fz _ h]; exact RpV.mono e _ h
  | .tup _, _, _, _, h => by cases h with | val h => rw [RpV.fz _ h]; exact RpV.mono e _ h
  | .lst _, _, _, _, h => by cases h with | val h => rw [RpV.fz _ h]; exact RpV.mono e _ h
  | .rol _, _, _, _, h => by cases h with | val h => rw [RpV.fz _ h]; exact RpV.mono e _ h
theorem RpXs.fz (e : Sub (hid Z H) (hid Z' H)) : ∀ (ds : List D) {vs : List V} {L : List Addr}, (∀ a ∈ L, Z' a = false) → RpXs K H Z vs ds L → RpVs K (hid Z' H) vs (D.fzs ds)
  | [], _, _, _, h => by cases h; exact .nil
  | d :: ds, _, _, k, h => by
    cases h with
    | cons a b => exact .cons (RpX.fz e d (fun x hx => k x (List.mem_append_left _ hx)) a) (RpXs.fz e ds (fun x hx => k x (List.mem_append_right _ hx)) b)
end
end
end Ev
namespace Ev
open PySem PySem.Spec PyProof.Rows L2
/-! ### a small language -/
inductive Bop | add | sub | mul | fdiv | mod | band
inductive Cop | eq | ne | lt | le | gt | ge | inn | nin | is | isn
inductive Ty | int | bool | str | tuple | list
inductive Bi | len | int | abs | tuple | list | sorted | all | any | str
inductive Mt | split | index | join | partition
mutual
inductive Tg | nm (i : Nat) | tp (ts : Tgs)
inductive Tgs | nil | cons (t : Tg) (ts : Tgs)
end
mutual
def Tg.sl : Tg → List Nat
  | .nm i => [i]
  | .tp ts => ts.sl
def Tgs.sl : Tgs → List Nat
  | .nil => []
  | .cons t ts => t.sl ++ ts.sl
end
mutual
inductive E
  | cn (c : D) | nm (i : Nat) | gl (g : Nat)
  | tup (es : Es) | lst (es : Es)
  | bin (o : Bop) (a b : E) | neg (a : E) | not (a : E)
  | cmp (o : Cop) (a b : E) | cmp2 (o o' : Cop) (a b c : E)
  | and (a : E) (es : Es) | or (a : E) (es : Es) | ite (c a b : E)
  | ix (a i : E) | sl (a : E) (lo hi : Oe) | rev (a : E)
  | call (f : Nat) (es : Es) | bi (b : Bi) (es : Es) | mt (m : Mt) (a e : E)
  | isi (a : E) (t : Ty)
  | lc (el : E) (tg : Tg) (it : It) (c : Oe) (own : List Nat)
inductive Es | nil | cons (e : E) (es : Es)
inductive Oe | no | so (e : E)
inductive It | sq (e : E) | r1 (a : E) | r2 (a b : E)
end
mutual
inductive S
  | asg (t : Tg) (e : E) | par (ts : List Nat) (es : Es)
  | app (i : Nat) (e : E) | ext (i : Nat) (e : E) | setix (i : Nat) (k e : E)
  | aug (i : Nat) (o : Bop) (e : E)
  | iff (c : E) (a b : Ss) | whl (c : E) (b : Ss) | forr (t : Tg) (it : It) (b : Ss)
  | ret (e : E) | retN | brk | cnt | pass | expr (e : E)
  | raise (x : Nat) (es : Es)
  | tri (b : Ss) (x : Nat) (h : Ss)
inductive Ss | nil | cons (s : S) (ss : Ss)
end
def Es.len : Es → Nat
  | .nil => 0
  | .cons _ es => es.len + 1
/-! ### how it runs -/
inductive Slot | un | on (d : D) | lk (d : D)
abbrev En := List Slot
inductive RV | v (d : D) | ref (i : Nat)
inductive Res (α : Type) | ok (a : α) (env : En) | ex (c : Nat) (p : Option D) (env : En) | bad
def Res.bind {α β : Type} (r : Res α) (k : α → En → Res β) : Res β := match r with
  | .ok a env => k a env
  | .ex c p env => .ex c p env
  | .bad => .bad
inductive FR | ok (d : D) (o : D) | ex (c : Nat) (p : Option D) | bad
inductive Fl | nx | br | ct | rt (d : D)
/-- what the names of the module stand for: defs, constants, exception classes -/
structure Tb where
  ar : Nat → Nat
  io : Nat → Bool
  fn : Nat → List D → FR
  gd : Nat → D
def big : Nat := 16777216
/-- as it is read: an owned list of shared things as a list -/
def D.view : D → Option D
  | .mls xs => if D.noMs xs then some (.lst xs) else none
  | .tup xs => some (.tup xs)
  | .lst xs => some (.lst xs)
  | .rol xs => some (.rol xs)
  | .non => some .non
  | .bl b => some (.bl b)
  | .int i => some (.int i)
  | .str x => some (.str x)
def RV.view (r : RV) (env : En) : Option D := match r with
  | .v d => d.view
  | .ref i => match env[i]? with
    | some (.on d) => d.view
    | some (.lk d) => d.view
    | _ => none
/-- given to a display or a tuple -/
def RV.give (r : RV) (env : En) : Option (D × En) := match r with
  | .v d => some (d.fz, env)
  | .ref i => match env[i]? with
    | some (.on d) => some (d.fz, env.set i (.on d.fz))
    | _ => none
/-- given away, as owned as it is -/
def RV.take (r : RV) (env : En) : Option (D × En) := match r with
  | .v d => some (d, env)
  | .ref i => match env[i]? with
    | some (.on d) => some (d.fz, env.set i (.on d.fz))
    | _ => none
/-- moved (a return) -/
def RV.move (r : RV) (env : En) : Option (D × En) := match r with
  | .v d => some (d, env)
  | .ref i => match env[i]? with
    | some (.on d) => some (d, env.set i .un)
    | _ => none
def gives : List RV → En → Option (List D × En)
  | [], env => some ([], env)
  | r :: rs, env => match r.give env with
    | some (d, env1) => match gives rs env1 with
      | some (ds, env2) => some (d :: ds, env2)
      | none => none
    | none => none
def takes : List RV → En → Option (List D × En)
  | [], env => some ([], env)
  | r :: rs, env => match r.take env with
    | some (d, env1) => match takes rs env1 with
      | some (ds, env2) => some (d :: ds, env2)
      | none => none
    | none => none
def views : List RV → En → Option (List D)
  | [], _ => some []
  | r :: rs, env => match r.view env with
    | some d => match views rs env with
      | some ds => some (d :: ds)
      | none => none
    | none => none
/-! ### operations on data -/
def eqD (a b : D) : Bool := PyData.eqv a.toP b.toP
def okP (d : D) : Bool := SeqAt.shaped d.toP
def scalD : D → D → Bool
  | .int _, .int _ => true
  | .str _, .str _ => true
  | .bl _, .bl _ => true
  | .non, .non => true
  | .str _, .non => true
  | .non, .str _ => true
  | .int _, .str _ => true
  | .str _, .int _ => true
  | .int _, .non => true
  | .non, .int _ => true
  | _, _ => false
def eqO (a b : D) : Option Bool := if scalD a b then some (eqD a b) else if okP a && okP b then some (eqD a b) else none
/-- x in xs: scalars alone -/
def flat : D → Bool
  | .non => true
  | .bl _ => true
  | .int _ => true
  | .str _ => true
  | _ => false
def inD (x : D) (xs : List D) : Option Bool :=
  if flat x && xs.all flat then some (xs.any fun y => eqD y x) else none
def ofB : Option Bool → Option D
  | some b => some (.bl b)
  | none => none
def mulOk (i j : Int) : Bool := decide (i.natAbs < 2 ^ 64) || decide (j.natAbs < 2 ^ 64)
def addD (a b : D) : Option D := match a, b with
  | .int i, .int j => some (.int (i + j))
  | .str x, .str y => if Nat.ble (x.length + y.length) big then some (.str (x ++ y)) else none
  | .tup xs, .tup ys => if Nat.ble (xs.length + ys.length) big then some (.tup (xs ++ ys)) else none
  | .lst xs, .lst ys => if Nat.ble (xs.length + ys.length) big then some (.mls (xs ++ ys)) else none
  | _, _ => none
def subD (a b : D) : Option D := match a, b with
  | .int i, .int j => some (.int (i - j))
  | _, _ => none
def mulD (a b : D) : Option D := match a, b with
  | .int i, .int j => if mulOk i j then some (.int (i * j)) else none
  | .lst xs, .int k => if decide (0 ≤ k) && decide (k < 1000) && Nat.ble (xs.length * k.toNat) big then some (.mls (List.replicate k.toNat xs).flatten) else none
  | _, _ => none
def fdivD (a b : D) : Option D := match a, b with
  | .int i, .int j => if decide (j ≠ 0) && decide (j.natAbs < 1073741824) then some (.int (i.fdiv j)) else none
  | _, _ => none
def modD (a b : D) : Option D := match a, b with
  | .int i, .int j => if decide (j ≠ 0) then some (.int (i.fmod j)) else none
  | _, _ => none
def bandD (a b : D) : Option D := match a, b with
  | .int i, .int j => some (.int (Builtin.bitAnd i j))
  | _, _ => none
def binD : Bop → D → D → Option D
  | .add => addD
  | .sub => subD
  | .mul => mulD
  | .fdiv => fdivD
  | .mod => modD
  | .band => bandD
def notO : Option Bool → Option Bool
  | some b => some (!b)
  | none => none
def ltO (a b : D) : Option Bool := match a, b with
  | .int i, .int j => some (decide (i < j))
  | _, _ => none
def leO (a b : D) : Option Bool := match a, b with
  | .int i, .int j => some (decide (i ≤ j))
  | _, _ => none
def gtO (a b : D) : Option Bool := match a, b with
  | .int i, .int j => some (decide (j < i))
  | _, _ => none
def geO (a b : D) : Option Bool := match a, b with
  | .int i, .int j => some (decide (j ≤ i))
  | _, _ => none
def innO (a b : D) : Option Bool := match b with
  | .lst ys => inD a ys
  | .tup ys => inD a ys
  | _ => none
def ninO (a b : D) : Option Bool := notO (innO a b)
def isNon : D → Bool
  | .non => true
  | _ => false
def isO (a b : D) : Option Bool := match b with
  | .non => some (isNon a)
  | _ => none
def isnO (a b : D) : Option Bool := match b with
  | .non => some (!isNon a)
  | _ => none
def neO (a b : D) : Option Bool := notO (eqO a b)
def cmpD : Cop → D → D → Option Bool
  | .eq => eqO
  | .ne => neO
  | .lt => ltO
  | .le => leO
  | .gt => gtO
  | .ge => geO
  | .inn => innO
  | .nin => ninO
  | .is => isO
  | .isn => isnO
def truD : D → Option Bool
  | .non => some false
  | .bl b => some b
  | .int i => some (i != 0)
  | .str x => if Nat.ble x.length big then some (x.length != 0) else none
  | .tup xs => some (!xs.isEmpty)
  | .lst xs => some (!xs.isEmpty)
  | .mls xs => some (!xs.isEmpty)
  | .rol _ => none
def getI (xs : List D) (i : Int) : Option D := if decide (0 ≤ i) then xs[i.toNat]? else if decide (0 ≤ i + xs.length) then xs[(i + xs.length).toNat]? else none
def ixD (a i : D) : Option D := match a, i with
  | .lst xs, .int k => getI xs k
  | .tup xs, .int k => getI xs k
  | _, _ => none
def getO : Option D → Option (Option Int)
  | none => some none
  | some (.int i) => some (some i)
  | _ => none
/-- a slice's ends -/
def slN (n : Nat) (i : Int) : Nat := if i < 0 then (i + n).toNat else min i.toNat n
def slL {α : Type} (xs : List α) (lo hi : Option Int) : List α :=
  let a := match lo with | none => 0 | some i => slN xs.length i
  let b := match hi with | none => xs.length | some i => slN xs.length i
  (xs.drop a).take (b - a)
def slD (a : D) (lo hi : Option Int) : Option D := match a with
  | .lst xs => some (.mls (slL xs lo hi))
  | .tup xs => some (.tup (slL xs lo hi))
  | .str x => if Nat.ble x.length big then some (.str ⟨(slL x.cps.toList lo hi).toArray⟩) else none
  | _ => none
def revD : D → Option D
  | .lst xs => some (.mls xs.reverse)
  | _ => none
inductive Tag | non | bl | int | str | tup | lst
def tagD : D → Tag
  | .non => .non
  | .bl _ => .bl
  | .int _ => .int
  | .str _ => .str
  | .tup _ => .tup
  | .lst _ => .lst
  | .mls _ => .lst
  | .rol _ => .lst
def isiT : Tag → Ty → Bool
  | .int, .int => true
  | .bl, .int => true
  | .bl, .bool => true
  | .str, .str => true
  | .tup, .tuple => true
  | .lst, .list => true
  | _, _ => false
def isiD (a : D) (t : Ty) : Bool := isiT (tagD a) t
def bools : List D → Option (List Bool)
  | [] => some []
  | .bl b :: xs => match bools xs with
    | some bs => some (b :: bs)
    | none => none
  | _ :: _ => none
end Ev
namespace Ev
open PySem PySem.Spec PyProof.Rows L2
def RV.cont (r : RV) (env : En) : Option D := match r with
  | .v d => some d
  | .ref i => match env[i]? with
    | some (.on d) => some d
    | some (.lk d) => some d
    | _ => none
def RV.tru (r : RV) (env : En) : Option Bool := match r.cont env with
  | some d => truD d
  | none => none
def lift (o : Option D) (env : En) : Res RV := match o with
  | some d => .ok (.v d) env
  | none => .bad
def liftB (o : Option Bool) (env : En) : Res Bool := match o with
  | some d => .ok d env
  | none => .bad
def nmR (i : Nat) (env : En) : Res RV := match env[i]? with
  | some (.on d) => if d.noM then .ok (.v d) env else .ok (.ref i) env
  | some (.lk _) => .ok (.ref i) env
  | _ => .bad
def bin2 (f : D → D → Option D) (r s : RV) (env : En) : Res RV := match r.view env, s.view env with
  | some a, some b => lift (f a b) env
  | _, _ => .bad
def cmp2B (o : Cop) (r s : RV) (env : En) : Res Bool := match r.view env, s.view env with
  | some a, some b => liftB (cmpD o a b) env
  | _, _ => .bad
def toV (r : Res Bool) : Res RV := r.bind fun b env => .ok (.v (.bl b)) env
def plNoL : Option D → Bool
  | some d => d.noL
  | none => true
/-- the slot, if just one owned list is handed on -/
def oneRef : List RV → Option Nat
  | [] => none
  | .v _ :: rs => oneRef rs
  | .ref i :: rs => if rs.all (fun r => match r with | .v _ => true | .ref _ => false) then some i else none
def lendTo (d0 : D) : RV → D
  | .v d => d.fz
  | .ref _ => d0.fz
def callR (T : Tb) (f : Nat) (rs : List RV) (env : En) : Res RV :=
  if rs.length != T.ar f then .bad else if T.io f then
    match rs with
    | .ref i :: rest => match env[i]? with
      | some (.on d0) => match gives rest (env.set i .un) with
        | some (ds, env1) => match T.fn f (d0 :: ds) with
          | .ok d o => match env1[i]? with
            | some .un => .ok (.v d) (env1.set i (.on o))
            | _ => .bad
          | _ => .bad
        | none => .bad
      | _ => .bad
    | _ => .bad
  else
    match oneRef rs with
    | some i => match env[i]? with
      | some (.on d0) => match T.fn f (rs.map (lendTo d0)) with
        | .ok d _ => if d.noL then .ok (.v d) env else .ok (.v d) (env.set i (.on d0.fz))
        | .ex c p => if plNoL p then .ex c p env else .bad
        | .bad => .bad
      | some (.lk d0) => match T.fn f (rs.map (lendTo d0)) with
        | .ok d _ => if d.noL then .ok (.v d) env else .bad
        | .ex c p => if plNoL p then .ex c p env else .bad
        | .bad => .bad
      | _ => .bad
    | none => match gives rs env with
      | some (ds, env1) => match T.fn f ds with
        | .ok d _ => .ok (.v d) env1
        | .ex c p => .ex c p env1
        | .bad => .bad
      | none => .bad
mutual
def tgA : Tg → D → En → Option En
  | .nm i, d, env => match env[i]? with
    | some .un => some (env.set i (.on d))
    | some (.on _) => some (env.set i (.on d))
    | _ => none
  | .tp ts, d, env => match d with
    | .tup ds => tgAs ts ds env
    | _ => none
def tgAs : Tgs → List D → En → Option En
  | .nil, [], env => some env
  | .cons t ts, d :: ds, env => match tgA t d env with
    | some env1 => tgAs ts ds env1
    | none => none
  | _, _, _ => none
end
def wipeE (env : En) : List Nat → En
  | [] => env
  | v :: vs => (wipeE env vs).set v .un
def plainAt (env : En) (i : Nat) : Bool := match env[i]? with
  | some .un => true
  | some (.on d) => d.noM
  | _ => false
/-- the own slots of a comprehension get back what they held -/
def backE (env0 env : En) : List Nat → En
  | [] => env
  | v :: vs => (backE env0 env vs).set v (match env0[v]? with | some s => s | none => .un)
/-- the loop of a comprehension; step: one turn, the new item or none -/
def lcGo (step : D → En → Res (Option D)) : List D → List D → En → Res (List D)
  | [], acc, env => .ok acc env
  | x :: xs, acc, env => match step x env with
    | .ok (some y) env1 => if Nat.blt acc.length big then lcGo step xs (acc ++ [y]) env1 else .bad
    | .ok none env1 => lcGo step xs acc env1
    | _ => .bad
/-- the things that are walked; the slot that they were taken from meanwhile -/
def walk (r : RV) (env : En) : Option (List D × Option (Nat × D) × En) := match r with
  | .v d => match d.view with
    | some (.lst xs) => some (xs, none, env)
    | some (.tup xs) => some (xs, none, env)
    | some (.rol xs) => some (xs, none, env)
    | _ => none
  | .ref i => match env[i]? with
    | some (.on d) => match d.view with
      | some (.lst xs) => some (xs, some (i, d), env.set i .un)
      | _ => none
    | _ => none
/-- .. and are put back -/
def unlk (o : Option (Nat × D)) (env : En) : Option En := match o with
  | some (i, d) => match env[i]? with
    | some .un => some (env.set i (.on d))
    | _ => none
  | none => some env
def rngs (lo : Int) : Nat → List D
  | 0 => []
  | n + 1 => rngs lo n ++ [.int (lo + n)]
def RV.int? (r : RV) : Option Int := match r with
  | .v (.int i) => some i
  | _ => none
def rng1 (r : RV) : Option (List D) := match r.int? with
  | some j => if decide (-(2 ^ 62) ≤ j) && decide (j < 2 ^ 62) then some (rngs 0 j.toNat) else none
  | none => none
def rng2 (r s : RV) : Option (List D) := match r.int? with
  | some i => match s.int? with
    | some j => if decide (-(2 ^ 62) ≤ i) && decide (i < 2 ^ 62) && decide (-(2 ^ 62) ≤ j) && decide (j < 2 ^ 62) then some (rngs i (j - i).toNat) else none
    | none => none
  | none => none
def ltS : List Nat → List Nat → Bool := fun a b => decide (a < b)
def bi1 (b : Bi) (d : D) : Option D := match b, d with
  | .len, .lst xs => some (.int xs.length)
  | .len, .tup xs => some (.int xs.length)
  | .len, .str x => if Nat.ble x.length big then some (.int x.length) else none
  | .int, .int i => some (.int i)
  | .int, .bl b => some (.int (if b then 1 else 0))
  | .abs, .int i => some (.int (if i < 0 then -i else i))
  | .tuple, .lst xs => some (.tup xs)
  | .tuple, .tup xs => some (.tup xs)
  | .list, .lst xs => some (.mls xs)
  | .list, .tup xs => some (.mls xs)
  | .all, .lst xs => match bools xs with
    | some bs => some (.bl (bs.all id))
    | none => none
  | .any, .lst xs => match bools xs with
    | some bs => some (.bl (bs.any id))
    | none => none
  | _, _ => none
/-- a stable sort -/
def insS {α : Type} (le : α → α → Bool) (a : α) : List α → List α
  | [] => [a]
  | b :: bs => if le a b then a :: b :: bs else b :: insS le a bs
def sortS {α : Type} (le : α → α → Bool) : List α → List α
  | [] => []
  | a :: as => insS le a (sortS le as)
def alikeD (x y : D) : Bool := PySem.W.alike x.toP y.toP
def tup1 : D → Bool
  | .tup (_ :: _) => true
  | _ => false
def noTN : D → Bool
  | .tup _ => false
  | .non => false
  | _ => true
def sortOk (xs : List D) : Bool := xs.all (fun x => xs.all (alikeD x)) && (xs.all tup1 || xs.all noTN) && xs.all okP && Nat.ble xs.length big
def sortD (xs : List D) : Option D := if sortOk xs then some (.mls (sortS (PySem.W.dataLe false D.toP) xs)) else none
def biD (b : Bi) (ds : List D) : Option D := match ds with
  | [d] => match b with
    | .sorted => match d with
      | .lst xs => sortD xs
      | .tup xs => sortD xs
      | _ => none
    | _ => bi1 b d
  | _ => none
def mtD (m : Mt) (x : Str) (d : D) : Option D := match m, d with
  | .split, .str y => if !(y.length == 0) && Nat.ble (x.length + 2) big then some (.mls ((PySem.Txt.split x y).map D.str)) else none
  | _, _ => none
section
variable (T : Tb)
mutual
def evE : E → En → Res RV
  | .cn c, env => .ok (.v c) env
  | .nm i, env => nmR i env
  | .gl g, env => .ok (.v (T.gd g)) env
  | .tup es, env => (evs es env).bind fun rs env => match gives rs env with
    | some (ds, env) => if Nat.ble ds.length big then .ok (.v (.tup ds)) env else .bad
    | none => .bad
  | .lst es, env => (evs es env).bind fun rs env => match gives rs env with
    | some (ds, env) => if Nat.ble ds.length big then .ok (.v (.mls ds)) env else .bad
    | none => .bad
  | .bin o a b, env => (evE a env).bind fun r env => (evE b env).bind fun s env => bin2 (binD o) r s env
  | .neg a, env => (evE a env).bind fun r env => match r with
    | .v (.int i) => .ok (.v (.int (-i))) env
    | _ => .bad
  | .not a, env => (evE a env).bind fun r env => match r.tru env with
    | some k => .ok (.v (.bl (!k))) env
    | none => .bad
  | .cmp o a b, env => toV ((evE a env).bind fun r env => (evE b env).bind fun s env => cmp2B o r s env)
  | .cmp2 o o' a b c, env => toV ((evE a env).bind fun r env => (evE b env).bind fun s env => (cmp2B o r s env).bind fun k env =>
      if k then (evE c env).bind fun t env => cmp2B o' s t env else .ok false env)
  | .and a es, env => (evE a env).bind fun r env => match r.tru env with
    | some true => evAnd r es env
    | some false => .ok r env
    | none => .bad
  | .or a es, env => (evE a env).bind fun r env => match r.tru env with
    | some true => .ok r env
    | some false => evOr r es env
    | none => .bad
  | .ite c a b, env => (evT c env).bind fun k env => if k then evE a env else evE b env
  | .ix a i, env => (evE a env).bind fun r env => (evE i env).bind fun s env => bin2 ixD r s env
  | .sl a lo hi, env => (evE a env).bind fun r env => (evO lo env).bind fun l env => (evO hi env).bind fun h env => match r.view env with
    | some d => lift (slD d l h) env
    | none => .bad
  | .rev a, env => (evE a env).bind fun r env => match r.view env with
    | some d => lift (revD d) env
    | none => .bad
  | .call f es, env => (evs es env).bind fun rs env => callR T f rs env
  | .bi b es, env => (evs es env).bind fun rs env => match views rs env with
    | some ds => lift (biD b ds) env
    | none => .bad
  | .mt m a e, env => (evE a env).bind fun r env => match r with
    | .v (.str x) => (evE e env).bind fun s env => match s.view env with
      | some d => lift (mtD m x d) env
      | none => .bad
    | _ => .bad
  | .isi a t, env => (evE a env).bind fun r env => match r.cont env with
    | some d => .ok (.v (.bl (isiD d t))) env
    | none => .bad
  | .lc el tg it c own, env => (evI it env).bind fun w env => match w with
    | (xs, hd) => if own.all (plainAt env) then
        match lcGo (fun x env => match tgA tg x (wipeE env own) with
          | none => .bad
          | some env => (evC c env).bind fun k env => if k then (evE el env).bind fun r env => match r.give env with
              | some (d, env) => .ok (some d) env
              | none => .bad
            else .ok none env) xs [] env with
        | .ok acc env1 => match unlk hd (backE env (wipeE env1 own) own) with
          | some env2 => .ok (.v (.mls acc)) env2
          | none => .bad
        | _ => .bad
      else .bad
def evs : Es → En → Res (List RV)
  | .nil, env => .ok [] env
  | .cons e es, env => (evE e env).bind fun r env => (evs es env).bind fun rs env => .ok (r :: rs) env
def evO : Oe → En → Res (Option Int)
  | .no, env => .ok none env
  | .so e, env => (evE e env).bind fun r env => match r with
    | .v (.int i) => .ok (some i) env
    | _ => .bad
def evC : Oe → En → Res Bool
  | .no, env => .ok true env
  | .so e, env => evT e env
def evI : It → En → Res (List D × Option (Nat × D))
  | .sq e, env => (evE e env).bind fun r env => match walk r env with
    | some (xs, o, env) => .ok (xs, o) env
    | none => .bad
  | .r1 a, env => (evE a env).bind fun r env => match rng1 r with
    | some xs => .ok (xs, none) env
    | none => .bad
  | .r2 a b, env => (evE a env).bind fun r env => (evE b env).bind fun s env => match rng2 r s with
    | some xs => .ok (xs, none) env
    | none => .bad
def evT : E → En → Res Bool
  | .not a, env => (evT a env).bind fun b env => .ok (!b) env
  | .cmp o a b, env => (evE a env).bind fun r env => (evE b env).bind fun s env => cmp2B o r s env
  | .cmp2 o o' a b c, env => (evE a env).bind fun r env => (evE b env).bind fun s env => (cmp2B o r s env).bind fun k env =>
      if k then (evE c env).bind fun t env => cmp2B o' s t env else .ok false env
  | .and a es, env => (evT a env).bind fun k env => if k then evTand es env else .ok false env
  | .or a es, env => (evT a env).bind fun k env => if k then .ok true env else evTor es env
  | .cn c, env => liftB (truD c) env
  | .nm i, env => (nmR i env).bind fun r env => liftB (r.tru env) env
  | .ix a i, env => (evE a env).bind fun r env => (evE i env).bind fun s env => (bin2 ixD r s env).bind fun r env => liftB (r.tru env) env
  | .call f es, env => (evs es env).bind fun rs env => (callR T f rs env).bind fun r env => liftB (r.tru env) env
  | .bi b es, env => (evs es env).bind fun rs env => match views rs env with
    | some ds => (lift (biD b ds) env).bind fun r env => liftB (r.tru env) env
    | none => .bad
  | .isi a t, env => (evE a env).bind fun r env => match r.cont env with
    | some d => .ok (isiD d t) env
    | none => .bad
  | _, _ => .bad
def evAnd (r : RV) : Es → En → Res RV
  | .nil, env => .ok r env
  | .cons e es, env => (evE e env).bind fun s env => match s.tru env with
    | some true => evAnd s es env
    | some false => .ok s env
    | none => .bad
def evOr (r : RV) : Es → En → Res RV
  | .nil, env => .ok r env
  | .cons e es, env => (evE e env).bind fun s env => match s.tru env with
    | some true => .ok s env
    | some false => evOr s es env
    | none => .bad
def evTand : Es → En → Res Bool
  | .nil, env => .ok true env
  | .cons e es, env => (evT e env).bind fun k env => if k then evTand es env else .ok false env
def evTor : Es → En → Res Bool
  | .nil, env => .ok false env
  | .cons e es, env => (evT e env).bind fun k env => if k then .ok true env else evTor es env
end
end
end Ev
namespace Ev
open PySem PySem.Spec PyProof.Rows L2
def WF : Nat := 100000000
/-- behind a loop's body -/
def loopK (k : En → Res Fl) : Res Fl → Res Fl
  | .ok .nx env => k env
  | .ok .ct env => k env
  | .ok .br env => .ok .nx env
  | .ok (.rt d) env => .ok (.rt d) env
  | .ex c p env => .ex c p env
  | .bad => .bad
def seqK (k : En → Res Fl) : Res Fl → Res Fl
  | .ok .nx env => k env
  | .ok .ct env => .ok .ct env
  | .ok .br env => .ok .br env
  | .ok (.rt d) env => .ok (.rt d) env
  | .ex c p env => .ex c p env
  | .bad => .bad
def whlGo (test : En → Res Bool) (body : En → Res Fl) : Nat → En → Res Fl
  | 0, _ => .bad
  | n + 1, env => (test env).bind fun b env1 => if b then loopK (whlGo test body n) (body env1) else .ok .nx env1
def forGo (step : D → En → Res Fl) : List D → En → Res Fl
  | [], env => .ok .nx env
  | x :: xs, env => loopK (forGo step xs) (step x env)
/-- the walked list comes back -/
def forEnd (hd : Option (Nat × D)) : Res Fl → Res Fl
  | .ok .nx env1 => match unlk hd env1 with
    | some env2 => .ok .nx env2
    | none => .bad
  | .ok (.rt d) env1 => .ok (.rt d) env1
  | .ex c p env1 => .ex c p env1
  | _ => .bad
def forStep (f : D → En → Option En) (body : En → Res Fl) (x : D) (env : En) : Res Fl := match f x env with
  | some env => body env
  | none => .bad
/-- the slots that a body may store to -/
def hdFree (hd : Option (Nat × D)) (sl : List Nat) : Bool := match hd with
  | some (i, _) => !sl.contains i
  | none => true
def isM (env : En) (i : Nat) : Bool := match env[i]? with
  | some (.on (.mls _)) => true
  | _ => false
def isOn (env : En) (i : Nat) : Bool := match env[i]? with
  | some (.on _) => true
  | _ => false
def appD (i : Nat) (d : D) (env : En) : Res Fl := match env[i]? with
  | some (.on (.mls xs)) => if Nat.blt xs.length big then .ok .nx (env.set i (.on (.mls (xs ++ [d])))) else .bad
  | _ => .bad
def extD (i : Nat) (d : D) (env : En) : Res Fl := match d with
  | .lst ys => match env[i]? with
    | some (.on (.mls xs)) => if Nat.ble (xs.length + ys.length) big then .ok .nx (env.set i (.on (.mls (xs ++ ys)))) else .bad
    | _ => .bad
  | _ => .bad
def augD (o : Bop) (a b : Int) : Option Int := match o with
  | .add => some (a + b)
  | .sub => some (a - b)
  | _ => none
def setNs : List Nat → List D → En → Option En
  | [], [], env => some env
  | i :: is, d :: ds, env => match tgA (.nm i) d env with
    | some env1 => setNs is ds env1
    | none => none
  | _, _, _ => none
def ixNat (n : Nat) (k : Int) : Option Nat := if decide (0 ≤ k) && decide (k < n) then some k.toNat else if decide (k < 0) && decide (0 ≤ k + n) then some (k + n).toNat else none
def setD (i : Nat) (s : RV) (d : D) (env : En) : Res Fl := match s with
  | .v (.int k) => match env[i]? with
    | some (.on (.mls xs)) => if D.noMs xs then match ixNat xs.length k with
        | some j => .ok .nx (env.set i (.on (.mls (xs.set j d))))
        | none => .bad
      else .bad
    | _ => .bad
  | _ => .bad
mutual
def S.wr : S → List Nat
  | .asg t _ => t.sl
  | .par is _ => is
  | .aug i _ _ => [i]
  | .iff _ a b => a.wr ++ b.wr
  | .whl _ b => b.wr
  | .forr t _ b => t.sl ++ b.wr
  | .tri b _ _ => b.wr
  | .app _ _ => []
  | .ext _ _ => []
  | .setix _ _ _ => []
  | .ret _ => []
  | .retN => []
  | .brk => []
  | .cnt => []
  | .pass => []
  | .expr _ => []
  | .raise _ _ => []
def Ss.wr : Ss → List Nat
  | .nil => []
  | .cons s ss => s.wr ++ ss.wr
end
/-- behind a try's body -/
def triK (xm : Nat → Nat → Bool) (x : Nat) (h : Ss) : Res Fl → Res Fl
  | .ex c p env1 => if xm c x then (match h with
      | .cons (.ret (.cn d)) .nil => .ok (.rt d) env1
      | .cons .pass .nil => .ok .nx env1
      | .cons .cnt .nil => .ok .ct env1
      | _ => .bad) else .ex c p env1
  | .ok a env => .ok a env
  | .bad => .bad
section
variable (T : Tb) (xm : Nat → Nat → Bool)
mutual
def evS : S → En → Res Fl
  | .asg t e, env => (evE T e env).bind fun r env => match r.take env with
    | some (d, env) => match tgA t d env with
      | some env => .ok .nx env
      | none => .bad
    | none => .bad
  | .par is es, env => (evs T es env).bind fun rs env => match takes rs env with
    | some (ds, env) => match setNs is ds env with
      | some env => .ok .nx env
      | none => .bad
    | none => .bad
  | .app i e, env => if isM env i then (evE T e env).bind fun r env => match r.give env with
      | some (d, env) => appD i d env
      | none => .bad
    else .bad
  | .ext i e, env => if isM env i then (evE T e env).bind fun r env => match r.view env with
      | some d => extD i d env
      | none => .bad
    else .bad
  | .setix i k e, env => (evE T e env).bind fun r env => match r.give env with
    | some (d, env) => if isOn env i then (evE T k env).bind fun s env => setD i s d env else .bad
    | none => .bad
  | .aug i o e, env => match env[i]? with
    | some (.on (.int a)) => (evE T e env).bind fun r env => match r with
      | .v (.int b) => match augD o a b with
        | some c => match tgA (.nm i) (.int c) env with
          | some env => .ok .nx env
          | none => .bad
        | none => .bad
      | _ => .bad
    | _ => .bad
  | .iff c a b, env => (evT T c env).bind fun k env => if k then evSs a env else evSs b env
  | .whl c b, env => whlGo (evT T c) (evSs b) WF env
  | .forr t it b, env => (evI T it env).bind fun w env => if hdFree w.2 (t.sl ++ b.wr) then forEnd w.2 (forGo (forStep (tgA t) (evSs b)) w.1 env) else .bad
  | .ret e, env => (evE T e env).bind fun r env => match r.move env with
    | some (d, env) => .ok (.rt d) env
    | none => .bad
  | .retN, env => .ok (.rt .non) env
  | .brk, env => .ok .br env
  | .cnt, env => .ok .ct env
  | .pass, env => .ok .nx env
  | .expr e, env => (evE T e env).bind fun r env => .ok .nx env
  | .raise x es, env => (evs T es env).bind fun rs env => .ex x none env
  | .tri b x h, env => triK xm x h (evSs b env)
def evSs : Ss → En → Res Fl
  | .nil, env => .ok .nx env
  | .cons s ss, env => seqK (evSs ss) (evS s env)
end
def outOf (io : Bool) (env : En) : Option D := if io then match (env[0]? : Option Slot) with
  | some (.on d) => some d
  | _ => none
  else some .non
/-- a def -/
def den (n : Nat) (io : Bool) (b : Ss) (ds : List D) : FR := if io && b.wr.contains 0 then .bad else match evSs T xm b (ds.map Slot.on ++ List.replicate (n - ds.length) .un) with
  | .ok (.rt d) env => match outOf io env with
    | some o => .ok d o
    | none => .bad
  | .ok .nx env => match outOf io env with
    | some o => .ok .non o
    | none => .bad
  | .ok _ _ => .bad
  | .ex c p _ => if io then .bad else if plNoL p then .ex c p else .bad
  | .bad => .bad
end
example (T : Tb) (c : D) (env : En) : evE T (.cn c) env = .ok (.v c) env := rfl
example (T : Tb) (xm) (env : En) : evSs T xm (.cons .pass .nil) env = .ok .nx env := rfl
end Ev
namespace Ev
open PySem PySem.Spec PyProof.Rows L2
/-! ### slots -/
section
variable (K : PySem.W.Frag) (H : Hp) (Z : Addr → Bool)
/-- M: what the slots own and may write; P: what is locked -/
inductive RpE : List Addr → List Addr → En → L2.St → Prop
  | nil : RpE [] [] [] []
  | un {M P : List Addr} {env : En} {σ : L2.St} {o : Option V} : RpE M P env σ → RpE M P (.un :: env) (o :: σ)
  | on {M P L : List Addr} {env : En} {σ : L2.St} {v : V} {d : D} : RpX K H Z v d L → RpE M P env σ → RpE (L ++ M) P (.on d :: env) (some v :: σ)
  | lk {M P L : List Addr} {env : En} {σ : L2.St} {v : V} {d : D} : RpX K H Z v d L → RpE M P env σ → RpE M (L ++ P) (.lk d :: env) (some v :: σ)
structure Rep (M P : List Addr) (env : En) (σ : L2.St) : Prop where
  rp : ∃ M0 P0, RpE K H Z M0 P0 env σ ∧ M0.Perm M ∧ P0.Perm P
  nd : (M ++ P).Nodup
  sub : ∀ a ∈ M ++ P, Z a = true
  zl : ∀ a, Z a = true → ∃ xs, H a = some (.lst xs)
end
/-- what may have changed -/
structure Fr (H : Hp) (Z : Addr → Bool) (M P : List Addr) (H' : Hp) (Z' : Addr → Bool) (M' P' : List Addr) : Prop where
  keep : ∀ a o, H a = some o → a ∉ M → H' a = some o
  z1 : ∀ a, Z' a = true → Z a = true ∨ H a = none
  z2 : ∀ a, Z a = true → a ∉ M → Z' a = true
  m : ∀ a ∈ M', a ∈ M ∨ H a = none
  p : ∀ a ∈ P', a ∈ P ∨ a ∈ M ∨ H a = none
/-- owned addresses that no slot holds -/
structure Own (H : Hp) (M : List Addr) (Z' : Addr → Bool) (M' P' L : List Addr) : Prop where
  nd : L.Nodup
  z : ∀ a ∈ L, Z' a = true
  nm : ∀ a ∈ L, a ∉ M'
  np : ∀ a ∈ L, a ∉ P'
  old : ∀ a ∈ L, a ∈ M ∨ H a = none
/-- F: what may be written or given up; P: what is locked -/
structure Bs (H : Hp) (Z : Addr → Bool) (F P : List Addr) : Prop where
  fz : ∀ a ∈ F, Z a = true
  pz : ∀ a ∈ P, Z a = true
  zs : ∀ a, Z a = true → H a ≠ none
  dis : ∀ a ∈ P, a ∉ F
section
variable {K : PySem.W.Frag} {H H1 H2 : Hp} {Z Z1 Z2 : Addr → Bool} {M M1 M2 P P1 P2 L L' F F1 F2 : List Addr} {env env1 env2 : En} {σ : L2.St}
theorem Fr.refl : Fr H Z F P H Z F P := ⟨fun _ _ h _ => h, fun _ h => .inl h, fun _ h _ => h, fun _ h => .inl h, fun _ h => .inl h⟩
theorem Rep.msub (r : Rep K H Z M P env σ) : ∀ a ∈ M, Z a = true := fun a h => r.sub a (List.mem_append_left _ h)
theorem Rep.psub (r : Rep K H Z M P env σ) : ∀ a ∈ P, Z a = true := fun a h => r.sub a (List.mem_append_right _ h)
theorem Rep.zs (r : Rep K H Z M P env σ) {a : Addr} (h : Z a = true) : H a ≠ none := fun e => by
  obtain ⟨xs, q⟩ := r.zl a h
  rw [e] at q; cases q
theorem Rep.dis (r : Rep K H Z M P env σ) {a : Addr} (h : a ∈ P) : a ∉ M := fun q => (List.nodup_append.mp r.nd).2.2 a q a h rfl
theorem Rep.mnd (r : Rep K H Z M P env σ) : M.Nodup := (List.nodup_append.mp r.nd).1
theorem Rep.pnd (r : Rep K H Z M P env σ) : P.Nodup := (List.nodup_append.mp r.nd).2.1
theorem Rep.bs (r : Rep K H Z M P env σ) : Bs H Z M P := ⟨r.msub, r.psub, fun _ => r.zs, fun _ => r.dis⟩
theorem Fr.back (r : Bs H Z F P) (f : Fr H Z F P H1 Z1 F1 P1) {a : Addr} (h : H1 a = none) : H a = none ∨ a ∈ F := by
  cases q : H a with
  | none => exact .inl rfl
  | some o =>
    by_cases hm : a ∈ F
    · exact .inr hm
    · rw [f.keep a o q hm] at h; cases h
theorem Fr.trans (r : Bs H Z F P) (a : Fr H Z F P H1 Z1 F1 P1) (b : Fr H1 Z1 F1 P1 H2 Z2 F2 P2) : Fr H Z F P H2 Z2 F2 P2 where
  keep := fun x o h hm => by
    have h1 := a.keep x o h hm
    refine b.keep x o h1 fun q => ?_
    rcases a.m x q with z | z
    · exact hm z
    · rw [z] at h; cases h
  z1 := fun x h => by
    rcases b.z1 x h with q | q
    · exact a.z1 x q
    · rcases Fr.back r a q with z | z
      · exact .inr z
      · exact .inl (r.fz x z)
  z2 := fun x h hm => b.z2 x (a.z2 x h hm) fun q => by
    rcases a.m x q with z | z
    · exact hm z
    · exact r.zs x h z
  m := fun x h => by
    rcases b.m x h with q | q
    · exact a.m x q
    · rcases Fr.back r a q with z | z
      · exact .inr z
      · exact .inl z
  p := fun x h => by
    rcases b.p x h with q | q | q
    · exact a.p x q
    · exact .inr (a.m x q)
    · rcases Fr.back r a q with z | z
      · exact .inr (.inr z)
      · exact .inr (.inl z)
theorem Fr.sub (r : Bs H Z F P) (f : Fr H Z F P H1 Z1 F1 P1) : Sub (hid Z H) (hid Z1 H1) := fun a o e => by
  obtain ⟨e1, e2⟩ := hid_some.mp e
  have nm : a ∉ F := fun q => by rw [r.fz a q] at e1; cases e1
  refine hid_some.mpr ⟨?_, f.keep a o e2 nm⟩
  cases q : Z1 a with
  | false => rfl
  | true =>
    rcases f.z1 a q with z | z
    · rw [e1] at z; cases z
    · rw [e2] at z; cases z
/-- what is owned but not by the slots is left alone -/
theorem Fr.same (f : Fr H Z F P H1 Z1 F1 P1) {a : Addr} (h : H a ≠ none) (hm : a ∉ F) : H1 a = H a := by
  cases q : H a with
  | none => exact absurd q h
  | some o => rw [f.keep a o q hm]
theorem Own.shift (r : Bs H Z F P) (f : Fr H Z F P H1 Z1 F1 P1) (o : Own H1 F1 Z2 M2 P2 L) : Own H F Z2 M2 P2 L := ⟨o.nd, o.z, o.nm, o.np, fun a h => by
  rcases o.old a h with q | q
  · exact f.m a q
  · rcases Fr.back r f q with z | z
    · exact .inr z
    · exact .inl z⟩
theorem Own.nil {H : Hp} {M : List Addr} {Z' : Addr → Bool} {M' P' : List Addr} : Own H M Z' M' P' [] := ⟨.nil, fun _ h => (nomatch h), fun _ h => (nomatch h), fun _ h => (nomatch h), fun _ h => (nomatch h)⟩
/-- owned by no slot: pending -/
structure Pend (Z : Addr → Bool) (M P F L : List Addr) : Prop where
  nd : L.Nodup
  z : ∀ a ∈ L, Z a = true
  nm : ∀ a ∈ L, a ∉ M
  np : ∀ a ∈ L, a ∉ P
  lf : ∀ a ∈ L, a ∈ F
theorem Pend.nil : Pend Z M P F [] := ⟨.nil, fun _ h => (nomatch h), fun _ h => (nomatch h), fun _ h => (nomatch h), fun _ h => (nomatch h)⟩
theorem Pend.own (p : Pend Z M P F L) : Own H F Z M P L := ⟨p.nd, p.z, p.nm, p.np, fun a h => .inl (p.lf a h)⟩
/-- pending, through what follows -/
theorem Pend.step (b : ∀ a, Z1 a = true → H1 a ≠ none) (f : Fr H1 Z1 M1 P1 H2 Z2 M2 P2) (o : Pend Z1 M1 P1 F1 L) (hf : ∀ a ∈ F1, a ∉ M1 → a ∈ F2) : Pend Z2 M2 P2 F2 L := ⟨o.nd, fun a h => f.z2 a (o.z a h) (o.nm a h), fun a h q => by
  rcases f.m a q with z | z
  · exact o.nm a h z
  · exact b a (o.z a h) z, fun a h q => by
  rcases f.p a q with z | z | z
  · exact o.np a h z
  · exact o.nm a h z
  · exact b a (o.z a h) z, fun a h => hf a (o.lf a h) (o.nm a h)⟩
theorem RpX.step {v : V} {d : D} (r1 : Bs H1 Z1 M1 P1) (f : Fr H1 Z1 M1 P1 H2 Z2 M2 P2) (o : Pend Z1 M1 P1 F1 L) (h : RpX K H1 Z1 v d L) : RpX K H2 Z2 v d L :=
  RpX.mono (f.sub r1) d (fun a ha => f.same (r1.zs a (o.z a ha)) (o.nm a ha)) h
theorem RpV.step {v : V} {d : D} (r1 : Bs H1 Z1 M1 P1) (f : Fr H1 Z1 M1 P1 H2 Z2 M2 P2) (h : RpV K (hid Z1 H1) v d) : RpV K (hid Z2 H2) v d := RpV.mono (f.sub r1) d h
theorem RpVs.step {vs : List V} {ds : List D} (r1 : Bs H1 Z1 M1 P1) (f : Fr H1 Z1 M1 P1 H2 Z2 M2 P2) (h : RpVs K (hid Z1 H1) vs ds) : RpVs K (hid Z2 H2) vs ds := RpVs.mono (f.sub r1) ds h
end
/-! ### results -/
def RvR (K : PySem.W.Frag) (H : Hp) (Z : Addr → Bool) (σ : L2.St) (r : RV) (v : V) (L : List Addr) : Prop := match r with
  | .v d => RpX K H Z v d L
  | .ref i => σ[i]? = some (some v) ∧ L = []
inductive RvsR (K : PySem.W.Frag) (H : Hp) (Z : Addr → Bool) (σ : L2.St) : List RV → List V → List Addr → Prop
  | nil : RvsR K H Z σ [] [] []
  | cons {r : RV} {v : V} {L L' : List Addr} {rs : List RV} {vs : List V} : RvR K H Z σ r v L → RvsR K H Z σ rs vs L' → RvsR K H Z σ (r :: rs) (v :: vs) (L ++ L')
def BoR (_ : PySem.W.Frag) (_ : Hp) (_ : Addr → Bool) (_ : L2.St) (b : Bool) (c : Bool) (L : List Addr) : Prop := c = b ∧ L = []
/-- an exception: its class (by number), its payload -/
abbrev XR := Nat → Option D → PySem.W.Frag → Hp → (Addr → Bool) → Value → Option Addr → Prop
section
variable {α β : Type} (Rl : PySem.W.Frag → Hp → (Addr → Bool) → L2.St → α → β → List Addr → Prop) (xr : XR) (K : PySem.W.Frag) (W : WX)
def Done (H : Hp) (Z : Addr → Bool) (F P : List Addr) (σ : L2.St) (Q : β → Hp → Prop) : Res α → Prop
  | .ok a env' => ∀ b H' Z' M' P' L, Rep K H' Z' M' P' env' σ → Fr H Z F P H' Z' M' P' → Rl K H' Z' σ a b L → Own H F Z' M' P' L → Q b H'
  | .ex c p env' => ∀ cls dd H' Z' M' P', Rep K H' Z' M' P' env' σ → Fr H Z F P H' Z' M' P' → xr c p K H' Z' cls dd → W cls dd σ H'
  | .bad => False
def rd (f : En → Res α) : L2.St → Hp → (β → Hp → Prop) → Prop := fun σ H Q => ∃ Z M P env, Rep K H Z M P env σ ∧ Done Rl xr K W H Z M P σ Q (f env)
end
/-- what is known at a place: the slots, what is pending -/
structure Here (K : PySem.W.Frag) (σ : L2.St) (H : Hp) (Z : Addr → Bool) (M P F : List Addr) (env : En) : Prop where
  rep : Rep K H Z M P env σ
  bs : Bs H Z F P
  mf : ∀ a ∈ M, a ∈ F
section
variable {α β γ δ : Type} {Rl : PySem.W.Frag → Hp → (Addr → Bool) → L2.St → α → β → List Addr → Prop} {Rl2 : PySem.W.Frag → Hp → (Addr → Bool) → L2.St → γ → δ → List Addr → Prop} {xr : XR} {K : PySem.W.Frag} {W : WX}
  {H H1 H2 : Hp} {Z Z1 Z2 : Addr → Bool} {M M1 M2 P P1 P2 L F F1 : List Addr} {env env1 env2 : En} {σ : L2.St}
theorem Rep.here (r : Rep K H Z M P env σ) : Here K σ H Z M P M env := ⟨r, r.bs, fun _ h => h⟩
theorem Done.shift {Q : β → Hp → Prop} {r : Res α} (rp : Bs H Z F P) (f : Fr H Z F P H1 Z1 F1 P1) (d : Done Rl xr K W H Z F P σ Q r) : Done Rl xr K W H1 Z1 F1 P1 σ Q r := by
  cases r with
  | ok a e => exact fun b H' Z' M' P' L r' f' x o => d b H' Z' M' P' L r' (f.trans rp f') x (o.shift rp f)
  | ex c p e => exact fun cls dd H' Z' M' P' r' f' x => d cls dd H' Z' M' P' r' (f.trans rp f') x
  | bad => exact d
theorem Done.less {Q : β → Hp → Prop} {r : Res α} (h : Here K σ H Z M P F env) (d : Done Rl xr K W H Z F P σ Q r) : Done Rl xr K W H Z M P σ Q r := by
  have fr : ∀ {H' : Hp} {Z' : Addr → Bool} {M' P' : List Addr}, Fr H Z M P H' Z' M' P' → Fr H Z F P H' Z' M' P' := fun {H' Z' M' P'} f => by
    refine ⟨fun a u e hm => f.keep a u e fun q => hm (h.mf a q), f.z1, fun a e hm => f.z2 a e fun q => hm (h.mf a q), fun a ha => ?_, fun a ha => ?_⟩
    · rcases f.m a ha with z | z
      · exact .inl (h.mf a z)
      · exact .inr z
    · rcases f.p a ha with z | z | z
      · exact .inl z
      · exact .inr (.inl (h.mf a z))
      · exact .inr (.inr z)
  cases r with
  | ok a e => exact fun b H' Z' M' P' L r' f' x o => d b H' Z' M' P' L r' (fr f') x ⟨o.nd, o.z, o.nm, o.np, fun a ha => (o.old a ha).imp (h.mf a) id⟩
  | ex c p e => exact fun cls dd H' Z' M' P' r' f' x => d cls dd H' Z' M' P' r' (fr f') x
  | bad => exact d
theorem Here.last {Q : β → Hp → Prop} {g : En → Res α} (h : Here K σ H Z M P F env) (d : Done Rl xr K W H Z F P σ Q (g env)) : rd Rl xr K W g σ H Q := ⟨Z, M, P, env, h.rep, Done.less h d⟩
/-- the new F -/
theorem Fr.grow {σ1 : L2.St} (h : Here K σ H Z M P F env) (r1 : Rep K H1 Z1 M1 P1 env1 σ1) (f : Fr H Z M P H1 Z1 M1 P1) (o : Own H M Z1 M1 P1 L) :
    ∃ F1, Fr H Z F P H1 Z1 F1 P1 ∧ Here K σ1 H1 Z1 M1 P1 F1 env1 ∧ Pend Z1 M1 P1 F1 L ∧ ∀ a ∈ F, a ∉ M → a ∈ F1 := by
  refine ⟨M1 ++ (L ++ F.filter fun a => !M.contains a), ⟨fun a u e hm => f.keep a u e fun q => hm (h.mf a q), f.z1, fun a e hm => f.z2 a e fun q => hm (h.mf a q), fun a ha => ?_, fun a ha => ?_⟩, ⟨r1, ⟨fun a ha => ?_, r1.psub, fun a => r1.zs, fun a ha q => ?_⟩, fun a ha => List.mem_append_left _ ha⟩, ⟨o.nd, o.z, o.nm, o.np, fun a ha => List.mem_append_right _ (List.mem_append_left _ ha)⟩, fun a ha hm => ?_⟩
  · rcases List.mem_append.mp ha with q | q
    · rcases f.m a q with z | z
      · exact .inl (h.mf a z)
      · exact .inr z
    · rcases List.mem_append.mp q with q | q
      · rcases o.old a q with z | z
        · exact .inl (h.mf a z)
        · exact .inr z
      · exact .inl (List.mem_filter.mp q).1
  · rcases f.p a ha with z | z | z
    · exact .inl z
    · exact .inr (.inl (h.mf a z))
    · exact .inr (.inr z)
  · rcases List.mem_append.mp ha with q | q
    · exact r1.msub a q
    · rcases List.mem_append.mp q with q | q
      · exact o.z a q
      · obtain ⟨q1, q2⟩ := List.mem_filter.mp q
        exact f.z2 a (h.bs.fz a q1) (by simpa using q2)
  · rcases List.mem_append.mp q with q | q
    · exact r1.dis ha q
    · rcases List.mem_append.mp q with q | q
      · exact o.np a q ha
      · obtain ⟨q1, q2⟩ := List.mem_filter.mp q
        rcases f.p a ha with z | z | z
        · exact h.bs.dis a z q1
        · exact (by simpa using q2 : a ∉ M) z
        · exact h.bs.zs a (h.bs.fz a q1) z
  · exact List.mem_append_right _ (List.mem_append_right _ (List.mem_filter.mpr ⟨ha, by simpa using hm⟩))
/-- from a part to what follows it: the part was run at (H, M), F is what is ours there -/
theorem Done.bind {Q : δ → Hp → Prop} {R : β → Hp → Prop} {g : Res α} {k : α → En → Res γ} (h : Here K σ H Z M P F env) (d : Done Rl2 xr K W H Z F P σ Q (g.bind k))
    (step : ∀ a env1 b H1 Z1 M1 P1 F1 L, Here K σ H1 Z1 M1 P1 F1 env1 → Pend Z1 M1 P1 F1 L → Rl K H1 Z1 σ a b L → Fr H Z M P H1 Z1 M1 P1 → ((∀ a ∈ F, a ∉ M → a ∈ F1) ∧ ∀ a ∈ L, a ∈ M ∨ H a = none) → Done Rl2 xr K W H1 Z1 F1 P1 σ Q (k a env1) → R b H1) : Done Rl xr K W H Z M P σ R g := by
  cases g with
  | ok a e =>
    intro b H' Z' M' P' L r' f' x o
    obtain ⟨F1, f1, h1, p1, k1⟩ := Fr.grow h r' f' o
    exact step a e b H' Z' M' P' F1 L h1 p1 x f' ⟨k1, o.old⟩ (Done.shift h.bs f1 d)
  | ex c p e =>
      intro cls dd H' Z' M' P' r' f' x
      refine d cls dd H' Z' M' P' r' ⟨fun a u e hm => f'.keep a u e fun q => hm (h.mf a q), f'.z1, fun a e hm => f'.z2 a e fun q => hm (h.mf a q), fun a ha => ?_, fun a ha => ?_⟩ x
      · rcases f'.m a ha with z | z
        · exact .inl (h.mf a z)
        · exact .inr z
      · rcases f'.p a ha with z | z | z
        · exact .inl z
        · exact .inr (.inl (h.mf a z))
        · exact .inr (.inr z)
  | bad => exact d
theorem rd_bind {Q : δ → Hp → Prop} {R : β → Hp → Prop} {g : En → Res α} {k : α → En → Res γ} (h : rd Rl2 xr K W (fun env => (g env).bind k) σ H Q)
    (step : ∀ a env1 b H1 Z1 M1 P1 F1 L, Here K σ H1 Z1 M1 P1 F1 env1 → Pend Z1 M1 P1 F1 L → Rl K H1 Z1 σ a b L → Done Rl2 xr K W H1 Z1 F1 P1 σ Q (k a env1) → R b H1) : rd Rl xr K W g σ H R := by
  obtain ⟨Z, M, P, env, rp, d⟩ := h
  exact ⟨Z, M, P, env, rp, Done.bind rp.here d fun a env1 b H1 Z1 M1 P1 F1 L x p r f _ d => step a env1 b H1 Z1 M1 P1 F1 L x p r d⟩
/-- the next part -/
theorem Here.bind {Q : δ → Hp → Prop} {R : β → Hp → Prop} {g : En → Res α} {k : α → En → Res γ} (h : Here K σ H Z M P F env) (d : Done Rl2 xr K W H Z F P σ Q ((g env).bind k))
    (step : ∀ a env1 b H1 Z1 M1 P1 F1 L, Here K σ H1 Z1 M1 P1 F1 env1 → Pend Z1 M1 P1 F1 L → Rl K H1 Z1 σ a b L → Fr H Z M P H1 Z1 M1 P1 → ((∀ a ∈ F, a ∉ M → a ∈ F1) ∧ ∀ a ∈ L, a ∈ M ∨ H a = none) → Done Rl2 xr K W H1 Z1 F1 P1 σ Q (k a env1) → R b H1) : rd Rl xr K W g σ H R :=
  ⟨Z, M, P, env, h.rep, Done.bind h d step⟩
end
/-! ### handing back -/
section
variable {xr : XR} {K : PySem.W.Frag} {W : WX} {H : Hp} {Z : Addr → Bool} {M P L F : List Addr} {env : En} {σ : L2.St} {Q : VK}
theorem Here.fr (h : Here K σ H Z M P F env) : Fr H Z F P H Z M P := ⟨fun _ _ h _ => h, fun _ h => .inl h, fun _ h _ => h, fun a q => .inl (h.mf a q), fun _ h => .inl h⟩
theorem ret_val {v : V} {d : D} (rp : Here K σ H Z M P F env) (h : Done RvR xr K W H Z F P σ Q (.ok (.v d) env)) (r : RpV K (hid Z H) v d) : Q v H :=
  h v H Z M P [] rp.rep rp.fr (.val r) Own.nil
theorem RpE.mono {H1 : Hp} {Z1 : Addr → Bool} (s : Sub (hid Z H) (hid Z1 H1)) (h : RpE K H Z M P env σ) (k : ∀ a ∈ M ++ P, H1 a = H a) : RpE K H1 Z1 M P env σ := by
  induction h with
  | nil => exact .nil
  | un _ ih => exact .un (ih k)
  | on x _ ih =>
    refine .on (RpX.mono s _ (fun a ha => k a ?_) x) (ih fun a ha => k a ?_)
    · exact List.mem_append_left _ (List.mem_append_left _ ha)
    · rw [List.append_assoc]; exact List.mem_append_right _ ha
  | @lk M P L env σ v d x _ ih =>
    refine .lk (RpX.mono s _ (fun a ha => k a ?_) x) (ih fun a ha => k a ?_)
    · exact List.mem_append_right _ (List.mem_append_left _ ha)
    · rcases List.mem_append.mp ha with z | z
      · exact List.mem_append_left _ z
      · exact List.mem_append_right _ (List.mem_append_right _ z)
theorem Rep.mono {H1 : Hp} {Z1 : Addr → Bool} (r : Rep K H Z M P env σ) (s : Sub (hid Z H) (hid Z1 H1)) (k : ∀ a ∈ M ++ P, H1 a = H a) (z : ∀ a ∈ M ++ P, Z1 a = true) (zl : ∀ a, Z1 a = true → ∃ xs, H1 a = some (.lst xs)) : Rep K H1 Z1 M P env σ :=
  let ⟨M0, P0, x, m, p⟩ := r.rp
  ⟨⟨M0, P0, x.mono s fun a h => k a (by
    rcases List.mem_append.mp h with q | q
    · exact List.mem_append_left _ (m.mem_iff.mp q)
    · exact List.mem_append_right _ (p.mem_iff.mp q)), m, p⟩, r.nd, z, zl⟩
/-- a new object that is not hidden -/
theorem Rep.alloc {p : Addr} {o : HO} (r : Rep K H Z M P env σ) (hp : H p = none) : Rep K (upd H p o) Z M P env σ ∧ ∀ F, Fr H Z F P (upd H p o) Z F P := by
  have hne : ∀ a u, H a = some u → upd H p o a = some u := fun a u e => by rw [upd_ne (ne_of_none e hp)]; exact e
  have zp : Z p = false := by
    cases q : Z p with
    | false => rfl
    | true => exact absurd hp (r.zs q)
  refine ⟨r.mono (fun a u e => ?_) (fun a ha => ?_) r.sub (fun a ha => ?_), fun F => ⟨fun a u e _ => hne a u e, fun a e => .inl e, fun a e _ => e, fun a e => .inl e, fun a e => .inl e⟩⟩
  · obtain ⟨e1, e2⟩ := hid_some.mp e
    exact hid_some.mpr ⟨e1, hne a u e2⟩
  · refine upd_ne fun e => ?_
    subst e
    exact r.zs (r.sub _ ha) hp
  · obtain ⟨xs, e⟩ := r.zl a ha
    exact ⟨xs, hne a _ e⟩
/-- a new list that is ours -/
theorem Rep.allocL {p : Addr} {vs : List V} (r : Rep K H Z M P env σ) (hp : H p = none) : Rep K (upd H p (.lst vs)) (inn Z [p]) M P env σ ∧ (∀ F, Fr H Z F P (upd H p (.lst vs)) (inn Z [p]) F P) ∧ Own H M (inn Z [p]) M P [p] ∧ Sub (hid Z H) (hid (inn Z [p]) (upd H p (.lst vs))) := by
  have hne : ∀ a u, H a = some u → upd H p (.lst vs) a = some u := fun a u e => by rw [upd_ne (ne_of_none e hp)]; exact e
  have s : Sub (hid Z H) (hid (inn Z [p]) (upd H p (.lst vs))) := fun a u e => by
    obtain ⟨e1, e2⟩ := hid_some.mp e
    refine hid_some.mpr ⟨?_, hne a u e2⟩
    cases q : inn Z [p] a with
    | false => rfl
    | true =>
      rcases inn_true.mp q with z | z
      · rw [z] at e1; cases e1
      · have : a = p := by simpa using z
        subst this
        rw [hp] at e2; cases e2
  refine ⟨r.mono s (fun a ha => ?_) (fun a ha => inn_true.mpr (.inl (r.sub a ha))) (fun a ha => ?_), fun F => ⟨fun a u e _ => hne a u e, fun a e => ?_, fun a e _ => inn_true.mpr (.inl e), fun a e => .inl e, fun a e => .inl e⟩, ⟨by simp, fun a h => inn_true.mpr (.inr h), fun a h q => ?_, fun a h q => ?_, fun a h => ?_⟩, s⟩
  · refine upd_ne fun e => ?_
    subst e
    exact r.zs (r.sub _ ha) hp
  · rcases inn_true.mp ha with z | z
    · obtain ⟨xs, e⟩ := r.zl a z
      exact ⟨xs, hne a _ e⟩
    · have : a = p := by simpa using z
      subst this
      exact ⟨vs, upd_same⟩
  · rcases inn_true.mp e with z | z
    · exact .inl z
    · have : a = p := by simpa using z
      subst this
      exact .inr hp
  · have : a = p := by simpa using h
    subst this
    exact r.zs (r.msub _ q) hp
  · have : a = p := by simpa using h
    subst this
    exact r.zs (r.psub _ q) hp
  · have : a = p := by simpa using h
    subst this
    exact .inr hp
theorem ret_tup {vs : List V} {ds : List D} (rp : Here K σ H Z M P F env) (h : Done RvR xr K W H Z F P σ Q (.ok (.v (.tup ds)) env)) (r : RpVs K (hid Z H) vs ds) : ∀ p, H p = none → Q (.ref p) (upd H p (.tup vs)) := fun p hp => by
  obtain ⟨r1, f1⟩ := rp.rep.alloc (o := .tup vs) hp
  have zp : Z p = false := by
    cases q : Z p with
    | false => rfl
    | true => exact absurd hp (rp.rep.zs q)
  exact h _ _ _ _ _ [] r1 (Fr.trans rp.bs rp.fr (f1 M)) (.val (.tup (.inl (.inl (hid_some.mpr ⟨zp, upd_same⟩))) (RpVs.mono ((f1 M).sub rp.rep.bs) ds r))) Own.nil
theorem ret_lst {vs : List V} {ds : List D} (rp : Here K σ H Z M P F env) (h : Done RvR xr K W H Z F P σ Q (.ok (.v (.mls ds)) env)) (r : RpVs K (hid Z H) vs ds) : ∀ p, H p = none → Q (.ref p) (upd H p (.lst vs)) := fun p hp => by
  obtain ⟨r1, f1, o1, s1⟩ := rp.rep.allocL (vs := vs) hp
  have ol : ∀ a ∈ [p], a ∈ F ∨ H a = none := fun a ha => by
    have : a = p := by simpa using ha
    rw [this]; exact .inr hp
  exact h _ _ _ _ _ [p] r1 (Fr.trans rp.bs rp.fr (f1 M)) (.mls upd_same (RpXs.vals (RpVs.mono s1 ds r))) ⟨o1.nd, o1.z, o1.nm, o1.np, ol⟩
end
end Ev
namespace Ev
open PySem PySem.Spec PyProof.Rows L2
section
variable {K : PySem.W.Frag} {H H1 : Hp} {Z Z1 : Addr → Bool} {M M1 P P1 L F : List Addr} {env env1 : En} {σ : L2.St}
theorem RpE.len (h : RpE K H Z M P env σ) : env.length = σ.length := by
  induction h with
  | nil => rfl
  | un _ ih => simp [ih]
  | on _ _ ih => simp [ih]
  | lk _ _ ih => simp [ih]
theorem RpE.peek {i : Nat} {w : D} (h : RpE K H Z M P env σ) (e : env[i]? = some (.on w) ∨ env[i]? = some (.lk w)) : ∃ v L, σ[i]? = some (some v) ∧ RpX K H Z v w L := by
  induction h generalizing i with
  | nil => simp at e
  | un _ ih =>
    cases i with
    | zero => simp at e
    | succ i => exact ih (by simpa using e)
  | @on M P L env σ v d x _ ih =>
    cases i with
    | zero =>
      have e' : d = w := by simpa using e
      subst e'
      exact ⟨v, L, rfl, x⟩
    | succ i => exact ih (by simpa using e)
  | @lk M P L env σ v d x _ ih =>
    cases i with
    | zero =>
      have e' : d = w := by simpa using e
      subst e'
      exact ⟨v, L, rfl, x⟩
    | succ i => exact ih (by simpa using e)
theorem RpE.peekL {i : Nat} {w : D} (h : RpE K H Z M P env σ) (e : env[i]? = some (.lk w)) : ∃ v L, σ[i]? = some (some v) ∧ RpX K H Z v w L ∧ ∀ a ∈ L, a ∈ P := by
  induction h generalizing i with
  | nil => simp at e
  | un _ ih =>
    cases i with
    | zero => simp at e
    | succ i => exact ih (by simpa using e)
  | @on M P L env σ v d x _ ih =>
    cases i with
    | zero => simp at e
    | succ i => exact ih (by simpa using e)
  | @lk M P L env σ v d x _ ih =>
    cases i with
    | zero =>
      have e' : d = w := by simpa using e
      subst e'
      exact ⟨v, L, rfl, x, fun a ha => List.mem_append_left _ ha⟩
    | succ i =>
      obtain ⟨v', L', a, b, c⟩ := ih (i := i) (by simpa using e)
      exact ⟨v', L', a, b, fun q hq => List.mem_append_right _ (c q hq)⟩
theorem perm3 (A B C : List Addr) : (A ++ (B ++ C)).Perm (B ++ (A ++ C)) := by
  rw [← List.append_assoc, ← List.append_assoc]
  exact List.Perm.append_right C List.perm_append_comm
theorem RpE.takeOn {i : Nat} {w : D} (h : RpE K H Z M P env σ) (e : env[i]? = some (.on w)) : ∃ v L M', σ[i]? = some (some v) ∧ RpX K H Z v w L ∧ M.Perm (L ++ M') ∧ RpE K H Z M' P (env.set i .un) σ := by
  induction h generalizing i with
  | nil => simp at e
  | un _ ih =>
    cases i with
    | zero => simp at e
    | succ i =>
      obtain ⟨v, L, M', a, b, c, d⟩ := ih (i := i) (by simpa using e)
      exact ⟨v, L, M', by simpa using a, b, c, .un d⟩
  | @on M P L env σ v d x h ih =>
    cases i with
    | zero =>
      have e' : d = w := by simpa using e
      subst e'
      exact ⟨v, L, M, rfl, x, .refl _, .un h⟩
    | succ i =>
      obtain ⟨v', L', M', a, b, c, d⟩ := ih (i := i) (by simpa using e)
      exact ⟨v', L', L ++ M', by simpa using a, b, (List.Perm.append_left L c).trans (perm3 _ _ _), .on x d⟩
  | @lk M P L env σ v d x h ih =>
    cases i with
    | zero => simp at e
    | succ i =>
      obtain ⟨v', L', M', a, b, c, d⟩ := ih (i := i) (by simpa using e)
      exact ⟨v', L', M', by simpa using a, b, c, .lk x d⟩
theorem RpE.takeLk {i : Nat} {w : D} (h : RpE K H Z M P env σ) (e : env[i]? = some (.lk w)) : ∃ v L P', σ[i]? = some (some v) ∧ RpX K H Z v w L ∧ P.Perm (L ++ P') ∧ RpE K H Z M P' (env.set i .un) σ := by
  induction h generalizing i with
  | nil => simp at e
  | un _ ih =>
    cases i with
    | zero => simp at e
    | succ i =>
      obtain ⟨v, L, M', a, b, c, d⟩ := ih (i := i) (by simpa using e)
      exact ⟨v, L, M', by simpa using a, b, c, .un d⟩
  | @lk M P L env σ v d x h ih =>
    cases i with
    | zero =>
      have e' : d = w := by simpa using e
      subst e'
      exact ⟨v, L, P, rfl, x, .refl _, .un h⟩
    | succ i =>
      obtain ⟨v', L', M', a, b, c, d⟩ := ih (i := i) (by simpa using e)
      exact ⟨v', L', L ++ M', by simpa using a, b, (List.Perm.append_left L c).trans (perm3 _ _ _), .lk x d⟩
  | @on M P L env σ v d x h ih =>
    cases i with
    | zero => simp at e
    | succ i =>
      obtain ⟨v', L', M', a, b, c, d⟩ := ih (i := i) (by simpa using e)
      exact ⟨v', L', M', by simpa using a, b, c, .on x d⟩
theorem RpE.put {i : Nat} (h : RpE K H Z M P env σ) (e : env[i]? = some .un) : (∀ o, RpE K H Z M P env (σ.set i o)) ∧ ∀ {v : V} {d : D} {L : List Addr}, RpX K H Z v d L →
    (∃ M', M'.Perm (L ++ M) ∧ RpE K H Z M' P (env.set i (.on d)) (σ.set i (some v))) ∧ ∃ P', P'.Perm (L ++ P) ∧ RpE K H Z M P' (env.set i (.lk d)) (σ.set i (some v)) := by
  induction h generalizing i with
  | nil => simp at e
  | un h ih =>
    cases i with
    | zero => exact ⟨fun o => .un h, fun x => ⟨⟨_, .refl _, .on x h⟩, ⟨_, .refl _, .lk x h⟩⟩⟩
    | succ i =>
      obtain ⟨a, b⟩ := ih (i := i) (by simpa using e)
      refine ⟨fun o => .un (a o), fun x => ?_⟩
      obtain ⟨⟨M', c, d⟩, ⟨P', c', d'⟩⟩ := b x
      exact ⟨⟨M', c, .un d⟩, ⟨P', c', .un d'⟩⟩
  | @on M P L env σ v d x h ih =>
    cases i with
    | zero => simp at e
    | succ i =>
      obtain ⟨a, b⟩ := ih (i := i) (by simpa using e)
      refine ⟨fun o => .on x (a o), fun y => ?_⟩
      obtain ⟨⟨M', c, d⟩, ⟨P', c', d'⟩⟩ := b y
      exact ⟨⟨L ++ M', (List.Perm.append_left L c).trans (perm3 _ _ _), .on x d⟩, ⟨P', c', .on x d'⟩⟩
  | @lk M P L env σ v d x h ih =>
    cases i with
    | zero => simp at e
    | succ i =>
      obtain ⟨a, b⟩ := ih (i := i) (by simpa using e)
      refine ⟨fun o => .lk x (a o), fun y => ?_⟩
      obtain ⟨⟨M', c, d⟩, ⟨P', c', d'⟩⟩ := b y
      exact ⟨⟨M', c, .lk x d⟩, ⟨L ++ P', (List.Perm.append_left L c').trans (perm3 _ _ _), .lk x d'⟩⟩
theorem Rep.len (r : Rep K H Z M P env σ) : env.length = σ.length := let ⟨_, _, h, _, _⟩ := r.rp; h.len
theorem Rep.peek {i : Nat} {d : D} (r : Rep K H Z M P env σ) (e : env[i]? = some (.on d) ∨ env[i]? = some (.lk d)) : ∃ v L, σ[i]? = some (some v) ∧ RpX K H Z v d L :=
  let ⟨_, _, h, _, _⟩ := r.rp; h.peek e
theorem Rep.peekL {i : Nat} {d : D} (r : Rep K H Z M P env σ) (e : env[i]? = some (.lk d)) : ∃ v L, σ[i]? = some (some v) ∧ RpX K H Z v d L ∧ ∀ a ∈ L, a ∈ P := by
  obtain ⟨M0, P0, h, _, p⟩ := r.rp
  obtain ⟨v, L, a, b, c⟩ := h.peekL e
  exact ⟨v, L, a, b, fun q hq => p.mem_iff.mp (c q hq)⟩
theorem mem_app_left {A B : List Addr} {a : Addr} (h : a ∈ A) : a ∈ A ++ B := List.mem_append_left _ h
theorem mem_app_right {A B : List Addr} {a : Addr} (h : a ∈ B) : a ∈ A ++ B := List.mem_append_right _ h
/-- a slot's content is taken out: it is pending -/
theorem Here.takeO {i : Nat} {d : D} (h : Here K σ H Z M P F env) (e : env[i]? = some (.on d)) :
    ∃ v L M', σ[i]? = some (some v) ∧ RpX K H Z v d L ∧ Here K σ H Z M' P F (env.set i .un) ∧ Pend Z M' P F L ∧ (∀ a ∈ M', a ∈ M) ∧ ∀ a ∈ L, a ∈ M := by
  obtain ⟨M0, P0, rp, pm, pp⟩ := h.rep.rp
  obtain ⟨v, L, M', a, b, c, d'⟩ := rp.takeOn e
  have hm : ∀ x, x ∈ L ++ M' → x ∈ M := fun x q => pm.mem_iff.mp (c.mem_iff.mpr q)
  have nd : (L ++ M').Nodup := (c.nodup_iff).mp ((pm.nodup_iff).mpr h.rep.mnd)
  obtain ⟨n1, n2, n3⟩ := List.nodup_append.mp nd
  refine ⟨v, L, M', a, b, ⟨⟨⟨M', P0, d', .refl _, pp⟩, ?_, fun x hx => ?_, h.rep.zl⟩, h.bs, fun x hx => h.mf x (hm x (mem_app_right hx))⟩, ⟨n1, fun x hx => h.rep.msub x (hm x (mem_app_left hx)), fun x hx q => n3 x hx x q rfl, fun x hx q => h.rep.dis q (hm x (mem_app_left hx)), fun x hx => h.mf x (hm x (mem_app_left hx))⟩, fun x hx => hm x (mem_app_right hx), fun x hx => hm x (mem_app_left hx)⟩
  · refine List.nodup_append.mpr ⟨n2, h.rep.pnd, fun x hx y hy q => ?_⟩
    subst q
    exact h.rep.dis hy (hm x (mem_app_right hx))
  · rcases List.mem_append.mp hx with q | q
    · exact h.rep.msub x (hm x (mem_app_right q))
    · exact h.rep.psub x q
/-- what is pending comes to a slot -/
theorem Here.put {i : Nat} {v : V} {d : D} (h : Here K σ H Z M P F env) (p : Pend Z M P F L) (e : env[i]? = some .un) (x : RpX K H Z v d L) : Here K (σ.set i (some v)) H Z (L ++ M) P F (env.set i (.on d)) := by
  obtain ⟨M0, P0, rp, pm, pp⟩ := h.rep.rp
  obtain ⟨⟨M', c, d'⟩, _⟩ := (rp.put e).2 x
  refine ⟨⟨⟨M', P0, d', c.trans (List.Perm.append_left L pm), pp⟩, ?_, fun a ha => ?_, h.rep.zl⟩, h.bs, fun a ha => ?_⟩
  · refine List.nodup_append.mpr ⟨List.nodup_append.mpr ⟨p.nd, h.rep.mnd, fun a ha b hb q => p.nm a ha (q ▸ hb)⟩, h.rep.pnd, fun a ha b hb q => ?_⟩
    subst q
    rcases List.mem_append.mp ha with q | q
    · exact p.np a q hb
    · exact h.rep.dis hb q
  · rcases List.mem_append.mp ha with q | q
    · rcases List.mem_append.mp q with q | q
      · exact p.z a q
      · exact h.rep.msub a q
    · exact h.rep.psub a q
  · rcases List.mem_append.mp ha with q | q
    · exact p.lf a q
    · exact h.mf a q
theorem Here.any {i : Nat} (h : Here K σ H Z M P F env) (e : env[i]? = some .un) (o : Option V) : Here K (σ.set i o) H Z M P F env := by
  obtain ⟨M0, P0, rp, pm, pp⟩ := h.rep.rp
  exact ⟨⟨⟨M0, P0, (rp.put e).1 o, pm, pp⟩, h.rep.nd, h.rep.sub, h.rep.zl⟩, h.bs, h.mf⟩
theorem set_self {σ : L2.St} {i : Nat} {o : Option V} (h : σ[i]? = some o) : σ.set i o = σ := by
  apply List.ext_getElem?
  intro j
  by_cases hj : i = j
  · subst hj
    have hl : i < σ.length := by
      rcases Nat.lt_or_ge i σ.length with q | q
      · exact q
      · rw [List.getElem?_eq_none q] at h; cases h
    rw [List.getElem?_set_self hl, h]
  · rw [List.getElem?_set_ne hj]
theorem set_un {i : Nat} {s : Slot} (h : env[i]? = some s) (t : Slot) : (env.set i t)[i]? = some t := by
  have hl : i < env.length := by
    rcases Nat.lt_or_ge i env.length with q | q
    · exact q
    · rw [List.getElem?_eq_none q] at h; cases h
  rw [List.getElem?_set_self hl]
theorem set_set {i : Nat} {s t : Slot} : (env.set i s).set i t = env.set i t := List.set_set ..
/-- what is pending is given up: it is shared from now on -/
theorem Here.free {v : V} {d : D} (h : Here K σ H Z M P F env) (p : Pend Z M P F L) (x : RpX K H Z v d L) :
    ∃ F', Here K σ H (out Z L) M P F' env ∧ RpV K (hid (out Z L) H) v d.fz ∧ Fr H Z F P H (out Z L) F' P ∧ (∀ a, a ∈ F → a ∉ L → a ∈ F') ∧ Sub (hid Z H) (hid (out Z L) H) := by
  have s : Sub (hid Z H) (hid (out Z L) H) := hid_imp fun a q => (out_true.mp q).1
  refine ⟨F.filter fun a => !L.contains a, ⟨h.rep.mono s (fun _ _ => rfl) (fun a ha => out_true.mpr ⟨h.rep.sub a ha, fun q => ?_⟩) (fun a q => h.rep.zl a (out_true.mp q).1), ⟨fun a ha => ?_, fun a ha => out_true.mpr ⟨h.bs.pz a ha, fun q => p.np a q ha⟩, fun a q => h.bs.zs a (out_true.mp q).1, fun a ha q => h.bs.dis a ha (List.mem_filter.mp q).1⟩, fun a ha => ?_⟩, RpX.fz s d (fun a ha => ?_) x, ⟨fun _ _ e _ => e, fun a q => .inl (out_true.mp q).1, fun a q hm => out_true.mpr ⟨q, fun z => hm (p.lf a z)⟩, fun a ha => .inl (List.mem_filter.mp ha).1, fun _ q => .inl q⟩, fun a ha hl => List.mem_filter.mpr ⟨ha, by simpa using hl⟩, s⟩
  · rcases List.mem_append.mp ha with z | z
    · exact p.nm a q z
    · exact p.np a q z
  · obtain ⟨q1, q2⟩ := List.mem_filter.mp ha
    exact out_true.mpr ⟨h.bs.fz a q1, by simpa using q2⟩
  · exact List.mem_filter.mpr ⟨h.mf a ha, by
      have : a ∉ L := fun q => p.nm a q ha
      simpa using this⟩
  · cases q : out Z L a with
    | false => rfl
    | true => exact absurd ha (out_true.mp q).2
end
/-! ### as it is read -/
/-- readable: shared, or an owned list of shared things -/
def VR (K : PySem.W.Frag) (H : Hp) (Z : Addr → Bool) (v : V) (d : D) : Prop := RpV K (hid Z H) v d ∨ ∃ a vs xs, v = .ref a ∧ d = .lst xs ∧ H a = some (.lst vs) ∧ RpVs K (hid Z H) vs xs
section
variable {K : PySem.W.Frag} {H H1 : Hp} {Z Z1 : Addr → Bool} {M M1 P P1 L F : List Addr} {env env1 : En} {σ : L2.St}
theorem view_ok {v : V} {d d' : D} (h : d.view = some d') (x : RpX K H Z v d L) : VR K H Z v d' := by
  cases d with
  | mls xs =>
    cases x with
    | val x => cases x
    | @mls a vs _ L' h1 h2 =>
      by_cases hn : D.noMs xs = true
      · have h' : some (D.lst xs) = some d' := by rw [← h]; show _ = (if D.noMs xs = true then _ else _); rw [if_pos hn]
        cases h'
        exact .inr ⟨a, vs, xs, rfl, rfl, h1, (RpXs.ofNoM hn h2).1⟩
      · have h' : none = some d' := by rw [← h]; show _ = (if D.noMs xs = true then _ else _); rw [if_neg hn]
        cases h'
  | _ =>
    cases h
    cases x with
    | val x => exact .inl x
theorem RvR.view {r : RV} {v : V} {d : D} (rp : Rep K H Z M P env σ) (x : RvR K H Z σ r v L) (h : r.view env = some d) : VR K H Z v d := by
  cases r with
  | v d0 => exact view_ok h x
  | ref i =>
    obtain ⟨e, _⟩ := x
    have key : ∀ d0, (env[i]? = some (.on d0) ∨ env[i]? = some (.lk d0)) → d0.view = some d → VR K H Z v d := fun d0 q hv => by
      obtain ⟨v', L', e', x'⟩ := rp.peek q
      rw [e] at e'; cases e'
      exact view_ok hv x'
    unfold RV.view at h
    cases q : env[i]? with
    | none => simp only [q] at h; cases h
    | some s =>
      cases s with
      | un => simp only [q] at h; cases h
      | on d0 => simp only [q] at h; exact key d0 (by rw [q]; exact .inl rfl) h
      | lk d0 => simp only [q] at h; exact key d0 (by rw [q]; exact .inr rfl) h
theorem RvR.cont {r : RV} {v : V} {d : D} (rp : Rep K H Z M P env σ) (x : RvR K H Z σ r v L) (h : r.cont env = some d) : ∃ L', RpX K H Z v d L' := by
  cases r with
  | v d0 => cases h; exact ⟨L, x⟩
  | ref i =>
    obtain ⟨e, _⟩ := x
    have key : ∀ d0, (env[i]? = some (.on d0) ∨ env[i]? = some (.lk d0)) → d0 = d → ∃ L', RpX K H Z v d L' := fun d0 q hv => by
      obtain ⟨v', L', e', x'⟩ := rp.peek q
      rw [e] at e'; cases e'
      subst hv
      exact ⟨L', x'⟩
    unfold RV.cont at h
    cases q : env[i]? with
    | none => simp only [q] at h; cases h
    | some s =>
      cases s with
      | un => simp only [q] at h; cases h
      | on d0 => simp only [q] at h; exact key d0 (by rw [q]; exact .inl rfl) (Option.some.inj h)
      | lk d0 => simp only [q] at h; exact key d0 (by rw [q]; exact .inr rfl) (Option.some.inj h)
theorem VR.int {v : V} {i : Int} (h : VR K H Z v (.int i)) : v = .int i := by
  rcases h with h | ⟨_, _, _, _, e, _⟩
  · cases h; rfl
  · cases e
theorem VR.bl {v : V} {i : Bool} (h : VR K H Z v (.bl i)) : v = .bl i := by
  rcases h with h | ⟨_, _, _, _, e, _⟩
  · cases h; rfl
  · cases e
theorem VR.str {v : V} {i : Str} (h : VR K H Z v (.str i)) : v = .str i := by
  rcases h with h | ⟨_, _, _, _, e, _⟩
  · cases h; rfl
  · cases e
theorem VR.non {v : V} (h : VR K H Z v .non) : v = .non := by
  rcases h with h | ⟨_, _, _, _, e, _⟩
  · cases h; rfl
  · cases e
theorem VR.tup {v : V} {ds : List D} (h : VR K H Z v (.tup ds)) : ∃ a vs, v = .ref a ∧ SqT K H a vs ∧ RpVs K (hid Z H) vs ds := by
  rcases h with h | ⟨_, _, _, _, e, _⟩
  · cases h with
    | tup a b => exact ⟨_, _, rfl, hid_sub.t a, b⟩
  · cases e
theorem VR.lst {v : V} {ds : List D} (h : VR K H Z v (.lst ds)) : ∃ a vs, v = .ref a ∧ H a = some (.lst vs) ∧ RpVs K (hid Z H) vs ds := by
  rcases h with h | ⟨a, vs, xs, rfl, e, h1, h2⟩
  · cases h with
    | lst a b => exact ⟨_, _, rfl, hid_sub _ _ a, b⟩
  · cases e
    exact ⟨a, vs, rfl, h1, h2⟩
theorem VR.rol {v : V} {ds : List D} (h : VR K H Z v (.rol ds)) : ∃ a vs, v = .ref a ∧ SqL K H a vs ∧ RpVs K (hid Z H) vs ds := by
  rcases h with h | ⟨a, vs, xs, rfl, e, h1, h2⟩
  · cases h with
    | rol a b => exact ⟨_, _, rfl, hid_sub.l a, b⟩
  · cases e
theorem VR.dp {v : V} {d : D} (h : VR K H Z v d) : Dp K H v d.toP := by
  rcases h with h | ⟨a, vs, xs, rfl, rfl, h1, h2⟩
  · exact RpV.dp d (RpV.mono hid_sub d h)
  · exact .lst (.inl (.inl h1)) (RpVs.dp xs (RpVs.mono hid_sub xs h2))
theorem VR.noMls {v : V} {ds : List D} (h : VR K H Z v (.mls ds)) : False := by
  rcases h with h | ⟨_, _, _, _, e, _⟩
  · cases h
  · cases e
end
end Ev
namespace Ev
open PySem PySem.Spec PyProof.Rows L2
theorem pe_weak {X : Cx} {e : Expr} {t t' : TE} (h : PE X e t) (i : ∀ σ H Q, t' σ H Q → t σ H Q) : PE X e t' := ⟨fun pins s σ H Q I q => h.run pins s σ H Q I (i σ H Q q)⟩
theorem pt_weak {X : Cx} {e : Expr} {t t' : TT} (h : PT X e t) (i : ∀ σ H Q, t' σ H Q → t σ H Q) : PT X e t' := ⟨fun pins s σ H Q I q => h.run pins s σ H Q I (i σ H Q q)⟩
theorem pw_weak {X : Cx} {e : Expr} {t t' : TT} (h : PW X e t) (i : ∀ σ H Q, t' σ H Q → t σ H Q) : PW X e t' := ⟨fun whole pins s σ H Q I q => h.run whole pins s σ H Q I (i σ H Q q)⟩
theorem pa_weak {X : Cx} {e : List Expr} {t t' : TA} (h : PA X e t) (i : ∀ σ H Q, t' σ H Q → t σ H Q) : PA X e t' := ⟨fun pos pins s σ H Q I q => h.run pos pins s σ H Q I (i σ H Q q)⟩
theorem ps_weak {X : Cx} {e : Stmt} {t t' : TS} (h : PS X e t) (i : ∀ D σ H, t' D σ H → t D σ H) : PS X e t' := ⟨fun pins s σ H D I q => h.run pins s σ H D I (i D σ H q)⟩
theorem opr_or {X : Cx} {f : Value → Value → Sem Value} {r r' : R2} (h : OpR X f r) (h' : OpR X f r') : OpR X f (fun x y H Q => r x y H Q ∨ r' x y H Q) := by
  intro pins s σ H x y v u Q I rx ry q
  rcases q with q | q
  · exact h pins s σ H x y v u Q I rx ry q
  · exact h' pins s σ H x y v u Q I rx ry q
theorem callr_or {X : Cx} {f : Value} {r r' : List V → Hp → VK → Prop} (h : CallR X f r) (h' : CallR X f r') : CallR X f (fun x H Q => r x H Q ∨ r' x H Q) := by
  intro pins s σ H x us Q I rx q
  rcases q with q | q
  · exact h pins s σ H x us Q I rx q
  · exact h' pins s σ H x us Q I rx q
section
variable {K : PySem.W.Frag} {H H1 H2 : Hp} {Z Z1 Z2 : Addr → Bool} {M M1 M2 P P1 P2 L L' F F1 F2 : List Addr} {env env1 env2 : En} {σ : L2.St}
theorem RvR.step {r : RV} {v : V} (b : Bs H1 Z1 M1 P1) (f : Fr H1 Z1 M1 P1 H2 Z2 M2 P2) (o : Pend Z1 M1 P1 F1 L) (x : RvR K H1 Z1 σ r v L) : RvR K H2 Z2 σ r v L := by
  cases r with
  | v d => exact RpX.step b f o x
  | ref i => exact x
end
/-! ### the readings in short -/
section
variable (xr : XR) (K : PySem.W.Frag) (W : WX)
abbrev rdE := rd (α := RV) (β := V) RvR xr K W
abbrev rdT := rd (α := Bool) (β := Bool) BoR xr K W
abbrev rdA := rd (α := List RV) (β := List V) RvsR xr K W
/-- what is left to be handed back: d -/
abbrev Back (H : Hp) (Z : Addr → Bool) (F P : List Addr) (σ : L2.St) (Q : VK) (d : D) (env : En) := Done RvR xr K W H Z F P σ Q (.ok (.v d) env)
end
/-- an operation on two values does what g does on data -/
def Op2 (xr : XR) (W : WX) (X : Cx) (r : R2) (g : D → D → Option D) : Prop :=
  ∀ {σ : L2.St} {H : Hp} {Z : Addr → Bool} {M P F : List Addr} {env : En} {x y : V} {a b d : D} {Q : VK}, Here X.K σ H Z M P F env → VR X.K H Z x a → VR X.K H Z y b → g a b = some d → Back xr X.K W H Z F P σ Q d env → r x y H Q
section
variable {xr : XR} {W : WX} {X : Cx}
theorem run2 {r : R2} {g : D → D → Option D} (o : Op2 xr W X r g) {f1 f2 : En → Res RV} {σ : L2.St} {H : Hp} {Q : VK}
    (h : rdE xr X.K W (fun env => (f1 env).bind fun r env => (f2 env).bind fun s env => bin2 g r s env) σ H Q) : rdE xr X.K W f1 σ H fun x H1 => rdE xr X.K W f2 σ H1 fun y H2 => r x y H2 Q := by
  refine rd_bind h fun ra env1 x H1 Z1 M1 P1 F1 L1 h1 p1 rx d1 => ?_
  refine Here.bind h1 d1 fun rb env2 y H2 Z2 M2 P2 F2 L2 h2 p2 ry fr k d2 => ?_
  have rx2 := rx.step h1.rep.bs fr p1
  unfold bin2 at d2
  cases e1 : ra.view env2 with
  | none => rw [e1] at d2; exact d2.elim
  | some a =>
    cases e2 : rb.view env2 with
    | none => rw [e1, e2] at d2; exact d2.elim
    | some b =>
      rw [e1, e2] at d2
      cases e3 : g a b with
      | none => simp only [e3] at d2; exact d2.elim
      | some d =>
        simp only [e3] at d2
        exact o h2 (rx2.view h2.rep e1) (ry.view h2.rep e2) e3 d2
theorem se_bin {op : Operator} {r : R2} {g : D → D → Option D} {a b : Expr} {pos : Pos} {f1 f2 : En → Res RV} (o : Op2 xr W X r g) (ho : OpR X (binaryOp op) r) (ha : PE X a (rdE xr X.K W f1)) (hb : PE X b (rdE xr X.K W f2)) :
    PE X (.BinOp a op b pos) (rdE xr X.K W fun env => (f1 env).bind fun r env => (f2 env).bind fun s env => bin2 g r s env) := pe_weak (pe_op ho ha hb) fun σ H Q h => run2 o h
theorem se_ix {r : R2} {g : D → D → Option D} {a b : Expr} {pos : Pos} {f1 f2 : En → Res RV} (o : Op2 xr W X r g) (ho : IxR X r) (hs : PlainIx b) (ha : PE X a (rdE xr X.K W f1)) (hb : PE X b (rdE xr X.K W f2)) :
    PE X (.Subscript a b pos) (rdE xr X.K W fun env => (f1 env).bind fun r env => (f2 env).bind fun s env => bin2 g r s env) := pe_weak (pe_ix ho ha hb hs) fun σ H Q h => run2 o h
/-! ### + - * // % & -/
def rAdd (K : PySem.W.Frag) : R2 := fun x y H Q => rI0 (fun i j => .int (i + j)) x y H Q ∨ (∃ i j, x = .str i ∧ y = .str j ∧ i.length + j.length ≤ sizeLine ∧ Q (.str (i ++ j)) H) ∨ rCatA K x y H Q ∨ rCat x y H Q
theorem opr_add : OpR X (binaryOp .Add) (rAdd X.K) := opr_or op_add (opr_or op_add_str (opr_or op_catA op_cat))
theorem big_eq : big = sizeLine := by rw [sizeLine_eq]; rfl
theorem ble_big {n : Nat} (h : Nat.ble n big = true) : n ≤ sizeLine := by rw [← big_eq]; exact Nat.le_of_ble_eq_true h
theorem add_op : Op2 xr W X (rAdd X.K) addD := by
  intro σ H Z M P F env x y a b d Q h va vb e q
  unfold addD at e
  split at e
  · rename_i i j; cases va.int; cases vb.int
    cases e
    exact .inl ⟨_, _, rfl, rfl, ret_val h q (.int _)⟩
  · rename_i i j; cases va.str; cases vb.str
    split at e
    · cases e; exact .inr (.inl ⟨_, _, rfl, rfl, ble_big (by assumption), ret_val h q (.str _)⟩)
    · cases e
  · rename_i xs ys
    split at e
    · rename_i hc
      cases e
      obtain ⟨p, vs, rfl, hs, hv⟩ := va.tup
      obtain ⟨p', vs', rfl, hs', hv'⟩ := vb.tup
      have l1 := hv.len
      have l2 := hv'.len
      refine .inr (.inr (.inl ⟨p, p', vs, vs', rfl, rfl, hs, hs', by rw [l1, l2]; exact ble_big hc, fun z => ?_, fun _ z => ?_, fun _ _ => ret_tup h q (hv.append hv')⟩))
      · have hx : xs = [] := by rw [z] at l1; exact List.length_eq_zero_iff.mp l1.symm
        rw [hx, List.nil_append] at q
        rcases vb with vb | ⟨_, _, _, _, z2, _⟩
        · exact ret_val h q vb
        · cases z2
      · have hy : ys = [] := by rw [z] at l2; exact List.length_eq_zero_iff.mp l2.symm
        rw [hy, List.append_nil] at q
        rcases va with va | ⟨_, _, _, _, z2, _⟩
        · exact ret_val h q va
        · cases z2
    · cases e
  · rename_i xs ys
    split at e
    · cases e
      obtain ⟨p, vs, rfl, hs, hv⟩ := va.lst
      obtain ⟨p', vs', rfl, hs', hv'⟩ := vb.lst
      exact .inr (.inr (.inr ⟨p, p', vs, vs', rfl, rfl, hs, hs', by rw [hv.len, hv'.len]; exact ble_big (by assumption), ret_lst h q (hv.append hv')⟩))
    · cases e
  · cases e
theorem sub_op : Op2 xr W X (rI0 fun i j => .int (i - j)) subD := by
  intro σ H Z M P F env x y a b d Q h va vb e q
  unfold subD at e
  split at e
  · cases va.int; cases vb.int; cases e
    exact ⟨_, _, rfl, rfl, ret_val h q (.int _)⟩
  · cases e
theorem natAbs_lt {i : Int} {n : Nat} (h : i.natAbs < n) : -(n : Int) < i ∧ i < n := by omega
theorem mul_op : Op2 xr W X (fun x y H Q => rI CMul (fun i j => .int (i * j)) x y H Q ∨ rRep x y H Q) mulD := by
  intro σ H Z M P F env x y a b d Q h va vb e q
  unfold mulD at e
  split at e
  · rename_i i j
    cases va.int; cases vb.int
    split at e
    · rename_i hc
      cases e
      refine .inl ⟨_, _, rfl, rfl, ?_, ret_val h q (.int _)⟩
      unfold mulOk at hc
      rw [Bool.or_eq_true, decide_eq_true_eq, decide_eq_true_eq] at hc
      rcases hc with hc | hc
      · exact .inl (natAbs_lt hc)
      · exact .inr (natAbs_lt hc)
    · cases e
  · rename_i xs k
    cases vb.int
    split at e
    · rename_i hc
      cases e
      rw [Bool.and_eq_true, Bool.and_eq_true, decide_eq_true_eq, decide_eq_true_eq] at hc
      obtain ⟨p, vs, rfl, hs, hv⟩ := va.lst
      refine .inr ⟨p, k, vs, rfl, rfl, hs, by omega, by omega, by rw [hv.len]; exact ble_big hc.2, ret_lst h q ?_⟩
      have rep : ∀ n : Nat, RpVs X.K (hid Z H) (List.replicate n vs).flatten (List.replicate n xs).flatten := fun n => by
        induction n with
        | zero => exact .nil
        | succ n ih =>
          rw [List.replicate_succ, List.replicate_succ, List.flatten_cons, List.flatten_cons]
          exact hv.append ih
      exact rep _
    · cases e
  · cases e
theorem fdiv_op : Op2 xr W X (rI CDivN fun i j => .int (i.fdiv j)) fdivD := by
  intro σ H Z M P F env x y a b d Q h va vb e q
  unfold fdivD at e
  split at e
  · cases va.int; cases vb.int
    split at e
    · rename_i hc
      cases e
      rw [Bool.and_eq_true, decide_eq_true_eq, decide_eq_true_eq] at hc
      exact ⟨_, _, rfl, rfl, hc, ret_val h q (.int _)⟩
    · cases e
  · cases e
theorem mod_op : Op2 xr W X (rI (fun _ j => j ≠ 0) fun i j => .int (i.fmod j)) modD := by
  intro σ H Z M P F env x y a b d Q h va vb e q
  unfold modD at e
  split at e
  · cases va.int; cases vb.int
    split at e
    · rename_i hc
      cases e
      rw [decide_eq_true_eq] at hc
      exact ⟨_, _, rfl, rfl, hc, ret_val h q (.int _)⟩
    · cases e
  · cases e
theorem band_op : Op2 xr W X (rI0 fun i j => .int (Builtin.bitAnd i j)) bandD := by
  intro σ H Z M P F env x y a b d Q h va vb e q
  unfold bandD at e
  split at e
  · cases va.int; cases vb.int; cases e
    exact ⟨_, _, rfl, rfl, ret_val h q (.int _)⟩
  · cases e
def bopOf : Bop → Operator
  | .add => .Add
  | .sub => .Sub
  | .mul => .Mult
  | .fdiv => .FloorDiv
  | .mod => .Mod
  | .band => .BitAnd
theorem sound_bin {o : Bop} {a b : Expr} {pos : Pos} {f1 f2 : En → Res RV} (ha : PE X a (rdE xr X.K W f1)) (hb : PE X b (rdE xr X.K W f2)) :
    PE X (.BinOp a (bopOf o) b pos) (rdE xr X.K W fun env => (f1 env).bind fun r env => (f2 env).bind fun s env => bin2 (binD o) r s env) := by
  cases o with
  | add => exact se_bin add_op opr_add ha hb
  | sub => exact se_bin sub_op op_sub ha hb
  | mul => exact se_bin mul_op (opr_or op_mul op_rep) ha hb
  | fdiv => exact se_bin fdiv_op op_fdivN ha hb
  | mod => exact se_bin mod_op op_modN ha hb
  | band => exact se_bin band_op op_and ha hb
/-! ### an item -/
theorem getI_at {K : PySem.W.Frag} {H : Hp} {vs : List V} {xs : List D} {i : Int} {d : D} (hv : RpVs K H vs xs) (e : getI xs i = some d) : ∃ v, atI vs i = some v ∧ RpV K H v d := by
  unfold getI at e
  unfold atI ixN
  have hl := hv.len
  split at e
  · rename_i h0
    rw [decide_eq_true_eq] at h0
    have hlt : i.toNat < xs.length := by
      rcases Nat.lt_or_ge i.toNat xs.length with q | q
      · exact q
      · rw [List.getElem?_eq_none q] at e; cases e
    obtain ⟨v, e1, e2⟩ := hv.get e
    exact ⟨v, by rw [if_pos h0, if_pos (show i < (vs.length : Int) by omega)]; exact e1, e2⟩
  · split at e
    · rename_i h0 h1
      rw [decide_eq_true_eq] at h0 h1
      obtain ⟨v, e1, e2⟩ := hv.get e
      exact ⟨v, by rw [if_neg h0, if_pos (show -(vs.length : Int) ≤ i by omega), hl]; exact e1, e2⟩
    · cases e
theorem ix_op : Op2 xr W X (fun x y H Q => rIxL X.K x y H Q ∨ rIxT X.K x y H Q) ixD := by
  intro σ H Z M P F env x y a b d Q h va vb e q
  unfold ixD at e
  split at e
  · cases vb.int
    obtain ⟨p, vs, rfl, hs, hv⟩ := va.lst
    obtain ⟨v, e1, e2⟩ := getI_at hv e
    exact .inl ⟨p, vs, _, v, rfl, rfl, .inl (.inl hs), e1, ret_val h q e2⟩
  · cases vb.int
    obtain ⟨p, vs, rfl, hs, hv⟩ := va.tup
    obtain ⟨v, e1, e2⟩ := getI_at hv e
    exact .inr ⟨p, vs, _, v, rfl, rfl, hs, e1, ret_val h q e2⟩
  · cases e
theorem sound_ix {a b : Expr} {pos : Pos} {f1 f2 : En → Res RV} (hs : PlainIx b) (ha : PE X a (rdE xr X.K W f1)) (hb : PE X b (rdE xr X.K W f2)) :
    PE X (.Subscript a b pos) (rdE xr X.K W fun env => (f1 env).bind fun r env => (f2 env).bind fun s env => bin2 ixD r s env) := se_ix ix_op (ix_list.or ix_tup) hs ha hb
/-! ### comparisons -/
/-- a comparison of two values does what g does on data -/
def Cmp2 (X : Cx) (r : R2) (g : D → D → Option Bool) : Prop :=
  ∀ {H : Hp} {Z : Addr → Bool} {x y : V} {a b : D} {c : Bool} {Q : VK}, (∀ a, Z a = true → ∃ xs, H a = some (.lst xs)) → VR X.K H Z x a → VR X.K H Z y b → g a b = some c → Q (.bl c) H → r x y H Q
theorem VR.eqV {K : PySem.W.Frag} {H : Hp} {Z : Addr → Bool} {x y : V} {a b : D} (va : VR K H Z x a) (vb : VR K H Z y b) (h : scalD a b = true) : scal x y = true ∧ decide (x = y) = eqD a b := by
  cases a <;> cases b <;> first
    | (cases h; done)
    | (cases va.int; cases vb.int; exact ⟨rfl, dec_int⟩)
    | (cases va.str; cases vb.str; exact ⟨rfl, dec_str⟩)
    | (cases va.bl; cases vb.bl; exact ⟨rfl, dec_bl⟩)
    | (cases va.non; cases vb.non; exact ⟨rfl, rfl⟩)
    | (cases va.str; cases vb.non; exact ⟨rfl, rfl⟩)
    | (cases va.non; cases vb.str; exact ⟨rfl, rfl⟩)
    | (cases va.int; cases vb.str; exact ⟨rfl, rfl⟩)
    | (cases va.str; cases vb.int; exact ⟨rfl, rfl⟩)
    | (cases va.int; cases vb.non; exact ⟨rfl, rfl⟩)
    | (cases va.non; cases vb.int; exact ⟨rfl, rfl⟩)
theorem bs_zl {K : PySem.W.Frag} {σ : L2.St} {H : Hp} {Z : Addr → Bool} {M P F : List Addr} {env : En} (h : Here K σ H Z M P F env) : ∀ a, Z a = true → ∃ xs, H a = some (.lst xs) := h.rep.zl
theorem eq_op : Cmp2 X (fun x y H Q => rEq x y H Q ∨ rEqD X.K x y H Q) eqO := by
  intro H Z x y a b c Q zl va vb e q
  unfold eqO at e
  split at e
  · rename_i hs
    obtain ⟨h1, h2⟩ := va.eqV vb hs
    cases e
    exact .inl ⟨h1, by rw [h2]; exact q⟩
  · split at e
    · rename_i hc
      rw [Bool.and_eq_true] at hc
      cases e
      exact .inr ⟨_, _, va.dp, vb.dp, hc.1, hc.2, q⟩
    · cases e
theorem ne_op : Cmp2 X (fun x y H Q => rNe x y H Q ∨ rNeD X.K x y H Q) neO := by
  intro H Z x y a b c Q zl va vb e q
  unfold neO eqO notO at e
  split at e
  · rename_i o h
    split at h
    · rename_i hs
      obtain ⟨h1, h2⟩ := va.eqV vb hs
      cases h
      cases e
      exact .inl ⟨h1, by rw [h2]; exact q⟩
    · split at h
      · rename_i hc
        rw [Bool.and_eq_true] at hc
        cases h
        cases e
        exact .inr ⟨_, _, va.dp, vb.dp, hc.1, hc.2, q⟩
      · cases h
  · cases e
theorem lt_op : Cmp2 X (rI0 fun i j => .bl (decide (i < j))) ltO := by
  intro H Z x y a b c Q zl va vb e q
  unfold ltO at e
  split at e
  · cases va.int; cases vb.int; cases e; exact ⟨_, _, rfl, rfl, q⟩
  · cases e
theorem le_op : Cmp2 X (rI0 fun i j => .bl (decide (i ≤ j))) leO := by
  intro H Z x y a b c Q zl va vb e q
  unfold leO at e
  split at e
  · cases va.int; cases vb.int; cases e; exact ⟨_, _, rfl, rfl, q⟩
  · cases e
theorem gt_op : Cmp2 X (rI0 fun i j => .bl (decide (j < i))) gtO := by
  intro H Z x y a b c Q zl va vb e q
  unfold gtO at e
  split at e
  · cases va.int; cases vb.int; cases e; exact ⟨_, _, rfl, rfl, q⟩
  · cases e
theorem ge_op : Cmp2 X (rI0 fun i j => .bl (decide (j ≤ i))) geO := by
  intro H Z x y a b c Q zl va vb e q
  unfold geO at e
  split at e
  · cases va.int; cases vb.int; cases e; exact ⟨_, _, rfl, rfl, q⟩
  · cases e
theorem is_op : Cmp2 X (fun x y H Q => y = .non ∧ Q (.bl (decide (x = .non))) H) isO := by
  intro H Z x y a b c Q zl va vb e q
  unfold isO at e
  split at e
  · cases vb.non
    cases e
    refine ⟨rfl, ?_⟩
    cases a with
    | non => cases va.non; exact q
    | bl _ => cases va.bl; exact q
    | int _ => cases va.int; exact q
    | str _ => cases va.str; exact q
    | tup _ => obtain ⟨p, _, rfl, _⟩ := va.tup; exact q
    | lst _ => obtain ⟨p, _, rfl, _⟩ := va.lst; exact q
    | rol _ => obtain ⟨p, _, rfl, _⟩ := va.rol; exact q
    | mls _ => exact va.noMls.elim
  · cases e
theorem isn_op : Cmp2 X (fun x y H Q => y = .non ∧ Q (.bl (!decide (x = .non))) H) isnO := by
  intro H Z x y a b c Q zl va vb e q
  unfold isnO at e
  split at e
  · cases vb.non
    cases e
    refine ⟨rfl, ?_⟩
    cases a with
    | non => cases va.non; exact q
    | bl _ => cases va.bl; exact q
    | int _ => cases va.int; exact q
    | str _ => cases va.str; exact q
    | tup _ => obtain ⟨p, _, rfl, _⟩ := va.tup; exact q
    | lst _ => obtain ⟨p, _, rfl, _⟩ := va.lst; exact q
    | rol _ => obtain ⟨p, _, rfl, _⟩ := va.rol; exact q
    | mls _ => exact va.noMls.elim
  · cases e
theorem flat_V {K : PySem.W.Frag} {H : Hp} {v : V} {d : D} (h : RpV K H v d) (f : flat d = true) : flatV v = true := by
  cases h <;> first | rfl | cases f
theorem eqV_D {K : PySem.W.Frag} {H : Hp} {v w : V} {d e : D} (h : RpV K H v d) (h' : RpV K H w e) (f : flat d = true) (f' : flat e = true) : eqV v w = eqD d e := by
  cases h <;> first
    | (cases f; done)
    | (cases h' <;> first | rfl | (cases f'; done))
theorem inV_D {K : PySem.W.Frag} {H : Hp} {x : V} {a : D} (hx : RpV K H x a) (fx : flat a = true) : ∀ {vs : List V} {ds : List D}, RpVs K H vs ds → ds.all flat = true → vs.all flatV = true ∧ inV x vs = ds.any fun y => eqD y a
  | _, _, .nil, _ => ⟨rfl, rfl⟩
  | _, _, .cons (v := v) (d := d) (vs := vs) (ds := ds) h t, f => by
    rw [List.all_cons, Bool.and_eq_true] at f
    obtain ⟨i1, i2⟩ := inV_D hx fx t f.2
    refine ⟨by rw [List.all_cons, flat_V h f.1, i1]; rfl, ?_⟩
    unfold inV at i2 ⊢
    rw [List.any_cons, List.any_cons, i2, eqV_D h hx f.1 fx]
theorem VR.flat {K : PySem.W.Frag} {H : Hp} {Z : Addr → Bool} {x : V} {a : D} (h : VR K H Z x a) (f : flat a = true) : RpV K (hid Z H) x a := by
  rcases h with h | ⟨_, _, _, _, rfl, _⟩
  · exact h
  · cases f
theorem inn_op (neg : Bool) : Cmp2 X (rIn X.K neg) (fun a b => match innO a b with | some c => some (if neg then !c else c) | none => none) := by
  intro H Z x y a b c Q zl va vb e q
  have key : ∀ {ys : List D} {p : Addr} {vs : List V}, (SqL X.K H p vs ∨ SqT X.K H p vs) → y = .ref p → RpVs X.K (hid Z H) vs ys → innO a b = inD a ys → rIn X.K neg x y H Q := fun {ys p vs} hs hy hv hi => by
    have e : (match innO a b with | some c => some (if neg then !c else c) | none => none) = some c := e
    rw [hi] at e
    unfold inD at e
    by_cases hc : (flat a && ys.all flat) = true
    · rw [if_pos hc] at e
      rw [Bool.and_eq_true] at hc
      cases e
      obtain ⟨k1, k2⟩ := inV_D (va.flat hc.1) hc.1 hv hc.2
      exact ⟨p, vs, hy, hs, flat_V (va.flat hc.1) hc.1, k1, by rw [k2]; exact q⟩
    · rw [if_neg hc] at e; cases e
  cases b with
  | tup ys =>
    obtain ⟨p, vs, hy, hs, hv⟩ := vb.tup
    exact key (.inr hs) hy hv rfl
  | lst ys =>
    obtain ⟨p, vs, hy, hs, hv⟩ := vb.lst
    exact key (.inl (.inl (.inl hs))) hy hv rfl
  | _ => cases e
def copOf : Cop → CmpOp
  | .eq => .Eq
  | .ne => .NotEq
  | .lt => .Lt
  | .le => .LtE
  | .gt => .Gt
  | .ge => .GtE
  | .inn => .In
  | .nin => .NotIn
  | .is => .Is
  | .isn => .IsNot
theorem room64 {k : Nat} {A : Around} (r : Room k A) : A.units + 65 < cLine := by have := r.un; omega
/-- each comparison has its rule -/
theorem cop_ok (hu : X.A.units + 65 < cLine) (o : Cop) : ∃ r, OpR X (compareOp (copOf o)) r ∧ Cmp2 X r (cmpD o) := by
  have hu' : X.A.units + 64 < cLine := by omega
  cases o with
  | eq => exact ⟨_, opr_or op_eq (op_eqD hu'), eq_op⟩
  | ne => exact ⟨_, opr_or op_ne (op_neD hu'), ne_op⟩
  | lt => exact ⟨_, op_lt, lt_op⟩
  | le => exact ⟨_, op_le, le_op⟩
  | gt => exact ⟨_, op_gt, gt_op⟩
  | ge => exact ⟨_, op_ge, ge_op⟩
  | inn =>
    refine ⟨_, op_in_seq, fun {H Z x y a b c Q} zl va vb e q => inn_op (X := X) false zl va vb ?_ q⟩
    have e' : innO a b = some c := e
    show (match innO a b with | some c => some (if false then !c else c) | none => none) = some c
    rw [e']; rfl
  | nin =>
    refine ⟨_, op_notIn_seq, fun {H Z x y a b c Q} zl va vb e q => inn_op (X := X) true zl va vb ?_ q⟩
    have e' : notO (innO a b) = some c := e
    show (match innO a b with | some c => some (if true then !c else c) | none => none) = some c
    cases h : innO a b with
    | none => rw [h] at e'; cases e'
    | some k => rw [h] at e'; cases e'; rfl
  | is => exact ⟨_, op_isN, is_op⟩
  | isn => exact ⟨_, op_notN, isn_op⟩
theorem runC {r : R2} {g : D → D → Option Bool} (o : Cmp2 X r g) {f1 f2 : En → Res RV} {σ : L2.St} {H : Hp} {Q : Bool → Hp → Prop} {Q' : VK} (hQ : ∀ c H, Q c H → Q' (.bl c) H)
    (h : rdT xr X.K W (fun env => (f1 env).bind fun r env => (f2 env).bind fun s env => match r.view env, s.view env with
      | some a, some b => liftB (g a b) env
      | _, _ => .bad) σ H Q) : rdE xr X.K W f1 σ H fun x H1 => rdE xr X.K W f2 σ H1 fun y H2 => r x y H2 Q' := by
  refine rd_bind h fun ra env1 x H1 Z1 M1 P1 F1 L1 h1 p1 rx d1 => ?_
  refine Here.bind h1 d1 fun rb env2 y H2 Z2 M2 P2 F2 L2 h2 p2 ry fr k d2 => ?_
  have rx2 := rx.step h1.rep.bs fr p1
  cases e1 : ra.view env2 with
  | none => rw [e1] at d2; exact d2.elim
  | some a =>
    cases e2 : rb.view env2 with
    | none => rw [e1, e2] at d2; exact d2.elim
    | some b =>
      rw [e1, e2] at d2
      cases e3 : g a b with
      | none => simp only [e3] at d2; exact d2.elim
      | some c =>
        simp only [e3] at d2
        exact o h2.rep.zl (rx2.view h2.rep e1) (ry.view h2.rep e2) e3 (hQ c H2 (d2 c H2 Z2 M2 P2 [] h2.rep h2.fr ⟨rfl, rfl⟩ Own.nil))
/-- a test's answer as a value -/
theorem toV_rd {f : En → Res Bool} {σ : L2.St} {H : Hp} {Q : VK} (h : rdE xr X.K W (fun env => toV (f env)) σ H Q) : rdT xr X.K W f σ H fun b H1 => Q (.bl b) H1 :=
  rd_bind h fun b env1 c H1 Z1 M1 P1 F1 L1 h1 p1 r d1 => by
    obtain ⟨rfl, rfl⟩ := r
    exact ret_val h1 d1 (.bl _)
theorem st_cmp (hu : X.A.units + 65 < cLine) {o : Cop} {a b : Expr} {pos : Pos} {f1 f2 : En → Res RV} (ha : PE X a (rdE xr X.K W f1)) (hb : PE X b (rdE xr X.K W f2)) (hm : behindInMarks (copOf o) b = false) :
    PT X (.Compare a [copOf o] [b] pos) (rdT xr X.K W fun env => (f1 env).bind fun r env => (f2 env).bind fun s env => cmp2B o r s env) := by
  obtain ⟨r, h1, h2⟩ := cop_ok (X := X) hu o
  exact pt_weak (pt_cmpR h1 ha hb hm) fun σ H Q h => runC h2 (fun c H q => ⟨c, rfl, q⟩) h
theorem se_cmp (hu : X.A.units + 65 < cLine) {o : Cop} {a b : Expr} {pos : Pos} {f1 f2 : En → Res RV} (ha : PE X a (rdE xr X.K W f1)) (hb : PE X b (rdE xr X.K W f2)) (hm : behindInMarks (copOf o) b = false) :
    PE X (.Compare a [copOf o] [b] pos) (rdE xr X.K W fun env => toV ((f1 env).bind fun r env => (f2 env).bind fun s env => cmp2B o r s env)) := by
  obtain ⟨r, h1, h2⟩ := cop_ok (X := X) hu o
  exact pe_weak (pe_cmpR h1 ha hb hm) fun σ H Q h => runC h2 (fun c H q => q) (toV_rd h)
theorem runC2 {r r' : R2} {g g' : D → D → Option Bool} (o : Cmp2 X r g) (o' : Cmp2 X r' g') {f1 f2 f3 : En → Res RV} {σ : L2.St} {H : Hp} {Q : Bool → Hp → Prop} {Q' : VK} (hQ : ∀ c H, Q c H → Q' (.bl c) H)
    (h : rdT xr X.K W (fun env => (f1 env).bind fun r env => (f2 env).bind fun s env => Res.bind (match r.view env, s.view env with
      | some a, some b => liftB (g a b) env
      | _, _ => .bad) fun k env => if k then (f3 env).bind fun t env => (match s.view env, t.view env with
        | some a, some b => liftB (g' a b) env
        | _, _ => .bad) else .ok false env) σ H Q) :
    tChain r r' (rdE xr X.K W f1) (rdE xr X.K W f2) (rdE xr X.K W f3) σ H Q' := by
  refine rd_bind h fun ra env1 x H1 Z1 M1 P1 F1 L1 h1 p1 rx d1 => ?_
  refine Here.bind h1 d1 fun rb env2 y H2 Z2 M2 P2 F2 L2 h2 p2 ry fr k d2 => ?_
  have rx2 := rx.step h1.rep.bs fr p1
  cases e1 : ra.view env2 with
  | none => rw [e1] at d2; exact d2.elim
  | some a =>
    cases e2 : rb.view env2 with
    | none => rw [e1, e2] at d2; exact d2.elim
    | some b =>
      rw [e1, e2] at d2
      cases e3 : g a b with
      | none => simp only [e3] at d2; exact d2.elim
      | some c =>
        simp only [e3] at d2
        refine o h2.rep.zl (rx2.view h2.rep e1) (ry.view h2.rep e2) e3 ⟨c, rfl, ?_⟩
        cases c with
        | false =>
          rw [if_neg Bool.false_ne_true]
          have d2' : Done BoR xr X.K W H2 Z2 F2 P2 σ Q (.ok false env2) := d2
          exact hQ false H2 (d2' false H2 Z2 M2 P2 [] h2.rep h2.fr ⟨rfl, rfl⟩ Own.nil)
        | true =>
          rw [if_pos rfl]
          refine Here.bind h2 (show Done BoR xr X.K W H2 Z2 F2 P2 σ Q ((f3 env2).bind fun t env => (match rb.view env, t.view env with
            | some a, some b => liftB (g' a b) env
            | _, _ => .bad)) from d2) fun rc env3 z H3 Z3 M3 P3 F3 L3 h3 p3 rz fr3 k3 d3 => ?_
          have ry3 := ry.step h2.rep.bs fr3 p2
          cases e4 : rb.view env3 with
          | none => rw [e4] at d3; exact d3.elim
          | some a' =>
            cases e5 : rc.view env3 with
            | none => rw [e4, e5] at d3; exact d3.elim
            | some b' =>
              rw [e4, e5] at d3
              cases e6 : g' a' b' with
              | none => simp only [e6] at d3; exact d3.elim
              | some c' =>
                simp only [e6] at d3
                exact o' h3.rep.zl (ry3.view h3.rep e4) (rz.view h3.rep e5) e6 (hQ c' H3 (d3 c' H3 Z3 M3 P3 [] h3.rep h3.fr ⟨rfl, rfl⟩ Own.nil))
theorem st_cmp2 (hu : X.A.units + 65 < cLine) {o o' : Cop} {a b c : Expr} {pos : Pos} {f1 f2 f3 : En → Res RV} (ha : PE X a (rdE xr X.K W f1)) (hb : PE X b (rdE xr X.K W f2)) (hc : PE X c (rdE xr X.K W f3)) (hm : lastMarks [copOf o, copOf o'] [b, c] = false) :
    PT X (.Compare a [copOf o, copOf o'] [b, c] pos) (rdT xr X.K W fun env => (f1 env).bind fun r env => (f2 env).bind fun s env => (cmp2B o r s env).bind fun k env =>
      if k then (f3 env).bind fun t env => cmp2B o' s t env else .ok false env) := by
  obtain ⟨r, h1, h2⟩ := cop_ok (X := X) hu o
  obtain ⟨r', h1', h2'⟩ := cop_ok (X := X) hu o'
  exact pt_weak (pt_chain h1 h1' ha hb hc hm) fun σ H Q h => runC2 h2 h2' (fun c H q => ⟨c, rfl, q⟩) h
theorem se_cmp2 (hu : X.A.units + 65 < cLine) {o o' : Cop} {a b c : Expr} {pos : Pos} {f1 f2 f3 : En → Res RV} (ha : PE X a (rdE xr X.K W f1)) (hb : PE X b (rdE xr X.K W f2)) (hc : PE X c (rdE xr X.K W f3)) (hm : lastMarks [copOf o, copOf o'] [b, c] = false) :
    PE X (.Compare a [copOf o, copOf o'] [b, c] pos) (rdE xr X.K W fun env => toV ((f1 env).bind fun r env => (f2 env).bind fun s env => (cmp2B o r s env).bind fun k env =>
      if k then (f3 env).bind fun t env => cmp2B o' s t env else .ok false env)) := by
  obtain ⟨r, h1, h2⟩ := cop_ok (X := X) hu o
  obtain ⟨r', h1', h2'⟩ := cop_ok (X := X) hu o'
  exact pe_weak (pe_chain h1 h1' ha hb hc hm) fun σ H Q h => runC2 h2 h2' (fun c H q => q) (toV_rd h)
end
end Ev
namespace Ev
open PySem PySem.Spec PyProof.Rows L2
section
variable {xr : XR} {W : WX} {X : Cx} {σ : L2.St} {H H1 : Hp} {Z Z1 : Addr → Bool} {M M1 P P1 L L' F F1 : List Addr} {env env1 : En}
/-- what is there, as it is -/
theorem ret_raw {r : RV} {v : V} {Q : VK} (h : Here X.K σ H Z M P F env) (p : Pend Z M P F L) (x : RvR X.K H Z σ r v L) (d : Done RvR xr X.K W H Z F P σ Q (.ok r env)) : Q v H :=
  d v H Z M P L h.rep h.fr x p.own
theorem ret_b {b : Bool} {Q : Bool → Hp → Prop} (h : Here X.K σ H Z M P F env) (d : Done BoR xr X.K W H Z F P σ Q (.ok b env)) : Q b H :=
  d b H Z M P [] h.rep h.fr ⟨rfl, rfl⟩ Own.nil
/-! ### names, constants -/
theorem se_nm {i : Nat} {x : Str} {pos : Pos} (hN : X.N[i]? = some x) (hv : Vis X.env.scope x) (hd : (x == ("__debug__" : Str)) = false) (hcd : (x == ("__classdict__" : Str)) = false) : PE X (.Name x pos) (rdE xr X.K W (nmR i)) := by
  refine pe_weak (pe_var hN hv hd hcd) fun σ H Q h => ?_
  obtain ⟨Z, M, P, env, rp, d⟩ := h
  unfold nmR at d
  split at d
  · rename_i d0 e
    obtain ⟨v, L, e1, x1⟩ := rp.peek (.inl e)
    refine ⟨v, e1, ?_⟩
    split at d
    · rename_i hn
      obtain ⟨x2, _⟩ := x1.ofNoM hn
      exact ret_val rp.here d x2
    · exact d v H Z M P [] rp Fr.refl ⟨e1, rfl⟩ Own.nil
  · rename_i d0 e
    obtain ⟨v, L, e1, x1⟩ := rp.peek (.inr e)
    exact ⟨v, e1, d v H Z M P [] rp Fr.refl ⟨e1, rfl⟩ Own.nil⟩
  · exact d.elim
theorem se_val {e : Expr} {v : V} {d : D} (h : PE X e (tC v)) (r : ∀ H : Hp, RpV X.K H v d) : PE X e (rdE xr X.K W fun env => .ok (.v d) env) := by
  refine pe_weak h fun σ H Q h => ?_
  obtain ⟨Z, M, P, env, rp, q⟩ := h
  exact ret_val rp.here q (r _)
/-! ### given to a display -/
theorem fz_noM : ∀ {K : PySem.W.Frag} {H : Hp} {v : V} {d : D}, RpV K H v d → d.fz = d := fun h => RpV.fz _ h
theorem give_ok {r : RV} {v : V} {d : D} (h : Here X.K σ H Z M P F env) (p : Pend Z M P F L) (x : RvR X.K H Z σ r v L) (e : r.give env = some (d, env1)) :
    ∃ Z1 M1 F1, Here X.K σ H Z1 M1 P F1 env1 ∧ RpV X.K (hid Z1 H) v d ∧ Fr H Z F P H Z1 F1 P ∧ Sub (hid Z H) (hid Z1 H) ∧ (∀ L', Pend Z M P F L' → (∀ a ∈ L', a ∉ L) → Pend Z1 M1 P F1 L') := by
  cases r with
  | v d0 =>
    cases e
    obtain ⟨F1, h1, x1, f1, k1, s1⟩ := h.free p x
    exact ⟨_, _, F1, h1, x1, f1, s1, fun L' p' dj => ⟨p'.nd, fun a ha => out_true.mpr ⟨p'.z a ha, dj a ha⟩, p'.nm, p'.np, fun a ha => k1 a (p'.lf a ha) (dj a ha)⟩⟩
  | ref i =>
    obtain ⟨e1, rfl⟩ := x
    unfold RV.give at e
    simp only at e
    split at e
    · rename_i d0 e0
      cases e
      obtain ⟨v', L0, M1, e2, x2, h1, p1, k1, k2⟩ := h.takeO e0
      rw [e1] at e2; cases e2
      obtain ⟨F1, h2, x3, f1, k3, s1⟩ := h1.free p1 x2
      have h3 := h2.put (v := v) (d := d0.fz) (L := []) Pend.nil (set_un e0 _) (.val x3)
      rw [set_set, set_self e1] at h3
      refine ⟨_, _, F1, h3, x3, f1, s1, fun L' p' dj => ⟨p'.nd, fun a ha => out_true.mpr ⟨p'.z a ha, fun q => p'.nm a ha (k2 a q)⟩, fun a ha q => p'.nm a ha (k1 a q), p'.np, fun a ha => k3 a (p'.lf a ha) fun q => p'.nm a ha (k2 a q)⟩⟩
    · cases e
theorem Pend.split (p : Pend Z M P F (L ++ L')) : Pend Z M P F L ∧ Pend Z M P F L' ∧ ∀ a ∈ L', a ∉ L := by
  obtain ⟨n1, n2, n3⟩ := List.nodup_append.mp p.nd
  exact ⟨⟨n1, fun a h => p.z a (mem_app_left h), fun a h => p.nm a (mem_app_left h), fun a h => p.np a (mem_app_left h), fun a h => p.lf a (mem_app_left h)⟩,
    ⟨n2, fun a h => p.z a (mem_app_right h), fun a h => p.nm a (mem_app_right h), fun a h => p.np a (mem_app_right h), fun a h => p.lf a (mem_app_right h)⟩, fun a h q => n3 a q a h rfl⟩
theorem RvR.sub {r : RV} {v : V} (s : Sub (hid Z H) (hid Z1 H)) (x : RvR X.K H Z σ r v L) : RvR X.K H Z1 σ r v L := by
  cases r with
  | v d => exact RpX.mono s d (fun _ _ => rfl) x
  | ref i => exact x
theorem RvsR.sub {rs : List RV} {vs : List V} (s : Sub (hid Z H) (hid Z1 H)) (x : RvsR X.K H Z σ rs vs L) : RvsR X.K H Z1 σ rs vs L := by
  induction x with
  | nil => exact .nil
  | cons a _ ih => exact .cons (a.sub s) ih
theorem gives_ok {rs : List RV} {vs : List V} {ds : List D} (h : Here X.K σ H Z M P F env) (p : Pend Z M P F L) (x : RvsR X.K H Z σ rs vs L) (e : gives rs env = some (ds, env1)) :
    ∃ Z1 M1 F1, Here X.K σ H Z1 M1 P F1 env1 ∧ RpVs X.K (hid Z1 H) vs ds ∧ Fr H Z F P H Z1 F1 P ∧ Sub (hid Z H) (hid Z1 H) ∧ (∀ L', Pend Z M P F L' → (∀ a ∈ L', a ∉ L) → Pend Z1 M1 P F1 L') := by
  induction rs generalizing Z M F env ds vs L with
  | nil =>
    cases x
    cases e
    exact ⟨Z, M, F, h, .nil, Fr.refl, fun _ _ q => q, fun _ q _ => q⟩
  | cons r rs ih =>
    cases x with
    | @cons _ v L1 L2 _ vs a t =>
    unfold gives at e
    split at e
    · rename_i d env2 e1
      split at e
      · rename_i ds' env3 e2
        cases e
        obtain ⟨p1, p2, dj⟩ := p.split
        obtain ⟨Z1, M1, F1, h1, x1, f1, s1, k1⟩ := give_ok h p1 a e1
        obtain ⟨Z2, M2, F2, h2, x2, f2, s2, k2⟩ := ih (vs := vs) h1 (k1 _ p2 dj) (t.sub s1) e2
        exact ⟨Z2, M2, F2, h2, .cons (RpV.mono s2 _ x1) x2, f1.trans h.bs f2, s1.trans s2, fun L' q dj => k2 L' (k1 L' q fun a ha z => dj a ha (mem_app_left z)) fun a ha z => dj a ha (mem_app_right z)⟩
      · cases e
    · cases e
theorem RvsR.len {rs : List RV} {vs : List V} (x : RvsR X.K H Z σ rs vs L) : rs.length = vs.length := by
  induction x with
  | nil => rfl
  | cons _ _ ih => simp [ih]
theorem Done.move {α β : Type} {Rl : PySem.W.Frag → Hp → (Addr → Bool) → L2.St → α → β → List Addr → Prop} {K : PySem.W.Frag} {Q : β → Hp → Prop} {r : Res α} (rp : Bs H Z F P) (f : Fr H Z F P H1 Z1 F1 P1) (d : Done Rl xr K W H Z F P σ Q r) : Done Rl xr K W H1 Z1 F1 P1 σ Q r := Done.shift rp f d
theorem se_tup {es : List Expr} {k : Nat} {pos : Pos} {f : En → Res (List RV)} (h : PA X es (rdA xr X.K W f)) :
    PE X (.Tuple es k pos) (rdE xr X.K W fun env => (f env).bind fun rs env => match gives rs env with
      | some (ds, env) => if Nat.ble ds.length big then .ok (.v (.tup ds)) env else .bad
      | none => .bad) := by
  refine pe_weak (pe_tup h) fun σ H Q h => ?_
  refine rd_bind h fun rs env1 vs H1 Z1 M1 P1 F1 L1 h1 p1 x d => ?_
  split at d
  · rename_i ds env2 e
    split at d
    · rename_i hb
      obtain ⟨Z2, M2, F2, h2, x2, f2, s2, _⟩ := gives_ok h1 p1 x e
      exact ⟨by rw [x2.len]; exact ble_big hb, ret_tup h2 (Done.shift h1.bs f2 d) x2⟩
    · exact d.elim
  · exact d.elim
theorem se_lst {es : List Expr} {pos : Pos} {f : En → Res (List RV)} (h : PA X es (rdA xr X.K W f)) :
    PE X (.List es pos) (rdE xr X.K W fun env => (f env).bind fun rs env => match gives rs env with
      | some (ds, env) => if Nat.ble ds.length big then .ok (.v (.mls ds)) env else .bad
      | none => .bad) := by
  refine pe_weak (pe_lst h) fun σ H Q h => ?_
  refine rd_bind h fun rs env1 vs H1 Z1 M1 P1 F1 L1 h1 p1 x d => ?_
  split at d
  · rename_i ds env2 e
    split at d
    · rename_i hb
      obtain ⟨Z2, M2, F2, h2, x2, f2, s2, _⟩ := gives_ok h1 p1 x e
      exact ⟨by rw [x2.len]; exact ble_big hb, ret_lst h2 (Done.shift h1.bs f2 d) x2⟩
    · exact d.elim
  · exact d.elim
/-! ### arguments -/
theorem sa_nil : PA X [] (rdA xr X.K W fun env => .ok [] env) := by
  refine pa_weak pa_nil fun σ H Q h => ?_
  obtain ⟨Z, M, P, env, rp, d⟩ := h
  exact d [] H Z M P [] rp Fr.refl .nil Own.nil
theorem RvsR.step {rs : List RV} {vs : List V} (b : Bs H Z M P) (f : Fr H Z M P H1 Z1 M1 P1) (o : Pend Z M P F L) (x : RvsR X.K H Z σ rs vs L) : RvsR X.K H1 Z1 σ rs vs L := by
  induction x with
  | nil => exact .nil
  | cons a t ih => exact .cons (a.step b f (o.split).1) (ih (o.split).2.1)
theorem sa_cons {e : Expr} {es : List Expr} {f : En → Res RV} {g : En → Res (List RV)} (he : PE X e (rdE xr X.K W f)) (ht : PA X es (rdA xr X.K W g)) (hs : starEach (e :: es) X.env = (false, eval e X.env) :: starEach es X.env) :
    PA X (e :: es) (rdA xr X.K W fun env => (f env).bind fun r env => (g env).bind fun rs env => .ok (r :: rs) env) := by
  refine pa_weak (pa_cons he ht hs) fun σ H Q h => ?_
  refine rd_bind h fun r env1 v H1 Z1 M1 P1 F1 L1 h1 p1 rx d1 => ?_
  refine Here.bind h1 d1 fun rs env2 vs H2 Z2 M2 P2 F2 L2 h2 p2 rs2 fr k d2 => ?_
  have p1' : Pend Z2 M2 P2 F2 L1 := Pend.step h1.bs.zs fr p1 k.1
  refine d2 (v :: vs) H2 Z2 M2 P2 (L1 ++ L2) h2.rep h2.fr (.cons (rx.step h1.rep.bs fr p1) rs2) ⟨List.nodup_append.mpr ⟨p1'.nd, p2.nd, fun a ha b hb q => ?_⟩, ?_, ?_, ?_, ?_⟩
  · subst q
    rcases k.2 a hb with z | z
    · exact p1.nm a ha z
    · exact h1.bs.zs a (p1.z a ha) z
  all_goals (intro a ha; rcases List.mem_append.mp ha with q | q)
  · exact p1'.z a q
  · exact p2.z a q
  · exact p1'.nm a q
  · exact p2.nm a q
  · exact p1'.np a q
  · exact p2.np a q
  · exact .inl (p1'.lf a q)
  · exact .inl (p2.lf a q)
end
end Ev
namespace Ev
open PySem PySem.Spec PyProof.Rows L2
section
variable {xr : XR} {W : WX} {X : Cx} {σ : L2.St} {H H1 : Hp} {Z Z1 : Addr → Bool} {M M1 P P1 L L' F F1 : List Addr} {env env1 : En}
theorem isEmp {α β : Type} {xs : List α} {ys : List β} (h : xs.length = ys.length) : xs.isEmpty = ys.isEmpty := by
  cases xs <;> cases ys <;> first | rfl | (simp at h)
theorem tru_R {r : RV} {v : V} {k : Bool} (rp : Rep X.K H Z M P env σ) (x : RvR X.K H Z σ r v L) (h : r.tru env = some k) : TruV X.K v H k := by
  unfold RV.tru at h
  split at h
  · rename_i d e
    obtain ⟨L', x⟩ := x.cont rp e
    cases d with
    | mls xs =>
      cases h
      cases x with
      | val x => cases x
      | mls h1 h2 => exact .inl ⟨_, .inl (.inl h1), by rw [isEmp h2.len]⟩
    | non => cases h; cases x with | val x => cases x; rfl
    | bl b => cases h; cases x with | val x => cases x; rfl
    | int i => cases h; cases x with | val x => cases x; rfl
    | str y =>
      have h' : (if Nat.ble y.length big then some (y.length != 0) else none) = some k := h
      split at h'
      · rename_i hb
        have hk : (y.length != 0) = k := Option.some.inj h'
        cases x with
        | val x =>
          cases x
          refine ⟨ble_big hb, ?_⟩
          rw [← hk, Bool.eq_iff_iff, bne_iff_ne, bne_iff_ne]
          omega
      · cases h'
    | tup xs =>
      cases h
      cases x with
      | val x => cases x with | tup a b => exact .inr (.inl ⟨_, hid_sub.t a, by rw [isEmp b.len]⟩)
    | lst xs =>
      cases h
      cases x with
      | val x => cases x with | lst a b => exact .inl ⟨_, .inl (.inl (hid_sub _ _ a)), by rw [isEmp b.len]⟩
    | rol xs => cases h
  · cases h
theorem se_not {a : Expr} {pos : Pos} {f : En → Res RV} (ha : PE X a (rdE xr X.K W f)) : PE X (.UnaryOp .Not a pos) (rdE xr X.K W fun env => (f env).bind fun r env => match r.tru env with
    | some k => .ok (.v (.bl (!k))) env
    | none => .bad) := by
  refine pe_weak (pe_notT ha) fun σ H Q h => ?_
  refine rd_bind h fun r env1 v H1 Z1 M1 P1 F1 L1 h1 p1 x d => ?_
  split at d
  · rename_i k e
    exact ⟨k, tru_R h1.rep x e, ret_val h1 d (.bl _)⟩
  · exact d.elim
theorem se_neg {a : Expr} {pos : Pos} {f : En → Res RV} (ha : PE X a (rdE xr X.K W f)) : PE X (.UnaryOp .USub a pos) (rdE xr X.K W fun env => (f env).bind fun r env => match r with
    | .v (.int i) => .ok (.v (.int (-i))) env
    | _ => .bad) := by
  refine pe_weak (pe_un un_neg ha) fun σ H Q h => ?_
  refine rd_bind h fun r env1 v H1 Z1 M1 P1 F1 L1 h1 p1 x d => ?_
  split at d
  · rename_i i
    have x' : RpX X.K H1 Z1 v (.int i) L1 := x
    cases x' with
    | val x' =>
      cases x'
      exact ⟨i, rfl, ret_val h1 d (.int _)⟩
  · exact d.elim
/-- and, or: what is behind the first part -/
theorem se_one {o : BoolOp} {a : Expr} {pos : Pos} {f : En → Res RV} (ha : PE X a (rdE xr X.K W f)) : PE X (.BoolOp o [a] pos) (rdE xr X.K W fun env => (f env).bind fun r env => match r.tru env with
    | some true => .ok r env
    | some false => .ok r env
    | none => .bad) := by
  refine pe_weak (pe_one ha) fun σ H Q h => ?_
  refine rd_bind h fun r env1 v H1 Z1 M1 P1 F1 L1 h1 p1 x d => ?_
  split at d
  · exact ret_raw h1 p1 x d
  · exact ret_raw h1 p1 x d
  · exact d.elim
theorem se_and {a b : Expr} {rest : List Expr} {pos : Pos} {f : En → Res RV} {g : En → Res RV} (ha : PE X a (rdE xr X.K W f)) (hb : PE X (.BoolOp .And (b :: rest) pos) (rdE xr X.K W g)) :
    PE X (.BoolOp .And (a :: b :: rest) pos) (rdE xr X.K W fun env => (f env).bind fun r env => match r.tru env with
    | some true => g env
    | some false => .ok r env
    | none => .bad) := by
  refine pe_weak (pe_andT ha hb) fun σ H Q h => ?_
  refine rd_bind h fun r env1 v H1 Z1 M1 P1 F1 L1 h1 p1 x d => ?_
  split at d
  · rename_i e
    refine ⟨true, tru_R h1.rep x e, ?_⟩
    rw [if_pos rfl]
    exact h1.last d
  · rename_i e
    refine ⟨false, tru_R h1.rep x e, ?_⟩
    rw [if_neg Bool.false_ne_true]
    exact ret_raw h1 p1 x d
  · exact d.elim
theorem se_or {a b : Expr} {rest : List Expr} {pos : Pos} {f : En → Res RV} {g : En → Res RV} (ha : PE X a (rdE xr X.K W f)) (hb : PE X (.BoolOp .Or (b :: rest) pos) (rdE xr X.K W g)) :
    PE X (.BoolOp .Or (a :: b :: rest) pos) (rdE xr X.K W fun env => (f env).bind fun r env => match r.tru env with
    | some true => .ok r env
    | some false => g env
    | none => .bad) := by
  refine pe_weak (pe_orT ha hb) fun σ H Q h => ?_
  refine rd_bind h fun r env1 v H1 Z1 M1 P1 F1 L1 h1 p1 x d => ?_
  split at d
  · rename_i e
    refine ⟨true, tru_R h1.rep x e, ?_⟩
    rw [if_pos rfl]
    exact ret_raw h1 p1 x d
  · rename_i e
    refine ⟨false, tru_R h1.rep x e, ?_⟩
    rw [if_neg Bool.false_ne_true]
    exact h1.last d
  · exact d.elim
theorem se_ite {c a b : Expr} {pos : Pos} {t : En → Res Bool} {f g : En → Res RV} (hc : PT X c (rdT xr X.K W t)) (ha : PE X a (rdE xr X.K W f)) (hb : PE X b (rdE xr X.K W g)) :
    PE X (.IfExp c a b pos) (rdE xr X.K W fun env => (t env).bind fun k env => if k then f env else g env) := by
  refine pe_weak (pe_ifExp hc ha hb) fun σ H Q h => ?_
  refine rd_bind h fun k env1 c H1 Z1 M1 P1 F1 L1 h1 p1 x d => ?_
  obtain ⟨rfl, rfl⟩ := x
  cases c with
  | true => exact h1.last d
  | false => exact h1.last d
/-! ### tests -/
theorem st_not {a : Expr} {pos : Pos} {t : En → Res Bool} (ha : PT X a (rdT xr X.K W t)) : PT X (.UnaryOp .Not a pos) (rdT xr X.K W fun env => (t env).bind fun b env => .ok (!b) env) := by
  refine pt_weak (pt_not ha) fun σ H Q h => ?_
  refine rd_bind h fun k env1 c H1 Z1 M1 P1 F1 L1 h1 p1 x d => ?_
  obtain ⟨rfl, rfl⟩ := x
  exact ret_b h1 d
theorem st_one {o : BoolOp} {a : Expr} {pos : Pos} {t : En → Res Bool} {e : Bool} (ho : (o = .And ∧ e = true) ∨ (o = .Or ∧ e = false)) (ha : PT X a (rdT xr X.K W t)) :
    PW X (.BoolOp o [a] pos) (rdT xr X.K W fun env => (t env).bind fun k env => if k = e then .ok e env else .ok (!e) env) := by
  have key : ∀ σ H (Q : Bool → Hp → Prop), rdT xr X.K W (fun env => (t env).bind fun k env => if k = e then .ok e env else .ok (!e) env) σ H Q → rdT xr X.K W t σ H Q := fun σ H Q h => by
    refine rd_bind h fun k env1 c H1 Z1 M1 P1 F1 L1 h1 p1 x d => ?_
    obtain ⟨rfl, rfl⟩ := x
    split at d
    · rename_i q; rw [← q] at d; exact ret_b h1 d
    · rename_i q
      have : (!e) = c := by cases e <;> cases c <;> first | rfl | exact absurd rfl q
      rw [this] at d; exact ret_b h1 d
  rcases ho with ⟨rfl, rfl⟩ | ⟨rfl, rfl⟩
  · exact pw_weak (pw_and1 ha) key
  · exact pw_weak (pw_or1 ha) key
theorem st_and {a b : Expr} {rest : List Expr} {pos : Pos} {t u : En → Res Bool} (ha : PT X a (rdT xr X.K W t)) (hb : PW X (.BoolOp .And (b :: rest) pos) (rdT xr X.K W u)) :
    PW X (.BoolOp .And (a :: b :: rest) pos) (rdT xr X.K W fun env => (t env).bind fun k env => if k then u env else .ok false env) := by
  refine pw_weak (pw_and ha hb) fun σ H Q h => ?_
  refine rd_bind h fun k env1 c H1 Z1 M1 P1 F1 L1 h1 p1 x d => ?_
  obtain ⟨rfl, rfl⟩ := x
  cases c with
  | true => rw [if_pos rfl]; exact h1.last d
  | false => rw [if_neg Bool.false_ne_true]; exact ret_b h1 d
theorem st_or {a b : Expr} {rest : List Expr} {pos : Pos} {t u : En → Res Bool} (ha : PT X a (rdT xr X.K W t)) (hb : PW X (.BoolOp .Or (b :: rest) pos) (rdT xr X.K W u)) :
    PW X (.BoolOp .Or (a :: b :: rest) pos) (rdT xr X.K W fun env => (t env).bind fun k env => if k then .ok true env else u env) := by
  refine pw_weak (pw_or ha hb) fun σ H Q h => ?_
  refine rd_bind h fun k env1 c H1 Z1 M1 P1 F1 L1 h1 p1 x d => ?_
  obtain ⟨rfl, rfl⟩ := x
  cases c with
  | true => rw [if_pos rfl]; exact ret_b h1 d
  | false => rw [if_neg Bool.false_ne_true]; exact h1.last d
/-- a plain expression as a test -/
theorem st_truth {a : Expr} {f : En → Res RV} (ha : PE X a (rdE xr X.K W f)) (he : ∀ whole, isTrue a X.env whole = (do let v ← whole; standAt a.pos; holding [v] (truthy v))) :
    PT X a (rdT xr X.K W fun env => (f env).bind fun r env => liftB (r.tru env) env) := by
  refine pt_weak (pt_truth ha he) fun σ H Q h => ?_
  refine rd_bind h fun r env1 v H1 Z1 M1 P1 F1 L1 h1 p1 x d => ?_
  cases e : r.tru env1 with
  | none => rw [e] at d; exact d.elim
  | some k => rw [e] at d; exact ⟨k, tru_R h1.rep x e, ret_b h1 d⟩
/-! ### slices -/
theorem so_no : PO X none (rd (α := Option Int) (β := Option Int) (fun _ _ _ _ a b L => b = a ∧ L = []) xr X.K W fun env => .ok none env) := by
  refine ⟨fun pins s σ H Q I h => ?_⟩
  obtain ⟨Z, M, P, env, rp, d⟩ := h
  exact po_none.run pins s σ H Q I (d none H Z M P [] rp Fr.refl ⟨rfl, rfl⟩ Own.nil)
theorem so_so {e : Expr} {f : En → Res RV} (he : PE X e (rdE xr X.K W f)) : PO X (some e) (rd (α := Option Int) (β := Option Int) (fun _ _ _ _ a b L => b = a ∧ L = []) xr X.K W fun env => (f env).bind fun r env => match r with
    | .v (.int i) => .ok (some i) env
    | _ => .bad) := by
  refine ⟨fun pins s σ H Q I h => ?_⟩
  refine (po_some he).run pins s σ H Q I ?_
  refine rd_bind h fun r env1 v H1 Z1 M1 P1 F1 L1 h1 p1 x d => ?_
  split at d
  · rename_i i
    have x' : RpX X.K H1 Z1 v (.int i) L1 := x
    cases x' with
    | val x' =>
      cases x'
      exact ⟨i, rfl, d (some i) H1 Z1 M1 P1 [] h1.rep h1.fr ⟨rfl, rfl⟩ Own.nil⟩
  · exact d.elim
theorem slN_eq (n : Nat) (i : Int) (d : Nat) : slN n i = HT.sIx n d (some i) := rfl
theorem cut_ok {K : PySem.W.Frag} {H : Hp} {vs : List V} {xs : List D} (h : RpVs K H vs xs) (lo hi : Option Int) : RpVs K H (cutV vs lo hi) (slL xs lo hi) := by
  unfold cutV slL
  rw [h.len]
  cases lo <;> cases hi <;> exact (h.drop _).take _
theorem cut_whole {xs : List D} {lo hi : Option Int} (h : HT.sIx xs.length 0 lo = 0 ∧ HT.sIx xs.length xs.length hi = xs.length) : slL xs lo hi = xs := by
  obtain ⟨h1, h2⟩ := h
  unfold slL
  cases lo <;> cases hi <;> simp_all [HT.sIx, slN]
def rSl (K : PySem.W.Frag) : V → Option Int → Option Int → Hp → VK → Prop := fun x lo hi H Q => rSlL K x lo hi H Q ∨ rSlA K x lo hi H Q ∨ rSlS x lo hi H Q
theorem se_sl {e : Expr} {lo hi : Option Expr} {p2 pos : Pos} {f : En → Res RV} {g h : En → Res (Option Int)} (he : PE X e (rdE xr X.K W f))
    (hl : PO X lo (rd (α := Option Int) (β := Option Int) (fun _ _ _ _ a b L => b = a ∧ L = []) xr X.K W g)) (hh : PO X hi (rd (α := Option Int) (β := Option Int) (fun _ _ _ _ a b L => b = a ∧ L = []) xr X.K W h)) :
    PE X (.Subscript e (.Slice lo hi none p2) pos) (rdE xr X.K W fun env => (f env).bind fun r env => (g env).bind fun l env => (h env).bind fun u env => match r.view env with
      | some d => lift (slD d l u) env
      | none => .bad) := by
  refine pe_weak (pe_slice (r := rSl X.K) (sl_list.or (sl_tupA.or sl_str)) he hl hh) fun σ H Q hq => ?_
  refine rd_bind hq fun r env1 v H1 Z1 M1 P1 F1 L1 h1 p1 x d => ?_
  refine Here.bind h1 d fun l env2 l' H2 Z2 M2 P2 F2 L2 h2 p2 x2 fr2 k2 d2 => ?_
  obtain ⟨rfl, rfl⟩ := x2
  have p1' : Pend Z2 M2 P2 F2 L1 := Pend.step h1.bs.zs fr2 p1 k2.1
  refine Here.bind h2 d2 fun u env3 u' H3 Z3 M3 P3 F3 L3 h3 p3 x3 fr3 k3 d3 => ?_
  obtain ⟨rfl, rfl⟩ := x3
  have x3 := (x.step h1.rep.bs fr2 p1).step h2.rep.bs fr3 p1'
  cases e1 : r.view env3 with
  | none => rw [e1] at d3; exact d3.elim
  | some d0 =>
    rw [e1] at d3
    have va := x3.view h3.rep e1
    cases d0 with
    | lst xs =>
      obtain ⟨p, vs, rfl, hs, hv⟩ := va.lst
      exact .inl ⟨p, vs, rfl, .inl (.inl hs), ret_lst h3 d3 (cut_ok hv l' u')⟩
    | tup xs =>
      obtain ⟨p, vs, rfl, hs, hv⟩ := va.tup
      refine .inr (.inl ⟨p, vs, rfl, hs, fun hw => ?_, fun _ => ret_tup h3 d3 (cut_ok hv l' u')⟩)
      rw [hv.len] at hw
      have d3' : Done RvR xr X.K W H3 Z3 F3 P3 σ Q (.ok (.v (.tup (slL xs l' u'))) env3) := d3
      rw [cut_whole hw] at d3'
      rcases va with va | ⟨_, _, _, _, z2, _⟩
      · exact ret_val h3 d3' va
      · cases z2
    | str z =>
      cases va.str
      have d3' : Done RvR xr X.K W H3 Z3 F3 P3 σ Q (lift (if Nat.ble z.length big then some (.str ⟨(slL z.cps.toList l' u').toArray⟩) else none) env3) := d3
      split at d3'
      · rename_i hb
        refine .inr (.inr ⟨z, rfl, ble_big hb, ?_⟩)
        have e3 : cutS z l' u' = ⟨(slL z.cps.toList l' u').toArray⟩ := by
          have hl : z.cps.toList.length = z.length := by simp [Str.length]
          unfold cutS slL
          rw [hl]
          cases l' <;> cases u' <;> rfl
        rw [e3]
        exact ret_val h3 d3' (.str _)
      · exact d3'.elim
    | _ => exact d3.elim
theorem se_rev {e : Expr} {k : Nat} {q1 q2 q3 pos : Pos} {f : En → Res RV} (he : PE X e (rdE xr X.K W f)) : PE X (.Subscript e (.Slice none none (some (.UnaryOp .USub (.Constant (.int 1) k q1) q2)) q3) pos)
    (rdE xr X.K W fun env => (f env).bind fun r env => match r.view env with
      | some d => lift (revD d) env
      | none => .bad) := by
  refine pe_weak (pe_revL he) fun σ H Q hq => ?_
  refine rd_bind hq fun r env1 v H1 Z1 M1 P1 F1 L1 h1 p1 x d => ?_
  cases e1 : r.view env1 with
  | none => rw [e1] at d; exact d.elim
  | some d0 =>
    rw [e1] at d
    have va := x.view h1.rep e1
    cases d0 with
    | lst xs =>
      obtain ⟨p, vs, rfl, hs, hv⟩ := va.lst
      exact ⟨p, vs, rfl, .inl (.inl hs), ret_lst h1 d hv.reverse⟩
    | _ => exact d.elim
end
end Ev
namespace PySem.W
open PySem PyProof.Rows
section
variable {prog : Program} {w : World} {A : Around} {E : Value → Shared → Prop} {s : Shared}
theorem collect_tupS {l : Addr} {vs : List Value} {Q : List Value → Shared → Prop} (hl : IsTup s.heap l vs.toArray)
    (h : Q vs { s with heap := (s.heap.push (seqObj "list" #[] 0)).update s.heap.objs.size (Obj.mapSeq (· ++ vs.toArray)) }) (hsz : vs.length ≤ sizeLine) :
    wpAny (model prog w) A (collect (.ref l)) Q E s := by
  obtain ⟨o, ho, hc, n, hd⟩ := id hl
  unfold collect
  refine wpAny_bind (wpAny_runValue (codeAny_builtin entry_proto_collect' ?_))
  show wpAny _ _ (do again (.builtin "list.__iadd__" ⟨[← newList [], .ref l], []⟩)) _ _ s
  refine wpAny_bind (wpAny_newList (wpAny_pure ⟨Code.quiet_builtin _ (by decide +kernel), codeAny_builtin entry_list_iadd' ?_⟩))
  show wpAny _ _ (Builtin.List.listExtendWith (.ref s.heap.objs.size) (.ref l) (.ref s.heap.objs.size)) _ _ { s with heap := s.heap.push (seqObj "list" #[] 0) }
  unfold Builtin.List.listExtendWith
  have ho' : (s.heap.push (seqObj "list" #[] 0)).get? l = some o := Heap.get?_push_of_some _ ho
  refine wpAny_bind (wpAny_typeOf (T := "tuple") ⟨o, ho', hc⟩ ?_)
  have ht : (Value.type "tuple" == Value.type "tuple") = true := by rfl
  rw [if_pos (by rw [ht]; simp)]
  refine wpAny_bind (listItems_at ho' hd ?_)
  refine wpAny_bind (listItems_at (xs := #[]) (n := 0) (Heap.get?_push_size _ rfl) rfl ?_)
  rw [if_neg (by simp)]
  refine wpAny_bind (listUpdate_at (xs := #[]) (n := 0) (Heap.get?_push_size _ rfl) rfl ?_ (Nat.zero_le _) (by show (#[] ++ vs.toArray).size ≤ sizeLine + 1; simp only [Array.size_append, List.size_toArray, List.length_nil]; omega))
  refine wpAny_pure ?_
  show wpAny (model prog w) A (do
      let o ← load s.heap.objs.size
      match o.data with
      | .seq xs _ => pure xs.toList
      | _ => unsupported "internal:collect") Q E { s with heap := (s.heap.push (seqObj "list" #[] 0)).update s.heap.objs.size (Obj.mapSeq (· ++ vs.toArray)) }
  refine wpAny_bind (wpAny_load (get?_update_seq (Heap.get?_push_size _ rfl) _) ?_)
  show wpAny _ _ (pure ((#[] : Array Value) ++ vs.toArray).toList) Q E _
  rw [show ((#[] : Array Value) ++ vs.toArray).toList = vs by simp]
  exact wpAny_pure h
/-- sorted of whatever is collected so -/
theorem sorted_of_sortC {l : Addr} {vs : List Value} {kw : List (Str × Value)} {Q : Value → Shared → Prop} (hc : ∀ (A : Around) (E : Value → Shared → Prop) (Q : List Value → Shared → Prop), Q vs { s with heap := (s.heap.push (seqObj "list" #[] 0)).update s.heap.objs.size (Obj.mapSeq (· ++ vs.toArray)) } → wpAny (model prog w) A (collect (.ref l)) Q E s)
    (hL : vs.length ≤ sizeLine) (ha1 : argsOk "sorted" ⟨[.ref l], kw⟩) (ha2 : ∀ x, argsOk "list.sort" ⟨[.ref x], kw⟩)
    (body : ∀ E' : Value → Shared → Prop, wpAny (model prog w) A.in1.in1 (Builtin.«list.sort» ⟨[.ref (s.heap.objs.size + 1)], kw⟩) (fun f s' => f = .done (.ret .none) ∧ Q (.ref (s.heap.objs.size + 1)) s') E' { s with heap := copyHeap s.heap vs }) :
    wpAny (model prog w) A (call (.builtin "sorted") [.ref l] kw) Q E s := by
  refine call_function_entry_kw kind_sorted plain_sorted entry_sorted ha1 ?_
  unfold Builtin.«sorted»
  refine wpAny_bind (m := checkCount "sorted" 1 1 _) (wpAny_pure ?_)
  refine wpAny_bind (hc _ _ _ ?_)
  refine wpAny_bind (wpAny_newList ?_ hL)
  have hsz : ((s.heap.push (seqObj "list" #[] 0)).update s.heap.objs.size (Obj.mapSeq (· ++ vs.toArray))).objs.size = s.heap.objs.size + 1 := by
    rw [Heap.size_update, size_push']
  show wpAny _ _ _ _ _ { s with heap := copyHeap s.heap vs }
  rw [hsz]
  refine wpAny_bind (wpAny_holding (wpAny_call_entry_kw slot_list_sort ⟨_, copyHeap_at s.heap vs, rfl⟩ entry_list_sort ?body (ha2 _)))
  case body =>
    show wpAny (model prog w) A.in1.in1 (Builtin.«list.sort» ⟨[.ref (s.heap.objs.size + 1)], kw⟩) _ _ _
    refine wpAny_mono (body _) (fun f s' hf => ?_) fun _ _ e => e
    obtain ⟨rfl, hq⟩ := hf
    exact ⟨_, rfl, wpAny_pure ⟨_, rfl, hq⟩⟩
theorem sorted_dataC {β : Type} {vs : List Value} {bs : List β} {enc : β → PyData} {R : Value → β → Prop} {l : Addr} {Q : Value → Shared → Prop}
    (hc : ∀ (A : Around) (E : Value → Shared → Prop) (Q : List Value → Shared → Prop), Q vs { s with heap := (s.heap.push (seqObj "list" #[] 0)).update s.heap.objs.size (Obj.mapSeq (· ++ vs.toArray)) } → wpAny (model prog w) A (collect (.ref l)) Q E s)
    (e : EachIs R vs bs) (er : EachIs (fun v b => ∃ as, Reads s.heap v (enc b) as) vs bs) (hal : AllAlike (bs.map enc)) (hk : Sortable (bs.map enc)) (hL : bs.length ≤ sizeLine)
    (hu : ∀ b, b ∈ bs → A.units + 2 + (enc b).depth < cLine) (h : ∀ out, out.length = bs.length → EachIs R out (bs.mergeSort (dataLe false enc)) → Q (.ref (s.heap.objs.size + 1)) { s with heap := sortedAll s.heap vs (List.toArray out) }) :
    wpAny (model prog w) A (call (.builtin "sorted") [.ref l]) Q E s := by
  have er' : EachIs (fun v b => ∃ as, Reads (sortingHeap (copyHeap s.heap vs) (s.heap.objs.size + 1) vs) v (enc b) as) vs bs := er.mono fun _ _ ⟨as, r⟩ => ⟨as, PyProof.Rows.Reads.keeps (fun _ _ => sorting_copy_old) r⟩
  refine sorted_of_sortC hc (by rw [e.length]; exact hL) (args_sorted1 _) (fun _ => args_list_sort _) fun _ => list_sort_vals (s := { s with heap := copyHeap s.heap vs }) (copyHeap_at s.heap vs) (SortsAt.data (s := { s with heap := sortingHeap (copyHeap s.heap vs) (s.heap.objs.size + 1) vs }) (each_map (R := fun v d => ∃ as, Reads (sortingHeap (copyHeap s.heap vs) (s.heap.objs.size + 1) vs) v d as) enc er') hal hk (bound_map hu)) (by rw [e.length]; exact hL) ⟨rfl, ?_⟩
  exact h _ (by rw [sortVals_length false rfl]; exact e.length) (sortVals_data false e er' hal)
end
end PySem.W
namespace Ev
open PySem PySem.Spec PyProof.Rows L2
theorem insS_split {α : Type} {le : α → α → Bool} {a : α} : ∀ {l₁ l₂ : List α}, (∀ b ∈ l₁, le a b = false) → (∀ b r, l₂ = b :: r → le a b = true) → insS le a (l₁ ++ l₂) = l₁ ++ a :: l₂
  | [], [], _, _ => rfl
  | [], b :: r, _, h => by
    show (if le a b then a :: b :: r else b :: insS le a r) = _
    rw [if_pos (h b r rfl)]; rfl
  | c :: l₁, l₂, h, h' => by
    show (if le a c then a :: c :: (l₁ ++ l₂) else c :: insS le a (l₁ ++ l₂)) = _
    rw [if_neg (by rw [h c List.mem_cons_self]; exact Bool.false_ne_true), insS_split (fun b hb => h b (List.mem_cons_of_mem _ hb)) h']
    rfl
theorem sortS_eq {α : Type} {le : α → α → Bool} (tr : ∀ a b c, le a b = true → le b c = true → le a c = true) (tot : ∀ a b, (le a b || le b a) = true) : ∀ xs : List α, xs.mergeSort le = sortS le xs
  | [] => by simp [sortS]
  | a :: l => by
    obtain ⟨l₁, l₂, h1, h2, h3⟩ := List.mergeSort_cons tr tot a l
    show _ = insS le a (sortS le l)
    rw [← sortS_eq tr tot l, h2, h1, insS_split (fun b hb => by simpa using h3 b hb) fun b r e => ?_]
    have hp := List.pairwise_mergeSort tr tot (a :: l)
    rw [h1, e] at hp
    have h4 := (List.pairwise_append.mp hp).2.1
    exact (List.pairwise_cons.mp h4).1 b List.mem_cons_self
/-! ### sorted -/
abbrev leD : D → D → Bool := PySem.W.dataLe false D.toP
theorem sortD_eq (xs : List D) : xs.mergeSort leD = sortS leD xs :=
  let T := PySem.W.sortLe_total (PyProof.Rows.listOrd PyProof.Rows.itemOrd) false fun b : D => PySem.W.keyToks b.toP
  sortS_eq (fun a b c => T.trans a b c) (fun a b => by rw [Bool.or_eq_true]; exact T.total a b) xs
theorem each_of {K : PySem.W.Frag} {H : Hp} : ∀ {vs : List V} {ds : List D} {us : List Value}, RpVs K H vs ds → Vals vs us → PySem.W.EachIs (fun u d => ∃ v, RelV v u ∧ RpV K H v d) us ds
  | _, _, _, .nil, .nil => .nil
  | _, _, _, .cons a b, .cons r s => .cons ⟨_, r, a⟩ (each_of b s)
theorem of_each {K : PySem.W.Frag} {H : Hp} : ∀ {us : List Value} {ds : List D}, PySem.W.EachIs (fun u d => ∃ v, RelV v u ∧ RpV K H v d) us ds → ∃ vs, RpVs K H vs ds ∧ Vals vs us
  | _, _, .nil => ⟨[], .nil, .nil⟩
  | _, _, .cons ⟨v, r, a⟩ t => let ⟨vs, b, s⟩ := of_each t; ⟨v :: vs, .cons a b, .cons r s⟩
/-- sorted(xs), xs a list or tuple of alike data -/
def rSorted' (K : PySem.W.Frag) : List V → Hp → VK → Prop := fun vs H Q => ∃ (a : Addr) (ws : List V) (H0 : Hp) (ds : List D), vs = [.ref a] ∧ (SqL K H a ws ∨ SqT K H a ws) ∧ Sub H0 H ∧ RpVs K H0 ws ds ∧ sortOk ds = true ∧
  ∀ p out, H p = none → RpVs K H0 out (sortS leD ds) → Q (.ref p) (upd H p (.lst out))
theorem all2 {α : Type} {p : α → α → Bool} {xs : List α} (h : xs.all (fun x => xs.all (p x)) = true) : ∀ a ∈ xs, ∀ b ∈ xs, p a b = true := fun a ha b hb => List.all_eq_true.mp (List.all_eq_true.mp h a ha) b hb
theorem sorted_R {X : Cx} (hu : X.A.units + 80 < cLine) : CallR X (.builtin "sorted") (rSorted' X.K) := by
  intro pins s σ H xs us Q I r h
  obtain ⟨a, ws, H0, ds, rfl, hs, sub, hv, hok, q⟩ := h
  rw [Vals.ref1 r]
  unfold sortOk at hok
  simp only [Bool.and_eq_true] at hok
  obtain ⟨⟨⟨k1, k2⟩, k3⟩, k4⟩ := hok
  have hal : PySem.W.AllAlike (ds.map D.toP) := fun x hx y hy => by
    obtain ⟨x', hx', rfl⟩ := List.mem_map.mp hx
    obtain ⟨y', hy', rfl⟩ := List.mem_map.mp hy
    exact all2 k1 x' hx' y' hy'
  have hsort : PySem.W.Sortable (ds.map D.toP) := by
    rw [Bool.or_eq_true] at k2
    rcases k2 with k2 | k2
    · refine .inl fun x hx => ?_
      obtain ⟨x', hx', rfl⟩ := List.mem_map.mp hx
      have e := List.all_eq_true.mp k2 x' hx'
      cases x' with
      | tup xs =>
        cases xs with
        | nil => cases e
        | cons y ys => exact ⟨_, _, rfl⟩
      | _ => cases e
    · refine .inr fun x hx => ?_
      obtain ⟨x', hx', rfl⟩ := List.mem_map.mp hx
      have e := List.all_eq_true.mp k2 x' hx'
      cases x' with
      | tup xs => cases e
      | non => cases e
      | _ => exact ⟨(by intro z; cases z), (by intro _ z; cases z)⟩
  have main : ∀ {its : List Value}, Vals ws its → (∀ (A : Around) (E : Value → Shared → Prop) (Q : List Value → Shared → Prop), Q its { s with heap := (s.heap.push (PyProof.Rows.seqObj "list" #[] 0)).update s.heap.objs.size (Obj.mapSeq (· ++ its.toArray)) } → wpAny (model X.prog X.w) A (collect (.ref a)) Q E s) →
      wpAny (model X.prog X.w) X.A (call (.builtin "sorted") [.ref a]) (EP X pins σ Q) X.xe s := fun {its} rv hc => by
    have e1 := each_of hv rv
    refine PySem.W.sorted_dataC (enc := D.toP) hc e1 ?_ hal hsort (by rw [← hv.len]; rw [hv.len]; exact ble_big k4) (fun b hb => ?_) fun out ho eo => ?_
    · refine e1.mono fun u d hd => ?_
      obtain ⟨v, r, x⟩ := hd
      exact Dp.reads I _ v u (RpV.dp d (RpV.mono sub d x)) r
    · have e := List.all_eq_true.mp k3 b hb
      have : b.toP.depth ≤ 64 := by
        unfold okP SeqAt.shaped at e
        rw [Bool.and_eq_true, decide_eq_true_eq] at e
        exact e.2
      omega
    · rw [sortD_eq] at eo
      obtain ⟨vs', x', r'⟩ := of_each eo
      have hf : H (s.heap.objs.size + 1) = none := I.hok.fresh (Nat.le_succ _)
      obtain ⟨e, he⟩ := PyProof.Rows.sortedAll_at s.heap its out.toArray
      refine ⟨.ref (s.heap.objs.size + 1), upd H (s.heap.objs.size + 1) (.lst vs'), I.laid (t' := s.toks) (fun b u q => PyProof.Rows.sortedAll_old q) (Nat.le_succ _) ?_, rfl, q _ _ hf x'⟩
      have l1 : vs'.length = out.length := r'.length
      exact ⟨by rw [l1, ho]; exact ble_big k4, out, e, r', he⟩
  rcases hs with hs | hs
  · obtain ⟨its, rv, pl, hz⟩ := I.list hs
    exact main rv fun A E Q q => PyProof.Rows.collect_list pl.isList q (by rw [← rv.length]; exact hz)
  · obtain ⟨its, rv, pl, hz⟩ := I.tuple hs
    exact main rv fun A E Q q => PySem.W.collect_tupS pl q (by rw [← rv.length]; exact hz)
end Ev
namespace Ev
open PySem PySem.Spec PyProof.Rows L2
inductive VRs (K : PySem.W.Frag) (H : Hp) (Z : Addr → Bool) : List V → List D → Prop
  | nil : VRs K H Z [] []
  | cons {v : V} {d : D} {vs : List V} {ds : List D} : VR K H Z v d → VRs K H Z vs ds → VRs K H Z (v :: vs) (d :: ds)
section
variable {xr : XR} {W : WX} {X : Cx} {σ : L2.St} {H H1 : Hp} {Z Z1 : Addr → Bool} {M M1 P P1 L L' F F1 : List Addr} {env env1 : En}
theorem views_ok {rs : List RV} {vs : List V} {ds : List D} (rp : Rep X.K H Z M P env σ) (x : RvsR X.K H Z σ rs vs L) (e : views rs env = some ds) : VRs X.K H Z vs ds := by
  induction rs generalizing vs ds L with
  | nil => cases x; cases e; exact .nil
  | cons r rs ih =>
    cases x with
    | cons a t =>
      unfold views at e
      split at e
      · rename_i d e1
        split at e
        · rename_i ds' e2
          cases e
          exact .cons (a.view rp e1) (ih t e2)
        · cases e
      · cases e
/-- a call of values does what g does -/
def Call1 (xr : XR) (W : WX) (X : Cx) (r : List V → Hp → VK → Prop) (g : D → Option D) : Prop :=
  ∀ {σ : L2.St} {H : Hp} {Z : Addr → Bool} {M P F : List Addr} {env : En} {x : V} {a d : D} {Q : VK}, Here X.K σ H Z M P F env → VR X.K H Z x a → g a = some d → Back xr X.K W H Z F P σ Q d env → r [x] H Q
theorem len_op : Call1 xr W X (fun xs H Q => (∃ p ys, xs = [.ref p] ∧ (SqL X.K H p ys ∨ SqT X.K H p ys) ∧ Q (.int ys.length) H) ∨ ∃ z, xs = [.str z] ∧ z.length ≤ sizeLine ∧ Q (.int z.length) H) (bi1 .len) := by
  intro σ H Z M P F env x a d Q h va e q
  cases a with
  | lst xs =>
    cases e
    obtain ⟨p, vs, rfl, hs, hv⟩ := va.lst
    exact .inl ⟨p, vs, rfl, .inl (.inl (.inl hs)), by rw [hv.len]; exact ret_val h q (.int _)⟩
  | tup xs =>
    cases e
    obtain ⟨p, vs, rfl, hs, hv⟩ := va.tup
    exact .inl ⟨p, vs, rfl, .inr hs, by rw [hv.len]; exact ret_val h q (.int _)⟩
  | str z =>
    cases va.str
    have e' : (if Nat.ble z.length big then some (D.int z.length) else none) = some d := e
    split at e'
    · rename_i hb
      cases e'
      exact .inr ⟨z, rfl, ble_big hb, ret_val h q (.int _)⟩
    · cases e'
  | _ => cases e
theorem int_op : Call1 xr W X (fun xs H Q => (∃ i, xs = [.int i] ∧ Q (.int i) H) ∨ ∃ k, xs = [.bl k] ∧ Q (.int (if k then 1 else 0)) H) (bi1 .int) := by
  intro σ H Z M P F env x a d Q h va e q
  cases a with
  | int i => cases e; cases va.int; exact .inl ⟨i, rfl, ret_val h q (.int _)⟩
  | bl b => cases e; cases va.bl; exact .inr ⟨b, rfl, ret_val h q (.int _)⟩
  | _ => cases e
theorem abs_op : Call1 xr W X (fun xs H Q => ∃ i, xs = [.int i] ∧ Q (.int (if i < 0 then -i else i)) H) (bi1 .abs) := by
  intro σ H Z M P F env x a d Q h va e q
  cases a with
  | int i => cases e; cases va.int; exact ⟨i, rfl, ret_val h q (.int _)⟩
  | _ => cases e
theorem tuple_op : Call1 xr W X (fun xs H Q => ∃ p ys, xs = [.ref p] ∧ ((SqL X.K H p ys ∧ ∀ l, H l = none → Q (.ref l) (upd H l (.tup ys))) ∨ (SqT X.K H p ys ∧ Q (.ref p) H))) (bi1 .tuple) := by
  intro σ H Z M P F env x a d Q h va e q
  cases a with
  | lst xs =>
    cases e
    obtain ⟨p, vs, rfl, hs, hv⟩ := va.lst
    exact ⟨p, vs, rfl, .inl ⟨.inl (.inl hs), ret_tup h q hv⟩⟩
  | tup xs =>
    cases e
    obtain ⟨p, vs, rfl, hs, hv⟩ := va.tup
    refine ⟨p, vs, rfl, .inr ⟨hs, ?_⟩⟩
    rcases va with va | ⟨_, _, _, _, z2, _⟩
    · exact ret_val h q va
    · cases z2
  | _ => cases e
theorem list_op : Call1 xr W X (fun xs H Q => ∃ p ys, xs = [.ref p] ∧ (SqL X.K H p ys ∨ SqT X.K H p ys) ∧ ∀ l, H l = none → Q (.ref l) (upd H l (.lst ys))) (bi1 .list) := by
  intro σ H Z M P F env x a d Q h va e q
  cases a with
  | lst xs =>
    cases e
    obtain ⟨p, vs, rfl, hs, hv⟩ := va.lst
    exact ⟨p, vs, rfl, .inl (.inl (.inl hs)), ret_lst h q hv⟩
  | tup xs =>
    cases e
    obtain ⟨p, vs, rfl, hs, hv⟩ := va.tup
    exact ⟨p, vs, rfl, .inr hs, ret_lst h q hv⟩
  | _ => cases e
theorem bools_ok {K : PySem.W.Frag} {H : Hp} : ∀ {ds : List D} {vs : List V} {bs : List Bool}, RpVs K H vs ds → bools ds = some bs → vs = bs.map V.bl
  | [], _, _, h, e => by cases h; cases e; rfl
  | d :: ds, _, _, h, e => by
    cases h with
    | cons a b =>
      cases d with
      | bl k =>
        unfold bools at e
        split at e
        · rename_i bs' e1
          cases e
          cases a
          rw [bools_ok b e1]; rfl
        · cases e
      | _ => cases e
theorem all_op : Call1 xr W X (rAll X.K) (bi1 .all) := by
  intro σ H Z M P F env x a d Q h va e q
  cases a with
  | lst xs =>
    obtain ⟨p, vs, rfl, hs, hv⟩ := va.lst
    cases hb : bools xs with
    | none => simp only [bi1, hb] at e; cases e
    | some bs =>
      simp only [bi1, hb] at e
      cases e
      exact ⟨p, bs, rfl, by rw [← bools_ok hv hb]; exact .inl (.inl hs), ret_val h q (.bl _)⟩
  | _ => cases e
theorem any_op : Call1 xr W X (rAny X.K) (bi1 .any) := by
  intro σ H Z M P F env x a d Q h va e q
  cases a with
  | lst xs =>
    obtain ⟨p, vs, rfl, hs, hv⟩ := va.lst
    cases hb : bools xs with
    | none => simp only [bi1, hb] at e; cases e
    | some bs =>
      simp only [bi1, hb] at e
      cases e
      exact ⟨p, bs, rfl, by rw [← bools_ok hv hb]; exact .inl (.inl hs), ret_val h q (.bl _)⟩
  | _ => cases e
theorem sorted_op : Call1 xr W X (rSorted' X.K) (fun d => match d with | .lst xs => sortD xs | .tup xs => sortD xs | _ => none) := by
  intro σ H Z M P F env x a d Q h va e q
  have key : ∀ {xs : List D} {p : Addr} {vs : List V}, (SqL X.K H p vs ∨ SqT X.K H p vs) → x = .ref p → RpVs X.K (hid Z H) vs xs → sortD xs = some d → rSorted' X.K [x] H Q := fun {xs p vs} hs hy hv e => by
    unfold sortD at e
    split at e
    · rename_i hk
      cases e
      exact ⟨p, vs, hid Z H, xs, by rw [hy], hs, hid_sub, hv, hk, fun l out hl ho => ret_lst h q ho l hl⟩
    · cases e
  cases a with
  | lst xs =>
    obtain ⟨p, vs, hy, hs, hv⟩ := va.lst
    exact key (.inl (.inl (.inl hs))) hy hv e
  | tup xs =>
    obtain ⟨p, vs, hy, hs, hv⟩ := va.tup
    exact key (.inr hs) hy hv e
  | _ => cases e
def biName : Bi → Str
  | .len => "len"
  | .int => "int"
  | .abs => "abs"
  | .tuple => "tuple"
  | .list => "list"
  | .sorted => "sorted"
  | .all => "all"
  | .any => "any"
  | .str => "str"
def biF (b : Bi) : D → Option D := match b with
  | .sorted => fun d => match d with
    | .lst xs => sortD xs
    | .tup xs => sortD xs
    | _ => none
  | b => bi1 b
theorem biD_one (b : Bi) (d : D) : biD b [d] = biF b d := by cases b <;> rfl
theorem run1 {r : List V → Hp → VK → Prop} {g : D → Option D} (o : Call1 xr W X r g) {b : Bi} (hg : biF b = g) {f : En → Res (List RV)} {σ : L2.St} {H : Hp} {Q : VK}
    (h : rdE xr X.K W (fun env => (f env).bind fun rs env => match views rs env with
      | some ds => lift (biD b ds) env
      | none => .bad) σ H Q) : rdA xr X.K W f σ H fun vs H1 => r vs H1 Q := by
  refine rd_bind h fun rs env1 vs H1 Z1 M1 P1 F1 L1 h1 p1 x d => ?_
  split at d
  · rename_i ds e
    have va := views_ok h1.rep x e
    cases va with
    | nil => exact d.elim
    | cons a t =>
      cases t with
      | nil =>
        rw [biD_one, hg] at d
        cases e1 : g _ with
        | none => rw [e1] at d; exact d.elim
        | some d0 => rw [e1] at d; exact o h1 a e1 d
      | cons _ _ => exact d.elim
  · exact d.elim
theorem sound_bi {k : Nat} (hr : Room k X.A) (hc : X.calm = true) {b : Bi} (hb : b ≠ .str) (hg : Gl X (biName b)) (hm : X.mg (biName b) = none) {e : Expr} {p pos : Pos} {f : En → Res (List RV)} (ha : PA X [e] (rdA xr X.K W f))
    (hs : starEach [e] X.env = (false, eval e X.env) :: starEach [] X.env) :
    PE X (.Call (.Name (biName b) p) [e] [] pos) (rdE xr X.K W fun env => (f env).bind fun rs env => match views rs env with
      | some ds => lift (biD b ds) env
      | none => .bad) := by
  have hu : X.A.units + 80 < cLine := by have := hr.un; omega
  cases b with
  | len => exact pe_weak (pe_callB (callr_or call_len_seq call_len_str) hg hm PySem.boot_len ha (by decide) (by decide) hs rfl) fun σ H Q h => run1 (@len_op xr W X) rfl h
  | int => exact pe_weak (pe_callTy call_int1 hg hm boot_int ha (by decide) (by decide) hs rfl) fun σ H Q h => run1 (@int_op xr W X) rfl h
  | abs => exact pe_weak (pe_callB call_abs hg hm boot_abs ha (by decide) (by decide) hs rfl) fun σ H Q h => run1 (@abs_op xr W X) rfl h
  | tuple => exact pe_weak (pe_callTy call_tuple_of hg hm boot_tuple ha (by decide) (by decide) hs rfl) fun σ H Q h => run1 (@tuple_op xr W X) rfl h
  | list => exact pe_weak (pe_callTy call_list_of hg hm boot_list ha (by decide) (by decide) hs rfl) fun σ H Q h => run1 (@list_op xr W X) rfl h
  | sorted => exact pe_weak (pe_callB (sorted_R hu) hg hm boot_sorted ha (by decide) (by decide) hs rfl) fun σ H Q h => run1 (@sorted_op xr W X) rfl h
  | all => exact pe_weak (pe_callB (cr_all hc) hg hm (by decide +kernel) ha (by decide) (by decide) hs rfl) fun σ H Q h => run1 (@all_op xr W X) rfl h
  | any => exact pe_weak (pe_callB (cr_any hc) hg hm (by decide +kernel) ha (by decide) (by decide) hs rfl) fun σ H Q h => run1 (@any_op xr W X) rfl h
  | str => exact absurd rfl hb
/-! ### isinstance -/
def tyName : Ty → String
  | .int => "int"
  | .bool => "bool"
  | .str => "str"
  | .tuple => "tuple"
  | .list => "list"
def tagName : Tag → String
  | .non => "NoneType"
  | .bl => "bool"
  | .int => "int"
  | .str => "str"
  | .tup => "tuple"
  | .lst => "list"
theorem kitT (g : Tag) (t : Ty) : kitB (tagName g) (tyName t) = some (isiT g t) := by cases g <;> cases t <;> decide +kernel
theorem isi_ok {K : PySem.W.Frag} {H : Hp} {Z : Addr → Bool} {v : V} {d : D} {L : List Addr} (t : Ty) (x : RpX K H Z v d L) : ∃ T, TyX K H v (.type T) ∧ PySem.W.kitOne K (.type T) (.type (tyName t)) = some (isiD d t) := by
  cases d with
  | mls xs =>
    cases x with
    | val x => cases x
    | mls h1 h2 => exact ⟨"list", .base (.lst h1), kit_ty (kitT .lst t)⟩
  | non => cases x with | val x => cases x; exact ⟨"NoneType", .base .non, kit_ty (kitT .non t)⟩
  | bl b => cases x with | val x => cases x; exact ⟨"bool", .base (.bl _), kit_ty (kitT .bl t)⟩
  | int i => cases x with | val x => cases x; exact ⟨"int", .base (.int _), kit_ty (kitT .int t)⟩
  | str i => cases x with | val x => cases x; exact ⟨"str", .base (.str _), kit_ty (kitT .str t)⟩
  | tup xs =>
    cases x with
    | val x =>
      cases x with
      | tup a b =>
        rcases hid_sub.t a with (s | ⟨o, s⟩) | s
        · exact ⟨"tuple", .base (.tup s), kit_ty (kitT .tup t)⟩
        · exact ⟨"tuple", .fTuple s, kit_ty (kitT .tup t)⟩
        · obtain ⟨o, its, n, h1, h2, _⟩ := s
          exact ⟨"tuple", .kTuple h1 h2, kit_ty (kitT .tup t)⟩
  | lst xs =>
    cases x with
    | val x =>
      cases x with
      | lst a b => exact ⟨"list", .base (.lst (hid_sub _ _ a)), kit_ty (kitT .lst t)⟩
  | rol xs =>
    cases x with
    | val x =>
      cases x with
      | rol a b =>
        rcases hid_sub.l a with (s | ⟨o, s⟩) | s
        · exact ⟨"list", .base (.lst s), kit_ty (kitT .lst t)⟩
        · exact ⟨"list", .base (.frz s), kit_ty (kitT .lst t)⟩
        · obtain ⟨o, its, n, h1, h2, _⟩ := s
          exact ⟨"list", .kList h1 h2, kit_ty (kitT .lst t)⟩
theorem ty_glob (t : Ty) : bootBuiltins (tyName t : Str) = some (.type (tyName t)) := by cases t <;> decide +kernel
def rIsi1 (K : PySem.W.Frag) (T : String) : List V → Hp → VK → Prop := fun xs H Q => rIsi K (xs ++ [.ty T]) H Q
theorem sound_isi {t : Ty} {e : Expr} {p p2 pos : Pos} {f : En → Res RV} (he : PE X e (rdE xr X.K W f)) (hg : Gl X "isinstance") (hm : X.mg "isinstance" = none) (hg2 : Gl X (tyName t)) (hm2 : X.mg (tyName t : Str) = none)
    (hs : ∀ l, starEach (e :: l) X.env = (false, eval e X.env) :: starEach l X.env) :
    PE X (.Call (.Name "isinstance" p) [e, .Name (tyName t) p2] [] pos) (rdE xr X.K W fun env => (f env).bind fun r env => match r.cont env with
      | some d => .ok (.v (.bl (isiD d t))) env
      | none => .bad) := by
  have h2 : PE X (.Name (tyName t) p2) (tC (.ty (tyName t))) := pe_bltn hg2 hm2 (ty_glob t) rfl (by cases t <;> decide) (by cases t <;> decide)
  refine pe_weak (pe_callB call_isi hg hm boot_isinstance (pa_cons he (pa_cons h2 pa_nil) (hs _)) (by decide) (by decide) (hs _) rfl) fun σ H Q h => ?_
  refine rd_bind h fun r env1 v H1 Z1 M1 P1 F1 L1 h1 p1 x d => ?_
  split at d
  · rename_i d0 e1
    obtain ⟨L', x'⟩ := x.cont h1.rep e1
    obtain ⟨T, t1, t2⟩ := isi_ok t x'
    exact ⟨v, .ty (tyName t), .type T, .type (tyName t), _, rfl, .ty _, t1, t2, ret_val h1 d (.bl _)⟩
  · exact d.elim
end
end Ev
namespace Ev
open PySem PySem.Spec PyProof.Rows L2
/-- the exception classes: where they stand, the field that holds the argument -/
structure XT where
  cls : Nat → Option Addr
  fld : Nat → Option Str
def xrOf (T : XT) : XR := fun c p K H Z cls dd => ∃ C, T.cls c = some C ∧ cls = .ref C ∧ match p with
  | none => dd = none
  | some d => ∃ a nm v, dd = some a ∧ T.fld c = some nm ∧ H a = some (.xd [(nm, v)]) ∧ RpV K (hid Z H) v d
theorem xr_hide {T : XT} {c : Nat} {p : Option D} {K : PySem.W.Frag} {H : Hp} {Z Z' : Addr → Bool} {cls : Value} {dd : Option Addr} (hz : ∀ a, Z' a = true → ∃ xs, H a = some (.lst xs)) (n : plNoL p = true) (x : xrOf T c p K H Z cls dd) : xrOf T c p K H Z' cls dd := by
  obtain ⟨C, h1, h2, h3⟩ := x
  refine ⟨C, h1, h2, ?_⟩
  cases p with
  | none => exact h3
  | some d =>
    obtain ⟨a, nm, v, e1, e2, e3, e4⟩ := h3
    exact ⟨a, nm, v, e1, e2, e3, RpV.hideL hz d n (RpV.mono hid_sub d e4)⟩
/-! ### what a def promises, by its meaning on data -/
/-- the arguments: the first one may be owned -/
def ArgsR (K : PySem.W.Frag) (H : Hp) (Z : Addr → Bool) (io : Bool) (vs : List V) (ds : List D) (M : List Addr) : Prop :=
  if io then ∃ v vr d dr, vs = v :: vr ∧ ds = d :: dr ∧ RpX K H Z v d M ∧ RpVs K (hid Z H) vr dr else RpVs K (hid Z H) vs ds ∧ M = []
def FSp (xr : XR) (K : PySem.W.Frag) (io : Bool) (F : List D → FR) (n : Nat) : Sp := fun vs H Q E => ∃ (Z : Addr → Bool) (M : List Addr) (ds : List D), vs.length = n ∧ ArgsR K H Z io vs ds M ∧ M.Nodup ∧ (∀ a ∈ M, Z a = true) ∧ (∀ a, Z a = true → ∃ xs, H a = some (.lst xs)) ∧
  match F ds with
  | .ok d o => ∀ v H' Z' M' L, Fr H Z M [] H' Z' M' [] → (∀ a, Z' a = true → ∃ xs, H' a = some (.lst xs)) → M'.Nodup → (∀ a ∈ M', Z' a = true) → RpX K H' Z' v d L → Own H M Z' M' [] L → (io = true → ∀ v0, vs.head? = some v0 → RpX K H' Z' v0 o M') → Q v H'
  | .ex c p => io = false ∧ ∀ cls dd H' Z' M', Fr H Z M [] H' Z' M' [] → (∀ a, Z' a = true → ∃ xs, H' a = some (.lst xs)) → xr c p K H' Z' cls dd → E cls dd H'
  | .bad => False
section
variable {T : XT} {W : WX} {X : Cx} {σ : L2.St} {H H1 : Hp} {Z Z1 : Addr → Bool} {M M1 P P1 L L' F F1 : List Addr} {env env1 : En}
theorem oneRef_none {rs : List RV} {vs : List V} (x : RvsR X.K H Z σ rs vs L) (p : Pend Z M P F L) (h : Here X.K σ H Z M P F env) : True := trivial
/-- shared from what was just given up -/
theorem lend_ok {rs : List RV} {vs : List V} {i : Nat} {v0 : V} {d0 : D} {Zc : Addr → Bool} (s : Sub (hid Z H) (hid Zc H)) (hl : ∀ a ∈ L, Zc a = false) (x : RvsR X.K H Z σ rs vs L) (e0 : σ[i]? = some (some v0)) (x0 : RpV X.K (hid Zc H) v0 d0.fz)
    (h : ∀ r ∈ rs, ∀ j, r = .ref j → j = i) : RpVs X.K (hid Zc H) vs (rs.map (lendTo d0)) := by
  induction x with
  | nil => exact .nil
  | @cons r v L1 L2 rs vs a t ih =>
    refine .cons ?_ (ih (fun q hq => hl q (mem_app_right hq)) fun r hr => h r (List.mem_cons_of_mem _ hr))
    cases r with
    | v d => exact RpX.fz s d (fun q hq => hl q (mem_app_left hq)) a
    | ref j =>
      have e := h _ List.mem_cons_self j rfl
      subst e
      obtain ⟨e1, _⟩ := a
      rw [e0] at e1; cases e1
      exact x0
theorem oneRef_all : ∀ {rs : List RV} {i : Nat}, oneRef rs = some i → ∀ r ∈ rs, ∀ j, r = .ref j → j = i
  | [], _, h => by cases h
  | .v d :: rs, i, h => fun r hr j e => by
    rcases List.mem_cons.mp hr with q | q
    · rw [q] at e; cases e
    · exact oneRef_all (rs := rs) h r q j e
  | .ref k :: rs, i, h => fun r hr j e => by
    unfold oneRef at h
    split at h
    · rename_i ha
      cases h
      rcases List.mem_cons.mp hr with q | q
      · rw [q] at e; cases e; rfl
      · have := List.all_eq_true.mp ha r q
        rw [e] at this
        cases this
    · cases h
/-- fresh things that were made for a call are given up -/
theorem Here.freeAll (h : Here X.K σ H Z M P F env) (p : Pend Z M P F L) : ∃ F', Here X.K σ H (out Z L) M P F' env ∧ Fr H Z F P H (out Z L) F' P ∧ Sub (hid Z H) (hid (out Z L) H) := by
  have s : Sub (hid Z H) (hid (out Z L) H) := hid_imp fun a q => (out_true.mp q).1
  refine ⟨F.filter fun a => !L.contains a, ⟨h.rep.mono s (fun _ _ => rfl) (fun a ha => out_true.mpr ⟨h.rep.sub a ha, fun q => ?_⟩) (fun a q => h.rep.zl a (out_true.mp q).1), ⟨fun a ha => ?_, fun a ha => out_true.mpr ⟨h.bs.pz a ha, fun q => p.np a q ha⟩, fun a q => h.bs.zs a (out_true.mp q).1, fun a ha q => h.bs.dis a ha (List.mem_filter.mp q).1⟩, fun a ha => ?_⟩, ⟨fun _ _ e _ => e, fun a q => .inl (out_true.mp q).1, fun a q hm => out_true.mpr ⟨q, fun z => hm (p.lf a z)⟩, fun a ha => .inl (List.mem_filter.mp ha).1, fun _ q => .inl q⟩, s⟩
  · rcases List.mem_append.mp ha with z | z
    · exact p.nm a q z
    · exact p.np a q z
  · obtain ⟨q1, q2⟩ := List.mem_filter.mp ha
    exact out_true.mpr ⟨h.bs.fz a q1, by simpa using q2⟩
  · exact List.mem_filter.mpr ⟨h.mf a ha, by
      have : a ∉ L := fun q => p.nm a q ha
      simpa using this⟩
/-- a call without owned things: what the def says is what is there -/
theorem call_plain {xr : XR} {Fn : List D → FR} {n : Nat} {vs : List V} {ds : List D} {Q : VK} (h : Here X.K σ H Z M P F env) (hn : vs.length = n) (hv : RpVs X.K (hid Z H) vs ds)
    (d : Done RvR xr X.K W H Z F P σ Q (match Fn ds with
      | .ok d _ => .ok (.v d) env
      | .ex c p => .ex c p env
      | .bad => .bad)) : FSp xr X.K false Fn n vs H Q (fun cls dd H' => W cls dd σ H') := by
  refine ⟨Z, [], ds, hn, ?_, .nil, fun _ q => (nomatch q), h.rep.zl, ?_⟩
  · show RpVs X.K (hid Z H) vs ds ∧ [] = []
    exact ⟨hv, rfl⟩
  have rep' : ∀ {H' : Hp} {Z' : Addr → Bool} {M' P' : List Addr}, Fr H Z [] [] H' Z' M' P' → (∀ a, Z' a = true → ∃ xs, H' a = some (.lst xs)) → Rep X.K H' Z' M P env σ ∧ Fr H Z F P H' Z' M P := fun {H' Z' M' P'} f zl => by
    have k : ∀ a u, H a = some u → H' a = some u := fun a u e => f.keep a u e (by simp)
    have zz : ∀ a, Z a = true → Z' a = true := fun a e => f.z2 a e (by simp)
    have hsub : Sub (hid Z H) (hid Z' H') := fun a u e => by
      obtain ⟨e1, e2⟩ := hid_some.mp e
      refine hid_some.mpr ⟨?_, k a u e2⟩
      cases q : Z' a with
      | false => rfl
      | true =>
        rcases f.z1 a q with z | z
        · rw [e1] at z; cases z
        · rw [e2] at z; cases z
    refine ⟨h.rep.mono hsub (fun a ha => ?_) (fun a ha => zz a (h.rep.sub a ha)) zl, ⟨fun a u e _ => k a u e, f.z1, fun a e _ => zz a e, fun a e => .inl (h.mf a e), fun a e => .inl e⟩⟩
    cases q : H a with
    | none => exact absurd q (h.rep.zs (h.rep.sub a ha))
    | some u => exact k a u q
  cases e : Fn ds with
  | ok d0 o =>
    rw [e] at d
    intro v H' Z' M' L f zl _ _ x own _
    obtain ⟨r1, f1⟩ := rep' f zl
    refine d v H' Z' M P L r1 f1 x ⟨own.nd, own.z, fun a ha q => ?_, fun a ha q => ?_, fun a ha => ?_⟩
    · rcases own.old a ha with z | z
      · cases z
      · exact h.rep.zs (h.rep.msub a q) z
    · rcases own.old a ha with z | z
      · cases z
      · exact h.rep.zs (h.rep.psub a q) z
    · rcases own.old a ha with z | z
      · cases z
      · exact .inr z
  | ex c p =>
    rw [e] at d
    refine ⟨rfl, fun cls dd H' Z' M' f zl x => ?_⟩
    obtain ⟨r1, f1⟩ := rep' f zl
    exact d cls dd H' Z' M P r1 f1 x
  | bad => rw [e] at d; exact d
/-- the slots behind a call that was lent nothing of theirs -/
theorem Here.behind {H' : Hp} {Z' : Addr → Bool} {M' P' : List Addr} (h : Here X.K σ H Z M P F env) (f : Fr H Z [] [] H' Z' M' P') (zl : ∀ a, Z' a = true → ∃ xs, H' a = some (.lst xs)) : Rep X.K H' Z' M P env σ ∧ Fr H Z F P H' Z' M P := by
  have k : ∀ a u, H a = some u → H' a = some u := fun a u e => f.keep a u e (by simp)
  have zz : ∀ a, Z a = true → Z' a = true := fun a e => f.z2 a e (by simp)
  have hsub : Sub (hid Z H) (hid Z' H') := fun a u e => by
    obtain ⟨e1, e2⟩ := hid_some.mp e
    refine hid_some.mpr ⟨?_, k a u e2⟩
    cases q : Z' a with
    | false => rfl
    | true =>
      rcases f.z1 a q with z | z
      · rw [e1] at z; cases z
      · rw [e2] at z; cases z
  refine ⟨h.rep.mono hsub (fun a ha => ?_) (fun a ha => zz a (h.rep.sub a ha)) zl, ⟨fun a u e _ => k a u e, f.z1, fun a e _ => zz a e, fun a e => .inl (h.mf a e), fun a e => .inl e⟩⟩
  cases q : H a with
  | none => exact absurd q (h.rep.zs (h.rep.sub a ha))
  | some u => exact k a u q
/-- .. that was lent the lists at X0 -/
theorem Here.behindL {H' : Hp} {Z' : Addr → Bool} {M' P' X0 : List Addr} (h : Here X.K σ H Z M P F env) (f : Fr H (out Z X0) [] [] H' Z' M' P') (zl : ∀ a, Z' a = true → ∃ xs, H' a = some (.lst xs)) (hx : ∀ a ∈ X0, Z a = true) :
    Rep X.K H' (inn Z' X0) M P env σ ∧ Fr H Z F P H' (inn Z' X0) M P ∧ ∀ a, inn Z' X0 a = true → ∃ xs, H' a = some (.lst xs) := by
  have k : ∀ a u, H a = some u → H' a = some u := fun a u e => f.keep a u e (by simp)
  have zz : ∀ a, Z a = true → inn Z' X0 a = true := fun a e => by
    by_cases hm : a ∈ X0
    · exact inn_true.mpr (.inr hm)
    · exact inn_true.mpr (.inl (f.z2 a (out_true.mpr ⟨e, hm⟩) (by simp)))
  have z1 : ∀ a, inn Z' X0 a = true → Z a = true ∨ H a = none := fun a e => by
    rcases inn_true.mp e with q | q
    · rcases f.z1 a q with z | z
      · exact .inl (out_true.mp z).1
      · exact .inr z
    · exact .inl (hx a q)
  have zl' : ∀ a, inn Z' X0 a = true → ∃ xs, H' a = some (.lst xs) := fun a e => by
    rcases inn_true.mp e with q | q
    · exact zl a q
    · obtain ⟨xs, q2⟩ := h.rep.zl a (hx a q)
      exact ⟨xs, k a _ q2⟩
  have hsub : Sub (hid Z H) (hid (inn Z' X0) H') := fun a u e => by
    obtain ⟨e1, e2⟩ := hid_some.mp e
    refine hid_some.mpr ⟨?_, k a u e2⟩
    cases q : inn Z' X0 a with
    | false => rfl
    | true =>
      rcases z1 a q with z | z
      · rw [e1] at z; cases z
      · rw [e2] at z; cases z
  refine ⟨h.rep.mono hsub (fun a ha => ?_) (fun a ha => zz a (h.rep.sub a ha)) zl', ⟨fun a u e _ => k a u e, z1, fun a e _ => zz a e, fun a e => .inl (h.mf a e), fun a e => .inl e⟩, zl'⟩
  cases q : H a with
  | none => exact absurd q (h.rep.zs (h.rep.sub a ha))
  | some u => exact k a u q
mutual
theorem noL_noM : ∀ (d : D), d.noL = true → d.noM = true
  | .non, _ => rfl
  | .bl _, _ => rfl
  | .int _, _ => rfl
  | .str _, _ => rfl
  | .tup xs, h => noLs_noMs xs h
  | .lst _, h => by cases h
  | .mls _, h => by cases h
  | .rol _, h => by cases h
theorem noLs_noMs : ∀ (ds : List D), D.noLs ds = true → D.noMs ds = true
  | [], _ => rfl
  | d :: ds, h => by
    have h' : (D.noL d && D.noLs ds) = true := h
    rw [Bool.and_eq_true] at h'
    show (D.noM d && D.noMs ds) = true
    rw [noL_noM d h'.1, noLs_noMs ds h'.2]; rfl
end
/-- a call that is lent one owned list; hg: what is left to do where it may have kept it -/
theorem call_lentC {Fn : List D → FR} {n : Nat} {vs : List V} {rs : List RV} {i : Nat} {d0 : D} {v0 : V} {L0 : List Addr} {bad : D → Res RV} {Q : VK} (h1 : Here X.K σ H Z1 M P F env) (s1 : Sub (hid Z H) (hid Z1 H)) (hl : ∀ a ∈ L, Z1 a = false) (hn : vs.length = n) (x : RvsR X.K H Z σ rs vs L) (ho : oneRef rs = some i)
    (e1 : σ[i]? = some (some v0)) (x0 : RpX X.K H Z1 v0 d0 L0) (hx0 : ∀ a ∈ L0, Z1 a = true)
    (d1 : Done RvR (xrOf T) X.K W H Z1 F P σ Q (match Fn (rs.map (lendTo d0)) with
      | .ok d _ => if d.noL then .ok (.v d) env else bad d
      | .ex c p => if plNoL p then .ex c p env else .bad
      | .bad => .bad))
    (hg : ∀ dv o, Fn (rs.map (lendTo d0)) = .ok dv o → dv.noL = false → ∀ v H' Z' M' L', Fr H (out Z1 L0) [] [] H' Z' M' [] → (∀ a, Z' a = true → ∃ xs, H' a = some (.lst xs)) → RpX X.K H' Z' v dv L' → Own H [] Z' M' [] L' → Q v H') :
    FSp (xrOf T) X.K false Fn n vs H Q (fun cls dd H' => W cls dd σ H') := by
  have hout : ∀ {A : Addr → Bool} {B : List Addr} {a : Addr}, a ∈ B → out A B a = false := fun {A B a} ha => by
    cases q : out A B a with
    | false => rfl
    | true => exact absurd ha (out_true.mp q).2
  have s2 : Sub (hid Z1 H) (hid (out Z1 L0) H) := hid_imp fun a q => (out_true.mp q).1
  have xf : RpV X.K (hid (out Z1 L0) H) v0 d0.fz := RpX.fz s2 d0 (fun a ha => hout ha) x0
  have hv := lend_ok (s1.trans s2) (fun a ha => by
    cases q : out Z1 L0 a with
    | false => rfl
    | true =>
      have z := (out_true.mp q).1
      rw [hl a ha] at z; cases z) x e1 xf (oneRef_all ho)
  refine ⟨out Z1 L0, [], _, hn, ⟨hv, rfl⟩, .nil, fun _ q => (nomatch q), fun a q => h1.rep.zl a (out_true.mp q).1, ?_⟩
  cases e : Fn (rs.map (lendTo d0)) with
  | bad => rw [e] at d1; exact d1
  | ex c pl =>
    rw [e] at d1
    simp only at d1
    refine ⟨rfl, fun cls dd H' Z' M' f zl xx => ?_⟩
    split at d1
    · rename_i hp
      obtain ⟨r1, f1, zl'⟩ := h1.behindL f zl hx0
      exact d1 cls dd H' _ M P r1 f1 (xr_hide zl' hp xx)
    · exact d1.elim
  | ok dv o =>
    rw [e] at d1
    simp only at d1
    intro v H' Z' M' L' f zl _ _ xx own _
    by_cases hp : dv.noL = true
    · rw [if_pos hp] at d1
      obtain ⟨r1, f1, zl'⟩ := h1.behindL f zl hx0
      obtain ⟨xv, rfl⟩ := xx.ofNoM (noL_noM _ hp)
      exact d1 v H' _ M P [] r1 f1 (.val (RpV.hideL zl' _ hp (RpV.mono hid_sub _ xv))) Own.nil
    · exact hg dv o e (by simpa using hp) v H' Z' M' L' f zl xx own
theorem call_lentLk {Fn : List D → FR} {n : Nat} {vs : List V} {rs : List RV} {i : Nat} {d0 : D} {Q : VK} (h : Here X.K σ H Z M P F env) (p : Pend Z M P F L) (hn : vs.length = n) (x : RvsR X.K H Z σ rs vs L) (ho : oneRef rs = some i)
    (e0 : env[i]? = some (.lk d0))
    (d : Done RvR (xrOf T) X.K W H Z F P σ Q (match Fn (rs.map (lendTo d0)) with
      | .ok d _ => if d.noL then .ok (.v d) env else .bad
      | .ex c p => if plNoL p then .ex c p env else .bad
      | .bad => .bad)) : FSp (xrOf T) X.K false Fn n vs H Q (fun cls dd H' => W cls dd σ H') := by
  obtain ⟨F1, h1, f1, s1⟩ := h.freeAll p
  have d1 := Done.shift h.bs f1 d
  obtain ⟨v0, L0, e1, x0, hp⟩ := h1.rep.peekL e0
  have hl : ∀ a ∈ L, out Z L a = false := fun a ha => by
    cases q : out Z L a with
    | false => rfl
    | true => exact absurd ha (out_true.mp q).2
  refine call_lentC (bad := fun _ => .bad) h1 s1 hl hn x ho e1 x0 (fun a ha => h1.rep.psub a (hp a ha)) d1 fun dv o e nl v H' Z' M' L' f zl xx own => ?_
  rw [e] at d1
  simp only [nl, Bool.false_eq_true, if_false] at d1
  exact d1.elim
theorem call_lentOn {Fn : List D → FR} {n : Nat} {vs : List V} {rs : List RV} {i : Nat} {d0 : D} {Q : VK} (h : Here X.K σ H Z M P F env) (p : Pend Z M P F L) (hn : vs.length = n) (x : RvsR X.K H Z σ rs vs L) (ho : oneRef rs = some i)
    (e0 : env[i]? = some (.on d0))
    (d : Done RvR (xrOf T) X.K W H Z F P σ Q (match Fn (rs.map (lendTo d0)) with
      | .ok d _ => if d.noL then .ok (.v d) env else .ok (.v d) (env.set i (.on d0.fz))
      | .ex c p => if plNoL p then .ex c p env else .bad
      | .bad => .bad)) : FSp (xrOf T) X.K false Fn n vs H Q (fun cls dd H' => W cls dd σ H') := by
  obtain ⟨F1, h1, f1, s1⟩ := h.freeAll p
  have d1 := Done.shift h.bs f1 d
  obtain ⟨v0, L0, M1, e1, x0, h2, p2, k1, k2⟩ := h1.takeO e0
  have hl : ∀ a ∈ L, out Z L a = false := fun a ha => by
    cases q : out Z L a with
    | false => rfl
    | true => exact absurd ha (out_true.mp q).2
  refine call_lentC (bad := fun d => .ok (.v d) (env.set i (.on d0.fz))) h1 s1 hl hn x ho e1 x0 (fun a ha => p2.z a ha) d1 fun dv o e nl v H' Z' M' L' f zl xx own => ?_
  rw [e] at d1
  simp only [nl, Bool.false_eq_true, if_false] at d1
  obtain ⟨F3, h3, x3, f3, k3, s3⟩ := h2.free p2 x0
  have h4 := h3.put (v := v0) (d := d0.fz) (L := []) Pend.nil (set_un e0 _) (.val x3)
  rw [set_set, set_self e1, List.nil_append] at h4
  obtain ⟨r5, f5⟩ := h4.behind f zl
  refine d1 v H' Z' M1 P L' r5 (f3.trans h2.bs f5) xx ⟨own.nd, own.z, fun a ha q => ?_, fun a ha q => ?_, fun a ha => ?_⟩
  · rcases own.old a ha with z | z
    · cases z
    · exact h4.rep.zs (h4.rep.msub a q) z
  · rcases own.old a ha with z | z
    · cases z
    · exact h4.rep.zs (h4.rep.psub a q) z
  · rcases own.old a ha with z | z
    · cases z
    · exact .inr z
/-- a call that changes what its first argument holds -/
theorem call_io {xr : XR} {Fn : List D → FR} {n : Nat} {vs : List V} {rest : List RV} {ds : List D} {i : Nat} {d0 : D} {Q : VK} (h : Here X.K σ H Z M P F env) (p : Pend Z M P F L) (hn : vs.length = n) (x : RvsR X.K H Z σ (.ref i :: rest) vs L)
    (e0 : env[i]? = some (.on d0)) (eg : gives rest (env.set i .un) = some (ds, env1))
    (d : Done RvR xr X.K W H Z F P σ Q (match Fn (d0 :: ds) with
      | .ok d o => match env1[i]? with
        | some .un => .ok (.v d) (env1.set i (.on o))
        | _ => .bad
      | _ => .bad)) : FSp xr X.K true Fn n vs H Q (fun cls dd H' => W cls dd σ H') := by
  cases x with
  | @cons _ v La L2 _ vr a t =>
    obtain ⟨e1, rfl⟩ := a
    obtain ⟨v0, L0, M1, e2, x0, h1, p1, k1, k2⟩ := h.takeO e0
    rw [e1] at e2; cases e2
    have p' : Pend Z M1 P F L2 := ⟨p.nd, p.z, fun a ha q => p.nm a ha (k1 a q), p.np, p.lf⟩
    obtain ⟨Z2, M2, F2, h2, xs2, f2, s2, k3⟩ := gives_ok h1 p' t eg
    have p2 : Pend Z2 M2 P F2 L0 := k3 L0 p1 fun q hq z => p.nm q z (k2 q hq)
    have d2 := Done.shift h.bs f2 d
    refine ⟨Z2, L0, d0 :: ds, hn, ⟨v, vr, d0, ds, rfl, rfl, RpX.mono s2 d0 (fun _ _ => rfl) x0, xs2⟩, p2.nd, p2.z, h2.rep.zl, ?_⟩
    have b2 : Bs H Z2 L0 [] := ⟨p2.z, fun _ q => (nomatch q), h2.bs.zs, fun _ q => (nomatch q)⟩
    cases e : Fn (d0 :: ds) with
    | bad => rw [e] at d2; exact d2
    | ex c pl => rw [e] at d2; exact d2.elim
    | ok dv o =>
      rw [e] at d2
      simp only at d2
      split at d2
      · rename_i eu
        intro v' H' Z' M' L' f zl nM zM xx own hv0
        have x1 := hv0 rfl v rfl
        have hz : ∀ a ∈ M2 ++ P, a ∉ L0 := fun q hq z => by
          rcases List.mem_append.mp hq with w | w
          · exact p2.nm q z w
          · exact p2.np q z w
        have r3 : Rep X.K H' Z' M2 P env1 σ := h2.rep.mono (f.sub b2) (fun q hq => f.same (h2.rep.zs (h2.rep.sub q hq)) (hz q hq)) (fun q hq => f.z2 q (h2.rep.sub q hq) (hz q hq)) zl
        have noM : ∀ q ∈ M', ∀ A : List Addr, (∀ a ∈ A, a ∈ M2 ++ P) → q ∉ A := fun q hq A hA z => by
          rcases f.m q hq with w | w
          · exact hz q (hA q z) w
          · exact h2.rep.zs (h2.rep.sub q (hA q z)) w
        have hd : Here X.K σ H' Z' M2 P (M' ++ M2) env1 := ⟨r3, ⟨fun q hq => by
          rcases List.mem_append.mp hq with w | w
          · exact zM q w
          · exact r3.msub q w, r3.psub, fun q => r3.zs, fun q hq w => by
          rcases List.mem_append.mp w with w | w
          · exact noM q w P (fun a ha => mem_app_right ha) hq
          · exact r3.dis hq w⟩, fun q hq => mem_app_right hq⟩
        have pd : Pend Z' M2 P (M' ++ M2) M' := ⟨nM, zM, fun q hq w => noM q hq M2 (fun a ha => mem_app_left ha) w, fun q hq w => noM q hq P (fun a ha => mem_app_right ha) w, fun q hq => mem_app_left hq⟩
        have h4 := hd.put (v := v) (d := o) pd eu x1
        rw [set_self e1] at h4
        have ol : ∀ q ∈ L', ∀ A : List Addr, (∀ a ∈ A, a ∈ M2 ++ P) → q ∉ A := fun q hq A hA z => by
          rcases own.old q hq with w | w
          · exact hz q (hA q z) w
          · exact h2.rep.zs (h2.rep.sub q (hA q z)) w
        refine d2 v' H' Z' (M' ++ M2) P L' h4.rep ⟨fun a u e hm => f.keep a u e fun q => hm (p2.lf a q), f.z1, fun a e hm => f.z2 a e fun q => hm (p2.lf a q), fun q hq => ?_, fun q hq => .inl hq⟩ xx ⟨own.nd, own.z, fun q hq w => ?_, fun q hq w => ol q hq P (fun a ha => mem_app_right ha) w, fun q hq => (own.old q hq).imp (p2.lf q) id⟩
        · rcases List.mem_append.mp hq with w | w
          · exact (f.m q w).imp (p2.lf q) id
          · exact .inl (h2.mf q w)
        · rcases List.mem_append.mp w with w | w
          · exact own.nm q hq w
          · exact ol q hq M2 (fun a ha => mem_app_left ha) w
      · exact d2.elim
end
end Ev
namespace Ev
open PySem PySem.Spec PyProof.Rows L2
/-- the def number f of the module -/
structure FnAt (T : Tb) (xt : XT) (X : Cx) (k f : Nat) (x : Str) : Prop where
  ex : ∃ (a : Addr) (fd : FuncData) (ps : List Str), X.mg x = some (.ref a) ∧ PySem.W.keepIn X.K (.ref a) = true ∧ Binds X.K fd ps [] ∧ FnOk X.prog X.w X.K X.mg X.base (L2.CX X.prog X.w) k a fd ps (FSp (xrOf xt) X.K (T.io f) (T.fn f) (T.ar f))
section
variable {T : Tb} {xt : XT} {W : WX} {X : Cx} {σ : L2.St} {H H1 : Hp} {Z Z1 : Addr → Bool} {M M1 P P1 L L' F F1 : List Addr} {env env1 : En}
theorem call_R {f : Nat} {rs : List RV} {vs : List V} {Q : VK} (h : Here X.K σ H Z M P F env) (p : Pend Z M P F L) (x : RvsR X.K H Z σ rs vs L) (d : Done RvR (xrOf xt) X.K W H Z F P σ Q (callR T f rs env)) :
    FSp (xrOf xt) X.K (T.io f) (T.fn f) (T.ar f) vs H Q (fun cls dd H' => W cls dd σ H') := by
  unfold callR at d
  split at d
  · exact d.elim
  · rename_i hl
    have hn : vs.length = T.ar f := by
      rw [← x.len]
      simpa using hl
    cases hio : T.io f with
    | true =>
      rw [hio, if_pos rfl] at d
      split at d
      · rename_i i rest
        split at d
        · rename_i d0 e0
          split at d
          · rename_i ds env1 eg
            exact call_io h p hn x e0 eg d
          · exact d.elim
        · exact d.elim
      · exact d.elim
    | false =>
      rw [hio, if_neg Bool.false_ne_true] at d
      split at d
      · rename_i i ho
        split at d
        · rename_i d0 e0
          exact call_lentOn h p hn x ho e0 d
        · rename_i d0 e0
          exact call_lentLk h p hn x ho e0 d
        · exact d.elim
      · split at d
        · rename_i ds env1 eg
          obtain ⟨Z2, M2, F2, h2, x2, f2, s2, _⟩ := gives_ok h p x eg
          exact call_plain h2 hn x2 (Done.shift h.bs f2 d)
        · exact d.elim
theorem sound_call {k f : Nat} {x : Str} {p pos : Pos} {e : Expr} {es : List Expr} {g : En → Res (List RV)} (tk : Takes X W) (hr : Room k X.A) (hf : FnAt T xt X k f x) (hg : Gl X x) (ha : PA X (e :: es) (rdA (xrOf xt) X.K W g))
    (hdb : (x == ("__debug__" : Str)) = false) (he : starEach (e :: es) X.env = (false, eval e X.env) :: starEach es X.env) (hpl : (backTo pos (starEach es X.env)).any (·.1) = false) :
    PE X (.Call (.Name x p) (e :: es) [] pos) (rdE (xrOf xt) X.K W fun env => (g env).bind fun rs env => callR T f rs env) := by
  obtain ⟨a, fd, ps, h1, h2, h3, h4⟩ := hf.ex
  refine pe_weak (pe_callS (E := WE W) h4 hr hg h1 h2 h3 (fun σ => passAt tk σ) ha hdb he hpl) fun σ H Q h => ?_
  exact rd_bind h fun rs env1 vs H1 Z1 M1 P1 F1 L1 h1 p1 x d => call_R h1 p1 x d
theorem sound_call0 {k f : Nat} {x : Str} {p pos : Pos} (tk : Takes X W) (hr : Room k X.A) (hf : FnAt T xt X k f x) (hg : Gl X x) (hdb : (x == ("__debug__" : Str)) = false) :
    PE X (.Call (.Name x p) [] [] pos) (rdE (xrOf xt) X.K W fun env => callR T f [] env) := by
  obtain ⟨a, fd, ps, h1, h2, h3, h4⟩ := hf.ex
  refine ⟨fun pins s σ H Q I h => ?_⟩
  refine wpAny_Call_Name_kw (ld_glob I hg h1 ?_ hdb)
  refine PySem.W.callWith_K0 I.kIn h2 (run_fnS (E := WE W) (us := []) h4 hr h3 (passAt tk σ) I .nil ?_)
  obtain ⟨Z, M, P, env, rp, d⟩ := h
  exact call_R rp.here Pend.nil .nil d
/-! ### methods of texts -/
theorem strs_R {K : PySem.W.Frag} {H : Hp} : ∀ ys : List Str, RpVs K H (ys.map V.str) (ys.map D.str)
  | [] => .nil
  | y :: ys => .cons (.str y) (strs_R ys)
theorem sound_split {e o : Expr} {apos pos : Pos} {f g : En → Res RV} (ho : PE X o (rdE (xrOf xt) X.K W f)) (he : PE X e (rdE (xrOf xt) X.K W g)) (hs : starEach [e] X.env = [(false, eval e X.env)])
    (hbase : attributeBase o "split" X.env (eval o X.env) = eval o X.env) (hline : (apos.endLine == pos.line) = true) :
    PE X (.Call (.Attribute o "split" apos) [e] [] pos) (rdE (xrOf xt) X.K W fun env => (f env).bind fun r env => match r with
      | .v (.str x) => (g env).bind fun s env => match s.view env with
        | some d => lift (mtD .split x d) env
        | none => .bad
      | _ => .bad) := by
  refine pe_weak (pe_split ho he hs hbase hline) fun σ H Q h => ?_
  refine rd_bind h fun r env1 v H1 Z1 M1 P1 F1 L1 h1 p1 x d => ?_
  split at d
  · rename_i z
    have x' : RpX X.K H1 Z1 v (.str z) L1 := x
    cases x' with
    | val x' =>
      cases x'
      refine ⟨⟨z, rfl⟩, ?_⟩
      refine Here.bind h1 d fun s env2 y H2 Z2 M2 P2 F2 L2 h2 p2 y2 fr k d2 => ?_
      split at d2
      · rename_i d0 e0
        have va := y2.view h2.rep e0
        cases d0 with
        | str w =>
          cases va.str
          have d3 : Done RvR (xrOf xt) X.K W H2 Z2 F2 P2 σ Q (lift (if !(w.length == 0) && Nat.ble (z.length + 2) big then some (.mls ((PySem.Txt.split z w).map D.str)) else none) env2) := d2
          split at d3
          · rename_i hc
            rw [Bool.and_eq_true] at hc
            refine ⟨z, w, rfl, rfl, by simpa using hc.1, ble_big hc.2, fun p hp => ret_lst h2 d3 (strs_R _) p hp⟩
          · exact d3.elim
        | _ => exact d2.elim
      · exact d2.elim
  · exact d.elim
end
end Ev
namespace Ev
open PySem PySem.Spec PyProof.Rows L2
/-! ### targets -/
def noStar : Expr → Bool
  | .Starred .. => false
  | _ => true
mutual
def chkT (N : List Str) (wr : Str → Bool) : Tg → Expr → Bool
  | .nm i, .Name x _ => decide (N[i]? = some x) && wr x
  | .tp ts, .Tuple es _ _ => chkTs N wr ts es
  | _, _ => false
def chkTs (N : List Str) (wr : Str → Bool) : Tgs → List Expr → Bool
  | .nil, [] => true
  | .cons t ts, e :: es => noStar e && chkT N wr t e && chkTs N wr ts es
  | _, _ => false
end
def Wr (X : Cx) (wr : Str → Bool) : Prop := ∀ x, wr x = true → Loc X.env.scope x ∧ (X.fn x = true ∨ X.env.scope.names.lookup x = some .local)
/-- a target takes a value -/
structure TgOk (X : Cx) (g : TG) (f : D → En → Option En) (sl : List Nat) : Prop where
  run : ∀ {σ : L2.St} {H : Hp} {Z : Addr → Bool} {M P F L : List Addr} {env env1 : En} {v : V} {d : D} {Q : L2.St → Hp → Prop}, Here X.K σ H Z M P F env → Pend Z M P F L → RpX X.K H Z v d L → f d env = some env1 →
    (∀ σ' M', Here X.K σ' H Z M' P F env1 → (σ'.length = σ.length ∧ ∀ j, j ∉ sl → σ'[j]? = σ[j]?) → (∀ a ∈ M', a ∈ L ∨ a ∈ M) → Q σ' H) → g v σ H Q
structure TgsOk (X : Cx) (g : TGs) (f : List D → En → Option En) (sl : List Nat) : Prop where
  run : ∀ {σ : L2.St} {H : Hp} {Z : Addr → Bool} {M P F : List Addr} {env env1 : En} {vs : List V} {ds : List D} {Q : L2.St → Hp → Prop}, Here X.K σ H Z M P F env → RpVs X.K (hid Z H) vs ds → f ds env = some env1 →
    (∀ σ' M', Here X.K σ' H Z M' P F env1 → (σ'.length = σ.length ∧ ∀ j, j ∉ sl → σ'[j]? = σ[j]?) → (∀ a ∈ M', a ∈ M) → Q σ' H) → g vs σ H Q
section
variable {X : Cx} {wr : Str → Bool}
theorem tg_nm (i : Nat) : TgOk X (gName i) (tgA (.nm i)) [i] := by
  refine ⟨fun {σ H Z M P F L env env1 v d Q} h p x e q => ?_⟩
  have e : (match env[i]? with
    | some .un => some (env.set i (.on d))
    | some (.on _) => some (env.set i (.on d))
    | _ => none) = some env1 := e
  split at e
  · rename_i e0
    cases e
    exact q _ _ (h.put p e0 x) ⟨List.length_set .., fun j hj => List.getElem?_set_ne (fun z => hj (by simp [z]))⟩ fun a ha => List.mem_append.mp ha
  · rename_i d0 e0
    cases e
    obtain ⟨v0, L0, M1, _, _, h1, _, k1, _⟩ := h.takeO e0
    have h2 := h1.put (v := v) (d := d) ⟨p.nd, p.z, fun a ha q => p.nm a ha (k1 a q), p.np, p.lf⟩ (set_un e0 _) x
    rw [set_set] at h2
    exact q _ _ h2 ⟨List.length_set .., fun j hj => List.getElem?_set_ne (fun z => hj (by simp [z]))⟩ fun a ha => (List.mem_append.mp ha).imp id (k1 a)
  · cases e
theorem assignEach_len {env : Env} : ∀ {es : List Expr}, (assignEach es env).length = es.length
  | [] => rfl
  | e :: es => by
    have ih := assignEach_len (env := env) (es := es)
    cases e <;> simp [assignEach, ih]
theorem RpVs.isNil {K : PySem.W.Frag} {H : Hp} {vs : List V} (h : RpVs K H vs []) : vs = [] := by cases h; rfl
def Tgs.len : Tgs → Nat
  | .nil => 0
  | .cons _ ts => ts.len + 1
mutual
/-- what a target does -/
def tgG (K : PySem.W.Frag) : Tg → TG
  | .nm i => gName i
  | .tp ts => gTup K ts.len (tgGs K ts)
def tgGs (K : PySem.W.Frag) : Tgs → TGs
  | .nil => gNil
  | .cons t ts => gCons (tgG K t) (tgGs K ts)
end
mutual
theorem pg_ok (hc : X.calm = true) (hN : X.N.Nodup) (hw : Wr X wr) : ∀ (t : Tg) (e : Expr), chkT X.N wr t e = true → PG X e (tgG X.K t)
  | .nm i, .Name x pos, h => by
    have h' : (decide (X.N[i]? = some x) && wr x) = true := h
    rw [Bool.and_eq_true, decide_eq_true_eq] at h'
    obtain ⟨k1, k2⟩ := hw x h'.2
    exact pg_name hN h'.1 k1 k2
  | .tp ts, .Tuple es k pos, h => by
    have h' : chkTs X.N wr ts es = true := h
    obtain ⟨h1, h2, h3⟩ := pgs_ok hc hN hw ts es h'
    exact pg_tup hc h1 (assignEach_len.trans h2) h3
theorem pgs_ok (hc : X.calm = true) (hN : X.N.Nodup) (hw : Wr X wr) : ∀ (ts : Tgs) (es : List Expr), chkTs X.N wr ts es = true → PGs X es (tgGs X.K ts) ∧ es.length = ts.len ∧ (assignEach es X.env).findIdx? (·.1) = none
  | .nil, [], h => ⟨pgs_nil, rfl, rfl⟩
  | .cons t ts, e :: es, h => by
    have h' : (noStar e && chkT X.N wr t e && chkTs X.N wr ts es) = true := h
    rw [Bool.and_eq_true, Bool.and_eq_true] at h'
    obtain ⟨⟨hs, hT⟩, hTs⟩ := h'
    have h1 := pg_ok hc hN hw t e hT
    obtain ⟨h3, h4, h5⟩ := pgs_ok hc hN hw ts es hTs
    have hst : assignEach (e :: es) X.env = (false, fun v => assign e X.env v) :: assignEach es X.env := by
      cases e <;> first | rfl | cases hs
    refine ⟨pgs_cons h1 h3 (by rw [hst]; rfl), by show es.length + 1 = ts.len + 1; rw [h4], ?_⟩
    rw [hst, List.findIdx?_cons]
    simp [h5]
end
mutual
theorem tgok : ∀ (t : Tg), TgOk X (tgG X.K t) (tgA t) t.sl
  | .nm i => tg_nm i
  | .tp ts => by
    have h2 := tgsok ts
    refine ⟨fun {σ H Z M P F L env env1 v d Q} hh p x e q => ?_⟩
    cases d with
    | tup ds =>
      have e : tgAs ts ds env = some env1 := e
      cases x with
      | val x =>
        cases x with
        | @tup a vs _ s b =>
          refine ⟨a, vs, rfl, hid_sub.t s, ?_, h2.1.run hh b e fun σ' M' k1 k2 k3 => q σ' M' k1 k2 fun a ha => .inr (k3 a ha)⟩
          rw [b.len]
          exact h2.2 ds env env1 e
    | _ => cases e
theorem tgsok : ∀ (ts : Tgs), TgsOk X (tgGs X.K ts) (tgAs ts) ts.sl ∧ ∀ ds env env1, tgAs ts ds env = some env1 → ds.length = ts.len
  | .nil => ⟨⟨fun {σ H Z M P F env env1 vs ds Q} hh x e q => by
      cases x with
      | nil => cases e; exact ⟨rfl, q _ _ hh ⟨rfl, fun _ _ => rfl⟩ fun _ z => z⟩
      | cons _ _ => cases e⟩, fun ds env env1 e => by
      cases ds with
      | nil => rfl
      | cons _ _ => cases e⟩
  | .cons t ts => by
    have h2 := tgok t
    obtain ⟨h4, h6⟩ := tgsok ts
    refine ⟨⟨fun {σ H Z M P F env env1 vs ds Q} hh x e' q => ?_⟩, fun ds env env1 e' => ?_⟩
    · cases x with
      | nil => cases e'
      | @cons v d vs ds a b =>
        have e'' : (match tgA t d env with
          | some env1 => tgAs ts ds env1
          | none => none) = some env1 := e'
        split at e''
        · rename_i env2 e2
          exact ⟨v, vs, rfl, h2.run hh Pend.nil (.val a) e2 fun σ' M' hh' k1 m1 => h4.run hh' b e'' fun σ'' M'' hh'' k2 m2 => q σ'' M'' hh'' ⟨k2.1.trans k1.1, fun j hj => (k2.2 j fun z => hj (List.mem_append_right _ z)).trans (k1.2 j fun z => hj (List.mem_append_left _ z))⟩ fun a ha => (m1 a (m2 a ha)).elim (fun z => nomatch z) id⟩
        · cases e''
    · cases ds with
      | nil => cases e'
      | cons d ds =>
        have e'' : (match tgA t d env with
          | some env1 => tgAs ts ds env1
          | none => none) = some env1 := e'
        split at e''
        · rename_i env2 e2
          show ds.length + 1 = ts.len + 1
          rw [h6 ds env2 env1 e'']
        · cases e''
end
end
end Ev
namespace Ev
open PySem PySem.Spec PyProof.Rows L2
/-! ### what is walked -/
abbrev Src := Option (Addr × HO)
def SrcAt (s : Src) (H : Hp) : Prop := ∀ a o, s = some (a, o) → H a = some o
/-- the walk J goes through vs, as long as its source stands -/
structure Wk (J : L2.It) (vs : List V) (s : Src) : Prop where
  go : ∀ i H, SrcAt s H → i < vs.length → J.go i H
  stop : ∀ i H, SrcAt s H → vs.length ≤ i → J.stop i H
  yld : ∀ i H x H', SrcAt s H → i < vs.length → J.yld i H x H' → H' = H ∧ vs[i]? = some x
def ItR (K : PySem.W.Frag) (H : Hp) (Z : Addr → Bool) (σ : L2.St) (r : List D × Option (Nat × D)) (J : L2.It) (L : List Addr) : Prop :=
  (match r.2 with
    | none => L = []
    | some (i, d) => ∃ v, σ[i]? = some (some v) ∧ RpX K H Z v d L) ∧ ∃ vs s, RpVs K (hid Z H) vs r.1 ∧ Wk J vs s ∧ ∀ a o, s = some (a, o) → H a = some o ∧ (Z a = false ∨ a ∈ L)
abbrev rdI (xr : XR) (K : PySem.W.Frag) (W : WX) := rd (α := List D × Option (Nat × D)) (β := L2.It) ItR xr K W
section
variable {K : PySem.W.Frag} {H : Hp}
theorem wk_list {a : Addr} {vs : List V} {s : Src} (h : ∀ H, SrcAt s H → SqL K H a vs) : Wk (Itl K a) vs s :=
  ⟨fun i H q hi => ⟨vs, vs[i], h H q, by simp [hi]⟩, fun i H q hi => ⟨vs, h H q, hi⟩, fun i H x H' q _ y => ⟨y.1, y.2 vs (h H q)⟩⟩
theorem wk_tup {a : Addr} {vs : List V} {s : Src} (h : ∀ H, SrcAt s H → SqT K H a vs) : Wk (Itt K a) vs s :=
  ⟨fun i H q hi => ⟨vs, vs[i], h H q, by simp [hi]⟩, fun i H q hi => ⟨vs, h H q, hi⟩, fun i H x H' q _ y => ⟨y.1, y.2 vs (h H q)⟩⟩
theorem rngs_len (lo : Int) (n : Nat) : (rngs lo n).length = n := by
  induction n with
  | zero => rfl
  | succ n ih => unfold rngs; rw [List.length_append, ih]; rfl
theorem rngs_get (lo : Int) : ∀ (n i : Nat), i < n → (rngs lo n)[i]? = some (.int (lo + i))
  | 0, i, h => by omega
  | n + 1, i, h => by
    unfold rngs
    by_cases hi : i < n
    · rw [List.getElem?_append_left (by rw [rngs_len]; exact hi)]
      exact rngs_get lo n i hi
    · have : i = n := by omega
      subst this
      rw [List.getElem?_append_right (by rw [rngs_len]; exact Nat.le_refl _), rngs_len]
      simp
theorem rngs_R (lo : Int) : ∀ n, RpVs K H ((List.range n).map fun i => V.int (lo + (i : Nat))) (rngs lo n)
  | 0 => .nil
  | n + 1 => by
    rw [List.range_succ, List.map_append]
    exact (rngs_R lo n).append (.cons (.int _) .nil)
theorem wk_rng (lo : Int) (n : Nat) : Wk (Itr lo n) ((List.range n).map fun i => V.int (lo + (i : Nat))) none :=
  ⟨fun i H _ hi => by rw [List.length_map, List.length_range] at hi; exact hi, fun i H _ hi => by rw [List.length_map, List.length_range] at hi; exact hi, fun i H x H' _ hi y => by
    obtain ⟨e1, e2⟩ := y
    rw [List.length_map, List.length_range] at hi
    refine ⟨e1, ?_⟩
    rw [e2, List.getElem?_map, List.getElem?_range hi]
    rfl⟩
end
section
variable {X : Cx} {tg : Expr}
def iSeq (K : PySem.W.Frag) (tl : TE) : TI := fun σ H R => tl σ H fun x H1 => ∃ a, x = .ref a ∧ (((∃ xs, SqL K H1 a xs) ∧ R (Itl K a) H1) ∨ ((∃ xs, SqT K H1 a xs) ∧ R (Itt K a) H1))
theorem pi_seq {l : Expr} {tl : TE} (hl : PE X l tl) : PI X tg l (iSeq X.K tl) := by
  refine ⟨fun pins s σ H R I h => ?_⟩
  refine thn (hl.run pins s σ H _ I h) fun v s1 ⟨x, H1, I1, r1, q1⟩ => ?_
  obtain ⟨a, e, q⟩ := q1
  subst e
  cases r1
  rcases q with ⟨⟨xs, hq⟩, q⟩ | ⟨⟨xs, hq⟩, q⟩
  · obtain ⟨its, rv, p, hz⟩ := I1.list hq
    refine wpAny_pyIter_list p.isList ?_
    refine ⟨s1.heap.objs.size, [s1.heap.objs.size], _, _, H1, rfl, I1.kept (t' := s1.toks) fun b o e => Heap.get?_push_of_some _ e, turn_list a _, ⟨_, Heap.get?_push_size _ rfl, rfl, rfl⟩, fun b hb => ?_, q⟩
    have e : b = s1.heap.objs.size := by simpa using hb
    subst e
    exact I1.fpOk (Nat.le_refl _) (I1.hok.fresh (Nat.le_refl _))
  · obtain ⟨its, rv, p, hz⟩ := I1.tuple hq
    refine wpAny_pyIter_tuple (show s1.heap.IsTuple a its.toArray from p) ?_
    refine ⟨s1.heap.objs.size, [s1.heap.objs.size], _, _, H1, rfl, I1.kept (t' := s1.toks) fun b o e => Heap.get?_push_of_some _ e, turn_tuple a _, ⟨_, Heap.get?_push_size _ rfl, rfl, rfl⟩, fun b hb => ?_, q⟩
    have e : b = s1.heap.objs.size := by simpa using hb
    subst e
    exact I1.fpOk (Nat.le_refl _) (I1.hok.fresh (Nat.le_refl _))
theorem pi_weak {e : Expr} {t t' : TI} (h : PI X tg e t) (i : ∀ σ H R, t' σ H R → t σ H R) : PI X tg e t' := ⟨fun pins s σ H R I q => h.run pins s σ H R I (i σ H R q)⟩
end
section
variable {xr : XR} {W : WX} {X : Cx} {tg : Expr} {σ : L2.St} {H H1 : Hp} {Z Z1 : Addr → Bool} {M M1 P P1 L L' F F1 : List Addr} {env env1 : En}
/-- the source of a walk over shared things -/
theorem src_list {K : PySem.W.Frag} {H : Hp} {Z : Addr → Bool} {a : Addr} {vs : List V} (h : SqL K (hid Z H) a vs) : ∃ s : Src, (∀ H', SrcAt s H' → SqL K H' a vs) ∧ ∀ b o, s = some (b, o) → H b = some o ∧ Z b = false := by
  rcases h with (h | ⟨o, h⟩) | h
  · obtain ⟨q1, q2⟩ := hid_some.mp h
    exact ⟨some (a, .lst vs), fun H' q => .inl (.inl (q a _ rfl)), fun b o e => by cases e; exact ⟨q2, q1⟩⟩
  · obtain ⟨q1, q2⟩ := hid_some.mp h
    exact ⟨some (a, .frz o (.lst vs)), fun H' q => .inl (.inr ⟨o, q a _ rfl⟩), fun b o e => by cases e; exact ⟨q2, q1⟩⟩
  · exact ⟨none, fun H' _ => .inr h, fun b o e => by cases e⟩
theorem src_tup {K : PySem.W.Frag} {H : Hp} {Z : Addr → Bool} {a : Addr} {vs : List V} (h : SqT K (hid Z H) a vs) : ∃ s : Src, (∀ H', SrcAt s H' → SqT K H' a vs) ∧ ∀ b o, s = some (b, o) → H b = some o ∧ Z b = false := by
  rcases h with (h | ⟨o, h⟩) | h
  · obtain ⟨q1, q2⟩ := hid_some.mp h
    exact ⟨some (a, .tup vs), fun H' q => .inl (.inl (q a _ rfl)), fun b o e => by cases e; exact ⟨q2, q1⟩⟩
  · obtain ⟨q1, q2⟩ := hid_some.mp h
    exact ⟨some (a, .frz o (.tup vs)), fun H' q => .inl (.inr ⟨o, q a _ rfl⟩), fun b o e => by cases e; exact ⟨q2, q1⟩⟩
  · exact ⟨none, fun H' _ => .inr h, fun b o e => by cases e⟩
theorem si_seq {l : Expr} {f : En → Res RV} (hl : PE X l (rdE xr X.K W f)) : PI X tg l (rdI xr X.K W fun env => (f env).bind fun r env => match walk r env with
    | some (xs, o, env) => .ok (xs, o) env
    | none => .bad) := by
  refine pi_weak (pi_seq hl) fun σ H R h => ?_
  refine rd_bind h fun r env1 v H1 Z1 M1 P1 F1 L1 h1 p1 x d => ?_
  split at d
  · rename_i xs o env2 e
    cases r with
    | v d0 =>
      obtain ⟨F2, h2, x2, f2, _, s2⟩ := h1.free p1 x
      have fin : ∀ {J : L2.It} {vs : List V} {s : Src}, env2 = env1 → o = none → RpVs X.K (hid (out Z1 L1) H1) vs xs → Wk J vs s → (∀ a o, s = some (a, o) → H1 a = some o ∧ out Z1 L1 a = false) → R J H1 := fun {J vs s} e1 e2 hv hw hs => by
        subst e1 e2
        exact d J H1 _ M1 P1 [] h2.rep (f2.trans h1.bs h2.fr) ⟨rfl, vs, s, hv, hw, fun a o q => ⟨(hs a o q).1, .inl (hs a o q).2⟩⟩ Own.nil
      have onL : ∀ {ys : List D}, RpV X.K (hid (out Z1 L1) H1) v (.lst ys) → env2 = env1 → o = none → ys = xs → ∃ a, v = .ref a ∧ (((∃ xs, SqL X.K H1 a xs) ∧ R (Itl X.K a) H1) ∨ ((∃ xs, SqT X.K H1 a xs) ∧ R (Itt X.K a) H1)) := fun {ys} xx e1 e2 e3 => by
        cases xx with
        | @lst a vs _ k1 k2 =>
          obtain ⟨s, w1, w2⟩ := src_list (K := X.K) (.inl (.inl k1) : SqL X.K (hid (out Z1 L1) H1) a vs)
          exact ⟨a, rfl, .inl ⟨⟨vs, .inl (.inl (hid_sub _ _ k1))⟩, fin e1 e2 (e3 ▸ k2) (wk_list w1) w2⟩⟩
      unfold walk at e
      cases d0 with
      | mls ys =>
        simp only [D.view] at e
        split at e
        · rename_i xs' hv
          split at hv
          · rename_i hn
            cases hv
            cases e
            have x3 : RpV X.K (hid (out Z1 L1) H1) v (.lst (D.fzs xs)) := x2
            have x4 : RpX X.K H1 Z1 v (.mls xs) L1 := x
            cases x4 with
            | val z => cases z
            | mls q1 q2 =>
              rw [RpVs.fz _ (RpXs.ofNoM hn q2).1] at x3
              exact onL x3 rfl rfl rfl
          · cases hv
        all_goals first
          | (rename_i hv; split at hv <;> cases hv)
          | cases e
      | lst ys =>
        cases e
        have x3 : RpV X.K (hid (out Z1 L1) H1) v (.lst (D.fzs xs)) := x2
        have x4 : RpX X.K H1 Z1 v (.lst xs) L1 := x
        cases x4 with
        | val z =>
          rw [show D.fzs xs = xs from by have := RpV.fz _ z; injection this] at x3
          exact onL x3 rfl rfl rfl
      | tup ys =>
        cases e
        have x3 : RpV X.K (hid (out Z1 L1) H1) v (.tup (D.fzs xs)) := x2
        have x4 : RpX X.K H1 Z1 v (.tup xs) L1 := x
        cases x4 with
        | val z =>
          rw [show D.fzs xs = xs from by have := RpV.fz _ z; injection this] at x3
          cases x3 with
          | @tup a vs _ k1 k2 =>
            obtain ⟨s, w1, w2⟩ := src_tup k1
            exact ⟨a, rfl, .inr ⟨⟨vs, hid_sub.t k1⟩, fin rfl rfl k2 (wk_tup w1) w2⟩⟩
      | rol ys =>
        cases e
        have x3 : RpV X.K (hid (out Z1 L1) H1) v (.rol (D.fzs xs)) := x2
        have x4 : RpX X.K H1 Z1 v (.rol xs) L1 := x
        cases x4 with
        | val z =>
          rw [show D.fzs xs = xs from by have := RpV.fz _ z; injection this] at x3
          cases x3 with
          | @rol a vs _ k1 k2 =>
            obtain ⟨s, w1, w2⟩ := src_list k1
            exact ⟨a, rfl, .inl ⟨⟨vs, hid_sub.l k1⟩, fin rfl rfl k2 (wk_list w1) w2⟩⟩
      | _ => cases e
    | ref i =>
      obtain ⟨ev, rfl⟩ := x
      unfold walk at e
      simp only at e
      split at e
      · rename_i d0 e0
        split at e
        · rename_i ys hv
          cases e
          obtain ⟨v', L0, M2, e2, x0, h2, p2, k1, k2⟩ := h1.takeO e0
          rw [ev] at e2; cases e2
          obtain ⟨a, vs, rfl, q2, q3⟩ := (view_ok hv x0).lst
          have aL : Z1 a = false ∨ a ∈ L0 := by
            cases x0 with
            | mls _ _ => exact .inr List.mem_cons_self
            | val xx =>
              cases xx with
              | lst w _ => exact .inl (hid_some.mp w).1
              | tup _ _ => cases hv
              | rol _ _ => cases hv
          refine ⟨a, rfl, .inl ⟨⟨vs, .inl (.inl q2)⟩, d (Itl X.K a) H1 Z1 M2 P1 L0 h2.rep h2.fr ⟨⟨_, ev, x0⟩, vs, some (a, .lst vs), q3, wk_list fun H' q => .inl (.inl (q a _ rfl)), fun b o q => ?_⟩ p2.own⟩⟩
          cases q
          exact ⟨q2, aL⟩
        · cases e
      · cases e
  · exact d.elim
theorem int_R {r : RV} {v : V} {i : Int} (x : RvR X.K H Z σ r v L) (e : r.int? = some i) : v = .int i := by
  cases r with
  | ref j => cases e
  | v d =>
    cases d with
    | int j =>
      cases e
      have x' : RpX X.K H Z v (.int i) L := x
      cases x' with
      | val x' => cases x'; rfl
    | _ => cases e
theorem si_r1 {a : Expr} {p pos : Pos} {f : En → Res RV} (ha : PE X a (rdE xr X.K W f)) (hg : Gl X "range") (hm : X.mg "range" = none) (hs : starEach [a] X.env = [(false, eval a X.env)]) :
    PI X tg (.Call (.Name "range" p) [a] [] pos) (rdI xr X.K W fun env => (f env).bind fun r env => match rng1 r with
      | some xs => .ok (xs, none) env
      | none => .bad) := by
  refine pi_weak (pi_range1 hg hm (pa_cons ha pa_nil hs) hs) fun σ H R h => ?_
  refine rd_bind h fun r env1 v H1 Z1 M1 P1 F1 L1 h1 p1 x d => ?_
  split at d
  · rename_i xs e
    unfold rng1 at e
    split at e
    · rename_i j ej
      split at e
      · rename_i hb
        cases e
        rw [Bool.and_eq_true, decide_eq_true_eq, decide_eq_true_eq] at hb
        cases int_R x ej
        have q := d (Itr 0 j.toNat) H1 Z1 M1 P1 [] h1.rep h1.fr ⟨rfl, _, none, rngs_R 0 j.toNat, wk_rng 0 j.toNat, fun _ _ e => by cases e⟩ Own.nil
        exact ⟨j, rfl, hb.1, hb.2, q⟩
      · cases e
    · cases e
  · exact d.elim
theorem si_r2 {a b : Expr} {p pos : Pos} {f g : En → Res RV} (ha : PE X a (rdE xr X.K W f)) (hb : PE X b (rdE xr X.K W g)) (hg : Gl X "range") (hm : X.mg "range" = none) (hs : starEach [a, b] X.env = [(false, eval a X.env), (false, eval b X.env)]) (hs2 : starEach [b] X.env = [(false, eval b X.env)]) :
    PI X tg (.Call (.Name "range" p) [a, b] [] pos) (rdI xr X.K W fun env => (f env).bind fun r env => (g env).bind fun s env => match rng2 r s with
      | some xs => .ok (xs, none) env
      | none => .bad) := by
  refine pi_weak (pi_range2 hg hm (pa_cons ha (pa_cons hb pa_nil hs2) (by rw [hs, hs2])) hs hs2) fun σ H R h => ?_
  refine rd_bind h fun r env1 v H1 Z1 M1 P1 F1 L1 h1 p1 x d => ?_
  refine Here.bind h1 d fun s env2 y H2 Z2 M2 P2 F2 L2 h2 p2 y2 fr k d2 => ?_
  have x3 := x.step h1.rep.bs fr p1
  split at d2
  · rename_i xs e
    unfold rng2 at e
    split at e
    · rename_i i ei
      split at e
      · rename_i j ej
        split at e
        · rename_i hb
          cases e
          simp only [Bool.and_eq_true, decide_eq_true_eq] at hb
          cases int_R x3 ei
          cases int_R y2 ej
          have q := d2 (Itr i (j - i).toNat) H2 Z2 M2 P2 [] h2.rep h2.fr ⟨rfl, _, none, rngs_R i (j - i).toNat, wk_rng i (j - i).toNat, fun _ _ e => by cases e⟩ Own.nil
          exact ⟨i, j, rfl, ⟨hb.1.1.1, hb.1.1.2, hb.1.2, hb.2⟩, q⟩
        · cases e
      · cases e
    · cases e
  · exact d2.elim
end
end Ev
namespace Ev
open PySem PySem.Spec PyProof.Rows L2
section
variable {K : PySem.W.Frag} {H H1 : Hp} {Z Z1 : Addr → Bool} {M M1 P P1 L L' F F1 : List Addr} {env env1 : En} {σ σ' : L2.St}
/-- a slot is forgotten -/
theorem Rep.drop1 (r : Rep K H Z M P env σ) (i : Nat) (o : Option V) : ∃ M' P', (∀ a ∈ M', a ∈ M) ∧ (∀ a ∈ P', a ∈ P) ∧ Rep K H Z M' P' (env.set i .un) (σ.set i o) := by
  have fin : ∀ {M' P' M0 P0 : List Addr}, RpE K H Z M0 P0 (env.set i .un) σ → M0.Perm M' → P0.Perm P' → (∀ a ∈ M', a ∈ M) → (∀ a ∈ P', a ∈ P) → M'.Nodup → P'.Nodup → Rep K H Z M' P' (env.set i .un) (σ.set i o) := fun {M' P' M0 P0} h pm pp hm hp nm np => by
    have hs : RpE K H Z M0 P0 (env.set i .un) (σ.set i o) := by
      cases e : env[i]? with
      | none =>
        have hi : env.length ≤ i := List.getElem?_eq_none_iff.mp e
        have hi2 : σ.length ≤ i := by rw [← r.len]; exact hi
        rw [List.set_eq_of_length_le hi2]; exact h
      | some s => exact (h.put (set_un e _)).1 o
    refine ⟨⟨M0, P0, hs, pm, pp⟩, List.nodup_append.mpr ⟨nm, np, fun a ha b hb q => ?_⟩, fun a ha => ?_, r.zl⟩
    · subst q; exact r.dis (hp a hb) (hm a ha)
    · rcases List.mem_append.mp ha with z | z
      · exact r.msub a (hm a z)
      · exact r.psub a (hp a z)
  obtain ⟨M0, P0, h, pm, pp⟩ := r.rp
  cases e : env[i]? with
  | none =>
    have hi : env.length ≤ i := List.getElem?_eq_none_iff.mp e
    refine ⟨M, P, fun _ q => q, fun _ q => q, fin (M0 := M0) (P0 := P0) ?_ pm pp (fun _ q => q) (fun _ q => q) r.mnd r.pnd⟩
    rw [List.set_eq_of_length_le hi]; exact h
  | some s =>
    cases s with
    | un =>
      refine ⟨M, P, fun _ q => q, fun _ q => q, fin (M0 := M0) (P0 := P0) ?_ pm pp (fun _ q => q) (fun _ q => q) r.mnd r.pnd⟩
      have : env.set i .un = env := by
        apply List.ext_getElem?
        intro j
        by_cases hj : i = j
        · subst hj
          have hl : i < env.length := by
            rcases Nat.lt_or_ge i env.length with q | q
            · exact q
            · rw [List.getElem?_eq_none q] at e; cases e
          rw [List.getElem?_set_self hl, e]
        · rw [List.getElem?_set_ne hj]
      rw [this]; exact h
    | on d =>
      obtain ⟨v, L, M', a, b, c, h'⟩ := h.takeOn e
      have hm : ∀ x ∈ L ++ M', x ∈ M := fun x q => pm.mem_iff.mp (c.mem_iff.mpr q)
      have nd : (L ++ M').Nodup := (c.nodup_iff).mp ((pm.nodup_iff).mpr r.mnd)
      exact ⟨M', P, fun x q => hm x (List.mem_append_right _ q), fun _ q => q, fin h' (.refl _) pp (fun x q => hm x (List.mem_append_right _ q)) (fun _ q => q) (List.nodup_append.mp nd).2.1 r.pnd⟩
    | lk d =>
      obtain ⟨v, L, P', a, b, c, h'⟩ := h.takeLk e
      have hm : ∀ x ∈ L ++ P', x ∈ P := fun x q => pp.mem_iff.mp (c.mem_iff.mpr q)
      have nd : (L ++ P').Nodup := (c.nodup_iff).mp ((pp.nodup_iff).mpr r.pnd)
      exact ⟨M, P', fun _ q => q, fun x q => hm x (List.mem_append_right _ q), fin h' pm (.refl _) (fun _ q => q) (fun x q => hm x (List.mem_append_right _ q)) r.mnd (List.nodup_append.mp nd).2.1⟩
theorem Rep.wipe (r : Rep K H Z M P env σ) : ∀ vs : List Nat, ∃ M' P', (∀ a ∈ M', a ∈ M) ∧ (∀ a ∈ P', a ∈ P) ∧ Rep K H Z M' P' (wipeE env vs) (wipe σ vs)
  | [] => ⟨M, P, fun _ q => q, fun _ q => q, r⟩
  | v :: vs => by
    obtain ⟨M', P', a, b, r'⟩ := r.wipe vs
    obtain ⟨M2, P2, a2, b2, r2⟩ := r'.drop1 v none
    exact ⟨M2, P2, fun x q => a x (a2 x q), fun x q => b x (b2 x q), r2⟩
theorem wipe_congr : ∀ {vs : List Nat}, σ'.length = σ.length → (∀ j, j ∉ vs → σ'[j]? = σ[j]?) → wipe σ' vs = wipe σ vs := by
  intro vs hl h
  apply List.ext_getElem?
  intro j
  by_cases hj : j ∈ vs
  · have key : ∀ (τ : L2.St) (ws : List Nat), j ∈ ws → (wipe τ ws)[j]? = if j < τ.length then some none else none := by
      intro τ ws
      induction ws with
      | nil => intro q; cases q
      | cons w ws ih =>
        intro q
        show ((wipe τ ws).set w none)[j]? = _
        by_cases hw : w = j
        · subst hw
          by_cases hl : w < τ.length
          · rw [List.getElem?_set_self (by rw [wipe_length]; exact hl), if_pos hl]
          · rw [if_neg hl, List.getElem?_eq_none (by rw [List.length_set, wipe_length]; omega)]
        · rw [List.getElem?_set_ne hw]
          rcases List.mem_cons.mp q with z | z
          · exact absurd z.symm hw
          · exact ih z
    rw [key σ' vs hj, key σ vs hj, hl]
  · rw [wipe_out hj, wipe_out hj, h j hj]
/-- a slot gets back what it held -/
theorem Rep.back1 {i : Nat} {s : Slot} {o : Option V} (r : Rep K H Z M P env σ) (hs : s = .un ∨ ∃ d v, s = .on d ∧ o = some v ∧ RpV K (hid Z H) v d) : ∃ M' P', (∀ a ∈ M', a ∈ M) ∧ (∀ a ∈ P', a ∈ P) ∧ Rep K H Z M' P' (env.set i s) (σ.set i o) := by
  obtain ⟨M', P', a, b, r'⟩ := r.drop1 i o
  rcases hs with rfl | ⟨d, v, rfl, rfl, x⟩
  · exact ⟨M', P', a, b, r'⟩
  · cases e : env[i]? with
    | none =>
      have hi : env.length ≤ i := List.getElem?_eq_none_iff.mp e
      have hi2 : σ.length ≤ i := by rw [← r.len]; exact hi
      rw [List.set_eq_of_length_le hi, List.set_eq_of_length_le hi2]
      exact ⟨M, P, fun _ q => q, fun _ q => q, r⟩
    | some t =>
      obtain ⟨M0, P0, h, pm, pp⟩ := r'.rp
      obtain ⟨⟨M2, c, h2⟩, _⟩ := (h.put (set_un e .un)).2 (RpX.val (d := d) x)
      rw [set_set, List.set_set] at h2
      exact ⟨M', P', a, b, ⟨⟨M2, P0, h2, c.trans pm, pp⟩, r'.nd, r'.sub, r'.zl⟩⟩
/-- the slots of a comprehension as they were ahead of it -/
def bkσ (σ σ' : L2.St) : List Nat → L2.St
  | [] => σ'
  | v :: vs => (bkσ σ σ' vs).set v (match σ[v]? with | some o => o | none => none)
theorem bk_len : ∀ vs : List Nat, (bkσ σ σ' vs).length = σ'.length
  | [] => rfl
  | v :: vs => by
    show ((bkσ σ σ' vs).set v _).length = _
    rw [List.length_set, bk_len vs]
theorem bk_wipe (vs : List Nat) : bkσ σ (wipe σ vs) vs = σ := by
  have key : ∀ (ws : List Nat) (j : Nat), (bkσ σ (wipe σ vs) ws)[j]? = if j ∈ ws then σ[j]? else (wipe σ vs)[j]? := by
    intro ws
    induction ws with
    | nil => intro j; simp [bkσ]
    | cons w ws ih =>
      intro j
      show ((bkσ σ (wipe σ vs) ws).set w _)[j]? = _
      by_cases hw : w = j
      · subst hw
        rw [if_pos List.mem_cons_self]
        by_cases hl : w < σ.length
        · rw [List.getElem?_set_self (by rw [bk_len, wipe_length]; exact hl)]
          simp [hl]
        · rw [List.getElem?_eq_none (by rw [List.length_set, bk_len, wipe_length]; omega), List.getElem?_eq_none (by omega)]
      · rw [List.getElem?_set_ne hw, ih j]
        by_cases hm : j ∈ ws
        · rw [if_pos hm, if_pos (List.mem_cons_of_mem _ hm)]
        · rw [if_neg hm, if_neg (by simp [hm, Ne.symm hw])]
  apply List.ext_getElem?
  intro j
  rw [key vs j]
  by_cases hj : j ∈ vs
  · rw [if_pos hj]
  · rw [if_neg hj, wipe_out hj]
theorem Rep.back {env0 : En} {H0 : Hp} {Z0 : Addr → Bool} {M0 P0 : List Addr} (r0 : Rep K H0 Z0 M0 P0 env0 σ) (s : Sub (hid Z0 H0) (hid Z H)) (r : Rep K H Z M P env σ') : ∀ vs : List Nat, vs.all (plainAt env0) = true →
    ∃ M' P', (∀ a ∈ M', a ∈ M) ∧ (∀ a ∈ P', a ∈ P) ∧ Rep K H Z M' P' (backE env0 env vs) (bkσ σ σ' vs)
  | [], _ => ⟨M, P, fun _ q => q, fun _ q => q, r⟩
  | v :: vs, h => by
    rw [List.all_cons, Bool.and_eq_true] at h
    obtain ⟨M', P', a, b, r'⟩ := Rep.back r0 s r vs h.2
    have hp := h.1
    unfold plainAt at hp
    have : ∃ M2 P2, (∀ a ∈ M2, a ∈ M') ∧ (∀ a ∈ P2, a ∈ P') ∧ Rep K H Z M2 P2 ((backE env0 env vs).set v (match env0[v]? with | some s => s | none => .un)) ((bkσ σ σ' vs).set v (match σ[v]? with | some o => o | none => none)) := by
      refine r'.back1 ?_
      cases e : env0[v]? with
      | none => exact .inl rfl
      | some t =>
        cases t with
        | un => exact .inl rfl
        | lk d => rw [e] at hp; cases hp
        | on d =>
          rw [e] at hp
          obtain ⟨v0, L0, e1, x⟩ := r0.peek (.inl e)
          obtain ⟨x1, _⟩ := x.ofNoM hp
          exact .inr ⟨d, v0, rfl, by rw [e1], RpV.mono s d x1⟩
    obtain ⟨M2, P2, a2, b2, r2⟩ := this
    exact ⟨M2, P2, fun x q => a x (a2 x q), fun x q => b x (b2 x q), r2⟩
end
end Ev
namespace Ev
open PySem PySem.Spec PyProof.Rows L2
def W0 : WX := fun _ _ _ _ => False
def lcStep (f : D → En → Option En) (cf : En → Res Bool) (el : En → Res RV) (own : List Nat) (x : D) (env : En) : Res (Option D) := match f x (wipeE env own) with
  | none => .bad
  | some env => (cf env).bind fun k env => if k then (el env).bind fun r env => match r.give env with
      | some (d, env) => .ok (some d) env
      | none => .bad
    else .ok none env
def lcFin (env : En) (hd : Option (Nat × D)) (own : List Nat) : Res (List D) → Res RV
  | .ok acc env1 => match unlk hd (backE env (wipeE env1 own) own) with
    | some env2 => .ok (.v (.mls acc)) env2
    | none => .bad
  | _ => .bad
def lcE (w : En → Res (List D × Option (Nat × D))) (f : D → En → Option En) (cf : En → Res Bool) (el : En → Res RV) (own : List Nat) (env : En) : Res RV := (w env).bind fun r env => match r with
  | (xs, hd) => if own.all (plainAt env) then lcFin env hd own (lcGo (lcStep f cf el own) xs [] env) else .bad
section
variable {xr : XR} {W : WX} {X : Cx} {σ : L2.St}
/-- what holds between the turns -/
structure LcInv (xr : XR) (W : WX) (X : Cx) (σ : L2.St) (Q : VK) (H1 : Hp) (Z1 : Addr → Bool) (F1 P1 L : List Addr) (s : Src) (D0 : Addr) (own : List Nat) (rest : List D → En → Res RV) (H : Hp) (Z : Addr → Bool) (M P : List Addr) (env : En) (acc : List D) (accV : List V) : Prop where
  r : Rep X.K H Z M P (wipeE env own) (wipe σ own)
  zD : Z D0 = true
  dM : D0 ∉ M
  dP : D0 ∉ P
  hD : H D0 = some (.lst accV)
  ha : RpVs X.K (hid Z H) accV acc
  src : ∀ a o, s = some (a, o) → H a = some o ∧ a ∉ M ∧ a ≠ D0
  fr : Fr H1 Z1 F1 P1 H Z (D0 :: M) P
  lM : ∀ a ∈ L, a ∉ M ∧ a ∉ P ∧ a ≠ D0 ∧ Z a = true ∧ H a = H1 a
  dd : Done RvR xr X.K W H1 Z1 F1 P1 σ Q (rest acc env)
theorem noex {α β : Type} {Rl : PySem.W.Frag → Hp → (Addr → Bool) → L2.St → α → β → List Addr → Prop} {K : PySem.W.Frag} {W' : WX} {H : Hp} {Z : Addr → Bool} {M P : List Addr} {τ : L2.St} {R : β → Hp → Prop} {g : Res α} (h1 : ∀ a e, g = .ok a e → Done Rl xr K W' H Z M P τ R (.ok a e))
    (h2 : ∀ c p e, g ≠ .ex c p e) (h3 : g ≠ .bad) : Done Rl xr K W' H Z M P τ R g := by
  cases g with
  | ok a e => exact h1 a e rfl
  | ex c p e => exact absurd rfl (h2 c p e)
  | bad => exact absurd rfl h3
theorem wipe_idem (own : List Nat) : wipe (wipe σ own) own = wipe σ own := wipe_congr (wipe_length _ _) fun j hj => wipe_out hj
/-- an address that is left alone -/
theorem stays {H H' : Hp} {Z Z' : Addr → Bool} {M P M' P' : List Addr} {a : Addr} (f : Fr H Z M P H' Z' M' P') (h : H a ≠ none) (hm : a ∉ M) : H' a = H a ∧ a ∉ M' ∧ (a ∉ P → a ∉ P') ∧ (Z a = true → Z' a = true) :=
  ⟨f.same h hm, fun q => (f.m a q).elim hm h, fun hp q => by
    rcases f.p a q with z | z | z
    · exact hp z
    · exact hm z
    · exact h z, fun z => f.z2 a z hm⟩
theorem lc_turn {g : TG} {el : En → Res RV} {cf : En → Res Bool} {f : D → En → Option En} {sl own : List Nat} {Q : VK} {H1 : Hp} {Z1 : Addr → Bool} {F1 P1 L : List Addr} {s : Src} {D0 : Addr} {fin : Res (List D) → Res RV}
    (finB : ∀ r : Res (List D), (∀ a e, r ≠ .ok a e) → fin r = .bad) (tgok : TgOk X g f sl) (hsl : ∀ j ∈ sl, j ∈ own) (b1 : Bs H1 Z1 F1 P1) (hD1 : H1 D0 = none)
    {H : Hp} {Z : Addr → Bool} {M P : List Addr} {env : En} {acc : List D} {accV : List V} {x : D} {xs : List D} {v : V}
    (I : LcInv xr W X σ Q H1 Z1 F1 P1 L s D0 own (fun acc env => fin (lcGo (lcStep f cf el own) (x :: xs) acc env)) H Z M P env acc accV) (xv : RpV X.K (hid Z H) v x) :
    g v (wipe σ own) H fun σ2 H2 => wipe σ2 own = wipe σ own ∧ rdT xr X.K W0 cf σ2 H2 fun b H3 => if b = true then rdE xr X.K W0 el σ2 H3 fun y H4 => ∃ accV, H4 D0 = some (.lst accV) ∧ accV.length < sizeLine ∧
      (∃ Z M P env acc accV', LcInv xr W X σ Q H1 Z1 F1 P1 L s D0 own (fun acc env => fin (lcGo (lcStep f cf el own) xs acc env)) (upd H4 D0 (.lst (accV ++ [y]))) Z M P env acc accV')
      else ∃ Z M P env acc accV', LcInv xr W X σ Q H1 Z1 F1 P1 L s D0 own (fun acc env => fin (lcGo (lcStep f cf el own) xs acc env)) H3 Z M P env acc accV' := by
  have dd := I.dd
  -- the target
  cases e1 : f x (wipeE env own) with
  | none =>
    have : fin (lcGo (lcStep f cf el own) (x :: xs) acc env) = .bad := finB _ fun a e q => by
      simp only [lcGo, lcStep, e1] at q; cases q
    rw [this] at dd; exact dd.elim
  | some env2 =>
    refine tgok.run I.r.here Pend.nil (.val xv) e1 fun σ2 M2 h2 k2 _ => ?_
    have hw : wipe σ2 own = wipe σ own := by
      rw [wipe_congr (σ := wipe σ own) k2.1 fun j hj => k2.2 j fun z => hj (hsl j z), wipe_idem]
    refine ⟨hw, ?_⟩
    have step0 : (∀ y e, lcStep f cf el own x env ≠ .ok y e) → False := fun hr => by
      have : fin (lcGo (lcStep f cf el own) (x :: xs) acc env) = .bad := finB _ fun a e q => by
        rw [lcGo] at q
        cases er : lcStep f cf el own x env with
        | ok y e => exact hr y e er
        | ex c p e => rw [er] at q; cases q
        | bad => rw [er] at q; cases q
      rw [this] at dd; exact dd
    have dN : H D0 ≠ none := by rw [I.hD]; exact fun z => by cases z
    have m2 : ∀ a ∈ M2, a ∈ M := h2.mf
    have dM2 : D0 ∉ M2 := fun z => I.dM (m2 _ z)
    -- the test
    cases ec : cf env2 with
    | bad => exact (step0 fun y e q => by simp only [lcStep, e1, ec, Res.bind] at q; cases q).elim
    | ex c p e => exact (step0 fun y e q => by simp only [lcStep, e1, ec, Res.bind] at q; cases q).elim
    | ok k env3 =>
      refine ⟨Z, M2, P, env2, h2.rep, ?_⟩
      rw [ec]
      intro b H3 Z3 M3 P3 L3 r3 f3 x3 o3
      obtain ⟨rfl, rfl⟩ := x3
      obtain ⟨d3, d3m, d3p, d3z⟩ := stays f3 dN dM2
      -- how the turn ends
      have close : ∀ {H5 : Hp} {Z5 : Addr → Bool} {M5 P5 : List Addr} {env5 : En} {acc' : List D} {accV' : List V}, Rep X.K H5 Z5 M5 P5 env5 σ2 → Z5 D0 = true → D0 ∉ M5 → D0 ∉ P5 → H5 D0 = some (.lst accV') → RpVs X.K (hid Z5 H5) accV' acc' →
          Fr H Z (D0 :: M) P H5 Z5 (D0 :: M5) P5 → (fin (lcGo (lcStep f cf el own) (x :: xs) acc env) = fin (lcGo (lcStep f cf el own) xs acc' env5)) →
          ∃ Z M P env acc accV', LcInv xr W X σ Q H1 Z1 F1 P1 L s D0 own (fun acc env => fin (lcGo (lcStep f cf el own) xs acc env)) H5 Z M P env acc accV' := fun {H5 Z5 M5 P5 env5 acc' accV'} r5 z5 m5 p5 hd5 ha5 f5 ed => by
        obtain ⟨M6, P6, q1, q2, r6⟩ := r5.wipe own
        rw [hw] at r6
        have b0 : Bs H Z (D0 :: M) P := ⟨fun a ha => by
          rcases List.mem_cons.mp ha with z | z
          · rw [z]; exact I.zD
          · exact I.r.msub a z, I.r.psub, fun a => I.r.zs, fun a ha q => by
          rcases List.mem_cons.mp q with z | z
          · rw [z] at ha; exact I.dP ha
          · exact I.r.dis ha z⟩
        have f6 : Fr H Z (D0 :: M) P H5 Z5 (D0 :: M6) P6 := ⟨f5.keep, f5.z1, f5.z2, fun a ha => f5.m a (by
          rcases List.mem_cons.mp ha with z | z
          · rw [z]; exact List.mem_cons_self
          · exact List.mem_cons_of_mem _ (q1 a z)), fun a ha => f5.p a (q2 a ha)⟩
        have old : ∀ {a : Addr}, H a ≠ none → a ∉ M → a ≠ D0 → H5 a = H a ∧ a ∉ M6 ∧ (a ∉ P → a ∉ P6) ∧ (Z a = true → Z5 a = true) := fun {a} h1 h2 h3 => by
          obtain ⟨k1, k2, k3, k4⟩ := stays f6 h1 (fun z => (List.mem_cons.mp z).elim h3 h2)
          exact ⟨k1, fun z => k2 (List.mem_cons_of_mem _ z), k3, k4⟩
        refine ⟨Z5, M6, P6, env5, acc', accV', r6, z5, fun z => m5 (q1 _ z), fun z => p5 (q2 _ z), hd5, ha5, fun a o ho => ?_, I.fr.trans b1 f6, fun a ha => ?_, ?_⟩
        · obtain ⟨s1, s2, s3⟩ := I.src a o ho
          obtain ⟨k1, k2, _, _⟩ := old (by rw [s1]; exact fun z => by cases z) s2 s3
          exact ⟨k1.trans s1, k2, s3⟩
        · obtain ⟨l1, l2, l3, l4, l5⟩ := I.lM a ha
          obtain ⟨k1, k2, k3, k4⟩ := old (I.r.zs l4) l1 l3
          exact ⟨k2, k3 l2, l3, k4 l4, k1.trans l5⟩
        · rw [ed] at dd; exact dd
      have fr3 : Fr H Z (D0 :: M) P H3 Z3 (D0 :: M3) P3 := ⟨fun a u e hm => f3.keep a u e fun z => hm (List.mem_cons_of_mem _ (m2 a z)), f3.z1, fun a e hm => f3.z2 a e fun z => hm (List.mem_cons_of_mem _ (m2 a z)), fun a ha => by
        rcases List.mem_cons.mp ha with z | z
        · rw [z]; exact .inl List.mem_cons_self
        · exact (f3.m a z).imp (fun z => List.mem_cons_of_mem _ (m2 a z)) id, fun a ha => by
        rcases f3.p a ha with z | z | z
        · exact .inl z
        · exact .inr (.inl (List.mem_cons_of_mem _ (m2 a z)))
        · exact .inr (.inr z)⟩
      cases b with
      | false =>
        rw [if_neg Bool.false_ne_true]
        refine close (accV' := accV) (acc' := acc) r3 (d3z I.zD) d3m (d3p I.dP) (by rw [d3]; exact I.hD) (RpVs.mono (f3.sub h2.rep.bs) acc I.ha) fr3 ?_
        have : lcStep f cf el own x env = .ok none env3 := by simp only [lcStep, e1, ec, Res.bind, Bool.false_eq_true, if_false]
        rw [lcGo, this]
      | true =>
        rw [if_pos rfl]
        cases ee : el env3 with
        | bad => exact (step0 fun y e q => by simp only [lcStep, e1, ec, ee, Res.bind, if_true] at q; cases q).elim
        | ex c p e => exact (step0 fun y e q => by simp only [lcStep, e1, ec, ee, Res.bind, if_true] at q; cases q).elim
        | ok rv env4 =>
          refine ⟨Z3, M3, P3, env3, r3, ?_⟩
          rw [ee]
          intro y H4 Z4 M4 P4 L4 r4 f4 x4 o4
          cases eg : rv.give env4 with
          | none => exact (step0 fun y e q => by simp only [lcStep, e1, ec, ee, eg, Res.bind, if_true] at q; cases q).elim
          | some de =>
            obtain ⟨d, env5⟩ := de
            have dN3 : H3 D0 ≠ none := by rw [d3]; exact dN
            obtain ⟨d4, d4m, d4p, d4z⟩ := stays f4 dN3 d3m
            have h4 : Here X.K σ2 H4 Z4 M4 P4 (M4 ++ L4) env4 := ⟨r4, ⟨fun a ha => (List.mem_append.mp ha).elim (r4.msub a) (o4.z a), r4.psub, fun a => r4.zs, fun a ha q => (List.mem_append.mp q).elim (r4.dis ha) fun z => o4.np a z ha⟩, fun a ha => List.mem_append_left _ ha⟩
            have p4 : Pend Z4 M4 P4 (M4 ++ L4) L4 := ⟨o4.nd, o4.z, o4.nm, o4.np, fun a ha => List.mem_append_right _ ha⟩
            obtain ⟨Z5, M5, F5, h5, xy, f5, s5, _⟩ := give_ok h4 p4 x4 eg
            have dF4 : D0 ∉ M4 ++ L4 := fun q => (List.mem_append.mp q).elim d4m fun z => (o4.old _ z).elim d3m dN3
            have dN4 : H4 D0 ≠ none := by rw [d4]; exact dN3
            obtain ⟨_, d5f, d5p, d5z⟩ := stays f5 dN4 dF4
            have d5m : D0 ∉ M5 := fun z => d5f (h5.mf _ z)
            have hD4 : H4 D0 = some (.lst accV) := by rw [d4, d3]; exact I.hD
            -- the new item
            have sub5 : Sub (hid Z5 H4) (hid Z5 (upd H4 D0 (.lst (accV ++ [y])))) := fun a u e => by
              obtain ⟨q1, q2⟩ := hid_some.mp e
              have ne : a ≠ D0 := fun z => by
                rw [z, d5z (d4z (d3z I.zD))] at q1; cases q1
              exact hid_some.mpr ⟨q1, by rw [upd_ne ne]; exact q2⟩
            have r5 : Rep X.K (upd H4 D0 (.lst (accV ++ [y]))) Z5 M5 P4 env5 σ2 := h5.rep.mono sub5 (fun a ha => upd_ne fun z => by
              rw [z] at ha
              exact (List.mem_append.mp ha).elim d5m (d5p (d4p (d3p I.dP)))) h5.rep.sub fun a ha => by
              by_cases hz : a = D0
              · rw [hz]; exact ⟨_, upd_same⟩
              · rw [upd_ne hz]; exact h5.rep.zl a ha
            have hacc : RpVs X.K (hid Z5 (upd H4 D0 (.lst (accV ++ [y])))) (accV ++ [y]) (acc ++ [d]) :=
              (RpVs.mono (((f3.sub h2.rep.bs).trans (f4.sub r3.bs)).trans (s5.trans sub5)) acc I.ha).append (.cons (RpV.mono sub5 d xy) .nil)
            have est : lcStep f cf el own x env = .ok (some d) env5 := by simp only [lcStep, e1, ec, ee, eg, Res.bind, if_true]
            by_cases hb : Nat.blt acc.length big = true
            · refine ⟨accV, hD4, ?_, ?_⟩
              · rw [I.ha.len, ← big_eq]
                exact Nat.le_of_ble_eq_true hb
              · refine close (accV' := accV ++ [y]) (acc' := acc ++ [d]) r5 (d5z (d4z (d3z I.zD))) d5m (d5p (d4p (d3p I.dP))) upd_same hacc ?_ ?_
                · have fr4 : Fr H3 Z3 (D0 :: M3) P3 (upd H4 D0 (.lst (accV ++ [y]))) Z5 (D0 :: M5) P4 := by
                    refine ⟨fun a u e hm => ?_, fun a e => ?_, fun a e hm => ?_, fun a ha => ?_, fun a ha => ?_⟩
                    · rw [upd_ne fun z => hm (by rw [z]; exact List.mem_cons_self)]
                      exact f4.keep a u e fun z => hm (List.mem_cons_of_mem _ z)
                    · rcases f5.z1 a e with z | z
                      · exact f4.z1 a z
                      · exact (Fr.back r3.bs f4 z).elim .inr fun w => .inl (r3.msub a w)
                    · have n3 : a ∉ M3 := fun z => hm (List.mem_cons_of_mem _ z)
                      have h3n : H3 a ≠ none := r3.zs e
                      obtain ⟨e1, e2, _, e4⟩ := stays f4 h3n n3
                      refine f5.z2 a (e4 e) fun z => ?_
                      rcases List.mem_append.mp z with z | z
                      · exact e2 z
                      · exact (o4.old a z).elim n3 h3n
                    · rcases List.mem_cons.mp ha with z | z
                      · rw [z]; exact .inl List.mem_cons_self
                      · rcases f5.m a (h5.mf a z) with w | w
                        · rcases List.mem_append.mp w with w | w
                          · exact (f4.m a w).imp (List.mem_cons_of_mem _) id
                          · exact (o4.old a w).imp (List.mem_cons_of_mem _) id
                        · exact (Fr.back r3.bs f4 w).elim .inr fun q => .inl (List.mem_cons_of_mem _ q)
                    · rcases f4.p a ha with z | z | z
                      · exact .inl z
                      · exact .inr (.inl (List.mem_cons_of_mem _ z))
                      · exact .inr (.inr z)
                  have b0 : Bs H Z (D0 :: M) P := ⟨fun a ha => (List.mem_cons.mp ha).elim (fun z => by rw [z]; exact I.zD) (I.r.msub a), I.r.psub, fun a => I.r.zs, fun a ha q => (List.mem_cons.mp q).elim (fun z => I.dP (z ▸ ha)) (I.r.dis ha)⟩
                  exact fr3.trans b0 fr4
                · rw [lcGo, est]
                  simp only [hb, if_true]
            · have : fin (lcGo (lcStep f cf el own) (x :: xs) acc env) = .bad := finB _ fun a e q => by
                rw [lcGo, est] at q
                simp only [hb, if_false] at q
                cases q
              rw [this] at dd
              exact dd.elim
end
end Ev
namespace Ev
open PySem PySem.Spec PyProof.Rows L2
section
variable {xr : XR} {W : WX} {X : Cx}
theorem lcFin_bad (env : En) (hd : Option (Nat × D)) (own : List Nat) (r : Res (List D)) (h : ∀ a e, r ≠ .ok a e) : lcFin env hd own r = .bad := by
  cases r with
  | ok a e => exact absurd rfl (h a e)
  | ex c p e => rfl
  | bad => rfl
theorem lc_run {w : En → Res (List D × Option (Nat × D))} {g : TG} {el : En → Res RV} {cf : En → Res Bool} {f : D → En → Option En} {sl own : List Nat} (tgok : TgOk X g f sl) (hsl : ∀ j ∈ sl, j ∈ own) {σ : L2.St} {H : Hp} {Q : VK}
    (h : rdE xr X.K W (lcE w f cf el own) σ H Q) : tLc (rdI xr X.K W w) g (rdT xr X.K W0 cf) (rdE xr X.K W0 el) own σ H Q := by
  refine rd_bind h fun r env1 J H1 Z1 M1 P1 F1 L h1 p1 x d => ?_
  obtain ⟨xs, hd⟩ := r
  have d : Done RvR xr X.K W H1 Z1 F1 P1 σ Q (if own.all (plainAt env1) then lcFin env1 hd own (lcGo (lcStep f cf el own) xs [] env1) else .bad) := d
  split at d
  · rename_i hp
    obtain ⟨hl, vs, s, hv, wk, hs⟩ := x
    have hlen : vs.length = xs.length := hv.len
    intro D0 hD
    have zD : Z1 D0 = false := by
      cases q : Z1 D0 with
      | false => rfl
      | true => exact absurd hD (h1.rep.zs q)
    refine ⟨fun i m H => m + i = xs.length ∧ ∃ Z M P env acc accV, LcInv xr W X σ Q H1 Z1 F1 P1 L s D0 own (fun acc env => lcFin env1 hd own (lcGo (lcStep f cf el own) (xs.drop i) acc env)) H Z M P env acc accV, ⟨xs.length, rfl, ?_⟩, fun i m H hW => ?_⟩
    · obtain ⟨r1, f1, o1, s1⟩ := h1.rep.allocL (vs := []) hD
      obtain ⟨M2, P2, q1, q2, r2⟩ := r1.wipe own
      have dM : D0 ∉ M2 := fun q => o1.nm D0 (by simp) (q1 _ q)
      have dP : D0 ∉ P2 := fun q => o1.np D0 (by simp) (q2 _ q)
      have fF := f1 F1
      refine ⟨_, M2, P2, env1, [], [], ⟨r2, inn_true.mpr (.inr (by simp)), dM, dP, upd_same, .nil, fun a o ho => ?_, ⟨fF.keep, fF.z1, fF.z2, fun a ha => ?_, fun a ha => .inl (q2 a ha)⟩, fun a ha => ?_, ?_⟩⟩
      · obtain ⟨k1, k2⟩ := hs a o ho
        have ne : a ≠ D0 := fun z => by rw [z, hD] at k1; cases k1
        refine ⟨by rw [upd_ne ne]; exact k1, fun z => ?_, ne⟩
        rcases k2 with k2 | k2
        · have := h1.rep.msub a (q1 a z)
          rw [k2] at this; cases this
        · exact p1.nm a k2 (q1 a z)
      · rcases List.mem_cons.mp ha with z | z
        · rw [z]; exact .inr hD
        · exact .inl (h1.mf a (q1 a z))
      · have ne : a ≠ D0 := fun z => by
          have := p1.z a ha
          rw [z, zD] at this; cases this
        exact ⟨fun z => p1.nm a ha (q1 a z), fun z => p1.np a ha (q2 a z), ne, inn_true.mpr (.inl (p1.z a ha)), upd_ne ne⟩
      · rw [List.drop_zero]; exact d
    · obtain ⟨hm, Z, M, P, env, acc, accV, I⟩ := hW
      have sat : SrcAt s H := fun a o ho => (I.src a o ho).1
      by_cases hi : i < xs.length
      · refine .inr ⟨wk.go i H sat (by rw [hlen]; exact hi), fun H' => ∃ Z M P env acc accV, LcInv xr W X σ Q H1 Z1 F1 P1 L s D0 own (fun acc env => lcFin env1 hd own (lcGo (lcStep f cf el own) (xs.drop (i + 1)) acc env)) H' Z M P env acc accV, fun H' q => ⟨m - 1, by omega, by omega, q⟩, fun v H' y => ?_⟩
        obtain ⟨e1, e2⟩ := wk.yld i H v H' sat (by rw [hlen]; exact hi) y
        subst e1
        have hx : xs.drop i = xs[i] :: xs.drop (i + 1) := List.drop_eq_getElem_cons hi
        rw [hx] at I
        have hv2 := RpVs.mono (I.fr.sub h1.bs) xs hv
        obtain ⟨v', e3, xv⟩ := hv2.get (i := i) (List.getElem?_eq_getElem hi)
        rw [e2] at e3; cases e3
        exact lc_turn (fin := lcFin env1 hd own) (lcFin_bad env1 hd own) tgok hsl h1.bs hD I xv
      · have hi' : i = xs.length := by omega
        have he : xs.drop i = [] := by rw [hi']; exact List.drop_length
        rw [he] at I
        refine .inl ⟨wk.stop i H sat (by rw [hlen]; omega), ?_⟩
        have dd : Done RvR xr X.K W H1 Z1 F1 P1 σ Q (match unlk hd (backE env1 (wipeE env own) own) with
          | some env2 => .ok (.v (.mls acc)) env2
          | none => .bad) := I.dd
        obtain ⟨M2, P2, q1, q2, r2⟩ := Rep.back h1.rep (I.fr.sub h1.bs) I.r own hp
        rw [bk_wipe] at r2
        have hb : Here X.K σ H Z M2 P2 (L ++ M2) (backE env1 (wipeE env own) own) := ⟨r2, ⟨fun a ha => (List.mem_append.mp ha).elim (fun q => (I.lM a q).2.2.2.1) (r2.msub a), r2.psub, fun a => r2.zs, fun a ha q => (List.mem_append.mp q).elim (fun q => (I.lM a q).2.1 (q2 a ha)) (r2.dis ha)⟩, fun a ha => List.mem_append_right _ ha⟩
        have pd : Pend Z M2 P2 (L ++ M2) L := ⟨p1.nd, fun a ha => (I.lM a ha).2.2.2.1, fun a ha q => (I.lM a ha).1 (q1 a q), fun a ha q => (I.lM a ha).2.1 (q2 a q), fun a ha => List.mem_append_left _ ha⟩
        have fin : ∀ {env2 : En} {M3 : List Addr}, Rep X.K H Z M3 P2 env2 σ → (∀ a ∈ M3, a ∈ L ++ M2) → Done RvR xr X.K W H1 Z1 F1 P1 σ Q (.ok (.v (.mls acc)) env2) → Q (.ref D0) H := fun {env2 M3} r3 hm3 d3 => by
          refine d3 (.ref D0) H Z M3 P2 [D0] r3 ⟨I.fr.keep, I.fr.z1, I.fr.z2, fun a ha => ?_, fun a ha => I.fr.p a (q2 a ha)⟩ (.mls I.hD (RpXs.vals I.ha)) ⟨by simp, fun a ha => ?_, fun a ha q => ?_, fun a ha q => ?_, fun a ha => ?_⟩
          · rcases List.mem_append.mp (hm3 a ha) with z | z
            · exact .inl (p1.lf a z)
            · exact I.fr.m a (List.mem_cons_of_mem _ (q1 a z))
          · rw [List.mem_singleton.mp ha]; exact I.zD
          · rw [List.mem_singleton.mp ha] at q
            rcases List.mem_append.mp (hm3 _ q) with z | z
            · exact (I.lM _ z).2.2.1 rfl
            · exact I.dM (q1 _ z)
          · rw [List.mem_singleton.mp ha] at q
            exact I.dP (q2 _ q)
          · rw [List.mem_singleton.mp ha]; exact .inr hD
        cases hd with
        | none => exact fin r2 (fun a ha => List.mem_append_right _ ha) dd
        | some idd =>
          obtain ⟨i0, d0⟩ := idd
          obtain ⟨v0, ev, xv⟩ := hl
          have xv2 : RpX X.K H Z v0 d0 L := RpX.mono (I.fr.sub h1.bs) d0 (fun a ha => (I.lM a ha).2.2.2.2) xv
          unfold unlk at dd
          simp only at dd
          split at dd
          · rename_i env2 e
            split at e
            · rename_i eu
              cases e
              have h3 := hb.put pd eu xv2
              rw [set_self ev] at h3
              exact fin h3.rep (fun a ha => h3.mf a ha) dd
            · cases e
          · exact dd.elim
  · exact d.elim
theorem se_lc {elt tg iter : Expr} {ifs : List Expr} {scope : Scope} {own : List (Str × Nat)} {pos : Pos} {g : TG} {w : En → Res (List D × Option (Nat × D))} {el : En → Res RV} {cf : En → Res Bool} {f : D → En → Option En} {sl : List Nat} (hc : X.calm = true) (hN : X.N.Nodup) (hi : PI X tg iter (rdI xr X.K W w)) (ok : BlkOk X.N X.env.scope scope own)
    (hg : ∀ (s : Shared) (H : Hp) (C : Addr) (cl : List (Str × Addr)) (fp : List Addr), PG (X.blk s H scope (compEnvC scope cl C X.env) fp) tg g) (tgok : TgOk X g f sl) (hsl : ∀ j ∈ sl, j ∈ own.map (·.2))
    (ht : ∀ (s : Shared) (H : Hp) (C : Addr) (cl : List (Str × Addr)) (fp : List Addr), PTs (X.blk s H scope (compEnvC scope cl C X.env) fp) ifs (rdT xr X.K W0 cf))
    (he : ∀ (s : Shared) (H : Hp) (C : Addr) (cl : List (Str × Addr)) (fp : List Addr), PE (X.blk s H scope (compEnvC scope cl C X.env) fp) elt (rdE xr X.K W0 el)) (hs : ∀ x, foldedSetIterable iter X.env x = pure x) :
    PE X (.ListComp elt [⟨tg, iter, ifs, 0⟩] scope pos) (rdE xr X.K W (lcE w f cf el (own.map (·.2)))) :=
  pe_weak (pe_lc hc hN hi ok hg ht he hs) fun σ H Q h => lc_run tgok hsl h
end
end Ev
namespace Ev
open PySem PySem.Spec PyProof.Rows L2
/-! ### statements -/
/-- the slots but those at sl are as they were -/
def Same (sl : List Nat) (σ σ' : L2.St) : Prop := σ'.length = σ.length ∧ ∀ j, j ∉ sl → σ'[j]? = σ[j]?
theorem Same.refl {sl : List Nat} {σ : L2.St} : Same sl σ σ := ⟨rfl, fun _ _ => rfl⟩
theorem Same.trans {sl : List Nat} {σ σ1 σ2 : L2.St} (a : Same sl σ σ1) (b : Same sl σ1 σ2) : Same sl σ σ2 := ⟨b.1.trans a.1, fun j hj => (b.2 j hj).trans (a.2 j hj)⟩
theorem Same.up {sl sl' : List Nat} {σ σ' : L2.St} (h : ∀ j ∈ sl, j ∈ sl') (a : Same sl σ σ') : Same sl' σ σ' := ⟨a.1, fun j hj => a.2 j fun z => hj (h j z)⟩
section
variable (xr : XR) (K : PySem.W.Frag) (W : WX)
def DoneS (H : Hp) (Z : Addr → Bool) (F P : List Addr) (σ : L2.St) (sl : List Nat) (D : Ends) : Res Fl → Prop
  | .ok (.rt d) env' => ∀ v σ' H' Z' M' P' L, Rep K H' Z' M' P' env' σ' → Fr H Z F P H' Z' M' P' → Same sl σ σ' → RpX K H' Z' v d L → Own H F Z' M' P' L → D.rt v H'
  | .ok .nx env' => ∀ σ' H' Z' M' P', Rep K H' Z' M' P' env' σ' → Fr H Z F P H' Z' M' P' → Same sl σ σ' → D.nx σ' H'
  | .ok .br env' => ∀ σ' H' Z' M' P', Rep K H' Z' M' P' env' σ' → Fr H Z F P H' Z' M' P' → Same sl σ σ' → D.bk σ' H'
  | .ok .ct env' => ∀ σ' H' Z' M' P', Rep K H' Z' M' P' env' σ' → Fr H Z F P H' Z' M' P' → Same sl σ σ' → D.ct σ' H'
  | .ex c p env' => ∀ cls dd σ' H' Z' M' P', Rep K H' Z' M' P' env' σ' → Fr H Z F P H' Z' M' P' → Same sl σ σ' → xr c p K H' Z' cls dd → W cls dd σ' H'
  | .bad => False
def rdS (sl : List Nat) (f : En → Res Fl) : TS := fun D σ H => ∃ Z M P env, Rep K H Z M P env σ ∧ DoneS xr K W H Z M P σ sl D (f env)
end
section
variable {xr : XR} {K : PySem.W.Frag} {W : WX} {α β : Type} {Rl : PySem.W.Frag → Hp → (Addr → Bool) → L2.St → α → β → List Addr → Prop}
  {H H1 H2 : Hp} {Z Z1 Z2 : Addr → Bool} {M M1 M2 P P1 P2 L F F1 : List Addr} {env env1 env2 : En} {σ σ1 : L2.St} {sl sl' : List Nat} {D : Ends}
theorem DoneS.shift {r : Res Fl} (rp : Bs H Z F P) (f : Fr H Z F P H1 Z1 F1 P1) (s : Same sl σ σ1) (d : DoneS xr K W H Z F P σ sl D r) : DoneS xr K W H1 Z1 F1 P1 σ1 sl D r := by
  cases r with
  | ok a e =>
    cases a with
    | rt dv => exact fun v σ' H' Z' M' P' L r' f' s' x o => d v σ' H' Z' M' P' L r' (f.trans rp f') (s.trans s') x (o.shift rp f)
    | nx => exact fun σ' H' Z' M' P' r' f' s' => d σ' H' Z' M' P' r' (f.trans rp f') (s.trans s')
    | br => exact fun σ' H' Z' M' P' r' f' s' => d σ' H' Z' M' P' r' (f.trans rp f') (s.trans s')
    | ct => exact fun σ' H' Z' M' P' r' f' s' => d σ' H' Z' M' P' r' (f.trans rp f') (s.trans s')
  | ex c p e => exact fun cls dd σ' H' Z' M' P' r' f' s' x => d cls dd σ' H' Z' M' P' r' (f.trans rp f') (s.trans s') x
  | bad => exact d
theorem Here.up (h : Here K σ H Z M P F env) {H' : Hp} {Z' : Addr → Bool} {M' P' : List Addr} (f : Fr H Z M P H' Z' M' P') : Fr H Z F P H' Z' M' P' := by
  refine ⟨fun a u e hm => f.keep a u e fun q => hm (h.mf a q), f.z1, fun a e hm => f.z2 a e fun q => hm (h.mf a q), fun a ha => ?_, fun a ha => ?_⟩
  · rcases f.m a ha with z | z
    · exact .inl (h.mf a z)
    · exact .inr z
  · rcases f.p a ha with z | z | z
    · exact .inl z
    · exact .inr (.inl (h.mf a z))
    · exact .inr (.inr z)
theorem Own.up (h : Here K σ H Z M P F env) {Z' : Addr → Bool} {M' P' : List Addr} (o : Own H M Z' M' P' L) : Own H F Z' M' P' L := ⟨o.nd, o.z, o.nm, o.np, fun a ha => (o.old a ha).imp (h.mf a) id⟩
/-- weaker ends -/
theorem DoneS.less {r : Res Fl} (h : Here K σ H Z M P F env) (hs : ∀ j ∈ sl', j ∈ sl) (d : DoneS xr K W H Z F P σ sl D r) : DoneS xr K W H Z M P σ sl' D r := by
  cases r with
  | ok a e =>
    cases a with
    | rt dv => exact fun v σ' H' Z' M' P' L r' f' s' x o => d v σ' H' Z' M' P' L r' (h.up f') (s'.up hs) x (o.up h)
    | nx => exact fun σ' H' Z' M' P' r' f' s' => d σ' H' Z' M' P' r' (h.up f') (s'.up hs)
    | br => exact fun σ' H' Z' M' P' r' f' s' => d σ' H' Z' M' P' r' (h.up f') (s'.up hs)
    | ct => exact fun σ' H' Z' M' P' r' f' s' => d σ' H' Z' M' P' r' (h.up f') (s'.up hs)
  | ex c p e => exact fun cls dd σ' H' Z' M' P' r' f' s' x => d cls dd σ' H' Z' M' P' r' (h.up f') (s'.up hs) x
  | bad => exact d
theorem Here.lastS {g : En → Res Fl} (h : Here K σ H Z M P F env) (hs : ∀ j ∈ sl', j ∈ sl) (d : DoneS xr K W H Z F P σ sl D (g env)) : rdS xr K W sl' g D σ H := ⟨Z, M, P, env, h.rep, DoneS.less h hs d⟩
theorem rdS_less {g : En → Res Fl} (hs : ∀ j ∈ sl', j ∈ sl) (h : rdS xr K W sl g D σ H) : rdS xr K W sl' g D σ H := let ⟨Z, M, P, env, rp, d⟩ := h; rp.here.lastS hs d
/-- other ends -/
theorem DoneS.ends {D' : Ends} {r : Res Fl} (h1 : ∀ σ' H', D.nx σ' H' → D'.nx σ' H') (h2 : ∀ v H', D.rt v H' → D'.rt v H') (h3 : ∀ σ' H', D.bk σ' H' → D'.bk σ' H') (h4 : ∀ σ' H', D.ct σ' H' → D'.ct σ' H') (d : DoneS xr K W H Z F P σ sl D r) : DoneS xr K W H Z F P σ sl D' r := by
  cases r with
  | ok a e =>
    cases a with
    | rt dv => exact fun v σ' H' Z' M' P' L r' f' s' x o => h2 _ _ (d v σ' H' Z' M' P' L r' f' s' x o)
    | nx => exact fun σ' H' Z' M' P' r' f' s' => h1 _ _ (d σ' H' Z' M' P' r' f' s')
    | br => exact fun σ' H' Z' M' P' r' f' s' => h3 _ _ (d σ' H' Z' M' P' r' f' s')
    | ct => exact fun σ' H' Z' M' P' r' f' s' => h4 _ _ (d σ' H' Z' M' P' r' f' s')
  | ex c p e => exact d
  | bad => exact d
/-- an expression, then the rest -/
theorem DoneS.bind {R : β → Hp → Prop} {g : Res α} {k : α → En → Res Fl} (h : Here K σ H Z M P F env) (d : DoneS xr K W H Z F P σ sl D (g.bind k))
    (step : ∀ a env1 b H1 Z1 M1 P1 F1 L, Here K σ H1 Z1 M1 P1 F1 env1 → Pend Z1 M1 P1 F1 L → Rl K H1 Z1 σ a b L → Fr H Z M P H1 Z1 M1 P1 → ((∀ a ∈ F, a ∉ M → a ∈ F1) ∧ ∀ a ∈ L, a ∈ M ∨ H a = none) → DoneS xr K W H1 Z1 F1 P1 σ sl D (k a env1) → R b H1) : Done Rl xr K W H Z M P σ R g := by
  cases g with
  | ok a e =>
    intro b H' Z' M' P' L r' f' x o
    obtain ⟨F1, f1, h1, p1, k1⟩ := Fr.grow h r' f' o
    exact step a e b H' Z' M' P' F1 L h1 p1 x f' ⟨k1, o.old⟩ (DoneS.shift h.bs f1 .refl d)
  | ex c p e => exact fun cls dd H' Z' M' P' r' f' x => d cls dd σ H' Z' M' P' r' (h.up f') .refl x
  | bad => exact d
theorem Here.bindS {R : β → Hp → Prop} {g : En → Res α} {k : α → En → Res Fl} (h : Here K σ H Z M P F env) (d : DoneS xr K W H Z F P σ sl D ((g env).bind k))
    (step : ∀ a env1 b H1 Z1 M1 P1 F1 L, Here K σ H1 Z1 M1 P1 F1 env1 → Pend Z1 M1 P1 F1 L → Rl K H1 Z1 σ a b L → Fr H Z M P H1 Z1 M1 P1 → ((∀ a ∈ F, a ∉ M → a ∈ F1) ∧ ∀ a ∈ L, a ∈ M ∨ H a = none) → DoneS xr K W H1 Z1 F1 P1 σ sl D (k a env1) → R b H1) : rd Rl xr K W g σ H R :=
  ⟨Z, M, P, env, h.rep, DoneS.bind h d step⟩
theorem rdS_bind {R : β → Hp → Prop} {g : En → Res α} {k : α → En → Res Fl} (h : rdS xr K W sl (fun env => (g env).bind k) D σ H)
    (step : ∀ a env1 b H1 Z1 M1 P1 F1 L, Here K σ H1 Z1 M1 P1 F1 env1 → Pend Z1 M1 P1 F1 L → Rl K H1 Z1 σ a b L → DoneS xr K W H1 Z1 F1 P1 σ sl D (k a env1) → R b H1) : rd Rl xr K W g σ H R := by
  obtain ⟨Z, M, P, env, rp, d⟩ := h
  exact ⟨Z, M, P, env, rp, DoneS.bind rp.here d fun a env1 b H1 Z1 M1 P1 F1 L x p r _ _ d => step a env1 b H1 Z1 M1 P1 F1 L x p r d⟩
theorem DoneS.nx_end (h : Here K σ H Z M P F env) (d : DoneS xr K W H Z F P σ sl D (.ok .nx env)) : D.nx σ H := d σ H Z M P h.rep h.fr .refl
theorem DoneS.nx_at (h : Here K σ H Z M P F env) (h1 : Here K σ1 H Z M1 P F env1) (s : Same sl σ σ1) (d : DoneS xr K W H Z F P σ sl D (.ok .nx env1)) : D.nx σ1 H := d σ1 H Z M1 P h1.rep h1.fr s
theorem DoneS.rt_end {v : V} {d : Ev.D} (h : Here K σ H Z M P F env) (p : Pend Z M P F L) (x : RpX K H Z v d L) (dn : DoneS xr K W H Z F P σ sl D (.ok (.rt d) env)) : D.rt v H := dn v σ H Z M P L h.rep h.fr .refl x p.own
/-- one statement, then the rest -/
theorem DoneS.seq {f : En → Res Fl} {k : En → Res Fl} (h : Here K σ H Z M P F env) (hs : ∀ j ∈ sl', j ∈ sl) (d : DoneS xr K W H Z F P σ sl D (seqK k (f env))) : rdS xr K W sl' f { D with nx := fun σ' H' => rdS xr K W sl k D σ' H' } σ H := by
  refine ⟨Z, M, P, env, h.rep, ?_⟩
  cases e : f env with
  | ok a env1 =>
    rw [e] at d
    cases a with
    | nx =>
      intro σ' H' Z' M' P' r' f' s'
      obtain ⟨F1, f1, h1, _, _⟩ := Fr.grow (L := []) h r' f' Own.nil
      exact h1.lastS (fun _ q => q) (DoneS.shift h.bs f1 (s'.up hs) d)
    | ct => exact fun σ' H' Z' M' P' r' f' s' => d σ' H' Z' M' P' r' (h.up f') (s'.up hs)
    | br => exact fun σ' H' Z' M' P' r' f' s' => d σ' H' Z' M' P' r' (h.up f') (s'.up hs)
    | rt dv => exact fun v σ' H' Z' M' P' L r' f' s' x o => d v σ' H' Z' M' P' L r' (h.up f') (s'.up hs) x (o.up h)
  | ex c p e1 =>
    rw [e] at d
    exact fun cls dd σ' H' Z' M' P' r' f' s' x => d cls dd σ' H' Z' M' P' r' (h.up f') (s'.up hs) x
  | bad => rw [e] at d; exact d
/-- a loop's body, then what follows -/
theorem DoneS.loop {f : En → Res Fl} {k : En → Res Fl} {N B : L2.St → Hp → Prop} (h : Here K σ H Z M P F env) (hs : ∀ j ∈ sl', j ∈ sl) (d : DoneS xr K W H Z F P σ sl D (loopK k (f env)))
    (hn : ∀ σ' H' Z' M' P' F' env', Here K σ' H' Z' M' P' F' env' → Fr H Z M P H' Z' M' P' → (∀ a ∈ F, a ∉ M → a ∈ F') → Same sl' σ σ' → DoneS xr K W H' Z' F' P' σ' sl D (k env') → N σ' H')
    (hb : ∀ σ' H' Z' M' P' F' env', Here K σ' H' Z' M' P' F' env' → Fr H Z M P H' Z' M' P' → (∀ a ∈ F, a ∉ M → a ∈ F') → Same sl' σ σ' → DoneS xr K W H' Z' F' P' σ' sl D (.ok .nx env') → B σ' H') :
    rdS xr K W sl' f { D with nx := N, ct := N, bk := B } σ H := by
  refine ⟨Z, M, P, env, h.rep, ?_⟩
  cases e : f env with
  | ok a env1 =>
    rw [e] at d
    cases a with
    | nx =>
      intro σ' H' Z' M' P' r' f' s'
      obtain ⟨F1, f1, h1, _, k1⟩ := Fr.grow (L := []) h r' f' Own.nil
      exact hn σ' H' Z' M' P' F1 env1 h1 f' k1 s' (DoneS.shift h.bs f1 (s'.up hs) d)
    | ct =>
      intro σ' H' Z' M' P' r' f' s'
      obtain ⟨F1, f1, h1, _, k1⟩ := Fr.grow (L := []) h r' f' Own.nil
      exact hn σ' H' Z' M' P' F1 env1 h1 f' k1 s' (DoneS.shift h.bs f1 (s'.up hs) d)
    | br =>
      intro σ' H' Z' M' P' r' f' s'
      obtain ⟨F1, f1, h1, _, k1⟩ := Fr.grow (L := []) h r' f' Own.nil
      exact hb σ' H' Z' M' P' F1 env1 h1 f' k1 s' (DoneS.shift h.bs f1 (s'.up hs) d)
    | rt dv => exact fun v σ' H' Z' M' P' L r' f' s' x o => d v σ' H' Z' M' P' L r' (h.up f') (s'.up hs) x (o.up h)
  | ex c p e1 =>
    rw [e] at d
    exact fun cls dd σ' H' Z' M' P' r' f' s' x => d cls dd σ' H' Z' M' P' r' (h.up f') (s'.up hs) x
  | bad => rw [e] at d; exact d
end
/-! ### the simple ones -/
theorem pss_weak {X : Cx} {e : List Stmt} {t t' : TS} (h : PSs X e t) (i : ∀ D σ H, t' D σ H → t D σ H) : PSs X e t' := ⟨fun pins s σ H D I q => h.run pins s σ H D I (i D σ H q)⟩
section
variable {xr : XR} {W : WX} {X : Cx} {sl : List Nat} {pos : Pos}
theorem ss_nil : PSs X [] (rdS xr X.K W [] fun env => .ok .nx env) := pss_weak pss_nil fun D σ H h => by
  obtain ⟨Z, M, P, env, rp, d⟩ := h
  exact d.nx_end rp.here
theorem ss_cons {st : Stmt} {rest : List Stmt} {f k : En → Res Fl} {sl sl' : List Nat} (h1 : PS X st (rdS xr X.K W sl f)) (h2 : PSs X rest (rdS xr X.K W sl' k)) : PSs X (st :: rest) (rdS xr X.K W (sl ++ sl') fun env => seqK k (f env)) :=
  pss_weak (pss_cons h1 h2) fun D σ H h => by
    obtain ⟨Z, M, P, env, rp, d⟩ := h
    have q := d.seq (sl' := sl) rp.here (fun j hj => List.mem_append_left _ hj)
    obtain ⟨Z, M, P, env, rp, d⟩ := q
    refine ⟨Z, M, P, env, rp, DoneS.ends (D := { D with nx := fun σ' H' => rdS xr X.K W (sl ++ sl') k D σ' H' }) ?_ (fun _ _ q => q) (fun _ _ q => q) (fun _ _ q => q) d⟩
    exact fun σ' H' w => rdS_less (fun j hj => List.mem_append_right _ hj) w
theorem ss_pass : PS X (.Pass pos) (rdS xr X.K W [] fun env => .ok .nx env) := ps_weak ps_pass fun D σ H h => by
  obtain ⟨Z, M, P, env, rp, d⟩ := h
  exact d.nx_end rp.here
theorem ss_brk : PS X (.Break pos) (rdS xr X.K W [] fun env => .ok .br env) := ps_weak ps_break fun D σ H h => by
  obtain ⟨Z, M, P, env, rp, d⟩ := h
  exact d σ H Z M P rp rp.here.fr .refl
theorem ss_cnt : PS X (.Continue pos) (rdS xr X.K W [] fun env => .ok .ct env) := ps_weak ps_continue fun D σ H h => by
  obtain ⟨Z, M, P, env, rp, d⟩ := h
  exact d σ H Z M P rp rp.here.fr .refl
theorem ss_retN : PS X (.Return none pos) (rdS xr X.K W [] fun env => .ok (.rt .non) env) := ps_weak ps_retN fun D σ H h => by
  obtain ⟨Z, M, P, env, rp, d⟩ := h
  exact d.rt_end rp.here Pend.nil (.val .non)
theorem ss_doc {x : Str} {j : Nat} {pos' : Pos} : PS X (.Expr (.Constant (.str x) j pos) pos') (rdS xr X.K W [] fun env => .ok .nx env) := ps_weak ps_doc fun D σ H h => by
  obtain ⟨Z, M, P, env, rp, d⟩ := h
  exact d.nx_end rp.here
theorem ss_expr {e : Expr} {f : En → Res RV} (he : PE X e (rdE xr X.K W f)) (hs : swapsWith e none pos.line X.env = pure false) : PS X (.Expr e pos) (rdS xr X.K W [] fun env => (f env).bind fun _ env => .ok .nx env) :=
  ps_weak (ps_expr he hs) fun D σ H h => rdS_bind h fun r env1 v H1 Z1 M1 P1 F1 L1 h1 p1 x d => d.nx_end h1
theorem move_ok {H : Hp} {Z : Addr → Bool} {M P F L : List Addr} {env env1 : En} {σ : L2.St} {r : RV} {v : V} {d : D} (h : Here X.K σ H Z M P F env) (p : Pend Z M P F L) (x : RvR X.K H Z σ r v L) (e : r.move env = some (d, env1)) :
    ∃ M1 L1, Here X.K σ H Z M1 P F env1 ∧ Pend Z M1 P F L1 ∧ RpX X.K H Z v d L1 := by
  cases r with
  | v d0 =>
    cases e
    exact ⟨M, L, h, p, x⟩
  | ref i =>
    obtain ⟨e1, rfl⟩ := x
    unfold RV.move at e
    simp only at e
    split at e
    · rename_i d0 e0
      cases e
      obtain ⟨v', L0, M1, e2, x2, h1, p1, k1, k2⟩ := h.takeO e0
      rw [e1] at e2; cases e2
      exact ⟨M1, L0, h1, p1, x2⟩
    · cases e
theorem ss_ret {e : Expr} {f : En → Res RV} (he : PE X e (rdE xr X.K W f)) : PS X (.Return (some e) pos) (rdS xr X.K W [] fun env => (f env).bind fun r env => match r.move env with
    | some (d, env) => .ok (.rt d) env
    | none => .bad) :=
  ps_weak (ps_ret he) fun D σ H h => rdS_bind h fun r env1 v H1 Z1 M1 P1 F1 L1 h1 p1 x d => by
    split at d
    · rename_i dv env2 e
      obtain ⟨M2, L2, h2, p2, x2⟩ := move_ok h1 p1 x e
      exact d v σ H1 Z1 M2 P1 L2 h2.rep h2.fr .refl x2 p2.own
    · exact d.elim
theorem ss_if {c : Expr} {a b : List Stmt} {t : En → Res Bool} {f g : En → Res Fl} {sl sl' : List Nat} (hc : PT X c (rdT xr X.K W t)) (ha : PSs X a (rdS xr X.K W sl f)) (hb : PSs X b (rdS xr X.K W sl' g)) :
    PS X (.If c a b pos) (rdS xr X.K W (sl ++ sl') fun env => (t env).bind fun k env => if k then f env else g env) :=
  ps_weak (ps_if hc ha hb) fun D σ H h => rdS_bind h fun k env1 b H1 Z1 M1 P1 F1 L1 h1 p1 x d => by
    obtain ⟨rfl, rfl⟩ := x
    cases b with
    | true => rw [if_pos rfl]; rw [if_pos rfl] at d; exact h1.lastS (fun j hj => List.mem_append_left _ hj) d
    | false => rw [if_neg Bool.false_ne_true]; rw [if_neg Bool.false_ne_true] at d; exact h1.lastS (fun j hj => List.mem_append_right _ hj) d
theorem take_ok {H : Hp} {Z : Addr → Bool} {M P F L : List Addr} {env env1 : En} {σ : L2.St} {r : RV} {v : V} {d : D} (h : Here X.K σ H Z M P F env) (p : Pend Z M P F L) (x : RvR X.K H Z σ r v L) (e : r.take env = some (d, env1)) :
    ∃ Z1 M1 F1 L1, Here X.K σ H Z1 M1 P F1 env1 ∧ Pend Z1 M1 P F1 L1 ∧ RpX X.K H Z1 v d L1 ∧ Fr H Z F P H Z1 F1 P ∧ Sub (hid Z H) (hid Z1 H) ∧ (∀ L', Pend Z M P F L' → (∀ a ∈ L', a ∉ L) → Pend Z1 M1 P F1 L' ∧ ∀ a ∈ L', a ∉ L1) := by
  cases r with
  | v d0 =>
    cases e
    exact ⟨Z, M, F, L, h, p, x, Fr.refl, fun _ _ q => q, fun L' q dj => ⟨q, dj⟩⟩
  | ref i =>
    have eg : (RV.ref i).give env = some (d, env1) := e
    obtain ⟨Z1, M1, F1, h1, x1, f1, s1, k1⟩ := give_ok h p x eg
    exact ⟨Z1, M1, F1, [], h1, Pend.nil, .val x1, f1, s1, fun L' q dj => ⟨k1 L' q dj, fun _ _ z => nomatch z⟩⟩
theorem ss_asgG {e tg : Expr} {f : En → Res RV} {g : TG} {u : D → En → Option En} {sl : List Nat} (tgok : TgOk X g u sl) {t : TS} (ht : ∀ D σ H, (rdE xr X.K W f σ H fun x H1 => g x σ H1 D.nx) → t D σ H) :
    ∀ D σ H, rdS xr X.K W sl (fun env => (f env).bind fun r env => match r.take env with
    | some (d, env) => match u d env with
      | some env => .ok .nx env
      | none => .bad
    | none => .bad) D σ H → t D σ H := fun D σ H h => ht D σ H (rdS_bind h fun r env1 v H1 Z1 M1 P1 F1 L1 h1 p1 x d => by
    split at d
    · rename_i dv env2 e
      obtain ⟨Z2, M2, F2, L2, h2, p2, x2, f2, s2, _⟩ := take_ok h1 p1 x e
      have d2 := DoneS.shift h1.bs f2 .refl d
      split at d2
      · rename_i env3 e3
        exact tgok.run h2 p2 x2 e3 fun σ' M' h3 k3 _ => d2.nx_at h2 h3 k3
      · exact d2.elim
    · exact d.elim)
theorem ss_asg {e tg : Expr} {f : En → Res RV} {g : TG} {u : D → En → Option En} {sl : List Nat} (he : PE X e (rdE xr X.K W f)) (hg : PG X tg g) (tgok : TgOk X g u sl) (hs : swapsWithSole [tg] e pos.line X.env = pure false) (hw : swappedStores [tg] e X.env = pure none) (h1 : (assignEach [tg] X.env).map (·.2) = [assign tg X.env]) :
    PS X (.Assign [tg] e pos) (rdS xr X.K W sl fun env => (f env).bind fun r env => match r.take env with
      | some (d, env) => match u d env with
        | some env => .ok .nx env
        | none => .bad
      | none => .bad) :=
  ps_weak (ps_asg he hg hs hw h1) (ss_asgG (e := e) (tg := tg) tgok fun _ _ _ q => q)
end
end Ev
namespace Ev
open PySem PySem.Spec PyProof.Rows L2
section
variable {K : PySem.W.Frag} {H : Hp} {Z : Addr → Bool} {M P F : List Addr} {env : En} {σ : L2.St}
/-- an owned list is written -/
theorem Here.updL {i : Nat} {xs : List D} (h : Here K σ H Z M P F env) (e : env[i]? = some (.on (.mls xs))) :
    ∃ a vs L, σ[i]? = some (some (.ref a)) ∧ H a = some (.lst vs) ∧ RpXs K H Z vs xs L ∧ L.Nodup ∧
      ∀ vs' xs' L', RpXs K H Z vs' xs' L' → L'.Nodup → (∀ b ∈ L', b ∈ L) → ∃ M', Here K σ (upd H a (.lst vs')) Z M' P F (env.set i (.on (.mls xs'))) ∧ Fr H Z F P (upd H a (.lst vs')) Z F P := by
  obtain ⟨v, L0, M1, ev, x, h1, p1, k1, k2⟩ := h.takeO e
  cases x with
  | val x => cases x
  | @mls a vs _ L q1 q2 =>
    have nd := List.nodup_cons.mp p1.nd
    refine ⟨a, vs, L, ev, q1, q2, nd.2, fun vs' xs' L' q3 n3 s3 => ?_⟩
    have za : Z a = true := p1.z a List.mem_cons_self
    have sub : Sub (hid Z H) (hid Z (upd H a (.lst vs'))) := fun b u q => by
      obtain ⟨z1, z2⟩ := hid_some.mp q
      have ne : b ≠ a := fun z => by rw [z, za] at z1; cases z1
      exact hid_some.mpr ⟨z1, by rw [upd_ne ne]; exact z2⟩
    have zl : ∀ b, Z b = true → ∃ ys, upd H a (.lst vs') b = some (.lst ys) := fun b q => by
      by_cases hb : b = a
      · rw [hb]; exact ⟨_, upd_same⟩
      · rw [upd_ne hb]; exact h.rep.zl b q
    have r2 : Rep K (upd H a (.lst vs')) Z M1 P (env.set i .un) σ := h1.rep.mono sub (fun b hb => upd_ne fun z => by
      subst z
      exact (List.mem_append.mp hb).elim (p1.nm _ List.mem_cons_self) (p1.np _ List.mem_cons_self)) h1.rep.sub zl
    have h2 : Here K σ (upd H a (.lst vs')) Z M1 P F (env.set i .un) := ⟨r2, ⟨h.bs.fz, h.bs.pz, fun b => r2.zs, h.bs.dis⟩, h1.mf⟩
    have inL : ∀ b ∈ a :: L', b ∈ a :: L := fun b hb => (List.mem_cons.mp hb).elim (fun z => by rw [z]; exact List.mem_cons_self) fun z => List.mem_cons_of_mem _ (s3 b z)
    have p2 : Pend Z M1 P F (a :: L') := ⟨List.nodup_cons.mpr ⟨fun z => nd.1 (s3 a z), n3⟩, fun b hb => p1.z b (inL b hb), fun b hb => p1.nm b (inL b hb), fun b hb => p1.np b (inL b hb), fun b hb => p1.lf b (inL b hb)⟩
    have h3 := h2.put (d := .mls xs') p2 (set_un e .un) (.mls upd_same (RpXs.mono sub xs' (fun b hb => upd_ne fun z => nd.1 (by subst z; exact s3 _ hb)) q3))
    rw [set_set, set_self ev] at h3
    refine ⟨_, h3, ⟨fun b u q hm => ?_, fun b q => .inl q, fun b q _ => q, fun b q => .inl q, fun b q => .inl q⟩⟩
    rw [upd_ne fun z => hm (by rw [z]; exact p1.lf a List.mem_cons_self)]
    exact q
end
section
variable {xr : XR} {W : WX} {X : Cx} {sl : List Nat} {pos : Pos}
theorem lst_ty {K : PySem.W.Frag} {H : Hp} {a : Addr} {vs : List V} (h : H a = some (.lst vs)) : tyV K "list" (.ref a) H := .inl ⟨rfl, vs, .inl (.inl h)⟩
theorem isM_some {env : En} {i : Nat} (h : isM env i = true) : ∃ xs, env[i]? = some (.on (.mls xs)) := by
  unfold isM at h
  split at h
  · rename_i xs e; exact ⟨xs, e⟩
  · cases h
theorem ss_app {i : Nat} {x : Str} {e : Expr} {f : En → Res RV} {p apos cpos : Pos} (hN : X.N[i]? = some x) (hv : Vis X.env.scope x) (hd : (x == ("__debug__" : Str)) = false) (hcd : (x == ("__classdict__" : Str)) = false) (he : PE X e (rdE xr X.K W f))
    (hs1 : starEach [e] X.env = [(false, eval e X.env)]) (hsw : swapsWith (.Call (.Attribute (.Name x p) "append" apos) [e] [] cpos) none pos.line X.env = pure false) (hbase : attributeBase (.Name x p) "append" X.env (eval (.Name x p) X.env) = eval (.Name x p) X.env)
    (hline : (apos.endLine == cpos.line) = true) :
    PS X (.Expr (.Call (.Attribute (.Name x p) "append" apos) [e] [] cpos) pos) (rdS xr X.K W [] fun env => if isM env i then (f env).bind fun r env => match r.give env with
      | some (d, env) => appD i d env
      | none => .bad
    else .bad) := by
  refine ps_weak (ps_expr (pe_bm F.plainAttrs_list F.slot_list_append F.type_list_append mt_append (pe_var (i := i) hN hv hd hcd) (pa_cons he pa_nil hs1) hbase (by rw [hs1]; rfl) hline (by rw [hs1]; rfl) (by rfl)) hsw) fun D σ H h => ?_
  obtain ⟨Z, M, P, env, rp, d⟩ := h
  dsimp only at d
  split at d
  · rename_i hm
    obtain ⟨xs, e0⟩ := isM_some hm
    obtain ⟨v0, L0, e1, x0⟩ := rp.peek (.inl e0)
    cases x0 with
    | val x => cases x
    | @mls a vs0 _ L q1 q2 =>
      refine ⟨_, e1, lst_ty q1, ?_⟩
      refine Here.bindS rp.here d fun r env1 y H1 Z1 M1 P1 F1 L1 h1 p1 ry _ _ d1 => ?_
      split at d1
      · rename_i dv env2 eg
        obtain ⟨Z2, M2, F2, h2, x2, f2, s2, _⟩ := give_ok h1 p1 ry eg
        have d2 := DoneS.shift h1.bs f2 .refl d1
        unfold appD at d2
        split at d2
        · rename_i ys e2
          split at d2
          · rename_i hb
            obtain ⟨b, vs, L, ev, k1, k2, k3, k4⟩ := h2.updL e2
            rw [e1] at ev; cases ev
            obtain ⟨M3, h3, f3⟩ := k4 (vs ++ [y]) (ys ++ [dv]) (L ++ ([] ++ [])) (k2.append (.cons (.val x2) .nil)) (by simpa using k3) (fun b hb => by simpa using hb)
            refine ⟨a, vs, y, rfl, rfl, k1, ?_, DoneS.nx_end h3 (DoneS.shift h2.bs f3 .refl d2)⟩
            rw [k2.len, ← big_eq]
            exact Nat.le_of_ble_eq_true hb
          · exact d2.elim
        · exact d2.elim
      · exact d1.elim
  · exact d.elim
theorem VR.toX {K : PySem.W.Frag} {H : Hp} {Z : Addr → Bool} {v : V} {ys : List D} (h : VR K H Z v (.lst ys)) : ∃ a vs, v = .ref a ∧ H a = some (.lst vs) ∧ RpXs K H Z vs ys [] := by
  obtain ⟨a, vs, e, h1, h2⟩ := h.lst
  exact ⟨a, vs, e, h1, RpXs.vals h2⟩
theorem ss_ext {i : Nat} {x : Str} {e : Expr} {f : En → Res RV} {p apos cpos : Pos} (hN : X.N[i]? = some x) (hv : Vis X.env.scope x) (hd : (x == ("__debug__" : Str)) = false) (hcd : (x == ("__classdict__" : Str)) = false) (he : PE X e (rdE xr X.K W f))
    (hs1 : starEach [e] X.env = [(false, eval e X.env)]) (hsw : swapsWith (.Call (.Attribute (.Name x p) "extend" apos) [e] [] cpos) none pos.line X.env = pure false) (hbase : attributeBase (.Name x p) "extend" X.env (eval (.Name x p) X.env) = eval (.Name x p) X.env)
    (hline : (apos.endLine == cpos.line) = true) :
    PS X (.Expr (.Call (.Attribute (.Name x p) "extend" apos) [e] [] cpos) pos) (rdS xr X.K W [] fun env => if isM env i then (f env).bind fun r env => match r.view env with
      | some d => extD i d env
      | none => .bad
    else .bad) := by
  refine ps_weak (ps_expr (pe_bm F.plainAttrs_list F.slot_list_extend F.type_list_extend mt_extend (pe_var (i := i) hN hv hd hcd) (pa_cons he pa_nil hs1) hbase (by rw [hs1]; rfl) hline (by rw [hs1]; rfl) (by rfl)) hsw) fun D σ H h => ?_
  obtain ⟨Z, M, P, env, rp, d⟩ := h
  dsimp only at d
  split at d
  · rename_i hm
    obtain ⟨xs, e0⟩ := isM_some hm
    obtain ⟨v0, L0, e1, x0⟩ := rp.peek (.inl e0)
    cases x0 with
    | val x => cases x
    | @mls a vs0 _ L q1 q2 =>
      refine ⟨_, e1, lst_ty q1, ?_⟩
      refine Here.bindS rp.here d fun r env1 y H1 Z1 M1 P1 F1 L1 h1 p1 ry _ _ d1 => ?_
      split at d1
      · rename_i dv eg
        have va := ry.view h1.rep eg
        unfold extD at d1
        split at d1
        · rename_i ys
          split at d1
          · rename_i zs e2
            split at d1
            · rename_i hb
              obtain ⟨c, ws, rfl, w1, w2⟩ := va.toX
              obtain ⟨b, vs, L, ev, k1, k2, k3, k4⟩ := h1.updL e2
              rw [e1] at ev; cases ev
              obtain ⟨M3, h3, f3⟩ := k4 (vs ++ ws) (zs ++ ys) (L ++ []) (k2.append w2) (by simpa using k3) (fun b hb => by simpa using hb)
              refine ⟨a, c, vs, ws, rfl, rfl, k1, w1, ?_, DoneS.nx_end h3 (DoneS.shift h1.bs f3 .refl d1)⟩
              rw [k2.len, w2.len]
              exact ble_big hb
            · exact d1.elim
          · exact d1.elim
        · exact d1.elim
      · exact d1.elim
  · exact d.elim
theorem ixNat_eq {n : Nat} {k : Int} {j : Nat} (h : ixNat n k = some j) : ixN n k = some j := by
  unfold ixNat at h
  unfold ixN
  split at h
  · rename_i hc
    cases h
    rw [Bool.and_eq_true, decide_eq_true_eq, decide_eq_true_eq] at hc
    rw [if_pos hc.1, if_pos hc.2]
  · split at h
    · rename_i hc0 hc
      cases h
      rw [Bool.and_eq_true, decide_eq_true_eq, decide_eq_true_eq] at hc
      rw [if_neg (by omega), if_pos (by omega)]
    · cases h
theorem RpVs.set {K : PySem.W.Frag} {H : Hp} {v : V} {d : D} : ∀ {vs : List V} {ds : List D} (j : Nat), RpVs K H vs ds → RpV K H v d → RpVs K H (vs.set j v) (ds.set j d)
  | _, _, _, .nil, _ => .nil
  | _, _, 0, .cons a b, x => .cons x b
  | _, _, j + 1, .cons a b, x => .cons a (RpVs.set j b x)
theorem ss_setix {i : Nat} {x : Str} {e k : Expr} {f g : En → Res RV} {p tpos : Pos} (hN : X.N[i]? = some x) (hv : Vis X.env.scope x) (hd : (x == ("__debug__" : Str)) = false) (hcd : (x == ("__classdict__" : Str)) = false) (he : PE X e (rdE xr X.K W f)) (hk : PE X k (rdE xr X.K W g))
    (ha : ∀ v, assign (.Subscript (.Name x p) k tpos) X.env v = (do
      let ov ← holding [v] (eval (.Name x p) X.env)
      let iv ← holding [v, ov] (eval k X.env)
      standAt tpos
      holding [v, ov, iv] (setItem ov iv v)
      release [v, ov, iv] [])) (hs : swapsWithSole [.Subscript (.Name x p) k tpos] e pos.line X.env = pure false) (hw : swappedStores [.Subscript (.Name x p) k tpos] e X.env = pure none) :
    PS X (.Assign [.Subscript (.Name x p) k tpos] e pos) (rdS xr X.K W [] fun env => (f env).bind fun r env => match r.give env with
      | some (d, env) => if isOn env i then (g env).bind fun s env => setD i s d env else .bad
      | none => .bad) := by
  refine ps_weak (ps_asg he (pg_sub (pe_var (i := i) hN hv hd hcd) hk set_list ha) hs hw (by rfl)) fun D σ H h => ?_
  refine rdS_bind h fun r env1 v H1 Z1 M1 P1 F1 L1 h1 p1 rx d1 => ?_
  split at d1
  · rename_i dv env2 eg
    obtain ⟨Z2, M2, F2, h2, x2, f2, s2, _⟩ := give_ok h1 p1 rx eg
    have d2 := DoneS.shift h1.bs f2 .refl d1
    split at d2
    · rename_i ho
      unfold isOn at ho
      split at ho
      · rename_i d0 e0
        obtain ⟨o, L0, eo, xo⟩ := h2.rep.peek (.inl e0)
        refine ⟨o, eo, ?_⟩
        refine Here.bindS h2 d2 fun s env3 y H3 Z3 M3 P3 F3 L3 h3 p3 ry f3 _ d3 => ?_
        have x3 : RpV X.K (hid Z3 H3) v dv := RpV.mono (f3.sub h2.rep.bs) dv x2
        unfold setD at d3
        split at d3
        · rename_i kk
          split at d3
          · rename_i zs e2
            split at d3
            · rename_i hn
              split at d3
              · rename_i j ej
                obtain ⟨b, vs, L, ev, k1, k2, k3, k4⟩ := h3.updL e2
                rw [eo] at ev; cases ev
                obtain ⟨k5, rfl⟩ := RpXs.ofNoM hn k2
                obtain ⟨M4, h4, f4⟩ := k4 (vs.set j v) (zs.set j dv) [] (RpXs.vals (RpVs.set j k5 x3)) .nil (fun _ q => q)
                have xi : RpX X.K H3 Z3 y (.int kk) L3 := ry
                cases xi with
                | val xi =>
                  cases xi
                  refine ⟨b, vs, kk, j, rfl, rfl, k1, ?_, DoneS.nx_end h4 (DoneS.shift h3.bs f4 .refl d3)⟩
                  rw [k5.len]
                  exact ixNat_eq ej
              · exact d3.elim
            · exact d3.elim
          · exact d3.elim
        · exact d3.elim
      · cases ho
    · exact d2.elim
  · exact d1.elim
def augOf : Bop → Operator
  | .add => .Add
  | .sub => .Sub
  | .mul => .Mult
  | .fdiv => .FloorDiv
  | .mod => .Mod
  | .band => .BitAnd
theorem ss_aug {i : Nat} {o : Bop} {x : Str} {e : Expr} {f : En → Res RV} {p : Pos} (ho : o = .add ∨ o = .sub) (hN : X.N.Nodup) (hi : X.N[i]? = some x) (hx : Loc X.env.scope x) (hf : X.fn x = true ∨ X.env.scope.names.lookup x = some .local) (he : PE X e (rdE xr X.K W f)) :
    PS X (.AugAssign (.Name x p) (augOf o) e pos) (rdS xr X.K W [i] fun env => match env[i]? with
      | some (.on (.int a)) => (f env).bind fun r env => match r with
        | .v (.int b) => match augD o a b with
          | some c => match tgA (.nm i) (.int c) env with
            | some env => .ok .nx env
            | none => .bad
          | none => .bad
        | _ => .bad
      | _ => .bad) := by
  have key : ∃ ti : TIp, PIp X (augOf o) ti ∧ ∀ a b c H Q, augD o a b = some c → Q (.int c) H → ti (.int a) (.int b) H Q := by
    rcases ho with rfl | rfl
    · exact ⟨_, ip_add, fun a b c H Q e q => by cases e; exact ⟨_, _, rfl, rfl, q⟩⟩
    · exact ⟨_, ip_sub, fun a b c H Q e q => by cases e; exact ⟨_, _, rfl, rfl, q⟩⟩
  obtain ⟨ti, k1, k2⟩ := key
  refine ps_weak (ps_aug hN hi hx he k1 hf) fun D σ H h => ?_
  obtain ⟨Z, M, P, env, rp, d⟩ := h
  dsimp only at d
  split at d
  · rename_i a e0
    obtain ⟨v0, L0, e1, x0⟩ := rp.peek (.inl e0)
    cases x0 with
    | val x0 =>
      cases x0
      refine ⟨_, e1, ?_⟩
      refine Here.bindS rp.here d fun r env1 y H1 Z1 M1 P1 F1 L1 h1 p1 ry _ _ d1 => ?_
      split at d1
      · rename_i b
        split at d1
        · rename_i c ec
          split at d1
          · rename_i env2 e2
            have xi : RpX X.K H1 Z1 y (.int b) L1 := ry
            cases xi with
            | val xi =>
              cases xi
              exact k2 a b c H1 _ ec ((tg_nm (X := X) i).run (Q := D.nx) (v := .int c) h1 Pend.nil (.val (.int c)) e2 fun σ' M' h3 k3 _ => d1.nx_at h1 h3 k3)
          · exact d1.elim
        · exact d1.elim
      · exact d1.elim
  · exact d.elim
/-! ### loops -/
theorem ss_while {c : Expr} {body : List Stmt} {t : En → Res Bool} {f : En → Res Fl} (hp : PassesOwn (model X.prog X.w) X.A X.env X.xe) (hc : PT X c (rdT xr X.K W t)) (hb : PSs X body (rdS xr X.K W sl f)) (n : Nat) :
    PS X (.While c body [] pos) (rdS xr X.K W sl fun env => whlGo t f n env) := by
  refine ps_weak (ps_while hp hc hb) fun D σ H h => ?_
  obtain ⟨Z, M, P, env, rp, d⟩ := h
  refine ⟨fun m σ' H' => ∃ Z' M' P' F' env', Here X.K σ' H' Z' M' P' F' env' ∧ DoneS xr X.K W H' Z' F' P' σ' sl D (whlGo t f m env'), ⟨n, Z, M, P, M, env, rp.here, d⟩, fun m σ1 H1 hW => ?_⟩
  obtain ⟨Z1, M1, P1, F1, env1, h1, d1⟩ := hW
  cases m with
  | zero => exact d1.elim
  | succ m =>
    refine Here.bindS h1 d1 fun k env2 b H2 Z2 M2 P2 F2 L2 h2 p2 x _ _ d2 => ?_
    obtain ⟨rfl, rfl⟩ := x
    cases b with
    | false =>
      rw [if_neg Bool.false_ne_true]
      rw [if_neg Bool.false_ne_true] at d2
      exact d2.nx_end h2
    | true =>
      rw [if_pos rfl]
      rw [if_pos rfl] at d2
      refine ⟨_, fun σ' H' q => ⟨m, by omega, q⟩, DoneS.loop h2 (fun _ q => q) d2 (fun σ' H' Z' M' P' F' env' h' _ _ _ d' => ⟨Z', M', P', F', env', h', d'⟩) fun σ' H' Z' M' P' F' env' h' _ _ _ d' => d'.nx_end h'⟩
/-- between the turns of a for -/
structure ForInv (xr : XR) (W : WX) (X : Cx) (D : Ends) (sl : List Nat) (hd : Option (Nat × Ev.D)) (L : List Addr) (vs : List V) (xs : List Ev.D) (s : Src) (rest : En → Res Fl) (σ : L2.St) (H : Hp) (Z : Addr → Bool) (M P F : List Addr) (env : En) : Prop where
  h : Here X.K σ H Z M P F env
  p : Pend Z M P F L
  it : RpVs X.K (hid Z H) vs xs
  src : ∀ a o, s = some (a, o) → H a = some o ∧ (Z a = false ∨ a ∈ L)
  held : match hd with
    | none => L = []
    | some (i, d) => ∃ v, σ[i]? = some (some v) ∧ RpX X.K H Z v d L
  dd : DoneS xr X.K W H Z F P σ sl D (rest env)
theorem hdFree_not {i : Nat} {d : D} {sl : List Nat} (h : hdFree (some (i, d)) sl = true) : i ∉ sl := by
  unfold hdFree at h
  simp only [Bool.not_eq_true'] at h
  intro q
  have : sl.contains i = true := List.contains_iff_mem.mpr q
  rw [this] at h; cases h
section
variable {D : Ends} {hd : Option (Nat × Ev.D)} {L : List Addr} {vs : List V} {xs : List Ev.D} {s : Src} {rest rest' : En → Res Fl} {σ σ1 : L2.St} {H H1 : Hp} {Z Z1 : Addr → Bool} {M M1 P P1 F F1 : List Addr} {env env1 : En}
/-- .. through what follows -/
theorem ForInv.step {M0 : List Addr} (I : ForInv xr W X D sl hd L vs xs s rest σ H Z M P F env) (hf : hdFree hd sl = true) (h1 : Here X.K σ1 H1 Z1 M1 P1 F1 env1) (f : Fr H Z M0 P H1 Z1 M1 P1) (b0 : Bs H Z M0 P) (hm : ∀ a ∈ L, a ∉ M0) (k : ∀ a ∈ F, a ∉ M0 → a ∈ F1) (sm : Same sl σ σ1) (d1 : DoneS xr X.K W H1 Z1 F1 P1 σ1 sl D (rest' env1)) :
    ForInv xr W X D sl hd L vs xs s rest' σ1 H1 Z1 M1 P1 F1 env1 := by
  have p0 : Pend Z M0 P F L := ⟨I.p.nd, I.p.z, hm, I.p.np, I.p.lf⟩
  refine ⟨h1, Pend.step (M1 := M0) (fun a => I.h.bs.zs a) f p0 k, RpVs.mono (f.sub b0) xs I.it, fun a o e => ?_, ?_, d1⟩
  · obtain ⟨q1, q2⟩ := I.src a o e
    rcases q2 with q2 | q2
    · have := f.sub b0 a o (hid_some.mpr ⟨q2, q1⟩)
      exact ⟨(hid_some.mp this).2, .inl (hid_some.mp this).1⟩
    · exact ⟨(f.same (by rw [q1]; exact fun z => by cases z) (hm a q2)).trans q1, .inr q2⟩
  · have hh := I.held
    cases hd with
    | none => exact hh
    | some idd =>
      obtain ⟨i, d0⟩ := idd
      obtain ⟨v, e1, x⟩ := hh
      exact ⟨v, (sm.2 i (hdFree_not hf)).trans e1, RpX.step b0 f p0 x⟩
/-- the end of the walk -/
theorem ForInv.fin (I : ForInv xr W X D sl hd L vs xs s (fun env => forEnd hd (.ok .nx env)) σ H Z M P F env) : D.nx σ H := by
  have dd : DoneS xr X.K W H Z F P σ sl D (match unlk hd env with
    | some env2 => .ok .nx env2
    | none => .bad) := I.dd
  have hh := I.held
  cases hd with
  | none => exact DoneS.nx_end I.h dd
  | some idd =>
    obtain ⟨i, d0⟩ := idd
    obtain ⟨v, e1, x⟩ := hh
    unfold unlk at dd
    simp only at dd
    split at dd
    · rename_i env2 e
      split at e
      · rename_i eu
        cases e
        have h3 := I.h.put I.p eu x
        rw [set_self e1] at h3
        exact DoneS.nx_at I.h h3 .refl dd
      · cases e
    · exact dd.elim
end
theorem ss_for {tg iter : Expr} {body : List Stmt} {w : En → Res (List Ev.D × Option (Nat × Ev.D))} {g : TG} {u : Ev.D → En → Option En} {f : En → Res Fl} {sl0 sl1 : List Nat} (hp : PassesOwn (model X.prog X.w) X.A X.env X.xe) (hc : X.calm = true) (hi : PI X tg iter (rdI xr X.K W w)) (hg : PG X tg g) (tgok : TgOk X g u sl0) (hb : PSs X body (rdS xr X.K W sl1 f))
    (hs : ∀ x, foldedSetIterable iter X.env x = pure x) :
    PS X (.For tg iter body [] pos) (rdS xr X.K W (sl0 ++ sl1) fun env => (w env).bind fun w env => if hdFree w.2 (sl0 ++ sl1) then forEnd w.2 (forGo (forStep u f) w.1 env) else .bad) := by
  refine ps_weak (ps_for hp hc hi hg hb hs) fun D σ H h => ?_
  refine rdS_bind h fun r env1 J H1 Z1 M1 P1 F1 L h1 p1 x d => ?_
  obtain ⟨xs, hd⟩ := r
  simp only at d
  split at d
  · rename_i hf
    obtain ⟨hl, vs, s, hv, wk, hsrc⟩ := x
    have hlen : vs.length = xs.length := hv.len
    refine ⟨fun i m σ' H' => m + i = xs.length ∧ ∃ Z' M' P' F' env', ForInv xr W X D (sl0 ++ sl1) hd L vs xs s (fun env => forEnd hd (forGo (forStep u f) (xs.drop i) env)) σ' H' Z' M' P' F' env', ⟨xs.length, rfl, Z1, M1, P1, F1, env1, h1, p1, hv, hsrc, hl, d⟩, fun i m σ1 H2 hW => ?_⟩
    obtain ⟨hm, Z2, M2, P2, F2, env2, I⟩ := hW
    have sat : SrcAt s H2 := fun a o ho => (I.src a o ho).1
    by_cases hi : i < xs.length
    · refine .inr ⟨wk.go i H2 sat (by rw [hlen]; exact hi), fun σ' H' => ∃ Z' M' P' F' env', ForInv xr W X D (sl0 ++ sl1) hd L vs xs s (fun env => forEnd hd (forGo (forStep u f) (xs.drop (i + 1)) env)) σ' H' Z' M' P' F' env', fun σ' H' q => ⟨m - 1, by omega, by omega, q⟩, fun v H' y => ?_⟩
      obtain ⟨e1, e2⟩ := wk.yld i H2 v H' sat (by rw [hlen]; exact hi) y
      subst e1
      have hx : xs.drop i = xs[i] :: xs.drop (i + 1) := List.drop_eq_getElem_cons hi
      obtain ⟨v', e3, xv⟩ := I.it.get (i := i) (List.getElem?_eq_getElem hi)
      rw [e2] at e3; cases e3
      have dd := I.dd
      rw [hx] at dd
      cases e4 : u xs[i] env2 with
      | none =>
        have : forEnd hd (forGo (forStep u f) (xs[i] :: xs.drop (i + 1)) env2) = .bad := by simp only [forGo, forStep, e4, loopK, forEnd]
        rw [this] at dd
        exact dd.elim
      | some env3 =>
        refine tgok.run I.h Pend.nil (.val xv) e4 fun σ2 M3 h3 k3 m3 => ?_
        have sm0 : Same (sl0 ++ sl1) σ1 σ2 := Same.up (fun j hj => List.mem_append_left _ hj) k3
        have m3' : ∀ a ∈ M3, a ∈ M2 := fun a ha => (m3 a ha).elim (fun z => nomatch z) id
        have ee : forEnd hd (forGo (forStep u f) (xs[i] :: xs.drop (i + 1)) env2) = forEnd hd (loopK (forGo (forStep u f) (xs.drop (i + 1))) (f env3)) := by
          rw [forGo]
          simp only [forStep, e4]
        rw [ee] at dd
        have dd2 := DoneS.shift I.h.bs Fr.refl sm0 dd
        have nL : ∀ a ∈ L, a ∉ M3 := fun a ha q => I.p.nm a ha (m3' a q)
        have go : rdS xr X.K W sl1 f { D with nx := fun σ' H' => ∃ Z' M' P' F' env', ForInv xr W X D (sl0 ++ sl1) hd L vs xs s (fun env => forEnd hd (forGo (forStep u f) (xs.drop (i + 1)) env)) σ' H' Z' M' P' F' env', ct := fun σ' H' => ∃ Z' M' P' F' env', ForInv xr W X D (sl0 ++ sl1) hd L vs xs s (fun env => forEnd hd (forGo (forStep u f) (xs.drop (i + 1)) env)) σ' H' Z' M' P' F' env', bk := D.nx } σ2 H' := by
          have I3 : ForInv xr W X D (sl0 ++ sl1) hd L vs xs s (fun env => forEnd hd (loopK (forGo (forStep u f) (xs.drop (i + 1))) (f env))) σ2 H' Z2 M3 P2 F2 env3 := by
            refine ⟨h3, ⟨I.p.nd, I.p.z, nL, I.p.np, I.p.lf⟩, I.it, I.src, ?_, dd2⟩
            have hh := I.held
            cases hd with
            | none => exact hh
            | some idd =>
              obtain ⟨i0, d0⟩ := idd
              obtain ⟨v, q1, q2⟩ := hh
              exact ⟨v, (sm0.2 i0 (hdFree_not hf)).trans q1, q2⟩
          have up : ∀ {σ' : L2.St}, Same sl1 σ2 σ' → Same (sl0 ++ sl1) σ2 σ' := fun q => Same.up (fun j hj => List.mem_append_right _ hj) q
          refine ⟨Z2, M3, P2, env3, h3.rep, ?_⟩
          have dd3 := I3.dd
          cases e : f env3 with
          | ok a env4 =>
            rw [e] at dd3
            cases a with
            | nx =>
              intro σ' H' Z' M' P' r' f' s'
              obtain ⟨F1, f1, h1, _, k1⟩ := Fr.grow (L := []) h3 r' f' Own.nil
              exact ⟨Z', M', P', F1, env4, I3.step hf h1 f' h3.rep.bs nL k1 (up s') (DoneS.shift h3.bs f1 (up s') dd3)⟩
            | ct =>
              intro σ' H' Z' M' P' r' f' s'
              obtain ⟨F1, f1, h1, _, k1⟩ := Fr.grow (L := []) h3 r' f' Own.nil
              exact ⟨Z', M', P', F1, env4, I3.step hf h1 f' h3.rep.bs nL k1 (up s') (DoneS.shift h3.bs f1 (up s') dd3)⟩
            | br =>
              intro σ' H' Z' M' P' r' f' s'
              obtain ⟨F1, f1, h1, _, k1⟩ := Fr.grow (L := []) h3 r' f' Own.nil
              exact (I3.step (rest' := fun env => forEnd hd (.ok .nx env)) hf h1 f' h3.rep.bs nL k1 (up s') (DoneS.shift h3.bs f1 (up s') dd3)).fin
            | rt dv => exact fun v σ' H' Z' M' P' L r' f' s' x o => dd3 v σ' H' Z' M' P' L r' (h3.up f') (up s') x (o.up h3)
          | ex c p e1 =>
            rw [e] at dd3
            exact fun cls dd σ' H' Z' M' P' r' f' s' x => dd3 cls dd σ' H' Z' M' P' r' (h3.up f') (up s') x
          | bad => rw [e] at dd3; exact dd3
        exact go
    · have hi' : i = xs.length := by omega
      have he : xs.drop i = [] := by rw [hi']; exact List.drop_length
      rw [he] at I
      exact .inl ⟨wk.stop i H2 sat (by rw [hlen]; omega), I.fin⟩
  · exact d.elim
end
end Ev
namespace Ev
open PySem PySem.Spec PyProof.Rows L2
section
variable {xr : XR} {W : WX} {X : Cx} {sl : List Nat} {pos : Pos}
theorem takes_ok {H : Hp} {σ : L2.St} {P : List Addr} : ∀ {rs : List RV} {vs : List V} {ds : List D} {Z : Addr → Bool} {M F L : List Addr} {env env1 : En}, Here X.K σ H Z M P F env → Pend Z M P F L → RvsR X.K H Z σ rs vs L → takes rs env = some (ds, env1) →
    ∃ Z1 M1 F1 L1, Here X.K σ H Z1 M1 P F1 env1 ∧ Pend Z1 M1 P F1 L1 ∧ RpXs X.K H Z1 vs ds L1 ∧ Fr H Z F P H Z1 F1 P ∧ Sub (hid Z H) (hid Z1 H) ∧ (∀ L', Pend Z M P F L' → (∀ a ∈ L', a ∉ L) → Pend Z1 M1 P F1 L' ∧ ∀ a ∈ L', a ∉ L1)
  | [], _, _, Z, M, F, _, env, _, h, p, x, e => by
    cases x
    cases e
    exact ⟨Z, M, F, [], h, Pend.nil, .nil, Fr.refl, fun _ _ q => q, fun L' q _ => ⟨q, fun _ _ z => nomatch z⟩⟩
  | r :: rs, _, _, Z, M, F, _, env, _, h, p, x, e => by
    cases x with
    | @cons _ v L1 L2 _ vs a t =>
    unfold takes at e
    split at e
    · rename_i d env2 e1
      split at e
      · rename_i ds' env3 e2
        cases e
        obtain ⟨p1, p2, dj⟩ := p.split
        obtain ⟨Z1, M1, F1, La, h1, pa, xa, f1, s1, k1⟩ := take_ok h p1 a e1
        obtain ⟨q1, q2⟩ := k1 _ p2 dj
        obtain ⟨Z2, M2, F2, Lb, h2, pb, xb, f2, s2, k2⟩ := takes_ok h1 q1 (t.sub s1) e2
        obtain ⟨q3, q4⟩ := k2 La pa fun y hy z => q2 y z hy
        refine ⟨Z2, M2, F2, La ++ Lb, h2, ⟨List.nodup_append.mpr ⟨q3.nd, pb.nd, fun y hy z hz q => q4 y hy (q ▸ hz)⟩, fun y hy => (List.mem_append.mp hy).elim (q3.z y) (pb.z y), fun y hy => (List.mem_append.mp hy).elim (q3.nm y) (pb.nm y), fun y hy => (List.mem_append.mp hy).elim (q3.np y) (pb.np y), fun y hy => (List.mem_append.mp hy).elim (q3.lf y) (pb.lf y)⟩, .cons (RpX.mono s2 d (fun _ _ => rfl) xa) xb, f1.trans h.bs f2, s1.trans s2, fun L' q dj' => ?_⟩
        obtain ⟨w1, w2⟩ := k1 L' q fun y hy z => dj' y hy (mem_app_left z)
        obtain ⟨w3, w4⟩ := k2 L' w1 fun y hy z => dj' y hy (mem_app_right z)
        refine ⟨w3, fun y hy z => (List.mem_append.mp z).elim (w2 y hy) (w4 y hy)⟩
      · cases e
    · cases e
def setσ : List Nat → List V → L2.St → L2.St
  | i :: is, v :: vs, σ => setσ is vs (σ.set i (some v))
  | _, _, σ => σ
theorem setNs_ok {H : Hp} {Z : Addr → Bool} {P F : List Addr} : ∀ {is : List Nat} {vs : List V} {ds : List D} {M L : List Addr} {env env1 : En} {σ : L2.St}, Here X.K σ H Z M P F env → Pend Z M P F L → RpXs X.K H Z vs ds L → setNs is ds env = some env1 →
    ∃ M', Here X.K (setσ is vs σ) H Z M' P F env1 ∧ Same is σ (setσ is vs σ) ∧ vs.length = is.length
  | [], _, _, M, _, env, _, σ, h, p, x, e => by
    cases x with
    | nil => cases e; exact ⟨M, h, .refl, rfl⟩
    | cons _ _ => cases e
  | i :: is, _, _, M, _, env, env1, σ, h, p, x, e => by
    cases x with
    | nil => cases e
    | @cons v d L1 vs ds L2 a t =>
      have e' : (match tgA (.nm i) d env with
        | some env1 => setNs is ds env1
        | none => none) = some env1 := e
      split at e'
      · rename_i env2 e2
        obtain ⟨p1, p2, dj⟩ := p.split
        exact (tg_nm (X := X) i).run (Q := fun σ' H' => H' = H → σ' = σ.set i (some v) → ∃ M', Here X.K (setσ is vs σ') H Z M' P F env1 ∧ Same (i :: is) σ (setσ is vs σ') ∧ (v :: vs).length = (i :: is).length) h p1 a e2 (fun σ' M' h' k' m' => fun _ es => by
          subst es
          obtain ⟨M2, h2, s2, l2⟩ := setNs_ok h' ⟨p2.nd, p2.z, fun y hy q => (m' y q).elim (dj y hy) (p2.nm y hy), p2.np, p2.lf⟩ t e'
          exact ⟨M2, h2, (Same.up (fun j hj => by
            rw [List.mem_singleton.mp hj]; exact List.mem_cons_self) k').trans (Same.up (fun j hj => List.mem_cons_of_mem _ hj) s2), by simp [l2]⟩) rfl rfl
      · cases e'
theorem ss_parG {is : List Nat} {f : En → Res (List RV)} {t : TS} (ht : ∀ D σ H, (rdA xr X.K W f σ H fun vs H1 => vs.length = is.length ∧ D.nx (setσ is vs σ) H1) → t D σ H) :
    ∀ D σ H, rdS xr X.K W is (fun env => (f env).bind fun rs env => match takes rs env with
    | some (ds, env) => match setNs is ds env with
      | some env => .ok .nx env
      | none => .bad
    | none => .bad) D σ H → t D σ H := fun D σ H h => ht D σ H (rdS_bind h fun rs env1 vs H1 Z1 M1 P1 F1 L1 h1 p1 x d => by
    split at d
    · rename_i ds env2 e
      obtain ⟨Z2, M2, F2, L2, h2, p2, x2, f2, s2, _⟩ := takes_ok h1 p1 x e
      have d2 := DoneS.shift h1.bs f2 .refl d
      split at d2
      · rename_i env3 e3
        obtain ⟨M3, h3, k3, l3⟩ := setNs_ok h2 p2 x2 e3
        exact ⟨l3, d2.nx_at h2 h3 k3⟩
      · exact d2.elim
    · exact d.elim)
theorem Done.imp {α β : Type} {Rl : PySem.W.Frag → Hp → (Addr → Bool) → L2.St → α → β → List Addr → Prop} {K : PySem.W.Frag} {H : Hp} {Z : Addr → Bool} {F P : List Addr} {σ : L2.St} {Q Q' : β → Hp → Prop} {r : Res α} (hq : ∀ b H, Q b H → Q' b H) (d : Done Rl xr K W H Z F P σ Q r) : Done Rl xr K W H Z F P σ Q' r := by
  cases r with
  | ok a e => exact fun b H' Z' M' P' L r' f' x o => hq b H' (d b H' Z' M' P' L r' f' x o)
  | ex c p e => exact d
  | bad => exact d
theorem nodup2 {i j : Nat} (h : [i, j].Nodup) : i ≠ j := fun e => by subst e; simp at h
theorem ss_par2 {i j : Nat} {x y : Str} {a b : Expr} {f : En → Res (List RV)} {px py pt : Pos} {kt k2 pt2} (hc : X.calm = true) (hN : X.N.Nodup) (hi : X.N[i]? = some x) (hj : X.N[j]? = some y) (hij : [i, j].Nodup)
    (hx : X.env.scope.names.lookup x = some .local) (hy : X.env.scope.names.lookup y = some .local) (ha : PA X [a, b] (rdA xr X.K W f))
    (hw : swappedStores [.Tuple [.Name x px, .Name y py] kt pt] (.Tuple [a, b] k2 pt2) X.env = pure (some [x, y]))
    (hs : swapsWithSole [.Tuple [.Name x px, .Name y py] kt pt] (.Tuple [a, b] k2 pt2) pos.line X.env = pure false) :
    PS X (.Assign [.Tuple [.Name x px, .Name y py] kt pt] (.Tuple [a, b] k2 pt2) pos) (rdS xr X.K W [i, j] fun env => (f env).bind fun rs env => match takes rs env with
      | some (ds, env) => match setNs [i, j] ds env with
        | some env => .ok .nx env
        | none => .bad
      | none => .bad) :=
  ps_weak (ps_par hc hN hi hj (nodup2 hij) hx hy ha hw hs) (ss_parG fun D σ H h => by
    obtain ⟨Z, M, P, env, rp, d⟩ := h
    refine ⟨Z, M, P, env, rp, ?_⟩
    refine Done.imp ?_ d
    rintro vs H1 ⟨hl, q⟩
    match vs, hl with
    | [v, w], _ => exact ⟨v, w, rfl, q⟩)
theorem nodup3 {i j l : Nat} (h : [i, j, l].Nodup) : i ≠ j ∧ i ≠ l ∧ j ≠ l := by
  simp only [List.nodup_cons, List.mem_cons, not_or, List.not_mem_nil, not_false_eq_true, and_true] at h
  exact ⟨h.1.1, h.1.2, h.2.1⟩
theorem ss_par3 {i j l : Nat} {x y z : Str} {a b c : Expr} {f : En → Res (List RV)} {px py pz pt : Pos} {kt k2 pt2} (hc : X.calm = true) (hN : X.N.Nodup) (hi : X.N[i]? = some x) (hj : X.N[j]? = some y) (hl : X.N[l]? = some z) (hij : [i, j, l].Nodup)
    (hx : X.env.scope.names.lookup x = some .local) (hy : X.env.scope.names.lookup y = some .local) (hz : X.env.scope.names.lookup z = some .local) (ha : PA X [a, b, c] (rdA xr X.K W f))
    (hw : swappedStores [.Tuple [.Name x px, .Name y py, .Name z pz] kt pt] (.Tuple [a, b, c] k2 pt2) X.env = pure (some [x, y, z]))
    (hs : swapsWithSole [.Tuple [.Name x px, .Name y py, .Name z pz] kt pt] (.Tuple [a, b, c] k2 pt2) pos.line X.env = pure false) :
    PS X (.Assign [.Tuple [.Name x px, .Name y py, .Name z pz] kt pt] (.Tuple [a, b, c] k2 pt2) pos) (rdS xr X.K W [i, j, l] fun env => (f env).bind fun rs env => match takes rs env with
      | some (ds, env) => match setNs [i, j, l] ds env with
        | some env => .ok .nx env
        | none => .bad
      | none => .bad) := by
  obtain ⟨n1, n2, n3⟩ := nodup3 hij
  refine ps_weak (ps_par3 hc hN hi hj hl n1 n2 n3 hx hy hz ha hw hs) (ss_parG fun D σ H h => ?_)
  obtain ⟨Z, M, P, env, rp, d⟩ := h
  refine ⟨Z, M, P, env, rp, ?_⟩
  refine Done.imp ?_ d
  rintro vs H1 ⟨hl, q⟩
  match vs, hl with
  | [u, v, w], _ => exact ⟨u, v, w, rfl, q⟩
/-- name = [..] on one line, the name a local -/
theorem ss_setLc {i : Nat} {y : Str} {py : Pos} {elt tg iter : Expr} {ifs : List Expr} {scope : Scope} {own : List (Str × Nat)} {lpos : Pos} {g : TG} {w : En → Res (List D × Option (Nat × D))} {el : En → Res RV} {cf : En → Res Bool} {f : D → En → Option En} {sl : List Nat} (hc : X.calm = true) (hN : X.N.Nodup) (hy : X.N[i]? = some y) (hyl : X.env.scope.names.lookup y = some .local)
    (hsw : swapsWith (.ListComp elt [⟨tg, iter, ifs, 0⟩] scope lpos) (some (.Name y py)) pos.line X.env = pure true) (hi : PI X tg iter (rdI xr X.K W w)) (ok : BlkOk X.N X.env.scope scope own)
    (hg : ∀ (s : Shared) (H : Hp) (C : Addr) (cl : List (Str × Addr)) (fp : List Addr), PG (X.blk s H scope (compEnvC scope cl C X.env) fp) tg g) (tgok : TgOk X g f sl) (hsl : ∀ j ∈ sl, j ∈ own.map (·.2))
    (ht : ∀ (s : Shared) (H : Hp) (C : Addr) (cl : List (Str × Addr)) (fp : List Addr), PTs (X.blk s H scope (compEnvC scope cl C X.env) fp) ifs (rdT xr X.K W0 cf))
    (he : ∀ (s : Shared) (H : Hp) (C : Addr) (cl : List (Str × Addr)) (fp : List Addr), PE (X.blk s H scope (compEnvC scope cl C X.env) fp) elt (rdE xr X.K W0 el)) (hs : ∀ x, foldedSetIterable iter X.env x = pure x) :
    PS X (.Assign [.Name y py] (.ListComp elt [⟨tg, iter, ifs, 0⟩] scope lpos) pos) (rdS xr X.K W [i] fun env => (lcE w f cf el (own.map (·.2)) env).bind fun r env => match r.take env with
      | some (d, env) => match tgA (.nm i) d env with
        | some env => .ok .nx env
        | none => .bad
      | none => .bad) :=
  ps_weak (ps_setLc hc hN hy hyl hsw hi ok hg ht he hs) (ss_asgG (e := .Name y py) (tg := .Name y py) (tg_nm i) fun D σ H h => lc_run tgok hsl h)
/-! ### exceptions -/
/-- the class x is number c of the table -/
structure RaiseAt (X : Cx) (T : XT) (c : Nat) (x : Str) : Prop where
  ex : ∃ (C : Addr) (B newId initId : String) (bmB : List Value), T.cls c = some C ∧ ExcBaseFacts B newId initId bmB ∧ PySem.W.excIn X.K C bmB newId = true ∧ X.mg x = some (.ref C) ∧ PySem.W.keepIn X.K (.ref C) = true ∧ Raises X (.ref C)
theorem ss_raise {T : XT} {c : Nat} {x m : Str} {j : Nat} {p p2 cpos : Pos} {k : En → Res (List RV)} (hk : ∀ env, ∃ rs, k env = .ok rs env) (hc : X.calm = true) (tk : Takes X W) (hr : RaiseAt X T c x) (hg : Gl X x) (hdb : (x == ("__debug__" : Str)) = false) :
    PS X (.Raise (some (.Call (.Name x p) [.Constant (.str m) j p2] [] cpos)) none pos) (rdS (xrOf T) X.K W [] fun env => (k env).bind fun _ env => .ex c none env) := by
  obtain ⟨C, B, newId, initId, bmB, h1, h2, h3, h4, h5, h6⟩ := hr.ex
  refine ps_weak (ps_raise hc tk (pmk_own h2 h3 h4 h5 h6 hg hdb)) fun D σ H h => ?_
  obtain ⟨Z, M, P, env, rp, d⟩ := h
  obtain ⟨rs, e⟩ := hk env
  dsimp only at d
  rw [e] at d
  exact d (.ref C) none σ H Z M P rp rp.here.fr .refl ⟨C, h1, rfl, rfl⟩
/-- a suite that catches -/
def sutK (h : Ss) (env : En) : Res Fl := match h with
  | .cons (.ret (.cn d)) .nil => .ok (.rt d) env
  | .cons .pass .nil => .ok .nx env
  | .cons .cnt .nil => .ok .ct env
  | _ => .bad
theorem triK_ex {xm : Nat → Nat → Bool} {x : Nat} {h : Ss} {c : Nat} {p : Option D} {env : En} : triK xm x h (.ex c p env) = if xm c x then sutK h env else .ex c p env := by
  show (if xm c x then _ else _) = _
  rfl
/-- the suite does what sutK says -/
def SutOk (X : Cx) (h : Ss) (b : List Stmt) : Prop := ∃ t : TS, (∀ (a : Addr) (oe : Obj) (pn : List (Addr × Obj)), PSs (X.suite a ((a, oe) :: pn)) b t) ∧
  ∀ {xr : XR} {W : WX} {H : Hp} {Z : Addr → Bool} {M P F : List Addr} {σ : L2.St} {sl : List Nat} {D : Ends} {env : En}, Here X.K σ H Z M P F env → DoneS xr X.K W H Z F P σ sl D (sutK h env) → t D σ H
theorem sut_ret {e : Expr} {v : V} {d : D} (hv : ∀ (a : Addr) (oe : Obj) (pn : List (Addr × Obj)), PE (X.suite a ((a, oe) :: pn)) e (tC v)) (r : ∀ H, RpV X.K H v d) : SutOk X (.cons (.ret (.cn d)) .nil) [.Return (some e) pos] :=
  ⟨tRet (tC v), fun a oe pn => pss_one (ps_ret (hv a oe pn)), fun h d => d.rt_end h Pend.nil (.val (r _))⟩
theorem sut_pass : SutOk X (.cons .pass .nil) [.Pass pos] := ⟨tNext, fun a oe pn => pss_one ps_pass, fun h d => d.nx_end h⟩
theorem sut_cnt : SutOk X (.cons .cnt .nil) [.Continue pos] := ⟨tCont, fun a oe pn => pss_one ps_continue, fun h d => d _ _ _ _ _ h.rep h.fr .refl⟩
theorem ss_try {T : XT} {x : Nat} {n : Str} {c : Addr} {body suite : List Stmt} {b₀ : Stmt} {np pos' : Pos} {f : En → Res Fl} {h : Ss} {xm : Nat → Nat → Bool} (hs : X.stack = X.env :: X.outer) (hf : X.env.frame = some X.env.locals) (hc : Names X n (.ref c)) (tk : Takes X W)
    (hx : ∀ k C, T.cls k = some C → PySem.W.exmOne X.K (.ref C) (.ref c) = some (xm k x))
    (hb : ∀ (W : WX) (pn : List (Addr × Obj)) (xe : Value → Shared → Prop), Takes (X.tr pn xe) W → PassesOwn (model X.prog X.w) X.A X.env xe → PSs (X.tr pn xe) body (rdS (xrOf T) X.K W sl f)) (hsu : SutOk X h (b₀ :: suite)) :
    PS X (.Try body [.ExceptHandler (some (.Name n np)) none (b₀ :: suite) pos'] [] [] pos) (rdS (xrOf T) X.K W sl fun env => triK xm x h (f env)) := by
  obtain ⟨t, ht1, ht2⟩ := hsu
  refine ps_weak (ps_try_only (ts := fun _ _ _ => t) hs hf hc tk hb (fun a oe cls d pn _ _ => ht1 a oe pn)) fun D σ H q => ?_
  obtain ⟨Z, M, P, env, rp, d⟩ := q
  refine ⟨Z, M, P, env, rp, ?_⟩
  dsimp only at d
  cases e : f env with
  | ok a env1 =>
    rw [e] at d
    have d : DoneS (xrOf T) X.K W H Z M P σ sl D (.ok a env1) := d
    cases a with
    | nx => exact d
    | br => exact d
    | ct => exact d
    | rt v => exact d
  | bad => rw [e] at d; exact d
  | ex k p env1 =>
    rw [e, triK_ex] at d
    intro cls dd σ' H' Z' M' P' r' f' s' xx
    obtain ⟨C, h1, h2, h3⟩ := xx
    refine ⟨xm k x, by rw [h2]; exact hx k C h1, fun hy a na => ?_, fun hn => ?_⟩
    · rw [if_pos hy] at d
      obtain ⟨F1, f1, hh, _, k1⟩ := Fr.grow (L := []) rp.here r' f' Own.nil
      exact ht2 hh (DoneS.shift rp.bs f1 s' d)
    · rw [if_neg (by rw [hn]; exact Bool.false_ne_true)] at d
      exact d cls dd σ' H' Z' M' P' r' f' s' ⟨C, h1, h2, h3⟩
end
end Ev
namespace Ev
open PySem PySem.Spec PyProof.Rows L2
/-! ### does the small text stand for the written one? -/
/-- the names of a module -/
structure CkM where
  fname : Nat → Option Str
  gname : Nat → Option Str
  xname : Nat → Option Str
  blt : Str → Bool
/-- .. and of a block -/
structure Ck where
  m : CkM
  N : List Str
  sc : Scope
  wr : Str → Bool
def visB (sc : Scope) (x : Str) : Bool := match sc.names.lookup x with
  | some .local => true
  | some .cell => true
  | some .free => true
  | _ => false
def glB (sc : Scope) (x : Str) : Bool := match sc.names.lookup x with
  | some .globalImplicit => true
  | _ => false
/-- own names of a block -/
def ownB (sc : Scope) (x : Str) : Bool := match sc.names.lookup x with
  | some .local => true
  | some .cell => true
  | _ => false
def plainN (x : Str) : Bool := !(x == ("__debug__" : Str)) && !(x == ("__classdict__" : Str))
def okN (c : Ck) (i : Nat) (x : Str) : Bool := decide (c.N[i]? = some x) && visB c.sc x && plainN x
def okG (c : Ck) (x : Str) : Bool := glB c.sc x && plainN x
def okB (c : Ck) (x : Str) : Bool := glB c.sc x && c.m.blt x
def notSlice : Expr → Bool
  | .Slice _ _ _ _ => false
  | _ => true
def notCall : Expr → Bool
  | .Call _ _ _ _ => false
  | _ => true
def notSet : Expr → Bool
  | .Set _ _ _ => false
  | _ => true
def notStr : Bi → Bool
  | .str => false
  | _ => true
def isSplit : Mt → Bool
  | .split => true
  | _ => false
def Ck.blk (c : Ck) (scope : Scope) : Ck := { c with sc := relS scope c.sc, wr := ownB scope }
def ownOf (c : Ck) (own : List Nat) : List (Str × Nat) := own.map fun i => ((c.N[i]?).getD "", i)
def chkK : D → Const → Bool
  | .non, .none => true
  | .bl a, .bool b => decide (a = b)
  | .int a, .int b => decide (a = b)
  | .str a, .str b => decide (a = b)
  | _, _ => false
mutual
def chkE : Ck → E → Expr → Bool
  | c, .cn d, .Constant k _ _ => chkK d k
  | c, .nm i, .Name x _ => okN c i x
  | c, .gl g, .Name x _ => decide (c.m.gname g = some x) && okG c x
  | c, .tup es, .Tuple xs _ _ => chkEs c es xs
  | c, .lst es, .List xs _ => chkEs c es xs
  | c, .bin o a b, .BinOp x op y _ => decide (op = bopOf o) && chkE c a x && chkE c b y
  | c, .neg a, .UnaryOp .USub x _ => chkE c a x
  | c, .not a, .UnaryOp .Not x _ => chkE c a x
  | c, .cmp o a b, .Compare x [op] [y] _ => decide (op = copOf o) && !behindInMarks op y && chkE c a x && chkE c b y
  | c, .cmp2 o o' a b d, .Compare x [op, op'] [y, z] _ => decide (op = copOf o) && decide (op' = copOf o') && !lastMarks [op, op'] [y, z] && chkE c a x && chkE c b y && chkE c d z
  | c, .and a es, .BoolOp .And (x :: y :: xs) _ => chkE c a x && chkEs c es (y :: xs)
  | c, .or a es, .BoolOp .Or (x :: y :: xs) _ => chkE c a x && chkEs c es (y :: xs)
  | c, .ite t a b, .IfExp x y z _ => chkE c t x && chkE c a y && chkE c b z
  | c, .ix a i, .Subscript x y _ => notSlice y && chkE c a x && chkE c i y
  | c, .sl a lo hi, .Subscript x (.Slice l h none _) _ => chkE c a x && chkO c lo l && chkO c hi h
  | c, .rev a, .Subscript x (.Slice none none (some (.UnaryOp .USub (.Constant (.int i) _ _) _)) _) _ => decide (i = 1) && chkE c a x
  | c, .call f es, .Call (.Name x _) xs [] _ => decide (c.m.fname f = some x) && okG c x && chkEs c es xs
  | c, .bi b es, .Call (.Name x _) [y] [] _ => notStr b && decide (x = biName b) && okB c x && chkEs c es [y]
  | c, .mt m a e, .Call (.Attribute o n apos) [y] [] pos => isSplit m && decide (n = "split") && notCall o && (apos.endLine == pos.line) && noStar y && chkE c a o && chkE c e y
  | c, .isi a t, .Call (.Name x _) [y, .Name z _] [] _ => decide (x = "isinstance") && decide (z = tyName t) && okB c x && okB c z && noStar y && chkE c a y
  | c, .lc el tg it cn own, .ListComp x [⟨tx, ix, ifs, as⟩] scope _ => decide (as = 0) && notSet ix && chkI c it ix && blkC c.N c.sc scope (ownOf c own) && tg.sl.all own.contains && chkT c.N (ownB scope) tg tx && chkC (c.blk scope) cn ifs && chkE (c.blk scope) el x
  | _, _, _ => false
def chkEs : Ck → Es → List Expr → Bool
  | _, .nil, [] => true
  | c, .cons e es, x :: xs => noStar x && chkE c e x && chkEs c es xs
  | _, _, _ => false
def chkO : Ck → Oe → Option Expr → Bool
  | _, .no, none => true
  | c, .so e, some x => chkE c e x
  | _, _, _ => false
def chkC : Ck → Oe → List Expr → Bool
  | _, .no, [] => true
  | c, .so e, [x] => chkE c e x
  | _, _, _ => false
def chkI : Ck → It → Expr → Bool
  | c, .sq e, x => chkE c e x
  | c, .r1 a, .Call (.Name f _) [x] [] _ => decide (f = "range") && okB c f && noStar x && chkE c a x
  | c, .r2 a b, .Call (.Name f _) [x, y] [] _ => decide (f = "range") && okB c f && noStar x && noStar y && chkE c a x && chkE c b y
  | _, _, _ => false
end
/-! ### what is known of a block -/
structure Good (T : Tb) (xt : XT) (c : Ck) (k : Nat) (X : Cx) (W : WX) : Prop where
  sc : X.env.scope = c.sc
  N : X.N = c.N
  nd : c.N.Nodup
  calm : X.calm = true
  room : Room k X.A
  wr : Wr X c.wr
  tk : Takes X W
  fns : ∀ f x, c.m.fname f = some x → FnAt T xt X k f x
  gds : ∀ g x, c.m.gname g = some x → ∃ v u, X.mg x = some u ∧ RelV v u ∧ ∀ H, RpV X.K H v (T.gd g)
  bl : ∀ x, c.m.blt x = true → X.mg x = none
section
variable {T : Tb} {xt : XT} {c : Ck} {k : Nat} {X : Cx} {W : WX}
theorem visB_ok {sc : Scope} {x : Str} (h : visB sc x = true) : Vis sc x := by
  unfold visB at h
  unfold Vis
  split at h
  · rename_i e; exact .inl e
  · rename_i e; exact .inr (.inl e)
  · rename_i e; exact .inr (.inr e)
  · cases h
theorem glB_ok {sc : Scope} {x : Str} (h : glB sc x = true) : sc.names.lookup x = some .globalImplicit := by
  unfold glB at h
  split at h
  · rename_i e; exact e
  · cases h
theorem plainN_ok {x : Str} (h : plainN x = true) : (x == ("__debug__" : Str)) = false ∧ (x == ("__classdict__" : Str)) = false := by
  unfold plainN at h
  simp only [Bool.and_eq_true, Bool.not_eq_true'] at h
  exact h
theorem Good.gl (G : Good T xt c k X W) {x : Str} (h : glB c.sc x = true) : Gl X x := by
  show X.env.scope.names.lookup x = some .globalImplicit
  rw [G.sc]; exact glB_ok h
theorem Good.nm (G : Good T xt c k X W) {i : Nat} {x : Str} (h : okN c i x = true) : X.N[i]? = some x ∧ Vis X.env.scope x ∧ (x == ("__debug__" : Str)) = false ∧ (x == ("__classdict__" : Str)) = false := by
  unfold okN at h
  simp only [Bool.and_eq_true, decide_eq_true_eq] at h
  refine ⟨by rw [G.N]; exact h.1.1, by rw [G.sc]; exact visB_ok h.1.2, plainN_ok h.2⟩
theorem Good.bt (G : Good T xt c k X W) {x : Str} (h : okB c x = true) : Gl X x ∧ X.mg x = none := by
  unfold okB at h
  rw [Bool.and_eq_true] at h
  exact ⟨G.gl h.1, G.bl x h.2⟩
theorem lookup_relS_of {sc scope : Scope} {x : Str} {k : NameKind} (hk : k ≠ .free) (h : scope.names.lookup x = some k) : (relS scope sc).names.lookup x = some k := lookup_relS_keep hk h
theorem wr_blk {scope : Scope} {s : Shared} {H : Hp} {C : Addr} {cl : List (Str × Addr)} {fp : List Addr} : Wr (X.blk s H scope (compEnvC scope cl C X.env) fp) (ownB scope) := fun x h => by
  have hsc : (compEnvC scope cl C X.env).scope = relS scope X.env.scope := rfl
  unfold ownB at h
  split at h
  · rename_i e
    have := lookup_relS_of (sc := X.env.scope) (by decide) e
    exact ⟨.inl this, .inr this⟩
  · rename_i e
    have := lookup_relS_of (sc := X.env.scope) (by decide) e
    exact ⟨.inr this, .inl (by show (scope.names.lookup x == some .cell) = true; rw [e]; rfl)⟩
  · cases h
theorem Good.blk (G : Good T xt c k X W) {scope : Scope} (s : Shared) (H : Hp) (C : Addr) (cl : List (Str × Addr)) (fp : List Addr) : Good T xt (c.blk scope) k (X.blk s H scope (compEnvC scope cl C X.env) fp) W0 :=
  ⟨by show relS scope X.env.scope = relS scope c.sc; rw [G.sc], G.N, G.nd, G.calm, G.room, wr_blk, takes0, fun f x h => ⟨(G.fns f x h).ex⟩, G.gds, G.bl⟩
end
end Ev
namespace Ev
open PySem PySem.Spec PyProof.Rows L2
section
variable {T : Tb} {xt : XT} {k : Nat}
theorem and2 {a b : Bool} (h : (a && b) = true) : a = true ∧ b = true := by rwa [Bool.and_eq_true] at h
theorem and3 {a b d : Bool} (h : (a && b && d) = true) : a = true ∧ b = true ∧ d = true := by
  obtain ⟨h1, h3⟩ := and2 h; obtain ⟨h1, h2⟩ := and2 h1; exact ⟨h1, h2, h3⟩
theorem and4 {a b d e : Bool} (h : (a && b && d && e) = true) : a = true ∧ b = true ∧ d = true ∧ e = true := by
  obtain ⟨h1, h4⟩ := and2 h; obtain ⟨h1, h2, h3⟩ := and3 h1; exact ⟨h1, h2, h3, h4⟩
theorem and5 {a b d e f : Bool} (h : (a && b && d && e && f) = true) : a = true ∧ b = true ∧ d = true ∧ e = true ∧ f = true := by
  obtain ⟨h1, h5⟩ := and2 h; obtain ⟨h1, h2, h3, h4⟩ := and4 h1; exact ⟨h1, h2, h3, h4, h5⟩
theorem and6 {a b d e f g : Bool} (h : (a && b && d && e && f && g) = true) : a = true ∧ b = true ∧ d = true ∧ e = true ∧ f = true ∧ g = true := by
  obtain ⟨h1, h6⟩ := and2 h; obtain ⟨h1, h2, h3, h4, h5⟩ := and5 h1; exact ⟨h1, h2, h3, h4, h5, h6⟩
theorem and7 {a b d e f g i : Bool} (h : (a && b && d && e && f && g && i) = true) : a = true ∧ b = true ∧ d = true ∧ e = true ∧ f = true ∧ g = true ∧ i = true := by
  obtain ⟨h1, h6⟩ := and2 h; obtain ⟨h1, h2, h3, h4, h5, h7⟩ := and6 h1; exact ⟨h1, h2, h3, h4, h5, h7, h6⟩
theorem and8 {a b d e f g i j : Bool} (h : (a && b && d && e && f && g && i && j) = true) : a = true ∧ b = true ∧ d = true ∧ e = true ∧ f = true ∧ g = true ∧ i = true ∧ j = true := by
  obtain ⟨h1, h6⟩ := and2 h; obtain ⟨h1, h2, h3, h4, h5, h7, h8⟩ := and7 h1; exact ⟨h1, h2, h3, h4, h5, h7, h8, h6⟩
theorem star_one {env : Env} {e : Expr} (h : noStar e = true) (es : List Expr) : starEach (e :: es) env = (false, eval e env) :: starEach es env := by
  cases e <;> first | rfl | cases h
theorem chkEs_star {c : Ck} {env : Env} : ∀ {ts : Es} {es : List Expr}, chkEs c ts es = true → (starEach es env).any (·.1) = false
  | .nil, [], _ => rfl
  | .cons t ts, e :: es, h => by
    obtain ⟨h1, h2, h3⟩ := and3 h
    rw [star_one h1, List.any_cons, chkEs_star h3]; rfl
theorem back_any {pos : Pos} : ∀ {l : List (Bool × Sem Value)}, l.any (·.1) = false → (backTo pos l).any (·.1) = false
  | [], _ => rfl
  | (b, t) :: l, h => by
    rw [List.any_cons, Bool.or_eq_false_iff] at h
    have ih := back_any (pos := pos) h.2
    show ((b, _) :: backTo pos l).any (·.1) = false
    rw [List.any_cons, ih, show b = false from h.1]; rfl
theorem attr_base {o : Expr} {n : Str} {env : Env} {w : Sem Value} (h : notCall o = true) : attributeBase o n env w = w := by
  cases o <;> first | rfl | cases h
theorem fold_set {e : Expr} {env : Env} (h : notSet e = true) : ∀ x, foldedSetIterable e env x = pure x := by
  cases e <;> first | (intro _; rfl) | cases h
theorem plain_ix {b : Expr} (h : notSlice b = true) : PlainIx b := by
  cases b <;> first | (intro _ _; rfl) | cases h
section
variable {c : Ck} {X : Cx} {W : WX}
theorem snd_con (G : Good T xt c k X W) {d : D} {kk : Const} {n : Nat} {pos : Pos} (h : chkK d kk = true) : ∃ v, PE X (.Constant kk n pos) (tC v) ∧ ∀ H, RpV X.K H v d := by
  cases d <;> cases kk <;> first
    | cases h; done
    | (have h' := of_decide_eq_true h; subst h'; exact ⟨_, pe_bl, fun _ => .bl _⟩)
    | (have h' := of_decide_eq_true h; subst h'; exact ⟨_, pe_int, fun _ => .int _⟩)
    | (have h' := of_decide_eq_true h; subst h'; exact ⟨_, pe_str, fun _ => .str _⟩)
    | exact ⟨_, pe_non, fun _ => .non⟩
theorem no_test {e : Expr} {xr : XR} : PT X e (rdT xr X.K W fun _ => .bad) := ⟨fun pins s σ H Q I h => by
  obtain ⟨_, _, _, _, _, d⟩ := h
  exact d.elim⟩
end
theorem own_map {c : Ck} {own : List Nat} : (ownOf c own).map (·.2) = own := by
  unfold ownOf
  rw [List.map_map]
  exact List.map_id' own
section
variable {xr : XR} {X : Cx} {W : WX}
theorem Res.assoc {α β γ : Type} (r : Res α) (f : α → En → Res β) (g : β → En → Res γ) : (r.bind f).bind g = r.bind fun a e => (f a e).bind g := by
  cases r <;> rfl
theorem st_yes : PTs X [] (rdT xr X.K W fun env => .ok true env) := ⟨fun pins s σ H Q I h => pts_nil.run pins s σ H Q I (by
  obtain ⟨Z, M, P, env, rp, d⟩ := h
  exact ret_b rp.here d)⟩
theorem st_as {e : Expr} {f : En → Res RV} {g : En → Res Bool} (he : PE X e (rdE xr X.K W f)) (hi : ∀ whole, isTrue e X.env whole = (do let v ← whole; standAt e.pos; holding [v] (truthy v))) (h : ∀ env, g env = (f env).bind fun r env => liftB (r.tru env) env) : PT X e (rdT xr X.K W g) := by
  have : g = fun env => (f env).bind fun r env => liftB (r.tru env) env := funext h
  rw [this]
  exact st_truth he hi
theorem st_orOne {a : Expr} {pos : Pos} {t : En → Res Bool} (ha : PT X a (rdT xr X.K W t)) : PW X (.BoolOp .Or [a] pos) (rdT xr X.K W fun env => (t env).bind fun k env => if k then .ok true env else .ok false env) := by
  have : (fun env => (t env).bind fun k env => if k = true then Res.ok true env else .ok false env) = fun env => (t env).bind fun k env => if k = false then .ok false env else .ok (!false) env := by
    funext env
    congr 1
    funext k env
    cases k <;> rfl
  rw [this]
  exact st_one (.inr ⟨rfl, rfl⟩) ha
end
theorem evT_ix (a i : E) (env : En) : evT T (.ix a i) env = (evE T (.ix a i) env).bind fun r env => liftB (r.tru env) env := by
      show _ = Res.bind ((evE T a env).bind fun r env => (evE T i env).bind fun s env => bin2 ixD r s env) _
      rw [Res.assoc]
      show ((evE T a env).bind fun r env => (evE T i env).bind fun s env => (bin2 ixD r s env).bind fun r env => liftB (r.tru env) env) = _
      congr 1
      funext r env
      rw [Res.assoc]
theorem evT_call (f : Nat) (es : Es) (env : En) : evT T (.call f es) env = (evE T (.call f es) env).bind fun r env => liftB (r.tru env) env := by
      show _ = Res.bind ((evs T es env).bind fun rs env => callR T f rs env) _
      rw [Res.assoc]
      rfl
theorem evT_bi (b : Bi) (es : Es) (env : En) : evT T (.bi b es) env = (evE T (.bi b es) env).bind fun r env => liftB (r.tru env) env := by
      show _ = Res.bind ((evs T es env).bind fun rs env => match views rs env with
        | some ds => lift (biD b ds) env
        | none => .bad) _
      rw [Res.assoc]
      show ((evs T es env).bind fun rs env => match views rs env with
        | some ds => (lift (biD b ds) env).bind fun r env => liftB (r.tru env) env
        | none => .bad) = _
      congr 1
      funext rs env
      cases views rs env <;> rfl
theorem evT_isi (a : E) (t : Ty) (env : En) : evT T (.isi a t) env = (evE T (.isi a t) env).bind fun r env => liftB (r.tru env) env := by
      show _ = Res.bind ((evE T a env).bind fun r env => match r.cont env with
        | some d => Res.ok (RV.v (.bl (isiD d t))) env
        | none => .bad) _
      rw [Res.assoc]
      show ((evE T a env).bind fun r env => match r.cont env with
        | some d => .ok (isiD d t) env
        | none => .bad) = _
      congr 1
      funext r env
      cases r.cont env <;> rfl
mutual
theorem sndE : ∀ (t : E) (e : Expr) (c : Ck) (X : Cx) (W : WX), Good T xt c k X W → chkE c t e = true → PE X e (rdE (xrOf xt) X.K W (evE T t))
  | .cn d, e, c, X, W, G, h => by
    cases e with
    | Constant kk n pos =>
      obtain ⟨v, h1, h2⟩ := snd_con G (n := n) (pos := pos) (show chkK d kk = true from h)
      exact se_val h1 h2
    | _ => cases h
  | .nm i, e, c, X, W, G, h => by
    cases e with
    | Name x pos =>
      obtain ⟨h1, h2, h3, h4⟩ := G.nm (show okN c i x = true from h)
      exact se_nm h1 h2 h3 h4
    | _ => cases h
  | .gl g, e, c, X, W, G, h => by
    cases e with
    | Name x pos =>
      obtain ⟨h1, h2⟩ := and2 (show (decide (c.m.gname g = some x) && okG c x) = true from h)
      obtain ⟨h3, h4⟩ := and2 (show (glB c.sc x && plainN x) = true from h2)
      obtain ⟨v, u, q1, q2, q3⟩ := G.gds g x (of_decide_eq_true h1)
      exact se_val (pe_glob (G.gl h3) q1 q2 (plainN_ok h4).1) q3
    | _ => cases h
  | .tup es, e, c, X, W, G, h => by
    cases e with
    | Tuple xs n pos => exact se_tup (sndEs es xs c X W G h)
    | _ => cases h
  | .lst es, e, c, X, W, G, h => by
    cases e with
    | List xs pos => exact se_lst (sndEs es xs c X W G h)
    | _ => cases h
  | .bin o a b, e, c, X, W, G, h => by
    cases e with
    | BinOp x op y pos =>
      obtain ⟨h1, h2, h3⟩ := and3 (show (decide (op = bopOf o) && chkE c a x && chkE c b y) = true from h)
      rw [of_decide_eq_true h1]
      exact sound_bin (sndE a x c X W G h2) (sndE b y c X W G h3)
    | _ => cases h
  | .neg a, e, c, X, W, G, h => by
    cases e with
    | UnaryOp op x pos =>
      cases op with
      | USub => exact se_neg (sndE a x c X W G h)
      | _ => cases h
    | _ => cases h
  | .not a, e, c, X, W, G, h => by
    cases e with
    | UnaryOp op x pos =>
      cases op with
      | Not => exact se_not (sndE a x c X W G h)
      | _ => cases h
    | _ => cases h
  | .cmp o a b, e, c, X, W, G, h => by
    cases e with
    | Compare x ops ys pos =>
      match ops, ys, h with
      | [op], [y], h =>
        obtain ⟨h1, h2, h3, h4⟩ := and4 (show (decide (op = copOf o) && !behindInMarks op y && chkE c a x && chkE c b y) = true from h)
        have e1 := of_decide_eq_true h1
        subst e1
        exact se_cmp (room64 G.room) (sndE a x c X W G h3) (sndE b y c X W G h4) (by simpa using h2)
    | _ => cases h
  | .cmp2 o o' a b d, e, c, X, W, G, h => by
    cases e with
    | Compare x ops ys pos =>
      match ops, ys, h with
      | [op, op'], [y, z], h =>
        obtain ⟨h1, h2, h3, h4, h5, h6⟩ := and6 (show (decide (op = copOf o) && decide (op' = copOf o') && !lastMarks [op, op'] [y, z] && chkE c a x && chkE c b y && chkE c d z) = true from h)
        have e1 := of_decide_eq_true h1
        have e2 := of_decide_eq_true h2
        subst e1 e2
        exact se_cmp2 (room64 G.room) (sndE a x c X W G h4) (sndE b y c X W G h5) (sndE d z c X W G h6) (by simpa using h3)
    | _ => cases h
  | .and a es, e, c, X, W, G, h => by
    cases e with
    | BoolOp op xs pos =>
      match op, xs, h with
      | .And, x :: y :: xs, h =>
        obtain ⟨h1, h2⟩ := and2 (show (chkE c a x && chkEs c es (y :: xs)) = true from h)
        have ih := fun r0 => sndAnd es y xs c X W pos r0 G h2
        match es, h2, ih with
        | .cons b es, h2, ih => exact se_and (sndE a x c X W G h1) (ih (.v .non))
    | _ => cases h
  | .or a es, e, c, X, W, G, h => by
    cases e with
    | BoolOp op xs pos =>
      match op, xs, h with
      | .Or, x :: y :: xs, h =>
        obtain ⟨h1, h2⟩ := and2 (show (chkE c a x && chkEs c es (y :: xs)) = true from h)
        have ih := fun r0 => sndOr es y xs c X W pos r0 G h2
        match es, h2, ih with
        | .cons b es, h2, ih => exact se_or (sndE a x c X W G h1) (ih (.v .non))
    | _ => cases h
  | .ite t a b, e, c, X, W, G, h => by
    cases e with
    | IfExp x y z pos =>
      obtain ⟨h1, h2, h3⟩ := and3 (show (chkE c t x && chkE c a y && chkE c b z) = true from h)
      exact se_ite (sndT t x c X W G h1) (sndE a y c X W G h2) (sndE b z c X W G h3)
    | _ => cases h
  | .ix a i, e, c, X, W, G, h => by
    cases e with
    | Subscript x y pos =>
      obtain ⟨h1, h2, h3⟩ := and3 (show (notSlice y && chkE c a x && chkE c i y) = true from h)
      exact sound_ix (plain_ix h1) (sndE a x c X W G h2) (sndE i y c X W G h3)
    | _ => cases h
  | .sl a lo hi, e, c, X, W, G, h => by
    cases e with
    | Subscript x y pos =>
      match y, h with
      | .Slice l u none p2, h =>
        obtain ⟨h1, h2, h3⟩ := and3 (show (chkE c a x && chkO c lo l && chkO c hi u) = true from h)
        exact se_sl (sndE a x c X W G h1) (sndO lo l c X W G h2) (sndO hi u c X W G h3)
    | _ => cases h
  | .rev a, e, c, X, W, G, h => by
    cases e with
    | Subscript x y pos =>
      match y, h with
      | .Slice none none (some (.UnaryOp .USub (.Constant (.int i) n q1) q2)) q3, h =>
        obtain ⟨h1, h2⟩ := and2 (show (decide (i = 1) && chkE c a x) = true from h)
        have e1 := of_decide_eq_true h1
        subst e1
        exact se_rev (sndE a x c X W G h2)
    | _ => cases h
  | .call f es, e, c, X, W, G, h => by
    cases e with
    | Call fn xs ks pos =>
      match fn, ks, h with
      | .Name x p, [], h =>
        obtain ⟨h1, h2, h3⟩ := and3 (show (decide (c.m.fname f = some x) && okG c x && chkEs c es xs) = true from h)
        obtain ⟨h4, h5⟩ := and2 (show (glB c.sc x && plainN x) = true from h2)
        have hf := G.fns f x (of_decide_eq_true h1)
        have ih := sndEs es xs c X W G h3
        match es, xs, h3, ih with
        | .nil, [], h3, _ => exact sound_call0 G.tk G.room hf (G.gl h4) (plainN_ok h5).1
        | .cons t ts, y :: ys, h3, ih =>
          have hs := star_one (env := X.env) (and3 h3).1 ys
          have ha := chkEs_star (env := X.env) (and3 h3).2.2
          exact sound_call G.tk G.room hf (G.gl h4) ih (plainN_ok h5).1 hs (back_any ha)
    | _ => cases h
  | .bi b es, e, c, X, W, G, h => by
    cases e with
    | Call fn xs ks pos =>
      match fn, xs, ks, h with
      | .Name x p, [y], [], h =>
        obtain ⟨h1, h2, h3, h4⟩ := and4 (show (notStr b && decide (x = biName b) && okB c x && chkEs c es [y]) = true from h)
        have e1 := of_decide_eq_true h2
        subst e1
        obtain ⟨g1, g2⟩ := G.bt h3
        have hn : noStar y = true := by
          match es, h4 with
          | .cons t ts, h4 => exact (and3 h4).1
        exact sound_bi G.room G.calm (by intro z; rw [z] at h1; cases h1) g1 g2 (sndEs es [y] c X W G h4) (star_one hn [])
    | _ => cases h
  | .mt m a e0, e, c, X, W, G, h => by
    cases e with
    | Call fn xs ks pos =>
      match fn, xs, ks, h with
      | .Attribute o n apos, [y], [], h =>
        obtain ⟨h1, h2, h3, h4, h5, h6, h7⟩ := and7 (show (isSplit m && decide (n = "split") && notCall o && (apos.endLine == pos.line) && noStar y && chkE c a o && chkE c e0 y) = true from h)
        have e1 := of_decide_eq_true h2
        subst e1
        cases m with
        | split => exact sound_split (sndE a o c X W G h6) (sndE e0 y c X W G h7) (star_one h5 []) (attr_base h3) h4
        | _ => cases h1
    | _ => cases h
  | .isi a t, e, c, X, W, G, h => by
    cases e with
    | Call fn xs ks pos =>
      match fn, xs, ks, h with
      | .Name x p, [y, .Name z p2], [], h =>
        obtain ⟨h1, h2, h3, h4, h5, h6⟩ := and6 (show (decide (x = "isinstance") && decide (z = tyName t) && okB c x && okB c z && noStar y && chkE c a y) = true from h)
        have e1 := of_decide_eq_true h1
        have e2 := of_decide_eq_true h2
        subst e1 e2
        obtain ⟨g1, g2⟩ := G.bt h3
        obtain ⟨g3, g4⟩ := G.bt h4
        exact sound_isi (sndE a y c X W G h6) g1 g2 g3 g4 (star_one h5)
    | _ => cases h
  | .lc el tg it cn own, e, c, X, W, G, h => by
    cases e with
    | ListComp x gs scope pos =>
      match gs, h with
      | [⟨tx, ix, ifs, as⟩], h =>
        obtain ⟨h1, h2, h3, h4, h5, h6, h7, h8⟩ := and8 (show (decide (as = 0) && notSet ix && chkI c it ix && blkC c.N c.sc scope (ownOf c own) && tg.sl.all own.contains && chkT c.N (ownB scope) tg tx && chkC (c.blk scope) cn ifs && chkE (c.blk scope) el x) = true from h)
        have e1 := of_decide_eq_true h1
        subst e1
        have ok : BlkOk X.N X.env.scope scope (ownOf c own) := by rw [G.N, G.sc]; exact blkOk_by h4
        have h6' : chkT X.N (ownB scope) tg tx = true := by rw [G.N]; exact h6
        have nd : X.N.Nodup := by rw [G.N]; exact G.nd
        have hg1 : ∀ (s : Shared) (H : Hp) (C : Addr) (cl : List (Str × Addr)) (fp : List Addr), PG (X.blk s H scope (compEnvC scope cl C X.env) fp) tx (tgG X.K tg) := fun s H C cl fp => pg_ok (X := X.blk s H scope (compEnvC scope cl C X.env) fp) G.calm nd wr_blk tg tx h6'
        have hg2 : TgOk X (tgG X.K tg) (tgA tg) tg.sl := tgok tg
        have q := se_lc (xr := xrOf xt) (W := W) (w := evI T it) (el := evE T el) (cf := evC T cn) (pos := pos) G.calm (by rw [G.N]; exact G.nd) (sndI it tx ix c X W G h3) ok hg1 hg2 (fun j hj => by
          rw [own_map]
          have := List.all_eq_true.mp h5 j hj
          simpa using this) (fun s H C cl fp => sndC cn ifs (c.blk scope) _ W0 (G.blk s H C cl fp) h7) (fun s H C cl fp => sndE el x (c.blk scope) _ W0 (G.blk s H C cl fp) h8) (fold_set h2)
        rw [own_map] at q
        exact q
    | _ => cases h
theorem sndEs : ∀ (ts : Es) (es : List Expr) (c : Ck) (X : Cx) (W : WX), Good T xt c k X W → chkEs c ts es = true → PA X es (rdA (xrOf xt) X.K W (evs T ts))
  | .nil, es, c, X, W, G, h => by
    match es, h with
    | [], h => exact sa_nil
  | .cons t ts, es, c, X, W, G, h => by
    match es, h with
    | x :: xs, h =>
      obtain ⟨h1, h2, h3⟩ := and3 h
      exact sa_cons (sndE t x c X W G h2) (sndEs ts xs c X W G h3) (star_one h1 xs)
theorem sndO : ∀ (o : Oe) (e : Option Expr) (c : Ck) (X : Cx) (W : WX), Good T xt c k X W → chkO c o e = true → PO X e (rd (α := Option Int) (β := Option Int) (fun _ _ _ _ a b L => b = a ∧ L = []) (xrOf xt) X.K W (evO T o))
  | .no, e, c, X, W, G, h => by
    match e, h with
    | none, h => exact so_no
  | .so t, e, c, X, W, G, h => by
    match e, h with
    | some x, h => exact so_so (sndE t x c X W G h)
theorem sndC : ∀ (o : Oe) (es : List Expr) (c : Ck) (X : Cx) (W : WX), Good T xt c k X W → chkC c o es = true → PTs X es (rdT (xrOf xt) X.K W (evC T o))
  | .no, es, c, X, W, G, h => by
    match es, h with
    | [], h => exact st_yes
  | .so t, es, c, X, W, G, h => by
    match es, h with
    | [x], h => exact pts_one (sndT t x c X W G h)
theorem sndI : ∀ (i : It) (tg e : Expr) (c : Ck) (X : Cx) (W : WX), Good T xt c k X W → chkI c i e = true → PI X tg e (rdI (xrOf xt) X.K W (evI T i))
  | .sq t, tg, e, c, X, W, G, h => si_seq (sndE t e c X W G h)
  | .r1 a, tg, e, c, X, W, G, h => by
    cases e with
    | Call fn xs ks pos =>
      match fn, xs, ks, h with
      | .Name f p, [x], [], h =>
        obtain ⟨h1, h2, h3, h4⟩ := and4 (show (decide (f = "range") && okB c f && noStar x && chkE c a x) = true from h)
        have e1 := of_decide_eq_true h1
        subst e1
        obtain ⟨g1, g2⟩ := G.bt h2
        exact si_r1 (sndE a x c X W G h4) g1 g2 (star_one h3 [])
    | _ => cases h
  | .r2 a b, tg, e, c, X, W, G, h => by
    cases e with
    | Call fn xs ks pos =>
      match fn, xs, ks, h with
      | .Name f p, [x, y], [], h =>
        obtain ⟨h1, h2, h3, h4, h5, h6⟩ := and6 (show (decide (f = "range") && okB c f && noStar x && noStar y && chkE c a x && chkE c b y) = true from h)
        have e1 := of_decide_eq_true h1
        subst e1
        obtain ⟨g1, g2⟩ := G.bt h2
        exact si_r2 (sndE a x c X W G h5) (sndE b y c X W G h6) g1 g2 (by rw [star_one h3, star_one h4]; rfl) (by rw [star_one h4]; rfl)
    | _ => cases h
theorem sndT : ∀ (t : E) (e : Expr) (c : Ck) (X : Cx) (W : WX), Good T xt c k X W → chkE c t e = true → PT X e (rdT (xrOf xt) X.K W (evT T t))
  | .not a, e, c, X, W, G, h => by
    cases e with
    | UnaryOp op x pos =>
      cases op with
      | Not => exact st_not (sndT a x c X W G h)
      | _ => cases h
    | _ => cases h
  | .cmp o a b, e, c, X, W, G, h => by
    cases e with
    | Compare x ops ys pos =>
      match ops, ys, h with
      | [op], [y], h =>
        obtain ⟨h1, h2, h3, h4⟩ := and4 (show (decide (op = copOf o) && !behindInMarks op y && chkE c a x && chkE c b y) = true from h)
        have e1 := of_decide_eq_true h1
        subst e1
        exact st_cmp (room64 G.room) (sndE a x c X W G h3) (sndE b y c X W G h4) (by simpa using h2)
    | _ => cases h
  | .cmp2 o o' a b d, e, c, X, W, G, h => by
    cases e with
    | Compare x ops ys pos =>
      match ops, ys, h with
      | [op, op'], [y, z], h =>
        obtain ⟨h1, h2, h3, h4, h5, h6⟩ := and6 (show (decide (op = copOf o) && decide (op' = copOf o') && !lastMarks [op, op'] [y, z] && chkE c a x && chkE c b y && chkE c d z) = true from h)
        have e1 := of_decide_eq_true h1
        have e2 := of_decide_eq_true h2
        subst e1 e2
        exact st_cmp2 (room64 G.room) (sndE a x c X W G h4) (sndE b y c X W G h5) (sndE d z c X W G h6) (by simpa using h3)
    | _ => cases h
  | .and a es, e, c, X, W, G, h => by
    cases e with
    | BoolOp op xs pos =>
      match op, xs, h with
      | .And, x :: y :: xs, h =>
        obtain ⟨h1, h2⟩ := and2 (show (chkE c a x && chkEs c es (y :: xs)) = true from h)
        exact (st_and (sndT a x c X W G h1) (sndTand es y xs c X W pos G h2)).pt
    | _ => cases h
  | .or a es, e, c, X, W, G, h => by
    cases e with
    | BoolOp op xs pos =>
      match op, xs, h with
      | .Or, x :: y :: xs, h =>
        obtain ⟨h1, h2⟩ := and2 (show (chkE c a x && chkEs c es (y :: xs)) = true from h)
        exact (st_or (sndT a x c X W G h1) (sndTor es y xs c X W pos G h2)).pt
    | _ => cases h
  | .cn d, e, c, X, W, G, h => by
    cases e with
    | Constant kk n pos => exact st_as (sndE (.cn d) (.Constant kk n pos) c X W G h) (fun _ => rfl) fun _ => rfl
    | _ => cases h
  | .nm i, e, c, X, W, G, h => by
    cases e with
    | Name x pos => exact st_as (sndE (.nm i) (.Name x pos) c X W G h) (fun _ => rfl) fun _ => rfl
    | _ => cases h
  | .ix a i, e, c, X, W, G, h => by
    cases e with
    | Subscript x y pos => exact st_as (sndE (.ix a i) (.Subscript x y pos) c X W G h) (fun _ => rfl) fun env => evT_ix a i env
    | _ => cases h
  | .call f es, e, c, X, W, G, h => by
    cases e with
    | Call fn xs ks pos => exact st_as (sndE (.call f es) (.Call fn xs ks pos) c X W G h) (fun _ => rfl) fun env => evT_call f es env
    | _ => cases h
  | .bi b es, e, c, X, W, G, h => by
    cases e with
    | Call fn xs ks pos => exact st_as (sndE (.bi b es) (.Call fn xs ks pos) c X W G h) (fun _ => rfl) fun env => evT_bi b es env
    | _ => cases h
  | .isi a t, e, c, X, W, G, h => by
    cases e with
    | Call fn xs ks pos => exact st_as (sndE (.isi a t) (.Call fn xs ks pos) c X W G h) (fun _ => rfl) fun env => evT_isi a t env
    | _ => cases h
  | .gl g, e, c, X, W, G, h => no_test
  | .tup es, e, c, X, W, G, h => no_test
  | .lst es, e, c, X, W, G, h => no_test
  | .bin o a b, e, c, X, W, G, h => no_test
  | .neg a, e, c, X, W, G, h => no_test
  | .ite t a b, e, c, X, W, G, h => no_test
  | .sl a lo hi, e, c, X, W, G, h => no_test
  | .rev a, e, c, X, W, G, h => no_test
  | .mt m a e0, e, c, X, W, G, h => no_test
  | .lc el tg it cn own, e, c, X, W, G, h => no_test
theorem sndAnd : ∀ (ts : Es) (e : Expr) (es : List Expr) (c : Ck) (X : Cx) (W : WX) (pos : Pos) (r0 : RV), Good T xt c k X W → chkEs c ts (e :: es) = true → PE X (.BoolOp .And (e :: es) pos) (rdE (xrOf xt) X.K W (evAnd T r0 ts))
  | .nil, e, es, c, X, W, pos, r0, G, h => by cases h
  | .cons t ts, e, es, c, X, W, pos, r0, G, h => by
    obtain ⟨h1, h2, h3⟩ := and3 h
    have ih := fun e' es' r0 h' => sndAnd ts e' es' c X W pos r0 G h'
    have h0 := sndE t e c X W G h2
    match ts, es, h3, ih with
    | .nil, [], h3, _ => exact se_one h0
    | .cons t' ts, e' :: es, h3, ih => exact se_and h0 (ih e' es (.v .non) h3)
theorem sndOr : ∀ (ts : Es) (e : Expr) (es : List Expr) (c : Ck) (X : Cx) (W : WX) (pos : Pos) (r0 : RV), Good T xt c k X W → chkEs c ts (e :: es) = true → PE X (.BoolOp .Or (e :: es) pos) (rdE (xrOf xt) X.K W (evOr T r0 ts))
  | .nil, e, es, c, X, W, pos, r0, G, h => by cases h
  | .cons t ts, e, es, c, X, W, pos, r0, G, h => by
    obtain ⟨h1, h2, h3⟩ := and3 h
    have ih := fun e' es' r0 h' => sndOr ts e' es' c X W pos r0 G h'
    have h0 := sndE t e c X W G h2
    match ts, es, h3, ih with
    | .nil, [], h3, _ => exact se_one h0
    | .cons t' ts, e' :: es, h3, ih => exact se_or h0 (ih e' es (.v .non) h3)
theorem sndTand : ∀ (ts : Es) (e : Expr) (es : List Expr) (c : Ck) (X : Cx) (W : WX) (pos : Pos), Good T xt c k X W → chkEs c ts (e :: es) = true → PW X (.BoolOp .And (e :: es) pos) (rdT (xrOf xt) X.K W (evTand T ts))
  | .nil, e, es, c, X, W, pos, G, h => by cases h
  | .cons t ts, e, es, c, X, W, pos, G, h => by
    obtain ⟨h1, h2, h3⟩ := and3 h
    have ih := fun e' es' h' => sndTand ts e' es' c X W pos G h'
    have h0 := sndT t e c X W G h2
    match ts, es, h3, ih with
    | .nil, [], h3, _ => exact st_one (e := true) (.inl ⟨rfl, rfl⟩) h0
    | .cons t' ts, e' :: es, h3, ih => exact st_and h0 (ih e' es h3)
theorem sndTor : ∀ (ts : Es) (e : Expr) (es : List Expr) (c : Ck) (X : Cx) (W : WX) (pos : Pos), Good T xt c k X W → chkEs c ts (e :: es) = true → PW X (.BoolOp .Or (e :: es) pos) (rdT (xrOf xt) X.K W (evTor T ts))
  | .nil, e, es, c, X, W, pos, G, h => by cases h
  | .cons t ts, e, es, c, X, W, pos, G, h => by
    obtain ⟨h1, h2, h3⟩ := and3 h
    have ih := fun e' es' h' => sndTor ts e' es' c X W pos G h'
    have h0 := sndT t e c X W G h2
    match ts, es, h3, ih with
    | .nil, [], h3, _ => exact st_orOne h0
    | .cons t' ts, e' :: es, h3, ih => exact st_or h0 (ih e' es h3)
end
end
end Ev
namespace Ev
open PySem PySem.Spec PyProof.Rows L2
/-- does a comprehension on this line store to the name in its own block? -/
def swB (sc : Scope) (y : Str) (py : Pos) (scope : Scope) (lpos : Pos) : Bool := (sc.names.lookup y == some .local) && (py.line == lpos.line) && !(scope.names.any fun (n, k) => n == y && (k == .local || k == .cell))
theorem sw_lc {elt : Expr} {gs : List Comprehension} {scope : Scope} {pos py : Pos} {y : Str} {l : Nat} {env : Env} (hk : env.scope.kind = .function) :
    swapsWith (.ListComp elt gs scope pos) (some (.Name y py)) l env = pure (swB env.scope y py scope pos) := by
  have hb : env.blockKind = .function := by unfold Env.blockKind; rw [hk]; rfl
  unfold swapsWith swB
  simp only [hb, Expr.pos, Env.kindOf]
  rfl
def notComp : Expr → Bool
  | .ListComp _ _ _ _ => false
  | .SetComp _ _ _ _ => false
  | .DictComp _ _ _ _ _ => false
  | _ => true
theorem sw_no {e : Expr} {t : Option Expr} {l : Nat} {env : Env} (h : notComp e = true) : swapsWith e t l env = pure false := by
  cases e <;> first | rfl | cases h
def notTup : Expr → Bool
  | .Tuple _ _ _ => false
  | .List _ _ => false
  | _ => true
def notTupV : Expr → Bool
  | .Tuple _ _ _ => false
  | _ => true
theorem sst_t {t e : Expr} {env : Env} (h : notTup t = true) : swappedStores [t] e env = pure none := by
  cases t <;> first | (cases e <;> rfl) | cases h
theorem sst_v {t e : Expr} {env : Env} (h : notTupV e = true) : swappedStores [t] e env = pure none := by
  cases e <;> first | (cases t <;> rfl) | cases h
def parB (l : Nat) (sc : Scope) (xs : List (Str × Pos)) (vs : List Expr) : Bool := xs.all (fun x => (sc.names.lookup x.1 == some .local) && x.2.line == l) && decide ((xs.map (·.1)).eraseDups.length = xs.length) && vs.all noStar && !(vs.all (foldedForSure 8)) && !(vs.all (constantsAlone 8))
theorem any_f {f : Expr → Bool} {vs : List Expr} (h : vs.all noStar = true) (hf : ∀ e, noStar e = true → f e = false) : ¬ (vs.any f = true) := by
  rw [List.any_eq_true]
  rintro ⟨e, he, q⟩
  rw [hf e (List.all_eq_true.mp h e he)] at q
  cases q
theorem not_t {b : Bool} (h : (!b) = true) : b = false := by cases b <;> first | rfl | cases h
theorem sst2 {x y : Str} {px py pt pt2 : Pos} {kt k2 : Nat} {a b : Expr} {env : Env} (hk : env.scope.kind = .function) (h : parB px.line env.scope [(x, px), (y, py)] [a, b] = true) :
    swappedStores [.Tuple [.Name x px, .Name y py] kt pt] (.Tuple [a, b] k2 pt2) env = pure (some [x, y]) := by
  obtain ⟨h1, h2, h3, h4, h5⟩ := and5 h
  have hb : env.blockKind = .function := by unfold Env.blockKind; rw [hk]; rfl
  have h2' := of_decide_eq_true h2
  simp only [List.all_cons, List.all_nil, Bool.and_true, Bool.and_eq_true] at h1
  obtain ⟨⟨a1, a2⟩, b1, b2⟩ := h1
  have e1 : (env.kindOf x == some .local && px.line == px.line) = true := by
    rw [Bool.and_eq_true]; exact ⟨a1, a2⟩
  have e2 : (env.kindOf y == some .local && py.line == px.line) = true := by
    rw [Bool.and_eq_true]; exact ⟨b1, b2⟩
  simp only [List.map_cons, List.map_nil, List.length_cons, List.length_nil] at h2'
  have h4' : ([a, b].all (foldedForSure 8)) = false := not_t h4
  have h5' : ([a, b].all (constantsAlone 8)) = false := not_t h5
  unfold swappedStores
  simp only [hb, List.length_cons, List.length_nil, List.head?_cons, Option.map_some, Expr.pos, Option.getD_some, List.filterMap_cons, List.filterMap_nil, e1, e2, if_true, h2', h4', h5']
  refine (if_neg (by decide)).trans ?_
  refine (if_neg (any_f h3 (fun e he => by cases e <;> first | rfl | cases he))).trans ?_
  refine (if_neg (by decide)).trans ?_
  rfl
theorem sst3 {x y z : Str} {px py pz pt pt2 : Pos} {kt k2 : Nat} {a b c : Expr} {env : Env} (hk : env.scope.kind = .function) (h : parB px.line env.scope [(x, px), (y, py), (z, pz)] [a, b, c] = true) :
    swappedStores [.Tuple [.Name x px, .Name y py, .Name z pz] kt pt] (.Tuple [a, b, c] k2 pt2) env = pure (some [x, y, z]) := by
  obtain ⟨h1, h2, h3, h4, h5⟩ := and5 h
  have hb : env.blockKind = .function := by unfold Env.blockKind; rw [hk]; rfl
  have h2' := of_decide_eq_true h2
  simp only [List.all_cons, List.all_nil, Bool.and_true, Bool.and_eq_true] at h1
  obtain ⟨⟨a1, a2⟩, ⟨b1, b2⟩, c1, c2⟩ := h1
  have e1 : (env.kindOf x == some .local && px.line == px.line) = true := by
    rw [Bool.and_eq_true]; exact ⟨a1, a2⟩
  have e2 : (env.kindOf y == some .local && py.line == px.line) = true := by
    rw [Bool.and_eq_true]; exact ⟨b1, b2⟩
  have e3 : (env.kindOf z == some .local && pz.line == px.line) = true := by
    rw [Bool.and_eq_true]; exact ⟨c1, c2⟩
  simp only [List.map_cons, List.map_nil, List.length_cons, List.length_nil] at h2'
  have h4' : ([a, b, c].all (foldedForSure 8)) = false := not_t h4
  have h5' : ([a, b, c].all (constantsAlone 8)) = false := not_t h5
  unfold swappedStores
  simp only [hb, List.length_cons, List.length_nil, List.head?_cons, Option.map_some, Expr.pos, Option.getD_some, List.filterMap_cons, List.filterMap_nil, e1, e2, e3, if_true, h2', h4', h5']
  refine (if_neg (by decide)).trans ?_
  refine (if_neg (any_f h3 (fun e he => by cases e <;> first | rfl | cases he))).trans ?_
  refine (if_neg (by decide)).trans ?_
  rfl
def fnK : ScopeKind → Bool
  | .function => true
  | _ => false
def oneRaise : Es → List Expr → Bool
  | .cons (.cn (.str m)) .nil, [.Constant (.str m') _ _] => decide (m = m')
  | _, _ => false
/-- the suite of a catching clause -/
def chkH : Ss → List Stmt → Bool
  | .cons (.ret (.cn d)) .nil, [.Return (some (.Constant k _ _)) _] => chkK d k
  | .cons .pass .nil, [.Pass _] => true
  | .cons .cnt .nil, [.Continue _] => true
  | _, _ => false
/-- name = [..]: by the rule that stores in the block -/
def swS (c : Ck) : Expr → Expr → Bool
  | .ListComp _ _ scope lpos, .Name y py => swB c.sc y py scope lpos
  | _, _ => false
def asgOk (c : Ck) : Expr → Expr → Bool
  | .ListComp _ _ _ _, .Name _ _ => true
  | v, t => notComp v && (notTup t || notTupV v)
def chkP (c : Ck) : List Nat → List Expr → List Expr → Bool
  | [i, j], [.Name x px, .Name y py], [a, b] => parB px.line c.sc [(x, px), (y, py)] [a, b] && decide ([i, j].Nodup) && decide (c.N[i]? = some x) && decide (c.N[j]? = some y)
  | [i, j, l], [.Name x px, .Name y py, .Name z pz], [a, b, d] => parB px.line c.sc [(x, px), (y, py), (z, pz)] [a, b, d] && decide ([i, j, l].Nodup) && decide (c.N[i]? = some x) && decide (c.N[j]? = some y) && decide (c.N[l]? = some z)
  | _, _, _ => false
def addSub : Bop → Bool
  | .add => true
  | .sub => true
  | _ => false
def isLc : E → Bool
  | .lc _ _ _ _ _ => true
  | _ => false
mutual
def chkS : Ck → S → Stmt → Bool
  | c, .asg t e, .Assign [tg] v _ => asgOk c v tg && chkT c.N c.wr t tg && chkE c e v && (!swS c v tg || isLc e)
  | c, .par is es, .Assign [.Tuple ts _ _] (.Tuple vs _ _) _ => chkP c is ts vs && chkEs c es vs
  | c, .app i e, .Expr (.Call (.Attribute (.Name x _) n apos) [y] [] cpos) _ => decide (n = "append") && okN c i x && noStar y && (apos.endLine == cpos.line) && chkE c e y
  | c, .ext i e, .Expr (.Call (.Attribute (.Name x _) n apos) [y] [] cpos) _ => decide (n = "extend") && okN c i x && noStar y && (apos.endLine == cpos.line) && chkE c e y
  | c, .setix i k e, .Assign [.Subscript (.Name x _) ky _] v _ => okN c i x && notSlice ky && notComp v && chkE c k ky && chkE c e v
  | c, .aug i o e, .AugAssign (.Name x _) op v _ => addSub o && decide (op = augOf o) && decide (c.N[i]? = some x) && c.wr x && chkE c e v
  | c, .iff t a b, .If x ys zs _ => chkE c t x && chkSs c a ys && chkSs c b zs
  | c, .whl t b, .While x ys [] _ => chkE c t x && chkSs c b ys
  | c, .forr t it b, .For tg x ys [] _ => notSet x && chkT c.N c.wr t tg && chkI c it x && chkSs c b ys
  | c, .ret e, .Return (some x) _ => chkE c e x
  | _, .retN, .Return none _ => true
  | _, .brk, .Break _ => true
  | _, .cnt, .Continue _ => true
  | _, .pass, .Pass _ => true
  | _, .pass, .Expr (.Constant (.str _) _ _) _ => true
  | c, .expr e, .Expr x _ => notComp x && chkE c e x
  | c, .raise k es, .Raise (some (.Call (.Name x _) xs [] _)) none _ => decide (c.m.xname k = some x) && okG c x && oneRaise es xs
  | c, .tri b k h, .Try ys [.ExceptHandler (some (.Name x _)) none (z :: zs) _] [] [] _ => decide (c.m.xname k = some x) && okG c x && chkH h (z :: zs) && chkSs c b ys
  | _, _, _ => false
def chkSs : Ck → Ss → List Stmt → Bool
  | _, .nil, [] => true
  | c, .cons s ss, x :: xs => chkS c s x && chkSs c ss xs
  | _, _, _ => false
end
structure GoodS (T : Tb) (xt : XT) (xm : Nat → Nat → Bool) (c : Ck) (k : Nat) (X : Cx) (W : WX) : Prop extends Good T xt c k X W where
  kind : X.env.scope.kind = .function
  pass : PassesOwn (model X.prog X.w) X.A X.env X.xe
  stk : X.stack = X.env :: X.outer
  frame : X.env.frame = some X.env.locals
  xs : ∀ j x, c.m.xname j = some x → RaiseAt X xt j x
  exm : ∀ i C j C', xt.cls i = some C → xt.cls j = some C' → PySem.W.exmOne X.K (.ref C) (.ref C') = some (xm i j)
section
variable {T : Tb} {xt : XT} {xm : Nat → Nat → Bool} {c : Ck} {k : Nat} {X : Cx} {W : WX}
theorem GoodS.tr (G : GoodS T xt xm c k X W) {W' : WX} {pn : List (Addr × Obj)} {xe : Value → Shared → Prop} (tk : Takes (X.tr pn xe) W') (hp : PassesOwn (model X.prog X.w) X.A X.env xe) : GoodS T xt xm c k (X.tr pn xe) W' :=
  ⟨⟨G.sc, G.N, G.nd, G.calm, G.room, G.wr, tk, fun f x h => ⟨(G.fns f x h).ex⟩, G.gds, G.bl⟩, G.kind, hp, G.stk, G.frame, fun j x h => ⟨(G.xs j x h).ex⟩, G.exm⟩
theorem chkH_ok {h : Ss} {ss : List Stmt} (e : chkH h ss = true) : SutOk X h ss := by
  unfold chkH at e
  split at e
  · rename_i d kk n p pos
    cases d <;> cases kk <;> first
      | cases e; done
      | (have h' := of_decide_eq_true e; subst h'; exact sut_ret (fun _ _ _ => pe_bl) fun _ => .bl _)
      | (have h' := of_decide_eq_true e; subst h'; exact sut_ret (fun _ _ _ => pe_int) fun _ => .int _)
      | (have h' := of_decide_eq_true e; subst h'; exact sut_ret (fun _ _ _ => pe_str) fun _ => .str _)
      | exact sut_ret (fun _ _ _ => pe_non) fun _ => .non
  · exact sut_pass
  · exact sut_cnt
  · cases e
theorem sole {t v : Expr} {l : Nat} {env : Env} : swapsWithSole [t] v l env = swapsWith v (some t) l env := rfl
theorem asg_no {c : Ck} {v t : Expr} {l : Nat} (hk : X.env.scope.kind = .function) (hsc : X.env.scope = c.sc) (h : asgOk c v t = true) (hs : swS c v t = false) : swapsWithSole [t] v l X.env = pure false ∧ swappedStores [t] v X.env = pure none := by
  unfold asgOk at h
  split at h
  · rename_i elt gs scope lpos y py
    refine ⟨?_, sst_t rfl⟩
    rw [sole, sw_lc hk, hsc, show swB c.sc y py scope lpos = false from hs]
  · obtain ⟨h1, h2⟩ := and2 h
    refine ⟨sole.trans (sw_no h1), ?_⟩
    rcases Bool.or_eq_true _ _ |>.mp h2 with z | z
    · exact sst_t z
    · exact sst_v z
theorem asg_one {t : Expr} {env : Env} (h : noStar t = true) : (assignEach [t] env).map (·.2) = [assign t env] := by
  cases t <;> first | rfl | cases h
theorem chkT_star {N : List Str} {wr : Str → Bool} {t : Tg} {e : Expr} (h : chkT N wr t e = true) : noStar e = true := by
  cases t <;> cases e <;> first | rfl | cases h
theorem sub_assign {x : Str} {p tpos : Pos} {ky : Expr} {env : Env} (h : notSlice ky = true) (v : Value) : assign (.Subscript (.Name x p) ky tpos) env v = (do
      let ov ← holding [v] (eval (.Name x p) env)
      let iv ← holding [v, ov] (eval ky env)
      standAt tpos
      holding [v, ov, iv] (setItem ov iv v)
      release [v, ov, iv] []) := by
  cases ky <;> first | rfl | cases h
mutual
theorem sndS : ∀ (t : S) (s : Stmt) (c : Ck) (X : Cx) (W : WX), GoodS T xt xm c k X W → chkS c t s = true → PS X s (rdS (xrOf xt) X.K W t.wr (evS T xm t))
  | .asg t e, s, c, X, W, G, h => by
    have nd : X.N.Nodup := by rw [G.N]; exact G.nd
    cases s with
    | Assign ts v pos =>
      match ts, h with
      | [tg], h =>
        obtain ⟨h1, h2, h3, h4⟩ := and4 (show (asgOk c v tg && chkT c.N c.wr t tg && chkE c e v && (!swS c v tg || isLc e)) = true from h)
        have h2' : chkT X.N c.wr t tg = true := by rw [G.N]; exact h2
        cases hs : swS c v tg with
        | false =>
          obtain ⟨q1, q2⟩ := asg_no (l := pos.line) G.kind G.sc h1 hs
          exact ss_asg (sndE e v c X W G.toGood h3) (pg_ok G.calm nd G.wr t tg h2') (tgok t) q1 q2 (asg_one (chkT_star h2))
        | true =>
          rw [hs] at h4
          cases e with
          | lc el tg' it cn own =>
            cases v with
            | ListComp x gs scope lpos =>
              match gs, tg, h1, h2, h3, hs with
              | [⟨tx, ix, ifs, as⟩], .Name y py, h1, h2, h3, hs =>
                have hsw : swB c.sc y py scope lpos = true := hs
                match t, h2, h2' with
                | .nm i, h2, h2' =>
                obtain ⟨w1, w2⟩ := and2 (show (decide (X.N[i]? = some y) && c.wr y) = true from h2')
                obtain ⟨z1, z2, z3⟩ := and3 hsw
                have hyl : X.env.scope.names.lookup y = some .local := by rw [G.sc]; simpa using z1
                obtain ⟨h1, h2, c3, h4, h5, h6, h7, h8⟩ := and8 (show (decide (as = 0) && notSet ix && chkI c it ix && blkC c.N c.sc scope (ownOf c own) && tg'.sl.all own.contains && chkT c.N (ownB scope) tg' tx && chkC (c.blk scope) cn ifs && chkE (c.blk scope) el x) = true from h3)
                have e1 := of_decide_eq_true h1
                subst e1
                have ok : BlkOk X.N X.env.scope scope (ownOf c own) := by rw [G.N, G.sc]; exact blkOk_by h4
                have h6' : chkT X.N (ownB scope) tg' tx = true := by rw [G.N]; exact h6
                have hg1 : ∀ (s : Shared) (H : Hp) (C : Addr) (cl : List (Str × Addr)) (fp : List Addr), PG (X.blk s H scope (compEnvC scope cl C X.env) fp) tx (tgG X.K tg') := fun s H C cl fp => pg_ok (X := X.blk s H scope (compEnvC scope cl C X.env) fp) G.calm nd wr_blk tg' tx h6'
                have hg2 : TgOk X (tgG X.K tg') (tgA tg') tg'.sl := tgok tg'
                have q := ss_setLc (xr := xrOf xt) (W := W) (w := evI T it) (el := evE T el) (cf := evC T cn) (lpos := lpos) (pos := pos) (py := py) (i := i) G.calm nd (of_decide_eq_true w1) hyl (by rw [sw_lc G.kind, G.sc, hsw]) (sndI it tx ix c X W G.toGood c3) ok hg1 hg2 (fun j hj => by
                  rw [own_map]
                  have := List.all_eq_true.mp h5 j hj
                  simpa using this) (fun s H C cl fp => sndC cn ifs (c.blk scope) _ W0 (G.toGood.blk s H C cl fp) h7) (fun s H C cl fp => sndE el x (c.blk scope) _ W0 (G.toGood.blk s H C cl fp) h8) (fold_set h2)
                rw [own_map] at q
                exact q
            | _ => cases hs
          | _ => cases h4
    | _ => cases h
  | .par is es, s, c, X, W, G, h => by
    have nd : X.N.Nodup := by rw [G.N]; exact G.nd
    cases s with
    | Assign ts v pos =>
      match ts, v, h with
      | [.Tuple xs kt pt], .Tuple vs k2 pt2, h =>
        obtain ⟨h1, h2⟩ := and2 (show (chkP c is xs vs && chkEs c es vs) = true from h)
        have ha := sndEs es vs c X W G.toGood h2
        match is, xs, vs, h1, ha with
        | [i, j], [.Name x px, .Name y py], [a, b], h1, ha =>
          obtain ⟨p1, p2, p3, p4⟩ := and4 (show (parB px.line c.sc [(x, px), (y, py)] [a, b] && decide ([i, j].Nodup) && decide (c.N[i]? = some x) && decide (c.N[j]? = some y)) = true from h1)
          have p1' : parB px.line X.env.scope [(x, px), (y, py)] [a, b] = true := by rw [G.sc]; exact p1
          have l := (and5 p1').1
          simp only [List.all_cons, List.all_nil, Bool.and_true, Bool.and_eq_true, beq_iff_eq] at l
          exact ss_par2 G.calm nd (by rw [G.N]; exact of_decide_eq_true p3) (by rw [G.N]; exact of_decide_eq_true p4) (of_decide_eq_true p2) l.1.1 l.2.1 ha (sst2 G.kind p1') (by rfl)
        | [i, j, m], [.Name x px, .Name y py, .Name z pz], [a, b, d], h1, ha =>
          obtain ⟨p1, p2, p3, p4, p5⟩ := and5 (show (parB px.line c.sc [(x, px), (y, py), (z, pz)] [a, b, d] && decide ([i, j, m].Nodup) && decide (c.N[i]? = some x) && decide (c.N[j]? = some y) && decide (c.N[m]? = some z)) = true from h1)
          have p1' : parB px.line X.env.scope [(x, px), (y, py), (z, pz)] [a, b, d] = true := by rw [G.sc]; exact p1
          have l := (and5 p1').1
          simp only [List.all_cons, List.all_nil, Bool.and_true, Bool.and_eq_true, beq_iff_eq] at l
          exact ss_par3 G.calm nd (by rw [G.N]; exact of_decide_eq_true p3) (by rw [G.N]; exact of_decide_eq_true p4) (by rw [G.N]; exact of_decide_eq_true p5) (of_decide_eq_true p2) l.1.1 l.2.1.1 l.2.2.1 ha (sst3 G.kind p1') (by rfl)
    | _ => cases h
  | .app i e, s, c, X, W, G, h => by
    cases s with
    | Expr v pos =>
      match v, h with
      | .Call (.Attribute (.Name x p) n apos) [y] [] cpos, h =>
        obtain ⟨h1, h2, h3, h4, h5⟩ := and5 (show (decide (n = "append") && okN c i x && noStar y && (apos.endLine == cpos.line) && chkE c e y) = true from h)
        have e1 := of_decide_eq_true h1
        subst e1
        obtain ⟨n1, n2, n3, n4⟩ := G.toGood.nm h2
        exact ss_app n1 n2 n3 n4 (sndE e y c X W G.toGood h5) (star_one h3 []) (by rfl) (by rfl) h4
    | _ => cases h
  | .ext i e, s, c, X, W, G, h => by
    cases s with
    | Expr v pos =>
      match v, h with
      | .Call (.Attribute (.Name x p) n apos) [y] [] cpos, h =>
        obtain ⟨h1, h2, h3, h4, h5⟩ := and5 (show (decide (n = "extend") && okN c i x && noStar y && (apos.endLine == cpos.line) && chkE c e y) = true from h)
        have e1 := of_decide_eq_true h1
        subst e1
        obtain ⟨n1, n2, n3, n4⟩ := G.toGood.nm h2
        exact ss_ext n1 n2 n3 n4 (sndE e y c X W G.toGood h5) (star_one h3 []) (by rfl) (by rfl) h4
    | _ => cases h
  | .setix i kk e, s, c, X, W, G, h => by
    cases s with
    | Assign ts v pos =>
      match ts, h with
      | [.Subscript (.Name x p) ky tpos], h =>
        obtain ⟨h1, h2, h3, h4, h5⟩ := and5 (show (okN c i x && notSlice ky && notComp v && chkE c kk ky && chkE c e v) = true from h)
        obtain ⟨n1, n2, n3, n4⟩ := G.toGood.nm h1
        exact ss_setix n1 n2 n3 n4 (sndE e v c X W G.toGood h5) (sndE kk ky c X W G.toGood h4) (sub_assign h2) (sole.trans (sw_no h3)) (sst_t rfl)
    | _ => cases h
  | .aug i o e, s, c, X, W, G, h => by
    have nd : X.N.Nodup := by rw [G.N]; exact G.nd
    cases s with
    | AugAssign tg op v pos =>
      match tg, h with
      | .Name x p, h =>
        obtain ⟨h1, h2, h3, h4, h5⟩ := and5 (show (addSub o && decide (op = augOf o) && decide (c.N[i]? = some x) && c.wr x && chkE c e v) = true from h)
        have e1 := of_decide_eq_true h2
        subst e1
        obtain ⟨w1, w2⟩ := G.wr x h4
        exact ss_aug (by cases o <;> first | exact .inl rfl | exact .inr rfl | cases h1) nd (by rw [G.N]; exact of_decide_eq_true h3) w1 w2 (sndE e v c X W G.toGood h5)
    | _ => cases h
  | .iff t a b, s, c, X, W, G, h => by
    cases s with
    | If x ys zs pos =>
      obtain ⟨h1, h2, h3⟩ := and3 (show (chkE c t x && chkSs c a ys && chkSs c b zs) = true from h)
      exact ss_if (sndT t x c X W G.toGood h1) (sndSs a ys c X W G h2) (sndSs b zs c X W G h3)
    | _ => cases h
  | .whl t b, s, c, X, W, G, h => by
    cases s with
    | While x ys zs pos =>
      match zs, h with
      | [], h =>
        obtain ⟨h1, h2⟩ := and2 (show (chkE c t x && chkSs c b ys) = true from h)
        exact ss_while G.pass (sndT t x c X W G.toGood h1) (sndSs b ys c X W G h2) WF
    | _ => cases h
  | .forr t it b, s, c, X, W, G, h => by
    have nd : X.N.Nodup := by rw [G.N]; exact G.nd
    cases s with
    | For tg x ys zs pos =>
      match zs, h with
      | [], h =>
        obtain ⟨h1, h2, h3, h4⟩ := and4 (show (notSet x && chkT c.N c.wr t tg && chkI c it x && chkSs c b ys) = true from h)
        have h2' : chkT X.N c.wr t tg = true := by rw [G.N]; exact h2
        exact ss_for G.pass G.calm (sndI it tg x c X W G.toGood h3) (pg_ok G.calm nd G.wr t tg h2') (tgok t) (sndSs b ys c X W G h4) (fold_set h1)
    | _ => cases h
  | .ret e, s, c, X, W, G, h => by
    cases s with
    | Return v pos =>
      match v, h with
      | some x, h => exact ss_ret (sndE e x c X W G.toGood h)
    | _ => cases h
  | .retN, s, c, X, W, G, h => by
    cases s with
    | Return v pos =>
      match v, h with
      | none, h => exact ss_retN
    | _ => cases h
  | .brk, s, c, X, W, G, h => by
    cases s with
    | Break pos => exact ss_brk
    | _ => cases h
  | .cnt, s, c, X, W, G, h => by
    cases s with
    | Continue pos => exact ss_cnt
    | _ => cases h
  | .pass, s, c, X, W, G, h => by
    cases s with
    | Pass pos => exact ss_pass
    | Expr v pos =>
      match v, h with
      | .Constant (.str x) n p, h => exact ss_doc
    | _ => cases h
  | .expr e, s, c, X, W, G, h => by
    cases s with
    | Expr v pos =>
      obtain ⟨h1, h2⟩ := and2 (show (notComp v && chkE c e v) = true from h)
      exact ss_expr (sndE e v c X W G.toGood h2) (sw_no h1)
    | _ => cases h
  | .raise j es, s, c, X, W, G, h => by
    cases s with
    | Raise e cz pos =>
      match e, cz, h with
      | some (.Call (.Name x p) xs [] cpos), none, h =>
        obtain ⟨h1, h2, h3⟩ := and3 (show (decide (c.m.xname j = some x) && okG c x && oneRaise es xs) = true from h)
        obtain ⟨h4, h5⟩ := and2 (show (glB c.sc x && plainN x) = true from h2)
        match es, xs, h3 with
        | .cons (.cn (.str m)) .nil, [.Constant (.str m') n p2], h3 =>
          exact ss_raise (k := evs T (.cons (.cn (.str m)) .nil)) (fun env => ⟨_, rfl⟩) G.calm G.tk (G.xs j x (of_decide_eq_true h1)) (G.toGood.gl h4) (plainN_ok h5).1
    | _ => cases h
  | .tri b j hh, s, c, X, W, G, h => by
    cases s with
    | Try ys hs oe fb pos =>
      match hs, oe, fb, h with
      | [.ExceptHandler (some (.Name x np)) none (z :: zs) pos'], [], [], h =>
        obtain ⟨h1, h2, h3, h4⟩ := and4 (show (decide (c.m.xname j = some x) && okG c x && chkH hh (z :: zs) && chkSs c b ys) = true from h)
        obtain ⟨h5, h6⟩ := and2 (show (glB c.sc x && plainN x) = true from h2)
        have hr := G.xs j x (of_decide_eq_true h1)
        obtain ⟨C, B, newId, initId, bmB, r1, r2, r3, r4, r5, r6⟩ := hr.ex
        exact ss_try G.stk G.frame ⟨G.toGood.gl h5, (plainN_ok h6).1, .inl r4⟩ G.tk (fun i D e => G.exm i D j C e r1) (fun W' pn xe tk hp => sndSs b ys c (X.tr pn xe) W' (G.tr tk hp) h4) (chkH_ok h3)
    | _ => cases h
theorem sndSs : ∀ (t : Ss) (s : List Stmt) (c : Ck) (X : Cx) (W : WX), GoodS T xt xm c k X W → chkSs c t s = true → PSs X s (rdS (xrOf xt) X.K W t.wr (evSs T xm t))
  | .nil, s, c, X, W, G, h => by
    match s, h with
    | [], h => exact ss_nil
  | .cons t ts, s, c, X, W, G, h => by
    match s, h with
    | x :: xs, h =>
      obtain ⟨h1, h2⟩ := and2 h
      exact ss_cons (sndS t x c X W G h1) (sndSs ts xs c X W G h2)
end
end
end Ev
namespace Ev
open PySem PySem.Spec PyProof.Rows L2
section
variable {K : PySem.W.Frag} {H : Hp} {Z : Addr → Bool}
theorem RpE.start0 : ∀ {vs : List V} {ds : List D} (m : Nat), RpVs K (hid Z H) vs ds → RpE K H Z [] [] (ds.map Slot.on ++ List.replicate m .un) (vs.map some ++ List.replicate m none)
  | _, _, 0, .nil => .nil
  | _, _, m + 1, .nil => .un (RpE.start0 m .nil)
  | _, _, m, .cons a b => RpE.on (L := []) (.val a) (RpE.start0 m b)
end
/-- the context of a def -/
def ckOf (m : CkM) (N : List Str) (sc : Scope) : Ck := ⟨m, N, sc, ownB sc⟩
theorem den_def {P : Program} {w : World} {K : PySem.W.Frag} {mg : Str → Option Value} {base : Heap} {x qual : Str} {st : Stmt} {f : Addr} {fd : FuncData} {N ps : List Str} {k n : Nat} {T : Tb} {xt : XT} {xm : Nat → Nat → Bool} {m : CkM} {io : Bool} {b : Ss} (F : Fun K x qual st f fd)
    (S : FnScope N ps (defScope st)) (hn : N.length = n) (hk : chkSs (ckOf m N (defScope st)) b (defBody st) = true)
    (fns : ∀ f x, m.fname f = some x → ∃ (a : Addr) (fd : FuncData) (ps : List Str), mg x = some (.ref a) ∧ PySem.W.keepIn K (.ref a) = true ∧ Binds K fd ps [] ∧ FnOk P w K mg base (L2.CX P w) k a fd ps (FSp (xrOf xt) K (T.io f) (T.fn f) (T.ar f)))
    (gds : ∀ g x, m.gname g = some x → ∃ v u, mg x = some u ∧ RelV v u ∧ ∀ H, RpV K H v (T.gd g)) (bl : ∀ x, m.blt x = true → mg x = none)
    (xs : ∀ j x, m.xname j = some x → ∃ (C : Addr) (B newId initId : String) (bmB : List Value), xt.cls j = some C ∧ ExcBaseFacts B newId initId bmB ∧ PySem.W.excIn K C bmB newId = true ∧ mg x = some (.ref C) ∧ PySem.W.keepIn K (.ref C) = true ∧ PySem.W.subIn K (.ref C) (.type "BaseException") = some true ∧ PySem.W.typeIn K (.ref C) = some (.type "type"))
    (exm : ∀ i C j C', xt.cls i = some C → xt.cls j = some C' → PySem.W.exmOne K (.ref C) (.ref C') = some (xm i j)) :
    FnOk P w K mg base (L2.CX P w) (k + 1) f fd ps (FSp (xrOf xt) K io (den T xm n io b) ps.length) := by
  subst hn
  refine F.okX S (fun vs H Q E h => let ⟨_, _, _, e, _⟩ := h; e) fun cdv A outer s H vs Q E hr h => ?_
  obtain ⟨Z, M, ds, hl, ha, nM, zM, zl, hm⟩ := h
  have G : GoodS T xt xm (ckOf m N (defScope st)) k (cxOf (L2.CX P w) P w K mg base N qual (defScope st) f cdv A outer s H E) (fun cls d _ H => E cls d H) := by
    refine ⟨⟨rfl, rfl, S.nd, rfl, hr, fun y hy => ?_, takes_of rfl rfl rfl rfl, fun f x e => ⟨fns f x e⟩, gds, bl⟩, S.kind, passes_of rfl, rfl, rfl, fun j x e => ?_, exm⟩
    · refine ⟨?_, .inl rfl⟩
      unfold L2.Loc
      have hy' : ownB (defScope st) y = true := hy
      unfold ownB at hy'
      split at hy'
      · rename_i q; exact .inl q
      · rename_i q; exact .inr q
      · cases hy'
    · obtain ⟨C, B, newId, initId, bmB, h1, h2, h3, h4, h5, h6, h7⟩ := xs j x e
      exact ⟨C, B, newId, initId, bmB, h1, h2, h3, h4, h5, raises_own h6 h7⟩
  refine ⟨_, sndSs b (defBody st) _ _ _ G hk, ?_⟩
  -- the slots at the entry
  have hds : ds.length = vs.length ∧ Rep K H Z M [] (ds.map Slot.on ++ List.replicate (N.length - ds.length) .un) (L2.start N vs) := by
    unfold ArgsR at ha
    cases io with
    | true =>
      rw [if_pos rfl] at ha
      obtain ⟨v, vr, d, dr, rfl, rfl, x1, x2⟩ := ha
      have hlen : dr.length = vr.length := x2.len.symm
      refine ⟨by simp [hlen], ⟨⟨M ++ [], [], ?_, by simp, .refl _⟩, by simpa using nM, fun a ha => zM a (by simpa using ha), zl⟩⟩
      unfold L2.start
      have e1 : (d :: dr).length = (v :: vr).length := by simp [hlen]
      rw [e1]
      exact .on x1 (RpE.start0 _ x2)
    | false =>
      rw [if_neg Bool.false_ne_true] at ha
      obtain ⟨x2, rfl⟩ := ha
      have hlen : ds.length = vs.length := x2.len.symm
      refine ⟨hlen, ⟨⟨[], [], ?_, .refl _, .refl _⟩, .nil, fun a ha => (nomatch ha), zl⟩⟩
      unfold L2.start
      rw [hlen]
      exact RpE.start0 _ x2
  refine ⟨Z, M, [], _, hds.2, ?_⟩
  unfold den at hm
  by_cases hio : (io && b.wr.contains 0) = true
  · rw [if_pos hio] at hm; exact hm.elim
  · rw [if_neg hio] at hm
    have frM : ∀ {H' : Hp} {Z' : Addr → Bool} {M' P' M2 : List Addr}, Fr H Z M [] H' Z' M' P' → (∀ a ∈ M2, a ∈ M') → Fr H Z M [] H' Z' M2 [] := fun {H' Z' M' P' M2} f h => ⟨f.keep, f.z1, f.z2, fun a ha => f.m a (h a ha), fun a ha => (nomatch ha)⟩
    -- what is handed back
    have key : ∀ {d : D} {o : D} {env : En} {v : V} {σ' : L2.St} {H' : Hp} {Z' : Addr → Bool} {M' P' L : List Addr}, outOf io env = some o →
        (∀ v H' Z' M' L, Fr H Z M [] H' Z' M' [] → (∀ a, Z' a = true → ∃ xs, H' a = some (.lst xs)) → M'.Nodup → (∀ a ∈ M', Z' a = true) → RpX K H' Z' v d L → Own H M Z' M' [] L → (io = true → ∀ v0, vs.head? = some v0 → RpX K H' Z' v0 o M') → Q v H') →
        Rep K H' Z' M' P' env σ' → Fr H Z M [] H' Z' M' P' → Same b.wr (L2.start N vs) σ' → RpX K H' Z' v d L → Own H M Z' M' P' L → Q v H' := fun {d o env v σ' H' Z' M' P' L} eo q r f sm x ow => by
      cases hio' : io with
      | false =>
        refine q v H' Z' [] L (frM f fun a ha => (nomatch ha)) r.zl .nil (fun a ha => (nomatch ha)) x ⟨ow.nd, ow.z, fun a _ z => (nomatch z), fun a _ z => (nomatch z), ow.old⟩ fun z => by rw [hio'] at z; cases z
      | true =>
        rw [hio'] at eo hio
        unfold outOf at eo
        rw [if_pos rfl] at eo
        split at eo
        · rename_i d0 e0
          cases eo
          obtain ⟨v0, L0, M1, e1, x0, h1, p1, k1, k2⟩ := r.here.takeO e0
          refine q v H' Z' L0 L (frM f k2) r.zl p1.nd p1.z x ⟨ow.nd, ow.z, fun a ha z => ow.nm a ha (k2 a z), fun a _ z => (nomatch z), ow.old⟩ fun _ w0 hw => ?_
          have nw : 0 ∉ b.wr := fun z => hio (by rw [Bool.true_and]; exact List.contains_iff_mem.mpr z)
          have es := sm.2 0 nw
          rw [e1] at es
          have : w0 = v0 := by
            unfold L2.start at es
            cases vs with
            | nil => cases hw
            | cons y ys =>
              cases hw
              exact (Option.some.inj (Option.some.inj es)).symm
          rw [this]; exact x0
        · cases eo
    cases e : evSs T xm b (ds.map Slot.on ++ List.replicate (N.length - ds.length) .un) with
    | ok a env =>
      rw [e] at hm
      cases a with
      | rt d =>
        cases eo : outOf io env with
        | none => simp only [eo] at hm
        | some o =>
          simp only [eo] at hm
          exact fun v σ' H' Z' M' P' L r f sm x ow => key eo hm r f sm x ow
      | nx =>
        cases eo : outOf io env with
        | none => simp only [eo] at hm
        | some o =>
          simp only [eo] at hm
          exact fun σ' H' Z' M' P' r f sm => key (L := []) eo hm r f sm (.val .non) Own.nil
      | br => exact hm.elim
      | ct => exact hm.elim
    | ex c p env =>
      rw [e] at hm
      simp only at hm
      cases io with
      | true => exact hm.elim
      | false =>
        cases hp : plNoL p with
        | true =>
          simp only [hp, Bool.false_eq_true, if_false, if_true] at hm
          intro cls dd σ' H' Z' M' P' r f sm x
          exact hm.2 cls dd H' Z' [] (frM f fun a ha => (nomatch ha)) r.zl x
        | false => simp only [hp, Bool.false_eq_true, if_false] at hm
    | bad => rw [e] at hm; exact hm.elim
end Ev
namespace Ev
open PySem PySem.Spec PyProof.Rows L2
/-! ### what the top has written -/
mutual
def conB (K : PySem.W.Frag) : D → Value → Bool
  | .non, .none => true
  | .bl a, .bool b => decide (a = b)
  | .int a, .int b _ => decide (a = b)
  | .str a, .str b _ => decide (a = b)
  | .tup ds, .ref p => match K.lookup p with
    | some ⟨.type t, _, .seq its _, _⟩ => decide (t = "tuple") && Nat.ble its.size big && conBs K ds its.toList
    | _ => false
  | _, _ => false
def conBs (K : PySem.W.Frag) : List D → List Value → Bool
  | [], [] => true
  | d :: ds, u :: us => conB K d u && conBs K ds us
  | _, _ => false
end
section
variable {P : Program} {w : World} {K : PySem.W.Frag} {mg : Str → Option Value} {base : Heap} {xt : XT}
mutual
theorem conB_ok : ∀ (d : D) {u : Value}, conB K d u = true → ∃ v, RelV v u ∧ ∀ H, RpV K H v d
  | .non, u, h => by
    cases u with
    | none => exact ⟨.non, rfl, fun _ => .non⟩
    | _ => cases h
  | .bl a, u, h => by
    cases u with
    | bool b =>
      have e : a = b := of_decide_eq_true h
      subst e
      exact ⟨.bl a, rfl, fun _ => .bl a⟩
    | _ => cases h
  | .int a, u, h => by
    cases u with
    | int b t =>
      have e : a = b := of_decide_eq_true h
      subst e
      exact ⟨.int a, ⟨t, rfl⟩, fun _ => .int a⟩
    | _ => cases h
  | .str a, u, h => by
    cases u with
    | str b t =>
      have e : a = b := of_decide_eq_true h
      subst e
      exact ⟨.str a, ⟨t, rfl⟩, fun _ => .str a⟩
    | _ => cases h
  | .tup ds, u, h => by
    cases u with
    | ref p =>
      have h' : (match K.lookup p with
        | some ⟨.type t, _, .seq its _, _⟩ => decide (t = "tuple") && Nat.ble its.size big && conBs K ds its.toList
        | _ => false) = true := h
      split at h'
      · rename_i t od its n sl e
        rw [Bool.and_eq_true, Bool.and_eq_true, decide_eq_true_eq] at h'
        obtain ⟨vs, h1, h2⟩ := conBs_ok ds h'.2
        refine ⟨.ref p, rfl, fun H => .tup (.inr ⟨_, its, n, e, by rw [h'.1.1], rfl, ble_big h'.1.2, h1⟩) (h2 H)⟩
      · cases h'
    | _ => cases h
  | .lst ds, u, h => by cases u <;> cases h
  | .mls ds, u, h => by cases u <;> cases h
  | .rol ds, u, h => by cases u <;> cases h
theorem conBs_ok : ∀ (ds : List D) {us : List Value}, conBs K ds us = true → ∃ vs, Vals vs us ∧ ∀ H, RpVs K H vs ds
  | [], us, h => by
    cases us with
    | nil => exact ⟨[], .nil, fun _ => .nil⟩
    | cons _ _ => cases h
  | d :: ds, us, h => by
    cases us with
    | nil => cases h
    | cons u us =>
      have h' : (conB K d u && conBs K ds us) = true := h
      rw [Bool.and_eq_true] at h'
      obtain ⟨v, h1, h2⟩ := conB_ok d h'.1
      obtain ⟨vs, h3, h4⟩ := conBs_ok ds h'.2
      exact ⟨v :: vs, .cons h1 h3, fun H => .cons (h2 H) (h4 H)⟩
end
def DefAt (K : PySem.W.Frag) (mg : Str → Option Value) (x : Str) (st : Stmt) : Prop := ∃ (f : Addr) (fd : FuncData), Fun K x x st f fd ∧ mg x = some (.ref f)
def ConAt (K : PySem.W.Frag) (mg : Str → Option Value) (x : Str) (d : D) : Prop := ∃ v u, mg x = some u ∧ RelV v u ∧ ∀ H, RpV K H v d
def ExcAt (K : PySem.W.Frag) (mg : Str → Option Value) (xt : XT) (j : Nat) (x : Str) : Prop := ∃ (C : Addr) (B newId initId : String) (bmB : List Value), xt.cls j = some C ∧ ExcBaseFacts B newId initId bmB ∧ PySem.W.excIn K C bmB newId = true ∧ mg x = some (.ref C) ∧ PySem.W.keepIn K (.ref C) = true ∧ PySem.W.subIn K (.ref C) (.type "BaseException") = some true ∧ PySem.W.typeIn K (.ref C) = some (.type "type")
def DefOk (P : Program) (w : World) (K : PySem.W.Frag) (mg : Str → Option Value) (base : Heap) (xt : XT) (k : Nat) (x : Str) (io : Bool) (fn : List D → FR) (n : Nat) : Prop :=
  ∃ (a : Addr) (fd : FuncData) (ps : List Str), mg x = some (.ref a) ∧ PySem.W.keepIn K (.ref a) = true ∧ Binds K fd ps [] ∧ FnOk P w K mg base (L2.CX P w) k a fd ps (FSp (xrOf xt) K io fn n)
theorem DefOk.mono {j k : Nat} {x : Str} {io : Bool} {fn : List D → FR} {n : Nat} (h : DefOk P w K mg base xt j x io fn n) (hj : j ≤ k) : DefOk P w K mg base xt k x io fn n :=
  let ⟨a, fd, ps, h1, h2, h3, h4⟩ := h
  ⟨a, fd, ps, h1, h2, h3, h4.mono hj⟩
theorem mk_ok {x : Str} {st : Stmt} {N ps : List Str} {k n : Nat} {T : Tb} {xm : Nat → Nat → Bool} {m : CkM} {io : Bool} {b : Ss} (A : DefAt K mg x st) (S : FnScope N ps (defScope st)) (hn : N.length = n) (hk : chkSs (ckOf m N (defScope st)) b (defBody st) = true)
    (hb : ∀ (kV doc pm : Value) (an : Option Addr) (cdv ct : Value) (us : List Value), us.length = ps.length → bindArgs (PySem.W.fnOf x x (defArgs st) (defBody st) (defScope st) .none kV doc pm an cdv ct) ⟨us, []⟩ = pure (ps.zip us))
    (fns : ∀ f x, m.fname f = some x → DefOk P w K mg base xt k x (T.io f) (T.fn f) (T.ar f)) (gds : ∀ g x, m.gname g = some x → ConAt K mg x (T.gd g)) (bl : ∀ x, m.blt x = true → mg x = none)
    (xs : ∀ j x, m.xname j = some x → ExcAt K mg xt j x) (exm : ∀ i C j C', xt.cls i = some C → xt.cls j = some C' → PySem.W.exmOne K (.ref C) (.ref C') = some (xm i j)) :
    DefOk P w K mg base xt (k + 1) x io (den T xm n io b) ps.length := by
  obtain ⟨f, fd, F, hm⟩ := A
  exact ⟨f, fd, ps, hm, F.kp, F.binds hb, den_def F S hn hk fns gds bl xs exm⟩
/-! ### the law -/
def spLaw (K : PySem.W.Frag) : Sp := fun vs H Q _ => ∃ (a : Addr) (ns : List Int), vs = [.ref a] ∧ SqL K H a (ns.map V.int) ∧ ns.length ≤ 63 ∧ ∀ H', Q (.bl true) H'
theorem ints_R {H : Hp} : ∀ ns : List Int, RpVs K H (ns.map V.int) (ns.map D.int)
  | [] => .nil
  | n :: ns => .cons (.int n) (ints_R ns)
theorem law_sp {fn : List D → FR} (hf : ∀ ns : List Int, ns.length ≤ 63 → ∃ o, fn [.rol (ns.map D.int)] = .ok (.bl true) o) : ∀ vs H Q E, spLaw K vs H Q E → FSp (xrOf xt) K false fn 1 vs H Q E := fun vs H Q E h => by
  obtain ⟨a, ns, rfl, hs, hl, q⟩ := h
  obtain ⟨o, e⟩ := hf ns hl
  have hh : Sub H (hid (fun _ => false) H) := fun a o e => hid_some.mpr ⟨rfl, e⟩
  refine ⟨fun _ => false, [], [.rol (ns.map D.int)], rfl, ⟨.cons (.rol (hh.l hs) (ints_R ns)) .nil, rfl⟩, .nil, fun _ z => (nomatch z), fun _ z => (nomatch z), ?_⟩
  rw [e]
  intro v H' Z' M' L _ _ _ _ x _ _
  cases x with
  | val x => cases x; exact q H'
theorem cx_none {P : Program} {w : World} {H : Hp} {s : Shared} {e : Value} {s' : Shared} (h : L2.CX P w [] H s (fun _ _ _ => False) e s') : False := by
  obtain ⟨_, _, _, _, _, _, _, _, _, _, _, _, z⟩ := h
  exact z
end
end Ev
namespace Ev
open PySem
/-! ### reckoning with the small language -/
section
variable {T : Tb} {xm : Nat → Nat → Bool} {env : En}
theorem e_cn (c : D) : evE T (.cn c) env = .ok (.v c) env := rfl
theorem e_nm (i : Nat) : evE T (.nm i) env = nmR i env := rfl
theorem e_gl (g : Nat) : evE T (.gl g) env = .ok (.v (T.gd g)) env := rfl
theorem e_tup (es : Es) : evE T (.tup es) env = (evs T es env).bind fun rs env => match gives rs env with
    | some (ds, env) => if Nat.ble ds.length big then .ok (.v (.tup ds)) env else .bad
    | none => .bad := rfl
theorem e_lst (es : Es) : evE T (.lst es) env = (evs T es env).bind fun rs env => match gives rs env with
    | some (ds, env) => if Nat.ble ds.length big then .ok (.v (.mls ds)) env else .bad
    | none => .bad := rfl
theorem e_bin (o : Bop) (a b : E) : evE T (.bin o a b) env = (evE T a env).bind fun r env => (evE T b env).bind fun s env => bin2 (binD o) r s env := rfl
theorem e_neg (a : E) : evE T (.neg a) env = (evE T a env).bind fun r env => match r with
    | .v (.int i) => .ok (.v (.int (-i))) env
    | _ => .bad := rfl
theorem e_not (a : E) : evE T (.not a) env = (evE T a env).bind fun r env => match r.tru env with
    | some k => .ok (.v (.bl (!k))) env
    | none => .bad := rfl
theorem e_cmp (o : Cop) (a b : E) : evE T (.cmp o a b) env = toV ((evE T a env).bind fun r env => (evE T b env).bind fun s env => cmp2B o r s env) := rfl
theorem e_cmp2 (o o' : Cop) (a b c : E) : evE T (.cmp2 o o' a b c) env = toV ((evE T a env).bind fun r env => (evE T b env).bind fun s env => (cmp2B o r s env).bind fun k env =>
      if k then (evE T c env).bind fun t env => cmp2B o' s t env else .ok false env) := rfl
theorem e_and (a : E) (es : Es) : evE T (.and a es) env = (evE T a env).bind fun r env => match r.tru env with
    | some true => evAnd T r es env
    | some false => .ok r env
    | none => .bad := rfl
theorem e_or (a : E) (es : Es) : evE T (.or a es) env = (evE T a env).bind fun r env => match r.tru env with
    | some true => .ok r env
    | some false => evOr T r es env
    | none => .bad := rfl
theorem e_ite (c a b : E) : evE T (.ite c a b) env = (evT T c env).bind fun k env => if k then evE T a env else evE T b env := rfl
theorem e_ix (a i : E) : evE T (.ix a i) env = (evE T a env).bind fun r env => (evE T i env).bind fun s env => bin2 ixD r s env := rfl
theorem e_sl (a : E) (lo hi : Oe) : evE T (.sl a lo hi) env = (evE T a env).bind fun r env => (evO T lo env).bind fun l env => (evO T hi env).bind fun h env => match r.view env with
    | some d => lift (slD d l h) env
    | none => .bad := rfl
theorem e_rev (a : E) : evE T (.rev a) env = (evE T a env).bind fun r env => match r.view env with
    | some d => lift (revD d) env
    | none => .bad := rfl
theorem e_call (f : Nat) (es : Es) : evE T (.call f es) env = (evs T es env).bind fun rs env => callR T f rs env := rfl
theorem e_bi (b : Bi) (es : Es) : evE T (.bi b es) env = (evs T es env).bind fun rs env => match views rs env with
    | some ds => lift (biD b ds) env
    | none => .bad := rfl
theorem e_isi (a : E) (t : Ty) : evE T (.isi a t) env = (evE T a env).bind fun r env => match r.cont env with
    | some d => .ok (.v (.bl (isiD d t))) env
    | none => .bad := rfl
theorem e_lc (el : E) (tg : Tg) (it : It) (c : Oe) (own : List Nat) : evE T (.lc el tg it c own) env = lcE (evI T it) (tgA tg) (evC T c) (evE T el) own env := rfl
theorem es_nil : evs T .nil env = .ok [] env := rfl
theorem es_cons (e : E) (es : Es) : evs T (.cons e es) env = (evE T e env).bind fun r env => (evs T es env).bind fun rs env => .ok (r :: rs) env := rfl
theorem eo_no : evO T .no env = .ok none env := rfl
theorem eo_so (e : E) : evO T (.so e) env = (evE T e env).bind fun r env => match r with
    | .v (.int i) => .ok (some i) env
    | _ => .bad := rfl
theorem ec_no : evC T .no env = .ok true env := rfl
theorem ec_so (e : E) : evC T (.so e) env = evT T e env := rfl
theorem ei_sq (e : E) : evI T (.sq e) env = (evE T e env).bind fun r env => match walk r env with
    | some (xs, o, env) => .ok (xs, o) env
    | none => .bad := rfl
theorem ei_r1 (a : E) : evI T (.r1 a) env = (evE T a env).bind fun r env => match rng1 r with
    | some xs => .ok (xs, none) env
    | none => .bad := rfl
theorem ei_r2 (a b : E) : evI T (.r2 a b) env = (evE T a env).bind fun r env => (evE T b env).bind fun s env => match rng2 r s with
    | some xs => .ok (xs, none) env
    | none => .bad := rfl
theorem et_not (a : E) : evT T (.not a) env = (evT T a env).bind fun b env => .ok (!b) env := rfl
theorem et_cmp (o : Cop) (a b : E) : evT T (.cmp o a b) env = (evE T a env).bind fun r env => (evE T b env).bind fun s env => cmp2B o r s env := rfl
theorem et_cmp2 (o o' : Cop) (a b c : E) : evT T (.cmp2 o o' a b c) env = (evE T a env).bind fun r env => (evE T b env).bind fun s env => (cmp2B o r s env).bind fun k env =>
      if k then (evE T c env).bind fun t env => cmp2B o' s t env else .ok false env := rfl
theorem et_and (a : E) (es : Es) : evT T (.and a es) env = (evT T a env).bind fun k env => if k then evTand T es env else .ok false env := rfl
theorem et_or (a : E) (es : Es) : evT T (.or a es) env = (evT T a env).bind fun k env => if k then .ok true env else evTor T es env := rfl
theorem et_cn (c : D) : evT T (.cn c) env = liftB (truD c) env := rfl
theorem et_nm (i : Nat) : evT T (.nm i) env = (nmR i env).bind fun r env => liftB (r.tru env) env := rfl
theorem et_ix (a i : E) : evT T (.ix a i) env = (evE T a env).bind fun r env => (evE T i env).bind fun s env => (bin2 ixD r s env).bind fun r env => liftB (r.tru env) env := rfl
theorem et_call (f : Nat) (es : Es) : evT T (.call f es) env = (evs T es env).bind fun rs env => (callR T f rs env).bind fun r env => liftB (r.tru env) env := rfl
theorem et_bi (b : Bi) (es : Es) : evT T (.bi b es) env = (evs T es env).bind fun rs env => match views rs env with
    | some ds => (lift (biD b ds) env).bind fun r env => liftB (r.tru env) env
    | none => .bad := rfl
theorem et_isi (a : E) (t : Ty) : evT T (.isi a t) env = (evE T a env).bind fun r env => match r.cont env with
    | some d => .ok (isiD d t) env
    | none => .bad := rfl
theorem ea_nil (r : RV) : evAnd T r .nil env = .ok r env := rfl
theorem ea_cons (r : RV) (e : E) (es : Es) : evAnd T r (.cons e es) env = (evE T e env).bind fun s env => match s.tru env with
    | some true => evAnd T s es env
    | some false => .ok s env
    | none => .bad := rfl
theorem er_nil (r : RV) : evOr T r .nil env = .ok r env := rfl
theorem er_cons (r : RV) (e : E) (es : Es) : evOr T r (.cons e es) env = (evE T e env).bind fun s env => match s.tru env with
    | some true => .ok s env
    | some false => evOr T s es env
    | none => .bad := rfl
theorem eta_nil : evTand T .nil env = .ok true env := rfl
theorem eta_cons (e : E) (es : Es) : evTand T (.cons e es) env = (evT T e env).bind fun k env => if k then evTand T es env else .ok false env := rfl
theorem etr_nil : evTor T .nil env = .ok false env := rfl
theorem etr_cons (e : E) (es : Es) : evTor T (.cons e es) env = (evT T e env).bind fun k env => if k then .ok true env else evTor T es env := rfl
theorem s_nil : evSs T xm .nil env = .ok .nx env := rfl
theorem s_cons (s : S) (ss : Ss) : evSs T xm (.cons s ss) env = seqK (evSs T xm ss) (evS T xm s env) := rfl
theorem s_asg (t : Tg) (e : E) : evS T xm (.asg t e) env = (evE T e env).bind fun r env => match r.take env with
    | some (d, env) => match tgA t d env with
      | some env => .ok .nx env
      | none => .bad
    | none => .bad := rfl
theorem s_par (is : List Nat) (es : Es) : evS T xm (.par is es) env = (evs T es env).bind fun rs env => match takes rs env with
    | some (ds, env) => match setNs is ds env with
      | some env => .ok .nx env
      | none => .bad
    | none => .bad := rfl
theorem s_app (i : Nat) (e : E) : evS T xm (.app i e) env = if isM env i then (evE T e env).bind fun r env => match r.give env with
      | some (d, env) => appD i d env
      | none => .bad
    else .bad := rfl
theorem s_ext (i : Nat) (e : E) : evS T xm (.ext i e) env = if isM env i then (evE T e env).bind fun r env => match r.view env with
      | some d => extD i d env
      | none => .bad
    else .bad := rfl
theorem s_setix (i : Nat) (k e : E) : evS T xm (.setix i k e) env = (evE T e env).bind fun r env => match r.give env with
    | some (d, env) => if isOn env i then (evE T k env).bind fun s env => setD i s d env else .bad
    | none => .bad := rfl
theorem s_aug (i : Nat) (o : Bop) (e : E) : evS T xm (.aug i o e) env = match env[i]? with
    | some (.on (.int a)) => (evE T e env).bind fun r env => match r with
      | .v (.int b) => match augD o a b with
        | some c => match tgA (.nm i) (.int c) env with
          | some env => .ok .nx env
          | none => .bad
        | none => .bad
      | _ => .bad
    | _ => .bad := rfl
theorem s_iff (c : E) (a b : Ss) : evS T xm (.iff c a b) env = (evT T c env).bind fun k env => if k then evSs T xm a env else evSs T xm b env := rfl
theorem s_whl (c : E) (b : Ss) : evS T xm (.whl c b) env = whlGo (evT T c) (evSs T xm b) WF env := rfl
theorem s_forr (t : Tg) (it : It) (b : Ss) : evS T xm (.forr t it b) env = (evI T it env).bind fun w env => if hdFree w.2 (t.sl ++ b.wr) then forEnd w.2 (forGo (forStep (tgA t) (evSs T xm b)) w.1 env) else .bad := rfl
theorem s_ret (e : E) : evS T xm (.ret e) env = (evE T e env).bind fun r env => match r.move env with
    | some (d, env) => .ok (.rt d) env
    | none => .bad := rfl
theorem s_retN : evS T xm .retN env = .ok (.rt .non) env := rfl
theorem s_brk : evS T xm .brk env = .ok .br env := rfl
theorem s_cnt : evS T xm .cnt env = .ok .ct env := rfl
theorem s_pass : evS T xm .pass env = .ok .nx env := rfl
theorem s_expr (e : E) : evS T xm (.expr e) env = (evE T e env).bind fun _ env => .ok .nx env := rfl
theorem s_raise (x : Nat) (es : Es) : evS T xm (.raise x es) env = (evs T es env).bind fun _ env => .ex x none env := rfl
theorem s_tri (b : Ss) (x : Nat) (h : Ss) : evS T xm (.tri b x h) env = triK xm x h (evSs T xm b env) := rfl
theorem v_non : D.view (D.non) = some (D.non) := rfl
theorem n_non : D.noM (D.non) = true := rfl
theorem f_non : D.fz (D.non) = D.non := rfl
theorem v_bl (b : Bool) : D.view (D.bl b) = some (D.bl b) := rfl
theorem n_bl (b : Bool) : D.noM (D.bl b) = true := rfl
theorem f_bl (b : Bool) : D.fz (D.bl b) = D.bl b := rfl
theorem v_int (i : Int) : D.view (D.int i) = some (D.int i) := rfl
theorem n_int (i : Int) : D.noM (D.int i) = true := rfl
theorem f_int (i : Int) : D.fz (D.int i) = D.int i := rfl
theorem v_str (x : Str) : D.view (D.str x) = some (D.str x) := rfl
theorem n_str (x : Str) : D.noM (D.str x) = true := rfl
theorem f_str (x : Str) : D.fz (D.str x) = D.str x := rfl
theorem v_tup (xs : List D) : D.view (D.tup xs) = some (D.tup xs) := rfl
theorem n_tup (xs : List D) : D.noM (D.tup xs) = D.noMs xs := rfl
theorem f_tup (xs : List D) : D.fz (D.tup xs) = .tup (D.fzs xs) := rfl
theorem v_lst (xs : List D) : D.view (D.lst xs) = some (D.lst xs) := rfl
theorem n_lst (xs : List D) : D.noM (D.lst xs) = D.noMs xs := rfl
theorem f_lst (xs : List D) : D.fz (D.lst xs) = .lst (D.fzs xs) := rfl
theorem v_rol (xs : List D) : D.view (D.rol xs) = some (D.rol xs) := rfl
theorem n_rol (xs : List D) : D.noM (D.rol xs) = D.noMs xs := rfl
theorem f_rol (xs : List D) : D.fz (D.rol xs) = .rol (D.fzs xs) := rfl
theorem v_mls (xs : List D) : D.view (.mls xs) = if D.noMs xs then some (.lst xs) else none := rfl
theorem n_mls (xs : List D) : D.noM (.mls xs) = false := rfl
theorem f_mls (xs : List D) : D.fz (.mls xs) = .lst (D.fzs xs) := rfl
theorem rv_v (d : D) : RV.view (.v d) env = d.view := rfl
theorem rg_v (d : D) : RV.give (.v d) env = some (d.fz, env) := rfl
theorem rt_v (d : D) : RV.take (.v d) env = some (d, env) := rfl
theorem rm_v (d : D) : RV.move (.v d) env = some (d, env) := rfl
theorem rc_v (d : D) : RV.cont (.v d) env = some d := rfl
theorem rr_v (d : D) : RV.tru (.v d) env = truD d := rfl
theorem rv_r (i : Nat) : RV.view (.ref i) env = (match env[i]? with
    | some (.on d) => d.view
    | some (.lk d) => d.view
    | _ => none) := rfl
theorem rg_r (i : Nat) : RV.give (.ref i) env = (match env[i]? with
    | some (.on d) => some (d.fz, env.set i (.on d.fz))
    | _ => none) := rfl
theorem rt_r (i : Nat) : RV.take (.ref i) env = (match env[i]? with
    | some (.on d) => some (d.fz, env.set i (.on d.fz))
    | _ => none) := rfl
theorem rm_r (i : Nat) : RV.move (.ref i) env = (match env[i]? with
    | some (.on d) => some (d, env.set i .un)
    | _ => none) := rfl
theorem rc_r (i : Nat) : RV.cont (.ref i) env = (match env[i]? with
    | some (.on d) => some d
    | some (.lk d) => some d
    | _ => none) := rfl
theorem rr_r (i : Nat) : RV.tru (.ref i) env = (match (RV.ref i).cont env with
    | some d => truD d
    | none => none) := rfl
theorem t_nm (i : Nat) (d : D) : tgA (.nm i) d env = (match env[i]? with
    | some .un => some (env.set i (.on d))
    | some (.on _) => some (env.set i (.on d))
    | _ => none) := rfl
theorem t_tp (ts : Tgs) (ds : List D) : tgA (.tp ts) (.tup ds) env = tgAs ts ds env := rfl
theorem ts_nil : tgAs .nil [] env = some env := rfl
theorem ts_cons (t : Tg) (ts : Tgs) (d : D) (ds : List D) : tgAs (.cons t ts) (d :: ds) env = (match tgA t d env with
    | some env1 => tgAs ts ds env1
    | none => none) := rfl
theorem setNs_nil : setNs [] [] env = some env := rfl
theorem setNs_cons (i : Nat) (is : List Nat) (d : D) (ds : List D) : setNs (i :: is) (d :: ds) env = (match tgA (.nm i) d env with
    | some env1 => setNs is ds env1
    | none => none) := rfl
theorem b_ok {α β : Type} (a : α) (k : α → En → Res β) : (Res.ok a env).bind k = k a env := rfl
theorem b_ex {α β : Type} (c : Nat) (p : Option D) (k : α → En → Res β) : (Res.ex c p env : Res α).bind k = .ex c p env := rfl
theorem b_bad {α β : Type} (k : α → En → Res β) : (Res.bad : Res α).bind k = .bad := rfl
end
/-! ### mirrors of loops: E makes the slots of a state -/
inductive Out (β : Type) | nx (b : β) | br (b : β) | rt (d : D) (b : β) | ex (c : Nat) (p : Option D) (b : β) | bad
def Out.res {β : Type} (E : β → En) : Out β → Res Fl
  | .nx b => .ok .nx (E b)
  | .br b => .ok .br (E b)
  | .rt d b => .ok (.rt d) (E b)
  | .ex c p b => .ex c p (E b)
  | .bad => .bad
def forN {α β : Type} (m : α → β → Out β) : List α → β → Out β
  | [], b => .nx b
  | x :: xs, b => match m x b with
    | .nx b => forN m xs b
    | .br b => .nx b
    | .rt d b => .rt d b
    | .ex c p b => .ex c p b
    | .bad => .bad
theorem forGo_mirror {α β : Type} {step : D → En → Res Fl} (E : β → En) (f : α → D) (m : α → β → Out β) : ∀ (xs : List α) (b : β), (∀ x ∈ xs, ∀ b, step (f x) (E b) = (m x b).res E) → forGo step (xs.map f) (E b) = (forN m xs b).res E
  | [], b, _ => rfl
  | x :: xs, b, hs => by
    show loopK (forGo step (xs.map f)) (step (f x) (E b)) = _
    rw [hs x List.mem_cons_self b]
    unfold forN
    cases m x b with
    | nx b => exact forGo_mirror E f m xs b fun y hy => hs y (List.mem_cons_of_mem _ hy)
    | _ => rfl
/-- a slot that holds something or nothing -/
def so : Option D → Slot
  | some d => .on d
  | none => .un
theorem so_some (d : D) : so (some d) = .on d := rfl
theorem so_none : so none = .un := rfl
theorem t_so {i : Nat} {d : D} {env : En} {b : Option D} (h : env[i]? = some (so b)) : tgA (.nm i) d env = some (env.set i (.on d)) := by
  rw [t_nm, h]
  cases b <;> rfl
def whlN {β : Type} (t : β → Bool) (m : β → Out β) : Nat → β → Out β
  | 0, _ => .bad
  | n + 1, b => if t b then match m b with
      | .nx b => whlN t m n b
      | .br b => .nx b
      | .rt d b => .rt d b
      | .ex c p b => .ex c p b
      | .bad => .bad
    else .nx b
theorem whlGo_mirror {β : Type} {test : En → Res Bool} {body : En → Res Fl} (E : β → En) (t : β → Bool) (m : β → Out β) (ht : ∀ b, test (E b) = .ok (t b) (E b)) (hb : ∀ b, t b = true → body (E b) = (m b).res E) : ∀ (n : Nat) (b : β), whlGo test body n (E b) = (whlN t m n b).res E
  | 0, b => rfl
  | n + 1, b => by
    show ((test (E b)).bind fun k env1 => if k then loopK (whlGo test body n) (body env1) else .ok .nx env1) = _
    rw [ht b]
    show (if t b then loopK (whlGo test body n) (body (E b)) else .ok .nx (E b)) = _
    unfold whlN
    cases h : t b with
    | false => rfl
    | true =>
      rw [if_pos rfl, if_pos rfl, hb b h]
      cases m b with
      | nx b => exact whlGo_mirror E t m ht hb n b
      | _ => rfl
/-- a comprehension that never fails -/
theorem lcGo_filterM {α β : Type} {step : D → En → Res (Option D)} (E : β → En) (f : α → D) (p : α → Bool) (h : α → D) (g : α → β → β) :
    ∀ (xs : List α) (acc : List D) (b : β), (∀ x ∈ xs, ∀ b, step (f x) (E b) = .ok (if p x then some (h x) else none) (E (g x b))) → acc.length + xs.length ≤ big → lcGo step (xs.map f) acc (E b) = .ok (acc ++ (xs.filter p).map h) (E (xs.foldl (fun b x => g x b) b))
  | [], acc, b, _, _ => by simp [lcGo]
  | x :: xs, acc, b, hs, hl => by
    have hl' : acc.length + (xs.length + 1) ≤ big := hl
    show (match step (f x) (E b) with
      | .ok (some y) env1 => if Nat.blt acc.length big then lcGo step (xs.map f) (acc ++ [y]) env1 else .bad
      | .ok none env1 => lcGo step (xs.map f) acc env1
      | _ => .bad) = _
    rw [hs x List.mem_cons_self b]
    have hs' := fun y hy => hs y (List.mem_cons_of_mem _ hy)
    cases hp : p x with
    | false =>
      simp only [Bool.false_eq_true, if_false]
      rw [lcGo_filterM E f p h g xs acc _ hs' (by omega)]
      simp [hp]
    | true =>
      simp only [if_true]
      rw [if_pos (show Nat.blt acc.length big = true from Nat.ble_eq_true_of_le (by omega)), lcGo_filterM E f p h g xs _ _ hs' (by rw [List.length_append, List.length_singleton]; omega)]
      simp [hp]
theorem lcGo_filter {α β : Type} {step : D → En → Res (Option D)} (E : β → En) (f : α → D) (p : α → Bool) (h : α → D) (g : α → β → β) (hs : ∀ x b, step (f x) (E b) = .ok (if p x then some (h x) else none) (E (g x b)))
    (xs : List α) (acc : List D) (b : β) (hl : acc.length + xs.length ≤ big) : lcGo step (xs.map f) acc (E b) = .ok (acc ++ (xs.filter p).map h) (E (xs.foldl (fun b x => g x b) b)) := lcGo_filterM E f p h g xs acc b (fun x _ b => hs x b) hl
theorem lcGo_map {α β : Type} {step : D → En → Res (Option D)} (E : β → En) (f : α → D) (h : α → D) (g : α → β → β) (hs : ∀ x b, step (f x) (E b) = .ok (some (h x)) (E (g x b))) (xs : List α) (acc : List D) (b : β) (hl : acc.length + xs.length ≤ big) :
    lcGo step (xs.map f) acc (E b) = .ok (acc ++ xs.map h) (E (xs.foldl (fun b x => g x b) b)) := by
  have := lcGo_filter (step := step) E f (fun _ => true) h g (fun x b => by rw [hs x b]; rfl) xs acc b hl
  rwa [List.filter_eq_self.mpr fun _ _ => rfl] at this
/-- the items hang on the state -/
def lcN {α β : Type} (m : α → β → Option (Option D × β)) : List α → List D → β → Option (List D × β)
  | [], acc, b => some (acc, b)
  | x :: xs, acc, b => match m x b with
    | some (some y, b) => if Nat.blt acc.length big then lcN m xs (acc ++ [y]) b else none
    | some (none, b) => lcN m xs acc b
    | none => none
theorem lcGo_mirror {α β : Type} {step : D → En → Res (Option D)} (E : β → En) (f : α → D) (m : α → β → Option (Option D × β)) (hs : ∀ x b, step (f x) (E b) = match m x b with
    | some (y, b) => .ok y (E b)
    | none => .bad) : ∀ (xs : List α) (acc : List D) (b : β), lcGo step (xs.map f) acc (E b) = match lcN m xs acc b with
    | some (ys, b) => .ok ys (E b)
    | none => .bad
  | [], acc, b => rfl
  | x :: xs, acc, b => by
    show (match step (f x) (E b) with
      | .ok (some y) env1 => if Nat.blt acc.length big then lcGo step (xs.map f) (acc ++ [y]) env1 else .bad
      | .ok none env1 => lcGo step (xs.map f) acc env1
      | _ => .bad) = _
    rw [hs x b]
    unfold lcN
    cases m x b with
    | none => rfl
    | some yb =>
      obtain ⟨y, b'⟩ := yb
      cases y with
      | none => exact lcGo_mirror E f m hs xs acc b'
      | some y =>
        dsimp only
        split
        · exact lcGo_mirror E f m hs xs _ b'
        · rfl
/-! ### data -/
theorem eqD_str (a b : Str) : eqD (.str a) (.str b) = decide (a = b) := by
  unfold eqD
  simp [D.toP, PyData.eqv]
  rfl
theorem eqD_int (a b : Int) : eqD (.int a) (.int b) = decide (a = b) := by
  unfold eqD
  simp [D.toP, PyData.eqv]
  rfl
theorem inD_strs (x : Str) (fs : List Str) : inD (.str x) (fs.map D.str) = some (decide (x ∈ fs)) := by
  unfold inD
  have h1 : (flat (.str x) && (fs.map D.str).all flat) = true := by simp [flat]
  rw [if_pos h1]
  congr 1
  simp only [List.any_map]
  rw [Bool.eq_iff_iff]
  simp [eqD_str, Function.comp]
theorem bools_map (bs : List Bool) : bools (bs.map D.bl) = some bs := by
  induction bs with
  | nil => rfl
  | cons b bs ih => simp [bools, ih]
theorem noMs_map {α : Type} {f : α → D} (h : ∀ a, (f a).noM = true) : ∀ xs : List α, D.noMs (xs.map f) = true
  | [] => rfl
  | x :: xs => by
    show ((f x).noM && D.noMs (xs.map f)) = true
    rw [h x, noMs_map h xs]; rfl
theorem noLs_map {α : Type} {f : α → D} (h : ∀ a, (f a).noL = true) : ∀ xs : List α, D.noLs (xs.map f) = true
  | [] => rfl
  | x :: xs => by
    show ((f x).noL && D.noLs (xs.map f)) = true
    rw [h x, noLs_map h xs]; rfl
mutual
theorem fz_of_noM : ∀ d : D, d.noM = true → d.fz = d
  | .mls _, h => by cases h
  | .tup xs, h => by show D.tup (D.fzs xs) = _; rw [fzs_of_noM xs h]
  | .lst xs, h => by show D.lst (D.fzs xs) = _; rw [fzs_of_noM xs h]
  | .rol xs, h => by show D.rol (D.fzs xs) = _; rw [fzs_of_noM xs h]
  | .non, _ => rfl
  | .bl _, _ => rfl
  | .int _, _ => rfl
  | .str _, _ => rfl
theorem fzs_of_noM : ∀ ds : List D, D.noMs ds = true → D.fzs ds = ds
  | [], _ => rfl
  | d :: ds, h => by
    have h' : (D.noM d && D.noMs ds) = true := h
    rw [Bool.and_eq_true] at h'
    show D.fz d :: D.fzs ds = _
    rw [fz_of_noM d h'.1, fzs_of_noM ds h'.2]
end
theorem view_noM {d : D} (h : d.noM = true) : d.view = some d := by cases d <;> first | rfl | cases h
theorem getI_last {α : Type} (f : α → D) (xs : List α) : getI (xs.map f) (-1) = xs.getLast?.map f := by
  unfold getI
  rw [if_neg (by decide)]
  cases xs with
  | nil => rfl
  | cons x xs =>
    rw [if_pos (by rw [decide_eq_true_eq]; simp; omega)]
    rw [List.getLast?_eq_getElem?]
    have : ((-1 : Int) + ((List.map f (x :: xs)).length : Int)).toNat = (x :: xs).length - 1 := by simp; omega
    rw [this, List.getElem?_map]
theorem slL_init {α : Type} (xs : List α) : slL xs none (some (-1)) = xs.dropLast := by
  unfold slL slN
  rw [List.dropLast_eq_take]
  simp
  congr 1
  omega
theorem i_len_l (xs : List D) : biD .len [.lst xs] = some (.int xs.length) := rfl
theorem i_len_t (xs : List D) : biD .len [.tup xs] = some (.int xs.length) := rfl
theorem i_int_i (i : Int) : biD .int [.int i] = some (.int i) := rfl
theorem i_int_b (b : Bool) : biD .int [.bl b] = some (.int (if b then 1 else 0)) := rfl
theorem i_abs (i : Int) : biD .abs [.int i] = some (.int (if i < 0 then -i else i)) := rfl
theorem i_tup_l (xs : List D) : biD .tuple [.lst xs] = some (.tup xs) := rfl
theorem i_tup_t (xs : List D) : biD .tuple [.tup xs] = some (.tup xs) := rfl
theorem i_lst_l (xs : List D) : biD .list [.lst xs] = some (.mls xs) := rfl
theorem i_lst_t (xs : List D) : biD .list [.tup xs] = some (.mls xs) := rfl
theorem i_all {α : Type} (xs : List α) (p : α → Bool) : biD .all [.lst (xs.map fun x => D.bl (p x))] = some (.bl (xs.all p)) := by
  have e : (xs.map fun x => D.bl (p x)) = (xs.map p).map D.bl := by rw [List.map_map]; rfl
  show bi1 .all (.lst _) = _
  rw [e]
  simp only [bi1, bools_map, List.all_map, Function.comp]
  rfl
theorem i_any {α : Type} (xs : List α) (p : α → Bool) : biD .any [.lst (xs.map fun x => D.bl (p x))] = some (.bl (xs.any p)) := by
  have e : (xs.map fun x => D.bl (p x)) = (xs.map p).map D.bl := by rw [List.map_map]; rfl
  show bi1 .any (.lst _) = _
  rw [e]
  simp only [bi1, bools_map, List.any_map, Function.comp]
  rfl
theorem noMs_bl {α : Type} (xs : List α) (p : α → Bool) : D.noMs (xs.map fun x => D.bl (p x)) = true := noMs_map (fun _ => rfl) xs
theorem noMs_str (xs : List Str) : D.noMs (xs.map D.str) = true := noMs_map (fun _ => rfl) xs
theorem noMs_int (xs : List Int) : D.noMs (xs.map D.int) = true := noMs_map (fun _ => rfl) xs
theorem fzs_str (xs : List Str) : D.fzs (xs.map D.str) = xs.map D.str := fzs_of_noM _ (noMs_str xs)
theorem fzs_int (xs : List Int) : D.fzs (xs.map D.int) = xs.map D.int := fzs_of_noM _ (noMs_int xs)
theorem noMs_nil : D.noMs [] = true := rfl
theorem fzs_nil : D.fzs [] = [] := rfl
theorem noMs_cons (d : D) (ds : List D) : D.noMs (d :: ds) = (d.noM && D.noMs ds) := rfl
theorem fzs_cons (d : D) (ds : List D) : D.fzs (d :: ds) = d.fz :: D.fzs ds := rfl
theorem big0 : Nat.ble 0 big = true := by decide +kernel
theorem big1 : Nat.ble 1 big = true := by decide +kernel
theorem big2 : Nat.ble 2 big = true := by decide +kernel
theorem big3 : Nat.ble 3 big = true := by decide +kernel
theorem big4 : Nat.ble 4 big = true := by decide +kernel
theorem innO_strs (x : Str) (fs : List Str) : innO (.str x) (.lst (fs.map D.str)) = some (decide (x ∈ fs)) := inD_strs x fs
theorem innO_strsT (x : Str) (fs : List Str) : innO (.str x) (.tup (fs.map D.str)) = some (decide (x ∈ fs)) := inD_strs x fs
theorem ninO_strs (x : Str) (fs : List Str) : ninO (.str x) (.lst (fs.map D.str)) = some (!decide (x ∈ fs)) := by
  unfold ninO; rw [innO_strs]; rfl
theorem ninO_strsT (x : Str) (fs : List Str) : ninO (.str x) (.tup (fs.map D.str)) = some (!decide (x ∈ fs)) := by
  unfold ninO; rw [innO_strsT]; rfl
theorem eqO_str (a b : Str) : eqO (.str a) (.str b) = some (decide (a = b)) := by show some (eqD (.str a) (.str b)) = _; rw [eqD_str]
theorem eqO_int (a b : Int) : eqO (.int a) (.int b) = some (decide (a = b)) := by show some (eqD (.int a) (.int b)) = _; rw [eqD_int]
theorem addO_int (a b : Int) : addD (.int a) (.int b) = some (.int (a + b)) := rfl
theorem subO_int (a b : Int) : subD (.int a) (.int b) = some (.int (a - b)) := rfl
/-! ### calls -/
section
variable {T : Tb} {f : Nat} {rs : List RV} {env env1 : En} {d o d0 : D} {i : Nat}
theorem c_lent (ha : rs.length = T.ar f) (hio : T.io f = false) (ho : oneRef rs = some i) (he : env[i]? = some (.on d0)) (hf : T.fn f (rs.map (lendTo d0)) = .ok d o) (hn : d.noL = true) : callR T f rs env = .ok (.v d) env := by
  unfold callR
  rw [if_neg (by simp [ha]), hio, if_neg Bool.false_ne_true, ho]
  dsimp only
  rw [he]
  dsimp only
  rw [hf]
  dsimp only
  rw [if_pos hn]
theorem c_lentL (ha : rs.length = T.ar f) (hio : T.io f = false) (ho : oneRef rs = some i) (he : env[i]? = some (.on d0)) (hf : T.fn f (rs.map (lendTo d0)) = .ok d o) (hn : d.noL = false) : callR T f rs env = .ok (.v d) (env.set i (.on d0.fz)) := by
  unfold callR
  rw [if_neg (by simp [ha]), hio, if_neg Bool.false_ne_true, ho]
  dsimp only
  rw [he]
  dsimp only
  rw [hf]
  dsimp only
  rw [if_neg (by rw [hn]; exact Bool.false_ne_true)]
theorem c_give {ds : List D} (ha : rs.length = T.ar f) (hio : T.io f = false) (ho : oneRef rs = none) (hg : gives rs env = some (ds, env1)) (hf : T.fn f ds = .ok d o) : callR T f rs env = .ok (.v d) env1 := by
  unfold callR
  rw [if_neg (by simp [ha]), hio, if_neg Bool.false_ne_true, ho]
  dsimp only
  rw [hg]
  dsimp only
  rw [hf]
theorem c_giveX {ds : List D} {c : Nat} {p : Option D} (ha : rs.length = T.ar f) (hio : T.io f = false) (ho : oneRef rs = none) (hg : gives rs env = some (ds, env1)) (hf : T.fn f ds = .ex c p) : callR T f rs env = .ex c p env1 := by
  unfold callR
  rw [if_neg (by simp [ha]), hio, if_neg Bool.false_ne_true, ho]
  dsimp only
  rw [hg]
  dsimp only
  rw [hf]
theorem c_io {rest : List RV} {ds : List D} (ha : (RV.ref i :: rest).length = T.ar f) (hio : T.io f = true) (he : env[i]? = some (.on d0)) (hg : gives rest (env.set i .un) = some (ds, env1)) (hf : T.fn f (d0 :: ds) = .ok d o) (hu : env1[i]? = some .un) : callR T f (.ref i :: rest) env = .ok (.v d) (env1.set i (.on o)) := by
  unfold callR
  rw [if_neg (by simp at ha; simp [ha]), hio, if_pos rfl]
  dsimp only
  rw [he]
  dsimp only
  rw [hg]
  dsimp only
  rw [hf]
  dsimp only
  rw [hu]
end
/-! ### a comprehension with one name -/
theorem set_back {env : En} {i : Nat} {s : Slot} (h : env[i]? = some s) (t : Slot) : (env.set i t).set i s = env := by
  apply List.ext_getElem?
  intro j
  by_cases hj : i = j
  · subst hj
    have hl : i < env.length := by
      rcases Nat.lt_or_ge i env.length with q | q
      · exact q
      · rw [List.getElem?_eq_none q] at h; cases h
    rw [List.getElem?_set_self (by rw [List.length_set]; exact hl), h]
  · rw [List.getElem?_set_ne hj, List.getElem?_set_ne hj]
theorem lc_nmM {α : Type} {i : Nat} {env env1 env2 : En} {s : Slot} {hd : Option (Nat × D)} {w : En → Res (List D × Option (Nat × D))} {cf : En → Res Bool} {el : En → Res RV} (f : α → D) (p : α → Bool) (h : α → D) (xs : List α)
    (hw : w env = .ok (xs.map f, hd) env1) (hi : env1[i]? = some s) (hp : plainAt env1 i = true) (hl : xs.length ≤ big) (hu : unlk hd env1 = some env2)
    (hc : ∀ x ∈ xs, cf (env1.set i (.on (f x))) = .ok (p x) (env1.set i (.on (f x)))) (he : ∀ x ∈ xs, p x = true → ∃ r, el (env1.set i (.on (f x))) = .ok r (env1.set i (.on (f x))) ∧ r.give (env1.set i (.on (f x))) = some (h x, env1.set i (.on (f x)))) :
    lcE w (tgA (.nm i)) cf el [i] env = .ok (.v (.mls ((xs.filter p).map h))) env2 := by
  have hs : ∀ x ∈ xs, ∀ (b : Slot), lcStep (tgA (.nm i)) cf el [i] (f x) (env1.set i b) = .ok (if p x then some (h x) else none) (env1.set i (.on (f x)))   := fun x hx b => by
    have e1 : wipeE (env1.set i b) [i] = env1.set i .un := by show (env1.set i b).set i .un = _; rw [set_set]
    have e2 : tgA (.nm i) (f x) (env1.set i .un) = some (env1.set i (.on (f x))) := by
      rw [t_nm, set_un hi]
      show some ((env1.set i .un).set i (.on (f x))) = _
      rw [set_set]
    unfold lcStep
    rw [e1, e2]
    show ((cf (env1.set i (.on (f x)))).bind _) = _
    rw [hc x hx]
    cases q : p x with
    | false => rfl
    | true =>
      obtain ⟨r, q1, q2⟩ := he x hx q
      show ((el (env1.set i (.on (f x)))).bind _) = _
      rw [q1]
      show (match r.give (env1.set i (.on (f x))) with
        | some (d, env) => Res.ok (some d) env
        | none => Res.bad) = _
      rw [q2]; rfl
  have q := lcGo_filterM (fun b => env1.set i b) f p h (fun x _ => .on (f x)) xs [] s hs (by simpa using hl)
  have es : env1.set i s = env1 := by rw [← set_set (s := Slot.un)]; exact set_back hi _
  simp only [es, List.nil_append] at q
  unfold lcE
  rw [hw]
  show (if [i].all (plainAt env1) then lcFin env1 hd [i] (lcGo (lcStep (tgA (.nm i)) cf el [i]) (xs.map f) [] env1) else .bad) = _
  rw [if_pos (by rw [List.all_cons, hp]; rfl), q]
  have eb : ∀ b : Slot, backE env1 (wipeE (env1.set i b) [i]) [i] = env1 := fun b => by
    show ((env1.set i b).set i .un).set i (match env1[i]? with | some s => s | none => .un) = _
    rw [hi, set_set]
    exact set_back hi _
  show (match unlk hd (backE env1 (wipeE (env1.set i _) [i]) [i]) with
    | some env2 => Res.ok (RV.v (.mls ((xs.filter p).map h))) env2
    | none => .bad) = _
  rw [eb, hu]
theorem lc_nm {α : Type} {i : Nat} {env env1 env2 : En} {s : Slot} {hd : Option (Nat × D)} {w : En → Res (List D × Option (Nat × D))} {cf : En → Res Bool} {el : En → Res RV} (f : α → D) (p : α → Bool) (h : α → D) (xs : List α)
    (hw : w env = .ok (xs.map f, hd) env1) (hi : env1[i]? = some s) (hp : plainAt env1 i = true) (hl : xs.length ≤ big) (hu : unlk hd env1 = some env2)
    (hc : ∀ x, cf (env1.set i (.on (f x))) = .ok (p x) (env1.set i (.on (f x)))) (he : ∀ x, p x = true → ∃ r, el (env1.set i (.on (f x))) = .ok r (env1.set i (.on (f x))) ∧ r.give (env1.set i (.on (f x))) = some (h x, env1.set i (.on (f x)))) :
    lcE w (tgA (.nm i)) cf el [i] env = .ok (.v (.mls ((xs.filter p).map h))) env2 := lc_nmM f p h xs hw hi hp hl hu (fun x _ => hc x) (fun x _ => he x)
theorem lc_nm_map {α : Type} {i : Nat} {env env1 env2 : En} {s : Slot} {hd : Option (Nat × D)} {w : En → Res (List D × Option (Nat × D))} {cf : En → Res Bool} {el : En → Res RV} (f : α → D) (h : α → D) (xs : List α)
    (hw : w env = .ok (xs.map f, hd) env1) (hi : env1[i]? = some s) (hp : plainAt env1 i = true) (hl : xs.length ≤ big) (hu : unlk hd env1 = some env2)
    (hc : ∀ x, cf (env1.set i (.on (f x))) = .ok true (env1.set i (.on (f x)))) (he : ∀ x, ∃ r, el (env1.set i (.on (f x))) = .ok r (env1.set i (.on (f x))) ∧ r.give (env1.set i (.on (f x))) = some (h x, env1.set i (.on (f x)))) :
    lcE w (tgA (.nm i)) cf el [i] env = .ok (.v (.mls (xs.map h))) env2 := by
  have := lc_nm f (fun _ => true) h xs hw hi hp hl hu hc (fun x _ => he x)
  rwa [List.filter_eq_self.mpr fun _ _ => rfl] at this
end Ev
namespace K05
open Ev PySem PySem.Spec PyProof.Rows L2
def top (i : Nat) : Stmt := PySem.Challenge.pw_stridekinds_k05_arrows_and_bars.main.body.getD i (.Pass ⟨0, 0, 0, 0⟩)
def c_WORDS : D := (D.tup [(D.str ⟨#[113, 117, 105, 99, 107]⟩), (D.str ⟨#[119, 97, 105, 116]⟩), (D.str ⟨#[108, 111, 99, 107]⟩), (D.str ⟨#[97, 108, 111, 110, 101]⟩), (D.str ⟨#[115, 116, 97, 114, 118, 101]⟩), (D.str ⟨#[100, 101, 97, 100]⟩), (D.str ⟨#[103, 111]⟩), (D.str ⟨#[98, 111, 116, 104]⟩), (D.str ⟨#[109, 111, 118, 101]⟩), (D.str ⟨#[99, 97, 108, 109]⟩), (D.str ⟨#[112, 97, 115, 115]⟩), (D.str ⟨#[110, 105, 109, 98, 108, 101]⟩), (D.str ⟨#[116, 117, 114, 110]⟩), (D.str ⟨#[116, 111, 107, 101, 110]⟩), (D.str ⟨#[97, 108, 105, 107, 101]⟩), (D.str ⟨#[99, 111, 109]⟩), (D.str ⟨#[111, 110, 101]⟩)])
def c_ARROWS : D := (D.tup [(D.tup [(D.str ⟨#[113, 117, 105, 99, 107]⟩), (D.str ⟨#[119, 97, 105, 116]⟩)]), (D.tup [(D.str ⟨#[119, 97, 105, 116]⟩), (D.str ⟨#[108, 111, 99, 107]⟩)]), (D.tup [(D.str ⟨#[119, 97, 105, 116]⟩), (D.str ⟨#[115, 116, 97, 114, 118, 101]⟩)]), (D.tup [(D.str ⟨#[108, 111, 99, 107]⟩), (D.str ⟨#[97, 108, 111, 110, 101]⟩)]), (D.tup [(D.str ⟨#[108, 111, 99, 107]⟩), (D.str ⟨#[100, 101, 97, 100]⟩)]), (D.tup [(D.str ⟨#[108, 111, 99, 107]⟩), (D.str ⟨#[99, 97, 108, 109]⟩)]), (D.tup [(D.str ⟨#[97, 108, 111, 110, 101]⟩), (D.str ⟨#[98, 111, 116, 104]⟩)]), (D.tup [(D.str ⟨#[97, 108, 111, 110, 101]⟩), (D.str ⟨#[110, 105, 109, 98, 108, 101]⟩)]), (D.tup [(D.str ⟨#[115, 116, 97, 114, 118, 101]⟩), (D.str ⟨#[98, 111, 116, 104]⟩)]), (D.tup [(D.str ⟨#[115, 116, 97, 114, 118, 101]⟩), (D.str ⟨#[100, 101, 97, 100]⟩)]), (D.tup [(D.str ⟨#[115, 116, 97, 114, 118, 101]⟩), (D.str ⟨#[112, 97, 115, 115]⟩)]), (D.tup [(D.str ⟨#[100, 101, 97, 100]⟩), (D.str ⟨#[103, 111]⟩)]), (D.tup [(D.str ⟨#[98, 111, 116, 104]⟩), (D.str ⟨#[103, 111]⟩)]), (D.tup [(D.str ⟨#[103, 111]⟩), (D.str ⟨#[109, 111, 118, 101]⟩)]), (D.tup [(D.str ⟨#[110, 105, 109, 98, 108, 101]⟩), (D.str ⟨#[109, 111, 118, 101]⟩)]), (D.tup [(D.str ⟨#[116, 117, 114, 110]⟩), (D.str ⟨#[112, 97, 115, 115]⟩)])])
def c_JOINT_ARROWS : D := (D.tup [(D.tup [(D.str ⟨#[108, 111, 99, 107]⟩), (D.str ⟨#[112, 97, 115, 115]⟩), (D.str ⟨#[119, 97, 105, 116]⟩)]), (D.tup [(D.str ⟨#[97, 108, 111, 110, 101]⟩), (D.str ⟨#[100, 101, 97, 100]⟩), (D.str ⟨#[108, 111, 99, 107]⟩)]), (D.tup [(D.str ⟨#[100, 101, 97, 100]⟩), (D.str ⟨#[112, 97, 115, 115]⟩), (D.str ⟨#[115, 116, 97, 114, 118, 101]⟩)]), (D.tup [(D.str ⟨#[103, 111]⟩), (D.str ⟨#[112, 97, 115, 115]⟩), (D.str ⟨#[98, 111, 116, 104]⟩)]), (D.tup [(D.str ⟨#[99, 111, 109]⟩), (D.str ⟨#[103, 111]⟩), (D.str ⟨#[100, 101, 97, 100]⟩)]), (D.tup [(D.str ⟨#[98, 111, 116, 104]⟩), (D.str ⟨#[99, 111, 109]⟩), (D.str ⟨#[119, 97, 105, 116]⟩)]), (D.tup [(D.str ⟨#[99, 97, 108, 109]⟩), (D.str ⟨#[109, 111, 118, 101]⟩), (D.str ⟨#[100, 101, 97, 100]⟩)]), (D.tup [(D.str ⟨#[99, 97, 108, 109]⟩), (D.str ⟨#[110, 105, 109, 98, 108, 101]⟩), (D.str ⟨#[108, 111, 99, 107]⟩)]), (D.tup [(D.str ⟨#[100, 101, 97, 100]⟩), (D.str ⟨#[116, 111, 107, 101, 110]⟩), (D.str ⟨#[99, 97, 108, 109]⟩)]), (D.tup [(D.str ⟨#[103, 111]⟩), (D.str ⟨#[116, 111, 107, 101, 110]⟩), (D.str ⟨#[100, 101, 97, 100]⟩)]), (D.tup [(D.str ⟨#[98, 111, 116, 104]⟩), (D.str ⟨#[116, 111, 107, 101, 110]⟩), (D.str ⟨#[115, 116, 97, 114, 118, 101]⟩)])])
def c_BARS : D := (D.tup [(D.tup [(D.str ⟨#[97, 108, 111, 110, 101]⟩), (D.str ⟨#[116, 117, 114, 110]⟩)]), (D.tup [(D.str ⟨#[110, 105, 109, 98, 108, 101]⟩), (D.str ⟨#[116, 111, 107, 101, 110]⟩)])])
def gd : Nat → D
  | 0 => c_WORDS
  | 1 => c_ARROWS
  | 2 => c_JOINT_ARROWS
  | 3 => c_BARS
  | _ => .non
def xm : Nat → Nat → Bool
  | 0, 0 => true
  | 1, 1 => true
  | 1, 0 => true
  | _, _ => false
/-- check_word: word; level 1 -/
def b_check_word : Ss := (Ss.cons (S.iff (E.or (E.not (E.isi (E.nm 0) .str)) (Es.cons (E.cmp .nin (E.nm 0) (E.gl 0)) Es.nil)) (Ss.cons (S.raise 1 (Es.cons (E.cn (D.str ⟨#[110, 111, 32, 107, 105, 110, 100]⟩)) Es.nil))
  Ss.nil) Ss.nil)
  Ss.nil)
/-- arrows: ; level 1 -/
def b_arrows : Ss := (Ss.cons (S.ret (E.bi .tuple (Es.cons (E.bi .sorted (Es.cons (E.gl 1) Es.nil)) Es.nil)))
  Ss.nil)
/-- joint_arrows: ; level 1 -/
def b_joint_arrows : Ss := (Ss.cons (S.ret (E.bi .tuple (Es.cons (E.bi .sorted (Es.cons (E.gl 2) Es.nil)) Es.nil)))
  Ss.nil)
/-- bars: ; level 1 -/
def b_bars : Ss := (Ss.cons (S.ret (E.bi .tuple (Es.cons (E.bi .sorted (Es.cons (E.gl 3) Es.nil)) Es.nil)))
  Ss.nil)
def L_check_words_0 : Ss := (Ss.cons (S.expr (E.call 0 (Es.cons (E.nm 1) Es.nil)))
  Ss.nil)
/-- check_words: words word; level 2 -/
def b_check_words : Ss := (Ss.cons (S.iff (E.or (E.not (E.isi (E.nm 0) .tuple)) (Es.cons (E.not (E.cmp2 .le .le (E.cn (D.int (1))) (E.bi .len (Es.cons (E.nm 0) Es.nil)) (E.cn (D.int (2))))) Es.nil)) (Ss.cons (S.raise 1 (Es.cons (E.cn (D.str ⟨#[110, 111, 32, 119, 111, 114, 100, 115]⟩)) Es.nil))
  Ss.nil) Ss.nil)
  (Ss.cons (S.forr (Tg.nm 1) (It.sq (E.nm 0)) L_check_words_0)
  Ss.nil))
def C_ways_to_1 : E := E.lc (E.cmp .inn (E.nm 3) (E.nm 0)) (Tg.nm 3) (It.sq (E.sl (E.nm 2) Oe.no (Oe.so (E.neg (E.cn (D.int (1))))))) Oe.no [3]
def L_ways_to_0 : Ss := (Ss.cons (S.iff (E.and (E.cmp .eq (E.ix (E.nm 2) (E.neg (E.cn (D.int (1))))) (E.nm 1)) (Es.cons (E.bi .all (Es.cons C_ways_to_1 Es.nil)) Es.nil)) (Ss.cons (S.ret (E.nm 2))
  Ss.nil) Ss.nil)
  Ss.nil)
/-- ways_to: words word step one; level 1 -/
def b_ways_to : Ss := (Ss.cons (S.forr (Tg.nm 2) (It.sq (E.bin .add (E.gl 1) (E.gl 2))) L_ways_to_0)
  (Ss.cons (S.ret (E.cn D.non))
  Ss.nil))
def L_derived_1 : Ss := (Ss.cons (S.asg (Tg.nm 5) (E.call 5 (Es.cons (E.nm 1) (Es.cons (E.nm 4) Es.nil))))
  (Ss.cons (S.iff (E.and (E.cmp .nin (E.nm 4) (E.nm 1)) (Es.cons (E.cmp .isn (E.nm 5) (E.cn D.non)) Es.nil)) (Ss.cons (S.app 1 (E.nm 4))
  (Ss.cons (S.app 2 (E.nm 5))
  (Ss.cons (S.asg (Tg.nm 3) (E.cn (D.bl true)))
  Ss.nil))) Ss.nil)
  Ss.nil))
def L_derived_0 : Ss := (Ss.cons (S.asg (Tg.nm 3) (E.cn (D.bl false)))
  (Ss.cons (S.forr (Tg.nm 4) (It.sq (E.gl 0)) L_derived_1)
  Ss.nil))
/-- derived: words found steps more word step; level 2 -/
def b_derived : Ss := (Ss.cons (S.par [1, 2, 3] (Es.cons (E.bi .list (Es.cons (E.nm 0) Es.nil)) (Es.cons (E.lst Es.nil) (Es.cons (E.cn (D.bl true)) Es.nil))))
  (Ss.cons (S.whl (E.nm 3) L_derived_0)
  (Ss.cons (S.ret (E.tup (Es.cons (E.nm 1) (Es.cons (E.nm 2) Es.nil))))
  Ss.nil)))
def C_bar_among_0 : E := E.lc (E.nm 2) (Tg.nm 2) (It.sq (E.gl 3)) (Oe.so (E.and (E.cmp .inn (E.ix (E.nm 2) (E.cn (D.int (0)))) (E.nm 0)) (Es.cons (E.cmp .inn (E.ix (E.nm 2) (E.cn (D.int (1)))) (E.nm 0)) Es.nil))) [2]
/-- bar_among: words found bar; level 1 -/
def b_bar_among : Ss := (Ss.cons (S.asg (Tg.nm 1) C_bar_among_0)
  (Ss.cons (S.ret (E.ite (E.cmp .gt (E.bi .len (Es.cons (E.nm 1) Es.nil)) (E.cn (D.int (0)))) (E.ix (E.nm 1) (E.cn (D.int (0)))) (E.cn D.non)))
  Ss.nil))
def C_all_forced_0 : E := E.lc (E.nm 2) (Tg.nm 2) (It.sq (E.gl 0)) (Oe.so (E.cmp .inn (E.nm 2) (E.nm 1))) [2]
/-- all_forced: words found word; level 3 -/
def b_all_forced : Ss := (Ss.cons (S.expr (E.call 4 (Es.cons (E.nm 0) Es.nil)))
  (Ss.cons (S.asg (Tg.nm 1) (E.ix (E.call 6 (Es.cons (E.nm 0) Es.nil)) (E.cn (D.int (0)))))
  (Ss.cons (S.iff (E.cmp .isn (E.call 7 (Es.cons (E.nm 1) Es.nil)) (E.cn D.non)) (Ss.cons (S.ret (E.gl 0))
  Ss.nil) Ss.nil)
  (Ss.cons (S.ret (E.bi .tuple (Es.cons C_all_forced_0 Es.nil)))
  Ss.nil))))
/-- does_force: words word; level 4 -/
def b_does_force : Ss := (Ss.cons (S.expr (E.call 0 (Es.cons (E.nm 1) Es.nil)))
  (Ss.cons (S.ret (E.cmp .inn (E.nm 1) (E.call 8 (Es.cons (E.nm 0) Es.nil))))
  Ss.nil))
def C__law_draw_0 : E := E.lc (E.bi .abs (Es.cons (E.bi .int (Es.cons (E.nm 2) Es.nil)) Es.nil)) (Tg.nm 2) (It.sq (E.nm 0)) Oe.no [2]
def L__law_draw_1 : Ss := (Ss.cons (S.asg (Tg.nm 1) (E.bin .mod (E.bi .int (Es.cons (E.bin .add (E.bin .add (E.bin .mul (E.nm 1) (E.cn (D.int (48271)))) (E.bin .mod (E.bi .abs (Es.cons (E.bi .int (Es.cons (E.nm 2) Es.nil)) Es.nil)) (E.cn (D.int (65521))))) (E.cn (D.int (1)))) Es.nil)) (E.cn (D.int (2147483647)))))
  Ss.nil)
/-- _law_draw: script seed cell; level 1 -/
def b__law_draw : Ss := (Ss.cons (S.asg (Tg.nm 1) (E.cn (D.int (7))))
  (Ss.cons (S.forr (Tg.nm 2) (It.sq (E.nm 0)) L__law_draw_1)
  (Ss.cons (S.ret (E.lst (Es.cons C__law_draw_0 (Es.cons (E.neg (E.cn (D.int (1)))) (Es.cons (E.cn (D.int (0))) (Es.cons (E.nm 1) Es.nil))))))
  Ss.nil)))
/-- _law_take: draw many found; level 1 -/
def b__law_take : Ss := (Ss.cons (S.iff (E.cmp .eq (E.ix (E.nm 0) (E.cn (D.int (2)))) (E.cn (D.int (0)))) (Ss.cons (S.setix 0 (E.cn (D.int (1))) (E.bin .add (E.ix (E.nm 0) (E.cn (D.int (1)))) (E.cn (D.int (1)))))
  (Ss.cons (S.iff (E.cmp .lt (E.ix (E.nm 0) (E.cn (D.int (1)))) (E.bi .len (Es.cons (E.ix (E.nm 0) (E.cn (D.int (0)))) Es.nil))) (Ss.cons (S.setix 0 (E.cn (D.int (2))) (E.ix (E.ix (E.nm 0) (E.cn (D.int (0)))) (E.ix (E.nm 0) (E.cn (D.int (1))))))
  Ss.nil) Ss.nil)
  (Ss.cons (S.iff (E.cmp .eq (E.ix (E.nm 0) (E.cn (D.int (2)))) (E.cn (D.int (0)))) (Ss.cons (S.setix 0 (E.cn (D.int (3))) (E.bin .mod (E.bi .int (Es.cons (E.bin .add (E.bin .mul (E.ix (E.nm 0) (E.cn (D.int (3)))) (E.cn (D.int (48271)))) (E.cn (D.int (11)))) Es.nil)) (E.cn (D.int (2147483647)))))
  (Ss.cons (S.setix 0 (E.cn (D.int (2))) (E.ix (E.nm 0) (E.cn (D.int (3)))))
  Ss.nil)) Ss.nil)
  Ss.nil))) Ss.nil)
  (Ss.cons (S.asg (Tg.nm 2) (E.bin .mod (E.bi .int (Es.cons (E.ix (E.nm 0) (E.cn (D.int (2)))) Es.nil)) (E.nm 1)))
  (Ss.cons (S.setix 0 (E.cn (D.int (2))) (E.bin .fdiv (E.ix (E.nm 0) (E.cn (D.int (2)))) (E.nm 1)))
  (Ss.cons (S.ret (E.nm 2))
  Ss.nil))))
/-- _law_says: value due; level 1 -/
def b__law_says : Ss := (Ss.cons (S.ret (E.and (E.isi (E.nm 0) .bool) (Es.cons (E.cmp .eq (E.nm 0) (E.nm 1)) Es.nil)))
  Ss.nil)
/-- _law_words: ; level 1 -/
def b__law_words : Ss := (Ss.cons (S.ret (E.mt .split (E.cn (D.str ⟨#[113, 117, 105, 99, 107, 32, 119, 97, 105, 116, 32, 108, 111, 99, 107, 32, 97, 108, 111, 110, 101, 32, 115, 116, 97, 114, 118, 101, 32, 100, 101, 97, 100, 32, 103, 111, 32, 98, 111, 116, 104, 32, 109, 111, 118, 101, 32, 99, 97, 108, 109, 32, 112, 97, 115, 115, 32, 110, 105, 109, 98, 108, 101, 32, 116, 117, 114, 110, 32, 116, 111, 107, 101, 110, 32, 97, 108, 105, 107, 101, 32, 99, 111, 109, 32, 111, 110, 101]⟩)) (E.cn (D.str ⟨#[32]⟩))))
  Ss.nil)
def C__law_arrows_0 : E := E.lc (E.tup (Es.cons (E.ix (E.nm 1) (E.bin .mul (E.cn (D.int (2))) (E.nm 2))) (Es.cons (E.ix (E.nm 1) (E.bin .add (E.bin .mul (E.cn (D.int (2))) (E.nm 2)) (E.cn (D.int (1))))) Es.nil))) (Tg.nm 2) (It.r1 (E.bin .fdiv (E.bi .len (Es.cons (E.nm 1) Es.nil)) (E.cn (D.int (2))))) Oe.no [2]
/-- _law_arrows: text words k; level 1 -/
def b__law_arrows : Ss := (Ss.cons (S.asg (Tg.nm 0) (E.cn (D.str ⟨#[113, 117, 105, 99, 107, 32, 119, 97, 105, 116, 32, 119, 97, 105, 116, 32, 108, 111, 99, 107, 32, 119, 97, 105, 116, 32, 115, 116, 97, 114, 118, 101, 32, 108, 111, 99, 107, 32, 97, 108, 111, 110, 101, 32, 108, 111, 99, 107, 32, 100, 101, 97, 100, 32, 108, 111, 99, 107, 32, 99, 97, 108, 109, 32, 97, 108, 111, 110, 101, 32, 98, 111, 116, 104, 32, 97, 108, 111, 110, 101, 32, 110, 105, 109, 98, 108, 101, 32, 115, 116, 97, 114, 118, 101, 32, 98, 111, 116, 104]⟩)))
  (Ss.cons (S.asg (Tg.nm 1) (E.mt .split (E.bin .add (E.nm 0) (E.cn (D.str ⟨#[32, 115, 116, 97, 114, 118, 101, 32, 100, 101, 97, 100, 32, 115, 116, 97, 114, 118, 101, 32, 112, 97, 115, 115, 32, 100, 101, 97, 100, 32, 103, 111, 32, 98, 111, 116, 104, 32, 103, 111, 32, 103, 111, 32, 109, 111, 118, 101, 32, 110, 105, 109, 98, 108, 101, 32, 109, 111, 118, 101, 32, 116, 117, 114, 110, 32, 112, 97, 115, 115]⟩))) (E.cn (D.str ⟨#[32]⟩))))
  (Ss.cons (S.ret C__law_arrows_0)
  Ss.nil)))
def C__law_joint_0 : E := E.lc (E.tup (Es.cons (E.ix (E.nm 1) (E.bin .mul (E.cn (D.int (3))) (E.nm 2))) (Es.cons (E.ix (E.nm 1) (E.bin .add (E.bin .mul (E.cn (D.int (3))) (E.nm 2)) (E.cn (D.int (1))))) (Es.cons (E.ix (E.nm 1) (E.bin .add (E.bin .mul (E.cn (D.int (3))) (E.nm 2)) (E.cn (D.int (2))))) Es.nil)))) (Tg.nm 2) (It.r1 (E.bin .fdiv (E.bi .len (Es.cons (E.nm 1) Es.nil)) (E.cn (D.int (3))))) Oe.no [2]
/-- _law_joint: text words k; level 1 -/
def b__law_joint : Ss := (Ss.cons (S.asg (Tg.nm 0) (E.cn (D.str ⟨#[108, 111, 99, 107, 32, 112, 97, 115, 115, 32, 119, 97, 105, 116, 32, 97, 108, 111, 110, 101, 32, 100, 101, 97, 100, 32, 108, 111, 99, 107, 32, 100, 101, 97, 100, 32, 112, 97, 115, 115, 32, 115, 116, 97, 114, 118, 101, 32, 103, 111, 32, 112, 97, 115, 115, 32, 98, 111, 116, 104, 32, 99, 111, 109, 32, 103, 111, 32, 100, 101, 97, 100, 32, 98, 111, 116, 104, 32, 99, 111, 109, 32, 119, 97, 105, 116]⟩)))
  (Ss.cons (S.asg (Tg.nm 1) (E.mt .split (E.bin .add (E.nm 0) (E.cn (D.str ⟨#[32, 99, 97, 108, 109, 32, 109, 111, 118, 101, 32, 100, 101, 97, 100, 32, 99, 97, 108, 109, 32, 110, 105, 109, 98, 108, 101, 32, 108, 111, 99, 107, 32, 100, 101, 97, 100, 32, 116, 111, 107, 101, 110, 32, 99, 97, 108, 109, 32, 103, 111, 32, 116, 111, 107, 101, 110, 32, 100, 101, 97, 100, 32, 98, 111, 116, 104, 32, 116, 111, 107, 101, 110, 32, 115, 116, 97, 114, 118, 101]⟩))) (E.cn (D.str ⟨#[32]⟩))))
  (Ss.cons (S.ret C__law_joint_0)
  Ss.nil)))
/-- _law_bars: ; level 1 -/
def b__law_bars : Ss := (Ss.cons (S.ret (E.lst (Es.cons (E.tup (Es.cons (E.cn (D.str ⟨#[97, 108, 111, 110, 101]⟩)) (Es.cons (E.cn (D.str ⟨#[116, 117, 114, 110]⟩)) Es.nil))) (Es.cons (E.tup (Es.cons (E.cn (D.str ⟨#[110, 105, 109, 98, 108, 101]⟩)) (Es.cons (E.cn (D.str ⟨#[116, 111, 107, 101, 110]⟩)) Es.nil))) Es.nil))))
  Ss.nil)
def C__law_led_2 : E := E.lc (E.cmp .inn (E.nm 4) (E.nm 1)) (Tg.nm 4) (It.sq (E.sl (E.nm 3) Oe.no (Oe.so (E.neg (E.cn (D.int (1))))))) Oe.no [4]
def L__law_led_1 : Ss := (Ss.cons (S.iff (E.and (E.cmp .nin (E.ix (E.nm 3) (E.neg (E.cn (D.int (1))))) (E.nm 1)) (Es.cons (E.bi .all (Es.cons C__law_led_2 Es.nil)) Es.nil)) (Ss.cons (S.app 1 (E.ix (E.nm 3) (E.neg (E.cn (D.int (1))))))
  Ss.nil) Ss.nil)
  Ss.nil)
def L__law_led_0 : Ss := (Ss.cons (S.forr (Tg.nm 3) (It.sq (E.bin .add (E.call 14 Es.nil) (E.call 15 Es.nil))) L__law_led_1)
  Ss.nil)
/-- _law_led: words found turn step one; level 2 -/
def b__law_led : Ss := (Ss.cons (S.asg (Tg.nm 1) (E.bi .list (Es.cons (E.nm 0) Es.nil)))
  (Ss.cons (S.forr (Tg.nm 2) (It.r1 (E.cn (D.int (20)))) L__law_led_0)
  (Ss.cons (S.ret (E.nm 1))
  Ss.nil)))
def C__law_reached_0 : E := E.lc (E.and (E.cmp .inn (E.nm 2) (E.nm 1)) (Es.cons (E.cmp .inn (E.nm 3) (E.nm 1)) Es.nil)) (Tg.tp (Tgs.cons (Tg.nm 2) (Tgs.cons (Tg.nm 3) Tgs.nil))) (It.sq (E.call 16 Es.nil)) Oe.no [2, 3]
/-- _law_reached: words found one two; level 3 -/
def b__law_reached : Ss := (Ss.cons (S.asg (Tg.nm 1) (E.call 17 (Es.cons (E.nm 0) Es.nil)))
  (Ss.cons (S.ret (E.ite (E.bi .any (Es.cons C__law_reached_0 Es.nil)) (E.call 13 Es.nil) (E.nm 1)))
  Ss.nil))
/-- _law_ask: which words word; level 5 -/
def b__law_ask : Ss := (Ss.cons (S.tri (Ss.cons (S.ret (E.ite (E.cmp .eq (E.nm 0) (E.cn (D.int (0)))) (E.call 8 (Es.cons (E.nm 1) Es.nil)) (E.call 9 (Es.cons (E.nm 1) (Es.cons (E.nm 2) Es.nil)))))
  Ss.nil) 1 (Ss.cons (S.ret (E.cn (D.str ⟨#[60, 109, 97, 108, 102, 111, 114, 109, 101, 100, 62]⟩)))
  Ss.nil))
  Ss.nil)
def C_law_0 : E := E.lc (E.cmp .eq (E.call 19 (Es.cons (E.cn (D.int (1))) (Es.cons (E.tup (Es.cons (E.cn (D.str ⟨#[108, 111, 99, 107]⟩)) Es.nil)) (Es.cons (E.nm 3) Es.nil)))) (E.cn (D.str ⟨#[60, 109, 97, 108, 102, 111, 114, 109, 101, 100, 62]⟩))) (Tg.nm 3) (It.sq (E.lst (Es.cons (E.cn (D.str ⟨#[]⟩)) (Es.cons (E.cn (D.str ⟨#[76, 79, 67, 75]⟩)) (Es.cons (E.cn D.non) (Es.cons (E.cn (D.int (3))) (Es.cons (E.tup (Es.cons (E.cn (D.str ⟨#[108, 111, 99, 107]⟩)) Es.nil)) (Es.cons (E.cn (D.bl true)) Es.nil)))))))) Oe.no [3]
def C_law_2 : E := E.lc (E.call 19 (Es.cons (E.nm 7) (Es.cons (E.nm 3) (Es.cons (E.cn (D.str ⟨#[108, 111, 99, 107]⟩)) Es.nil)))) (Tg.nm 7) (It.sq (E.lst (Es.cons (E.cn (D.int (0))) (Es.cons (E.cn (D.int (1))) Es.nil)))) Oe.no [7]
def L_law_1 : Ss := (Ss.cons (S.iff (E.cmp .ne C_law_2 (E.bin .mul (E.lst (Es.cons (E.cn (D.str ⟨#[60, 109, 97, 108, 102, 111, 114, 109, 101, 100, 62]⟩)) Es.nil)) (E.cn (D.int (2))))) (Ss.cons (S.ret (E.cn (D.bl false)))
  Ss.nil) Ss.nil)
  Ss.nil)
def C_law_4 : E := E.lc (E.call 12 (Es.cons (E.call 19 (Es.cons (E.cn (D.int (1))) (Es.cons (E.nm 4) (Es.cons (E.nm 8) Es.nil)))) (Es.cons (E.cmp .inn (E.nm 8) (E.nm 5)) Es.nil))) (Tg.nm 8) (It.sq (E.call 13 Es.nil)) Oe.no [8]
def C_law_5 : E := E.lc (E.nm 8) (Tg.nm 8) (It.sq (E.call 13 Es.nil)) (Oe.so (E.cmp .inn (E.nm 8) (E.nm 5))) [8]
def C_law_6 : E := E.lc (E.ix (E.call 13 Es.nil) (E.call 11 (Es.cons (E.nm 1) (Es.cons (E.cn (D.int (17))) Es.nil)))) (Tg.nm 6) (It.r1 (E.bin .add (E.cn (D.int (1))) (E.call 11 (Es.cons (E.nm 1) (Es.cons (E.cn (D.int (2))) Es.nil))))) Oe.no [6]
def L_law_3 : Ss := (Ss.cons (S.asg (Tg.nm 4) (E.bi .tuple (Es.cons C_law_6 Es.nil)))
  (Ss.cons (S.asg (Tg.nm 5) (E.call 18 (Es.cons (E.nm 4) Es.nil)))
  (Ss.cons (S.iff (E.cmp .ne (E.call 19 (Es.cons (E.cn (D.int (0))) (Es.cons (E.nm 4) (Es.cons (E.cn (D.str ⟨#[]⟩)) Es.nil)))) (E.bi .tuple (Es.cons C_law_5 Es.nil))) (Ss.cons (S.ret (E.cn (D.bl false)))
  Ss.nil) Ss.nil)
  (Ss.cons (S.iff (E.not (E.bi .all (Es.cons C_law_4 Es.nil))) (Ss.cons (S.ret (E.cn (D.bl false)))
  Ss.nil) Ss.nil)
  Ss.nil))))
/-- law: script draw turn bad words found k which word; level 6 -/
def b_law : Ss := (Ss.cons (S.asg (Tg.nm 1) (E.call 10 (Es.cons (E.nm 0) Es.nil)))
  (Ss.cons (S.iff (E.or (E.cmp .ne (E.call 1 Es.nil) (E.bi .tuple (Es.cons (E.bi .sorted (Es.cons (E.call 14 Es.nil) Es.nil)) Es.nil))) (Es.cons (E.cmp .ne (E.call 2 Es.nil) (E.bi .tuple (Es.cons (E.bi .sorted (Es.cons (E.call 15 Es.nil) Es.nil)) Es.nil))) (Es.cons (E.cmp .ne (E.call 3 Es.nil) (E.bi .tuple (Es.cons (E.bi .sorted (Es.cons (E.call 16 Es.nil) Es.nil)) Es.nil))) Es.nil))) (Ss.cons (S.ret (E.cn (D.bl false)))
  Ss.nil) Ss.nil)
  (Ss.cons (S.forr (Tg.nm 2) (It.r1 (E.cn (D.int (4)))) L_law_3)
  (Ss.cons (S.forr (Tg.nm 3) (It.sq (E.lst (Es.cons (E.tup Es.nil) (Es.cons (E.tup (Es.cons (E.cn (D.str ⟨#[108, 111, 99, 107]⟩)) (Es.cons (E.cn (D.str ⟨#[111, 110, 101]⟩)) (Es.cons (E.cn (D.str ⟨#[99, 111, 109]⟩)) Es.nil)))) (Es.cons (E.lst (Es.cons (E.cn (D.str ⟨#[108, 111, 99, 107]⟩)) Es.nil)) (Es.cons (E.cn (D.str ⟨#[108, 111, 99, 107]⟩)) (Es.cons (E.cn D.non) (Es.cons (E.tup (Es.cons (E.cn (D.str ⟨#[76, 79, 67, 75]⟩)) Es.nil)) (Es.cons (E.tup (Es.cons (E.cn (D.str ⟨#[]⟩)) Es.nil)) (Es.cons (E.tup (Es.cons (E.cn D.non) Es.nil)) (Es.cons (E.tup (Es.cons (E.cn (D.str ⟨#[108, 111, 99, 107]⟩)) (Es.cons (E.cn (D.int (3))) Es.nil))) (Es.cons (E.tup (Es.cons (E.tup (Es.cons (E.cn (D.str ⟨#[108, 111, 99, 107]⟩)) Es.nil)) Es.nil)) Es.nil)))))))))))) L_law_1)
  (Ss.cons (S.ret (E.bi .all (Es.cons C_law_0 Es.nil)))
  Ss.nil)))))
def t_check_word : Tb := { ar := fun i => match i with  | _ => 0, io := fun i => match i with  | _ => false, gd := gd, fn := fun i => match i with  | _ => fun _ => .bad }
def f_check_word : List D → FR := den t_check_word xm 1 false b_check_word
def m_check_word : CkM := { fname := fun i => match i with  | _ => none, gname := fun i => match i with | 0 => some "WORDS" | _ => none, xname := fun i => match i with | 0 => some "Fault" | 1 => some "Malformed" | _ => none, blt := fun x => decide (x ∈ (["tuple", "list", "range", "all", "sorted", "int", "isinstance", "bool", "any", "str", "len", "abs"] : List Str)) }
abbrev s_check_word : Stmt := top 5
def n_check_word : List Str := ["word"]
def p_check_word : List Str := ["word"]
theorem sc_check_word : FnScope n_check_word p_check_word (defScope s_check_word) := ⟨rfl, rfl, rfl, by decide +kernel, rfl, by decide +kernel, by decide +kernel⟩
theorem k_check_word : chkSs (ckOf m_check_word n_check_word (defScope s_check_word)) b_check_word (defBody s_check_word) = true := by decide +kernel
def t_arrows : Tb := { ar := fun i => match i with  | _ => 0, io := fun i => match i with  | _ => false, gd := gd, fn := fun i => match i with  | _ => fun _ => .bad }
def f_arrows : List D → FR := den t_arrows xm 0 false b_arrows
def m_arrows : CkM := { fname := fun i => match i with  | _ => none, gname := fun i => match i with | 1 => some "ARROWS" | _ => none, xname := fun i => match i with | 0 => some "Fault" | 1 => some "Malformed" | _ => none, blt := fun x => decide (x ∈ (["tuple", "list", "range", "all", "sorted", "int", "isinstance", "bool", "any", "str", "len", "abs"] : List Str)) }
abbrev s_arrows : Stmt := top 10
def n_arrows : List Str := []
def p_arrows : List Str := []
theorem sc_arrows : FnScope n_arrows p_arrows (defScope s_arrows) := ⟨rfl, rfl, rfl, by decide +kernel, rfl, by decide +kernel, by decide +kernel⟩
theorem k_arrows : chkSs (ckOf m_arrows n_arrows (defScope s_arrows)) b_arrows (defBody s_arrows) = true := by decide +kernel
def t_joint_arrows : Tb := { ar := fun i => match i with  | _ => 0, io := fun i => match i with  | _ => false, gd := gd, fn := fun i => match i with  | _ => fun _ => .bad }
def f_joint_arrows : List D → FR := den t_joint_arrows xm 0 false b_joint_arrows
def m_joint_arrows : CkM := { fname := fun i => match i with  | _ => none, gname := fun i => match i with | 2 => some "JOINT_ARROWS" | _ => none, xname := fun i => match i with | 0 => some "Fault" | 1 => some "Malformed" | _ => none, blt := fun x => decide (x ∈ (["tuple", "list", "range", "all", "sorted", "int", "isinstance", "bool", "any", "str", "len", "abs"] : List Str)) }
abbrev s_joint_arrows : Stmt := top 11
def n_joint_arrows : List Str := []
def p_joint_arrows : List Str := []
theorem sc_joint_arrows : FnScope n_joint_arrows p_joint_arrows (defScope s_joint_arrows) := ⟨rfl, rfl, rfl, by decide +kernel, rfl, by decide +kernel, by decide +kernel⟩
theorem k_joint_arrows : chkSs (ckOf m_joint_arrows n_joint_arrows (defScope s_joint_arrows)) b_joint_arrows (defBody s_joint_arrows) = true := by decide +kernel
def t_bars : Tb := { ar := fun i => match i with  | _ => 0, io := fun i => match i with  | _ => false, gd := gd, fn := fun i => match i with  | _ => fun _ => .bad }
def f_bars : List D → FR := den t_bars xm 0 false b_bars
def m_bars : CkM := { fname := fun i => match i with  | _ => none, gname := fun i => match i with | 3 => some "BARS" | _ => none, xname := fun i => match i with | 0 => some "Fault" | 1 => some "Malformed" | _ => none, blt := fun x => decide (x ∈ (["tuple", "list", "range", "all", "sorted", "int", "isinstance", "bool", "any", "str", "len", "abs"] : List Str)) }
abbrev s_bars : Stmt := top 12
def n_bars : List Str := []
def p_bars : List Str := []
theorem sc_bars : FnScope n_bars p_bars (defScope s_bars) := ⟨rfl, rfl, rfl, by decide +kernel, rfl, by decide +kernel, by decide +kernel⟩
theorem k_bars : chkSs (ckOf m_bars n_bars (defScope s_bars)) b_bars (defBody s_bars) = true := by decide +kernel
def t_check_words : Tb := { ar := fun i => match i with | 0 => 1 | _ => 0, io := fun i => match i with | 0 => false | _ => false, gd := gd, fn := fun i => match i with | 0 => f_check_word | _ => fun _ => .bad }
def f_check_words : List D → FR := den t_check_words xm 2 false b_check_words
def m_check_words : CkM := { fname := fun i => match i with | 0 => some "check_word" | _ => none, gname := fun i => match i with  | _ => none, xname := fun i => match i with | 0 => some "Fault" | 1 => some "Malformed" | _ => none, blt := fun x => decide (x ∈ (["tuple", "list", "range", "all", "sorted", "int", "isinstance", "bool", "any", "str", "len", "abs"] : List Str)) }
abbrev s_check_words : Stmt := top 13
def n_check_words : List Str := ["words", "word"]
def p_check_words : List Str := ["words"]
theorem sc_check_words : FnScope n_check_words p_check_words (defScope s_check_words) := ⟨rfl, rfl, rfl, by decide +kernel, rfl, by decide +kernel, by decide +kernel⟩
theorem k_check_words : chkSs (ckOf m_check_words n_check_words (defScope s_check_words)) b_check_words (defBody s_check_words) = true := by decide +kernel
def t_ways_to : Tb := { ar := fun i => match i with  | _ => 0, io := fun i => match i with  | _ => false, gd := gd, fn := fun i => match i with  | _ => fun _ => .bad }
def f_ways_to : List D → FR := den t_ways_to xm 4 false b_ways_to
def m_ways_to : CkM := { fname := fun i => match i with  | _ => none, gname := fun i => match i with | 1 => some "ARROWS" | 2 => some "JOINT_ARROWS" | _ => none, xname := fun i => match i with | 0 => some "Fault" | 1 => some "Malformed" | _ => none, blt := fun x => decide (x ∈ (["tuple", "list", "range", "all", "sorted", "int", "isinstance", "bool", "any", "str", "len", "abs"] : List Str)) }
abbrev s_ways_to : Stmt := top 14
def n_ways_to : List Str := ["words", "word", "step", "one"]
def p_ways_to : List Str := ["words", "word"]
theorem sc_ways_to : FnScope n_ways_to p_ways_to (defScope s_ways_to) := ⟨rfl, rfl, rfl, by decide +kernel, rfl, by decide +kernel, by decide +kernel⟩
theorem k_ways_to : chkSs (ckOf m_ways_to n_ways_to (defScope s_ways_to)) b_ways_to (defBody s_ways_to) = true := by decide +kernel
def t_derived : Tb := { ar := fun i => match i with | 5 => 2 | _ => 0, io := fun i => match i with | 5 => false | _ => false, gd := gd, fn := fun i => match i with | 5 => f_ways_to | _ => fun _ => .bad }
def f_derived : List D → FR := den t_derived xm 6 false b_derived
def m_derived : CkM := { fname := fun i => match i with | 5 => some "ways_to" | _ => none, gname := fun i => match i with | 0 => some "WORDS" | _ => none, xname := fun i => match i with | 0 => some "Fault" | 1 => some "Malformed" | _ => none, blt := fun x => decide (x ∈ (["tuple", "list", "range", "all", "sorted", "int", "isinstance", "bool", "any", "str", "len", "abs"] : List Str)) }
abbrev s_derived : Stmt := top 15
def n_derived : List Str := ["words", "found", "steps", "more", "word", "step"]
def p_derived : List Str := ["words"]
theorem sc_derived : FnScope n_derived p_derived (defScope s_derived) := ⟨rfl, rfl, rfl, by decide +kernel, rfl, by decide +kernel, by decide +kernel⟩
theorem k_derived : chkSs (ckOf m_derived n_derived (defScope s_derived)) b_derived (defBody s_derived) = true := by decide +kernel
def t_bar_among : Tb := { ar := fun i => match i with  | _ => 0, io := fun i => match i with  | _ => false, gd := gd, fn := fun i => match i with  | _ => fun _ => .bad }
def f_bar_among : List D → FR := den t_bar_among xm 3 false b_bar_among
def m_bar_among : CkM := { fname := fun i => match i with  | _ => none, gname := fun i => match i with | 3 => some "BARS" | _ => none, xname := fun i => match i with | 0 => some "Fault" | 1 => some "Malformed" | _ => none, blt := fun x => decide (x ∈ (["tuple", "list", "range", "all", "sorted", "int", "isinstance", "bool", "any", "str", "len", "abs"] : List Str)) }
abbrev s_bar_among : Stmt := top 16
def n_bar_among : List Str := ["words", "found", "bar"]
def p_bar_among : List Str := ["words"]
theorem sc_bar_among : FnScope n_bar_among p_bar_among (defScope s_bar_among) := ⟨rfl, rfl, rfl, by decide +kernel, rfl, by decide +kernel, by decide +kernel⟩
theorem k_bar_among : chkSs (ckOf m_bar_among n_bar_among (defScope s_bar_among)) b_bar_among (defBody s_bar_among) = true := by decide +kernel
def t_all_forced : Tb := { ar := fun i => match i with | 4 => 1 | 6 => 1 | 7 => 1 | _ => 0, io := fun i => match i with | 4 => false | 6 => false | 7 => false | _ => false, gd := gd, fn := fun i => match i with | 4 => f_check_words | 6 => f_derived | 7 => f_bar_among | _ => fun _ => .bad }
def f_all_forced : List D → FR := den t_all_forced xm 3 false b_all_forced
def m_all_forced : CkM := { fname := fun i => match i with | 4 => some "check_words" | 6 => some "derived" | 7 => some "bar_among" | _ => none, gname := fun i => match i with | 0 => some "WORDS" | _ => none, xname := fun i => match i with | 0 => some "Fault" | 1 => some "Malformed" | _ => none, blt := fun x => decide (x ∈ (["tuple", "list", "range", "all", "sorted", "int", "isinstance", "bool", "any", "str", "len", "abs"] : List Str)) }
abbrev s_all_forced : Stmt := top 17
def n_all_forced : List Str := ["words", "found", "word"]
def p_all_forced : List Str := ["words"]
theorem sc_all_forced : FnScope n_all_forced p_all_forced (defScope s_all_forced) := ⟨rfl, rfl, rfl, by decide +kernel, rfl, by decide +kernel, by decide +kernel⟩
theorem k_all_forced : chkSs (ckOf m_all_forced n_all_forced (defScope s_all_forced)) b_all_forced (defBody s_all_forced) = true := by decide +kernel
def t_does_force : Tb := { ar := fun i => match i with | 0 => 1 | 8 => 1 | _ => 0, io := fun i => match i with | 0 => false | 8 => false | _ => false, gd := gd, fn := fun i => match i with | 0 => f_check_word | 8 => f_all_forced | _ => fun _ => .bad }
def f_does_force : List D → FR := den t_does_force xm 2 false b_does_force
def m_does_force : CkM := { fname := fun i => match i with | 0 => some "check_word" | 8 => some "all_forced" | _ => none, gname := fun i => match i with  | _ => none, xname := fun i => match i with | 0 => some "Fault" | 1 => some "Malformed" | _ => none, blt := fun x => decide (x ∈ (["tuple", "list", "range", "all", "sorted", "int", "isinstance", "bool", "any", "str", "len", "abs"] : List Str)) }
abbrev s_does_force : Stmt := top 18
def n_does_force : List Str := ["words", "word"]
def p_does_force : List Str := ["words", "word"]
theorem sc_does_force : FnScope n_does_force p_does_force (defScope s_does_force) := ⟨rfl, rfl, rfl, by decide +kernel, rfl, by decide +kernel, by decide +kernel⟩
theorem k_does_force : chkSs (ckOf m_does_force n_does_force (defScope s_does_force)) b_does_force (defBody s_does_force) = true := by decide +kernel
def t__law_draw : Tb := { ar := fun i => match i with  | _ => 0, io := fun i => match i with  | _ => false, gd := gd, fn := fun i => match i with  | _ => fun _ => .bad }
def f__law_draw : List D → FR := den t__law_draw xm 3 false b__law_draw
def m__law_draw : CkM := { fname := fun i => match i with  | _ => none, gname := fun i => match i with  | _ => none, xname := fun i => match i with | 0 => some "Fault" | 1 => some "Malformed" | _ => none, blt := fun x => decide (x ∈ (["tuple", "list", "range", "all", "sorted", "int", "isinstance", "bool", "any", "str", "len", "abs"] : List Str)) }
abbrev s__law_draw : Stmt := top 20
def n__law_draw : List Str := ["script", "seed", "cell"]
def p__law_draw : List Str := ["script"]
theorem sc__law_draw : FnScope n__law_draw p__law_draw (defScope s__law_draw) := ⟨rfl, rfl, rfl, by decide +kernel, rfl, by decide +kernel, by decide +kernel⟩
theorem k__law_draw : chkSs (ckOf m__law_draw n__law_draw (defScope s__law_draw)) b__law_draw (defBody s__law_draw) = true := by decide +kernel
def t__law_take : Tb := { ar := fun i => match i with  | _ => 0, io := fun i => match i with  | _ => false, gd := gd, fn := fun i => match i with  | _ => fun _ => .bad }
def f__law_take : List D → FR := den t__law_take xm 3 true b__law_take
def m__law_take : CkM := { fname := fun i => match i with  | _ => none, gname := fun i => match i with  | _ => none, xname := fun i => match i with | 0 => some "Fault" | 1 => some "Malformed" | _ => none, blt := fun x => decide (x ∈ (["tuple", "list", "range", "all", "sorted", "int", "isinstance", "bool", "any", "str", "len", "abs"] : List Str)) }
abbrev s__law_take : Stmt := top 21
def n__law_take : List Str := ["draw", "many", "found"]
def p__law_take : List Str := ["draw", "many"]
theorem sc__law_take : FnScope n__law_take p__law_take (defScope s__law_take) := ⟨rfl, rfl, rfl, by decide +kernel, rfl, by decide +kernel, by decide +kernel⟩
theorem k__law_take : chkSs (ckOf m__law_take n__law_take (defScope s__law_take)) b__law_take (defBody s__law_take) = true := by decide +kernel
def t__law_says : Tb := { ar := fun i => match i with  | _ => 0, io := fun i => match i with  | _ => false, gd := gd, fn := fun i => match i with  | _ => fun _ => .bad }
def f__law_says : List D → FR := den t__law_says xm 2 false b__law_says
def m__law_says : CkM := { fname := fun i => match i with  | _ => none, gname := fun i => match i with  | _ => none, xname := fun i => match i with | 0 => some "Fault" | 1 => some "Malformed" | _ => none, blt := fun x => decide (x ∈ (["tuple", "list", "range", "all", "sorted", "int", "isinstance", "bool", "any", "str", "len", "abs"] : List Str)) }
abbrev s__law_says : Stmt := top 22
def n__law_says : List Str := ["value", "due"]
def p__law_says : List Str := ["value", "due"]
theorem sc__law_says : FnScope n__law_says p__law_says (defScope s__law_says) := ⟨rfl, rfl, rfl, by decide +kernel, rfl, by decide +kernel, by decide +kernel⟩
theorem k__law_says : chkSs (ckOf m__law_says n__law_says (defScope s__law_says)) b__law_says (defBody s__law_says) = true := by decide +kernel
def t__law_words : Tb := { ar := fun i => match i with  | _ => 0, io := fun i => match i with  | _ => false, gd := gd, fn := fun i => match i with  | _ => fun _ => .bad }
def f__law_words : List D → FR := den t__law_words xm 0 false b__law_words
def m__law_words : CkM := { fname := fun i => match i with  | _ => none, gname := fun i => match i with  | _ => none, xname := fun i => match i with | 0 => some "Fault" | 1 => some "Malformed" | _ => none, blt := fun x => decide (x ∈ (["tuple", "list", "range", "all", "sorted", "int", "isinstance", "bool", "any", "str", "len", "abs"] : List Str)) }
abbrev s__law_words : Stmt := top 23
def n__law_words : List Str := []
def p__law_words : List Str := []
theorem sc__law_words : FnScope n__law_words p__law_words (defScope s__law_words) := ⟨rfl, rfl, rfl, by decide +kernel, rfl, by decide +kernel, by decide +kernel⟩
theorem k__law_words : chkSs (ckOf m__law_words n__law_words (defScope s__law_words)) b__law_words (defBody s__law_words) = true := by decide +kernel
def t__law_arrows : Tb := { ar := fun i => match i with  | _ => 0, io := fun i => match i with  | _ => false, gd := gd, fn := fun i => match i with  | _ => fun _ => .bad }
def f__law_arrows : List D → FR := den t__law_arrows xm 3 false b__law_arrows
def m__law_arrows : CkM := { fname := fun i => match i with  | _ => none, gname := fun i => match i with  | _ => none, xname := fun i => match i with | 0 => some "Fault" | 1 => some "Malformed" | _ => none, blt := fun x => decide (x ∈ (["tuple", "list", "range", "all", "sorted", "int", "isinstance", "bool", "any", "str", "len", "abs"] : List Str)) }
abbrev s__law_arrows : Stmt := top 24
def n__law_arrows : List Str := ["text", "words", "k"]
def p__law_arrows : List Str := []
theorem sc__law_arrows : FnScope n__law_arrows p__law_arrows (defScope s__law_arrows) := ⟨rfl, rfl, rfl, by decide +kernel, rfl, by decide +kernel, by decide +kernel⟩
theorem k__law_arrows : chkSs (ckOf m__law_arrows n__law_arrows (defScope s__law_arrows)) b__law_arrows (defBody s__law_arrows) = true := by decide +kernel
def t__law_joint : Tb := { ar := fun i => match i with  | _ => 0, io := fun i => match i with  | _ => false, gd := gd, fn := fun i => match i with  | _ => fun _ => .bad }
def f__law_joint : List D → FR := den t__law_joint xm 3 false b__law_joint
def m__law_joint : CkM := { fname := fun i => match i with  | _ => none, gname := fun i => match i with  | _ => none, xname := fun i => match i with | 0 => some "Fault" | 1 => some "Malformed" | _ => none, blt := fun x => decide (x ∈ (["tuple", "list", "range", "all", "sorted", "int", "isinstance", "bool", "any", "str", "len", "abs"] : List Str)) }
abbrev s__law_joint : Stmt := top 25
def n__law_joint : List Str := ["text", "words", "k"]
def p__law_joint : List Str := []
theorem sc__law_joint : FnScope n__law_joint p__law_joint (defScope s__law_joint) := ⟨rfl, rfl, rfl, by decide +kernel, rfl, by decide +kernel, by decide +kernel⟩
theorem k__law_joint : chkSs (ckOf m__law_joint n__law_joint (defScope s__law_joint)) b__law_joint (defBody s__law_joint) = true := by decide +kernel
def t__law_bars : Tb := { ar := fun i => match i with  | _ => 0, io := fun i => match i with  | _ => false, gd := gd, fn := fun i => match i with  | _ => fun _ => .bad }
def f__law_bars : List D → FR := den t__law_bars xm 0 false b__law_bars
def m__law_bars : CkM := { fname := fun i => match i with  | _ => none, gname := fun i => match i with  | _ => none, xname := fun i => match i with | 0 => some "Fault" | 1 => some "Malformed" | _ => none, blt := fun x => decide (x ∈ (["tuple", "list", "range", "all", "sorted", "int", "isinstance", "bool", "any", "str", "len", "abs"] : List Str)) }
abbrev s__law_bars : Stmt := top 26
def n__law_bars : List Str := []
def p__law_bars : List Str := []
theorem sc__law_bars : FnScope n__law_bars p__law_bars (defScope s__law_bars) := ⟨rfl, rfl, rfl, by decide +kernel, rfl, by decide +kernel, by decide +kernel⟩
theorem k__law_bars : chkSs (ckOf m__law_bars n__law_bars (defScope s__law_bars)) b__law_bars (defBody s__law_bars) = true := by decide +kernel
def t__law_led : Tb := { ar := fun i => match i with | 14 => 0 | 15 => 0 | _ => 0, io := fun i => match i with | 14 => false | 15 => false | _ => false, gd := gd, fn := fun i => match i with | 14 => f__law_arrows | 15 => f__law_joint | _ => fun _ => .bad }
def f__law_led : List D → FR := den t__law_led xm 5 false b__law_led
def m__law_led : CkM := { fname := fun i => match i with | 14 => some "_law_arrows" | 15 => some "_law_joint" | _ => none, gname := fun i => match i with  | _ => none, xname := fun i => match i with | 0 => some "Fault" | 1 => some "Malformed" | _ => none, blt := fun x => decide (x ∈ (["tuple", "list", "range", "all", "sorted", "int", "isinstance", "bool", "any", "str", "len", "abs"] : List Str)) }
abbrev s__law_led : Stmt := top 27
def n__law_led : List Str := ["words", "found", "turn", "step", "one"]
def p__law_led : List Str := ["words"]
theorem sc__law_led : FnScope n__law_led p__law_led (defScope s__law_led) := ⟨rfl, rfl, rfl, by decide +kernel, rfl, by decide +kernel, by decide +kernel⟩
theorem k__law_led : chkSs (ckOf m__law_led n__law_led (defScope s__law_led)) b__law_led (defBody s__law_led) = true := by decide +kernel
def t__law_reached : Tb := { ar := fun i => match i with | 13 => 0 | 16 => 0 | 17 => 1 | _ => 0, io := fun i => match i with | 13 => false | 16 => false | 17 => false | _ => false, gd := gd, fn := fun i => match i with | 13 => f__law_words | 16 => f__law_bars | 17 => f__law_led | _ => fun _ => .bad }
def f__law_reached : List D → FR := den t__law_reached xm 4 false b__law_reached
def m__law_reached : CkM := { fname := fun i => match i with | 13 => some "_law_words" | 16 => some "_law_bars" | 17 => some "_law_led" | _ => none, gname := fun i => match i with  | _ => none, xname := fun i => match i with | 0 => some "Fault" | 1 => some "Malformed" | _ => none, blt := fun x => decide (x ∈ (["tuple", "list", "range", "all", "sorted", "int", "isinstance", "bool", "any", "str", "len", "abs"] : List Str)) }
abbrev s__law_reached : Stmt := top 28
def n__law_reached : List Str := ["words", "found", "one", "two"]
def p__law_reached : List Str := ["words"]
theorem sc__law_reached : FnScope n__law_reached p__law_reached (defScope s__law_reached) := ⟨rfl, rfl, rfl, by decide +kernel, rfl, by decide +kernel, by decide +kernel⟩
theorem k__law_reached : chkSs (ckOf m__law_reached n__law_reached (defScope s__law_reached)) b__law_reached (defBody s__law_reached) = true := by decide +kernel
def t__law_ask : Tb := { ar := fun i => match i with | 8 => 1 | 9 => 2 | _ => 0, io := fun i => match i with | 8 => false | 9 => false | _ => false, gd := gd, fn := fun i => match i with | 8 => f_all_forced | 9 => f_does_force | _ => fun _ => .bad }
def f__law_ask : List D → FR := den t__law_ask xm 3 false b__law_ask
def m__law_ask : CkM := { fname := fun i => match i with | 8 => some "all_forced" | 9 => some "does_force" | _ => none, gname := fun i => match i with  | _ => none, xname := fun i => match i with | 0 => some "Fault" | 1 => some "Malformed" | _ => none, blt := fun x => decide (x ∈ (["tuple", "list", "range", "all", "sorted", "int", "isinstance", "bool", "any", "str", "len", "abs"] : List Str)) }
abbrev s__law_ask : Stmt := top 29
def n__law_ask : List Str := ["which", "words", "word"]
def p__law_ask : List Str := ["which", "words", "word"]
theorem sc__law_ask : FnScope n__law_ask p__law_ask (defScope s__law_ask) := ⟨rfl, rfl, rfl, by decide +kernel, rfl, by decide +kernel, by decide +kernel⟩
theorem k__law_ask : chkSs (ckOf m__law_ask n__law_ask (defScope s__law_ask)) b__law_ask (defBody s__law_ask) = true := by decide +kernel
def t_law : Tb := { ar := fun i => match i with | 1 => 0 | 2 => 0 | 3 => 0 | 10 => 1 | 11 => 2 | 12 => 2 | 13 => 0 | 14 => 0 | 15 => 0 | 16 => 0 | 18 => 1 | 19 => 3 | _ => 0, io := fun i => match i with | 1 => false | 2 => false | 3 => false | 10 => false | 11 => true | 12 => false | 13 => false | 14 => false | 15 => false | 16 => false | 18 => false | 19 => false | _ => false, gd := gd, fn := fun i => match i with | 1 => f_arrows | 2 => f_joint_arrows | 3 => f_bars | 10 => f__law_draw | 11 => f__law_take | 12 => f__law_says | 13 => f__law_words | 14 => f__law_arrows | 15 => f__law_joint | 16 => f__law_bars | 18 => f__law_reached | 19 => f__law_ask | _ => fun _ => .bad }
def f_law : List D → FR := den t_law xm 9 false b_law
def m_law : CkM := { fname := fun i => match i with | 1 => some "arrows" | 2 => some "joint_arrows" | 3 => some "bars" | 10 => some "_law_draw" | 11 => some "_law_take" | 12 => some "_law_says" | 13 => some "_law_words" | 14 => some "_law_arrows" | 15 => some "_law_joint" | 16 => some "_law_bars" | 18 => some "_law_reached" | 19 => some "_law_ask" | _ => none, gname := fun i => match i with  | _ => none, xname := fun i => match i with | 0 => some "Fault" | 1 => some "Malformed" | _ => none, blt := fun x => decide (x ∈ (["tuple", "list", "range", "all", "sorted", "int", "isinstance", "bool", "any", "str", "len", "abs"] : List Str)) }
abbrev s_law : Stmt := top 30
def n_law : List Str := ["script", "draw", "turn", "bad", "words", "found", "k", "which", "word"]
def p_law : List Str := ["script"]
theorem sc_law : FnScope n_law p_law (defScope s_law) := ⟨rfl, rfl, rfl, by decide +kernel, rfl, by decide +kernel, by decide +kernel⟩
theorem k_law : chkSs (ckOf m_law n_law (defScope s_law)) b_law (defBody s_law) = true := by decide +kernel
def xtOf (c0 c1 : Addr) : XT := ⟨fun i => match i with | 0 => some c0 | 1 => some c1 | _ => none, fun _ => none⟩
structure Md (K : PySem.W.Frag) (mg : Str → Option Value) (c0 c1 : Addr) : Prop where
  d_check_word : DefAt K mg "check_word" s_check_word
  d_arrows : DefAt K mg "arrows" s_arrows
  d_joint_arrows : DefAt K mg "joint_arrows" s_joint_arrows
  d_bars : DefAt K mg "bars" s_bars
  d_check_words : DefAt K mg "check_words" s_check_words
  d_ways_to : DefAt K mg "ways_to" s_ways_to
  d_derived : DefAt K mg "derived" s_derived
  d_bar_among : DefAt K mg "bar_among" s_bar_among
  d_all_forced : DefAt K mg "all_forced" s_all_forced
  d_does_force : DefAt K mg "does_force" s_does_force
  d__law_draw : DefAt K mg "_law_draw" s__law_draw
  d__law_take : DefAt K mg "_law_take" s__law_take
  d__law_says : DefAt K mg "_law_says" s__law_says
  d__law_words : DefAt K mg "_law_words" s__law_words
  d__law_arrows : DefAt K mg "_law_arrows" s__law_arrows
  d__law_joint : DefAt K mg "_law_joint" s__law_joint
  d__law_bars : DefAt K mg "_law_bars" s__law_bars
  d__law_led : DefAt K mg "_law_led" s__law_led
  d__law_reached : DefAt K mg "_law_reached" s__law_reached
  d__law_ask : DefAt K mg "_law_ask" s__law_ask
  d_law : DefAt K mg "law" s_law
  g_WORDS : ConAt K mg "WORDS" c_WORDS
  g_ARROWS : ConAt K mg "ARROWS" c_ARROWS
  g_JOINT_ARROWS : ConAt K mg "JOINT_ARROWS" c_JOINT_ARROWS
  g_BARS : ConAt K mg "BARS" c_BARS
  x_Fault : ExcAt K mg (xtOf c0 c1) 0 "Fault"
  x_Malformed : ExcAt K mg (xtOf c0 c1) 1 "Malformed"
  z_tuple : mg "tuple" = none
  z_list : mg "list" = none
  z_range : mg "range" = none
  z_all : mg "all" = none
  z_sorted : mg "sorted" = none
  z_int : mg "int" = none
  z_isinstance : mg "isinstance" = none
  z_bool : mg "bool" = none
  z_any : mg "any" = none
  z_str : mg "str" = none
  z_len : mg "len" = none
  z_abs : mg "abs" = none
  m_0_0 : PySem.W.exmOne K (.ref c0) (.ref c0) = some true
  m_0_1 : PySem.W.exmOne K (.ref c0) (.ref c1) = some false
  m_1_0 : PySem.W.exmOne K (.ref c1) (.ref c0) = some true
  m_1_1 : PySem.W.exmOne K (.ref c1) (.ref c1) = some true
section
variable {P : Program} {w : World} {K : PySem.W.Frag} {mg : Str → Option Value} {base : Heap} {c0 c1 : Addr}
theorem bl_ok (M : Md K mg c0 c1) : ∀ x : Str, x ∈ (["tuple", "list", "range", "all", "sorted", "int", "isinstance", "bool", "any", "str", "len", "abs"] : List Str) → mg x = none := fun x h => by
  rcases List.mem_cons.mp h with h | h
  · rw [h]; exact M.z_tuple
  rcases List.mem_cons.mp h with h | h
  · rw [h]; exact M.z_list
  rcases List.mem_cons.mp h with h | h
  · rw [h]; exact M.z_range
  rcases List.mem_cons.mp h with h | h
  · rw [h]; exact M.z_all
  rcases List.mem_cons.mp h with h | h
  · rw [h]; exact M.z_sorted
  rcases List.mem_cons.mp h with h | h
  · rw [h]; exact M.z_int
  rcases List.mem_cons.mp h with h | h
  · rw [h]; exact M.z_isinstance
  rcases List.mem_cons.mp h with h | h
  · rw [h]; exact M.z_bool
  rcases List.mem_cons.mp h with h | h
  · rw [h]; exact M.z_any
  rcases List.mem_cons.mp h with h | h
  · rw [h]; exact M.z_str
  rcases List.mem_cons.mp h with h | h
  · rw [h]; exact M.z_len
  rcases List.mem_cons.mp h with h | h
  · rw [h]; exact M.z_abs
  cases h
theorem xs_ok (M : Md K mg c0 c1) : ∀ (i : Nat) (x : Str), (match i with | 0 => some "Fault" | 1 => some "Malformed" | _ => none : Option Str) = some x → ExcAt K mg (xtOf c0 c1) i x
  | 0, _, h => by cases h; exact M.x_Fault
  | 1, _, h => by cases h; exact M.x_Malformed
  | _ + 2, _, h => by cases h
theorem exm_ok (M : Md K mg c0 c1) : ∀ (i : Nat) (C : Addr) (j : Nat) (C' : Addr), (xtOf c0 c1).cls i = some C → (xtOf c0 c1).cls j = some C' → PySem.W.exmOne K (.ref C) (.ref C') = some (xm i j)
  | 0, _, 0, _, h1, h2 => by cases h1; cases h2; exact M.m_0_0
  | 0, _, 1, _, h1, h2 => by cases h1; cases h2; exact M.m_0_1
  | 0, _, _ + 2, _, h1, h2 => by cases h2
  | 1, _, 0, _, h1, h2 => by cases h1; cases h2; exact M.m_1_0
  | 1, _, 1, _, h1, h2 => by cases h1; cases h2; exact M.m_1_1
  | 1, _, _ + 2, _, h1, h2 => by cases h2
  | _ + 2, _, _, _, h1, h2 => by cases h1
theorem ok_check_word (M : Md K mg c0 c1) : DefOk P w K mg base (xtOf c0 c1) 1 "check_word" false f_check_word 1 := by
  refine mk_ok (k := 0) M.d_check_word sc_check_word rfl k_check_word (fun _ _ _ _ _ _ us hl => match us, hl with | [_], _ => rfl) (fun i x e => ?_) (fun i x e => ?_) (fun x h => bl_ok M x (of_decide_eq_true h)) (xs_ok M) (exm_ok M)
  · cases e
  · dsimp only [m_check_word] at e
    split at e
    · cases e; exact M.g_WORDS
    · cases e
theorem ok_arrows (M : Md K mg c0 c1) : DefOk P w K mg base (xtOf c0 c1) 1 "arrows" false f_arrows 0 := by
  refine mk_ok (k := 0) M.d_arrows sc_arrows rfl k_arrows (fun _ _ _ _ _ _ us hl => match us, hl with | [], _ => rfl) (fun i x e => ?_) (fun i x e => ?_) (fun x h => bl_ok M x (of_decide_eq_true h)) (xs_ok M) (exm_ok M)
  · cases e
  · dsimp only [m_arrows] at e
    split at e
    · cases e; exact M.g_ARROWS
    · cases e
theorem ok_joint_arrows (M : Md K mg c0 c1) : DefOk P w K mg base (xtOf c0 c1) 1 "joint_arrows" false f_joint_arrows 0 := by
  refine mk_ok (k := 0) M.d_joint_arrows sc_joint_arrows rfl k_joint_arrows (fun _ _ _ _ _ _ us hl => match us, hl with | [], _ => rfl) (fun i x e => ?_) (fun i x e => ?_) (fun x h => bl_ok M x (of_decide_eq_true h)) (xs_ok M) (exm_ok M)
  · cases e
  · dsimp only [m_joint_arrows] at e
    split at e
    · cases e; exact M.g_JOINT_ARROWS
    · cases e
theorem ok_bars (M : Md K mg c0 c1) : DefOk P w K mg base (xtOf c0 c1) 1 "bars" false f_bars 0 := by
  refine mk_ok (k := 0) M.d_bars sc_bars rfl k_bars (fun _ _ _ _ _ _ us hl => match us, hl with | [], _ => rfl) (fun i x e => ?_) (fun i x e => ?_) (fun x h => bl_ok M x (of_decide_eq_true h)) (xs_ok M) (exm_ok M)
  · cases e
  · dsimp only [m_bars] at e
    split at e
    · cases e; exact M.g_BARS
    · cases e
theorem ok_check_words (M : Md K mg c0 c1) : DefOk P w K mg base (xtOf c0 c1) 2 "check_words" false f_check_words 1 := by
  refine mk_ok (k := 1) M.d_check_words sc_check_words rfl k_check_words (fun _ _ _ _ _ _ us hl => match us, hl with | [_], _ => rfl) (fun i x e => ?_) (fun i x e => ?_) (fun x h => bl_ok M x (of_decide_eq_true h)) (xs_ok M) (exm_ok M)
  · dsimp only [m_check_words] at e
    split at e
    · cases e; exact DefOk.mono (ok_check_word M) (by decide)
    · cases e
  · cases e
theorem ok_ways_to (M : Md K mg c0 c1) : DefOk P w K mg base (xtOf c0 c1) 1 "ways_to" false f_ways_to 2 := by
  refine mk_ok (k := 0) M.d_ways_to sc_ways_to rfl k_ways_to (fun _ _ _ _ _ _ us hl => match us, hl with | [_, _], _ => rfl) (fun i x e => ?_) (fun i x e => ?_) (fun x h => bl_ok M x (of_decide_eq_true h)) (xs_ok M) (exm_ok M)
  · cases e
  · dsimp only [m_ways_to] at e
    split at e
    · cases e; exact M.g_ARROWS
    · cases e; exact M.g_JOINT_ARROWS
    · cases e
theorem ok_derived (M : Md K mg c0 c1) : DefOk P w K mg base (xtOf c0 c1) 2 "derived" false f_derived 1 := by
  refine mk_ok (k := 1) M.d_derived sc_derived rfl k_derived (fun _ _ _ _ _ _ us hl => match us, hl with | [_], _ => rfl) (fun i x e => ?_) (fun i x e => ?_) (fun x h => bl_ok M x (of_decide_eq_true h)) (xs_ok M) (exm_ok M)
  · dsimp only [m_derived] at e
    split at e
    · cases e; exact DefOk.mono (ok_ways_to M) (by decide)
    · cases e
  · dsimp only [m_derived] at e
    split at e
    · cases e; exact M.g_WORDS
    · cases e
theorem ok_bar_among (M : Md K mg c0 c1) : DefOk P w K mg base (xtOf c0 c1) 1 "bar_among" false f_bar_among 1 := by
  refine mk_ok (k := 0) M.d_bar_among sc_bar_among rfl k_bar_among (fun _ _ _ _ _ _ us hl => match us, hl with | [_], _ => rfl) (fun i x e => ?_) (fun i x e => ?_) (fun x h => bl_ok M x (of_decide_eq_true h)) (xs_ok M) (exm_ok M)
  · cases e
  · dsimp only [m_bar_among] at e
    split at e
    · cases e; exact M.g_BARS
    · cases e
theorem ok_all_forced (M : Md K mg c0 c1) : DefOk P w K mg base (xtOf c0 c1) 3 "all_forced" false f_all_forced 1 := by
  refine mk_ok (k := 2) M.d_all_forced sc_all_forced rfl k_all_forced (fun _ _ _ _ _ _ us hl => match us, hl with | [_], _ => rfl) (fun i x e => ?_) (fun i x e => ?_) (fun x h => bl_ok M x (of_decide_eq_true h)) (xs_ok M) (exm_ok M)
  · dsimp only [m_all_forced] at e
    split at e
    · cases e; exact DefOk.mono (ok_check_words M) (by decide)
    · cases e; exact DefOk.mono (ok_derived M) (by decide)
    · cases e; exact DefOk.mono (ok_bar_among M) (by decide)
    · cases e
  · dsimp only [m_all_forced] at e
    split at e
    · cases e; exact M.g_WORDS
    · cases e
theorem ok_does_force (M : Md K mg c0 c1) : DefOk P w K mg base (xtOf c0 c1) 4 "does_force" false f_does_force 2 := by
  refine mk_ok (k := 3) M.d_does_force sc_does_force rfl k_does_force (fun _ _ _ _ _ _ us hl => match us, hl with | [_, _], _ => rfl) (fun i x e => ?_) (fun i x e => ?_) (fun x h => bl_ok M x (of_decide_eq_true h)) (xs_ok M) (exm_ok M)
  · dsimp only [m_does_force] at e
    split at e
    · cases e; exact DefOk.mono (ok_check_word M) (by decide)
    · cases e; exact DefOk.mono (ok_all_forced M) (by decide)
    · cases e
  · cases e
theorem ok__law_draw (M : Md K mg c0 c1) : DefOk P w K mg base (xtOf c0 c1) 1 "_law_draw" false f__law_draw 1 := by
  refine mk_ok (k := 0) M.d__law_draw sc__law_draw rfl k__law_draw (fun _ _ _ _ _ _ us hl => match us, hl with | [_], _ => rfl) (fun i x e => ?_) (fun i x e => ?_) (fun x h => bl_ok M x (of_decide_eq_true h)) (xs_ok M) (exm_ok M)
  · cases e
  · cases e
theorem ok__law_take (M : Md K mg c0 c1) : DefOk P w K mg base (xtOf c0 c1) 1 "_law_take" true f__law_take 2 := by
  refine mk_ok (k := 0) M.d__law_take sc__law_take rfl k__law_take (fun _ _ _ _ _ _ us hl => match us, hl with | [_, _], _ => rfl) (fun i x e => ?_) (fun i x e => ?_) (fun x h => bl_ok M x (of_decide_eq_true h)) (xs_ok M) (exm_ok M)
  · cases e
  · cases e
theorem ok__law_says (M : Md K mg c0 c1) : DefOk P w K mg base (xtOf c0 c1) 1 "_law_says" false f__law_says 2 := by
  refine mk_ok (k := 0) M.d__law_says sc__law_says rfl k__law_says (fun _ _ _ _ _ _ us hl => match us, hl with | [_, _], _ => rfl) (fun i x e => ?_) (fun i x e => ?_) (fun x h => bl_ok M x (of_decide_eq_true h)) (xs_ok M) (exm_ok M)
  · cases e
  · cases e
theorem ok__law_words (M : Md K mg c0 c1) : DefOk P w K mg base (xtOf c0 c1) 1 "_law_words" false f__law_words 0 := by
  refine mk_ok (k := 0) M.d__law_words sc__law_words rfl k__law_words (fun _ _ _ _ _ _ us hl => match us, hl with | [], _ => rfl) (fun i x e => ?_) (fun i x e => ?_) (fun x h => bl_ok M x (of_decide_eq_true h)) (xs_ok M) (exm_ok M)
  · cases e
  · cases e
theorem ok__law_arrows (M : Md K mg c0 c1) : DefOk P w K mg base (xtOf c0 c1) 1 "_law_arrows" false f__law_arrows 0 := by
  refine mk_ok (k := 0) M.d__law_arrows sc__law_arrows rfl k__law_arrows (fun _ _ _ _ _ _ us hl => match us, hl with | [], _ => rfl) (fun i x e => ?_) (fun i x e => ?_) (fun x h => bl_ok M x (of_decide_eq_true h)) (xs_ok M) (exm_ok M)
  · cases e
  · cases e
theorem ok__law_joint (M : Md K mg c0 c1) : DefOk P w K mg base (xtOf c0 c1) 1 "_law_joint" false f__law_joint 0 := by
  refine mk_ok (k := 0) M.d__law_joint sc__law_joint rfl k__law_joint (fun _ _ _ _ _ _ us hl => match us, hl with | [], _ => rfl) (fun i x e => ?_) (fun i x e => ?_) (fun x h => bl_ok M x (of_decide_eq_true h)) (xs_ok M) (exm_ok M)
  · cases e
  · cases e
theorem ok__law_bars (M : Md K mg c0 c1) : DefOk P w K mg base (xtOf c0 c1) 1 "_law_bars" false f__law_bars 0 := by
  refine mk_ok (k := 0) M.d__law_bars sc__law_bars rfl k__law_bars (fun _ _ _ _ _ _ us hl => match us, hl with | [], _ => rfl) (fun i x e => ?_) (fun i x e => ?_) (fun x h => bl_ok M x (of_decide_eq_true h)) (xs_ok M) (exm_ok M)
  · cases e
  · cases e
theorem ok__law_led (M : Md K mg c0 c1) : DefOk P w K mg base (xtOf c0 c1) 2 "_law_led" false f__law_led 1 := by
  refine mk_ok (k := 1) M.d__law_led sc__law_led rfl k__law_led (fun _ _ _ _ _ _ us hl => match us, hl with | [_], _ => rfl) (fun i x e => ?_) (fun i x e => ?_) (fun x h => bl_ok M x (of_decide_eq_true h)) (xs_ok M) (exm_ok M)
  · dsimp only [m__law_led] at e
    split at e
    · cases e; exact DefOk.mono (ok__law_arrows M) (by decide)
    · cases e; exact DefOk.mono (ok__law_joint M) (by decide)
    · cases e
  · cases e
theorem ok__law_reached (M : Md K mg c0 c1) : DefOk P w K mg base (xtOf c0 c1) 3 "_law_reached" false f__law_reached 1 := by
  refine mk_ok (k := 2) M.d__law_reached sc__law_reached rfl k__law_reached (fun _ _ _ _ _ _ us hl => match us, hl with | [_], _ => rfl) (fun i x e => ?_) (fun i x e => ?_) (fun x h => bl_ok M x (of_decide_eq_true h)) (xs_ok M) (exm_ok M)
  · dsimp only [m__law_reached] at e
    split at e
    · cases e; exact DefOk.mono (ok__law_words M) (by decide)
    · cases e; exact DefOk.mono (ok__law_bars M) (by decide)
    · cases e; exact DefOk.mono (ok__law_led M) (by decide)
    · cases e
  · cases e
theorem ok__law_ask (M : Md K mg c0 c1) : DefOk P w K mg base (xtOf c0 c1) 5 "_law_ask" false f__law_ask 3 := by
  refine mk_ok (k := 4) M.d__law_ask sc__law_ask rfl k__law_ask (fun _ _ _ _ _ _ us hl => match us, hl with | [_, _, _], _ => rfl) (fun i x e => ?_) (fun i x e => ?_) (fun x h => bl_ok M x (of_decide_eq_true h)) (xs_ok M) (exm_ok M)
  · dsimp only [m__law_ask] at e
    split at e
    · cases e; exact DefOk.mono (ok_all_forced M) (by decide)
    · cases e; exact DefOk.mono (ok_does_force M) (by decide)
    · cases e
  · cases e
theorem ok_law (M : Md K mg c0 c1) : DefOk P w K mg base (xtOf c0 c1) 6 "law" false f_law 1 := by
  refine mk_ok (k := 5) M.d_law sc_law rfl k_law (fun _ _ _ _ _ _ us hl => match us, hl with | [_], _ => rfl) (fun i x e => ?_) (fun i x e => ?_) (fun x h => bl_ok M x (of_decide_eq_true h)) (xs_ok M) (exm_ok M)
  · dsimp only [m_law] at e
    split at e
    · cases e; exact DefOk.mono (ok_arrows M) (by decide)
    · cases e; exact DefOk.mono (ok_joint_arrows M) (by decide)
    · cases e; exact DefOk.mono (ok_bars M) (by decide)
    · cases e; exact DefOk.mono (ok__law_draw M) (by decide)
    · cases e; exact DefOk.mono (ok__law_take M) (by decide)
    · cases e; exact DefOk.mono (ok__law_says M) (by decide)
    · cases e; exact DefOk.mono (ok__law_words M) (by decide)
    · cases e; exact DefOk.mono (ok__law_arrows M) (by decide)
    · cases e; exact DefOk.mono (ok__law_joint M) (by decide)
    · cases e; exact DefOk.mono (ok__law_bars M) (by decide)
    · cases e; exact DefOk.mono (ok__law_reached M) (by decide)
    · cases e; exact DefOk.mono (ok__law_ask M) (by decide)
    · cases e
  · cases e
theorem den_law {f : Addr} {fd : FuncData} (F : Fun K "law" "law" s_law f fd) (M : Md K mg c0 c1) : FnOk P w K mg base (L2.CX P w) 6 f fd ["script"] (FSp (xrOf (xtOf c0 c1)) K false f_law 1) := by
  refine den_def (k := 5) (ps := ["script"]) F sc_law rfl k_law (fun i x e => ?_) (fun i x e => ?_) (fun x h => bl_ok M x (of_decide_eq_true h)) (xs_ok M) (exm_ok M)
  · dsimp only [m_law] at e
    split at e
    · cases e; exact DefOk.mono (ok_arrows M) (by decide)
    · cases e; exact DefOk.mono (ok_joint_arrows M) (by decide)
    · cases e; exact DefOk.mono (ok_bars M) (by decide)
    · cases e; exact DefOk.mono (ok__law_draw M) (by decide)
    · cases e; exact DefOk.mono (ok__law_take M) (by decide)
    · cases e; exact DefOk.mono (ok__law_says M) (by decide)
    · cases e; exact DefOk.mono (ok__law_words M) (by decide)
    · cases e; exact DefOk.mono (ok__law_arrows M) (by decide)
    · cases e; exact DefOk.mono (ok__law_joint M) (by decide)
    · cases e; exact DefOk.mono (ok__law_bars M) (by decide)
    · cases e; exact DefOk.mono (ok__law_reached M) (by decide)
    · cases e; exact DefOk.mono (ok__law_ask M) (by decide)
    · cases e
  · cases e
theorem all_mk {l : PySem.W.OpenLaw} {h : Heap} {fa : Addr} (hf : ∀ ns : List Int, ns.length ≤ 63 → ∃ o, f_law [.rol (ns.map D.int)] = .ok (.bl true) o) (X : K.In h) (G : h.Ns mainGlobals mg) (hfa : mg "law" = some (.ref fa))
    {f0 : Addr} {od0 an0 : Option Addr} {sl0 : Array (Option Value)} {oc0 kV0 dc0 pm0 cd0 ct0 : Value} {f1 : Addr} {od1 an1 : Option Addr} {sl1 : Array (Option Value)} {oc1 kV1 dc1 pm1 cd1 ct1 : Value} {f2 : Addr} {od2 an2 : Option Addr} {sl2 : Array (Option Value)} {oc2 kV2 dc2 pm2 cd2 ct2 : Value} {f3 : Addr} {od3 an3 : Option Addr} {sl3 : Array (Option Value)} {oc3 kV3 dc3 pm3 cd3 ct3 : Value} {f4 : Addr} {od4 an4 : Option Addr} {sl4 : Array (Option Value)} {oc4 kV4 dc4 pm4 cd4 ct4 : Value} {f5 : Addr} {od5 an5 : Option Addr} {sl5 : Array (Option Value)} {oc5 kV5 dc5 pm5 cd5 ct5 : Value} {f6 : Addr} {od6 an6 : Option Addr} {sl6 : Array (Option Value)} {oc6 kV6 dc6 pm6 cd6 ct6 : Value} {f7 : Addr} {od7 an7 : Option Addr} {sl7 : Array (Option Value)} {oc7 kV7 dc7 pm7 cd7 ct7 : Value} {f8 : Addr} {od8 an8 : Option Addr} {sl8 : Array (Option Value)} {oc8 kV8 dc8 pm8 cd8 ct8 : Value} {f9 : Addr} {od9 an9 : Option Addr} {sl9 : Array (Option Value)} {oc9 kV9 dc9 pm9 cd9 ct9 : Value} {f10 : Addr} {od10 an10 : Option Addr} {sl10 : Array (Option Value)} {oc10 kV10 dc10 pm10 cd10 ct10 : Value} {f11 : Addr} {od11 an11 : Option Addr} {sl11 : Array (Option Value)} {oc11 kV11 dc11 pm11 cd11 ct11 : Value} {f12 : Addr} {od12 an12 : Option Addr} {sl12 : Array (Option Value)} {oc12 kV12 dc12 pm12 cd12 ct12 : Value} {f13 : Addr} {od13 an13 : Option Addr} {sl13 : Array (Option Value)} {oc13 kV13 dc13 pm13 cd13 ct13 : Value} {f14 : Addr} {od14 an14 : Option Addr} {sl14 : Array (Option Value)} {oc14 kV14 dc14 pm14 cd14 ct14 : Value} {f15 : Addr} {od15 an15 : Option Addr} {sl15 : Array (Option Value)} {oc15 kV15 dc15 pm15 cd15 ct15 : Value} {f16 : Addr} {od16 an16 : Option Addr} {sl16 : Array (Option Value)} {oc16 kV16 dc16 pm16 cd16 ct16 : Value} {f17 : Addr} {od17 an17 : Option Addr} {sl17 : Array (Option Value)} {oc17 kV17 dc17 pm17 cd17 ct17 : Value} {f18 : Addr} {od18 an18 : Option Addr} {sl18 : Array (Option Value)} {oc18 kV18 dc18 pm18 cd18 ct18 : Value} {f19 : Addr} {od19 an19 : Option Addr} {sl19 : Array (Option Value)} {oc19 kV19 dc19 pm19 cd19 ct19 : Value} {f20 : Addr} {od20 an20 : Option Addr} {sl20 : Array (Option Value)} {oc20 kV20 dc20 pm20 cd20 ct20 : Value} {u0 : Value} {u1 : Value} {u2 : Value} {u3 : Value} {c0 : Addr} {c1 : Addr}
    (a0 : PySem.W.nsIn K mainGlobals "check_word" = some (some (.ref f0)))
    (l0 : K.lookup f0 = some ⟨oc0, od0, .func (PySem.W.fnOf "check_word" "check_word" (defArgs s_check_word) (defBody s_check_word) (defScope s_check_word) .none kV0 dc0 pm0 an0 cd0 ct0), sl0⟩)
    (c0_ : PySem.W.codeIn K cd0 "check_word" = true)
    (k0 : PySem.W.keepIn K (.ref f0) = true)
    (a1 : PySem.W.nsIn K mainGlobals "arrows" = some (some (.ref f1)))
    (l1 : K.lookup f1 = some ⟨oc1, od1, .func (PySem.W.fnOf "arrows" "arrows" (defArgs s_arrows) (defBody s_arrows) (defScope s_arrows) .none kV1 dc1 pm1 an1 cd1 ct1), sl1⟩)
    (c1_ : PySem.W.codeIn K cd1 "arrows" = true)
    (k1 : PySem.W.keepIn K (.ref f1) = true)
    (a2 : PySem.W.nsIn K mainGlobals "joint_arrows" = some (some (.ref f2)))
    (l2 : K.lookup f2 = some ⟨oc2, od2, .func (PySem.W.fnOf "joint_arrows" "joint_arrows" (defArgs s_joint_arrows) (defBody s_joint_arrows) (defScope s_joint_arrows) .none kV2 dc2 pm2 an2 cd2 ct2), sl2⟩)
    (c2_ : PySem.W.codeIn K cd2 "joint_arrows" = true)
    (k2 : PySem.W.keepIn K (.ref f2) = true)
    (a3 : PySem.W.nsIn K mainGlobals "bars" = some (some (.ref f3)))
    (l3 : K.lookup f3 = some ⟨oc3, od3, .func (PySem.W.fnOf "bars" "bars" (defArgs s_bars) (defBody s_bars) (defScope s_bars) .none kV3 dc3 pm3 an3 cd3 ct3), sl3⟩)
    (c3_ : PySem.W.codeIn K cd3 "bars" = true)
    (k3 : PySem.W.keepIn K (.ref f3) = true)
    (a4 : PySem.W.nsIn K mainGlobals "check_words" = some (some (.ref f4)))
    (l4 : K.lookup f4 = some ⟨oc4, od4, .func (PySem.W.fnOf "check_words" "check_words" (defArgs s_check_words) (defBody s_check_words) (defScope s_check_words) .none kV4 dc4 pm4 an4 cd4 ct4), sl4⟩)
    (c4_ : PySem.W.codeIn K cd4 "check_words" = true)
    (k4 : PySem.W.keepIn K (.ref f4) = true)
    (a5 : PySem.W.nsIn K mainGlobals "ways_to" = some (some (.ref f5)))
    (l5 : K.lookup f5 = some ⟨oc5, od5, .func (PySem.W.fnOf "ways_to" "ways_to" (defArgs s_ways_to) (defBody s_ways_to) (defScope s_ways_to) .none kV5 dc5 pm5 an5 cd5 ct5), sl5⟩)
    (c5_ : PySem.W.codeIn K cd5 "ways_to" = true)
    (k5 : PySem.W.keepIn K (.ref f5) = true)
    (a6 : PySem.W.nsIn K mainGlobals "derived" = some (some (.ref f6)))
    (l6 : K.lookup f6 = some ⟨oc6, od6, .func (PySem.W.fnOf "derived" "derived" (defArgs s_derived) (defBody s_derived) (defScope s_derived) .none kV6 dc6 pm6 an6 cd6 ct6), sl6⟩)
    (c6_ : PySem.W.codeIn K cd6 "derived" = true)
    (k6 : PySem.W.keepIn K (.ref f6) = true)
    (a7 : PySem.W.nsIn K mainGlobals "bar_among" = some (some (.ref f7)))
    (l7 : K.lookup f7 = some ⟨oc7, od7, .func (PySem.W.fnOf "bar_among" "bar_among" (defArgs s_bar_among) (defBody s_bar_among) (defScope s_bar_among) .none kV7 dc7 pm7 an7 cd7 ct7), sl7⟩)
    (c7_ : PySem.W.codeIn K cd7 "bar_among" = true)
    (k7 : PySem.W.keepIn K (.ref f7) = true)
    (a8 : PySem.W.nsIn K mainGlobals "all_forced" = some (some (.ref f8)))
    (l8 : K.lookup f8 = some ⟨oc8, od8, .func (PySem.W.fnOf "all_forced" "all_forced" (defArgs s_all_forced) (defBody s_all_forced) (defScope s_all_forced) .none kV8 dc8 pm8 an8 cd8 ct8), sl8⟩)
    (c8_ : PySem.W.codeIn K cd8 "all_forced" = true)
    (k8 : PySem.W.keepIn K (.ref f8) = true)
    (a9 : PySem.W.nsIn K mainGlobals "does_force" = some (some (.ref f9)))
    (l9 : K.lookup f9 = some ⟨oc9, od9, .func (PySem.W.fnOf "does_force" "does_force" (defArgs s_does_force) (defBody s_does_force) (defScope s_does_force) .none kV9 dc9 pm9 an9 cd9 ct9), sl9⟩)
    (c9_ : PySem.W.codeIn K cd9 "does_force" = true)
    (k9 : PySem.W.keepIn K (.ref f9) = true)
    (a10 : PySem.W.nsIn K mainGlobals "_law_draw" = some (some (.ref f10)))
    (l10 : K.lookup f10 = some ⟨oc10, od10, .func (PySem.W.fnOf "_law_draw" "_law_draw" (defArgs s__law_draw) (defBody s__law_draw) (defScope s__law_draw) .none kV10 dc10 pm10 an10 cd10 ct10), sl10⟩)
    (c10_ : PySem.W.codeIn K cd10 "_law_draw" = true)
    (k10 : PySem.W.keepIn K (.ref f10) = true)
    (a11 : PySem.W.nsIn K mainGlobals "_law_take" = some (some (.ref f11)))
    (l11 : K.lookup f11 = some ⟨oc11, od11, .func (PySem.W.fnOf "_law_take" "_law_take" (defArgs s__law_take) (defBody s__law_take) (defScope s__law_take) .none kV11 dc11 pm11 an11 cd11 ct11), sl11⟩)
    (c11_ : PySem.W.codeIn K cd11 "_law_take" = true)
    (k11 : PySem.W.keepIn K (.ref f11) = true)
    (a12 : PySem.W.nsIn K mainGlobals "_law_says" = some (some (.ref f12)))
    (l12 : K.lookup f12 = some ⟨oc12, od12, .func (PySem.W.fnOf "_law_says" "_law_says" (defArgs s__law_says) (defBody s__law_says) (defScope s__law_says) .none kV12 dc12 pm12 an12 cd12 ct12), sl12⟩)
    (c12_ : PySem.W.codeIn K cd12 "_law_says" = true)
    (k12 : PySem.W.keepIn K (.ref f12) = true)
    (a13 : PySem.W.nsIn K mainGlobals "_law_words" = some (some (.ref f13)))
    (l13 : K.lookup f13 = some ⟨oc13, od13, .func (PySem.W.fnOf "_law_words" "_law_words" (defArgs s__law_words) (defBody s__law_words) (defScope s__law_words) .none kV13 dc13 pm13 an13 cd13 ct13), sl13⟩)
    (c13_ : PySem.W.codeIn K cd13 "_law_words" = true)
    (k13 : PySem.W.keepIn K (.ref f13) = true)
    (a14 : PySem.W.nsIn K mainGlobals "_law_arrows" = some (some (.ref f14)))
    (l14 : K.lookup f14 = some ⟨oc14, od14, .func (PySem.W.fnOf "_law_arrows" "_law_arrows" (defArgs s__law_arrows) (defBody s__law_arrows) (defScope s__law_arrows) .none kV14 dc14 pm14 an14 cd14 ct14), sl14⟩)
    (c14_ : PySem.W.codeIn K cd14 "_law_arrows" = true)
    (k14 : PySem.W.keepIn K (.ref f14) = true)
    (a15 : PySem.W.nsIn K mainGlobals "_law_joint" = some (some (.ref f15)))
    (l15 : K.lookup f15 = some ⟨oc15, od15, .func (PySem.W.fnOf "_law_joint" "_law_joint" (defArgs s__law_joint) (defBody s__law_joint) (defScope s__law_joint) .none kV15 dc15 pm15 an15 cd15 ct15), sl15⟩)
    (c15_ : PySem.W.codeIn K cd15 "_law_joint" = true)
    (k15 : PySem.W.keepIn K (.ref f15) = true)
    (a16 : PySem.W.nsIn K mainGlobals "_law_bars" = some (some (.ref f16)))
    (l16 : K.lookup f16 = some ⟨oc16, od16, .func (PySem.W.fnOf "_law_bars" "_law_bars" (defArgs s__law_bars) (defBody s__law_bars) (defScope s__law_bars) .none kV16 dc16 pm16 an16 cd16 ct16), sl16⟩)
    (c16_ : PySem.W.codeIn K cd16 "_law_bars" = true)
    (k16 : PySem.W.keepIn K (.ref f16) = true)
    (a17 : PySem.W.nsIn K mainGlobals "_law_led" = some (some (.ref f17)))
    (l17 : K.lookup f17 = some ⟨oc17, od17, .func (PySem.W.fnOf "_law_led" "_law_led" (defArgs s__law_led) (defBody s__law_led) (defScope s__law_led) .none kV17 dc17 pm17 an17 cd17 ct17), sl17⟩)
    (c17_ : PySem.W.codeIn K cd17 "_law_led" = true)
    (k17 : PySem.W.keepIn K (.ref f17) = true)
    (a18 : PySem.W.nsIn K mainGlobals "_law_reached" = some (some (.ref f18)))
    (l18 : K.lookup f18 = some ⟨oc18, od18, .func (PySem.W.fnOf "_law_reached" "_law_reached" (defArgs s__law_reached) (defBody s__law_reached) (defScope s__law_reached) .none kV18 dc18 pm18 an18 cd18 ct18), sl18⟩)
    (c18_ : PySem.W.codeIn K cd18 "_law_reached" = true)
    (k18 : PySem.W.keepIn K (.ref f18) = true)
    (a19 : PySem.W.nsIn K mainGlobals "_law_ask" = some (some (.ref f19)))
    (l19 : K.lookup f19 = some ⟨oc19, od19, .func (PySem.W.fnOf "_law_ask" "_law_ask" (defArgs s__law_ask) (defBody s__law_ask) (defScope s__law_ask) .none kV19 dc19 pm19 an19 cd19 ct19), sl19⟩)
    (c19_ : PySem.W.codeIn K cd19 "_law_ask" = true)
    (k19 : PySem.W.keepIn K (.ref f19) = true)
    (a20 : PySem.W.nsIn K mainGlobals "law" = some (some (.ref f20)))
    (l20 : K.lookup f20 = some ⟨oc20, od20, .func (PySem.W.fnOf "law" "law" (defArgs s_law) (defBody s_law) (defScope s_law) .none kV20 dc20 pm20 an20 cd20 ct20), sl20⟩)
    (c20_ : PySem.W.codeIn K cd20 "law" = true)
    (k20 : PySem.W.keepIn K (.ref f20) = true)
    (nc0 : PySem.W.nsIn K mainGlobals "WORDS" = some (some u0))
    (vc0 : conB K c_WORDS u0 = true)
    (nc1 : PySem.W.nsIn K mainGlobals "ARROWS" = some (some u1))
    (vc1 : conB K c_ARROWS u1 = true)
    (nc2 : PySem.W.nsIn K mainGlobals "JOINT_ARROWS" = some (some u2))
    (vc2 : conB K c_JOINT_ARROWS u2 = true)
    (nc3 : PySem.W.nsIn K mainGlobals "BARS" = some (some u3))
    (vc3 : conB K c_BARS u3 = true)
    (xa0 : PySem.W.nsIn K mainGlobals "Fault" = some (some (.ref c0)))
    (xe0 : PySem.W.excIn K c0 [.type "ValueError", .type "Exception", .type "BaseException", .type "object"] "ValueError.__new__" = true)
    (xk0 : PySem.W.keepIn K (.ref c0) = true)
    (xb0 : PySem.W.subIn K (.ref c0) (.type "BaseException") = some true)
    (xt0 : PySem.W.typeIn K (.ref c0) = some (.type "type"))
    (xa1 : PySem.W.nsIn K mainGlobals "Malformed" = some (some (.ref c1)))
    (xe1 : PySem.W.excIn K c1 [.type "ValueError", .type "Exception", .type "BaseException", .type "object"] "ValueError.__new__" = true)
    (xk1 : PySem.W.keepIn K (.ref c1) = true)
    (xb1 : PySem.W.subIn K (.ref c1) (.type "BaseException") = some true)
    (xt1 : PySem.W.typeIn K (.ref c1) = some (.type "type"))
    (z_tuple : PySem.W.nsIn K mainGlobals "tuple" = some none)
    (z_list : PySem.W.nsIn K mainGlobals "list" = some none)
    (z_range : PySem.W.nsIn K mainGlobals "range" = some none)
    (z_all : PySem.W.nsIn K mainGlobals "all" = some none)
    (z_sorted : PySem.W.nsIn K mainGlobals "sorted" = some none)
    (z_int : PySem.W.nsIn K mainGlobals "int" = some none)
    (z_isinstance : PySem.W.nsIn K mainGlobals "isinstance" = some none)
    (z_bool : PySem.W.nsIn K mainGlobals "bool" = some none)
    (z_any : PySem.W.nsIn K mainGlobals "any" = some none)
    (z_str : PySem.W.nsIn K mainGlobals "str" = some none)
    (z_len : PySem.W.nsIn K mainGlobals "len" = some none)
    (z_abs : PySem.W.nsIn K mainGlobals "abs" = some none)
    (m_0_0 : PySem.W.exmOne K (.ref c0) (.ref c0) = some true)
    (m_0_1 : PySem.W.exmOne K (.ref c0) (.ref c1) = some false)
    (m_1_0 : PySem.W.exmOne K (.ref c1) (.ref c0) = some true)
    (m_1_1 : PySem.W.exmOne K (.ref c1) (.ref c1) = some true)
    : ∃ fd : FuncData, (∀ (s : Shared) (v : Value), BindsTo s fd ⟨[v], []⟩ [("script", v)]) ∧ ∀ base : Heap, K.In base → base.Ns mainGlobals mg → FnOk l.prog w K mg base (L2.CX l.prog w) 6 fa fd ["script"] (spLaw K) := by
  have e := hfa.symm.trans (PySem.W.mg_of X G a20)
  cases e
  have F0 := fun_mk (st := s_check_word) l0 c0_ k0
  have F1 := fun_mk (st := s_arrows) l1 c1_ k1
  have F2 := fun_mk (st := s_joint_arrows) l2 c2_ k2
  have F3 := fun_mk (st := s_bars) l3 c3_ k3
  have F4 := fun_mk (st := s_check_words) l4 c4_ k4
  have F5 := fun_mk (st := s_ways_to) l5 c5_ k5
  have F6 := fun_mk (st := s_derived) l6 c6_ k6
  have F7 := fun_mk (st := s_bar_among) l7 c7_ k7
  have F8 := fun_mk (st := s_all_forced) l8 c8_ k8
  have F9 := fun_mk (st := s_does_force) l9 c9_ k9
  have F10 := fun_mk (st := s__law_draw) l10 c10_ k10
  have F11 := fun_mk (st := s__law_take) l11 c11_ k11
  have F12 := fun_mk (st := s__law_says) l12 c12_ k12
  have F13 := fun_mk (st := s__law_words) l13 c13_ k13
  have F14 := fun_mk (st := s__law_arrows) l14 c14_ k14
  have F15 := fun_mk (st := s__law_joint) l15 c15_ k15
  have F16 := fun_mk (st := s__law_bars) l16 c16_ k16
  have F17 := fun_mk (st := s__law_led) l17 c17_ k17
  have F18 := fun_mk (st := s__law_reached) l18 c18_ k18
  have F19 := fun_mk (st := s__law_ask) l19 c19_ k19
  have F20 := fun_mk (st := s_law) l20 c20_ k20
  have M : Md K mg c0 c1 := ⟨⟨_, _, F0, PySem.W.mg_of X G a0⟩,
    ⟨_, _, F1, PySem.W.mg_of X G a1⟩,
    ⟨_, _, F2, PySem.W.mg_of X G a2⟩,
    ⟨_, _, F3, PySem.W.mg_of X G a3⟩,
    ⟨_, _, F4, PySem.W.mg_of X G a4⟩,
    ⟨_, _, F5, PySem.W.mg_of X G a5⟩,
    ⟨_, _, F6, PySem.W.mg_of X G a6⟩,
    ⟨_, _, F7, PySem.W.mg_of X G a7⟩,
    ⟨_, _, F8, PySem.W.mg_of X G a8⟩,
    ⟨_, _, F9, PySem.W.mg_of X G a9⟩,
    ⟨_, _, F10, PySem.W.mg_of X G a10⟩,
    ⟨_, _, F11, PySem.W.mg_of X G a11⟩,
    ⟨_, _, F12, PySem.W.mg_of X G a12⟩,
    ⟨_, _, F13, PySem.W.mg_of X G a13⟩,
    ⟨_, _, F14, PySem.W.mg_of X G a14⟩,
    ⟨_, _, F15, PySem.W.mg_of X G a15⟩,
    ⟨_, _, F16, PySem.W.mg_of X G a16⟩,
    ⟨_, _, F17, PySem.W.mg_of X G a17⟩,
    ⟨_, _, F18, PySem.W.mg_of X G a18⟩,
    ⟨_, _, F19, PySem.W.mg_of X G a19⟩,
    ⟨_, _, F20, PySem.W.mg_of X G a20⟩,
    (let ⟨v, q1, q2⟩ := conB_ok _ vc0; ⟨v, _, PySem.W.mg_of X G nc0, q1, q2⟩),
    (let ⟨v, q1, q2⟩ := conB_ok _ vc1; ⟨v, _, PySem.W.mg_of X G nc1, q1, q2⟩),
    (let ⟨v, q1, q2⟩ := conB_ok _ vc2; ⟨v, _, PySem.W.mg_of X G nc2, q1, q2⟩),
    (let ⟨v, q1, q2⟩ := conB_ok _ vc3; ⟨v, _, PySem.W.mg_of X G nc3, q1, q2⟩),
    ⟨c0, _, _, _, _, rfl, PySem.F.excBase_ValueError, xe0, PySem.W.mg_of X G xa0, xk0, xb0, xt0⟩,
    ⟨c1, _, _, _, _, rfl, PySem.F.excBase_ValueError, xe1, PySem.W.mg_of X G xa1, xk1, xb1, xt1⟩,
    PySem.W.mg_none_of X G z_tuple,
    PySem.W.mg_none_of X G z_list,
    PySem.W.mg_none_of X G z_range,
    PySem.W.mg_none_of X G z_all,
    PySem.W.mg_none_of X G z_sorted,
    PySem.W.mg_none_of X G z_int,
    PySem.W.mg_none_of X G z_isinstance,
    PySem.W.mg_none_of X G z_bool,
    PySem.W.mg_none_of X G z_any,
    PySem.W.mg_none_of X G z_str,
    PySem.W.mg_none_of X G z_len,
    PySem.W.mg_none_of X G z_abs,
    m_0_0,
    m_0_1,
    m_1_0,
    m_1_1⟩
  refine ⟨PySem.W.fnOf "law" "law" (defArgs s_law) (defBody s_law) (defScope s_law) .none kV20 dc20 pm20 an20 cd20 ct20, fun s v => .of_eq rfl, fun base _ _ => ?_⟩
  have q := den_law (P := l.prog) (w := w) (base := base) F20 M
  exact q.imp (law_sp hf)
end
end K05
namespace K05
open Ev PySem
abbrev Rl := List Str
def dr (r : Rl) : D := .tup (r.map .str)
theorem ways_all (T : Tb) (fs : List Str) (w : Slot) (r : Rl) (hr : r.length ≤ big) : evE T C_ways_to_1 [.on (.lst (fs.map .str)), w, .on (dr r), .un] = .ok (.v (.mls (r.dropLast.map fun x => .bl (decide (x ∈ fs))))) [.on (.lst (fs.map .str)), w, .on (dr r), .un] := by
  have hf : D.noMs (fs.map D.str) = true := noMs_map (fun _ => rfl) fs
  have hrm : D.noMs (r.map D.str) = true := noMs_map (fun _ => rfl) r
  unfold C_ways_to_1
  rw [e_lc]
  refine lc_nm_map D.str (fun x => D.bl (decide (x ∈ fs))) r.dropLast (env1 := [.on (.lst (fs.map .str)), w, .on (dr r), .un]) (s := .un) (hd := none) ?_ rfl rfl (by simp; omega) rfl (fun _ => rfl) fun x => ⟨.v (.bl (decide (x ∈ fs))), ?_, rfl⟩
  · simp only [dr, e_cn, e_nm, e_gl, e_tup, e_lst, e_bin, e_neg, e_not, e_cmp, e_cmp2, e_and, e_or, e_ite, e_ix, e_sl, e_rev, e_call, e_bi, e_isi, es_nil, es_cons, eo_no, eo_so, ec_no, ec_so, ei_sq, ei_r1, ei_r2, et_not, et_cmp, et_cmp2, et_and, et_or, et_cn, et_nm, et_ix, et_call, et_bi, et_isi, ea_nil, ea_cons, er_nil, er_cons, eta_nil, eta_cons, etr_nil, etr_cons, s_nil, s_cons, s_asg, s_par, s_app, s_ext, s_setix, s_aug, s_iff, s_ret, s_retN, s_brk, s_cnt, s_pass, s_expr, s_raise, b_ok, b_ex, b_bad, seqK, nmR, rv_v, rg_v, rt_v, rm_v, rc_v, rr_v, rv_r, rg_r, rt_r, rm_r, rc_r, rr_r, v_non, n_non, f_non, v_bl, n_bl, f_bl, v_int, n_int, f_int, v_str, n_str, f_str, v_tup, n_tup, f_tup, v_lst, n_lst, f_lst, v_rol, n_rol, f_rol, v_mls, n_mls, f_mls, toV, liftB, lift, bin2, cmp2B, binD, cmpD, t_nm, t_tp, ts_nil, ts_cons, setNs_nil, setNs_cons, wipeE, backE, plainAt, views, gives, takes, walk, unlk, hdFree, forEnd, List.getElem?_cons_zero, List.getElem?_cons_succ, List.set_cons_zero, List.set_cons_succ, List.all_cons, List.all_nil, i_len_l, i_len_t, i_int_i, i_int_b, i_abs, i_tup_l, i_tup_t, i_lst_l, i_lst_t, i_all, i_any, noMs_bl, noMs_str, noMs_int, fzs_str, fzs_int, noMs_nil, fzs_nil, noMs_cons, fzs_cons, big0, big1, big2, big3, big4, innO_strs, innO_strsT, ninO_strs, ninO_strsT, eqO_str, eqO_int, addO_int, subO_int, List.length_cons, List.length_nil, Nat.reduceAdd, if_true, if_false, Bool.and_true, Bool.true_and, Bool.false_eq_true, hrm, slD, slL_init, List.map_dropLast]
  · simp only [dr, e_cn, e_nm, e_gl, e_tup, e_lst, e_bin, e_neg, e_not, e_cmp, e_cmp2, e_and, e_or, e_ite, e_ix, e_sl, e_rev, e_call, e_bi, e_isi, es_nil, es_cons, eo_no, eo_so, ec_no, ec_so, ei_sq, ei_r1, ei_r2, et_not, et_cmp, et_cmp2, et_and, et_or, et_cn, et_nm, et_ix, et_call, et_bi, et_isi, ea_nil, ea_cons, er_nil, er_cons, eta_nil, eta_cons, etr_nil, etr_cons, s_nil, s_cons, s_asg, s_par, s_app, s_ext, s_setix, s_aug, s_iff, s_ret, s_retN, s_brk, s_cnt, s_pass, s_expr, s_raise, b_ok, b_ex, b_bad, seqK, nmR, rv_v, rg_v, rt_v, rm_v, rc_v, rr_v, rv_r, rg_r, rt_r, rm_r, rc_r, rr_r, v_non, n_non, f_non, v_bl, n_bl, f_bl, v_int, n_int, f_int, v_str, n_str, f_str, v_tup, n_tup, f_tup, v_lst, n_lst, f_lst, v_rol, n_rol, f_rol, v_mls, n_mls, f_mls, toV, liftB, lift, bin2, cmp2B, binD, cmpD, t_nm, t_tp, ts_nil, ts_cons, setNs_nil, setNs_cons, wipeE, backE, plainAt, views, gives, takes, walk, unlk, hdFree, forEnd, List.getElem?_cons_zero, List.getElem?_cons_succ, List.set_cons_zero, List.set_cons_succ, List.all_cons, List.all_nil, i_len_l, i_len_t, i_int_i, i_int_b, i_abs, i_tup_l, i_tup_t, i_lst_l, i_lst_t, i_all, i_any, noMs_bl, noMs_str, noMs_int, fzs_str, fzs_int, noMs_nil, fzs_nil, noMs_cons, fzs_cons, big0, big1, big2, big3, big4, innO_strs, innO_strsT, ninO_strs, ninO_strsT, eqO_str, eqO_int, addO_int, subO_int, List.length_cons, List.length_nil, Nat.reduceAdd, if_true, if_false, Bool.and_true, Bool.true_and, Bool.false_eq_true, hf]
def hit (fs : List Str) (w : Str) (r : Rl) : Bool := decide (r.getLast? = some w) && r.dropLast.all fun x => decide (x ∈ fs)
def waysM (fs : List Str) (w : Str) (r : Rl) (_ : Option D) : Out (Option D) := if hit fs w r then .rt (dr r) (some (dr r)) else .nx (some (dr r))
theorem ways_step (T : Tb) (fs : List Str) (w : Str) (r : Rl) (hr : 0 < r.length ∧ r.length ≤ big) (b : Option D) :
    forStep (tgA (.nm 2)) (evSs T xm L_ways_to_0) (dr r) [.on (.lst (fs.map .str)), .on (.str w), so b, .un] = (waysM fs w r b).res fun b => [.on (.lst (fs.map .str)), .on (.str w), so b, .un] := by
  have hrm : D.noMs (r.map D.str) = true := noMs_map (fun _ => rfl) r
  obtain ⟨l, hl⟩ : ∃ l, r.getLast? = some l := by
    cases h : r.getLast? with
    | some l => exact ⟨l, rfl⟩
    | none => rw [List.getLast?_eq_none_iff] at h; rw [h] at hr; exact absurd hr.1 (by decide)
  unfold forStep L_ways_to_0
  rw [t_so (b := b) rfl]
  have hn : (dr r).noM = true := hrm
  have hv : (dr r).view = some (dr r) := rfl
  have hg : ixD (dr r) (.int (-1)) = some (.str l) := by
    show getI (r.map D.str) (-1) = _
    rw [getI_last, hl]; rfl
  have hq : eqO (.str l) (.str w) = some (decide (l = w)) := by show some (eqD (.str l) (.str w)) = _; rw [eqD_str]
  have hw := ways_all T fs (.on (.str w)) r hr.2
  simp only [dr] at hn hv hg hw
  simp only [dr, e_cn, e_nm, e_gl, e_tup, e_lst, e_bin, e_neg, e_not, e_cmp, e_cmp2, e_and, e_or, e_ite, e_ix, e_sl, e_rev, e_call, e_bi, e_isi, es_nil, es_cons, eo_no, eo_so, ec_no, ec_so, ei_sq, ei_r1, ei_r2, et_not, et_cmp, et_cmp2, et_and, et_or, et_cn, et_nm, et_ix, et_call, et_bi, et_isi, ea_nil, ea_cons, er_nil, er_cons, eta_nil, eta_cons, etr_nil, etr_cons, s_nil, s_cons, s_asg, s_par, s_app, s_ext, s_setix, s_aug, s_iff, s_ret, s_retN, s_brk, s_cnt, s_pass, s_expr, s_raise, b_ok, b_ex, b_bad, seqK, nmR, rv_v, rg_v, rt_v, rm_v, rc_v, rr_v, rv_r, rg_r, rt_r, rm_r, rc_r, rr_r, v_non, n_non, f_non, v_bl, n_bl, f_bl, v_int, n_int, f_int, v_str, n_str, f_str, v_tup, n_tup, f_tup, v_lst, n_lst, f_lst, v_rol, n_rol, f_rol, v_mls, n_mls, f_mls, toV, liftB, lift, bin2, cmp2B, binD, cmpD, t_nm, t_tp, ts_nil, ts_cons, setNs_nil, setNs_cons, wipeE, backE, plainAt, views, gives, takes, walk, unlk, hdFree, forEnd, List.getElem?_cons_zero, List.getElem?_cons_succ, List.set_cons_zero, List.set_cons_succ, List.all_cons, List.all_nil, i_len_l, i_len_t, i_int_i, i_int_b, i_abs, i_tup_l, i_tup_t, i_lst_l, i_lst_t, i_all, i_any, noMs_bl, noMs_str, noMs_int, fzs_str, fzs_int, noMs_nil, fzs_nil, noMs_cons, fzs_cons, big0, big1, big2, big3, big4, innO_strs, innO_strsT, ninO_strs, ninO_strsT, eqO_str, eqO_int, addO_int, subO_int, List.length_cons, List.length_nil, Nat.reduceAdd, if_true, if_false, Bool.and_true, Bool.true_and, Bool.false_eq_true, hn, hv, hg, hq]
  unfold waysM hit
  rw [hl]
  cases h1 : decide (l = w) with
  | false =>
    have h1' : ¬ (some l = some w) := by simpa using h1
    simp only [h1', e_cn, e_nm, e_gl, e_tup, e_lst, e_bin, e_neg, e_not, e_cmp, e_cmp2, e_and, e_or, e_ite, e_ix, e_sl, e_rev, e_call, e_bi, e_isi, es_nil, es_cons, eo_no, eo_so, ec_no, ec_so, ei_sq, ei_r1, ei_r2, et_not, et_cmp, et_cmp2, et_and, et_or, et_cn, et_nm, et_ix, et_call, et_bi, et_isi, ea_nil, ea_cons, er_nil, er_cons, eta_nil, eta_cons, etr_nil, etr_cons, s_nil, s_cons, s_asg, s_par, s_app, s_ext, s_setix, s_aug, s_iff, s_ret, s_retN, s_brk, s_cnt, s_pass, s_expr, s_raise, b_ok, b_ex, b_bad, seqK, nmR, rv_v, rg_v, rt_v, rm_v, rc_v, rr_v, rv_r, rg_r, rt_r, rm_r, rc_r, rr_r, v_non, n_non, f_non, v_bl, n_bl, f_bl, v_int, n_int, f_int, v_str, n_str, f_str, v_tup, n_tup, f_tup, v_lst, n_lst, f_lst, v_rol, n_rol, f_rol, v_mls, n_mls, f_mls, toV, liftB, lift, bin2, cmp2B, binD, cmpD, t_nm, t_tp, ts_nil, ts_cons, setNs_nil, setNs_cons, wipeE, backE, plainAt, views, gives, takes, walk, unlk, hdFree, forEnd, List.getElem?_cons_zero, List.getElem?_cons_succ, List.set_cons_zero, List.set_cons_succ, List.all_cons, List.all_nil, i_len_l, i_len_t, i_int_i, i_int_b, i_abs, i_tup_l, i_tup_t, i_lst_l, i_lst_t, i_all, i_any, noMs_bl, noMs_str, noMs_int, fzs_str, fzs_int, noMs_nil, fzs_nil, noMs_cons, fzs_cons, big0, big1, big2, big3, big4, innO_strs, innO_strsT, ninO_strs, ninO_strsT, eqO_str, eqO_int, addO_int, subO_int, List.length_cons, List.length_nil, Nat.reduceAdd, if_true, if_false, Bool.and_true, Bool.true_and, Bool.false_eq_true, decide_false, Bool.false_and, Out.res, so]
    rfl
  | true =>
    have h1' : some l = some w := by simpa using h1
    simp only [h1', e_cn, e_nm, e_gl, e_tup, e_lst, e_bin, e_neg, e_not, e_cmp, e_cmp2, e_and, e_or, e_ite, e_ix, e_sl, e_rev, e_call, e_bi, e_isi, es_nil, es_cons, eo_no, eo_so, ec_no, ec_so, ei_sq, ei_r1, ei_r2, et_not, et_cmp, et_cmp2, et_and, et_or, et_cn, et_nm, et_ix, et_call, et_bi, et_isi, ea_nil, ea_cons, er_nil, er_cons, eta_nil, eta_cons, etr_nil, etr_cons, s_nil, s_cons, s_asg, s_par, s_app, s_ext, s_setix, s_aug, s_iff, s_ret, s_retN, s_brk, s_cnt, s_pass, s_expr, s_raise, b_ok, b_ex, b_bad, seqK, nmR, rv_v, rg_v, rt_v, rm_v, rc_v, rr_v, rv_r, rg_r, rt_r, rm_r, rc_r, rr_r, v_non, n_non, f_non, v_bl, n_bl, f_bl, v_int, n_int, f_int, v_str, n_str, f_str, v_tup, n_tup, f_tup, v_lst, n_lst, f_lst, v_rol, n_rol, f_rol, v_mls, n_mls, f_mls, toV, liftB, lift, bin2, cmp2B, binD, cmpD, t_nm, t_tp, ts_nil, ts_cons, setNs_nil, setNs_cons, wipeE, backE, plainAt, views, gives, takes, walk, unlk, hdFree, forEnd, List.getElem?_cons_zero, List.getElem?_cons_succ, List.set_cons_zero, List.set_cons_succ, List.all_cons, List.all_nil, i_len_l, i_len_t, i_int_i, i_int_b, i_abs, i_tup_l, i_tup_t, i_lst_l, i_lst_t, i_all, i_any, noMs_bl, noMs_str, noMs_int, fzs_str, fzs_int, noMs_nil, fzs_nil, noMs_cons, fzs_cons, big0, big1, big2, big3, big4, innO_strs, innO_strsT, ninO_strs, ninO_strsT, eqO_str, eqO_int, addO_int, subO_int, List.length_cons, List.length_nil, Nat.reduceAdd, if_true, if_false, Bool.and_true, Bool.true_and, Bool.false_eq_true, decide_true, hw, truD]
    cases h2 : r.dropLast.all fun x => decide (x ∈ fs) with
    | false => simp only [e_cn, e_nm, e_gl, e_tup, e_lst, e_bin, e_neg, e_not, e_cmp, e_cmp2, e_and, e_or, e_ite, e_ix, e_sl, e_rev, e_call, e_bi, e_isi, es_nil, es_cons, eo_no, eo_so, ec_no, ec_so, ei_sq, ei_r1, ei_r2, et_not, et_cmp, et_cmp2, et_and, et_or, et_cn, et_nm, et_ix, et_call, et_bi, et_isi, ea_nil, ea_cons, er_nil, er_cons, eta_nil, eta_cons, etr_nil, etr_cons, s_nil, s_cons, s_asg, s_par, s_app, s_ext, s_setix, s_aug, s_iff, s_ret, s_retN, s_brk, s_cnt, s_pass, s_expr, s_raise, b_ok, b_ex, b_bad, seqK, nmR, rv_v, rg_v, rt_v, rm_v, rc_v, rr_v, rv_r, rg_r, rt_r, rm_r, rc_r, rr_r, v_non, n_non, f_non, v_bl, n_bl, f_bl, v_int, n_int, f_int, v_str, n_str, f_str, v_tup, n_tup, f_tup, v_lst, n_lst, f_lst, v_rol, n_rol, f_rol, v_mls, n_mls, f_mls, toV, liftB, lift, bin2, cmp2B, binD, cmpD, t_nm, t_tp, ts_nil, ts_cons, setNs_nil, setNs_cons, wipeE, backE, plainAt, views, gives, takes, walk, unlk, hdFree, forEnd, List.getElem?_cons_zero, List.getElem?_cons_succ, List.set_cons_zero, List.set_cons_succ, List.all_cons, List.all_nil, i_len_l, i_len_t, i_int_i, i_int_b, i_abs, i_tup_l, i_tup_t, i_lst_l, i_lst_t, i_all, i_any, noMs_bl, noMs_str, noMs_int, fzs_str, fzs_int, noMs_nil, fzs_nil, noMs_cons, fzs_cons, big0, big1, big2, big3, big4, innO_strs, innO_strsT, ninO_strs, ninO_strsT, eqO_str, eqO_int, addO_int, subO_int, List.length_cons, List.length_nil, Nat.reduceAdd, if_true, if_false, Bool.and_true, Bool.true_and, Bool.false_eq_true, Out.res, so]; rfl
    | true => simp only [e_cn, e_nm, e_gl, e_tup, e_lst, e_bin, e_neg, e_not, e_cmp, e_cmp2, e_and, e_or, e_ite, e_ix, e_sl, e_rev, e_call, e_bi, e_isi, es_nil, es_cons, eo_no, eo_so, ec_no, ec_so, ei_sq, ei_r1, ei_r2, et_not, et_cmp, et_cmp2, et_and, et_or, et_cn, et_nm, et_ix, et_call, et_bi, et_isi, ea_nil, ea_cons, er_nil, er_cons, eta_nil, eta_cons, etr_nil, etr_cons, s_nil, s_cons, s_asg, s_par, s_app, s_ext, s_setix, s_aug, s_iff, s_ret, s_retN, s_brk, s_cnt, s_pass, s_expr, s_raise, b_ok, b_ex, b_bad, seqK, nmR, rv_v, rg_v, rt_v, rm_v, rc_v, rr_v, rv_r, rg_r, rt_r, rm_r, rc_r, rr_r, v_non, n_non, f_non, v_bl, n_bl, f_bl, v_int, n_int, f_int, v_str, n_str, f_str, v_tup, n_tup, f_tup, v_lst, n_lst, f_lst, v_rol, n_rol, f_rol, v_mls, n_mls, f_mls, toV, liftB, lift, bin2, cmp2B, binD, cmpD, t_nm, t_tp, ts_nil, ts_cons, setNs_nil, setNs_cons, wipeE, backE, plainAt, views, gives, takes, walk, unlk, hdFree, forEnd, List.getElem?_cons_zero, List.getElem?_cons_succ, List.set_cons_zero, List.set_cons_succ, List.all_cons, List.all_nil, i_len_l, i_len_t, i_int_i, i_int_b, i_abs, i_tup_l, i_tup_t, i_lst_l, i_lst_t, i_all, i_any, noMs_bl, noMs_str, noMs_int, fzs_str, fzs_int, noMs_nil, fzs_nil, noMs_cons, fzs_cons, big0, big1, big2, big3, big4, innO_strs, innO_strsT, ninO_strs, ninO_strsT, eqO_str, eqO_int, addO_int, subO_int, List.length_cons, List.length_nil, Nat.reduceAdd, if_true, if_false, Bool.and_true, Bool.true_and, Bool.false_eq_true, Out.res, so, hn]; rfl
end K05
namespace K05
open Ev PySem
def arrowsL : List Rl := [["quick", "wait"], ["wait", "lock"], ["wait", "starve"], ["lock", "alone"], ["lock", "dead"], ["lock", "calm"], ["alone", "both"], ["alone", "nimble"], ["starve", "both"], ["starve", "dead"], ["starve", "pass"], ["dead", "go"], ["both", "go"], ["go", "move"], ["nimble", "move"], ["turn", "pass"]]
def jointL : List Rl := [["lock", "pass", "wait"], ["alone", "dead", "lock"], ["dead", "pass", "starve"], ["go", "pass", "both"], ["com", "go", "dead"], ["both", "com", "wait"], ["calm", "move", "dead"], ["calm", "nimble", "lock"], ["dead", "token", "calm"], ["go", "token", "dead"], ["both", "token", "starve"]]
def barsL : List Rl := [["alone", "turn"], ["nimble", "token"]]
def wordsL : List Str := ["quick", "wait", "lock", "alone", "starve", "dead", "go", "both", "move", "calm", "pass", "nimble", "turn", "token", "alike", "com", "one"]
def rulesL : List Rl := arrowsL ++ jointL
theorem cA : c_ARROWS = .tup (arrowsL.map dr) := by kernel_rfl
theorem cJ : c_JOINT_ARROWS = .tup (jointL.map dr) := by kernel_rfl
theorem cB : c_BARS = .tup (barsL.map dr) := by kernel_rfl
theorem cW : c_WORDS = .tup (wordsL.map .str) := by kernel_rfl
theorem rules_len : ∀ r ∈ rulesL, 0 < r.length ∧ r.length ≤ big := by decide +kernel
theorem noM_dr (r : Rl) : (dr r).noM = true := noMs_map (fun _ => rfl) r
theorem noL_dr (r : Rl) : (dr r).noL = true := noLs_map (fun _ => rfl) r
def found? (fs : List Str) (w : Str) : D := match rulesL.find? (hit fs w) with
  | some r => dr r
  | none => .non
theorem forN_find (fs : List Str) (w : Str) : ∀ (rs : List Rl) (b : Option D), (∃ b', forN (waysM fs w) rs b = .rt (match rs.find? (hit fs w) with
    | some r => dr r
    | none => .non) b') ∨ (rs.find? (hit fs w) = none ∧ ∃ b', forN (waysM fs w) rs b = .nx b')
  | [], b => .inr ⟨rfl, b, rfl⟩
  | r :: rs, b => by
    unfold forN waysM
    cases h : hit fs w r with
    | true => exact .inl ⟨some (dr r), by simp [h]⟩
    | false =>
      simp only [Bool.false_eq_true, if_false, List.find?_cons, h]
      exact forN_find fs w rs (some (dr r))
theorem f_ways (fs : List Str) (w : Str) : f_ways_to [.lst (fs.map .str), .str w] = .ok (found? fs w) .non := by
  have h := forGo_mirror (step := forStep (tgA (.nm 2)) (evSs t_ways_to xm L_ways_to_0)) (fun b => [.on (.lst (fs.map .str)), .on (.str w), so b, .un]) dr (waysM fs w) rulesL none (fun r hr b => ways_step t_ways_to fs w r (rules_len r hr) b)
  have hg : addD (t_ways_to.gd 1) (t_ways_to.gd 2) = some (.tup (rulesL.map dr)) := by
    show addD c_ARROWS c_JOINT_ARROWS = _
    rw [cA, cJ]
    show (if Nat.ble ((arrowsL.map dr).length + (jointL.map dr).length) big then some (D.tup (arrowsL.map dr ++ jointL.map dr)) else none) = _
    rw [if_pos (by decide +kernel), ← List.map_append]; rfl
  have v1 : (t_ways_to.gd 1).view = some (t_ways_to.gd 1) := rfl
  have v2 : (t_ways_to.gd 2).view = some (t_ways_to.gd 2) := rfl
  simp only [so] at h
  unfold f_ways_to b_ways_to
  simp only [den, List.append_nil, List.map_cons, List.map_nil, List.length_cons, List.length_nil, Nat.reduceAdd, Nat.reduceSub, List.replicate, List.cons_append, List.nil_append, Bool.false_and, s_forr, e_cn, e_nm, e_gl, e_tup, e_lst, e_bin, e_neg, e_not, e_cmp, e_cmp2, e_and, e_or, e_ite, e_ix, e_sl, e_rev, e_call, e_bi, e_isi, es_nil, es_cons, eo_no, eo_so, ec_no, ec_so, ei_sq, ei_r1, ei_r2, et_not, et_cmp, et_cmp2, et_and, et_or, et_cn, et_nm, et_ix, et_call, et_bi, et_isi, ea_nil, ea_cons, er_nil, er_cons, eta_nil, eta_cons, etr_nil, etr_cons, s_nil, s_cons, s_asg, s_par, s_app, s_ext, s_setix, s_aug, s_iff, s_ret, s_retN, s_brk, s_cnt, s_pass, s_expr, s_raise, b_ok, b_ex, b_bad, seqK, nmR, rv_v, rg_v, rt_v, rm_v, rc_v, rr_v, rv_r, rg_r, rt_r, rm_r, rc_r, rr_r, v_non, n_non, f_non, v_bl, n_bl, f_bl, v_int, n_int, f_int, v_str, n_str, f_str, v_tup, n_tup, f_tup, v_lst, n_lst, f_lst, v_rol, n_rol, f_rol, v_mls, n_mls, f_mls, toV, liftB, lift, bin2, cmp2B, binD, cmpD, t_nm, t_tp, ts_nil, ts_cons, setNs_nil, setNs_cons, wipeE, backE, plainAt, views, gives, takes, walk, unlk, hdFree, forEnd, List.getElem?_cons_zero, List.getElem?_cons_succ, List.set_cons_zero, List.set_cons_succ, List.all_cons, List.all_nil, i_len_l, i_len_t, i_int_i, i_int_b, i_abs, i_tup_l, i_tup_t, i_lst_l, i_lst_t, i_all, i_any, noMs_bl, noMs_str, noMs_int, fzs_str, fzs_int, noMs_nil, fzs_nil, noMs_cons, fzs_cons, big0, big1, big2, big3, big4, innO_strs, innO_strsT, ninO_strs, ninO_strsT, eqO_str, eqO_int, addO_int, subO_int, List.length_cons, List.length_nil, Nat.reduceAdd, if_true, if_false, Bool.and_true, Bool.true_and, Bool.false_eq_true, hg, v1, v2, h]
  rcases forN_find fs w rulesL none with ⟨b', e⟩ | ⟨e0, b', e⟩
  · rw [e]
    simp only [Out.res, e_cn, e_nm, e_gl, e_tup, e_lst, e_bin, e_neg, e_not, e_cmp, e_cmp2, e_and, e_or, e_ite, e_ix, e_sl, e_rev, e_call, e_bi, e_isi, es_nil, es_cons, eo_no, eo_so, ec_no, ec_so, ei_sq, ei_r1, ei_r2, et_not, et_cmp, et_cmp2, et_and, et_or, et_cn, et_nm, et_ix, et_call, et_bi, et_isi, ea_nil, ea_cons, er_nil, er_cons, eta_nil, eta_cons, etr_nil, etr_cons, s_nil, s_cons, s_asg, s_par, s_app, s_ext, s_setix, s_aug, s_iff, s_ret, s_retN, s_brk, s_cnt, s_pass, s_expr, s_raise, b_ok, b_ex, b_bad, seqK, nmR, rv_v, rg_v, rt_v, rm_v, rc_v, rr_v, rv_r, rg_r, rt_r, rm_r, rc_r, rr_r, v_non, n_non, f_non, v_bl, n_bl, f_bl, v_int, n_int, f_int, v_str, n_str, f_str, v_tup, n_tup, f_tup, v_lst, n_lst, f_lst, v_rol, n_rol, f_rol, v_mls, n_mls, f_mls, toV, liftB, lift, bin2, cmp2B, binD, cmpD, t_nm, t_tp, ts_nil, ts_cons, setNs_nil, setNs_cons, wipeE, backE, plainAt, views, gives, takes, walk, unlk, hdFree, forEnd, List.getElem?_cons_zero, List.getElem?_cons_succ, List.set_cons_zero, List.set_cons_succ, List.all_cons, List.all_nil, i_len_l, i_len_t, i_int_i, i_int_b, i_abs, i_tup_l, i_tup_t, i_lst_l, i_lst_t, i_all, i_any, noMs_bl, noMs_str, noMs_int, fzs_str, fzs_int, noMs_nil, fzs_nil, noMs_cons, fzs_cons, big0, big1, big2, big3, big4, innO_strs, innO_strsT, ninO_strs, ninO_strsT, eqO_str, eqO_int, addO_int, subO_int, List.length_cons, List.length_nil, Nat.reduceAdd, if_true, if_false, Bool.and_true, Bool.true_and, Bool.false_eq_true, outOf]
    rfl
  · rw [e]
    unfold found?
    rw [e0]
    simp only [Out.res, e_cn, e_nm, e_gl, e_tup, e_lst, e_bin, e_neg, e_not, e_cmp, e_cmp2, e_and, e_or, e_ite, e_ix, e_sl, e_rev, e_call, e_bi, e_isi, es_nil, es_cons, eo_no, eo_so, ec_no, ec_so, ei_sq, ei_r1, ei_r2, et_not, et_cmp, et_cmp2, et_and, et_or, et_cn, et_nm, et_ix, et_call, et_bi, et_isi, ea_nil, ea_cons, er_nil, er_cons, eta_nil, eta_cons, etr_nil, etr_cons, s_nil, s_cons, s_asg, s_par, s_app, s_ext, s_setix, s_aug, s_iff, s_ret, s_retN, s_brk, s_cnt, s_pass, s_expr, s_raise, b_ok, b_ex, b_bad, seqK, nmR, rv_v, rg_v, rt_v, rm_v, rc_v, rr_v, rv_r, rg_r, rt_r, rm_r, rc_r, rr_r, v_non, n_non, f_non, v_bl, n_bl, f_bl, v_int, n_int, f_int, v_str, n_str, f_str, v_tup, n_tup, f_tup, v_lst, n_lst, f_lst, v_rol, n_rol, f_rol, v_mls, n_mls, f_mls, toV, liftB, lift, bin2, cmp2B, binD, cmpD, t_nm, t_tp, ts_nil, ts_cons, setNs_nil, setNs_cons, wipeE, backE, plainAt, views, gives, takes, walk, unlk, hdFree, forEnd, List.getElem?_cons_zero, List.getElem?_cons_succ, List.set_cons_zero, List.set_cons_succ, List.all_cons, List.all_nil, i_len_l, i_len_t, i_int_i, i_int_b, i_abs, i_tup_l, i_tup_t, i_lst_l, i_lst_t, i_all, i_any, noMs_bl, noMs_str, noMs_int, fzs_str, fzs_int, noMs_nil, fzs_nil, noMs_cons, fzs_cons, big0, big1, big2, big3, big4, innO_strs, innO_strsT, ninO_strs, ninO_strsT, eqO_str, eqO_int, addO_int, subO_int, List.length_cons, List.length_nil, Nat.reduceAdd, if_true, if_false, Bool.and_true, Bool.true_and, Bool.false_eq_true, outOf]
theorem noM_found (fs : List Str) (w : Str) : (found? fs w).noM = true := by
  unfold found?
  split
  · exact noM_dr _
  · rfl
theorem noL_found (fs : List Str) (w : Str) : (found? fs w).noL = true := by
  unfold found?
  split
  · exact noL_dr _
  · rfl
/-! ### derived -/
structure DS where
  fs : List Str
  ss : List Rl
  mv : Bool
  a4 : Option D
  a5 : Option D
def envD (ws : List Str) (s : DS) : En := [.on (.tup (ws.map .str)), .on (.mls (s.fs.map .str)), .on (.mls (s.ss.map dr)), .on (.bl s.mv), so s.a4, so s.a5]
def derM (w : Str) (s : DS) : Out DS := match rulesL.find? (hit s.fs w) with
  | some r => if decide (w ∈ s.fs) then .nx { s with a4 := some (.str w), a5 := some (dr r) } else if Nat.blt s.fs.length big && Nat.blt s.ss.length big then .nx ⟨s.fs ++ [w], s.ss ++ [r], true, some (.str w), some (dr r)⟩ else .bad
  | none => .nx { s with a4 := some (.str w), a5 := some .non }
theorem der_call (s : DS) (ws : List Str) (w : Str) (a5 : Slot) : callR t_derived 5 [.ref 1, .v (.str w)] [.on (.tup (ws.map .str)), .on (.mls (s.fs.map .str)), .on (.mls (s.ss.map dr)), .on (.bl s.mv), .on (.str w), a5] = .ok (.v (found? s.fs w)) [.on (.tup (ws.map .str)), .on (.mls (s.fs.map .str)), .on (.mls (s.ss.map dr)), .on (.bl s.mv), .on (.str w), a5] := by
  have hf : D.fzs (s.fs.map D.str) = s.fs.map D.str := fzs_of_noM _ (noMs_map (fun _ => rfl) s.fs)
  have e : t_derived.fn 5 ([RV.ref 1, RV.v (.str w)].map (lendTo (.mls (s.fs.map D.str)))) = .ok (found? s.fs w) .non := by
    show f_ways_to [D.fz (.mls (s.fs.map D.str)), D.fz (.str w)] = _
    rw [f_mls, hf, f_str, f_ways]
  exact c_lent rfl rfl rfl rfl e (noL_found _ _)
theorem not_non {d : D} (r : Rl) : isNon (dr r) = false := rfl
theorem der_step (ws : List Str) (w : Str) (s : DS) : forStep (tgA (.nm 4)) (evSs t_derived xm L_derived_1) (.str w) (envD ws s) = (derM w s).res (envD ws) := by
  have hfs : D.noMs (s.fs.map D.str) = true := noMs_map (fun _ => rfl) s.fs
  have ht : ∀ (b : Option D) (d : D) (p : En), tgA (.nm 5) d (p) = tgA (.nm 5) d p := fun _ _ _ => rfl
  unfold forStep L_derived_1 envD
  rw [t_so (b := s.a4) rfl]
  simp only [e_cn, e_nm, e_gl, e_tup, e_lst, e_bin, e_neg, e_not, e_cmp, e_cmp2, e_and, e_or, e_ite, e_ix, e_sl, e_rev, e_call, e_bi, e_isi, es_nil, es_cons, eo_no, eo_so, ec_no, ec_so, ei_sq, ei_r1, ei_r2, et_not, et_cmp, et_cmp2, et_and, et_or, et_cn, et_nm, et_ix, et_call, et_bi, et_isi, ea_nil, ea_cons, er_nil, er_cons, eta_nil, eta_cons, etr_nil, etr_cons, s_nil, s_cons, s_asg, s_par, s_app, s_ext, s_setix, s_aug, s_iff, s_ret, s_retN, s_brk, s_cnt, s_pass, s_expr, s_raise, b_ok, b_ex, b_bad, seqK, nmR, rv_v, rg_v, rt_v, rm_v, rc_v, rr_v, rv_r, rg_r, rt_r, rm_r, rc_r, rr_r, v_non, n_non, f_non, v_bl, n_bl, f_bl, v_int, n_int, f_int, v_str, n_str, f_str, v_tup, n_tup, f_tup, v_lst, n_lst, f_lst, v_rol, n_rol, f_rol, v_mls, n_mls, f_mls, toV, liftB, lift, bin2, cmp2B, binD, cmpD, t_nm, t_tp, ts_nil, ts_cons, setNs_nil, setNs_cons, wipeE, backE, plainAt, views, gives, takes, walk, unlk, hdFree, forEnd, List.getElem?_cons_zero, List.getElem?_cons_succ, List.set_cons_zero, List.set_cons_succ, List.all_cons, List.all_nil, i_len_l, i_len_t, i_int_i, i_int_b, i_abs, i_tup_l, i_tup_t, i_lst_l, i_lst_t, i_all, i_any, noMs_bl, noMs_str, noMs_int, fzs_str, fzs_int, noMs_nil, fzs_nil, noMs_cons, fzs_cons, big0, big1, big2, big3, big4, innO_strs, innO_strsT, ninO_strs, ninO_strsT, eqO_str, eqO_int, addO_int, subO_int, List.length_cons, List.length_nil, Nat.reduceAdd, if_true, if_false, Bool.and_true, Bool.true_and, Bool.false_eq_true, n_mls]
  rw [der_call]
  unfold derM found?
  cases h5 : s.a5 <;> cases h : rulesL.find? (hit s.fs w) with
  | none =>
    simp only [e_cn, e_nm, e_gl, e_tup, e_lst, e_bin, e_neg, e_not, e_cmp, e_cmp2, e_and, e_or, e_ite, e_ix, e_sl, e_rev, e_call, e_bi, e_isi, es_nil, es_cons, eo_no, eo_so, ec_no, ec_so, ei_sq, ei_r1, ei_r2, et_not, et_cmp, et_cmp2, et_and, et_or, et_cn, et_nm, et_ix, et_call, et_bi, et_isi, ea_nil, ea_cons, er_nil, er_cons, eta_nil, eta_cons, etr_nil, etr_cons, s_nil, s_cons, s_asg, s_par, s_app, s_ext, s_setix, s_aug, s_iff, s_ret, s_retN, s_brk, s_cnt, s_pass, s_expr, s_raise, b_ok, b_ex, b_bad, seqK, nmR, rv_v, rg_v, rt_v, rm_v, rc_v, rr_v, rv_r, rg_r, rt_r, rm_r, rc_r, rr_r, v_non, n_non, f_non, v_bl, n_bl, f_bl, v_int, n_int, f_int, v_str, n_str, f_str, v_tup, n_tup, f_tup, v_lst, n_lst, f_lst, v_rol, n_rol, f_rol, v_mls, n_mls, f_mls, toV, liftB, lift, bin2, cmp2B, binD, cmpD, t_nm, t_tp, ts_nil, ts_cons, setNs_nil, setNs_cons, wipeE, backE, plainAt, views, gives, takes, walk, unlk, hdFree, forEnd, List.getElem?_cons_zero, List.getElem?_cons_succ, List.set_cons_zero, List.set_cons_succ, List.all_cons, List.all_nil, i_len_l, i_len_t, i_int_i, i_int_b, i_abs, i_tup_l, i_tup_t, i_lst_l, i_lst_t, i_all, i_any, noMs_bl, noMs_str, noMs_int, fzs_str, fzs_int, noMs_nil, fzs_nil, noMs_cons, fzs_cons, big0, big1, big2, big3, big4, innO_strs, innO_strsT, ninO_strs, ninO_strsT, eqO_str, eqO_int, addO_int, subO_int, List.length_cons, List.length_nil, Nat.reduceAdd, if_true, if_false, Bool.and_true, Bool.true_and, Bool.false_eq_true, so, hfs, isnO, isNon, Out.res]
    cases hw : decide (w ∈ s.fs) <;> simp only [e_cn, e_nm, e_gl, e_tup, e_lst, e_bin, e_neg, e_not, e_cmp, e_cmp2, e_and, e_or, e_ite, e_ix, e_sl, e_rev, e_call, e_bi, e_isi, es_nil, es_cons, eo_no, eo_so, ec_no, ec_so, ei_sq, ei_r1, ei_r2, et_not, et_cmp, et_cmp2, et_and, et_or, et_cn, et_nm, et_ix, et_call, et_bi, et_isi, ea_nil, ea_cons, er_nil, er_cons, eta_nil, eta_cons, etr_nil, etr_cons, s_nil, s_cons, s_asg, s_par, s_app, s_ext, s_setix, s_aug, s_iff, s_ret, s_retN, s_brk, s_cnt, s_pass, s_expr, s_raise, b_ok, b_ex, b_bad, seqK, nmR, rv_v, rg_v, rt_v, rm_v, rc_v, rr_v, rv_r, rg_r, rt_r, rm_r, rc_r, rr_r, v_non, n_non, f_non, v_bl, n_bl, f_bl, v_int, n_int, f_int, v_str, n_str, f_str, v_tup, n_tup, f_tup, v_lst, n_lst, f_lst, v_rol, n_rol, f_rol, v_mls, n_mls, f_mls, toV, liftB, lift, bin2, cmp2B, binD, cmpD, t_nm, t_tp, ts_nil, ts_cons, setNs_nil, setNs_cons, wipeE, backE, plainAt, views, gives, takes, walk, unlk, hdFree, forEnd, List.getElem?_cons_zero, List.getElem?_cons_succ, List.set_cons_zero, List.set_cons_succ, List.all_cons, List.all_nil, i_len_l, i_len_t, i_int_i, i_int_b, i_abs, i_tup_l, i_tup_t, i_lst_l, i_lst_t, i_all, i_any, noMs_bl, noMs_str, noMs_int, fzs_str, fzs_int, noMs_nil, fzs_nil, noMs_cons, fzs_cons, big0, big1, big2, big3, big4, innO_strs, innO_strsT, ninO_strs, ninO_strsT, eqO_str, eqO_int, addO_int, subO_int, List.length_cons, List.length_nil, Nat.reduceAdd, if_true, if_false, Bool.and_true, Bool.true_and, Bool.false_eq_true, Bool.not_true, Bool.not_false, Out.res, so]
  | some r =>
    have hr : D.noMs (r.map D.str) = true := noMs_map (fun _ => rfl) r
    have hr2 : D.fzs (r.map D.str) = r.map D.str := fzs_of_noM _ hr
    simp only [e_cn, e_nm, e_gl, e_tup, e_lst, e_bin, e_neg, e_not, e_cmp, e_cmp2, e_and, e_or, e_ite, e_ix, e_sl, e_rev, e_call, e_bi, e_isi, es_nil, es_cons, eo_no, eo_so, ec_no, ec_so, ei_sq, ei_r1, ei_r2, et_not, et_cmp, et_cmp2, et_and, et_or, et_cn, et_nm, et_ix, et_call, et_bi, et_isi, ea_nil, ea_cons, er_nil, er_cons, eta_nil, eta_cons, etr_nil, etr_cons, s_nil, s_cons, s_asg, s_par, s_app, s_ext, s_setix, s_aug, s_iff, s_ret, s_retN, s_brk, s_cnt, s_pass, s_expr, s_raise, b_ok, b_ex, b_bad, seqK, nmR, rv_v, rg_v, rt_v, rm_v, rc_v, rr_v, rv_r, rg_r, rt_r, rm_r, rc_r, rr_r, v_non, n_non, f_non, v_bl, n_bl, f_bl, v_int, n_int, f_int, v_str, n_str, f_str, v_tup, n_tup, f_tup, v_lst, n_lst, f_lst, v_rol, n_rol, f_rol, v_mls, n_mls, f_mls, toV, liftB, lift, bin2, cmp2B, binD, cmpD, t_nm, t_tp, ts_nil, ts_cons, setNs_nil, setNs_cons, wipeE, backE, plainAt, views, gives, takes, walk, unlk, hdFree, forEnd, List.getElem?_cons_zero, List.getElem?_cons_succ, List.set_cons_zero, List.set_cons_succ, List.all_cons, List.all_nil, i_len_l, i_len_t, i_int_i, i_int_b, i_abs, i_tup_l, i_tup_t, i_lst_l, i_lst_t, i_all, i_any, noMs_bl, noMs_str, noMs_int, fzs_str, fzs_int, noMs_nil, fzs_nil, noMs_cons, fzs_cons, big0, big1, big2, big3, big4, innO_strs, innO_strsT, ninO_strs, ninO_strsT, eqO_str, eqO_int, addO_int, subO_int, List.length_cons, List.length_nil, Nat.reduceAdd, if_true, if_false, Bool.and_true, Bool.true_and, Bool.false_eq_true, so, hfs, dr, isnO, isNon]
    cases hw : decide (w ∈ s.fs) with
    | true => simp only [e_cn, e_nm, e_gl, e_tup, e_lst, e_bin, e_neg, e_not, e_cmp, e_cmp2, e_and, e_or, e_ite, e_ix, e_sl, e_rev, e_call, e_bi, e_isi, es_nil, es_cons, eo_no, eo_so, ec_no, ec_so, ei_sq, ei_r1, ei_r2, et_not, et_cmp, et_cmp2, et_and, et_or, et_cn, et_nm, et_ix, et_call, et_bi, et_isi, ea_nil, ea_cons, er_nil, er_cons, eta_nil, eta_cons, etr_nil, etr_cons, s_nil, s_cons, s_asg, s_par, s_app, s_ext, s_setix, s_aug, s_iff, s_ret, s_retN, s_brk, s_cnt, s_pass, s_expr, s_raise, b_ok, b_ex, b_bad, seqK, nmR, rv_v, rg_v, rt_v, rm_v, rc_v, rr_v, rv_r, rg_r, rt_r, rm_r, rc_r, rr_r, v_non, n_non, f_non, v_bl, n_bl, f_bl, v_int, n_int, f_int, v_str, n_str, f_str, v_tup, n_tup, f_tup, v_lst, n_lst, f_lst, v_rol, n_rol, f_rol, v_mls, n_mls, f_mls, toV, liftB, lift, bin2, cmp2B, binD, cmpD, t_nm, t_tp, ts_nil, ts_cons, setNs_nil, setNs_cons, wipeE, backE, plainAt, views, gives, takes, walk, unlk, hdFree, forEnd, List.getElem?_cons_zero, List.getElem?_cons_succ, List.set_cons_zero, List.set_cons_succ, List.all_cons, List.all_nil, i_len_l, i_len_t, i_int_i, i_int_b, i_abs, i_tup_l, i_tup_t, i_lst_l, i_lst_t, i_all, i_any, noMs_bl, noMs_str, noMs_int, fzs_str, fzs_int, noMs_nil, fzs_nil, noMs_cons, fzs_cons, big0, big1, big2, big3, big4, innO_strs, innO_strsT, ninO_strs, ninO_strsT, eqO_str, eqO_int, addO_int, subO_int, List.length_cons, List.length_nil, Nat.reduceAdd, if_true, if_false, Bool.and_true, Bool.true_and, Bool.false_eq_true, Bool.not_true, Out.res, so, dr]
    | false =>
      simp only [e_cn, e_nm, e_gl, e_tup, e_lst, e_bin, e_neg, e_not, e_cmp, e_cmp2, e_and, e_or, e_ite, e_ix, e_sl, e_rev, e_call, e_bi, e_isi, es_nil, es_cons, eo_no, eo_so, ec_no, ec_so, ei_sq, ei_r1, ei_r2, et_not, et_cmp, et_cmp2, et_and, et_or, et_cn, et_nm, et_ix, et_call, et_bi, et_isi, ea_nil, ea_cons, er_nil, er_cons, eta_nil, eta_cons, etr_nil, etr_cons, s_nil, s_cons, s_asg, s_par, s_app, s_ext, s_setix, s_aug, s_iff, s_ret, s_retN, s_brk, s_cnt, s_pass, s_expr, s_raise, b_ok, b_ex, b_bad, seqK, nmR, rv_v, rg_v, rt_v, rm_v, rc_v, rr_v, rv_r, rg_r, rt_r, rm_r, rc_r, rr_r, v_non, n_non, f_non, v_bl, n_bl, f_bl, v_int, n_int, f_int, v_str, n_str, f_str, v_tup, n_tup, f_tup, v_lst, n_lst, f_lst, v_rol, n_rol, f_rol, v_mls, n_mls, f_mls, toV, liftB, lift, bin2, cmp2B, binD, cmpD, t_nm, t_tp, ts_nil, ts_cons, setNs_nil, setNs_cons, wipeE, backE, plainAt, views, gives, takes, walk, unlk, hdFree, forEnd, List.getElem?_cons_zero, List.getElem?_cons_succ, List.set_cons_zero, List.set_cons_succ, List.all_cons, List.all_nil, i_len_l, i_len_t, i_int_i, i_int_b, i_abs, i_tup_l, i_tup_t, i_lst_l, i_lst_t, i_all, i_any, noMs_bl, noMs_str, noMs_int, fzs_str, fzs_int, noMs_nil, fzs_nil, noMs_cons, fzs_cons, big0, big1, big2, big3, big4, innO_strs, innO_strsT, ninO_strs, ninO_strsT, eqO_str, eqO_int, addO_int, subO_int, List.length_cons, List.length_nil, Nat.reduceAdd, if_true, if_false, Bool.and_true, Bool.true_and, Bool.false_eq_true, Bool.not_false, isM, appD, hr, hr2, List.length_map]
      cases hb : Nat.blt s.fs.length big <;> cases hb2 : Nat.blt s.ss.length big <;> simp only [e_cn, e_nm, e_gl, e_tup, e_lst, e_bin, e_neg, e_not, e_cmp, e_cmp2, e_and, e_or, e_ite, e_ix, e_sl, e_rev, e_call, e_bi, e_isi, es_nil, es_cons, eo_no, eo_so, ec_no, ec_so, ei_sq, ei_r1, ei_r2, et_not, et_cmp, et_cmp2, et_and, et_or, et_cn, et_nm, et_ix, et_call, et_bi, et_isi, ea_nil, ea_cons, er_nil, er_cons, eta_nil, eta_cons, etr_nil, etr_cons, s_nil, s_cons, s_asg, s_par, s_app, s_ext, s_setix, s_aug, s_iff, s_ret, s_retN, s_brk, s_cnt, s_pass, s_expr, s_raise, b_ok, b_ex, b_bad, seqK, nmR, rv_v, rg_v, rt_v, rm_v, rc_v, rr_v, rv_r, rg_r, rt_r, rm_r, rc_r, rr_r, v_non, n_non, f_non, v_bl, n_bl, f_bl, v_int, n_int, f_int, v_str, n_str, f_str, v_tup, n_tup, f_tup, v_lst, n_lst, f_lst, v_rol, n_rol, f_rol, v_mls, n_mls, f_mls, toV, liftB, lift, bin2, cmp2B, binD, cmpD, t_nm, t_tp, ts_nil, ts_cons, setNs_nil, setNs_cons, wipeE, backE, plainAt, views, gives, takes, walk, unlk, hdFree, forEnd, List.getElem?_cons_zero, List.getElem?_cons_succ, List.set_cons_zero, List.set_cons_succ, List.all_cons, List.all_nil, i_len_l, i_len_t, i_int_i, i_int_b, i_abs, i_tup_l, i_tup_t, i_lst_l, i_lst_t, i_all, i_any, noMs_bl, noMs_str, noMs_int, fzs_str, fzs_int, noMs_nil, fzs_nil, noMs_cons, fzs_cons, big0, big1, big2, big3, big4, innO_strs, innO_strsT, ninO_strs, ninO_strsT, eqO_str, eqO_int, addO_int, subO_int, List.length_cons, List.length_nil, Nat.reduceAdd, if_true, if_false, Bool.and_true, Bool.true_and, Bool.false_eq_true, Out.res, so, dr, List.map_append, List.map_cons, List.map_nil, Bool.and_false, Bool.false_and, hr, hr2, hb, hb2, List.length_map]
/-- one turn of the outer loop -/
def derB (s : DS) : Out DS := match forN derM wordsL { s with mv := false } with
  | .nx b => .nx b
  | _ => .bad
theorem derM_nx (w : Str) (s : DS) : (∃ b, derM w s = .nx b) ∨ derM w s = .bad := by
  unfold derM
  split
  · split
    · exact .inl ⟨_, rfl⟩
    · split
      · exact .inl ⟨_, rfl⟩
      · exact .inr rfl
  · exact .inl ⟨_, rfl⟩
theorem forDer_nx : ∀ (xs : List Str) (s : DS), (∃ b, forN derM xs s = .nx b) ∨ forN derM xs s = .bad
  | [], s => .inl ⟨s, rfl⟩
  | x :: xs, s => by
    unfold forN
    rcases derM_nx x s with ⟨b, e⟩ | e <;> rw [e]
    · exact forDer_nx xs b
    · exact .inr rfl
theorem der_body (ws : List Str) (s : DS) : evSs t_derived xm L_derived_0 (envD ws s) = (derB s).res (envD ws) := by
  have h := forGo_mirror (step := forStep (tgA (.nm 4)) (evSs t_derived xm L_derived_1)) (envD ws) D.str derM wordsL { s with mv := false } (fun w _ b => der_step ws w b)
  have hg : t_derived.gd 0 = .tup (wordsL.map .str) := cW
  unfold L_derived_0
  simp only [e_cn, e_nm, e_gl, e_tup, e_lst, e_bin, e_neg, e_not, e_cmp, e_cmp2, e_and, e_or, e_ite, e_ix, e_sl, e_rev, e_call, e_bi, e_isi, es_nil, es_cons, eo_no, eo_so, ec_no, ec_so, ei_sq, ei_r1, ei_r2, et_not, et_cmp, et_cmp2, et_and, et_or, et_cn, et_nm, et_ix, et_call, et_bi, et_isi, ea_nil, ea_cons, er_nil, er_cons, eta_nil, eta_cons, etr_nil, etr_cons, s_nil, s_cons, s_asg, s_par, s_app, s_ext, s_setix, s_aug, s_iff, s_ret, s_retN, s_brk, s_cnt, s_pass, s_expr, s_raise, b_ok, b_ex, b_bad, seqK, nmR, rv_v, rg_v, rt_v, rm_v, rc_v, rr_v, rv_r, rg_r, rt_r, rm_r, rc_r, rr_r, v_non, n_non, f_non, v_bl, n_bl, f_bl, v_int, n_int, f_int, v_str, n_str, f_str, v_tup, n_tup, f_tup, v_lst, n_lst, f_lst, v_rol, n_rol, f_rol, v_mls, n_mls, f_mls, toV, liftB, lift, bin2, cmp2B, binD, cmpD, t_nm, t_tp, ts_nil, ts_cons, setNs_nil, setNs_cons, wipeE, backE, plainAt, views, gives, takes, walk, unlk, hdFree, forEnd, List.getElem?_cons_zero, List.getElem?_cons_succ, List.set_cons_zero, List.set_cons_succ, List.all_cons, List.all_nil, i_len_l, i_len_t, i_int_i, i_int_b, i_abs, i_tup_l, i_tup_t, i_lst_l, i_lst_t, i_all, i_any, noMs_bl, noMs_str, noMs_int, fzs_str, fzs_int, noMs_nil, fzs_nil, noMs_cons, fzs_cons, big0, big1, big2, big3, big4, innO_strs, innO_strsT, ninO_strs, ninO_strsT, eqO_str, eqO_int, addO_int, subO_int, List.length_cons, List.length_nil, Nat.reduceAdd, if_true, if_false, Bool.and_true, Bool.true_and, Bool.false_eq_true, s_forr, hg]
  have e1 : (envD ws s)[3]? = some (.on (.bl s.mv)) := rfl
  have e2 : (envD ws s).set 3 (.on (.bl false)) = envD ws { s with mv := false } := rfl
  rw [e1]
  simp only [e_cn, e_nm, e_gl, e_tup, e_lst, e_bin, e_neg, e_not, e_cmp, e_cmp2, e_and, e_or, e_ite, e_ix, e_sl, e_rev, e_call, e_bi, e_isi, es_nil, es_cons, eo_no, eo_so, ec_no, ec_so, ei_sq, ei_r1, ei_r2, et_not, et_cmp, et_cmp2, et_and, et_or, et_cn, et_nm, et_ix, et_call, et_bi, et_isi, ea_nil, ea_cons, er_nil, er_cons, eta_nil, eta_cons, etr_nil, etr_cons, s_nil, s_cons, s_asg, s_par, s_app, s_ext, s_setix, s_aug, s_iff, s_ret, s_retN, s_brk, s_cnt, s_pass, s_expr, s_raise, b_ok, b_ex, b_bad, seqK, nmR, rv_v, rg_v, rt_v, rm_v, rc_v, rr_v, rv_r, rg_r, rt_r, rm_r, rc_r, rr_r, v_non, n_non, f_non, v_bl, n_bl, f_bl, v_int, n_int, f_int, v_str, n_str, f_str, v_tup, n_tup, f_tup, v_lst, n_lst, f_lst, v_rol, n_rol, f_rol, v_mls, n_mls, f_mls, toV, liftB, lift, bin2, cmp2B, binD, cmpD, t_nm, t_tp, ts_nil, ts_cons, setNs_nil, setNs_cons, wipeE, backE, plainAt, views, gives, takes, walk, unlk, hdFree, forEnd, List.getElem?_cons_zero, List.getElem?_cons_succ, List.set_cons_zero, List.set_cons_succ, List.all_cons, List.all_nil, i_len_l, i_len_t, i_int_i, i_int_b, i_abs, i_tup_l, i_tup_t, i_lst_l, i_lst_t, i_all, i_any, noMs_bl, noMs_str, noMs_int, fzs_str, fzs_int, noMs_nil, fzs_nil, noMs_cons, fzs_cons, big0, big1, big2, big3, big4, innO_strs, innO_strsT, ninO_strs, ninO_strsT, eqO_str, eqO_int, addO_int, subO_int, List.length_cons, List.length_nil, Nat.reduceAdd, if_true, if_false, Bool.and_true, Bool.true_and, Bool.false_eq_true, e2, h]
  unfold derB
  rcases forDer_nx wordsL { s with mv := false } with ⟨b, e⟩ | e <;> rw [e] <;> simp only [Out.res, e_cn, e_nm, e_gl, e_tup, e_lst, e_bin, e_neg, e_not, e_cmp, e_cmp2, e_and, e_or, e_ite, e_ix, e_sl, e_rev, e_call, e_bi, e_isi, es_nil, es_cons, eo_no, eo_so, ec_no, ec_so, ei_sq, ei_r1, ei_r2, et_not, et_cmp, et_cmp2, et_and, et_or, et_cn, et_nm, et_ix, et_call, et_bi, et_isi, ea_nil, ea_cons, er_nil, er_cons, eta_nil, eta_cons, etr_nil, etr_cons, s_nil, s_cons, s_asg, s_par, s_app, s_ext, s_setix, s_aug, s_iff, s_ret, s_retN, s_brk, s_cnt, s_pass, s_expr, s_raise, b_ok, b_ex, b_bad, seqK, nmR, rv_v, rg_v, rt_v, rm_v, rc_v, rr_v, rv_r, rg_r, rt_r, rm_r, rc_r, rr_r, v_non, n_non, f_non, v_bl, n_bl, f_bl, v_int, n_int, f_int, v_str, n_str, f_str, v_tup, n_tup, f_tup, v_lst, n_lst, f_lst, v_rol, n_rol, f_rol, v_mls, n_mls, f_mls, toV, liftB, lift, bin2, cmp2B, binD, cmpD, t_nm, t_tp, ts_nil, ts_cons, setNs_nil, setNs_cons, wipeE, backE, plainAt, views, gives, takes, walk, unlk, hdFree, forEnd, List.getElem?_cons_zero, List.getElem?_cons_succ, List.set_cons_zero, List.set_cons_succ, List.all_cons, List.all_nil, i_len_l, i_len_t, i_int_i, i_int_b, i_abs, i_tup_l, i_tup_t, i_lst_l, i_lst_t, i_all, i_any, noMs_bl, noMs_str, noMs_int, fzs_str, fzs_int, noMs_nil, fzs_nil, noMs_cons, fzs_cons, big0, big1, big2, big3, big4, innO_strs, innO_strsT, ninO_strs, ninO_strsT, eqO_str, eqO_int, addO_int, subO_int, List.length_cons, List.length_nil, Nat.reduceAdd, if_true, if_false, Bool.and_true, Bool.true_and, Bool.false_eq_true]
def derN (ws : List Str) : Out DS := whlN (fun s => s.mv) derB WF ⟨ws, [], true, none, none⟩
def outDer : Out DS → FR
  | .nx b => .ok (.tup [.lst (b.fs.map .str), .lst (b.ss.map dr)]) .non
  | _ => .bad
theorem whl_nx : ∀ (n : Nat) (s : DS), (∃ b, whlN (fun s => s.mv) derB n s = .nx b) ∨ whlN (fun s => s.mv) derB n s = .bad
  | 0, s => .inr rfl
  | n + 1, s => by
    unfold whlN
    split
    · cases e : derB s with
      | nx b => exact whl_nx n b
      | bad => exact .inr rfl
      | br b => unfold derB at e; split at e <;> cases e
      | rt d b => unfold derB at e; split at e <;> cases e
      | ex c p b => unfold derB at e; split at e <;> cases e
    · exact .inl ⟨_, rfl⟩
theorem f_der (ws : List Str) : f_derived [.tup (ws.map .str)] = outDer (derN ws) := by
  have h := whlGo_mirror (test := evT t_derived (E.nm 3)) (body := evSs t_derived xm L_derived_0) (envD ws) (fun s => s.mv) derB (fun s => rfl) (fun s _ => der_body ws s) WF ⟨ws, [], true, none, none⟩
  have hw : D.noMs (ws.map D.str) = true := noMs_map (fun _ => rfl) ws
  simp only [envD, so, List.map_nil] at h
  unfold f_derived b_derived
  simp only [den, List.append_nil, List.map_cons, List.map_nil, List.length_cons, List.length_nil, Nat.reduceAdd, Nat.reduceSub, List.replicate, List.cons_append, List.nil_append, Bool.false_and, s_par, s_whl, e_cn, e_nm, e_gl, e_tup, e_lst, e_bin, e_neg, e_not, e_cmp, e_cmp2, e_and, e_or, e_ite, e_ix, e_sl, e_rev, e_call, e_bi, e_isi, es_nil, es_cons, eo_no, eo_so, ec_no, ec_so, ei_sq, ei_r1, ei_r2, et_not, et_cmp, et_cmp2, et_and, et_or, et_cn, et_nm, et_ix, et_call, et_bi, et_isi, ea_nil, ea_cons, er_nil, er_cons, eta_nil, eta_cons, etr_nil, etr_cons, s_nil, s_cons, s_asg, s_par, s_app, s_ext, s_setix, s_aug, s_iff, s_ret, s_retN, s_brk, s_cnt, s_pass, s_expr, s_raise, b_ok, b_ex, b_bad, seqK, nmR, rv_v, rg_v, rt_v, rm_v, rc_v, rr_v, rv_r, rg_r, rt_r, rm_r, rc_r, rr_r, v_non, n_non, f_non, v_bl, n_bl, f_bl, v_int, n_int, f_int, v_str, n_str, f_str, v_tup, n_tup, f_tup, v_lst, n_lst, f_lst, v_rol, n_rol, f_rol, v_mls, n_mls, f_mls, toV, liftB, lift, bin2, cmp2B, binD, cmpD, t_nm, t_tp, ts_nil, ts_cons, setNs_nil, setNs_cons, wipeE, backE, plainAt, views, gives, takes, walk, unlk, hdFree, forEnd, List.getElem?_cons_zero, List.getElem?_cons_succ, List.set_cons_zero, List.set_cons_succ, List.all_cons, List.all_nil, i_len_l, i_len_t, i_int_i, i_int_b, i_abs, i_tup_l, i_tup_t, i_lst_l, i_lst_t, i_all, i_any, noMs_bl, noMs_str, noMs_int, fzs_str, fzs_int, noMs_nil, fzs_nil, noMs_cons, fzs_cons, big0, big1, big2, big3, big4, innO_strs, innO_strsT, ninO_strs, ninO_strsT, eqO_str, eqO_int, addO_int, subO_int, List.length_cons, List.length_nil, Nat.reduceAdd, if_true, if_false, Bool.and_true, Bool.true_and, Bool.false_eq_true]
  rw [h]
  unfold derN
  rcases whl_nx WF ⟨ws, [], true, none, none⟩ with ⟨b, e⟩ | e
  · rw [e]
    have h1 : D.fzs (b.fs.map D.str) = b.fs.map D.str := fzs_of_noM _ (noMs_map (fun _ => rfl) b.fs)
    have h2 : D.fzs (b.ss.map dr) = b.ss.map dr := fzs_of_noM _ (noMs_map noM_dr b.ss)
    simp only [Out.res, envD, e_cn, e_nm, e_gl, e_tup, e_lst, e_bin, e_neg, e_not, e_cmp, e_cmp2, e_and, e_or, e_ite, e_ix, e_sl, e_rev, e_call, e_bi, e_isi, es_nil, es_cons, eo_no, eo_so, ec_no, ec_so, ei_sq, ei_r1, ei_r2, et_not, et_cmp, et_cmp2, et_and, et_or, et_cn, et_nm, et_ix, et_call, et_bi, et_isi, ea_nil, ea_cons, er_nil, er_cons, eta_nil, eta_cons, etr_nil, etr_cons, s_nil, s_cons, s_asg, s_par, s_app, s_ext, s_setix, s_aug, s_iff, s_ret, s_retN, s_brk, s_cnt, s_pass, s_expr, s_raise, b_ok, b_ex, b_bad, seqK, nmR, rv_v, rg_v, rt_v, rm_v, rc_v, rr_v, rv_r, rg_r, rt_r, rm_r, rc_r, rr_r, v_non, n_non, f_non, v_bl, n_bl, f_bl, v_int, n_int, f_int, v_str, n_str, f_str, v_tup, n_tup, f_tup, v_lst, n_lst, f_lst, v_rol, n_rol, f_rol, v_mls, n_mls, f_mls, toV, liftB, lift, bin2, cmp2B, binD, cmpD, t_nm, t_tp, ts_nil, ts_cons, setNs_nil, setNs_cons, wipeE, backE, plainAt, views, gives, takes, walk, unlk, hdFree, forEnd, List.getElem?_cons_zero, List.getElem?_cons_succ, List.set_cons_zero, List.set_cons_succ, List.all_cons, List.all_nil, i_len_l, i_len_t, i_int_i, i_int_b, i_abs, i_tup_l, i_tup_t, i_lst_l, i_lst_t, i_all, i_any, noMs_bl, noMs_str, noMs_int, fzs_str, fzs_int, noMs_nil, fzs_nil, noMs_cons, fzs_cons, big0, big1, big2, big3, big4, innO_strs, innO_strsT, ninO_strs, ninO_strsT, eqO_str, eqO_int, addO_int, subO_int, List.length_cons, List.length_nil, Nat.reduceAdd, if_true, if_false, Bool.and_true, Bool.true_and, Bool.false_eq_true, h1, h2, outOf, outDer]
  · rw [e]
    simp only [Out.res, e_cn, e_nm, e_gl, e_tup, e_lst, e_bin, e_neg, e_not, e_cmp, e_cmp2, e_and, e_or, e_ite, e_ix, e_sl, e_rev, e_call, e_bi, e_isi, es_nil, es_cons, eo_no, eo_so, ec_no, ec_so, ei_sq, ei_r1, ei_r2, et_not, et_cmp, et_cmp2, et_and, et_or, et_cn, et_nm, et_ix, et_call, et_bi, et_isi, ea_nil, ea_cons, er_nil, er_cons, eta_nil, eta_cons, etr_nil, etr_cons, s_nil, s_cons, s_asg, s_par, s_app, s_ext, s_setix, s_aug, s_iff, s_ret, s_retN, s_brk, s_cnt, s_pass, s_expr, s_raise, b_ok, b_ex, b_bad, seqK, nmR, rv_v, rg_v, rt_v, rm_v, rc_v, rr_v, rv_r, rg_r, rt_r, rm_r, rc_r, rr_r, v_non, n_non, f_non, v_bl, n_bl, f_bl, v_int, n_int, f_int, v_str, n_str, f_str, v_tup, n_tup, f_tup, v_lst, n_lst, f_lst, v_rol, n_rol, f_rol, v_mls, n_mls, f_mls, toV, liftB, lift, bin2, cmp2B, binD, cmpD, t_nm, t_tp, ts_nil, ts_cons, setNs_nil, setNs_cons, wipeE, backE, plainAt, views, gives, takes, walk, unlk, hdFree, forEnd, List.getElem?_cons_zero, List.getElem?_cons_succ, List.set_cons_zero, List.set_cons_succ, List.all_cons, List.all_nil, i_len_l, i_len_t, i_int_i, i_int_b, i_abs, i_tup_l, i_tup_t, i_lst_l, i_lst_t, i_all, i_any, noMs_bl, noMs_str, noMs_int, fzs_str, fzs_int, noMs_nil, fzs_nil, noMs_cons, fzs_cons, big0, big1, big2, big3, big4, innO_strs, innO_strsT, ninO_strs, ninO_strsT, eqO_str, eqO_int, addO_int, subO_int, List.length_cons, List.length_nil, Nat.reduceAdd, if_true, if_false, Bool.and_true, Bool.true_and, Bool.false_eq_true, outDer]
end K05
namespace K05
open Ev PySem
theorem f_check (w : Str) (hw : w ∈ wordsL) : f_check_word [.str w] = .ok .non .non := by
  have hg : t_check_word.gd 0 = .tup (wordsL.map .str) := cW
  unfold f_check_word b_check_word
  simp only [den, List.append_nil, List.map_cons, List.map_nil, List.length_cons, List.length_nil, Nat.reduceAdd, Nat.reduceSub, List.replicate, List.cons_append, List.nil_append, Bool.false_and, e_cn, e_nm, e_gl, e_tup, e_lst, e_bin, e_neg, e_not, e_cmp, e_cmp2, e_and, e_or, e_ite, e_ix, e_sl, e_rev, e_call, e_bi, e_isi, es_nil, es_cons, eo_no, eo_so, ec_no, ec_so, ei_sq, ei_r1, ei_r2, et_not, et_cmp, et_cmp2, et_and, et_or, et_cn, et_nm, et_ix, et_call, et_bi, et_isi, ea_nil, ea_cons, er_nil, er_cons, eta_nil, eta_cons, etr_nil, etr_cons, s_nil, s_cons, s_asg, s_par, s_app, s_ext, s_setix, s_aug, s_iff, s_ret, s_retN, s_brk, s_cnt, s_pass, s_expr, s_raise, b_ok, b_ex, b_bad, seqK, nmR, rv_v, rg_v, rt_v, rm_v, rc_v, rr_v, rv_r, rg_r, rt_r, rm_r, rc_r, rr_r, v_non, n_non, f_non, v_bl, n_bl, f_bl, v_int, n_int, f_int, v_str, n_str, f_str, v_tup, n_tup, f_tup, v_lst, n_lst, f_lst, v_rol, n_rol, f_rol, v_mls, n_mls, f_mls, toV, liftB, lift, bin2, cmp2B, binD, cmpD, t_nm, t_tp, ts_nil, ts_cons, setNs_nil, setNs_cons, wipeE, backE, plainAt, views, gives, takes, walk, unlk, hdFree, forEnd, List.getElem?_cons_zero, List.getElem?_cons_succ, List.set_cons_zero, List.set_cons_succ, List.all_cons, List.all_nil, i_len_l, i_len_t, i_int_i, i_int_b, i_abs, i_tup_l, i_tup_t, i_lst_l, i_lst_t, i_all, i_any, noMs_bl, noMs_str, noMs_int, fzs_str, fzs_int, noMs_nil, fzs_nil, noMs_cons, fzs_cons, big0, big1, big2, big3, big4, innO_strs, innO_strsT, ninO_strs, ninO_strsT, eqO_str, eqO_int, addO_int, subO_int, List.length_cons, List.length_nil, Nat.reduceAdd, if_true, if_false, Bool.and_true, Bool.true_and, Bool.false_eq_true, hg, isiD, tagD, isiT, hw, decide_true, Bool.not_true, outOf, truD]
theorem f_checks (ws : List Str) (h1 : 1 ≤ ws.length ∧ ws.length ≤ 2) (hw : ∀ w ∈ ws, w ∈ wordsL) : f_check_words [.tup (ws.map .str)] = .ok .non .non := by
  have h := forGo_mirror (step := forStep (tgA (.nm 1)) (evSs t_check_words xm L_check_words_0)) (fun b => [.on (.tup (ws.map .str)), so b]) D.str (fun w _ => .nx (some (.str w))) ws none (fun w hm b => by
    have hc : callR t_check_words 0 [.v (.str w)] [.on (.tup (ws.map .str)), .on (.str w)] = .ok (.v .non) [.on (.tup (ws.map .str)), .on (.str w)] := c_give rfl rfl rfl rfl (f_check w (hw w hm))
    unfold forStep L_check_words_0
    rw [t_so (b := b) rfl]
    simp only [e_cn, e_nm, e_gl, e_tup, e_lst, e_bin, e_neg, e_not, e_cmp, e_cmp2, e_and, e_or, e_ite, e_ix, e_sl, e_rev, e_call, e_bi, e_isi, es_nil, es_cons, eo_no, eo_so, ec_no, ec_so, ei_sq, ei_r1, ei_r2, et_not, et_cmp, et_cmp2, et_and, et_or, et_cn, et_nm, et_ix, et_call, et_bi, et_isi, ea_nil, ea_cons, er_nil, er_cons, eta_nil, eta_cons, etr_nil, etr_cons, s_nil, s_cons, s_asg, s_par, s_app, s_ext, s_setix, s_aug, s_iff, s_ret, s_retN, s_brk, s_cnt, s_pass, s_expr, s_raise, b_ok, b_ex, b_bad, seqK, nmR, rv_v, rg_v, rt_v, rm_v, rc_v, rr_v, rv_r, rg_r, rt_r, rm_r, rc_r, rr_r, v_non, n_non, f_non, v_bl, n_bl, f_bl, v_int, n_int, f_int, v_str, n_str, f_str, v_tup, n_tup, f_tup, v_lst, n_lst, f_lst, v_rol, n_rol, f_rol, v_mls, n_mls, f_mls, toV, liftB, lift, bin2, cmp2B, binD, cmpD, t_nm, t_tp, ts_nil, ts_cons, setNs_nil, setNs_cons, wipeE, backE, plainAt, views, gives, takes, walk, unlk, hdFree, forEnd, List.getElem?_cons_zero, List.getElem?_cons_succ, List.set_cons_zero, List.set_cons_succ, List.all_cons, List.all_nil, i_len_l, i_len_t, i_int_i, i_int_b, i_abs, i_tup_l, i_tup_t, i_lst_l, i_lst_t, i_all, i_any, noMs_bl, noMs_str, noMs_int, fzs_str, fzs_int, noMs_nil, fzs_nil, noMs_cons, fzs_cons, big0, big1, big2, big3, big4, innO_strs, innO_strsT, ninO_strs, ninO_strsT, eqO_str, eqO_int, addO_int, subO_int, List.length_cons, List.length_nil, Nat.reduceAdd, if_true, if_false, Bool.and_true, Bool.true_and, Bool.false_eq_true, hc, Out.res, so])
  have hn : ∀ (xs : List Str) (b : Option D), ∃ b', forN (fun (w : Str) (_ : Option D) => Out.nx (some (D.str w))) xs b = .nx b' := by
    intro xs
    induction xs with
    | nil => exact fun b => ⟨b, rfl⟩
    | cons x xs ih => exact fun b => ih _
  obtain ⟨b', e⟩ := hn ws none
  rw [e] at h
  simp only [so, Out.res] at h
  have l1 : decide ((1 : Int) ≤ (ws.length : Int)) = true := by rw [decide_eq_true_eq]; omega
  have l2 : decide ((ws.length : Int) ≤ 2) = true := by rw [decide_eq_true_eq]; omega
  unfold f_check_words b_check_words
  simp only [den, List.append_nil, List.map_cons, List.map_nil, List.length_cons, List.length_nil, Nat.reduceAdd, Nat.reduceSub, List.replicate, List.cons_append, List.nil_append, Bool.false_and, s_forr, e_cn, e_nm, e_gl, e_tup, e_lst, e_bin, e_neg, e_not, e_cmp, e_cmp2, e_and, e_or, e_ite, e_ix, e_sl, e_rev, e_call, e_bi, e_isi, es_nil, es_cons, eo_no, eo_so, ec_no, ec_so, ei_sq, ei_r1, ei_r2, et_not, et_cmp, et_cmp2, et_and, et_or, et_cn, et_nm, et_ix, et_call, et_bi, et_isi, ea_nil, ea_cons, er_nil, er_cons, eta_nil, eta_cons, etr_nil, etr_cons, s_nil, s_cons, s_asg, s_par, s_app, s_ext, s_setix, s_aug, s_iff, s_ret, s_retN, s_brk, s_cnt, s_pass, s_expr, s_raise, b_ok, b_ex, b_bad, seqK, nmR, rv_v, rg_v, rt_v, rm_v, rc_v, rr_v, rv_r, rg_r, rt_r, rm_r, rc_r, rr_r, v_non, n_non, f_non, v_bl, n_bl, f_bl, v_int, n_int, f_int, v_str, n_str, f_str, v_tup, n_tup, f_tup, v_lst, n_lst, f_lst, v_rol, n_rol, f_rol, v_mls, n_mls, f_mls, toV, liftB, lift, bin2, cmp2B, binD, cmpD, t_nm, t_tp, ts_nil, ts_cons, setNs_nil, setNs_cons, wipeE, backE, plainAt, views, gives, takes, walk, unlk, hdFree, forEnd, List.getElem?_cons_zero, List.getElem?_cons_succ, List.set_cons_zero, List.set_cons_succ, List.all_cons, List.all_nil, i_len_l, i_len_t, i_int_i, i_int_b, i_abs, i_tup_l, i_tup_t, i_lst_l, i_lst_t, i_all, i_any, noMs_bl, noMs_str, noMs_int, fzs_str, fzs_int, noMs_nil, fzs_nil, noMs_cons, fzs_cons, big0, big1, big2, big3, big4, innO_strs, innO_strsT, ninO_strs, ninO_strsT, eqO_str, eqO_int, addO_int, subO_int, List.length_cons, List.length_nil, Nat.reduceAdd, if_true, if_false, Bool.and_true, Bool.true_and, Bool.false_eq_true, isiD, tagD, isiT, Bool.not_true, truD, leO, List.length_map, l1, l2, h, outOf]
def barsP : List (Str × Str) := [("alone", "turn"), ("nimble", "token")]
def dp (x : Str × Str) : D := .tup [.str x.1, .str x.2]
def both (fs : List Str) (x : Str × Str) : Bool := decide (x.1 ∈ fs) && decide (x.2 ∈ fs)
theorem cB2 : c_BARS = .tup (barsP.map dp) := by kernel_rfl
def barD (fs : List Str) : D := match barsP.filter (both fs) with
  | [] => .non
  | x :: _ => dp x
theorem bars_len : barsP.length ≤ big := by decide +kernel
theorem f_bar (fs : List Str) : f_bar_among [.lst (fs.map .str)] = .ok (barD fs) .non := by
  have hg : t_bar_among.gd 3 = .tup (barsP.map dp) := cB2
  have hn : D.noMs (barsP.map dp) = true := noMs_map (fun _ => rfl) barsP
  have h : evE t_bar_among C_bar_among_0 [.on (.lst (fs.map .str)), .un, .un] = .ok (.v (.mls ((barsP.filter (both fs)).map dp))) [.on (.lst (fs.map .str)), .un, .un] := by
    unfold C_bar_among_0
    rw [e_lc]
    refine lc_nm dp (both fs) dp barsP (env1 := [.on (.lst (fs.map .str)), .un, .un]) (s := .un) (hd := none) ?_ rfl rfl bars_len rfl (fun x => ?_) fun x hx => ⟨.v (dp x), ?_, ?_⟩
    · simp only [e_cn, e_nm, e_gl, e_tup, e_lst, e_bin, e_neg, e_not, e_cmp, e_cmp2, e_and, e_or, e_ite, e_ix, e_sl, e_rev, e_call, e_bi, e_isi, es_nil, es_cons, eo_no, eo_so, ec_no, ec_so, ei_sq, ei_r1, ei_r2, et_not, et_cmp, et_cmp2, et_and, et_or, et_cn, et_nm, et_ix, et_call, et_bi, et_isi, ea_nil, ea_cons, er_nil, er_cons, eta_nil, eta_cons, etr_nil, etr_cons, s_nil, s_cons, s_asg, s_par, s_app, s_ext, s_setix, s_aug, s_iff, s_ret, s_retN, s_brk, s_cnt, s_pass, s_expr, s_raise, b_ok, b_ex, b_bad, seqK, nmR, rv_v, rg_v, rt_v, rm_v, rc_v, rr_v, rv_r, rg_r, rt_r, rm_r, rc_r, rr_r, v_non, n_non, f_non, v_bl, n_bl, f_bl, v_int, n_int, f_int, v_str, n_str, f_str, v_tup, n_tup, f_tup, v_lst, n_lst, f_lst, v_rol, n_rol, f_rol, v_mls, n_mls, f_mls, toV, liftB, lift, bin2, cmp2B, binD, cmpD, t_nm, t_tp, ts_nil, ts_cons, setNs_nil, setNs_cons, wipeE, backE, plainAt, views, gives, takes, walk, unlk, hdFree, forEnd, List.getElem?_cons_zero, List.getElem?_cons_succ, List.set_cons_zero, List.set_cons_succ, List.all_cons, List.all_nil, i_len_l, i_len_t, i_int_i, i_int_b, i_abs, i_tup_l, i_tup_t, i_lst_l, i_lst_t, i_all, i_any, noMs_bl, noMs_str, noMs_int, fzs_str, fzs_int, noMs_nil, fzs_nil, noMs_cons, fzs_cons, big0, big1, big2, big3, big4, innO_strs, innO_strsT, ninO_strs, ninO_strsT, eqO_str, eqO_int, addO_int, subO_int, List.length_cons, List.length_nil, Nat.reduceAdd, if_true, if_false, Bool.and_true, Bool.true_and, Bool.false_eq_true, hg]
    · have g0 : ixD (D.tup [.str x.1, .str x.2]) (.int 0) = some (.str x.1) := rfl
      have g1 : ixD (D.tup [.str x.1, .str x.2]) (.int 1) = some (.str x.2) := rfl
      simp only [e_cn, e_nm, e_gl, e_tup, e_lst, e_bin, e_neg, e_not, e_cmp, e_cmp2, e_and, e_or, e_ite, e_ix, e_sl, e_rev, e_call, e_bi, e_isi, es_nil, es_cons, eo_no, eo_so, ec_no, ec_so, ei_sq, ei_r1, ei_r2, et_not, et_cmp, et_cmp2, et_and, et_or, et_cn, et_nm, et_ix, et_call, et_bi, et_isi, ea_nil, ea_cons, er_nil, er_cons, eta_nil, eta_cons, etr_nil, etr_cons, s_nil, s_cons, s_asg, s_par, s_app, s_ext, s_setix, s_aug, s_iff, s_ret, s_retN, s_brk, s_cnt, s_pass, s_expr, s_raise, b_ok, b_ex, b_bad, seqK, nmR, rv_v, rg_v, rt_v, rm_v, rc_v, rr_v, rv_r, rg_r, rt_r, rm_r, rc_r, rr_r, v_non, n_non, f_non, v_bl, n_bl, f_bl, v_int, n_int, f_int, v_str, n_str, f_str, v_tup, n_tup, f_tup, v_lst, n_lst, f_lst, v_rol, n_rol, f_rol, v_mls, n_mls, f_mls, toV, liftB, lift, bin2, cmp2B, binD, cmpD, t_nm, t_tp, ts_nil, ts_cons, setNs_nil, setNs_cons, wipeE, backE, plainAt, views, gives, takes, walk, unlk, hdFree, forEnd, List.getElem?_cons_zero, List.getElem?_cons_succ, List.set_cons_zero, List.set_cons_succ, List.all_cons, List.all_nil, i_len_l, i_len_t, i_int_i, i_int_b, i_abs, i_tup_l, i_tup_t, i_lst_l, i_lst_t, i_all, i_any, noMs_bl, noMs_str, noMs_int, fzs_str, fzs_int, noMs_nil, fzs_nil, noMs_cons, fzs_cons, big0, big1, big2, big3, big4, innO_strs, innO_strsT, ninO_strs, ninO_strsT, eqO_str, eqO_int, addO_int, subO_int, List.length_cons, List.length_nil, Nat.reduceAdd, if_true, if_false, Bool.and_true, Bool.true_and, Bool.false_eq_true, dp, g0, g1, both]
      cases decide (x.1 ∈ fs) <;> cases decide (x.2 ∈ fs) <;> simp only [e_cn, e_nm, e_gl, e_tup, e_lst, e_bin, e_neg, e_not, e_cmp, e_cmp2, e_and, e_or, e_ite, e_ix, e_sl, e_rev, e_call, e_bi, e_isi, es_nil, es_cons, eo_no, eo_so, ec_no, ec_so, ei_sq, ei_r1, ei_r2, et_not, et_cmp, et_cmp2, et_and, et_or, et_cn, et_nm, et_ix, et_call, et_bi, et_isi, ea_nil, ea_cons, er_nil, er_cons, eta_nil, eta_cons, etr_nil, etr_cons, s_nil, s_cons, s_asg, s_par, s_app, s_ext, s_setix, s_aug, s_iff, s_ret, s_retN, s_brk, s_cnt, s_pass, s_expr, s_raise, b_ok, b_ex, b_bad, seqK, nmR, rv_v, rg_v, rt_v, rm_v, rc_v, rr_v, rv_r, rg_r, rt_r, rm_r, rc_r, rr_r, v_non, n_non, f_non, v_bl, n_bl, f_bl, v_int, n_int, f_int, v_str, n_str, f_str, v_tup, n_tup, f_tup, v_lst, n_lst, f_lst, v_rol, n_rol, f_rol, v_mls, n_mls, f_mls, toV, liftB, lift, bin2, cmp2B, binD, cmpD, t_nm, t_tp, ts_nil, ts_cons, setNs_nil, setNs_cons, wipeE, backE, plainAt, views, gives, takes, walk, unlk, hdFree, forEnd, List.getElem?_cons_zero, List.getElem?_cons_succ, List.set_cons_zero, List.set_cons_succ, List.all_cons, List.all_nil, i_len_l, i_len_t, i_int_i, i_int_b, i_abs, i_tup_l, i_tup_t, i_lst_l, i_lst_t, i_all, i_any, noMs_bl, noMs_str, noMs_int, fzs_str, fzs_int, noMs_nil, fzs_nil, noMs_cons, fzs_cons, big0, big1, big2, big3, big4, innO_strs, innO_strsT, ninO_strs, ninO_strsT, eqO_str, eqO_int, addO_int, subO_int, List.length_cons, List.length_nil, Nat.reduceAdd, if_true, if_false, Bool.and_true, Bool.true_and, Bool.false_eq_true, Bool.and_false, Bool.false_and]
    · simp only [e_cn, e_nm, e_gl, e_tup, e_lst, e_bin, e_neg, e_not, e_cmp, e_cmp2, e_and, e_or, e_ite, e_ix, e_sl, e_rev, e_call, e_bi, e_isi, es_nil, es_cons, eo_no, eo_so, ec_no, ec_so, ei_sq, ei_r1, ei_r2, et_not, et_cmp, et_cmp2, et_and, et_or, et_cn, et_nm, et_ix, et_call, et_bi, et_isi, ea_nil, ea_cons, er_nil, er_cons, eta_nil, eta_cons, etr_nil, etr_cons, s_nil, s_cons, s_asg, s_par, s_app, s_ext, s_setix, s_aug, s_iff, s_ret, s_retN, s_brk, s_cnt, s_pass, s_expr, s_raise, b_ok, b_ex, b_bad, seqK, nmR, rv_v, rg_v, rt_v, rm_v, rc_v, rr_v, rv_r, rg_r, rt_r, rm_r, rc_r, rr_r, v_non, n_non, f_non, v_bl, n_bl, f_bl, v_int, n_int, f_int, v_str, n_str, f_str, v_tup, n_tup, f_tup, v_lst, n_lst, f_lst, v_rol, n_rol, f_rol, v_mls, n_mls, f_mls, toV, liftB, lift, bin2, cmp2B, binD, cmpD, t_nm, t_tp, ts_nil, ts_cons, setNs_nil, setNs_cons, wipeE, backE, plainAt, views, gives, takes, walk, unlk, hdFree, forEnd, List.getElem?_cons_zero, List.getElem?_cons_succ, List.set_cons_zero, List.set_cons_succ, List.all_cons, List.all_nil, i_len_l, i_len_t, i_int_i, i_int_b, i_abs, i_tup_l, i_tup_t, i_lst_l, i_lst_t, i_all, i_any, noMs_bl, noMs_str, noMs_int, fzs_str, fzs_int, noMs_nil, fzs_nil, noMs_cons, fzs_cons, big0, big1, big2, big3, big4, innO_strs, innO_strsT, ninO_strs, ninO_strsT, eqO_str, eqO_int, addO_int, subO_int, List.length_cons, List.length_nil, Nat.reduceAdd, if_true, if_false, Bool.and_true, Bool.true_and, Bool.false_eq_true, dp]
    · simp only [e_cn, e_nm, e_gl, e_tup, e_lst, e_bin, e_neg, e_not, e_cmp, e_cmp2, e_and, e_or, e_ite, e_ix, e_sl, e_rev, e_call, e_bi, e_isi, es_nil, es_cons, eo_no, eo_so, ec_no, ec_so, ei_sq, ei_r1, ei_r2, et_not, et_cmp, et_cmp2, et_and, et_or, et_cn, et_nm, et_ix, et_call, et_bi, et_isi, ea_nil, ea_cons, er_nil, er_cons, eta_nil, eta_cons, etr_nil, etr_cons, s_nil, s_cons, s_asg, s_par, s_app, s_ext, s_setix, s_aug, s_iff, s_ret, s_retN, s_brk, s_cnt, s_pass, s_expr, s_raise, b_ok, b_ex, b_bad, seqK, nmR, rv_v, rg_v, rt_v, rm_v, rc_v, rr_v, rv_r, rg_r, rt_r, rm_r, rc_r, rr_r, v_non, n_non, f_non, v_bl, n_bl, f_bl, v_int, n_int, f_int, v_str, n_str, f_str, v_tup, n_tup, f_tup, v_lst, n_lst, f_lst, v_rol, n_rol, f_rol, v_mls, n_mls, f_mls, toV, liftB, lift, bin2, cmp2B, binD, cmpD, t_nm, t_tp, ts_nil, ts_cons, setNs_nil, setNs_cons, wipeE, backE, plainAt, views, gives, takes, walk, unlk, hdFree, forEnd, List.getElem?_cons_zero, List.getElem?_cons_succ, List.set_cons_zero, List.set_cons_succ, List.all_cons, List.all_nil, i_len_l, i_len_t, i_int_i, i_int_b, i_abs, i_tup_l, i_tup_t, i_lst_l, i_lst_t, i_all, i_any, noMs_bl, noMs_str, noMs_int, fzs_str, fzs_int, noMs_nil, fzs_nil, noMs_cons, fzs_cons, big0, big1, big2, big3, big4, innO_strs, innO_strsT, ninO_strs, ninO_strsT, eqO_str, eqO_int, addO_int, subO_int, List.length_cons, List.length_nil, Nat.reduceAdd, if_true, if_false, Bool.and_true, Bool.true_and, Bool.false_eq_true, dp]
  unfold f_bar_among b_bar_among barD
  simp only [den, List.append_nil, List.map_cons, List.map_nil, List.length_cons, List.length_nil, Nat.reduceAdd, Nat.reduceSub, List.replicate, List.cons_append, List.nil_append, Bool.false_and, e_cn, e_nm, e_gl, e_tup, e_lst, e_bin, e_neg, e_not, e_cmp, e_cmp2, e_and, e_or, e_ite, e_ix, e_sl, e_rev, e_call, e_bi, e_isi, es_nil, es_cons, eo_no, eo_so, ec_no, ec_so, ei_sq, ei_r1, ei_r2, et_not, et_cmp, et_cmp2, et_and, et_or, et_cn, et_nm, et_ix, et_call, et_bi, et_isi, ea_nil, ea_cons, er_nil, er_cons, eta_nil, eta_cons, etr_nil, etr_cons, s_nil, s_cons, s_asg, s_par, s_app, s_ext, s_setix, s_aug, s_iff, s_ret, s_retN, s_brk, s_cnt, s_pass, s_expr, s_raise, b_ok, b_ex, b_bad, seqK, nmR, rv_v, rg_v, rt_v, rm_v, rc_v, rr_v, rv_r, rg_r, rt_r, rm_r, rc_r, rr_r, v_non, n_non, f_non, v_bl, n_bl, f_bl, v_int, n_int, f_int, v_str, n_str, f_str, v_tup, n_tup, f_tup, v_lst, n_lst, f_lst, v_rol, n_rol, f_rol, v_mls, n_mls, f_mls, toV, liftB, lift, bin2, cmp2B, binD, cmpD, t_nm, t_tp, ts_nil, ts_cons, setNs_nil, setNs_cons, wipeE, backE, plainAt, views, gives, takes, walk, unlk, hdFree, forEnd, List.getElem?_cons_zero, List.getElem?_cons_succ, List.set_cons_zero, List.set_cons_succ, List.all_cons, List.all_nil, i_len_l, i_len_t, i_int_i, i_int_b, i_abs, i_tup_l, i_tup_t, i_lst_l, i_lst_t, i_all, i_any, noMs_bl, noMs_str, noMs_int, fzs_str, fzs_int, noMs_nil, fzs_nil, noMs_cons, fzs_cons, big0, big1, big2, big3, big4, innO_strs, innO_strsT, ninO_strs, ninO_strsT, eqO_str, eqO_int, addO_int, subO_int, List.length_cons, List.length_nil, Nat.reduceAdd, if_true, if_false, Bool.and_true, Bool.true_and, Bool.false_eq_true, h]
  cases barsP.filter (both fs) with
  | nil =>
    simp only [e_cn, e_nm, e_gl, e_tup, e_lst, e_bin, e_neg, e_not, e_cmp, e_cmp2, e_and, e_or, e_ite, e_ix, e_sl, e_rev, e_call, e_bi, e_isi, es_nil, es_cons, eo_no, eo_so, ec_no, ec_so, ei_sq, ei_r1, ei_r2, et_not, et_cmp, et_cmp2, et_and, et_or, et_cn, et_nm, et_ix, et_call, et_bi, et_isi, ea_nil, ea_cons, er_nil, er_cons, eta_nil, eta_cons, etr_nil, etr_cons, s_nil, s_cons, s_asg, s_par, s_app, s_ext, s_setix, s_aug, s_iff, s_ret, s_retN, s_brk, s_cnt, s_pass, s_expr, s_raise, b_ok, b_ex, b_bad, seqK, nmR, rv_v, rg_v, rt_v, rm_v, rc_v, rr_v, rv_r, rg_r, rt_r, rm_r, rc_r, rr_r, v_non, n_non, f_non, v_bl, n_bl, f_bl, v_int, n_int, f_int, v_str, n_str, f_str, v_tup, n_tup, f_tup, v_lst, n_lst, f_lst, v_rol, n_rol, f_rol, v_mls, n_mls, f_mls, toV, liftB, lift, bin2, cmp2B, binD, cmpD, t_nm, t_tp, ts_nil, ts_cons, setNs_nil, setNs_cons, wipeE, backE, plainAt, views, gives, takes, walk, unlk, hdFree, forEnd, List.getElem?_cons_zero, List.getElem?_cons_succ, List.set_cons_zero, List.set_cons_succ, List.all_cons, List.all_nil, i_len_l, i_len_t, i_int_i, i_int_b, i_abs, i_tup_l, i_tup_t, i_lst_l, i_lst_t, i_all, i_any, noMs_bl, noMs_str, noMs_int, fzs_str, fzs_int, noMs_nil, fzs_nil, noMs_cons, fzs_cons, big0, big1, big2, big3, big4, innO_strs, innO_strsT, ninO_strs, ninO_strsT, eqO_str, eqO_int, addO_int, subO_int, List.length_cons, List.length_nil, Nat.reduceAdd, if_true, if_false, Bool.and_true, Bool.true_and, Bool.false_eq_true, den, List.append_nil, List.map_cons, List.map_nil, List.length_cons, List.length_nil, Nat.reduceAdd, Nat.reduceSub, List.replicate, List.cons_append, List.nil_append, Bool.false_and, gtO, outOf]
    rfl
  | cons x xs =>
    have l : decide ((0 : Int) < ((xs.map dp).length + 1 : Nat)) = true := by rw [decide_eq_true_eq]; omega
    have hx : D.noMs (xs.map dp) = true := noMs_map (fun _ => rfl) xs
    have hi : ixD (.lst (dp x :: xs.map dp)) (.int 0) = some (dp x) := rfl
    have hd : (dp x).noM = true := rfl
    simp only [e_cn, e_nm, e_gl, e_tup, e_lst, e_bin, e_neg, e_not, e_cmp, e_cmp2, e_and, e_or, e_ite, e_ix, e_sl, e_rev, e_call, e_bi, e_isi, es_nil, es_cons, eo_no, eo_so, ec_no, ec_so, ei_sq, ei_r1, ei_r2, et_not, et_cmp, et_cmp2, et_and, et_or, et_cn, et_nm, et_ix, et_call, et_bi, et_isi, ea_nil, ea_cons, er_nil, er_cons, eta_nil, eta_cons, etr_nil, etr_cons, s_nil, s_cons, s_asg, s_par, s_app, s_ext, s_setix, s_aug, s_iff, s_ret, s_retN, s_brk, s_cnt, s_pass, s_expr, s_raise, b_ok, b_ex, b_bad, seqK, nmR, rv_v, rg_v, rt_v, rm_v, rc_v, rr_v, rv_r, rg_r, rt_r, rm_r, rc_r, rr_r, v_non, n_non, f_non, v_bl, n_bl, f_bl, v_int, n_int, f_int, v_str, n_str, f_str, v_tup, n_tup, f_tup, v_lst, n_lst, f_lst, v_rol, n_rol, f_rol, v_mls, n_mls, f_mls, toV, liftB, lift, bin2, cmp2B, binD, cmpD, t_nm, t_tp, ts_nil, ts_cons, setNs_nil, setNs_cons, wipeE, backE, plainAt, views, gives, takes, walk, unlk, hdFree, forEnd, List.getElem?_cons_zero, List.getElem?_cons_succ, List.set_cons_zero, List.set_cons_succ, List.all_cons, List.all_nil, i_len_l, i_len_t, i_int_i, i_int_b, i_abs, i_tup_l, i_tup_t, i_lst_l, i_lst_t, i_all, i_any, noMs_bl, noMs_str, noMs_int, fzs_str, fzs_int, noMs_nil, fzs_nil, noMs_cons, fzs_cons, big0, big1, big2, big3, big4, innO_strs, innO_strsT, ninO_strs, ninO_strsT, eqO_str, eqO_int, addO_int, subO_int, List.length_cons, List.length_nil, Nat.reduceAdd, if_true, if_false, Bool.and_true, Bool.true_and, Bool.false_eq_true, den, List.append_nil, List.map_cons, List.map_nil, List.length_cons, List.length_nil, Nat.reduceAdd, Nat.reduceSub, List.replicate, List.cons_append, List.nil_append, Bool.false_and, gtO, outOf, hx, hd, l, hi]
def forcedN (ws : List Str) : Option (List Str) := match derN ws with
  | .nx b => some (if (barsP.filter (both b.fs)).isEmpty then wordsL.filter (fun w => decide (w ∈ b.fs)) else wordsL)
  | _ => none
theorem words_len : wordsL.length ≤ big := by decide +kernel
theorem f_all (ws fs : List Str) (h1 : 1 ≤ ws.length ∧ ws.length ≤ 2) (hw : ∀ w ∈ ws, w ∈ wordsL) (hf : forcedN ws = some fs) : f_all_forced [.tup (ws.map .str)] = .ok (.tup (fs.map .str)) .non := by
  unfold forcedN at hf
  split at hf
  · rename_i b eb
    have hd : f_derived [.tup (ws.map .str)] = .ok (.tup [.lst (b.fs.map .str), .lst (b.ss.map dr)]) .non := by rw [f_der, eb]; rfl
    have hg : t_all_forced.gd 0 = .tup (wordsL.map .str) := cW
    have c4 : ∀ s1 s2, callR t_all_forced 4 [.v (.tup (ws.map .str))] [.on (.tup (ws.map .str)), s1, s2] = .ok (.v .non) [.on (.tup (ws.map .str)), s1, s2] := fun s1 s2 => c_give rfl rfl rfl (by simp only [e_cn, e_nm, e_gl, e_tup, e_lst, e_bin, e_neg, e_not, e_cmp, e_cmp2, e_and, e_or, e_ite, e_ix, e_sl, e_rev, e_call, e_bi, e_isi, es_nil, es_cons, eo_no, eo_so, ec_no, ec_so, ei_sq, ei_r1, ei_r2, et_not, et_cmp, et_cmp2, et_and, et_or, et_cn, et_nm, et_ix, et_call, et_bi, et_isi, ea_nil, ea_cons, er_nil, er_cons, eta_nil, eta_cons, etr_nil, etr_cons, s_nil, s_cons, s_asg, s_par, s_app, s_ext, s_setix, s_aug, s_iff, s_ret, s_retN, s_brk, s_cnt, s_pass, s_expr, s_raise, b_ok, b_ex, b_bad, seqK, nmR, rv_v, rg_v, rt_v, rm_v, rc_v, rr_v, rv_r, rg_r, rt_r, rm_r, rc_r, rr_r, v_non, n_non, f_non, v_bl, n_bl, f_bl, v_int, n_int, f_int, v_str, n_str, f_str, v_tup, n_tup, f_tup, v_lst, n_lst, f_lst, v_rol, n_rol, f_rol, v_mls, n_mls, f_mls, toV, liftB, lift, bin2, cmp2B, binD, cmpD, t_nm, t_tp, ts_nil, ts_cons, setNs_nil, setNs_cons, wipeE, backE, plainAt, views, gives, takes, walk, unlk, hdFree, forEnd, List.getElem?_cons_zero, List.getElem?_cons_succ, List.set_cons_zero, List.set_cons_succ, List.all_cons, List.all_nil, i_len_l, i_len_t, i_int_i, i_int_b, i_abs, i_tup_l, i_tup_t, i_lst_l, i_lst_t, i_all, i_any, noMs_bl, noMs_str, noMs_int, fzs_str, fzs_int, noMs_nil, fzs_nil, noMs_cons, fzs_cons, big0, big1, big2, big3, big4, innO_strs, innO_strsT, ninO_strs, ninO_strsT, eqO_str, eqO_int, addO_int, subO_int, List.length_cons, List.length_nil, Nat.reduceAdd, if_true, if_false, Bool.and_true, Bool.true_and, Bool.false_eq_true]) (f_checks ws h1 hw)
    have c6 : ∀ s1 s2, callR t_all_forced 6 [.v (.tup (ws.map .str))] [.on (.tup (ws.map .str)), s1, s2] = .ok (.v (.tup [.lst (b.fs.map .str), .lst (b.ss.map dr)])) [.on (.tup (ws.map .str)), s1, s2] := fun s1 s2 => c_give rfl rfl rfl (by simp only [e_cn, e_nm, e_gl, e_tup, e_lst, e_bin, e_neg, e_not, e_cmp, e_cmp2, e_and, e_or, e_ite, e_ix, e_sl, e_rev, e_call, e_bi, e_isi, es_nil, es_cons, eo_no, eo_so, ec_no, ec_so, ei_sq, ei_r1, ei_r2, et_not, et_cmp, et_cmp2, et_and, et_or, et_cn, et_nm, et_ix, et_call, et_bi, et_isi, ea_nil, ea_cons, er_nil, er_cons, eta_nil, eta_cons, etr_nil, etr_cons, s_nil, s_cons, s_asg, s_par, s_app, s_ext, s_setix, s_aug, s_iff, s_ret, s_retN, s_brk, s_cnt, s_pass, s_expr, s_raise, b_ok, b_ex, b_bad, seqK, nmR, rv_v, rg_v, rt_v, rm_v, rc_v, rr_v, rv_r, rg_r, rt_r, rm_r, rc_r, rr_r, v_non, n_non, f_non, v_bl, n_bl, f_bl, v_int, n_int, f_int, v_str, n_str, f_str, v_tup, n_tup, f_tup, v_lst, n_lst, f_lst, v_rol, n_rol, f_rol, v_mls, n_mls, f_mls, toV, liftB, lift, bin2, cmp2B, binD, cmpD, t_nm, t_tp, ts_nil, ts_cons, setNs_nil, setNs_cons, wipeE, backE, plainAt, views, gives, takes, walk, unlk, hdFree, forEnd, List.getElem?_cons_zero, List.getElem?_cons_succ, List.set_cons_zero, List.set_cons_succ, List.all_cons, List.all_nil, i_len_l, i_len_t, i_int_i, i_int_b, i_abs, i_tup_l, i_tup_t, i_lst_l, i_lst_t, i_all, i_any, noMs_bl, noMs_str, noMs_int, fzs_str, fzs_int, noMs_nil, fzs_nil, noMs_cons, fzs_cons, big0, big1, big2, big3, big4, innO_strs, innO_strsT, ninO_strs, ninO_strsT, eqO_str, eqO_int, addO_int, subO_int, List.length_cons, List.length_nil, Nat.reduceAdd, if_true, if_false, Bool.and_true, Bool.true_and, Bool.false_eq_true]) hd
    have c7 : ∀ s1 s2, callR t_all_forced 7 [.v (.lst (b.fs.map .str))] [.on (.tup (ws.map .str)), s1, s2] = .ok (.v (barD b.fs)) [.on (.tup (ws.map .str)), s1, s2] := fun s1 s2 => c_give rfl rfl rfl (by simp only [e_cn, e_nm, e_gl, e_tup, e_lst, e_bin, e_neg, e_not, e_cmp, e_cmp2, e_and, e_or, e_ite, e_ix, e_sl, e_rev, e_call, e_bi, e_isi, es_nil, es_cons, eo_no, eo_so, ec_no, ec_so, ei_sq, ei_r1, ei_r2, et_not, et_cmp, et_cmp2, et_and, et_or, et_cn, et_nm, et_ix, et_call, et_bi, et_isi, ea_nil, ea_cons, er_nil, er_cons, eta_nil, eta_cons, etr_nil, etr_cons, s_nil, s_cons, s_asg, s_par, s_app, s_ext, s_setix, s_aug, s_iff, s_ret, s_retN, s_brk, s_cnt, s_pass, s_expr, s_raise, b_ok, b_ex, b_bad, seqK, nmR, rv_v, rg_v, rt_v, rm_v, rc_v, rr_v, rv_r, rg_r, rt_r, rm_r, rc_r, rr_r, v_non, n_non, f_non, v_bl, n_bl, f_bl, v_int, n_int, f_int, v_str, n_str, f_str, v_tup, n_tup, f_tup, v_lst, n_lst, f_lst, v_rol, n_rol, f_rol, v_mls, n_mls, f_mls, toV, liftB, lift, bin2, cmp2B, binD, cmpD, t_nm, t_tp, ts_nil, ts_cons, setNs_nil, setNs_cons, wipeE, backE, plainAt, views, gives, takes, walk, unlk, hdFree, forEnd, List.getElem?_cons_zero, List.getElem?_cons_succ, List.set_cons_zero, List.set_cons_succ, List.all_cons, List.all_nil, i_len_l, i_len_t, i_int_i, i_int_b, i_abs, i_tup_l, i_tup_t, i_lst_l, i_lst_t, i_all, i_any, noMs_bl, noMs_str, noMs_int, fzs_str, fzs_int, noMs_nil, fzs_nil, noMs_cons, fzs_cons, big0, big1, big2, big3, big4, innO_strs, innO_strsT, ninO_strs, ninO_strsT, eqO_str, eqO_int, addO_int, subO_int, List.length_cons, List.length_nil, Nat.reduceAdd, if_true, if_false, Bool.and_true, Bool.true_and, Bool.false_eq_true]) (f_bar b.fs)
    have hix : ixD (.tup [.lst (b.fs.map .str), .lst (b.ss.map dr)]) (.int 0) = some (.lst (b.fs.map .str)) := rfl
    have hl : evE t_all_forced C_all_forced_0 [.on (.tup (ws.map .str)), .on (.lst (b.fs.map .str)), .un] = .ok (.v (.mls ((wordsL.filter fun w => decide (w ∈ b.fs)).map .str))) [.on (.tup (ws.map .str)), .on (.lst (b.fs.map .str)), .un] := by
      unfold C_all_forced_0
      rw [e_lc]
      refine lc_nm D.str (fun w => decide (w ∈ b.fs)) D.str wordsL (env1 := [.on (.tup (ws.map .str)), .on (.lst (b.fs.map .str)), .un]) (s := .un) (hd := none) ?_ rfl rfl words_len rfl (fun x => ?_) fun x hx => ⟨.v (.str x), ?_, ?_⟩
      · simp only [e_cn, e_nm, e_gl, e_tup, e_lst, e_bin, e_neg, e_not, e_cmp, e_cmp2, e_and, e_or, e_ite, e_ix, e_sl, e_rev, e_call, e_bi, e_isi, es_nil, es_cons, eo_no, eo_so, ec_no, ec_so, ei_sq, ei_r1, ei_r2, et_not, et_cmp, et_cmp2, et_and, et_or, et_cn, et_nm, et_ix, et_call, et_bi, et_isi, ea_nil, ea_cons, er_nil, er_cons, eta_nil, eta_cons, etr_nil, etr_cons, s_nil, s_cons, s_asg, s_par, s_app, s_ext, s_setix, s_aug, s_iff, s_ret, s_retN, s_brk, s_cnt, s_pass, s_expr, s_raise, b_ok, b_ex, b_bad, seqK, nmR, rv_v, rg_v, rt_v, rm_v, rc_v, rr_v, rv_r, rg_r, rt_r, rm_r, rc_r, rr_r, v_non, n_non, f_non, v_bl, n_bl, f_bl, v_int, n_int, f_int, v_str, n_str, f_str, v_tup, n_tup, f_tup, v_lst, n_lst, f_lst, v_rol, n_rol, f_rol, v_mls, n_mls, f_mls, toV, liftB, lift, bin2, cmp2B, binD, cmpD, t_nm, t_tp, ts_nil, ts_cons, setNs_nil, setNs_cons, wipeE, backE, plainAt, views, gives, takes, walk, unlk, hdFree, forEnd, List.getElem?_cons_zero, List.getElem?_cons_succ, List.set_cons_zero, List.set_cons_succ, List.all_cons, List.all_nil, i_len_l, i_len_t, i_int_i, i_int_b, i_abs, i_tup_l, i_tup_t, i_lst_l, i_lst_t, i_all, i_any, noMs_bl, noMs_str, noMs_int, fzs_str, fzs_int, noMs_nil, fzs_nil, noMs_cons, fzs_cons, big0, big1, big2, big3, big4, innO_strs, innO_strsT, ninO_strs, ninO_strsT, eqO_str, eqO_int, addO_int, subO_int, List.length_cons, List.length_nil, Nat.reduceAdd, if_true, if_false, Bool.and_true, Bool.true_and, Bool.false_eq_true, hg]
      · simp only [e_cn, e_nm, e_gl, e_tup, e_lst, e_bin, e_neg, e_not, e_cmp, e_cmp2, e_and, e_or, e_ite, e_ix, e_sl, e_rev, e_call, e_bi, e_isi, es_nil, es_cons, eo_no, eo_so, ec_no, ec_so, ei_sq, ei_r1, ei_r2, et_not, et_cmp, et_cmp2, et_and, et_or, et_cn, et_nm, et_ix, et_call, et_bi, et_isi, ea_nil, ea_cons, er_nil, er_cons, eta_nil, eta_cons, etr_nil, etr_cons, s_nil, s_cons, s_asg, s_par, s_app, s_ext, s_setix, s_aug, s_iff, s_ret, s_retN, s_brk, s_cnt, s_pass, s_expr, s_raise, b_ok, b_ex, b_bad, seqK, nmR, rv_v, rg_v, rt_v, rm_v, rc_v, rr_v, rv_r, rg_r, rt_r, rm_r, rc_r, rr_r, v_non, n_non, f_non, v_bl, n_bl, f_bl, v_int, n_int, f_int, v_str, n_str, f_str, v_tup, n_tup, f_tup, v_lst, n_lst, f_lst, v_rol, n_rol, f_rol, v_mls, n_mls, f_mls, toV, liftB, lift, bin2, cmp2B, binD, cmpD, t_nm, t_tp, ts_nil, ts_cons, setNs_nil, setNs_cons, wipeE, backE, plainAt, views, gives, takes, walk, unlk, hdFree, forEnd, List.getElem?_cons_zero, List.getElem?_cons_succ, List.set_cons_zero, List.set_cons_succ, List.all_cons, List.all_nil, i_len_l, i_len_t, i_int_i, i_int_b, i_abs, i_tup_l, i_tup_t, i_lst_l, i_lst_t, i_all, i_any, noMs_bl, noMs_str, noMs_int, fzs_str, fzs_int, noMs_nil, fzs_nil, noMs_cons, fzs_cons, big0, big1, big2, big3, big4, innO_strs, innO_strsT, ninO_strs, ninO_strsT, eqO_str, eqO_int, addO_int, subO_int, List.length_cons, List.length_nil, Nat.reduceAdd, if_true, if_false, Bool.and_true, Bool.true_and, Bool.false_eq_true]
      · simp only [e_cn, e_nm, e_gl, e_tup, e_lst, e_bin, e_neg, e_not, e_cmp, e_cmp2, e_and, e_or, e_ite, e_ix, e_sl, e_rev, e_call, e_bi, e_isi, es_nil, es_cons, eo_no, eo_so, ec_no, ec_so, ei_sq, ei_r1, ei_r2, et_not, et_cmp, et_cmp2, et_and, et_or, et_cn, et_nm, et_ix, et_call, et_bi, et_isi, ea_nil, ea_cons, er_nil, er_cons, eta_nil, eta_cons, etr_nil, etr_cons, s_nil, s_cons, s_asg, s_par, s_app, s_ext, s_setix, s_aug, s_iff, s_ret, s_retN, s_brk, s_cnt, s_pass, s_expr, s_raise, b_ok, b_ex, b_bad, seqK, nmR, rv_v, rg_v, rt_v, rm_v, rc_v, rr_v, rv_r, rg_r, rt_r, rm_r, rc_r, rr_r, v_non, n_non, f_non, v_bl, n_bl, f_bl, v_int, n_int, f_int, v_str, n_str, f_str, v_tup, n_tup, f_tup, v_lst, n_lst, f_lst, v_rol, n_rol, f_rol, v_mls, n_mls, f_mls, toV, liftB, lift, bin2, cmp2B, binD, cmpD, t_nm, t_tp, ts_nil, ts_cons, setNs_nil, setNs_cons, wipeE, backE, plainAt, views, gives, takes, walk, unlk, hdFree, forEnd, List.getElem?_cons_zero, List.getElem?_cons_succ, List.set_cons_zero, List.set_cons_succ, List.all_cons, List.all_nil, i_len_l, i_len_t, i_int_i, i_int_b, i_abs, i_tup_l, i_tup_t, i_lst_l, i_lst_t, i_all, i_any, noMs_bl, noMs_str, noMs_int, fzs_str, fzs_int, noMs_nil, fzs_nil, noMs_cons, fzs_cons, big0, big1, big2, big3, big4, innO_strs, innO_strsT, ninO_strs, ninO_strsT, eqO_str, eqO_int, addO_int, subO_int, List.length_cons, List.length_nil, Nat.reduceAdd, if_true, if_false, Bool.and_true, Bool.true_and, Bool.false_eq_true]
      · simp only [e_cn, e_nm, e_gl, e_tup, e_lst, e_bin, e_neg, e_not, e_cmp, e_cmp2, e_and, e_or, e_ite, e_ix, e_sl, e_rev, e_call, e_bi, e_isi, es_nil, es_cons, eo_no, eo_so, ec_no, ec_so, ei_sq, ei_r1, ei_r2, et_not, et_cmp, et_cmp2, et_and, et_or, et_cn, et_nm, et_ix, et_call, et_bi, et_isi, ea_nil, ea_cons, er_nil, er_cons, eta_nil, eta_cons, etr_nil, etr_cons, s_nil, s_cons, s_asg, s_par, s_app, s_ext, s_setix, s_aug, s_iff, s_ret, s_retN, s_brk, s_cnt, s_pass, s_expr, s_raise, b_ok, b_ex, b_bad, seqK, nmR, rv_v, rg_v, rt_v, rm_v, rc_v, rr_v, rv_r, rg_r, rt_r, rm_r, rc_r, rr_r, v_non, n_non, f_non, v_bl, n_bl, f_bl, v_int, n_int, f_int, v_str, n_str, f_str, v_tup, n_tup, f_tup, v_lst, n_lst, f_lst, v_rol, n_rol, f_rol, v_mls, n_mls, f_mls, toV, liftB, lift, bin2, cmp2B, binD, cmpD, t_nm, t_tp, ts_nil, ts_cons, setNs_nil, setNs_cons, wipeE, backE, plainAt, views, gives, takes, walk, unlk, hdFree, forEnd, List.getElem?_cons_zero, List.getElem?_cons_succ, List.set_cons_zero, List.set_cons_succ, List.all_cons, List.all_nil, i_len_l, i_len_t, i_int_i, i_int_b, i_abs, i_tup_l, i_tup_t, i_lst_l, i_lst_t, i_all, i_any, noMs_bl, noMs_str, noMs_int, fzs_str, fzs_int, noMs_nil, fzs_nil, noMs_cons, fzs_cons, big0, big1, big2, big3, big4, innO_strs, innO_strsT, ninO_strs, ninO_strsT, eqO_str, eqO_int, addO_int, subO_int, List.length_cons, List.length_nil, Nat.reduceAdd, if_true, if_false, Bool.and_true, Bool.true_and, Bool.false_eq_true]
    unfold f_all_forced b_all_forced
    simp only [den, List.append_nil, List.map_cons, List.map_nil, List.length_cons, List.length_nil, Nat.reduceAdd, Nat.reduceSub, List.replicate, List.cons_append, List.nil_append, Bool.false_and, e_cn, e_nm, e_gl, e_tup, e_lst, e_bin, e_neg, e_not, e_cmp, e_cmp2, e_and, e_or, e_ite, e_ix, e_sl, e_rev, e_call, e_bi, e_isi, es_nil, es_cons, eo_no, eo_so, ec_no, ec_so, ei_sq, ei_r1, ei_r2, et_not, et_cmp, et_cmp2, et_and, et_or, et_cn, et_nm, et_ix, et_call, et_bi, et_isi, ea_nil, ea_cons, er_nil, er_cons, eta_nil, eta_cons, etr_nil, etr_cons, s_nil, s_cons, s_asg, s_par, s_app, s_ext, s_setix, s_aug, s_iff, s_ret, s_retN, s_brk, s_cnt, s_pass, s_expr, s_raise, b_ok, b_ex, b_bad, seqK, nmR, rv_v, rg_v, rt_v, rm_v, rc_v, rr_v, rv_r, rg_r, rt_r, rm_r, rc_r, rr_r, v_non, n_non, f_non, v_bl, n_bl, f_bl, v_int, n_int, f_int, v_str, n_str, f_str, v_tup, n_tup, f_tup, v_lst, n_lst, f_lst, v_rol, n_rol, f_rol, v_mls, n_mls, f_mls, toV, liftB, lift, bin2, cmp2B, binD, cmpD, t_nm, t_tp, ts_nil, ts_cons, setNs_nil, setNs_cons, wipeE, backE, plainAt, views, gives, takes, walk, unlk, hdFree, forEnd, List.getElem?_cons_zero, List.getElem?_cons_succ, List.set_cons_zero, List.set_cons_succ, List.all_cons, List.all_nil, i_len_l, i_len_t, i_int_i, i_int_b, i_abs, i_tup_l, i_tup_t, i_lst_l, i_lst_t, i_all, i_any, noMs_bl, noMs_str, noMs_int, fzs_str, fzs_int, noMs_nil, fzs_nil, noMs_cons, fzs_cons, big0, big1, big2, big3, big4, innO_strs, innO_strsT, ninO_strs, ninO_strsT, eqO_str, eqO_int, addO_int, subO_int, List.length_cons, List.length_nil, Nat.reduceAdd, if_true, if_false, Bool.and_true, Bool.true_and, Bool.false_eq_true, c4, c6, hix, c7]
    unfold barD
    cases hb : barsP.filter (both b.fs) with
    | nil =>
      rw [hb] at hf
      cases hf
      simp only [e_cn, e_nm, e_gl, e_tup, e_lst, e_bin, e_neg, e_not, e_cmp, e_cmp2, e_and, e_or, e_ite, e_ix, e_sl, e_rev, e_call, e_bi, e_isi, es_nil, es_cons, eo_no, eo_so, ec_no, ec_so, ei_sq, ei_r1, ei_r2, et_not, et_cmp, et_cmp2, et_and, et_or, et_cn, et_nm, et_ix, et_call, et_bi, et_isi, ea_nil, ea_cons, er_nil, er_cons, eta_nil, eta_cons, etr_nil, etr_cons, s_nil, s_cons, s_asg, s_par, s_app, s_ext, s_setix, s_aug, s_iff, s_ret, s_retN, s_brk, s_cnt, s_pass, s_expr, s_raise, b_ok, b_ex, b_bad, seqK, nmR, rv_v, rg_v, rt_v, rm_v, rc_v, rr_v, rv_r, rg_r, rt_r, rm_r, rc_r, rr_r, v_non, n_non, f_non, v_bl, n_bl, f_bl, v_int, n_int, f_int, v_str, n_str, f_str, v_tup, n_tup, f_tup, v_lst, n_lst, f_lst, v_rol, n_rol, f_rol, v_mls, n_mls, f_mls, toV, liftB, lift, bin2, cmp2B, binD, cmpD, t_nm, t_tp, ts_nil, ts_cons, setNs_nil, setNs_cons, wipeE, backE, plainAt, views, gives, takes, walk, unlk, hdFree, forEnd, List.getElem?_cons_zero, List.getElem?_cons_succ, List.set_cons_zero, List.set_cons_succ, List.all_cons, List.all_nil, i_len_l, i_len_t, i_int_i, i_int_b, i_abs, i_tup_l, i_tup_t, i_lst_l, i_lst_t, i_all, i_any, noMs_bl, noMs_str, noMs_int, fzs_str, fzs_int, noMs_nil, fzs_nil, noMs_cons, fzs_cons, big0, big1, big2, big3, big4, innO_strs, innO_strsT, ninO_strs, ninO_strsT, eqO_str, eqO_int, addO_int, subO_int, List.length_cons, List.length_nil, Nat.reduceAdd, if_true, if_false, Bool.and_true, Bool.true_and, Bool.false_eq_true, isnO, isNon, Bool.not_true, hl, outOf, List.isEmpty_nil]
    | cons x xs =>
      rw [hb] at hf
      cases hf
      simp only [e_cn, e_nm, e_gl, e_tup, e_lst, e_bin, e_neg, e_not, e_cmp, e_cmp2, e_and, e_or, e_ite, e_ix, e_sl, e_rev, e_call, e_bi, e_isi, es_nil, es_cons, eo_no, eo_so, ec_no, ec_so, ei_sq, ei_r1, ei_r2, et_not, et_cmp, et_cmp2, et_and, et_or, et_cn, et_nm, et_ix, et_call, et_bi, et_isi, ea_nil, ea_cons, er_nil, er_cons, eta_nil, eta_cons, etr_nil, etr_cons, s_nil, s_cons, s_asg, s_par, s_app, s_ext, s_setix, s_aug, s_iff, s_ret, s_retN, s_brk, s_cnt, s_pass, s_expr, s_raise, b_ok, b_ex, b_bad, seqK, nmR, rv_v, rg_v, rt_v, rm_v, rc_v, rr_v, rv_r, rg_r, rt_r, rm_r, rc_r, rr_r, v_non, n_non, f_non, v_bl, n_bl, f_bl, v_int, n_int, f_int, v_str, n_str, f_str, v_tup, n_tup, f_tup, v_lst, n_lst, f_lst, v_rol, n_rol, f_rol, v_mls, n_mls, f_mls, toV, liftB, lift, bin2, cmp2B, binD, cmpD, t_nm, t_tp, ts_nil, ts_cons, setNs_nil, setNs_cons, wipeE, backE, plainAt, views, gives, takes, walk, unlk, hdFree, forEnd, List.getElem?_cons_zero, List.getElem?_cons_succ, List.set_cons_zero, List.set_cons_succ, List.all_cons, List.all_nil, i_len_l, i_len_t, i_int_i, i_int_b, i_abs, i_tup_l, i_tup_t, i_lst_l, i_lst_t, i_all, i_any, noMs_bl, noMs_str, noMs_int, fzs_str, fzs_int, noMs_nil, fzs_nil, noMs_cons, fzs_cons, big0, big1, big2, big3, big4, innO_strs, innO_strsT, ninO_strs, ninO_strsT, eqO_str, eqO_int, addO_int, subO_int, List.length_cons, List.length_nil, Nat.reduceAdd, if_true, if_false, Bool.and_true, Bool.true_and, Bool.false_eq_true, isnO, isNon, dp, Bool.not_false, hg, outOf, List.isEmpty_cons]
  · cases hf
theorem f_does (ws fs : List Str) (w : Str) (h1 : 1 ≤ ws.length ∧ ws.length ≤ 2) (hw : ∀ w ∈ ws, w ∈ wordsL) (hf : forcedN ws = some fs) (h2 : w ∈ wordsL) : f_does_force [.tup (ws.map .str), .str w] = .ok (.bl (decide (w ∈ fs))) .non := by
  have c0 : callR t_does_force 0 [.v (.str w)] [.on (.tup (ws.map .str)), .on (.str w)] = .ok (.v .non) [.on (.tup (ws.map .str)), .on (.str w)] := c_give rfl rfl rfl rfl (f_check w h2)
  have c8 : callR t_does_force 8 [.v (.tup (ws.map .str))] [.on (.tup (ws.map .str)), .on (.str w)] = .ok (.v (.tup (fs.map .str))) [.on (.tup (ws.map .str)), .on (.str w)] := c_give rfl rfl rfl (by simp only [e_cn, e_nm, e_gl, e_tup, e_lst, e_bin, e_neg, e_not, e_cmp, e_cmp2, e_and, e_or, e_ite, e_ix, e_sl, e_rev, e_call, e_bi, e_isi, es_nil, es_cons, eo_no, eo_so, ec_no, ec_so, ei_sq, ei_r1, ei_r2, et_not, et_cmp, et_cmp2, et_and, et_or, et_cn, et_nm, et_ix, et_call, et_bi, et_isi, ea_nil, ea_cons, er_nil, er_cons, eta_nil, eta_cons, etr_nil, etr_cons, s_nil, s_cons, s_asg, s_par, s_app, s_ext, s_setix, s_aug, s_iff, s_ret, s_retN, s_brk, s_cnt, s_pass, s_expr, s_raise, b_ok, b_ex, b_bad, seqK, nmR, rv_v, rg_v, rt_v, rm_v, rc_v, rr_v, rv_r, rg_r, rt_r, rm_r, rc_r, rr_r, v_non, n_non, f_non, v_bl, n_bl, f_bl, v_int, n_int, f_int, v_str, n_str, f_str, v_tup, n_tup, f_tup, v_lst, n_lst, f_lst, v_rol, n_rol, f_rol, v_mls, n_mls, f_mls, toV, liftB, lift, bin2, cmp2B, binD, cmpD, t_nm, t_tp, ts_nil, ts_cons, setNs_nil, setNs_cons, wipeE, backE, plainAt, views, gives, takes, walk, unlk, hdFree, forEnd, List.getElem?_cons_zero, List.getElem?_cons_succ, List.set_cons_zero, List.set_cons_succ, List.all_cons, List.all_nil, i_len_l, i_len_t, i_int_i, i_int_b, i_abs, i_tup_l, i_tup_t, i_lst_l, i_lst_t, i_all, i_any, noMs_bl, noMs_str, noMs_int, fzs_str, fzs_int, noMs_nil, fzs_nil, noMs_cons, fzs_cons, big0, big1, big2, big3, big4, innO_strs, innO_strsT, ninO_strs, ninO_strsT, eqO_str, eqO_int, addO_int, subO_int, List.length_cons, List.length_nil, Nat.reduceAdd, if_true, if_false, Bool.and_true, Bool.true_and, Bool.false_eq_true]) (f_all ws fs h1 hw hf)
  unfold f_does_force b_does_force
  simp only [den, List.append_nil, List.map_cons, List.map_nil, List.length_cons, List.length_nil, Nat.reduceAdd, Nat.reduceSub, List.replicate, List.cons_append, List.nil_append, Bool.false_and, e_cn, e_nm, e_gl, e_tup, e_lst, e_bin, e_neg, e_not, e_cmp, e_cmp2, e_and, e_or, e_ite, e_ix, e_sl, e_rev, e_call, e_bi, e_isi, es_nil, es_cons, eo_no, eo_so, ec_no, ec_so, ei_sq, ei_r1, ei_r2, et_not, et_cmp, et_cmp2, et_and, et_or, et_cn, et_nm, et_ix, et_call, et_bi, et_isi, ea_nil, ea_cons, er_nil, er_cons, eta_nil, eta_cons, etr_nil, etr_cons, s_nil, s_cons, s_asg, s_par, s_app, s_ext, s_setix, s_aug, s_iff, s_ret, s_retN, s_brk, s_cnt, s_pass, s_expr, s_raise, b_ok, b_ex, b_bad, seqK, nmR, rv_v, rg_v, rt_v, rm_v, rc_v, rr_v, rv_r, rg_r, rt_r, rm_r, rc_r, rr_r, v_non, n_non, f_non, v_bl, n_bl, f_bl, v_int, n_int, f_int, v_str, n_str, f_str, v_tup, n_tup, f_tup, v_lst, n_lst, f_lst, v_rol, n_rol, f_rol, v_mls, n_mls, f_mls, toV, liftB, lift, bin2, cmp2B, binD, cmpD, t_nm, t_tp, ts_nil, ts_cons, setNs_nil, setNs_cons, wipeE, backE, plainAt, views, gives, takes, walk, unlk, hdFree, forEnd, List.getElem?_cons_zero, List.getElem?_cons_succ, List.set_cons_zero, List.set_cons_succ, List.all_cons, List.all_nil, i_len_l, i_len_t, i_int_i, i_int_b, i_abs, i_tup_l, i_tup_t, i_lst_l, i_lst_t, i_all, i_any, noMs_bl, noMs_str, noMs_int, fzs_str, fzs_int, noMs_nil, fzs_nil, noMs_cons, fzs_cons, big0, big1, big2, big3, big4, innO_strs, innO_strsT, ninO_strs, ninO_strsT, eqO_str, eqO_int, addO_int, subO_int, List.length_cons, List.length_nil, Nat.reduceAdd, if_true, if_false, Bool.and_true, Bool.true_and, Bool.false_eq_true, c0, c8, outOf]
end K05
namespace K05
open Ev PySem
theorem e_arrows : f__law_arrows [] = .ok (.mls (arrowsL.map dr)) .non := by kernel_rfl
theorem e_joint : f__law_joint [] = .ok (.mls (jointL.map dr)) .non := by kernel_rfl
theorem e_bars : f__law_bars [] = .ok (.mls (barsP.map dp)) .non := by kernel_rfl
theorem e_words : f__law_words [] = .ok (.mls (wordsL.map .str)) .non := by kernel_rfl
/-! ### led -/
structure LS where
  fs : List Str
  a2 : Option D
  a3 : Option D
def envL (ws : List Str) (s : LS) : En := [.on (.tup (ws.map .str)), .on (.mls (s.fs.map .str)), so s.a2, so s.a3, .un]
def ledM (r : Rl) (s : LS) : Out LS := match r.getLast? with
  | some l => if !decide (l ∈ s.fs) && r.dropLast.all (fun x => decide (x ∈ s.fs)) then (if Nat.blt s.fs.length big then .nx ⟨s.fs ++ [l], s.a2, some (dr r)⟩ else .bad) else .nx { s with a3 := some (dr r) }
  | none => .bad
theorem led_all (w s2 : Slot) (fs : List Str) (r : Rl) (hr : r.length ≤ big) : evE t__law_led C__law_led_2 [w, .on (.mls (fs.map .str)), s2, .on (.tup (r.map .str)), .un] = .ok (.v (.mls (r.dropLast.map fun x => .bl (decide (x ∈ fs))))) [w, .on (.mls (fs.map .str)), s2, .on (.tup (r.map .str)), .un] := by
  unfold C__law_led_2
  rw [e_lc]
  refine lc_nm_map D.str (fun x => D.bl (decide (x ∈ fs))) r.dropLast (env1 := [w, .on (.mls (fs.map .str)), s2, .on (.tup (r.map .str)), .un]) (s := .un) (hd := none) ?_ rfl rfl (by simp; omega) rfl (fun _ => rfl) fun x => ⟨.v (.bl (decide (x ∈ fs))), ?_, rfl⟩
  · simp only [e_cn, e_nm, e_gl, e_tup, e_lst, e_bin, e_neg, e_not, e_cmp, e_cmp2, e_and, e_or, e_ite, e_ix, e_sl, e_rev, e_call, e_bi, e_isi, es_nil, es_cons, eo_no, eo_so, ec_no, ec_so, ei_sq, ei_r1, ei_r2, et_not, et_cmp, et_cmp2, et_and, et_or, et_cn, et_nm, et_ix, et_call, et_bi, et_isi, ea_nil, ea_cons, er_nil, er_cons, eta_nil, eta_cons, etr_nil, etr_cons, s_nil, s_cons, s_asg, s_par, s_app, s_ext, s_setix, s_aug, s_iff, s_ret, s_retN, s_brk, s_cnt, s_pass, s_expr, s_raise, b_ok, b_ex, b_bad, seqK, nmR, rv_v, rg_v, rt_v, rm_v, rc_v, rr_v, rv_r, rg_r, rt_r, rm_r, rc_r, rr_r, v_non, n_non, f_non, v_bl, n_bl, f_bl, v_int, n_int, f_int, v_str, n_str, f_str, v_tup, n_tup, f_tup, v_lst, n_lst, f_lst, v_rol, n_rol, f_rol, v_mls, n_mls, f_mls, toV, liftB, lift, bin2, cmp2B, binD, cmpD, t_nm, t_tp, ts_nil, ts_cons, setNs_nil, setNs_cons, wipeE, backE, plainAt, views, gives, takes, walk, unlk, hdFree, forEnd, List.getElem?_cons_zero, List.getElem?_cons_succ, List.set_cons_zero, List.set_cons_succ, List.all_cons, List.all_nil, i_len_l, i_len_t, i_int_i, i_int_b, i_abs, i_tup_l, i_tup_t, i_lst_l, i_lst_t, i_all, i_any, noMs_bl, noMs_str, noMs_int, fzs_str, fzs_int, noMs_nil, fzs_nil, noMs_cons, fzs_cons, big0, big1, big2, big3, big4, innO_strs, innO_strsT, ninO_strs, ninO_strsT, eqO_str, eqO_int, addO_int, subO_int, List.length_cons, List.length_nil, Nat.reduceAdd, if_true, if_false, Bool.and_true, Bool.true_and, Bool.false_eq_true, slD, slL_init, List.map_dropLast]
  · simp only [e_cn, e_nm, e_gl, e_tup, e_lst, e_bin, e_neg, e_not, e_cmp, e_cmp2, e_and, e_or, e_ite, e_ix, e_sl, e_rev, e_call, e_bi, e_isi, es_nil, es_cons, eo_no, eo_so, ec_no, ec_so, ei_sq, ei_r1, ei_r2, et_not, et_cmp, et_cmp2, et_and, et_or, et_cn, et_nm, et_ix, et_call, et_bi, et_isi, ea_nil, ea_cons, er_nil, er_cons, eta_nil, eta_cons, etr_nil, etr_cons, s_nil, s_cons, s_asg, s_par, s_app, s_ext, s_setix, s_aug, s_iff, s_ret, s_retN, s_brk, s_cnt, s_pass, s_expr, s_raise, b_ok, b_ex, b_bad, seqK, nmR, rv_v, rg_v, rt_v, rm_v, rc_v, rr_v, rv_r, rg_r, rt_r, rm_r, rc_r, rr_r, v_non, n_non, f_non, v_bl, n_bl, f_bl, v_int, n_int, f_int, v_str, n_str, f_str, v_tup, n_tup, f_tup, v_lst, n_lst, f_lst, v_rol, n_rol, f_rol, v_mls, n_mls, f_mls, toV, liftB, lift, bin2, cmp2B, binD, cmpD, t_nm, t_tp, ts_nil, ts_cons, setNs_nil, setNs_cons, wipeE, backE, plainAt, views, gives, takes, walk, unlk, hdFree, forEnd, List.getElem?_cons_zero, List.getElem?_cons_succ, List.set_cons_zero, List.set_cons_succ, List.all_cons, List.all_nil, i_len_l, i_len_t, i_int_i, i_int_b, i_abs, i_tup_l, i_tup_t, i_lst_l, i_lst_t, i_all, i_any, noMs_bl, noMs_str, noMs_int, fzs_str, fzs_int, noMs_nil, fzs_nil, noMs_cons, fzs_cons, big0, big1, big2, big3, big4, innO_strs, innO_strsT, ninO_strs, ninO_strsT, eqO_str, eqO_int, addO_int, subO_int, List.length_cons, List.length_nil, Nat.reduceAdd, if_true, if_false, Bool.and_true, Bool.true_and, Bool.false_eq_true]
theorem led_step (ws : List Str) (r : Rl) (hr : 0 < r.length ∧ r.length ≤ big) (s : LS) : forStep (tgA (.nm 3)) (evSs t__law_led xm L__law_led_1) (dr r) (envL ws s) = (ledM r s).res (envL ws) := by
  obtain ⟨l, hl⟩ : ∃ l, r.getLast? = some l := by
    cases h : r.getLast? with
    | some l => exact ⟨l, rfl⟩
    | none => rw [List.getLast?_eq_none_iff] at h; rw [h] at hr; exact absurd hr.1 (by decide)
  have hg : ixD (.tup (r.map D.str)) (.int (-1)) = some (.str l) := by
    show getI (r.map D.str) (-1) = _
    rw [getI_last, hl]; rfl
  unfold forStep L__law_led_1 envL
  rw [t_so (b := s.a3) rfl]
  simp only [dr, e_cn, e_nm, e_gl, e_tup, e_lst, e_bin, e_neg, e_not, e_cmp, e_cmp2, e_and, e_or, e_ite, e_ix, e_sl, e_rev, e_call, e_bi, e_isi, es_nil, es_cons, eo_no, eo_so, ec_no, ec_so, ei_sq, ei_r1, ei_r2, et_not, et_cmp, et_cmp2, et_and, et_or, et_cn, et_nm, et_ix, et_call, et_bi, et_isi, ea_nil, ea_cons, er_nil, er_cons, eta_nil, eta_cons, etr_nil, etr_cons, s_nil, s_cons, s_asg, s_par, s_app, s_ext, s_setix, s_aug, s_iff, s_ret, s_retN, s_brk, s_cnt, s_pass, s_expr, s_raise, b_ok, b_ex, b_bad, seqK, nmR, rv_v, rg_v, rt_v, rm_v, rc_v, rr_v, rv_r, rg_r, rt_r, rm_r, rc_r, rr_r, v_non, n_non, f_non, v_bl, n_bl, f_bl, v_int, n_int, f_int, v_str, n_str, f_str, v_tup, n_tup, f_tup, v_lst, n_lst, f_lst, v_rol, n_rol, f_rol, v_mls, n_mls, f_mls, toV, liftB, lift, bin2, cmp2B, binD, cmpD, t_nm, t_tp, ts_nil, ts_cons, setNs_nil, setNs_cons, wipeE, backE, plainAt, views, gives, takes, walk, unlk, hdFree, forEnd, List.getElem?_cons_zero, List.getElem?_cons_succ, List.set_cons_zero, List.set_cons_succ, List.all_cons, List.all_nil, i_len_l, i_len_t, i_int_i, i_int_b, i_abs, i_tup_l, i_tup_t, i_lst_l, i_lst_t, i_all, i_any, noMs_bl, noMs_str, noMs_int, fzs_str, fzs_int, noMs_nil, fzs_nil, noMs_cons, fzs_cons, big0, big1, big2, big3, big4, innO_strs, innO_strsT, ninO_strs, ninO_strsT, eqO_str, eqO_int, addO_int, subO_int, List.length_cons, List.length_nil, Nat.reduceAdd, if_true, if_false, Bool.and_true, Bool.true_and, Bool.false_eq_true, hg, led_all _ _ s.fs r hr.2, truD]
  unfold ledM
  rw [hl]
  cases h1 : decide (l ∈ s.fs) with
  | true => simp only [e_cn, e_nm, e_gl, e_tup, e_lst, e_bin, e_neg, e_not, e_cmp, e_cmp2, e_and, e_or, e_ite, e_ix, e_sl, e_rev, e_call, e_bi, e_isi, es_nil, es_cons, eo_no, eo_so, ec_no, ec_so, ei_sq, ei_r1, ei_r2, et_not, et_cmp, et_cmp2, et_and, et_or, et_cn, et_nm, et_ix, et_call, et_bi, et_isi, ea_nil, ea_cons, er_nil, er_cons, eta_nil, eta_cons, etr_nil, etr_cons, s_nil, s_cons, s_asg, s_par, s_app, s_ext, s_setix, s_aug, s_iff, s_ret, s_retN, s_brk, s_cnt, s_pass, s_expr, s_raise, b_ok, b_ex, b_bad, seqK, nmR, rv_v, rg_v, rt_v, rm_v, rc_v, rr_v, rv_r, rg_r, rt_r, rm_r, rc_r, rr_r, v_non, n_non, f_non, v_bl, n_bl, f_bl, v_int, n_int, f_int, v_str, n_str, f_str, v_tup, n_tup, f_tup, v_lst, n_lst, f_lst, v_rol, n_rol, f_rol, v_mls, n_mls, f_mls, toV, liftB, lift, bin2, cmp2B, binD, cmpD, t_nm, t_tp, ts_nil, ts_cons, setNs_nil, setNs_cons, wipeE, backE, plainAt, views, gives, takes, walk, unlk, hdFree, forEnd, List.getElem?_cons_zero, List.getElem?_cons_succ, List.set_cons_zero, List.set_cons_succ, List.all_cons, List.all_nil, i_len_l, i_len_t, i_int_i, i_int_b, i_abs, i_tup_l, i_tup_t, i_lst_l, i_lst_t, i_all, i_any, noMs_bl, noMs_str, noMs_int, fzs_str, fzs_int, noMs_nil, fzs_nil, noMs_cons, fzs_cons, big0, big1, big2, big3, big4, innO_strs, innO_strsT, ninO_strs, ninO_strsT, eqO_str, eqO_int, addO_int, subO_int, List.length_cons, List.length_nil, Nat.reduceAdd, if_true, if_false, Bool.and_true, Bool.true_and, Bool.false_eq_true, h1, Bool.not_true, Bool.false_and, Out.res, so_some, so_none]; rfl
  | false =>
    cases h2 : r.dropLast.all fun x => decide (x ∈ s.fs) with
    | false => simp only [e_cn, e_nm, e_gl, e_tup, e_lst, e_bin, e_neg, e_not, e_cmp, e_cmp2, e_and, e_or, e_ite, e_ix, e_sl, e_rev, e_call, e_bi, e_isi, es_nil, es_cons, eo_no, eo_so, ec_no, ec_so, ei_sq, ei_r1, ei_r2, et_not, et_cmp, et_cmp2, et_and, et_or, et_cn, et_nm, et_ix, et_call, et_bi, et_isi, ea_nil, ea_cons, er_nil, er_cons, eta_nil, eta_cons, etr_nil, etr_cons, s_nil, s_cons, s_asg, s_par, s_app, s_ext, s_setix, s_aug, s_iff, s_ret, s_retN, s_brk, s_cnt, s_pass, s_expr, s_raise, b_ok, b_ex, b_bad, seqK, nmR, rv_v, rg_v, rt_v, rm_v, rc_v, rr_v, rv_r, rg_r, rt_r, rm_r, rc_r, rr_r, v_non, n_non, f_non, v_bl, n_bl, f_bl, v_int, n_int, f_int, v_str, n_str, f_str, v_tup, n_tup, f_tup, v_lst, n_lst, f_lst, v_rol, n_rol, f_rol, v_mls, n_mls, f_mls, toV, liftB, lift, bin2, cmp2B, binD, cmpD, t_nm, t_tp, ts_nil, ts_cons, setNs_nil, setNs_cons, wipeE, backE, plainAt, views, gives, takes, walk, unlk, hdFree, forEnd, List.getElem?_cons_zero, List.getElem?_cons_succ, List.set_cons_zero, List.set_cons_succ, List.all_cons, List.all_nil, i_len_l, i_len_t, i_int_i, i_int_b, i_abs, i_tup_l, i_tup_t, i_lst_l, i_lst_t, i_all, i_any, noMs_bl, noMs_str, noMs_int, fzs_str, fzs_int, noMs_nil, fzs_nil, noMs_cons, fzs_cons, big0, big1, big2, big3, big4, innO_strs, innO_strsT, ninO_strs, ninO_strsT, eqO_str, eqO_int, addO_int, subO_int, List.length_cons, List.length_nil, Nat.reduceAdd, if_true, if_false, Bool.and_true, Bool.true_and, Bool.false_eq_true, h1, Bool.not_false, h2, Out.res, so_some, so_none]; rfl
    | true =>
      cases h3 : Nat.blt s.fs.length big <;> simp only [e_cn, e_nm, e_gl, e_tup, e_lst, e_bin, e_neg, e_not, e_cmp, e_cmp2, e_and, e_or, e_ite, e_ix, e_sl, e_rev, e_call, e_bi, e_isi, es_nil, es_cons, eo_no, eo_so, ec_no, ec_so, ei_sq, ei_r1, ei_r2, et_not, et_cmp, et_cmp2, et_and, et_or, et_cn, et_nm, et_ix, et_call, et_bi, et_isi, ea_nil, ea_cons, er_nil, er_cons, eta_nil, eta_cons, etr_nil, etr_cons, s_nil, s_cons, s_asg, s_par, s_app, s_ext, s_setix, s_aug, s_iff, s_ret, s_retN, s_brk, s_cnt, s_pass, s_expr, s_raise, b_ok, b_ex, b_bad, seqK, nmR, rv_v, rg_v, rt_v, rm_v, rc_v, rr_v, rv_r, rg_r, rt_r, rm_r, rc_r, rr_r, v_non, n_non, f_non, v_bl, n_bl, f_bl, v_int, n_int, f_int, v_str, n_str, f_str, v_tup, n_tup, f_tup, v_lst, n_lst, f_lst, v_rol, n_rol, f_rol, v_mls, n_mls, f_mls, toV, liftB, lift, bin2, cmp2B, binD, cmpD, t_nm, t_tp, ts_nil, ts_cons, setNs_nil, setNs_cons, wipeE, backE, plainAt, views, gives, takes, walk, unlk, hdFree, forEnd, List.getElem?_cons_zero, List.getElem?_cons_succ, List.set_cons_zero, List.set_cons_succ, List.all_cons, List.all_nil, i_len_l, i_len_t, i_int_i, i_int_b, i_abs, i_tup_l, i_tup_t, i_lst_l, i_lst_t, i_all, i_any, noMs_bl, noMs_str, noMs_int, fzs_str, fzs_int, noMs_nil, fzs_nil, noMs_cons, fzs_cons, big0, big1, big2, big3, big4, innO_strs, innO_strsT, ninO_strs, ninO_strsT, eqO_str, eqO_int, addO_int, subO_int, List.length_cons, List.length_nil, Nat.reduceAdd, if_true, if_false, Bool.and_true, Bool.true_and, Bool.false_eq_true, h1, Bool.not_false, h2, h3, Out.res, so_some, so_none, isM, appD, hg, List.length_map, List.map_append, List.map_cons, List.map_nil]
      rfl
theorem led_nx : ∀ (rs : List Rl) (s : LS), (∃ b, forN ledM rs s = .nx b) ∨ forN ledM rs s = .bad
  | [], s => .inl ⟨s, rfl⟩
  | r :: rs, s => by
    unfold forN
    have : (∃ b, ledM r s = .nx b) ∨ ledM r s = .bad := by
      unfold ledM
      split
      · split
        · split
          · exact .inl ⟨_, rfl⟩
          · exact .inr rfl
        · exact .inl ⟨_, rfl⟩
      · exact .inr rfl
    rcases this with ⟨b, e⟩ | e <;> rw [e]
    · exact led_nx rs b
    · exact .inr rfl
def ledT (i : Nat) (s : LS) : Out LS := forN ledM rulesL { s with a2 := some (.int (i : Nat)) }
theorem led_turn (ws : List Str) (i : Nat) (s : LS) : forStep (tgA (.nm 2)) (evSs t__law_led xm L__law_led_0) (.int (i : Nat)) (envL ws s) = (ledT i s).res (envL ws) := by
  have h := forGo_mirror (step := forStep (tgA (.nm 3)) (evSs t__law_led xm L__law_led_1)) (envL ws) dr ledM rulesL { s with a2 := some (.int (i : Nat)) } (fun r hr b => led_step ws r (rules_len r hr) b)
  have c14 : ∀ env, callR t__law_led 14 [] env = .ok (.v (.mls (arrowsL.map dr))) env := fun env => c_give rfl rfl rfl rfl e_arrows
  have c15 : ∀ env, callR t__law_led 15 [] env = .ok (.v (.mls (jointL.map dr))) env := fun env => c_give rfl rfl rfl rfl e_joint
  have n1 : D.noMs (arrowsL.map dr) = true := noMs_map noM_dr _
  have n2 : D.noMs (jointL.map dr) = true := noMs_map noM_dr _
  have n3 : D.noMs (rulesL.map dr) = true := noMs_map noM_dr _
  have ha : addD (.lst (arrowsL.map dr)) (.lst (jointL.map dr)) = some (.mls (rulesL.map dr)) := by
    show (if Nat.ble ((arrowsL.map dr).length + (jointL.map dr).length) big then some (D.mls (arrowsL.map dr ++ jointL.map dr)) else none) = _
    rw [if_pos (by decide +kernel), ← List.map_append]; rfl
  simp only [envL, so_some, so_none] at h
  unfold forStep L__law_led_0 envL
  rw [t_so (b := s.a2) rfl]
  simp only [e_cn, e_nm, e_gl, e_tup, e_lst, e_bin, e_neg, e_not, e_cmp, e_cmp2, e_and, e_or, e_ite, e_ix, e_sl, e_rev, e_call, e_bi, e_isi, es_nil, es_cons, eo_no, eo_so, ec_no, ec_so, ei_sq, ei_r1, ei_r2, et_not, et_cmp, et_cmp2, et_and, et_or, et_cn, et_nm, et_ix, et_call, et_bi, et_isi, ea_nil, ea_cons, er_nil, er_cons, eta_nil, eta_cons, etr_nil, etr_cons, s_nil, s_cons, s_asg, s_par, s_app, s_ext, s_setix, s_aug, s_iff, s_ret, s_retN, s_brk, s_cnt, s_pass, s_expr, s_raise, b_ok, b_ex, b_bad, seqK, nmR, rv_v, rg_v, rt_v, rm_v, rc_v, rr_v, rv_r, rg_r, rt_r, rm_r, rc_r, rr_r, v_non, n_non, f_non, v_bl, n_bl, f_bl, v_int, n_int, f_int, v_str, n_str, f_str, v_tup, n_tup, f_tup, v_lst, n_lst, f_lst, v_rol, n_rol, f_rol, v_mls, n_mls, f_mls, toV, liftB, lift, bin2, cmp2B, binD, cmpD, t_nm, t_tp, ts_nil, ts_cons, setNs_nil, setNs_cons, wipeE, backE, plainAt, views, gives, takes, walk, unlk, hdFree, forEnd, List.getElem?_cons_zero, List.getElem?_cons_succ, List.set_cons_zero, List.set_cons_succ, List.all_cons, List.all_nil, i_len_l, i_len_t, i_int_i, i_int_b, i_abs, i_tup_l, i_tup_t, i_lst_l, i_lst_t, i_all, i_any, noMs_bl, noMs_str, noMs_int, fzs_str, fzs_int, noMs_nil, fzs_nil, noMs_cons, fzs_cons, big0, big1, big2, big3, big4, innO_strs, innO_strsT, ninO_strs, ninO_strsT, eqO_str, eqO_int, addO_int, subO_int, List.length_cons, List.length_nil, Nat.reduceAdd, if_true, if_false, Bool.and_true, Bool.true_and, Bool.false_eq_true, s_forr, c14, c15, n1, n2, ha, n3, h]
  unfold ledT
  rcases led_nx rulesL { s with a2 := some (.int (i : Nat)) } with ⟨b, e⟩ | e <;> rw [e] <;> simp only [Out.res, e_cn, e_nm, e_gl, e_tup, e_lst, e_bin, e_neg, e_not, e_cmp, e_cmp2, e_and, e_or, e_ite, e_ix, e_sl, e_rev, e_call, e_bi, e_isi, es_nil, es_cons, eo_no, eo_so, ec_no, ec_so, ei_sq, ei_r1, ei_r2, et_not, et_cmp, et_cmp2, et_and, et_or, et_cn, et_nm, et_ix, et_call, et_bi, et_isi, ea_nil, ea_cons, er_nil, er_cons, eta_nil, eta_cons, etr_nil, etr_cons, s_nil, s_cons, s_asg, s_par, s_app, s_ext, s_setix, s_aug, s_iff, s_ret, s_retN, s_brk, s_cnt, s_pass, s_expr, s_raise, b_ok, b_ex, b_bad, seqK, nmR, rv_v, rg_v, rt_v, rm_v, rc_v, rr_v, rv_r, rg_r, rt_r, rm_r, rc_r, rr_r, v_non, n_non, f_non, v_bl, n_bl, f_bl, v_int, n_int, f_int, v_str, n_str, f_str, v_tup, n_tup, f_tup, v_lst, n_lst, f_lst, v_rol, n_rol, f_rol, v_mls, n_mls, f_mls, toV, liftB, lift, bin2, cmp2B, binD, cmpD, t_nm, t_tp, ts_nil, ts_cons, setNs_nil, setNs_cons, wipeE, backE, plainAt, views, gives, takes, walk, unlk, hdFree, forEnd, List.getElem?_cons_zero, List.getElem?_cons_succ, List.set_cons_zero, List.set_cons_succ, List.all_cons, List.all_nil, i_len_l, i_len_t, i_int_i, i_int_b, i_abs, i_tup_l, i_tup_t, i_lst_l, i_lst_t, i_all, i_any, noMs_bl, noMs_str, noMs_int, fzs_str, fzs_int, noMs_nil, fzs_nil, noMs_cons, fzs_cons, big0, big1, big2, big3, big4, innO_strs, innO_strsT, ninO_strs, ninO_strsT, eqO_str, eqO_int, addO_int, subO_int, List.length_cons, List.length_nil, Nat.reduceAdd, if_true, if_false, Bool.and_true, Bool.true_and, Bool.false_eq_true, so_some, so_none] <;> rfl
def ledN (ws : List Str) : Option (List Str) := match forN ledT (List.range 20) ⟨ws, none, none⟩ with
  | .nx b => some b.fs
  | _ => none
theorem rngs_20 : rngs 0 20 = (List.range 20).map fun i => D.int (i : Nat) := by kernel_rfl
theorem ledT_nx : ∀ (is : List Nat) (s : LS), (∃ b, forN ledT is s = .nx b) ∨ forN ledT is s = .bad
  | [], s => .inl ⟨s, rfl⟩
  | i :: is, s => by
    unfold forN
    rcases led_nx rulesL { s with a2 := some (.int (i : Nat)) } with ⟨b, e⟩ | e
    · rw [show ledT i s = .nx b from e]
      exact ledT_nx is b
    · rw [show ledT i s = .bad from e]
      exact .inr rfl
theorem f_led (ws fs : List Str) (hf : ledN ws = some fs) : f__law_led [.tup (ws.map .str)] = .ok (.mls (fs.map .str)) .non := by
  have h := forGo_mirror (step := forStep (tgA (.nm 2)) (evSs t__law_led xm L__law_led_0)) (envL ws) (fun i : Nat => D.int (i : Nat)) ledT (List.range 20) ⟨ws, none, none⟩ (fun i _ b => led_turn ws i b)
  have hr : rng1 (.v (.int 20)) = some ((List.range 20).map fun i => D.int (i : Nat)) := by
    rw [← rngs_20]; rfl
  simp only [envL, so_some, so_none] at h
  unfold ledN at hf
  unfold f__law_led b__law_led
  simp only [den, List.append_nil, List.map_cons, List.map_nil, List.length_cons, List.length_nil, Nat.reduceAdd, Nat.reduceSub, List.replicate, List.cons_append, List.nil_append, Bool.false_and, s_forr, e_cn, e_nm, e_gl, e_tup, e_lst, e_bin, e_neg, e_not, e_cmp, e_cmp2, e_and, e_or, e_ite, e_ix, e_sl, e_rev, e_call, e_bi, e_isi, es_nil, es_cons, eo_no, eo_so, ec_no, ec_so, ei_sq, ei_r1, ei_r2, et_not, et_cmp, et_cmp2, et_and, et_or, et_cn, et_nm, et_ix, et_call, et_bi, et_isi, ea_nil, ea_cons, er_nil, er_cons, eta_nil, eta_cons, etr_nil, etr_cons, s_nil, s_cons, s_asg, s_par, s_app, s_ext, s_setix, s_aug, s_iff, s_ret, s_retN, s_brk, s_cnt, s_pass, s_expr, s_raise, b_ok, b_ex, b_bad, seqK, nmR, rv_v, rg_v, rt_v, rm_v, rc_v, rr_v, rv_r, rg_r, rt_r, rm_r, rc_r, rr_r, v_non, n_non, f_non, v_bl, n_bl, f_bl, v_int, n_int, f_int, v_str, n_str, f_str, v_tup, n_tup, f_tup, v_lst, n_lst, f_lst, v_rol, n_rol, f_rol, v_mls, n_mls, f_mls, toV, liftB, lift, bin2, cmp2B, binD, cmpD, t_nm, t_tp, ts_nil, ts_cons, setNs_nil, setNs_cons, wipeE, backE, plainAt, views, gives, takes, walk, unlk, hdFree, forEnd, List.getElem?_cons_zero, List.getElem?_cons_succ, List.set_cons_zero, List.set_cons_succ, List.all_cons, List.all_nil, i_len_l, i_len_t, i_int_i, i_int_b, i_abs, i_tup_l, i_tup_t, i_lst_l, i_lst_t, i_all, i_any, noMs_bl, noMs_str, noMs_int, fzs_str, fzs_int, noMs_nil, fzs_nil, noMs_cons, fzs_cons, big0, big1, big2, big3, big4, innO_strs, innO_strsT, ninO_strs, ninO_strsT, eqO_str, eqO_int, addO_int, subO_int, List.length_cons, List.length_nil, Nat.reduceAdd, if_true, if_false, Bool.and_true, Bool.true_and, Bool.false_eq_true, hr]
  rw [h]
  rcases ledT_nx (List.range 20) ⟨ws, none, none⟩ with ⟨b, e⟩ | e
  · rw [e] at hf ⊢
    cases hf
    simp only [Out.res, envL, e_cn, e_nm, e_gl, e_tup, e_lst, e_bin, e_neg, e_not, e_cmp, e_cmp2, e_and, e_or, e_ite, e_ix, e_sl, e_rev, e_call, e_bi, e_isi, es_nil, es_cons, eo_no, eo_so, ec_no, ec_so, ei_sq, ei_r1, ei_r2, et_not, et_cmp, et_cmp2, et_and, et_or, et_cn, et_nm, et_ix, et_call, et_bi, et_isi, ea_nil, ea_cons, er_nil, er_cons, eta_nil, eta_cons, etr_nil, etr_cons, s_nil, s_cons, s_asg, s_par, s_app, s_ext, s_setix, s_aug, s_iff, s_ret, s_retN, s_brk, s_cnt, s_pass, s_expr, s_raise, b_ok, b_ex, b_bad, seqK, nmR, rv_v, rg_v, rt_v, rm_v, rc_v, rr_v, rv_r, rg_r, rt_r, rm_r, rc_r, rr_r, v_non, n_non, f_non, v_bl, n_bl, f_bl, v_int, n_int, f_int, v_str, n_str, f_str, v_tup, n_tup, f_tup, v_lst, n_lst, f_lst, v_rol, n_rol, f_rol, v_mls, n_mls, f_mls, toV, liftB, lift, bin2, cmp2B, binD, cmpD, t_nm, t_tp, ts_nil, ts_cons, setNs_nil, setNs_cons, wipeE, backE, plainAt, views, gives, takes, walk, unlk, hdFree, forEnd, List.getElem?_cons_zero, List.getElem?_cons_succ, List.set_cons_zero, List.set_cons_succ, List.all_cons, List.all_nil, i_len_l, i_len_t, i_int_i, i_int_b, i_abs, i_tup_l, i_tup_t, i_lst_l, i_lst_t, i_all, i_any, noMs_bl, noMs_str, noMs_int, fzs_str, fzs_int, noMs_nil, fzs_nil, noMs_cons, fzs_cons, big0, big1, big2, big3, big4, innO_strs, innO_strsT, ninO_strs, ninO_strsT, eqO_str, eqO_int, addO_int, subO_int, List.length_cons, List.length_nil, Nat.reduceAdd, if_true, if_false, Bool.and_true, Bool.true_and, Bool.false_eq_true, outOf]
  · rw [e] at hf
    cases hf
def reachedN (ws : List Str) : Option (List Str) := match ledN ws with
  | some fs => some (if barsP.any (both fs) then wordsL else fs)
  | none => none
theorem f_reached (ws fs : List Str) (hf : reachedN ws = some fs) : f__law_reached [.tup (ws.map .str)] = .ok (.mls (fs.map .str)) .non := by
  unfold reachedN at hf
  split at hf
  · rename_i gs eg
    cases hf
    have c17 : ∀ s1 s2 s3, callR t__law_reached 17 [.v (.tup (ws.map .str))] [.on (.tup (ws.map .str)), s1, s2, s3] = .ok (.v (.mls (gs.map .str))) [.on (.tup (ws.map .str)), s1, s2, s3] := fun s1 s2 s3 => c_give rfl rfl rfl (by simp only [e_cn, e_nm, e_gl, e_tup, e_lst, e_bin, e_neg, e_not, e_cmp, e_cmp2, e_and, e_or, e_ite, e_ix, e_sl, e_rev, e_call, e_bi, e_isi, es_nil, es_cons, eo_no, eo_so, ec_no, ec_so, ei_sq, ei_r1, ei_r2, et_not, et_cmp, et_cmp2, et_and, et_or, et_cn, et_nm, et_ix, et_call, et_bi, et_isi, ea_nil, ea_cons, er_nil, er_cons, eta_nil, eta_cons, etr_nil, etr_cons, s_nil, s_cons, s_asg, s_par, s_app, s_ext, s_setix, s_aug, s_iff, s_ret, s_retN, s_brk, s_cnt, s_pass, s_expr, s_raise, b_ok, b_ex, b_bad, seqK, nmR, rv_v, rg_v, rt_v, rm_v, rc_v, rr_v, rv_r, rg_r, rt_r, rm_r, rc_r, rr_r, v_non, n_non, f_non, v_bl, n_bl, f_bl, v_int, n_int, f_int, v_str, n_str, f_str, v_tup, n_tup, f_tup, v_lst, n_lst, f_lst, v_rol, n_rol, f_rol, v_mls, n_mls, f_mls, toV, liftB, lift, bin2, cmp2B, binD, cmpD, t_nm, t_tp, ts_nil, ts_cons, setNs_nil, setNs_cons, wipeE, backE, plainAt, views, gives, takes, walk, unlk, hdFree, forEnd, List.getElem?_cons_zero, List.getElem?_cons_succ, List.set_cons_zero, List.set_cons_succ, List.all_cons, List.all_nil, i_len_l, i_len_t, i_int_i, i_int_b, i_abs, i_tup_l, i_tup_t, i_lst_l, i_lst_t, i_all, i_any, noMs_bl, noMs_str, noMs_int, fzs_str, fzs_int, noMs_nil, fzs_nil, noMs_cons, fzs_cons, big0, big1, big2, big3, big4, innO_strs, innO_strsT, ninO_strs, ninO_strsT, eqO_str, eqO_int, addO_int, subO_int, List.length_cons, List.length_nil, Nat.reduceAdd, if_true, if_false, Bool.and_true, Bool.true_and, Bool.false_eq_true]) (f_led ws gs eg)
    have c16 : ∀ env, callR t__law_reached 16 [] env = .ok (.v (.mls (barsP.map dp))) env := fun env => c_give rfl rfl rfl rfl e_bars
    have c13 : ∀ env, callR t__law_reached 13 [] env = .ok (.v (.mls (wordsL.map .str))) env := fun env => c_give rfl rfl rfl rfl e_words
    have n1 : D.noMs (barsP.map dp) = true := noMs_map (fun _ => rfl) _
    have hl : evE t__law_reached C__law_reached_0 [.on (.tup (ws.map .str)), .on (.mls (gs.map .str)), .un, .un] = .ok (.v (.mls (barsP.map fun x => .bl (both gs x)))) [.on (.tup (ws.map .str)), .on (.mls (gs.map .str)), .un, .un] := by
      unfold C__law_reached_0
      rw [e_lc]
      unfold lcE
      simp only [e_cn, e_nm, e_gl, e_tup, e_lst, e_bin, e_neg, e_not, e_cmp, e_cmp2, e_and, e_or, e_ite, e_ix, e_sl, e_rev, e_call, e_bi, e_isi, es_nil, es_cons, eo_no, eo_so, ec_no, ec_so, ei_sq, ei_r1, ei_r2, et_not, et_cmp, et_cmp2, et_and, et_or, et_cn, et_nm, et_ix, et_call, et_bi, et_isi, ea_nil, ea_cons, er_nil, er_cons, eta_nil, eta_cons, etr_nil, etr_cons, s_nil, s_cons, s_asg, s_par, s_app, s_ext, s_setix, s_aug, s_iff, s_ret, s_retN, s_brk, s_cnt, s_pass, s_expr, s_raise, b_ok, b_ex, b_bad, seqK, nmR, rv_v, rg_v, rt_v, rm_v, rc_v, rr_v, rv_r, rg_r, rt_r, rm_r, rc_r, rr_r, v_non, n_non, f_non, v_bl, n_bl, f_bl, v_int, n_int, f_int, v_str, n_str, f_str, v_tup, n_tup, f_tup, v_lst, n_lst, f_lst, v_rol, n_rol, f_rol, v_mls, n_mls, f_mls, toV, liftB, lift, bin2, cmp2B, binD, cmpD, t_nm, t_tp, ts_nil, ts_cons, setNs_nil, setNs_cons, wipeE, backE, plainAt, views, gives, takes, walk, unlk, hdFree, forEnd, List.getElem?_cons_zero, List.getElem?_cons_succ, List.set_cons_zero, List.set_cons_succ, List.all_cons, List.all_nil, i_len_l, i_len_t, i_int_i, i_int_b, i_abs, i_tup_l, i_tup_t, i_lst_l, i_lst_t, i_all, i_any, noMs_bl, noMs_str, noMs_int, fzs_str, fzs_int, noMs_nil, fzs_nil, noMs_cons, fzs_cons, big0, big1, big2, big3, big4, innO_strs, innO_strsT, ninO_strs, ninO_strsT, eqO_str, eqO_int, addO_int, subO_int, List.length_cons, List.length_nil, Nat.reduceAdd, if_true, if_false, Bool.and_true, Bool.true_and, Bool.false_eq_true, c16, n1]
      have hs : ∀ (x : Str × Str) (b : Slot × Slot), lcStep (tgA (Tg.tp (Tgs.cons (Tg.nm 2) (Tgs.cons (Tg.nm 3) Tgs.nil)))) (evC t__law_reached Oe.no) (evE t__law_reached ((E.cmp Cop.inn (E.nm 2) (E.nm 1)).and (Es.cons (E.cmp Cop.inn (E.nm 3) (E.nm 1)) Es.nil))) [2, 3] (dp x) [.on (.tup (ws.map .str)), .on (.mls (gs.map .str)), b.1, b.2] = .ok (some (.bl (both gs x))) [.on (.tup (ws.map .str)), .on (.mls (gs.map .str)), .on (.str x.1), .on (.str x.2)] := fun x b => by
        unfold lcStep dp both
        simp only [e_cn, e_nm, e_gl, e_tup, e_lst, e_bin, e_neg, e_not, e_cmp, e_cmp2, e_and, e_or, e_ite, e_ix, e_sl, e_rev, e_call, e_bi, e_isi, es_nil, es_cons, eo_no, eo_so, ec_no, ec_so, ei_sq, ei_r1, ei_r2, et_not, et_cmp, et_cmp2, et_and, et_or, et_cn, et_nm, et_ix, et_call, et_bi, et_isi, ea_nil, ea_cons, er_nil, er_cons, eta_nil, eta_cons, etr_nil, etr_cons, s_nil, s_cons, s_asg, s_par, s_app, s_ext, s_setix, s_aug, s_iff, s_ret, s_retN, s_brk, s_cnt, s_pass, s_expr, s_raise, b_ok, b_ex, b_bad, seqK, nmR, rv_v, rg_v, rt_v, rm_v, rc_v, rr_v, rv_r, rg_r, rt_r, rm_r, rc_r, rr_r, v_non, n_non, f_non, v_bl, n_bl, f_bl, v_int, n_int, f_int, v_str, n_str, f_str, v_tup, n_tup, f_tup, v_lst, n_lst, f_lst, v_rol, n_rol, f_rol, v_mls, n_mls, f_mls, toV, liftB, lift, bin2, cmp2B, binD, cmpD, t_nm, t_tp, ts_nil, ts_cons, setNs_nil, setNs_cons, wipeE, backE, plainAt, views, gives, takes, walk, unlk, hdFree, forEnd, List.getElem?_cons_zero, List.getElem?_cons_succ, List.set_cons_zero, List.set_cons_succ, List.all_cons, List.all_nil, i_len_l, i_len_t, i_int_i, i_int_b, i_abs, i_tup_l, i_tup_t, i_lst_l, i_lst_t, i_all, i_any, noMs_bl, noMs_str, noMs_int, fzs_str, fzs_int, noMs_nil, fzs_nil, noMs_cons, fzs_cons, big0, big1, big2, big3, big4, innO_strs, innO_strsT, ninO_strs, ninO_strsT, eqO_str, eqO_int, addO_int, subO_int, List.length_cons, List.length_nil, Nat.reduceAdd, if_true, if_false, Bool.and_true, Bool.true_and, Bool.false_eq_true, truD]
        cases decide (x.1 ∈ gs) <;> cases decide (x.2 ∈ gs) <;> simp only [e_cn, e_nm, e_gl, e_tup, e_lst, e_bin, e_neg, e_not, e_cmp, e_cmp2, e_and, e_or, e_ite, e_ix, e_sl, e_rev, e_call, e_bi, e_isi, es_nil, es_cons, eo_no, eo_so, ec_no, ec_so, ei_sq, ei_r1, ei_r2, et_not, et_cmp, et_cmp2, et_and, et_or, et_cn, et_nm, et_ix, et_call, et_bi, et_isi, ea_nil, ea_cons, er_nil, er_cons, eta_nil, eta_cons, etr_nil, etr_cons, s_nil, s_cons, s_asg, s_par, s_app, s_ext, s_setix, s_aug, s_iff, s_ret, s_retN, s_brk, s_cnt, s_pass, s_expr, s_raise, b_ok, b_ex, b_bad, seqK, nmR, rv_v, rg_v, rt_v, rm_v, rc_v, rr_v, rv_r, rg_r, rt_r, rm_r, rc_r, rr_r, v_non, n_non, f_non, v_bl, n_bl, f_bl, v_int, n_int, f_int, v_str, n_str, f_str, v_tup, n_tup, f_tup, v_lst, n_lst, f_lst, v_rol, n_rol, f_rol, v_mls, n_mls, f_mls, toV, liftB, lift, bin2, cmp2B, binD, cmpD, t_nm, t_tp, ts_nil, ts_cons, setNs_nil, setNs_cons, wipeE, backE, plainAt, views, gives, takes, walk, unlk, hdFree, forEnd, List.getElem?_cons_zero, List.getElem?_cons_succ, List.set_cons_zero, List.set_cons_succ, List.all_cons, List.all_nil, i_len_l, i_len_t, i_int_i, i_int_b, i_abs, i_tup_l, i_tup_t, i_lst_l, i_lst_t, i_all, i_any, noMs_bl, noMs_str, noMs_int, fzs_str, fzs_int, noMs_nil, fzs_nil, noMs_cons, fzs_cons, big0, big1, big2, big3, big4, innO_strs, innO_strsT, ninO_strs, ninO_strsT, eqO_str, eqO_int, addO_int, subO_int, List.length_cons, List.length_nil, Nat.reduceAdd, if_true, if_false, Bool.and_true, Bool.true_and, Bool.false_eq_true, Bool.and_false, Bool.false_and]
      have q := lcGo_map (fun b : Slot × Slot => [.on (.tup (ws.map .str)), .on (.mls (gs.map .str)), b.1, b.2]) dp (fun x => .bl (both gs x)) (fun x _ => (.on (.str x.1), .on (.str x.2))) hs barsP [] (.un, .un) bars_len
      simp only at q
      rw [q]
      unfold lcFin
      simp only [e_cn, e_nm, e_gl, e_tup, e_lst, e_bin, e_neg, e_not, e_cmp, e_cmp2, e_and, e_or, e_ite, e_ix, e_sl, e_rev, e_call, e_bi, e_isi, es_nil, es_cons, eo_no, eo_so, ec_no, ec_so, ei_sq, ei_r1, ei_r2, et_not, et_cmp, et_cmp2, et_and, et_or, et_cn, et_nm, et_ix, et_call, et_bi, et_isi, ea_nil, ea_cons, er_nil, er_cons, eta_nil, eta_cons, etr_nil, etr_cons, s_nil, s_cons, s_asg, s_par, s_app, s_ext, s_setix, s_aug, s_iff, s_ret, s_retN, s_brk, s_cnt, s_pass, s_expr, s_raise, b_ok, b_ex, b_bad, seqK, nmR, rv_v, rg_v, rt_v, rm_v, rc_v, rr_v, rv_r, rg_r, rt_r, rm_r, rc_r, rr_r, v_non, n_non, f_non, v_bl, n_bl, f_bl, v_int, n_int, f_int, v_str, n_str, f_str, v_tup, n_tup, f_tup, v_lst, n_lst, f_lst, v_rol, n_rol, f_rol, v_mls, n_mls, f_mls, toV, liftB, lift, bin2, cmp2B, binD, cmpD, t_nm, t_tp, ts_nil, ts_cons, setNs_nil, setNs_cons, wipeE, backE, plainAt, views, gives, takes, walk, unlk, hdFree, forEnd, List.getElem?_cons_zero, List.getElem?_cons_succ, List.set_cons_zero, List.set_cons_succ, List.all_cons, List.all_nil, i_len_l, i_len_t, i_int_i, i_int_b, i_abs, i_tup_l, i_tup_t, i_lst_l, i_lst_t, i_all, i_any, noMs_bl, noMs_str, noMs_int, fzs_str, fzs_int, noMs_nil, fzs_nil, noMs_cons, fzs_cons, big0, big1, big2, big3, big4, innO_strs, innO_strsT, ninO_strs, ninO_strsT, eqO_str, eqO_int, addO_int, subO_int, List.length_cons, List.length_nil, Nat.reduceAdd, if_true, if_false, Bool.and_true, Bool.true_and, Bool.false_eq_true, List.nil_append]
    unfold f__law_reached b__law_reached
    simp only [den, List.append_nil, List.map_cons, List.map_nil, List.length_cons, List.length_nil, Nat.reduceAdd, Nat.reduceSub, List.replicate, List.cons_append, List.nil_append, Bool.false_and, e_cn, e_nm, e_gl, e_tup, e_lst, e_bin, e_neg, e_not, e_cmp, e_cmp2, e_and, e_or, e_ite, e_ix, e_sl, e_rev, e_call, e_bi, e_isi, es_nil, es_cons, eo_no, eo_so, ec_no, ec_so, ei_sq, ei_r1, ei_r2, et_not, et_cmp, et_cmp2, et_and, et_or, et_cn, et_nm, et_ix, et_call, et_bi, et_isi, ea_nil, ea_cons, er_nil, er_cons, eta_nil, eta_cons, etr_nil, etr_cons, s_nil, s_cons, s_asg, s_par, s_app, s_ext, s_setix, s_aug, s_iff, s_ret, s_retN, s_brk, s_cnt, s_pass, s_expr, s_raise, b_ok, b_ex, b_bad, seqK, nmR, rv_v, rg_v, rt_v, rm_v, rc_v, rr_v, rv_r, rg_r, rt_r, rm_r, rc_r, rr_r, v_non, n_non, f_non, v_bl, n_bl, f_bl, v_int, n_int, f_int, v_str, n_str, f_str, v_tup, n_tup, f_tup, v_lst, n_lst, f_lst, v_rol, n_rol, f_rol, v_mls, n_mls, f_mls, toV, liftB, lift, bin2, cmp2B, binD, cmpD, t_nm, t_tp, ts_nil, ts_cons, setNs_nil, setNs_cons, wipeE, backE, plainAt, views, gives, takes, walk, unlk, hdFree, forEnd, List.getElem?_cons_zero, List.getElem?_cons_succ, List.set_cons_zero, List.set_cons_succ, List.all_cons, List.all_nil, i_len_l, i_len_t, i_int_i, i_int_b, i_abs, i_tup_l, i_tup_t, i_lst_l, i_lst_t, i_all, i_any, noMs_bl, noMs_str, noMs_int, fzs_str, fzs_int, noMs_nil, fzs_nil, noMs_cons, fzs_cons, big0, big1, big2, big3, big4, innO_strs, innO_strsT, ninO_strs, ninO_strsT, eqO_str, eqO_int, addO_int, subO_int, List.length_cons, List.length_nil, Nat.reduceAdd, if_true, if_false, Bool.and_true, Bool.true_and, Bool.false_eq_true, c17, hl, truD]
    cases barsP.any (both gs) with
    | true => simp only [e_cn, e_nm, e_gl, e_tup, e_lst, e_bin, e_neg, e_not, e_cmp, e_cmp2, e_and, e_or, e_ite, e_ix, e_sl, e_rev, e_call, e_bi, e_isi, es_nil, es_cons, eo_no, eo_so, ec_no, ec_so, ei_sq, ei_r1, ei_r2, et_not, et_cmp, et_cmp2, et_and, et_or, et_cn, et_nm, et_ix, et_call, et_bi, et_isi, ea_nil, ea_cons, er_nil, er_cons, eta_nil, eta_cons, etr_nil, etr_cons, s_nil, s_cons, s_asg, s_par, s_app, s_ext, s_setix, s_aug, s_iff, s_ret, s_retN, s_brk, s_cnt, s_pass, s_expr, s_raise, b_ok, b_ex, b_bad, seqK, nmR, rv_v, rg_v, rt_v, rm_v, rc_v, rr_v, rv_r, rg_r, rt_r, rm_r, rc_r, rr_r, v_non, n_non, f_non, v_bl, n_bl, f_bl, v_int, n_int, f_int, v_str, n_str, f_str, v_tup, n_tup, f_tup, v_lst, n_lst, f_lst, v_rol, n_rol, f_rol, v_mls, n_mls, f_mls, toV, liftB, lift, bin2, cmp2B, binD, cmpD, t_nm, t_tp, ts_nil, ts_cons, setNs_nil, setNs_cons, wipeE, backE, plainAt, views, gives, takes, walk, unlk, hdFree, forEnd, List.getElem?_cons_zero, List.getElem?_cons_succ, List.set_cons_zero, List.set_cons_succ, List.all_cons, List.all_nil, i_len_l, i_len_t, i_int_i, i_int_b, i_abs, i_tup_l, i_tup_t, i_lst_l, i_lst_t, i_all, i_any, noMs_bl, noMs_str, noMs_int, fzs_str, fzs_int, noMs_nil, fzs_nil, noMs_cons, fzs_cons, big0, big1, big2, big3, big4, innO_strs, innO_strsT, ninO_strs, ninO_strsT, eqO_str, eqO_int, addO_int, subO_int, List.length_cons, List.length_nil, Nat.reduceAdd, if_true, if_false, Bool.and_true, Bool.true_and, Bool.false_eq_true, c13, outOf]
    | false => simp only [e_cn, e_nm, e_gl, e_tup, e_lst, e_bin, e_neg, e_not, e_cmp, e_cmp2, e_and, e_or, e_ite, e_ix, e_sl, e_rev, e_call, e_bi, e_isi, es_nil, es_cons, eo_no, eo_so, ec_no, ec_so, ei_sq, ei_r1, ei_r2, et_not, et_cmp, et_cmp2, et_and, et_or, et_cn, et_nm, et_ix, et_call, et_bi, et_isi, ea_nil, ea_cons, er_nil, er_cons, eta_nil, eta_cons, etr_nil, etr_cons, s_nil, s_cons, s_asg, s_par, s_app, s_ext, s_setix, s_aug, s_iff, s_ret, s_retN, s_brk, s_cnt, s_pass, s_expr, s_raise, b_ok, b_ex, b_bad, seqK, nmR, rv_v, rg_v, rt_v, rm_v, rc_v, rr_v, rv_r, rg_r, rt_r, rm_r, rc_r, rr_r, v_non, n_non, f_non, v_bl, n_bl, f_bl, v_int, n_int, f_int, v_str, n_str, f_str, v_tup, n_tup, f_tup, v_lst, n_lst, f_lst, v_rol, n_rol, f_rol, v_mls, n_mls, f_mls, toV, liftB, lift, bin2, cmp2B, binD, cmpD, t_nm, t_tp, ts_nil, ts_cons, setNs_nil, setNs_cons, wipeE, backE, plainAt, views, gives, takes, walk, unlk, hdFree, forEnd, List.getElem?_cons_zero, List.getElem?_cons_succ, List.set_cons_zero, List.set_cons_succ, List.all_cons, List.all_nil, i_len_l, i_len_t, i_int_i, i_int_b, i_abs, i_tup_l, i_tup_t, i_lst_l, i_lst_t, i_all, i_any, noMs_bl, noMs_str, noMs_int, fzs_str, fzs_int, noMs_nil, fzs_nil, noMs_cons, fzs_cons, big0, big1, big2, big3, big4, innO_strs, innO_strsT, ninO_strs, ninO_strsT, eqO_str, eqO_int, addO_int, subO_int, List.length_cons, List.length_nil, Nat.reduceAdd, if_true, if_false, Bool.and_true, Bool.true_and, Bool.false_eq_true, outOf]
  · cases hf
end K05
namespace K05
open Ev PySem
theorem tk_ok (x : Nat) (h : Ss) (a : Fl) (env : En) : triK xm x h (.ok a env) = .ok a env := rfl
section
variable {ws fs rs : List Str} (h1 : 1 ≤ ws.length ∧ ws.length ≤ 2) (hw : ∀ w ∈ ws, w ∈ wordsL) (hf : forcedN ws = some fs)
include h1 hw hf
theorem f_ask0 (w : Str) : f__law_ask [.int 0, .tup (ws.map .str), .str w] = .ok (.tup (fs.map .str)) .non := by
  have c8 : callR t__law_ask 8 [.v (.tup (ws.map .str))] [.on (.int 0), .on (.tup (ws.map .str)), .on (.str w)] = .ok (.v (.tup (fs.map .str))) [.on (.int 0), .on (.tup (ws.map .str)), .on (.str w)] := c_give rfl rfl rfl (by simp only [e_cn, e_nm, e_gl, e_tup, e_lst, e_bin, e_neg, e_not, e_cmp, e_cmp2, e_and, e_or, e_ite, e_ix, e_sl, e_rev, e_call, e_bi, e_isi, es_nil, es_cons, eo_no, eo_so, ec_no, ec_so, ei_sq, ei_r1, ei_r2, et_not, et_cmp, et_cmp2, et_and, et_or, et_cn, et_nm, et_ix, et_call, et_bi, et_isi, ea_nil, ea_cons, er_nil, er_cons, eta_nil, eta_cons, etr_nil, etr_cons, s_nil, s_cons, s_asg, s_par, s_app, s_ext, s_setix, s_aug, s_iff, s_ret, s_retN, s_brk, s_cnt, s_pass, s_expr, s_raise, b_ok, b_ex, b_bad, seqK, nmR, rv_v, rg_v, rt_v, rm_v, rc_v, rr_v, rv_r, rg_r, rt_r, rm_r, rc_r, rr_r, v_non, n_non, f_non, v_bl, n_bl, f_bl, v_int, n_int, f_int, v_str, n_str, f_str, v_tup, n_tup, f_tup, v_lst, n_lst, f_lst, v_rol, n_rol, f_rol, v_mls, n_mls, f_mls, toV, liftB, lift, bin2, cmp2B, binD, cmpD, t_nm, t_tp, ts_nil, ts_cons, setNs_nil, setNs_cons, wipeE, backE, plainAt, views, gives, takes, walk, unlk, hdFree, forEnd, List.getElem?_cons_zero, List.getElem?_cons_succ, List.set_cons_zero, List.set_cons_succ, List.all_cons, List.all_nil, i_len_l, i_len_t, i_int_i, i_int_b, i_abs, i_tup_l, i_tup_t, i_lst_l, i_lst_t, i_all, i_any, noMs_bl, noMs_str, noMs_int, fzs_str, fzs_int, noMs_nil, fzs_nil, noMs_cons, fzs_cons, big0, big1, big2, big3, big4, innO_strs, innO_strsT, ninO_strs, ninO_strsT, eqO_str, eqO_int, addO_int, subO_int, List.length_cons, List.length_nil, Nat.reduceAdd, if_true, if_false, Bool.and_true, Bool.true_and, Bool.false_eq_true]) (f_all ws fs h1 hw hf)
  unfold f__law_ask b__law_ask
  simp only [den, List.append_nil, List.map_cons, List.map_nil, List.length_cons, List.length_nil, Nat.reduceAdd, Nat.reduceSub, List.replicate, List.cons_append, List.nil_append, Bool.false_and, s_tri, e_cn, e_nm, e_gl, e_tup, e_lst, e_bin, e_neg, e_not, e_cmp, e_cmp2, e_and, e_or, e_ite, e_ix, e_sl, e_rev, e_call, e_bi, e_isi, es_nil, es_cons, eo_no, eo_so, ec_no, ec_so, ei_sq, ei_r1, ei_r2, et_not, et_cmp, et_cmp2, et_and, et_or, et_cn, et_nm, et_ix, et_call, et_bi, et_isi, ea_nil, ea_cons, er_nil, er_cons, eta_nil, eta_cons, etr_nil, etr_cons, s_nil, s_cons, s_asg, s_par, s_app, s_ext, s_setix, s_aug, s_iff, s_ret, s_retN, s_brk, s_cnt, s_pass, s_expr, s_raise, b_ok, b_ex, b_bad, seqK, nmR, rv_v, rg_v, rt_v, rm_v, rc_v, rr_v, rv_r, rg_r, rt_r, rm_r, rc_r, rr_r, v_non, n_non, f_non, v_bl, n_bl, f_bl, v_int, n_int, f_int, v_str, n_str, f_str, v_tup, n_tup, f_tup, v_lst, n_lst, f_lst, v_rol, n_rol, f_rol, v_mls, n_mls, f_mls, toV, liftB, lift, bin2, cmp2B, binD, cmpD, t_nm, t_tp, ts_nil, ts_cons, setNs_nil, setNs_cons, wipeE, backE, plainAt, views, gives, takes, walk, unlk, hdFree, forEnd, List.getElem?_cons_zero, List.getElem?_cons_succ, List.set_cons_zero, List.set_cons_succ, List.all_cons, List.all_nil, i_len_l, i_len_t, i_int_i, i_int_b, i_abs, i_tup_l, i_tup_t, i_lst_l, i_lst_t, i_all, i_any, noMs_bl, noMs_str, noMs_int, fzs_str, fzs_int, noMs_nil, fzs_nil, noMs_cons, fzs_cons, big0, big1, big2, big3, big4, innO_strs, innO_strsT, ninO_strs, ninO_strsT, eqO_str, eqO_int, addO_int, subO_int, List.length_cons, List.length_nil, Nat.reduceAdd, if_true, if_false, Bool.and_true, Bool.true_and, Bool.false_eq_true, decide_true, c8, tk_ok, outOf]
theorem f_ask1 (w : Str) (h2 : w ∈ wordsL) : f__law_ask [.int 1, .tup (ws.map .str), .str w] = .ok (.bl (decide (w ∈ fs))) .non := by
  have c9 : callR t__law_ask 9 [.v (.tup (ws.map .str)), .v (.str w)] [.on (.int 1), .on (.tup (ws.map .str)), .on (.str w)] = .ok (.v (.bl (decide (w ∈ fs)))) [.on (.int 1), .on (.tup (ws.map .str)), .on (.str w)] := c_give rfl rfl rfl (by simp only [e_cn, e_nm, e_gl, e_tup, e_lst, e_bin, e_neg, e_not, e_cmp, e_cmp2, e_and, e_or, e_ite, e_ix, e_sl, e_rev, e_call, e_bi, e_isi, es_nil, es_cons, eo_no, eo_so, ec_no, ec_so, ei_sq, ei_r1, ei_r2, et_not, et_cmp, et_cmp2, et_and, et_or, et_cn, et_nm, et_ix, et_call, et_bi, et_isi, ea_nil, ea_cons, er_nil, er_cons, eta_nil, eta_cons, etr_nil, etr_cons, s_nil, s_cons, s_asg, s_par, s_app, s_ext, s_setix, s_aug, s_iff, s_ret, s_retN, s_brk, s_cnt, s_pass, s_expr, s_raise, b_ok, b_ex, b_bad, seqK, nmR, rv_v, rg_v, rt_v, rm_v, rc_v, rr_v, rv_r, rg_r, rt_r, rm_r, rc_r, rr_r, v_non, n_non, f_non, v_bl, n_bl, f_bl, v_int, n_int, f_int, v_str, n_str, f_str, v_tup, n_tup, f_tup, v_lst, n_lst, f_lst, v_rol, n_rol, f_rol, v_mls, n_mls, f_mls, toV, liftB, lift, bin2, cmp2B, binD, cmpD, t_nm, t_tp, ts_nil, ts_cons, setNs_nil, setNs_cons, wipeE, backE, plainAt, views, gives, takes, walk, unlk, hdFree, forEnd, List.getElem?_cons_zero, List.getElem?_cons_succ, List.set_cons_zero, List.set_cons_succ, List.all_cons, List.all_nil, i_len_l, i_len_t, i_int_i, i_int_b, i_abs, i_tup_l, i_tup_t, i_lst_l, i_lst_t, i_all, i_any, noMs_bl, noMs_str, noMs_int, fzs_str, fzs_int, noMs_nil, fzs_nil, noMs_cons, fzs_cons, big0, big1, big2, big3, big4, innO_strs, innO_strsT, ninO_strs, ninO_strsT, eqO_str, eqO_int, addO_int, subO_int, List.length_cons, List.length_nil, Nat.reduceAdd, if_true, if_false, Bool.and_true, Bool.true_and, Bool.false_eq_true]) (f_does ws fs w h1 hw hf h2)
  have e : decide ((1 : Int) = 0) = false := by decide
  unfold f__law_ask b__law_ask
  simp only [den, List.append_nil, List.map_cons, List.map_nil, List.length_cons, List.length_nil, Nat.reduceAdd, Nat.reduceSub, List.replicate, List.cons_append, List.nil_append, Bool.false_and, s_tri, e_cn, e_nm, e_gl, e_tup, e_lst, e_bin, e_neg, e_not, e_cmp, e_cmp2, e_and, e_or, e_ite, e_ix, e_sl, e_rev, e_call, e_bi, e_isi, es_nil, es_cons, eo_no, eo_so, ec_no, ec_so, ei_sq, ei_r1, ei_r2, et_not, et_cmp, et_cmp2, et_and, et_or, et_cn, et_nm, et_ix, et_call, et_bi, et_isi, ea_nil, ea_cons, er_nil, er_cons, eta_nil, eta_cons, etr_nil, etr_cons, s_nil, s_cons, s_asg, s_par, s_app, s_ext, s_setix, s_aug, s_iff, s_ret, s_retN, s_brk, s_cnt, s_pass, s_expr, s_raise, b_ok, b_ex, b_bad, seqK, nmR, rv_v, rg_v, rt_v, rm_v, rc_v, rr_v, rv_r, rg_r, rt_r, rm_r, rc_r, rr_r, v_non, n_non, f_non, v_bl, n_bl, f_bl, v_int, n_int, f_int, v_str, n_str, f_str, v_tup, n_tup, f_tup, v_lst, n_lst, f_lst, v_rol, n_rol, f_rol, v_mls, n_mls, f_mls, toV, liftB, lift, bin2, cmp2B, binD, cmpD, t_nm, t_tp, ts_nil, ts_cons, setNs_nil, setNs_cons, wipeE, backE, plainAt, views, gives, takes, walk, unlk, hdFree, forEnd, List.getElem?_cons_zero, List.getElem?_cons_succ, List.set_cons_zero, List.set_cons_succ, List.all_cons, List.all_nil, i_len_l, i_len_t, i_int_i, i_int_b, i_abs, i_tup_l, i_tup_t, i_lst_l, i_lst_t, i_all, i_any, noMs_bl, noMs_str, noMs_int, fzs_str, fzs_int, noMs_nil, fzs_nil, noMs_cons, fzs_cons, big0, big1, big2, big3, big4, innO_strs, innO_strsT, ninO_strs, ninO_strsT, eqO_str, eqO_int, addO_int, subO_int, List.length_cons, List.length_nil, Nat.reduceAdd, if_true, if_false, Bool.and_true, Bool.true_and, Bool.false_eq_true, e, c9, tk_ok, outOf]
end
theorem f_says (a b : Bool) : f__law_says [.bl a, .bl b] = .ok (.bl (decide (a = b))) .non := by
  cases a <;> cases b <;> kernel_rfl
/-- what one list of words is to give -/
def okW (ws : List Str) : Bool := match forcedN ws, reachedN ws with
  | some fs, some rs => (match neO (.tup (fs.map .str)) (.tup ((wordsL.filter fun w => decide (w ∈ rs)).map .str)) with
      | some b => !b
      | none => false) && wordsL.all fun w => decide (decide (w ∈ fs) = decide (w ∈ rs))
  | _, _ => false
theorem ok_one : okW ["lock", "quick"] = true := by decide +kernel
end K05
namespace K05
open Ev PySem
/-! ### draws -/
def dD (js : List Int) (i s r : Int) : D := .mls [.lst (js.map D.int), .int i, .int s, .int r]
structure Dr (js : List Int) (i s r : Int) : Prop where
  js : ∀ j ∈ js, 0 ≤ j
  i : -1 ≤ i
  s : 0 ≤ s
  r : 0 ≤ r
theorem x0 (a b c d : D) : ixD (.lst [a, b, c, d]) (.int 0) = some a := rfl
theorem x1 (a b c d : D) : ixD (.lst [a, b, c, d]) (.int 1) = some b := rfl
theorem x2 (a b c d : D) : ixD (.lst [a, b, c, d]) (.int 2) = some c := rfl
theorem x3 (a b c d : D) : ixD (.lst [a, b, c, d]) (.int 3) = some d := rfl
theorem y1 : ixNat 4 1 = some 1 := by decide
theorem y2 : ixNat 4 2 = some 2 := by decide
theorem y3 : ixNat 4 3 = some 3 := by decide
theorem mul_c (r : Int) : mulD (.int r) (.int 48271) = some (.int (r * 48271)) := by
  show (if mulOk r 48271 then some (D.int (r * 48271)) else none) = _
  rw [if_pos (by unfold mulOk; rw [Bool.or_eq_true]; exact .inr (by decide +kernel))]
theorem mod_p {a m : Int} (h : 0 < m) : modD (.int a) (.int m) = some (.int (a.fmod m)) := by
  show (if decide (m ≠ 0) then some (D.int (a.fmod m)) else none) = _
  rw [if_pos (by rw [decide_eq_true_eq]; omega)]
theorem div_p {a m : Int} (h : 0 < m) (h2 : m < 1073741824) : fdivD (.int a) (.int m) = some (.int (a.fdiv m)) := by
  show (if decide (m ≠ 0) && decide (m.natAbs < 1073741824) then some (D.int (a.fdiv m)) else none) = _
  rw [if_pos (by rw [Bool.and_eq_true, decide_eq_true_eq, decide_eq_true_eq]; omega)]
def hd1 : Ss → S
  | .cons s _ => s
  | .nil => .pass
theorem take_first {js : List Int} {i s r : Int} (I : Dr js i s r) (m : D) : ∃ i' s' r', Dr js i' s' r' ∧ evS t__law_take xm (hd1 b__law_take) [.on (dD js i s r), .on m, .un] = .ok .nx [.on (dD js i' s' r'), .on m, .un] := by
  by_cases hs : s = 0
  · subst hs
    have e0 : decide ((0 : Int) = 0) = true := rfl
    by_cases hi : i + 1 < (js.length : Int)
    · obtain ⟨n, hn⟩ : ∃ n : Nat, i + 1 = n := ⟨(i + 1).toNat, by have := I.i; omega⟩
      have hnl : n < js.length := by omega
      have e1 : decide (i + 1 < (js.length : Int)) = true := decide_eq_true hi
      have eg : ixD (.lst (js.map D.int)) (.int (i + 1)) = some (.int js[n]) := by
        show getI (js.map D.int) (i + 1) = _
        unfold getI
        rw [if_pos (by rw [decide_eq_true_eq]; omega), hn]
        simp [hnl]
      have hj : 0 ≤ js[n] := I.js _ (List.getElem_mem hnl)
      by_cases hz : js[n] = 0
      · have e2 : decide (js[n] = 0) = true := decide_eq_true hz
        refine ⟨i + 1, ((r * 48271 + 11).fmod 2147483647), ((r * 48271 + 11).fmod 2147483647), ⟨I.js, by have := I.i; omega, Int.fmod_nonneg_of_pos _ (by decide), Int.fmod_nonneg_of_pos _ (by decide)⟩, ?_⟩
        simp only [hd1, b__law_take, dD, e_cn, e_nm, e_gl, e_tup, e_lst, e_bin, e_neg, e_not, e_cmp, e_cmp2, e_and, e_or, e_ite, e_ix, e_sl, e_rev, e_call, e_bi, e_isi, es_nil, es_cons, eo_no, eo_so, ec_no, ec_so, ei_sq, ei_r1, ei_r2, et_not, et_cmp, et_cmp2, et_and, et_or, et_cn, et_nm, et_ix, et_call, et_bi, et_isi, ea_nil, ea_cons, er_nil, er_cons, eta_nil, eta_cons, etr_nil, etr_cons, s_nil, s_cons, s_asg, s_par, s_app, s_ext, s_setix, s_aug, s_iff, s_ret, s_retN, s_brk, s_cnt, s_pass, s_expr, s_raise, b_ok, b_ex, b_bad, seqK, nmR, rv_v, rg_v, rt_v, rm_v, rc_v, rr_v, rv_r, rg_r, rt_r, rm_r, rc_r, rr_r, v_non, n_non, f_non, v_bl, n_bl, f_bl, v_int, n_int, f_int, v_str, n_str, f_str, v_tup, n_tup, f_tup, v_lst, n_lst, f_lst, v_rol, n_rol, f_rol, v_mls, n_mls, f_mls, toV, liftB, lift, bin2, cmp2B, binD, cmpD, t_nm, t_tp, ts_nil, ts_cons, setNs_nil, setNs_cons, wipeE, backE, plainAt, views, gives, takes, walk, unlk, hdFree, forEnd, List.getElem?_cons_zero, List.getElem?_cons_succ, List.set_cons_zero, List.set_cons_succ, List.all_cons, List.all_nil, i_len_l, i_len_t, i_int_i, i_int_b, i_abs, i_tup_l, i_tup_t, i_lst_l, i_lst_t, i_all, i_any, noMs_bl, noMs_str, noMs_int, fzs_str, fzs_int, noMs_nil, fzs_nil, noMs_cons, fzs_cons, big0, big1, big2, big3, big4, innO_strs, innO_strsT, ninO_strs, ninO_strsT, eqO_str, eqO_int, addO_int, subO_int, List.length_cons, List.length_nil, Nat.reduceAdd, if_true, if_false, Bool.and_true, Bool.true_and, Bool.false_eq_true, decide_true, x0, x1, x2, x3, y1, y2, y3, isOn, setD, e0, e1, eg, e2, ltO, List.length_map, mul_c, mod_p (show (0 : Int) < 2147483647 by decide)]
      · have e2 : decide (js[n] = 0) = false := decide_eq_false hz
        refine ⟨i + 1, js[n], r, ⟨I.js, by have := I.i; omega, hj, I.r⟩, ?_⟩
        simp only [hd1, b__law_take, dD, e_cn, e_nm, e_gl, e_tup, e_lst, e_bin, e_neg, e_not, e_cmp, e_cmp2, e_and, e_or, e_ite, e_ix, e_sl, e_rev, e_call, e_bi, e_isi, es_nil, es_cons, eo_no, eo_so, ec_no, ec_so, ei_sq, ei_r1, ei_r2, et_not, et_cmp, et_cmp2, et_and, et_or, et_cn, et_nm, et_ix, et_call, et_bi, et_isi, ea_nil, ea_cons, er_nil, er_cons, eta_nil, eta_cons, etr_nil, etr_cons, s_nil, s_cons, s_asg, s_par, s_app, s_ext, s_setix, s_aug, s_iff, s_ret, s_retN, s_brk, s_cnt, s_pass, s_expr, s_raise, b_ok, b_ex, b_bad, seqK, nmR, rv_v, rg_v, rt_v, rm_v, rc_v, rr_v, rv_r, rg_r, rt_r, rm_r, rc_r, rr_r, v_non, n_non, f_non, v_bl, n_bl, f_bl, v_int, n_int, f_int, v_str, n_str, f_str, v_tup, n_tup, f_tup, v_lst, n_lst, f_lst, v_rol, n_rol, f_rol, v_mls, n_mls, f_mls, toV, liftB, lift, bin2, cmp2B, binD, cmpD, t_nm, t_tp, ts_nil, ts_cons, setNs_nil, setNs_cons, wipeE, backE, plainAt, views, gives, takes, walk, unlk, hdFree, forEnd, List.getElem?_cons_zero, List.getElem?_cons_succ, List.set_cons_zero, List.set_cons_succ, List.all_cons, List.all_nil, i_len_l, i_len_t, i_int_i, i_int_b, i_abs, i_tup_l, i_tup_t, i_lst_l, i_lst_t, i_all, i_any, noMs_bl, noMs_str, noMs_int, fzs_str, fzs_int, noMs_nil, fzs_nil, noMs_cons, fzs_cons, big0, big1, big2, big3, big4, innO_strs, innO_strsT, ninO_strs, ninO_strsT, eqO_str, eqO_int, addO_int, subO_int, List.length_cons, List.length_nil, Nat.reduceAdd, if_true, if_false, Bool.and_true, Bool.true_and, Bool.false_eq_true, decide_true, x0, x1, x2, x3, y1, y2, y3, isOn, setD, e0, e1, eg, e2, ltO, List.length_map]
    · have e1 : decide (i + 1 < (js.length : Int)) = false := decide_eq_false hi
      refine ⟨i + 1, ((r * 48271 + 11).fmod 2147483647), ((r * 48271 + 11).fmod 2147483647), ⟨I.js, by have := I.i; omega, Int.fmod_nonneg_of_pos _ (by decide), Int.fmod_nonneg_of_pos _ (by decide)⟩, ?_⟩
      simp only [hd1, b__law_take, dD, e_cn, e_nm, e_gl, e_tup, e_lst, e_bin, e_neg, e_not, e_cmp, e_cmp2, e_and, e_or, e_ite, e_ix, e_sl, e_rev, e_call, e_bi, e_isi, es_nil, es_cons, eo_no, eo_so, ec_no, ec_so, ei_sq, ei_r1, ei_r2, et_not, et_cmp, et_cmp2, et_and, et_or, et_cn, et_nm, et_ix, et_call, et_bi, et_isi, ea_nil, ea_cons, er_nil, er_cons, eta_nil, eta_cons, etr_nil, etr_cons, s_nil, s_cons, s_asg, s_par, s_app, s_ext, s_setix, s_aug, s_iff, s_ret, s_retN, s_brk, s_cnt, s_pass, s_expr, s_raise, b_ok, b_ex, b_bad, seqK, nmR, rv_v, rg_v, rt_v, rm_v, rc_v, rr_v, rv_r, rg_r, rt_r, rm_r, rc_r, rr_r, v_non, n_non, f_non, v_bl, n_bl, f_bl, v_int, n_int, f_int, v_str, n_str, f_str, v_tup, n_tup, f_tup, v_lst, n_lst, f_lst, v_rol, n_rol, f_rol, v_mls, n_mls, f_mls, toV, liftB, lift, bin2, cmp2B, binD, cmpD, t_nm, t_tp, ts_nil, ts_cons, setNs_nil, setNs_cons, wipeE, backE, plainAt, views, gives, takes, walk, unlk, hdFree, forEnd, List.getElem?_cons_zero, List.getElem?_cons_succ, List.set_cons_zero, List.set_cons_succ, List.all_cons, List.all_nil, i_len_l, i_len_t, i_int_i, i_int_b, i_abs, i_tup_l, i_tup_t, i_lst_l, i_lst_t, i_all, i_any, noMs_bl, noMs_str, noMs_int, fzs_str, fzs_int, noMs_nil, fzs_nil, noMs_cons, fzs_cons, big0, big1, big2, big3, big4, innO_strs, innO_strsT, ninO_strs, ninO_strsT, eqO_str, eqO_int, addO_int, subO_int, List.length_cons, List.length_nil, Nat.reduceAdd, if_true, if_false, Bool.and_true, Bool.true_and, Bool.false_eq_true, decide_true, x0, x1, x2, x3, y1, y2, y3, isOn, setD, e0, e1, ltO, List.length_map, mul_c, mod_p (show (0 : Int) < 2147483647 by decide)]
  · have e0 : decide (s = 0) = false := decide_eq_false hs
    refine ⟨i, s, r, I, ?_⟩
    simp only [hd1, b__law_take, dD, e_cn, e_nm, e_gl, e_tup, e_lst, e_bin, e_neg, e_not, e_cmp, e_cmp2, e_and, e_or, e_ite, e_ix, e_sl, e_rev, e_call, e_bi, e_isi, es_nil, es_cons, eo_no, eo_so, ec_no, ec_so, ei_sq, ei_r1, ei_r2, et_not, et_cmp, et_cmp2, et_and, et_or, et_cn, et_nm, et_ix, et_call, et_bi, et_isi, ea_nil, ea_cons, er_nil, er_cons, eta_nil, eta_cons, etr_nil, etr_cons, s_nil, s_cons, s_asg, s_par, s_app, s_ext, s_setix, s_aug, s_iff, s_ret, s_retN, s_brk, s_cnt, s_pass, s_expr, s_raise, b_ok, b_ex, b_bad, seqK, nmR, rv_v, rg_v, rt_v, rm_v, rc_v, rr_v, rv_r, rg_r, rt_r, rm_r, rc_r, rr_r, v_non, n_non, f_non, v_bl, n_bl, f_bl, v_int, n_int, f_int, v_str, n_str, f_str, v_tup, n_tup, f_tup, v_lst, n_lst, f_lst, v_rol, n_rol, f_rol, v_mls, n_mls, f_mls, toV, liftB, lift, bin2, cmp2B, binD, cmpD, t_nm, t_tp, ts_nil, ts_cons, setNs_nil, setNs_cons, wipeE, backE, plainAt, views, gives, takes, walk, unlk, hdFree, forEnd, List.getElem?_cons_zero, List.getElem?_cons_succ, List.set_cons_zero, List.set_cons_succ, List.all_cons, List.all_nil, i_len_l, i_len_t, i_int_i, i_int_b, i_abs, i_tup_l, i_tup_t, i_lst_l, i_lst_t, i_all, i_any, noMs_bl, noMs_str, noMs_int, fzs_str, fzs_int, noMs_nil, fzs_nil, noMs_cons, fzs_cons, big0, big1, big2, big3, big4, innO_strs, innO_strsT, ninO_strs, ninO_strsT, eqO_str, eqO_int, addO_int, subO_int, List.length_cons, List.length_nil, Nat.reduceAdd, if_true, if_false, Bool.and_true, Bool.true_and, Bool.false_eq_true, decide_true, x2, e0]
theorem f_take {js : List Int} {i s r m : Int} (I : Dr js i s r) (hm : 0 < m) (hm2 : m < 1073741824) : ∃ k i' s' r', Dr js i' s' r' ∧ 0 ≤ k ∧ k < m ∧ f__law_take [dD js i s r, .int m] = .ok (.int k) (dD js i' s' r') := by
  obtain ⟨i', s', r', I', e⟩ := take_first I (.int m)
  refine ⟨s'.fmod m, i', s'.fdiv m, r', ⟨I'.js, I'.i, Int.fdiv_nonneg I'.s (by omega), I'.r⟩, Int.fmod_nonneg_of_pos _ hm, Int.fmod_lt_of_pos _ hm, ?_⟩
  have e' := e
  simp only [hd1, b__law_take] at e'
  unfold f__law_take b__law_take
  have hk : (i' = i' ∧ True) := ⟨rfl, trivial⟩
  have hwr : ∀ b : Ss, b = b__law_take → (true && b.wr.contains 0) = false := fun b hb => by subst hb; decide +kernel
  have hd : den t__law_take xm 3 true b__law_take [dD js i s r, .int m] = .ok (.int (s'.fmod m)) (dD js i' (s'.fdiv m) r') := by
    unfold den
    rw [hwr _ rfl]
    simp only [e_cn, e_nm, e_gl, e_tup, e_lst, e_bin, e_neg, e_not, e_cmp, e_cmp2, e_and, e_or, e_ite, e_ix, e_sl, e_rev, e_call, e_bi, e_isi, es_nil, es_cons, eo_no, eo_so, ec_no, ec_so, ei_sq, ei_r1, ei_r2, et_not, et_cmp, et_cmp2, et_and, et_or, et_cn, et_nm, et_ix, et_call, et_bi, et_isi, ea_nil, ea_cons, er_nil, er_cons, eta_nil, eta_cons, etr_nil, etr_cons, s_nil, s_cons, s_asg, s_par, s_app, s_ext, s_setix, s_aug, s_iff, s_ret, s_retN, s_brk, s_cnt, s_pass, s_expr, s_raise, b_ok, b_ex, b_bad, seqK, nmR, rv_v, rg_v, rt_v, rm_v, rc_v, rr_v, rv_r, rg_r, rt_r, rm_r, rc_r, rr_r, v_non, n_non, f_non, v_bl, n_bl, f_bl, v_int, n_int, f_int, v_str, n_str, f_str, v_tup, n_tup, f_tup, v_lst, n_lst, f_lst, v_rol, n_rol, f_rol, v_mls, n_mls, f_mls, toV, liftB, lift, bin2, cmp2B, binD, cmpD, t_nm, t_tp, ts_nil, ts_cons, setNs_nil, setNs_cons, wipeE, backE, plainAt, views, gives, takes, walk, unlk, hdFree, forEnd, List.getElem?_cons_zero, List.getElem?_cons_succ, List.set_cons_zero, List.set_cons_succ, List.all_cons, List.all_nil, i_len_l, i_len_t, i_int_i, i_int_b, i_abs, i_tup_l, i_tup_t, i_lst_l, i_lst_t, i_all, i_any, noMs_bl, noMs_str, noMs_int, fzs_str, fzs_int, noMs_nil, fzs_nil, noMs_cons, fzs_cons, big0, big1, big2, big3, big4, innO_strs, innO_strsT, ninO_strs, ninO_strsT, eqO_str, eqO_int, addO_int, subO_int, List.length_cons, List.length_nil, Nat.reduceAdd, if_true, if_false, Bool.and_true, Bool.true_and, Bool.false_eq_true, List.map_cons, List.map_nil, Nat.reduceSub, List.replicate, List.cons_append, List.nil_append]
    rw [show b__law_take = .cons (hd1 b__law_take) (match b__law_take with | .cons _ ss => ss | .nil => .nil) from rfl, s_cons, e]
    simp only [b__law_take, dD, e_cn, e_nm, e_gl, e_tup, e_lst, e_bin, e_neg, e_not, e_cmp, e_cmp2, e_and, e_or, e_ite, e_ix, e_sl, e_rev, e_call, e_bi, e_isi, es_nil, es_cons, eo_no, eo_so, ec_no, ec_so, ei_sq, ei_r1, ei_r2, et_not, et_cmp, et_cmp2, et_and, et_or, et_cn, et_nm, et_ix, et_call, et_bi, et_isi, ea_nil, ea_cons, er_nil, er_cons, eta_nil, eta_cons, etr_nil, etr_cons, s_nil, s_cons, s_asg, s_par, s_app, s_ext, s_setix, s_aug, s_iff, s_ret, s_retN, s_brk, s_cnt, s_pass, s_expr, s_raise, b_ok, b_ex, b_bad, seqK, nmR, rv_v, rg_v, rt_v, rm_v, rc_v, rr_v, rv_r, rg_r, rt_r, rm_r, rc_r, rr_r, v_non, n_non, f_non, v_bl, n_bl, f_bl, v_int, n_int, f_int, v_str, n_str, f_str, v_tup, n_tup, f_tup, v_lst, n_lst, f_lst, v_rol, n_rol, f_rol, v_mls, n_mls, f_mls, toV, liftB, lift, bin2, cmp2B, binD, cmpD, t_nm, t_tp, ts_nil, ts_cons, setNs_nil, setNs_cons, wipeE, backE, plainAt, views, gives, takes, walk, unlk, hdFree, forEnd, List.getElem?_cons_zero, List.getElem?_cons_succ, List.set_cons_zero, List.set_cons_succ, List.all_cons, List.all_nil, i_len_l, i_len_t, i_int_i, i_int_b, i_abs, i_tup_l, i_tup_t, i_lst_l, i_lst_t, i_all, i_any, noMs_bl, noMs_str, noMs_int, fzs_str, fzs_int, noMs_nil, fzs_nil, noMs_cons, fzs_cons, big0, big1, big2, big3, big4, innO_strs, innO_strsT, ninO_strs, ninO_strsT, eqO_str, eqO_int, addO_int, subO_int, List.length_cons, List.length_nil, Nat.reduceAdd, if_true, if_false, Bool.and_true, Bool.true_and, Bool.false_eq_true, x0, x1, x2, x3, y1, y2, y3, isOn, setD, mod_p hm, div_p hm hm2, outOf]
  exact hd
def ab (n : Int) : Int := if n < 0 then -n else n
theorem ab_pos (n : Int) : 0 ≤ ab n := by unfold ab; split <;> omega
def sd (n s : Int) : Int := ((s * 48271 + (ab n).fmod 65521) + 1).fmod 2147483647
def envW (ns : List Int) (b : Int × Option Int) : En := [.on (.rol (ns.map D.int)), .on (.int b.1), so (b.2.map D.int)]
theorem draw_step (ns : List Int) (n : Int) (b : Int × Option Int) : forStep (tgA (.nm 2)) (evSs t__law_draw xm L__law_draw_1) (.int n) (envW ns b) = (Out.nx (sd n b.1, some n)).res (envW ns) := by
  unfold forStep L__law_draw_1 envW
  rw [t_so (b := b.2.map D.int) rfl]
  simp only [e_cn, e_nm, e_gl, e_tup, e_lst, e_bin, e_neg, e_not, e_cmp, e_cmp2, e_and, e_or, e_ite, e_ix, e_sl, e_rev, e_call, e_bi, e_isi, es_nil, es_cons, eo_no, eo_so, ec_no, ec_so, ei_sq, ei_r1, ei_r2, et_not, et_cmp, et_cmp2, et_and, et_or, et_cn, et_nm, et_ix, et_call, et_bi, et_isi, ea_nil, ea_cons, er_nil, er_cons, eta_nil, eta_cons, etr_nil, etr_cons, s_nil, s_cons, s_asg, s_par, s_app, s_ext, s_setix, s_aug, s_iff, s_ret, s_retN, s_brk, s_cnt, s_pass, s_expr, s_raise, b_ok, b_ex, b_bad, seqK, nmR, rv_v, rg_v, rt_v, rm_v, rc_v, rr_v, rv_r, rg_r, rt_r, rm_r, rc_r, rr_r, v_non, n_non, f_non, v_bl, n_bl, f_bl, v_int, n_int, f_int, v_str, n_str, f_str, v_tup, n_tup, f_tup, v_lst, n_lst, f_lst, v_rol, n_rol, f_rol, v_mls, n_mls, f_mls, toV, liftB, lift, bin2, cmp2B, binD, cmpD, t_nm, t_tp, ts_nil, ts_cons, setNs_nil, setNs_cons, wipeE, backE, plainAt, views, gives, takes, walk, unlk, hdFree, forEnd, List.getElem?_cons_zero, List.getElem?_cons_succ, List.set_cons_zero, List.set_cons_succ, List.all_cons, List.all_nil, i_len_l, i_len_t, i_int_i, i_int_b, i_abs, i_tup_l, i_tup_t, i_lst_l, i_lst_t, i_all, i_any, noMs_bl, noMs_str, noMs_int, fzs_str, fzs_int, noMs_nil, fzs_nil, noMs_cons, fzs_cons, big0, big1, big2, big3, big4, innO_strs, innO_strsT, ninO_strs, ninO_strsT, eqO_str, eqO_int, addO_int, subO_int, List.length_cons, List.length_nil, Nat.reduceAdd, if_true, if_false, Bool.and_true, Bool.true_and, Bool.false_eq_true, mul_c, mod_p (show (0 : Int) < 2147483647 by decide), mod_p (show (0 : Int) < 65521 by decide), Out.res, Option.map_some, so_some]
  rfl
theorem draw_nx : ∀ (xs : List Int) (b : Int × Option Int), 0 ≤ b.1 → ∃ b', forN (fun n (b : Int × Option Int) => Out.nx (sd n b.1, some n)) xs b = .nx b' ∧ 0 ≤ b'.1
  | [], b, h => ⟨b, rfl, h⟩
  | x :: xs, b, h => draw_nx xs _ (Int.fmod_nonneg_of_pos _ (by decide))
theorem f_draw (ns : List Int) (hl : ns.length ≤ 63) : ∃ js r, Dr js (-1) 0 r ∧ f__law_draw [.rol (ns.map D.int)] = .ok (dD js (-1) 0 r) .non := by
  obtain ⟨⟨r, a⟩, e, hr⟩ := draw_nx ns (7, none) (by decide)
  have h := forGo_mirror (step := forStep (tgA (.nm 2)) (evSs t__law_draw xm L__law_draw_1)) (envW ns) D.int (fun n (b : Int × Option Int) => Out.nx (sd n b.1, some n)) ns (7, none) (fun n _ b => draw_step ns n b)
  rw [e] at h
  have hc : evE t__law_draw C__law_draw_0 (envW ns (r, a)) = .ok (.v (.mls ((ns.map ab).map D.int))) (envW ns (r, a)) := by
    unfold C__law_draw_0
    rw [e_lc, List.map_map]
    have hp : plainAt (envW ns (r, a)) 2 = true := by cases a <;> rfl
    refine lc_nm_map D.int (fun n => D.int (ab n)) ns (env1 := envW ns (r, a)) (s := so (a.map D.int)) (hd := none) ?_ rfl hp (Nat.le_trans hl (by decide +kernel)) rfl (fun _ => rfl) fun x => ⟨.v (.int (ab x)), ?_, rfl⟩
    · unfold envW
      simp only [e_cn, e_nm, e_gl, e_tup, e_lst, e_bin, e_neg, e_not, e_cmp, e_cmp2, e_and, e_or, e_ite, e_ix, e_sl, e_rev, e_call, e_bi, e_isi, es_nil, es_cons, eo_no, eo_so, ec_no, ec_so, ei_sq, ei_r1, ei_r2, et_not, et_cmp, et_cmp2, et_and, et_or, et_cn, et_nm, et_ix, et_call, et_bi, et_isi, ea_nil, ea_cons, er_nil, er_cons, eta_nil, eta_cons, etr_nil, etr_cons, s_nil, s_cons, s_asg, s_par, s_app, s_ext, s_setix, s_aug, s_iff, s_ret, s_retN, s_brk, s_cnt, s_pass, s_expr, s_raise, b_ok, b_ex, b_bad, seqK, nmR, rv_v, rg_v, rt_v, rm_v, rc_v, rr_v, rv_r, rg_r, rt_r, rm_r, rc_r, rr_r, v_non, n_non, f_non, v_bl, n_bl, f_bl, v_int, n_int, f_int, v_str, n_str, f_str, v_tup, n_tup, f_tup, v_lst, n_lst, f_lst, v_rol, n_rol, f_rol, v_mls, n_mls, f_mls, toV, liftB, lift, bin2, cmp2B, binD, cmpD, t_nm, t_tp, ts_nil, ts_cons, setNs_nil, setNs_cons, wipeE, backE, plainAt, views, gives, takes, walk, unlk, hdFree, forEnd, List.getElem?_cons_zero, List.getElem?_cons_succ, List.set_cons_zero, List.set_cons_succ, List.all_cons, List.all_nil, i_len_l, i_len_t, i_int_i, i_int_b, i_abs, i_tup_l, i_tup_t, i_lst_l, i_lst_t, i_all, i_any, noMs_bl, noMs_str, noMs_int, fzs_str, fzs_int, noMs_nil, fzs_nil, noMs_cons, fzs_cons, big0, big1, big2, big3, big4, innO_strs, innO_strsT, ninO_strs, ninO_strsT, eqO_str, eqO_int, addO_int, subO_int, List.length_cons, List.length_nil, Nat.reduceAdd, if_true, if_false, Bool.and_true, Bool.true_and, Bool.false_eq_true]
    · unfold envW
      simp only [e_cn, e_nm, e_gl, e_tup, e_lst, e_bin, e_neg, e_not, e_cmp, e_cmp2, e_and, e_or, e_ite, e_ix, e_sl, e_rev, e_call, e_bi, e_isi, es_nil, es_cons, eo_no, eo_so, ec_no, ec_so, ei_sq, ei_r1, ei_r2, et_not, et_cmp, et_cmp2, et_and, et_or, et_cn, et_nm, et_ix, et_call, et_bi, et_isi, ea_nil, ea_cons, er_nil, er_cons, eta_nil, eta_cons, etr_nil, etr_cons, s_nil, s_cons, s_asg, s_par, s_app, s_ext, s_setix, s_aug, s_iff, s_ret, s_retN, s_brk, s_cnt, s_pass, s_expr, s_raise, b_ok, b_ex, b_bad, seqK, nmR, rv_v, rg_v, rt_v, rm_v, rc_v, rr_v, rv_r, rg_r, rt_r, rm_r, rc_r, rr_r, v_non, n_non, f_non, v_bl, n_bl, f_bl, v_int, n_int, f_int, v_str, n_str, f_str, v_tup, n_tup, f_tup, v_lst, n_lst, f_lst, v_rol, n_rol, f_rol, v_mls, n_mls, f_mls, toV, liftB, lift, bin2, cmp2B, binD, cmpD, t_nm, t_tp, ts_nil, ts_cons, setNs_nil, setNs_cons, wipeE, backE, plainAt, views, gives, takes, walk, unlk, hdFree, forEnd, List.getElem?_cons_zero, List.getElem?_cons_succ, List.set_cons_zero, List.set_cons_succ, List.all_cons, List.all_nil, i_len_l, i_len_t, i_int_i, i_int_b, i_abs, i_tup_l, i_tup_t, i_lst_l, i_lst_t, i_all, i_any, noMs_bl, noMs_str, noMs_int, fzs_str, fzs_int, noMs_nil, fzs_nil, noMs_cons, fzs_cons, big0, big1, big2, big3, big4, innO_strs, innO_strsT, ninO_strs, ninO_strsT, eqO_str, eqO_int, addO_int, subO_int, List.length_cons, List.length_nil, Nat.reduceAdd, if_true, if_false, Bool.and_true, Bool.true_and, Bool.false_eq_true]
      rfl
  refine ⟨ns.map ab, r, ⟨fun j hj => ?_, by decide, by decide, hr⟩, ?_⟩
  · obtain ⟨n, _, rfl⟩ := List.mem_map.mp hj
    exact ab_pos n
  · simp only [envW, Option.map_none, so_none] at h
    unfold f__law_draw b__law_draw
    simp only [den, List.append_nil, List.map_cons, List.map_nil, List.length_cons, List.length_nil, Nat.reduceAdd, Nat.reduceSub, List.replicate, List.cons_append, List.nil_append, Bool.false_and, s_forr, e_cn, e_nm, e_gl, e_tup, e_lst, e_bin, e_neg, e_not, e_cmp, e_cmp2, e_and, e_or, e_ite, e_ix, e_sl, e_rev, e_call, e_bi, e_isi, es_nil, es_cons, eo_no, eo_so, ec_no, ec_so, ei_sq, ei_r1, ei_r2, et_not, et_cmp, et_cmp2, et_and, et_or, et_cn, et_nm, et_ix, et_call, et_bi, et_isi, ea_nil, ea_cons, er_nil, er_cons, eta_nil, eta_cons, etr_nil, etr_cons, s_nil, s_cons, s_asg, s_par, s_app, s_ext, s_setix, s_aug, s_iff, s_ret, s_retN, s_brk, s_cnt, s_pass, s_expr, s_raise, b_ok, b_ex, b_bad, seqK, nmR, rv_v, rg_v, rt_v, rm_v, rc_v, rr_v, rv_r, rg_r, rt_r, rm_r, rc_r, rr_r, v_non, n_non, f_non, v_bl, n_bl, f_bl, v_int, n_int, f_int, v_str, n_str, f_str, v_tup, n_tup, f_tup, v_lst, n_lst, f_lst, v_rol, n_rol, f_rol, v_mls, n_mls, f_mls, toV, liftB, lift, bin2, cmp2B, binD, cmpD, t_nm, t_tp, ts_nil, ts_cons, setNs_nil, setNs_cons, wipeE, backE, plainAt, views, gives, takes, walk, unlk, hdFree, forEnd, List.getElem?_cons_zero, List.getElem?_cons_succ, List.set_cons_zero, List.set_cons_succ, List.all_cons, List.all_nil, i_len_l, i_len_t, i_int_i, i_int_b, i_abs, i_tup_l, i_tup_t, i_lst_l, i_lst_t, i_all, i_any, noMs_bl, noMs_str, noMs_int, fzs_str, fzs_int, noMs_nil, fzs_nil, noMs_cons, fzs_cons, big0, big1, big2, big3, big4, innO_strs, innO_strsT, ninO_strs, ninO_strsT, eqO_str, eqO_int, addO_int, subO_int, List.length_cons, List.length_nil, Nat.reduceAdd, if_true, if_false, Bool.and_true, Bool.true_and, Bool.false_eq_true, h, Out.res]
    simp only [envW] at hc ⊢
    simp only [e_cn, e_nm, e_gl, e_tup, e_lst, e_bin, e_neg, e_not, e_cmp, e_cmp2, e_and, e_or, e_ite, e_ix, e_sl, e_rev, e_call, e_bi, e_isi, es_nil, es_cons, eo_no, eo_so, ec_no, ec_so, ei_sq, ei_r1, ei_r2, et_not, et_cmp, et_cmp2, et_and, et_or, et_cn, et_nm, et_ix, et_call, et_bi, et_isi, ea_nil, ea_cons, er_nil, er_cons, eta_nil, eta_cons, etr_nil, etr_cons, s_nil, s_cons, s_asg, s_par, s_app, s_ext, s_setix, s_aug, s_iff, s_ret, s_retN, s_brk, s_cnt, s_pass, s_expr, s_raise, b_ok, b_ex, b_bad, seqK, nmR, rv_v, rg_v, rt_v, rm_v, rc_v, rr_v, rv_r, rg_r, rt_r, rm_r, rc_r, rr_r, v_non, n_non, f_non, v_bl, n_bl, f_bl, v_int, n_int, f_int, v_str, n_str, f_str, v_tup, n_tup, f_tup, v_lst, n_lst, f_lst, v_rol, n_rol, f_rol, v_mls, n_mls, f_mls, toV, liftB, lift, bin2, cmp2B, binD, cmpD, t_nm, t_tp, ts_nil, ts_cons, setNs_nil, setNs_cons, wipeE, backE, plainAt, views, gives, takes, walk, unlk, hdFree, forEnd, List.getElem?_cons_zero, List.getElem?_cons_succ, List.set_cons_zero, List.set_cons_succ, List.all_cons, List.all_nil, i_len_l, i_len_t, i_int_i, i_int_b, i_abs, i_tup_l, i_tup_t, i_lst_l, i_lst_t, i_all, i_any, noMs_bl, noMs_str, noMs_int, fzs_str, fzs_int, noMs_nil, fzs_nil, noMs_cons, fzs_cons, big0, big1, big2, big3, big4, innO_strs, innO_strsT, ninO_strs, ninO_strsT, eqO_str, eqO_int, addO_int, subO_int, List.length_cons, List.length_nil, Nat.reduceAdd, if_true, if_false, Bool.and_true, Bool.true_and, Bool.false_eq_true, hc, outOf, dD]
end K05
namespace K05
open Ev PySem
/-! ### a turn of the law -/
def envM (sc d : D) (a2 : Option D) (a4 a5 : Option D) : En := [.on sc, .on d, so a2, .un, so a4, so a5, .un, .un, .un]
theorem getW {k : Int} (h0 : 0 ≤ k) (h1 : k < 17) : ∃ w, w ∈ wordsL ∧ ixD (.lst (wordsL.map .str)) (.int k) = some (.str w) := by
  obtain ⟨n, rfl⟩ : ∃ n : Nat, k = n := ⟨k.toNat, by omega⟩
  have hn : n < wordsL.length := by show n < 17; omega
  refine ⟨wordsL[n], List.getElem_mem hn, ?_⟩
  show getI (wordsL.map D.str) n = _
  unfold getI
  rw [if_pos (by rw [decide_eq_true_eq]; omega)]
  simp [hn]
theorem t_take {js : List Int} {i s r m : Int} (I : Dr js i s r) (hm : 0 < m) (hm2 : m < 1073741824) : ∃ k i' s' r', Dr js i' s' r' ∧ 0 ≤ k ∧ k < m ∧ ∀ (x0 x2 x3 x4 x5 x6 x7 x8 : Slot), callR t_law 11 [.ref 1, .v (.int m)] [x0, .on (dD js i s r), x2, x3, x4, x5, x6, x7, x8] = .ok (.v (.int k)) [x0, .on (dD js i' s' r'), x2, x3, x4, x5, x6, x7, x8] := by
  obtain ⟨k, i', s', r', I', h0, h1, e⟩ := f_take I hm hm2
  refine ⟨k, i', s', r', I', h0, h1, fun x0 x2 x3 x4 x5 x6 x7 x8 => ?_⟩
  have := c_io (T := t_law) (f := 11) (i := 1) (d0 := dD js i s r) (rest := [.v (.int m)]) (ds := [.int m]) (env := [x0, .on (dD js i s r), x2, x3, x4, x5, x6, x7, x8]) (env1 := [x0, .un, x2, x3, x4, x5, x6, x7, x8]) (d := .int k) (o := dD js i' s' r') rfl rfl rfl rfl e rfl
  exact this
theorem words_lc {js : List Int} {i s r : Int} (I : Dr js i s r) (sc : D) (a2 a4 a5 : Option D) : ∃ (ws : List Str) (i' s' r' : Int), Dr js i' s' r' ∧ (1 ≤ ws.length ∧ ws.length ≤ 2) ∧ (∀ w ∈ ws, w ∈ wordsL) ∧
    evE t_law C_law_6 (envM sc (dD js i s r) a2 a4 a5) = .ok (.v (.mls (ws.map .str))) (envM sc (dD js i' s' r') a2 a4 a5) := by
  obtain ⟨k0, i0, s0, r0, I0, h0, h0', e0⟩ := t_take I (show (0 : Int) < 2 by decide) (by decide)
  obtain ⟨k1, i1, s1, r1, I1, h1, h1', e1⟩ := t_take I0 (show (0 : Int) < 17 by decide) (by decide)
  obtain ⟨k2, i2, s2, r2, I2, h2, h2', e2⟩ := t_take I1 (show (0 : Int) < 17 by decide) (by decide)
  obtain ⟨w1, m1, g1⟩ := getW h1 h1'
  obtain ⟨w2, m2, g2⟩ := getW h2 h2'
  have c13 : ∀ env, callR t_law 13 [] env = .ok (.v (.mls (wordsL.map .str))) env := fun env => c_give rfl rfl rfl rfl e_words
  have hr : (k0 = 0 ∧ rng1 (.v (.int (1 + k0))) = some [.int 0]) ∨ (k0 = 1 ∧ rng1 (.v (.int (1 + k0))) = some [.int 0, .int 1]) := by
    have : k0 = 0 ∨ k0 = 1 := by omega
    rcases this with rfl | rfl
    · exact .inl ⟨rfl, rfl⟩
    · exact .inr ⟨rfl, rfl⟩
  have hn1 : ∀ (js : List Int) (i s r : Int), (dD js i s r).noM = false := fun _ _ _ _ => rfl
  rcases hr with ⟨_, hr⟩ | ⟨_, hr⟩
  · refine ⟨[w1], i1, s1, r1, I1, ⟨by simp, by simp⟩, fun w hw => by rw [List.mem_singleton.mp hw]; exact m1, ?_⟩
    unfold C_law_6
    rw [e_lc]
    unfold lcE envM
    simp only [e_cn, e_nm, e_gl, e_tup, e_lst, e_bin, e_neg, e_not, e_cmp, e_cmp2, e_and, e_or, e_ite, e_ix, e_sl, e_rev, e_call, e_bi, e_isi, es_nil, es_cons, eo_no, eo_so, ec_no, ec_so, ei_sq, ei_r1, ei_r2, et_not, et_cmp, et_cmp2, et_and, et_or, et_cn, et_nm, et_ix, et_call, et_bi, et_isi, ea_nil, ea_cons, er_nil, er_cons, eta_nil, eta_cons, etr_nil, etr_cons, s_nil, s_cons, s_asg, s_par, s_app, s_ext, s_setix, s_aug, s_iff, s_ret, s_retN, s_brk, s_cnt, s_pass, s_expr, s_raise, b_ok, b_ex, b_bad, seqK, nmR, rv_v, rg_v, rt_v, rm_v, rc_v, rr_v, rv_r, rg_r, rt_r, rm_r, rc_r, rr_r, v_non, n_non, f_non, v_bl, n_bl, f_bl, v_int, n_int, f_int, v_str, n_str, f_str, v_tup, n_tup, f_tup, v_lst, n_lst, f_lst, v_rol, n_rol, f_rol, v_mls, n_mls, f_mls, toV, liftB, lift, bin2, cmp2B, binD, cmpD, t_nm, t_tp, ts_nil, ts_cons, setNs_nil, setNs_cons, wipeE, backE, plainAt, views, gives, takes, walk, unlk, hdFree, forEnd, List.getElem?_cons_zero, List.getElem?_cons_succ, List.set_cons_zero, List.set_cons_succ, List.all_cons, List.all_nil, i_len_l, i_len_t, i_int_i, i_int_b, i_abs, i_tup_l, i_tup_t, i_lst_l, i_lst_t, i_all, i_any, noMs_bl, noMs_str, noMs_int, fzs_str, fzs_int, noMs_nil, fzs_nil, noMs_cons, fzs_cons, big0, big1, big2, big3, big4, innO_strs, innO_strsT, ninO_strs, ninO_strsT, eqO_str, eqO_int, addO_int, subO_int, List.length_cons, List.length_nil, Nat.reduceAdd, if_true, if_false, Bool.and_true, Bool.true_and, Bool.false_eq_true, hn1, e0, hr, lcGo, lcStep, c13, e1, g1, lcFin, Nat.blt, List.nil_append, List.map_cons, List.map_nil]
  · refine ⟨[w1, w2], i2, s2, r2, I2, ⟨by simp, by simp⟩, fun w hw => by
      rcases List.mem_cons.mp hw with e | e
      · rw [e]; exact m1
      · rw [List.mem_singleton.mp e]; exact m2, ?_⟩
    unfold C_law_6
    rw [e_lc]
    unfold lcE envM
    simp only [e_cn, e_nm, e_gl, e_tup, e_lst, e_bin, e_neg, e_not, e_cmp, e_cmp2, e_and, e_or, e_ite, e_ix, e_sl, e_rev, e_call, e_bi, e_isi, es_nil, es_cons, eo_no, eo_so, ec_no, ec_so, ei_sq, ei_r1, ei_r2, et_not, et_cmp, et_cmp2, et_and, et_or, et_cn, et_nm, et_ix, et_call, et_bi, et_isi, ea_nil, ea_cons, er_nil, er_cons, eta_nil, eta_cons, etr_nil, etr_cons, s_nil, s_cons, s_asg, s_par, s_app, s_ext, s_setix, s_aug, s_iff, s_ret, s_retN, s_brk, s_cnt, s_pass, s_expr, s_raise, b_ok, b_ex, b_bad, seqK, nmR, rv_v, rg_v, rt_v, rm_v, rc_v, rr_v, rv_r, rg_r, rt_r, rm_r, rc_r, rr_r, v_non, n_non, f_non, v_bl, n_bl, f_bl, v_int, n_int, f_int, v_str, n_str, f_str, v_tup, n_tup, f_tup, v_lst, n_lst, f_lst, v_rol, n_rol, f_rol, v_mls, n_mls, f_mls, toV, liftB, lift, bin2, cmp2B, binD, cmpD, t_nm, t_tp, ts_nil, ts_cons, setNs_nil, setNs_cons, wipeE, backE, plainAt, views, gives, takes, walk, unlk, hdFree, forEnd, List.getElem?_cons_zero, List.getElem?_cons_succ, List.set_cons_zero, List.set_cons_succ, List.all_cons, List.all_nil, i_len_l, i_len_t, i_int_i, i_int_b, i_abs, i_tup_l, i_tup_t, i_lst_l, i_lst_t, i_all, i_any, noMs_bl, noMs_str, noMs_int, fzs_str, fzs_int, noMs_nil, fzs_nil, noMs_cons, fzs_cons, big0, big1, big2, big3, big4, innO_strs, innO_strsT, ninO_strs, ninO_strsT, eqO_str, eqO_int, addO_int, subO_int, List.length_cons, List.length_nil, Nat.reduceAdd, if_true, if_false, Bool.and_true, Bool.true_and, Bool.false_eq_true, hn1, e0, hr, lcGo, lcStep, c13, e1, g1, e2, g2, lcFin, Nat.blt, List.nil_append, List.map_cons, List.map_nil, List.cons_append]
theorem turn_ok {ws : List Str} (h1 : 1 ≤ ws.length ∧ ws.length ≤ 2) (hw : ∀ w ∈ ws, w ∈ wordsL) (ho : okW ws = true) (sc d : D) (hsc : sc.noM = true) (a2 a5 : Option D) :
    ∃ rs : List Str, evSs t_law xm (match L_law_3 with | .cons _ ss => ss | .nil => .nil) (envM sc d a2 (some (.tup (ws.map .str))) a5) = .ok .nx (envM sc d a2 (some (.tup (ws.map .str))) (some (.mls (rs.map .str)))) := by
  unfold okW at ho
  split at ho
  · rename_i fs rs ef er
    obtain ⟨o1, o2⟩ := and2 ho
    refine ⟨rs, ?_⟩
    have c13 : ∀ env, callR t_law 13 [] env = .ok (.v (.mls (wordsL.map .str))) env := fun env => c_give rfl rfl rfl rfl e_words
    have c18 : ∀ x0 x1 x2 x3 x5 x6 x7 x8, callR t_law 18 [.v (.tup (ws.map .str))] [x0, x1, x2, x3, .on (.tup (ws.map .str)), x5, x6, x7, x8] = .ok (.v (.mls (rs.map .str))) [x0, x1, x2, x3, .on (.tup (ws.map .str)), x5, x6, x7, x8] := fun x0 x1 x2 x3 x5 x6 x7 x8 => c_give rfl rfl rfl (by simp only [e_cn, e_nm, e_gl, e_tup, e_lst, e_bin, e_neg, e_not, e_cmp, e_cmp2, e_and, e_or, e_ite, e_ix, e_sl, e_rev, e_call, e_bi, e_isi, es_nil, es_cons, eo_no, eo_so, ec_no, ec_so, ei_sq, ei_r1, ei_r2, et_not, et_cmp, et_cmp2, et_and, et_or, et_cn, et_nm, et_ix, et_call, et_bi, et_isi, ea_nil, ea_cons, er_nil, er_cons, eta_nil, eta_cons, etr_nil, etr_cons, s_nil, s_cons, s_asg, s_par, s_app, s_ext, s_setix, s_aug, s_iff, s_ret, s_retN, s_brk, s_cnt, s_pass, s_expr, s_raise, b_ok, b_ex, b_bad, seqK, nmR, rv_v, rg_v, rt_v, rm_v, rc_v, rr_v, rv_r, rg_r, rt_r, rm_r, rc_r, rr_r, v_non, n_non, f_non, v_bl, n_bl, f_bl, v_int, n_int, f_int, v_str, n_str, f_str, v_tup, n_tup, f_tup, v_lst, n_lst, f_lst, v_rol, n_rol, f_rol, v_mls, n_mls, f_mls, toV, liftB, lift, bin2, cmp2B, binD, cmpD, t_nm, t_tp, ts_nil, ts_cons, setNs_nil, setNs_cons, wipeE, backE, plainAt, views, gives, takes, walk, unlk, hdFree, forEnd, List.getElem?_cons_zero, List.getElem?_cons_succ, List.set_cons_zero, List.set_cons_succ, List.all_cons, List.all_nil, i_len_l, i_len_t, i_int_i, i_int_b, i_abs, i_tup_l, i_tup_t, i_lst_l, i_lst_t, i_all, i_any, noMs_bl, noMs_str, noMs_int, fzs_str, fzs_int, noMs_nil, fzs_nil, noMs_cons, fzs_cons, big0, big1, big2, big3, big4, innO_strs, innO_strsT, ninO_strs, ninO_strsT, eqO_str, eqO_int, addO_int, subO_int, List.length_cons, List.length_nil, Nat.reduceAdd, if_true, if_false, Bool.and_true, Bool.true_and, Bool.false_eq_true]) (f_reached ws rs er)
    have c19 : ∀ x0 x1 x2 x3 x5 x6 x7 x8, callR t_law 19 [.v (.int 0), .v (.tup (ws.map .str)), .v (.str ⟨#[]⟩)] [x0, x1, x2, x3, .on (.tup (ws.map .str)), x5, x6, x7, x8] = .ok (.v (.tup (fs.map .str))) [x0, x1, x2, x3, .on (.tup (ws.map .str)), x5, x6, x7, x8] := fun x0 x1 x2 x3 x5 x6 x7 x8 => c_give rfl rfl rfl (by simp only [e_cn, e_nm, e_gl, e_tup, e_lst, e_bin, e_neg, e_not, e_cmp, e_cmp2, e_and, e_or, e_ite, e_ix, e_sl, e_rev, e_call, e_bi, e_isi, es_nil, es_cons, eo_no, eo_so, ec_no, ec_so, ei_sq, ei_r1, ei_r2, et_not, et_cmp, et_cmp2, et_and, et_or, et_cn, et_nm, et_ix, et_call, et_bi, et_isi, ea_nil, ea_cons, er_nil, er_cons, eta_nil, eta_cons, etr_nil, etr_cons, s_nil, s_cons, s_asg, s_par, s_app, s_ext, s_setix, s_aug, s_iff, s_ret, s_retN, s_brk, s_cnt, s_pass, s_expr, s_raise, b_ok, b_ex, b_bad, seqK, nmR, rv_v, rg_v, rt_v, rm_v, rc_v, rr_v, rv_r, rg_r, rt_r, rm_r, rc_r, rr_r, v_non, n_non, f_non, v_bl, n_bl, f_bl, v_int, n_int, f_int, v_str, n_str, f_str, v_tup, n_tup, f_tup, v_lst, n_lst, f_lst, v_rol, n_rol, f_rol, v_mls, n_mls, f_mls, toV, liftB, lift, bin2, cmp2B, binD, cmpD, t_nm, t_tp, ts_nil, ts_cons, setNs_nil, setNs_cons, wipeE, backE, plainAt, views, gives, takes, walk, unlk, hdFree, forEnd, List.getElem?_cons_zero, List.getElem?_cons_succ, List.set_cons_zero, List.set_cons_succ, List.all_cons, List.all_nil, i_len_l, i_len_t, i_int_i, i_int_b, i_abs, i_tup_l, i_tup_t, i_lst_l, i_lst_t, i_all, i_any, noMs_bl, noMs_str, noMs_int, fzs_str, fzs_int, noMs_nil, fzs_nil, noMs_cons, fzs_cons, big0, big1, big2, big3, big4, innO_strs, innO_strsT, ninO_strs, ninO_strsT, eqO_str, eqO_int, addO_int, subO_int, List.length_cons, List.length_nil, Nat.reduceAdd, if_true, if_false, Bool.and_true, Bool.true_and, Bool.false_eq_true]) (f_ask0 h1 hw ef ⟨#[]⟩)
    have c191 : ∀ (w : Str) (x0 x1 x2 x3 x5 x6 x7 : Slot), w ∈ wordsL → callR t_law 19 [.v (.int 1), .v (.tup (ws.map .str)), .v (.str w)] [x0, x1, x2, x3, .on (.tup (ws.map .str)), x5, x6, x7, .on (.str w)] = .ok (.v (.bl (decide (w ∈ fs)))) [x0, x1, x2, x3, .on (.tup (ws.map .str)), x5, x6, x7, .on (.str w)] := fun w x0 x1 x2 x3 x5 x6 x7 h => c_give rfl rfl rfl (by simp only [e_cn, e_nm, e_gl, e_tup, e_lst, e_bin, e_neg, e_not, e_cmp, e_cmp2, e_and, e_or, e_ite, e_ix, e_sl, e_rev, e_call, e_bi, e_isi, es_nil, es_cons, eo_no, eo_so, ec_no, ec_so, ei_sq, ei_r1, ei_r2, et_not, et_cmp, et_cmp2, et_and, et_or, et_cn, et_nm, et_ix, et_call, et_bi, et_isi, ea_nil, ea_cons, er_nil, er_cons, eta_nil, eta_cons, etr_nil, etr_cons, s_nil, s_cons, s_asg, s_par, s_app, s_ext, s_setix, s_aug, s_iff, s_ret, s_retN, s_brk, s_cnt, s_pass, s_expr, s_raise, b_ok, b_ex, b_bad, seqK, nmR, rv_v, rg_v, rt_v, rm_v, rc_v, rr_v, rv_r, rg_r, rt_r, rm_r, rc_r, rr_r, v_non, n_non, f_non, v_bl, n_bl, f_bl, v_int, n_int, f_int, v_str, n_str, f_str, v_tup, n_tup, f_tup, v_lst, n_lst, f_lst, v_rol, n_rol, f_rol, v_mls, n_mls, f_mls, toV, liftB, lift, bin2, cmp2B, binD, cmpD, t_nm, t_tp, ts_nil, ts_cons, setNs_nil, setNs_cons, wipeE, backE, plainAt, views, gives, takes, walk, unlk, hdFree, forEnd, List.getElem?_cons_zero, List.getElem?_cons_succ, List.set_cons_zero, List.set_cons_succ, List.all_cons, List.all_nil, i_len_l, i_len_t, i_int_i, i_int_b, i_abs, i_tup_l, i_tup_t, i_lst_l, i_lst_t, i_all, i_any, noMs_bl, noMs_str, noMs_int, fzs_str, fzs_int, noMs_nil, fzs_nil, noMs_cons, fzs_cons, big0, big1, big2, big3, big4, innO_strs, innO_strsT, ninO_strs, ninO_strsT, eqO_str, eqO_int, addO_int, subO_int, List.length_cons, List.length_nil, Nat.reduceAdd, if_true, if_false, Bool.and_true, Bool.true_and, Bool.false_eq_true]) (f_ask1 h1 hw ef w h)
    have c12 : ∀ (a b : Bool) (env : En), callR t_law 12 [.v (.bl a), .v (.bl b)] env = .ok (.v (.bl (decide (a = b)))) env := fun a b env => c_give rfl rfl rfl rfl (f_says a b)
    have l5 : evE t_law C_law_5 (envM sc d a2 (some (.tup (ws.map .str))) (some (.mls (rs.map .str)))) = .ok (.v (.mls ((wordsL.filter fun w => decide (w ∈ rs)).map .str))) (envM sc d a2 (some (.tup (ws.map .str))) (some (.mls (rs.map .str)))) := by
      unfold C_law_5
      rw [e_lc]
      refine lc_nm D.str (fun w => decide (w ∈ rs)) D.str wordsL (env1 := envM sc d a2 (some (.tup (ws.map .str))) (some (.mls (rs.map .str)))) (s := .un) (hd := none) ?_ rfl rfl words_len rfl (fun x => ?_) fun x hx => ⟨.v (.str x), ?_, ?_⟩
      · simp only [e_cn, e_nm, e_gl, e_tup, e_lst, e_bin, e_neg, e_not, e_cmp, e_cmp2, e_and, e_or, e_ite, e_ix, e_sl, e_rev, e_call, e_bi, e_isi, es_nil, es_cons, eo_no, eo_so, ec_no, ec_so, ei_sq, ei_r1, ei_r2, et_not, et_cmp, et_cmp2, et_and, et_or, et_cn, et_nm, et_ix, et_call, et_bi, et_isi, ea_nil, ea_cons, er_nil, er_cons, eta_nil, eta_cons, etr_nil, etr_cons, s_nil, s_cons, s_asg, s_par, s_app, s_ext, s_setix, s_aug, s_iff, s_ret, s_retN, s_brk, s_cnt, s_pass, s_expr, s_raise, b_ok, b_ex, b_bad, seqK, nmR, rv_v, rg_v, rt_v, rm_v, rc_v, rr_v, rv_r, rg_r, rt_r, rm_r, rc_r, rr_r, v_non, n_non, f_non, v_bl, n_bl, f_bl, v_int, n_int, f_int, v_str, n_str, f_str, v_tup, n_tup, f_tup, v_lst, n_lst, f_lst, v_rol, n_rol, f_rol, v_mls, n_mls, f_mls, toV, liftB, lift, bin2, cmp2B, binD, cmpD, t_nm, t_tp, ts_nil, ts_cons, setNs_nil, setNs_cons, wipeE, backE, plainAt, views, gives, takes, walk, unlk, hdFree, forEnd, List.getElem?_cons_zero, List.getElem?_cons_succ, List.set_cons_zero, List.set_cons_succ, List.all_cons, List.all_nil, i_len_l, i_len_t, i_int_i, i_int_b, i_abs, i_tup_l, i_tup_t, i_lst_l, i_lst_t, i_all, i_any, noMs_bl, noMs_str, noMs_int, fzs_str, fzs_int, noMs_nil, fzs_nil, noMs_cons, fzs_cons, big0, big1, big2, big3, big4, innO_strs, innO_strsT, ninO_strs, ninO_strsT, eqO_str, eqO_int, addO_int, subO_int, List.length_cons, List.length_nil, Nat.reduceAdd, if_true, if_false, Bool.and_true, Bool.true_and, Bool.false_eq_true, c13]
      · simp only [envM, so_some, e_cn, e_nm, e_gl, e_tup, e_lst, e_bin, e_neg, e_not, e_cmp, e_cmp2, e_and, e_or, e_ite, e_ix, e_sl, e_rev, e_call, e_bi, e_isi, es_nil, es_cons, eo_no, eo_so, ec_no, ec_so, ei_sq, ei_r1, ei_r2, et_not, et_cmp, et_cmp2, et_and, et_or, et_cn, et_nm, et_ix, et_call, et_bi, et_isi, ea_nil, ea_cons, er_nil, er_cons, eta_nil, eta_cons, etr_nil, etr_cons, s_nil, s_cons, s_asg, s_par, s_app, s_ext, s_setix, s_aug, s_iff, s_ret, s_retN, s_brk, s_cnt, s_pass, s_expr, s_raise, b_ok, b_ex, b_bad, seqK, nmR, rv_v, rg_v, rt_v, rm_v, rc_v, rr_v, rv_r, rg_r, rt_r, rm_r, rc_r, rr_r, v_non, n_non, f_non, v_bl, n_bl, f_bl, v_int, n_int, f_int, v_str, n_str, f_str, v_tup, n_tup, f_tup, v_lst, n_lst, f_lst, v_rol, n_rol, f_rol, v_mls, n_mls, f_mls, toV, liftB, lift, bin2, cmp2B, binD, cmpD, t_nm, t_tp, ts_nil, ts_cons, setNs_nil, setNs_cons, wipeE, backE, plainAt, views, gives, takes, walk, unlk, hdFree, forEnd, List.getElem?_cons_zero, List.getElem?_cons_succ, List.set_cons_zero, List.set_cons_succ, List.all_cons, List.all_nil, i_len_l, i_len_t, i_int_i, i_int_b, i_abs, i_tup_l, i_tup_t, i_lst_l, i_lst_t, i_all, i_any, noMs_bl, noMs_str, noMs_int, fzs_str, fzs_int, noMs_nil, fzs_nil, noMs_cons, fzs_cons, big0, big1, big2, big3, big4, innO_strs, innO_strsT, ninO_strs, ninO_strsT, eqO_str, eqO_int, addO_int, subO_int, List.length_cons, List.length_nil, Nat.reduceAdd, if_true, if_false, Bool.and_true, Bool.true_and, Bool.false_eq_true]
      · simp only [envM, so_some, e_cn, e_nm, e_gl, e_tup, e_lst, e_bin, e_neg, e_not, e_cmp, e_cmp2, e_and, e_or, e_ite, e_ix, e_sl, e_rev, e_call, e_bi, e_isi, es_nil, es_cons, eo_no, eo_so, ec_no, ec_so, ei_sq, ei_r1, ei_r2, et_not, et_cmp, et_cmp2, et_and, et_or, et_cn, et_nm, et_ix, et_call, et_bi, et_isi, ea_nil, ea_cons, er_nil, er_cons, eta_nil, eta_cons, etr_nil, etr_cons, s_nil, s_cons, s_asg, s_par, s_app, s_ext, s_setix, s_aug, s_iff, s_ret, s_retN, s_brk, s_cnt, s_pass, s_expr, s_raise, b_ok, b_ex, b_bad, seqK, nmR, rv_v, rg_v, rt_v, rm_v, rc_v, rr_v, rv_r, rg_r, rt_r, rm_r, rc_r, rr_r, v_non, n_non, f_non, v_bl, n_bl, f_bl, v_int, n_int, f_int, v_str, n_str, f_str, v_tup, n_tup, f_tup, v_lst, n_lst, f_lst, v_rol, n_rol, f_rol, v_mls, n_mls, f_mls, toV, liftB, lift, bin2, cmp2B, binD, cmpD, t_nm, t_tp, ts_nil, ts_cons, setNs_nil, setNs_cons, wipeE, backE, plainAt, views, gives, takes, walk, unlk, hdFree, forEnd, List.getElem?_cons_zero, List.getElem?_cons_succ, List.set_cons_zero, List.set_cons_succ, List.all_cons, List.all_nil, i_len_l, i_len_t, i_int_i, i_int_b, i_abs, i_tup_l, i_tup_t, i_lst_l, i_lst_t, i_all, i_any, noMs_bl, noMs_str, noMs_int, fzs_str, fzs_int, noMs_nil, fzs_nil, noMs_cons, fzs_cons, big0, big1, big2, big3, big4, innO_strs, innO_strsT, ninO_strs, ninO_strsT, eqO_str, eqO_int, addO_int, subO_int, List.length_cons, List.length_nil, Nat.reduceAdd, if_true, if_false, Bool.and_true, Bool.true_and, Bool.false_eq_true]
      · simp only [e_cn, e_nm, e_gl, e_tup, e_lst, e_bin, e_neg, e_not, e_cmp, e_cmp2, e_and, e_or, e_ite, e_ix, e_sl, e_rev, e_call, e_bi, e_isi, es_nil, es_cons, eo_no, eo_so, ec_no, ec_so, ei_sq, ei_r1, ei_r2, et_not, et_cmp, et_cmp2, et_and, et_or, et_cn, et_nm, et_ix, et_call, et_bi, et_isi, ea_nil, ea_cons, er_nil, er_cons, eta_nil, eta_cons, etr_nil, etr_cons, s_nil, s_cons, s_asg, s_par, s_app, s_ext, s_setix, s_aug, s_iff, s_ret, s_retN, s_brk, s_cnt, s_pass, s_expr, s_raise, b_ok, b_ex, b_bad, seqK, nmR, rv_v, rg_v, rt_v, rm_v, rc_v, rr_v, rv_r, rg_r, rt_r, rm_r, rc_r, rr_r, v_non, n_non, f_non, v_bl, n_bl, f_bl, v_int, n_int, f_int, v_str, n_str, f_str, v_tup, n_tup, f_tup, v_lst, n_lst, f_lst, v_rol, n_rol, f_rol, v_mls, n_mls, f_mls, toV, liftB, lift, bin2, cmp2B, binD, cmpD, t_nm, t_tp, ts_nil, ts_cons, setNs_nil, setNs_cons, wipeE, backE, plainAt, views, gives, takes, walk, unlk, hdFree, forEnd, List.getElem?_cons_zero, List.getElem?_cons_succ, List.set_cons_zero, List.set_cons_succ, List.all_cons, List.all_nil, i_len_l, i_len_t, i_int_i, i_int_b, i_abs, i_tup_l, i_tup_t, i_lst_l, i_lst_t, i_all, i_any, noMs_bl, noMs_str, noMs_int, fzs_str, fzs_int, noMs_nil, fzs_nil, noMs_cons, fzs_cons, big0, big1, big2, big3, big4, innO_strs, innO_strsT, ninO_strs, ninO_strsT, eqO_str, eqO_int, addO_int, subO_int, List.length_cons, List.length_nil, Nat.reduceAdd, if_true, if_false, Bool.and_true, Bool.true_and, Bool.false_eq_true]
    have l4 : evE t_law C_law_4 (envM sc d a2 (some (.tup (ws.map .str))) (some (.mls (rs.map .str)))) = .ok (.v (.mls (wordsL.map fun w => .bl (decide (decide (w ∈ fs) = decide (w ∈ rs)))))) (envM sc d a2 (some (.tup (ws.map .str))) (some (.mls (rs.map .str)))) := by
      unfold C_law_4
      rw [e_lc]
      have q := lc_nmM (w := evI t_law (It.sq (E.call 13 Es.nil))) (cf := evC t_law Oe.no) (el := evE t_law (E.call 12 (Es.cons (E.call 19 (Es.cons (E.cn (D.int (1))) (Es.cons (E.nm 4) (Es.cons (E.nm 8) Es.nil)))) (Es.cons (E.cmp .inn (E.nm 8) (E.nm 5)) Es.nil)))) (i := 8) (env := envM sc d a2 (some (.tup (ws.map .str))) (some (.mls (rs.map .str)))) (env2 := envM sc d a2 (some (.tup (ws.map .str))) (some (.mls (rs.map .str)))) D.str (fun _ => true) (fun w => D.bl (decide (decide (w ∈ fs) = decide (w ∈ rs)))) wordsL (env1 := envM sc d a2 (some (.tup (ws.map .str))) (some (.mls (rs.map .str)))) (s := .un) (hd := none) ?_ rfl rfl words_len rfl (fun x _ => rfl) fun x hm _ => ⟨.v (.bl (decide (decide (x ∈ fs) = decide (x ∈ rs)))), ?_, ?_⟩
      · rw [List.filter_eq_self.mpr fun _ _ => rfl] at q
        exact q
      · simp only [e_cn, e_nm, e_gl, e_tup, e_lst, e_bin, e_neg, e_not, e_cmp, e_cmp2, e_and, e_or, e_ite, e_ix, e_sl, e_rev, e_call, e_bi, e_isi, es_nil, es_cons, eo_no, eo_so, ec_no, ec_so, ei_sq, ei_r1, ei_r2, et_not, et_cmp, et_cmp2, et_and, et_or, et_cn, et_nm, et_ix, et_call, et_bi, et_isi, ea_nil, ea_cons, er_nil, er_cons, eta_nil, eta_cons, etr_nil, etr_cons, s_nil, s_cons, s_asg, s_par, s_app, s_ext, s_setix, s_aug, s_iff, s_ret, s_retN, s_brk, s_cnt, s_pass, s_expr, s_raise, b_ok, b_ex, b_bad, seqK, nmR, rv_v, rg_v, rt_v, rm_v, rc_v, rr_v, rv_r, rg_r, rt_r, rm_r, rc_r, rr_r, v_non, n_non, f_non, v_bl, n_bl, f_bl, v_int, n_int, f_int, v_str, n_str, f_str, v_tup, n_tup, f_tup, v_lst, n_lst, f_lst, v_rol, n_rol, f_rol, v_mls, n_mls, f_mls, toV, liftB, lift, bin2, cmp2B, binD, cmpD, t_nm, t_tp, ts_nil, ts_cons, setNs_nil, setNs_cons, wipeE, backE, plainAt, views, gives, takes, walk, unlk, hdFree, forEnd, List.getElem?_cons_zero, List.getElem?_cons_succ, List.set_cons_zero, List.set_cons_succ, List.all_cons, List.all_nil, i_len_l, i_len_t, i_int_i, i_int_b, i_abs, i_tup_l, i_tup_t, i_lst_l, i_lst_t, i_all, i_any, noMs_bl, noMs_str, noMs_int, fzs_str, fzs_int, noMs_nil, fzs_nil, noMs_cons, fzs_cons, big0, big1, big2, big3, big4, innO_strs, innO_strsT, ninO_strs, ninO_strsT, eqO_str, eqO_int, addO_int, subO_int, List.length_cons, List.length_nil, Nat.reduceAdd, if_true, if_false, Bool.and_true, Bool.true_and, Bool.false_eq_true, c13]
      · simp only [envM, so_some, e_cn, e_nm, e_gl, e_tup, e_lst, e_bin, e_neg, e_not, e_cmp, e_cmp2, e_and, e_or, e_ite, e_ix, e_sl, e_rev, e_call, e_bi, e_isi, es_nil, es_cons, eo_no, eo_so, ec_no, ec_so, ei_sq, ei_r1, ei_r2, et_not, et_cmp, et_cmp2, et_and, et_or, et_cn, et_nm, et_ix, et_call, et_bi, et_isi, ea_nil, ea_cons, er_nil, er_cons, eta_nil, eta_cons, etr_nil, etr_cons, s_nil, s_cons, s_asg, s_par, s_app, s_ext, s_setix, s_aug, s_iff, s_ret, s_retN, s_brk, s_cnt, s_pass, s_expr, s_raise, b_ok, b_ex, b_bad, seqK, nmR, rv_v, rg_v, rt_v, rm_v, rc_v, rr_v, rv_r, rg_r, rt_r, rm_r, rc_r, rr_r, v_non, n_non, f_non, v_bl, n_bl, f_bl, v_int, n_int, f_int, v_str, n_str, f_str, v_tup, n_tup, f_tup, v_lst, n_lst, f_lst, v_rol, n_rol, f_rol, v_mls, n_mls, f_mls, toV, liftB, lift, bin2, cmp2B, binD, cmpD, t_nm, t_tp, ts_nil, ts_cons, setNs_nil, setNs_cons, wipeE, backE, plainAt, views, gives, takes, walk, unlk, hdFree, forEnd, List.getElem?_cons_zero, List.getElem?_cons_succ, List.set_cons_zero, List.set_cons_succ, List.all_cons, List.all_nil, i_len_l, i_len_t, i_int_i, i_int_b, i_abs, i_tup_l, i_tup_t, i_lst_l, i_lst_t, i_all, i_any, noMs_bl, noMs_str, noMs_int, fzs_str, fzs_int, noMs_nil, fzs_nil, noMs_cons, fzs_cons, big0, big1, big2, big3, big4, innO_strs, innO_strsT, ninO_strs, ninO_strsT, eqO_str, eqO_int, addO_int, subO_int, List.length_cons, List.length_nil, Nat.reduceAdd, if_true, if_false, Bool.and_true, Bool.true_and, Bool.false_eq_true, c191 x _ _ _ _ _ _ _ hm, c12]
      · simp only [e_cn, e_nm, e_gl, e_tup, e_lst, e_bin, e_neg, e_not, e_cmp, e_cmp2, e_and, e_or, e_ite, e_ix, e_sl, e_rev, e_call, e_bi, e_isi, es_nil, es_cons, eo_no, eo_so, ec_no, ec_so, ei_sq, ei_r1, ei_r2, et_not, et_cmp, et_cmp2, et_and, et_or, et_cn, et_nm, et_ix, et_call, et_bi, et_isi, ea_nil, ea_cons, er_nil, er_cons, eta_nil, eta_cons, etr_nil, etr_cons, s_nil, s_cons, s_asg, s_par, s_app, s_ext, s_setix, s_aug, s_iff, s_ret, s_retN, s_brk, s_cnt, s_pass, s_expr, s_raise, b_ok, b_ex, b_bad, seqK, nmR, rv_v, rg_v, rt_v, rm_v, rc_v, rr_v, rv_r, rg_r, rt_r, rm_r, rc_r, rr_r, v_non, n_non, f_non, v_bl, n_bl, f_bl, v_int, n_int, f_int, v_str, n_str, f_str, v_tup, n_tup, f_tup, v_lst, n_lst, f_lst, v_rol, n_rol, f_rol, v_mls, n_mls, f_mls, toV, liftB, lift, bin2, cmp2B, binD, cmpD, t_nm, t_tp, ts_nil, ts_cons, setNs_nil, setNs_cons, wipeE, backE, plainAt, views, gives, takes, walk, unlk, hdFree, forEnd, List.getElem?_cons_zero, List.getElem?_cons_succ, List.set_cons_zero, List.set_cons_succ, List.all_cons, List.all_nil, i_len_l, i_len_t, i_int_i, i_int_b, i_abs, i_tup_l, i_tup_t, i_lst_l, i_lst_t, i_all, i_any, noMs_bl, noMs_str, noMs_int, fzs_str, fzs_int, noMs_nil, fzs_nil, noMs_cons, fzs_cons, big0, big1, big2, big3, big4, innO_strs, innO_strsT, ninO_strs, ninO_strsT, eqO_str, eqO_int, addO_int, subO_int, List.length_cons, List.length_nil, Nat.reduceAdd, if_true, if_false, Bool.and_true, Bool.true_and, Bool.false_eq_true]
    have hall : (wordsL.all fun w => decide (decide (w ∈ fs) = decide (w ∈ rs))) = true := o2
    have hne : neO (.tup (fs.map .str)) (.tup ((wordsL.filter fun w => decide (w ∈ rs)).map .str)) = some false := by
      split at o1
      · rename_i b eb
        cases b
        · exact eb
        · cases o1
      · cases o1
    unfold L_law_3
    simp only [envM, so_some] at l4 l5 ⊢
    have a5' : ∀ (x : D) (p : En), p[5]? = some (so a5) → tgA (.nm 5) x p = some (p.set 5 (.on x)) := fun x p h => t_so h
    simp only [s_cons, s_asg, e_call, es_cons, es_nil, e_nm, nmR, List.getElem?_cons_zero, List.getElem?_cons_succ, n_tup, noMs_str, if_true, b_ok, c18, rt_v]
    rw [a5' _ _ rfl]
    simp only [e_cn, e_nm, e_gl, e_tup, e_lst, e_bin, e_neg, e_not, e_cmp, e_cmp2, e_and, e_or, e_ite, e_ix, e_sl, e_rev, e_call, e_bi, e_isi, es_nil, es_cons, eo_no, eo_so, ec_no, ec_so, ei_sq, ei_r1, ei_r2, et_not, et_cmp, et_cmp2, et_and, et_or, et_cn, et_nm, et_ix, et_call, et_bi, et_isi, ea_nil, ea_cons, er_nil, er_cons, eta_nil, eta_cons, etr_nil, etr_cons, s_nil, s_cons, s_asg, s_par, s_app, s_ext, s_setix, s_aug, s_iff, s_ret, s_retN, s_brk, s_cnt, s_pass, s_expr, s_raise, b_ok, b_ex, b_bad, seqK, nmR, rv_v, rg_v, rt_v, rm_v, rc_v, rr_v, rv_r, rg_r, rt_r, rm_r, rc_r, rr_r, v_non, n_non, f_non, v_bl, n_bl, f_bl, v_int, n_int, f_int, v_str, n_str, f_str, v_tup, n_tup, f_tup, v_lst, n_lst, f_lst, v_rol, n_rol, f_rol, v_mls, n_mls, f_mls, toV, liftB, lift, bin2, cmp2B, binD, cmpD, t_nm, t_tp, ts_nil, ts_cons, setNs_nil, setNs_cons, wipeE, backE, plainAt, views, gives, takes, walk, unlk, hdFree, forEnd, List.getElem?_cons_zero, List.getElem?_cons_succ, List.set_cons_zero, List.set_cons_succ, List.all_cons, List.all_nil, i_len_l, i_len_t, i_int_i, i_int_b, i_abs, i_tup_l, i_tup_t, i_lst_l, i_lst_t, i_all, i_any, noMs_bl, noMs_str, noMs_int, fzs_str, fzs_int, noMs_nil, fzs_nil, noMs_cons, fzs_cons, big0, big1, big2, big3, big4, innO_strs, innO_strsT, ninO_strs, ninO_strsT, eqO_str, eqO_int, addO_int, subO_int, List.length_cons, List.length_nil, Nat.reduceAdd, if_true, if_false, Bool.and_true, Bool.true_and, Bool.false_eq_true, c19, l5, hne, l4, truD, hall, Bool.not_true]
  · cases ho
theorem one_ok : ∀ w1 ∈ wordsL, okW [w1] = true := by decide +kernel
end K05
namespace K05
open Ev PySem
/-! ### the finite part: all lists of one or two words -/
theorem pk0 : (wordsL.all fun w2 => okW ["quick", w2]) = true := by decide +kernel
theorem pk1 : (wordsL.all fun w2 => okW ["wait", w2]) = true := by decide +kernel
theorem pk2 : (wordsL.all fun w2 => okW ["lock", w2]) = true := by decide +kernel
theorem pk3 : (wordsL.all fun w2 => okW ["alone", w2]) = true := by decide +kernel
theorem pk4 : (wordsL.all fun w2 => okW ["starve", w2]) = true := by decide +kernel
theorem pk5 : (wordsL.all fun w2 => okW ["dead", w2]) = true := by decide +kernel
theorem pk6 : (wordsL.all fun w2 => okW ["go", w2]) = true := by decide +kernel
theorem pk7 : (wordsL.all fun w2 => okW ["both", w2]) = true := by decide +kernel
theorem pk8 : (wordsL.all fun w2 => okW ["move", w2]) = true := by decide +kernel
theorem pk9 : (wordsL.all fun w2 => okW ["calm", w2]) = true := by decide +kernel
theorem pk10 : (wordsL.all fun w2 => okW ["pass", w2]) = true := by decide +kernel
theorem pk11 : (wordsL.all fun w2 => okW ["nimble", w2]) = true := by decide +kernel
theorem pk12 : (wordsL.all fun w2 => okW ["turn", w2]) = true := by decide +kernel
theorem pk13 : (wordsL.all fun w2 => okW ["token", w2]) = true := by decide +kernel
theorem pk14 : (wordsL.all fun w2 => okW ["alike", w2]) = true := by decide +kernel
theorem pk15 : (wordsL.all fun w2 => okW ["com", w2]) = true := by decide +kernel
theorem pk16 : (wordsL.all fun w2 => okW ["one", w2]) = true := by decide +kernel
theorem pair_ok : ∀ w1 ∈ wordsL, ∀ w2 ∈ wordsL, okW [w1, w2] = true := fun w1 h w2 h2 => by
  rcases List.mem_cons.mp h with e | h
  · rw [e]; exact List.all_eq_true.mp pk0 w2 h2
  rcases List.mem_cons.mp h with e | h
  · rw [e]; exact List.all_eq_true.mp pk1 w2 h2
  rcases List.mem_cons.mp h with e | h
  · rw [e]; exact List.all_eq_true.mp pk2 w2 h2
  rcases List.mem_cons.mp h with e | h
  · rw [e]; exact List.all_eq_true.mp pk3 w2 h2
  rcases List.mem_cons.mp h with e | h
  · rw [e]; exact List.all_eq_true.mp pk4 w2 h2
  rcases List.mem_cons.mp h with e | h
  · rw [e]; exact List.all_eq_true.mp pk5 w2 h2
  rcases List.mem_cons.mp h with e | h
  · rw [e]; exact List.all_eq_true.mp pk6 w2 h2
  rcases List.mem_cons.mp h with e | h
  · rw [e]; exact List.all_eq_true.mp pk7 w2 h2
  rcases List.mem_cons.mp h with e | h
  · rw [e]; exact List.all_eq_true.mp pk8 w2 h2
  rcases List.mem_cons.mp h with e | h
  · rw [e]; exact List.all_eq_true.mp pk9 w2 h2
  rcases List.mem_cons.mp h with e | h
  · rw [e]; exact List.all_eq_true.mp pk10 w2 h2
  rcases List.mem_cons.mp h with e | h
  · rw [e]; exact List.all_eq_true.mp pk11 w2 h2
  rcases List.mem_cons.mp h with e | h
  · rw [e]; exact List.all_eq_true.mp pk12 w2 h2
  rcases List.mem_cons.mp h with e | h
  · rw [e]; exact List.all_eq_true.mp pk13 w2 h2
  rcases List.mem_cons.mp h with e | h
  · rw [e]; exact List.all_eq_true.mp pk14 w2 h2
  rcases List.mem_cons.mp h with e | h
  · rw [e]; exact List.all_eq_true.mp pk15 w2 h2
  rcases List.mem_cons.mp h with e | h
  · rw [e]; exact List.all_eq_true.mp pk16 w2 h2
  cases h
theorem all_ok {ws : List Str} (h1 : 1 ≤ ws.length ∧ ws.length ≤ 2) (hw : ∀ w ∈ ws, w ∈ wordsL) : okW ws = true := by
  match ws, h1, hw with
  | [], h1, _ => exact absurd h1.1 (by decide)
  | [a], _, hw => exact one_ok a (hw a (by simp))
  | [a, b], _, hw => exact pair_ok a (hw a (by simp)) b (hw b (by simp))
  | _ :: _ :: _ :: _, h1, _ => exact absurd h1.2 (by simp)
end K05
namespace K05
open Ev PySem
theorem forGo_inv {step : D → En → Res Fl} {I : En → Prop} : ∀ (xs : List D), (∀ x ∈ xs, ∀ env, I env → ∃ env', step x env = .ok .nx env' ∧ I env') → ∀ env, I env → ∃ env', forGo step xs env = .ok .nx env' ∧ I env'
  | [], _, env, h => ⟨env, rfl, h⟩
  | x :: xs, hs, env, h => by
    obtain ⟨e1, h1, h2⟩ := hs x List.mem_cons_self env h
    obtain ⟨e2, h3, h4⟩ := forGo_inv xs (fun y hy => hs y (List.mem_cons_of_mem _ hy)) e1 h2
    refine ⟨e2, ?_, h4⟩
    show loopK (forGo step xs) (step x env) = _
    rw [h1]; exact h3
def IM (sc : D) (env : En) : Prop := ∃ js i s r a2 a4 a5, Dr js i s r ∧ env = envM sc (dD js i s r) a2 a4 a5
theorem turn (sc : D) (hsc : sc.noM = true) (t : D) (env : En) (h : IM sc env) : ∃ env', forStep (tgA (.nm 2)) (evSs t_law xm L_law_3) t env = .ok .nx env' ∧ IM sc env' := by
  obtain ⟨js, i, s, r, a2, a4, a5, I, rfl⟩ := h
  obtain ⟨ws, i', s', r', I', h1, hw, e⟩ := words_lc I sc (some t) a4 a5
  obtain ⟨rs, e2⟩ := turn_ok h1 hw (all_ok h1 hw) sc (dD js i' s' r') hsc (some t) a5
  refine ⟨_, ?_, js, i', s', r', some t, some (.tup (ws.map .str)), some (.mls (rs.map .str)), I', rfl⟩
  unfold forStep
  rw [show tgA (.nm 2) t (envM sc (dD js i s r) a2 a4 a5) = some (envM sc (dD js i s r) (some t) a4 a5) from t_so (b := a2) rfl]
  rw [show L_law_3 = .cons (S.asg (Tg.nm 4) (E.bi .tuple (Es.cons C_law_6 Es.nil))) (match L_law_3 with | .cons _ ss => ss | .nil => .nil) from rfl]
  dsimp only
  rw [s_cons, s_asg, e_bi, es_cons, e]
  simp only [es_nil, b_ok, views, rv_v, v_mls, noMs_str, if_true, i_tup_l, lift, rt_v]
  rw [show tgA (.nm 4) (.tup (ws.map .str)) (envM sc (dD js i' s' r') (some t) a4 a5) = some (envM sc (dD js i' s' r') (some t) (some (.tup (ws.map .str))) a5) from t_so (b := a4) rfl]
  simp only [e_cn, e_nm, e_gl, e_tup, e_lst, e_bin, e_neg, e_not, e_cmp, e_cmp2, e_and, e_or, e_ite, e_ix, e_sl, e_rev, e_call, e_bi, e_isi, es_nil, es_cons, eo_no, eo_so, ec_no, ec_so, ei_sq, ei_r1, ei_r2, et_not, et_cmp, et_cmp2, et_and, et_or, et_cn, et_nm, et_ix, et_call, et_bi, et_isi, ea_nil, ea_cons, er_nil, er_cons, eta_nil, eta_cons, etr_nil, etr_cons, s_nil, s_cons, s_asg, s_par, s_app, s_ext, s_setix, s_aug, s_iff, s_ret, s_retN, s_brk, s_cnt, s_pass, s_expr, s_raise, b_ok, b_ex, b_bad, seqK, nmR, rv_v, rg_v, rt_v, rm_v, rc_v, rr_v, rv_r, rg_r, rt_r, rm_r, rc_r, rr_r, v_non, n_non, f_non, v_bl, n_bl, f_bl, v_int, n_int, f_int, v_str, n_str, f_str, v_tup, n_tup, f_tup, v_lst, n_lst, f_lst, v_rol, n_rol, f_rol, v_mls, n_mls, f_mls, toV, liftB, lift, bin2, cmp2B, binD, cmpD, t_nm, t_tp, ts_nil, ts_cons, setNs_nil, setNs_cons, wipeE, backE, plainAt, views, gives, takes, walk, unlk, hdFree, forEnd, List.getElem?_cons_zero, List.getElem?_cons_succ, List.set_cons_zero, List.set_cons_succ, List.all_cons, List.all_nil, i_len_l, i_len_t, i_int_i, i_int_b, i_abs, i_tup_l, i_tup_t, i_lst_l, i_lst_t, i_all, i_any, noMs_bl, noMs_str, noMs_int, fzs_str, fzs_int, noMs_nil, fzs_nil, noMs_cons, fzs_cons, big0, big1, big2, big3, big4, innO_strs, innO_strsT, ninO_strs, ninO_strsT, eqO_str, eqO_int, addO_int, subO_int, List.length_cons, List.length_nil, Nat.reduceAdd, if_true, if_false, Bool.and_true, Bool.true_and, Bool.false_eq_true]
  exact e2
def badsE : E := (E.lst (Es.cons (E.tup Es.nil) (Es.cons (E.tup (Es.cons (E.cn (D.str ⟨#[108, 111, 99, 107]⟩)) (Es.cons (E.cn (D.str ⟨#[111, 110, 101]⟩)) (Es.cons (E.cn (D.str ⟨#[99, 111, 109]⟩)) Es.nil)))) (Es.cons (E.lst (Es.cons (E.cn (D.str ⟨#[108, 111, 99, 107]⟩)) Es.nil)) (Es.cons (E.cn (D.str ⟨#[108, 111, 99, 107]⟩)) (Es.cons (E.cn D.non) (Es.cons (E.tup (Es.cons (E.cn (D.str ⟨#[76, 79, 67, 75]⟩)) Es.nil)) (Es.cons (E.tup (Es.cons (E.cn (D.str ⟨#[]⟩)) Es.nil)) (Es.cons (E.tup (Es.cons (E.cn D.non) Es.nil)) (Es.cons (E.tup (Es.cons (E.cn (D.str ⟨#[108, 111, 99, 107]⟩)) (Es.cons (E.cn (D.int (3))) Es.nil))) (Es.cons (E.tup (Es.cons (E.tup (Es.cons (E.cn (D.str ⟨#[108, 111, 99, 107]⟩)) Es.nil)) Es.nil)) Es.nil)))))))))))
def badsD : List D := [.tup [], .tup [.str ⟨#[108, 111, 99, 107]⟩, .str ⟨#[111, 110, 101]⟩, .str ⟨#[99, 111, 109]⟩], .lst [.str ⟨#[108, 111, 99, 107]⟩], .str ⟨#[108, 111, 99, 107]⟩, .non, .tup [.str ⟨#[76, 79, 67, 75]⟩], .tup [.str ⟨#[]⟩], .tup [.non], .tup [.str ⟨#[108, 111, 99, 107]⟩, .int 3], .tup [.tup [.str ⟨#[108, 111, 99, 107]⟩]]]
theorem bads_e (env : En) : evE t_law badsE env = .ok (.v (.mls badsD)) env := by kernel_rfl
theorem first_if (a b c d e f g h i : Slot) : evT t_law (E.or (E.cmp .ne (E.call 1 Es.nil) (E.bi .tuple (Es.cons (E.bi .sorted (Es.cons (E.call 14 Es.nil) Es.nil)) Es.nil))) (Es.cons (E.cmp .ne (E.call 2 Es.nil) (E.bi .tuple (Es.cons (E.bi .sorted (Es.cons (E.call 15 Es.nil) Es.nil)) Es.nil))) (Es.cons (E.cmp .ne (E.call 3 Es.nil) (E.bi .tuple (Es.cons (E.bi .sorted (Es.cons (E.call 16 Es.nil) Es.nil)) Es.nil))) Es.nil))) [a, b, c, d, e, f, g, h, i] = .ok false [a, b, c, d, e, f, g, h, i] := by kernel_rfl
theorem bad_step (x : D) (hx : x ∈ badsD) (a b c e f : Slot) (s3 : Option D) : forStep (tgA (.nm 3)) (evSs t_law xm L_law_1) x [a, b, c, so s3, e, f, .un, .un, .un] = .ok .nx [a, b, c, .on x, e, f, .un, .un, .un] := by
  unfold forStep
  rw [t_so (b := s3) rfl]
  unfold badsD at hx
  simp only [List.mem_cons, List.not_mem_nil, or_false] at hx
  rcases hx with rfl | rfl | rfl | rfl | rfl | rfl | rfl | rfl | rfl | rfl <;> kernel_rfl
def lastBad : D := .tup [.tup [.str ⟨#[108, 111, 99, 107]⟩]]
theorem last_ret (a b c e f : Slot) : evE t_law (E.bi .all (Es.cons C_law_0 Es.nil)) [a, b, c, .on lastBad, e, f, .un, .un, .un] = .ok (.v (.bl true)) [a, b, c, .on lastBad, e, f, .un, .un, .un] := by
  kernel_rfl
theorem bads_go (a b c e f : Slot) : forGo (forStep (tgA (.nm 3)) (evSs t_law xm L_law_1)) badsD [a, b, c, .un, e, f, .un, .un, .un] = .ok .nx [a, b, c, .on lastBad, e, f, .un, .un, .un] := by
  have h := forGo_mirror (step := forStep (tgA (.nm 3)) (evSs t_law xm L_law_1)) (fun s3 => [a, b, c, so s3, e, f, .un, .un, .un]) id (fun (x : D) (_ : Option D) => Out.nx (some x)) badsD none (fun x hx s3 => bad_step x hx a b c e f s3)
  rw [List.map_id] at h
  exact h
theorem rng4 : rng1 (.v (.int 4)) = some [.int 0, .int 1, .int 2, .int 3] := by kernel_rfl
theorem law_true : ∀ ns : List Int, ns.length ≤ 63 → ∃ o, f_law [.rol (ns.map D.int)] = .ok (.bl true) o := by
  intro ns hl
  obtain ⟨js, r, I, e⟩ := f_draw ns hl
  have hsc : (D.rol (ns.map D.int)).noM = true := noMs_int ns
  have c10 : ∀ x1 x2 x3 x4 x5 x6 x7 x8, callR t_law 10 [.v (.rol (ns.map D.int))] [.on (.rol (ns.map D.int)), x1, x2, x3, x4, x5, x6, x7, x8] = .ok (.v (dD js (-1) 0 r)) [.on (.rol (ns.map D.int)), x1, x2, x3, x4, x5, x6, x7, x8] := fun x1 x2 x3 x4 x5 x6 x7 x8 => c_give rfl rfl rfl (by simp only [e_cn, e_nm, e_gl, e_tup, e_lst, e_bin, e_neg, e_not, e_cmp, e_cmp2, e_and, e_or, e_ite, e_ix, e_sl, e_rev, e_call, e_bi, e_isi, es_nil, es_cons, eo_no, eo_so, ec_no, ec_so, ei_sq, ei_r1, ei_r2, et_not, et_cmp, et_cmp2, et_and, et_or, et_cn, et_nm, et_ix, et_call, et_bi, et_isi, ea_nil, ea_cons, er_nil, er_cons, eta_nil, eta_cons, etr_nil, etr_cons, s_nil, s_cons, s_asg, s_par, s_app, s_ext, s_setix, s_aug, s_iff, s_ret, s_retN, s_brk, s_cnt, s_pass, s_expr, s_raise, b_ok, b_ex, b_bad, seqK, nmR, rv_v, rg_v, rt_v, rm_v, rc_v, rr_v, rv_r, rg_r, rt_r, rm_r, rc_r, rr_r, v_non, n_non, f_non, v_bl, n_bl, f_bl, v_int, n_int, f_int, v_str, n_str, f_str, v_tup, n_tup, f_tup, v_lst, n_lst, f_lst, v_rol, n_rol, f_rol, v_mls, n_mls, f_mls, toV, liftB, lift, bin2, cmp2B, binD, cmpD, t_nm, t_tp, ts_nil, ts_cons, setNs_nil, setNs_cons, wipeE, backE, plainAt, views, gives, takes, walk, unlk, hdFree, forEnd, List.getElem?_cons_zero, List.getElem?_cons_succ, List.set_cons_zero, List.set_cons_succ, List.all_cons, List.all_nil, i_len_l, i_len_t, i_int_i, i_int_b, i_abs, i_tup_l, i_tup_t, i_lst_l, i_lst_t, i_all, i_any, noMs_bl, noMs_str, noMs_int, fzs_str, fzs_int, noMs_nil, fzs_nil, noMs_cons, fzs_cons, big0, big1, big2, big3, big4, innO_strs, innO_strsT, ninO_strs, ninO_strsT, eqO_str, eqO_int, addO_int, subO_int, List.length_cons, List.length_nil, Nat.reduceAdd, if_true, if_false, Bool.and_true, Bool.true_and, Bool.false_eq_true]) e
  have hi : IM (.rol (ns.map D.int)) [.on (.rol (ns.map D.int)), .on (dD js (-1) 0 r), .un, .un, .un, .un, .un, .un, .un] := ⟨js, -1, 0, r, none, none, none, I, rfl⟩
  obtain ⟨env1, g1, js1, i1, s1, r1, a2, a4, a5, I1, e1⟩ := forGo_inv [.int 0, .int 1, .int 2, .int 3] (fun t _ env h => turn (.rol (ns.map D.int)) hsc t env h) _ hi
  have hb : D.noMs badsD = true := by kernel_rfl
  have g2 := bads_go (.on (.rol (ns.map D.int))) (.on (dD js1 i1 s1 r1)) (so a2) (so a4) (so a5)
  have g3 := last_ret (.on (.rol (ns.map D.int))) (.on (dD js1 i1 s1 r1)) (so a2) (so a4) (so a5)
  refine ⟨.non, ?_⟩
  have S1 : evS t_law xm (S.asg (Tg.nm 1) (E.call 10 (Es.cons (E.nm 0) Es.nil))) [.on (.rol (ns.map D.int)), .un, .un, .un, .un, .un, .un, .un, .un] = .ok .nx [.on (.rol (ns.map D.int)), .on (dD js (-1) 0 r), .un, .un, .un, .un, .un, .un, .un] := by
    simp only [e_cn, e_nm, e_gl, e_tup, e_lst, e_bin, e_neg, e_not, e_cmp, e_cmp2, e_and, e_or, e_ite, e_ix, e_sl, e_rev, e_call, e_bi, e_isi, es_nil, es_cons, eo_no, eo_so, ec_no, ec_so, ei_sq, ei_r1, ei_r2, et_not, et_cmp, et_cmp2, et_and, et_or, et_cn, et_nm, et_ix, et_call, et_bi, et_isi, ea_nil, ea_cons, er_nil, er_cons, eta_nil, eta_cons, etr_nil, etr_cons, s_nil, s_cons, s_asg, s_par, s_app, s_ext, s_setix, s_aug, s_iff, s_ret, s_retN, s_brk, s_cnt, s_pass, s_expr, s_raise, b_ok, b_ex, b_bad, seqK, nmR, rv_v, rg_v, rt_v, rm_v, rc_v, rr_v, rv_r, rg_r, rt_r, rm_r, rc_r, rr_r, v_non, n_non, f_non, v_bl, n_bl, f_bl, v_int, n_int, f_int, v_str, n_str, f_str, v_tup, n_tup, f_tup, v_lst, n_lst, f_lst, v_rol, n_rol, f_rol, v_mls, n_mls, f_mls, toV, liftB, lift, bin2, cmp2B, binD, cmpD, t_nm, t_tp, ts_nil, ts_cons, setNs_nil, setNs_cons, wipeE, backE, plainAt, views, gives, takes, walk, unlk, hdFree, forEnd, List.getElem?_cons_zero, List.getElem?_cons_succ, List.set_cons_zero, List.set_cons_succ, List.all_cons, List.all_nil, i_len_l, i_len_t, i_int_i, i_int_b, i_abs, i_tup_l, i_tup_t, i_lst_l, i_lst_t, i_all, i_any, noMs_bl, noMs_str, noMs_int, fzs_str, fzs_int, noMs_nil, fzs_nil, noMs_cons, fzs_cons, big0, big1, big2, big3, big4, innO_strs, innO_strsT, ninO_strs, ninO_strsT, eqO_str, eqO_int, addO_int, subO_int, List.length_cons, List.length_nil, Nat.reduceAdd, if_true, if_false, Bool.and_true, Bool.true_and, Bool.false_eq_true, c10]
  have S3 : ∀ env0, env0 = [.on (.rol (ns.map D.int)), .on (dD js (-1) 0 r), .un, .un, .un, .un, .un, .un, .un] → evS t_law xm (S.forr (Tg.nm 2) (It.r1 (E.cn (D.int (4)))) L_law_3) env0 = .ok .nx (envM (.rol (ns.map D.int)) (dD js1 i1 s1 r1) a2 a4 a5) := fun env0 h0 => by
    subst h0
    rw [s_forr, ei_r1, e_cn, b_ok, rng4]
    dsimp only
    rw [b_ok, g1, e1]
    rfl
  have S4 : evS t_law xm (S.forr (Tg.nm 3) (It.sq badsE) L_law_1) (envM (.rol (ns.map D.int)) (dD js1 i1 s1 r1) a2 a4 a5) = .ok .nx [.on (.rol (ns.map D.int)), .on (dD js1 i1 s1 r1), so a2, .on lastBad, so a4, so a5, .un, .un, .un] := by
    rw [s_forr, ei_sq, bads_e, b_ok]
    have hw : walk (.v (.mls badsD)) (envM (.rol (ns.map D.int)) (dD js1 i1 s1 r1) a2 a4 a5) = some (badsD, none, envM (.rol (ns.map D.int)) (dD js1 i1 s1 r1) a2 a4 a5) := by
      simp only [walk, v_mls, hb, if_true]
    rw [hw]
    dsimp only
    rw [b_ok]
    dsimp only
    rw [show envM (.rol (ns.map D.int)) (dD js1 i1 s1 r1) a2 a4 a5 = [.on (.rol (ns.map D.int)), .on (dD js1 i1 s1 r1), so a2, .un, so a4, so a5, .un, .un, .un] from rfl, g2]
    rfl
  have hd : evSs t_law xm b_law [.on (.rol (ns.map D.int)), .un, .un, .un, .un, .un, .un, .un, .un] = .ok (.rt (.bl true)) [.on (.rol (ns.map D.int)), .on (dD js1 i1 s1 r1), so a2, .on lastBad, so a4, so a5, .un, .un, .un] := by
    unfold b_law
    rw [s_cons, S1]
    simp only [seqK]
    rw [s_cons, s_iff, first_if, b_ok, if_neg Bool.false_ne_true, s_nil]
    simp only [seqK]
    rw [s_cons, S3 _ rfl]
    simp only [seqK]
    rw [s_cons]
    unfold badsE at S4
    rw [S4]
    simp only [seqK]
    rw [s_cons, s_ret, g3, b_ok]
    rfl
  show den t_law xm 9 false b_law [.rol (ns.map D.int)] = _
  unfold den
  rw [if_neg (by simp)]
  rw [show ([D.rol (ns.map D.int)].map Slot.on ++ List.replicate (9 - [D.rol (ns.map D.int)].length) Slot.un) = [.on (.rol (ns.map D.int)), .un, .un, .un, .un, .un, .un, .un, .un] from rfl, hd]
  rfl
end K05
open PySem PySem.W PyProof.Rows
set_option maxHeartbeats 0 in
theorem PySem.Challenge.cw_stridekinds_k05_arrows_and_bars_holds : PySem.Challenge.rw_stridekinds_k05_arrows_and_bars.Holds := by
  w_on; o_law; k_head; (case hw => w_witness2)
  k_fill
  refine L2.walk_of (l := PySem.Challenge.rw_stridekinds_k05_arrows_and_bars) (n := 63) (k := 6) (x := "script") (CX := fun w => L2.CX PySem.Challenge.rw_stridekinds_k05_arrows_and_bars.prog w) (sp := fun w => Ev.spLaw _) rfl (by decide) rfl ⟨rfl, by decide, by decide⟩ (fun w h Y => PySem.W.kIn_of Y) ?F (fun _ _ a ns hl _ hS => ⟨a, ns, rfl, hS, hl, fun _ => rfl⟩) (fun _ _ _ _ _ h => Ev.cx_none h)
  case F =>
    intro w mg fa h KX G hmg
    refine' K05.all_mk K05.law_true KX G hmg ?a0 ?l0 ?c0_ ?k0 ?a1 ?l1 ?c1_ ?k1 ?a2 ?l2 ?c2_ ?k2 ?a3 ?l3 ?c3_ ?k3 ?a4 ?l4 ?c4_ ?k4 ?a5 ?l5 ?c5_ ?k5 ?a6 ?l6 ?c6_ ?k6 ?a7 ?l7 ?c7_ ?k7 ?a8 ?l8 ?c8_ ?k8 ?a9 ?l9 ?c9_ ?k9 ?a10 ?l10 ?c10_ ?k10 ?a11 ?l11 ?c11_ ?k11 ?a12 ?l12 ?c12_ ?k12 ?a13 ?l13 ?c13_ ?k13 ?a14 ?l14 ?c14_ ?k14 ?a15 ?l15 ?c15_ ?k15 ?a16 ?l16 ?c16_ ?k16 ?a17 ?l17 ?c17_ ?k17 ?a18 ?l18 ?c18_ ?k18 ?a19 ?l19 ?c19_ ?k19 ?a20 ?l20 ?c20_ ?k20 ?nc0 ?vc0 ?nc1 ?vc1 ?nc2 ?vc2 ?nc3 ?vc3 ?xa0 ?xe0 ?xk0 ?xb0 ?xt0 ?xa1 ?xe1 ?xk1 ?xb1 ?xt1 ?z_tuple ?z_list ?z_range ?z_all ?z_sorted ?z_int ?z_isinstance ?z_bool ?z_any ?z_str ?z_len ?z_abs ?m_0_0 ?m_0_1 ?m_1_0 ?m_1_1
    (case a0 => k_is); (case l0 => k_is); (case c0_ => k_is); (case k0 => k_is); (case a1 => k_is); (case l1 => k_is); (case c1_ => k_is); (case k1 => k_is); (case a2 => k_is); (case l2 => k_is); (case c2_ => k_is); (case k2 => k_is); (case a3 => k_is); (case l3 => k_is); (case c3_ => k_is); (case k3 => k_is); (case a4 => k_is); (case l4 => k_is); (case c4_ => k_is); (case k4 => k_is); (case a5 => k_is); (case l5 => k_is); (case c5_ => k_is); (case k5 => k_is); (case a6 => k_is); (case l6 => k_is); (case c6_ => k_is); (case k6 => k_is); (case a7 => k_is); (case l7 => k_is); (case c7_ => k_is); (case k7 => k_is); (case a8 => k_is); (case l8 => k_is); (case c8_ => k_is); (case k8 => k_is); (case a9 => k_is); (case l9 => k_is); (case c9_ => k_is); (case k9 => k_is); (case a10 => k_is); (case l10 => k_is); (case c10_ => k_is); (case k10 => k_is); (case a11 => k_is); (case l11 => k_is); (case c11_ => k_is); (case k11 => k_is); (case a12 => k_is); (case l12 => k_is); (case c12_ => k_is); (case k12 => k_is); (case a13 => k_is); (case l13 => k_is); (case c13_ => k_is); (case k13 => k_is); (case a14 => k_is); (case l14 => k_is); (case c14_ => k_is); (case k14 => k_is); (case a15 => k_is); (case l15 => k_is); (case c15_ => k_is); (case k15 => k_is); (case a16 => k_is); (case l16 => k_is); (case c16_ => k_is); (case k16 => k_is); (case a17 => k_is); (case l17 => k_is); (case c17_ => k_is); (case k17 => k_is); (case a18 => k_is); (case l18 => k_is); (case c18_ => k_is); (case k18 => k_is); (case a19 => k_is); (case l19 => k_is); (case c19_ => k_is); (case k19 => k_is); (case a20 => k_is); (case l20 => k_is); (case c20_ => k_is); (case k20 => k_is); (case nc0 => k_is); (case vc0 => kernel_rfl); (case nc1 => k_is); (case vc1 => kernel_rfl); (case nc2 => k_is); (case vc2 => kernel_rfl); (case nc3 => k_is); (case vc3 => kernel_rfl); (case xa0 => k_is); (case xe0 => k_exc); (case xk0 => k_is); (case xb0 => k_is); (case xt0 => k_is); (case xa1 => k_is); (case xe1 => k_exc); (case xk1 => k_is); (case xb1 => k_is); (case xt1 => k_is); (case z_tuple => k_is); (case z_list => k_is); (case z_range => k_is); (case z_all => k_is); (case z_sorted => k_is); (case z_int => k_is); (case z_isinstance => k_is); (case z_bool => k_is); (case z_any => k_is); (case z_str => k_is); (case z_len => k_is); (case z_abs => k_is); (case m_0_0 => kernel_rfl); (case m_0_1 => kernel_rfl); (case m_1_0 => kernel_rfl); (case m_1_1 => kernel_rfl)
