import PyProof.Rows.All
import Wide.All
import OpenK.AllK
import Wide.FinOn
import HandS.ForMost
import HandS.Evl
import HandS.SortInts
import HandS.Style
import KE.SortData
import PyProof.Rows.NestShow
import PySem.Challenge.RW_webnames_k83_choices_grown_and_of_famili
section
set_option Elab.async false
set_option linter.all false
set_option maxRecDepth 100000
set_option maxHeartbeats 4000000
namespace W3
open PySem PySem.Spec PyProof.Rows L2
open Evl (Ex)

/-! ### data on the abstract heap -/
mutual
/-- the value v reads as the datum, its lists and tuples tracked -/
def Dt (H : Hp) : PyData → V → Prop
  | .none, v => v = .non
  | .bool b, v => v = .bl b
  | .int i, v => v = .int i
  | .str x, v => v = .str x
  | .list ds, v => ∃ a xs, v = .ref a ∧ H a = some (.lst xs) ∧ Dts H ds xs
  | .tuple ds, v => ∃ a xs, v = .ref a ∧ H a = some (.tup xs) ∧ Dts H ds xs
  | .dict _, _ => False
def Dts (H : Hp) : List PyData → List V → Prop
  | [], xs => xs = []
  | d :: ds, xs => ∃ x r, xs = x :: r ∧ Dt H d x ∧ Dts H ds r
end

mutual
theorem Dt.mono {H G : Hp} (e : Ex H G) : ∀ {d : PyData} {v : V}, Dt H d v → Dt G d v
  | .none, _, h => h
  | .bool _, _, h => h
  | .int _, _, h => h
  | .str _, _, h => h
  | .list _, _, h => by
    obtain ⟨a, xs, rfl, ha, hx⟩ := h
    exact ⟨a, xs, rfl, e _ _ ha, Dts.mono e hx⟩
  | .tuple _, _, h => by
    obtain ⟨a, xs, rfl, ha, hx⟩ := h
    exact ⟨a, xs, rfl, e _ _ ha, Dts.mono e hx⟩
  | .dict _, _, h => h.elim
theorem Dts.mono {H G : Hp} (e : Ex H G) : ∀ {ds : List PyData} {xs : List V}, Dts H ds xs → Dts G ds xs
  | [], _, h => h
  | _ :: _, _, h => by
    obtain ⟨x, r, rfl, hx, hr⟩ := h
    exact ⟨x, r, rfl, Dt.mono e hx, Dts.mono e hr⟩
end
mutual
theorem Dt.dp {K : PySem.W.Frag} {H : Hp} : ∀ {d : PyData} {v : V}, Dt H d v → Dp K H v d
  | .none, _, h => by cases h; exact .non
  | .bool b, _, h => by cases h; exact .bl b
  | .int i, _, h => by cases h; exact .int i
  | .str x, _, h => by cases h; exact .str x
  | .list _, _, h => by
    obtain ⟨a, xs, rfl, ha, hx⟩ := h
    exact .lst (SqL.of ha) (Dts.dp hx)
  | .tuple _, _, h => by
    obtain ⟨a, xs, rfl, ha, hx⟩ := h
    exact .tup (SqT.of ha) (Dts.dp hx)
  | .dict _, _, h => h.elim
theorem Dts.dp {K : PySem.W.Frag} {H : Hp} : ∀ {ds : List PyData} {xs : List V}, Dts H ds xs → DpAll K H xs ds
  | [], _, h => by cases h; exact .nil
  | _ :: _, _, h => by
    obtain ⟨x, r, rfl, hx, hr⟩ := h
    exact .cons (Dt.dp hx) (Dts.dp hr)
end
theorem Dts.length {H : Hp} : ∀ {ds : List PyData} {xs : List V}, Dts H ds xs → xs.length = ds.length
  | [], _, h => by cases h; rfl
  | _ :: _, _, h => by
    obtain ⟨x, r, rfl, _, hr⟩ := h
    simp [Dts.length hr]
theorem Dts.get {H : Hp} : ∀ {ds : List PyData} {xs : List V} {i : Nat} {d : PyData}, Dts H ds xs → ds[i]? = some d → ∃ x, xs[i]? = some x ∧ Dt H d x
  | [], _, _, _, _, e => by simp at e
  | d :: _, _, 0, _, h, e => by
    obtain ⟨x, r, rfl, hx, _⟩ := h
    simp at e; subst e
    exact ⟨x, rfl, hx⟩
  | _ :: ds, _, i + 1, _, h, e => by
    obtain ⟨x, r, rfl, _, hr⟩ := h
    exact Dts.get (i := i) hr (by simpa using e)
theorem Dts.got {H : Hp} : ∀ {ds : List PyData} {xs : List V} {i : Nat} {x : V}, Dts H ds xs → xs[i]? = some x → ∃ d, ds[i]? = some d ∧ Dt H d x
  | [], _, _, _, h, e => by cases h; simp at e
  | d :: _, _, 0, _, h, e => by
    obtain ⟨x, r, rfl, hx, _⟩ := h
    simp at e; subst e
    exact ⟨d, rfl, hx⟩
  | _ :: ds, _, i + 1, _, h, e => by
    obtain ⟨x, r, rfl, _, hr⟩ := h
    exact Dts.got (i := i) hr (by simpa using e)
theorem Dts.snoc {H : Hp} {d : PyData} {x : V} (hd : Dt H d x) : ∀ {ds : List PyData} {xs : List V}, Dts H ds xs → Dts H (ds ++ [d]) (xs ++ [x])
  | [], _, h => by cases h; exact ⟨x, [], rfl, hd, rfl⟩
  | _ :: _, _, h => by
    obtain ⟨y, r, rfl, hy, hr⟩ := h
    exact ⟨y, r ++ [x], rfl, hy, Dts.snoc hd hr⟩
theorem Dts.append {H : Hp} {es : List PyData} {ys : List V} (he : Dts H es ys) : ∀ {ds : List PyData} {xs : List V}, Dts H ds xs → Dts H (ds ++ es) (xs ++ ys)
  | [], _, h => by cases h; exact he
  | _ :: _, _, h => by
    obtain ⟨y, r, rfl, hy, hr⟩ := h
    exact ⟨y, r ++ ys, rfl, hy, Dts.append he hr⟩
theorem Dts.take {H : Hp} (n : Nat) : ∀ {ds : List PyData} {xs : List V}, Dts H ds xs → Dts H (ds.take n) (xs.take n) := by
  induction n with
  | zero => intro ds xs _; exact rfl
  | succ n ih =>
    intro ds xs h
    cases ds with
    | nil => cases h; exact rfl
    | cons d ds =>
      obtain ⟨y, r, rfl, hy, hr⟩ := h
      exact ⟨y, r.take n, rfl, hy, ih hr⟩
theorem Dts.drop {H : Hp} (n : Nat) : ∀ {ds : List PyData} {xs : List V}, Dts H ds xs → Dts H (ds.drop n) (xs.drop n) := by
  induction n with
  | zero => intro ds xs h; exact h
  | succ n ih =>
    intro ds xs h
    cases ds with
    | nil => cases h; exact rfl
    | cons d ds =>
      obtain ⟨y, r, rfl, hy, hr⟩ := h
      exact ih hr
theorem Dts.erase {H : Hp} (n : Nat) : ∀ {ds : List PyData} {xs : List V}, Dts H ds xs → Dts H (ds.eraseIdx n) (xs.eraseIdx n) := by
  induction n with
  | zero =>
    intro ds xs h
    cases ds with
    | nil => cases h; exact rfl
    | cons d ds =>
      obtain ⟨y, r, rfl, hy, hr⟩ := h
      exact hr
  | succ n ih =>
    intro ds xs h
    cases ds with
    | nil => cases h; exact rfl
    | cons d ds =>
      obtain ⟨y, r, rfl, hy, hr⟩ := h
      exact ⟨y, r.eraseIdx n, rfl, hy, ih hr⟩
theorem Dts.put {H : Hp} {d : PyData} {x : V} (hd : Dt H d x) : ∀ (n : Nat) {ds : List PyData} {xs : List V}, Dts H ds xs → Dts H (ds.set n d) (xs.set n x) := by
  intro n
  induction n with
  | zero =>
    intro ds xs h
    cases ds with
    | nil => cases h; exact rfl
    | cons e ds =>
      obtain ⟨y, r, rfl, hy, hr⟩ := h
      exact ⟨x, r, rfl, hd, hr⟩
  | succ n ih =>
    intro ds xs h
    cases ds with
    | nil => cases h; exact rfl
    | cons e ds =>
      obtain ⟨y, r, rfl, hy, hr⟩ := h
      exact ⟨y, r.set n x, rfl, hy, ih hr⟩
theorem Dts.rev {H : Hp} : ∀ {ds : List PyData} {xs : List V}, Dts H ds xs → Dts H ds.reverse xs.reverse
  | [], _, h => by cases h; exact rfl
  | d :: ds, _, h => by
    obtain ⟨y, r, rfl, hy, hr⟩ := h
    rw [List.reverse_cons, List.reverse_cons]
    exact Dts.snoc hy (Dts.rev hr)
theorem Dts.ints {H : Hp} : ∀ {ns : List Int} {xs : List V}, Dts H (ns.map .int) xs ↔ xs = ns.map V.int
  | [], _ => Iff.rfl
  | n :: ns, xs => by
    constructor
    · rintro ⟨x, r, rfl, hx, hr⟩
      cases hx
      rw [(Dts.ints (ns := ns)).mp hr]; rfl
    · rintro rfl
      exact ⟨_, _, rfl, rfl, (Dts.ints (ns := ns)).mpr rfl⟩
theorem Dts.mk2 {H : Hp} {a b : PyData} {x y : V} (h1 : Dt H a x) (h2 : Dt H b y) : Dts H [a, b] [x, y] := ⟨_, _, rfl, h1, _, _, rfl, h2, rfl⟩
theorem Dts.mk1 {H : Hp} {a : PyData} {x : V} (h1 : Dt H a x) : Dts H [a] [x] := ⟨_, _, rfl, h1, rfl⟩

/-! ### one list is out of sight -/
def rm (D : Addr) (H : Hp) : Hp := fun b => if b = D then none else H b
theorem rm_same {D : Addr} {H : Hp} : rm D H D = none := by unfold rm; rw [if_pos rfl]
theorem rm_ne {D b : Addr} {H : Hp} (h : b ≠ D) : rm D H b = H b := by unfold rm; rw [if_neg h]
theorem of_rm {D b : Addr} {H : Hp} {o : HO} (h : rm D H b = some o) : b ≠ D ∧ H b = some o := by
  by_cases e : b = D
  · subst e; rw [rm_same] at h; cases h
  · rw [rm_ne e] at h; exact ⟨e, h⟩
theorem rm_none {D b : Addr} {H : Hp} (h : H b = none) : rm D H b = none := by
  by_cases e : b = D
  · subst e; exact rm_same
  · rw [rm_ne e]; exact h
theorem rm_upd {D : Addr} {H : Hp} {o : HO} (h : H D = none) : rm D (upd H D o) = H := by
  funext b
  by_cases e : b = D
  · subst e; rw [rm_same, h]
  · rw [rm_ne e, upd_ne e]
theorem upd_rm {D : Addr} {H : Hp} {o : HO} (h : H D = some o) : upd (rm D H) D o = H := by
  funext b
  by_cases e : b = D
  · subst e; rw [upd_same, h]
  · rw [upd_ne e, rm_ne e]
theorem ex_rm {D : Addr} {H : Hp} : Ex (rm D H) H := fun _ _ h => (of_rm h).2
theorem ex_upd {D : Addr} {H : Hp} {o : HO} (h : H D = none) : Ex H (upd H D o) := Ex.new h

section
variable {X : Cx} {pins : List (Addr × Obj)} {σ : L2.St} {H : Hp} {s : Shared}
theorem fs_free (I : Inv X pins σ H s) {b : Addr} (hb : b ∈ X.fs) : H b = none := by
  obtain ⟨_, o, ho, _⟩ := I.ok.funs.mem hb
  exact I.base.free b o ho (I.ok.frf b hb) fun z => I.ok.exfs b z hb
theorem hide {D : Addr} {xs : List V} (I : Inv X pins σ H s) (hD : H D = some (.lst xs)) :
    ∃ ob : Obj, Inv X (pins ++ [(D, ob)]) σ (rm D H) s ∧ ∀ {σ' : L2.St} {H' : Hp} {s' : Shared}, Inv X (pins ++ [(D, ob)]) σ' H' s' → H' D = none ∧ Inv X pins σ' (upd H' D (.lst xs)) s' := by
  obtain ⟨hl, its, n, rv, hob⟩ := I.hok D _ hD
  have ne : ∀ {b : Addr}, H b = none → b ≠ D := fun {b} h e => by rw [e, hD] at h; cases h
  refine ⟨({ cls := .type "list", data := .seq its.toArray n } : Obj), ?_, fun {σ' H' s'} J => ?_⟩
  refine ⟨I.ok, I.os, I.bare, ⟨I.base.keep, I.base.slot, fun b o q n hx => rm_none (I.base.free b o q n hx), I.base.there, fun b ys q => ?_, fun b o ys q => ?_, fun b ps q => ?_⟩,
    I.loc, I.cell, rm_none I.free, fun x c e => rm_none (I.freeC x c e), fun p hp => ?_, fun a o e => ?_, I.len⟩
  · have z := I.base.tups b ys q
    rw [rm_ne (fun e => by rw [e, hD] at z; cases z)]; exact z
  · have z := I.base.frzs b o ys q
    rw [rm_ne (fun e => by rw [e, hD] at z; cases z)]; exact z
  · obtain ⟨m, z⟩ := I.base.tbls b ps q
    exact ⟨m, by rw [rm_ne (fun e => by rw [e, hD] at z; cases z)]; exact z⟩
  · rcases List.mem_append.mp hp with hp | hp
    · obtain ⟨e, n', l, f, c⟩ := I.pin p (List.mem_append_left _ hp)
      exact ⟨e, rm_none n', l, f, c⟩
    · rcases List.mem_append.mp hp with hp | hp
      · obtain ⟨e, n', l, f, c⟩ := I.pin p (List.mem_append_right _ hp)
        exact ⟨e, rm_none n', l, f, c⟩
      · have e := List.mem_singleton.mp hp
        subst e
        exact ⟨hob, rm_same, fun z => ne I.free z.symm, fun z => ne (fs_free I z) rfl, fun v z => by cases z⟩
  · obtain ⟨_, e'⟩ := of_rm e
    exact (I.hok a o e').stay (fun _ _ _ q => q) (fun b q => by rw [rm_ne (fun e => by rw [e, hD] at q; cases q)]; exact q) fun b ys q => by rw [rm_ne (fun e => by rw [e, hD] at q; cases q)]; exact q
  · have pD := J.pin (D, _) (List.mem_append_right _ (List.mem_append_right _ (List.mem_singleton.mpr rfl)))
    have nD : ∀ {b : Addr} {o : HO}, H' b = some o → b ≠ D := fun {b o} h e => by rw [e, pD.2.1] at h; cases h
    refine ⟨pD.2.1, ⟨J.ok, J.os, J.bare, ⟨J.base.keep, J.base.slot, fun b o q n hx => ?_, J.base.there, fun b ys q => ?_, fun b o ys q => ?_, fun b ps q => ?_⟩,
      J.loc, J.cell, ?_, fun x c e => ?_, fun p hp => ?_, fun a o e => ?_, J.len⟩⟩
    · rw [upd_ne (ne (I.base.free b o q n hx))]; exact J.base.free b o q n hx
    · have z := J.base.tups b ys q
      rw [upd_ne (nD z)]; exact z
    · have z := J.base.frzs b o ys q
      rw [upd_ne (nD z)]; exact z
    · obtain ⟨m, z⟩ := J.base.tbls b ps q
      exact ⟨m, by rw [upd_ne (nD z)]; exact z⟩
    · rw [upd_ne (ne I.free)]; exact J.free
    · rw [upd_ne (ne (I.freeC x c e))]; exact J.freeC x c e
    · have hp' : p ∈ X.pn ++ (pins ++ [(D, ({ cls := .type "list", data := .seq its.toArray n } : Obj))]) := by
        rw [← List.append_assoc]; exact List.mem_append_left _ hp
      obtain ⟨e, n', l, f, c⟩ := J.pin p hp'
      exact ⟨e, by rw [upd_ne (ne (I.pin p hp).2.1)]; exact n', l, f, c⟩
    · by_cases ha : a = D
      · subst ha
        rw [upd_same] at e; cases e
        exact ⟨hl, its, n, rv, pD.1⟩
      · rw [upd_ne ha] at e
        exact (J.hok a o e).stay (fun _ _ _ q => q) (fun b q => by rw [upd_ne (nD q)]; exact q) fun b ys q => by rw [upd_ne (nD q)]; exact q
end
section
variable {X : Cx}
/-- the list at D is hidden while e runs; Q0: what is shown of its end -/
def tFr (t : TE) : TE := fun σ H Q => ∃ (D : Addr) (xs : List V) (Q0 : VK), H D = some (.lst xs) ∧ t σ (rm D H) Q0 ∧ ∀ v H', Q0 v H' → H' D = none → Q v (upd H' D (.lst xs))
theorem pe_fr {e : Expr} {t : TE} (h : PE X e t) : PE X e (tFr t) := by
  refine ⟨fun pins s σ H Q I h0 => ?_⟩
  obtain ⟨D, xs, Q0, hD, q, k⟩ := h0
  obtain ⟨ob, J, back⟩ := hide I hD
  refine thn (h.run _ s σ (rm D H) _ J q) fun v s1 ⟨x, H1, I1, r1, q1⟩ => ?_
  obtain ⟨n1, I2⟩ := back I1
  exact ⟨x, _, I2, r1, k x H1 q1 n1⟩
def tFrT (t : TT) : TT := fun σ H Q => ∃ (D : Addr) (xs : List V) (Q0 : Bool → Hp → Prop), H D = some (.lst xs) ∧ t σ (rm D H) Q0 ∧ ∀ b H', Q0 b H' → H' D = none → Q b (upd H' D (.lst xs))
theorem pts_fr {ifs : List Expr} {t : TT} (h : PTs X ifs t) : PTs X ifs (tFrT t) := by
  refine ⟨fun pins s σ H Q I h0 => ?_⟩
  obtain ⟨D, xs, Q0, hD, q, k⟩ := h0
  obtain ⟨ob, J, back⟩ := hide I hD
  refine thn (h.run _ s σ (rm D H) _ J q) fun v s1 ⟨H1, I1, q1⟩ => ?_
  obtain ⟨n1, I2⟩ := back I1
  exact ⟨_, I2, k v H1 q1 n1⟩
/-- an expression, by what is shown of its end -/
def tM (t : TE) : TE := fun σ H Q => ∃ Q0 : VK, t σ H Q0 ∧ ∀ v H', Q0 v H' → Q v H'
theorem pe_m {e : Expr} {t : TE} (h : PE X e t) : PE X e (tM t) := by
  refine ⟨fun pins s σ H Q I ⟨Q0, q, k⟩ => thn (h.run pins s σ H _ I q) fun v s1 ⟨x, H1, I1, r1, q1⟩ => ⟨x, H1, I1, r1, k x H1 q1⟩⟩
def tMT (t : TT) : TT := fun σ H Q => ∃ Q0 : Bool → Hp → Prop, t σ H Q0 ∧ ∀ b H', Q0 b H' → Q b H'
theorem pt_m {e : Expr} {t : TT} (h : PT X e t) : PT X e (tMT t) := by
  refine ⟨fun pins s σ H Q I ⟨Q0, q, k⟩ => thn (h.run pins s σ H _ I q) fun v s1 ⟨H1, I1, q1⟩ => ⟨H1, I1, k v H1 q1⟩⟩
end
end W3

end
section
set_option Elab.async false
set_option linter.all false
set_option maxRecDepth 100000
set_option maxHeartbeats 4000000
namespace W3
open PySem PySem.Spec PyProof.Rows L2
open Evl (Ex)

/-! ### a pot: a list of two numbers, known to be one, not which -/
abbrev potM : Int := 2147483587
def PotFact (p : Addr) (h : Heap) : Prop := ∃ (x y : Int) (t u : Tok) (n : Nat), 0 ≤ y ∧ y < potM ∧ h.get? p = some { cls := .type "list", data := .seq #[.int x t, .int y u] n }
def PotO (p : Addr) : HO := .ext (PotFact p)
section
variable {P : Program} {w : World} {H : Hp} {h : Heap} {p : Addr}
theorem pot_ok (q : PotFact p h) : ObjOk P w H h p (PotO p) := by
  refine ⟨q, ?_, ?_⟩
  · obtain ⟨x, y, t, u, n, _, _, e⟩ := q
    exact ⟨_, e⟩
  · rintro h1 h2 ⟨x, y, t, u, n, a, b, e⟩ k
    exact ⟨x, y, t, u, n, a, b, k _ e⟩
end
section
variable {X : Cx}
/-- a list of two numbers just made becomes a pot -/
def tSeal (t : TE) : TE := fun σ H Q => t σ H fun v H1 => ∃ (p : Addr) (x y : Int), v = .ref p ∧ H1 p = some (.lst [.int x, .int y]) ∧ 0 ≤ y ∧ y < potM ∧ Q v (upd H1 p (PotO p))
theorem seal_inv {pins : List (Addr × Obj)} {σ : L2.St} {H : Hp} {s : Shared} {p : Addr} {x y : Int} (I : Inv X pins σ H s) (hp : H p = some (.lst [.int x, .int y])) (h0 : 0 ≤ y) (h1 : y < potM) : Inv X pins σ (upd H p (PotO p)) s := by
  obtain ⟨_, its, n, rv, e⟩ := I.hok p _ hp
  cases rv with
  | cons r1 r =>
    cases r with
    | cons r2 r =>
      cases r
      obtain ⟨t, rfl⟩ := r1
      obtain ⟨u, rfl⟩ := r2
      exact I.write (e := p) (t' := s.toks) (by rw [hp]; trivial) (.inl rfl) (fun _ _ _ q => q) ⟨_, e⟩ (pot_ok ⟨x, y, t, u, n, h0, h1, e⟩)
theorem pe_seal {e : Expr} {t : TE} (h : PE X e t) : PE X e (tSeal t) := by
  refine ⟨fun pins s σ H Q I h0 => thn (h.run pins s σ H _ I h0) fun v s1 ⟨x, H1, I1, r1, p, a, b, e1, hp, g0, g1, q⟩ => ?_⟩
  exact ⟨x, _, seal_inv I1 hp g0 g1, r1, q⟩
/-- a body that opens the pot in slot i: within, it is a list of two numbers; where it returns, it is closed again -/
def tOpen (t : TS) : TS := fun D σ H => ∃ p, H p = some (PotO p) ∧ ∀ x y : Int, 0 ≤ y → y < potM →
  t { nx := fun _ _ => False, rt := fun v H' => ∃ a b : Int, H' p = some (.lst [.int a, .int b]) ∧ 0 ≤ b ∧ b < potM ∧ D.rt v (upd H' p (PotO p)) } σ (upd H p (.lst [.int x, .int y]))
theorem pss_open {b : List Stmt} {t : TS} (h : PSs X b t) : PSs X b (tOpen t) := by
  refine ⟨fun pins s σ H D I h0 => ?_⟩
  obtain ⟨p, hp, q⟩ := h0
  obtain ⟨⟨x, y, t1, t2, n, g0, g1, e⟩, _, _⟩ := I.hok p _ hp
  have J : Inv X pins σ (upd H p (.lst [.int x, .int y])) s :=
    I.write (e := p) (t' := s.toks) (by rw [hp]; trivial) (.inl rfl) (fun _ _ _ q => q) ⟨_, e⟩ ⟨(by show 2 ≤ sizeLine; decide), [.int x t1, .int y t2], n, .cons ⟨_, rfl⟩ (.cons ⟨_, rfl⟩ .nil), e⟩
  refine thn (h.run pins s σ _ _ J (q x y g0 g1)) fun f s1 z => ?_
  cases f with
  | next => obtain ⟨_, _, _, z⟩ := z; exact z.elim
  | brk => obtain ⟨_, _, _, z⟩ := z; exact z.elim
  | cont => obtain ⟨_, _, _, z⟩ := z; exact z.elim
  | ret u =>
    obtain ⟨v, σ', H', I', r, a, b, hp', g0', g1', k⟩ := z
    exact ⟨v, σ', _, seal_inv I' hp' g0' g1', r, k⟩
end

/-! ### sorted(xs) of data -/
section
variable {X : Cx}
open PySem.W in
def rSortD : List V → Hp → VK → Prop := fun vs H Q => ∃ (a : Addr) (xs : List V) (ds : List PyData), vs = [.ref a] ∧ H a = some (.lst xs) ∧ Dts H ds xs ∧ AllAlike ds ∧ Sortable ds ∧ (∀ d ∈ ds, d.depth ≤ 32) ∧
  ∀ (p : Addr) (ys : List V), H p = none → ys.Perm xs → Dts H (ds.mergeSort (dataLe false id)) ys → Q (.ref p) (upd H p (.lst ys))
theorem each_of_dts {H : Hp} : ∀ {ds : List PyData} {xs : List V} {us : List Value}, Dts H ds xs → Vals xs us → PySem.W.EachIs (fun u (b : PyData × V) => RelV b.2 u ∧ Dt H b.1 b.2) us (ds.zip xs)
  | [], _, _, h, r => by cases h; cases r; exact .nil
  | d :: ds, _, _, h, r => by
    obtain ⟨x, xs, rfl, hx, hr⟩ := h
    cases r with
    | cons r1 r2 => exact .cons ⟨r1, hx⟩ (each_of_dts hr r2)
theorem dts_of_each {H : Hp} : ∀ {us : List Value} {bs : List (PyData × V)}, PySem.W.EachIs (fun u (b : PyData × V) => RelV b.2 u ∧ Dt H b.1 b.2) us bs → Dts H (bs.map (·.1)) (bs.map (·.2)) ∧ Vals (bs.map (·.2)) us
  | _, _, .nil => ⟨rfl, .nil⟩
  | _, _, .cons h t => let ⟨a, b⟩ := dts_of_each t; ⟨⟨_, _, rfl, h.2, a⟩, .cons h.1 b⟩
theorem zip_fst {α β : Type} : ∀ {l : List α} {m : List β}, l.length = m.length → (l.zip m).map (·.1) = l
  | [], _, _ => rfl
  | a :: l, [], h => by simp at h
  | a :: l, b :: m, h => by simp [zip_fst (l := l) (m := m) (by simpa using h)]
theorem zip_snd {α β : Type} : ∀ {l : List α} {m : List β}, l.length = m.length → (l.zip m).map (·.2) = m
  | [], [], _ => rfl
  | [], b :: m, h => by simp at h
  | a :: l, [], h => by simp at h
  | a :: l, b :: m, h => by simp [zip_snd (l := l) (m := m) (by simpa using h)]
open PySem.W in
theorem cr_sortD (hu : X.A.units + 64 < cLine) : CallR X (.builtin "sorted") rSortD := by
  intro pins s σ H vs us Q I r h
  obtain ⟨a, xs, ds, rfl, ha, hd, hal, hk, hdep, q⟩ := h
  obtain ⟨its, rv, hl, hz⟩ := I.list (SqL.of ha)
  rw [Vals.ref1 r]
  have len : ds.length = xs.length := hd.length.symm
  have e1 := each_of_dts hd rv
  have er : EachIs (fun u (b : PyData × V) => ∃ as, Reads s.heap u b.1 as) its (ds.zip xs) := e1.mono fun u b ⟨r1, d1⟩ => Dp.reads I b.1 b.2 u (Dt.dp d1) r1
  have mf : (ds.zip xs).map (·.1) = ds := zip_fst len
  have ms : (ds.zip xs).map (·.2) = xs := zip_snd len
  refine sorted_data (enc := fun b : PyData × V => b.1) hl.isList e1 er (by rw [mf]; exact hal) (by rw [mf]; exact hk) (by simp only [List.length_zip]; omega) (fun b hb => ?_) fun out ho eo => ?_
  · have := hdep b.1 (by rw [← mf]; exact List.mem_map_of_mem hb)
    omega
  · obtain ⟨d2, v2⟩ := dts_of_each eo
    have mp : ((ds.zip xs).mergeSort (dataLe false fun b : PyData × V => b.1)).Perm (ds.zip xs) := List.mergeSort_perm _ _
    have p2 := mp.map (·.2)
    rw [ms] at p2
    have e3 : ((ds.zip xs).mergeSort (dataLe false fun b : PyData × V => b.1)).map (·.1) = ds.mergeSort (dataLe false id) := by
      have z := sort_maps (r := dataLe false fun b : PyData × V => b.1) (s := dataLe false (id : PyData → PyData)) (fun b : PyData × V => b.1) (l := ds.zip xs) fun _ _ _ _ => rfl
      rw [mf] at z
      exact z
    rw [e3] at d2
    obtain ⟨ep, he'⟩ := PyProof.Rows.sortedAll_at s.heap its out.toArray
    have hlen : (((ds.zip xs).mergeSort (dataLe false fun b : PyData × V => b.1)).map (·.2)).length ≤ sizeLine := by
      rw [p2.length_eq]; exact hz
    refine ⟨.ref (s.heap.objs.size + 1), upd H (s.heap.objs.size + 1) (.lst (((ds.zip xs).mergeSort (dataLe false fun b : PyData × V => b.1)).map (·.2))), I.laid (t' := s.toks) (fun _ _ => PyProof.Rows.sortedAll_old) (Nat.le_succ _) ⟨hlen, out, ep, v2, he'⟩, rfl, q _ _ (I.hok.fresh (Nat.le_succ _)) p2 d2⟩
end

/-! ### repr(x) of data -/
section
variable {X : Cx}
def Dt.fine (d : PyData) : Prop := d.showable = true ∧ d.hasDict = false ∧ d.depth ≤ 32 ∧ d.shown.length ≤ sizeLine
def rReprD : List V → Hp → VK → Prop := fun vs H Q => ∃ (x : V) (d : PyData), vs = [x] ∧ Dt H d x ∧ isDisplay d = true ∧ Dt.fine d ∧ Q (.str d.shown) H
theorem cr_reprD (hg : X.A.guards = some []) (hu : X.A.units + 64 < cLine) : CallR X (.builtin "repr") rReprD := by
  intro pins s σ H vs us Q I r h
  obtain ⟨x, d, rfl, hd, hi, ⟨f1, f2, f3, f4⟩, q⟩ := h
  cases r with
  | cons r rr =>
    cases rr
    obtain ⟨as, rd⟩ := Dp.reads I d x _ (Dt.dp hd) r
    obtain ⟨a, rfl⟩ := isRef_of_reads rd hi
    refine repr_of_reads' rd f1 (PyData.noDict_hsm f2) hg (by omega) (fun _ _ e => e) (fun h' u tk hk => ?_) f4
    exact ⟨.str d.shown, H, I.kept (t' := tk) hk, ⟨_, rfl⟩, q⟩
def rReprB : List V → Hp → VK → Prop := fun vs H Q => ∃ b : Bool, vs = [.bl b] ∧ Q (.str (if b then "True" else "False")) H
theorem cr_reprB : CallR X (.builtin "repr") rReprB := by
  intro pins s σ H vs us Q I r h
  obtain ⟨b, rfl, q⟩ := h
  cases r with
  | cons r rr =>
    cases rr
    cases r
    exact PySem.P.repr_of_bool ⟨.str (if b then "True" else "False"), H, I.tok _, ⟨_, rfl⟩, q⟩
end
end W3

end
section
set_option Elab.async false
set_option linter.all false
set_option maxRecDepth 100000
set_option maxHeartbeats 4000000
namespace W3
open PySem PySem.Spec PyProof.Rows L2
open Evl (Ex)

/-! ### defs of the module, called where no repr runs -/
structure RG (k : Nat) (A : Around) : Prop where
  room : Room k A
  quiet : A.guards = some []
theorem RG.less {j k : Nat} {A : Around} (r : RG k A) (h : j ≤ k) : RG j A := ⟨r.room.mono h, r.quiet⟩
theorem RG.u64 {k : Nat} {A : Around} (r : RG k A) : A.units + 64 < cLine := r.room.units
abbrev Sp3 := List V → Hp → VK → Prop

/-- the module's def of this name keeps its promise, by at most k calls one in another -/
structure Df (P : Program) (w : World) (K : PySem.W.Frag) (mg : Str → Option Value) (base : Heap) (k : Nat) (x : Str) (ps : List Str) (sp : Sp3) : Prop where
  len : ∀ vs H Q, sp vs H Q → vs.length = ps.length
  ex : ∃ (f : Addr) (fd : FuncData), mg x = some (.ref f) ∧ PySem.W.keepIn K (.ref f) = true ∧ (∀ args us, bindArgs fd args = pure (ps.zip us) → us.length = ps.length →
      ∀ (A : Around) (outer : List Env) (s : Shared) (H : Hp) (vs : List V) (Q : VK), RG k A → Env0 P w K mg base A outer s H → Vals vs us → sp vs H Q →
        codeAny (model P w) A (.call (.ref f) args) (CR CX0 outer P w H s Q E0) s) ∧
    (∀ us : List Value, us.length = ps.length → bindArgs fd ⟨us, []⟩ = pure (ps.zip us)) ∧
    ∃ (st : Stmt) (kV doc pm : Value) (an : Option Addr) (cdv ct : Value), fd = PySem.W.fnOf x x (defArgs st) (defBody st) (defScope st) .none kV doc pm an cdv ct
section
variable {P : Program} {w : World} {K : PySem.W.Frag} {mg : Str → Option Value} {base : Heap}
theorem Df.more {j k : Nat} {x : Str} {ps : List Str} {sp : Sp3} (d : Df P w K mg base j x ps sp) (h : j ≤ k) : Df P w K mg base k x ps sp := by
  obtain ⟨f, fd, e1, e2, e3, e4⟩ := d.ex
  exact ⟨d.len, f, fd, e1, e2, fun args us hb hl A outer s H vs Q r => e3 args us hb hl A outer s H vs Q (r.less h), e4⟩

/-- a def by its body -/
theorem Df.body {x : Str} {st : Stmt} {f : Addr} {fd : FuncData} {N ps : List Str} {k : Nat} {sp : Sp3} (F : Fun K x x st f fd) (hm : mg x = some (.ref f))
    (hb : ∀ (kV doc pm : Value) (an : Option Addr) (cdv ct : Value) (us : List Value), us.length = ps.length → bindArgs (PySem.W.fnOf x x (defArgs st) (defBody st) (defScope st) .none kV doc pm an cdv ct) ⟨us, []⟩ = pure (ps.zip us))
    (S : FnScope N ps (defScope st)) (len : ∀ vs H Q, sp vs H Q → vs.length = ps.length)
    (go : ∀ (cdv : Value) (A : Around) (outer : List Env) (s : Shared) (H : Hp) (vs : List V) (Q : VK), RG k (A.deeper (envOfC x (defScope st) s.heap.objs.size f cdv)) → sp vs H Q →
      ∃ t, PSs (cxOf CX0 P w K mg base N x (defScope st) f cdv A outer s H E0).nox (defBody st) t ∧ t { nx := fun _ H' => Q .non H', rt := Q } (start N vs) H) : Df P w K mg base (k + 1) x ps sp := by
  obtain ⟨oc, od, kV, doc, pm, an, cdv, ct, osl, rfl, lk, hcd⟩ := F.ex
  refine ⟨len, f, _, hm, F.kp, fun args us hbi hlu A outer s H vs Q rg e0 rv hsp => ?_, hb kV doc pm an cdv ct, st, kV, doc, pm, an, cdv, ct, rfl⟩
  have inK : K.In s.heap := e0.mod.kin.keeps fun b o e => (e0.bs b o e).1
  have noLim : s.heap.NoLimit := e0.mod.nolimit.keeps fun b o e => (e0.bs b o e).1
  have kinds : ∀ y ∈ ps.zip us, (defScope st).names.lookup y.1 = some .local ∨
      ((defScope st).names.lookup y.1 = some .cell ∧ ((cellsFrom (s.heap.objs.size + 1) (defScope st).names []).lookup y.1).isSome = true) := by
    rintro ⟨n, v⟩ hy
    refine (S.par n (List.of_mem_zip hy).1).imp id fun q => ⟨q, ?_⟩
    exact PySem.W.cellsFrom_some _ _ _ (.inl q)
  refine codeAny_call_function rg.room.depth (inK _ _ lk) rfl S.co S.gen rfl
    (PySem.W.codeRec_of inK hcd) ((BindsTo.of_eq hbi) _ _ _ _ ?_)
  refine wpAny_newFunctionEnv_cells S.kind kinds fun env he s1 ic => ?_
  subst he
  refine ⟨noLim.keeps ic.toInCall.keep, codeAny_func ?_⟩
  have rk : ∀ env, RG k (A.deeper env) := fun env => ⟨rg.room.deeper env, rg.quiet⟩
  obtain ⟨t, ht, hq⟩ := go cdv A outer s H vs Q (rk _) hsp
  have J : Inv (cxOf CX0 P w K mg base N x (defScope st) f cdv A outer s H E0) [] (start N vs) H s1 := inv_start S rg.room.hd e0 (len _ _ _ hsp) rv ic
  refine wpAny_mono (ht.nox.run [] s1 _ H _ J hq) (fun fl s' hs => ?_) fun e s' hs => hs
  cases fl with
  | brk => obtain ⟨_, _, _, z⟩ := hs; exact z.elim
  | cont => obtain ⟨_, _, _, z⟩ := hs; exact z.elim
  | next =>
    obtain ⟨σ', H', J', q⟩ := hs
    exact ⟨.non, H', J'.os, J'.bare, J'.base, J'.hok, rfl, q⟩
  | ret u =>
    obtain ⟨v, σ', H', J', rv', q⟩ := hs
    exact ⟨v, H', J'.os, J'.bare, J'.base, J'.hok, rv', q⟩
end

section
variable {X : Cx} {k : Nat} {x : Str} {ps : List Str} {sp : Sp3} {p pos : Pos} {e : Expr} {es : List Expr} {t : TA}
theorem after_call {pins : List (Addr × Obj)} {σ : L2.St} {H : Hp} {s : Shared} {Q : VK} {f : Addr} {args : Args} (I : Inv X pins σ H s)
    (h : codeAny (model X.prog X.w) X.A (.call (.ref f) args) (CR CX0 X.stack X.prog X.w H s Q E0) s) : wpAny (model X.prog X.w) X.A (call (.ref f) args.pos args.kw) (EP X pins σ Q) X.xe s := by
  refine wpAny_call (codeAny_mono h fun r s' hq => ?_)
  match r, hq with
  | .error _, hq => exact hq.elim
  | .ok (.ret _), hq => exact I.after hq
  | .ok .next, hq => exact hq.elim
  | .ok .brk, hq => exact hq.elim
  | .ok .cont, hq => exact hq.elim
/-- a call, its arguments by place -/
def tC3 (sp : Sp3) (t : TA) : TE := fun σ H Q => t σ H fun vs H1 => sp vs H1 Q
theorem pe_c3 (d : Df X.prog X.w X.K X.mg X.base k x ps sp) (hr : RG k X.A) (hg : Gl X x) (ha : PA X (e :: es) t) (hdb : (x == ("__debug__" : Str)) = false := by decide)
    (he : starEach (e :: es) X.env = (false, eval e X.env) :: starEach es X.env := by rfl) (hpl : (backTo pos (starEach es X.env)).any (·.1) = false := by rfl) : PE X (.Call (.Name x p) (e :: es) [] pos) (tC3 sp t) := by
  refine ⟨fun pins s σ H Q I h => ?_⟩
  obtain ⟨f, fd, hm, hk, run, hb, _⟩ := d.ex
  refine wpAny_Call_Name_kw (ld_glob I hg hm ?_ hdb)
  refine PySem.W.callWith_K (h₀ := X.base) I.ok.mod.kin hk (thn (ha.run pos pins s σ H _ I h) fun us s1 ⟨vs, H1, I1, r, q⟩ => ⟨I1.kIn, ?_⟩) he hpl
  have hl : us.length = ps.length := by rw [← r.length]; exact d.len _ _ _ q
  exact after_call I1 (run ⟨us, []⟩ us (hb us hl) hl X.A X.stack s1 H1 vs Q hr I1.env0 r q)
/-- a call by keywords alone -/
def tCk3 (sp : Sp3) (g : List V → List V) (n : Nat) (t : TA) : TE := fun σ H Q => t σ H fun vs H1 => vs.length = n ∧ sp (g vs) H1 Q
theorem pe_ck3 {kws : List Keyword} {ks : List Str} {g : {α : Type} → List α → List α} (d : Df X.prog X.w X.K X.mg X.base k x ps sp) (hr : RG k X.A) (hg : Gl X x) (hkw : PK X kws t)
    (hb : ∀ (st : Stmt) (kV doc pm : Value) (an : Option Addr) (cdv ct : Value) (us : List Value), us.length = ks.length →
      (∀ us : List Value, us.length = ps.length → bindArgs (PySem.W.fnOf x x (defArgs st) (defBody st) (defScope st) .none kV doc pm an cdv ct) ⟨us, []⟩ = pure (ps.zip us)) →
      bindArgs (PySem.W.fnOf x x (defArgs st) (defBody st) (defScope st) .none kV doc pm an cdv ct) ⟨[], ks.zip us⟩ = pure (ps.zip (g us)) ∧ (g us).length = ps.length)
    (hv : ∀ {vs : List V} {us : List Value}, vs.length = ks.length → Vals vs us → Vals (g vs) (g us))
    (hall : (backToKw pos (keywordEach kws X.env)).all (·.1.isSome) = true := by rfl) (hks : (backToKw pos (keywordEach kws X.env)).filterMap (·.1) = ks := by rfl) (hdb : (x == ("__debug__" : Str)) = false := by decide)
    (hpl : ((backTo pos (starEach [] X.env)).any (·.1) || (backToKw pos (keywordEach kws X.env)).any (·.1.isNone)) = false := by rfl) : PE X (.Call (.Name x p) [] kws pos) (tCk3 sp g ks.length t) := by
  refine ⟨fun pins s σ H Q I h => ?_⟩
  obtain ⟨f, fd, hm, hk, run, hb0, st, kV, doc, pm, an, cdv, ct, rfl⟩ := d.ex
  refine wpAny_Call_Name_kw (ld_glob I hg hm ?_ hdb)
  refine PySem.W.callWith_KW0 (h₀ := X.base) I.ok.mod.kin hk hall ?_ hpl
  refine thn (hkw.run pos pins s σ H _ I h) fun us s1 ⟨vs, H1, I1, r, l, q⟩ => ⟨I1.kIn, ?_⟩
  rw [hks]
  obtain ⟨b1, b2⟩ := hb st kV doc pm an cdv ct us (r.length.symm.trans l) hb0
  exact after_call (args := ⟨[], ks.zip us⟩) I1 (run _ (g us) b1 b2 X.A X.stack s1 H1 (g vs) Q hr I1.env0 (hv l r) q)
end

/-! ### the end of a law -/
theorem law_end {P : Program} {w : World} {K : PySem.W.Frag} {mg mb : Str → Option Value} {k : Nat} {fa a : Addr} {lw : Str} {ps : List Str} {sp : Sp3} {s₁ : Shared} {vs : List Value} {ns : List Int}
    (inK : K.In s₁.heap) (glob : s₁.heap.Ns mainGlobals mg) (blt : s₁.heap.Ns builtinsNs mb) (bltE : ∀ x : Str, x ≠ "__name__" → mb x = bootBuiltins x) (lim : s₁.heap.NoLimit) (gens : s₁.gens = #[])
    (obj : s₁.heap.get? a = some { cls := .type "list", data := .seq vs.toArray }) (hi : IntsAre vs ns) (hl : ns.length ≤ sizeLine) (hr : RG k callerA) (hmg : mg lw = some (.ref fa)) (hps : ps.length = 1)
    (F : ∀ base : Heap, K.In base → base.Ns mainGlobals mg → Df P w K mg base k lw ps sp)
    (hsp : ∀ H : Hp, SqL K H a (ns.map V.int) → sp [.ref a] H (fun v _ => v = .bl true)) :
    codeAny (model P w) callerA (.call (.ref fa) ⟨[.ref a], []⟩) (fun r s' => r = .ok (.ret (.bool true)) ∧ OldK s₁.heap s'.heap ∧ s'.os = s₁.os ∧ AllBare s'.gens) s₁ := by
  have rv : Vals (ns.map V.int) vs := vals_ints hi
  -- the abstract heap: the script, if it is not the module's own
  obtain ⟨H, hO, hS, hok, hA, hK⟩ : ∃ H : Hp, (∀ b, H b = none ∨ ∃ o ys, H b = some (.frz o (.lst ys))) ∧ SqL K H a (ns.map V.int) ∧ HOk P w H s₁.heap ∧ (∀ b, H b ≠ none → b = a) ∧ (H a ≠ none → K.lookup a = none) := by
    cases hk : K.lookup a with
    | some o =>
      have e := inK a o hk
      rw [obj] at e
      cases e
      refine ⟨fun _ => none, fun _ => .inl rfl, .inr ⟨_, vs.toArray, _, hk, rfl, rfl, rfl, ?_, by simpa using rv⟩, fun b u z => (by cases z), fun b z => (z rfl).elim, fun z => (z rfl).elim⟩
      rw [List.size_toArray, ← rv.length, List.length_map]; exact hl
    | none =>
      refine ⟨upd (fun _ => none) a (.frz { cls := .type "list", data := .seq vs.toArray } (.lst (ns.map V.int))), fun b => ?_, .inl (.inr ⟨_, upd_same⟩), fun b u z => ?_, fun b z => ?_, fun _ => rfl⟩
      · by_cases hb : b = a
        · subst hb; exact .inr ⟨_, _, upd_same⟩
        · exact .inl (upd_ne hb)
      · by_cases hb : b = a
        · subst hb
          rw [upd_same] at z; cases z
          exact ⟨obj, by rw [List.length_map]; exact hl, vs, _, rv, obj⟩
        · rw [upd_ne hb] at z; cases z
      · by_cases hb : b = a
        · exact hb
        · exact (z (upd_ne hb)).elim
  have off : ∀ {b : Addr} {o : Obj}, s₁.heap.get? b = some o → H b = none → (hidT s₁.heap H).get? b = some o := fun e n => hidT_get e n
  have onlyA : ∀ {b : Addr}, H b ≠ none → s₁.heap.get? b = some { cls := .type "list", data := .seq vs.toArray } := fun {b} z => by rw [hA b z]; exact obj
  have dictOff : ∀ {b : Addr} {o : Obj} {es : Array DictEntry} {ep : Nat}, s₁.heap.get? b = some o → o.data = .dict es ep → H b = none := fun {b o es ep} e d => by
    cases q : H b with
    | none => rfl
    | some u =>
      have z := onlyA (b := b) (by rw [q]; exact fun z => nomatch z)
      rw [e] at z
      cases z
      cases d
  have nsB : ∀ {b : Addr} {m : Str → Option Value}, s₁.heap.Ns b m → (hidT s₁.heap H).Ns b m := fun {b m} z => by
    obtain ⟨o, es, ep, e, d, r⟩ := z
    exact ⟨o, es, ep, off e (dictOff e d), d, r⟩
  have inB : K.In (hidT s₁.heap H) := fun b o e => off (inK b o e) (by
    cases q : H b with
    | none => rfl
    | some u =>
      have n0 : H b ≠ none := by rw [q]; exact fun z => nomatch z
      have eb := hA b n0
      subst eb
      rw [hK n0] at e
      cases e)
  have md : Mod K mg (hidT s₁.heap H) := ⟨inB, nsB glob, ⟨mb, nsB blt, bltE⟩, by obtain ⟨mc, h1, h2⟩ := lim; exact ⟨mc, nsB h1, h2⟩⟩
  have e0 : Env0 P w K mg (hidT s₁.heap H) callerA [] s₁ H := ⟨rfl, md, fun b o e => of_hidT e, Nat.le_of_eq (hidT_size _ _), trivial, fun b hb => (by cases hb), hok, .of_eq gens⟩
  obtain ⟨f, fd, hm, _, run, hb, _⟩ := (F _ inB (nsB glob)).ex
  rw [hmg] at hm
  cases hm
  refine codeAny_mono (run ⟨[.ref a], []⟩ [.ref a] (hb _ hps.symm) hps.symm callerA [] s₁ H [.ref a] _ hr e0 (.cons rfl .nil) (hsp H hS)) fun r s' h => ?_
  match r, h with
  | .error _, h => exact h.elim
  | .ok .next, h => exact h.elim
  | .ok .brk, h => exact h.elim
  | .ok .cont, h => exact h.elim
  | .ok (.ret u), h =>
    obtain ⟨v, H', os, bare, un, hok', r', q⟩ := h
    have q' : v = .bl true := q
    subst q'
    obtain rfl : u = Value.bool true := r'
    refine ⟨rfl, OldK.of_keep fun b o e => ?_, os, bare⟩
    rcases hO b with z | ⟨ob, ys, z⟩
    · exact un.keep b o e z (fun y => by cases y) (fun y => by cases y)
    · have z2 := un.frzs b ob _ z
      have e1 := (hok b _ z).1
      have e2 := (hok' b _ z2).1
      rw [e] at e1
      cases e1
      exact e2
theorem walk_end {l : PySem.W.OpenLaw} {n k : Nat} {q : Program} {loose : List Str} {XP : (Str → Option Value) → Heap → Prop} {YP : World → Heap → Prop} {d : DefRec} {K : Params → PySem.W.Frag} {ps : List Str} {sp : PySem.W.Frag → Sp3}
    (hn : l.most = some n) (hn2 : n ≤ sizeLine) (hdf : d.params.defaults = []) (hr : RG k callerA) (hps : ps.length = 1)
    (hY : ∀ (w : World) (h : Heap), YP w h → (K w.params).In h)
    (F : ∀ (w : World) (mg : Str → Option Value) (h : Heap), (K w.params).In h → h.Ns mainGlobals mg →
      ∀ base : Heap, (K w.params).In base → base.Ns mainGlobals mg → Df l.prog w (K w.params) mg base k d.name ps (sp (K w.params)))
    (hsp : ∀ (K : PySem.W.Frag) (H : Hp) (a : Addr) (ns : List Int), ns.length ≤ n → SqL K H a (ns.map V.int) → sp K [.ref a] H (fun v _ => v = .bl true)) :
    PySem.W.WalkO q loose XP YP l.row.toRowW d [] (fun f vs => PySem.call f vs) := by
  refine Att.attach_call hn hdf fun w s₀ s₁ mg mb fa o pm cd doc a vs ns G Y _ _ _ hmg hobj hints hlen hg => ?_
  have inK := hY w _ Y
  exact law_end inK G.T.g G.T.b G.T.builtins G.T.nolimit hg hobj hints (Nat.le_trans hlen hn2) hr hmg hps (F w mg _ inK G.T.g) fun H hS => hsp _ H a ns hlen hS
end W3

end
section
set_option Elab.async false
set_option linter.all false
set_option maxRecDepth 100000
set_option maxHeartbeats 4000000
namespace W3
open PySem PySem.Spec PyProof.Rows L2
open Evl (Ex)

/-- where a comprehension stands: G what is known beside the list D that is made -/
def At (H1 : Hp) (D : Addr) (P : List V → Hp → Prop) (H : Hp) : Prop := ∃ acc G, H = upd G D (.lst acc) ∧ G D = none ∧ Ex H1 G ∧ acc.length < sizeLine ∧ P acc G
section
variable {K : PySem.W.Frag} {σ : L2.St} {H H1 : Hp} {vs : List Nat} {Q : VK} {te : TE} {tt : TT} {D : Addr} {P P' : List V → Hp → Prop} {σ2 : L2.St} {acc : List V} {G : Hp}

theorem At.start (hD : H1 D = none) (h : P [] H1) : At H1 D P (upd H1 D (.lst [])) := ⟨[], H1, rfl, hD, Ex.refl _, by show 0 < sizeLine; decide, h⟩

theorem yes_of {F N : Hp → Prop} (h : F H) : tYes σ2 H fun b H3 => if b = true then F H3 else N H3 := by
  show if true = true then F H else N H
  rw [if_pos rfl]; exact h
/-- a turn without a test: the element, the list made so far out of sight -/
theorem el_fr (hD : G D = none) (e1 : Ex H1 G) (hz : acc.length + 1 < sizeLine) (h : te σ2 G fun y G4 => Ex G G4 ∧ P' (acc ++ [y]) G4) :
    tFr te σ2 (upd G D (.lst acc)) fun y H4 => ∃ acc, H4 D = some (.lst acc) ∧ acc.length < sizeLine ∧ At H1 D P' (upd H4 D (.lst (acc ++ [y]))) := by
  refine ⟨D, acc, fun y G4 => Ex G G4 ∧ P' (acc ++ [y]) G4, upd_same, by rw [rm_upd hD]; exact h, fun y G4 ⟨e, p⟩ n4 => ?_⟩
  exact ⟨acc, upd_same, by omega, acc ++ [y], G4, by rw [upd_upd], n4, e1.trans e, by rw [List.length_append]; exact hz, p⟩
/-- a turn with a test -/
theorem tt_fr (hD : G D = none) (e1 : Ex H1 G) (hz : acc.length + 1 < sizeLine)
    (h : tt σ2 G fun b G3 => Ex G G3 ∧ (b = true → te σ2 G3 fun y G4 => Ex G3 G4 ∧ P' (acc ++ [y]) G4) ∧ (b = false → P' acc G3)) :
    tFrT tt σ2 (upd G D (.lst acc)) fun b H3 => if b = true then tFr te σ2 H3 fun y H4 => ∃ acc, H4 D = some (.lst acc) ∧ acc.length < sizeLine ∧ At H1 D P' (upd H4 D (.lst (acc ++ [y]))) else At H1 D P' H3 := by
  refine ⟨D, acc, fun b G3 => Ex G G3 ∧ (b = true → te σ2 G3 fun y G4 => Ex G3 G4 ∧ P' (acc ++ [y]) G4) ∧ (b = false → P' acc G3), upd_same, by rw [rm_upd hD]; exact h, fun b G3 ⟨e, h1, h2⟩ n3 => ?_⟩
  cases b with
  | true => exact iteT (el_fr n3 (e1.trans e) hz (h1 rfl))
  | false => exact iteF ⟨acc, G3, rfl, n3, e1.trans e, by omega, h2 rfl⟩

/-- [e for x in xs] -/
theorem lc_n {a : Addr} {xs : List V} {j : Nat} (P : Nat → List V → Hp → Prop) (hx : H1 a = some (.lst xs)) (hz : xs.length ≤ 100000) (h0 : P 0 [] H1) (hlen : ∀ i acc G, P i acc G → acc.length ≤ i)
    (hw : ∀ x, wipe ((wipe σ vs).set j (some x)) vs = wipe σ vs)
    (step : ∀ i x acc G, xs[i]? = some x → Ex H1 G → P i acc G → te ((wipe σ vs).set j (some x)) G fun y G4 => Ex G G4 ∧ P (i + 1) (acc ++ [y]) G4)
    (done : ∀ acc G p, Ex H1 G → G p = none → P xs.length acc G → Q (.ref p) (upd G p (.lst acc))) (hD : H1 D = none) :
    ∃ W : Nat → Nat → Hp → Prop, (∃ m, W 0 m (upd H1 D (.lst []))) ∧ ∀ i m H, W i m H →
      ((Itl K a).stop i H ∧ Q (.ref D) H) ∨ ((Itl K a).go i H ∧ ∃ Nx : Hp → Prop, (∀ H', Nx H' → ∃ m', m' < m ∧ W (i + 1) m' H') ∧ ∀ x H', (Itl K a).yld i H x H' → gName j x (wipe σ vs) H' fun σ2 H2 => wipe σ2 vs = wipe σ vs ∧ tYes σ2 H2 fun b H3 =>
        if b = true then tFr te σ2 H3 fun y H4 => ∃ acc, H4 D = some (.lst acc) ∧ acc.length < sizeLine ∧ Nx (upd H4 D (.lst (acc ++ [y]))) else Nx H3) := by
  refine lc_list (xs := xs) (fun i => At H1 D (P i)) (At.start hD h0) (fun i H _ ⟨acc, G, eH, n, e, _, _⟩ => ?_) (fun i x H hi ⟨acc, G, eH, n, e, l, p⟩ => ?_) fun H ⟨acc, G, eH, n, e, _, p⟩ => ?_
  · subst eH; exact SqL.of (ex_upd n _ _ (e _ _ hx))
  · subst eH
    refine ⟨hw x, yes_of (el_fr n e ?_ (step i x acc G hi e p))⟩
    have h1 := hlen i acc G p
    have h2 := (List.getElem?_eq_some_iff.mp hi).1
    have h3 : (100002 : Nat) < sizeLine := by decide
    omega
  · subst eH; exact done acc G D e n p
/-- [e for x in range(n)] -/
theorem lc_r {lo : Int} {n j : Nat} (P : Nat → List V → Hp → Prop) (hz : n ≤ 100000) (h0 : P 0 [] H1) (hlen : ∀ i acc G, P i acc G → acc.length ≤ i)
    (hw : ∀ x, wipe ((wipe σ vs).set j (some x)) vs = wipe σ vs)
    (step : ∀ i acc G, i < n → Ex H1 G → P i acc G → te ((wipe σ vs).set j (some (.int (lo + i)))) G fun y G4 => Ex G G4 ∧ P (i + 1) (acc ++ [y]) G4)
    (done : ∀ acc G p, Ex H1 G → G p = none → P n acc G → Q (.ref p) (upd G p (.lst acc))) (hD : H1 D = none) :
    ∃ W : Nat → Nat → Hp → Prop, (∃ m, W 0 m (upd H1 D (.lst []))) ∧ ∀ i m H, W i m H →
      ((Itr lo n).stop i H ∧ Q (.ref D) H) ∨ ((Itr lo n).go i H ∧ ∃ Nx : Hp → Prop, (∀ H', Nx H' → ∃ m', m' < m ∧ W (i + 1) m' H') ∧ ∀ x H', (Itr lo n).yld i H x H' → gName j x (wipe σ vs) H' fun σ2 H2 => wipe σ2 vs = wipe σ vs ∧ tYes σ2 H2 fun b H3 =>
        if b = true then tFr te σ2 H3 fun y H4 => ∃ acc, H4 D = some (.lst acc) ∧ acc.length < sizeLine ∧ Nx (upd H4 D (.lst (acc ++ [y]))) else Nx H3) := by
  refine lc_range (lo := lo) (n := n) (fun i => At H1 D (P i)) (At.start hD h0) (fun i H hi ⟨acc, G, eH, n', e, l, p⟩ => ?_) fun H ⟨acc, G, eH, n', e, _, p⟩ => ?_
  · subst eH
    refine ⟨hw _, yes_of (el_fr n' e ?_ (step i acc G hi e p))⟩
    have h1 := hlen i acc G p
    have h3 : (100002 : Nat) < sizeLine := by decide
    omega
  · subst eH; exact done acc G D e n' p
/-- [e for x in range(n) if t] -/
theorem lc_rt {lo : Int} {n j : Nat} (P : Nat → List V → Hp → Prop) (hz : n ≤ 100000) (h0 : P 0 [] H1) (hlen : ∀ i acc G, P i acc G → acc.length ≤ i)
    (hw : ∀ x, wipe ((wipe σ vs).set j (some x)) vs = wipe σ vs)
    (step : ∀ i acc G, i < n → Ex H1 G → P i acc G → tt ((wipe σ vs).set j (some (.int (lo + i)))) G fun b G3 => Ex G G3 ∧
      (b = true → te ((wipe σ vs).set j (some (.int (lo + i)))) G3 fun y G4 => Ex G3 G4 ∧ P (i + 1) (acc ++ [y]) G4) ∧ (b = false → P (i + 1) acc G3))
    (done : ∀ acc G p, Ex H1 G → G p = none → P n acc G → Q (.ref p) (upd G p (.lst acc))) (hD : H1 D = none) :
    ∃ W : Nat → Nat → Hp → Prop, (∃ m, W 0 m (upd H1 D (.lst []))) ∧ ∀ i m H, W i m H →
      ((Itr lo n).stop i H ∧ Q (.ref D) H) ∨ ((Itr lo n).go i H ∧ ∃ Nx : Hp → Prop, (∀ H', Nx H' → ∃ m', m' < m ∧ W (i + 1) m' H') ∧ ∀ x H', (Itr lo n).yld i H x H' → gName j x (wipe σ vs) H' fun σ2 H2 => wipe σ2 vs = wipe σ vs ∧ tFrT tt σ2 H2 fun b H3 =>
        if b = true then tFr te σ2 H3 fun y H4 => ∃ acc, H4 D = some (.lst acc) ∧ acc.length < sizeLine ∧ Nx (upd H4 D (.lst (acc ++ [y]))) else Nx H3) := by
  refine lc_range (lo := lo) (n := n) (fun i => At H1 D (P i)) (At.start hD h0) (fun i H hi ⟨acc, G, eH, n', e, l, p⟩ => ?_) fun H ⟨acc, G, eH, n', e, _, p⟩ => ?_
  · subst eH
    refine ⟨hw _, tt_fr n' e ?_ (step i acc G hi e p)⟩
    have h1 := hlen i acc G p
    have h3 : (100002 : Nat) < sizeLine := by decide
    omega
  · subst eH; exact done acc G D e n' p
/-- the targets a, b, c of a for over tuples of three -/
def g3 (K : PySem.W.Frag) (i j l : Nat) : TG := gTup K 3 (gCons (gName i) (gCons (gName j) (gCons (gName l) gNil)))
theorem g3_at {i j l : Nat} {p : Addr} {x y z : V} {C : L2.St → Hp → Prop} (h : SqT K H p [x, y, z]) (q : C (((σ.set i (some x)).set j (some y)).set l (some z)) H) : g3 K i j l (.ref p) σ H C :=
  ⟨p, _, rfl, h, rfl, x, _, rfl, y, _, rfl, z, _, rfl, rfl, q⟩
/-- [e for a, b, c in xs if t], tests and elements numbers -/
theorem lc_t3 {a : Addr} {xs : List V} {j1 j2 j3 : Nat} (P : Nat → List V → Hp → Prop) (hx : H1 a = some (.lst xs)) (hz : xs.length ≤ 100000) (h0 : P 0 [] H1) (hlen : ∀ i acc G, P i acc G → acc.length ≤ i)
    (hw : ∀ x y z, wipe ((((wipe σ vs).set j1 (some x)).set j2 (some y)).set j3 (some z)) vs = wipe σ vs)
    (step : ∀ i x acc G, xs[i]? = some x → Ex H1 G → P i acc G → ∃ p u v w, x = .ref p ∧ SqT K G p [u, v, w] ∧
      tt ((((wipe σ vs).set j1 (some u)).set j2 (some v)).set j3 (some w)) G fun b G3 => Ex G G3 ∧
      (b = true → te ((((wipe σ vs).set j1 (some u)).set j2 (some v)).set j3 (some w)) G3 fun y G4 => Ex G3 G4 ∧ P (i + 1) (acc ++ [y]) G4) ∧ (b = false → P (i + 1) acc G3))
    (done : ∀ acc G p, Ex H1 G → G p = none → P xs.length acc G → Q (.ref p) (upd G p (.lst acc))) (hD : H1 D = none) :
    ∃ W : Nat → Nat → Hp → Prop, (∃ m, W 0 m (upd H1 D (.lst []))) ∧ ∀ i m H, W i m H →
      ((Itl K a).stop i H ∧ Q (.ref D) H) ∨ ((Itl K a).go i H ∧ ∃ Nx : Hp → Prop, (∀ H', Nx H' → ∃ m', m' < m ∧ W (i + 1) m' H') ∧ ∀ x H', (Itl K a).yld i H x H' → g3 K j1 j2 j3 x (wipe σ vs) H' fun σ2 H2 => wipe σ2 vs = wipe σ vs ∧ tFrT tt σ2 H2 fun b H3 =>
        if b = true then tFr te σ2 H3 fun y H4 => ∃ acc, H4 D = some (.lst acc) ∧ acc.length < sizeLine ∧ Nx (upd H4 D (.lst (acc ++ [y]))) else Nx H3) := by
  refine lc_list (xs := xs) (fun i => At H1 D (P i)) (At.start hD h0) (fun i H _ ⟨acc, G, eH, n, e, _, _⟩ => ?_) (fun i x H hi ⟨acc, G, eH, n, e, l, p⟩ => ?_) fun H ⟨acc, G, eH, n, e, _, p⟩ => ?_
  · subst eH; exact SqL.of (ex_upd n _ _ (e _ _ hx))
  · subst eH
    obtain ⟨q, u, v, w, rfl, ht, h⟩ := step i x acc G hi e p
    refine g3_at (Evl.ex_t (ex_upd n) ht) ⟨hw u v w, tt_fr n e ?_ h⟩
    have h1 := hlen i acc G p
    have h2 := (List.getElem?_eq_some_iff.mp hi).1
    have h3 : (100002 : Nat) < sizeLine := by decide
    omega
  · subst eH; exact done acc G D e n p
/-- the same without a test -/
theorem lc_t3n {a : Addr} {xs : List V} {j1 j2 j3 : Nat} (P : Nat → List V → Hp → Prop) (hx : H1 a = some (.lst xs)) (hz : xs.length ≤ 100000) (h0 : P 0 [] H1) (hlen : ∀ i acc G, P i acc G → acc.length ≤ i)
    (hw : ∀ x y z, wipe ((((wipe σ vs).set j1 (some x)).set j2 (some y)).set j3 (some z)) vs = wipe σ vs)
    (step : ∀ i x acc G, xs[i]? = some x → Ex H1 G → P i acc G → ∃ p u v w, x = .ref p ∧ SqT K G p [u, v, w] ∧
      te ((((wipe σ vs).set j1 (some u)).set j2 (some v)).set j3 (some w)) G fun y G4 => Ex G G4 ∧ P (i + 1) (acc ++ [y]) G4)
    (done : ∀ acc G p, Ex H1 G → G p = none → P xs.length acc G → Q (.ref p) (upd G p (.lst acc))) (hD : H1 D = none) :
    ∃ W : Nat → Nat → Hp → Prop, (∃ m, W 0 m (upd H1 D (.lst []))) ∧ ∀ i m H, W i m H →
      ((Itl K a).stop i H ∧ Q (.ref D) H) ∨ ((Itl K a).go i H ∧ ∃ Nx : Hp → Prop, (∀ H', Nx H' → ∃ m', m' < m ∧ W (i + 1) m' H') ∧ ∀ x H', (Itl K a).yld i H x H' → g3 K j1 j2 j3 x (wipe σ vs) H' fun σ2 H2 => wipe σ2 vs = wipe σ vs ∧ tYes σ2 H2 fun b H3 =>
        if b = true then tFr te σ2 H3 fun y H4 => ∃ acc, H4 D = some (.lst acc) ∧ acc.length < sizeLine ∧ Nx (upd H4 D (.lst (acc ++ [y]))) else Nx H3) := by
  refine lc_list (xs := xs) (fun i => At H1 D (P i)) (At.start hD h0) (fun i H _ ⟨acc, G, eH, n, e, _, _⟩ => ?_) (fun i x H hi ⟨acc, G, eH, n, e, l, p⟩ => ?_) fun H ⟨acc, G, eH, n, e, _, p⟩ => ?_
  · subst eH; exact SqL.of (ex_upd n _ _ (e _ _ hx))
  · subst eH
    obtain ⟨q, u, v, w, rfl, ht, h⟩ := step i x acc G hi e p
    refine g3_at (Evl.ex_t (ex_upd n) ht) ⟨hw u v w, yes_of (el_fr n e ?_ h)⟩
    have h1 := hlen i acc G p
    have h2 := (List.getElem?_eq_some_iff.mp hi).1
    have h3 : (100002 : Nat) < sizeLine := by decide
    omega
  · subst eH; exact done acc G D e n p
end
end W3

end
section
set_option Elab.async false
set_option linter.all false
set_option maxRecDepth 100000
set_option maxHeartbeats 4000000
namespace W3
open PySem PySem.Spec PyProof.Rows L2
open Evl (Ex)
section
variable {K : PySem.W.Frag} {σ : L2.St} {H H1 : Hp} {vs vs1 : List Nat} {Q : VK} {te : TE} {D : Addr}

theorem inner_list {b : Addr} {ys : List V} {j2 : Nat} {σ2 : L2.St} {Nx : Hp → Prop} {P : Nat → List V → Hp → Prop} (hb : H1 b = some (.lst ys)) (hw : ∀ y, wipe ((wipe σ2 vs1).set j2 (some y)) vs1 = wipe σ2 vs1)
    (hlen : ∀ j acc G, P j acc G → acc.length ≤ 200000) (step : ∀ j y acc G, ys[j]? = some y → Ex H1 G → P j acc G → te ((wipe σ2 vs1).set j2 (some y)) G fun z G4 => Ex G G4 ∧ P (j + 1) (acc ++ [z]) G4)
    (done : ∀ H, At H1 D (P ys.length) H → Nx H) {H4 : Hp} (h0 : At H1 D (P 0) H4) :
    ∃ W1 : Nat → Nat → Hp → Prop, (∃ m, W1 0 m H4) ∧ ∀ j k H, W1 j k H →
      ((Itl K b).stop j H ∧ Nx H) ∨ ((Itl K b).go j H ∧ ∃ Nx1 : Hp → Prop, (∀ H', Nx1 H' → ∃ k', k' < k ∧ W1 (j + 1) k' H') ∧ ∀ x H', (Itl K b).yld j H x H' → gName j2 x (wipe σ2 vs1) H' fun σ3 H5 => wipe σ3 vs1 = wipe σ2 vs1 ∧ tYes σ3 H5 fun b H6 =>
        if b = true then tFr te σ3 H6 fun y H7 => ∃ acc, H7 D = some (.lst acc) ∧ acc.length < sizeLine ∧ Nx1 (upd H7 D (.lst (acc ++ [y]))) else Nx1 H6) := by
  refine ⟨fun j m H => m = ys.length - j ∧ j ≤ ys.length ∧ At H1 D (P j) H, ⟨ys.length, by simp, Nat.zero_le _, h0⟩, ?_⟩
  rintro j m H ⟨rfl, hj, hA⟩
  have hl : SqL K H b ys := by
    obtain ⟨acc, G, eH, n, e, _, _⟩ := hA
    subst eH; exact SqL.of (ex_upd n _ _ (e _ _ hb))
  by_cases lt : j < ys.length
  · refine .inr ⟨⟨ys, ys[j], hl, by simp [lt]⟩, At H1 D (P (j + 1)), fun H' h' => ⟨ys.length - (j + 1), by omega, rfl, lt, h'⟩, fun x H' y => ?_⟩
    obtain ⟨e, y⟩ := y
    subst e
    obtain ⟨acc, G, eH, n, e, l, p⟩ := hA
    subst eH
    refine ⟨hw x, yes_of (el_fr n e ?_ (step j x acc G (y ys hl) e p))⟩
    have h1 := hlen j acc G p
    have h3 : (200002 : Nat) < sizeLine := by decide
    omega
  · have e : j = ys.length := by omega
    subst e
    exact .inl ⟨⟨ys, hl, Nat.le_refl _⟩, done _ hA⟩

/-- [e for x in xs for y in ys], both lists, ys in the slot sl -/
theorem lc2_ll {a b : Addr} {xs ys : List V} {j1 j2 sl : Nat} (P : Nat → Nat → List V → Hp → Prop) (hx : H1 a = some (.lst xs)) (hy : H1 b = some (.lst ys)) (h0 : P 0 0 [] H1)
    (hlen : ∀ i j acc G, P i j acc G → acc.length ≤ 200000) (hw1 : ∀ x, wipe ((wipe σ vs).set j1 (some x)) vs = wipe σ vs)
    (hw2 : ∀ x y, wipe ((wipe ((wipe σ vs).set j1 (some x)) vs1).set j2 (some y)) vs1 = wipe ((wipe σ vs).set j1 (some x)) vs1) (hv : ∀ x, ((wipe σ vs).set j1 (some x))[sl]? = some (some (.ref b)))
    (step : ∀ i j x y acc G, xs[i]? = some x → ys[j]? = some y → Ex H1 G → P i j acc G → te ((wipe ((wipe σ vs).set j1 (some x)) vs1).set j2 (some y)) G fun z G4 => Ex G G4 ∧ P i (j + 1) (acc ++ [z]) G4)
    (roll : ∀ i acc G, i < xs.length → P i ys.length acc G → P (i + 1) 0 acc G)
    (done : ∀ acc G p, Ex H1 G → G p = none → P xs.length 0 acc G → Q (.ref p) (upd G p (.lst acc))) (hD : H1 D = none) :
    ∃ W : Nat → Nat → Hp → Prop, (∃ m, W 0 m (upd H1 D (.lst []))) ∧ ∀ i m H, W i m H →
      ((Itl K a).stop i H ∧ Q (.ref D) H) ∨ ((Itl K a).go i H ∧ ∃ Nx : Hp → Prop, (∀ H', Nx H' → ∃ m', m' < m ∧ W (i + 1) m' H') ∧ ∀ x H', (Itl K a).yld i H x H' → gName j1 x (wipe σ vs) H' fun σ2 H2 => wipe σ2 vs = wipe σ vs ∧ tYes σ2 H2 fun b H3 =>
        if b = true then iList K (tVar sl) σ2 H3 fun J1 H4 => ∃ W1 : Nat → Nat → Hp → Prop, (∃ m, W1 0 m H4) ∧ ∀ j k H, W1 j k H →
          (J1.stop j H ∧ Nx H) ∨ (J1.go j H ∧ ∃ Nx1 : Hp → Prop, (∀ H', Nx1 H' → ∃ k', k' < k ∧ W1 (j + 1) k' H') ∧ ∀ x H', J1.yld j H x H' → gName j2 x (wipe σ2 vs1) H' fun σ3 H5 => wipe σ3 vs1 = wipe σ2 vs1 ∧ tYes σ3 H5 fun b H6 =>
            if b = true then tFr te σ3 H6 fun y H7 => ∃ acc, H7 D = some (.lst acc) ∧ acc.length < sizeLine ∧ Nx1 (upd H7 D (.lst (acc ++ [y]))) else Nx1 H6)
        else Nx H3) := by
  refine ⟨fun i m H => m = xs.length - i ∧ i ≤ xs.length ∧ At H1 D (P i 0) H, ⟨xs.length, by simp, Nat.zero_le _, At.start hD h0⟩, ?_⟩
  rintro i m H ⟨rfl, hi, hA⟩
  have hl : SqL K H a xs := by
    obtain ⟨acc, G, eH, n, e, _, _⟩ := hA
    subst eH; exact SqL.of (ex_upd n _ _ (e _ _ hx))
  by_cases lt : i < xs.length
  · refine .inr ⟨⟨xs, xs[i], hl, by simp [lt]⟩, At H1 D (P (i + 1) 0), fun H' h' => ⟨xs.length - (i + 1), by omega, rfl, lt, h'⟩, fun x H' y => ?_⟩
    obtain ⟨e, y⟩ := y
    subst e
    have hx' : xs[i]? = some x := y xs hl
    refine ⟨hw1 x, yes_of ⟨.ref b, hv x, b, rfl, ⟨ys, ?_⟩, ?_⟩⟩
    · obtain ⟨acc, G, eH, n, e, _, _⟩ := hA
      subst eH; exact SqL.of (ex_upd n _ _ (e _ _ hy))
    · refine inner_list (P := P i) hy (hw2 x) (hlen i) (fun j y acc G h1 h2 h3 => step i j x y acc G hx' h1 h2 h3) (fun H h => ?_) hA
      obtain ⟨acc, G, eH, n, e, l, p⟩ := h
      exact ⟨acc, G, eH, n, e, l, roll i acc G lt p⟩
  · have e : i = xs.length := by omega
    subst e
    obtain ⟨acc, G, eH, n, e, _, p⟩ := hA
    subst eH
    exact .inl ⟨⟨xs, hl, Nat.le_refl _⟩, done acc G D e n p⟩

/-- [e for x in range(n) for y in range(..)], the inner range by what x is -/
theorem lc2_rr {lo : Int} {n j1 j2 : Nat} {lo1 : Nat → Int} {n1 : Nat → Nat} {wi1 : TI} (P : Nat → Nat → List V → Hp → Prop) (h0 : P 0 0 [] H1)
    (hlen : ∀ i j acc G, P i j acc G → acc.length ≤ 200000) (hw1 : ∀ x, wipe ((wipe σ vs).set j1 (some x)) vs = wipe σ vs)
    (hw2 : ∀ x y, wipe ((wipe ((wipe σ vs).set j1 (some x)) vs1).set j2 (some y)) vs1 = wipe ((wipe σ vs).set j1 (some x)) vs1)
    (hi1 : ∀ i G (R : It → Hp → Prop), i < n → R (Itr (lo1 i) (n1 i)) G → wi1 ((wipe σ vs).set j1 (some (.int (lo + i)))) G R)
    (step : ∀ i j acc G, i < n → j < n1 i → Ex H1 G → P i j acc G → te ((wipe ((wipe σ vs).set j1 (some (.int (lo + i)))) vs1).set j2 (some (.int (lo1 i + j)))) G fun z G4 => Ex G G4 ∧ P i (j + 1) (acc ++ [z]) G4)
    (roll : ∀ i acc G, i < n → P i (n1 i) acc G → P (i + 1) 0 acc G)
    (done : ∀ acc G p, Ex H1 G → G p = none → P n 0 acc G → Q (.ref p) (upd G p (.lst acc))) (hD : H1 D = none) :
    ∃ W : Nat → Nat → Hp → Prop, (∃ m, W 0 m (upd H1 D (.lst []))) ∧ ∀ i m H, W i m H →
      ((Itr lo n).stop i H ∧ Q (.ref D) H) ∨ ((Itr lo n).go i H ∧ ∃ Nx : Hp → Prop, (∀ H', Nx H' → ∃ m', m' < m ∧ W (i + 1) m' H') ∧ ∀ x H', (Itr lo n).yld i H x H' → gName j1 x (wipe σ vs) H' fun σ2 H2 => wipe σ2 vs = wipe σ vs ∧ tYes σ2 H2 fun b H3 =>
        if b = true then wi1 σ2 H3 fun J1 H4 => ∃ W1 : Nat → Nat → Hp → Prop, (∃ m, W1 0 m H4) ∧ ∀ j k H, W1 j k H →
          (J1.stop j H ∧ Nx H) ∨ (J1.go j H ∧ ∃ Nx1 : Hp → Prop, (∀ H', Nx1 H' → ∃ k', k' < k ∧ W1 (j + 1) k' H') ∧ ∀ x H', J1.yld j H x H' → gName j2 x (wipe σ2 vs1) H' fun σ3 H5 => wipe σ3 vs1 = wipe σ2 vs1 ∧ tYes σ3 H5 fun b H6 =>
            if b = true then tFr te σ3 H6 fun y H7 => ∃ acc, H7 D = some (.lst acc) ∧ acc.length < sizeLine ∧ Nx1 (upd H7 D (.lst (acc ++ [y]))) else Nx1 H6)
        else Nx H3) := by
  refine ⟨fun i m H => m = n - i ∧ i ≤ n ∧ At H1 D (P i 0) H, ⟨n, by simp, Nat.zero_le _, At.start hD h0⟩, ?_⟩
  rintro i m H ⟨rfl, hi, hA⟩
  by_cases lt : i < n
  · refine .inr ⟨lt, At H1 D (P (i + 1) 0), fun H' h' => ⟨n - (i + 1), by omega, rfl, lt, h'⟩, fun x H' y => ?_⟩
    obtain ⟨e, y⟩ := y
    subst e y
    refine ⟨hw1 _, yes_of (hi1 i _ _ lt ?_)⟩
    refine ⟨fun j m H => m = n1 i - j ∧ j ≤ n1 i ∧ At H1 D (P i j) H, ⟨n1 i, by simp, Nat.zero_le _, hA⟩, ?_⟩
    rintro j m H ⟨rfl, hj, hB⟩
    by_cases lt2 : j < n1 i
    · refine .inr ⟨lt2, At H1 D (P i (j + 1)), fun H' h' => ⟨n1 i - (j + 1), by omega, rfl, lt2, h'⟩, fun x H' y => ?_⟩
      obtain ⟨e, y⟩ := y
      subst e y
      obtain ⟨acc, G, eH, n', e, l, p⟩ := hB
      subst eH
      refine ⟨hw2 _ _, yes_of (el_fr n' e ?_ (step i j acc G lt lt2 e p))⟩
      have h1 := hlen i j acc G p
      have h3 : (200002 : Nat) < sizeLine := by decide
      omega
    · have e : j = n1 i := by omega
      subst e
      refine .inl ⟨Nat.le_refl _, ?_⟩
      obtain ⟨acc, G, eH, n', e, l, p⟩ := hB
      exact ⟨acc, G, eH, n', e, l, roll i acc G lt p⟩
  · have e : i = n := by omega
    subst e
    obtain ⟨acc, G, eH, n', e, _, p⟩ := hA
    subst eH
    exact .inl ⟨Nat.le_refl _, done acc G D e n' p⟩
end
end W3
namespace W3
open PySem PySem.Spec PyProof.Rows L2
/-! ### rules that name the written part (within a comprehension's block) -/
section
variable {X : Cx}
theorem ixL (K : PySem.W.Frag) (h : X.K = K := by rfl) : IxR X (rIxL K) := h ▸ ix_list
theorem ixT (K : PySem.W.Frag) (h : X.K = K := by rfl) : IxR X (rIxT K) := h ▸ ix_tup
theorem slL (K : PySem.W.Frag) (h : X.K = K := by rfl) : SlR X (rSlL K) := h ▸ sl_list
theorem crSI (K : PySem.W.Frag) (h : X.K = K := by rfl) : CallR X (.builtin "sorted") (rSortedI K) := h ▸ cr_sortedI
theorem crAll (K : PySem.W.Frag) (h : X.K = K := by rfl) (hc : X.calm = true := by rfl) : CallR X (.builtin "all") (rAll K) := h ▸ cr_all hc
theorem opIn (K : PySem.W.Frag) (h : X.K = K := by rfl) : OpR X (compareOp .In) (rIn K false) := h ▸ op_in_seq
theorem opNotIn (K : PySem.W.Frag) (h : X.K = K := by rfl) : OpR X (compareOp .NotIn) (rIn K true) := h ▸ op_notIn_seq
theorem opEqD (K : PySem.W.Frag) (hu : X.A.units + 64 < cLine) (h : X.K = K := by rfl) : OpR X (compareOp .Eq) (rEqD K) := h ▸ op_eqD hu
theorem opNeD (K : PySem.W.Frag) (hu : X.A.units + 64 < cLine) (h : X.K = K := by rfl) : OpR X (compareOp .NotEq) (rNeD K) := h ▸ op_neD hu
theorem piL (K : PySem.W.Frag) {tg l : Expr} {tl : TE} (hl : PE X l tl) (h : X.K = K := by rfl) : PI X tg l (iList K tl) := h ▸ pi_list hl
theorem pgT (K : PySem.W.Frag) (n : Nat) {es : List Expr} {k pos} {t : TGs} (h : PGs X es t) (hk : X.K = K := by rfl) (hc : X.calm = true := by rfl) (h1 : (assignEach es X.env).length = n := by rfl)
    (h2 : (assignEach es X.env).findIdx? (·.1) = none := by rfl) : PG X (.Tuple es k pos) (gTup K n t) := hk ▸ pg_tup hc h h1 h2
theorem lenS (K : PySem.W.Frag) (h : X.K = K := by rfl) : CallR X (.builtin "len") (Evl.rLenS K) := h ▸ call_len_seq
theorem listS (K : PySem.W.Frag) (h : X.K = K := by rfl) : CallR X (.type "list") (Evl.rListS K) := h ▸ call_list_of
theorem mnL (K : PySem.W.Frag) (h : X.K = K := by rfl) (hc : X.calm = true := by rfl) : CallR X (.builtin "min") (rMin K) := h ▸ cr_min hc
theorem mxL (K : PySem.W.Frag) (h : X.K = K := by rfl) (hc : X.calm = true := by rfl) : CallR X (.builtin "max") (rMax K) := h ▸ cr_max hc
theorem revL (K : PySem.W.Frag) {e : Expr} {te : TE} {k : Nat} {p1 p2 p3 pos : Pos} (he : PE X e te) (h : X.K = K := by rfl) :
    PE X (.Subscript e (.Slice none none (some (.UnaryOp .USub (.Constant (.int 1) k p1) p2)) p3) pos) (tRevL K te) := h ▸ pe_revL he
end
end W3

end
section
set_option Elab.async false
set_option linter.all false
set_option maxRecDepth 100000
set_option maxHeartbeats 4000000
namespace W3
open PySem PySem.Spec PyProof.Rows L2
open Evl (Ex)
/-! ### comprehensions as readings -/
section
variable {K : PySem.W.Frag} {σ : L2.St} {H : Hp} {vs vs1 : List Nat} {Q : VK} {te : TE} {tt : TT} {wi wi1 : TI}
theorem lcN (H1 : Hp) {a : Addr} {xs : List V} {j : Nat} (P : Nat → List V → Hp → Prop) (hi : ∀ R : It → Hp → Prop, R (Itl K a) H1 → wi σ H R) (hx : H1 a = some (.lst xs)) (hz : xs.length ≤ 100000) (h0 : P 0 [] H1) (hlen : ∀ i acc G, P i acc G → acc.length ≤ i)
    (hw : ∀ x, wipe ((wipe σ vs).set j (some x)) vs = wipe σ vs)
    (step : ∀ i x acc G, xs[i]? = some x → Ex H1 G → P i acc G → te ((wipe σ vs).set j (some x)) G fun y G4 => Ex G G4 ∧ P (i + 1) (acc ++ [y]) G4)
    (done : ∀ acc G p, Ex H1 G → G p = none → P xs.length acc G → Q (.ref p) (upd G p (.lst acc))) : tLc wi (gName j) tYes (tFr te) vs σ H Q :=
  hi _ fun _ hD => lc_n P hx hz h0 hlen hw step done hD
theorem lcR (H1 : Hp) {lo : Int} {n j : Nat} (P : Nat → List V → Hp → Prop) (hi : ∀ R : It → Hp → Prop, R (Itr lo n) H1 → wi σ H R) (hz : n ≤ 100000) (h0 : P 0 [] H1) (hlen : ∀ i acc G, P i acc G → acc.length ≤ i)
    (hw : ∀ x, wipe ((wipe σ vs).set j (some x)) vs = wipe σ vs)
    (step : ∀ i acc G, i < n → Ex H1 G → P i acc G → te ((wipe σ vs).set j (some (.int (lo + i)))) G fun y G4 => Ex G G4 ∧ P (i + 1) (acc ++ [y]) G4)
    (done : ∀ acc G p, Ex H1 G → G p = none → P n acc G → Q (.ref p) (upd G p (.lst acc))) : tLc wi (gName j) tYes (tFr te) vs σ H Q :=
  hi _ fun _ hD => lc_r P hz h0 hlen hw step done hD
theorem lcRt (H1 : Hp) {lo : Int} {n j : Nat} (P : Nat → List V → Hp → Prop) (hi : ∀ R : It → Hp → Prop, R (Itr lo n) H1 → wi σ H R) (hz : n ≤ 100000) (h0 : P 0 [] H1) (hlen : ∀ i acc G, P i acc G → acc.length ≤ i)
    (hw : ∀ x, wipe ((wipe σ vs).set j (some x)) vs = wipe σ vs)
    (step : ∀ i acc G, i < n → Ex H1 G → P i acc G → tt ((wipe σ vs).set j (some (.int (lo + i)))) G fun b G3 => Ex G G3 ∧
      (b = true → te ((wipe σ vs).set j (some (.int (lo + i)))) G3 fun y G4 => Ex G3 G4 ∧ P (i + 1) (acc ++ [y]) G4) ∧ (b = false → P (i + 1) acc G3))
    (done : ∀ acc G p, Ex H1 G → G p = none → P n acc G → Q (.ref p) (upd G p (.lst acc))) : tLc wi (gName j) (tFrT tt) (tFr te) vs σ H Q :=
  hi _ fun _ hD => lc_rt P hz h0 hlen hw step done hD
theorem lcT (H1 : Hp) {a : Addr} {xs : List V} {j1 j2 j3 : Nat} (P : Nat → List V → Hp → Prop) (hi : ∀ R : It → Hp → Prop, R (Itl K a) H1 → wi σ H R) (hx : H1 a = some (.lst xs)) (hz : xs.length ≤ 100000) (h0 : P 0 [] H1) (hlen : ∀ i acc G, P i acc G → acc.length ≤ i)
    (hw : ∀ x y z, wipe ((((wipe σ vs).set j1 (some x)).set j2 (some y)).set j3 (some z)) vs = wipe σ vs)
    (step : ∀ i x acc G, xs[i]? = some x → Ex H1 G → P i acc G → ∃ p u v w, x = .ref p ∧ SqT K G p [u, v, w] ∧
      tt ((((wipe σ vs).set j1 (some u)).set j2 (some v)).set j3 (some w)) G fun b G3 => Ex G G3 ∧
      (b = true → te ((((wipe σ vs).set j1 (some u)).set j2 (some v)).set j3 (some w)) G3 fun y G4 => Ex G3 G4 ∧ P (i + 1) (acc ++ [y]) G4) ∧ (b = false → P (i + 1) acc G3))
    (done : ∀ acc G p, Ex H1 G → G p = none → P xs.length acc G → Q (.ref p) (upd G p (.lst acc))) :
    tLc wi (gTup K 3 (gCons (gName j1) (gCons (gName j2) (gCons (gName j3) gNil)))) (tFrT tt) (tFr te) vs σ H Q :=
  hi _ fun _ hD => lc_t3 P hx hz h0 hlen hw step done hD
theorem lcTn (H1 : Hp) {a : Addr} {xs : List V} {j1 j2 j3 : Nat} (P : Nat → List V → Hp → Prop) (hi : ∀ R : It → Hp → Prop, R (Itl K a) H1 → wi σ H R) (hx : H1 a = some (.lst xs)) (hz : xs.length ≤ 100000) (h0 : P 0 [] H1) (hlen : ∀ i acc G, P i acc G → acc.length ≤ i)
    (hw : ∀ x y z, wipe ((((wipe σ vs).set j1 (some x)).set j2 (some y)).set j3 (some z)) vs = wipe σ vs)
    (step : ∀ i x acc G, xs[i]? = some x → Ex H1 G → P i acc G → ∃ p u v w, x = .ref p ∧ SqT K G p [u, v, w] ∧
      te ((((wipe σ vs).set j1 (some u)).set j2 (some v)).set j3 (some w)) G fun y G4 => Ex G G4 ∧ P (i + 1) (acc ++ [y]) G4)
    (done : ∀ acc G p, Ex H1 G → G p = none → P xs.length acc G → Q (.ref p) (upd G p (.lst acc))) :
    tLc wi (gTup K 3 (gCons (gName j1) (gCons (gName j2) (gCons (gName j3) gNil)))) tYes (tFr te) vs σ H Q :=
  hi _ fun _ hD => lc_t3n P hx hz h0 hlen hw step done hD
theorem lcLL (H1 : Hp) {a b : Addr} {xs ys : List V} {j1 j2 sl : Nat} (P : Nat → Nat → List V → Hp → Prop) (hi : ∀ R : It → Hp → Prop, R (Itl K a) H1 → wi σ H R) (hx : H1 a = some (.lst xs)) (hy : H1 b = some (.lst ys)) (h0 : P 0 0 [] H1)
    (hlen : ∀ i j acc G, P i j acc G → acc.length ≤ 200000) (hw1 : ∀ x, wipe ((wipe σ vs).set j1 (some x)) vs = wipe σ vs)
    (hw2 : ∀ x y, wipe ((wipe ((wipe σ vs).set j1 (some x)) vs1).set j2 (some y)) vs1 = wipe ((wipe σ vs).set j1 (some x)) vs1) (hv : ∀ x, ((wipe σ vs).set j1 (some x))[sl]? = some (some (.ref b)))
    (step : ∀ i j x y acc G, xs[i]? = some x → ys[j]? = some y → Ex H1 G → P i j acc G → te ((wipe ((wipe σ vs).set j1 (some x)) vs1).set j2 (some y)) G fun z G4 => Ex G G4 ∧ P i (j + 1) (acc ++ [z]) G4)
    (roll : ∀ i acc G, i < xs.length → P i ys.length acc G → P (i + 1) 0 acc G)
    (done : ∀ acc G p, Ex H1 G → G p = none → P xs.length 0 acc G → Q (.ref p) (upd G p (.lst acc))) :
    tLc2 wi (gName j1) tYes (iList K (tVar sl)) (gName j2) tYes (tFr te) vs vs1 σ H Q :=
  hi _ fun _ hD => lc2_ll P hx hy h0 hlen hw1 hw2 hv step roll done hD
theorem lcRR (H1 : Hp) {lo : Int} {n j1 j2 : Nat} (lo1 : Nat → Int) (n1 : Nat → Nat) (P : Nat → Nat → List V → Hp → Prop) (hi : ∀ R : It → Hp → Prop, R (Itr lo n) H1 → wi σ H R) (h0 : P 0 0 [] H1)
    (hlen : ∀ i j acc G, P i j acc G → acc.length ≤ 200000) (hw1 : ∀ x, wipe ((wipe σ vs).set j1 (some x)) vs = wipe σ vs)
    (hw2 : ∀ x y, wipe ((wipe ((wipe σ vs).set j1 (some x)) vs1).set j2 (some y)) vs1 = wipe ((wipe σ vs).set j1 (some x)) vs1)
    (hi1 : ∀ i G (R : It → Hp → Prop), i < n → R (Itr (lo1 i) (n1 i)) G → wi1 ((wipe σ vs).set j1 (some (.int (lo + i)))) G R)
    (step : ∀ i j acc G, i < n → j < n1 i → Ex H1 G → P i j acc G → te ((wipe ((wipe σ vs).set j1 (some (.int (lo + i)))) vs1).set j2 (some (.int (lo1 i + j)))) G fun z G4 => Ex G G4 ∧ P i (j + 1) (acc ++ [z]) G4)
    (roll : ∀ i acc G, i < n → P i (n1 i) acc G → P (i + 1) 0 acc G)
    (done : ∀ acc G p, Ex H1 G → G p = none → P n 0 acc G → Q (.ref p) (upd G p (.lst acc))) :
    tLc2 wi (gName j1) tYes wi1 (gName j2) tYes (tFr te) vs vs1 σ H Q :=
  hi _ fun _ hD => lc2_rr P h0 hlen hw1 hw2 hi1 step roll done hD
end
end W3
namespace W3
open PySem PySem.Spec PyProof.Rows L2
open Evl (Ex)
/-! ### statements as readings, one step -/
section
variable {D : Ends} {σ : L2.St} {H : Hp} {t u : TS} {te : TE} {g : TG} {i j l : Nat} {ta : TA}
theorem go_set (h : te σ H fun x H1 => D.nx (σ.set i (some x)) H1) : tAsg te (gName i) D σ H := h
theorem go_sets (h : te σ H fun x H1 => u D (σ.set i (some x)) H1) : tSeq (tAsg te (gName i)) u D σ H := h
theorem go_asg (h : te σ H fun x H1 => g x σ H1 D.nx) : tAsg te g D σ H := h
theorem go_asgs (h : te σ H fun x H1 => g x σ H1 (u D)) : tSeq (tAsg te g) u D σ H := h
theorem go_ret (h : te σ H D.rt) : tRet te D σ H := h
theorem go_expr (h : te σ H fun _ H1 => D.nx σ H1) : tDrop te D σ H := h
theorem go_exprs (h : te σ H fun _ H1 => u D σ H1) : tSeq (tDrop te) u D σ H := h
theorem go_seq (h : t { D with nx := u D } σ H) : tSeq t u D σ H := h
end
end W3

end
section
set_option Elab.async false
set_option linter.all false
set_option maxRecDepth 100000
set_option maxHeartbeats 4000000
namespace W3
open PySem PySem.Spec PyProof.Rows L2
/-! ### data with small leaves: they are compared, shown -/
mutual
def Lf : PyData → Prop
  | .none => True
  | .bool _ => True
  | .int i => i.natAbs < 1000000
  | .str x => ∀ c ∈ x.cps.toList, c < 128
  | .list xs => Lfs xs
  | .tuple xs => Lfs xs
  | .dict _ => False
def Lfs : List PyData → Prop
  | [] => True
  | x :: xs => Lf x ∧ Lfs xs
end
mutual
theorem Lf.lay : ∀ d : PyData, Lf d → d.canLay0 = true ∧ d.showable = true ∧ d.hasDict = false ∧ d.leavesShort 8 = true
  | .none, _ => by simp [PyData.canLay0, PyData.showable, PyData.hasDict, PyData.leavesShort]
  | .bool _, _ => by simp [PyData.canLay0, PyData.showable, PyData.hasDict, PyData.leavesShort]
  | .int i, h => by
    have h' : i.natAbs < 1000000 := h
    refine ⟨by simp [PyData.canLay0], ?_, by simp [PyData.hasDict], ?_⟩
    · simp only [PyData.showable, decide_eq_true_eq]
      have : i.natAbs.log2 < 20 := by
        by_cases z : i.natAbs = 0
        · rw [z]; decide
        · exact (Nat.log2_lt z).mpr (by omega)
      omega
    · simp only [PyData.leavesShort, decide_eq_true_eq, PyData.shown]
      have := int_text_length_le10 (a := i) (k := 6) (by decide) (by omega)
      have h2 : (toString i).length ≤ 7 := this
      refine decide_eq_true ?_
      rw [PySem.ofString_length]
      omega
  | .str x, h => by
    have h' : ∀ c ∈ x.cps.toList, c < 128 := h
    refine ⟨?_, by simp [PyData.showable], by simp [PyData.hasDict], ?_⟩
    · simp only [PyData.canLay0]
      unfold PyData.strOk
      rw [Array.all_eq_true']
      intro c hc
      have := h' c (by simpa using hc)
      simp; omega
    · simp only [PyData.leavesShort, List.all_eq_true, decide_eq_true_eq]
      intro c hc
      have := h' c hc
      omega
  | .list xs, h => by
    obtain ⟨a, b, c, d⟩ := Lfs.lay xs h
    exact ⟨by simpa [PyData.canLay0] using a, by simpa [PyData.showable] using b, by simpa [PyData.hasDict] using c, by simpa [PyData.leavesShort] using d⟩
  | .tuple xs, h => by
    obtain ⟨a, b, c, d⟩ := Lfs.lay xs h
    exact ⟨by simpa [PyData.canLay0] using a, by simpa [PyData.showable] using b, by simpa [PyData.hasDict] using c, by simpa [PyData.leavesShort] using d⟩
  | .dict _, h => h.elim
theorem Lfs.lay : ∀ ds : List PyData, Lfs ds → PyData.canLayAll0 ds = true ∧ PyData.showableAll ds = true ∧ PyData.hasDictAll ds = false ∧ PyData.leavesShortAll 8 ds = true
  | [], _ => by simp [PyData.canLayAll0, PyData.showableAll, PyData.hasDictAll, PyData.leavesShortAll]
  | d :: ds, h => by
    obtain ⟨a, b, c, e⟩ := Lf.lay d h.1
    obtain ⟨a', b', c', e'⟩ := Lfs.lay ds h.2
    simp [PyData.canLayAll0, PyData.showableAll, PyData.hasDictAll, PyData.leavesShortAll, a, b, c, e, a', b', c', e']
end
theorem Lfs.map {α : Type} {enc : α → PyData} : ∀ {as : List α}, (∀ a ∈ as, Lf (enc a)) → Lfs (as.map enc)
  | [], _ => trivial
  | a :: as, h => ⟨h a (by simp), Lfs.map fun b hb => h b (by simp [hb])⟩
theorem depthAll_map {α : Type} {enc : α → PyData} {k : Nat} : ∀ {as : List α}, (∀ a ∈ as, (enc a).depth ≤ k) → PyData.depthAll (as.map enc) ≤ k
  | [], _ => by simp [PyData.depthAll]
  | a :: as, h => by
    have h1 := h a (by simp)
    have h2 := depthAll_map (as := as) fun b hb => h b (by simp [hb])
    simp only [List.map_cons, PyData.depthAll]
    omega
theorem bulkAll_map {α : Type} {enc : α → PyData} {k : Nat} : ∀ {as : List α}, (∀ a ∈ as, (enc a).bulk ≤ k) → PyData.bulkAll (as.map enc) ≤ as.length * (k + 1)
  | [], _ => by simp [PyData.bulkAll]
  | a :: as, h => by
    have h1 := h a (by simp)
    have h2 := bulkAll_map (as := as) fun b hb => h b (by simp [hb])
    simp only [List.map_cons, PyData.bulkAll, List.length_cons, Nat.succ_mul]
    omega
theorem shaped_of {d : PyData} (h : Lf d) (hd : d.depth ≤ 32) : SeqAt.shaped d = true := by
  unfold SeqAt.shaped
  rw [(Lf.lay d h).1, Bool.true_and]
  exact decide_eq_true (by omega)
theorem fine_of {d : PyData} (h : Lf d) (hd : d.depth ≤ 32) (hb : d.bulk ≤ 1000000) : Dt.fine d := by
  obtain ⟨a, b, c, e⟩ := Lf.lay d h
  refine ⟨b, c, hd, ?_⟩
  have := PyData.shown_le_bulk 8 (by decide) d e
  have z : (10000008 : Nat) ≤ sizeLine := by decide
  omega
theorem eqv_nil (ds : List PyData) : PyData.eqv (.list ds) (.list []) = ds.isEmpty := by cases ds <;> simp [PyData.eqv, PyData.eqvAll]

/-! ### alike data: one sorted list -/
open PySem.W in
mutual
theorem toks_inj : ∀ (x y : PyData), alike x y = true → ∀ l m, keyToks x ++ l = keyToks y ++ m → x = y ∧ l = m
  | .none, y, h, l, m, e => by
    cases y <;> simp_all [alike, keyToks]
  | .bool a, y, h, l, m, e => by
    cases y with
    | bool b => cases a <;> cases b <;> simp_all [keyToks]
    | _ => simp [alike] at h
  | .int a, y, h, l, m, e => by
    cases y with
    | int b => simp_all [keyToks]
    | _ => simp [alike] at h
  | .str a, y, h, l, m, e => by
    cases y with
    | str b =>
      simp only [keyToks, List.cons_append, List.nil_append, List.cons.injEq, Sum.inr.injEq] at e
      exact ⟨by rw [str_of_cps e.1], e.2⟩
    | _ => simp [alike] at h
  | .list xs, y, h, l, m, e => by
    cases y with
    | list ys =>
      simp only [keyToks] at e
      obtain ⟨a, b⟩ := toksAll_inj xs ys (by simpa [alike] using h) l m e
      exact ⟨by rw [a], b⟩
    | _ => simp [alike] at h
  | .tuple xs, y, h, l, m, e => by
    cases y with
    | tuple ys =>
      simp only [keyToks] at e
      obtain ⟨a, b⟩ := toksAll_inj xs ys (by simpa [alike] using h) l m e
      exact ⟨by rw [a], b⟩
    | _ => simp [alike] at h
  | .dict _, y, h, _, _, _ => by cases y <;> simp [alike] at h
theorem toksAll_inj : ∀ (xs ys : List PyData), alikeAll xs ys = true → ∀ l m, keyToksAll xs ++ l = keyToksAll ys ++ m → xs = ys ∧ l = m
  | [], [], _, l, m, e => by simpa [keyToksAll] using e
  | [], y :: ys, _, l, m, e => by simp [keyToksAll] at e
  | x :: xs, [], _, l, m, e => by simp [keyToksAll] at e
  | x :: xs, y :: ys, h, l, m, e => by
    obtain ⟨h1, h2⟩ := alike_all_cons h
    simp only [keyToksAll, List.cons_append, List.cons.injEq, true_and, List.append_assoc] at e
    obtain ⟨rfl, e2⟩ := toks_inj x y h1 _ _ e
    obtain ⟨rfl, e3⟩ := toksAll_inj xs ys h2 _ _ e2
    exact ⟨rfl, e3⟩
end
open PySem.W in
theorem dataLe_anti {x y : PyData} (h : alike x y = true) (h1 : dataLe false id x y = true) (h2 : dataLe false id y x = true) : x = y := by
  have a : lexLt itemOrd (keyToks y) (keyToks x) = false := by simpa [dataLe, sortLe] using h1
  have b : lexLt itemOrd (keyToks x) (keyToks y) = false := by simpa [dataLe, sortLe] using h2
  have e := lex_total (O := itemOrd) _ _ b a
  exact (toks_inj x y h [] [] (by rw [e])).1
open PySem.W in
theorem sort_perm {ds es : List PyData} (hal : AllAlike ds) (p : ds.Perm es) : ds.mergeSort (dataLe false id) = es.mergeSort (dataLe false id) := by
  have t := sortLe_total (listOrd itemOrd) false (fun b : PyData => keyToks b)
  have p1 : (ds.mergeSort (dataLe false id)).Perm ds := List.mergeSort_perm _ _
  have p2 : (es.mergeSort (dataLe false id)).Perm es := List.mergeSort_perm _ _
  have s1 : (ds.mergeSort (dataLe false id)).Pairwise (fun a b => dataLe false id a b = true) := sort_pairwise t ds
  have s2 : (es.mergeSort (dataLe false id)).Pairwise (fun a b => dataLe false id a b = true) := sort_pairwise t es
  refine List.Perm.eq_of_pairwise (le := fun a b => dataLe false id a b = true) (fun a b ha hb h1 h2 => ?_) s1 s2 ((p1.trans p).trans p2.symm)
  exact dataLe_anti (hal a (p1.mem_iff.mp ha) b ((p2.trans p.symm).mem_iff.mp hb)) h1 h2
open PySem.W in
theorem perm_sort {ds es : List PyData} (h : ds.mergeSort (dataLe false id) = es.mergeSort (dataLe false id)) : ds.Perm es :=
  (List.mergeSort_perm ds _).symm.trans (h ▸ List.mergeSort_perm es _)
mutual
theorem eqv_self : ∀ d : PyData, Lf d → PyData.eqv d d = true
  | .none, _ => by simp [PyData.eqv]
  | .bool _, _ => by simp [PyData.eqv]
  | .int _, _ => by simp [PyData.eqv]
  | .str _, _ => by simp [PyData.eqv]
  | .list xs, h => by simpa [PyData.eqv] using eqvAll_self xs h
  | .tuple xs, h => by simpa [PyData.eqv] using eqvAll_self xs h
  | .dict _, h => h.elim
theorem eqvAll_self : ∀ ds : List PyData, Lfs ds → PyData.eqvAll ds ds = true
  | [], _ => by simp [PyData.eqvAll]
  | d :: ds, h => by simp [PyData.eqvAll, eqv_self d h.1, eqvAll_self ds h.2]
end
open PySem.W in
mutual
theorem eqv_eq : ∀ x y : PyData, alike x y = true → PyData.eqv x y = true → x = y
  | .none, y, h, e => by cases y <;> simp_all [alike]
  | .bool a, y, h, e => by cases y <;> simp_all [alike, PyData.eqv]
  | .int a, y, h, e => by cases y <;> simp_all [alike, PyData.eqv]
  | .str a, y, h, e => by cases y <;> simp_all [alike, PyData.eqv]
  | .list xs, y, h, e => by
    cases y with
    | list ys => rw [eqvAll_eq xs ys (by simpa [alike] using h) (by simpa [PyData.eqv] using e)]
    | _ => simp [alike] at h
  | .tuple xs, y, h, e => by
    cases y with
    | tuple ys => rw [eqvAll_eq xs ys (by simpa [alike] using h) (by simpa [PyData.eqv] using e)]
    | _ => simp [alike] at h
  | .dict _, y, h, _ => by cases y <;> simp [alike] at h
theorem eqvAll_eq : ∀ xs ys : List PyData, alikeAll xs ys = true → PyData.eqvAll xs ys = true → xs = ys
  | [], [], _, _ => rfl
  | [], _ :: _, _, e => by simp [PyData.eqvAll] at e
  | _ :: _, [], _, e => by simp [PyData.eqvAll] at e
  | x :: xs, y :: ys, h, e => by
    obtain ⟨h1, h2⟩ := alike_all_cons h
    simp only [PyData.eqvAll, Bool.and_eq_true] at e
    rw [eqv_eq x y h1 e.1, eqvAll_eq xs ys h2 e.2]
end
end W3

end
section
set_option autoImplicit false
set_option linter.all false
/-! plain mathematics: ways in a web, two searches -/
namespace M83
abbrev Tie := Int × Int × Int
def Adj (ts : List Tie) (i j : Int) : Prop := ∃ o, (i, j, o) ∈ ts ∨ (j, i, o) ∈ ts
inductive RT (ts : List Tie) (i : Int) : Int → Prop
  | refl : RT ts i i
  | step {j k : Int} : RT ts i j → Adj ts j k → RT ts i k
theorem RT.trans {ts : List Tie} {i j k : Int} (h : RT ts i j) (h' : RT ts j k) : RT ts i k := by
  induction h' with
  | refl => exact h
  | step _ a ih => exact .step ih a
/-- ties of so many parts -/
def TiesOk (n : Nat) (ts : List Tie) : Prop := ∀ t ∈ ts, 0 ≤ t.1 ∧ t.1 < t.2.1 ∧ t.2.1 < (n : Int)
def Whole (n : Nat) (ts : List Tie) : Prop := ∀ j : Nat, j < n → RT ts 0 j

/-! ### lists of neighbours -/
def near1 (N : List (List Int)) (t : Tie) : List (List Int) := (N.modify t.1.toNat (· ++ [t.2.1])).modify t.2.1.toNat (· ++ [t.1])
def nearM (n : Nat) (ts : List Tie) : List (List Int) := ts.foldl near1 (List.replicate n [])
def NearOk (n : Nat) (ts : List Tie) (N : List (List Int)) : Prop := N.length = n ∧ ∀ (i : Nat) (row : List Int), N[i]? = some row → ∀ j, j ∈ row ↔ Adj ts i j
theorem near1_len (N : List (List Int)) (t : Tie) : (near1 N t).length = N.length := by simp [near1]
theorem nearM_snoc (n : Nat) (ts : List Tie) (t : Tie) : nearM n (ts ++ [t]) = near1 (nearM n ts) t := by simp [nearM]
theorem nearM_len (n : Nat) : ∀ ts : List Tie, (nearM n ts).length = n := by
  intro ts
  unfold nearM
  suffices h : ∀ N : List (List Int), N.length = n → (ts.foldl near1 N).length = n from h _ (by simp)
  induction ts with
  | nil => intro N h; exact h
  | cons t ts ih => intro N h; exact ih _ ((near1_len N t).trans h)
theorem nearM_sum (n : Nat) (ts : List Tie) : ∀ (i : Nat) (row : List Int), (nearM n ts)[i]? = some row → row.length ≤ 2 * ts.length := by
  suffices h : ∀ (ts : List Tie) (N : List (List Int)) (b : Nat), (∀ (i : Nat) (row : List Int), N[i]? = some row → row.length ≤ b) → ∀ (i : Nat) (row : List Int), (ts.foldl near1 N)[i]? = some row → row.length ≤ b + 2 * ts.length by
    intro i row hr
    have := h ts (List.replicate n []) 0 (fun i row e => by simp [List.getElem?_replicate] at e; simp [e.2]) i row hr
    omega
  intro ts
  induction ts with
  | nil => intro N b h i row e; have := h i row e; simpa using this
  | cons t ts ih =>
    intro N b h i row e
    have := ih (near1 N t) (b + 2) (fun i row e => by
      unfold near1 at e
      rw [List.getElem?_modify] at e
      obtain ⟨r1, e1, rfl⟩ := Option.map_eq_some_iff.mp e
      rw [List.getElem?_modify] at e1
      obtain ⟨r0, e0, rfl⟩ := Option.map_eq_some_iff.mp e1
      have := h i r0 e0
      (repeat' split) <;> simp <;> omega) i row e
    simp only [List.length_cons]
    omega
theorem nearM_ok (n : Nat) : ∀ ts : List Tie, TiesOk n ts → NearOk n ts (nearM n ts) := by
  suffices h : ∀ (ts done : List Tie) (N : List (List Int)), TiesOk n ts → NearOk n done N → NearOk n (done ++ ts) (ts.foldl near1 N) by
    intro ts ok
    refine h ts [] (List.replicate n []) ok ⟨by simp, fun i row e j => ?_⟩
    simp [List.getElem?_replicate] at e
    simp [e.2, Adj]
  intro ts
  induction ts with
  | nil => intro done N _ h; simpa using h
  | cons t ts ih =>
    intro done N ok h
    have ot := ok t (by simp)
    have := ih (done ++ [t]) (near1 N t) (fun x hx => ok x (by simp [hx])) ⟨by rw [near1_len]; exact h.1, fun i row e j => ?_⟩
    · simpa using this
    · unfold near1 at e
      rw [List.getElem?_modify] at e
      obtain ⟨r1, e1, rfl⟩ := Option.map_eq_some_iff.mp e
      rw [List.getElem?_modify] at e1
      obtain ⟨r0, e0, rfl⟩ := Option.map_eq_some_iff.mp e1
      have m0 := h.2 i r0 e0 j
      obtain ⟨a, b, o⟩ := t
      simp only at ot ⊢
      have adj : Adj (done ++ [(a, b, o)]) i j ↔ Adj done i j ∨ (a = i ∧ b = j) ∨ (a = j ∧ b = i) := by
        unfold Adj
        constructor
        · rintro ⟨o', h | h⟩
          · rcases List.mem_append.mp h with h | h
            · exact .inl ⟨o', .inl h⟩
            · simp at h; exact .inr (.inl ⟨h.1.symm, h.2.1.symm⟩)
          · rcases List.mem_append.mp h with h | h
            · exact .inl ⟨o', .inr h⟩
            · simp at h; exact .inr (.inr ⟨h.1.symm, h.2.1.symm⟩)
        · rintro (⟨o', h | h⟩ | ⟨rfl, rfl⟩ | ⟨rfl, rfl⟩)
          · exact ⟨o', .inl (List.mem_append_left _ h)⟩
          · exact ⟨o', .inr (List.mem_append_left _ h)⟩
          · exact ⟨o, .inl (by simp)⟩
          · exact ⟨o, .inr (by simp)⟩
      rw [adj, ← m0]
      have c1 : a.toNat = i ↔ a = (i : Int) := by omega
      have c2 : b.toNat = i ↔ b = (i : Int) := by omega
      by_cases h1 : a = (i : Int)
      · have h2 : ¬ b = (i : Int) := by omega
        rw [if_neg (fun z => h2 (c2.mp z)), if_pos (c1.mpr h1)]
        simp only [List.mem_append, List.mem_singleton]
        constructor
        · rintro (h | h)
          · exact .inl h
          · exact .inr (.inl ⟨h1, h.symm⟩)
        · rintro (h | ⟨_, h⟩ | ⟨_, h⟩)
          · exact .inl h
          · exact .inr h.symm
          · exact absurd h h2
      · rw [if_neg (fun z => h1 (c1.mp z))]
        by_cases h2 : b = (i : Int)
        · rw [if_pos (c2.mpr h2)]
          simp only [List.mem_append, List.mem_singleton]
          constructor
          · rintro (h | h)
            · exact .inl h
            · exact .inr (.inr ⟨h.symm, h2⟩)
          · rintro (h | ⟨h, _⟩ | ⟨h, _⟩)
            · exact .inl h
            · exact absurd h h1
            · exact .inr h.symm
        · rw [if_neg (fun z => h2 (c2.mp z))]
          constructor
          · exact .inl
          · rintro (h | ⟨h, _⟩ | ⟨_, h⟩)
            · exact h
            · exact absurd h h1
            · exact absurd h h2

/-! ### the search of one piece -/
/-- ways by lists of neighbours -/
inductive RN (N : List (List Int)) (i : Int) : Int → Prop
  | refl : RN N i i
  | step {j k : Int} {row : List Int} : RN N i j → N[j.toNat]? = some row → k ∈ row → RN N i k
/-- rows in bounds -/
def RowsOk (N : List (List Int)) : Prop := ∀ row ∈ N, ∀ j ∈ row, 0 ≤ j ∧ j < (N.length : Int)
def push (q : List Bool × List Int) (o : Int) : List Bool × List Int := if q.1[o.toNat]? = some true then q else (q.1.set o.toNat true, q.2 ++ [o])
def cf (S : List Bool) : Nat := S.count false
theorem cf_set : ∀ {S : List Bool} {i : Nat}, i < S.length → S[i]? ≠ some true → cf (S.set i true) + 1 = cf S
  | [], _, h, _ => by simp at h
  | b :: S, 0, _, h => by
    have hb : b = false := by cases b <;> simp_all
    subst hb; simp [cf]
  | b :: S, i + 1, h, h' => by
    have := cf_set (S := S) (i := i) (by simpa using h) (by simpa using h')
    simp only [cf, List.set_cons_succ, List.count_cons] at this ⊢
    omega
structure Dfs (N : List (List Int)) (s : Int) (F L : List Int) (S : List Bool) : Prop where
  len : S.length = N.length
  fin : ∀ j, j ∈ F ∨ j ∈ L → 0 ≤ j ∧ j < (N.length : Int) ∧ S[j.toNat]? = some true ∧ RN N s j
  all : ∀ j : Int, 0 ≤ j → S[j.toNat]? = some true → j ∈ F ∨ j ∈ L
  clo : ∀ i ∈ F, ∀ row, N[i.toNat]? = some row → ∀ j ∈ row, S[j.toNat]? = some true
  st : S[s.toNat]? = some true
  s0 : 0 ≤ s
theorem push_len {q : List Bool × List Int} {o : Int} : (push q o).1.length = q.1.length := by unfold push; split <;> simp
theorem push_old {q : List Bool × List Int} {o j : Int} (h : q.1[j.toNat]? = some true) : (push q o).1[j.toNat]? = some true := by
  unfold push; split
  · exact h
  · simp only [List.getElem?_set]
    split
    · rename_i e
      have := (List.getElem?_eq_some_iff.mp h).1
      rw [if_pos (by omega)]
    · exact h
theorem push_new {q : List Bool × List Int} {o : Int} (h : o.toNat < q.1.length) : (push q o).1[o.toNat]? = some true := by
  unfold push; split
  · assumption
  · simp [h]
theorem push_cnt {q : List Bool × List Int} {o : Int} (h : o.toNat < q.1.length) : (push q o).2.length + cf (push q o).1 = q.2.length + cf q.1 := by
  unfold push; split
  · rfl
  · rename_i h'
    have := cf_set h h'
    simp only [List.length_append, List.length_singleton]
    omega
theorem pushes {N : List (List Int)} (q0 : List Bool × List Int) (hl : q0.1.length = N.length) : ∀ (row : List Int), (∀ j ∈ row, 0 ≤ j ∧ j < (N.length : Int)) →
    (row.foldl push q0).1.length = N.length ∧ (∀ j : Int, q0.1[j.toNat]? = some true → (row.foldl push q0).1[j.toNat]? = some true) ∧ (∀ j ∈ row, (row.foldl push q0).1[j.toNat]? = some true) ∧
    (row.foldl push q0).2.length + cf (row.foldl push q0).1 = q0.2.length + cf q0.1 ∧
    (∀ j ∈ (row.foldl push q0).2, j ∈ q0.2 ∨ (j ∈ row ∧ (row.foldl push q0).1[j.toNat]? = some true)) ∧ (∀ j ∈ q0.2, j ∈ (row.foldl push q0).2) ∧
    (∀ j : Int, 0 ≤ j → (row.foldl push q0).1[j.toNat]? = some true → q0.1[j.toNat]? = some true ∨ j ∈ (row.foldl push q0).2) := by
  intro row
  induction row generalizing q0 with
  | nil => intro _; exact ⟨hl, fun _ h => h, fun j h => by simp at h, rfl, fun j h => .inl h, fun j h => h, fun j _ h => .inl h⟩
  | cons o row ih =>
    intro ok
    have oo := ok o (by simp)
    have ho : o.toNat < q0.1.length := by omega
    obtain ⟨a1, a2, a3, a4, a5, a6, a7⟩ := ih (push q0 o) (push_len.trans hl) (fun j hj => ok j (by simp [hj]))
    refine ⟨a1, fun j h => a2 j (push_old h), fun j hj => ?_, a4.trans (push_cnt ho), fun j hj => ?_, fun j hj => a6 j ?_, fun j j0 h => ?_⟩
    · rcases List.mem_cons.mp hj with rfl | hj
      · exact a2 _ (push_new ho)
      · exact a3 j hj
    · rcases a5 j hj with h | ⟨h, h'⟩
      · have : j ∈ q0.2 ∨ j = o := by
          unfold push at h; split at h
          · exact .inl h
          · simpa using h
        rcases this with h | rfl
        · exact .inl h
        · exact .inr ⟨by simp, a2 _ (push_new ho)⟩
      · exact .inr ⟨by simp [h], h'⟩
    · unfold push; split
      · exact hj
      · simp [hj]
    · rcases a7 j j0 h with h | h
      · unfold push at h; split at h
        · exact .inl h
        · rename_i hn
          simp only [List.getElem?_set] at h
          split at h
          · rename_i e
            have e2 : j = o := by omega
            subst e2
            refine .inr (a6 _ ?_)
            unfold push; rw [if_neg hn]; simp
          · exact .inl h
      · exact .inr h
theorem dfs_step {N : List (List Int)} {s part : Int} {F L : List Int} {S : List Bool} {row : List Int} (ok : RowsOk N) (h : Dfs N s F (L ++ [part]) S) (hr : N[part.toNat]? = some row) :
    Dfs N s (F ++ [part]) (row.foldl push (S, L)).2 (row.foldl push (S, L)).1 ∧ (row.foldl push (S, L)).2.length + cf (row.foldl push (S, L)).1 < (L ++ [part]).length + cf S := by
  have hrow : ∀ j ∈ row, 0 ≤ j ∧ j < (N.length : Int) := ok row (List.mem_of_getElem? hr)
  have pp := h.fin part (by simp)
  obtain ⟨a1, a2, a3, a4, a5, a6, a7⟩ := pushes (N := N) (S, L) h.len row hrow
  refine ⟨⟨a1, fun j hj => ?_, fun j j0 hj => ?_, fun i hi rw_ hrw j hj => ?_, a2 _ h.st, h.s0⟩, ?_⟩
  · have old : ∀ j, j ∈ F ∨ j ∈ L ++ [part] → 0 ≤ j ∧ j < (N.length : Int) ∧ (row.foldl push (S, L)).1[j.toNat]? = some true ∧ RN N s j := fun j hj => by
      obtain ⟨b1, b2, b3, b4⟩ := h.fin j hj
      exact ⟨b1, b2, a2 j b3, b4⟩
    rcases hj with hj | hj
    · rcases List.mem_append.mp hj with hj | hj
      · exact old j (.inl hj)
      · exact old j (.inr (by simp at hj; simp [hj]))
    · rcases a5 j hj with hj | ⟨hj, hj'⟩
      · exact old j (.inr (by simp only [List.mem_append]; exact .inl hj))
      · exact ⟨(hrow j hj).1, (hrow j hj).2, hj', .step pp.2.2.2 hr hj⟩
  · rcases a7 j j0 hj with hj | hj
    · rcases h.all j j0 hj with hj | hj
      · exact .inl (by simp [hj])
      · rcases List.mem_append.mp hj with hj | hj
        · exact .inr (a6 j hj)
        · exact .inl (by simp at hj; simp [hj])
    · exact .inr hj
  · rcases List.mem_append.mp hi with hi | hi
    · exact a2 j (h.clo i hi rw_ hrw j hj)
    · simp at hi; subst hi
      rw [hr] at hrw; cases hrw
      exact a3 j hj
  · simp only [List.length_append, List.length_singleton] at a4 ⊢
    omega
theorem dfs_end {N : List (List Int)} {s : Int} {F : List Int} {S : List Bool} (ok : RowsOk N) (h : Dfs N s F [] S) : ∀ j, j ∈ F ↔ RN N s j := by
  intro j
  constructor
  · intro hj; exact (h.fin j (.inl hj)).2.2.2
  · intro r
    have : S[j.toNat]? = some true ∧ 0 ≤ j := by
      induction r with
      | refl => exact ⟨h.st, h.s0⟩
      | step _ hrow hk ih =>
        rcases h.all _ ih.2 ih.1 with hF | hF
        · exact ⟨h.clo _ hF _ hrow _ hk, (ok _ (List.mem_of_getElem? hrow) _ hk).1⟩
        · simp at hF
    rcases h.all j this.2 this.1 with h | h
    · exact h
    · simp at h
theorem dfs_start {N : List (List Int)} {s : Int} (h0 : 0 ≤ s) (h1 : s < (N.length : Int)) : Dfs N s [] [s] ((List.replicate N.length false).set s.toNat true) := by
  refine ⟨by simp, fun j hj => ?_, fun j j0 hj => ?_, fun i hi => by simp at hi, ?_, h0⟩
  · simp at hj; subst hj
    refine ⟨h0, h1, ?_, .refl⟩
    rw [List.getElem?_set_self (by simp; omega)]
  · rw [List.getElem?_set] at hj
    split at hj
    · rename_i e
      right; simp; omega
    · simp [List.getElem?_replicate] at hj
  · rw [List.getElem?_set_self (by simp; omega)]

theorem RN.trans {N : List (List Int)} {i j k : Int} (h : RN N i j) (h' : RN N j k) : RN N i k := by
  induction h' with
  | refl => exact h
  | step _ a b ih => exact .step ih a b
theorem rn_rt {n : Nat} {ts : List Tie} {N : List (List Int)} (ok : TiesOk n ts) (h : NearOk n ts N) {i j : Int} (i0 : 0 ≤ i) : RN N i j ↔ RT ts i j := by
  have nn : ∀ {j}, RT ts i j → 0 ≤ j := by
    intro j r
    induction r with
    | refl => exact i0
    | step _ a _ =>
      obtain ⟨o, a | a⟩ := a
      · have := ok _ a; simp only at this; omega
      · have := ok _ a; simp only at this; omega
  constructor
  · intro r
    induction r with
    | refl => exact .refl
    | @step j k row _ hr hk ih =>
      refine .step ih ?_
      have j0 := nn ih
      have := (h.2 j.toNat row hr k).mp hk
      rwa [show ((j.toNat : Nat) : Int) = j by omega] at this
  · intro r
    induction r with
    | refl => exact .refl
    | @step j k r' a ih =>
      have j0 := nn r'
      have jn : j < (n : Int) := by
        obtain ⟨o, a | a⟩ := a
        · have := ok _ a; simp only at this; omega
        · have := ok _ a; simp only at this; omega
      have lt : j.toNat < N.length := by rw [h.1]; omega
      refine .step ih (List.getElem?_eq_getElem lt) ?_
      refine (h.2 j.toNat _ (List.getElem?_eq_getElem lt) k).mpr ?_
      rwa [show ((j.toNat : Nat) : Int) = j by omega]
theorem near_rows {n : Nat} {ts : List Tie} {N : List (List Int)} (ok : TiesOk n ts) (h : NearOk n ts N) : RowsOk N := by
  intro row hr j hj
  obtain ⟨i, hi⟩ := List.getElem?_of_mem hr
  obtain ⟨o, a | a⟩ := (h.2 i row hi j).mp hj
  · have := ok _ a; simp only at this; rw [h.1]; omega
  · have := ok _ a; simp only at this; rw [h.1]; omega

/-! ### counting pieces -/
structure Pcs (N : List (List Int)) (k c : Nat) (S : List Bool) : Prop where
  len : S.length = N.length
  seen : ∀ j : Nat, j < N.length → (S[j]? = some true ↔ ∃ i : Nat, i < k ∧ RN N i j)
  c0 : k = 0 → c = 0
  c1 : 0 < k → 0 < c ∧ (c ≤ 1 ↔ ∀ i : Nat, i < k → RN N 0 i)
theorem pcs_start (N : List (List Int)) : Pcs N 0 0 (List.replicate N.length false) := ⟨by simp, fun j hj => by simp [List.getElem?_replicate], fun _ => rfl, fun h => absurd h (Nat.lt_irrefl _)⟩
theorem pcs_skip {N : List (List Int)} {k c : Nat} {S : List Bool} (h : Pcs N k c S) (hk : k < N.length) (hs : S[k]? = some true) : Pcs N (k + 1) c S := by
  obtain ⟨i, hi, r⟩ := (h.seen k hk).mp hs
  refine ⟨h.len, fun j hj => ?_, fun e => by omega, fun _ => ?_⟩
  · rw [h.seen j hj]
    constructor
    · rintro ⟨i', h1, h2⟩; exact ⟨i', by omega, h2⟩
    · rintro ⟨i', h1, h2⟩
      by_cases e : i' = k
      · subst e; exact ⟨i, hi, r.trans h2⟩
      · exact ⟨i', by omega, h2⟩
  · obtain ⟨a, b⟩ := h.c1 (by omega)
    refine ⟨a, b.trans ⟨fun q i' hi' => ?_, fun q i' hi' => q i' (by omega)⟩⟩
    by_cases e : i' = k
    · subst e; exact (q i hi).trans r
    · exact q i' (by omega)
/-- marking the parts of a piece -/
def marks (S : List Bool) (ms : List Int) : List Bool := ms.foldl (fun S j => S.set j.toNat true) S
theorem marks_get {ms : List Int} : ∀ {S : List Bool}, (marks S ms).length = S.length ∧ ∀ j : Nat, j < S.length → ((marks S ms)[j]? = some true ↔ S[j]? = some true ∨ ∃ m ∈ ms, m.toNat = j) := by
  induction ms with
  | nil => intro S; exact ⟨rfl, fun j _ => by simp [marks]⟩
  | cons m ms ih =>
    intro S
    obtain ⟨a, b⟩ := ih (S := S.set m.toNat true)
    refine ⟨by simpa [marks] using a, fun j hj => ?_⟩
    have := b j (by simpa using hj)
    show (marks (S.set m.toNat true) ms)[j]? = some true ↔ _
    rw [this, List.getElem?_set]
    constructor
    · rintro (h | ⟨x, hx, e⟩)
      · split at h
        · rename_i e; exact .inr ⟨m, by simp, e⟩
        · exact .inl h
      · exact .inr ⟨x, by simp [hx], e⟩
    · rintro (h | ⟨x, hx, e⟩)
      · by_cases e : m.toNat = j
        · left; rw [if_pos e, if_pos (by omega)]
        · left; rw [if_neg e]; exact h
      · rcases List.mem_cons.mp hx with rfl | hx
        · left; rw [if_pos e, if_pos (by omega)]
        · exact .inr ⟨x, hx, e⟩
theorem pcs_new {N : List (List Int)} {k c : Nat} {S : List Bool} {ms : List Int} (ok : RowsOk N) (h : Pcs N k c S) (hk : k < N.length) (hs : S[k]? ≠ some true) (hm : ∀ j, j ∈ ms ↔ RN N k j) : Pcs N (k + 1) (c + 1) (marks S ms) := by
  obtain ⟨a, b⟩ := marks_get (ms := ms) (S := S)
  have nn : ∀ j, RN N k j → 0 ≤ j := by
    intro j r
    induction r with
    | refl => omega
    | step _ hr hj _ => exact (ok _ (List.mem_of_getElem? hr) _ hj).1
  refine ⟨a.trans h.len, fun j hj => ?_, fun e => by omega, fun _ => ⟨by omega, ?_⟩⟩
  · rw [b j (by rw [h.len]; exact hj), h.seen j hj]
    constructor
    · rintro (⟨i, h1, h2⟩ | ⟨m, hm', e⟩)
      · exact ⟨i, by omega, h2⟩
      · have r := (hm m).mp hm'
        have := nn m r
        exact ⟨k, by omega, by rwa [show (j : Int) = m by omega]⟩
    · rintro ⟨i, h1, h2⟩
      by_cases e : i = k
      · subst e; exact .inr ⟨j, (hm j).mpr h2, by omega⟩
      · exact .inl ⟨i, by omega, h2⟩
  · by_cases k0 : k = 0
    · subst k0
      rw [h.c0 rfl]
      refine ⟨fun _ i hi => ?_, fun _ => by omega⟩
      have : i = 0 := by omega
      subst this; exact .refl
    · obtain ⟨c1, c2⟩ := h.c1 (by omega)
      constructor
      · intro h1; omega
      · intro q
        exfalso
        apply hs
        rw [h.seen k hk]
        exact ⟨0, by omega, q k (by omega)⟩
theorem pcs_end {n : Nat} {ts : List Tie} {N : List (List Int)} {c : Nat} {S : List Bool} (ok : TiesOk n ts) (hN : NearOk n ts N) (h : Pcs N n c S) : c < 2 ↔ Whole n ts := by
  by_cases n0 : n = 0
  · have := h.c0 n0
    constructor
    · intro _ j hj; omega
    · intro _; omega
  · obtain ⟨_, b⟩ := h.c1 (by omega)
    have : c < 2 ↔ c ≤ 1 := by omega
    rw [this, b]
    constructor
    · intro q j hj; exact (rn_rt ok hN (by omega)).mp (q j hj)
    · intro q j hj; exact (rn_rt ok hN (by omega)).mpr (q j hj)

/-! ### the other way: meeting parts tie by tie -/
def meet1 (M : List Int) (t : Tie) : List Int := if decide (t.1 ∈ M) ≠ decide (t.2.1 ∈ M) then M ++ [if t.1 ∈ M then t.2.1 else t.1] else M
def meets (ts : List Tie) (M : List Int) : List Int := ts.foldl meet1 M
def rounds (ts : List Tie) : Nat → List Int → List Int
  | 0, M => M
  | k + 1, M => meets ts (rounds ts k M)
structure Met (n : Nat) (ts : List Tie) (M : List Int) : Prop where
  nd : M.Nodup
  fin : ∀ j ∈ M, 0 ≤ j ∧ j < (n : Int) ∧ RT ts 0 j
theorem meet1_met {n : Nat} {ts : List Tie} {M : List Int} {t : Tie} (ok : TiesOk n ts) (ht : t ∈ ts) (h : Met n ts M) : Met n ts (meet1 M t) := by
  obtain ⟨a, b, o⟩ := t
  have o1 := ok _ ht
  simp only at o1
  unfold meet1
  simp only
  split
  · rename_i hne
    by_cases ha : a ∈ M
    · have hb : b ∉ M := fun hb => hne (by simp [ha, hb])
      rw [if_pos ha]
      refine ⟨List.nodup_append.mpr ⟨h.nd, by simp, fun x hx y hy => by simp at hy; subst hy; intro e; subst e; exact hb hx⟩, fun j hj => ?_⟩
      rcases List.mem_append.mp hj with hj | hj
      · exact h.fin j hj
      · simp at hj; subst hj
        exact ⟨by omega, by omega, .step (h.fin a ha).2.2 ⟨o, .inl ht⟩⟩
    · have hb : b ∈ M := by
        by_cases hb : b ∈ M
        · exact hb
        · exact absurd (by simp [ha, hb]) hne
      rw [if_neg ha]
      refine ⟨List.nodup_append.mpr ⟨h.nd, by simp, fun x hx y hy => by simp at hy; subst hy; intro e; subst e; exact ha hx⟩, fun j hj => ?_⟩
      rcases List.mem_append.mp hj with hj | hj
      · exact h.fin j hj
      · simp at hj; subst hj
        exact ⟨by omega, by omega, .step (h.fin b hb).2.2 ⟨o, .inr ht⟩⟩
  · exact h
theorem meet1_pre {M : List Int} {t : Tie} : M <+: meet1 M t := by unfold meet1; split <;> simp
theorem meets_pre : ∀ {ts : List Tie} {M : List Int}, M <+: meets ts M
  | [], M => List.prefix_refl _
  | t :: ts, M => List.IsPrefix.trans meet1_pre (meets_pre (ts := ts) (M := meet1 M t))
theorem meets_met {n : Nat} {ts : List Tie} (ok : TiesOk n ts) : ∀ {us : List Tie} {M : List Int}, (∀ t ∈ us, t ∈ ts) → Met n ts M → Met n ts (meets us M)
  | [], _, _, h => h
  | t :: us, M, hu, h => meets_met ok (us := us) (fun t ht => hu t (by simp [ht])) (meet1_met ok (hu t (by simp)) h)
theorem meets_same : ∀ {us : List Tie} {M : List Int}, (meets us M).length = M.length → ∀ t ∈ us, (t.1 ∈ M ↔ t.2.1 ∈ M)
  | [], _, _, t, ht => by simp at ht
  | u :: us, M, h, t, ht => by
    have l1 := (meet1_pre (M := M) (t := u)).length_le
    have l2 := (meets_pre (ts := us) (M := meet1 M u)).length_le
    have h' : (meets us (meet1 M u)).length = M.length := h
    have e1 : (meet1 M u).length = M.length := by omega
    have e2 : meet1 M u = M := (meet1_pre.eq_of_length e1.symm).symm
    rcases List.mem_cons.mp ht with rfl | ht
    · unfold meet1 at e2
      split at e2
      · simp at e2
      · rename_i hne
        have := Decidable.not_not.mp hne
        simpa using this
    · rw [e2] at h'
      exact meets_same h' t ht
theorem nodup_below : ∀ (n : Nat) (l : List Nat), l.Nodup → (∀ x ∈ l, x < n) → l.length ≤ n
  | 0, l, _, h => by
    cases l with
    | nil => simp
    | cons a l => exact absurd (h a (by simp)) (Nat.not_lt_zero _)
  | n + 1, l, nd, h => by
    by_cases hn : n ∈ l
    · have := nodup_below n (l.erase n) (nd.erase n) (fun x hx => by
        obtain ⟨h1, h2⟩ := (nd.mem_erase_iff).mp hx
        have := h x h2
        omega)
      rw [List.length_erase_of_mem hn] at this
      omega
    · have := nodup_below n l nd (fun x hx => by
        have := h x hx
        have : x ≠ n := fun e => hn (e ▸ hx)
        omega)
      omega
theorem met_len {n : Nat} {ts : List Tie} {M : List Int} (h : Met n ts M) : M.length ≤ n := by
  have nd : (M.map Int.toNat).Nodup := by
    rw [List.nodup_iff_pairwise_ne, List.pairwise_map]
    refine List.Pairwise.imp_of_mem (fun {a b} ha hb hab => ?_) (List.nodup_iff_pairwise_ne.mp h.nd)
    have := h.fin a ha
    have := h.fin b hb
    omega
  have s := nodup_below n (M.map Int.toNat) nd (fun x hx => by
    obtain ⟨j, hj, rfl⟩ := List.mem_map.mp hx
    have := h.fin j hj
    omega)
  simpa using s
theorem rounds_met {n : Nat} {ts : List Tie} (ok : TiesOk n ts) (n0 : 0 < n) : ∀ k, Met n ts (rounds ts k [0])
  | 0 => ⟨by simp [rounds], fun j hj => by simp [rounds] at hj; subst hj; exact ⟨by omega, by omega, .refl⟩⟩
  | k + 1 => meets_met ok (fun t h => h) (rounds_met ok n0 k)
theorem rounds_grow (ts : List Tie) : ∀ k, (rounds ts k [0]).length ≥ k + 1 ∨ ∃ M, rounds ts k [0] = M ∧ (meets ts M).length = M.length
  | 0 => .inl (by simp [rounds])
  | k + 1 => by
    rcases rounds_grow ts k with h | ⟨M, e, h⟩
    · have l := (meets_pre (ts := ts) (M := rounds ts k [0])).length_le
      by_cases e : (meets ts (rounds ts k [0])).length = (rounds ts k [0]).length
      · right
        have e2 : meets ts (rounds ts k [0]) = rounds ts k [0] := (meets_pre.eq_of_length e.symm).symm
        refine ⟨_, rfl, ?_⟩
        show (meets ts (meets ts (rounds ts k [0]))).length = (meets ts (rounds ts k [0])).length
        rw [e2]; exact e
      · left
        show (meets ts (rounds ts k [0])).length ≥ k + 1 + 1
        omega
    · right
      have e2 : meets ts M = M := (meets_pre.eq_of_length h.symm).symm
      refine ⟨M, ?_, h⟩
      show meets ts (rounds ts k [0]) = M
      rw [e]; exact e2
theorem rounds_closed {n : Nat} {ts : List Tie} (ok : TiesOk n ts) (n0 : 0 < n) : ∀ t ∈ ts, (t.1 ∈ rounds ts n [0] ↔ t.2.1 ∈ rounds ts n [0]) := by
  rcases rounds_grow ts n with h | ⟨M, e, h⟩
  · have := met_len (rounds_met ok n0 n)
    omega
  · rw [e]; exact meets_same h
theorem zero_rounds (ts : List Tie) : ∀ k, (0 : Int) ∈ rounds ts k [0]
  | 0 => by simp [rounds]
  | k + 1 => (meets_pre (ts := ts) (M := rounds ts k [0])).subset (zero_rounds ts k)
/-- what the law counts: the parts met are as many as the parts exactly if the web is one piece -/
theorem rounds_whole {n : Nat} {ts : List Tie} (ok : TiesOk n ts) (n0 : 0 < n) : (rounds ts n [0]).length = n ↔ Whole n ts := by
  have hm := rounds_met ok n0 n
  have clo := rounds_closed ok n0
  have reach : ∀ j, RT ts 0 j → j ∈ rounds ts n [0] := by
    intro j r
    induction r with
    | refl => exact zero_rounds ts n
    | step _ a ih =>
      obtain ⟨o, a | a⟩ := a
      · exact (clo _ a).mp ih
      · exact (clo _ a).mpr ih
  constructor
  · intro hl j hj
    -- every number below n is met
    have : (j : Int) ∈ rounds ts n [0] := by
      refine Decidable.byContradiction fun hn => ?_
      have h2 : Met n ts (rounds ts n [0]) := hm
      have nd : ((j :: (rounds ts n [0]).map Int.toNat)).Nodup := by
        refine List.nodup_cons.mpr ⟨fun hx => ?_, ?_⟩
        · obtain ⟨x, hx, e⟩ := List.mem_map.mp hx
          have := h2.fin x hx
          exact hn (by rwa [show (j : Int) = x by omega])
        · rw [List.nodup_iff_pairwise_ne, List.pairwise_map]
          refine List.Pairwise.imp_of_mem (fun {a b} ha hb hab => ?_) (List.nodup_iff_pairwise_ne.mp h2.nd)
          have := h2.fin a ha
          have := h2.fin b hb
          omega
      have := nodup_below n _ nd (fun x hx => by
        rcases List.mem_cons.mp hx with rfl | hx
        · exact hj
        · obtain ⟨y, hy, rfl⟩ := List.mem_map.mp hx
          have := h2.fin y hy
          omega)
      simp at this
      omega
    exact (hm.fin _ this).2.2
  · intro w
    have h1 := met_len hm
    have h2 : (List.range n).length ≤ (rounds ts n [0]).length := by
      have sub : ∀ x ∈ List.range n, (x : Int) ∈ rounds ts n [0] := fun x hx => reach _ (w x (by simpa using hx))
      have nd : ∀ (l : List Nat) (M : List Int), l.Nodup → (∀ x ∈ l, (x : Int) ∈ M) → l.length ≤ M.length := by
        intro l
        induction l with
        | nil => intro M _ _; simp
        | cons x l ih =>
          intro M nd h
          have hx := h x (by simp)
          have := ih (M.erase x) (List.nodup_cons.mp nd).2 (fun y hy => by
            refine (List.mem_erase_of_ne (fun e => ?_)).mpr (h y (by simp [hy]))
            have : y = x := by omega
            subst this
            exact (List.nodup_cons.mp nd).1 hy)
          rw [List.length_erase_of_mem hx] at this
          have := List.length_pos_of_mem hx
          simp; omega
      exact nd _ _ (List.nodup_range) sub
    simp at h2
    omega
end M83

end
section
set_option Elab.async false
set_option linter.all false
set_option maxRecDepth 100000
set_option maxHeartbeats 4000000
namespace W3
open PySem PySem.Spec PyProof.Rows L2
/-! ### the text by places -/
def topS (i : Nat) : Stmt := PySem.Challenge.pw_webnames_k83_choices_grown_and_of_famili.main.body.getD i (.Pass ⟨0, 0, 0, 0⟩)
theorem bt_len : bootBuiltins "len" = some (.builtin "len") := by decide +kernel
theorem bt_sorted : bootBuiltins "sorted" = some (.builtin "sorted") := by decide +kernel
theorem bt_repr : bootBuiltins "repr" = some (.builtin "repr") := by decide +kernel
theorem bt_abs : bootBuiltins "abs" = some (.builtin "abs") := by decide +kernel
theorem bt_max : bootBuiltins "max" = some (.builtin "max") := by decide +kernel
theorem bt_min : bootBuiltins "min" = some (.builtin "min") := by decide +kernel
theorem bt_int : bootBuiltins "int" = some (.type "int") := by decide +kernel
theorem bt_list : bootBuiltins "list" = some (.type "list") := by decide +kernel
theorem bt_divmod : bootBuiltins "divmod" = some (.builtin "divmod") := by decide +kernel
theorem bt_all : bootBuiltins "all" = some (.builtin "all") := by decide +kernel
/-- what the module's names hold, beside its defs -/
structure Txt (mg : Str → Option Value) : Prop where
  range : mg "range" = none
  n_len : mg "len" = none
  n_sorted : mg "sorted" = none
  n_repr : mg "repr" = none
  n_abs : mg "abs" = none
  n_max : mg "max" = none
  n_min : mg "min" = none
  n_int : mg "int" = none
  n_list : mg "list" = none
  n_divmod : mg "divmod" = none
  n_all : mg "all" = none
  c_MOST_PLAIN : ∃ t, mg "MOST_PLAIN" = some (.int 4 t)
  c_MOST_CHOICES : ∃ t, mg "MOST_CHOICES" = some (.int 5000 t)
/-! ### slots, scopes, how arguments bind -/
abbrev swant_at_most : Stmt := topS 4
abbrev Nwant_at_most : List Str := ["what", "limit", "number"]
theorem scwant_at_most : FnScope Nwant_at_most ["what", "limit", "number"] (defScope swant_at_most) := ⟨rfl, rfl, rfl, by decide +kernel, rfl, by decide +kernel, by decide +kernel⟩
theorem biwant_at_most (kV doc pm : Value) (an : Option Addr) (cdv ct : Value) (us : List Value) (hl : us.length = 3) : bindArgs (PySem.W.fnOf "want_at_most" "want_at_most" (defArgs swant_at_most) (defBody swant_at_most) (defScope swant_at_most) .none kV doc pm an cdv ct) ⟨us, []⟩ = pure ((["what", "limit", "number"] : List Str).zip us) :=
  match us, hl with
  | [_, _, _], _ => rfl
abbrev snear_of : Stmt := topS 6
abbrev Nnear_of : List Str := ["many", "ties", "near", "tie", "turn", "others"]
theorem scnear_of : FnScope Nnear_of ["many", "ties"] (defScope snear_of) := ⟨rfl, rfl, rfl, by decide +kernel, rfl, by decide +kernel, by decide +kernel⟩
theorem binear_of (kV doc pm : Value) (an : Option Addr) (cdv ct : Value) (us : List Value) (hl : us.length = 2) : bindArgs (PySem.W.fnOf "near_of" "near_of" (defArgs snear_of) (defBody snear_of) (defScope snear_of) .none kV doc pm an cdv ct) ⟨us, []⟩ = pure ((["many", "ties"] : List Str).zip us) :=
  match us, hl with
  | [_, _], _ => rfl
abbrev snear_lists : Stmt := topS 7
abbrev Nnear_lists : List Str := ["web"]
theorem scnear_lists : FnScope Nnear_lists ["web"] (defScope snear_lists) := ⟨rfl, rfl, rfl, by decide +kernel, rfl, by decide +kernel, by decide +kernel⟩
theorem binear_lists (kV doc pm : Value) (an : Option Addr) (cdv ct : Value) (us : List Value) (hl : us.length = 1) : bindArgs (PySem.W.fnOf "near_lists" "near_lists" (defArgs snear_lists) (defBody snear_lists) (defScope snear_lists) .none kV doc pm an cdv ct) ⟨us, []⟩ = pure ((["web"] : List Str).zip us) :=
  match us, hl with
  | [_], _ => rfl
abbrev spiece_of : Stmt := topS 8
abbrev Npiece_of : List Str := ["near", "start", "found", "left", "seen", "part", "other"]
theorem scpiece_of : FnScope Npiece_of ["near", "start"] (defScope spiece_of) := ⟨rfl, rfl, rfl, by decide +kernel, rfl, by decide +kernel, by decide +kernel⟩
theorem bipiece_of (kV doc pm : Value) (an : Option Addr) (cdv ct : Value) (us : List Value) (hl : us.length = 2) : bindArgs (PySem.W.fnOf "piece_of" "piece_of" (defArgs spiece_of) (defBody spiece_of) (defScope spiece_of) .none kV doc pm an cdv ct) ⟨us, []⟩ = pure ((["near", "start"] : List Str).zip us) :=
  match us, hl with
  | [_, _], _ => rfl
abbrev spieces_of : Stmt := topS 9
abbrev Npieces_of : List Str := ["near", "part", "found", "seen", "piece", "other"]
theorem scpieces_of : FnScope Npieces_of ["near"] (defScope spieces_of) := ⟨rfl, rfl, rfl, by decide +kernel, rfl, by decide +kernel, by decide +kernel⟩
theorem bipieces_of (kV doc pm : Value) (an : Option Addr) (cdv ct : Value) (us : List Value) (hl : us.length = 1) : bindArgs (PySem.W.fnOf "pieces_of" "pieces_of" (defArgs spieces_of) (defBody spieces_of) (defScope spieces_of) .none kV doc pm an cdv ct) ⟨us, []⟩ = pure ((["near"] : List Str).zip us) :=
  match us, hl with
  | [_], _ => rfl
abbrev spieces : Stmt := topS 10
abbrev Npieces : List Str := ["web"]
theorem scpieces : FnScope Npieces ["web"] (defScope spieces) := ⟨rfl, rfl, rfl, by decide +kernel, rfl, by decide +kernel, by decide +kernel⟩
theorem bipieces (kV doc pm : Value) (an : Option Addr) (cdv ct : Value) (us : List Value) (hl : us.length = 1) : bindArgs (PySem.W.fnOf "pieces" "pieces" (defArgs spieces) (defBody spieces) (defScope spieces) .none kV doc pm an cdv ct) ⟨us, []⟩ = pure ((["web"] : List Str).zip us) :=
  match us, hl with
  | [_], _ => rfl
abbrev stimes_itself : Stmt := topS 12
abbrev Ntimes_itself : List Str := ["number", "many", "found", "turn"]
theorem sctimes_itself : FnScope Ntimes_itself ["number", "many"] (defScope stimes_itself) := ⟨rfl, rfl, rfl, by decide +kernel, rfl, by decide +kernel, by decide +kernel⟩
theorem bitimes_itself (kV doc pm : Value) (an : Option Addr) (cdv ct : Value) (us : List Value) (hl : us.length = 2) : bindArgs (PySem.W.fnOf "times_itself" "times_itself" (defArgs stimes_itself) (defBody stimes_itself) (defScope stimes_itself) .none kV doc pm an cdv ct) ⟨us, []⟩ = pure ((["number", "many"] : List Str).zip us) :=
  match us, hl with
  | [_, _], _ => rfl
abbrev spairs_of : Stmt := topS 16
abbrev Npairs_of : List Str := ["many", "a", "b"]
theorem scpairs_of : FnScope Npairs_of ["many"] (defScope spairs_of) := ⟨rfl, rfl, rfl, by decide +kernel, rfl, by decide +kernel, by decide +kernel⟩
theorem bipairs_of (kV doc pm : Value) (an : Option Addr) (cdv ct : Value) (us : List Value) (hl : us.length = 1) : bindArgs (PySem.W.fnOf "pairs_of" "pairs_of" (defArgs spairs_of) (defBody spairs_of) (defScope spairs_of) .none kV doc pm an cdv ct) ⟨us, []⟩ = pure ((["many"] : List Str).zip us) :=
  match us, hl with
  | [_], _ => rfl
abbrev sall_choices : Stmt := topS 17
abbrev Nall_choices : List Str := ["parts", "orders", "pairs", "rows", "a", "b", "row", "order"]
theorem scall_choices : FnScope Nall_choices ["parts", "orders"] (defScope sall_choices) := ⟨rfl, rfl, rfl, by decide +kernel, rfl, by decide +kernel, by decide +kernel⟩
theorem biall_choices (kV doc pm : Value) (an : Option Addr) (cdv ct : Value) (us : List Value) (hl : us.length = 2) : bindArgs (PySem.W.fnOf "all_choices" "all_choices" (defArgs sall_choices) (defBody sall_choices) (defScope sall_choices) .none kV doc pm an cdv ct) ⟨us, []⟩ = pure ((["parts", "orders"] : List Str).zip us) :=
  match us, hl with
  | [_, _], _ => rfl
abbrev sis_whole_web : Stmt := topS 18
abbrev Nis_whole_web : List Str := ["web"]
theorem scis_whole_web : FnScope Nis_whole_web ["web"] (defScope sis_whole_web) := ⟨rfl, rfl, rfl, by decide +kernel, rfl, by decide +kernel, by decide +kernel⟩
theorem biis_whole_web (kV doc pm : Value) (an : Option Addr) (cdv ct : Value) (us : List Value) (hl : us.length = 1) : bindArgs (PySem.W.fnOf "is_whole_web" "is_whole_web" (defArgs sis_whole_web) (defBody sis_whole_web) (defScope sis_whole_web) .none kV doc pm an cdv ct) ⟨us, []⟩ = pure ((["web"] : List Str).zip us) :=
  match us, hl with
  | [_], _ => rfl
abbrev sgrown : Stmt := topS 19
abbrev Ngrown : List Str := ["web", "part", "orders", "last", "rows", "at", "row", "order"]
theorem scgrown : FnScope Ngrown ["web", "part", "orders"] (defScope sgrown) := ⟨rfl, rfl, rfl, by decide +kernel, rfl, by decide +kernel, by decide +kernel⟩
theorem bigrown (kV doc pm : Value) (an : Option Addr) (cdv ct : Value) (us : List Value) (hl : us.length = 3) : bindArgs (PySem.W.fnOf "grown" "grown" (defArgs sgrown) (defBody sgrown) (defScope sgrown) .none kV doc pm an cdv ct) ⟨us, []⟩ = pure ((["web", "part", "orders"] : List Str).zip us) :=
  match us, hl with
  | [_, _, _], _ => rfl
abbrev sis_of_family : Stmt := topS 20
abbrev Nis_of_family : List Str := ["parts", "orders", "is_whole", "web", "a", "b", "order"]
theorem scis_of_family : FnScope Nis_of_family ["parts", "orders", "is_whole", "web"] (defScope sis_of_family) := ⟨rfl, rfl, rfl, by decide +kernel, rfl, by decide +kernel, by decide +kernel⟩
theorem biis_of_family (kV doc pm : Value) (an : Option Addr) (cdv ct : Value) (us : List Value) (hl : us.length = 4) : bindArgs (PySem.W.fnOf "is_of_family" "is_of_family" (defArgs sis_of_family) (defBody sis_of_family) (defScope sis_of_family) .none kV doc pm an cdv ct) ⟨us, []⟩ = pure ((["parts", "orders", "is_whole", "web"] : List Str).zip us) :=
  match us, hl with
  | [_, _, _, _], _ => rfl
abbrev sl_pot : Stmt := topS 22
abbrev Nl_pot : List Str := ["_law_script", "_law_k", "_law_cell", "_law_mixed_here"]
theorem scl_pot : FnScope Nl_pot ["_law_script", "_law_k"] (defScope sl_pot) := ⟨rfl, rfl, rfl, by decide +kernel, rfl, by decide +kernel, by decide +kernel⟩
theorem bil_pot (kV doc pm : Value) (an : Option Addr) (cdv ct : Value) (us : List Value) (hl : us.length = 2) : bindArgs (PySem.W.fnOf "_law_pot" "_law_pot" (defArgs sl_pot) (defBody sl_pot) (defScope sl_pot) .none kV doc pm an cdv ct) ⟨us, []⟩ = pure ((["_law_script", "_law_k"] : List Str).zip us) :=
  match us, hl with
  | [_, _], _ => rfl
abbrev sl_draw : Stmt := topS 23
abbrev Nl_draw : List Str := ["_law_pot_here", "_law_size", "_law_digit"]
theorem scl_draw : FnScope Nl_draw ["_law_pot_here", "_law_size"] (defScope sl_draw) := ⟨rfl, rfl, rfl, by decide +kernel, rfl, by decide +kernel, by decide +kernel⟩
theorem bil_draw (kV doc pm : Value) (an : Option Addr) (cdv ct : Value) (us : List Value) (hl : us.length = 2) : bindArgs (PySem.W.fnOf "_law_draw" "_law_draw" (defArgs sl_draw) (defBody sl_draw) (defScope sl_draw) .none kV doc pm an cdv ct) ⟨us, []⟩ = pure ((["_law_pot_here", "_law_size"] : List Str).zip us) :=
  match us, hl with
  | [_, _], _ => rfl
abbrev sl_pick : Stmt := topS 24
abbrev Nl_pick : List Str := ["_law_pot_here", "_law_some"]
theorem scl_pick : FnScope Nl_pick ["_law_pot_here", "_law_some"] (defScope sl_pick) := ⟨rfl, rfl, rfl, by decide +kernel, rfl, by decide +kernel, by decide +kernel⟩
theorem bil_pick (kV doc pm : Value) (an : Option Addr) (cdv ct : Value) (us : List Value) (hl : us.length = 2) : bindArgs (PySem.W.fnOf "_law_pick" "_law_pick" (defArgs sl_pick) (defBody sl_pick) (defScope sl_pick) .none kV doc pm an cdv ct) ⟨us, []⟩ = pure ((["_law_pot_here", "_law_some"] : List Str).zip us) :=
  match us, hl with
  | [_, _], _ => rfl
abbrev sl_near : Stmt := topS 25
abbrev Nl_near : List Str := ["_law_ties_here", "_law_part", "_law_ahead", "_law_a", "_law_b", "_law_order"]
theorem scl_near : FnScope Nl_near ["_law_ties_here", "_law_part"] (defScope sl_near) := ⟨rfl, rfl, rfl, by decide +kernel, rfl, by decide +kernel, by decide +kernel⟩
theorem bil_near (kV doc pm : Value) (an : Option Addr) (cdv ct : Value) (us : List Value) (hl : us.length = 2) : bindArgs (PySem.W.fnOf "_law_near" "_law_near" (defArgs sl_near) (defBody sl_near) (defScope sl_near) .none kV doc pm an cdv ct) ⟨us, []⟩ = pure ((["_law_ties_here", "_law_part"] : List Str).zip us) :=
  match us, hl with
  | [_, _], _ => rfl
abbrev sl_ties : Stmt := topS 26
abbrev Nl_ties : List Str := ["_law_pot_here", "_law_many", "_law_a", "_law_style", "_law_order", "_law_found", "_law_b", "_law_is_ring", "_law_is_tied", "_law_other"]
theorem scl_ties : FnScope Nl_ties ["_law_pot_here", "_law_many"] (defScope sl_ties) := ⟨rfl, rfl, rfl, by decide +kernel, rfl, by decide +kernel, by decide +kernel⟩
theorem bil_ties (kV doc pm : Value) (an : Option Addr) (cdv ct : Value) (us : List Value) (hl : us.length = 2) : bindArgs (PySem.W.fnOf "_law_ties" "_law_ties" (defArgs sl_ties) (defBody sl_ties) (defScope sl_ties) .none kV doc pm an cdv ct) ⟨us, []⟩ = pure ((["_law_pot_here", "_law_many"] : List Str).zip us) :=
  match us, hl with
  | [_, _], _ => rfl
abbrev sl_hands : Stmt := topS 27
abbrev Nl_hands : List Str := ["_law_pot_here", "_law_many", "_law_ties_here", "_law_found", "_law_a"]
theorem scl_hands : FnScope Nl_hands ["_law_pot_here", "_law_many", "_law_ties_here"] (defScope sl_hands) := ⟨rfl, rfl, rfl, by decide +kernel, rfl, by decide +kernel, by decide +kernel⟩
theorem bil_hands (kV doc pm : Value) (an : Option Addr) (cdv ct : Value) (us : List Value) (hl : us.length = 3) : bindArgs (PySem.W.fnOf "_law_hands" "_law_hands" (defArgs sl_hands) (defBody sl_hands) (defScope sl_hands) .none kV doc pm an cdv ct) ⟨us, []⟩ = pure ((["_law_pot_here", "_law_many", "_law_ties_here"] : List Str).zip us) :=
  match us, hl with
  | [_, _, _], _ => rfl
abbrev sl_sides : Stmt := topS 28
abbrev Nl_sides : List Str := ["_law_pot_here", "_law_ties_here", "_law_found", "_law_a", "_law_b", "_law_order", "_law_ends"]
theorem scl_sides : FnScope Nl_sides ["_law_pot_here", "_law_ties_here"] (defScope sl_sides) := ⟨rfl, rfl, rfl, by decide +kernel, rfl, by decide +kernel, by decide +kernel⟩
theorem bil_sides (kV doc pm : Value) (an : Option Addr) (cdv ct : Value) (us : List Value) (hl : us.length = 2) : bindArgs (PySem.W.fnOf "_law_sides" "_law_sides" (defArgs sl_sides) (defBody sl_sides) (defScope sl_sides) .none kV doc pm an cdv ct) ⟨us, []⟩ = pure ((["_law_pot_here", "_law_ties_here"] : List Str).zip us) :=
  match us, hl with
  | [_, _], _ => rfl
abbrev sl_web : Stmt := topS 29
abbrev Nl_web : List Str := ["_law_pot_here", "_law_least", "_law_most", "_law_parts", "_law_turn", "_law_ties_here", "_law_hands_here", "_law_many", "_law_style", "_law_part"]
theorem scl_web : FnScope Nl_web ["_law_pot_here", "_law_least", "_law_most"] (defScope sl_web) := ⟨rfl, rfl, rfl, by decide +kernel, rfl, by decide +kernel, by decide +kernel⟩
theorem bil_web (kV doc pm : Value) (an : Option Addr) (cdv ct : Value) (us : List Value) (hl : us.length = 3) : bindArgs (PySem.W.fnOf "_law_web" "_law_web" (defArgs sl_web) (defBody sl_web) (defScope sl_web) .none kV doc pm an cdv ct) ⟨us, []⟩ = pure ((["_law_pot_here", "_law_least", "_law_most"] : List Str).zip us) :=
  match us, hl with
  | [_, _, _], _ => rfl
abbrev sl_choices : Stmt := topS 30
abbrev Nl_choices : List Str := ["_law_parts", "_law_orders_here", "_law_some", "_law_a", "_law_b", "_law_more", "_law_row", "_law_ways", "_law_order", "_law_told"]
theorem scl_choices : FnScope Nl_choices ["_law_parts", "_law_orders_here"] (defScope sl_choices) := ⟨rfl, rfl, rfl, by decide +kernel, rfl, by decide +kernel, by decide +kernel⟩
theorem bil_choices (kV doc pm : Value) (an : Option Addr) (cdv ct : Value) (us : List Value) (hl : us.length = 2) : bindArgs (PySem.W.fnOf "_law_choices" "_law_choices" (defArgs sl_choices) (defBody sl_choices) (defScope sl_choices) .none kV doc pm an cdv ct) ⟨us, []⟩ = pure ((["_law_parts", "_law_orders_here"] : List Str).zip us) :=
  match us, hl with
  | [_, _], _ => rfl
abbrev sl_is_whole : Stmt := topS 31
abbrev Nl_is_whole : List Str := ["_law_web_here", "_law_met", "_law_turn", "_law_a", "_law_b", "_law_order"]
theorem scl_is_whole : FnScope Nl_is_whole ["_law_web_here"] (defScope sl_is_whole) := ⟨rfl, rfl, rfl, by decide +kernel, rfl, by decide +kernel, by decide +kernel⟩
theorem bil_is_whole (kV doc pm : Value) (an : Option Addr) (cdv ct : Value) (us : List Value) (hl : us.length = 1) : bindArgs (PySem.W.fnOf "_law_is_whole" "_law_is_whole" (defArgs sl_is_whole) (defBody sl_is_whole) (defScope sl_is_whole) .none kV doc pm an cdv ct) ⟨us, []⟩ = pure ((["_law_web_here"] : List Str).zip us) :=
  match us, hl with
  | [_], _ => rfl
abbrev sl_mixed : Stmt := topS 32
abbrev Nl_mixed : List Str := ["_law_pot_here", "_law_some", "_law_turn", "_law_left", "_law_found"]
theorem scl_mixed : FnScope Nl_mixed ["_law_pot_here", "_law_some"] (defScope sl_mixed) := ⟨rfl, rfl, rfl, by decide +kernel, rfl, by decide +kernel, by decide +kernel⟩
theorem bil_mixed (kV doc pm : Value) (an : Option Addr) (cdv ct : Value) (us : List Value) (hl : us.length = 2) : bindArgs (PySem.W.fnOf "_law_mixed" "_law_mixed" (defArgs sl_mixed) (defBody sl_mixed) (defScope sl_mixed) .none kV doc pm an cdv ct) ⟨us, []⟩ = pure ((["_law_pot_here", "_law_some"] : List Str).zip us) :=
  match us, hl with
  | [_, _], _ => rfl
abbrev sl_orders : Stmt := topS 33
abbrev Nl_orders : List Str := ["_law_pot_here", "_law_most", "_law_order"]
theorem scl_orders : FnScope Nl_orders ["_law_pot_here", "_law_most"] (defScope sl_orders) := ⟨rfl, rfl, rfl, by decide +kernel, rfl, by decide +kernel, by decide +kernel⟩
theorem bil_orders (kV doc pm : Value) (an : Option Addr) (cdv ct : Value) (us : List Value) (hl : us.length = 2) : bindArgs (PySem.W.fnOf "_law_orders" "_law_orders" (defArgs sl_orders) (defBody sl_orders) (defScope sl_orders) .none kV doc pm an cdv ct) ⟨us, []⟩ = pure ((["_law_pot_here", "_law_most"] : List Str).zip us) :=
  match us, hl with
  | [_, _], _ => rfl
abbrev sl_grown : Stmt := topS 34
abbrev Nl_grown : List Str := ["_law_web_here", "_law_part", "_law_orders_here", "_law_at", "_law_last", "_law_some", "_law_more", "_law_row", "_law_ways", "_law_order", "_law_told"]
theorem scl_grown : FnScope Nl_grown ["_law_web_here", "_law_part", "_law_orders_here"] (defScope sl_grown) := ⟨rfl, rfl, rfl, by decide +kernel, rfl, by decide +kernel, by decide +kernel⟩
theorem bil_grown (kV doc pm : Value) (an : Option Addr) (cdv ct : Value) (us : List Value) (hl : us.length = 3) : bindArgs (PySem.W.fnOf "_law_grown" "_law_grown" (defArgs sl_grown) (defBody sl_grown) (defScope sl_grown) .none kV doc pm an cdv ct) ⟨us, []⟩ = pure ((["_law_web_here", "_law_part", "_law_orders_here"] : List Str).zip us) :=
  match us, hl with
  | [_, _, _], _ => rfl
abbrev sl_spoilt : Stmt := topS 35
abbrev Nl_spoilt : List Str := ["_law_told", "_law_web_here"]
theorem scl_spoilt : FnScope Nl_spoilt ["_law_told"] (defScope sl_spoilt) := ⟨rfl, rfl, rfl, by decide +kernel, rfl, by decide +kernel, by decide +kernel⟩
theorem bil_spoilt (kV doc pm : Value) (an : Option Addr) (cdv ct : Value) (us : List Value) (hl : us.length = 1) : bindArgs (PySem.W.fnOf "_law_spoilt" "_law_spoilt" (defArgs sl_spoilt) (defBody sl_spoilt) (defScope sl_spoilt) .none kV doc pm an cdv ct) ⟨us, []⟩ = pure ((["_law_told"] : List Str).zip us) :=
  match us, hl with
  | [_], _ => rfl
abbrev sl_choices_right : Stmt := topS 36
abbrev Nl_choices_right : List Str := ["_law_pot_here", "_law_many", "_law_parts", "_law_orders_here", "_law_told", "_law_again", "_law_kept", "_law_due", "_law_turn"]
theorem scl_choices_right : FnScope Nl_choices_right ["_law_pot_here"] (defScope sl_choices_right) := ⟨rfl, rfl, rfl, by decide +kernel, rfl, by decide +kernel, by decide +kernel⟩
theorem bil_choices_right (kV doc pm : Value) (an : Option Addr) (cdv ct : Value) (us : List Value) (hl : us.length = 1) : bindArgs (PySem.W.fnOf "_law_choices_right" "_law_choices_right" (defArgs sl_choices_right) (defBody sl_choices_right) (defScope sl_choices_right) .none kV doc pm an cdv ct) ⟨us, []⟩ = pure ((["_law_pot_here"] : List Str).zip us) :=
  match us, hl with
  | [_], _ => rfl
abbrev sl_grown_right : Stmt := topS 37
abbrev Nl_grown_right : List Str := ["_law_pot_here", "_law_web_here", "_law_orders_here", "_law_part", "_law_told", "_law_kept", "_law_due"]
theorem scl_grown_right : FnScope Nl_grown_right ["_law_pot_here"] (defScope sl_grown_right) := ⟨rfl, rfl, rfl, by decide +kernel, rfl, by decide +kernel, by decide +kernel⟩
theorem bil_grown_right (kV doc pm : Value) (an : Option Addr) (cdv ct : Value) (us : List Value) (hl : us.length = 1) : bindArgs (PySem.W.fnOf "_law_grown_right" "_law_grown_right" (defArgs sl_grown_right) (defBody sl_grown_right) (defScope sl_grown_right) .none kV doc pm an cdv ct) ⟨us, []⟩ = pure ((["_law_pot_here"] : List Str).zip us) :=
  match us, hl with
  | [_], _ => rfl
abbrev sl_of_right : Stmt := topS 38
abbrev Nl_of_right : List Str := ["_law_pot_here", "_law_web_here", "_law_way", "_law_kept", "_law_due", "_law_told", "_law_other", "_law_parts", "_law_orders_here", "_law_a", "_law_b", "_law_order", "_law_is_whole_here", "_law_at", "_law_tie"]
theorem scl_of_right : FnScope Nl_of_right ["_law_pot_here"] (defScope sl_of_right) := ⟨rfl, rfl, rfl, by decide +kernel, rfl, by decide +kernel, by decide +kernel⟩
theorem bil_of_right (kV doc pm : Value) (an : Option Addr) (cdv ct : Value) (us : List Value) (hl : us.length = 1) : bindArgs (PySem.W.fnOf "_law_of_right" "_law_of_right" (defArgs sl_of_right) (defBody sl_of_right) (defScope sl_of_right) .none kV doc pm an cdv ct) ⟨us, []⟩ = pure ((["_law_pot_here"] : List Str).zip us) :=
  match us, hl with
  | [_], _ => rfl
abbrev sl_long_right : Stmt := topS 39
abbrev Nl_long_right : List Str := ["_law_pot_here", "_law_parts", "_law_ties_here", "_law_web_here", "_law_told", "_law_many", "_law_order", "_law_turn", "_law_at"]
theorem scl_long_right : FnScope Nl_long_right ["_law_pot_here"] (defScope sl_long_right) := ⟨rfl, rfl, rfl, by decide +kernel, rfl, by decide +kernel, by decide +kernel⟩
theorem bil_long_right (kV doc pm : Value) (an : Option Addr) (cdv ct : Value) (us : List Value) (hl : us.length = 1) : bindArgs (PySem.W.fnOf "_law_long_right" "_law_long_right" (defArgs sl_long_right) (defBody sl_long_right) (defScope sl_long_right) .none kV doc pm an cdv ct) ⟨us, []⟩ = pure ((["_law_pot_here"] : List Str).zip us) :=
  match us, hl with
  | [_], _ => rfl
abbrev slaw : Stmt := topS 40
abbrev Nlaw : List Str := ["_law_script", "_law_pot_here"]
theorem sclaw : FnScope Nlaw ["_law_script"] (defScope slaw) := ⟨rfl, rfl, rfl, by decide +kernel, rfl, by decide +kernel, by decide +kernel⟩
theorem bilaw (kV doc pm : Value) (an : Option Addr) (cdv ct : Value) (us : List Value) (hl : us.length = 1) : bindArgs (PySem.W.fnOf "law" "law" (defArgs slaw) (defBody slaw) (defScope slaw) .none kV doc pm an cdv ct) ⟨us, []⟩ = pure ((["_law_script"] : List Str).zip us) :=
  match us, hl with
  | [_], _ => rfl
end W3

end
section
set_option Elab.async false
set_option linter.all false
set_option maxRecDepth 100000
set_option maxHeartbeats 4000000
namespace W3
open PySem PySem.Spec PyProof.Rows L2 M83
open Evl (Ex)
section
variable {P : Program} {w : World} {K : PySem.W.Frag} {mg : Str → Option Value} {base : Heap}
/-! ### want_at_most -/
def p_want : Sp3 := fun vs H Q => ∃ (x : V) (l n : Int), vs = [x, .int l, .int n] ∧ n ≤ l ∧ ∀ H', Ex H H' → Q .non H'
theorem d_want_at_most {f : Addr} {fd : FuncData} (F : Fun K "want_at_most" "want_at_most" swant_at_most f fd) (hm : mg "want_at_most" = some (.ref f)) (T : Txt mg) : Df P w K mg base 1 "want_at_most" ["what", "limit", "number"] p_want := by
  refine Df.body F hm biwant_at_most scwant_at_most (fun vs H Q h => ?_) (fun cdv A outer s H vs Q hr h => ?_)
  · obtain ⟨x, l, n, rfl, _⟩ := h; rfl
  · obtain ⟨x, l, n, rfl, hl, k⟩ := h
    refine ⟨_, (pss_one (ps_if (pt_cmpR op_gt (pv 2) (pv 1) (nomark _)) (pss_one ps_never) pss_nil)), ?_⟩
    refine ⟨_, rfl, _, rfl, _, _, rfl, rfl, _, rfl, ?_⟩
    rw [decide_eq_false (by omega)]
    exact iteF (k _ (Ex.refl _))
/-! ### times_itself -/
def p_times : Sp3 := fun vs H Q => ∃ (a : Int) (n : Nat), vs = [.int a, .int n] ∧ 0 ≤ a ∧ a ≤ 1000 ∧ n ≤ 1000 ∧ ∀ H', Ex H H' → Q (.int (a ^ n)) H'
theorem d_times_itself {f : Addr} {fd : FuncData} (F : Fun K "times_itself" "times_itself" stimes_itself f fd) (hm : mg "times_itself" = some (.ref f)) (T : Txt mg) : Df P w K mg base 1 "times_itself" ["number", "many"] p_times := by
  refine Df.body F hm bitimes_itself sctimes_itself (fun vs H Q h => ?_) (fun cdv A outer s H vs Q hr h => ?_)
  · obtain ⟨a, n, rfl, _⟩ := h; rfl
  · obtain ⟨a, n, rfl, h0, h1, hn, k⟩ := h
    refine ⟨_, (pss_cons (ps_set (i := 2) sctimes_itself.nd rfl (Or.inl rfl) pe_int)
 (pss_cons (ps_for PassesOwn.never rfl (pi_range1 rfl T.range (pa_cons (pv 1) pa_nil)) (pg_name (i := 3) sctimes_itself.nd rfl (Or.inl rfl)) (pss_one (ps_set (i := 2) sctimes_itself.nd rfl (Or.inl rfl) (pe_op op_mul (pv 2) (pv 0)))))
 (pss_one (ps_ret (pv 2))))), ?_⟩
    refine ⟨_, rfl, _, rfl, by omega, by omega, ?_⟩
    refine for_range (lo := 0) (n := n) (fun i σ H' => ∃ v, σ = [some (.int a), some (.int n), some (.int (a ^ i)), v] ∧ Ex H H') ⟨none, by rw [Int.pow_zero]; rfl, Ex.refl _⟩ ?_ ?_
    · rintro i σ H' hi ⟨v, rfl, e⟩
      refine ⟨_, rfl, _, rfl, _, _, rfl, rfl, .inr ⟨by omega, by omega⟩, ?_⟩
      exact ⟨_, by rw [Int.pow_succ]; rfl, e⟩
    · rintro σ H' ⟨v, rfl, e⟩
      exact ⟨_, rfl, k _ e⟩
/-! ### near_of -/
def eInts (ns : List Int) : PyData := .list (ns.map .int)
def eTie (t : Tie) : PyData := .tuple [.int t.1, .int t.2.1, .int t.2.2]
def eTies (ts : List Tie) : PyData := .list (ts.map eTie)
def eNear (N : List (List Int)) : PyData := .list (N.map eInts)
theorem tie_at {H : Hp} {t : Tie} {v : V} (h : Dt H (eTie t) v) : ∃ p, v = .ref p ∧ H p = some (.tup [.int t.1, .int t.2.1, .int t.2.2]) := by
  obtain ⟨p, xs, rfl, hp, x, r, rfl, rfl, y, r2, rfl, rfl, z, r3, rfl, rfl, rfl⟩ := h
  exact ⟨p, rfl, hp⟩
theorem tie_mk {H : Hp} {p : Addr} {a b c : Int} (h : H p = some (.tup [.int a, .int b, .int c])) : Dt H (eTie (a, b, c)) (.ref p) := ⟨p, _, rfl, h, _, _, rfl, rfl, _, _, rfl, rfl, _, _, rfl, rfl, rfl⟩
theorem ints_at {H : Hp} {ns : List Int} {v : V} (h : Dt H (eInts ns) v) : ∃ p, v = .ref p ∧ H p = some (.lst (ns.map V.int)) := by
  obtain ⟨p, xs, rfl, hp, hx⟩ := h
  rw [Dts.ints.mp hx] at hp
  exact ⟨p, rfl, hp⟩
theorem ints_mk {H : Hp} {ns : List Int} {p : Addr} (h : H p = some (.lst (ns.map V.int))) : Dt H (eInts ns) (.ref p) := ⟨p, _, rfl, h, Dts.ints.mpr rfl⟩
/-- an item of a list of data -/
theorem item {α : Type} {H : Hp} {enc : α → PyData} {as : List α} {xs : List V} {i : Nat} {a : α} (h : Dts H (as.map enc) xs) (hi : as[i]? = some a) : ∃ x, xs[i]? = some x ∧ Dt H (enc a) x :=
  h.get (by rw [List.getElem?_map, hi]; rfl)
theorem item' {α : Type} {H : Hp} {enc : α → PyData} {as : List α} {xs : List V} {i : Nat} {x : V} (h : Dts H (as.map enc) xs) (hi : xs[i]? = some x) : ∃ a, as[i]? = some a ∧ Dt H (enc a) x := by
  obtain ⟨d, hd, hx⟩ := h.got hi
  rw [List.getElem?_map] at hd
  obtain ⟨a, ha, rfl⟩ := Option.map_eq_some_iff.mp hd
  exact ⟨a, ha, hx⟩
theorem atI_of {α : Type} {xs : List α} {z : Int} {v : α} (h0 : 0 ≤ z) (h : xs[z.toNat]? = some v) : atI xs z = some v := by
  have : z = (z.toNat : Int) := by omega
  rw [this]; exact atI_nat h
theorem ixN_of {n : Nat} {z : Int} (h0 : 0 ≤ z) (h1 : z < (n : Int)) : ixN n z = some z.toNat := by unfold ixN; rw [if_pos h0, if_pos h1]

/-- lists at unlike places, each of the ints told -/
structure Rows (H : Hp) (as : List Addr) (N : List (List Int)) : Prop where
  nd : as.Nodup
  len : as.length = N.length
  at_ : ∀ (i : Nat) (a : Addr) (row : List Int), as[i]? = some a → N[i]? = some row → H a = some (.lst (row.map V.int))
theorem Rows.mono {H G : Hp} {as : List Addr} {N : List (List Int)} (h : Rows H as N) (e : ∀ a ∈ as, ∀ o, H a = some o → G a = some o) : Rows G as N :=
  ⟨h.nd, h.len, fun i a row h1 h2 => e a (List.mem_of_getElem? h1) _ (h.at_ i a row h1 h2)⟩
theorem Rows.add {H : Hp} {as : List Addr} {N : List (List Int)} {i : Nat} {a : Addr} {row : List Int} {j : Int} (h : Rows H as N) (ha : as[i]? = some a) (hr : N[i]? = some row) :
    Rows (upd H a (.lst (row.map V.int ++ [V.int j]))) as (N.modify i (· ++ [j])) := by
  refine ⟨h.nd, by rw [List.length_modify]; exact h.len, fun k b r h1 h2 => ?_⟩
  rw [List.getElem?_modify] at h2
  obtain ⟨r0, e0, rfl⟩ := Option.map_eq_some_iff.mp h2
  by_cases e : i = k
  · subst e
    rw [ha] at h1; cases h1
    rw [hr] at e0; cases e0
    rw [if_pos rfl, upd_same, List.map_append]; rfl
  · rw [if_neg e, upd_ne (fun z => e ?_)]
    · exact h.at_ k b r0 h1 e0
    · subst z; exact (nd_ix h.nd ha h1)
/-- a list walked while others change -/
theorem near_args {N : List (List Int)} {H : Hp} {v : V} (h : Dt H (eNear N) v) : ∃ p xs, v = .ref p ∧ H p = some (.lst xs) ∧ Dts H (N.map eInts) xs := h

def p_near_of : Sp3 := fun vs H Q => ∃ (n : Nat) (v : V) (ts : List Tie), vs = [.int n, v] ∧ n ≤ 1000 ∧ ts.length ≤ 1000 ∧ TiesOk n ts ∧ Dt H (eTies ts) v ∧
  ∀ N v' H', Ex H H' → NearOk n ts N → Dt H' (eNear N) v' → Q v' H'
theorem d_near_of {f : Addr} {fd : FuncData} (F : Fun K "near_of" "near_of" snear_of f fd) (hm : mg "near_of" = some (.ref f)) (T : Txt mg) : Df P w K mg base 1 "near_of" ["many", "ties"] p_near_of := by
  refine Df.body F hm binear_of scnear_of (fun vs H Q h => ?_) (fun cdv A outer s H vs Q hr h => ?_)
  · obtain ⟨n, v, ts, rfl, _⟩ := h; rfl
  · obtain ⟨n, v, ts, rfl, hn, hts, ok, ⟨tp, txs, rfl, htp, htx⟩, k⟩ := h
    refine ⟨_, (pss_cons (ps_setLc (own := [("turn", 4)]) (i := 2) rfl scnear_of.nd rfl rfl (sw_true rfl rfl rfl (by decide +kernel)) (pi_range1 rfl T.range (pa_cons (pv 0) pa_nil)) (blkOk_by (N := Nnear_of) (sc := defScope snear_of) (by decide +kernel)) (fun _ _ _ _ _ => (pg_name (i := 4) scnear_of.nd rfl (Or.inl rfl))) (fun _ _ _ _ _ => pts_nil) (fun _ _ _ _ _ => (pe_fr (pe_lst pa_nil))))
 (pss_cons (ps_for PassesOwn.never rfl (piL K (pv 1)) (pg_name (i := 3) scnear_of.nd rfl (Or.inl rfl)) (pss_cons (ps_expr (pe_bm PySem.F.plainAttrs_list PySem.F.slot_list_append PySem.F.type_list_append mt_append (pe_ix (ixL K) (pv 2) (pe_ix (ixT K) (pv 3) pe_int (fun _ _ => rfl)) (fun _ _ => rfl)) (pa_cons (pe_ix (ixT K) (pv 3) pe_int (fun _ _ => rfl)) pa_nil)))
 (pss_one (ps_expr (pe_bm PySem.F.plainAttrs_list PySem.F.slot_list_append PySem.F.type_list_append mt_append (pe_ix (ixL K) (pv 2) (pe_ix (ixT K) (pv 3) pe_int (fun _ _ => rfl)) (fun _ _ => rfl)) (pa_cons (pe_ix (ixT K) (pv 3) pe_int (fun _ _ => rfl)) pa_nil))))))
 (pss_one (ps_ret (pe_lc (own := [("others", 5)]) rfl scnear_of.nd (piL K (pv 2)) (blkOk_by (N := Nnear_of) (sc := defScope snear_of) (by decide +kernel)) (fun _ _ _ _ _ => (pg_name (i := 5) scnear_of.nd rfl (Or.inl rfl))) (fun _ _ _ _ _ => pts_nil) (fun _ _ _ _ _ => (pe_fr (pe_callB (crSI K) (by rfl) T.n_sorted bt_sorted (pa_cons (pv 5) pa_nil))))))))), ?_⟩
    refine go_sets (lcR H (lo := 0) (n := n) (fun i acc G => ∃ as : List Addr, acc = as.map V.ref ∧ Rows G as (List.replicate i []) ∧ (∀ a ∈ as, H a = none) ∧ Ex H G) (fun R r => ⟨_, rfl, _, rfl, by omega, by omega, r⟩) (by omega) ⟨[], rfl, ⟨List.nodup_nil, rfl, fun i a row h => by simp at h⟩, fun a h => by simp at h, Ex.refl _⟩ ?_ (fun _ => rfl) ?_ ?_)
    · rintro i acc G ⟨as, rfl, r, _⟩
      rw [List.length_map, r.len, List.length_replicate]; exact Nat.le_refl _
    · rintro i acc G hi e ⟨as, rfl, r, fr, e1⟩
      refine ⟨Nat.zero_le _, fun p hp => ⟨Ex.new hp, as ++ [p], by simp, ⟨?_, ?_, ?_⟩, ?_, e1.trans (Ex.new hp)⟩⟩
      · refine List.nodup_append.mpr ⟨r.nd, by simp, fun x hx y hy => ?_⟩
        have ey : y = p := by simpa using hy
        subst ey
        intro e2; subst e2
        obtain ⟨j, hj⟩ := List.getElem?_of_mem hx
        have hl := (List.getElem?_eq_some_iff.mp hj).1
        rw [r.len] at hl
        rw [r.at_ j x _ hj (List.getElem?_eq_getElem hl)] at hp
        cases hp
      · simp [r.len]
      · intro j a row h1 h2
        rw [List.getElem?_replicate] at h2
        split at h2
        · cases h2
          rw [List.getElem?_append] at h1
          split at h1
          · rename_i hj
            have h3 := r.at_ j a [] h1 (by rw [List.getElem?_replicate, if_pos (by rw [r.len, List.length_replicate] at hj; exact hj)])
            exact Ex.new hp _ _ h3
          · rw [List.getElem?_singleton] at h1
            split at h1
            · cases h1; exact upd_same
            · cases h1
        · cases h2
      · intro a ha
        rcases List.mem_append.mp ha with ha | ha
        · exact fr a ha
        · have ea : a = p := by simpa using ha
          subst ea
          exact Evl.fresh_back e1 hp
    · rintro acc G p e np ⟨as, rfl, r, fr, e1⟩
      have e2 : Ex H (upd G p (.lst (as.map V.ref))) := e1.trans (Ex.new np)
      have fp : H p = none := Evl.fresh_back e1 np
      have pn : ∀ a ∈ as, a ≠ p := fun a ha z => by
        subst z
        obtain ⟨j, hj⟩ := List.getElem?_of_mem ha
        have hl := (List.getElem?_eq_some_iff.mp hj).1
        rw [r.len] at hl
        rw [r.at_ j a _ hj (List.getElem?_eq_getElem hl)] at np
        cases np
      -- for tie in ties
      refine ⟨_, rfl, tp, rfl, ⟨_, SqL.of (e2 _ _ htp)⟩, ?_⟩
      refine for_list (K := K) (a := tp) (xs := txs) (fun i σ H' => ∃ v, σ = [some (.int n), some (.ref tp), some (.ref p), v, none, none] ∧ Ex H H' ∧ H' p = some (.lst (as.map V.ref)) ∧ Rows H' as (nearM n (ts.take i)))
        ⟨none, rfl, e2, upd_same, ?_⟩ (fun i σ H' _ ⟨v, _, e3, _⟩ => SqL.of (e3 _ _ htp)) ?_ ?_
      · have r2 := r.mono (G := upd G p (.lst (as.map V.ref))) fun a ha o ho => by
          rw [upd_ne (ne_of_none ho np)]; exact ho
        simpa [nearM] using r2
      · rintro i x σ H' hi ⟨v, rfl, e3, hp, r3⟩
        obtain ⟨t, ht, hx⟩ := item' htx hi
        obtain ⟨q, rfl, hq⟩ := tie_at hx
        obtain ⟨t0, t1, t2⟩ := ok t (List.mem_of_getElem? ht)
        have hq' := e3 _ _ hq
        have l1 : t.1.toNat < as.length := by rw [r.len, List.length_replicate]; omega
        have l2 : t.2.1.toNat < as.length := by rw [r.len, List.length_replicate]; omega
        have m1 : t.1.toNat < (nearM n (ts.take i)).length := by rw [nearM_len]; omega
        have m2 : t.2.1.toNat < (nearM n (ts.take i)).length := by rw [nearM_len]; omega
        have h1 := r3.at_ _ _ _ (List.getElem?_eq_getElem l1) (List.getElem?_eq_getElem m1)
        have b1 := nearM_sum n (ts.take i) _ _ (List.getElem?_eq_getElem m1)
        have btk : (ts.take i).length ≤ 1000 := by rw [List.length_take]; omega
        have r4 := r3.add (j := t.2.1) (List.getElem?_eq_getElem l1) (List.getElem?_eq_getElem m1)
        have a1 := List.getElem_mem l1
        have a2 := List.getElem_mem l2
        have e4 : Ex H (upd H' as[t.1.toNat] (.lst ((nearM n (ts.take i))[t.1.toNat].map V.int ++ [V.int t.2.1]))) := Evl.Ex.mut e3 (fr _ a1)
        have hp4 : (upd H' as[t.1.toNat] (.lst ((nearM n (ts.take i))[t.1.toNat].map V.int ++ [V.int t.2.1]))) p = some (.lst (as.map V.ref)) := by rw [upd_ne (pn _ a1).symm]; exact hp
        have m3 : t.2.1.toNat < ((nearM n (ts.take i)).modify t.1.toNat (· ++ [t.2.1])).length := by rw [List.length_modify]; exact m2
        have h2 := r4.at_ _ _ _ (List.getElem?_eq_getElem l2) (List.getElem?_eq_getElem m3)
        have r5 := r4.add (j := t.1) (List.getElem?_eq_getElem l2) (List.getElem?_eq_getElem m3)
        have b2 : ((nearM n (ts.take i)).modify t.1.toNat (· ++ [t.2.1]))[t.2.1.toNat].length ≤ 2001 := by
          have z : ((nearM n (ts.take i)).modify t.1.toNat (· ++ [t.2.1]))[t.2.1.toNat]? = some ((nearM n (ts.take i)).modify t.1.toNat (· ++ [t.2.1]))[t.2.1.toNat] := List.getElem?_eq_getElem m3
          rw [List.getElem?_modify] at z
          obtain ⟨r0, z0, z1⟩ := Option.map_eq_some_iff.mp z
          have := nearM_sum n (ts.take i) _ _ z0
          rw [← z1]
          split <;> simp <;> omega
        have big : (3000 : Nat) < sizeLine := by decide
        have ix : ∀ {z : Int}, 0 ≤ z → (h : z.toNat < as.length) → atI (as.map V.ref) z = some (.ref as[z.toNat]) := fun h0 h => atI_of h0 (by rw [List.getElem?_map, List.getElem?_eq_getElem h]; rfl)
        -- near[tie[0]].append(tie[1])
        refine ⟨_, rfl, _, rfl, q, _, 0, _, rfl, rfl, SqT.of hq', rfl, p, _, _, _, rfl, rfl, SqL.of hp, ix t0 l1, .inl ⟨rfl, _, SqL.of h1⟩, _, rfl, q, _, 1, _, rfl, rfl, SqT.of hq', rfl,
          _, _, _, rfl, rfl, h1, by rw [List.length_map]; omega, ?_⟩
        -- near[tie[1]].append(tie[0])
        refine ⟨_, rfl, _, rfl, q, _, 1, _, rfl, rfl, SqT.of (e4 _ _ hq), rfl, p, _, _, _, rfl, rfl, SqL.of hp4, ix (by omega) l2, .inl ⟨rfl, _, SqL.of h2⟩, _, rfl, q, _, 0, _, rfl, rfl, SqT.of (e4 _ _ hq), rfl,
          _, _, _, rfl, rfl, h2, by rw [List.length_map]; omega, ?_⟩
        refine ⟨_, rfl, Evl.Ex.mut e4 (fr _ a2), by rw [upd_ne (pn _ a2).symm]; exact hp4, ?_⟩
        rw [List.take_succ, ht]
        show Rows _ as (nearM n (ts.take i ++ [t]))
        rw [nearM_snoc]
        exact r5
      · rintro σ H' ⟨v, rfl, e3, hp, r3⟩
        have lts : txs.length = ts.length := by rw [htx.length, List.length_map]
        rw [lts, List.take_length] at r3
        have nok := nearM_ok n ts ok
        -- [sorted(others) for others in near]
        dsimp only
        refine go_ret ?_
        refine lcN H' (fun i acc G => ∃ N' : List (List Int), Dts G (N'.map eInts) acc ∧ N'.length = i ∧ ∀ (j : Nat) (row row' : List Int), N'[j]? = some row' → (nearM n ts)[j]? = some row → row'.Perm row)
          (fun R q => ⟨_, rfl, p, rfl, ⟨_, SqL.of hp⟩, q⟩) hp (by rw [List.length_map, r.len, List.length_replicate]; omega) ⟨[], rfl, rfl, fun j row row' h => by simp at h⟩ ?_ (fun _ => rfl) ?_ ?_
        · rintro i acc G ⟨N', hd, hl, _⟩
          rw [hd.length, List.length_map, hl]; exact Nat.le_refl _
        · rintro i x acc G hi e4 ⟨N', hd, hl, hN⟩
          rw [List.getElem?_map] at hi
          obtain ⟨a, ha, rfl⟩ := Option.map_eq_some_iff.mp hi
          have li : i < (nearM n ts).length := by
            have := (List.getElem?_eq_some_iff.mp ha).1
            rw [r3.len] at this; exact this
          have hrow := e4 _ _ (r3.at_ i a _ ha (List.getElem?_eq_getElem li))
          refine ⟨_, rfl, a, _, rfl, SqL.of hrow, fun ns' q hperm _ hq => ⟨Ex.new hq, N' ++ [ns'], ?_, by simp [hl], ?_⟩⟩
          · rw [List.map_append]
            exact Dts.snoc (ints_mk upd_same) (hd.mono (Ex.new hq))
          · intro j row row' h1 h2
            rw [List.getElem?_append] at h1
            split at h1
            · exact hN j row row' h1 h2
            · rw [List.getElem?_singleton] at h1
              split at h1
              · have ej : j = i := by omega
                subst ej
                cases h1
                rw [List.getElem?_eq_getElem li] at h2
                cases h2
                exact hperm
              · cases h1
        · rintro acc G q e4 nq ⟨N', hd, hl, hN⟩
          rw [List.length_map, r3.len, nearM_len] at hl
          refine k N' _ _ ((e3.trans e4).trans (Ex.new nq)) ⟨hl, fun j row hj x => ?_⟩ ⟨q, acc, rfl, upd_same, hd.mono (Ex.new nq)⟩
          have lj : j < (nearM n ts).length := by
            have := (List.getElem?_eq_some_iff.mp hj).1
            rw [nearM_len]; omega
          rw [(hN j _ row hj (List.getElem?_eq_getElem lj)).mem_iff]
          exact nok.2 j _ (List.getElem?_eq_getElem lj) x
end
end W3

end
section
set_option autoImplicit false
set_option linter.all false
/-! plain mathematics: choices of ties -/
namespace M83
def pairsRow (i j : Nat) : List (Int × Int) := (List.range j).map fun (k : Nat) => ((i : Int), (i : Int) + 1 + (k : Int))
def pairsTo (n i : Nat) : List (Int × Int) := (List.range i).flatMap fun a => pairsRow a (n - (a + 1))
def pairsM (n : Nat) : List (Int × Int) := pairsTo n n
theorem pairsRow_succ (i j : Nat) : pairsRow i (j + 1) = pairsRow i j ++ [((i : Int), (i : Int) + 1 + (j : Int))] := by simp [pairsRow, List.range_succ]
theorem pairsTo_succ (n i : Nat) : pairsTo n (i + 1) = pairsTo n i ++ pairsRow i (n - (i + 1)) := by simp [pairsTo, List.range_succ]
theorem pairsTo_len (n : Nat) : ∀ i, i ≤ n → (pairsTo n i).length ≤ i * n
  | 0, _ => by simp [pairsTo]
  | i + 1, h => by
    rw [pairsTo_succ, List.length_append]
    have := pairsTo_len n i (by omega)
    simp only [pairsRow, List.length_map, List.length_range, Nat.succ_mul]
    omega
theorem pairsM_len (n : Nat) : 2 * (pairsM n).length = n * (n - 1) := by
  suffices h : ∀ i, i ≤ n → 2 * (pairsTo n i).length + i * (i + 1) = 2 * i * n from by
    have := h n (Nat.le_refl _)
    show 2 * (pairsTo n n).length = _
    cases n with
    | zero => simp [pairsTo]
    | succ n =>
      simp only [Nat.add_sub_cancel]
      have e1 : 2 * (n + 1) * (n + 1) = (n + 1) * (n + 1 + 1) + (n + 1) * n := by
        rw [← Nat.mul_add, Nat.mul_assoc, Nat.mul_comm 2]
        rw [Nat.mul_assoc]; congr 1; omega
      omega
  intro i
  induction i with
  | zero => intro _; simp [pairsTo]
  | succ i ih =>
    intro h
    have := ih (by omega)
    rw [pairsTo_succ, List.length_append]
    simp only [pairsRow, List.length_map, List.length_range]
    have e1 : (i + 1) * (i + 1 + 1) = i * (i + 1) + 2 * (i + 1) := by
      rw [Nat.mul_comm, ← Nat.add_mul]
    have e2 : 2 * (i + 1) * n = 2 * i * n + 2 * n := by
      rw [Nat.mul_add, Nat.add_mul]
    omega
/-- the program's step: no tie of the pair, or a tie of each order behind -/
def grow1 (os : List Int) (rows : List (List Tie)) (p : Int × Int) : List (List Tie) := rows ++ rows.flatMap fun r => os.map fun o => r ++ [(p.1, p.2, o)]
def choicesM (os : List Int) (ps : List (Int × Int)) : List (List Tie) := ps.foldl (grow1 os) [[]]
/-- the law's step -/
def growL (os : List Int) (rows : List (List Tie)) (p : Int × Int) : List (List Tie) := rows.flatMap fun r => ([] :: os.map fun o => [(p.1, p.2, o)]).map fun t => r ++ t
def choicesL (os : List Int) (ps : List (Int × Int)) : List (List Tie) := ps.foldl (growL os) [[]]
theorem grow1_len (os : List Int) (rows : List (List Tie)) (p : Int × Int) : (grow1 os rows p).length = rows.length * (os.length + 1) := by
  unfold grow1
  rw [List.length_append]
  have : (rows.flatMap fun r => os.map fun o => r ++ [(p.1, p.2, o)]).length = rows.length * os.length := by
    induction rows with
    | nil => simp
    | cons r rows ih => simp only [List.flatMap_cons, List.length_append, List.length_map, ih, List.length_cons, Nat.succ_mul]; omega
  rw [this, Nat.mul_succ]; omega
theorem choices_len (os : List Int) (ps : List (Int × Int)) : (choicesM os ps).length = (os.length + 1) ^ ps.length := by
  suffices h : ∀ (ps : List (Int × Int)) (rows : List (List Tie)), (ps.foldl (grow1 os) rows).length = rows.length * (os.length + 1) ^ ps.length by
    have := h ps [[]]
    simpa [choicesM] using this
  intro ps
  induction ps with
  | nil => intro rows; simp
  | cons p ps ih => intro rows; simp only [List.foldl_cons, ih, grow1_len, List.length_cons, Nat.pow_succ]; rw [Nat.mul_assoc, Nat.mul_comm (os.length + 1)]
theorem grow1_perm {os : List Int} {rows rows' : List (List Tie)} (p : Int × Int) (h : rows.Perm rows') : (grow1 os rows p).Perm (growL os rows' p) := by
  have a : (growL os rows p).Perm (growL os rows' p) := h.flatMap_right _
  refine List.Perm.trans ?_ a
  unfold grow1 growL
  have : ∀ rows : List (List Tie), (rows ++ rows.flatMap fun r => os.map fun o => r ++ [(p.1, p.2, o)]).Perm (rows.flatMap fun r => r :: os.map fun o => r ++ [(p.1, p.2, o)]) := by
    intro rows
    induction rows with
    | nil => simp
    | cons r rows ih =>
      simp only [List.flatMap_cons, List.cons_append]
      refine List.Perm.cons r ?_
      refine List.Perm.trans ?_ (List.Perm.append_left _ ih)
      rw [← List.append_assoc, ← List.append_assoc]
      exact List.Perm.append_right _ List.perm_append_comm
  have e : (rows.flatMap fun r => ([] :: os.map fun o => [(p.1, p.2, o)]).map fun t => r ++ t) = rows.flatMap fun r => r :: os.map fun o => r ++ [(p.1, p.2, o)] := by
    congr 1; funext r; simp [Function.comp_def]
  rw [e]
  exact this rows
theorem choices_perm (os : List Int) (ps : List (Int × Int)) : (choicesM os ps).Perm (choicesL os ps) := by
  suffices h : ∀ (ps : List (Int × Int)) (rows rows' : List (List Tie)), rows.Perm rows' → (ps.foldl (grow1 os) rows).Perm (ps.foldl (growL os) rows') from h ps _ _ (List.Perm.refl _)
  intro ps
  induction ps with
  | nil => intro rows rows' h; exact h
  | cons p ps ih => intro rows rows' h; exact ih _ _ (grow1_perm p h)
/-- every tie of a choice is of a told pair and order -/
theorem choices_fin {os : List Int} {ps : List (Int × Int)} {B : Tie → Prop} (h : ∀ p ∈ ps, ∀ o ∈ os, B (p.1, p.2, o)) : ∀ r ∈ choicesM os ps, (∀ t ∈ r, B t) ∧ r.length ≤ ps.length := by
  suffices hh : ∀ (ps : List (Int × Int)) (rows : List (List Tie)) (k : Nat), (∀ p ∈ ps, ∀ o ∈ os, B (p.1, p.2, o)) → (∀ r ∈ rows, (∀ t ∈ r, B t) ∧ r.length ≤ k) → ∀ r ∈ ps.foldl (grow1 os) rows, (∀ t ∈ r, B t) ∧ r.length ≤ k + ps.length by
    intro r hr
    have := hh ps [[]] 0 h (fun r hr => by simp at hr; subst hr; simp) r hr
    simpa using this
  intro ps
  induction ps with
  | nil => intro rows k _ h; simpa using h
  | cons p ps ih =>
    intro rows k hp h r hr
    have := ih (grow1 os rows p) (k + 1) (fun q hq => hp q (by simp [hq])) (fun r hr => by
      unfold grow1 at hr
      rcases List.mem_append.mp hr with hr | hr
      · exact ⟨(h r hr).1, by have := (h r hr).2; omega⟩
      · obtain ⟨r0, hr0, hr⟩ := List.mem_flatMap.mp hr
        obtain ⟨o, ho, rfl⟩ := List.mem_map.mp hr
        refine ⟨fun t ht => ?_, by have := (h r0 hr0).2; simp; omega⟩
        rcases List.mem_append.mp ht with ht | ht
        · exact (h r0 hr0).1 t ht
        · simp at ht; subst ht; exact hp p (by simp) o ho) r hr
    refine ⟨this.1, by have := this.2; simp; omega⟩
end M83

end
section
set_option Elab.async false
set_option linter.all false
set_option maxRecDepth 100000
set_option maxHeartbeats 4000000
namespace W3
open PySem PySem.Spec PyProof.Rows L2 M83
open Evl (Ex)
/-! ### webs -/
abbrev Part := Str × Int
abbrev Hand := Int × Int
structure Web where
  parts : List Part
  ties : List Tie
  hands : List Hand
  sides : List Tie
def ePart (p : Part) : PyData := .tuple [.str p.1, .int p.2]
def eHand (h : Hand) : PyData := .tuple [.int h.1, .int h.2]
def eParts (ps : List Part) : PyData := .list (ps.map ePart)
def eHands (hs : List Hand) : PyData := .list (hs.map eHand)
def eWeb (w : Web) : PyData := .tuple [eParts w.parts, eTies w.ties, eHands w.hands, eTies w.sides]
theorem web_at {H : Hp} {w : Web} {v : V} (h : Dt H (eWeb w) v) : ∃ p a b c d, v = .ref p ∧ H p = some (.tup [.ref a, .ref b, .ref c, .ref d]) ∧
    Dt H (eParts w.parts) (.ref a) ∧ Dt H (eTies w.ties) (.ref b) ∧ Dt H (eHands w.hands) (.ref c) ∧ Dt H (eTies w.sides) (.ref d) := by
  obtain ⟨p, xs, rfl, hp, x, r, rfl, h1, y, r2, rfl, h2, z, r3, rfl, h3, u, r4, rfl, h4, rfl⟩ := h
  obtain ⟨a, _, rfl, _⟩ := id h1
  obtain ⟨b, _, rfl, _⟩ := id h2
  obtain ⟨c, _, rfl, _⟩ := id h3
  obtain ⟨d, _, rfl, _⟩ := id h4
  exact ⟨p, a, b, c, d, rfl, hp, h1, h2, h3, h4⟩
theorem web_mk {H : Hp} {w : Web} {p : Addr} {a b c d : V} (hp : H p = some (.tup [a, b, c, d])) (h1 : Dt H (eParts w.parts) a) (h2 : Dt H (eTies w.ties) b) (h3 : Dt H (eHands w.hands) c) (h4 : Dt H (eTies w.sides) d) : Dt H (eWeb w) (.ref p) :=
  ⟨p, _, rfl, hp, _, _, rfl, h1, _, _, rfl, h2, _, _, rfl, h3, _, _, rfl, h4, rfl⟩
theorem Dt.list_at {H : Hp} {ds : List PyData} {a : Addr} (h : Dt H (.list ds) (.ref a)) : ∃ xs, H a = some (.lst xs) ∧ Dts H ds xs := by
  obtain ⟨b, xs, e, hb, hx⟩ := h
  cases e
  exact ⟨xs, hb, hx⟩

section
variable {P : Program} {w : World} {K : PySem.W.Frag} {mg : Str → Option Value} {base : Heap}
/-! ### near_lists -/
def p_near_lists : Sp3 := fun vs H Q => ∃ (v : V) (wb : Web), vs = [v] ∧ wb.parts.length ≤ 1000 ∧ wb.ties.length ≤ 1000 ∧ TiesOk wb.parts.length wb.ties ∧ Dt H (eWeb wb) v ∧
  ∀ N v' H', Ex H H' → NearOk wb.parts.length wb.ties N → Dt H' (eNear N) v' → Q v' H'
theorem d_near_lists {f : Addr} {fd : FuncData} (F : Fun K "near_lists" "near_lists" snear_lists f fd) (hm : mg "near_lists" = some (.ref f)) (T : Txt mg)
    (d_near_of : Df P w K mg base 1 "near_of" ["many", "ties"] p_near_of) : Df P w K mg base 2 "near_lists" ["web"] p_near_lists := by
  refine Df.body F hm binear_lists scnear_lists (fun vs H Q h => ?_) (fun cdv A outer s H vs Q hr h => ?_)
  · obtain ⟨v, wb, rfl, _⟩ := h; rfl
  · obtain ⟨v, wb, rfl, h1, h2, ok, hw, k⟩ := h
    obtain ⟨p, a, b, c, d, rfl, hp, d1, d2, d3, d4⟩ := web_at hw
    obtain ⟨xs, ha, hx⟩ := Dt.list_at d1
    refine ⟨_, (pss_one (ps_ret (pe_c3 d_near_of (hr.less (by decide)) rfl (pa_cons (pe_callB (lenS K) (by rfl) T.n_len bt_len (pa_cons (pe_ix (ixT K) (pv 0) pe_int (fun _ _ => rfl)) pa_nil)) (pa_cons (pe_ix (ixT K) (pv 0) pe_int (fun _ _ => rfl)) pa_nil))))), ?_⟩
    refine ⟨_, rfl, p, _, 0, _, rfl, rfl, SqT.of hp, rfl, a, xs, rfl, .inl (SqL.of ha), _, rfl, p, _, 1, _, rfl, rfl, SqT.of hp, rfl, ?_⟩
    rw [hx.length, List.length_map]
    exact ⟨_, _, wb.ties, rfl, h1, h2, ok, d2, k⟩
end
theorem bools_get {S : List Bool} {z : Int} (h0 : 0 ≤ z) (h1 : z.toNat < S.length) : atI (S.map V.bl) z = some (.bl S[z.toNat]) := atI_of h0 (by rw [List.getElem?_map, List.getElem?_eq_getElem h1]; rfl)
theorem ints_lf {ns : List Int} (h : ∀ n ∈ ns, n.natAbs < 1000000) : Lf (eInts ns) := Lfs.map h
theorem ints_dep (ns : List Int) : (eInts ns).depth ≤ 32 := by
  show PyData.depthAll (ns.map .int) + 1 ≤ 32
  have := depthAll_map (enc := PyData.int) (k := 0) (as := ns) fun a _ => by simp [PyData.depth]
  omega
theorem nil_lf : Lf (.list []) := trivial
theorem nil_dep : (PyData.list []).depth ≤ 32 := by simp [PyData.depth, PyData.depthAll]
theorem sz1 {α : Type} {x : α} : [x].length ≤ sizeLine := (by show 1 ≤ sizeLine; decide)
theorem sz {n : Nat} (h : n ≤ 1000) : n ≤ sizeLine := Nat.le_trans h (by decide)
theorem sz' {n : Nat} (h : n ≤ 100000) : n < sizeLine := Nat.lt_of_le_of_lt h (by decide)
theorem new_ne {H : Hp} {p q : Addr} {o : HO} (h : H p = some o) (hq : H q = none) : p ≠ q := ne_of_none h hq
/-- three lists at unlike places, that none knew ahead -/
structure PSt (H H' : Hp) (fp lp sp : Addr) (F L : List Int) (S : List Bool) : Prop where
  ex : Ex H H'
  f0 : H fp = none
  l0 : H lp = none
  s0 : H sp = none
  fl : fp ≠ lp
  fs : fp ≠ sp
  ls : lp ≠ sp
  hf : H' fp = some (.lst (F.map V.int))
  hl : H' lp = some (.lst (L.map V.int))
  hs : H' sp = some (.lst (S.map V.bl))
section
variable {H H' G : Hp} {fp lp sp : Addr} {F L : List Int} {S : List Bool}
theorem PSt.setF (q : PSt H H' fp lp sp F L S) {F' : List Int} : PSt H (upd H' fp (.lst (F'.map V.int))) fp lp sp F' L S :=
  ⟨Evl.Ex.mut q.ex q.f0, q.f0, q.l0, q.s0, q.fl, q.fs, q.ls, upd_same, by rw [upd_ne q.fl.symm]; exact q.hl, by rw [upd_ne q.fs.symm]; exact q.hs⟩
theorem PSt.setL (q : PSt H H' fp lp sp F L S) {L' : List Int} : PSt H (upd H' lp (.lst (L'.map V.int))) fp lp sp F L' S :=
  ⟨Evl.Ex.mut q.ex q.l0, q.f0, q.l0, q.s0, q.fl, q.fs, q.ls, by rw [upd_ne q.fl]; exact q.hf, upd_same, by rw [upd_ne q.ls.symm]; exact q.hs⟩
theorem PSt.setS (q : PSt H H' fp lp sp F L S) {S' : List Bool} : PSt H (upd H' sp (.lst (S'.map V.bl))) fp lp sp F L S' :=
  ⟨Evl.Ex.mut q.ex q.s0, q.f0, q.l0, q.s0, q.fl, q.fs, q.ls, by rw [upd_ne q.fs]; exact q.hf, by rw [upd_ne q.ls]; exact q.hl, upd_same⟩
theorem PSt.grow (q : PSt H H' fp lp sp F L S) (e : Ex H' G) : PSt H G fp lp sp F L S :=
  ⟨q.ex.trans e, q.f0, q.l0, q.s0, q.fl, q.fs, q.ls, e _ _ q.hf, e _ _ q.hl, e _ _ q.hs⟩
end
section
variable {P : Program} {w : World} {K : PySem.W.Frag} {mg : Str → Option Value} {base : Heap}
/-! ### piece_of -/
def p_piece_of : Sp3 := fun vs H Q => ∃ (v : V) (N : List (List Int)) (s : Int), vs = [v, .int s] ∧ N.length ≤ 1000 ∧ RowsOk N ∧ 0 ≤ s ∧ s < (N.length : Int) ∧ Dt H (eNear N) v ∧
  ∀ ms v' H', Ex H H' → (∀ j, j ∈ ms ↔ RN N s j) → Dt H' (eInts ms) v' → Q v' H'
theorem d_piece_of {f : Addr} {fd : FuncData} (F : Fun K "piece_of" "piece_of" spiece_of f fd) (hm : mg "piece_of" = some (.ref f)) (T : Txt mg) : Df P w K mg base 1 "piece_of" ["near", "start"] p_piece_of := by
  refine Df.body F hm bipiece_of scpiece_of (fun vs H Q h => ?_) (fun cdv A outer s H vs Q hr h => ?_)
  · obtain ⟨v, N, s, rfl, _⟩ := h; rfl
  · obtain ⟨v, N, z, rfl, hl, ok, z0, z1, ⟨np, nxs, rfl, hnp, hnx⟩, k⟩ := h
    have ln : nxs.length = N.length := by rw [hnx.length, List.length_map]
    have big : (3000 : Nat) < sizeLine := by decide
    refine ⟨_, (pss_cons (ps_par3 (i := 2) (j := 3) (l := 4) rfl scpiece_of.nd rfl rfl rfl (by decide) (by decide) (by decide) rfl rfl rfl (pa_cons (pe_lst pa_nil) (pa_cons (pe_lst (pa_cons (pv 1) pa_nil)) (pa_cons (pe_op op_rep (pe_lst (pa_cons pe_bl pa_nil)) (pe_callB (lenS K) (by rfl) T.n_len bt_len (pa_cons (pv 0) pa_nil))) pa_nil))) (by rfl))
 (pss_cons (ps_asg pe_bl (pg_sub (pv 4) (pv 1) set_list))
 (pss_cons (ps_while PassesOwn.never (pt_cmpR (opNeD K hr.u64) (pv 3) (pe_lst pa_nil) (nomark _)) (pss_cons (ps_set (i := 5) scpiece_of.nd rfl (Or.inl rfl) (pe_bm0 PySem.F.plainAttrs_list PySem.F.slot_list_pop PySem.F.type_list_pop mt_pop (pv 3)))
 (pss_cons (ps_expr (pe_bm PySem.F.plainAttrs_list PySem.F.slot_list_append PySem.F.type_list_append mt_append (pv 2) (pa_cons (pv 5) pa_nil)))
 (pss_one (ps_for PassesOwn.never rfl (piL K (pe_ix (ixL K) (pv 0) (pv 5) (fun _ _ => rfl))) (pg_name (i := 6) scpiece_of.nd rfl (Or.inl rfl)) (pss_one (ps_if (pt_not (pt_val (pe_ix (ixL K) (pv 4) (pv 6) (fun _ _ => rfl)))) (pss_cons (ps_asg pe_bl (pg_sub (pv 4) (pv 6) set_list))
 (pss_one (ps_expr (pe_bm PySem.F.plainAttrs_list PySem.F.slot_list_append PySem.F.type_list_append mt_append (pv 3) (pa_cons (pv 6) pa_nil))))) pss_nil)))))))
 (pss_one (ps_ret (pe_callB (crSI K) (by rfl) T.n_sorted bt_sorted (pa_cons (pv 2) pa_nil))))))), ?_⟩
    -- found, left, seen
    refine ⟨Nat.zero_le _, fun fp hf => ⟨_, rfl, sz1, fun lp hlp => ⟨sz1, fun bp hb => ?_⟩⟩⟩
    refine ⟨_, rfl, np, nxs, rfl, .inl (SqL.of (((Ex.new hf).trans ((Ex.new hlp).trans (Ex.new hb))) _ _ hnp)), bp, _, _, rfl, rfl, upd_same, by omega, by omega, ?_, fun sp hs => ?_⟩
    · rw [ln]; simp; omega
    have q0 : PSt H (upd (upd (upd (upd H fp (.lst [])) lp (.lst [V.int z])) bp (.lst [V.bl false])) sp (.lst (List.replicate (nxs.length : Int).toNat [V.bl false]).flatten)) fp lp sp [] [z] (List.replicate N.length false) := by
      have e1 := Ex.new (o := .lst []) hf
      have e2 := e1.trans (Ex.new (o := .lst [V.int z]) hlp)
      have e3 := e2.trans (Ex.new (o := .lst [V.bl false]) hb)
      have n1 : fp ≠ lp := new_ne upd_same hlp
      have n2 : fp ≠ bp := new_ne (o := .lst []) (by rw [upd_ne n1]; exact upd_same) hb
      have n3 : lp ≠ bp := new_ne upd_same hb
      have n4 : fp ≠ sp := new_ne (o := .lst []) (by rw [upd_ne n2, upd_ne n1]; exact upd_same) hs
      have n5 : lp ≠ sp := new_ne (o := .lst [V.int z]) (by rw [upd_ne n3]; exact upd_same) hs
      refine ⟨e3.trans (Ex.new hs), hf, Evl.fresh_back e1 hlp, Evl.fresh_back e3 hs, n1, n4, n5, by rw [upd_ne n4, upd_ne n2, upd_ne n1]; exact upd_same, by rw [upd_ne n5, upd_ne n3]; exact upd_same, ?_⟩
      rw [upd_same, List.flatten_replicate_singleton, ln, List.map_replicate]; rfl
    generalize upd (upd (upd (upd H fp (.lst [])) lp (.lst [V.int z])) bp (.lst [V.bl false])) sp (.lst (List.replicate (nxs.length : Int).toNat [V.bl false]).flatten) = H4 at q0
    refine ⟨_, _, _, rfl, ?_⟩
    -- seen[start] = True
    refine ⟨_, rfl, _, rfl, sp, _, _, _, rfl, rfl, q0.hs, ixN_of z0 (by simp; exact z1), ?_⟩
    have q1 : PSt H (upd H4 sp (.lst (((List.replicate N.length false).map V.bl).set z.toNat (V.bl true)))) fp lp sp [] [z] ((List.replicate N.length false).set z.toNat true) := by
      have q := q0.setS (S' := (List.replicate N.length false).set z.toNat true)
      rwa [List.map_set] at q
    generalize upd H4 sp (.lst (((List.replicate N.length false).map V.bl).set z.toNat (V.bl true))) = H5 at q1
    clear q0
    -- while left != []
    refine ⟨fun m σ H' => ∃ u v F L S, σ = [some (.ref np), some (.int z), some (.ref fp), some (.ref lp), some (.ref sp), u, v] ∧ PSt H H' fp lp sp F L S ∧ Dfs N z F L S ∧ m = L.length + cf S ∧ F.length + (L.length + cf S) ≤ N.length + 1,
      ⟨_, none, none, _, _, _, rfl, q1, dfs_start z0 z1, rfl, ?_⟩, ?_⟩
    · have := List.count_le_length (a := false) (l := (List.replicate N.length false).set z.toNat true)
      simp [cf] at this ⊢
      omega
    rintro m σ H' ⟨u, v, F, L, S, rfl, q, hd, rfl, hbd⟩
    have lfL : Lf (eInts L) := ints_lf fun n hn => by have := hd.fin n (.inr hn); omega
    have lenS := hd.len
    refine ⟨_, rfl, Nat.zero_le _, fun tp htp => ?_⟩
    have q2 := q.grow (Ex.new (o := .lst []) htp)
    refine ⟨eInts L, .list [], Dt.dp (ints_mk q2.hl), Dt.dp ⟨_, _, rfl, upd_same, rfl⟩, shaped_of lfL (ints_dep L), shaped_of nil_lf nil_dep, _, rfl, ?_⟩
    generalize upd H' tp (.lst []) = H6 at q2
    rw [show eInts L = .list (L.map .int) from rfl, eqv_nil]
    rcases List.eq_nil_or_concat L with rfl | ⟨L0, part, rfl⟩
    · -- return sorted(found)
      refine iteF ?_
      dsimp only
      refine ⟨_, rfl, fp, F, rfl, SqL.of q2.hf, fun ms p hp _ np' => ?_⟩
      exact k ms _ _ (q2.ex.trans (Ex.new np')) (fun j => hp.mem_iff.trans (dfs_end ok hd j)) (ints_mk upd_same)
    · have ne : (!(List.map PyData.int (L0 ++ [part])).isEmpty) = true := by simp
      rw [List.concat_eq_append] at *
      rw [ne]
      refine iteT ?_
      have pp := hd.fin part (.inr (by simp))
      have lp_ : part.toNat < N.length := by omega
      have hrow : N[part.toNat]? = some N[part.toNat] := List.getElem?_eq_getElem lp_
      generalize N[part.toNat] = row at hrow
      have step := dfs_step ok hd hrow
      have rowok : ∀ j ∈ row, 0 ≤ j ∧ j < (N.length : Int) := ok row (List.mem_of_getElem? hrow)
      obtain ⟨xr, hxr, hdr⟩ := item hnx hrow
      obtain ⟨rp, rfl, hrp⟩ := ints_at hdr
      refine ⟨fun σ' H' => ∃ u v, σ' = [some (.ref np), some (.int z), some (.ref fp), some (.ref lp), some (.ref sp), u, v] ∧ PSt H H' fp lp sp (F ++ [part]) (row.foldl push (S, L0)).2 (row.foldl push (S, L0)).1,
        fun σ' H' ⟨u, v, e, q⟩ => ⟨_, step.2, u, v, _, _, _, e, q, step.1, rfl, by have := step.2; simp only [List.length_append, List.length_singleton] at hbd this ⊢; omega⟩, ?_⟩
      -- part = left.pop()
      refine ⟨_, rfl, .inl ⟨rfl, _, SqL.of q2.hl⟩, lp, _, V.int part, rfl, rfl, q2.hl, by simp, ?_⟩
      have q3 : PSt H (upd H6 lp (.lst ((L0 ++ [part]).map V.int).dropLast)) fp lp sp F L0 S := by
        have q := q2.setL (L' := L0)
        simpa using q
      generalize upd H6 lp (.lst ((L0 ++ [part]).map V.int).dropLast) = H7 at q3
      -- found.append(part)
      have bF : F.length ≤ 1001 := by omega
      refine ⟨_, rfl, .inl ⟨rfl, _, SqL.of q3.hf⟩, _, rfl, fp, _, _, rfl, rfl, q3.hf, by rw [List.length_map]; omega, ?_⟩
      have q4 : PSt H (upd H7 fp (.lst (F.map V.int ++ [V.int part]))) fp lp sp (F ++ [part]) L0 S := by
        have q := q3.setF (F' := F ++ [part])
        simpa using q
      generalize upd H7 fp (.lst (F.map V.int ++ [V.int part])) = H8 at q4
      -- for other in near[part]
      refine ⟨_, rfl, _, rfl, np, _, _, _, rfl, rfl, SqL.of (q4.ex _ _ hnp), atI_of pp.1 hxr, rp, rfl, ⟨_, SqL.of (q4.ex _ _ hrp)⟩, ?_⟩
      refine for_list (K := K) (a := rp) (xs := row.map V.int) (fun i σ' H' => ∃ v, σ' = [some (.ref np), some (.int z), some (.ref fp), some (.ref lp), some (.ref sp), some (.int part), v] ∧
          PSt H H' fp lp sp (F ++ [part]) ((row.take i).foldl push (S, L0)).2 ((row.take i).foldl push (S, L0)).1) ⟨_, rfl, q4⟩ (fun i σ' H' _ ⟨_, _, q⟩ => SqL.of (q.ex _ _ hrp)) ?_ ?_
      · rintro i x σ' H' hi ⟨v, rfl, q⟩
        rw [List.getElem?_map] at hi
        obtain ⟨o, ho, rfl⟩ := Option.map_eq_some_iff.mp hi
        have oo := rowok o (List.mem_of_getElem? ho)
        obtain ⟨p1, _, _, p4, _⟩ := pushes (N := N) (S, L0) lenS (row.take i) (fun j hj => rowok j (List.mem_of_mem_take hj))
        have e5 : (row.take (i + 1)).foldl push (S, L0) = push ((row.take i).foldl push (S, L0)) o := by
          rw [List.take_add_one, ho]; simp
        have lo : o.toNat < ((row.take i).foldl push (S, L0)).1.length := by rw [p1]; omega
        have bL : ((row.take i).foldl push (S, L0)).2.length ≤ 1001 := by
          simp only [List.length_append, List.length_singleton] at hbd p4
          omega
        generalize (row.take i).foldl push (S, L0) = q9 at q e5 lo bL
        obtain ⟨S9, L9⟩ := q9
        simp only at q lo bL
        -- if not seen[other]
        refine ⟨_, rfl, _, rfl, sp, _, _, _, rfl, rfl, SqL.of q.hs, bools_get oo.1 lo, _, rfl, ?_⟩
        cases hb : S9[o.toNat] with
        | true =>
          have e6 : push (S9, L9) o = (S9, L9) := by unfold push; rw [if_pos (by simp [List.getElem?_eq_getElem lo, hb])]
          refine iteF ⟨_, rfl, ?_⟩
          rw [e5, e6]; exact q
        | false =>
          have e6 : push (S9, L9) o = (S9.set o.toNat true, L9 ++ [o]) := by unfold push; rw [if_neg (by simp [List.getElem?_eq_getElem lo, hb])]
          refine iteT ?_
          refine ⟨_, rfl, _, rfl, sp, _, _, _, rfl, rfl, q.hs, ixN_of oo.1 (by rw [List.length_map]; omega), ?_⟩
          have q10 : PSt H (upd H' sp (.lst ((S9.map V.bl).set o.toNat (V.bl true)))) fp lp sp (F ++ [part]) L9 (S9.set o.toNat true) := by
            have z := q.setS (S' := S9.set o.toNat true)
            rwa [List.map_set] at z
          refine ⟨_, rfl, .inl ⟨rfl, _, SqL.of q10.hl⟩, _, rfl, lp, _, _, rfl, rfl, q10.hl, by rw [List.length_map]; omega, ?_⟩
          refine ⟨_, rfl, ?_⟩
          rw [e5, e6]
          have z := q10.setL (L' := L9 ++ [o])
          simpa using z
      · rintro σ' H' ⟨v, rfl, q⟩
        rw [List.length_map, List.take_length] at q
        exact ⟨_, _, rfl, q⟩
end
end W3

end
section
set_option Elab.async false
set_option linter.all false
set_option maxRecDepth 100000
set_option maxHeartbeats 4000000
namespace W3
open PySem PySem.Spec PyProof.Rows L2 M83
open Evl (Ex)
section
variable {P : Program} {w : World} {K : PySem.W.Frag} {mg : Str → Option Value} {base : Heap}
def p_pieces_of : Sp3 := fun vs H Q => ∃ (v : V) (N : List (List Int)), vs = [v] ∧ N.length ≤ 1000 ∧ RowsOk N ∧ Dt H (eNear N) v ∧
  ∀ (c : Nat) (S : List Bool) (fp : Addr) (xs : List V) (H' : Hp), Ex H H' → Pcs N N.length c S → H' fp = some (.lst xs) → xs.length = c → Q (.ref fp) H'
theorem d_pieces_of {f : Addr} {fd : FuncData} (F : Fun K "pieces_of" "pieces_of" spieces_of f fd) (hm : mg "pieces_of" = some (.ref f)) (T : Txt mg)
    (d_piece_of : Df P w K mg base 1 "piece_of" ["near", "start"] p_piece_of) : Df P w K mg base 2 "pieces_of" ["near"] p_pieces_of := by
  refine Df.body F hm bipieces_of scpieces_of (fun vs H Q h => ?_) (fun cdv A outer s H vs Q hr h => ?_)
  · obtain ⟨v, N, rfl, _⟩ := h; rfl
  · obtain ⟨v, N, rfl, hl, ok, ⟨np, nxs, rfl, hnp, hnx⟩, k⟩ := h
    have ln : nxs.length = N.length := by rw [hnx.length, List.length_map]
    have big : (3000 : Nat) < sizeLine := by decide
    refine ⟨_, (pss_cons (ps_par (i := 2) (j := 3) rfl scpieces_of.nd rfl rfl (by decide) rfl rfl (pa_cons (pe_lst pa_nil) (pa_cons (pe_op op_rep (pe_lst (pa_cons pe_bl pa_nil)) (pe_callB (lenS K) (by rfl) T.n_len bt_len (pa_cons (pv 0) pa_nil))) pa_nil)) (by rfl))
 (pss_cons (ps_for PassesOwn.never rfl (pi_range1 rfl T.range (pa_cons (pe_callB (lenS K) (by rfl) T.n_len bt_len (pa_cons (pv 0) pa_nil)) pa_nil)) (pg_name (i := 1) scpieces_of.nd rfl (Or.inl rfl)) (pss_one (ps_if (pt_not (pt_val (pe_ix (ixL K) (pv 3) (pv 1) (fun _ _ => rfl)))) (pss_cons (ps_set (i := 4) scpieces_of.nd rfl (Or.inl rfl) (pe_c3 d_piece_of (hr.less (by decide)) rfl (pa_cons (pv 0) (pa_cons (pv 1) pa_nil))))
 (pss_cons (ps_for PassesOwn.never rfl (piL K (pv 4)) (pg_name (i := 5) scpieces_of.nd rfl (Or.inl rfl)) (pss_one (ps_asg pe_bl (pg_sub (pv 3) (pv 5) set_list))))
 (pss_one (ps_expr (pe_bm PySem.F.plainAttrs_list PySem.F.slot_list_append PySem.F.type_list_append mt_append (pv 2) (pa_cons (pv 4) pa_nil)))))) pss_nil)))
 (pss_one (ps_ret (pv 2))))), ?_⟩
    refine ⟨Nat.zero_le _, fun fp hf => ⟨sz1, fun bp hb => ?_⟩⟩
    refine ⟨_, rfl, np, nxs, rfl, .inl (SqL.of (((Ex.new hf).trans (Ex.new hb)) _ _ hnp)), bp, _, _, rfl, rfl, upd_same, by omega, by omega, ?_, fun sp hs => ?_⟩
    · rw [ln]; simp; omega
    obtain ⟨H4, eH4⟩ : ∃ H4, H4 = upd (upd (upd H fp (.lst [])) bp (.lst [V.bl false])) sp (.lst (List.replicate (nxs.length : Int).toNat [V.bl false]).flatten) := ⟨_, rfl⟩
    rw [← eH4]
    have e1 := Ex.new (o := .lst []) hf
    have e2 := e1.trans (Ex.new (o := .lst [V.bl false]) hb)
    have n2 : fp ≠ bp := new_ne upd_same hb
    have n4 : fp ≠ sp := new_ne (o := .lst []) (by rw [upd_ne n2]; exact upd_same) hs
    have s0 : H sp = none := Evl.fresh_back e2 hs
    have q0 : Ex H H4 ∧ H4 fp = some (.lst []) ∧ H4 sp = some (.lst ((List.replicate N.length false).map V.bl)) := by
      subst eH4
      refine ⟨e2.trans (Ex.new hs), by rw [upd_ne n4, upd_ne n2]; exact upd_same, ?_⟩
      rw [upd_same, List.flatten_replicate_singleton, ln, List.map_replicate]; rfl
    clear eH4
    obtain ⟨x4, hf4, hs4⟩ := q0
    refine ⟨_, _, rfl, ?_⟩
    -- for part in range(len(near))
    refine ⟨_, rfl, np, nxs, rfl, .inl (SqL.of (x4 _ _ hnp)), _, rfl, by omega, by omega, ?_⟩
    refine for_range (lo := 0) (n := nxs.length) (fun i σ' H' => ∃ v1 v4 v5 c S xs, σ' = [some (.ref np), v1, some (.ref fp), some (.ref sp), v4, v5] ∧ Ex H H' ∧ H' fp = some (.lst xs) ∧ H' sp = some (.lst (S.map V.bl)) ∧ xs.length = c ∧ c ≤ i ∧ Pcs N i c S)
      ⟨none, none, none, 0, _, [], rfl, x4, hf4, hs4, rfl, Nat.le_refl _, pcs_start N⟩ ?_ ?_
    · rintro i σ' H' hi ⟨v1, v4, v5, c, S, xs, rfl, e, hf', hs', hx, hc, pc⟩
      have hi' : i < N.length := by omega
      have li : i < S.length := by rw [pc.len]; exact hi'
      have z0 : (0 : Int) + (i : Int) = (i : Int) := Int.zero_add _
      rw [z0]
      have ai : atI (S.map V.bl) (i : Int) = some (.bl S[i]) := atI_nat (by rw [List.getElem?_map, List.getElem?_eq_getElem li]; rfl)
      refine ⟨_, rfl, _, rfl, sp, _, _, _, rfl, rfl, SqL.of hs', ai, _, rfl, ?_⟩
      cases hb : S[i] with
      | true =>
        refine iteF ⟨_, _, _, c, S, xs, rfl, e, hf', hs', hx, by omega, pcs_skip pc hi' ?_⟩
        rw [List.getElem?_eq_getElem li, hb]
      | false =>
        refine iteT ?_
        have sn : S[i]? ≠ some true := by rw [List.getElem?_eq_getElem li, hb]; simp
        -- piece = piece_of(near, part)
        refine ⟨_, rfl, _, rfl, _, N, _, rfl, hl, ok, by omega, by omega, Dt.mono e ⟨np, nxs, rfl, hnp, hnx⟩, fun ms v' H5 e5 hm5 hd5 => ?_⟩
        obtain ⟨mp, rfl, hmp⟩ := ints_at hd5
        have nmf : mp ≠ sp := fun z => by
          rw [z, e5 _ _ hs'] at hmp
          have z2 := HO.lst.inj (Option.some.inj hmp)
          cases ms with
          | nil =>
            have : S.length = 0 := by simpa using congrArg List.length z2
            omega
          | cons m ms =>
            cases S with
            | nil => simp at li
            | cons b S => simp at z2
        -- for other in piece: seen[other] = True
        refine ⟨_, rfl, mp, rfl, ⟨_, SqL.of hmp⟩, ?_⟩
        have rng : ∀ j ∈ ms, 0 ≤ j ∧ j < (N.length : Int) := by
          intro j hj
          have r := (hm5 j).mp hj
          cases r with
          | refl => omega
          | step r hrow hk => exact ok _ (List.mem_of_getElem? hrow) _ hk
        refine for_list (K := K) (a := mp) (xs := ms.map V.int) (fun j σ'' H'' => ∃ v5, σ'' = [some (.ref np), some (.int i), some (.ref fp), some (.ref sp), some (.ref mp), v5] ∧ Ex H H'' ∧ H'' fp = some (.lst xs) ∧ H'' sp = some (.lst ((marks S (ms.take j)).map V.bl)) ∧ H'' mp = some (.lst (ms.map V.int)))
          ⟨_, rfl, e.trans e5, e5 _ _ hf', e5 _ _ hs', hmp⟩ (fun j σ'' H'' _ ⟨_, _, _, _, _, q⟩ => SqL.of q) ?_ ?_
        · rintro j x σ'' H'' hj ⟨v5, rfl, e6, hf6, hs6, hm6⟩
          rw [List.getElem?_map] at hj
          obtain ⟨o, ho, rfl⟩ := Option.map_eq_some_iff.mp hj
          obtain ⟨o0, o1⟩ := rng o (List.mem_of_getElem? ho)
          have lm : (marks S (ms.take j)).length = S.length := marks_get.1
          refine ⟨_, rfl, _, rfl, sp, _, _, _, rfl, rfl, hs6, ixN_of o0 (by rw [List.length_map, lm, pc.len]; exact o1), ?_⟩
          refine ⟨_, rfl, Evl.Ex.mut e6 s0, by rw [upd_ne n4]; exact hf6, ?_, by rw [upd_ne nmf]; exact hm6⟩
          rw [upd_same, List.take_add_one, ho]
          simp [marks, List.map_set]
        · rintro σ'' H'' ⟨v5, rfl, e6, hf6, hs6, hm6⟩
          rw [List.length_map, List.take_length] at hs6
          -- found.append(piece)
          refine ⟨_, rfl, .inl ⟨rfl, _, SqL.of hf6⟩, _, rfl, fp, _, _, rfl, rfl, hf6, by omega, ?_⟩
          refine ⟨_, _, _, c + 1, _, _, rfl, Evl.Ex.mut e6 (show H fp = none from hf), upd_same, by rw [upd_ne n4.symm]; exact hs6, by simp [hx], by omega, pcs_new ok pc hi' sn hm5⟩
    · rintro σ' H' ⟨v1, v4, v5, c, S, xs, rfl, e, hf', hs', hx, hc, pc⟩
      rw [ln] at pc
      exact ⟨_, rfl, k c S fp xs H' e pc hf' hx⟩
/-! ### pieces, is_whole_web -/
def p_pieces : Sp3 := fun vs H Q => ∃ (v : V) (wb : Web), vs = [v] ∧ wb.parts.length ≤ 1000 ∧ wb.ties.length ≤ 1000 ∧ TiesOk wb.parts.length wb.ties ∧ Dt H (eWeb wb) v ∧
  ∀ (fp : Addr) (xs : List V) (H' : Hp), Ex H H' → H' fp = some (.lst xs) → (xs.length < 2 ↔ Whole wb.parts.length wb.ties) → Q (.ref fp) H'
theorem d_pieces {f : Addr} {fd : FuncData} (F : Fun K "pieces" "pieces" spieces f fd) (hm : mg "pieces" = some (.ref f)) (T : Txt mg)
    (d_pieces_of : Df P w K mg base 2 "pieces_of" ["near"] p_pieces_of) (d_near_lists : Df P w K mg base 2 "near_lists" ["web"] p_near_lists) : Df P w K mg base 3 "pieces" ["web"] p_pieces := by
  refine Df.body F hm bipieces scpieces (fun vs H Q h => ?_) (fun cdv A outer s H vs Q hr h => ?_)
  · obtain ⟨v, wb, rfl, _⟩ := h; rfl
  · obtain ⟨v, wb, rfl, h1, h2, ok, hw, k⟩ := h
    refine ⟨_, (pss_one (ps_ret (pe_c3 d_pieces_of (hr.less (by decide)) rfl (pa_cons (pe_c3 d_near_lists (hr.less (by decide)) rfl (pa_cons (pv 0) pa_nil)) pa_nil)))), ?_⟩
    refine ⟨_, rfl, _, wb, rfl, h1, h2, ok, hw, fun N v' H' e hN hd => ?_⟩
    refine ⟨_, N, rfl, by rw [hN.1]; exact h1, near_rows ok hN, hd, fun c S fp xs H2 e2 pc hf hx => ?_⟩
    rw [hN.1] at pc
    exact k fp xs H2 (e.trans e2) hf (by rw [hx]; exact pcs_end ok hN pc)
open Classical in
def p_is_whole : Sp3 := fun vs H Q => ∃ (v : V) (wb : Web), vs = [v] ∧ wb.parts.length ≤ 1000 ∧ wb.ties.length ≤ 1000 ∧ TiesOk wb.parts.length wb.ties ∧ Dt H (eWeb wb) v ∧
  ∀ (H' : Hp), Ex H H' → Q (.bl (decide (Whole wb.parts.length wb.ties))) H'
open Classical in
theorem d_is_whole_web {f : Addr} {fd : FuncData} (F : Fun K "is_whole_web" "is_whole_web" sis_whole_web f fd) (hm : mg "is_whole_web" = some (.ref f)) (T : Txt mg)
    (d_pieces : Df P w K mg base 3 "pieces" ["web"] p_pieces) : Df P w K mg base 4 "is_whole_web" ["web"] p_is_whole := by
  refine Df.body F hm biis_whole_web scis_whole_web (fun vs H Q h => ?_) (fun cdv A outer s H vs Q hr h => ?_)
  · obtain ⟨v, wb, rfl, _⟩ := h; rfl
  · obtain ⟨v, wb, rfl, h1, h2, ok, hw, k⟩ := h
    refine ⟨_, (pss_one (ps_ret (pe_cmpR op_lt (pe_callB (lenS K) (by rfl) T.n_len bt_len (pa_cons (pe_c3 d_pieces (hr.less (by decide)) rfl (pa_cons (pv 0) pa_nil)) pa_nil)) pe_int (nomark _)))), ?_⟩
    refine ⟨_, rfl, _, wb, rfl, h1, h2, ok, hw, fun fp xs H' e hf hx => ?_⟩
    refine ⟨fp, xs, rfl, .inl (SqL.of hf), _, _, rfl, rfl, ?_⟩
    have z := k H' e
    have e3 : decide ((xs.length : Int) < 2) = decide (Whole wb.parts.length wb.ties) := by
      rw [Bool.eq_iff_iff, decide_eq_true_iff, decide_eq_true_iff, ← hx]; omega
    rw [← e3] at z
    exact z
end
end W3

end
section
set_option Elab.async false
set_option linter.all false
set_option maxRecDepth 100000
set_option maxHeartbeats 4000000
namespace W3
open PySem PySem.Spec PyProof.Rows L2 M83
open Evl (Ex)
/-! ### shapes of data -/
theorem sz2 {α : Type} {x y : α} : [x, y].length ≤ sizeLine := (by show 2 ≤ sizeLine; decide)
theorem sz3 {α : Type} {x y z : α} : [x, y, z].length ≤ sizeLine := (by show 3 ≤ sizeLine; decide)
theorem sz4 {α : Type} {x y z u : α} : [x, y, z, u].length ≤ sizeLine := (by show 4 ≤ sizeLine; decide)
section
open PySem.W
theorem alikeAll_map {α : Type} {enc : α → PyData} (h : ∀ a b, alike (enc a) (enc b) = true) : ∀ (xs ys : List α), alikeAll (xs.map enc) (ys.map enc) = true
  | [], _ => by simp [alikeAll]
  | _ :: _, [] => by simp [alikeAll]
  | x :: xs, y :: ys => by simp only [List.map_cons, alikeAll, h, alikeAll_map h xs ys, Bool.and_self]
theorem alike_part (p q : Part) : alike (ePart p) (ePart q) = true := by simp [ePart, alike, alikeAll]
theorem alike_tie (p q : Tie) : alike (eTie p) (eTie q) = true := by simp [eTie, alike, alikeAll]
theorem alike_hand (p q : Hand) : alike (eHand p) (eHand q) = true := by simp [eHand, alike, alikeAll]
theorem alike_web (u v : Web) : alike (eWeb u) (eWeb v) = true := by
  simp only [eWeb, eParts, eTies, eHands, alike, alikeAll, alikeAll_map alike_part, alikeAll_map alike_tie, alikeAll_map alike_hand, Bool.and_self]
theorem allAlike_map {α : Type} {enc : α → PyData} (h : ∀ a b, alike (enc a) (enc b) = true) (xs : List α) : AllAlike (xs.map enc) := AllAlike.of h
end
theorem dep_part (p : Part) : (ePart p).depth ≤ 1 := by simp [ePart, PyData.depth, PyData.depthAll]
theorem dep_tie (t : Tie) : (eTie t).depth ≤ 1 := by simp [eTie, PyData.depth, PyData.depthAll]
theorem dep_hand (t : Hand) : (eHand t).depth ≤ 1 := by simp [eHand, PyData.depth, PyData.depthAll]
theorem dep_list {α : Type} {enc : α → PyData} {k : Nat} (h : ∀ a, (enc a).depth ≤ k) (as : List α) : (PyData.list (as.map enc)).depth ≤ k + 1 := by
  show PyData.depthAll (as.map enc) + 1 ≤ k + 1
  have := depthAll_map (enc := enc) (as := as) fun a _ => h a
  omega
theorem dep_web (w : Web) : (eWeb w).depth ≤ 3 := by
  have a := dep_list dep_part w.parts
  have b := dep_list dep_tie w.ties
  have c := dep_list dep_hand w.hands
  have d := dep_list dep_tie w.sides
  simp only [eWeb, eParts, eTies, eHands, PyData.depth, PyData.depthAll] at a b c d ⊢
  omega
open PySem.W in
/-- the sorted list of webs, as data -/
def sortW (ws : List Web) : List PyData := (ws.map eWeb).mergeSort (dataLe false id)
theorem sort_in {ds : List PyData} {d : PyData} (h : d ∈ ds.mergeSort (PySem.W.dataLe false id)) : d ∈ ds := (List.mergeSort_perm _ _).mem_iff.mp h
/-- a list of webs whose four lists were made since H -/
def Loose (H H' : Hp) (ys : List V) : Prop := ∀ y ∈ ys, ∃ q a b c d xa xb xc xd, y = .ref q ∧ H' q = some (.tup [.ref a, .ref b, .ref c, .ref d]) ∧
  (H a = none ∧ H' a = some (.lst xa) ∧ xa.length ≤ 1000) ∧ (H b = none ∧ H' b = some (.lst xb) ∧ xb.length ≤ 1000) ∧ (H c = none ∧ H' c = some (.lst xc) ∧ xc.length ≤ 1000) ∧ (H d = none ∧ H' d = some (.lst xd) ∧ xd.length ≤ 1000)
theorem Loose.mono {H H' G : Hp} {ys : List V} (h : Loose H H' ys) (e : Ex H' G) : Loose H G ys := fun y hy => by
  obtain ⟨q, a, b, c, d, xa, xb, xc, xd, rfl, hq, ⟨a1, a2, a3⟩, ⟨b1, b2, b3⟩, ⟨c1, c2, c3⟩, ⟨d1, d2, d3⟩⟩ := h y hy
  exact ⟨q, a, b, c, d, xa, xb, xc, xd, rfl, e _ _ hq, ⟨a1, e _ _ a2, a3⟩, ⟨b1, e _ _ b2, b3⟩, ⟨c1, e _ _ c2, c3⟩, ⟨d1, e _ _ d2, d3⟩⟩
section
variable {P : Program} {w : World} {K : PySem.W.Frag} {mg : Str → Option Value} {base : Heap}
/-! ### pairs_of -/
theorem hand_mk {H : Hp} {p : Addr} {a b : Int} (h : H p = some (.tup [.int a, .int b])) : Dt H (eHand (a, b)) (.ref p) := ⟨p, _, rfl, h, _, _, rfl, rfl, _, _, rfl, rfl, rfl⟩
theorem hand_at {H : Hp} {t : Hand} {v : V} (h : Dt H (eHand t) v) : ∃ p, v = .ref p ∧ H p = some (.tup [.int t.1, .int t.2]) := by
  obtain ⟨p, xs, rfl, hp, x, r, rfl, rfl, y, r2, rfl, rfl, rfl⟩ := h
  exact ⟨p, rfl, hp⟩
def p_pairs_of : Sp3 := fun vs H Q => ∃ n : Nat, vs = [.int n] ∧ n ≤ 100 ∧ ∀ v' H', Ex H H' → Dt H' (eHands (pairsM n)) v' → Q v' H'
theorem d_pairs_of {f : Addr} {fd : FuncData} (F : Fun K "pairs_of" "pairs_of" spairs_of f fd) (hm : mg "pairs_of" = some (.ref f)) (T : Txt mg) : Df P w K mg base 1 "pairs_of" ["many"] p_pairs_of := by
  refine Df.body F hm bipairs_of scpairs_of (fun vs H Q h => ?_) (fun cdv A outer s H vs Q hr h => ?_)
  · obtain ⟨n, rfl, _⟩ := h; rfl
  · obtain ⟨n, rfl, hn, k⟩ := h
    refine ⟨_, (pss_one (ps_ret (pe_lc2 (own := [("a", 1), ("b", 2)]) (vs1 := [2]) rfl scpairs_of.nd (pi_range1 rfl T.range (pa_cons (pv 0) pa_nil)) (blkOk_by (N := Npairs_of) (sc := defScope spairs_of) (by decide +kernel)) (by decide) (fun _ _ _ _ _ => (pg_name (i := 1) scpairs_of.nd rfl (Or.inl rfl))) (fun _ _ _ _ _ => pts_nil) (fun _ _ _ _ _ => (pi_range2 rfl T.range (pa_cons (pe_op op_add (pv 1) pe_int) (pa_cons (pv 0) pa_nil)))) (fun _ _ _ _ _ => (pg_name (i := 2) scpairs_of.nd rfl (Or.inl rfl))) (fun _ _ _ _ _ => pts_nil) (fun _ _ _ _ _ => (pe_fr (pe_tup (pa_cons (pv 1) (pa_cons (pv 2) pa_nil)))))))), ?_⟩
    refine go_ret ?_
    refine lcRR H (lo := 0) (n := n) (fun i => (0 : Int) + i + 1) (fun i => n - (i + 1)) (fun i j acc G => Ex H G ∧ Dts G ((pairsTo n i ++ pairsRow i j).map eHand) acc ∧ i ≤ n ∧ j ≤ n)
      (fun R r => ⟨_, rfl, _, rfl, by omega, by omega, r⟩) ⟨Ex.refl _, rfl, Nat.zero_le _, Nat.zero_le _⟩ ?_ (fun _ => rfl) (fun _ _ => rfl) ?_ ?_ ?_ ?_
    · rintro i j acc G ⟨_, hd, hi, hj⟩
      rw [hd.length, List.length_map, List.length_append]
      have a := pairsTo_len n i hi
      have b : i * n ≤ 100 * 100 := Nat.mul_le_mul (by omega) hn
      simp only [pairsRow, List.length_map, List.length_range]
      omega
    · intro i G R hi r
      refine ⟨_, rfl, _, _, rfl, rfl, _, rfl, _, _, rfl, by omega, ?_⟩
      have : ((n : Int) - ((0 : Int) + i + 1)).toNat = n - (i + 1) := by omega
      rw [this]; exact r
    · rintro i j acc G hi hj e ⟨e1, hd, hi', hj'⟩
      refine ⟨_, rfl, _, rfl, sz2, fun p hp => ⟨Ex.new hp, e1.trans (Ex.new hp), ?_, hi', by omega⟩⟩
      rw [pairsRow_succ, ← List.append_assoc, List.map_append]
      refine Dts.snoc ?_ (hd.mono (Ex.new hp))
      have e3 : (0 : Int) + (i : Int) = (i : Int) := by omega
      rw [e3]
      exact hand_mk upd_same
    · rintro i acc G hi ⟨e1, hd, hi', _⟩
      refine ⟨e1, ?_, hi, Nat.zero_le _⟩
      rw [pairsTo_succ]
      simpa [pairsRow] using hd
    · rintro acc G p e hp ⟨e1, hd, _, _⟩
      have hd2 : Dts G ((pairsM n).map eHand) acc := by simpa [pairsM, pairsRow] using hd
      exact k _ _ (e1.trans (Ex.new hp)) ⟨p, acc, rfl, upd_same, hd2.mono (Ex.new hp)⟩
end
end W3

end
section
set_option Elab.async false
set_option linter.all false
set_option maxRecDepth 100000
set_option maxHeartbeats 4000000
namespace W3
open PySem PySem.Spec PyProof.Rows L2
open Evl (Ex)
/-- a def that is called by keywords, too: its text is told -/
structure Dk (P : Program) (w : World) (K : PySem.W.Frag) (mg : Str → Option Value) (base : Heap) (k : Nat) (x : Str) (ps : List Str) (sp : Sp3) (st : Stmt) : Prop where
  df : Df P w K mg base k x ps sp
  ex : ∃ (f : Addr) (fd : FuncData), mg x = some (.ref f) ∧ PySem.W.keepIn K (.ref f) = true ∧ (∀ args us, bindArgs fd args = pure (ps.zip us) → us.length = ps.length →
      ∀ (A : Around) (outer : List Env) (s : Shared) (H : Hp) (vs : List V) (Q : VK), RG k A → Env0 P w K mg base A outer s H → Vals vs us → sp vs H Q →
        codeAny (model P w) A (.call (.ref f) args) (CR CX0 outer P w H s Q E0) s) ∧
    ∃ (kV doc pm : Value) (an : Option Addr) (cdv ct : Value), fd = PySem.W.fnOf x x (defArgs st) (defBody st) (defScope st) .none kV doc pm an cdv ct
section
variable {P : Program} {w : World} {K : PySem.W.Frag} {mg : Str → Option Value} {base : Heap}
theorem Dk.body {x : Str} {st : Stmt} {f : Addr} {fd : FuncData} {N ps : List Str} {k : Nat} {sp : Sp3} (F : Fun K x x st f fd) (hm : mg x = some (.ref f))
    (hb : ∀ (kV doc pm : Value) (an : Option Addr) (cdv ct : Value) (us : List Value), us.length = ps.length → bindArgs (PySem.W.fnOf x x (defArgs st) (defBody st) (defScope st) .none kV doc pm an cdv ct) ⟨us, []⟩ = pure (ps.zip us))
    (S : FnScope N ps (defScope st)) (len : ∀ vs H Q, sp vs H Q → vs.length = ps.length)
    (go : ∀ (cdv : Value) (A : Around) (outer : List Env) (s : Shared) (H : Hp) (vs : List V) (Q : VK), RG k (A.deeper (envOfC x (defScope st) s.heap.objs.size f cdv)) → sp vs H Q →
      ∃ t, PSs (cxOf CX0 P w K mg base N x (defScope st) f cdv A outer s H E0).nox (defBody st) t ∧ t { nx := fun _ H' => Q .non H', rt := Q } (start N vs) H) : Dk P w K mg base (k + 1) x ps sp st := by
  refine ⟨Df.body F hm hb S len go, ?_⟩
  obtain ⟨oc, od, kV, doc, pm, an, cdv, ct, osl, rfl, lk, hcd⟩ := F.ex
  refine ⟨f, _, hm, F.kp, fun args us hbi hlu A outer s H vs Q rg e0 rv hsp => ?_, kV, doc, pm, an, cdv, ct, rfl⟩
  have inK : K.In s.heap := e0.mod.kin.keeps fun b o e => (e0.bs b o e).1
  have noLim : s.heap.NoLimit := e0.mod.nolimit.keeps fun b o e => (e0.bs b o e).1
  have kinds : ∀ y ∈ ps.zip us, (defScope st).names.lookup y.1 = some .local ∨
      ((defScope st).names.lookup y.1 = some .cell ∧ ((cellsFrom (s.heap.objs.size + 1) (defScope st).names []).lookup y.1).isSome = true) := by
    rintro ⟨n, v⟩ hy
    refine (S.par n (List.of_mem_zip hy).1).imp id fun q => ⟨q, ?_⟩
    exact PySem.W.cellsFrom_some _ _ _ (.inl q)
  refine codeAny_call_function rg.room.depth (inK _ _ lk) rfl S.co S.gen rfl (PySem.W.codeRec_of inK hcd) ((BindsTo.of_eq hbi) _ _ _ _ ?_)
  refine wpAny_newFunctionEnv_cells S.kind kinds fun env he s1 ic => ?_
  subst he
  refine ⟨noLim.keeps ic.toInCall.keep, codeAny_func ?_⟩
  obtain ⟨t, ht, hq⟩ := go cdv A outer s H vs Q ⟨rg.room.deeper _, rg.quiet⟩ hsp
  have J : Inv (cxOf CX0 P w K mg base N x (defScope st) f cdv A outer s H E0) [] (start N vs) H s1 := inv_start S rg.room.hd e0 (len _ _ _ hsp) rv ic
  refine wpAny_mono (ht.nox.run [] s1 _ H _ J hq) (fun fl s' hs => ?_) fun e s' hs => hs
  cases fl with
  | brk => obtain ⟨_, _, _, z⟩ := hs; exact z.elim
  | cont => obtain ⟨_, _, _, z⟩ := hs; exact z.elim
  | next =>
    obtain ⟨σ', H', J', q⟩ := hs
    exact ⟨.non, H', J'.os, J'.bare, J'.base, J'.hok, rfl, q⟩
  | ret u =>
    obtain ⟨v, σ', H', J', rv', q⟩ := hs
    exact ⟨v, H', J'.os, J'.bare, J'.base, J'.hok, rv', q⟩
end
section
variable {X : Cx} {k : Nat} {x : Str} {ps : List Str} {sp : Sp3} {st : Stmt} {p pos : Pos} {t : TA}
theorem pe_ck {kws : List Keyword} {ks : List Str} {g : {α : Type} → List α → List α} (d : Dk X.prog X.w X.K X.mg X.base k x ps sp st) (hr : RG k X.A) (hg : Gl X x) (hkw : PK X kws t)
    (hb : ∀ (kV doc pm : Value) (an : Option Addr) (cdv ct : Value) (us : List Value), us.length = ks.length →
      bindArgs (PySem.W.fnOf x x (defArgs st) (defBody st) (defScope st) .none kV doc pm an cdv ct) ⟨[], ks.zip us⟩ = pure (ps.zip (g us)) ∧ (g us).length = ps.length)
    (hv : ∀ {vs : List V} {us : List Value}, vs.length = ks.length → Vals vs us → Vals (g vs) (g us))
    (hall : (backToKw pos (keywordEach kws X.env)).all (·.1.isSome) = true := by rfl) (hks : (backToKw pos (keywordEach kws X.env)).filterMap (·.1) = ks := by rfl) (hdb : (x == ("__debug__" : Str)) = false := by decide)
    (hpl : ((backTo pos (starEach [] X.env)).any (·.1) || (backToKw pos (keywordEach kws X.env)).any (·.1.isNone)) = false := by rfl) : PE X (.Call (.Name x p) [] kws pos) (tCk3 sp g ks.length t) := by
  refine ⟨fun pins s σ H Q I h => ?_⟩
  obtain ⟨f, fd, hm, hk, run, kV, doc, pm, an, cdv, ct, rfl⟩ := d.ex
  refine wpAny_Call_Name_kw (ld_glob I hg hm ?_ hdb)
  refine PySem.W.callWith_KW0 (h₀ := X.base) I.ok.mod.kin hk hall ?_ hpl
  refine thn (hkw.run pos pins s σ H _ I h) fun us s1 ⟨vs, H1, I1, r, l, q⟩ => ⟨I1.kIn, ?_⟩
  rw [hks]
  obtain ⟨b1, b2⟩ := hb kV doc pm an cdv ct us (r.length.symm.trans l)
  exact after_call (args := ⟨[], ks.zip us⟩) I1 (run _ (g us) b1 b2 X.A X.stack s1 H1 (g vs) Q hr I1.env0 (hv l r) q)
end
def kg_all_choices {α : Type} : List α → List α
  | [a, b] => [b, a]
  | l => l
def kg_grown {α : Type} : List α → List α
  | [a, b, c] => [c, b, a]
  | l => l
def kg_is_of_family {α : Type} : List α → List α
  | [a, b, c, d] => [d, c, b, a]
  | l => l
theorem kb_all_choices (kV doc pm : Value) (an : Option Addr) (cdv ct : Value) (us : List Value) (hl : us.length = 2) : bindArgs (PySem.W.fnOf "all_choices" "all_choices" (defArgs sall_choices) (defBody sall_choices) (defScope sall_choices) .none kV doc pm an cdv ct) ⟨[], (["orders", "parts"] : List Str).zip us⟩ = pure ((["parts", "orders"] : List Str).zip (kg_all_choices us)) ∧ (kg_all_choices us).length = 2 :=
  match us, hl with
  | [_, _], _ => ⟨rfl, rfl⟩
theorem kb_grown (kV doc pm : Value) (an : Option Addr) (cdv ct : Value) (us : List Value) (hl : us.length = 3) : bindArgs (PySem.W.fnOf "grown" "grown" (defArgs sgrown) (defBody sgrown) (defScope sgrown) .none kV doc pm an cdv ct) ⟨[], (["orders", "part", "web"] : List Str).zip us⟩ = pure ((["web", "part", "orders"] : List Str).zip (kg_grown us)) ∧ (kg_grown us).length = 3 :=
  match us, hl with
  | [_, _, _], _ => ⟨rfl, rfl⟩
theorem kb_is_of_family (kV doc pm : Value) (an : Option Addr) (cdv ct : Value) (us : List Value) (hl : us.length = 4) : bindArgs (PySem.W.fnOf "is_of_family" "is_of_family" (defArgs sis_of_family) (defBody sis_of_family) (defScope sis_of_family) .none kV doc pm an cdv ct) ⟨[], (["web", "is_whole", "orders", "parts"] : List Str).zip us⟩ = pure ((["parts", "orders", "is_whole", "web"] : List Str).zip (kg_is_of_family us)) ∧ (kg_is_of_family us).length = 4 :=
  match us, hl with
  | [_, _, _, _], _ => ⟨rfl, rfl⟩
theorem kv_all_choices {vs : List V} {us : List Value} (hl : vs.length = 2) (h : Vals vs us) : Vals (kg_all_choices vs) (kg_all_choices us) := by
  match vs, hl, h with
  | [_, _], _, .cons a (.cons b .nil) => exact .cons b (.cons a .nil)
theorem kv_grown {vs : List V} {us : List Value} (hl : vs.length = 3) (h : Vals vs us) : Vals (kg_grown vs) (kg_grown us) := by
  match vs, hl, h with
  | [_, _, _], _, .cons a (.cons b (.cons c .nil)) => exact .cons c (.cons b (.cons a .nil))
theorem kv_is_of_family {vs : List V} {us : List Value} (hl : vs.length = 4) (h : Vals vs us) : Vals (kg_is_of_family vs) (kg_is_of_family us) := by
  match vs, hl, h with
  | [_, _, _, _], _, .cons a (.cons b (.cons c (.cons d .nil))) => exact .cons d (.cons c (.cons b (.cons a .nil)))
end W3

end
section
set_option Elab.async false
set_option linter.all false
set_option maxRecDepth 100000
set_option maxHeartbeats 4000000
namespace W3
open PySem PySem.Spec PyProof.Rows L2 M83
open Evl (Ex)
theorem go_cb1 {r : List V → Hp → VK → Prop} {te : TE} {σ : L2.St} {H : Hp} {Q : VK} (h : te σ H fun x H1 => r [x] H1 Q) : tCB r (tCons te tNil) σ H Q := h
/-! ### rows of ties, each a list of its own -/
def New (H : Hp) (xs : List V) : Prop := ∀ x ∈ xs, ∃ a, x = V.ref a ∧ H a = none
theorem New.snoc {H : Hp} {xs : List V} {p : Addr} (h : New H xs) (hp : H p = none) : New H (xs ++ [.ref p]) := fun x hx => by
  rcases List.mem_append.mp hx with hx | hx
  · exact h x hx
  · exact ⟨p, by simpa using hx, hp⟩
theorem New.append {H : Hp} {xs ys : List V} (h : New H xs) (h' : New H ys) : New H (xs ++ ys) := fun x hx => (List.mem_append.mp hx).elim (h x) (h' x)
def rowOf (x y : Int) (os : List Int) (r : List Tie) : List (List Tie) := os.map fun o => r ++ [(x, y, o)]
/-- [row + [(x, y, order)] for row in rows for order in orders] -/
theorem grow_lc {K : PySem.W.Frag} {σ : L2.St} {H H1 : Hp} {Q : VK} {sR sO i1 i2 : Nat} {rp op : Addr} {xs : List V} {rows : List (List Tie)} {os : List Int} {x y : Int} (e : Ex H H1) (hr : σ[sR]? = some (some (.ref rp))) (hrp : H1 rp = some (.lst xs))
    (hx : Dts H1 (rows.map eTies) xs) (hop : H1 op = some (.lst (os.map V.int))) (hl : rows.length ≤ 5000) (hos : os.length ≤ 4) (hrl : ∀ r ∈ rows, r.length ≤ 1000)
    (hw1 : ∀ x, wipe ((wipe σ [6, 7]).set 6 (some x)) [6, 7] = wipe σ [6, 7])
    (hw2 : ∀ x y, wipe ((wipe ((wipe σ [6, 7]).set 6 (some x)) [7]).set 7 (some y)) [7] = wipe ((wipe σ [6, 7]).set 6 (some x)) [7]) (hv : ∀ x, ((wipe σ [6, 7]).set 6 (some x))[sO]? = some (some (.ref op)))
    (g1 : ∀ r o, ((wipe ((wipe σ [6, 7]).set 6 (some r)) [7]).set 7 (some o))[6]? = some (some r)) (g2 : ∀ r o, ((wipe ((wipe σ [6, 7]).set 6 (some r)) [7]).set 7 (some o))[7]? = some (some o))
    (g3 : ∀ r o, ((wipe ((wipe σ [6, 7]).set 6 (some r)) [7]).set 7 (some o))[i1]? = some (some (.int x))) (g4 : ∀ r o, ((wipe ((wipe σ [6, 7]).set 6 (some r)) [7]).set 7 (some o))[i2]? = some (some (.int y)))
    (done : ∀ D acc G, Ex H1 G → G D = none → Dts G ((rows.flatMap (rowOf x y os)).map eTies) acc → New H acc → Q (.ref D) (upd G D (.lst acc))) :
    tLc2 (iList K (tVar sR)) (gName 6) tYes (iList K (tVar sO)) (gName 7) tYes (tFr (tOp rCat (tVar 6) (tLst (tCons (tTup (tCons (tVar i1) (tCons (tVar i2) (tCons (tVar 7) tNil)))) tNil)))) [6, 7] [7] σ H1 Q := by
  have lx : xs.length = rows.length := by rw [hx.length, List.length_map]
  refine lcLL H1 (fun i j acc G => Ex H1 G ∧ Dts G (((rows.take i).flatMap (rowOf x y os) ++ rowOf x y (os.take j) (rows[i]?.getD [])).map eTies) acc ∧ New H acc ∧ acc.length ≤ i * os.length + j ∧ i ≤ rows.length ∧ j ≤ os.length)
    (fun R r => ⟨_, hr, rp, rfl, ⟨_, SqL.of hrp⟩, r⟩) hrp hop ⟨Ex.refl _, by simp [rowOf, Dts], fun z h => by simp at h, Nat.zero_le _, Nat.zero_le _, Nat.zero_le _⟩ ?_ hw1 hw2 hv ?_ ?_ ?_
  · rintro i j acc G ⟨_, _, _, h1, h2, h3⟩
    have : i * os.length ≤ 5000 * 4 := Nat.mul_le_mul (by omega) hos
    omega
  · rintro i j r o acc G hi hj eG ⟨_, hd, hn, h1, h2, h3⟩
    rw [List.getElem?_map] at hj
    obtain ⟨oi, ho, rfl⟩ := Option.map_eq_some_iff.mp hj
    obtain ⟨row, hrow, hdr⟩ := item' hx hi
    obtain ⟨q, rxs, rfl, hq, hqd⟩ := hdr
    have jl := (List.getElem?_eq_some_iff.mp ho).1
    have lr := hrl row (List.mem_of_getElem? hrow)
    have lrx : rxs.length = row.length := by rw [hqd.length, List.length_map]
    refine ⟨_, g1 _ _, _, g3 _ _, _, g4 _ _, _, g2 _ _, sz3, fun tp htp => ⟨sz1, fun bp hb => ?_⟩⟩
    have e1 := Ex.new (o := .tup [.int x, .int y, .int oi]) htp
    have e2 := e1.trans (Ex.new (o := .lst [.ref tp]) hb)
    have big : (3000 : Nat) < sizeLine := by decide
    refine ⟨q, bp, rxs, [.ref tp], rfl, rfl, e2 _ _ (eG _ _ hq), upd_same, by simp; omega, fun p hp => ?_⟩
    have e3 := e2.trans (Ex.new (o := .lst (rxs ++ [V.ref tp])) hp)
    refine ⟨e3, eG.trans e3, ?_, hn.snoc (Evl.fresh_back (e.trans (eG.trans e2)) hp), by simp; omega, h2, by omega⟩
    have et : rowOf x y (os.take (j + 1)) (rows[i]?.getD []) = rowOf x y (os.take j) (rows[i]?.getD []) ++ [row ++ [(x, y, oi)]] := by
      rw [List.take_add_one, ho, hrow]; simp [rowOf]
    rw [et, ← List.append_assoc, List.map_append]
    refine Dts.snoc ?_ (hd.mono e3)
    refine ⟨p, _, rfl, upd_same, ?_⟩
    rw [List.map_append]
    refine Dts.snoc ?_ ((hqd.mono eG).mono e3)
    have ntp : tp ≠ bp := new_ne upd_same hb
    have ntq : tp ≠ p := new_ne (o := .tup [.int x, .int y, .int oi]) (by rw [upd_ne ntp]; exact upd_same) hp
    exact tie_mk (by rw [upd_ne ntq, upd_ne ntp]; exact upd_same)
  · rintro i acc G hi ⟨eG, hd, hn, h1, h2, h3⟩
    rw [lx] at hi
    refine ⟨eG, ?_, hn, ?_, hi, Nat.zero_le _⟩
    · have er : rows[i]? = some rows[i] := List.getElem?_eq_getElem hi
      rw [List.length_map, List.take_length, er] at hd
      have : (rows.take (i + 1)).flatMap (rowOf x y os) ++ rowOf x y (os.take 0) (rows[i + 1]?.getD []) = (rows.take i).flatMap (rowOf x y os) ++ rowOf x y os ((some rows[i]).getD []) := by
        rw [List.take_add_one, er, List.flatMap_append]; simp [rowOf, -List.take_append_getElem]
      rw [this]; exact hd
    · rw [List.length_map] at h1
      rw [Nat.succ_mul]; omega
  · rintro acc G p eG hp ⟨_, hd, hn, h1, h2, h3⟩
    refine done p acc G eG hp ?_ hn
    rw [lx, List.take_length] at hd
    simpa [rowOf] using hd
/-- .. and none of them the list at p -/
def LooseP (p : Addr) (n : Nat) (H H' : Hp) (ys : List V) : Prop := ∀ y ∈ ys, ∃ q a b c d xa xb xc xd, y = .ref q ∧ H' q = some (.tup [.ref a, .ref b, .ref c, .ref d]) ∧
  (H a = none ∧ a ≠ p ∧ H' a = some (.lst xa) ∧ xa.length ≤ n) ∧ (H b = none ∧ b ≠ p ∧ H' b = some (.lst xb) ∧ xb.length ≤ n) ∧ (H c = none ∧ c ≠ p ∧ H' c = some (.lst xc) ∧ xc.length ≤ n) ∧ (H d = none ∧ d ≠ p ∧ H' d = some (.lst xd) ∧ xd.length ≤ n)
theorem LooseP.mono {p : Addr} {n : Nat} {H H' G : Hp} {ys : List V} (h : LooseP p n H H' ys) (e : Ex H' G) : LooseP p n H G ys := fun y hy => by
  obtain ⟨q, a, b, c, d, xa, xb, xc, xd, rfl, hq, ⟨a1, z1, a2, a3⟩, ⟨b1, z2, b2, b3⟩, ⟨c1, z3, c2, c3⟩, ⟨d1, z4, d2, d3⟩⟩ := h y hy
  exact ⟨q, a, b, c, d, xa, xb, xc, xd, rfl, e _ _ hq, ⟨a1, z1, e _ _ a2, a3⟩, ⟨b1, z2, e _ _ b2, b3⟩, ⟨c1, z3, e _ _ c2, c3⟩, ⟨d1, z4, e _ _ d2, d3⟩⟩
theorem cutV_all (xs : List V) : cutV xs none none = xs := by simp [cutV, HT.sIx]
theorem sort_webs {H0 G : Hp} {p : Addr} {ws : List Web} {acc : List V} {Q : VK} (ex : Ex H0 G) (hp : G p = none) (hd : Dts G (ws.map eWeb) acc) (hl : Loose H0 G acc) (hlen : acc.length ≤ 5000)
    (k : ∀ p ys H', Ex H0 H' → H0 p = none → H' p = some (.lst ys) → ys.length ≤ 5000 → Dts H' (sortW ws) ys → LooseP p 1000 H0 H' ys → Q (.ref p) H') : rSortD [.ref p] (upd G p (.lst acc)) Q := by
  have e1 := Ex.new (o := .lst acc) hp
  refine ⟨p, acc, _, rfl, upd_same, hd.mono e1, allAlike_map alike_web ws, .inl fun d h => ?_, fun d h => ?_, fun q ys hq pm dd => ?_⟩
  · obtain ⟨w, _, rfl⟩ := List.mem_map.mp h
    exact ⟨_, _, rfl⟩
  · obtain ⟨w, _, rfl⟩ := List.mem_map.mp h
    have := dep_web w
    omega
  · have e2 := Ex.new (o := .lst ys) hq
    have lm := hl.mono (e1.trans e2)
    refine k q ys _ (ex.trans (e1.trans e2)) (Evl.fresh_back (ex.trans e1) hq) upd_same (by rw [pm.length_eq]; exact hlen) (dd.mono e2) fun y hy => ?_
    obtain ⟨r, a, b, c, d, xa, xb, xc, xd, rfl, hr, ⟨a1, a2, a3⟩, ⟨b1, b2, b3⟩, ⟨c1, c2, c3⟩, ⟨d1, d2, d3⟩⟩ := hl y (pm.mem_iff.mp hy)
    have n1 : ∀ {b : Addr} {xs : List V}, G b = some (.lst xs) → b ≠ q := fun h => new_ne (e1 _ _ h) hq
    have e12 := e1.trans e2
    exact ⟨r, a, b, c, d, xa, xb, xc, xd, rfl, e12 _ _ hr, ⟨a1, n1 a2, e12 _ _ a2, a3⟩, ⟨b1, n1 b2, e12 _ _ b2, b3⟩, ⟨c1, n1 c2, e12 _ _ c2, c3⟩, ⟨d1, n1 d2, e12 _ _ d2, d3⟩⟩
/-- a web of four new lists is made -/
theorem loose_web {H G : Hp} {a b c d q : Addr} {xa xb xc xd : List V} (a1 : H a = none) (a2 : G a = some (.lst xa)) (a3 : xa.length ≤ 1000) (b1 : H b = none) (b2 : G b = some (.lst xb)) (b3 : xb.length ≤ 1000)
    (c1 : H c = none) (c2 : G c = some (.lst xc)) (c3 : xc.length ≤ 1000) (d1 : H d = none) (d2 : G d = some (.lst xd)) (d3 : xd.length ≤ 1000) (hq : G q = some (.tup [.ref a, .ref b, .ref c, .ref d])) : Loose H G [.ref q] := fun y hy => by
  have ey : y = .ref q := by simpa using hy
  exact ⟨q, a, b, c, d, xa, xb, xc, xd, ey, hq, ⟨a1, a2, a3⟩, ⟨b1, b2, b3⟩, ⟨c1, c2, c3⟩, ⟨d1, d2, d3⟩⟩
theorem Loose.append {H G : Hp} {xs ys : List V} (h : Loose H G xs) (h' : Loose H G ys) : Loose H G (xs ++ ys) := fun x hx => (List.mem_append.mp hx).elim (h x) (h' x)
section
variable {P : Program} {w : World} {K : PySem.W.Frag} {mg : Str → Option Value} {base : Heap}
/-! ### all_choices -/
def p_all_choices : Sp3 := fun vs H Q => ∃ (pv ov : V) (ps : List Part) (os : List Int), vs = [pv, ov] ∧ Dt H (eParts ps) pv ∧ Dt H (eInts os) ov ∧ ps.length ≤ 4 ∧ os.length ≤ 4 ∧ (os.length + 1) ^ (pairsM ps.length).length ≤ 5000 ∧
  ∀ p ys H', Ex H H' → H p = none → H' p = some (.lst ys) → ys.length ≤ 5000 → Dts H' (sortW ((choicesM os (pairsM ps.length)).map fun r => ⟨ps, r, [], []⟩)) ys → LooseP p 1000 H H' ys → Q (.ref p) H'
theorem dk_all_choices {f : Addr} {fd : FuncData} (F : Fun K "all_choices" "all_choices" sall_choices f fd) (hm : mg "all_choices" = some (.ref f)) (T : Txt mg)
    (d_want_at_most : Df P w K mg base 1 "want_at_most" ["what", "limit", "number"] p_want) (d_pairs_of : Df P w K mg base 1 "pairs_of" ["many"] p_pairs_of) (d_times_itself : Df P w K mg base 1 "times_itself" ["number", "many"] p_times) :
    Dk P w K mg base 2 "all_choices" ["parts", "orders"] p_all_choices sall_choices := by
  refine Dk.body F hm biall_choices scall_choices (fun vs H Q h => ?_) (fun cdv A outer s H vs Q hr h => ?_)
  · obtain ⟨pv, ov, ps, os, rfl, _⟩ := h; rfl
  · obtain ⟨pv, ov, ps, os, rfl, dp, dO, h1, h2, h3, k⟩ := h
    obtain ⟨t1, m_MOST_PLAIN⟩ := T.c_MOST_PLAIN
    obtain ⟨t2, m_MOST_CHOICES⟩ := T.c_MOST_CHOICES
    obtain ⟨pa, pxs, rfl, hpa, hpx⟩ := dp
    obtain ⟨oa, rfl, hoa⟩ := ints_at dO
    have lp : pxs.length = ps.length := by rw [hpx.length, List.length_map]
    have lpm := pairsM_len ps.length
    refine ⟨_, (pss_cons (ps_expr (pe_c3 d_want_at_most (hr.less (by decide)) rfl (pa_cons pe_str (pa_cons (pe_glob (v := .int 4) rfl m_MOST_PLAIN ⟨_, rfl⟩) (pa_cons (pe_callB (lenS K) (by rfl) T.n_len bt_len (pa_cons (pv 0) pa_nil)) pa_nil)))))
 (pss_cons (ps_set (i := 2) scall_choices.nd rfl (Or.inl rfl) (pe_c3 d_pairs_of (hr.less (by decide)) rfl (pa_cons (pe_callB (lenS K) (by rfl) T.n_len bt_len (pa_cons (pv 0) pa_nil)) pa_nil)))
 (pss_cons (ps_expr (pe_c3 d_want_at_most (hr.less (by decide)) rfl (pa_cons pe_str (pa_cons (pe_glob (v := .int 5000) rfl m_MOST_CHOICES ⟨_, rfl⟩) (pa_cons (pe_c3 d_times_itself (hr.less (by decide)) rfl (pa_cons (pe_op op_add (pe_callB (lenS K) (by rfl) T.n_len bt_len (pa_cons (pv 1) pa_nil)) pe_int) (pa_cons (pe_callB (lenS K) (by rfl) T.n_len bt_len (pa_cons (pv 2) pa_nil)) pa_nil))) pa_nil)))))
 (pss_cons (ps_set (i := 3) scall_choices.nd rfl (Or.inl rfl) (pe_lst (pa_cons (pe_lst pa_nil) pa_nil)))
 (pss_cons (ps_for PassesOwn.never rfl (piL K (pv 2)) (pgT K 2 (pgs_cons (pg_name (i := 4) scall_choices.nd rfl (Or.inr rfl)) (pgs_cons (pg_name (i := 5) scall_choices.nd rfl (Or.inr rfl)) pgs_nil))) (pss_one (ps_set (i := 3) scall_choices.nd rfl (Or.inl rfl) (pe_op op_cat (pv 3) (pe_lc2 (own := [("row", 6), ("order", 7)]) (vs1 := [7]) rfl scall_choices.nd (piL K (pv 3)) (blkOk_by (N := Nall_choices) (sc := defScope sall_choices) (by decide +kernel)) (by decide) (fun _ _ _ _ _ => (pg_name (i := 6) scall_choices.nd rfl (Or.inl rfl))) (fun _ _ _ _ _ => pts_nil) (fun _ _ _ _ _ => (piL K (pv 1))) (fun _ _ _ _ _ => (pg_name (i := 7) scall_choices.nd rfl (Or.inl rfl))) (fun _ _ _ _ _ => pts_nil) (fun _ _ _ _ _ => (pe_fr (pe_op op_cat (pv 6) (pe_lst (pa_cons (pe_tup (pa_cons (pv 4) (pa_cons (pv 5) (pa_cons (pv 7) pa_nil)))) pa_nil))))))))))
 (pss_one (ps_ret (pe_callB (cr_sortD hr.u64) (by rfl) T.n_sorted bt_sorted (pa_cons (pe_lc (own := [("row", 6)]) rfl scall_choices.nd (piL K (pv 3)) (blkOk_by (N := Nall_choices) (sc := defScope sall_choices) (by decide +kernel)) (fun _ _ _ _ _ => (pg_name (i := 6) scall_choices.nd rfl (Or.inl rfl))) (fun _ _ _ _ _ => pts_nil) (fun _ _ _ _ _ => (pe_fr (pe_tup (pa_cons (pe_slice (slL K) (pv 0) po_none po_none) (pa_cons (pv 6) (pa_cons (pe_lst pa_nil) (pa_cons (pe_lst pa_nil) pa_nil)))))))) pa_nil))))))))), ?_⟩
    -- want_at_most, pairs
    refine ⟨_, rfl, pa, pxs, rfl, .inl (SqL.of hpa), _, _, _, rfl, by omega, fun H1 e1 => ?_⟩
    refine ⟨_, rfl, pa, pxs, rfl, .inl (SqL.of (e1 _ _ hpa)), ps.length, by rw [lp], by omega, fun pv2 H2 e2 d2 => ?_⟩
    obtain ⟨pp, ppx, rfl, hpp, hppx⟩ := d2
    have x2 := e1.trans e2
    have lpp : ppx.length = (pairsM ps.length).length := by rw [hppx.length, List.length_map]
    have lpb : (pairsM ps.length).length ≤ 6 := by
      have : ps.length * (ps.length - 1) ≤ 4 * 3 := Nat.mul_le_mul h1 (by omega)
      omega
    refine ⟨_, rfl, oa, _, rfl, .inl (SqL.of (x2 _ _ hoa)), _, _, rfl, rfl, _, rfl, pp, ppx, rfl, .inl (SqL.of hpp), (os.length : Int) + 1, (pairsM ps.length).length, by rw [List.length_map, lpp], by omega, by omega, by omega, fun H3 e3 => ?_⟩
    have z3 : ((os.length : Int) + 1) ^ (pairsM ps.length).length ≤ 5000 := by
      have : (((os.length + 1) ^ (pairsM ps.length).length : Nat) : Int) ≤ 5000 := by exact_mod_cast h3
      simpa using this
    refine ⟨_, _, _, rfl, z3, fun H4 e4 => ?_⟩
    have x4 := (x2.trans e3).trans e4
    -- rows = [[]]
    refine ⟨Nat.zero_le _, fun ap ha => ⟨sz1, fun rp0 hrp0 => ?_⟩⟩
    have x5 := x4.trans (Ex.new (o := .lst []) ha)
    have x6 := x5.trans (Ex.new (o := .lst [.ref ap]) hrp0)
    have nar : ap ≠ rp0 := new_ne upd_same hrp0
    -- for a, b in pairs
    refine ⟨_, rfl, pp, rfl, ⟨ppx, SqL.of (Ex.new hrp0 _ _ (Ex.new ha _ _ (e4 _ _ (e3 _ _ hpp))))⟩, ?_⟩
    have hpp6 := Ex.new (o := .lst [.ref ap]) hrp0 _ _ (Ex.new (o := .lst []) ha _ _ (e4 _ _ (e3 _ _ hpp)))
    have hppx6 := hppx.mono (((e3.trans e4).trans (Ex.new (o := .lst []) ha)).trans (Ex.new (o := .lst [.ref ap]) hrp0))
    have hr0 : upd (upd H4 ap (.lst [])) rp0 (.lst [.ref ap]) rp0 = some (.lst [.ref ap]) := upd_same
    have hd0 : Dts (upd (upd H4 ap (.lst [])) rp0 (.lst [.ref ap])) ((choicesM os ((pairsM ps.length).take 0)).map eTies) [.ref ap] := Dts.mk1 ⟨ap, [], rfl, by rw [upd_ne nar]; exact upd_same, rfl⟩
    generalize upd (upd H4 ap (.lst [])) rp0 (.lst [.ref ap]) = H6 at x6 hpp6 hppx6 hr0 hd0 ⊢
    have lc : ∀ i, (choicesM os ((pairsM ps.length).take i)).length ≤ 5000 := fun i => by
      rw [choices_len, List.length_take]
      exact Nat.le_trans (Nat.pow_le_pow_right (by omega) (by omega)) h3
    have lr : ∀ i, ∀ r ∈ choicesM os ((pairsM ps.length).take i), r.length ≤ 1000 := fun i r hr => by
      have := (choices_fin (B := fun _ => True) (fun _ _ _ _ => trivial) r hr).2
      rw [List.length_take] at this
      omega
    refine for_list (K := K) (a := pp) (xs := ppx) (fun i σ H' => ∃ rq rxs va vb, σ = [some (.ref pa), some (.ref oa), some (.ref pp), some (.ref rq), va, vb, none, none] ∧ Ex H H' ∧ Ex H6 H' ∧ H' rq = some (.lst rxs) ∧
      Dts H' ((choicesM os ((pairsM ps.length).take i)).map eTies) rxs ∧ New H rxs)
      ⟨rp0, [.ref ap], none, none, rfl, x6, Ex.refl _, hr0, hd0, fun x hx => ⟨ap, by simpa using hx, Evl.fresh_back x4 ha⟩⟩ (fun i σ H' _ ⟨_, _, _, _, _, _, e6, _⟩ => SqL.of (e6 _ _ hpp6)) ?_ ?_
    · rintro i x σ H' hi ⟨rq, rxs, va, vb, rfl, e1', e6, hrq, hrd, hn⟩
      obtain ⟨pr, hpr, hx⟩ := item' (hppx6.mono e6) hi
      obtain ⟨q, rfl, hq⟩ := hand_at hx
      refine ⟨q, _, rfl, SqT.of hq, rfl, _, _, rfl, _, _, rfl, rfl, ?_⟩
      refine ⟨_, rfl, ?_⟩
      refine grow_lc (x := pr.1) (y := pr.2) (os := os) e1' rfl hrq hrd (e1' _ _ hoa) (lc i) h2 (lr i) (fun _ => rfl) (fun _ _ => rfl) (fun _ => rfl) (fun _ _ => rfl) (fun _ _ => rfl) (fun _ _ => rfl) (fun _ _ => rfl) ?_
      intro D acc G eG hD dd nn
      have e7 := eG.trans (Ex.new (o := .lst acc) hD)
      have ep : choicesM os ((pairsM ps.length).take (i + 1)) = choicesM os ((pairsM ps.length).take i) ++ (choicesM os ((pairsM ps.length).take i)).flatMap (rowOf pr.1 pr.2 os) := by
        rw [List.take_add_one, hpr, choicesM, List.foldl_append]; rfl
      have ll := lc (i + 1)
      rw [ep, List.length_append] at ll
      have big : (5000 : Nat) < sizeLine := by decide
      refine ⟨rq, D, rxs, acc, rfl, rfl, e7 _ _ hrq, upd_same, by rw [hrd.length, dd.length, List.length_map, List.length_map]; omega, fun p hp => ?_⟩
      have e8 := e7.trans (Ex.new (o := .lst (rxs ++ acc)) hp)
      refine ⟨p, rxs ++ acc, _, _, rfl, e1'.trans e8, e6.trans e8, upd_same, ?_, hn.append nn⟩
      rw [ep, List.map_append]
      exact Dts.append (dd.mono ((Ex.new hD).trans (Ex.new hp))) (hrd.mono e8)
    · rintro σ H' ⟨rq, rxs, va, vb, rfl, e1', e6, hrq, hrd, hn⟩
      rw [lpp, List.take_length] at hrd
      have ll := lc (pairsM ps.length).length
      have lr' := lr (pairsM ps.length).length
      rw [List.take_length] at ll lr'
      have lrx : rxs.length = (choicesM os (pairsM ps.length)).length := by rw [hrd.length, List.length_map]
      dsimp only
      refine go_ret (go_cb1 ?_)
      refine lcN H' (fun i acc G => Ex H' G ∧ Dts G (((choicesM os (pairsM ps.length)).take i).map fun r => eWeb ⟨ps, r, [], []⟩) acc ∧ Loose H G acc)
        (fun R q => ⟨_, rfl, rq, rfl, ⟨_, SqL.of hrq⟩, q⟩) hrq (by omega) ⟨Ex.refl _, rfl, fun y hy => by simp at hy⟩ ?_ (fun _ => rfl) ?_ ?_
      · rintro i acc G ⟨_, hd, _⟩
        rw [hd.length, List.length_map, List.length_take]; omega
      · rintro i x acc G hi eG ⟨_, hd, hl⟩
        obtain ⟨r, hri, hx⟩ := item' hrd hi
        obtain ⟨q, e, hqn⟩ := hn x (List.mem_of_getElem? hi)
        subst e
        obtain ⟨rx, hq, hqd⟩ := Dt.list_at hx
        have lrr := lr' r (List.mem_of_getElem? hri)
        have eHG := e1'.trans eG
        refine ⟨_, rfl, pa, pxs, rfl, SqL.of (eHG _ _ hpa), fun p1 n1 => ?_⟩
        rw [cutV_all]
        refine ⟨_, rfl, Nat.zero_le _, fun p2 n2 => ⟨Nat.zero_le _, fun p3 n3 => ⟨sz4, fun tp n4 => ?_⟩⟩⟩
        have f1 := Ex.new (o := .lst pxs) n1
        have f2 := Ex.new (o := .lst []) n2
        have f3 := Ex.new (o := .lst []) n3
        have f4 := Ex.new (o := .tup [.ref p1, .ref q, .ref p2, .ref p3]) n4
        have f14 := f1.trans (f2.trans (f3.trans f4))
        have b1 := Evl.fresh_back eHG n1
        have b2 := Evl.fresh_back (eHG.trans f1) n2
        have b3 := Evl.fresh_back ((eHG.trans f1).trans f2) n3
        have hq' := (eG.trans f14) _ _ hq
        refine ⟨f14, eG.trans f14, ?_, (hl.mono f14).append (loose_web b1 ((f2.trans (f3.trans f4)) _ _ upd_same) (by omega) hqn hq' (by rw [hqd.length, List.length_map]; omega) b2 ((f3.trans f4) _ _ upd_same) (Nat.zero_le _) b3 (f4 _ _ upd_same) (Nat.zero_le _) upd_same)⟩
        rw [List.take_add_one, hri, List.map_append]
        refine Dts.snoc ?_ (hd.mono f14)
        exact web_mk upd_same ⟨p1, pxs, rfl, (f2.trans (f3.trans f4)) _ _ upd_same, hpx.mono (eHG.trans f14)⟩ ⟨q, rx, rfl, hq', hqd.mono (eG.trans f14)⟩ ⟨p2, [], rfl, (f3.trans f4) _ _ upd_same, rfl⟩ ⟨p3, [], rfl, f4 _ _ upd_same, rfl⟩
      · rintro acc G p eG hp ⟨_, hd, hl⟩
        rw [lrx, List.take_length] at hd
        refine sort_webs (ws := (choicesM os (pairsM ps.length)).map fun r => ⟨ps, r, [], []⟩) (e1'.trans eG) hp (by rw [List.map_map]; exact hd) hl (by rw [hd.length, List.length_map]; omega) k
end
end W3

end
section
set_option Elab.async false
set_option linter.all false
set_option maxRecDepth 100000
set_option maxHeartbeats 4000000
namespace W3
open PySem PySem.Spec PyProof.Rows L2 M83
open Evl (Ex)
def growPairs (n : Nat) : List (Int × Int) := (List.range n).map fun (i : Nat) => ((i : Int), (n : Int))
open PySem.W in
def sortT (ts : List Tie) : List Tie := ts.mergeSort fun a b => dataLe false id (eTie a) (eTie b)
open PySem.W in
theorem sortT_data (ts : List Tie) : (ts.map eTie).mergeSort (dataLe false id) = (sortT ts).map eTie :=
  (sort_maps (r := fun a b => dataLe false id (eTie a) (eTie b)) (s := dataLe false (id : PyData → PyData)) eTie (l := ts) fun _ _ _ _ => rfl).symm
theorem dt_list {H : Hp} {a : Addr} {xs : List V} {ds : List PyData} (h : H a = some (.lst xs)) (hx : Dts H ds xs) : Dt H (.list ds) (.ref a) := ⟨a, xs, rfl, h, hx⟩
theorem dt_nil {H : Hp} {a : Addr} (h : H a = some (.lst [])) : Dt H (.list []) (.ref a) := ⟨a, [], rfl, h, rfl⟩
/-! ### sorted parts, compared -/
theorem dtab_tup {K : PySem.W.Frag} {H : Hp} {xs : List V} {p : Addr} (h : H p = some (.tup xs)) : SqT K H p xs := SqT.of h
theorem sort_any {α : Type} {enc : α → PyData} (hal : ∀ a b, PySem.W.alike (enc a) (enc b) = true) (hdep : ∀ a, (enc a).depth ≤ 1) (ht : ∀ a, ∃ x r, enc a = .tuple (x :: r)) {H : Hp} {as : List α} {v : V} {Q : VK} (hd : Dt H (.list (as.map enc)) v)
    (k : ∀ p ys H', Ex H H' → H p = none → H' p = some (.lst ys) → ys.length = as.length → Dts H' ((as.map enc).mergeSort (PySem.W.dataLe false id)) ys → Q (.ref p) H') : rSortD [v] H Q := by
  obtain ⟨a, xs, rfl, ha, hx⟩ := hd
  refine ⟨a, xs, _, rfl, ha, hx, allAlike_map hal as, .inl fun d h => ?_, fun d h => ?_, fun q ys hq pm dd => ?_⟩
  · obtain ⟨w, _, rfl⟩ := List.mem_map.mp h
    exact ht w
  · obtain ⟨w, _, rfl⟩ := List.mem_map.mp h
    have := hdep w
    omega
  · exact k q ys _ (Ex.new hq) hq upd_same (by rw [pm.length_eq, hx.length, List.length_map]) (dd.mono (Ex.new hq))
theorem part_inj : ∀ p q : Part, ePart p = ePart q → p = q := fun p q h => by
  obtain ⟨a, b⟩ := p
  obtain ⟨c, d⟩ := q
  simp [ePart] at h
  rw [h.1, h.2]
theorem Lfs.all : ∀ {ds : List PyData}, Lfs ds ↔ ∀ d ∈ ds, Lf d
  | [] => ⟨fun _ d h => by simp at h, fun _ => trivial⟩
  | d :: ds => ⟨fun h e he => by
      rcases List.mem_cons.mp he with rfl | he
      · exact h.1
      · exact Lfs.all.mp h.2 e he, fun h => ⟨h d (by simp), Lfs.all.mpr fun e he => h e (by simp [he])⟩⟩
theorem Lfs.sort {ds : List PyData} (h : Lfs ds) : Lfs (ds.mergeSort (PySem.W.dataLe false id)) := Lfs.all.mpr fun d hd => Lfs.all.mp h d (sort_in hd)
theorem perm_map_inj {α β : Type} {f : α → β} (hf : ∀ a b, f a = f b → a = b) : ∀ {as bs : List α}, (as.map f).Perm (bs.map f) → as.Perm bs
  | [], bs, h => by
    have := h.length_eq
    simp at this
    have e : bs = [] := List.length_eq_zero_iff.mp this.symm
    rw [e]
  | a :: as, bs, h => by
    have hm : f a ∈ bs.map f := h.mem_iff.mp (by simp)
    obtain ⟨b, hb, e⟩ := List.mem_map.mp hm
    have e2 := hf _ _ e
    subst e2
    obtain ⟨l, r, rfl⟩ := List.append_of_mem hb
    have h2 : (f b :: as.map f).Perm (f b :: (l ++ r).map f) := by
      refine List.Perm.trans h ?_
      rw [List.map_append, List.map_append, List.map_cons]
      exact List.perm_middle
    exact ((perm_map_inj hf h2.cons_inv).cons b).trans List.perm_middle.symm
open Classical in
theorem eqv_parts {ps qs : List Part} (h1 : Lf (eParts ps)) : PyData.eqv (.list ((ps.map ePart).mergeSort (PySem.W.dataLe false id))) (.list ((qs.map ePart).mergeSort (PySem.W.dataLe false id))) = decide (ps.Perm qs) := by
  rw [Bool.eq_iff_iff, decide_eq_true_iff]
  constructor
  · intro h
    have := eqv_eq _ _ (by
      show PySem.W.alikeAll _ _ = true
      have e : ∀ rs : List Part, (rs.map ePart).mergeSort (PySem.W.dataLe false id) = (rs.mergeSort (fun a b => PySem.W.dataLe false id (ePart a) (ePart b))).map ePart := fun rs =>
        (PySem.W.sort_maps (r := fun a b => PySem.W.dataLe false id (ePart a) (ePart b)) (s := PySem.W.dataLe false (id : PyData → PyData)) ePart (l := rs) fun _ _ _ _ => rfl).symm
      rw [e, e]
      exact alikeAll_map alike_part _ _) h
    have e2 : (ps.map ePart).mergeSort (PySem.W.dataLe false id) = (qs.map ePart).mergeSort (PySem.W.dataLe false id) := by simpa using this
    exact perm_map_inj part_inj (perm_sort e2)
  · intro h
    rw [sort_perm (allAlike_map alike_part ps) (h.map ePart)]
    refine eqv_self _ (Lfs.sort ?_)
    exact Lfs.all.mpr fun d hd => Lfs.all.mp h1 d ((h.map ePart).symm.mem_iff.mp hd)
theorem part_tup (p : Part) : ∃ x r, ePart p = .tuple (x :: r) := ⟨_, _, rfl⟩
theorem in_ints (z : Int) (os : List Int) : inV (.int z) (os.map V.int) = decide (z ∈ os) := by
  rw [Bool.eq_iff_iff, decide_eq_true_iff, inV, List.any_eq_true]
  constructor
  · rintro ⟨x, hx, e⟩
    obtain ⟨y, hy, rfl⟩ := List.mem_map.mp hx
    have : y = z := by simpa [eqV] using e
    rw [← this]; exact hy
  · intro h
    exact ⟨.int z, List.mem_map_of_mem h, by simp [eqV]⟩
theorem flat_ints (os : List Int) : (os.map V.int).all flatV = true := by
  rw [List.all_eq_true]
  intro x hx
  obtain ⟨y, _, rfl⟩ := List.mem_map.mp hx
  rfl
section
variable {P : Program} {w : World} {K : PySem.W.Frag} {mg : Str → Option Value} {base : Heap}
/-! ### grown -/
def p_grown : Sp3 := fun vs H Q => ∃ (wv pw ov : V) (wb : Web) (part : Part) (os : List Int), vs = [wv, pw, ov] ∧ Dt H (eWeb wb) wv ∧ Dt H (ePart part) pw ∧ Dt H (eInts os) ov ∧ wb.parts.length ≤ 4 ∧ wb.ties.length ≤ 100 ∧ os.length ≤ 4 ∧
  (os.length + 1) ^ wb.parts.length ≤ 5000 ∧
  ∀ p ys H', Ex H H' → H p = none → H' p = some (.lst ys) → ys.length ≤ 5000 → Dts H' (sortW ((choicesM os (growPairs wb.parts.length)).map fun r => ⟨wb.parts ++ [part], sortT (wb.ties ++ r), [], []⟩)) ys → LooseP p 1000 H H' ys → Q (.ref p) H'
theorem dk_grown {f : Addr} {fd : FuncData} (F : Fun K "grown" "grown" sgrown f fd) (hm : mg "grown" = some (.ref f)) (T : Txt mg) : Dk P w K mg base 1 "grown" ["web", "part", "orders"] p_grown sgrown := by
  refine Dk.body F hm bigrown scgrown (fun vs H Q h => ?_) (fun cdv A outer s H vs Q hr h => ?_)
  · obtain ⟨wv, pw, ov, wb, part, os, rfl, _⟩ := h; rfl
  · obtain ⟨wv, pw, ov, wb, part, os, rfl, dw, dp, dO, h1, ht, h2, h3, k⟩ := h
    obtain ⟨wp, pa, ta, ha, sa, rfl, hwp, d1, d2, d3, d4⟩ := web_at dw
    obtain ⟨pxs, hpa, hpx⟩ := Dt.list_at d1
    obtain ⟨txs, hta, htx⟩ := Dt.list_at d2
    obtain ⟨oa, rfl, hoa⟩ := ints_at dO
    have lp : pxs.length = wb.parts.length := by rw [hpx.length, List.length_map]
    have lt : txs.length = wb.ties.length := by rw [htx.length, List.length_map]
    have lg : (growPairs wb.parts.length).length = wb.parts.length := by simp [growPairs]
    refine ⟨_, (pss_cons (ps_set (i := 3) scgrown.nd rfl (Or.inr rfl) (pe_callB (lenS K) (by rfl) T.n_len bt_len (pa_cons (pe_ix (ixT K) (pv 0) pe_int (fun _ _ => rfl)) pa_nil)))
 (pss_cons (ps_set (i := 4) scgrown.nd rfl (Or.inl rfl) (pe_lst (pa_cons (pe_lst pa_nil) pa_nil)))
 (pss_cons (ps_for PassesOwn.never rfl (pi_range1 rfl T.range (pa_cons (pv 3) pa_nil)) (pg_name (i := 5) scgrown.nd rfl (Or.inr rfl)) (pss_one (ps_set (i := 4) scgrown.nd rfl (Or.inl rfl) (pe_op op_cat (pv 4) (pe_lc2 (own := [("row", 6), ("order", 7)]) (vs1 := [7]) rfl scgrown.nd (piL K (pv 4)) (blkOk_by (N := Ngrown) (sc := defScope sgrown) (by decide +kernel)) (by decide) (fun _ _ _ _ _ => (pg_name (i := 6) scgrown.nd rfl (Or.inl rfl))) (fun _ _ _ _ _ => pts_nil) (fun _ _ _ _ _ => (piL K (pv 2))) (fun _ _ _ _ _ => (pg_name (i := 7) scgrown.nd rfl (Or.inl rfl))) (fun _ _ _ _ _ => pts_nil) (fun _ _ _ _ _ => (pe_fr (pe_op op_cat (pv 6) (pe_lst (pa_cons (pe_tup (pa_cons (pv 5) (pa_cons (pv 3) (pa_cons (pv 7) pa_nil)))) pa_nil))))))))))
 (pss_one (ps_ret (pe_callB (cr_sortD hr.u64) (by rfl) T.n_sorted bt_sorted (pa_cons (pe_lc (own := [("row", 6)]) rfl scgrown.nd (piL K (pv 4)) (blkOk_by (N := Ngrown) (sc := defScope sgrown) (by decide +kernel)) (fun _ _ _ _ _ => (pg_name (i := 6) scgrown.nd rfl (Or.inl rfl))) (fun _ _ _ _ _ => pts_nil) (fun _ _ _ _ _ => (pe_fr (pe_tup (pa_cons (pe_op op_cat (pe_ix (ixT K) (pv 0) pe_int (fun _ _ => rfl)) (pe_lst (pa_cons (pv 1) pa_nil))) (pa_cons (pe_callB (cr_sortD hr.u64) (by rfl) T.n_sorted bt_sorted (pa_cons (pe_op op_cat (pe_ix (ixT K) (pv 0) pe_int (fun _ _ => rfl)) (pv 6)) pa_nil)) (pa_cons (pe_lst pa_nil) (pa_cons (pe_lst pa_nil) pa_nil)))))))) pa_nil))))))), ?_⟩
    -- last, rows = [[]]
    refine ⟨_, rfl, wp, _, 0, _, rfl, rfl, SqT.of hwp, rfl, pa, pxs, rfl, .inl (SqL.of hpa), ?_⟩
    rw [lp]
    refine ⟨Nat.zero_le _, fun ap na => ⟨sz1, fun rp0 hrp0 => ?_⟩⟩
    have x5 := Ex.new (o := .lst []) na
    have x6 := x5.trans (Ex.new (o := .lst [.ref ap]) hrp0)
    have nar : ap ≠ rp0 := new_ne upd_same hrp0
    have hr0 : upd (upd H ap (.lst [])) rp0 (.lst [.ref ap]) rp0 = some (.lst [.ref ap]) := upd_same
    have hd0 : Dts (upd (upd H ap (.lst [])) rp0 (.lst [.ref ap])) ((choicesM os ((growPairs wb.parts.length).take 0)).map eTies) [.ref ap] := Dts.mk1 ⟨ap, [], rfl, by rw [upd_ne nar]; exact upd_same, rfl⟩
    generalize upd (upd H ap (.lst [])) rp0 (.lst [.ref ap]) = H6 at x6 hr0 hd0 ⊢
    have lc : ∀ i, (choicesM os ((growPairs wb.parts.length).take i)).length ≤ 5000 := fun i => by
      rw [choices_len, List.length_take]
      exact Nat.le_trans (Nat.pow_le_pow_right (by omega) (by omega)) h3
    have lr : ∀ i, ∀ r ∈ choicesM os ((growPairs wb.parts.length).take i), r.length ≤ 4 := fun i r hr => by
      have := (choices_fin (B := fun _ => True) (fun _ _ _ _ => trivial) r hr).2
      rw [List.length_take] at this
      omega
    refine ⟨_, rfl, _, rfl, by omega, by omega, ?_⟩
    refine for_range (lo := 0) (n := wb.parts.length) (fun i σ H' => ∃ rq rxs va, σ = [some (.ref wp), some pw, some (.ref oa), some (.int wb.parts.length), some (.ref rq), va, none, none] ∧ Ex H H' ∧ H' rq = some (.lst rxs) ∧
      Dts H' ((choicesM os ((growPairs wb.parts.length).take i)).map eTies) rxs ∧ New H rxs)
      ⟨rp0, [.ref ap], none, rfl, x6, hr0, hd0, fun x hx => ⟨ap, by simpa using hx, na⟩⟩ ?_ ?_
    · rintro i σ H' hi ⟨rq, rxs, va, rfl, e1', hrq, hrd, hn⟩
      have hpr : (growPairs wb.parts.length)[i]? = some ((0 : Int) + i, (wb.parts.length : Int)) := by
        rw [growPairs, List.getElem?_map, List.getElem?_range hi]; simp
      refine ⟨_, rfl, ?_⟩
      refine grow_lc (x := (0 : Int) + i) (y := wb.parts.length) (os := os) e1' rfl hrq hrd (e1' _ _ hoa) (lc i) h2 (fun r hr => Nat.le_trans (lr i r hr) (by decide)) (fun _ => rfl) (fun _ _ => rfl) (fun _ => rfl) (fun _ _ => rfl) (fun _ _ => rfl) (fun _ _ => rfl) (fun _ _ => rfl) ?_
      intro D acc G eG hD dd nn
      have e7 := eG.trans (Ex.new (o := .lst acc) hD)
      have ep : choicesM os ((growPairs wb.parts.length).take (i + 1)) = choicesM os ((growPairs wb.parts.length).take i) ++ (choicesM os ((growPairs wb.parts.length).take i)).flatMap (rowOf ((0 : Int) + i) wb.parts.length os) := by
        rw [List.take_add_one, hpr, choicesM, List.foldl_append]; rfl
      have ll := lc (i + 1)
      rw [ep, List.length_append] at ll
      have big : (5000 : Nat) < sizeLine := by decide
      refine ⟨rq, D, rxs, acc, rfl, rfl, e7 _ _ hrq, upd_same, by rw [hrd.length, dd.length, List.length_map, List.length_map]; omega, fun p hp => ?_⟩
      have e8 := e7.trans (Ex.new (o := .lst (rxs ++ acc)) hp)
      refine ⟨p, rxs ++ acc, _, rfl, e1'.trans e8, upd_same, ?_, hn.append nn⟩
      rw [ep, List.map_append]
      exact Dts.append (dd.mono ((Ex.new hD).trans (Ex.new hp))) (hrd.mono e8)
    · rintro σ H' ⟨rq, rxs, va, rfl, e1', hrq, hrd, hn⟩
      have ll := lc wb.parts.length
      have lr' := lr wb.parts.length
      rw [List.take_of_length_le (by omega)] at ll lr' hrd
      have lrx : rxs.length = (choicesM os (growPairs wb.parts.length)).length := by rw [hrd.length, List.length_map]
      dsimp only
      refine go_ret (go_cb1 ?_)
      refine lcN H' (fun i acc G => Ex H' G ∧ Dts G (((choicesM os (growPairs wb.parts.length)).take i).map fun r => eWeb ⟨wb.parts ++ [part], sortT (wb.ties ++ r), [], []⟩) acc ∧ Loose H G acc)
        (fun R q => ⟨_, rfl, rq, rfl, ⟨_, SqL.of hrq⟩, q⟩) hrq (by omega) ⟨Ex.refl _, rfl, fun y hy => by simp at hy⟩ ?_ (fun _ => rfl) ?_ ?_
      · rintro i acc G ⟨_, hd, _⟩
        rw [hd.length, List.length_map, List.length_take]; omega
      · rintro i x acc G hi eG ⟨_, hd, hl⟩
        obtain ⟨r, hri, hx⟩ := item' hrd hi
        obtain ⟨q, e, hqn⟩ := hn x (List.mem_of_getElem? hi)
        subst e
        obtain ⟨rx, hq, hqd⟩ := Dt.list_at hx
        have lrr := lr' r (List.mem_of_getElem? hri)
        have lrx' : rx.length = r.length := by rw [hqd.length, List.length_map]
        have eHG := e1'.trans eG
        have big : (5000 : Nat) < sizeLine := by decide
        refine ⟨_, rfl, wp, _, 0, _, rfl, rfl, SqT.of (eHG _ _ hwp), rfl, _, rfl, sz1, fun bp nb => ⟨pa, bp, pxs, [pw], rfl, rfl, (eHG.trans (Ex.new nb)) _ _ hpa, upd_same, by simp; omega, fun p1 n1 => ?_⟩⟩
        have f0 := Ex.new (o := .lst [pw]) nb
        have f1 := Ex.new (o := .lst (pxs ++ [pw])) n1
        have f01 := f0.trans f1
        refine ⟨_, rfl, wp, _, 1, _, rfl, rfl, SqT.of ((eHG.trans f01) _ _ hwp), rfl, _, rfl, ta, q, txs, rx, rfl, rfl, (eHG.trans f01) _ _ hta, (eG.trans f01) _ _ hq, by omega, fun p2 n2 => ?_⟩
        have f2 := Ex.new (o := .lst (txs ++ rx)) n2
        have f02 := f01.trans f2
        have dtt : Dts (upd (upd (upd G bp (.lst [pw])) p1 (.lst (pxs ++ [pw]))) p2 (.lst (txs ++ rx))) ((wb.ties ++ r).map eTie) (txs ++ rx) := by
          rw [List.map_append]
          exact Dts.append (hqd.mono (eG.trans f02)) (htx.mono (eHG.trans f02))
        refine ⟨p2, _, _, rfl, upd_same, dtt, allAlike_map alike_tie _, .inl fun d h => ?_, fun d h => ?_, fun p3 ys n3 pm dd => ?_⟩
        · obtain ⟨t, _, rfl⟩ := List.mem_map.mp h
          exact ⟨_, _, rfl⟩
        · obtain ⟨t, _, rfl⟩ := List.mem_map.mp h
          have := dep_tie t
          omega
        rw [sortT_data] at dd
        have f3 := Ex.new (o := .lst ys) n3
        refine ⟨Nat.zero_le _, fun p4 n4 => ⟨Nat.zero_le _, fun p5 n5 => ⟨sz4, fun tp n6 => ?_⟩⟩⟩
        have f4 := Ex.new (o := .lst []) n4
        have f5 := Ex.new (o := .lst []) n5
        have f6 := Ex.new (o := .tup [.ref p1, .ref p3, .ref p4, .ref p5]) n6
        have f36 := f3.trans (f4.trans (f5.trans f6))
        have f06 := f02.trans f36
        have b1 := Evl.fresh_back (eHG.trans f0) n1
        have b3 := Evl.fresh_back (eHG.trans f02) n3
        have b4 := Evl.fresh_back ((eHG.trans f02).trans f3) n4
        have b5 := Evl.fresh_back (((eHG.trans f02).trans f3).trans f4) n5
        have g1 := (f2.trans f36) _ _ (upd_same (H := upd G bp (.lst [pw])) (a := p1) (o := .lst (pxs ++ [pw])))
        have g3 := (f4.trans (f5.trans f6)) _ _ (upd_same (o := .lst ys) (a := p3))
        have lys := pm.length_eq
        rw [List.length_append] at lys
        refine ⟨f06, eG.trans f06, ?_, (hl.mono f06).append (loose_web b1 g1 (by simp; omega) b3 g3 (by omega) b4 ((f5.trans f6) _ _ upd_same) (Nat.zero_le _) b5 (f6 _ _ upd_same) (Nat.zero_le _) upd_same)⟩
        rw [List.take_add_one, hri, List.map_append]
        refine Dts.snoc ?_ (hd.mono f06)
        refine web_mk upd_same ⟨p1, _, rfl, g1, ?_⟩ ⟨p3, ys, rfl, g3, dd.mono f36⟩ ⟨p4, [], rfl, (f5.trans f6) _ _ upd_same, rfl⟩ ⟨p5, [], rfl, f6 _ _ upd_same, rfl⟩
        rw [List.map_append]
        exact Dts.snoc (dp.mono (eHG.trans f06)) (hpx.mono (eHG.trans f06))
      · rintro acc G p eG hp ⟨_, hd, hl⟩
        rw [lrx, List.take_length] at hd
        refine sort_webs (ws := (choicesM os (growPairs wb.parts.length)).map fun r => ⟨wb.parts ++ [part], sortT (wb.ties ++ r), [], []⟩) (e1'.trans eG) hp (by rw [List.map_map]; exact hd) hl (by rw [hd.length, List.length_map]; omega) k
/-! ### is_of_family -/
open Classical in
def OfFam (ps : List Part) (os : List Int) (isw : Bool) (wb : Web) : Prop := ps.Perm wb.parts ∧ wb.hands = [] ∧ wb.sides = [] ∧ (∀ t ∈ wb.ties, t.2.2 ∈ os) ∧ (isw = true → Whole wb.parts.length wb.ties)
structure Small (wb : Web) : Prop where
  n1 : wb.parts.length ≤ 100
  n2 : wb.ties.length ≤ 1000
  n3 : wb.hands.length ≤ 1000
  n4 : wb.sides.length ≤ 1000
  lf : Lf (eWeb wb)
open Classical in
def p_of : Sp3 := fun vs H Q => ∃ (qv ov wv : V) (ps : List Part) (os : List Int) (isw : Bool) (wb : Web), vs = [qv, ov, .bl isw, wv] ∧ Dt H (eParts ps) qv ∧ Dt H (eInts os) ov ∧ Dt H (eWeb wb) wv ∧ ps.length ≤ 100 ∧ os.length ≤ 100 ∧ Lf (eParts ps) ∧ Small wb ∧
  TiesOk wb.parts.length wb.ties ∧ ∀ H', Ex H H' → Q (.bl (decide (OfFam ps os isw wb))) H'
open Classical in
theorem dk_is_of_family {f : Addr} {fd : FuncData} (F : Fun K "is_of_family" "is_of_family" sis_of_family f fd) (hm : mg "is_of_family" = some (.ref f)) (T : Txt mg) (d_is_whole_web : Df P w K mg base 4 "is_whole_web" ["web"] p_is_whole) : Dk P w K mg base 5 "is_of_family" ["parts", "orders", "is_whole", "web"] p_of sis_of_family := by
  refine Dk.body F hm biis_of_family scis_of_family (fun vs H Q h => ?_) (fun cdv A outer s H vs Q hr h => ?_)
  · obtain ⟨qv, ov, wv, ps, os, isw, wb, rfl, _⟩ := h; rfl
  · obtain ⟨qv, ov, wv, ps, os, isw, wb, rfl, dp, dO, dw, h1, h2, lps, sw, tok, k⟩ := h
    obtain ⟨wp, pa, ta, ha, sa, rfl, hwp, d1, d2, d3, d4⟩ := web_at dw
    refine ⟨_, (pss_cons (ps_if (PW.pt (pw_or (pt_cmpR (opNeD K hr.u64) (pe_callB (cr_sortD hr.u64) (by rfl) T.n_sorted bt_sorted (pa_cons (pe_ix (ixT K) (pv 3) pe_int (fun _ _ => rfl)) pa_nil)) (pe_callB (cr_sortD hr.u64) (by rfl) T.n_sorted bt_sorted (pa_cons (pv 0) pa_nil)) (nomark _)) (pw_or (pt_cmpR (opNeD K hr.u64) (pe_ix (ixT K) (pv 3) pe_int (fun _ _ => rfl)) (pe_lst pa_nil) (nomark _)) (pw_or1 (pt_cmpR (opNeD K hr.u64) (pe_ix (ixT K) (pv 3) pe_int (fun _ _ => rfl)) (pe_lst pa_nil) (nomark _)))))) (pss_one (ps_ret pe_bl)) pss_nil)
 (pss_cons (ps_if (pt_not (pt_val (pe_callB (crAll K) (by rfl) T.n_all bt_all (pa_cons (pe_lc (own := [("a", 4), ("b", 5), ("order", 6)]) rfl scis_of_family.nd (piL K (pe_ix (ixT K) (pv 3) pe_int (fun _ _ => rfl))) (blkOk_by (N := Nis_of_family) (sc := defScope sis_of_family) (by decide +kernel)) (fun _ _ _ _ _ => (pgT K 3 (pgs_cons (pg_name (i := 4) scis_of_family.nd rfl (Or.inl rfl)) (pgs_cons (pg_name (i := 5) scis_of_family.nd rfl (Or.inl rfl)) (pgs_cons (pg_name (i := 6) scis_of_family.nd rfl (Or.inl rfl)) pgs_nil))))) (fun _ _ _ _ _ => pts_nil) (fun _ _ _ _ _ => (pe_fr (pe_cmpR (opIn K) (pv 6) (pv 1) (by with_unfolding_all rfl))))) pa_nil)))) (pss_one (ps_ret pe_bl)) pss_nil)
 (pss_one (ps_ret (pe_or (pe_not (pv 2)) (pe_one (pe_c3 d_is_whole_web (hr.less (by decide)) rfl (pa_cons (pv 3) pa_nil)))))))), ?_⟩
    have lf := sw.lf
    have lA : Lf (.list ((wb.parts.map ePart).mergeSort (PySem.W.dataLe false id))) := Lfs.sort lf.1
    have lB : Lf (.list ((ps.map ePart).mergeSort (PySem.W.dataLe false id))) := Lfs.sort lps
    have dP : ∀ qs : List Part, (PyData.list ((qs.map ePart).mergeSort (PySem.W.dataLe false id))).depth ≤ 32 := fun qs => by
      show PyData.depthAll _ + 1 ≤ 32
      have := depthAll_map (enc := id) (k := 1) (as := (qs.map ePart).mergeSort (PySem.W.dataLe false id)) fun d hd => by
        obtain ⟨p, _, rfl⟩ := List.mem_map.mp (sort_in hd)
        exact dep_part p
      rw [List.map_id] at this
      omega
    -- sorted(web[0]) != sorted(parts)
    refine ⟨_, rfl, wp, _, 0, _, rfl, rfl, SqT.of hwp, rfl, ?_⟩
    dsimp only [tNil]
    refine sort_any alike_part dep_part part_tup d1 fun p1 ys1 H1 e1 n1 hp1 l1 dd1 => ?_
    refine ⟨_, rfl, ?_⟩
    dsimp only [tNil]
    refine sort_any alike_part dep_part part_tup (dp.mono e1) fun p2 ys2 H2 e2 n2 hp2 l2 dd2 => ?_
    have e12 := e1.trans e2
    refine ⟨_, _, Dt.dp (dt_list (e2 _ _ hp1) (dd1.mono e2)), Dt.dp (dt_list hp2 dd2), shaped_of lA (dP _), shaped_of lB (dP _), _, rfl, ?_⟩
    rw [eqv_parts lf.1]
    by_cases hp0 : wb.parts.Perm ps
    · rw [decide_eq_true hp0]
      refine iteF ?_
      -- web[2] != []
      refine ⟨_, rfl, wp, _, 2, _, rfl, rfl, SqT.of (e12 _ _ hwp), rfl, Nat.zero_le _, fun b1 nb1 => ?_⟩
      have e3 := e12.trans (Ex.new (o := .lst []) nb1)
      have dw3 := dep_web wb
      have dH : (eHands wb.hands).depth ≤ 32 := by have := dep_list dep_hand wb.hands; show (PyData.list _).depth ≤ _; omega
      have dS : (eTies wb.sides).depth ≤ 32 := by have := dep_list dep_tie wb.sides; show (PyData.list _).depth ≤ _; omega
      refine ⟨_, _, Dt.dp (d3.mono e3), Dt.dp (dt_nil upd_same), shaped_of lf.2.2.1 dH, shaped_of nil_lf nil_dep, _, rfl, ?_⟩
      rw [show eHands wb.hands = .list (wb.hands.map eHand) from rfl, eqv_nil]
      by_cases hh : wb.hands = []
      · rw [hh]
        refine iteF ?_
        refine ⟨_, rfl, wp, _, 3, _, rfl, rfl, SqT.of (e3 _ _ hwp), rfl, Nat.zero_le _, fun b2 nb2 => ?_⟩
        have e4 := e3.trans (Ex.new (o := .lst []) nb2)
        refine ⟨_, _, Dt.dp (d4.mono e4), Dt.dp (dt_nil upd_same), shaped_of lf.2.2.2.1 dS, shaped_of nil_lf nil_dep, _, rfl, ?_⟩
        rw [show eTies wb.sides = .list (wb.sides.map eTie) from rfl, eqv_nil]
        by_cases hs : wb.sides = []
        · rw [hs]
          refine iteF ?_
          -- all([order in orders for a, b, order in web[1]])
          obtain ⟨txs, hta, htx⟩ := Dt.list_at d2
          obtain ⟨oa, rfl, hoa⟩ := ints_at dO
          have lt : txs.length = wb.ties.length := by rw [htx.length, List.length_map]
          have lw := sw.n2
          generalize upd (upd H2 b1 (.lst [])) b2 (.lst []) = H4 at e4 ⊢
          dsimp only [tSeq, tIfS, tNot, tB, tCB, tCons, tNil, tNext]
          refine lcTn H4 (fun i acc G => Ex H4 G ∧ acc = ((wb.ties.take i).map fun t => V.bl (decide (t.2.2 ∈ os)))) (fun R q => ⟨_, rfl, wp, _, 1, _, rfl, rfl, SqT.of (e4 _ _ hwp), rfl, ta, rfl, ⟨_, SqL.of (e4 _ _ hta)⟩, q⟩) (e4 _ _ hta) (by omega) ⟨Ex.refl _, rfl⟩ ?_ (fun _ _ _ => rfl) ?_ ?_
          · rintro i acc G ⟨_, rfl⟩
            rw [List.length_map, List.length_take]; omega
          · rintro i x acc G hi eG ⟨_, rfl⟩
            obtain ⟨t, ht, hx⟩ := item' htx hi
            obtain ⟨q, rfl, hq⟩ := tie_at hx
            refine ⟨q, _, _, _, rfl, SqT.of ((e4.trans eG) _ _ hq), _, rfl, _, rfl, oa, _, rfl, .inl (SqL.of ((e4.trans eG) _ _ hoa)), rfl, flat_ints os, ?_⟩
            refine ⟨Ex.refl _, eG, ?_⟩
            rw [List.take_add_one, ht, List.map_append]
            simp [in_ints]
          · rintro acc G p eG hp ⟨_, rfl⟩
            have e5 := e4.trans (eG.trans (Ex.new (o := .lst ((wb.ties.take txs.length).map fun t => V.bl (decide (t.2.2 ∈ os)))) hp))
            refine ⟨p, wb.ties.map fun t => decide (t.2.2 ∈ os), rfl, SqL.of (by rw [upd_same, lt, List.take_length, List.map_map]; rfl), _, rfl, ?_⟩
            by_cases ho : ∀ t ∈ wb.ties, t.2.2 ∈ os
            · have : (wb.ties.map fun t => decide (t.2.2 ∈ os)).all id = true := by simpa [List.all_eq_true] using ho
              rw [this]
              refine iteF ?_
              -- not is_whole or is_whole_web(web)
              refine ⟨_, rfl, _, rfl, _, rfl, ?_⟩
              cases isw with
              | false =>
                refine iteT ?_
                have z := k _ e5
                have q : OfFam ps os false wb := ⟨hp0.symm, hh, hs, ho, fun h => by cases h⟩
                rw [decide_eq_true q] at z
                exact z
              | true =>
                refine iteF ?_
                refine ⟨_, rfl, _, wb, rfl, by have := sw.n1; omega, lw, tok, dw.mono e5, fun H' e6 => ?_⟩
                have z := k _ (e5.trans e6)
                have : decide (OfFam ps os true wb) = decide (Whole wb.parts.length wb.ties) := by
                  rw [Bool.eq_iff_iff, decide_eq_true_iff, decide_eq_true_iff]
                  exact ⟨fun h => h.2.2.2.2 rfl, fun h => ⟨hp0.symm, hh, hs, ho, fun _ => h⟩⟩
                rw [this] at z
                exact z
            · have : (wb.ties.map fun t => decide (t.2.2 ∈ os)).all id = false := by
                rw [Bool.eq_false_iff]
                intro h
                exact ho (by simpa [List.all_eq_true] using h)
              rw [this]
              refine iteT ?_
              have z := k _ e5
              rw [decide_eq_false (fun h => ho h.2.2.2.1)] at z
              exact z
        · have : (wb.sides.map eTie).isEmpty = false := by cases h : wb.sides <;> simp_all
          rw [this]
          refine iteT ?_
          have z := k _ e4
          rw [decide_eq_false (fun h => hs h.2.2.1)] at z
          exact z
      · have : (wb.hands.map eHand).isEmpty = false := by cases h : wb.hands <;> simp_all
        rw [this]
        refine iteT ?_
        have z := k _ e3
        rw [decide_eq_false (fun h => hh h.2.1)] at z
        exact z
    · rw [decide_eq_false hp0]
      refine iteT ?_
      have z := k _ e12
      rw [decide_eq_false (fun h => hp0 h.1.symm)] at z
      exact z
end
end W3

end
section
set_option Elab.async false
set_option linter.all false
set_option maxRecDepth 100000
set_option maxHeartbeats 4000000
namespace W3
open PySem PySem.Spec PyProof.Rows L2 M83
open Evl (Ex)
/-- closing the pot again -/
theorem pot_ex {H H' : Hp} {p : Addr} (hp : H p = some (PotO p)) (h : ∀ b o, b ≠ p → H b = some o → H' b = some o) : Ex H (upd H' p (PotO p)) := fun b o e => by
  by_cases hb : b = p
  · subst hb; rw [upd_same]; rw [hp] at e; exact e
  · rw [upd_ne hb]; exact h b o hb e
theorem perm_of_map {α β : Type} (f : α → β) : ∀ {ys : List β} {as : List α}, ys.Perm (as.map f) → ∃ bs : List α, ys = bs.map f ∧ bs.Perm as
  | [], as, h => by
    have := h.length_eq
    simp at this
    have e : as = [] := List.length_eq_zero_iff.mp this.symm
    exact ⟨[], rfl, by rw [e]⟩
  | y :: ys, as, h => by
    have hm : y ∈ as.map f := h.mem_iff.mp (by simp)
    obtain ⟨a, ha, rfl⟩ := List.mem_map.mp hm
    obtain ⟨l, r, rfl⟩ := List.append_of_mem ha
    have h2 : (f a :: ys).Perm (f a :: (l ++ r).map f) := by
      refine List.Perm.trans h ?_
      rw [List.map_append, List.map_append, List.map_cons]
      exact List.perm_middle
    obtain ⟨bs, rfl, pb⟩ := perm_of_map f h2.cons_inv
    exact ⟨a :: bs, rfl, (pb.cons a).trans List.perm_middle.symm⟩
theorem cutV_to {xs : List V} {m : Int} (h : 0 ≤ m) : cutV xs none (some m) = xs.take m.toNat := by
  have e : HT.sIx xs.length xs.length (some m) = min m.toNat xs.length := by
    show (if m < 0 then (m + (xs.length : Int)).toNat else min m.toNat xs.length) = _
    rw [if_neg (by omega)]
  unfold cutV
  rw [e, HT.sIx_none, List.drop_zero, Nat.sub_zero, ← List.take_take, List.take_of_length_le (Nat.le_refl _)]
theorem cutV_from {xs : List V} {m : Int} (h : 0 ≤ m) : cutV xs (some m) none = xs.drop m.toNat := by
  have e : HT.sIx xs.length 0 (some m) = min m.toNat xs.length := by
    show (if m < 0 then (m + (xs.length : Int)).toNat else min m.toNat xs.length) = _
    rw [if_neg (by omega)]
  unfold cutV
  rw [e, HT.sIx_none, List.take_of_length_le (by rw [List.length_drop]; omega)]
  by_cases hl : m.toNat ≤ xs.length
  · rw [Nat.min_eq_left hl]
  · rw [Nat.min_eq_right (by omega), List.drop_of_length_le (Nat.le_refl _), List.drop_of_length_le (by omega)]
theorem erase_perm {α : Type} : ∀ {L : List α} {k : Nat} (h : k < L.length), (L[k] :: L.eraseIdx k).Perm L
  | a :: L, 0, _ => List.Perm.refl _
  | a :: L, k + 1, h => by
    have h' : k < L.length := by simpa using h
    exact (List.Perm.swap _ _ _).trans ((erase_perm h').cons a)
section
variable {P : Program} {w : World} {K : PySem.W.Frag} {mg : Str → Option Value} {base : Heap}
/-! ### _law_pot -/
def p_pot (K : PySem.W.Frag) : Sp3 := fun vs H Q => ∃ (a : Addr) (ns : List Int) (k : Nat), vs = [.ref a, .int k] ∧ SqL K H a (ns.map V.int) ∧ k ≤ 1 ∧ ∀ p H', Ex H H' → H' p = some (PotO p) → Q (.ref p) H'
theorem d_l_pot {f : Addr} {fd : FuncData} (F : Fun K "_law_pot" "_law_pot" sl_pot f fd) (hm : mg "_law_pot" = some (.ref f)) (T : Txt mg) : Df P w K mg base 1 "_law_pot" ["_law_script", "_law_k"] (p_pot K) := by
  refine Df.body F hm bil_pot scl_pot (fun vs H Q h => ?_) (fun cdv A outer s H vs Q hr h => ?_)
  · obtain ⟨a, ns, k, rfl, _⟩ := h; rfl
  · obtain ⟨a, ns, kk, rfl, ha, hk, k⟩ := h
    refine ⟨_, (pss_cons (ps_set (i := 2) scl_pot.nd rfl (Or.inl rfl) (pe_op op_add (pe_op op_mul pe_int (pv 1)) pe_int))
 (pss_cons (ps_if (pt_cmpR op_lt (pv 1) (pe_callB (lenS K) (by rfl) T.n_len bt_len (pa_cons (pv 0) pa_nil)) (nomark _)) (pss_one (ps_set (i := 2) scl_pot.nd rfl (Or.inl rfl) (pe_callB call_abs (by rfl) T.n_abs bt_abs (pa_cons (pe_ix (ixL K) (pv 0) (pv 1) (fun _ _ => rfl)) pa_nil)))) pss_nil)
 (pss_cons (ps_set (i := 3) scl_pot.nd rfl (Or.inl rfl) (pe_op op_mod (pe_callTy call_int1 (by rfl) T.n_int bt_int (pa_cons (pe_op op_add (pe_op op_add (pe_op op_mul (pe_op op_mod (pe_callTy call_int1 (by rfl) T.n_int bt_int (pa_cons (pv 2) pa_nil)) pe_int) pe_int) (pe_op op_mul pe_int (pv 1))) pe_int) pa_nil)) pe_int))
 (pss_one (ps_ret (pe_seal (pe_lst (pa_cons (pe_callB (call_max2 rfl) (by rfl) T.n_max bt_max (pa_cons pe_int (pa_cons (pe_op op_sub (pv 2) (pe_op op_pow pe_int pe_int)) pa_nil))) (pa_cons (pe_op op_add (pv 3) pe_int) pa_nil))))))))), ?_⟩
    -- the cell
    refine ⟨_, rfl, _, _, rfl, rfl, .inl ⟨by omega, by omega⟩, _, _, rfl, rfl, ?_⟩
    have fin0 : ∀ m : Int, 0 ≤ m % 2147483563 + 1 := fun m => by
      have := Int.emod_nonneg m (show (2147483563 : Int) ≠ 0 by decide)
      omega
    have fin1 : ∀ m : Int, m % 2147483563 + 1 < potM := fun m => by
      have := Int.emod_lt_of_pos m (show (0 : Int) < 2147483563 by decide)
      show m % 2147483563 + 1 < 2147483587
      omega
    refine ⟨_, rfl, _, rfl, a, _, rfl, .inl ha, _, _, rfl, rfl, _, rfl, ?_⟩
    by_cases hc : (kk : Int) < (ns.map V.int).length
    · rw [decide_eq_true hc]
      refine iteT ?_
      have hl : kk < ns.length := by rw [List.length_map] at hc; omega
      refine ⟨_, rfl, _, rfl, a, _, kk, _, rfl, rfl, ha, atI_nat (v := .int ns[kk]) (by rw [List.getElem?_map, List.getElem?_eq_getElem hl]; rfl), _, rfl, ?_⟩
      refine ⟨_, rfl, .inl ⟨_, rfl, _, _, rfl, rfl, by omega, _, _, rfl, rfl, .inr ⟨by omega, by omega⟩, _, rfl, _, _, rfl, rfl, .inl ⟨by omega, by omega⟩, _, _, rfl, rfl, _, _, rfl, rfl, .inl ⟨_, rfl, _, _, rfl, rfl, by omega, ?_⟩⟩⟩
      refine ⟨_, rfl, _, _, rfl, rfl, ⟨by omega, by omega, by decide⟩, _, _, rfl, rfl, _, _, rfl, _, rfl, _, _, rfl, rfl, sz2, fun p hp => ?_⟩
      refine ⟨p, _, _, rfl, upd_same, fin0 _, fin1 _, k p _ (Evl.Ex.mut (Ex.new hp) hp) upd_same⟩
    · rw [decide_eq_false hc]
      refine iteF ?_
      refine ⟨_, rfl, .inl ⟨_, rfl, _, _, rfl, rfl, by omega, _, _, rfl, rfl, .inr ⟨by omega, by omega⟩, _, rfl, _, _, rfl, rfl, .inl ⟨by omega, by omega⟩, _, _, rfl, rfl, _, _, rfl, rfl, .inl ⟨_, rfl, _, _, rfl, rfl, by omega, ?_⟩⟩⟩
      refine ⟨_, rfl, _, _, rfl, rfl, ⟨by omega, by omega, by decide⟩, _, _, rfl, rfl, _, _, rfl, _, rfl, _, _, rfl, rfl, sz2, fun p hp => ?_⟩
      refine ⟨p, _, _, rfl, upd_same, fin0 _, fin1 _, k p _ (Evl.Ex.mut (Ex.new hp) hp) upd_same⟩
/-! ### _law_draw -/
def p_draw : Sp3 := fun vs H Q => ∃ (p : Addr) (n : Int), vs = [.ref p, .int n] ∧ H p = some (PotO p) ∧ 0 < n ∧ n < 1000000 ∧ ∀ d : Int, 0 ≤ d → d < n → ∀ H', Ex H H' → Q (.int d) H'
theorem d_l_draw {f : Addr} {fd : FuncData} (F : Fun K "_law_draw" "_law_draw" sl_draw f fd) (hm : mg "_law_draw" = some (.ref f)) (T : Txt mg) : Df P w K mg base 1 "_law_draw" ["_law_pot_here", "_law_size"] p_draw := by
  refine Df.body F hm bil_draw scl_draw (fun vs H Q h => ?_) (fun cdv A outer s H vs Q hr h => ?_)
  · obtain ⟨p, n, rfl, _⟩ := h; rfl
  · obtain ⟨p, n, rfl, hp, n0, n1, k⟩ := h
    refine ⟨_, (pss_open (pss_cons (ps_if (pt_cmpR op_gt (pe_ix (ixL K) (pv 0) pe_int (fun _ _ => rfl)) pe_int (nomark _)) (pss_cons (ps_asg (pe_callB call_divmod (by rfl) T.n_divmod bt_divmod (pa_cons (pe_ix (ixL K) (pv 0) pe_int (fun _ _ => rfl)) (pa_cons (pv 1) pa_nil))) (pgT K 2 (pgs_cons (pg_sub (pv 0) pe_int set_list) (pgs_cons (pg_name (i := 2) scl_draw.nd rfl (Or.inl rfl)) pgs_nil))))
 (pss_one (ps_ret (pv 2)))) pss_nil)
 (pss_cons (ps_asg (pe_op op_mod (pe_callTy call_int1 (by rfl) T.n_int bt_int (pa_cons (pe_op op_add (pe_op op_mul (pe_ix (ixL K) (pv 0) pe_int (fun _ _ => rfl)) pe_int) pe_int) pa_nil)) pe_int) (pg_sub (pv 0) pe_int set_list))
 (pss_one (ps_ret (pe_op op_mod (pe_callTy call_int1 (by rfl) T.n_int bt_int (pa_cons (pe_op op_fdiv (pe_op op_mod (pe_callTy call_int1 (by rfl) T.n_int bt_int (pa_cons (pe_op op_mul (pe_ix (ixL K) (pv 0) pe_int (fun _ _ => rfl)) (pe_ix (ixL K) (pv 0) pe_int (fun _ _ => rfl))) pa_nil)) pe_int) pe_int) pa_nil)) (pv 1))))))), ?_⟩
    refine ⟨p, hp, fun x y y0 y1 => ?_⟩
    have c1 : 1 < sizeLine := by decide
    refine ⟨_, rfl, p, _, 0, _, rfl, rfl, SqL.of upd_same, rfl, _, _, rfl, rfl, _, rfl, ?_⟩
    by_cases hx : x > 0
    · rw [decide_eq_true hx]
      refine iteT ?_
      refine ⟨_, rfl, p, _, 0, _, rfl, rfl, SqL.of upd_same, rfl, _, rfl, x, n, rfl, ⟨n0, by omega⟩, fun q hq => ?_⟩
      have npq : p ≠ q := new_ne upd_same hq
      refine ⟨q, _, rfl, SqT.of upd_same, rfl, _, _, rfl, ?_⟩
      refine ⟨_, rfl, p, _, 0, 0, rfl, rfl, by rw [upd_ne npq]; exact upd_same, rfl, _, _, rfl, rfl, ?_⟩
      refine ⟨_, rfl, x / n, y, upd_same, y0, y1, k _ (Int.emod_nonneg _ (by omega)) (Int.emod_lt_of_pos _ n0) _ (pot_ex hp fun b o hb e => ?_)⟩
      have e1 : upd H p (.lst [.int x, .int y]) b = some o := by rw [upd_ne hb]; exact e
      rw [upd_ne hb, upd_ne (new_ne e1 hq), upd_ne hb]; exact e
    · rw [decide_eq_false hx]
      refine iteF ?_
      refine ⟨_, rfl, p, _, 1, _, rfl, rfl, SqL.of upd_same, rfl, _, _, rfl, rfl, .inr ⟨by omega, by omega⟩, _, _, rfl, rfl, .inl ⟨_, rfl, _, _, rfl, rfl, by omega, ?_⟩⟩
      have m0 : 0 ≤ ((y * 41089 + 2267) % 2147483587) := Int.emod_nonneg _ (by decide)
      have m1 : ((y * 41089 + 2267) % 2147483587) < potM := Int.emod_lt_of_pos _ (by decide)
      have m2 : ((y * 41089 + 2267) % 2147483587) < 2147483587 := m1
      refine ⟨_, rfl, p, _, 1, 1, rfl, rfl, upd_same, rfl, ?_⟩
      refine ⟨_, rfl, p, [.int x, .int ((y * 41089 + 2267) % 2147483587)], 1, _, rfl, rfl, SqL.of upd_same, rfl, _, rfl, p, [.int x, .int ((y * 41089 + 2267) % 2147483587)], 1, _, rfl, rfl, SqL.of upd_same, rfl, _, _, rfl, rfl, .inl ⟨by omega, by omega⟩, .inl ⟨_, rfl, _, _, rfl, rfl, by omega, _, _, rfl, rfl, ⟨by omega, by omega⟩, .inl ⟨_, rfl, _, rfl, _, _, rfl, rfl, n0, ?_⟩⟩⟩
      refine ⟨x, ((y * 41089 + 2267) % 2147483587), upd_same, m0, m1, k _ (Int.emod_nonneg _ (by omega)) (Int.emod_lt_of_pos _ n0) _ (pot_ex hp fun b o hb e => ?_)⟩
      rw [upd_ne hb, upd_ne hb]; exact e
/-! ### _law_pick -/
def p_pick : Sp3 := fun vs H Q => ∃ (p a : Addr) (xs : List V), vs = [.ref p, .ref a] ∧ H p = some (PotO p) ∧ H a = some (.lst xs) ∧ 0 < xs.length ∧ xs.length ≤ 1000 ∧ ∀ (i : Nat) (x : V), xs[i]? = some x → ∀ H', Ex H H' → Q x H'
theorem d_l_pick {f : Addr} {fd : FuncData} (F : Fun K "_law_pick" "_law_pick" sl_pick f fd) (hm : mg "_law_pick" = some (.ref f)) (T : Txt mg) (d_l_draw : Df P w K mg base 1 "_law_draw" ["_law_pot_here", "_law_size"] p_draw) : Df P w K mg base 2 "_law_pick" ["_law_pot_here", "_law_some"] p_pick := by
  refine Df.body F hm bil_pick scl_pick (fun vs H Q h => ?_) (fun cdv A outer s H vs Q hr h => ?_)
  · obtain ⟨p, a, xs, rfl, _⟩ := h; rfl
  · obtain ⟨p, a, xs, rfl, hp, ha, n0, n1, k⟩ := h
    refine ⟨_, (pss_one (ps_ret (pe_ix (ixL K) (pv 1) (pe_c3 d_l_draw (hr.less (by decide)) rfl (pa_cons (pv 0) (pa_cons (pe_callB (lenS K) (by rfl) T.n_len bt_len (pa_cons (pv 1) pa_nil)) pa_nil))) (fun _ _ => rfl)))), ?_⟩
    refine ⟨_, rfl, _, rfl, _, rfl, a, xs, rfl, .inl (SqL.of ha), p, _, rfl, hp, by omega, by omega, fun d d0 d1 H' e => ?_⟩
    have hd : d.toNat < xs.length := by omega
    exact ⟨a, xs, d, _, rfl, rfl, SqL.of (e _ _ ha), atI_of d0 (List.getElem?_eq_getElem hd), k d.toNat _ (List.getElem?_eq_getElem hd) H' e⟩
/-! ### _law_near -/
def p_lnear : Sp3 := fun vs H Q => ∃ (v : V) (ts : List Tie) (z : Int), vs = [v, .int z] ∧ Dt H (eTies ts) v ∧ ts.length ≤ 1000 ∧ ∀ (p : Addr) (ns : List Int) H', Ex H H' → H' p = some (.lst (ns.map V.int)) → Q (.ref p) H'
theorem d_l_near {f : Addr} {fd : FuncData} (F : Fun K "_law_near" "_law_near" sl_near f fd) (hm : mg "_law_near" = some (.ref f)) (T : Txt mg) : Df P w K mg base 1 "_law_near" ["_law_ties_here", "_law_part"] p_lnear := by
  refine Df.body F hm bil_near scl_near (fun vs H Q h => ?_) (fun cdv A outer s H vs Q hr h => ?_)
  · obtain ⟨v, ts, z, rfl, _⟩ := h; rfl
  · obtain ⟨v, ts, z, rfl, ⟨tp, txs, rfl, htp, htx⟩, lt, k⟩ := h
    have lx : txs.length = ts.length := by rw [htx.length, List.length_map]
    refine ⟨_, (pss_cons (ps_setLc (own := [("_law_a", 3), ("_law_b", 4), ("_law_order", 5)]) (i := 2) rfl scl_near.nd rfl rfl (sw_true rfl rfl rfl (by decide +kernel)) (piL K (pv 0)) (blkOk_by (N := Nl_near) (sc := defScope sl_near) (by decide +kernel)) (fun _ _ _ _ _ => (pgT K 3 (pgs_cons (pg_name (i := 3) scl_near.nd rfl (Or.inl rfl)) (pgs_cons (pg_name (i := 4) scl_near.nd rfl (Or.inl rfl)) (pgs_cons (pg_name (i := 5) scl_near.nd rfl (Or.inl rfl)) pgs_nil))))) (fun _ _ _ _ _ => (pts_fr (pts_one (pt_cmpR op_eq (pv 4) (pv 1) (nomark _))))) (fun _ _ _ _ _ => (pe_fr (pv 3))))
 (pss_one (ps_ret (pe_callB (crSI K) (by rfl) T.n_sorted bt_sorted (pa_cons (pe_op op_cat (pv 2) (pe_lc (own := [("_law_a", 3), ("_law_b", 4), ("_law_order", 5)]) rfl scl_near.nd (piL K (pv 0)) (blkOk_by (N := Nl_near) (sc := defScope sl_near) (by decide +kernel)) (fun _ _ _ _ _ => (pgT K 3 (pgs_cons (pg_name (i := 3) scl_near.nd rfl (Or.inl rfl)) (pgs_cons (pg_name (i := 4) scl_near.nd rfl (Or.inl rfl)) (pgs_cons (pg_name (i := 5) scl_near.nd rfl (Or.inl rfl)) pgs_nil))))) (fun _ _ _ _ _ => (pts_fr (pts_one (pt_cmpR op_eq (pv 3) (pv 1) (nomark _))))) (fun _ _ _ _ _ => (pe_fr (pv 4))))) pa_nil))))), ?_⟩
    refine go_sets (lcT H (fun i acc G => Ex H G ∧ (∃ ns : List Int, acc = ns.map V.int) ∧ acc.length ≤ i) (fun R q => ⟨_, rfl, tp, rfl, ⟨_, SqL.of htp⟩, q⟩) htp (by omega) ⟨Ex.refl _, ⟨[], rfl⟩, Nat.le_refl _⟩ ?_ (fun _ _ _ => rfl) ?_ ?_)
    · rintro i acc G ⟨_, _, h⟩; exact h
    · rintro i x acc G hi eG ⟨_, ⟨ns, rfl⟩, hl⟩
      obtain ⟨t, ht, hx⟩ := item' htx hi
      obtain ⟨q, rfl, hq⟩ := tie_at hx
      refine ⟨q, _, _, _, rfl, SqT.of (eG _ _ hq), _, rfl, _, rfl, rfl, _, rfl, Ex.refl _, fun _ => ⟨_, rfl, Ex.refl _, eG, ⟨ns ++ [t.1], by simp⟩, by simp at hl ⊢; omega⟩, fun _ => ⟨eG, ⟨ns, rfl⟩, by omega⟩⟩
    · rintro acc G p eG hp ⟨_, ⟨ns, rfl⟩, hl⟩
      have e1 := eG.trans (Ex.new (o := .lst (ns.map V.int)) hp)
      refine go_ret (go_cb1 ?_)
      refine ⟨_, rfl, ?_⟩
      have h1 := e1 _ _ htp
      have hp1 : upd G p (.lst (ns.map V.int)) p = some (.lst (ns.map V.int)) := upd_same
      generalize upd G p (.lst (ns.map V.int)) = H1 at e1 h1 hp1 ⊢
      refine lcT H1 (fun i acc G => Ex H1 G ∧ (∃ ns : List Int, acc = ns.map V.int) ∧ acc.length ≤ i) (fun R q => ⟨_, rfl, tp, rfl, ⟨_, SqL.of h1⟩, q⟩) h1 (by omega) ⟨Ex.refl _, ⟨[], rfl⟩, Nat.le_refl _⟩ ?_ (fun _ _ _ => rfl) ?_ ?_
      · rintro i acc G ⟨_, _, h⟩; exact h
      · rintro i x acc G hi eG ⟨_, ⟨ns, rfl⟩, hl⟩
        obtain ⟨t, ht, hx⟩ := item' htx hi
        obtain ⟨q, rfl, hq⟩ := tie_at hx
        refine ⟨q, _, _, _, rfl, SqT.of (eG _ _ (e1 _ _ hq)), _, rfl, _, rfl, rfl, _, rfl, Ex.refl _, fun _ => ⟨_, rfl, Ex.refl _, eG, ⟨ns ++ [t.2.1], by simp⟩, by simp at hl ⊢; omega⟩, fun _ => ⟨eG, ⟨ns, rfl⟩, by omega⟩⟩
      · rintro acc G2 p2 eG2 hp2 ⟨_, ⟨ns2, rfl⟩, hl2⟩
        have big : (3000 : Nat) < sizeLine := by decide
        have e2 := eG2.trans (Ex.new (o := .lst (ns2.map V.int)) hp2)
        refine ⟨p, p2, _, _, rfl, rfl, e2 _ _ hp1, upd_same, by omega, fun q hq => ?_⟩
        have e3 := e2.trans (Ex.new (o := .lst (ns.map V.int ++ ns2.map V.int)) hq)
        exact ⟨q, ns ++ ns2, rfl, SqL.of (by rw [upd_same, List.map_append]), fun ns' p' _ _ hp' => k p' ns' _ ((e1.trans e3).trans (Ex.new hp')) upd_same⟩
/-! ### _law_mixed -/
def p_mixed : Sp3 := fun vs H Q => ∃ (p a : Addr) (xs : List V), vs = [.ref p, .ref a] ∧ H p = some (PotO p) ∧ H a = some (.lst xs) ∧ xs.length ≤ 1000 ∧ ∀ q ys H', Ex H H' → H q = none → H' q = some (.lst ys) → ys.Perm xs → Q (.ref q) H'
theorem d_l_mixed {f : Addr} {fd : FuncData} (F : Fun K "_law_mixed" "_law_mixed" sl_mixed f fd) (hm : mg "_law_mixed" = some (.ref f)) (T : Txt mg) (d_l_draw : Df P w K mg base 1 "_law_draw" ["_law_pot_here", "_law_size"] p_draw) : Df P w K mg base 2 "_law_mixed" ["_law_pot_here", "_law_some"] p_mixed := by
  refine Df.body F hm bil_mixed scl_mixed (fun vs H Q h => ?_) (fun cdv A outer s H vs Q hr h => ?_)
  · obtain ⟨p, a, xs, rfl, _⟩ := h; rfl
  · obtain ⟨p, a, xs, rfl, hp, ha, n1, k⟩ := h
    refine ⟨_, (pss_cons (ps_par (i := 3) (j := 4) rfl scl_mixed.nd rfl rfl (by decide) rfl rfl (pa_cons (pe_callTy (listS K) (by rfl) T.n_list bt_list (pa_cons (pv 1) pa_nil)) (pa_cons (pe_lst pa_nil) pa_nil)) (by rfl))
 (pss_cons (ps_for PassesOwn.never rfl (pi_range1 rfl T.range (pa_cons (pe_callB (lenS K) (by rfl) T.n_len bt_len (pa_cons (pv 1) pa_nil)) pa_nil)) (pg_name (i := 2) scl_mixed.nd rfl (Or.inl rfl)) (pss_one (ps_expr (pe_bm PySem.F.plainAttrs_list PySem.F.slot_list_append PySem.F.type_list_append mt_append (pv 4) (pa_cons (pe_bm PySem.F.plainAttrs_list PySem.F.slot_list_pop PySem.F.type_list_pop mt_popAt (pv 3) (pa_cons (pe_c3 d_l_draw (hr.less (by decide)) rfl (pa_cons (pv 0) (pa_cons (pe_callB (lenS K) (by rfl) T.n_len bt_len (pa_cons (pv 3) pa_nil)) pa_nil))) pa_nil)) pa_nil)))))
 (pss_one (ps_ret (pv 4))))), ?_⟩
    refine ⟨_, rfl, a, xs, rfl, .inl (SqL.of ha), fun lp hlp => ⟨Nat.zero_le _, fun fp hfp => ⟨_, _, rfl, ?_⟩⟩⟩
    have x1 := Ex.new (o := .lst xs) hlp
    have x2 := x1.trans (Ex.new (o := .lst []) hfp)
    have nlf : lp ≠ fp := new_ne upd_same hfp
    have f0 := Evl.fresh_back x1 hfp
    refine ⟨_, rfl, a, xs, rfl, .inl (SqL.of (x2 _ _ ha)), _, rfl, by omega, by omega, ?_⟩
    refine for_range (lo := 0) (n := xs.length) (fun i σ H' => ∃ v L F, σ = [some (.ref p), some (.ref a), v, some (.ref lp), some (.ref fp)] ∧ Ex H H' ∧ H' lp = some (.lst L) ∧ H' fp = some (.lst F) ∧ (F ++ L).Perm xs ∧ F.length = i)
      ⟨none, xs, [], rfl, x2, by rw [upd_ne nlf]; exact upd_same, upd_same, List.Perm.refl _, rfl⟩ ?_ ?_
    · rintro i σ H' hi ⟨v, L, F, rfl, e1, hL, hF, pm, lF⟩
      have lL := pm.length_eq
      rw [List.length_append] at lL
      have big : (3000 : Nat) < sizeLine := by decide
      refine ⟨_, rfl, .inl ⟨rfl, _, SqL.of hF⟩, _, rfl, .inl ⟨rfl, _, SqL.of hL⟩, _, rfl, _, rfl, lp, L, rfl, .inl (SqL.of hL), p, _, rfl, e1 _ _ hp, by omega, by omega, fun d d0 d1 G e => ?_⟩
      have hd : d.toNat < L.length := by omega
      have hLG := e _ _ hL
      have hFG := e _ _ hF
      refine ⟨lp, L, d, d.toNat, L[d.toNat], rfl, rfl, hLG, by omega, by omega, PySem.seqIndex_of d0 (by omega), List.getElem?_eq_getElem hd, ?_⟩
      refine ⟨fp, F, _, rfl, rfl, by rw [upd_ne nlf.symm]; exact hFG, by omega, ?_⟩
      refine ⟨_, L.eraseIdx d.toNat, F ++ [L[d.toNat]], rfl, Evl.Ex.mut (Evl.Ex.mut (e1.trans e) hlp) f0, by rw [upd_ne nlf]; exact upd_same, upd_same, ?_, by simp; omega⟩
      refine List.Perm.trans ?_ pm
      rw [List.append_assoc]
      exact List.Perm.append_left _ (erase_perm hd)
    · rintro σ H' ⟨v, L, F, rfl, e1, hL, hF, pm, lF⟩
      have lL := pm.length_eq
      rw [List.length_append] at lL
      have e0 : L = [] := List.length_eq_zero_iff.mp (by omega)
      rw [e0, List.append_nil] at pm
      exact ⟨_, rfl, k fp F H' e1 f0 hF pm⟩
/-! ### _law_orders -/
def p_orders : Sp3 := fun vs H Q => ∃ (p : Addr) (m : Int), vs = [.ref p, .int m] ∧ H p = some (PotO p) ∧ 0 ≤ m ∧ m ≤ 4 ∧ ∀ (q : Addr) (os : List Int) H', Ex H H' → H' q = some (.lst (os.map V.int)) → (os.length : Int) ≤ m → (∀ o ∈ os, 1 ≤ o ∧ o ≤ 4) → Q (.ref q) H'
theorem d_l_orders {f : Addr} {fd : FuncData} (F : Fun K "_law_orders" "_law_orders" sl_orders f fd) (hm : mg "_law_orders" = some (.ref f)) (T : Txt mg) (d_l_draw : Df P w K mg base 1 "_law_draw" ["_law_pot_here", "_law_size"] p_draw)
    (d_l_mixed : Df P w K mg base 2 "_law_mixed" ["_law_pot_here", "_law_some"] p_mixed) : Df P w K mg base 3 "_law_orders" ["_law_pot_here", "_law_most"] p_orders := by
  refine Df.body F hm bil_orders scl_orders (fun vs H Q h => ?_) (fun cdv A outer s H vs Q hr h => ?_)
  · obtain ⟨p, m, rfl, _⟩ := h; rfl
  · obtain ⟨p, m, rfl, hp, m0, m1, k⟩ := h
    refine ⟨_, (pss_one (ps_ret (pe_slice (slL K) (pe_c3 d_l_mixed (hr.less (by decide)) rfl (pa_cons (pv 0) (pa_cons (pe_lc (own := [("_law_order", 2)]) rfl scl_orders.nd (pi_range2 rfl T.range (pa_cons pe_int (pa_cons pe_int pa_nil))) (blkOk_by (N := Nl_orders) (sc := defScope sl_orders) (by decide +kernel)) (fun _ _ _ _ _ => (pg_name (i := 2) scl_orders.nd rfl (Or.inl rfl))) (fun _ _ _ _ _ => (pts_fr (pts_one (pt_cmpR op_eq (pe_c3 d_l_draw (hr.less (by decide)) rfl (pa_cons (pv 0) (pa_cons pe_int pa_nil))) pe_int (nomark _))))) (fun _ _ _ _ _ => (pe_fr (pv 2)))) pa_nil))) po_none (po_some (pv 1))))), ?_⟩
    refine go_ret ?_
    refine ⟨_, rfl, ?_⟩
    refine lcRt H (lo := 1) (n := 4) (fun i acc G => Ex H G ∧ (∃ ns : List Int, acc = ns.map V.int ∧ (∀ o ∈ ns, 1 ≤ o ∧ o ≤ 4)) ∧ acc.length ≤ i) (fun R r => ⟨_, _, rfl, by omega, r⟩) (by omega) ⟨Ex.refl _, ⟨[], rfl, fun o h => by simp at h⟩, Nat.le_refl _⟩ ?_ (fun _ => rfl) ?_ ?_
    · rintro i acc G ⟨_, _, h⟩; exact h
    · rintro i acc G hi eG ⟨_, ⟨ns, rfl, hn⟩, hl⟩
      refine ⟨_, rfl, p, _, rfl, eG _ _ hp, by omega, by omega, fun d d0 d1 G3 e3 => ?_⟩
      refine ⟨rfl, _, rfl, e3, fun _ => ⟨_, rfl, Ex.refl _, eG.trans e3, ⟨ns ++ [1 + (i : Int)], by simp, fun o ho => ?_⟩, by simp at hl ⊢; omega⟩, fun _ => ⟨eG.trans e3, ⟨ns, rfl, hn⟩, by omega⟩⟩
      rcases List.mem_append.mp ho with ho | ho
      · exact hn o ho
      · have : o = 1 + (i : Int) := by simpa using ho
        omega
    · rintro acc G q eG hq ⟨_, ⟨ns, rfl, hn⟩, hl⟩
      have e1 := eG.trans (Ex.new (o := .lst (ns.map V.int)) hq)
      rw [List.length_map] at hl
      refine ⟨p, q, _, rfl, e1 _ _ hp, upd_same, by rw [List.length_map]; omega, fun r ys H' e2 n2 hr2 pm => ?_⟩
      obtain ⟨ms, rfl, pn⟩ := perm_of_map V.int pm
      have lm := pn.length_eq
      refine ⟨_, rfl, _, rfl, r, _, rfl, SqL.of hr2, fun r2 h2 => ?_⟩
      have em : cutV (ms.map V.int) none (some m) = (ms.take m.toNat).map V.int := by
        rw [cutV_to (by omega), List.map_take]
      rw [em]
      refine k r2 _ _ ((e1.trans e2).trans (Ex.new h2)) upd_same (by rw [List.length_take]; omega) fun o ho => hn o (pn.mem_iff.mp (List.mem_of_mem_take ho))
end
end W3

end
section
set_option Elab.async false
set_option linter.all false
set_option maxRecDepth 100000
set_option maxHeartbeats 4000000
namespace W3
open PySem PySem.Spec PyProof.Rows L2 M83
open Evl (Ex)
section
variable {X : Cx}
/-- a statement, by what is shown of its end -/
def tMS (t : TS) : TS := fun D σ H => ∃ N : L2.St → Hp → Prop, t { D with nx := N } σ H ∧ ∀ σ' H', N σ' H' → D.nx σ' H'
theorem ps_m {st : Stmt} {t : TS} (h : PS X st t) : PS X st (tMS t) := by
  refine ⟨fun pins s σ H D I ⟨N, q, k⟩ => thn (h.run pins s σ H _ I q) fun f s1 z => ?_⟩
  cases f with
  | next => obtain ⟨σ', H', I', z⟩ := z; exact ⟨σ', H', I', k _ _ z⟩
  | brk => exact z
  | cont => exact z
  | ret u => exact z
end
def TiesFine (n : Nat) (ts : List Tie) : Prop := TiesOk n ts ∧ (∀ t ∈ ts, 1 ≤ t.2.2 ∧ t.2.2 ≤ 4)
theorem TiesFine.snoc {n : Nat} {ts : List Tie} (h : TiesFine n ts) {a b c : Int} (h0 : 0 ≤ a) (h1 : a < b) (h2 : b < n) (h3 : 1 ≤ c) (h4 : c ≤ 4) : TiesFine n (ts ++ [(a, b, c)]) := by
  refine ⟨fun t ht => ?_, fun t ht => ?_⟩
  · rcases List.mem_append.mp ht with ht | ht
    · exact h.1 t ht
    · have : t = (a, b, c) := by simpa using ht
      subst this; exact ⟨h0, h1, h2⟩
  · rcases List.mem_append.mp ht with ht | ht
    · exact h.2 t ht
    · have : t = (a, b, c) := by simpa using ht
      subst this; exact ⟨h3, h4⟩
section
variable {P : Program} {w : World} {K : PySem.W.Frag} {mg : Str → Option Value} {base : Heap}
theorem iteAny {A B : Prop} {c : Bool} (h1 : c = true → A) (h2 : c = false → B) : if c = true then A else B := by
  cases c with
  | true => exact iteT (h1 rfl)
  | false => exact iteF (h2 rfl)
theorem rm_upd_any {D : Addr} {H : Hp} {o : HO} : rm D (upd H D o) = rm D H := by
  funext b
  by_cases e : b = D
  · subst e; rw [rm_same, rm_same]
  · rw [rm_ne e, rm_ne e, upd_ne e]
theorem rm_ex {D : Addr} {H G : Hp} (e : Ex H G) : Ex (rm D H) (rm D G) := fun b o h => by
  obtain ⟨hb, h'⟩ := of_rm h
  rw [rm_ne hb]; exact e _ _ h'
theorem rm_at {D b : Addr} {H : Hp} {o : HO} (hb : b ≠ D) (h : H b = some o) : rm D H b = some o := by rw [rm_ne hb]; exact h
/-- a list that grows: its items do not know it -/
structure Grow (H H' : Hp) (fp : Addr) (ds : List PyData) : Prop where
  ex : Ex H H'
  new : H fp = none
  at_ : ∃ F, H' fp = some (.lst F) ∧ Dts (rm fp H') ds F
theorem Grow.start {H G : Hp} {fp : Addr} (e : Ex H G) (h : G fp = none) : Grow H (upd G fp (.lst [])) fp [] := ⟨e.trans (Ex.new h), Evl.fresh_back e h, [], upd_same, rfl⟩
theorem Grow.grow {H H' G : Hp} {fp : Addr} {ds : List PyData} (g : Grow H H' fp ds) (e : Ex H' G) : Grow H G fp ds := by
  obtain ⟨F, h1, h2⟩ := g.at_
  exact ⟨g.ex.trans e, g.new, F, e _ _ h1, h2.mono (rm_ex e)⟩
theorem Grow.snoc {H H' : Hp} {fp : Addr} {ds : List PyData} {F : List V} {d : PyData} {x : V} (g : Grow H H' fp ds) (hF : H' fp = some (.lst F)) (hd : Dt (rm fp H') d x) : Grow H (upd H' fp (.lst (F ++ [x]))) fp (ds ++ [d]) := by
  obtain ⟨F', h1, h2⟩ := g.at_
  rw [hF] at h1; cases h1
  refine ⟨Evl.Ex.mut g.ex g.new, g.new, _, upd_same, ?_⟩
  rw [rm_upd_any]
  exact Dts.snoc hd h2
theorem Grow.len {H H' : Hp} {fp : Addr} {ds : List PyData} {F : List V} (g : Grow H H' fp ds) (hF : H' fp = some (.lst F)) : F.length = ds.length := by
  obtain ⟨F', h1, h2⟩ := g.at_
  rw [hF] at h1; cases h1
  exact h2.length
theorem Grow.dt {H H' : Hp} {fp : Addr} {ds : List PyData} (g : Grow H H' fp ds) : Dt H' (.list ds) (.ref fp) := by
  obtain ⟨F', h1, h2⟩ := g.at_
  exact ⟨fp, F', rfl, h1, h2.mono ex_rm⟩
theorem dts_nil {α : Type} {enc : α → PyData} {H : Hp} : Dts H (([] : List α).map enc) [] := rfl
/-! ### _law_ties -/
def p_lties : Sp3 := fun vs H Q => ∃ (p : Addr) (n : Nat), vs = [.ref p, .int n] ∧ H p = some (PotO p) ∧ n ≤ 6 ∧ ∀ q ts H', Ex H H' → H q = none → Dt H' (eTies ts) (.ref q) → TiesFine n ts → ts.length ≤ 36 → Q (.ref q) H'
theorem d_l_ties {f : Addr} {fd : FuncData} (F : Fun K "_law_ties" "_law_ties" sl_ties f fd) (hm : mg "_law_ties" = some (.ref f)) (T : Txt mg) (d_l_draw : Df P w K mg base 1 "_law_draw" ["_law_pot_here", "_law_size"] p_draw)
    (d_l_pick : Df P w K mg base 2 "_law_pick" ["_law_pot_here", "_law_some"] p_pick) : Df P w K mg base 3 "_law_ties" ["_law_pot_here", "_law_many"] p_lties := by
  refine Df.body F hm bil_ties scl_ties (fun vs H Q h => ?_) (fun cdv A outer s H vs Q hr h => ?_)
  · obtain ⟨p, n, rfl, _⟩ := h; rfl
  · obtain ⟨p, n, rfl, hp, hn, k⟩ := h
    refine ⟨_, (pss_cons (ps_par3 (i := 3) (j := 4) (l := 5) rfl scl_ties.nd rfl rfl rfl (by decide) (by decide) (by decide) rfl rfl rfl (pa_cons (pe_c3 d_l_draw (hr.less (by decide)) rfl (pa_cons (pv 0) (pa_cons pe_int pa_nil))) (pa_cons (pe_op op_add pe_int (pe_c3 d_l_draw (hr.less (by decide)) rfl (pa_cons (pv 0) (pa_cons pe_int pa_nil)))) (pa_cons (pe_lst pa_nil) pa_nil))) (by rfl))
 (pss_cons (ps_for PassesOwn.never rfl (pi_range1 rfl T.range (pa_cons (pv 1) pa_nil)) (pg_name (i := 2) scl_ties.nd rfl (Or.inl rfl)) (pss_one (ps_for PassesOwn.never rfl (pi_range2 rfl T.range (pa_cons (pe_op op_add (pv 2) pe_int) (pa_cons (pv 1) pa_nil))) (pg_name (i := 6) scl_ties.nd rfl (Or.inl rfl)) (pss_cons (ps_set (i := 7) scl_ties.nd rfl (Or.inl rfl) (pe_m (pe_or (pe_cmpR op_eq (pv 6) (pe_op op_add (pv 2) pe_int) (nomark _)) (pe_one (pe_cmpR op_eq (pe_op op_sub (pv 6) (pv 2)) (pe_op op_sub (pv 1) pe_int) (nomark _))))))
 (pss_cons (ps_set (i := 8) scl_ties.nd rfl (Or.inl rfl) (pe_ix (ixL K) (pe_lst (pa_cons pe_bl (pa_cons pe_bl (pa_cons (pv 7) (pa_cons (pe_cmpR op_eq (pv 2) pe_int (nomark _)) (pa_cons (pv 7) (pa_cons pe_bl (pa_cons pe_bl (pa_cons pe_bl pa_nil))))))))) (pv 3) (fun _ _ => rfl)))
 (pss_one (ps_if (pt_m (PW.pt (pw_or (pt_val (pv 8)) (pw_or1 (PW.pt (pw_and (pt_cmpR op_gt (pv 3) pe_int (nomark _)) (pw_and1 (pt_cmpR op_eq (pe_c3 d_l_draw (hr.less (by decide)) rfl (pa_cons (pv 0) (pa_cons pe_int pa_nil))) pe_int (nomark _))))))))) (pss_cons (ps_set (i := 9) scl_ties.nd rfl (Or.inl rfl) (pe_c3 d_l_pick (hr.less (by decide)) rfl (pa_cons (pv 0) (pa_cons (pe_lst (pa_cons (pv 4) (pa_cons (pv 4) (pa_cons pe_int (pa_cons pe_int pa_nil))))) pa_nil))))
 (pss_one (ps_expr (pe_bm PySem.F.plainAttrs_list PySem.F.slot_list_append PySem.F.type_list_append mt_append (pv 5) (pa_cons (pe_tup (pa_cons (pv 2) (pa_cons (pv 6) (pa_cons (pe_m (pe_ifExp (pt_cmpR op_lt (pv 3) pe_int (nomark _)) (pv 4) (pv 9))) pa_nil)))) pa_nil))))) pss_nil)))))))
 (pss_one (ps_ret (pv 5))))), ?_⟩
    refine ⟨_, rfl, p, _, rfl, hp, by omega, by omega, fun st s0 s1 H1 e1 => ⟨_, rfl, p, _, rfl, e1 _ _ hp, by omega, by omega, fun od o0 o1 H2 e2 => ⟨_, _, rfl, rfl, Nat.zero_le _, fun fp hfp => ⟨_, _, _, rfl, ?_⟩⟩⟩⟩
    have g0 := Grow.start (e1.trans e2) hfp
    have n36 : n * n ≤ 6 * 6 := Nat.mul_le_mul hn hn
    have big : (3000 : Nat) < sizeLine := by decide
    refine ⟨_, rfl, _, rfl, by omega, by omega, ?_⟩
    refine for_range (lo := 0) (n := n) (fun i σ H' => ∃ va vb vr vt vo ts, σ = [some (.ref p), some (.int n), va, some (.int st), some (.int (1 + od)), some (.ref fp), vb, vr, vt, vo] ∧ Grow H H' fp (ts.map eTie) ∧ TiesFine n ts ∧ ts.length ≤ i * n)
      ⟨none, none, none, none, none, [], rfl, g0, ⟨fun t h => by simp at h, fun t h => by simp at h⟩, Nat.zero_le _⟩ ?_ ?_
    · rintro i σ H3 hi ⟨va, vb, vr, vt, vo, ts, rfl, g, fine, hl⟩
      refine ⟨_, rfl, _, _, rfl, rfl, _, rfl, _, _, rfl, by omega, ?_⟩
      have im : (i + 1) * n ≤ n * n := Nat.mul_le_mul (by omega) (Nat.le_refl _)
      rw [Nat.succ_mul] at im
      refine for_range (lo := (0 : Int) + i + 1) (n := ((n : Int) - ((0 : Int) + i + 1)).toNat) (fun j σ H' => ∃ vb vr vt vo ts, σ = [some (.ref p), some (.int n), some (.int ((0 : Int) + i)), some (.int st), some (.int (1 + od)), some (.ref fp), vb, vr, vt, vo] ∧ Grow H H' fp (ts.map eTie) ∧ TiesFine n ts ∧ ts.length ≤ i * n + j)
        ⟨vb, vr, vt, vo, ts, rfl, g, fine, hl⟩ ?_ ?_
      · rintro j σ H4 hj ⟨vb, vr, vt, vo, ts, rfl, g, fine, hl⟩
        -- is_ring
        refine ⟨fun v H' => (∃ r, v = .bl r) ∧ H' = H4, ?_, ?_⟩
        · refine ⟨_, rfl, _, rfl, _, _, rfl, rfl, rfl, _, rfl, ?_⟩
          refine iteAny (fun _ => ?_) (fun _ => ?_)
          · exact ⟨⟨_, rfl⟩, rfl⟩
          · exact ⟨_, rfl, _, rfl, _, _, rfl, rfl, _, rfl, _, _, rfl, rfl, rfl, ⟨_, rfl⟩, rfl⟩
        rintro v _ ⟨⟨r, rfl⟩, rfl⟩
        rename_i H4
        -- is_tied
        refine ⟨_, rfl, _, rfl, rfl, _, rfl, (by show 8 ≤ sizeLine; decide), fun bp hbp => ⟨_, rfl, ?_⟩⟩
        have g1 := g.grow (Ex.new (o := .lst ([false, true, r, decide (V.int ((0 : Int) + i) = V.int 0), r, false, false, false].map V.bl)) hbp)
        obtain ⟨b, hb⟩ : ∃ b, atI ([false, true, r, decide (V.int ((0 : Int) + i) = V.int 0), r, false, false, false].map V.bl) st = some (.bl b) := ⟨_, bools_get s0 (by simp; omega)⟩
        refine ⟨bp, _, st, _, rfl, rfl, SqL.of upd_same, hb, ?_⟩
        -- if is_tied or ..
        refine ⟨fun _ H' => Grow H H' fp (ts.map eTie), ?_, ?_⟩
        · refine ⟨_, rfl, _, rfl, ?_⟩
          refine iteAny (fun _ => ?_) (fun _ => ?_)
          · exact g1
          · refine ⟨_, rfl, _, _, rfl, rfl, _, rfl, ?_⟩
            refine iteAny (fun _ => ?_) (fun _ => ?_)
            · exact ⟨_, rfl, p, _, rfl, g1.ex _ _ hp, by omega, by omega, fun d _ _ H' e => ⟨rfl, _, rfl, g1.grow e⟩⟩
            · exact g1
        intro b2 H5 g2
        cases b2 with
        | false => exact iteF ⟨_, _, _, _, ts, rfl, g2, fine, by omega⟩
        | true =>
          refine iteT ?_
          refine ⟨_, rfl, _, rfl, _, rfl, sz4, fun lp hlp => ⟨p, lp, _, rfl, (g2.grow (Ex.new hlp)).ex _ _ hp, upd_same, by simp, by simp, fun ix x hx H6 e6 => ?_⟩⟩
          have g3 := g2.grow ((Ex.new hlp).trans e6)
          obtain ⟨z, rfl, z1, z2⟩ : ∃ z : Int, x = .int z ∧ 1 ≤ z ∧ z ≤ 4 := by
            have := List.mem_of_getElem? hx
            simp only [List.mem_cons, List.not_mem_nil, or_false] at this
            rcases this with rfl | rfl | rfl | rfl
            · exact ⟨_, rfl, by omega, by omega⟩
            · exact ⟨_, rfl, by omega, by omega⟩
            · exact ⟨_, rfl, by omega, by omega⟩
            · exact ⟨_, rfl, by omega, by omega⟩
          obtain ⟨F, hF, _⟩ := id g3.at_
          refine ⟨_, rfl, .inl ⟨rfl, _, SqL.of hF⟩, _, rfl, _, rfl, fun v H' => (∃ z, v = .int z ∧ 1 ≤ z ∧ z ≤ 4) ∧ H' = H6, ?_, ?_⟩
          · refine ⟨_, rfl, _, _, rfl, rfl, _, rfl, ?_⟩
            refine iteAny (fun _ => ?_) (fun _ => ?_)
            · exact ⟨_, rfl, ⟨_, rfl, by omega, by omega⟩, rfl⟩
            · exact ⟨_, rfl, ⟨_, rfl, by omega, by omega⟩, rfl⟩
          rintro v _ ⟨⟨y, rfl, y1, y2⟩, rfl⟩
          refine ⟨sz3, fun tp htp => ?_⟩
          have g4 := g3.grow (Ex.new (o := .tup [.int ((0 : Int) + i), .int ((0 : Int) + i + 1 + j), .int y]) htp)
          have hF4 := Ex.new (o := .tup [.int ((0 : Int) + i), .int ((0 : Int) + i + 1 + j), .int y]) htp _ _ hF
          have lF := g3.len hF
          rw [List.length_map] at lF
          have ntf : tp ≠ fp := (new_ne hF htp).symm
          have jn : j < n := by omega
          refine ⟨fp, F, _, rfl, rfl, hF4, by omega, ?_⟩
          refine ⟨_, _, _, _, ts ++ [((0 : Int) + i, (0 : Int) + i + 1 + j, y)], rfl, ?_, fine.snoc (by omega) (by omega) (by omega) y1 y2, by simp; omega⟩
          rw [List.map_append]
          exact g4.snoc hF4 (tie_mk (rm_at ntf upd_same))
      · rintro σ H4 ⟨vb, vr, vt, vo, ts, rfl, g, fine, hl⟩
        exact ⟨_, _, _, _, _, ts, rfl, g, fine, by rw [Nat.succ_mul]; omega⟩
    · rintro σ H3 ⟨va, vb, vr, vt, vo, ts, rfl, g, fine, hl⟩
      exact ⟨_, rfl, k fp ts H3 g.ex g.new g.dt fine (by omega)⟩
/-! ### _law_hands -/
def HandFine (h : Hand) : Prop := 0 ≤ h.1 ∧ h.1 < 1000 ∧ -1 ≤ h.2 ∧ h.2 ≤ 1
def p_lhands : Sp3 := fun vs H Q => ∃ (p : Addr) (n : Nat) (v : V) (ts : List Tie), vs = [.ref p, .int n, v] ∧ H p = some (PotO p) ∧ n ≤ 6 ∧ Dt H (eTies ts) v ∧ ts.length ≤ 1000 ∧
  ∀ q hs H', Ex H H' → H q = none → Dt H' (eHands hs) (.ref q) → (∀ h ∈ hs, HandFine h) → hs.length ≤ 6 → Q (.ref q) H'
theorem d_l_hands {f : Addr} {fd : FuncData} (F : Fun K "_law_hands" "_law_hands" sl_hands f fd) (hm : mg "_law_hands" = some (.ref f)) (T : Txt mg) (d_l_draw : Df P w K mg base 1 "_law_draw" ["_law_pot_here", "_law_size"] p_draw)
    (d_l_near : Df P w K mg base 1 "_law_near" ["_law_ties_here", "_law_part"] p_lnear) : Df P w K mg base 3 "_law_hands" ["_law_pot_here", "_law_many", "_law_ties_here"] p_lhands := by
  refine Df.body F hm bil_hands scl_hands (fun vs H Q h => ?_) (fun cdv A outer s H vs Q hr h => ?_)
  · obtain ⟨p, n, v, ts, rfl, _⟩ := h; rfl
  · obtain ⟨p, n, v, ts, rfl, hp, hn, hd, hl, k⟩ := h
    refine ⟨_, (pss_cons (ps_set (i := 3) scl_hands.nd rfl (Or.inl rfl) (pe_lst pa_nil))
 (pss_cons (ps_for PassesOwn.never rfl (pi_range1 rfl T.range (pa_cons (pv 1) pa_nil)) (pg_name (i := 4) scl_hands.nd rfl (Or.inl rfl)) (pss_one (ps_if (pt_m (PW.pt (pw_and (pt_cmpR (opIn K) (pe_callB (lenS K) (by rfl) T.n_len bt_len (pa_cons (pe_c3 d_l_near (hr.less (by decide)) rfl (pa_cons (pv 2) (pa_cons (pv 4) pa_nil))) pa_nil)) (pe_tup (pa_cons pe_int (pa_cons pe_int pa_nil))) (by with_unfolding_all rfl)) (pw_and1 (pt_cmpR op_gt (pe_c3 d_l_draw (hr.less (by decide)) rfl (pa_cons (pv 0) (pa_cons pe_int pa_nil))) pe_int (nomark _)))))) (pss_one (ps_expr (pe_bm PySem.F.plainAttrs_list PySem.F.slot_list_append PySem.F.type_list_append mt_append (pv 3) (pa_cons (pe_tup (pa_cons (pv 4) (pa_cons (pe_op op_sub pe_int (pe_op op_mul pe_int (pe_c3 d_l_draw (hr.less (by decide)) rfl (pa_cons (pv 0) (pa_cons pe_int pa_nil))))) pa_nil))) pa_nil)))) pss_nil)))
 (pss_one (ps_ret (pv 3))))), ?_⟩
    refine ⟨Nat.zero_le _, fun fp hfp => ?_⟩
    have g0 := Grow.start (Ex.refl H) hfp
    have big : (3000 : Nat) < sizeLine := by decide
    refine ⟨_, rfl, _, rfl, by omega, by omega, ?_⟩
    refine for_range (lo := 0) (n := n) (fun i σ H' => ∃ va hs, σ = [some (.ref p), some (.int n), some v, some (.ref fp), va] ∧ Grow H H' fp (hs.map eHand) ∧ (∀ h ∈ hs, HandFine h) ∧ hs.length ≤ i)
      ⟨none, [], rfl, g0, fun h hh => by simp at hh, Nat.le_refl _⟩ ?_ ?_
    · rintro i σ H3 hi ⟨va, hs, rfl, g, fine, hl2⟩
      refine ⟨fun _ H' => Grow H H' fp (hs.map eHand), ?_, ?_⟩
      · refine ⟨_, rfl, _, rfl, v, ts, _, rfl, hd.mono g.ex, hl, fun q ns H4 e4 hq => ?_⟩
        have g4 := g.grow e4
        refine ⟨q, _, rfl, .inl (SqL.of hq), sz2, fun tp htp => ?_⟩
        have g5 := g4.grow (Ex.new (o := .tup [.int 3, .int 4]) htp)
        refine ⟨tp, _, rfl, .inr (SqT.of upd_same), rfl, rfl, _, rfl, ?_⟩
        refine iteAny (fun _ => ?_) (fun _ => g5)
        exact ⟨_, rfl, p, _, rfl, g5.ex _ _ hp, by omega, by omega, fun d _ _ H' e => ⟨_, _, rfl, rfl, _, rfl, g5.grow e⟩⟩
      intro b2 H5 g2
      cases b2 with
      | false => exact iteF ⟨_, hs, rfl, g2, fine, by omega⟩
      | true =>
        refine iteT ?_
        obtain ⟨F, hF, _⟩ := id g2.at_
        refine ⟨_, rfl, .inl ⟨rfl, _, SqL.of hF⟩, _, rfl, _, rfl, p, _, rfl, g2.ex _ _ hp, by omega, by omega, fun d d0 d1 H6 e6 => ⟨_, _, rfl, rfl, .inl ⟨by omega, by omega⟩, _, _, rfl, rfl, sz2, fun tp htp => ?_⟩⟩
        have g3 := g2.grow e6
        have g4 := g3.grow (Ex.new (o := .tup [.int ((0 : Int) + i), .int (1 - 2 * d)]) htp)
        have hF4 := Ex.new (o := .tup [.int ((0 : Int) + i), .int (1 - 2 * d)]) htp _ _ (e6 _ _ hF)
        have lF := g2.len hF
        rw [List.length_map] at lF
        have ntf : tp ≠ fp := (new_ne (e6 _ _ hF) htp).symm
        refine ⟨fp, F, _, rfl, rfl, hF4, by omega, ?_⟩
        refine ⟨_, hs ++ [((0 : Int) + i, 1 - 2 * d)], rfl, ?_, fun h hh => ?_, by simp; omega⟩
        · rw [List.map_append]
          exact g4.snoc hF4 (hand_mk (rm_at ntf upd_same))
        · rcases List.mem_append.mp hh with hh | hh
          · exact fine h hh
          · have : h = ((0 : Int) + i, 1 - 2 * d) := by simpa using hh
            subst this
            refine ⟨?_, ?_, ?_, ?_⟩ <;> dsimp only <;> omega
    · rintro σ H3 ⟨va, hs, rfl, g, fine, hl⟩
      exact ⟨_, rfl, k fp hs H3 g.ex g.new g.dt fine (by omega)⟩
/-! ### _law_sides -/
def SideFine (t : Tie) : Prop := 0 ≤ t.1 ∧ t.1 < 1000 ∧ 0 ≤ t.2.1 ∧ t.2.1 < 1000 ∧ -1 ≤ t.2.2 ∧ t.2.2 ≤ 1
def p_lsides : Sp3 := fun vs H Q => ∃ (p : Addr) (v : V) (ts : List Tie), vs = [.ref p, v] ∧ H p = some (PotO p) ∧ Dt H (eTies ts) v ∧ ts.length ≤ 36 ∧ (∀ t ∈ ts, 0 ≤ t.1 ∧ t.1 < 1000 ∧ 0 ≤ t.2.1 ∧ t.2.1 < 1000) ∧
  ∀ q ss H', Ex H H' → H q = none → Dt H' (eTies ss) (.ref q) → (∀ t ∈ ss, SideFine t) → ss.length ≤ 36 → Q (.ref q) H'
theorem d_l_sides {f : Addr} {fd : FuncData} (F : Fun K "_law_sides" "_law_sides" sl_sides f fd) (hm : mg "_law_sides" = some (.ref f)) (T : Txt mg) (d_l_draw : Df P w K mg base 1 "_law_draw" ["_law_pot_here", "_law_size"] p_draw)
    (d_l_near : Df P w K mg base 1 "_law_near" ["_law_ties_here", "_law_part"] p_lnear) : Df P w K mg base 3 "_law_sides" ["_law_pot_here", "_law_ties_here"] p_lsides := by
  refine Df.body F hm bil_sides scl_sides (fun vs H Q h => ?_) (fun cdv A outer s H vs Q hr h => ?_)
  · obtain ⟨p, v, ts, rfl, _⟩ := h; rfl
  · obtain ⟨p, v, ts, rfl, hp, ⟨tp, txs, rfl, htp, htx⟩, hl, hb, k⟩ := h
    have lx : txs.length = ts.length := by rw [htx.length, List.length_map]
    have hd : Dt H (eTies ts) (.ref tp) := ⟨tp, txs, rfl, htp, htx⟩
    refine ⟨_, (pss_cons (ps_set (i := 2) scl_sides.nd rfl (Or.inl rfl) (pe_lst pa_nil))
 (pss_cons (ps_for PassesOwn.never rfl (piL K (pv 1)) (pgT K 3 (pgs_cons (pg_name (i := 3) scl_sides.nd rfl (Or.inl rfl)) (pgs_cons (pg_name (i := 4) scl_sides.nd rfl (Or.inl rfl)) (pgs_cons (pg_name (i := 5) scl_sides.nd rfl (Or.inl rfl)) pgs_nil)))) (pss_cons (ps_set (i := 6) scl_sides.nd rfl (Or.inl rfl) (pe_lst (pa_cons (pe_callB (lenS K) (by rfl) T.n_len bt_len (pa_cons (pe_c3 d_l_near (hr.less (by decide)) rfl (pa_cons (pv 1) (pa_cons (pv 3) pa_nil))) pa_nil)) (pa_cons (pe_callB (lenS K) (by rfl) T.n_len bt_len (pa_cons (pe_c3 d_l_near (hr.less (by decide)) rfl (pa_cons (pv 1) (pa_cons (pv 4) pa_nil))) pa_nil)) pa_nil))))
 (pss_one (ps_if (pt_m (PW.pt (pw_and (pt_cmpR op_eq (pv 5) pe_int (nomark _)) (pw_and (pt_cmpR op_gt (pe_callB (mnL K) (by rfl) T.n_min bt_min (pa_cons (pv 6) pa_nil)) pe_int (nomark _)) (pw_and (pt_cmpR op_lt (pe_callB (mxL K) (by rfl) T.n_max bt_max (pa_cons (pv 6) pa_nil)) pe_int (nomark _)) (pw_and1 (pt_cmpR op_gt (pe_c3 d_l_draw (hr.less (by decide)) rfl (pa_cons (pv 0) (pa_cons pe_int pa_nil))) pe_int (nomark _)))))))) (pss_one (ps_expr (pe_bm PySem.F.plainAttrs_list PySem.F.slot_list_append PySem.F.type_list_append mt_append (pv 2) (pa_cons (pe_tup (pa_cons (pv 3) (pa_cons (pv 4) (pa_cons (pe_op op_sub pe_int (pe_op op_mul pe_int (pe_c3 d_l_draw (hr.less (by decide)) rfl (pa_cons (pv 0) (pa_cons pe_int pa_nil))))) pa_nil)))) pa_nil)))) pss_nil))))
 (pss_one (ps_ret (pv 2))))), ?_⟩
    refine ⟨Nat.zero_le _, fun fp hfp => ?_⟩
    have g0 := Grow.start (Ex.refl H) hfp
    have big : (3000 : Nat) < sizeLine := by decide
    refine ⟨_, rfl, tp, rfl, ⟨_, SqL.of (g0.ex _ _ htp)⟩, ?_⟩
    refine for_list (K := K) (a := tp) (xs := txs) (fun i σ H' => ∃ va vb vc vd ss, σ = [some (.ref p), some (.ref tp), some (.ref fp), va, vb, vc, vd] ∧ Grow H H' fp (ss.map eTie) ∧ (∀ t ∈ ss, SideFine t) ∧ ss.length ≤ i)
      ⟨none, none, none, none, [], rfl, g0, fun h hh => by simp at hh, Nat.le_refl _⟩ (fun i σ H' _ ⟨_, _, _, _, _, _, g, _⟩ => SqL.of (g.ex _ _ htp)) ?_ ?_
    · rintro i x σ H3 hi ⟨va, vb, vc, vd, ss, rfl, g, fine, hl2⟩
      obtain ⟨t, ht, hx⟩ := item' htx hi
      obtain ⟨q, rfl, hq⟩ := tie_at hx
      obtain ⟨b1, b2, b3, b4⟩ := hb t (List.mem_of_getElem? ht)
      have il := (List.getElem?_eq_some_iff.mp hi).1
      refine ⟨q, _, rfl, SqT.of (g.ex _ _ hq), rfl, _, _, rfl, _, _, rfl, _, _, rfl, rfl, ?_⟩
      -- ends
      refine ⟨_, rfl, _, rfl, _, ts, _, rfl, hd.mono g.ex, by omega, fun q1 ns1 H4 e4 hq1 => ⟨q1, _, rfl, .inl (SqL.of hq1), ?_⟩⟩
      have g4 := g.grow e4
      refine ⟨_, rfl, _, rfl, _, ts, _, rfl, hd.mono g4.ex, by omega, fun q2 ns2 H5 e5 hq2 => ⟨q2, _, rfl, .inl (SqL.of hq2), sz2, fun ep hep => ?_⟩⟩
      have g5 := (g4.grow e5).grow (Ex.new (o := .lst ([((ns1.map V.int).length : Int), ((ns2.map V.int).length : Int)].map V.int)) hep)
      have hE : upd H5 ep (.lst ([((ns1.map V.int).length : Int), ((ns2.map V.int).length : Int)].map V.int)) ep = some (.lst ([((ns1.map V.int).length : Int), ((ns2.map V.int).length : Int)].map V.int)) := upd_same
      generalize hG : upd H5 ep (.lst ([((ns1.map V.int).length : Int), ((ns2.map V.int).length : Int)].map V.int)) = G at g5 hE
      refine ⟨fun _ H' => Grow H H' fp (ss.map eTie), ?_, ?_⟩
      · refine ⟨_, rfl, rfl, _, rfl, ?_⟩
        refine iteAny (fun _ => ?_) (fun _ => hG ▸ g5)
        refine ⟨_, rfl, ep, [((ns1.map V.int).length : Int), ((ns2.map V.int).length : Int)], rfl, SqL.of upd_same, (by show 0 < 2; omega), fun m _ _ => ⟨_, _, rfl, rfl, _, rfl, ?_⟩⟩
        refine iteAny (fun _ => ?_) (fun _ => hG ▸ g5)
        refine ⟨_, rfl, ep, [((ns1.map V.int).length : Int), ((ns2.map V.int).length : Int)], rfl, SqL.of upd_same, (by show 0 < 2; omega), fun m _ _ => ⟨_, _, rfl, rfl, _, rfl, ?_⟩⟩
        refine iteAny (fun _ => ?_) (fun _ => hG ▸ g5)
        refine ⟨_, rfl, p, _, rfl, ?_, by omega, by omega, fun d _ _ H' e => ⟨_, _, rfl, rfl, _, rfl, ?_⟩⟩
        · exact (hG ▸ g5 : Grow H _ fp (ss.map eTie)).ex _ _ hp
        · exact (hG ▸ g5 : Grow H _ fp (ss.map eTie)).grow e
      intro b2' H6 g6
      cases b2' with
      | false => exact iteF ⟨_, _, _, _, ss, rfl, g6, fine, by omega⟩
      | true =>
        refine iteT ?_
        obtain ⟨F, hF, _⟩ := id g6.at_
        refine ⟨_, rfl, .inl ⟨rfl, _, SqL.of hF⟩, _, rfl, _, rfl, _, rfl, p, _, rfl, g6.ex _ _ hp, by omega, by omega, fun d d0 d1 H7 e7 => ⟨_, _, rfl, rfl, .inl ⟨by omega, by omega⟩, _, _, rfl, rfl, sz3, fun tp' htp' => ?_⟩⟩
        have g7 := g6.grow e7
        have g8 := g7.grow (Ex.new (o := .tup [.int t.1, .int t.2.1, .int (1 - 2 * d)]) htp')
        have hF4 := Ex.new (o := .tup [.int t.1, .int t.2.1, .int (1 - 2 * d)]) htp' _ _ (e7 _ _ hF)
        have lF := g6.len hF
        rw [List.length_map] at lF
        have ntf : tp' ≠ fp := (new_ne (e7 _ _ hF) htp').symm
        refine ⟨fp, F, _, rfl, rfl, hF4, by omega, ?_⟩
        refine ⟨_, _, _, _, ss ++ [(t.1, t.2.1, 1 - 2 * d)], rfl, ?_, fun h hh => ?_, by simp; omega⟩
        · rw [List.map_append]
          exact g8.snoc hF4 (tie_mk (rm_at ntf upd_same))
        · rcases List.mem_append.mp hh with hh | hh
          · exact fine h hh
          · have : h = (t.1, t.2.1, 1 - 2 * d) := by simpa using hh
            subst this
            refine ⟨b1, b2, b3, b4, ?_, ?_⟩ <;> dsimp only <;> omega
    · rintro σ H3 ⟨va, vb, vc, vd, ss, rfl, g, fine, hl3⟩
      exact ⟨_, rfl, k fp ss H3 g.ex g.new g.dt fine (by omega)⟩
end
end W3

end
section
set_option Elab.async false
set_option linter.all false
set_option maxRecDepth 100000
set_option maxHeartbeats 4000000
namespace W3
open PySem PySem.Spec PyProof.Rows L2 M83
open Evl (Ex)
def PartFine (p : Part) : Prop := (∀ c ∈ p.1.cps.toList, c < 128) ∧ p.1.cps.size ≤ 4 ∧ -9 ≤ p.2 ∧ p.2 ≤ 9
theorem part_mk {H : Hp} {p : Addr} {a : Str} {b : Int} (h : H p = some (.tup [.str a, .int b])) : Dt H (ePart (a, b)) (.ref p) := ⟨p, _, rfl, h, _, _, rfl, rfl, _, _, rfl, rfl, rfl⟩
theorem part_at {H : Hp} {t : Part} {v : V} (h : Dt H (ePart t) v) : ∃ p, v = .ref p ∧ H p = some (.tup [.str t.1, .int t.2]) := by
  obtain ⟨p, xs, rfl, hp, x, r, rfl, rfl, y, r2, rfl, rfl, rfl⟩ := h
  exact ⟨p, rfl, hp⟩
structure WebFine (m : Nat) (wb : Web) : Prop where
  pl : wb.parts.length ≤ m
  pf : ∀ q ∈ wb.parts, PartFine q
  tf : TiesFine wb.parts.length wb.ties
  tl : wb.ties.length ≤ 36
  hf : ∀ h ∈ wb.hands, HandFine h
  hl : wb.hands.length ≤ 6
  sf : ∀ t ∈ wb.sides, SideFine t
  sl : wb.sides.length ≤ 36
section
variable {σ : L2.St} {H : Hp} {p : Addr} {Q : VK}
/-- pick(pot, [four parts]) -/
theorem pick4 (a b c d : Part) {ta tb tc td : TE} (qa : ∀ H (Q : VK), Q (.int a.2) H → ta σ H Q) (qb : ∀ H (Q : VK), Q (.int b.2) H → tb σ H Q) (qc : ∀ H (Q : VK), Q (.int c.2) H → tc σ H Q) (qd : ∀ H (Q : VK), Q (.int d.2) H → td σ H Q) (hs : σ[0]? = some (some (.ref p))) (hp : H p = some (PotO p)) (k : ∀ q x H', (q = a ∨ q = b ∨ q = c ∨ q = d) → Ex H H' → (∀ fp o, H fp = some o → Dt (rm fp H') (ePart q) x) → Q x H') :
    tC3 p_pick (tCons (tVar 0) (tCons (tLst (tCons (tTup (tCons (tC (.str a.1)) (tCons ta tNil))) (tCons (tTup (tCons (tC (.str b.1)) (tCons tb tNil))) (tCons (tTup (tCons (tC (.str c.1)) (tCons tc tNil))) (tCons (tTup (tCons (tC (.str d.1)) (tCons td tNil))) tNil))))) tNil)) σ H Q := by
  refine ⟨_, hs, qa _ _ ⟨sz2, fun a1 h1 => qb _ _ ⟨sz2, fun a2 h2 => qc _ _ ⟨sz2, fun a3 h3 => qd _ _ ⟨sz2, fun a4 h4 => ⟨sz4, fun lp hlp => ?_⟩⟩⟩⟩⟩⟩
  have e1 := Ex.new (o := .tup [.str a.1, .int a.2]) h1
  have e2 := Ex.new (o := .tup [.str b.1, .int b.2]) h2
  have e3 := Ex.new (o := .tup [.str c.1, .int c.2]) h3
  have e4 := Ex.new (o := .tup [.str d.1, .int d.2]) h4
  have e5 := Ex.new (o := .lst [.ref a1, .ref a2, .ref a3, .ref a4]) hlp
  have e25 := e2.trans (e3.trans (e4.trans e5))
  have e35 := e3.trans (e4.trans e5)
  have e45 := e4.trans e5
  refine ⟨p, lp, _, rfl, (e1.trans e25) _ _ hp, upd_same, by simp, by simp, fun ix x hx H6 e6 => ?_⟩
  have n1 := h1
  have n2 := Evl.fresh_back e1 h2
  have n3 := Evl.fresh_back (e1.trans e2) h3
  have n4 := Evl.fresh_back ((e1.trans e2).trans e3) h4
  have := List.mem_of_getElem? hx
  simp only [List.mem_cons, List.not_mem_nil, or_false] at this
  rcases this with rfl | rfl | rfl | rfl
  · exact k a _ H6 (.inl rfl) ((e1.trans e25).trans e6) fun fp o hf => part_mk (rm_at (new_ne hf n1).symm (e6 _ _ (e25 _ _ upd_same)))
  · exact k b _ H6 (.inr (.inl rfl)) ((e1.trans e25).trans e6) fun fp o hf => part_mk (rm_at (new_ne hf n2).symm (e6 _ _ (e35 _ _ upd_same)))
  · exact k c _ H6 (.inr (.inr (.inl rfl))) ((e1.trans e25).trans e6) fun fp o hf => part_mk (rm_at (new_ne hf n3).symm (e6 _ _ (e45 _ _ upd_same)))
  · exact k d _ H6 (.inr (.inr (.inr rfl))) ((e1.trans e25).trans e6) fun fp o hf => part_mk (rm_at (new_ne hf n4).symm (e6 _ _ (e5 _ _ upd_same)))
theorem pick3 (a b c : Part) (hs : σ[0]? = some (some (.ref p))) (hp : H p = some (PotO p)) (k : ∀ q x H', (q = a ∨ q = b ∨ q = c) → Ex H H' → (∀ fp o, H fp = some o → Dt (rm fp H') (ePart q) x) → Q x H') :
    tC3 p_pick (tCons (tVar 0) (tCons (tLst (tCons (tTup (tCons (tC (.str a.1)) (tCons (tC (.int a.2)) tNil))) (tCons (tTup (tCons (tC (.str b.1)) (tCons (tC (.int b.2)) tNil))) (tCons (tTup (tCons (tC (.str c.1)) (tCons (tC (.int c.2)) tNil))) tNil)))) tNil)) σ H Q := by
  refine ⟨_, hs, sz2, fun a1 h1 => ⟨sz2, fun a2 h2 => ⟨sz2, fun a3 h3 => ⟨sz3, fun lp hlp => ?_⟩⟩⟩⟩
  have e1 := Ex.new (o := .tup [.str a.1, .int a.2]) h1
  have e2 := Ex.new (o := .tup [.str b.1, .int b.2]) h2
  have e3 := Ex.new (o := .tup [.str c.1, .int c.2]) h3
  have e5 := Ex.new (o := .lst [.ref a1, .ref a2, .ref a3]) hlp
  have e25 := e2.trans (e3.trans e5)
  have e35 := e3.trans e5
  refine ⟨p, lp, _, rfl, (e1.trans e25) _ _ hp, upd_same, by simp, by simp, fun ix x hx H6 e6 => ?_⟩
  have n1 := h1
  have n2 := Evl.fresh_back e1 h2
  have n3 := Evl.fresh_back (e1.trans e2) h3
  have := List.mem_of_getElem? hx
  simp only [List.mem_cons, List.not_mem_nil, or_false] at this
  rcases this with rfl | rfl | rfl
  · exact k a _ H6 (.inl rfl) ((e1.trans e25).trans e6) fun fp o hf => part_mk (rm_at (new_ne hf n1).symm (e6 _ _ (e25 _ _ upd_same)))
  · exact k b _ H6 (.inr (.inl rfl)) ((e1.trans e25).trans e6) fun fp o hf => part_mk (rm_at (new_ne hf n2).symm (e6 _ _ (e35 _ _ upd_same)))
  · exact k c _ H6 (.inr (.inr rfl)) ((e1.trans e25).trans e6) fun fp o hf => part_mk (rm_at (new_ne hf n3).symm (e6 _ _ (e5 _ _ upd_same)))
end
section
variable {P : Program} {w : World} {K : PySem.W.Frag} {mg : Str → Option Value} {base : Heap}
/-! ### _law_web -/
def p_web : Sp3 := fun vs H Q => ∃ (p : Addr) (lo hi : Int) (m : Nat), vs = [.ref p, .int lo, .int hi] ∧ H p = some (PotO p) ∧ 0 ≤ lo ∧ lo ≤ hi ∧ hi = m ∧ m ≤ 6 ∧ ∀ wv wb H', Ex H H' → Dt H' (eWeb wb) wv → WebFine m wb → Q wv H'
theorem d_l_web {f : Addr} {fd : FuncData} (F : Fun K "_law_web" "_law_web" sl_web f fd) (hm : mg "_law_web" = some (.ref f)) (T : Txt mg) (d_l_draw : Df P w K mg base 1 "_law_draw" ["_law_pot_here", "_law_size"] p_draw)
    (d_l_pick : Df P w K mg base 2 "_law_pick" ["_law_pot_here", "_law_some"] p_pick) (d_l_ties : Df P w K mg base 3 "_law_ties" ["_law_pot_here", "_law_many"] p_lties)
    (d_l_hands : Df P w K mg base 3 "_law_hands" ["_law_pot_here", "_law_many", "_law_ties_here"] p_lhands) (d_l_sides : Df P w K mg base 3 "_law_sides" ["_law_pot_here", "_law_ties_here"] p_lsides) :
    Df P w K mg base 4 "_law_web" ["_law_pot_here", "_law_least", "_law_most"] p_web := by
  refine Df.body F hm bil_web scl_web (fun vs H Q h => ?_) (fun cdv A outer s H vs Q hr h => ?_)
  · obtain ⟨p, lo, hi, m, rfl, _⟩ := h; rfl
  · obtain ⟨p, lo, hi, m, rfl, hp, l0, l1, em, hm6, k⟩ := h
    refine ⟨_, (pss_cons (ps_par (i := 7) (j := 8) rfl scl_web.nd rfl rfl (by decide) rfl rfl (pa_cons (pe_op op_add (pv 1) (pe_c3 d_l_draw (hr.less (by decide)) rfl (pa_cons (pv 0) (pa_cons (pe_op op_add (pe_op op_sub (pv 2) (pv 1)) pe_int) pa_nil)))) (pa_cons (pe_c3 d_l_draw (hr.less (by decide)) rfl (pa_cons (pv 0) (pa_cons pe_int pa_nil))) pa_nil)) (by rfl))
 (pss_cons (ps_set (i := 3) scl_web.nd rfl (Or.inl rfl) (pe_lst pa_nil))
 (pss_cons (ps_for PassesOwn.never rfl (pi_range1 rfl T.range (pa_cons (pv 7) pa_nil)) (pg_name (i := 4) scl_web.nd rfl (Or.inl rfl)) (pss_cons (ps_set (i := 9) scl_web.nd rfl (Or.inl rfl) (pe_tup (pa_cons pe_str (pa_cons pe_int pa_nil))))
 (pss_cons (ps_m (ps_if (pt_cmpR op_eq (pv 8) pe_int (nomark _)) (pss_one (ps_set (i := 9) scl_web.nd rfl (Or.inl rfl) (pe_c3 d_l_pick (hr.less (by decide)) rfl (pa_cons (pv 0) (pa_cons (pe_lst (pa_cons (pe_tup (pa_cons pe_str (pa_cons pe_int pa_nil))) (pa_cons (pe_tup (pa_cons pe_str (pa_cons pe_int pa_nil))) (pa_cons (pe_tup (pa_cons pe_str (pa_cons pe_int pa_nil))) (pa_cons (pe_tup (pa_cons pe_str (pa_cons pe_int pa_nil))) pa_nil))))) pa_nil))))) pss_nil))
 (pss_cons (ps_m (ps_if (pt_cmpR op_eq (pv 8) pe_int (nomark _)) (pss_one (ps_set (i := 9) scl_web.nd rfl (Or.inl rfl) (pe_tup (pa_cons (pe_c3 d_l_pick (hr.less (by decide)) rfl (pa_cons (pv 0) (pa_cons (pe_lst (pa_cons pe_str (pa_cons pe_str (pa_cons pe_str pa_nil)))) pa_nil))) (pa_cons (pe_op op_sub (pe_c3 d_l_draw (hr.less (by decide)) rfl (pa_cons (pv 0) (pa_cons pe_int pa_nil))) pe_int) pa_nil))))) pss_nil))
 (pss_one (ps_expr (pe_bm PySem.F.plainAttrs_list PySem.F.slot_list_append PySem.F.type_list_append mt_append (pv 3) (pa_cons (pv 9) pa_nil))))))))
 (pss_cons (ps_set (i := 5) scl_web.nd rfl (Or.inl rfl) (pe_c3 d_l_ties (hr.less (by decide)) rfl (pa_cons (pv 0) (pa_cons (pv 7) pa_nil))))
 (pss_cons (ps_set (i := 6) scl_web.nd rfl (Or.inl rfl) (pe_c3 d_l_hands (hr.less (by decide)) rfl (pa_cons (pv 0) (pa_cons (pv 7) (pa_cons (pv 5) pa_nil)))))
 (pss_one (ps_ret (pe_tup (pa_cons (pv 3) (pa_cons (pv 5) (pa_cons (pv 6) (pa_cons (pe_c3 d_l_sides (hr.less (by decide)) rfl (pa_cons (pv 0) (pa_cons (pv 5) pa_nil))) pa_nil)))))))))))), ?_⟩
    refine ⟨_, rfl, _, rfl, _, rfl, _, rfl, _, _, rfl, rfl, _, _, rfl, rfl, p, _, rfl, hp, by omega, by omega, fun d d0 d1 H1 e1 => ⟨_, _, rfl, rfl, _, rfl, p, _, rfl, e1 _ _ hp, by omega, by omega, fun st s0 s1 H2 e2 => ⟨_, _, rfl, ?_⟩⟩⟩
    refine ⟨Nat.zero_le _, fun fp hfp => ?_⟩
    have g0 := Grow.start (e1.trans e2) hfp
    have big : (3000 : Nat) < sizeLine := by decide
    have hn : lo + d = ((lo + d).toNat : Int) := by omega
    have hn2 : (lo + d).toNat ≤ m := by omega
    refine ⟨_, rfl, _, rfl, by omega, by omega, ?_⟩
    refine for_range (lo := 0) (n := (lo + d).toNat) (fun i σ H' => ∃ va vb ps, σ = [some (.ref p), some (.int lo), some (.int hi), some (.ref fp), va, none, none, some (.int (lo + d)), some (.int st), vb] ∧ Grow H H' fp (ps.map ePart) ∧ (∀ q ∈ ps, PartFine q) ∧ ps.length = i)
      ⟨none, none, [], rfl, g0, fun h hh => by simp at hh, rfl⟩ ?_ ?_
    · rintro i σ H3 hi' ⟨va, vb, ps, rfl, g, fine, hl⟩
      refine ⟨sz2, fun tp htp => ?_⟩
      obtain ⟨F, hF, _⟩ := id g.at_
      have ntf : tp ≠ fp := (new_ne hF htp).symm
      have g1 := g.grow (Ex.new (o := .tup [.str "k", .int 0]) htp)
      have d1' : Dt (rm fp (upd H3 tp (.tup [.str "k", .int 0]))) (ePart ("k", 0)) (.ref tp) := part_mk (rm_at ntf upd_same)
      have pk : PartFine ("k", 0) := ⟨by decide +kernel, by decide +kernel, by decide, by decide⟩
      refine ⟨fun σ' H' => ∃ x q, σ' = [some (.ref p), some (.int lo), some (.int hi), some (.ref fp), some (.int ((0 : Int) + i)), none, none, some (.int (lo + d)), some (.int st), some x] ∧ Grow H H' fp (ps.map ePart) ∧ Dt (rm fp H') (ePart q) x ∧ PartFine q, ?_, ?_⟩
      · refine ⟨_, rfl, rfl, _, rfl, ?_⟩
        refine iteAny (fun _ => ?_) (fun _ => ⟨_, ("k", 0), rfl, g1, d1', pk⟩)
        refine pick4 ("k", 0) ("c", 0) ("k", 0) ("k", 1) (fun _ _ q => q) (fun _ _ q => q) (fun _ _ q => q) (fun _ _ q => q) rfl (g1.ex _ _ hp) fun q x H4 hq e4 hd => ?_
        obtain ⟨F1, hF1, _⟩ := id g1.at_
        refine ⟨x, q, rfl, g1.grow e4, hd fp _ hF1, ?_⟩
        rcases hq with rfl | rfl | rfl | rfl
        · exact pk
        · exact ⟨by decide +kernel, by decide +kernel, by decide, by decide⟩
        · exact pk
        · exact ⟨by decide +kernel, by decide +kernel, by decide, by decide⟩
      rintro σ' H4 ⟨x, q, rfl, g4, dx, fq⟩
      refine ⟨fun σ' H' => ∃ x q, σ' = [some (.ref p), some (.int lo), some (.int hi), some (.ref fp), some (.int ((0 : Int) + i)), none, none, some (.int (lo + d)), some (.int st), some x] ∧ Grow H H' fp (ps.map ePart) ∧ Dt (rm fp H') (ePart q) x ∧ PartFine q, ?_, ?_⟩
      · refine ⟨_, rfl, rfl, _, rfl, ?_⟩
        refine iteAny (fun _ => ?_) (fun _ => ⟨_, q, rfl, g4, dx, fq⟩)
        refine ⟨_, rfl, sz3, fun lp hlp => ⟨p, lp, _, rfl, (g4.grow (Ex.new hlp)).ex _ _ hp, upd_same, by simp, by simp, fun ix y hy H6 e6 => ?_⟩⟩
        have g6 := (g4.grow (Ex.new hlp)).grow e6
        refine ⟨_, rfl, p, _, rfl, g6.ex _ _ hp, by omega, by omega, fun d' d0' d1' H7 e7 => ⟨_, _, rfl, rfl, sz2, fun tp2 htp2 => ?_⟩⟩
        have g7 := g6.grow e7
        obtain ⟨F7, hF7, _⟩ := id g7.at_
        have ntf2 : tp2 ≠ fp := (new_ne hF7 htp2).symm
        have := List.mem_of_getElem? hy
        simp only [List.mem_cons, List.not_mem_nil, or_false] at this
        rcases this with rfl | rfl | rfl
        · exact ⟨_, ("k", d' - 9), rfl, g7.grow (Ex.new htp2), part_mk (rm_at ntf2 upd_same), (by decide +kernel : ∀ c ∈ (Str.ofString "k").cps.toList, c < 128), (by decide +kernel : (Str.ofString "k").cps.size ≤ 4), by dsimp only; omega, by dsimp only; omega⟩
        · exact ⟨_, ("on", d' - 9), rfl, g7.grow (Ex.new htp2), part_mk (rm_at ntf2 upd_same), (by decide +kernel : ∀ c ∈ (Str.ofString "on").cps.toList, c < 128), (by decide +kernel : (Str.ofString "on").cps.size ≤ 4), by dsimp only; omega, by dsimp only; omega⟩
        · exact ⟨_, ("zzzz", d' - 9), rfl, g7.grow (Ex.new htp2), part_mk (rm_at ntf2 upd_same), (by decide +kernel : ∀ c ∈ (Str.ofString "zzzz").cps.toList, c < 128), (by decide +kernel : (Str.ofString "zzzz").cps.size ≤ 4), by dsimp only; omega, by dsimp only; omega⟩
      rintro σ' H5 ⟨x, q, rfl, g5, dx, fq⟩
      obtain ⟨F5, hF5, _⟩ := id g5.at_
      have lF := g5.len hF5
      rw [List.length_map] at lF
      refine ⟨_, rfl, .inl ⟨rfl, _, SqL.of hF5⟩, _, rfl, fp, F5, _, rfl, rfl, hF5, by omega, ?_⟩
      refine ⟨_, _, ps ++ [q], rfl, ?_, fun r hr => ?_, by simp; omega⟩
      · rw [List.map_append]
        exact g5.snoc hF5 dx
      · rcases List.mem_append.mp hr with hr | hr
        · exact fine r hr
        · have : r = q := by simpa using hr
          rw [this]; exact fq
    · rintro σ H3 ⟨va, vb, ps, rfl, g, fine, hl⟩
      -- ties, hands
      refine ⟨_, rfl, _, rfl, p, (lo + d).toNat, congrArg (fun z => [V.ref p, V.int z]) hn, g.ex _ _ hp, by omega, fun q ts H4 e4 _ dt ft lt => ?_⟩
      have g4 := g.grow e4
      refine ⟨_, rfl, _, rfl, _, rfl, p, (lo + d).toNat, _, ts, congrArg (fun z => [V.ref p, V.int z, V.ref q]) hn, g4.ex _ _ hp, by omega, dt, by omega, fun q2 hs H5 e5 _ dh fh lh => ?_⟩
      have g5 := g4.grow e5
      refine ⟨_, rfl, _, rfl, _, rfl, _, rfl, _, rfl, p, _, ts, rfl, g5.ex _ _ hp, dt.mono e5, lt, fun t ht => ?_, fun q3 ss H6 e6 _ ds fs ls => ⟨sz4, fun wp hwp => ?_⟩⟩
      · have := ft.1 t ht
        omega
      · have e7 := Ex.new (o := .tup [.ref fp, .ref q, .ref q2, .ref q3]) hwp
        refine k (.ref wp) ⟨ps, ts, hs, ss⟩ _ ((g5.ex.trans e6).trans e7) (web_mk upd_same (((g5.grow e6).grow e7).dt) (dt.mono ((e5.trans e6).trans e7)) (dh.mono (e6.trans e7)) (ds.mono e7)) ⟨by rw [hl]; exact hn2, fine, by rw [hl]; exact ft, lt, fh, lh, fs, ls⟩
end
end W3

end
section
set_option Elab.async false
set_option linter.all false
set_option maxRecDepth 100000
set_option maxHeartbeats 4000000
namespace W3
open PySem PySem.Spec PyProof.Rows L2 M83
open Evl (Ex)
/-! ### the law's own way to grow rows -/
def waysM (x y : Int) (os : List Int) : List (List Tie) := [] :: os.map fun o => [(x, y, o)]
theorem growL_ways (os : List Int) (rows : List (List Tie)) (p : Int × Int) : growL os rows p = rows.flatMap fun r => (waysM p.1 p.2 os).map fun t => r ++ t := rfl
theorem choicesL_snoc (os : List Int) (ps : List (Int × Int)) (p : Int × Int) : choicesL os (ps ++ [p]) = growL os (choicesL os ps) p := by
  unfold choicesL; rw [List.foldl_append]; rfl
theorem choicesL_len (os : List Int) (ps : List (Int × Int)) : (choicesL os ps).length = (os.length + 1) ^ ps.length := by
  rw [← (choices_perm os ps).length_eq, choices_len]
theorem choicesL_row {os : List Int} {ps : List (Int × Int)} {r : List Tie} (h : r ∈ choicesL os ps) : r.length ≤ ps.length :=
  (choices_fin (B := fun _ => True) (fun _ _ _ _ => trivial) r ((choices_perm os ps).mem_iff.mpr h)).2
theorem pairsTo_mono (n : Nat) {i k : Nat} (h : i ≤ k) : (pairsTo n i).length ≤ (pairsTo n k).length := by
  induction h with
  | refl => exact Nat.le_refl _
  | step _ ih => rw [pairsTo_succ, List.length_append]; omega
theorem ex_to_rm {D : Addr} {H G : Hp} (e : Ex H G) (h : H D = none) : Ex H (rm D G) := fun b o hb => rm_at (new_ne hb h) (e _ _ hb)
theorem sortW_perm {A B : List (List Tie)} (f : List Tie → Web) (h : A.Perm B) : sortW (A.map f) = sortW (B.map f) := sort_perm (allAlike_map alike_web _) ((h.map f).map eWeb)
theorem ways_go {K : PySem.W.Frag} {σ : L2.St} {G : Hp} {Q : VK} {sO so sa sb : Nat} {op : Addr} {x y : Int} {os : List Int} (hs : σ[sO]? = some (some (.ref op))) (hop : G op = some (.lst (os.map V.int))) (hl : os.length ≤ 4)
    (hw : ∀ v, wipe ((wipe σ [so]).set so (some v)) [so] = wipe σ [so]) (ga : ∀ v, ((wipe σ [so]).set so (some v))[sa]? = some (some (.int x))) (gb : ∀ v, ((wipe σ [so]).set so (some v))[sb]? = some (some (.int y))) (go : ∀ v, ((wipe σ [so]).set so (some v))[so]? = some (some v))
    (k : ∀ wp wxs H2, Ex G H2 → H2 wp = some (.lst wxs) → Dts H2 ((waysM x y os).map eTies) wxs → Q (.ref wp) H2) :
    tOp rCat (tLst (tCons (tLst tNil) tNil)) (tLc (iList K (tVar sO)) (gName so) tYes (tFr (tLst (tCons (tTup (tCons (tVar sa) (tCons (tVar sb) (tCons (tVar so) tNil)))) tNil))) [so]) σ G Q := by
  refine ⟨Nat.zero_le _, fun a1 h1 => ⟨sz1, fun a2 h2 => ?_⟩⟩
  have e1 := Ex.new (o := .lst []) h1
  have e2 := e1.trans (Ex.new (o := .lst [.ref a1]) h2)
  have n12 : a1 ≠ a2 := new_ne upd_same h2
  have ha1 : upd (upd G a1 (.lst [])) a2 (.lst [.ref a1]) a1 = some (.lst []) := by rw [upd_ne n12]; exact upd_same
  have ha2 : upd (upd G a1 (.lst [])) a2 (.lst [.ref a1]) a2 = some (.lst [.ref a1]) := upd_same
  have hop2 := e2 _ _ hop
  generalize upd (upd G a1 (.lst [])) a2 (.lst [.ref a1]) = G2 at e2 ha1 ha2 hop2 ⊢
  refine lcN G2 (fun i acc G' => Ex G2 G' ∧ Dts G' ((os.take i).map fun o => eTies [(x, y, o)]) acc) (fun R q => ⟨_, hs, op, rfl, ⟨_, SqL.of hop2⟩, q⟩) hop2 (by rw [List.length_map]; omega) ⟨Ex.refl _, rfl⟩ ?_ hw ?_ ?_
  · rintro i acc G' ⟨_, hd⟩
    rw [hd.length, List.length_map, List.length_take]; omega
  · rintro i v acc G' hi eG ⟨_, hd⟩
    rw [List.getElem?_map] at hi
    obtain ⟨o, ho, rfl⟩ := Option.map_eq_some_iff.mp hi
    refine ⟨_, ga _, _, gb _, _, go _, sz3, fun tp htp => ⟨sz1, fun lp hlp => ?_⟩⟩
    have f1 := Ex.new (o := .tup [.int x, .int y, .int o]) htp
    have f2 := f1.trans (Ex.new (o := .lst [.ref tp]) hlp)
    refine ⟨f2, eG.trans f2, ?_⟩
    rw [List.take_add_one, ho, List.map_append]
    refine Dts.snoc ?_ (hd.mono f2)
    exact ⟨lp, _, rfl, upd_same, Dts.mk1 (tie_mk (by rw [upd_ne (new_ne upd_same hlp)]; exact upd_same))⟩
  · rintro acc G' p eG hp ⟨_, hd⟩
    rw [List.length_map, List.take_length] at hd
    have f1 := Ex.new (o := .lst acc) hp
    have la := hd.length
    rw [List.length_map] at la
    have big : (3000 : Nat) < sizeLine := by decide
    refine ⟨a2, p, _, acc, rfl, rfl, f1 _ _ (eG _ _ ha2), upd_same, by simp; omega, fun wp hwp => ?_⟩
    have f2 := f1.trans (Ex.new (o := .lst ([.ref a1] ++ acc)) hwp)
    refine k wp _ _ ((e2.trans eG).trans f2) upd_same ?_
    have h0 : Dt (upd (upd G' p (.lst acc)) wp (.lst ([.ref a1] ++ acc))) (eTies []) (.ref a1) := ⟨a1, [], rfl, (eG.trans f2) _ _ ha1, rfl⟩
    have hd2 := hd.mono f2
    refine ⟨.ref a1, acc, rfl, h0, ?_⟩
    rw [List.map_map]
    exact hd2
theorem ext_go {K : PySem.W.Frag} {σ : L2.St} {G : Hp} {Q : VK} {sw sr st : Nat} {rp wp : Addr} {rxs wxs : List V} {r : List Tie} {ws : List (List Tie)} (hs : σ[sw]? = some (some (.ref wp))) (hrp : G rp = some (.lst rxs)) (hr : Dts G (r.map eTie) rxs) (hwp : G wp = some (.lst wxs)) (hw' : Dts G (ws.map eTies) wxs)
    (hlr : r.length ≤ 100) (hlw : ws.length ≤ 100) (hlt : ∀ t ∈ ws, t.length ≤ 100) (hw : ∀ v, wipe ((wipe σ [st]).set st (some v)) [st] = wipe σ [st]) (gr : ∀ v, ((wipe σ [st]).set st (some v))[sr]? = some (some (.ref rp))) (gt : ∀ v, ((wipe σ [st]).set st (some v))[st]? = some (some v))
    (k : ∀ q acc H2, Ex G H2 → H2 q = some (.lst acc) → Dts H2 ((ws.map fun t => r ++ t).map eTies) acc → New G acc → Q (.ref q) H2) :
    tLc (iList K (tVar sw)) (gName st) tYes (tFr (tOp rCat (tVar sr) (tVar st))) [st] σ G Q := by
  have lw : wxs.length = ws.length := by rw [hw'.length, List.length_map]
  refine lcN G (fun i acc G' => Ex G G' ∧ Dts G' (((ws.take i).map fun t => r ++ t).map eTies) acc ∧ New G acc) (fun R q => ⟨_, hs, wp, rfl, ⟨_, SqL.of hwp⟩, q⟩) hwp (by omega) ⟨Ex.refl _, rfl, fun z h => by simp at h⟩ ?_ hw ?_ ?_
  · rintro i acc G' ⟨_, hd, _⟩
    rw [hd.length, List.length_map, List.length_map, List.length_take]; omega
  · rintro i v acc G' hi eG ⟨_, hd, hn⟩
    obtain ⟨t, ht, hv⟩ := item' hw' hi
    obtain ⟨tp, txs, rfl, htp, htx⟩ := hv
    have lt := hlt t (List.mem_of_getElem? ht)
    have lr : rxs.length = r.length := by rw [hr.length, List.length_map]
    have ltx : txs.length = t.length := by rw [htx.length, List.length_map]
    have big : (3000 : Nat) < sizeLine := by decide
    refine ⟨_, gr _, _, gt _, rp, tp, rxs, txs, rfl, rfl, eG _ _ hrp, eG _ _ htp, by omega, fun p hp => ?_⟩
    have f1 := Ex.new (o := .lst (rxs ++ txs)) hp
    refine ⟨f1, eG.trans f1, ?_, hn.snoc (Evl.fresh_back eG hp)⟩
    rw [List.take_add_one, ht, List.map_append, List.map_append]
    refine Dts.snoc ?_ (hd.mono f1)
    refine ⟨p, _, rfl, upd_same, ?_⟩
    rw [List.map_append]
    exact Dts.append (htx.mono (eG.trans f1)) (hr.mono (eG.trans f1))
  · rintro acc G' p eG hp ⟨_, hd, hn⟩
    rw [lw, List.take_length] at hd
    exact k p acc _ (eG.trans (Ex.new hp)) upd_same (hd.mono (Ex.new hp)) hn
end W3

end
section
set_option Elab.async false
set_option linter.all false
set_option maxRecDepth 100000
set_option maxHeartbeats 4000000
namespace W3
open PySem PySem.Spec PyProof.Rows L2 M83
open Evl (Ex)
theorem upd2 {H : Hp} {a : Addr} {o o' : HO} : upd (upd H a o) a o' = upd H a o' := by
  funext b
  by_cases e : b = a
  · subst e; rw [upd_same, upd_same]
  · rw [upd_ne e, upd_ne e, upd_ne e]
theorem part_len (os : List Int) (rows : List (List Tie)) (p : Int × Int) (k : Nat) : ((rows.take k).flatMap fun r => (waysM p.1 p.2 os).map fun t => r ++ t).length ≤ (growL os rows p).length := by
  rw [growL_ways]
  have e : rows.flatMap (fun r => (waysM p.1 p.2 os).map fun t => r ++ t) = (rows.take k).flatMap (fun r => (waysM p.1 p.2 os).map fun t => r ++ t) ++ (rows.drop k).flatMap (fun r => (waysM p.1 p.2 os).map fun t => r ++ t) := by
    rw [← List.flatMap_append, List.take_append_drop]
  rw [e, List.length_append]; omega
theorem pairs_part {n i j : Nat} (hi : i < n) (hj : j ≤ n - (i + 1)) : (pairsTo n i ++ pairsRow i j).length ≤ (pairsM n).length := by
  have h := pairsTo_mono n (show i + 1 ≤ n by omega)
  rw [pairsTo_succ, List.length_append] at h
  rw [List.length_append]
  have a : (pairsRow i j).length = j := by simp [pairsRow]
  have b : (pairsRow i (n - (i + 1))).length = n - (i + 1) := by simp [pairsRow]
  show _ ≤ (pairsTo n n).length
  omega
section
variable {P : Program} {w : World} {K : PySem.W.Frag} {mg : Str → Option Value} {base : Heap}
/-! ### _law_choices -/
def p_lchoices : Sp3 := fun vs H Q => ∃ (qv ov : V) (ps : List Part) (os : List Int), vs = [qv, ov] ∧ Dt H (eParts ps) qv ∧ Dt H (eInts os) ov ∧ ps.length ≤ 4 ∧ os.length ≤ 4 ∧ (os.length + 1) ^ (pairsM ps.length).length ≤ 5000 ∧
  ∀ p ys H', Ex H H' → H' p = some (.lst ys) → Dts H' (sortW ((choicesM os (pairsM ps.length)).map fun r => ⟨ps, r, [], []⟩)) ys → Q (.ref p) H'
theorem d_l_choices {f : Addr} {fd : FuncData} (F : Fun K "_law_choices" "_law_choices" sl_choices f fd) (hm : mg "_law_choices" = some (.ref f)) (T : Txt mg) : Df P w K mg base 1 "_law_choices" ["_law_parts", "_law_orders_here"] p_lchoices := by
  refine Df.body F hm bil_choices scl_choices (fun vs H Q h => ?_) (fun cdv A outer s H vs Q hr h => ?_)
  · obtain ⟨qv, ov, ps, os, rfl, _⟩ := h; rfl
  · obtain ⟨qv, ov, ps, os, rfl, dp, dO, h1, h2, h3, k⟩ := h
    obtain ⟨pa, pxs, rfl, hpa, hpx⟩ := dp
    obtain ⟨oa, rfl, hoa⟩ := ints_at dO
    have lp : pxs.length = ps.length := by rw [hpx.length, List.length_map]
    have lpb : (pairsM ps.length).length ≤ 6 := by
      have := pairsM_len ps.length
      have : ps.length * (ps.length - 1) ≤ 4 * 3 := Nat.mul_le_mul h1 (by omega)
      omega
    refine ⟨_, (pss_cons (ps_set (i := 2) scl_choices.nd rfl (Or.inl rfl) (pe_lst (pa_cons (pe_lst pa_nil) pa_nil)))
 (pss_cons (ps_for PassesOwn.never rfl (pi_range1 rfl T.range (pa_cons (pe_callB (lenS K) (by rfl) T.n_len bt_len (pa_cons (pv 0) pa_nil)) pa_nil)) (pg_name (i := 3) scl_choices.nd rfl (Or.inr rfl)) (pss_one (ps_for PassesOwn.never rfl (pi_range2 rfl T.range (pa_cons (pe_op op_add (pv 3) pe_int) (pa_cons (pe_callB (lenS K) (by rfl) T.n_len bt_len (pa_cons (pv 0) pa_nil)) pa_nil))) (pg_name (i := 4) scl_choices.nd rfl (Or.inr rfl)) (pss_cons (ps_set (i := 5) scl_choices.nd rfl (Or.inl rfl) (pe_lst pa_nil))
 (pss_cons (ps_for PassesOwn.never rfl (piL K (pv 2)) (pg_name (i := 6) scl_choices.nd rfl (Or.inr rfl)) (pss_cons (ps_set (i := 7) scl_choices.nd rfl (Or.inl rfl) (pe_fr (pe_op op_cat (pe_lst (pa_cons (pe_lst pa_nil) pa_nil)) (pe_lc (own := [("_law_order", 8)]) rfl scl_choices.nd (piL K (pv 1)) (blkOk_by (N := Nl_choices) (sc := defScope sl_choices) (by decide +kernel)) (fun _ _ _ _ _ => (pg_name (i := 8) scl_choices.nd rfl (Or.inl rfl))) (fun _ _ _ _ _ => pts_nil) (fun _ _ _ _ _ => (pe_fr (pe_lst (pa_cons (pe_tup (pa_cons (pv 3) (pa_cons (pv 4) (pa_cons (pv 8) pa_nil)))) pa_nil))))))))
 (pss_one (ps_expr (pe_bm PySem.F.plainAttrs_list PySem.F.slot_list_extend PySem.F.type_list_extend mt_extend (pv 5) (pa_cons (pe_fr (pe_lc (own := [("_law_told", 9)]) rfl scl_choices.nd (piL K (pv 7)) (blkOk_by (N := Nl_choices) (sc := defScope sl_choices) (by decide +kernel)) (fun _ _ _ _ _ => (pg_name (i := 9) scl_choices.nd rfl (Or.inl rfl))) (fun _ _ _ _ _ => pts_nil) (fun _ _ _ _ _ => (pe_fr (pe_op op_cat (pv 6) (pv 9)))))) pa_nil))))))
 (pss_one (ps_set (i := 2) scl_choices.nd rfl (Or.inl rfl) (pv 5))))))))
 (pss_one (ps_ret (pe_callB (cr_sortD hr.u64) (by rfl) T.n_sorted bt_sorted (pa_cons (pe_lc (own := [("_law_row", 6)]) rfl scl_choices.nd (piL K (pv 2)) (blkOk_by (N := Nl_choices) (sc := defScope sl_choices) (by decide +kernel)) (fun _ _ _ _ _ => (pg_name (i := 6) scl_choices.nd rfl (Or.inl rfl))) (fun _ _ _ _ _ => pts_nil) (fun _ _ _ _ _ => (pe_fr (pe_tup (pa_cons (pe_callTy (listS K) (by rfl) T.n_list bt_list (pa_cons (pv 0) pa_nil)) (pa_cons (pv 6) (pa_cons (pe_lst pa_nil) (pa_cons (pe_lst pa_nil) pa_nil)))))))) pa_nil)))))), ?_⟩
    refine ⟨Nat.zero_le _, fun ap na => ⟨sz1, fun rp0 hrp0 => ?_⟩⟩
    have x6 := (Ex.new (o := .lst []) na).trans (Ex.new (o := .lst [.ref ap]) hrp0)
    have nar : ap ≠ rp0 := new_ne upd_same hrp0
    have hr0 : upd (upd H ap (.lst [])) rp0 (.lst [.ref ap]) rp0 = some (.lst [.ref ap]) := upd_same
    have hd0 : Dts (upd (upd H ap (.lst [])) rp0 (.lst [.ref ap])) ((choicesL os (pairsTo ps.length 0)).map eTies) [.ref ap] := Dts.mk1 ⟨ap, [], rfl, by rw [upd_ne nar]; exact upd_same, rfl⟩
    generalize upd (upd H ap (.lst [])) rp0 (.lst [.ref ap]) = H6 at x6 hr0 hd0 ⊢
    have lc : ∀ i j, i < ps.length → j ≤ ps.length - (i + 1) → (choicesL os (pairsTo ps.length i ++ pairsRow i j)).length ≤ 5000 := fun i j hi hj => by
      rw [choicesL_len]
      exact Nat.le_trans (Nat.pow_le_pow_right (by omega) (pairs_part hi hj)) h3
    refine ⟨_, rfl, pa, pxs, rfl, .inl (SqL.of (x6 _ _ hpa)), _, rfl, by omega, by omega, ?_⟩
    rw [lp]
    refine for_range (lo := 0) (n := ps.length) (fun i σ H' => ∃ sq sxs va vb vc vd ve, σ = [some (.ref pa), some (.ref oa), some (.ref sq), va, vb, vc, vd, ve, none, none] ∧ Ex H H' ∧ H' sq = some (.lst sxs) ∧ Dts H' ((choicesL os (pairsTo ps.length i)).map eTies) sxs ∧ New H sxs)
      ⟨rp0, [.ref ap], none, none, none, none, none, rfl, x6, hr0, hd0, fun x hx => ⟨ap, by simpa using hx, na⟩⟩ ?_ ?_
    · rintro i σ H3 hi ⟨sq, sxs, va, vb, vc, vd, ve, rfl, e3, hsq, hsd, hsn⟩
      refine ⟨_, rfl, _, _, rfl, rfl, _, rfl, pa, pxs, rfl, .inl (SqL.of (e3 _ _ hpa)), _, _, rfl, by omega, ?_⟩
      rw [lp]
      refine for_range (lo := (0 : Int) + i + 1) (n := ((ps.length : Int) - ((0 : Int) + i + 1)).toNat) (fun j σ H' => ∃ sq sxs vb vc vd ve, σ = [some (.ref pa), some (.ref oa), some (.ref sq), some (.int ((0 : Int) + i)), vb, vc, vd, ve, none, none] ∧ Ex H H' ∧ H' sq = some (.lst sxs) ∧ Dts H' ((choicesL os (pairsTo ps.length i ++ pairsRow i j)).map eTies) sxs ∧ New H sxs)
        ⟨sq, sxs, vb, vc, vd, ve, rfl, e3, hsq, by simpa [pairsRow] using hsd, hsn⟩ ?_ ?_
      · rintro j σ H4 hj ⟨sq, sxs, vb, vc, vd, ve, rfl, e4, hsq, hsd, hsn⟩
        have hj' : j + 1 ≤ ps.length - (i + 1) := by omega
        have lnext := lc i (j + 1) hi hj'
        have hrow : ∀ r ∈ choicesL os (pairsTo ps.length i ++ pairsRow i j), r.length ≤ 6 := fun r hr => Nat.le_trans (choicesL_row hr) (Nat.le_trans (pairs_part hi (by omega)) lpb)
        have epr : pairsTo ps.length i ++ pairsRow i (j + 1) = (pairsTo ps.length i ++ pairsRow i j) ++ [((0 : Int) + i, (0 : Int) + i + 1 + j)] := by
          rw [pairsRow_succ, List.append_assoc]
          have : (0 : Int) + (i : Int) = (i : Int) := by omega
          rw [this]
        rw [epr] at lnext
        -- more, for row in some
        refine ⟨Nat.zero_le _, fun mp hmp => ?_⟩
        refine ⟨_, rfl, sq, rfl, ⟨_, SqL.of (Ex.new hmp _ _ hsq)⟩, ?_⟩
        have hoa4 := e4 _ _ hoa
        refine for_list (K := K) (a := sq) (xs := sxs) (fun k σ H' => ∃ vd ve G F, σ = [some (.ref pa), some (.ref oa), some (.ref sq), some (.int ((0 : Int) + i)), some (.int ((0 : Int) + i + 1 + j)), some (.ref mp), vd, ve, none, none] ∧ H' = upd G mp (.lst F) ∧ G mp = none ∧ Ex H4 G ∧ Dts G ((((choicesL os (pairsTo ps.length i ++ pairsRow i j)).take k).flatMap fun r => (waysM ((0 : Int) + i) ((0 : Int) + i + 1 + j) os).map fun t => r ++ t).map eTies) F ∧ New H F)
          ⟨_, _, H4, [], rfl, rfl, hmp, Ex.refl _, rfl, fun z h => by simp at h⟩ (fun k σ H' _ ⟨_, _, G, F, _, eH, hG, eG, _⟩ => by rw [eH]; exact SqL.of (Ex.new hG _ _ (eG _ _ hsq))) ?_ ?_
        · rintro k x σ _ hk ⟨vd, ve, G, F, rfl, rfl, hG, eG, hF, hn⟩
          obtain ⟨r, hr, hx⟩ := item' hsd hk
          obtain ⟨rp, rxs, rfl, hrp, hrx⟩ := hx
          have lr := hrow r (List.mem_of_getElem? hr)
          -- ways
          refine ⟨mp, F, fun v H2 => ∃ wp wxs, v = .ref wp ∧ Ex G H2 ∧ H2 wp = some (.lst wxs) ∧ Dts H2 ((waysM ((0 : Int) + i) ((0 : Int) + i + 1 + j) os).map eTies) wxs, upd_same, ?_, ?_⟩
          · rw [rm_upd hG]
            exact ways_go (op := oa) rfl (eG _ _ hoa4) h2 (fun _ => rfl) (fun _ => rfl) (fun _ => rfl) (fun _ => rfl) fun wp wxs H2 e h d => ⟨wp, wxs, rfl, e, h, d⟩
          rintro v H2 ⟨wp, wxs, rfl, e2, hw, hwd⟩ n2
          -- more.extend
          refine ⟨_, rfl, .inl ⟨rfl, _, SqL.of upd_same⟩, mp, F, fun v H3 => ∃ q acc, v = .ref q ∧ Ex H2 H3 ∧ H3 q = some (.lst acc) ∧ Dts H3 (((waysM ((0 : Int) + i) ((0 : Int) + i + 1 + j) os).map fun t => r ++ t).map eTies) acc ∧ New H2 acc, upd_same, ?_, ?_⟩
          · rw [rm_upd n2]
            refine ext_go (rp := rp) (wp := wp) (r := r) (ws := waysM ((0 : Int) + i) ((0 : Int) + i + 1 + j) os) rfl (e2 _ _ (eG _ _ hrp)) (hrx.mono (eG.trans e2)) hw hwd (by omega) (by simp [waysM]; omega) (fun t ht => ?_) (fun _ => rfl) (fun _ => rfl) (fun _ => rfl) fun q acc H3 e3 hq hd3 hn3 => ⟨q, acc, rfl, e3, hq, hd3, hn3⟩
            rcases List.mem_cons.mp ht with rfl | ht
            · exact Nat.zero_le _
            · obtain ⟨o, _, rfl⟩ := List.mem_map.mp ht
              show 1 ≤ 100; decide
          rintro v H3 ⟨q, acc, rfl, e3, hq, hd3, hn3⟩ n3
          have lpart := part_len os (choicesL os (pairsTo ps.length i ++ pairsRow i j)) (((0 : Int) + i), ((0 : Int) + i + 1 + j)) (k + 1)
          have et : ((choicesL os (pairsTo ps.length i ++ pairsRow i j)).take (k + 1)).flatMap (fun r => (waysM ((0 : Int) + i) ((0 : Int) + i + 1 + j) os).map fun t => r ++ t) = ((choicesL os (pairsTo ps.length i ++ pairsRow i j)).take k).flatMap (fun r => (waysM ((0 : Int) + i) ((0 : Int) + i + 1 + j) os).map fun t => r ++ t) ++ (waysM ((0 : Int) + i) ((0 : Int) + i + 1 + j) os).map fun t => r ++ t := by
            rw [List.take_add_one, hr, List.flatMap_append]; simp
          rw [show (fun r : List Tie => (waysM (((0 : Int) + i), ((0 : Int) + i + 1 + j)).1 (((0 : Int) + i), ((0 : Int) + i + 1 + j)).2 os).map fun t => r ++ t) = fun r : List Tie => (waysM ((0 : Int) + i) ((0 : Int) + i + 1 + j) os).map fun t => r ++ t from rfl, et, List.length_append, ← choicesL_snoc] at lpart
          have big : (6000 : Nat) < sizeLine := by decide
          have lF := hF.length
          have lA := hd3.length
          rw [List.length_map] at lF lA
          refine ⟨mp, q, F, acc, rfl, rfl, upd_same, Ex.new n3 _ _ hq, by omega, ?_⟩
          refine ⟨_, _, H3, F ++ acc, rfl, upd2, n3, eG.trans (e2.trans e3), ?_, hn.append fun z hz => ?_⟩
          · rw [et, List.map_append]
            exact Dts.append hd3 (hF.mono (e2.trans e3))
          · obtain ⟨a, ea, ha⟩ := hn3 z hz
            exact ⟨a, ea, Evl.fresh_back (e4.trans (eG.trans e2)) ha⟩
        · rintro σ _ ⟨vd, ve, G, F, rfl, rfl, hG, eG, hF, hn⟩
          have ls : sxs.length = (choicesL os (pairsTo ps.length i ++ pairsRow i j)).length := by rw [hsd.length, List.length_map]
          rw [ls, List.take_length] at hF
          refine ⟨_, rfl, ?_⟩
          refine ⟨mp, F, _, _, _, _, rfl, e4.trans (eG.trans (Ex.new hG)), upd_same, ?_, hn⟩
          rw [epr, choicesL_snoc]
          exact hF.mono (Ex.new hG)
      · rintro σ H4 ⟨sq, sxs, vb, vc, vd, ve, rfl, e4, hsq, hsd, hsn⟩
        refine ⟨sq, sxs, _, _, _, _, _, rfl, e4, hsq, ?_, hsn⟩
        have : ((ps.length : Int) - ((0 : Int) + i + 1)).toNat = ps.length - (i + 1) := by omega
        rw [this, ← pairsTo_succ] at hsd
        exact hsd
    · rintro σ H' ⟨rq, rxs, va, vb, vc, vd, ve, rfl, e1', hrq, hrd, hn⟩
      rw [show pairsTo ps.length ps.length = pairsM ps.length from rfl] at hrd
      have ll : (choicesL os (pairsM ps.length)).length ≤ 5000 := by rw [choicesL_len]; exact h3
      have lrx : rxs.length = (choicesL os (pairsM ps.length)).length := by rw [hrd.length, List.length_map]
      dsimp only
      refine go_ret (go_cb1 ?_)
      refine lcN H' (fun i acc G => Ex H' G ∧ Dts G (((choicesL os (pairsM ps.length)).take i).map fun r => eWeb ⟨ps, r, [], []⟩) acc ∧ Loose H G acc)
        (fun R q => ⟨_, rfl, rq, rfl, ⟨_, SqL.of hrq⟩, q⟩) hrq (by omega) ⟨Ex.refl _, rfl, fun y hy => by simp at hy⟩ ?_ (fun _ => rfl) ?_ ?_
      · rintro i acc G ⟨_, hd, _⟩
        rw [hd.length, List.length_map, List.length_take]; omega
      · rintro i x acc G hi eG ⟨_, hd, hl⟩
        obtain ⟨r, hri, hx⟩ := item' hrd hi
        obtain ⟨q, e, hqn⟩ := hn x (List.mem_of_getElem? hi)
        subst e
        obtain ⟨rx, hq, hqd⟩ := Dt.list_at hx
        have lrr := choicesL_row (List.mem_of_getElem? hri)
        have lrr2 : r.length ≤ 6 := Nat.le_trans lrr lpb
        have eHG := e1'.trans eG
        refine ⟨_, rfl, pa, pxs, rfl, .inl (SqL.of (eHG _ _ hpa)), fun p1 n1 => ?_⟩
        refine ⟨_, rfl, Nat.zero_le _, fun p2 n2 => ⟨Nat.zero_le _, fun p3 n3 => ⟨sz4, fun tp n4 => ?_⟩⟩⟩
        have f1 := Ex.new (o := .lst pxs) n1
        have f2 := Ex.new (o := .lst []) n2
        have f3 := Ex.new (o := .lst []) n3
        have f4 := Ex.new (o := .tup [.ref p1, .ref q, .ref p2, .ref p3]) n4
        have f14 := f1.trans (f2.trans (f3.trans f4))
        have b1 := Evl.fresh_back eHG n1
        have b2 := Evl.fresh_back (eHG.trans f1) n2
        have b3 := Evl.fresh_back ((eHG.trans f1).trans f2) n3
        have hq' := (eG.trans f14) _ _ hq
        refine ⟨f14, eG.trans f14, ?_, (hl.mono f14).append (loose_web b1 ((f2.trans (f3.trans f4)) _ _ upd_same) (by omega) hqn hq' (by rw [hqd.length, List.length_map]; omega) b2 ((f3.trans f4) _ _ upd_same) (Nat.zero_le _) b3 (f4 _ _ upd_same) (Nat.zero_le _) upd_same)⟩
        rw [List.take_add_one, hri, List.map_append]
        refine Dts.snoc ?_ (hd.mono f14)
        exact web_mk upd_same ⟨p1, pxs, rfl, (f2.trans (f3.trans f4)) _ _ upd_same, hpx.mono (eHG.trans f14)⟩ ⟨q, rx, rfl, hq', hqd.mono (eG.trans f14)⟩ ⟨p2, [], rfl, (f3.trans f4) _ _ upd_same, rfl⟩ ⟨p3, [], rfl, f4 _ _ upd_same, rfl⟩
      · rintro acc G p eG hp ⟨_, hd, hl⟩
        rw [lrx, List.take_length] at hd
        refine sort_webs (ws := (choicesL os (pairsM ps.length)).map fun r => ⟨ps, r, [], []⟩) (e1'.trans eG) hp (by rw [List.map_map]; exact hd) hl (by rw [hd.length, List.length_map]; omega) fun p ys H' e _ hp _ hd _ => ?_
        rw [← sortW_perm _ (choices_perm os (pairsM ps.length))] at hd
        exact k p ys H' e hp hd
/-! ### _law_grown -/
def p_lgrown : Sp3 := fun vs H Q => ∃ (wv pw ov : V) (wb : Web) (part : Part) (os : List Int), vs = [wv, pw, ov] ∧ Dt H (eWeb wb) wv ∧ Dt H (ePart part) pw ∧ Dt H (eInts os) ov ∧ wb.parts.length ≤ 4 ∧ wb.ties.length ≤ 100 ∧ os.length ≤ 4 ∧
  (os.length + 1) ^ wb.parts.length ≤ 5000 ∧
  ∀ p ys H', Ex H H' → H' p = some (.lst ys) → Dts H' (sortW ((choicesM os (growPairs wb.parts.length)).map fun r => ⟨wb.parts ++ [part], sortT (wb.ties ++ r), [], []⟩)) ys → Q (.ref p) H'
theorem d_l_grown {f : Addr} {fd : FuncData} (F : Fun K "_law_grown" "_law_grown" sl_grown f fd) (hm : mg "_law_grown" = some (.ref f)) (T : Txt mg) : Df P w K mg base 1 "_law_grown" ["_law_web_here", "_law_part", "_law_orders_here"] p_lgrown := by
  refine Df.body F hm bil_grown scl_grown (fun vs H Q h => ?_) (fun cdv A outer s H vs Q hr h => ?_)
  · obtain ⟨wv, pw, ov, wb, part, os, rfl, _⟩ := h; rfl
  · obtain ⟨wv, pw, ov, wb, part, os, rfl, dw, dp, dO, h1, ht, h2, h3, k⟩ := h
    obtain ⟨wp, pa, ta, ha, sa, rfl, hwp, d1, d2, d3, d4⟩ := web_at dw
    obtain ⟨pxs, hpa, hpx⟩ := Dt.list_at d1
    obtain ⟨txs, hta, htx⟩ := Dt.list_at d2
    obtain ⟨oa, rfl, hoa⟩ := ints_at dO
    have lp : pxs.length = wb.parts.length := by rw [hpx.length, List.length_map]
    have lt : txs.length = wb.ties.length := by rw [htx.length, List.length_map]
    have lg : (growPairs wb.parts.length).length = wb.parts.length := by simp [growPairs]
    refine ⟨_, (pss_cons (ps_asg (pe_tup (pa_cons (pe_callB (lenS K) (by rfl) T.n_len bt_len (pa_cons (pe_ix (ixT K) (pv 0) pe_int (fun _ _ => rfl)) pa_nil)) (pa_cons (pe_lst (pa_cons (pe_lst pa_nil) pa_nil)) pa_nil))) (pgT K 2 (pgs_cons (pg_name (i := 4) scl_grown.nd rfl (Or.inr rfl)) (pgs_cons (pg_name (i := 5) scl_grown.nd rfl (Or.inl rfl)) pgs_nil))))
 (pss_cons (ps_for PassesOwn.never rfl (pi_range1 rfl T.range (pa_cons (pv 4) pa_nil)) (pg_name (i := 3) scl_grown.nd rfl (Or.inr rfl)) (pss_cons (ps_set (i := 6) scl_grown.nd rfl (Or.inl rfl) (pe_lst pa_nil))
 (pss_cons (ps_for PassesOwn.never rfl (piL K (pv 5)) (pg_name (i := 7) scl_grown.nd rfl (Or.inr rfl)) (pss_cons (ps_set (i := 8) scl_grown.nd rfl (Or.inl rfl) (pe_fr (pe_op op_cat (pe_lst (pa_cons (pe_lst pa_nil) pa_nil)) (pe_lc (own := [("_law_order", 9)]) rfl scl_grown.nd (piL K (pv 2)) (blkOk_by (N := Nl_grown) (sc := defScope sl_grown) (by decide +kernel)) (fun _ _ _ _ _ => (pg_name (i := 9) scl_grown.nd rfl (Or.inl rfl))) (fun _ _ _ _ _ => pts_nil) (fun _ _ _ _ _ => (pe_fr (pe_lst (pa_cons (pe_tup (pa_cons (pv 3) (pa_cons (pv 4) (pa_cons (pv 9) pa_nil)))) pa_nil))))))))
 (pss_one (ps_expr (pe_bm PySem.F.plainAttrs_list PySem.F.slot_list_extend PySem.F.type_list_extend mt_extend (pv 6) (pa_cons (pe_fr (pe_lc (own := [("_law_told", 10)]) rfl scl_grown.nd (piL K (pv 8)) (blkOk_by (N := Nl_grown) (sc := defScope sl_grown) (by decide +kernel)) (fun _ _ _ _ _ => (pg_name (i := 10) scl_grown.nd rfl (Or.inl rfl))) (fun _ _ _ _ _ => pts_nil) (fun _ _ _ _ _ => (pe_fr (pe_op op_cat (pv 7) (pv 10)))))) pa_nil))))))
 (pss_one (ps_set (i := 5) scl_grown.nd rfl (Or.inl rfl) (pv 6))))))
 (pss_one (ps_ret (pe_callB (cr_sortD hr.u64) (by rfl) T.n_sorted bt_sorted (pa_cons (pe_lc (own := [("_law_row", 7)]) rfl scl_grown.nd (piL K (pv 5)) (blkOk_by (N := Nl_grown) (sc := defScope sl_grown) (by decide +kernel)) (fun _ _ _ _ _ => (pg_name (i := 7) scl_grown.nd rfl (Or.inl rfl))) (fun _ _ _ _ _ => pts_nil) (fun _ _ _ _ _ => (pe_fr (pe_tup (pa_cons (pe_op op_cat (pe_ix (ixT K) (pv 0) pe_int (fun _ _ => rfl)) (pe_lst (pa_cons (pv 1) pa_nil))) (pa_cons (pe_callB (cr_sortD hr.u64) (by rfl) T.n_sorted bt_sorted (pa_cons (pe_op op_cat (pe_ix (ixT K) (pv 0) pe_int (fun _ _ => rfl)) (pv 7)) pa_nil)) (pa_cons (pe_lst pa_nil) (pa_cons (pe_lst pa_nil) pa_nil)))))))) pa_nil)))))), ?_⟩
    refine ⟨_, rfl, wp, _, 0, _, rfl, rfl, SqT.of hwp, rfl, pa, pxs, rfl, .inl (SqL.of hpa), ?_⟩
    rw [lp]
    refine ⟨Nat.zero_le _, fun ap na => ⟨sz1, fun rp0 hrp0 => ⟨sz2, fun tp0 htp0 => ?_⟩⟩⟩
    have x6 := ((Ex.new (o := .lst []) na).trans (Ex.new (o := .lst [.ref ap]) hrp0)).trans (Ex.new (o := .tup [.int wb.parts.length, .ref rp0]) htp0)
    have nar : ap ≠ rp0 := new_ne upd_same hrp0
    have ht0 : upd (upd (upd H ap (.lst [])) rp0 (.lst [.ref ap])) tp0 (.tup [.int wb.parts.length, .ref rp0]) tp0 = some (.tup [.int wb.parts.length, .ref rp0]) := upd_same
    have hr0 : upd (upd (upd H ap (.lst [])) rp0 (.lst [.ref ap])) tp0 (.tup [.int wb.parts.length, .ref rp0]) rp0 = some (.lst [.ref ap]) := Ex.new htp0 _ _ upd_same
    have hd0 : Dts (upd (upd (upd H ap (.lst [])) rp0 (.lst [.ref ap])) tp0 (.tup [.int wb.parts.length, .ref rp0])) ((choicesL os ((growPairs wb.parts.length).take 0)).map eTies) [.ref ap] := Dts.mk1 ⟨ap, [], rfl, Ex.new htp0 _ _ (by rw [upd_ne nar]; exact upd_same), rfl⟩
    generalize upd (upd (upd H ap (.lst [])) rp0 (.lst [.ref ap])) tp0 (.tup [.int wb.parts.length, .ref rp0]) = H6 at x6 ht0 hr0 hd0 ⊢
    refine ⟨tp0, _, rfl, SqT.of ht0, rfl, _, _, rfl, _, _, rfl, rfl, ?_⟩
    have lc : ∀ i, (choicesL os ((growPairs wb.parts.length).take i)).length ≤ 5000 := fun i => by
      rw [choicesL_len, List.length_take]
      exact Nat.le_trans (Nat.pow_le_pow_right (by omega) (by omega)) h3
    have lr : ∀ i, ∀ r ∈ choicesL os ((growPairs wb.parts.length).take i), r.length ≤ 4 := fun i r hr => by
      have := choicesL_row hr
      rw [List.length_take] at this
      omega
    refine ⟨_, rfl, _, rfl, by omega, by omega, ?_⟩
    refine for_range (lo := 0) (n := wb.parts.length) (fun i σ H' => ∃ sq sxs va vc vd ve, σ = [some (.ref wp), some pw, some (.ref oa), va, some (.int wb.parts.length), some (.ref sq), vc, vd, ve, none, none] ∧ Ex H H' ∧ H' sq = some (.lst sxs) ∧
      Dts H' ((choicesL os ((growPairs wb.parts.length).take i)).map eTies) sxs ∧ New H sxs)
      ⟨rp0, [.ref ap], none, none, none, none, rfl, x6, hr0, hd0, fun x hx => ⟨ap, by simpa using hx, na⟩⟩ ?_ ?_
    · rintro i σ H4 hi ⟨sq, sxs, va, vc, vd, ve, rfl, e4, hsq, hsd, hsn⟩
      have hpr : (growPairs wb.parts.length)[i]? = some ((0 : Int) + i, (wb.parts.length : Int)) := by
        rw [growPairs, List.getElem?_map, List.getElem?_range hi]; simp
      have hrow := lr i
      have lnext := lc (i + 1)
      have epr : (growPairs wb.parts.length).take (i + 1) = (growPairs wb.parts.length).take i ++ [((0 : Int) + i, (wb.parts.length : Int))] := by
        rw [List.take_add_one, hpr]; rfl
      rw [epr] at lnext
      -- more, for row in some
      refine ⟨Nat.zero_le _, fun mp hmp => ?_⟩
      refine ⟨_, rfl, sq, rfl, ⟨_, SqL.of (Ex.new hmp _ _ hsq)⟩, ?_⟩
      have hoa4 := e4 _ _ hoa
      refine for_list (K := K) (a := sq) (xs := sxs) (fun k σ H' => ∃ vd ve G F, σ = [some (.ref wp), some pw, some (.ref oa), some (.int ((0 : Int) + i)), some (.int wb.parts.length), some (.ref sq), some (.ref mp), vd, ve, none, none] ∧ H' = upd G mp (.lst F) ∧ G mp = none ∧ Ex H4 G ∧ Dts G ((((choicesL os ((growPairs wb.parts.length).take i)).take k).flatMap fun r => (waysM ((0 : Int) + i) (wb.parts.length : Int) os).map fun t => r ++ t).map eTies) F ∧ New H F)
        ⟨_, _, H4, [], rfl, rfl, hmp, Ex.refl _, rfl, fun z h => by simp at h⟩ (fun k σ H' _ ⟨_, _, G, F, _, eH, hG, eG, _⟩ => by rw [eH]; exact SqL.of (Ex.new hG _ _ (eG _ _ hsq))) ?_ ?_
      · rintro k x σ _ hk ⟨vd, ve, G, F, rfl, rfl, hG, eG, hF, hn⟩
        obtain ⟨r, hr, hx⟩ := item' hsd hk
        obtain ⟨rp, rxs, rfl, hrp, hrx⟩ := hx
        have lr := hrow r (List.mem_of_getElem? hr)
        -- ways
        refine ⟨mp, F, fun v H2 => ∃ wp wxs, v = .ref wp ∧ Ex G H2 ∧ H2 wp = some (.lst wxs) ∧ Dts H2 ((waysM ((0 : Int) + i) (wb.parts.length : Int) os).map eTies) wxs, upd_same, ?_, ?_⟩
        · rw [rm_upd hG]
          exact ways_go (op := oa) rfl (eG _ _ hoa4) h2 (fun _ => rfl) (fun _ => rfl) (fun _ => rfl) (fun _ => rfl) fun wp wxs H2 e h d => ⟨wp, wxs, rfl, e, h, d⟩
        rintro v H2 ⟨wp, wxs, rfl, e2, hw, hwd⟩ n2
        -- more.extend
        refine ⟨_, rfl, .inl ⟨rfl, _, SqL.of upd_same⟩, mp, F, fun v H3 => ∃ q acc, v = .ref q ∧ Ex H2 H3 ∧ H3 q = some (.lst acc) ∧ Dts H3 (((waysM ((0 : Int) + i) (wb.parts.length : Int) os).map fun t => r ++ t).map eTies) acc ∧ New H2 acc, upd_same, ?_, ?_⟩
        · rw [rm_upd n2]
          refine ext_go (rp := rp) (wp := wp) (r := r) (ws := waysM ((0 : Int) + i) (wb.parts.length : Int) os) rfl (e2 _ _ (eG _ _ hrp)) (hrx.mono (eG.trans e2)) hw hwd (by omega) (by simp [waysM]; omega) (fun t ht => ?_) (fun _ => rfl) (fun _ => rfl) (fun _ => rfl) fun q acc H3 e3 hq hd3 hn3 => ⟨q, acc, rfl, e3, hq, hd3, hn3⟩
          rcases List.mem_cons.mp ht with rfl | ht
          · exact Nat.zero_le _
          · obtain ⟨o, _, rfl⟩ := List.mem_map.mp ht
            show 1 ≤ 100; decide
        rintro v H3 ⟨q, acc, rfl, e3, hq, hd3, hn3⟩ n3
        have lpart := part_len os (choicesL os ((growPairs wb.parts.length).take i)) (((0 : Int) + i), (wb.parts.length : Int)) (k + 1)
        have et : ((choicesL os ((growPairs wb.parts.length).take i)).take (k + 1)).flatMap (fun r => (waysM ((0 : Int) + i) (wb.parts.length : Int) os).map fun t => r ++ t) = ((choicesL os ((growPairs wb.parts.length).take i)).take k).flatMap (fun r => (waysM ((0 : Int) + i) (wb.parts.length : Int) os).map fun t => r ++ t) ++ (waysM ((0 : Int) + i) (wb.parts.length : Int) os).map fun t => r ++ t := by
          rw [List.take_add_one, hr, List.flatMap_append]; simp
        rw [show (fun r : List Tie => (waysM (((0 : Int) + i), (wb.parts.length : Int)).1 (((0 : Int) + i), (wb.parts.length : Int)).2 os).map fun t => r ++ t) = fun r : List Tie => (waysM ((0 : Int) + i) (wb.parts.length : Int) os).map fun t => r ++ t from rfl, et, List.length_append, ← choicesL_snoc] at lpart
        have big : (6000 : Nat) < sizeLine := by decide
        have lF := hF.length
        have lA := hd3.length
        rw [List.length_map] at lF lA
        refine ⟨mp, q, F, acc, rfl, rfl, upd_same, Ex.new n3 _ _ hq, by omega, ?_⟩
        refine ⟨_, _, H3, F ++ acc, rfl, upd2, n3, eG.trans (e2.trans e3), ?_, hn.append fun z hz => ?_⟩
        · rw [et, List.map_append]
          exact Dts.append hd3 (hF.mono (e2.trans e3))
        · obtain ⟨a, ea, ha⟩ := hn3 z hz
          exact ⟨a, ea, Evl.fresh_back (e4.trans (eG.trans e2)) ha⟩
      · rintro σ _ ⟨vd, ve, G, F, rfl, rfl, hG, eG, hF, hn⟩
        have ls : sxs.length = (choicesL os ((growPairs wb.parts.length).take i)).length := by rw [hsd.length, List.length_map]
        rw [ls, List.take_length] at hF
        refine ⟨_, rfl, ?_⟩
        refine ⟨mp, F, _, _, _, _, rfl, e4.trans (eG.trans (Ex.new hG)), upd_same, ?_, hn⟩
        rw [epr, choicesL_snoc]
        exact hF.mono (Ex.new hG)
    · rintro σ H' ⟨rq, rxs, va, vc, vd, ve, rfl, e1', hrq, hrd, hn⟩
      have ll := lc wb.parts.length
      have lr' := lr wb.parts.length
      rw [List.take_of_length_le (by omega)] at ll lr' hrd
      have lrx : rxs.length = (choicesL os (growPairs wb.parts.length)).length := by rw [hrd.length, List.length_map]
      dsimp only
      refine go_ret (go_cb1 ?_)
      refine lcN H' (fun i acc G => Ex H' G ∧ Dts G (((choicesL os (growPairs wb.parts.length)).take i).map fun r => eWeb ⟨wb.parts ++ [part], sortT (wb.ties ++ r), [], []⟩) acc ∧ Loose H G acc)
        (fun R q => ⟨_, rfl, rq, rfl, ⟨_, SqL.of hrq⟩, q⟩) hrq (by omega) ⟨Ex.refl _, rfl, fun y hy => by simp at hy⟩ ?_ (fun _ => rfl) ?_ ?_
      · rintro i acc G ⟨_, hd, _⟩
        rw [hd.length, List.length_map, List.length_take]; omega
      · rintro i x acc G hi eG ⟨_, hd, hl⟩
        obtain ⟨r, hri, hx⟩ := item' hrd hi
        obtain ⟨q, e, hqn⟩ := hn x (List.mem_of_getElem? hi)
        subst e
        obtain ⟨rx, hq, hqd⟩ := Dt.list_at hx
        have lrr := lr' r (List.mem_of_getElem? hri)
        have lrx' : rx.length = r.length := by rw [hqd.length, List.length_map]
        have eHG := e1'.trans eG
        have big : (5000 : Nat) < sizeLine := by decide
        refine ⟨_, rfl, wp, _, 0, _, rfl, rfl, SqT.of (eHG _ _ hwp), rfl, _, rfl, sz1, fun bp nb => ⟨pa, bp, pxs, [pw], rfl, rfl, (eHG.trans (Ex.new nb)) _ _ hpa, upd_same, by simp; omega, fun p1 n1 => ?_⟩⟩
        have f0 := Ex.new (o := .lst [pw]) nb
        have f1 := Ex.new (o := .lst (pxs ++ [pw])) n1
        have f01 := f0.trans f1
        refine ⟨_, rfl, wp, _, 1, _, rfl, rfl, SqT.of ((eHG.trans f01) _ _ hwp), rfl, _, rfl, ta, q, txs, rx, rfl, rfl, (eHG.trans f01) _ _ hta, (eG.trans f01) _ _ hq, by omega, fun p2 n2 => ?_⟩
        have f2 := Ex.new (o := .lst (txs ++ rx)) n2
        have f02 := f01.trans f2
        have dtt : Dts (upd (upd (upd G bp (.lst [pw])) p1 (.lst (pxs ++ [pw]))) p2 (.lst (txs ++ rx))) ((wb.ties ++ r).map eTie) (txs ++ rx) := by
          rw [List.map_append]
          exact Dts.append (hqd.mono (eG.trans f02)) (htx.mono (eHG.trans f02))
        refine ⟨p2, _, _, rfl, upd_same, dtt, allAlike_map alike_tie _, .inl fun d h => ?_, fun d h => ?_, fun p3 ys n3 pm dd => ?_⟩
        · obtain ⟨t, _, rfl⟩ := List.mem_map.mp h
          exact ⟨_, _, rfl⟩
        · obtain ⟨t, _, rfl⟩ := List.mem_map.mp h
          have := dep_tie t
          omega
        rw [sortT_data] at dd
        have f3 := Ex.new (o := .lst ys) n3
        refine ⟨Nat.zero_le _, fun p4 n4 => ⟨Nat.zero_le _, fun p5 n5 => ⟨sz4, fun tp n6 => ?_⟩⟩⟩
        have f4 := Ex.new (o := .lst []) n4
        have f5 := Ex.new (o := .lst []) n5
        have f6 := Ex.new (o := .tup [.ref p1, .ref p3, .ref p4, .ref p5]) n6
        have f36 := f3.trans (f4.trans (f5.trans f6))
        have f06 := f02.trans f36
        have b1 := Evl.fresh_back (eHG.trans f0) n1
        have b3 := Evl.fresh_back (eHG.trans f02) n3
        have b4 := Evl.fresh_back ((eHG.trans f02).trans f3) n4
        have b5 := Evl.fresh_back (((eHG.trans f02).trans f3).trans f4) n5
        have g1 := (f2.trans f36) _ _ (upd_same (H := upd G bp (.lst [pw])) (a := p1) (o := .lst (pxs ++ [pw])))
        have g3 := (f4.trans (f5.trans f6)) _ _ (upd_same (o := .lst ys) (a := p3))
        have lys := pm.length_eq
        rw [List.length_append] at lys
        refine ⟨f06, eG.trans f06, ?_, (hl.mono f06).append (loose_web b1 g1 (by simp; omega) b3 g3 (by omega) b4 ((f5.trans f6) _ _ upd_same) (Nat.zero_le _) b5 (f6 _ _ upd_same) (Nat.zero_le _) upd_same)⟩
        rw [List.take_add_one, hri, List.map_append]
        refine Dts.snoc ?_ (hd.mono f06)
        refine web_mk upd_same ⟨p1, _, rfl, g1, ?_⟩ ⟨p3, ys, rfl, g3, dd.mono f36⟩ ⟨p4, [], rfl, (f5.trans f6) _ _ upd_same, rfl⟩ ⟨p5, [], rfl, f6 _ _ upd_same, rfl⟩
        rw [List.map_append]
        exact Dts.snoc (dp.mono (eHG.trans f06)) (hpx.mono (eHG.trans f06))
      · rintro acc G p eG hp ⟨_, hd, hl⟩
        rw [lrx, List.take_length] at hd
        refine sort_webs (ws := (choicesL os (growPairs wb.parts.length)).map fun r => ⟨wb.parts ++ [part], sortT (wb.ties ++ r), [], []⟩) (e1'.trans eG) hp (by rw [List.map_map]; exact hd) hl (by rw [hd.length, List.length_map]; omega) fun p ys H' e _ hp _ hd _ => ?_
        rw [← sortW_perm _ (choices_perm os (growPairs wb.parts.length))] at hd
        exact k p ys H' e hp hd
end
end W3

end
section
set_option Elab.async false
set_option linter.all false
set_option maxRecDepth 100000
set_option maxHeartbeats 4000000
namespace W3
open PySem PySem.Spec PyProof.Rows L2 M83
open Evl (Ex)
section
variable {P : Program} {w : World} {K : PySem.W.Frag} {mg : Str → Option Value} {base : Heap}
/-! ### _law_is_whole -/
open Classical in
def p_lwhole : Sp3 := fun vs H Q => ∃ (v : V) (wb : Web), vs = [v] ∧ Dt H (eWeb wb) v ∧ wb.parts.length ≤ 100 ∧ wb.ties.length ≤ 1000 ∧ Lf (eParts wb.parts) ∧ TiesOk wb.parts.length wb.ties ∧ ∀ H', Ex H H' → Q (.bl (decide (Whole wb.parts.length wb.ties))) H'
open Classical in
theorem d_l_is_whole {f : Addr} {fd : FuncData} (F : Fun K "_law_is_whole" "_law_is_whole" sl_is_whole f fd) (hm : mg "_law_is_whole" = some (.ref f)) (T : Txt mg) : Df P w K mg base 1 "_law_is_whole" ["_law_web_here"] p_lwhole := by
  refine Df.body F hm bil_is_whole scl_is_whole (fun vs H Q h => ?_) (fun cdv A outer s H vs Q hr h => ?_)
  · obtain ⟨v, wb, rfl, _⟩ := h; rfl
  · obtain ⟨v, wb, rfl, dw, h1, h2, lf, ok, k⟩ := h
    obtain ⟨wp, pa, ta, ha, sa, rfl, hwp, d1, d2, d3, d4⟩ := web_at dw
    obtain ⟨pxs, hpa, hpx⟩ := Dt.list_at d1
    obtain ⟨txs, hta, htx⟩ := Dt.list_at d2
    have lp : pxs.length = wb.parts.length := by rw [hpx.length, List.length_map]
    have lt : txs.length = wb.ties.length := by rw [htx.length, List.length_map]
    have big : (3000 : Nat) < sizeLine := by decide
    have dP : (eParts wb.parts).depth ≤ 32 := by
      have := dep_list dep_part wb.parts
      show (PyData.list _).depth ≤ _
      omega
    refine ⟨_, (pss_cons (ps_set (i := 1) scl_is_whole.nd rfl (Or.inl rfl) (pe_m (pe_ifExp (pt_cmpR (opNeD K hr.u64) (pe_ix (ixT K) (pv 0) pe_int (fun _ _ => rfl)) (pe_lst pa_nil) (nomark _)) (pe_lst (pa_cons pe_int pa_nil)) (pe_lst pa_nil))))
 (pss_cons (ps_for PassesOwn.never rfl (pi_range1 rfl T.range (pa_cons (pe_callB (lenS K) (by rfl) T.n_len bt_len (pa_cons (pe_ix (ixT K) (pv 0) pe_int (fun _ _ => rfl)) pa_nil)) pa_nil)) (pg_name (i := 2) scl_is_whole.nd rfl (Or.inl rfl)) (pss_one (ps_for PassesOwn.never rfl (piL K (pe_ix (ixT K) (pv 0) pe_int (fun _ _ => rfl))) (pgT K 3 (pgs_cons (pg_name (i := 3) scl_is_whole.nd rfl (Or.inl rfl)) (pgs_cons (pg_name (i := 4) scl_is_whole.nd rfl (Or.inl rfl)) (pgs_cons (pg_name (i := 5) scl_is_whole.nd rfl (Or.inl rfl)) pgs_nil)))) (pss_one (ps_if (pt_cmpR op_ne (pe_cmpR (opIn K) (pv 3) (pv 1) (by with_unfolding_all rfl)) (pe_cmpR (opIn K) (pv 4) (pv 1) (by with_unfolding_all rfl)) (nomark _)) (pss_one (ps_expr (pe_bm PySem.F.plainAttrs_list PySem.F.slot_list_append PySem.F.type_list_append mt_append (pv 1) (pa_cons (pe_ifExp (pt_cmpR (opIn K) (pv 3) (pv 1) (by with_unfolding_all rfl)) (pv 4) (pv 3)) pa_nil)))) pss_nil)))))
 (pss_one (ps_ret (pe_cmpR op_eq (pe_callB (lenS K) (by rfl) T.n_len bt_len (pa_cons (pv 1) pa_nil)) (pe_callB (lenS K) (by rfl) T.n_len bt_len (pa_cons (pe_ix (ixT K) (pv 0) pe_int (fun _ _ => rfl)) pa_nil)) (nomark _)))))), ?_⟩
    -- met
    refine ⟨fun v H' => ∃ mp, v = .ref mp ∧ H mp = none ∧ Ex H H' ∧ H' mp = some (.lst ((if wb.parts = [] then [] else [0]).map V.int)), ?_, ?_⟩
    · refine ⟨_, rfl, wp, _, 0, _, rfl, rfl, SqT.of hwp, rfl, Nat.zero_le _, fun b1 nb1 => ?_⟩
      have e3 := Ex.new (o := .lst []) nb1
      refine ⟨_, _, Dt.dp (d1.mono e3), Dt.dp (dt_nil upd_same), shaped_of lf dP, shaped_of nil_lf nil_dep, _, rfl, ?_⟩
      rw [show eParts wb.parts = .list (wb.parts.map ePart) from rfl, eqv_nil]
      refine iteAny (fun h => ?_) (fun h => ?_)
      · have hne : wb.parts ≠ [] := fun e => by rw [e] at h; simp at h
        rw [if_neg hne]
        exact ⟨sz1, fun mp hmp => ⟨mp, rfl, Evl.fresh_back e3 hmp, e3.trans (Ex.new hmp), upd_same⟩⟩
      · have he : wb.parts = [] := by simpa using h
        rw [if_pos he]
        exact ⟨Nat.zero_le _, fun mp hmp => ⟨mp, rfl, Evl.fresh_back e3 hmp, e3.trans (Ex.new hmp), upd_same⟩⟩
    rintro v H1 ⟨mp, rfl, fm, e1, hmp⟩
    refine ⟨_, rfl, wp, _, 0, _, rfl, rfl, SqT.of (e1 _ _ hwp), rfl, pa, pxs, rfl, .inl (SqL.of (e1 _ _ hpa)), _, rfl, by omega, by omega, ?_⟩
    rw [lp]
    refine for_range (lo := 0) (n := wb.parts.length) (fun i σ H' => ∃ va vb vc vd, σ = [some (.ref wp), some (.ref mp), va, vb, vc, vd] ∧ Ex H H' ∧ H' mp = some (.lst ((rounds wb.ties i (if wb.parts = [] then [] else [0])).map V.int)))
      ⟨none, none, none, none, rfl, e1, hmp⟩ ?_ ?_
    · rintro i σ H2 hi ⟨va, vb, vc, vd, rfl, e2, hm2⟩
      have hne : wb.parts ≠ [] := fun e => by rw [e] at hi; simp at hi
      rw [if_neg hne] at hm2 ⊢
      have n0 : 0 < wb.parts.length := by omega
      have rm0 := rounds_met ok n0 i
      refine ⟨_, rfl, wp, _, 1, _, rfl, rfl, SqT.of (e2 _ _ hwp), rfl, ta, rfl, ⟨_, SqL.of (e2 _ _ hta)⟩, ?_⟩
      refine for_list (K := K) (a := ta) (xs := txs) (fun j σ H' => ∃ va vb vc vd, σ = [some (.ref wp), some (.ref mp), va, vb, vc, vd] ∧ Ex H H' ∧ H' mp = some (.lst ((meets (wb.ties.take j) (rounds wb.ties i [0])).map V.int)))
        ⟨_, _, _, _, rfl, e2, hm2⟩ (fun j σ H' _ ⟨_, _, _, _, _, e, _⟩ => SqL.of (e _ _ hta)) ?_ ?_
      · rintro j x σ H3 hj ⟨va, vb, vc, vd, rfl, e3, hm3⟩
        obtain ⟨t, ht, hx⟩ := item' htx hj
        obtain ⟨q, rfl, hq⟩ := tie_at hx
        have mt := meets_met (us := wb.ties.take j) ok (fun t ht => List.mem_of_mem_take ht) rm0
        have lm := met_len mt
        have es : meets (wb.ties.take (j + 1)) (rounds wb.ties i [0]) = meet1 (meets (wb.ties.take j) (rounds wb.ties i [0])) t := by
          rw [List.take_add_one, ht]; unfold meets; rw [List.foldl_append]; rfl
        rw [es]
        generalize meets (wb.ties.take j) (rounds wb.ties i [0]) = M at hm3 lm ⊢
        refine ⟨q, _, rfl, SqT.of (e3 _ _ hq), rfl, _, _, rfl, _, _, rfl, _, _, rfl, rfl, ?_⟩
        refine ⟨_, rfl, _, rfl, mp, _, rfl, .inl (SqL.of hm3), rfl, flat_ints _, _, rfl, _, rfl, mp, _, rfl, .inl (SqL.of hm3), rfl, flat_ints _, rfl, _, rfl, ?_⟩
        refine iteAny (fun h => ?_) (fun h => ?_)
        · have hc : decide (t.1 ∈ M) ≠ decide (t.2.1 ∈ M) := by simpa [in_ints] using h
          refine ⟨_, rfl, .inl ⟨rfl, _, SqL.of hm3⟩, _, rfl, _, rfl, mp, _, rfl, .inl (SqL.of hm3), rfl, flat_ints _, _, rfl, ?_⟩
          refine iteAny (fun h2 => ?_) (fun h2 => ?_)
          · have hin : t.1 ∈ M := by simpa [in_ints] using h2
            refine ⟨_, rfl, mp, _, _, rfl, rfl, hm3, by rw [List.length_map]; omega, ?_⟩
            refine ⟨_, _, _, _, rfl, Evl.Ex.mut e3 fm, ?_⟩
            rw [upd_same, meet1, if_pos hc, if_pos hin, List.map_append]; rfl
          · have hin : t.1 ∉ M := by simpa [in_ints] using h2
            refine ⟨_, rfl, mp, _, _, rfl, rfl, hm3, by rw [List.length_map]; omega, ?_⟩
            refine ⟨_, _, _, _, rfl, Evl.Ex.mut e3 fm, ?_⟩
            rw [upd_same, meet1, if_pos hc, if_neg hin, List.map_append]; rfl
        · have hc : ¬ decide (t.1 ∈ M) ≠ decide (t.2.1 ∈ M) := by simpa [in_ints] using h
          refine ⟨_, _, _, _, rfl, e3, ?_⟩
          rw [meet1, if_neg hc]; exact hm3
      · rintro σ H3 ⟨va, vb, vc, vd, rfl, e3, hm3⟩
        rw [lt, List.take_length] at hm3
        exact ⟨_, _, _, _, rfl, e3, hm3⟩
    · rintro σ H2 ⟨va, vb, vc, vd, rfl, e2, hm2⟩
      refine ⟨_, rfl, mp, _, rfl, .inl (SqL.of hm2), _, rfl, wp, _, 0, _, rfl, rfl, SqT.of (e2 _ _ hwp), rfl, pa, pxs, rfl, .inl (SqL.of (e2 _ _ hpa)), rfl, ?_⟩
      have z := k H2 e2
      have : decide (V.int ((rounds wb.ties wb.parts.length (if wb.parts = [] then [] else [0])).map V.int).length = V.int pxs.length) = decide (Whole wb.parts.length wb.ties) := by
        rw [Bool.eq_iff_iff, decide_eq_true_iff, decide_eq_true_iff, List.length_map, lp]
        by_cases hne : wb.parts = []
        · rw [if_pos hne]
          have e0 : wb.parts.length = 0 := by rw [hne]; rfl
          rw [e0]
          exact ⟨fun _ j hj => by omega, fun _ => rfl⟩
        · rw [if_neg hne]
          have n0 : 0 < wb.parts.length := List.length_pos_iff.mpr hne
          rw [← rounds_whole ok n0]
          constructor
          · intro h
            have : ((rounds wb.ties wb.parts.length [0]).length : Int) = (wb.parts.length : Int) := by simpa using h
            omega
          · intro h; rw [h]
      rw [← this] at z
      exact z
/-! ### _law_spoilt -/
end
theorem LooseP.app {p : Addr} {n : Nat} {H G : Hp} {ys : List V} {a : Addr} {xa : List V} {v : V} (h : LooseP p n H G ys) (h1 : H a = none) (h2 : a ≠ p) (h3 : G a = some (.lst xa)) (h4 : xa.length ≤ n) : LooseP p (n + 1) H (upd G a (.lst (xa ++ [v]))) ys := fun y hy => by
  obtain ⟨q, a', b, c, d, xa', xb, xc, xd, rfl, hq, ⟨a1, z1, a2, a3⟩, ⟨b1, z2, b2, b3⟩, ⟨c1, z3, c2, c3⟩, ⟨d1, z4, d2, d3⟩⟩ := h y hy
  have f : ∀ {e : Addr} {xe : List V}, G e = some (.lst xe) → xe.length ≤ n → ∃ xf, upd G a (.lst (xa ++ [v])) e = some (.lst xf) ∧ xf.length ≤ n + 1 := fun {e xe} he hl => by
    by_cases ee : e = a
    · subst ee
      exact ⟨_, upd_same, by simp; omega⟩
    · exact ⟨xe, by rw [upd_ne ee]; exact he, by omega⟩
  obtain ⟨fa, fa1, fa2⟩ := f a2 a3
  obtain ⟨fb, fb1, fb2⟩ := f b2 b3
  obtain ⟨fc, fc1, fc2⟩ := f c2 c3
  obtain ⟨fd, fd1, fd2⟩ := f d2 d3
  have hqa : q ≠ a := fun e => by rw [e, h3] at hq; cases hq
  exact ⟨q, a', b, c, d, fa, fb, fc, fd, rfl, by rw [upd_ne hqa]; exact hq, ⟨a1, z1, fa1, fa2⟩, ⟨b1, z2, fb1, fb2⟩, ⟨c1, z3, fc1, fc2⟩, ⟨d1, z4, fd1, fd2⟩⟩
section
variable {P : Program} {w : World} {K : PySem.W.Frag} {mg : Str → Option Value} {base : Heap}
def p_spoilt : Sp3 := fun vs H Q => ∃ (p : Addr) (Hb : Hp) (ys : List V), vs = [.ref p] ∧ Ex Hb H ∧ Hb p = none ∧ H p = some (.lst ys) ∧ ys.length ≤ 5000 ∧ LooseP p 1000 Hb H ys ∧ ∀ v H', Ex Hb H' → Q v H'
theorem d_l_spoilt {f : Addr} {fd : FuncData} (F : Fun K "_law_spoilt" "_law_spoilt" sl_spoilt f fd) (hm : mg "_law_spoilt" = some (.ref f)) (T : Txt mg) : Df P w K mg base 1 "_law_spoilt" ["_law_told"] p_spoilt := by
  refine Df.body F hm bil_spoilt scl_spoilt (fun vs H Q h => ?_) (fun cdv A outer s H vs Q hr h => ?_)
  · obtain ⟨p, Hb, ys, rfl, _⟩ := h; rfl
  · obtain ⟨p, Hb, ys, rfl, e, hbp, hp, hys, hl, k⟩ := h
    have big : (30000 : Nat) < sizeLine := by decide
    refine ⟨_, (pss_cons (ps_for PassesOwn.never rfl (piL K (pv 0)) (pg_name (i := 1) scl_spoilt.nd rfl (Or.inl rfl)) (pss_cons (ps_expr (pe_bm PySem.F.plainAttrs_list PySem.F.slot_list_append PySem.F.type_list_append mt_append (pe_ix (ixT K) (pv 1) pe_int (fun _ _ => rfl)) (pa_cons (pe_tup (pa_cons pe_str (pa_cons pe_int pa_nil))) pa_nil)))
 (pss_cons (ps_expr (pe_bm PySem.F.plainAttrs_list PySem.F.slot_list_append PySem.F.type_list_append mt_append (pe_ix (ixT K) (pv 1) pe_int (fun _ _ => rfl)) (pa_cons (pe_tup (pa_cons pe_int (pa_cons pe_int (pa_cons pe_int pa_nil)))) pa_nil)))
 (pss_cons (ps_expr (pe_bm PySem.F.plainAttrs_list PySem.F.slot_list_append PySem.F.type_list_append mt_append (pe_ix (ixT K) (pv 1) pe_int (fun _ _ => rfl)) (pa_cons (pe_tup (pa_cons pe_int (pa_cons pe_int pa_nil))) pa_nil)))
 (pss_one (ps_expr (pe_bm PySem.F.plainAttrs_list PySem.F.slot_list_append PySem.F.type_list_append mt_append (pe_ix (ixT K) (pv 1) pe_int (fun _ _ => rfl)) (pa_cons (pe_tup (pa_cons pe_int (pa_cons pe_int (pa_cons pe_int pa_nil)))) pa_nil))))))))
 (pss_one (ps_expr (pe_bm PySem.F.plainAttrs_list PySem.F.slot_list_append PySem.F.type_list_append mt_append (pv 0) (pa_cons pe_non pa_nil))))), ?_⟩
    refine ⟨_, rfl, p, rfl, ⟨_, SqL.of hp⟩, ?_⟩
    refine for_list (K := K) (a := p) (xs := ys) (fun i σ H' => ∃ v, σ = [some (.ref p), v] ∧ Ex Hb H' ∧ H' p = some (.lst ys) ∧ LooseP p (1000 + 4 * i) Hb H' ys)
      ⟨none, rfl, e, hp, hl⟩ (fun i σ H' _ ⟨_, _, _, h, _⟩ => SqL.of h) ?_ ?_
    · clear hl hp e
      rintro i y σ H0 hi ⟨v, rfl, e, hp, hl⟩
      have hy := List.mem_of_getElem? hi
      have il := (List.getElem?_eq_some_iff.mp hi).1
      clear hi
      obtain ⟨q0, _, _, _, _, _, _, _, _, ey, _⟩ := hl y hy
      subst ey
      -- web[0].append
      obtain ⟨q, a, b, c, d, xa, xb, xc, xd, eq, hq, ⟨a1, z1, a2, a3⟩, ⟨b1, z2, b2, b3⟩, ⟨c1, z3, c2, c3⟩, ⟨d1, z4, d2, d3⟩⟩ := hl _ hy
      cases eq
      refine ⟨_, rfl, q0, _, 0, _, rfl, rfl, SqT.of hq, rfl, .inl ⟨rfl, _, SqL.of a2⟩, sz2, fun tp htp => ⟨a, xa, _, rfl, rfl, Ex.new htp _ _ a2, by omega, ?_⟩⟩
      have n1 := Ex.new (o := .tup [.str "spoilt", .int 0]) htp
      replace hp := (upd_ne (o := .lst (xa ++ [.ref tp])) z1.symm).trans (n1 _ _ hp)
      replace hl := (hl.mono n1).app (v := .ref tp) a1 z1 (n1 _ _ a2) a3
      replace e := Evl.Ex.mut (o := .lst (xa ++ [.ref tp])) (e.trans n1) a1
      clear n1 a1 z1 a2 a3 b1 z2 b2 b3 c1 z3 c2 c3 d1 z4 d2 d3 hq
      generalize upd (upd H0 tp (.tup [.str "spoilt", .int 0])) a (.lst (xa ++ [.ref tp])) = H1 at hp hl e ⊢
      clear htp
      -- web[1].append
      obtain ⟨q, a, b, c, d, xa, xb, xc, xd, eq, hq, ⟨a1, z1, a2, a3⟩, ⟨b1, z2, b2, b3⟩, ⟨c1, z3, c2, c3⟩, ⟨d1, z4, d2, d3⟩⟩ := hl _ hy
      cases eq
      refine ⟨_, rfl, q0, _, 1, _, rfl, rfl, SqT.of hq, rfl, .inl ⟨rfl, _, SqL.of b2⟩, sz3, fun tp htp => ⟨b, xb, _, rfl, rfl, Ex.new htp _ _ b2, by omega, ?_⟩⟩
      have n1 := Ex.new (o := .tup [.int 7, .int 8, .int 1]) htp
      replace hp := (upd_ne (o := .lst (xb ++ [.ref tp])) z2.symm).trans (n1 _ _ hp)
      replace hl := (hl.mono n1).app (v := .ref tp) b1 z2 (n1 _ _ b2) b3
      replace e := Evl.Ex.mut (o := .lst (xb ++ [.ref tp])) (e.trans n1) b1
      clear n1 a1 z1 a2 a3 b1 z2 b2 b3 c1 z3 c2 c3 d1 z4 d2 d3 hq
      generalize upd (upd H1 tp (.tup [.int 7, .int 8, .int 1])) b (.lst (xb ++ [.ref tp])) = H2 at hp hl e ⊢
      clear htp
      -- web[2].append
      obtain ⟨q, a, b, c, d, xa, xb, xc, xd, eq, hq, ⟨a1, z1, a2, a3⟩, ⟨b1, z2, b2, b3⟩, ⟨c1, z3, c2, c3⟩, ⟨d1, z4, d2, d3⟩⟩ := hl _ hy
      cases eq
      refine ⟨_, rfl, q0, _, 2, _, rfl, rfl, SqT.of hq, rfl, .inl ⟨rfl, _, SqL.of c2⟩, sz2, fun tp htp => ⟨c, xc, _, rfl, rfl, Ex.new htp _ _ c2, by omega, ?_⟩⟩
      have n1 := Ex.new (o := .tup [.int 7, .int 1]) htp
      replace hp := (upd_ne (o := .lst (xc ++ [.ref tp])) z3.symm).trans (n1 _ _ hp)
      replace hl := (hl.mono n1).app (v := .ref tp) c1 z3 (n1 _ _ c2) c3
      replace e := Evl.Ex.mut (o := .lst (xc ++ [.ref tp])) (e.trans n1) c1
      clear n1 a1 z1 a2 a3 b1 z2 b2 b3 c1 z3 c2 c3 d1 z4 d2 d3 hq
      generalize upd (upd H2 tp (.tup [.int 7, .int 1])) c (.lst (xc ++ [.ref tp])) = H3 at hp hl e ⊢
      clear htp
      -- web[3].append
      obtain ⟨q, a, b, c, d, xa, xb, xc, xd, eq, hq, ⟨a1, z1, a2, a3⟩, ⟨b1, z2, b2, b3⟩, ⟨c1, z3, c2, c3⟩, ⟨d1, z4, d2, d3⟩⟩ := hl _ hy
      cases eq
      refine ⟨_, rfl, q0, _, 3, _, rfl, rfl, SqT.of hq, rfl, .inl ⟨rfl, _, SqL.of d2⟩, sz3, fun tp htp => ⟨d, xd, _, rfl, rfl, Ex.new htp _ _ d2, by omega, ?_⟩⟩
      have n1 := Ex.new (o := .tup [.int 7, .int 8, .int 1]) htp
      replace hp := (upd_ne (o := .lst (xd ++ [.ref tp])) z4.symm).trans (n1 _ _ hp)
      replace hl := (hl.mono n1).app (v := .ref tp) d1 z4 (n1 _ _ d2) d3
      replace e := Evl.Ex.mut (o := .lst (xd ++ [.ref tp])) (e.trans n1) d1
      clear n1 a1 z1 a2 a3 b1 z2 b2 b3 c1 z3 c2 c3 d1 z4 d2 d3 hq
      generalize upd (upd H3 tp (.tup [.int 7, .int 8, .int 1])) d (.lst (xd ++ [.ref tp])) = H4 at hp hl e ⊢
      clear htp
      refine ⟨_, rfl, e, hp, ?_⟩
      rw [show 1000 + 4 * (i + 1) = 1000 + 4 * i + 1 + 1 + 1 + 1 by omega]
      exact hl
    · rintro σ H' ⟨v, rfl, e, hp, hl⟩
      refine ⟨_, rfl, .inl ⟨rfl, _, SqL.of hp⟩, p, ys, _, rfl, rfl, hp, by omega, k _ _ (Evl.Ex.mut e hbp)⟩
end
end W3

end
section
set_option Elab.async false
set_option linter.all false
set_option maxRecDepth 100000
set_option maxHeartbeats 4000000
namespace W3
open PySem PySem.Spec PyProof.Rows L2 M83
open Evl (Ex)
/-! ### small data: they are shown -/
structure Sm (k b : Nat) (d : PyData) : Prop where
  lf : Lf d
  dp : d.depth ≤ k
  bk : d.bulk ≤ b
theorem Sm.fine {k b : Nat} {d : PyData} (h : Sm k b d) (hk : k ≤ 32 := by decide) (hb : b ≤ 1000000 := by decide) : Dt.fine d := fine_of h.lf (Nat.le_trans h.dp hk) (Nat.le_trans h.bk hb)
theorem Sm.list {α : Type} {enc : α → PyData} {k b n : Nat} {as : List α} (h : ∀ a ∈ as, Sm k b (enc a)) (hn : as.length ≤ n) : Sm (k + 1) (n * (b + 1)) (.list (as.map enc)) := by
  refine ⟨Lfs.map fun a ha => (h a ha).lf, ?_, ?_⟩
  · show PyData.depthAll _ + 1 ≤ k + 1
    have := depthAll_map (enc := enc) (k := k) (as := as) fun a ha => (h a ha).dp
    omega
  · show PyData.bulkAll _ ≤ _
    have := bulkAll_map (enc := enc) (k := b) (as := as) fun a ha => (h a ha).bk
    exact Nat.le_trans this (Nat.mul_le_mul_right _ hn)
theorem Sm.tup2 {k a b : Nat} {x y : PyData} (h1 : Sm k a x) (h2 : Sm k b y) : Sm (k + 1) (a + b + 2) (.tuple [x, y]) := by
  have := h1.dp; have := h2.dp; have := h1.bk; have := h2.bk
  refine ⟨⟨h1.lf, h2.lf, trivial⟩, ?_, ?_⟩
  · simp only [PyData.depth, PyData.depthAll]; omega
  · simp only [PyData.bulk, PyData.bulkAll]; omega
theorem Sm.tup3 {k a b c : Nat} {x y z : PyData} (h1 : Sm k a x) (h2 : Sm k b y) (h3 : Sm k c z) : Sm (k + 1) (a + b + c + 3) (.tuple [x, y, z]) := by
  have := h1.dp; have := h2.dp; have := h1.bk; have := h2.bk; have := h3.dp; have := h3.bk
  refine ⟨⟨h1.lf, h2.lf, h3.lf, trivial⟩, ?_, ?_⟩
  · simp only [PyData.depth, PyData.depthAll]; omega
  · simp only [PyData.bulk, PyData.bulkAll]; omega
theorem Sm.tup4 {k a b c d : Nat} {x y z u : PyData} (h1 : Sm k a x) (h2 : Sm k b y) (h3 : Sm k c z) (h4 : Sm k d u) : Sm (k + 1) (a + b + c + d + 4) (.tuple [x, y, z, u]) := by
  have := h1.dp; have := h2.dp; have := h1.bk; have := h2.bk; have := h3.dp; have := h3.bk; have := h4.dp; have := h4.bk
  refine ⟨⟨h1.lf, h2.lf, h3.lf, h4.lf, trivial⟩, ?_, ?_⟩
  · simp only [PyData.depth, PyData.depthAll]; omega
  · simp only [PyData.bulk, PyData.bulkAll]; omega
theorem Sm.up {k k' b b' : Nat} {d : PyData} (h : Sm k b d) (hk : k ≤ k' := by decide) (hb : b ≤ b' := by decide) : Sm k' b' d := ⟨h.lf, Nat.le_trans h.dp hk, Nat.le_trans h.bk hb⟩
theorem sm_int {i : Int} (h : i.natAbs < 1000000) : Sm 0 0 (.int i) := ⟨h, by simp [PyData.depth], by simp [PyData.bulk]⟩
theorem sm_part {q : Part} (h : PartFine q) : Sm 1 6 (ePart q) := by
  obtain ⟨h1, h2, h3, h4⟩ := h
  refine ⟨⟨h1, (by show q.2.natAbs < 1000000; omega), trivial⟩, dep_part q, ?_⟩
  simp only [ePart, PyData.bulk, PyData.bulkAll]; omega
def TieSm (t : Tie) : Prop := t.1.natAbs < 1000 ∧ t.2.1.natAbs < 1000 ∧ t.2.2.natAbs < 1000
theorem sm_tie {t : Tie} (h : TieSm t) : Sm 1 3 (eTie t) := by
  obtain ⟨h1, h2, h3⟩ := h
  exact (Sm.tup3 (sm_int (by omega)) (sm_int (by omega)) (sm_int (by omega))).up
theorem sm_hand {h : Hand} (hf : HandFine h) : Sm 1 2 (eHand h) := by
  obtain ⟨h1, h2, h3, h4⟩ := hf
  exact (Sm.tup2 (sm_int (by omega)) (sm_int (by omega))).up
structure WSm (w : Web) : Prop where
  pf : ∀ q ∈ w.parts, PartFine q
  pn : w.parts.length ≤ 30
  tf : ∀ t ∈ w.ties, TieSm t
  tn : w.ties.length ≤ 60
  hf : ∀ h ∈ w.hands, HandFine h
  hn : w.hands.length ≤ 60
  sf : ∀ t ∈ w.sides, TieSm t
  sn : w.sides.length ≤ 60
theorem sm_web {w : Web} (h : WSm w) : Sm 3 1000 (eWeb w) :=
  (Sm.tup4 (Sm.list (n := 30) (fun q hq => sm_part (h.pf q hq)) h.pn) (Sm.list (n := 60) (fun t ht => sm_tie (h.tf t ht)) h.tn) (Sm.up (k' := 2) (b' := 180) (Sm.list (n := 60) (fun t ht => sm_hand (h.hf t ht)) h.hn)) (Sm.list (n := 60) (fun t ht => sm_tie (h.sf t ht)) h.sn)).up
theorem sm_parts {ps : List Part} (h : ∀ q ∈ ps, PartFine q) (hn : ps.length ≤ 30) : Sm 2 210 (eParts ps) := Sm.list (n := 30) (fun q hq => sm_part (h q hq)) hn
theorem sm_ints {os : List Int} (h : ∀ o ∈ os, o.natAbs < 1000000) (hn : os.length ≤ 30) : Sm 1 30 (eInts os) := (Sm.list (enc := PyData.int) (n := 30) (fun o ho => sm_int (h o ho)) hn).up
theorem sm_webs {ws : List Web} (h : ∀ w ∈ ws, WSm w) (hn : ws.length ≤ 100) : Sm 4 100100 (.list (sortW ws)) := by
  have e : (PyData.list (sortW ws)) = .list ((sortW ws).map id) := by rw [List.map_id]
  rw [e]
  refine Sm.list (enc := id) (n := 100) (k := 3) (b := 1000) (fun d hd => ?_) ?_
  · obtain ⟨w, hw, rfl⟩ := List.mem_map.mp (sort_in hd)
    exact sm_web (h w hw)
  · unfold sortW; rw [List.length_mergeSort, List.length_map]; exact hn
theorem choice_bound {n l : Nat} (h : (n ≤ 2 ∧ l ≤ 4) ∨ (n = 3 ∧ l ≤ 3) ∨ (n = 4 ∧ l ≤ 1)) : (l + 1) ^ (pairsM n).length ≤ 64 := by
  rcases h with ⟨h1, h2⟩ | ⟨rfl, h2⟩ | ⟨rfl, h2⟩
  · have : (pairsM n).length ≤ 1 := by
      have := pairsM_len n
      have : n * (n - 1) ≤ 2 * 1 := Nat.mul_le_mul h1 (by omega)
      omega
    exact Nat.le_trans (Nat.pow_le_pow_right (by omega) this) (by rw [Nat.pow_one]; omega)
  · rw [show (pairsM 3).length = 3 by decide]
    exact Nat.le_trans (Nat.pow_le_pow_left (show l + 1 ≤ 4 by omega) 3) (by decide)
  · rw [show (pairsM 4).length = 6 by decide]
    exact Nat.le_trans (Nat.pow_le_pow_left (show l + 1 ≤ 2 by omega) 6) (by decide)
theorem pairs_fin {n : Nat} {pr : Int × Int} (h : pr ∈ pairsM n) : 0 ≤ pr.1 ∧ pr.1 < n ∧ 0 ≤ pr.2 ∧ pr.2 < n := by
  obtain ⟨a, ha, h⟩ := List.mem_flatMap.mp h
  obtain ⟨k, hk, rfl⟩ := List.mem_map.mp h
  have := List.mem_range.mp ha
  have := List.mem_range.mp hk
  refine ⟨?_, ?_, ?_, ?_⟩ <;> dsimp only <;> omega
section
variable {P : Program} {w : World} {K : PySem.W.Frag} {mg : Str → Option Value} {base : Heap}
def p_right : Sp3 := fun vs H Q => ∃ p : Addr, vs = [.ref p] ∧ H p = some (PotO p) ∧ ∀ H', Ex H H' → Q (.bl true) H'
/-! ### _law_choices_right -/
theorem d_l_choices_right {f : Addr} {fd : FuncData} (F : Fun K "_law_choices_right" "_law_choices_right" sl_choices_right f fd) (hm : mg "_law_choices_right" = some (.ref f)) (T : Txt mg) (d_l_draw : Df P w K mg base 1 "_law_draw" ["_law_pot_here", "_law_size"] p_draw)
    (d_l_pick : Df P w K mg base 2 "_law_pick" ["_law_pot_here", "_law_some"] p_pick) (d_l_orders : Df P w K mg base 3 "_law_orders" ["_law_pot_here", "_law_most"] p_orders) (d_l_choices : Df P w K mg base 1 "_law_choices" ["_law_parts", "_law_orders_here"] p_lchoices)
    (d_l_spoilt : Df P w K mg base 1 "_law_spoilt" ["_law_told"] p_spoilt) (d_all_choices : Df P w K mg base 2 "all_choices" ["parts", "orders"] p_all_choices) (dk_all_choices : Dk P w K mg base 2 "all_choices" ["parts", "orders"] p_all_choices sall_choices) :
    Df P w K mg base 7 "_law_choices_right" ["_law_pot_here"] p_right := by
  refine Df.body F hm bil_choices_right scl_choices_right (fun vs H Q h => ?_) (fun cdv A outer s H vs Q hr h => ?_)
  · obtain ⟨p, rfl, _⟩ := h; rfl
  · obtain ⟨p, rfl, hp, k⟩ := h
    refine ⟨_, (pss_cons (ps_set (i := 1) scl_choices_right.nd rfl (Or.inl rfl) (pe_c3 d_l_draw (hr.less (by decide)) rfl (pa_cons (pv 0) (pa_cons pe_int pa_nil))))
 (pss_cons (ps_setLc (own := [("_law_turn", 8)]) (i := 2) rfl scl_choices_right.nd rfl rfl (sw_true rfl rfl rfl (by decide +kernel)) (pi_range1 rfl T.range (pa_cons (pv 1) pa_nil)) (blkOk_by (N := Nl_choices_right) (sc := defScope sl_choices_right) (by decide +kernel)) (fun _ _ _ _ _ => (pg_name (i := 8) scl_choices_right.nd rfl (Or.inl rfl))) (fun _ _ _ _ _ => pts_nil) (fun _ _ _ _ _ => (pe_fr (pe_c3 d_l_pick (hr.less (by decide)) rfl (pa_cons (pv 0) (pa_cons (pe_lst (pa_cons (pe_tup (pa_cons pe_str (pa_cons pe_int pa_nil))) (pa_cons (pe_tup (pa_cons pe_str (pa_cons pe_int pa_nil))) (pa_cons (pe_tup (pa_cons pe_str (pa_cons pe_int pa_nil))) (pa_cons (pe_tup (pa_cons pe_str (pa_cons (pe_un un_neg pe_int) pa_nil))) pa_nil))))) pa_nil))))))
 (pss_cons (ps_set (i := 3) scl_choices_right.nd rfl (Or.inl rfl) (pe_callB (crSI K) (by rfl) T.n_sorted bt_sorted (pa_cons (pe_c3 d_l_orders (hr.less (by decide)) rfl (pa_cons (pv 0) (pa_cons (pe_ix (ixL K) (pe_lst (pa_cons pe_int (pa_cons pe_int (pa_cons pe_int (pa_cons pe_int (pa_cons pe_int pa_nil)))))) (pv 1) (fun _ _ => rfl)) pa_nil))) pa_nil)))
 (pss_cons (ps_par (i := 6) (j := 7) rfl scl_choices_right.nd rfl rfl (by decide) rfl rfl (pa_cons (pe_callB (cr_reprD hr.quiet hr.u64) (by rfl) T.n_repr bt_repr (pa_cons (pe_tup (pa_cons (pv 2) (pa_cons (pv 3) pa_nil))) pa_nil)) (pa_cons (pe_callB (cr_reprD hr.quiet hr.u64) (by rfl) T.n_repr bt_repr (pa_cons (pe_c3 d_l_choices (hr.less (by decide)) rfl (pa_cons (pv 2) (pa_cons (pv 3) pa_nil))) pa_nil)) pa_nil)) (by rfl))
 (pss_cons (ps_set (i := 4) scl_choices_right.nd rfl (Or.inl rfl) (pe_c3 d_all_choices (hr.less (by decide)) rfl (pa_cons (pv 2) (pa_cons (pv 3) pa_nil))))
 (pss_cons (ps_if (pt_cmpR op_ne (pe_callB (cr_reprD hr.quiet hr.u64) (by rfl) T.n_repr bt_repr (pa_cons (pv 4) pa_nil)) (pv 7) (nomark _)) (pss_one (ps_ret pe_bl)) pss_nil)
 (pss_cons (ps_expr (pe_c3 d_l_spoilt (hr.less (by decide)) rfl (pa_cons (pv 4) pa_nil)))
 (pss_cons (ps_set (i := 5) scl_choices_right.nd rfl (Or.inl rfl) (pe_callB (cr_reprD hr.quiet hr.u64) (by rfl) T.n_repr bt_repr (pa_cons (pe_ck (g := kg_all_choices) (ks := ["orders", "parts"]) dk_all_choices (hr.less (by decide)) rfl (pk_cons (pv 3) (pk_cons (pv 2) pk_nil)) kb_all_choices kv_all_choices) pa_nil)))
 (pss_one (ps_ret (pe_and (pe_cmpR op_eq (pv 5) (pv 7) (nomark _)) (pe_one (pe_cmpR op_eq (pe_callB (cr_reprD hr.quiet hr.u64) (by rfl) T.n_repr bt_repr (pa_cons (pe_tup (pa_cons (pv 2) (pa_cons (pv 3) pa_nil))) pa_nil)) (pv 6) (nomark _)))))))))))))), ?_⟩
    -- many
    refine ⟨_, rfl, p, _, rfl, hp, by omega, by omega, fun d d0 d1 H1 e1 => ?_⟩
    -- parts
    dsimp only [gName]
    refine go_sets (lcR H1 (lo := 0) (n := d.toNat) (fun i acc G => ∃ ps, Ex H1 G ∧ Dts G (ps.map ePart) acc ∧ ps.length = i ∧ ∀ q ∈ ps, PartFine q) (fun R r => ⟨_, rfl, _, rfl, by omega, by omega, r⟩) (by omega) ⟨[], Ex.refl _, dts_nil, rfl, fun q h => by simp at h⟩ ?_ (fun _ => rfl) ?_ ?_)
    · rintro i acc G ⟨ps, _, hd, hl, _⟩
      rw [hd.length, List.length_map, hl]; exact Nat.le_refl _
    · rintro i acc G hi eG ⟨ps, _, hd, hl, hf⟩
      have hpG := eG _ _ (e1 _ _ hp)
      refine pick4 ("k", 0) ("k", 0) ("a", 9) ("b", -9) (fun _ _ q => q) (fun _ _ q => q) (fun _ _ q => q) (fun _ _ q => ⟨9, rfl, q⟩) rfl hpG fun q x H2 hq e2 hx => ?_
      have fq : PartFine q := by
        rcases hq with rfl | rfl | rfl | rfl
        · exact ⟨by decide +kernel, by decide +kernel, by decide, by decide⟩
        · exact ⟨by decide +kernel, by decide +kernel, by decide, by decide⟩
        · exact ⟨by decide +kernel, by decide +kernel, by decide, by decide⟩
        · exact ⟨by decide +kernel, by decide +kernel, by decide, by decide⟩
      refine ⟨e2, ps ++ [q], eG.trans e2, ?_, by simp [hl], fun r hr => ?_⟩
      · rw [List.map_append]
        exact Dts.snoc ((hx p _ hpG).mono ex_rm) (hd.mono e2)
      · rcases List.mem_append.mp hr with hr | hr
        · exact hf r hr
        · have : r = q := by simpa using hr
          rw [this]; exact fq
    rintro acc G qp eG hqp ⟨ps, _, hd, hl, hf⟩
    have e2 := e1.trans (eG.trans (Ex.new (o := .lst acc) hqp))
    have dP0 : Dt (upd G qp (.lst acc)) (eParts ps) (.ref qp) := ⟨qp, acc, rfl, upd_same, hd.mono (Ex.new hqp)⟩
    generalize upd G qp (.lst acc) = H2 at e2 dP0 ⊢
    -- orders
    obtain ⟨m, hm1, m0, m1, hcond⟩ : ∃ m : Int, atI ([4, 4, 4, 3, 1].map V.int) d = some (.int m) ∧ 0 ≤ m ∧ m ≤ 4 ∧ (d ≤ 2 ∨ (d = 3 ∧ m ≤ 3) ∨ (d = 4 ∧ m ≤ 1)) := by
      have : d = 0 ∨ d = 1 ∨ d = 2 ∨ d = 3 ∨ d = 4 := by omega
      rcases this with rfl | rfl | rfl | rfl | rfl
      · exact ⟨4, rfl, by omega, by omega, by omega⟩
      · exact ⟨4, rfl, by omega, by omega, by omega⟩
      · exact ⟨4, rfl, by omega, by omega, by omega⟩
      · exact ⟨3, rfl, by omega, by omega, by omega⟩
      · exact ⟨1, rfl, by omega, by omega, by omega⟩
    refine ⟨_, rfl, (by show 5 ≤ sizeLine; decide), fun lp hlp => ⟨_, rfl, lp, _, d, _, rfl, rfl, SqL.of upd_same, hm1, p, m, rfl, (e2.trans (Ex.new hlp)) _ _ hp, m0, m1, fun q os H3 e3 hq ll ho => ⟨q, os, rfl, SqL.of hq, fun os' oq pm _ noq => ?_⟩⟩⟩
    have e4 := (Ex.new hlp).trans (e3.trans (Ex.new (o := .lst (os'.map V.int)) noq))
    have lo := pm.length_eq
    have dP := dP0.mono e4
    have dO : Dt (upd H3 oq (.lst (os'.map V.int))) (eInts os') (.ref oq) := ints_mk upd_same
    have e5 := e2.trans e4
    clear hlp e3 noq
    have ho' : ∀ o ∈ os', 1 ≤ o ∧ o ≤ 4 := fun o h => ho o (pm.mem_iff.mp h)
    generalize upd H3 oq (.lst (os'.map V.int)) = H4 at dP dO e5 ⊢
    clear e4 hq
    have cb : (os'.length + 1) ^ (pairsM ps.length).length ≤ 64 := choice_bound (by omega)
    have smW : Sm 4 100100 (.list (sortW ((choicesM os' (pairsM ps.length)).map fun r => ⟨ps, r, [], []⟩))) := by
      refine sm_webs (fun w hw => ?_) (by rw [List.length_map, choices_len]; omega)
      obtain ⟨r, hr, rfl⟩ := List.mem_map.mp hw
      obtain ⟨h1, h2⟩ := choices_fin (B := TieSm) (fun pr hpr o ho => by
        have := pairs_fin hpr
        have := ho' o ho
        refine ⟨?_, ?_, ?_⟩ <;> dsimp only <;> omega) r hr
      have lpm : (pairsM ps.length).length ≤ 6 := by
        have := pairsM_len ps.length
        have : ps.length * (ps.length - 1) ≤ 4 * 3 := Nat.mul_le_mul (by omega) (by omega)
        omega
      exact ⟨hf, (by show ps.length ≤ 30; omega), h1, (by show r.length ≤ 60; omega), fun h hh => by simp at hh, Nat.zero_le _, fun h hh => by simp at hh, Nat.zero_le _⟩
    have smK : Sm 3 242 (.tuple [eParts ps, eInts os']) := Sm.tup2 (sm_parts hf (by omega)) (Sm.up (k' := 2) (b' := 30) (sm_ints (fun o h => by have := ho' o h; omega) (by omega)))
    -- kept, due
    refine ⟨_, rfl, _, rfl, sz2, fun tp htp => ⟨.ref tp, .tuple [eParts ps, eInts os'], rfl, ?_, rfl, smK.fine, ?_⟩⟩
    · exact ⟨tp, _, rfl, upd_same, Dts.mk2 (dP.mono (Ex.new htp)) (dO.mono (Ex.new htp))⟩
    have e6 := Ex.new (o := .tup [.ref qp, .ref oq]) htp
    refine ⟨_, rfl, _, rfl, _, _, ps, os', rfl, dP.mono e6, dO.mono e6, by omega, by omega, by omega, fun r ys H5 e7 hr dd => ⟨.ref r, _, rfl, dt_list hr dd, rfl, smW.fine, _, _, rfl, ?_⟩⟩
    have dP5 := dP.mono (e6.trans e7)
    have dO5 := dO.mono (e6.trans e7)
    have e8 := e5.trans (e6.trans e7)
    -- told
    refine ⟨_, rfl, _, rfl, _, _, ps, os', rfl, dP5, dO5, by omega, by omega, by omega, fun t yt H6 e9 nt ht lt dt loose => ?_⟩
    refine ⟨_, rfl, .ref t, _, rfl, dt_list ht dt, rfl, smW.fine, _, rfl, rfl, _, rfl, ?_⟩
    refine iteAny (fun h => absurd h (by simp)) (fun _ => ?_)
    -- spoilt
    refine ⟨_, rfl, t, H5, yt, rfl, e9, nt, ht, lt, loose, fun v H7 e10 => ?_⟩
    -- again
    refine ⟨_, rfl, _, rfl, rfl, _, _, ps, os', rfl, dP5.mono e10, dO5.mono e10, by omega, by omega, by omega, fun t2 yt2 H8 e11 nt2 ht2 lt2 dt2 _ => ?_⟩
    refine ⟨.ref t2, _, rfl, dt_list ht2 dt2, rfl, smW.fine, ?_⟩
    refine ⟨_, rfl, _, rfl, rfl, _, rfl, ?_⟩
    refine iteAny (fun _ => ?_) (fun h => absurd h (by simp))
    refine ⟨_, rfl, _, rfl, sz2, fun tp2 htp2 => ⟨.ref tp2, .tuple [eParts ps, eInts os'], rfl, ?_, rfl, smK.fine, _, rfl, rfl, ?_⟩⟩
    · exact ⟨tp2, _, rfl, upd_same, Dts.mk2 (dP5.mono (e10.trans (e11.trans (Ex.new htp2)))) (dO5.mono (e10.trans (e11.trans (Ex.new htp2))))⟩
    have z := k _ (e8.trans (e10.trans (e11.trans (Ex.new (o := .tup [.ref qp, .ref oq]) htp2))))
    rw [decide_eq_true rfl]
    exact z
end
end W3

end
section
set_option Elab.async false
set_option linter.all false
set_option maxRecDepth 100000
set_option maxHeartbeats 4000000
namespace W3
open PySem PySem.Spec PyProof.Rows L2 M83
open Evl (Ex)
theorem grow_bound {n l : Nat} (h : (n ≤ 3 ∧ l ≤ 3) ∨ (n = 4 ∧ l ≤ 2)) : (l + 1) ^ n ≤ 100 := by
  rcases h with ⟨h1, h2⟩ | ⟨rfl, h2⟩
  · exact Nat.le_trans (Nat.pow_le_pow_right (by omega) h1) (Nat.le_trans (Nat.pow_le_pow_left (show l + 1 ≤ 4 by omega) 3) (by decide))
  · exact Nat.le_trans (Nat.pow_le_pow_left (show l + 1 ≤ 3 by omega) 4) (by decide)
theorem WebFine.sm {m : Nat} {wb : Web} (h : WebFine m wb) (hm : m ≤ 6) : WSm wb := by
  refine ⟨h.pf, by have := h.pl; omega, fun t ht => ?_, by have := h.tl; omega, h.hf, by have := h.hl; omega, fun t ht => ?_, by have := h.sl; omega⟩
  · have a := h.tf.1 t ht
    have b := h.tf.2 t ht
    have := h.pl
    exact ⟨by omega, by omega, by omega⟩
  · obtain ⟨a, b, c, d, e, f⟩ := h.sf t ht
    exact ⟨by omega, by omega, by omega⟩
theorem WebFine.plain {m : Nat} {wb : Web} (h : WebFine m wb) : WebFine m ⟨wb.parts, wb.ties, [], []⟩ := ⟨h.pl, h.pf, h.tf, h.tl, fun h hh => by simp at hh, Nat.zero_le _, fun h hh => by simp at hh, Nat.zero_le _⟩
section
variable {P : Program} {w : World} {K : PySem.W.Frag} {mg : Str → Option Value} {base : Heap}
/-! ### _law_grown_right -/
theorem d_l_grown_right {f : Addr} {fd : FuncData} (F : Fun K "_law_grown_right" "_law_grown_right" sl_grown_right f fd) (hm : mg "_law_grown_right" = some (.ref f)) (T : Txt mg) (d_l_draw : Df P w K mg base 1 "_law_draw" ["_law_pot_here", "_law_size"] p_draw)
    (d_l_pick : Df P w K mg base 2 "_law_pick" ["_law_pot_here", "_law_some"] p_pick) (d_l_orders : Df P w K mg base 3 "_law_orders" ["_law_pot_here", "_law_most"] p_orders) (d_l_web : Df P w K mg base 4 "_law_web" ["_law_pot_here", "_law_least", "_law_most"] p_web)
    (d_l_grown : Df P w K mg base 1 "_law_grown" ["_law_web_here", "_law_part", "_law_orders_here"] p_lgrown) (d_l_spoilt : Df P w K mg base 1 "_law_spoilt" ["_law_told"] p_spoilt)
    (d_grown : Df P w K mg base 1 "grown" ["web", "part", "orders"] p_grown) (dk_grown : Dk P w K mg base 1 "grown" ["web", "part", "orders"] p_grown sgrown) :
    Df P w K mg base 7 "_law_grown_right" ["_law_pot_here"] p_right := by
  refine Df.body F hm bil_grown_right scl_grown_right (fun vs H Q h => ?_) (fun cdv A outer s H vs Q hr h => ?_)
  · obtain ⟨p, rfl, _⟩ := h; rfl
  · obtain ⟨p, rfl, hp, k⟩ := h
    refine ⟨_, (pss_cons (ps_set (i := 1) scl_grown_right.nd rfl (Or.inl rfl) (pe_c3 d_l_web (hr.less (by decide)) rfl (pa_cons (pv 0) (pa_cons pe_int (pa_cons (pe_m (pe_ifExp (pt_cmpR op_gt (pe_c3 d_l_draw (hr.less (by decide)) rfl (pa_cons (pv 0) (pa_cons pe_int pa_nil))) pe_int (nomark _)) pe_int pe_int)) pa_nil)))))
 (pss_cons (ps_set (i := 1) scl_grown_right.nd rfl (Or.inl rfl) (pe_tup (pa_cons (pe_ix (ixT K) (pv 1) pe_int (fun _ _ => rfl)) (pa_cons (pe_ix (ixT K) (pv 1) pe_int (fun _ _ => rfl)) (pa_cons (pe_lst pa_nil) (pa_cons (pe_lst pa_nil) pa_nil))))))
 (pss_cons (ps_set (i := 2) scl_grown_right.nd rfl (Or.inl rfl) (pe_callB (crSI K) (by rfl) T.n_sorted bt_sorted (pa_cons (pe_c3 d_l_orders (hr.less (by decide)) rfl (pa_cons (pv 0) (pa_cons (pe_m (pe_ifExp (pt_cmpR op_eq (pe_callB (lenS K) (by rfl) T.n_len bt_len (pa_cons (pe_ix (ixT K) (pv 1) pe_int (fun _ _ => rfl)) pa_nil)) pe_int (nomark _)) pe_int pe_int)) pa_nil))) pa_nil)))
 (pss_cons (ps_set (i := 3) scl_grown_right.nd rfl (Or.inl rfl) (pe_c3 d_l_pick (hr.less (by decide)) rfl (pa_cons (pv 0) (pa_cons (pe_lst (pa_cons (pe_tup (pa_cons pe_str (pa_cons pe_int pa_nil))) (pa_cons (pe_tup (pa_cons pe_str (pa_cons pe_int pa_nil))) (pa_cons (pe_tup (pa_cons pe_str (pa_cons (pe_un un_neg pe_int) pa_nil))) (pa_cons (pe_tup (pa_cons pe_str (pa_cons pe_int pa_nil))) pa_nil))))) pa_nil))))
 (pss_cons (ps_par (i := 5) (j := 6) rfl scl_grown_right.nd rfl rfl (by decide) rfl rfl (pa_cons (pe_callB (cr_reprD hr.quiet hr.u64) (by rfl) T.n_repr bt_repr (pa_cons (pe_tup (pa_cons (pv 1) (pa_cons (pv 2) pa_nil))) pa_nil)) (pa_cons (pe_callB (cr_reprD hr.quiet hr.u64) (by rfl) T.n_repr bt_repr (pa_cons (pe_c3 d_l_grown (hr.less (by decide)) rfl (pa_cons (pv 1) (pa_cons (pv 3) (pa_cons (pv 2) pa_nil)))) pa_nil)) pa_nil)) (by rfl))
 (pss_cons (ps_set (i := 4) scl_grown_right.nd rfl (Or.inl rfl) (pe_c3 d_grown (hr.less (by decide)) rfl (pa_cons (pv 1) (pa_cons (pv 3) (pa_cons (pv 2) pa_nil)))))
 (pss_cons (ps_if (PW.pt (pw_or (pt_cmpR op_ne (pe_callB (cr_reprD hr.quiet hr.u64) (by rfl) T.n_repr bt_repr (pa_cons (pv 4) pa_nil)) (pv 6) (nomark _)) (pw_or1 (pt_cmpR op_ne (pe_callB (cr_reprD hr.quiet hr.u64) (by rfl) T.n_repr bt_repr (pa_cons (pe_tup (pa_cons (pv 1) (pa_cons (pv 2) pa_nil))) pa_nil)) (pv 5) (nomark _))))) (pss_one (ps_ret pe_bl)) pss_nil)
 (pss_cons (ps_expr (pe_c3 d_l_spoilt (hr.less (by decide)) rfl (pa_cons (pv 4) pa_nil)))
 (pss_one (ps_ret (pe_and (pe_cmpR op_eq (pe_callB (cr_reprD hr.quiet hr.u64) (by rfl) T.n_repr bt_repr (pa_cons (pe_ck (g := kg_grown) (ks := ["orders", "part", "web"]) dk_grown (hr.less (by decide)) rfl (pk_cons (pv 2) (pk_cons (pv 3) (pk_cons (pv 1) pk_nil))) kb_grown kv_grown) pa_nil)) (pv 6) (nomark _)) (pe_one (pe_cmpR op_eq (pe_callB (cr_reprD hr.quiet hr.u64) (by rfl) T.n_repr bt_repr (pa_cons (pe_tup (pa_cons (pv 1) (pa_cons (pv 2) pa_nil))) pa_nil)) (pv 5) (nomark _)))))))))))))), ?_⟩
    -- web
    refine ⟨_, rfl, fun v H' => ∃ m : Nat, v = .int m ∧ m ≤ 4 ∧ Ex H H', ?_, ?_⟩
    · refine ⟨_, rfl, p, _, rfl, hp, by omega, by omega, fun d d0 d1 H1 e1 => ⟨_, _, rfl, rfl, _, rfl, iteAny (fun _ => ⟨3, rfl, by omega, e1⟩) (fun _ => ⟨4, rfl, by omega, e1⟩)⟩⟩
    rintro v H1 ⟨m, rfl, hm4, e1⟩
    refine ⟨p, 0, m, m, rfl, e1 _ _ hp, by omega, by omega, rfl, by omega, fun wv wb H2 e2 dw fw => ?_⟩
    obtain ⟨wp, pa, ta, ha, sa, rfl, hwp, dd1, dd2, _, _⟩ := web_at dw
    -- its parts and ties alone
    refine ⟨_, rfl, wp, _, 0, _, rfl, rfl, SqT.of hwp, rfl, _, rfl, wp, _, 1, _, rfl, rfl, SqT.of hwp, rfl, Nat.zero_le _, fun l1 n1 => ⟨Nat.zero_le _, fun l2 n2 => ⟨sz4, fun tp ntp => ?_⟩⟩⟩
    have f1 := Ex.new (o := .lst []) n1
    have f2 := Ex.new (o := .lst []) n2
    have f3 := Ex.new (o := .tup [.ref pa, .ref ta, .ref l1, .ref l2]) ntp
    have f13 := f1.trans (f2.trans f3)
    have dW0 : Dt (upd (upd (upd H2 l1 (.lst [])) l2 (.lst [])) tp (.tup [.ref pa, .ref ta, .ref l1, .ref l2])) (eWeb ⟨wb.parts, wb.ties, [], []⟩) (.ref tp) :=
      web_mk upd_same (dd1.mono f13) (dd2.mono f13) (dt_nil ((f2.trans f3) _ _ upd_same)) (dt_nil (f3 _ _ upd_same))
    have htp : upd (upd (upd H2 l1 (.lst [])) l2 (.lst [])) tp (.tup [.ref pa, .ref ta, .ref l1, .ref l2]) tp = some (.tup [.ref pa, .ref ta, .ref l1, .ref l2]) := upd_same
    have e3 := (e1.trans e2).trans f13
    replace dd1 := dd1.mono f13
    have fw' := fw.plain
    have sm := fw'.sm (by omega)
    have pl := fw.pl
    have tl := fw.tl
    generalize upd (upd (upd H2 l1 (.lst [])) l2 (.lst [])) tp (.tup [.ref pa, .ref ta, .ref l1, .ref l2]) = H3 at dW0 htp e3 dd1 ⊢
    clear f1 f2 f3 f13 n1 n2 ntp dw hwp dd2 fw e1 e2
    obtain ⟨pxs, hpa, hpx⟩ := Dt.list_at dd1
    have lp : pxs.length = wb.parts.length := by rw [hpx.length, List.length_map]
    -- orders
    refine ⟨_, rfl, fun v H' => ∃ m : Int, v = .int m ∧ 0 ≤ m ∧ m ≤ 3 ∧ (wb.parts.length = 4 → m ≤ 2) ∧ H' = H3, ?_, ?_⟩
    · refine ⟨_, rfl, tp, _, 0, _, rfl, rfl, SqT.of htp, rfl, pa, pxs, rfl, .inl (SqL.of hpa), rfl, _, rfl, iteAny (fun _ => ⟨2, rfl, by omega, by omega, fun _ => by omega, rfl⟩) (fun h => ⟨3, rfl, by omega, by omega, fun h4 => ?_, rfl⟩)⟩
      rw [lp, h4] at h
      simp at h
    rintro v _ ⟨m2, rfl, m0, m1, mc, rfl⟩
    rename_i H3
    refine ⟨p, m2, rfl, e3 _ _ hp, m0, by omega, fun q os H4 e4 hq ll ho => ⟨q, os, rfl, SqL.of hq, fun os' oq pm _ noq => ?_⟩⟩
    have e5 := e4.trans (Ex.new (o := .lst (os'.map V.int)) noq)
    have lo := pm.length_eq
    have dW1 := dW0.mono e5
    have dO1 : Dt (upd H4 oq (.lst (os'.map V.int))) (eInts os') (.ref oq) := ints_mk upd_same
    have e6 := e3.trans e5
    have ho' : ∀ o ∈ os', 1 ≤ o ∧ o ≤ 4 := fun o h => ho o (pm.mem_iff.mp h)
    clear noq hq
    generalize upd H4 oq (.lst (os'.map V.int)) = H5 at dW1 dO1 e6 e5 ⊢
    -- part
    dsimp only [gName]
    refine go_sets (pick4 ("k", 0) ("c", 0) ("zzzz", -9) ("a", 9) (fun _ _ q => q) (fun _ _ q => q) (fun _ _ q => ⟨9, rfl, q⟩) (fun _ _ q => q) rfl (e6 _ _ hp) fun part x H6 hq e7 hx => ?_)
    have fq : PartFine part := by
      rcases hq with rfl | rfl | rfl | rfl
      · exact ⟨by decide +kernel, by decide +kernel, by decide, by decide⟩
      · exact ⟨by decide +kernel, by decide +kernel, by decide, by decide⟩
      · exact ⟨by decide +kernel, by decide +kernel, by decide, by decide⟩
      · exact ⟨by decide +kernel, by decide +kernel, by decide, by decide⟩
    have dQ := (hx p _ (e6 _ _ hp)).mono ex_rm
    have dW := dW1.mono e7
    have dO := dO1.mono e7
    have e8 := e6.trans e7
    have cb : (os'.length + 1) ^ wb.parts.length ≤ 100 := grow_bound (by omega)
    have smW : Sm 4 100100 (.list (sortW ((choicesM os' (growPairs wb.parts.length)).map fun r => ⟨wb.parts ++ [part], sortT (wb.ties ++ r), [], []⟩))) := by
      have lg : (growPairs wb.parts.length).length = wb.parts.length := by simp [growPairs]
      refine sm_webs (fun w hw => ?_) (by rw [List.length_map, choices_len, lg]; exact cb)
      obtain ⟨r, hr, rfl⟩ := List.mem_map.mp hw
      obtain ⟨h1, h2⟩ := choices_fin (B := TieSm) (fun pr hpr o ho => by
        obtain ⟨i, hi, rfl⟩ := List.mem_map.mp hpr
        have := List.mem_range.mp hi
        have := ho' o ho
        refine ⟨?_, ?_, ?_⟩ <;> dsimp only <;> omega) r hr
      refine ⟨fun q hq => ?_, (by show (wb.parts ++ [part]).length ≤ 30; simp; omega), fun t ht => ?_, ?_, fun h hh => by simp at hh, Nat.zero_le _, fun h hh => by simp at hh, Nat.zero_le _⟩
      · rcases List.mem_append.mp hq with hq | hq
        · exact sm.pf q hq
        · have : q = part := by simpa using hq
          rw [this]; exact fq
      · have ht' : t ∈ wb.ties ++ r := (List.mergeSort_perm _ _).mem_iff.mp ht
        rcases List.mem_append.mp ht' with ht' | ht'
        · exact sm.tf t ht'
        · exact h1 t ht'
      · show (sortT (wb.ties ++ r)).length ≤ 60
        unfold sortT
        rw [List.length_mergeSort, List.length_append]; omega
    have smK : Sm 4 1032 (.tuple [eWeb ⟨wb.parts, wb.ties, [], []⟩, eInts os']) := Sm.tup2 (sm_web sm) (Sm.up (k' := 3) (b' := 30) (sm_ints (fun o h => by have := ho' o h; omega) (by omega)))
    -- kept, due
    refine ⟨_, rfl, _, rfl, sz2, fun t1 ht1 => ⟨.ref t1, .tuple [eWeb ⟨wb.parts, wb.ties, [], []⟩, eInts os'], rfl, ?_, rfl, smK.fine, ?_⟩⟩
    · exact ⟨t1, _, rfl, upd_same, Dts.mk2 (dW.mono (Ex.new ht1)) (dO.mono (Ex.new ht1))⟩
    have g1 := Ex.new (o := .tup [.ref tp, .ref oq]) ht1
    refine ⟨_, rfl, _, rfl, _, rfl, _, _, _, ⟨wb.parts, wb.ties, [], []⟩, part, os', rfl, dW.mono g1, dQ.mono g1, dO.mono g1, (by show wb.parts.length ≤ 4; omega), (by show wb.ties.length ≤ 100; omega), by omega, (by show (os'.length + 1) ^ wb.parts.length ≤ 5000; omega), fun r ys H7 e9 hr dd => ⟨.ref r, _, rfl, dt_list hr dd, rfl, smW.fine, _, _, rfl, ?_⟩⟩
    have g2 := g1.trans e9
    have dW7 := dW.mono g2
    have dQ7 := dQ.mono g2
    have dO7 := dO.mono g2
    have e10 := e8.trans g2
    -- told
    refine ⟨_, rfl, _, rfl, _, rfl, _, _, _, ⟨wb.parts, wb.ties, [], []⟩, part, os', rfl, dW7, dQ7, dO7, (by show wb.parts.length ≤ 4; omega), (by show wb.ties.length ≤ 100; omega), by omega, (by show (os'.length + 1) ^ wb.parts.length ≤ 5000; omega), fun t yt H8 e11 nt ht lt dt loose => ?_⟩
    refine ⟨_, rfl, .ref t, _, rfl, dt_list ht dt, rfl, smW.fine, _, rfl, rfl, _, rfl, ?_⟩
    refine iteAny (fun h => absurd h (by simp)) (fun _ => ?_)
    refine ⟨_, rfl, _, rfl, sz2, fun t2 ht2 => ⟨.ref t2, .tuple [eWeb ⟨wb.parts, wb.ties, [], []⟩, eInts os'], rfl, ?_, rfl, smK.fine, _, rfl, rfl, _, rfl, ?_⟩⟩
    · exact ⟨t2, _, rfl, upd_same, Dts.mk2 (dW7.mono (e11.trans (Ex.new ht2))) (dO7.mono (e11.trans (Ex.new ht2)))⟩
    refine iteAny (fun h => absurd h (by simp)) (fun _ => ?_)
    have g3 := Ex.new (o := .tup [.ref tp, .ref oq]) ht2
    -- spoilt
    refine ⟨_, rfl, t, H7, yt, rfl, e11.trans g3, nt, g3 _ _ ht, lt, loose.mono g3, fun v H9 e12 => ?_⟩
    refine ⟨_, rfl, _, rfl, _, rfl, rfl, _, _, _, ⟨wb.parts, wb.ties, [], []⟩, part, os', rfl, dW7.mono e12, dQ7.mono e12, dO7.mono e12, (by show wb.parts.length ≤ 4; omega), (by show wb.ties.length ≤ 100; omega), by omega, (by show (os'.length + 1) ^ wb.parts.length ≤ 5000; omega), fun t3 yt3 HA e13 nt3 ht3 lt3 dt3 _ => ?_⟩
    refine ⟨.ref t3, _, rfl, dt_list ht3 dt3, rfl, smW.fine, _, rfl, rfl, _, rfl, ?_⟩
    refine iteAny (fun _ => ?_) (fun h => absurd h (by simp))
    refine ⟨_, rfl, _, rfl, sz2, fun t4 ht4 => ⟨.ref t4, .tuple [eWeb ⟨wb.parts, wb.ties, [], []⟩, eInts os'], rfl, ?_, rfl, smK.fine, _, rfl, rfl, ?_⟩⟩
    · exact ⟨t4, _, rfl, upd_same, Dts.mk2 (dW7.mono (e12.trans (e13.trans (Ex.new ht4)))) (dO7.mono (e12.trans (e13.trans (Ex.new ht4))))⟩
    have z := k _ (e10.trans (e12.trans (e13.trans (Ex.new (o := .tup [.ref tp, .ref oq]) ht4))))
    rw [decide_eq_true rfl]
    exact z
end
end W3

end
section
set_option Elab.async false
set_option linter.all false
set_option maxRecDepth 100000
set_option maxHeartbeats 4000000
namespace W3
open PySem PySem.Spec PyProof.Rows L2 M83
open Evl (Ex)
section
variable {K : PySem.W.Frag} {σ : L2.St} {H H1 : Hp} {vs : List Nat} {Q : VK} {te : TE} {tt : TT} {wi : TI}
/-- [e for x in xs if t] -/
theorem lc_nt {a : Addr} {xs : List V} {j : Nat} {D : Addr} (P : Nat → List V → Hp → Prop) (hx : H1 a = some (.lst xs)) (hz : xs.length ≤ 100000) (h0 : P 0 [] H1) (hlen : ∀ i acc G, P i acc G → acc.length ≤ i)
    (hw : ∀ x, wipe ((wipe σ vs).set j (some x)) vs = wipe σ vs)
    (step : ∀ i x acc G, xs[i]? = some x → Ex H1 G → P i acc G → tt ((wipe σ vs).set j (some x)) G fun b G3 => Ex G G3 ∧ (b = true → te ((wipe σ vs).set j (some x)) G3 fun y G4 => Ex G3 G4 ∧ P (i + 1) (acc ++ [y]) G4) ∧ (b = false → P (i + 1) acc G3))
    (done : ∀ acc G p, Ex H1 G → G p = none → P xs.length acc G → Q (.ref p) (upd G p (.lst acc))) (hD : H1 D = none) :
    ∃ W : Nat → Nat → Hp → Prop, (∃ m, W 0 m (upd H1 D (.lst []))) ∧ ∀ i m H, W i m H →
      ((Itl K a).stop i H ∧ Q (.ref D) H) ∨ ((Itl K a).go i H ∧ ∃ Nx : Hp → Prop, (∀ H', Nx H' → ∃ m', m' < m ∧ W (i + 1) m' H') ∧ ∀ x H', (Itl K a).yld i H x H' → gName j x (wipe σ vs) H' fun σ2 H2 => wipe σ2 vs = wipe σ vs ∧ tFrT tt σ2 H2 fun b H3 =>
        if b = true then tFr te σ2 H3 fun y H4 => ∃ acc, H4 D = some (.lst acc) ∧ acc.length < sizeLine ∧ Nx (upd H4 D (.lst (acc ++ [y]))) else Nx H3) := by
  refine lc_list (xs := xs) (fun i => At H1 D (P i)) (At.start hD h0) (fun i H _ ⟨acc, G, eH, n, e, _, _⟩ => ?_) (fun i x H hi ⟨acc, G, eH, n, e, l, p⟩ => ?_) fun H ⟨acc, G, eH, n, e, _, p⟩ => ?_
  · subst eH; exact SqL.of (ex_upd n _ _ (e _ _ hx))
  · subst eH
    refine ⟨hw x, tt_fr n e ?_ (step i x acc G hi e p)⟩
    have h1 := hlen i acc G p
    have h2 := (List.getElem?_eq_some_iff.mp hi).1
    have h3 : (100002 : Nat) < sizeLine := by decide
    omega
  · subst eH; exact done acc G D e n p
theorem lcNt (H1 : Hp) {a : Addr} {xs : List V} {j : Nat} (P : Nat → List V → Hp → Prop) (hi : ∀ R : It → Hp → Prop, R (Itl K a) H1 → wi σ H R) (hx : H1 a = some (.lst xs)) (hz : xs.length ≤ 100000) (h0 : P 0 [] H1) (hlen : ∀ i acc G, P i acc G → acc.length ≤ i)
    (hw : ∀ x, wipe ((wipe σ vs).set j (some x)) vs = wipe σ vs)
    (step : ∀ i x acc G, xs[i]? = some x → Ex H1 G → P i acc G → tt ((wipe σ vs).set j (some x)) G fun b G3 => Ex G G3 ∧ (b = true → te ((wipe σ vs).set j (some x)) G3 fun y G4 => Ex G3 G4 ∧ P (i + 1) (acc ++ [y]) G4) ∧ (b = false → P (i + 1) acc G3))
    (done : ∀ acc G p, Ex H1 G → G p = none → P xs.length acc G → Q (.ref p) (upd G p (.lst acc))) : tLc wi (gName j) (tFrT tt) (tFr te) vs σ H Q :=
  hi _ fun _ hD => lc_nt P hx hz h0 hlen hw step done hD
end
theorem dts_perm {H : Hp} {ys xs : List V} (pm : ys.Perm xs) : ∀ {ds : List PyData}, Dts H ds xs → ∃ es, es.Perm ds ∧ Dts H es ys := by
  induction pm with
  | nil => exact fun {ds} h => ⟨ds, List.Perm.refl _, h⟩
  | cons x p ih =>
    intro ds h
    cases ds with
    | nil => cases h
    | cons d ds =>
      obtain ⟨y, r, e, hy, hr⟩ := h
      cases e
      obtain ⟨es, p2, h2⟩ := ih hr
      exact ⟨d :: es, p2.cons d, _, _, rfl, hy, h2⟩
  | swap x y l =>
    intro ds h
    cases ds with
    | nil => cases h
    | cons d ds =>
      obtain ⟨y, r, e, hy, hr⟩ := h
      cases e
      cases ds with
      | nil => cases hr
      | cons d2 ds =>
        obtain ⟨z, r2, e, hz, hr⟩ := hr
        cases e
        exact ⟨d2 :: d :: ds, List.Perm.swap _ _ _, _, _, rfl, hz, _, _, rfl, hy, hr⟩
  | trans p q ih1 ih2 =>
    intro ds h
    obtain ⟨es, p1, h1⟩ := ih2 h
    obtain ⟨fs, p2, h2⟩ := ih1 h1
    exact ⟨fs, p2.trans p1, h2⟩
theorem dts_perm_map {α : Type} {enc : α → PyData} {H : Hp} {ys xs : List V} {as : List α} (pm : ys.Perm xs) (h : Dts H (as.map enc) xs) : ∃ bs : List α, bs.Perm as ∧ Dts H (bs.map enc) ys := by
  obtain ⟨es, p, h2⟩ := dts_perm pm h
  obtain ⟨bs, rfl, q⟩ := perm_of_map enc p
  exact ⟨bs, q, h2⟩
end W3

end
section
set_option Elab.async false
set_option linter.all false
set_option maxRecDepth 100000
set_option maxHeartbeats 4000000
namespace W3
open PySem PySem.Spec PyProof.Rows L2 M83
open Evl (Ex)
theorem part_k0 : PartFine ("k", 0) := ⟨by decide +kernel, by decide +kernel, by decide, by decide⟩
theorem TiesFine.sm {n : Nat} {ts : List Tie} (h : TiesFine n ts) (hn : n ≤ 100) : ∀ t ∈ ts, TieSm t := fun t ht => by
  have a := h.1 t ht
  have b := h.2 t ht
  exact ⟨by omega, by omega, by omega⟩
theorem tup3_mk {H : Hp} {p : Addr} {a b c : V} {x y z : PyData} (h : H p = some (.tup [a, b, c])) (h1 : Dt H x a) (h2 : Dt H y b) (h3 : Dt H z c) : Dt H (.tuple [x, y, z]) (.ref p) := ⟨p, _, rfl, h, _, _, rfl, h1, _, _, rfl, h2, _, _, rfl, h3, rfl⟩
theorem dep_any {α : Type} {enc : α → PyData} (h : ∀ a, (enc a).depth ≤ 1) (as : List α) : (PyData.list (as.map enc)).depth ≤ 32 := Nat.le_trans (dep_list h as) (by decide)
theorem dep_parts (ps : List Part) : (PyData.list ((ps.map ePart).mergeSort (PySem.W.dataLe false id))).depth ≤ 32 := by
  show PyData.depthAll _ + 1 ≤ 32
  have := depthAll_map (enc := id) (k := 1) (as := (ps.map ePart).mergeSort (PySem.W.dataLe false id)) fun d hd => by
    obtain ⟨p, _, rfl⟩ := List.mem_map.mp (sort_in hd)
    exact dep_part p
  rw [List.map_id] at this
  omega
theorem mapnil {α β : Type} {f : α → β} {xs : List α} : (xs.map f).isEmpty = true ↔ xs = [] := by cases xs <;> simp
open Classical in
/-- web[2] == [] and web[3] == [] -/
theorem sides_go {K : PySem.W.Frag} {σ : L2.St} {H : Hp} {Q : VK} {s : Nat} {wp a b ha sa : Addr} {wb : Web} (hs : σ[s]? = some (some (.ref wp))) (hwp : H wp = some (.tup [.ref a, .ref b, .ref ha, .ref sa])) (d3 : Dt H (eHands wb.hands) (.ref ha)) (d4 : Dt H (eTies wb.sides) (.ref sa)) (sm : WSm wb)
    (k : ∀ H', Ex H H' → Q (.bl (decide (wb.hands = [] ∧ wb.sides = []))) H') :
    tAndV (tOp (rEqD K) (tOp (rIxT K) (tVar s) (tC (.int 2))) (tLst tNil)) (tOp (rEqD K) (tOp (rIxT K) (tVar s) (tC (.int 3))) (tLst tNil)) σ H Q := by
  have lf := (sm_web sm).lf
  refine ⟨_, hs, wp, _, 2, _, rfl, rfl, SqT.of hwp, rfl, Nat.zero_le _, fun b1 nb1 => ?_⟩
  have e3 := Ex.new (o := .lst []) nb1
  refine ⟨_, _, Dt.dp (d3.mono e3), Dt.dp (dt_nil upd_same), shaped_of lf.2.2.1 (dep_any dep_hand _), shaped_of nil_lf nil_dep, _, rfl, ?_⟩
  rw [show eHands wb.hands = .list (wb.hands.map eHand) from rfl, eqv_nil]
  refine iteAny (fun h => ?_) (fun h => ?_)
  · have hh := mapnil.mp h
    refine ⟨_, hs, wp, _, 3, _, rfl, rfl, SqT.of (e3 _ _ hwp), rfl, Nat.zero_le _, fun b2 nb2 => ?_⟩
    have e4 := e3.trans (Ex.new (o := .lst []) nb2)
    refine ⟨_, _, Dt.dp (d4.mono e4), Dt.dp (dt_nil upd_same), shaped_of lf.2.2.2.1 (dep_any dep_tie _), shaped_of nil_lf nil_dep, ?_⟩
    rw [show eTies wb.sides = .list (wb.sides.map eTie) from rfl, eqv_nil]
    have z := k _ e4
    have : decide (wb.hands = [] ∧ wb.sides = []) = (wb.sides.map eTie).isEmpty := by
      rw [Bool.eq_iff_iff, decide_eq_true_iff, mapnil]
      exact ⟨fun h => h.2, fun h => ⟨hh, h⟩⟩
    rw [this] at z
    exact z
  · have z := k _ e3
    rw [decide_eq_false (fun h2 => by rw [h2.1] at h; simp at h)] at z
    exact z
section
variable {P : Program} {w : World} {K : PySem.W.Frag} {mg : Str → Option Value} {base : Heap}
open Classical in
/-- parts, orders, and whether it must be whole: what is asked of a web -/
structure Ask (H0 H : Hp) (p : Addr) (wv qv ov : V) (wb : Web) (ps : List Part) (os : List Int) : Prop where
  ex : Ex H0 H
  dw : Dt H (eWeb wb) wv
  dp : Dt H (eParts ps) qv
  dO : Dt H (eInts os) ov
  pl : ps.length ≤ 7
  pf : ∀ q ∈ ps, PartFine q
  ol : os.length ≤ 36
  of : ∀ o ∈ os, 1 ≤ o ∧ o ≤ 4
/-! ### _law_of_right -/
open Classical in
theorem d_l_of_right {f : Addr} {fd : FuncData} (F : Fun K "_law_of_right" "_law_of_right" sl_of_right f fd) (hm : mg "_law_of_right" = some (.ref f)) (T : Txt mg) (d_l_draw : Df P w K mg base 1 "_law_draw" ["_law_pot_here", "_law_size"] p_draw)
    (d_l_mixed : Df P w K mg base 2 "_law_mixed" ["_law_pot_here", "_law_some"] p_mixed) (d_l_web : Df P w K mg base 4 "_law_web" ["_law_pot_here", "_law_least", "_law_most"] p_web) (d_l_is_whole : Df P w K mg base 1 "_law_is_whole" ["_law_web_here"] p_lwhole)
    (d_is_of_family : Df P w K mg base 5 "is_of_family" ["parts", "orders", "is_whole", "web"] p_of) (dk_is_of_family : Dk P w K mg base 5 "is_of_family" ["parts", "orders", "is_whole", "web"] p_of sis_of_family) :
    Df P w K mg base 7 "_law_of_right" ["_law_pot_here"] p_right := by
  refine Df.body F hm bil_of_right scl_of_right (fun vs H Q h => ?_) (fun cdv A outer s H vs Q hr h => ?_)
  · obtain ⟨p, rfl, _⟩ := h; rfl
  · obtain ⟨p, rfl, hp, k⟩ := h
    refine ⟨_, (pss_cons (ps_set (i := 1) scl_of_right.nd rfl (Or.inl rfl) (pe_c3 d_l_web (hr.less (by decide)) rfl (pa_cons (pv 0) (pa_cons pe_int (pa_cons pe_int pa_nil)))))
 (pss_cons (ps_m (ps_if (pt_cmpR op_gt (pe_c3 d_l_draw (hr.less (by decide)) rfl (pa_cons (pv 0) (pa_cons pe_int pa_nil))) pe_int (nomark _)) (pss_one (ps_set (i := 1) scl_of_right.nd rfl (Or.inl rfl) (pe_tup (pa_cons (pe_ix (ixT K) (pv 1) pe_int (fun _ _ => rfl)) (pa_cons (pe_ix (ixT K) (pv 1) pe_int (fun _ _ => rfl)) (pa_cons (pe_lst pa_nil) (pa_cons (pe_lst pa_nil) pa_nil))))))) pss_nil))
 (pss_cons (ps_asg (pe_tup (pa_cons (pe_c3 d_l_mixed (hr.less (by decide)) rfl (pa_cons (pv 0) (pa_cons (pe_ix (ixT K) (pv 1) pe_int (fun _ _ => rfl)) pa_nil))) (pa_cons (pe_lst pa_nil) pa_nil))) (pgT K 2 (pgs_cons (pg_name (i := 7) scl_of_right.nd rfl (Or.inl rfl)) (pgs_cons (pg_name (i := 8) scl_of_right.nd rfl (Or.inr rfl)) pgs_nil))))
 (pss_cons (ps_for PassesOwn.never rfl (piL K (pe_ix (ixT K) (pv 1) pe_int (fun _ _ => rfl))) (pgT K 3 (pgs_cons (pg_name (i := 9) scl_of_right.nd rfl (Or.inl rfl)) (pgs_cons (pg_name (i := 10) scl_of_right.nd rfl (Or.inl rfl)) (pgs_cons (pg_name (i := 11) scl_of_right.nd rfl (Or.inl rfl)) pgs_nil)))) (pss_one (ps_if (pt_cmpR (opNotIn K) (pv 11) (pv 8) (by with_unfolding_all rfl)) (pss_one (ps_expr (pe_bm PySem.F.plainAttrs_list PySem.F.slot_list_append PySem.F.type_list_append mt_append (pv 8) (pa_cons (pv 11) pa_nil)))) pss_nil)))
 (pss_cons (ps_set (i := 2) scl_of_right.nd rfl (Or.inl rfl) (pe_c3 d_l_draw (hr.less (by decide)) rfl (pa_cons (pv 0) (pa_cons pe_int pa_nil))))
 (pss_cons (ps_m (ps_if (pt_cmpR op_eq (pv 2) pe_int (nomark _)) (pss_one (ps_set (i := 8) scl_of_right.nd rfl (Or.inr rfl) (pe_slice (slL K) (pv 8) (po_some pe_int) po_none))) (pss_one (ps_if (pt_cmpR op_eq (pv 2) pe_int (nomark _)) (pss_one (ps_set (i := 7) scl_of_right.nd rfl (Or.inl rfl) (pe_op op_cat (pv 7) (pe_lst (pa_cons (pe_tup (pa_cons pe_str (pa_cons pe_int pa_nil))) pa_nil))))) (pss_one (ps_if (pt_m (PW.pt (pw_and (pt_cmpR op_eq (pv 2) pe_int (nomark _)) (pw_and1 (pt_cmpR (opNeD K hr.u64) (pv 7) (pe_lst pa_nil) (nomark _)))))) (pss_cons (ps_set (i := 13) scl_of_right.nd rfl (Or.inl rfl) (pe_c3 d_l_draw (hr.less (by decide)) rfl (pa_cons (pv 0) (pa_cons (pe_callB (lenS K) (by rfl) T.n_len bt_len (pa_cons (pv 7) pa_nil)) pa_nil))))
 (pss_one (ps_asg (pe_tup (pa_cons (pe_ix (ixT K) (pe_ix (ixL K) (pv 7) (pv 13) (fun _ _ => rfl)) pe_int (fun _ _ => rfl)) (pa_cons (pe_op op_add (pe_ix (ixT K) (pe_ix (ixL K) (pv 7) (pv 13) (fun _ _ => rfl)) pe_int (fun _ _ => rfl)) (pe_m (pe_ifExp (pt_cmpR op_lt (pe_ix (ixT K) (pe_ix (ixL K) (pv 7) (pv 13) (fun _ _ => rfl)) pe_int (fun _ _ => rfl)) pe_int (nomark _)) pe_int (pe_un un_neg pe_int)))) pa_nil))) (pg_sub (pv 7) (pv 13) set_list)))) (pss_one (ps_if (pt_cmpR op_eq (pv 2) pe_int (nomark _)) (pss_one (ps_set (i := 7) scl_of_right.nd rfl (Or.inl rfl) (pe_slice (slL K) (pv 7) (po_some pe_int) po_none))) (pss_one (ps_if (pt_cmpR op_eq (pe_c3 d_l_draw (hr.less (by decide)) rfl (pa_cons (pv 0) (pa_cons pe_int pa_nil))) pe_int (nomark _)) (pss_one (ps_set (i := 8) scl_of_right.nd rfl (Or.inr rfl) (pe_lst (pa_cons pe_int (pa_cons pe_int (pa_cons pe_int (pa_cons pe_int pa_nil))))))) pss_nil))))))))))
 (pss_cons (ps_asg (pe_tup (pa_cons (pe_callB (crSI K) (by rfl) T.n_sorted bt_sorted (pa_cons (pv 8) pa_nil)) (pa_cons (pe_cmpR op_eq (pe_c3 d_l_draw (hr.less (by decide)) rfl (pa_cons (pv 0) (pa_cons pe_int pa_nil))) pe_int (nomark _)) pa_nil))) (pgT K 2 (pgs_cons (pg_name (i := 8) scl_of_right.nd rfl (Or.inr rfl)) (pgs_cons (pg_name (i := 12) scl_of_right.nd rfl (Or.inl rfl)) pgs_nil))))
 (pss_cons (ps_set (i := 3) scl_of_right.nd rfl (Or.inl rfl) (pe_callB (cr_reprD hr.quiet hr.u64) (by rfl) T.n_repr bt_repr (pa_cons (pe_tup (pa_cons (pv 1) (pa_cons (pv 7) (pa_cons (pv 8) pa_nil)))) pa_nil)))
 (pss_cons (ps_set (i := 4) scl_of_right.nd rfl (Or.inl rfl) (pe_m (pe_and (pe_cmpR (opEqD K hr.u64) (pe_callB (cr_sortD hr.u64) (by rfl) T.n_sorted bt_sorted (pa_cons (pv 7) pa_nil)) (pe_callB (cr_sortD hr.u64) (by rfl) T.n_sorted bt_sorted (pa_cons (pe_ix (ixT K) (pv 1) pe_int (fun _ _ => rfl)) pa_nil)) (nomark _)) (pe_and (pe_cmpR (opEqD K hr.u64) (pe_ix (ixT K) (pv 1) pe_int (fun _ _ => rfl)) (pe_lst pa_nil) (nomark _)) (pe_one (pe_cmpR (opEqD K hr.u64) (pe_ix (ixT K) (pv 1) pe_int (fun _ _ => rfl)) (pe_lst pa_nil) (nomark _)))))))
 (pss_cons (ps_set (i := 4) scl_of_right.nd rfl (Or.inl rfl) (pe_m (pe_and (pv 4) (pe_one (pe_cmpR (opEqD K hr.u64) (pe_lc (own := [("_law_tie", 14)]) rfl scl_of_right.nd (piL K (pe_ix (ixT K) (pv 1) pe_int (fun _ _ => rfl))) (blkOk_by (N := Nl_of_right) (sc := defScope sl_of_right) (by decide +kernel)) (fun _ _ _ _ _ => (pg_name (i := 14) scl_of_right.nd rfl (Or.inl rfl))) (fun _ _ _ _ _ => (pts_fr (pts_one (pt_cmpR (opNotIn K) (pe_ix (ixT K) (pv 14) pe_int (fun _ _ => rfl)) (pv 8) (by with_unfolding_all rfl))))) (fun _ _ _ _ _ => (pe_fr (pv 14)))) (pe_lst pa_nil) (nomark _))))))
 (pss_cons (ps_set (i := 4) scl_of_right.nd rfl (Or.inl rfl) (pe_m (pe_and (pv 4) (pe_one (pe_or (pe_not (pv 12)) (pe_one (pe_c3 d_l_is_whole (hr.less (by decide)) rfl (pa_cons (pv 1) pa_nil))))))))
 (pss_cons (ps_set (i := 5) scl_of_right.nd rfl (Or.inl rfl) (pe_c3 d_is_of_family (hr.less (by decide)) rfl (pa_cons (pv 7) (pa_cons (pv 8) (pa_cons (pv 12) (pa_cons (pv 1) pa_nil))))))
 (pss_cons (ps_if (PW.pt (pw_or (pt_cmpR op_ne (pe_callB cr_reprB (by rfl) T.n_repr bt_repr (pa_cons (pv 5) pa_nil)) (pe_callB cr_reprB (by rfl) T.n_repr bt_repr (pa_cons (pv 4) pa_nil)) (nomark _)) (pw_or1 (pt_cmpR op_ne (pe_callB (cr_reprD hr.quiet hr.u64) (by rfl) T.n_repr bt_repr (pa_cons (pe_tup (pa_cons (pv 1) (pa_cons (pv 7) (pa_cons (pv 8) pa_nil)))) pa_nil)) (pv 3) (nomark _))))) (pss_one (ps_ret pe_bl)) pss_nil)
 (pss_cons (ps_set (i := 6) scl_of_right.nd rfl (Or.inl rfl) (pe_ck (g := kg_is_of_family) (ks := ["web", "is_whole", "orders", "parts"]) dk_is_of_family (hr.less (by decide)) rfl (pk_cons (pv 1) (pk_cons pe_bl (pk_cons (pe_lst (pa_cons pe_int (pa_cons pe_int (pa_cons pe_int (pa_cons pe_int pa_nil))))) (pk_cons (pe_callTy (listS K) (by rfl) T.n_list bt_list (pa_cons (pe_ix (ixT K) (pv 1) pe_int (fun _ _ => rfl)) pa_nil)) pk_nil)))) kb_is_of_family kv_is_of_family))
 (pss_one (ps_ret (pe_cmpR op_eq (pe_callB cr_reprB (by rfl) T.n_repr bt_repr (pa_cons (pv 6) pa_nil)) (pe_callB cr_reprB (by rfl) T.n_repr bt_repr (pa_cons (pe_m (pe_and (pe_cmpR (opEqD K hr.u64) (pe_ix (ixT K) (pv 1) pe_int (fun _ _ => rfl)) (pe_lst pa_nil) (nomark _)) (pe_one (pe_cmpR (opEqD K hr.u64) (pe_ix (ixT K) (pv 1) pe_int (fun _ _ => rfl)) (pe_lst pa_nil) (nomark _))))) pa_nil)) (nomark _)))))))))))))))))), ?_⟩
    -- web
    refine ⟨_, rfl, p, 0, 6, 6, rfl, hp, by omega, by omega, rfl, by omega, fun wv0 wb0 H1 e1 dw0 fw0 => ?_⟩
    refine ⟨fun σ' H' => ∃ wv wb, σ' = [some (.ref p), some wv, none, none, none, none, none, none, none, none, none, none, none, none, none] ∧ Ex H H' ∧ Dt H' (eWeb wb) wv ∧ WebFine 6 wb, ?_, ?_⟩
    · refine ⟨_, rfl, p, _, rfl, e1 _ _ hp, by omega, by omega, fun d d0 d1 H2 e2 => ⟨_, _, rfl, rfl, _, rfl, iteAny (fun _ => ?_) (fun _ => ⟨wv0, wb0, rfl, e1.trans e2, dw0.mono e2, fw0⟩)⟩⟩
      obtain ⟨wp, pa, ta, ha, sa, rfl, hwp, dd1, dd2, _, _⟩ := web_at (dw0.mono e2)
      refine ⟨_, rfl, wp, _, 0, _, rfl, rfl, SqT.of hwp, rfl, _, rfl, wp, _, 1, _, rfl, rfl, SqT.of hwp, rfl, Nat.zero_le _, fun l1 n1 => ⟨Nat.zero_le _, fun l2 n2 => ⟨sz4, fun tp ntp => ?_⟩⟩⟩
      have f1 := Ex.new (o := .lst []) n1
      have f2 := Ex.new (o := .lst []) n2
      have f3 := Ex.new (o := .tup [.ref pa, .ref ta, .ref l1, .ref l2]) ntp
      have f13 := f1.trans (f2.trans f3)
      exact ⟨_, ⟨wb0.parts, wb0.ties, [], []⟩, rfl, (e1.trans e2).trans f13, web_mk upd_same (dd1.mono f13) (dd2.mono f13) (dt_nil ((f2.trans f3) _ _ upd_same)) (dt_nil (f3 _ _ upd_same)), fw0.plain⟩
    rintro σ2 H2 ⟨wv, wb, rfl, e2, dw, fw⟩
    clear fw0 dw0 e1
    -- parts, orders
    obtain ⟨wp, pa, ta, ha, sa, rfl, hwp, dd1, dd2, dd3, dd4⟩ := web_at dw
    obtain ⟨pxs, hpa, hpx⟩ := Dt.list_at dd1
    obtain ⟨txs, hta, htx⟩ := Dt.list_at dd2
    have lp : pxs.length = wb.parts.length := by rw [hpx.length, List.length_map]
    have lt : txs.length = wb.ties.length := by rw [htx.length, List.length_map]
    have pl := fw.pl
    have tl := fw.tl
    have big : (3000 : Nat) < sizeLine := by decide
    refine ⟨_, rfl, _, rfl, wp, _, 0, _, rfl, rfl, SqT.of hwp, rfl, p, pa, pxs, rfl, e2 _ _ hp, hpa, by omega, fun q ys H3 e3 nq hq pm => ⟨Nat.zero_le _, fun op nop => ⟨sz2, fun tp ntp => ⟨tp, _, rfl, SqT.of upd_same, rfl, _, _, rfl, _, _, rfl, rfl, ?_⟩⟩⟩⟩
    obtain ⟨ps, pp, hps⟩ := dts_perm_map pm hpx
    have lps := pp.length_eq
    have ntop : op ≠ tp := new_ne upd_same ntp
    have hop0 : upd (upd H3 op (.lst [])) tp (.tup [.ref q, .ref op]) op = some (.lst (([] : List Int).map V.int)) := by rw [upd_ne ntop]; exact upd_same
    have r0 : Ex H3 (rm op (upd (upd H3 op (.lst [])) tp (.tup [.ref q, .ref op]))) := ex_to_rm ((Ex.new nop).trans (Ex.new ntp)) nop
    generalize upd (upd H3 op (.lst [])) tp (.tup [.ref q, .ref op]) = H4 at hop0 r0 ⊢
    clear ntp ntop
    have e23 := e2.trans e3
    have fop : H op = none := Evl.fresh_back e23 nop
    -- the orders told
    refine ⟨_, rfl, wp, _, 1, _, rfl, rfl, SqT.of (ex_rm _ _ (r0 _ _ (e3 _ _ hwp))), rfl, ta, rfl, ⟨_, SqL.of (ex_rm _ _ (r0 _ _ (e3 _ _ hta)))⟩, ?_⟩
    refine for_list (K := K) (a := ta) (xs := txs) (fun i σ H' => ∃ va vb vc os, σ = [some (.ref p), some (.ref wp), none, none, none, none, none, some (.ref q), some (.ref op), va, vb, vc, none, none, none] ∧ Ex H3 (rm op H') ∧ H' op = some (.lst (os.map V.int)) ∧ os.length ≤ i ∧ ∀ o ∈ os, 1 ≤ o ∧ o ≤ 4)
      ⟨none, none, none, [], rfl, r0, hop0, Nat.le_refl _, fun o h => by simp at h⟩ (fun i σ H' _ ⟨_, _, _, _, _, r, _⟩ => SqL.of (ex_rm _ _ (r _ _ (e3 _ _ hta)))) ?_ ?_
    · rintro i x σ H5 hi ⟨va, vb, vc, os, rfl, r1, hop, ho1, ho2⟩
      obtain ⟨t, ht, hx⟩ := item' htx hi
      obtain ⟨tq, rfl, htq⟩ := tie_at hx
      have il := (List.getElem?_eq_some_iff.mp hi).1
      refine ⟨tq, _, rfl, SqT.of (ex_rm _ _ (r1 _ _ (e3 _ _ htq))), rfl, _, _, rfl, _, _, rfl, _, _, rfl, rfl, ?_⟩
      refine ⟨_, rfl, _, rfl, op, _, rfl, .inl (SqL.of hop), rfl, flat_ints _, _, rfl, ?_⟩
      refine iteAny (fun _ => ?_) (fun _ => ⟨_, _, _, os, rfl, r1, hop, by omega, ho2⟩)
      refine ⟨_, rfl, .inl ⟨rfl, _, SqL.of hop⟩, _, rfl, op, _, _, rfl, rfl, hop, by rw [List.length_map]; omega, ?_⟩
      refine ⟨_, _, _, os ++ [t.2.2], rfl, by rw [rm_upd_any]; exact r1, by rw [upd_same, List.map_append]; rfl, by simp; omega, fun o ho => ?_⟩
      rcases List.mem_append.mp ho with ho | ho
      · exact ho2 o ho
      · have : o = t.2.2 := by simpa using ho
        rw [this]
        exact fw.tf.2 t (List.mem_of_getElem? ht)
    rintro σ5 H5 ⟨va, vb, vc, os, rfl, r1, hop, ho1, ho2⟩
    have e35 : Ex H3 H5 := r1.trans ex_rm
    have e5 := e23.trans e35
    have hq5 := e35 _ _ hq
    have hpf : ∀ r ∈ ps, PartFine r := fun r hr => fw.pf r (pp.mem_iff.mp hr)
    have dps : Dts H5 (ps.map ePart) ys := hps.mono (e3.trans e35)
    have nqo : q ≠ op := new_ne hq nop
    have a5 : Ask H H5 p (.ref wp) (.ref q) (.ref op) wb ps os := ⟨e5, dw.mono (e3.trans e35), dt_list hq5 dps, ints_mk hop, by omega, hpf, by omega, ho2⟩
    -- way
    refine ⟨_, rfl, p, _, rfl, e5 _ _ hp, by omega, by omega, fun way y0 y1 H6 e6 => ?_⟩
    refine ⟨fun σ' H' => ∃ qv ov vat ps os, σ' = [some (.ref p), some (.ref wp), some (.int way), none, none, none, none, some qv, some ov, va, vb, vc, none, vat, none] ∧ Ask H H' p (.ref wp) qv ov wb ps os, ?_, ?_⟩
    · have lys : ys.length = ps.length := by rw [hps.length, List.length_map]
      refine ⟨_, rfl, rfl, _, rfl, iteAny (fun _ => ?_) (fun _ => ?_)⟩
      · -- orders[1:]
        refine ⟨_, rfl, _, rfl, op, _, rfl, SqL.of (e6 _ _ hop), fun l nl => ?_⟩
        have g := e6.trans (Ex.new (o := .lst (cutV (os.map V.int) (some 1) none)) nl)
        refine ⟨_, _, _, ps, os.drop 1, rfl, e5.trans g, a5.dw.mono g, a5.dp.mono g, ints_mk ?_, a5.pl, a5.pf, by rw [List.length_drop]; omega, fun o ho => ho2 o (List.mem_of_mem_drop ho)⟩
        rw [upd_same, cutV_from (by omega), List.map_drop]; rfl
      refine ⟨_, rfl, rfl, _, rfl, iteAny (fun _ => ?_) (fun _ => ?_)⟩
      · -- parts + [('k', 0)]
        refine ⟨_, rfl, sz2, fun kp nkp => ⟨sz1, fun bp nbp => ⟨q, bp, ys, [.ref kp], rfl, rfl, (e6.trans ((Ex.new nkp).trans (Ex.new nbp))) _ _ hq5, upd_same, by simp; omega, fun l nl => ?_⟩⟩⟩
        have g1 := Ex.new (o := .tup [.str "k", .int 0]) nkp
        have g2 := Ex.new (o := .lst [.ref kp]) nbp
        have g3 := Ex.new (o := .lst (ys ++ [.ref kp])) nl
        have g := e6.trans (g1.trans (g2.trans g3))
        refine ⟨_, _, _, ps ++ [((Str.ofString "k", 0) : Part)], os, rfl, e5.trans g, a5.dw.mono g, dt_list upd_same ?_, a5.dO.mono g, by simp; omega, fun r hr => ?_, a5.ol, ho2⟩
        · rw [List.map_append]
          exact Dts.snoc (part_mk ((g2.trans g3) _ _ upd_same)) (dps.mono g)
        · rcases List.mem_append.mp hr with hr | hr
          · exact hpf r hr
          · have : r = (((Str.ofString "k"), 0) : Part) := by simpa using hr
            rw [this]; exact part_k0
      -- way == 2 and parts != []
      refine ⟨fun b H' => (b = true → ps ≠ []) ∧ Ex H5 H', ?_, ?_⟩
      · refine ⟨_, rfl, rfl, _, rfl, iteAny (fun _ => ?_) (fun _ => ⟨fun h => (by cases h), e6⟩)⟩
        refine ⟨_, rfl, Nat.zero_le _, fun bp nbp => ?_⟩
        have g := e6.trans (Ex.new (o := .lst []) nbp)
        have smp := sm_parts hpf (by omega)
        refine ⟨_, _, Dt.dp (a5.dp.mono g), Dt.dp (dt_nil upd_same), shaped_of smp.lf (Nat.le_trans smp.dp (by decide)), shaped_of nil_lf nil_dep, _, rfl, ?_⟩
        rw [show eParts ps = .list (ps.map ePart) from rfl, eqv_nil]
        exact ⟨fun h e => by rw [e] at h; simp at h, g⟩
      rintro b H7 ⟨hb, e7⟩
      cases b with
      | true =>
        refine iteT ?_
        have hne := hb rfl
        have pos : 0 < ps.length := List.length_pos_iff.mpr hne
        refine ⟨_, rfl, _, rfl, q, ys, rfl, .inl (SqL.of (e7 _ _ hq5)), p, _, rfl, e7 _ _ (e5 _ _ hp), by omega, by omega, fun a a0 a1 H8 e8 => ?_⟩
        have e58 := e7.trans e8
        have al : a.toNat < ys.length := by omega
        have hy : atI ys a = some ys[a.toNat] := atI_of a0 (List.getElem?_eq_getElem al)
        obtain ⟨r, hr, dr⟩ := item' hps (List.getElem?_eq_getElem al)
        obtain ⟨yp, ey, hyp⟩ := part_at dr
        rw [ey] at hy
        have e28 := (e3.trans e35).trans e58
        have hq8 := e58 _ _ hq5
        have hyp8 := e28 _ _ hyp
        obtain ⟨f1, f2, f3, f4⟩ := hpf r (List.mem_of_getElem? hr)
        refine ⟨_, rfl, _, rfl, q, ys, a, _, rfl, rfl, SqL.of hq8, hy, yp, _, 0, _, rfl, rfl, SqT.of hyp8, rfl, ?_⟩
        refine ⟨_, rfl, _, rfl, q, ys, a, _, rfl, rfl, SqL.of hq8, hy, yp, _, 1, _, rfl, rfl, SqT.of hyp8, rfl, ?_⟩
        refine ⟨fun v H' => ∃ z, v = .int z ∧ -9 ≤ r.2 + z ∧ r.2 + z ≤ 9 ∧ H' = H8, ?_, ?_⟩
        · refine ⟨_, rfl, _, rfl, q, ys, a, _, rfl, rfl, SqL.of hq8, hy, yp, _, 1, _, rfl, rfl, SqT.of hyp8, rfl, _, _, rfl, rfl, _, rfl, iteAny (fun h => ⟨1, rfl, ?_, ?_, rfl⟩) (fun h => ⟨_, rfl, -1, rfl, ?_, ?_, rfl⟩)⟩
          · omega
          · have := of_decide_eq_true h; omega
          · have := of_decide_eq_false h; omega
          · omega
        rintro v _ ⟨z, rfl, z1, z2, rfl⟩
        rename_i H8
        refine ⟨_, _, rfl, rfl, sz2, fun tp ntp => ?_⟩
        have g1 := Ex.new (o := .tup [.str r.1, .int (r.2 + z)]) ntp
        have ntq : q ≠ tp := new_ne hq8 ntp
        refine ⟨_, rfl, _, rfl, q, ys, a, a.toNat, rfl, rfl, g1 _ _ hq8, ixN_of a0 (by omega), ?_⟩
        have m2 : Ex H2 (upd (upd H8 tp (.tup [.str r.1, .int (r.2 + z)])) q (.lst (ys.set a.toNat (.ref tp)))) := Evl.Ex.mut (e28.trans g1) nq
        refine ⟨_, _, _, ps.set a.toNat (r.1, r.2 + z), os, rfl, e2.trans m2, dw.mono m2, dt_list upd_same ?_, ints_mk (by rw [upd_ne nqo.symm]; exact g1 _ _ (e58 _ _ hop)), by rw [List.length_set]; omega, fun r' hr' => ?_, a5.ol, ho2⟩
        · rw [List.map_set]
          exact Dts.put (part_mk (by rw [upd_ne ntq.symm]; exact upd_same)) _ (hps.mono m2)
        · rcases List.mem_or_eq_of_mem_set hr' with hr' | hr'
          · exact hpf r' hr'
          · rw [hr']; exact ⟨f1, f2, z1, z2⟩
      | false =>
        refine iteF ?_
        refine ⟨_, rfl, rfl, _, rfl, iteAny (fun _ => ?_) (fun _ => ?_)⟩
        · -- parts[1:]
          refine ⟨_, rfl, _, rfl, q, _, rfl, SqL.of (e7 _ _ hq5), fun l nl => ?_⟩
          rw [show cutV ys (some 1) none = ys.drop 1 from cutV_from (by omega)]
          have g := e7.trans (Ex.new (o := .lst (ys.drop 1)) nl)
          refine ⟨_, _, _, ps.drop 1, os, rfl, e5.trans g, a5.dw.mono g, dt_list upd_same ?_, a5.dO.mono g, by rw [List.length_drop]; omega, fun r hr => hpf r (List.mem_of_mem_drop hr), a5.ol, ho2⟩
          rw [List.map_drop]
          exact (dps.mono g).drop 1
        · refine ⟨_, rfl, p, _, rfl, e7 _ _ (e5 _ _ hp), by omega, by omega, fun d d0 d1 H8 e8 => ⟨rfl, _, rfl, iteAny (fun _ => ?_) (fun _ => ?_)⟩⟩
          · refine ⟨sz4, fun l nl => ?_⟩
            have g := (e7.trans e8).trans (Ex.new (o := .lst ([1, 2, 3, 4].map V.int)) nl)
            exact ⟨_, _, _, ps, [1, 2, 3, 4], rfl, e5.trans g, a5.dw.mono g, a5.dp.mono g, ints_mk upd_same, a5.pl, a5.pf, by simp, fun o ho => by simp at ho; omega⟩
          · have g := e7.trans e8
            exact ⟨_, _, _, ps, os, rfl, e5.trans g, a5.dw.mono g, a5.dp.mono g, a5.dO.mono g, a5.pl, a5.pf, a5.ol, ho2⟩
    clear r1 hop ho1 ho2 e35 hq5 dps a5 hps nqo nop nq hq pm pp lps hpf e6 y0 y1 e5 e23 fop r0 hop0 e3 dw e2
    rintro σ6 H7 ⟨qv, ov, vat, ps', os', rfl, ask⟩
    -- orders, is_whole
    obtain ⟨oa, rfl, hoa⟩ := ints_at ask.dO
    refine ⟨_, rfl, oa, os', rfl, SqL.of hoa, fun os2 op2 pm2 _ nop2 => ⟨_, rfl, p, _, rfl, (ask.ex.trans (Ex.new nop2)) _ _ hp, by omega, by omega, fun d d0 d1 H8 e8 => ⟨rfl, sz2, fun tp ntp => ⟨tp, _, rfl, SqT.of upd_same, rfl, _, _, rfl, _, _, rfl, rfl, ?_⟩⟩⟩⟩
    obtain ⟨isw, hisw⟩ : ∃ b, b = decide (V.int d = V.int 0) := ⟨_, rfl⟩
    rw [← hisw]
    have g := (Ex.new (o := .lst (os2.map V.int)) nop2).trans (e8.trans (Ex.new (o := .tup [.ref op2, .bl isw]) ntp))
    have ask2 : Ask H (upd H8 tp (.tup [.ref op2, .bl isw])) p (.ref wp) qv (.ref op2) wb ps' os2 :=
      ⟨ask.ex.trans g, ask.dw.mono g, ask.dp.mono g, ints_mk ((e8.trans (Ex.new ntp)) _ _ upd_same), ask.pl, ask.pf, by rw [pm2.length_eq]; exact ask.ol, fun o ho => ask.of o (pm2.mem_iff.mp ho)⟩
    clear ask g e8 nop2 pm2 hoa ntp hisw
    generalize upd H8 tp (.tup [.ref op2, .bl isw]) = H9 at ask2 ⊢
    have sm := fw.sm (by omega)
    have smp := sm_parts ask2.pf (by have := ask2.pl; omega)
    have smK : Sm 4 1253 (.tuple [eWeb wb, eParts ps', eInts os2]) := Sm.tup3 (sm_web sm) (Sm.up (k' := 3) (b' := 210) smp) (Sm.up (k' := 3) (b' := 40) (Sm.list (enc := PyData.int) (n := 40) (fun o ho => sm_int (by have := ask2.of o ho; omega)) (by have := ask2.ol; omega)))
    -- kept
    refine ⟨_, rfl, _, rfl, _, rfl, sz3, fun t1 n1 => ⟨.ref t1, .tuple [eWeb wb, eParts ps', eInts os2], rfl, ?_, rfl, smK.fine, ?_⟩⟩
    · exact tup3_mk upd_same (ask2.dw.mono (Ex.new n1)) (ask2.dp.mono (Ex.new n1)) (ask2.dO.mono (Ex.new n1))
    have g1 := Ex.new (o := .tup [.ref wp, qv, .ref op2]) n1
    have ask3 : Ask H (upd H9 t1 (.tup [.ref wp, qv, .ref op2])) p (.ref wp) qv (.ref op2) wb ps' os2 := ⟨ask2.ex.trans g1, ask2.dw.mono g1, ask2.dp.mono g1, ask2.dO.mono g1, ask2.pl, ask2.pf, ask2.ol, ask2.of⟩
    clear ask2 g1 n1
    generalize upd H9 t1 (.tup [.ref wp, qv, .ref op2]) = HA at ask3 ⊢
    obtain ⟨wp', pa', ta', ha', sa', ewp, hwA, da1, da2, da3, da4⟩ := web_at ask3.dw
    cases ewp
    obtain ⟨pxs', hpA, hpxA⟩ := Dt.list_at da1
    obtain ⟨txs', htA, htxA⟩ := Dt.list_at da2
    obtain ⟨oa', eoa, hoA⟩ := ints_at ask3.dO
    cases eoa
    have ltA : txs'.length = wb.ties.length := by rw [htxA.length, List.length_map]
    have lA : Lf (.list ((wb.parts.map ePart).mergeSort (PySem.W.dataLe false id))) := Lfs.sort (sm_web sm).lf.1
    have lB : Lf (.list ((ps'.map ePart).mergeSort (PySem.W.dataLe false id))) := Lfs.sort smp.lf
    -- due
    refine ⟨fun v H' => v = .bl (decide (ps'.Perm wb.parts ∧ wb.hands = [] ∧ wb.sides = [])) ∧ Ex HA H', ?_, ?_⟩
    · refine ⟨_, rfl, ?_⟩
      dsimp only [tNil]
      refine sort_any alike_part dep_part part_tup ask3.dp fun p1 ys1 G1 f1 n1 hp1 l1 dd1 => ?_
      refine ⟨_, rfl, wp, _, 0, _, rfl, rfl, SqT.of (f1 _ _ hwA), rfl, ?_⟩
      dsimp only [tNil]
      refine sort_any alike_part dep_part part_tup (da1.mono f1) fun p2 ys2 G2 f2 n2 hp2 l2 dd2 => ?_
      have f12 := f1.trans f2
      refine ⟨_, _, Dt.dp (dt_list (f2 _ _ hp1) (dd1.mono f2)), Dt.dp (dt_list hp2 dd2), shaped_of lB (dep_parts _), shaped_of lA (dep_parts _), _, rfl, ?_⟩
      rw [eqv_parts smp.lf]
      refine iteAny (fun h => ?_) (fun h => ?_)
      · have hpm := of_decide_eq_true h
        refine sides_go rfl (f12 _ _ hwA) (da3.mono f12) (da4.mono f12) sm fun H' f3 => ⟨?_, f12.trans f3⟩
        congr 1
        rw [Bool.eq_iff_iff, decide_eq_true_iff, decide_eq_true_iff]
        exact ⟨fun h => ⟨hpm, h⟩, fun h => h.2⟩
      · have hpm := of_decide_eq_false h
        exact ⟨by rw [decide_eq_false (fun h => hpm h.1)], f12⟩
    rintro v HB ⟨rfl, eB⟩
    refine ⟨fun v H' => v = .bl (decide ((ps'.Perm wb.parts ∧ wb.hands = [] ∧ wb.sides = []) ∧ ∀ t ∈ wb.ties, t.2.2 ∈ os2)) ∧ Ex HA H', ?_, ?_⟩
    · refine ⟨_, rfl, _, rfl, iteAny (fun h => ?_) (fun h => ?_)⟩
      · have hA := of_decide_eq_true h
        refine lcNt HB (fun i acc G => Ex HB G ∧ Dts G (((wb.ties.take i).filter fun t => !decide (t.2.2 ∈ os2)).map eTie) acc ∧ acc.length ≤ i) (fun R q => ⟨_, rfl, wp, _, 1, _, rfl, rfl, SqT.of (eB _ _ hwA), rfl, ta', rfl, ⟨_, SqL.of (eB _ _ htA)⟩, q⟩) (eB _ _ htA) (by omega) ⟨Ex.refl _, dts_nil, Nat.le_refl _⟩ ?_ (fun _ => rfl) ?_ ?_
        · rintro i acc G ⟨_, _, h⟩; exact h
        · rintro i x acc G hi eG ⟨_, hd, hl⟩
          obtain ⟨t, ht, hx⟩ := item' htxA hi
          obtain ⟨tq, rfl, htq⟩ := tie_at hx
          have f1 := eB.trans eG
          refine ⟨_, rfl, tq, _, 2, _, rfl, rfl, SqT.of (f1 _ _ htq), rfl, _, rfl, op2, _, rfl, .inl (SqL.of (f1 _ _ hoA)), rfl, flat_ints _, _, rfl, Ex.refl _, fun h => ⟨_, rfl, Ex.refl _, eG, ?_, by simp; omega⟩, fun h => ⟨eG, ?_, by omega⟩⟩
          · have h' : (!decide (t.2.2 ∈ os2)) = true := by simpa [in_ints] using h
            rw [List.take_add_one, ht, List.filter_append, List.map_append]
            have : (some t).toList.filter (fun t => !decide (t.2.2 ∈ os2)) = [t] := by simp only [Option.toList, List.filter_cons, h', if_true, List.filter_nil]
            rw [this]
            exact Dts.snoc (tie_mk (f1 _ _ htq)) hd
          · have h' : (!decide (t.2.2 ∈ os2)) = false := by simpa [in_ints] using h
            rw [List.take_add_one, ht, List.filter_append, List.map_append]
            have : (some t).toList.filter (fun t => !decide (t.2.2 ∈ os2)) = [] := by simp [Option.toList, List.filter_cons, h']
            rw [this, List.map_nil, List.append_nil]
            exact hd
        · rintro acc G p2 eG hp2 ⟨_, hd, hl⟩
          rw [ltA, List.take_length] at hd
          have f1 := Ex.new (o := .lst acc) hp2
          refine ⟨Nat.zero_le _, fun b nb => ?_⟩
          have f2 := f1.trans (Ex.new (o := .lst []) nb)
          have lfT : Lf (.list ((wb.ties.filter fun t => !decide (t.2.2 ∈ os2)).map eTie)) := Lfs.map fun t ht => (sm_tie (sm.tf t (List.mem_filter.mp ht).1)).lf
          refine ⟨_, _, Dt.dp (dt_list (Ex.new nb _ _ upd_same) (hd.mono f2)), Dt.dp (dt_nil upd_same), shaped_of lfT (dep_any dep_tie _), shaped_of nil_lf nil_dep, ?_⟩
          rw [eqv_nil]
          refine ⟨?_, eB.trans (eG.trans f2)⟩
          congr 1
          rw [Bool.eq_iff_iff, decide_eq_true_iff, mapnil, List.filter_eq_nil_iff]
          constructor
          · intro h; exact ⟨hA, fun t ht => by have := h t ht; simpa using this⟩
          · intro h t ht; simpa using h.2 t ht
      · have hA := of_decide_eq_false h
        exact ⟨by rw [decide_eq_false (fun h => hA h.1)], eB⟩
    rintro v HC ⟨rfl, eC⟩
    refine ⟨fun v H' => v = .bl (decide (OfFam ps' os2 isw wb)) ∧ Ex HA H', ?_, ?_⟩
    · refine ⟨_, rfl, _, rfl, iteAny (fun h => ?_) (fun h => ?_)⟩
      · have hA := of_decide_eq_true h
        refine ⟨_, rfl, _, rfl, _, rfl, iteAny (fun h2 => ?_) (fun h2 => ?_)⟩
        · have hi : isw = false := by simpa using h2
          have q : OfFam ps' os2 isw wb := ⟨hA.1.1, hA.1.2.1, hA.1.2.2, hA.2, fun h => by rw [hi] at h; cases h⟩
          exact ⟨by rw [decide_eq_true q], eC⟩
        · have hi : isw = true := by simpa using h2
          refine ⟨_, rfl, _, wb, rfl, ask3.dw.mono eC, by omega, by omega, (sm_web sm).lf.1, fw.tf.1, fun H' f1 => ⟨?_, eC.trans f1⟩⟩
          congr 1
          rw [Bool.eq_iff_iff, decide_eq_true_iff, decide_eq_true_iff]
          exact ⟨fun h => ⟨hA.1.1, hA.1.2.1, hA.1.2.2, hA.2, fun _ => h⟩, fun h => h.2.2.2.2 hi⟩
      · have hA := of_decide_eq_false h
        exact ⟨by rw [decide_eq_false (fun h : OfFam ps' os2 isw wb => hA ⟨⟨h.1, h.2.1, h.2.2.1⟩, h.2.2.2.1⟩)], eC⟩
    rintro v HD ⟨rfl, eD⟩
    have small : Small wb := ⟨by omega, by omega, by have := fw.hl; omega, by have := fw.sl; omega, (sm_web sm).lf⟩
    -- told
    refine ⟨_, rfl, _, rfl, _, rfl, _, rfl, qv, .ref op2, .ref wp, ps', os2, isw, wb, rfl, ask3.dp.mono eD, ask3.dO.mono eD, ask3.dw.mono eD, by have := ask3.pl; omega, by have := ask3.ol; omega, smp.lf, small, fw.tf.1, fun HE eE => ?_⟩
    have f1 := eD.trans eE
    refine ⟨_, rfl, _, rfl, _, rfl, _, rfl, rfl, _, rfl, iteAny (fun h => absurd h (by simp)) (fun _ => ?_)⟩
    refine ⟨_, rfl, _, rfl, _, rfl, sz3, fun t2 n2 => ⟨.ref t2, .tuple [eWeb wb, eParts ps', eInts os2], rfl, ?_, rfl, smK.fine, _, rfl, rfl, _, rfl, iteAny (fun h => absurd h (by simp)) (fun _ => ?_)⟩⟩
    · have f2 := f1.trans (Ex.new (o := .tup [.ref wp, qv, .ref op2]) n2)
      exact tup3_mk upd_same (ask3.dw.mono f2) (ask3.dp.mono f2) (ask3.dO.mono f2)
    have f2 := f1.trans (Ex.new (o := .tup [.ref wp, qv, .ref op2]) n2)
    -- other
    refine ⟨_, rfl, sz4, fun l nl => ⟨_, rfl, wp, _, 0, _, rfl, rfl, SqT.of ((f2.trans (Ex.new nl)) _ _ hwA), rfl, pa', pxs', rfl, .inl (SqL.of ((f2.trans (Ex.new nl)) _ _ hpA)), fun l2 nl2 => ⟨rfl, .ref l2, .ref l, .ref wp, wb.parts, [1, 2, 3, 4], false, wb, rfl, ?_⟩⟩⟩
    have f3 := Ex.new (o := .lst ([1, 2, 3, 4].map V.int)) nl
    have f4 := f3.trans (Ex.new (o := .lst pxs') nl2)
    have f24 := f2.trans f4
    refine ⟨dt_list upd_same (hpxA.mono f24), ints_mk (Ex.new nl2 _ _ upd_same), ask3.dw.mono f24, by omega, by simp, (sm_web sm).lf.1, small, fw.tf.1, fun HF eF => ?_⟩
    have f5 := f24.trans eF
    refine ⟨_, rfl, _, rfl, fun v H' => v = .bl (decide (wb.hands = [] ∧ wb.sides = [])) ∧ Ex HA H', ?_, ?_⟩
    · exact sides_go rfl (f5 _ _ hwA) (da3.mono f5) (da4.mono f5) sm fun H' f6 => ⟨rfl, f5.trans f6⟩
    rintro v HG ⟨rfl, eG⟩
    have eq : decide (OfFam wb.parts [1, 2, 3, 4] false wb) = decide (wb.hands = [] ∧ wb.sides = []) := by
      rw [Bool.eq_iff_iff, decide_eq_true_iff, decide_eq_true_iff]
      refine ⟨fun h => ⟨h.2.1, h.2.2.1⟩, fun h => ⟨List.Perm.refl _, h.1, h.2, fun t ht => ?_, fun h => by cases h⟩⟩
      have := fw.tf.2 t ht
      simp only [List.mem_cons, List.not_mem_nil, or_false]
      omega
    refine ⟨_, rfl, rfl, ?_⟩
    rw [eq, decide_eq_true rfl]
    exact k HG (ask3.ex.trans eG)
end
end W3

end
section
set_option Elab.async false
set_option linter.all false
set_option maxRecDepth 100000
set_option maxHeartbeats 4000000
namespace W3
open PySem PySem.Spec PyProof.Rows L2 M83
open Evl (Ex)
theorem part_a9 : PartFine ("a", 9) := ⟨by decide +kernel, by decide +kernel, by decide, by decide⟩
theorem part_b0 : PartFine ("b", 0) := ⟨by decide +kernel, by decide +kernel, by decide, by decide⟩
/-- ties of a chain or a ring, one order -/
def Chain (n : Int) (o : Int) (ts : List Tie) : Prop := ∀ t ∈ ts, 0 ≤ t.1 ∧ t.1 < t.2.1 ∧ t.2.1 < n ∧ t.2.2 = o
theorem sm_bools {bs : List Bool} (h : bs.length ≤ 4) : Sm 1 4 (.list (bs.map PyData.bool)) :=
  Sm.up (Sm.list (enc := PyData.bool) (k := 0) (b := 0) (n := 4) (fun b _ => ⟨trivial, by simp [PyData.depth], by simp [PyData.bulk]⟩) h)
theorem dts_bools {H : Hp} : ∀ bs : List Bool, Dts H (bs.map PyData.bool) (bs.map V.bl)
  | [] => rfl
  | _ :: bs => ⟨_, _, rfl, rfl, dts_bools bs⟩
theorem map_erase {α β : Type} (f : α → β) : ∀ (xs : List α) {k : Nat}, (xs.map f).eraseIdx k = (xs.eraseIdx k).map f
  | [], _ => rfl
  | _ :: _, 0 => rfl
  | x :: xs, k + 1 => by simp [map_erase f xs]
section
variable {P : Program} {w : World} {K : PySem.W.Frag} {mg : Str → Option Value} {base : Heap}
/-! ### _law_long_right -/
open Classical in
theorem d_l_long_right {f : Addr} {fd : FuncData} (F : Fun K "_law_long_right" "_law_long_right" sl_long_right f fd) (hm : mg "_law_long_right" = some (.ref f)) (T : Txt mg) (d_l_draw : Df P w K mg base 1 "_law_draw" ["_law_pot_here", "_law_size"] p_draw)
    (d_l_pick : Df P w K mg base 2 "_law_pick" ["_law_pot_here", "_law_some"] p_pick) (d_l_mixed : Df P w K mg base 2 "_law_mixed" ["_law_pot_here", "_law_some"] p_mixed) (d_l_is_whole : Df P w K mg base 1 "_law_is_whole" ["_law_web_here"] p_lwhole)
    (d_is_of_family : Df P w K mg base 5 "is_of_family" ["parts", "orders", "is_whole", "web"] p_of) :
    Df P w K mg base 7 "_law_long_right" ["_law_pot_here"] p_right := by
  refine Df.body F hm bil_long_right scl_long_right (fun vs H Q h => ?_) (fun cdv A outer s H vs Q hr h => ?_)
  · obtain ⟨p, rfl, _⟩ := h; rfl
  · obtain ⟨p, rfl, hp, k⟩ := h
    refine ⟨_, (pss_cons (ps_asg (pe_tup (pa_cons (pe_op op_add pe_int (pe_c3 d_l_draw (hr.less (by decide)) rfl (pa_cons (pv 0) (pa_cons pe_int pa_nil)))) (pa_cons (pe_op op_add pe_int (pe_c3 d_l_draw (hr.less (by decide)) rfl (pa_cons (pv 0) (pa_cons pe_int pa_nil)))) pa_nil))) (pgT K 2 (pgs_cons (pg_name (i := 5) scl_long_right.nd rfl (Or.inl rfl)) (pgs_cons (pg_name (i := 6) scl_long_right.nd rfl (Or.inr rfl)) pgs_nil))))
 (pss_cons (ps_setLc (own := [("_law_turn", 7)]) (i := 1) rfl scl_long_right.nd rfl rfl (sw_true rfl rfl rfl (by decide +kernel)) (pi_range1 rfl T.range (pa_cons (pv 5) pa_nil)) (blkOk_by (N := Nl_long_right) (sc := defScope sl_long_right) (by decide +kernel)) (fun _ _ _ _ _ => (pg_name (i := 7) scl_long_right.nd rfl (Or.inl rfl))) (fun _ _ _ _ _ => pts_nil) (fun _ _ _ _ _ => (pe_fr (pe_c3 d_l_pick (hr.less (by decide)) rfl (pa_cons (pv 0) (pa_cons (pe_lst (pa_cons (pe_tup (pa_cons pe_str (pa_cons pe_int pa_nil))) (pa_cons (pe_tup (pa_cons pe_str (pa_cons pe_int pa_nil))) (pa_cons (pe_tup (pa_cons pe_str (pa_cons pe_int pa_nil))) pa_nil)))) pa_nil))))))
 (pss_cons (ps_setLc (own := [("_law_at", 8)]) (i := 2) rfl scl_long_right.nd rfl rfl (sw_true rfl rfl rfl (by decide +kernel)) (pi_range1 rfl T.range (pa_cons (pe_op op_sub (pv 5) pe_int) pa_nil)) (blkOk_by (N := Nl_long_right) (sc := defScope sl_long_right) (by decide +kernel)) (fun _ _ _ _ _ => (pg_name (i := 8) scl_long_right.nd rfl (Or.inl rfl))) (fun _ _ _ _ _ => pts_nil) (fun _ _ _ _ _ => (pe_fr (pe_tup (pa_cons (pv 8) (pa_cons (pe_op op_add (pv 8) pe_int) (pa_cons (pv 6) pa_nil)))))))
 (pss_cons (ps_m (ps_if (pt_cmpR op_eq (pe_c3 d_l_draw (hr.less (by decide)) rfl (pa_cons (pv 0) (pa_cons pe_int pa_nil))) pe_int (nomark _)) (pss_one (ps_expr (pe_bm PySem.F.plainAttrs_list PySem.F.slot_list_pop PySem.F.type_list_pop mt_popAt (pv 2) (pa_cons (pe_c3 d_l_draw (hr.less (by decide)) rfl (pa_cons (pv 0) (pa_cons (pe_callB (lenS K) (by rfl) T.n_len bt_len (pa_cons (pv 2) pa_nil)) pa_nil))) pa_nil)))) pss_nil))
 (pss_cons (ps_m (ps_if (pt_cmpR op_eq (pe_c3 d_l_draw (hr.less (by decide)) rfl (pa_cons (pv 0) (pa_cons pe_int pa_nil))) pe_int (nomark _)) (pss_one (ps_set (i := 2) scl_long_right.nd rfl (Or.inl rfl) (pe_callB (cr_sortD hr.u64) (by rfl) T.n_sorted bt_sorted (pa_cons (pe_op op_cat (pv 2) (pe_lst (pa_cons (pe_tup (pa_cons pe_int (pa_cons (pe_op op_sub (pv 5) pe_int) (pa_cons (pv 6) pa_nil)))) pa_nil))) pa_nil)))) pss_nil))
 (pss_cons (ps_set (i := 3) scl_long_right.nd rfl (Or.inl rfl) (pe_tup (pa_cons (pv 1) (pa_cons (pv 2) (pa_cons (pe_lst pa_nil) (pa_cons (pe_lst pa_nil) pa_nil))))))
 (pss_cons (ps_set (i := 4) scl_long_right.nd rfl (Or.inl rfl) (pe_lst (pa_cons (pe_c3 d_is_of_family (hr.less (by decide)) rfl (pa_cons (pe_c3 d_l_mixed (hr.less (by decide)) rfl (pa_cons (pv 0) (pa_cons (pv 1) pa_nil))) (pa_cons (pe_lst (pa_cons (pv 6) pa_nil)) (pa_cons pe_bl (pa_cons (pv 3) pa_nil))))) pa_nil)))
 (pss_cons (ps_expr (pe_bm PySem.F.plainAttrs_list PySem.F.slot_list_append PySem.F.type_list_append mt_append (pv 4) (pa_cons (pe_c3 d_is_of_family (hr.less (by decide)) rfl (pa_cons (revL K (pv 1)) (pa_cons (pe_lst (pa_cons pe_int (pa_cons pe_int (pa_cons pe_int (pa_cons pe_int pa_nil))))) (pa_cons pe_bl (pa_cons (pv 3) pa_nil))))) pa_nil)))
 (pss_cons (ps_expr (pe_bm PySem.F.plainAttrs_list PySem.F.slot_list_append PySem.F.type_list_append mt_append (pv 4) (pa_cons (pe_c3 d_is_of_family (hr.less (by decide)) rfl (pa_cons (pe_op op_cat (pe_slice (slL K) (pv 1) (po_some pe_int) po_none) (pe_lst (pa_cons (pe_tup (pa_cons pe_str (pa_cons pe_int pa_nil))) pa_nil))) (pa_cons (pe_lst (pa_cons (pv 6) pa_nil)) (pa_cons pe_bl (pa_cons (pv 3) pa_nil))))) pa_nil)))
 (pss_cons (ps_expr (pe_bm PySem.F.plainAttrs_list PySem.F.slot_list_append PySem.F.type_list_append mt_append (pv 4) (pa_cons (pe_c3 d_is_of_family (hr.less (by decide)) rfl (pa_cons (pe_slice (slL K) (pv 1) (po_some pe_int) po_none) (pa_cons (pe_lst (pa_cons (pv 6) pa_nil)) (pa_cons pe_bl (pa_cons (pv 3) pa_nil))))) pa_nil)))
 (pss_one (ps_ret (pe_cmpR op_eq (pe_callB (cr_reprD hr.quiet hr.u64) (by rfl) T.n_repr bt_repr (pa_cons (pv 4) pa_nil)) (pe_callB (cr_reprD hr.quiet hr.u64) (by rfl) T.n_repr bt_repr (pa_cons (pe_lst (pa_cons (pe_c3 d_l_is_whole (hr.less (by decide)) rfl (pa_cons (pv 3) pa_nil)) (pa_cons pe_bl (pa_cons pe_bl (pa_cons pe_bl pa_nil))))) pa_nil)) (nomark _)))))))))))))), ?_⟩
    have big : (3000 : Nat) < sizeLine := by decide
    -- many, order
    refine ⟨_, rfl, p, _, rfl, hp, by omega, by omega, fun d d0 d1 H1 e1 => ⟨_, _, rfl, rfl, _, rfl, p, _, rfl, e1 _ _ hp, by omega, by omega, fun o o0 o1 H2 e2 => ⟨_, _, rfl, rfl, sz2, fun tp ntp => ⟨tp, _, rfl, SqT.of upd_same, rfl, _, _, rfl, _, _, rfl, rfl, ?_⟩⟩⟩⟩
    have e3 := (e1.trans e2).trans (Ex.new (o := .tup [.int (7 + d), .int (1 + o)]) ntp)
    clear e1 e2
    generalize upd H2 tp (.tup [.int (7 + d), .int (1 + o)]) = H3 at e3 ⊢
    -- parts
    dsimp only [gName]
    refine go_sets (lcR H3 (lo := 0) (n := (7 + d).toNat) (fun i acc G => ∃ ps : List Part, Ex H3 G ∧ Dts G (ps.map ePart) acc ∧ ps.length = i ∧ ∀ q ∈ ps, q = ((Str.ofString "k", 0) : Part) ∨ q = ((Str.ofString "a", 9) : Part)) (fun R r => ⟨_, rfl, _, rfl, by omega, by omega, r⟩) (by omega) ⟨[], Ex.refl _, dts_nil, rfl, fun q h => by simp at h⟩ ?_ (fun _ => rfl) ?_ ?_)
    · rintro i acc G ⟨ps, _, hd, hl, _⟩
      rw [hd.length, List.length_map, hl]; exact Nat.le_refl _
    · rintro i acc G hi eG ⟨ps, _, hd, hl, hf⟩
      have hpG := eG _ _ (e3 _ _ hp)
      refine pick3 ("k", 0) ("k", 0) ("a", 9) rfl hpG fun q x H4 hq e4 hx => ?_
      refine ⟨e4, ps ++ [q], eG.trans e4, ?_, by simp [hl], fun r hr => ?_⟩
      · rw [List.map_append]
        exact Dts.snoc ((hx p _ hpG).mono ex_rm) (hd.mono e4)
      · rcases List.mem_append.mp hr with hr | hr
        · exact hf r hr
        · have : r = q := by simpa using hr
          rw [this]
          rcases hq with rfl | rfl | rfl
          · exact .inl rfl
          · exact .inl rfl
          · exact .inr rfl
    rintro acc G qp eG hqp ⟨ps, _, hd, hl, hf⟩
    have e4 := e3.trans (eG.trans (Ex.new (o := .lst acc) hqp))
    have hq0 : upd G qp (.lst acc) qp = some (.lst acc) := upd_same
    have hdq := hd.mono (Ex.new (o := .lst acc) hqp)
    generalize upd G qp (.lst acc) = H4 at e4 hq0 hdq ⊢
    clear hd eG hqp
    -- ties
    refine go_sets (lcR H4 (lo := 0) (n := (7 + d - 1).toNat) (fun i acc G => ∃ ts : List Tie, Ex H4 G ∧ Dts G (ts.map eTie) acc ∧ ts.length = i ∧ Chain (7 + d) (1 + o) ts) (fun R r => ⟨_, rfl, _, _, rfl, rfl, _, rfl, by omega, by omega, r⟩) (by omega) ⟨[], Ex.refl _, dts_nil, rfl, fun t h => by simp at h⟩ ?_ (fun _ => rfl) ?_ ?_)
    · rintro i acc G ⟨ps, _, hd, hl, _⟩
      rw [hd.length, List.length_map, hl]; exact Nat.le_refl _
    · rintro i acc G hi eG ⟨ts, _, hd, hl, hf⟩
      refine ⟨_, rfl, _, rfl, _, _, rfl, rfl, _, rfl, sz3, fun tq ntq => ⟨Ex.new ntq, ts ++ [((0 : Int) + i, (0 : Int) + i + 1, 1 + o)], eG.trans (Ex.new ntq), ?_, by simp [hl], fun t ht => ?_⟩⟩
      · rw [List.map_append]
        exact Dts.snoc (tie_mk upd_same) (hd.mono (Ex.new ntq))
      · rcases List.mem_append.mp ht with ht | ht
        · exact hf t ht
        · have : t = ((0 : Int) + i, (0 : Int) + i + 1, 1 + o) := by simpa using ht
          subst this
          refine ⟨?_, ?_, ?_, rfl⟩ <;> dsimp only <;> omega
    rintro tacc G tp' eG htp ⟨ts, _, htd, htl, hch⟩
    have ltx : tacc.length = ts.length := by rw [htd.length, List.length_map]
    have eL : Ex G (upd G tp' (.lst tacc)) := Ex.new htp
    have e5 := e4.trans (eG.trans eL)
    -- maybe one tie less
    refine ⟨fun σ' H' => ∃ tq ts txs, σ' = [some (.ref p), some (.ref qp), some (.ref tq), none, none, some (.int (7 + d)), some (.int (1 + o)), none, none] ∧ Ex H4 H' ∧ H' tq = some (.lst txs) ∧ Dts H' (ts.map eTie) txs ∧ Chain (7 + d) (1 + o) ts ∧ ts.length ≤ 30, ?_, ?_⟩
    · refine ⟨_, rfl, p, _, rfl, e5 _ _ hp, by omega, by omega, fun b b0 b1 H6 e6 => ⟨rfl, _, rfl, iteAny (fun _ => ?_) (fun _ => ⟨tp', ts, tacc, rfl, (eG.trans eL).trans e6, e6 _ _ upd_same, htd.mono (eL.trans e6), hch, by omega⟩)⟩⟩
      have ht6 := e6 _ _ (upd_same (H := G) (a := tp') (o := .lst tacc))
      refine ⟨_, rfl, .inl ⟨rfl, _, SqL.of ht6⟩, _, rfl, _, rfl, tp', tacc, rfl, .inl (SqL.of ht6), p, _, rfl, e6 _ _ (e5 _ _ hp), by omega, by omega, fun c c0 c1 H7 e7 => ?_⟩
      have ht7 := e7 _ _ ht6
      have cl : c.toNat < tacc.length := by omega
      refine ⟨tp', tacc, c, c.toNat, tacc[c.toNat], rfl, rfl, ht7, by omega, by omega, PySem.seqIndex_of c0 (by omega), List.getElem?_eq_getElem cl, ?_⟩
      have m : Ex G (upd H7 tp' (.lst (tacc.eraseIdx c.toNat))) := Evl.Ex.mut (eL.trans (e6.trans e7)) htp
      refine ⟨tp', ts.eraseIdx c.toNat, tacc.eraseIdx c.toNat, rfl, eG.trans m, upd_same, ?_, fun t ht => hch t (List.mem_of_mem_eraseIdx ht), ?_⟩
      · have := (htd.erase c.toNat).mono m
        have em : (ts.map eTie).eraseIdx c.toNat = (ts.eraseIdx c.toNat).map eTie := map_erase _ _
        rw [em] at this
        exact this
      · have := List.length_eraseIdx_le ts c.toNat
        omega
    clear hch htl htd ltx eL e5 htp eG
    rintro σ6 H6 ⟨tq, ts2, txs, rfl, e46, htq, htd, hch, htl⟩
    -- maybe the ring closed
    refine ⟨fun σ' H' => ∃ tq ts txs, σ' = [some (.ref p), some (.ref qp), some (.ref tq), none, none, some (.int (7 + d)), some (.int (1 + o)), none, none] ∧ Ex H4 H' ∧ H' tq = some (.lst txs) ∧ Dts H' (ts.map eTie) txs ∧ Chain (7 + d) (1 + o) ts ∧ ts.length ≤ 31, ?_, ?_⟩
    · refine ⟨_, rfl, p, _, rfl, (e4.trans e46) _ _ hp, by omega, by omega, fun b b0 b1 H7 e7 => ⟨rfl, _, rfl, iteAny (fun _ => ?_) (fun _ => ⟨tq, ts2, txs, rfl, e46.trans e7, e7 _ _ htq, htd.mono e7, hch, by omega⟩)⟩⟩
      have lx : txs.length = ts2.length := by rw [htd.length, List.length_map]
      refine ⟨_, rfl, _, rfl, _, _, rfl, rfl, _, rfl, sz3, fun t1 n1 => ⟨sz1, fun l1 nl1 => ?_⟩⟩
      have g1 := Ex.new (o := .tup [.int 0, .int (7 + d - 1), .int (1 + o)]) n1
      have g2 := Ex.new (o := .lst [.ref t1]) nl1
      refine ⟨tq, l1, txs, [.ref t1], rfl, rfl, (e7.trans (g1.trans g2)) _ _ htq, upd_same, by simp; omega, fun l2 nl2 => ?_⟩
      have g3 := Ex.new (o := .lst (txs ++ [.ref t1])) nl2
      have g := e7.trans (g1.trans (g2.trans g3))
      dsimp only [tNil]
      have dd : Dt (upd (upd (upd H7 t1 (.tup [.int 0, .int (7 + d - 1), .int (1 + o)])) l1 (.lst [.ref t1])) l2 (.lst (txs ++ [.ref t1]))) (.list ((ts2 ++ [((0 : Int), 7 + d - 1, 1 + o)]).map eTie)) (.ref l2) := by
        refine dt_list upd_same ?_
        rw [List.map_append]
        exact Dts.snoc (tie_mk ((g2.trans g3) _ _ upd_same)) (htd.mono g)
      refine sort_any alike_tie dep_tie (fun t => ⟨_, _, rfl⟩) dd fun r ys H8 e8 nr hr lr hrd => ?_
      rw [sortT_data] at hrd
      refine ⟨r, sortT (ts2 ++ [((0 : Int), 7 + d - 1, 1 + o)]), ys, rfl, e46.trans (g.trans e8), hr, hrd, fun t ht => ?_, ?_⟩
      · have ht' : t ∈ ts2 ++ [((0 : Int), 7 + d - 1, 1 + o)] := (List.mergeSort_perm _ _).mem_iff.mp ht
        rcases List.mem_append.mp ht' with ht' | ht'
        · exact hch t ht'
        · have : t = ((0 : Int), 7 + d - 1, 1 + o) := by simpa using ht'
          subst this
          refine ⟨?_, ?_, ?_, rfl⟩ <;> dsimp only <;> omega
      · unfold sortT
        rw [List.length_mergeSort]; simp; omega
    clear hch htl htd e46 htq
    rintro σ7 H7 ⟨tq2, ts3, txs3, rfl, e47, htq, htd, hch, htl⟩
    have lq : acc.length = ps.length := by rw [hdq.length, List.length_map]
    have e7 := e4.trans e47
    -- the web
    refine ⟨_, rfl, _, rfl, Nat.zero_le _, fun l1 n1 => ⟨Nat.zero_le _, fun l2 n2 => ⟨sz4, fun wp nwp => ?_⟩⟩⟩
    have f1 := Ex.new (o := .lst []) n1
    have f2 := Ex.new (o := .lst []) n2
    have f3 := Ex.new (o := .tup [.ref qp, .ref tq2, .ref l1, .ref l2]) nwp
    have f13 := f1.trans (f2.trans f3)
    have dP0 : Dt H7 (eParts ps) (.ref qp) := dt_list (e47 _ _ hq0) (hdq.mono e47)
    have dT0 : Dt H7 (eTies ts3) (.ref tq2) := dt_list htq htd
    have dW0 : Dt (upd (upd (upd H7 l1 (.lst [])) l2 (.lst [])) wp (.tup [.ref qp, .ref tq2, .ref l1, .ref l2])) (eWeb ⟨ps, ts3, [], []⟩) (.ref wp) :=
      web_mk upd_same (dP0.mono f13) (dT0.mono f13) (dt_nil ((f2.trans f3) _ _ upd_same)) (dt_nil (f3 _ _ upd_same))
    have hqw := f13 _ _ (e47 _ _ hq0)
    have dqw := hdq.mono (e47.trans f13)
    have ew := e7.trans f13
    generalize upd (upd (upd H7 l1 (.lst [])) l2 (.lst [])) wp (.tup [.ref qp, .ref tq2, .ref l1, .ref l2]) = Hw at dW0 hqw dqw ew ⊢
    clear f1 f2 f3 f13 n1 n2 nwp dP0 dT0 htq htd e7 e47 hdq hq0 e4 e3
    have pfs : ∀ q ∈ ps, PartFine q := fun q hq => by
      rcases hf q hq with rfl | rfl
      · exact part_k0
      · exact part_a9
    have tok : TiesOk ps.length ts3 := fun t ht => by
      have := hch t ht
      omega
    have sm : WSm ⟨ps, ts3, [], []⟩ := ⟨pfs, (by show ps.length ≤ 30; omega), fun t ht => by have := hch t ht; exact ⟨by omega, by omega, by omega⟩, (by show ts3.length ≤ 60; omega), fun h hh => by simp at hh, Nat.zero_le _, fun h hh => by simp at hh, Nat.zero_le _⟩
    have small : Small ⟨ps, ts3, [], []⟩ := ⟨(by show ps.length ≤ 100; omega), (by show ts3.length ≤ 1000; omega), Nat.zero_le _, Nat.zero_le _, (sm_web sm).lf⟩
    have ord : ∀ t ∈ ts3, t.2.2 ∈ [1 + o] := fun t ht => by rw [(hch t ht).2.2.2]; simp
    -- mixed, whole or not
    refine ⟨_, rfl, _, rfl, p, qp, acc, rfl, ew _ _ hp, hqw, by omega, fun mq ys HA eA nmq hmq pm => ?_⟩
    obtain ⟨ps1, pp1, dps1⟩ := dts_perm_map pm dqw
    have lp1 := pp1.length_eq
    refine ⟨_, rfl, sz1, fun ol nol => ?_⟩
    have g1 := Ex.new (o := .lst ([1 + o].map V.int)) nol
    have eA1 := eA.trans g1
    have pf1 : ∀ q ∈ ps1, PartFine q := fun q hq => pfs q (pp1.mem_iff.mp hq)
    refine ⟨_, rfl, .ref mq, .ref ol, .ref wp, ps1, [1 + o], true, ⟨ps, ts3, [], []⟩, rfl, dt_list (g1 _ _ hmq) (dps1.mono eA1), ints_mk upd_same, dW0.mono eA1, by omega, by simp, (sm_parts pf1 (by omega)).lf, small, tok, fun HB eB => ⟨sz1, fun tl ntl => ?_⟩⟩
    have q1 : decide (OfFam ps1 [1 + o] true ⟨ps, ts3, [], []⟩) = decide (Whole ps.length ts3) := by
      rw [Bool.eq_iff_iff, decide_eq_true_iff, decide_eq_true_iff]
      exact ⟨fun h => h.2.2.2.2 rfl, fun h => ⟨pp1, rfl, rfl, ord, fun _ => h⟩⟩
    rw [q1]
    have fB := eA1.trans eB
    have ntlw := Evl.fresh_back fB ntl
    have htl := upd_same (H := HB) (a := tl) (o := .lst [.bl (decide (Whole ps.length ts3))])
    have eC := fB.trans (Ex.new (o := .lst [.bl (decide (Whole ps.length ts3))]) ntl)
    clear ntl fB
    generalize upd HB tl (.lst [.bl (decide (Whole ps.length ts3))]) = HC at htl eC ⊢
    clear eB eA1 g1 nol dps1 hmq eA
    -- turned round
    have c1 : 3 < sizeLine := by decide
    refine ⟨_, rfl, .inl ⟨rfl, _, SqL.of htl⟩, _, rfl, qp, acc, rfl, SqL.of (eC _ _ hqw), fun rv nrv => ⟨sz4, fun ol nol => ?_⟩⟩
    have g1 := Ex.new (o := .lst acc.reverse) nrv
    have g2 := Ex.new (o := .lst ([1, 2, 3, 4].map V.int)) nol
    have g12 := eC.trans (g1.trans g2)
    refine ⟨_, rfl, .ref rv, .ref ol, .ref wp, ps.reverse, [1, 2, 3, 4], false, ⟨ps, ts3, [], []⟩, rfl, dt_list (g2 _ _ upd_same) ?_, ints_mk upd_same, dW0.mono g12, by rw [List.length_reverse]; omega, by simp, (sm_parts (fun q hq => pfs q (List.mem_reverse.mp hq)) (by rw [List.length_reverse]; omega)).lf, small, tok, fun HD eD => ?_⟩
    · rw [List.map_reverse]
      exact (dqw.mono g12).rev
    have q2 : OfFam ps.reverse [1, 2, 3, 4] false ⟨ps, ts3, [], []⟩ := ⟨List.reverse_perm ps, rfl, rfl, fun t ht => by
      rw [(hch t ht).2.2.2]
      simp only [List.mem_cons, List.not_mem_nil, or_false]
      omega, fun h => by cases h⟩
    rw [decide_eq_true q2]
    have htD := eD _ _ (g2 _ _ (g1 _ _ htl))
    have eE := Evl.Ex.mut (o := .lst ([.bl (decide (Whole ps.length ts3))] ++ [.bl true])) (g12.trans eD) ntlw
    refine ⟨tl, _, _, rfl, rfl, htD, (by show 1 < sizeLine; decide), ?_⟩
    have htE := upd_same (H := HD) (a := tl) (o := .lst ([.bl (decide (Whole ps.length ts3))] ++ [.bl true]))
    clear htl htD eD g12 g2 g1 nol nrv eC
    generalize upd HD tl (.lst ([.bl (decide (Whole ps.length ts3))] ++ [.bl true])) = HE at htE eE ⊢
    -- one part another
    refine ⟨_, rfl, .inl ⟨rfl, _, SqL.of htE⟩, _, rfl, _, rfl, qp, acc, rfl, SqL.of (eE _ _ hqw), fun s1 ns1 => ?_⟩
    rw [show cutV acc (some 1) none = acc.drop 1 from cutV_from (by omega)]
    have ld : (acc.drop 1).length + 1 = acc.length := by rw [List.length_drop]; omega
    have g1 := Ex.new (o := .lst (acc.drop 1)) ns1
    refine ⟨sz2, fun bt nbt => ⟨sz1, fun bl nbl => ⟨s1, bl, acc.drop 1, [.ref bt], rfl, rfl, (Ex.new nbl) _ _ (Ex.new nbt _ _ upd_same), upd_same, by simp only [List.length_singleton]; omega, fun cc ncc => ⟨_, rfl, sz1, fun ol nol => ?_⟩⟩⟩⟩
    have g2 := Ex.new (o := .tup [.str "b", .int 0]) nbt
    have g3 := Ex.new (o := .lst [.ref bt]) nbl
    have g4 := Ex.new (o := .lst (acc.drop 1 ++ [.ref bt])) ncc
    have g5 := Ex.new (o := .lst ([1 + o].map V.int)) nol
    have g15 := eE.trans (g1.trans (g2.trans (g3.trans (g4.trans g5))))
    refine ⟨_, rfl, .ref cc, .ref ol, .ref wp, ps.drop 1 ++ [((Str.ofString "b", 0) : Part)], [1 + o], false, ⟨ps, ts3, [], []⟩, rfl, dt_list (g5 _ _ upd_same) ?_, ints_mk upd_same, dW0.mono g15, by simp; omega, by simp, (sm_parts (fun q hq => ?_) (by simp; omega)).lf, small, tok, fun HF eF => ?_⟩
    · rw [List.map_append, List.map_drop]
      exact Dts.snoc (part_mk ((g3.trans (g4.trans g5)) _ _ upd_same)) ((dqw.mono g15).drop 1)
    · rcases List.mem_append.mp hq with hq | hq
      · exact pfs q (List.mem_of_mem_drop hq)
      · have : q = ((Str.ofString "b", 0) : Part) := by simpa using hq
        rw [this]; exact part_b0
    have q3 : ¬ OfFam (ps.drop 1 ++ [((Str.ofString "b", 0) : Part)]) [1 + o] false ⟨ps, ts3, [], []⟩ := fun h => by
      have hb : ((Str.ofString "b", 0) : Part) ∈ ps := h.1.mem_iff.mp (by simp)
      rcases hf _ hb with e | e
      · exact absurd (Prod.mk.inj e).1 (by decide +kernel)
      · exact absurd (Prod.mk.inj e).1 (by decide +kernel)
    rw [decide_eq_false q3]
    have htF := eF _ _ ((g1.trans (g2.trans (g3.trans (g4.trans g5)))) _ _ htE)
    have eG := Evl.Ex.mut (o := .lst ([.bl (decide (Whole ps.length ts3)), .bl true] ++ [.bl false])) (g15.trans eF) ntlw
    refine ⟨tl, _, _, rfl, rfl, htF, (by show 2 < sizeLine; decide), ?_⟩
    have htG := upd_same (H := HF) (a := tl) (o := .lst ([.bl (decide (Whole ps.length ts3)), .bl true] ++ [.bl false]))
    clear htE htF eF g15 g5 g4 g3 g2 g1 nol ncc nbl nbt ns1 eE
    have ec : ([V.bl (decide (Whole ps.length ts3))] ++ [V.bl true]) ++ [V.bl false] = [V.bl (decide (Whole ps.length ts3)), V.bl true] ++ [V.bl false] := rfl
    rw [ec]
    generalize upd HF tl (.lst ([.bl (decide (Whole ps.length ts3)), .bl true] ++ [.bl false])) = HG at htG eG ⊢
    -- one part less
    refine ⟨_, rfl, .inl ⟨rfl, _, SqL.of htG⟩, _, rfl, _, rfl, qp, acc, rfl, SqL.of (eG _ _ hqw), fun s1 ns1 => ?_⟩
    rw [show cutV acc (some 1) none = acc.drop 1 from cutV_from (by omega)]
    have g1 := Ex.new (o := .lst (acc.drop 1)) ns1
    refine ⟨_, rfl, sz1, fun ol nol => ?_⟩
    have g2 := Ex.new (o := .lst ([1 + o].map V.int)) nol
    have g12 := eG.trans (g1.trans g2)
    refine ⟨_, rfl, .ref s1, .ref ol, .ref wp, ps.drop 1, [1 + o], false, ⟨ps, ts3, [], []⟩, rfl, dt_list (g2 _ _ upd_same) ?_, ints_mk upd_same, dW0.mono g12, by rw [List.length_drop]; omega, by simp, (sm_parts (fun q hq => pfs q (List.mem_of_mem_drop hq)) (by rw [List.length_drop]; omega)).lf, small, tok, fun HI eI => ?_⟩
    · rw [List.map_drop]
      exact (dqw.mono g12).drop 1
    have q4 : ¬ OfFam (ps.drop 1) [1 + o] false ⟨ps, ts3, [], []⟩ := fun h => by
      have := h.1.length_eq
      rw [List.length_drop] at this
      have e : ps.length - 1 = ps.length := this
      omega
    rw [decide_eq_false q4]
    have htI := eI _ _ (g2 _ _ (g1 _ _ htG))
    have eJ := Evl.Ex.mut (o := .lst ([.bl (decide (Whole ps.length ts3)), .bl true, .bl false] ++ [.bl false])) (g12.trans eI) ntlw
    refine ⟨tl, _, _, rfl, rfl, htI, (by show 3 < sizeLine; decide), ?_⟩
    have htJ := upd_same (H := HI) (a := tl) (o := .lst ([.bl (decide (Whole ps.length ts3)), .bl true, .bl false] ++ [.bl false]))
    have ec2 : ([V.bl (decide (Whole ps.length ts3)), V.bl true] ++ [V.bl false]) ++ [V.bl false] = [V.bl (decide (Whole ps.length ts3)), V.bl true, V.bl false] ++ [V.bl false] := rfl
    rw [ec2]
    generalize upd HI tl (.lst ([.bl (decide (Whole ps.length ts3)), .bl true, .bl false] ++ [.bl false])) = HJ at htJ eJ ⊢
    -- repr
    have smB : Sm 1 4 (.list ([decide (Whole ps.length ts3), true, false, false].map PyData.bool)) := sm_bools (by simp)
    refine ⟨_, rfl, .ref tl, _, rfl, dt_list htJ (dts_bools [decide (Whole ps.length ts3), true, false, false]), rfl, smB.fine, ?_⟩
    refine ⟨_, rfl, .ref wp, ⟨ps, ts3, [], []⟩, rfl, dW0.mono eJ, (by show ps.length ≤ 100; omega), (by show ts3.length ≤ 1000; omega), (sm_web sm).lf.1, tok, fun HK eK => ⟨sz4, fun l nl => ⟨.ref l, _, rfl, dt_list upd_same (dts_bools [decide (Whole ps.length ts3), true, false, false]), rfl, smB.fine, rfl, ?_⟩⟩⟩
    rw [decide_eq_true rfl]
    exact k _ (ew.trans (eJ.trans (eK.trans (Ex.new nl))))
end
end W3

end
section
set_option Elab.async false
set_option linter.all false
set_option maxRecDepth 100000
set_option maxHeartbeats 4000000
namespace W3
open PySem PySem.Spec PyProof.Rows L2 M83
open Evl (Ex)
section
variable {P : Program} {w : World} {K : PySem.W.Frag} {mg : Str → Option Value} {base : Heap}
/-! ### law -/
def p_law (K : PySem.W.Frag) : Sp3 := fun vs H Q => ∃ (a : Addr) (ns : List Int), vs = [.ref a] ∧ SqL K H a (ns.map V.int) ∧ ∀ H', Q (.bl true) H'
theorem d_law {f : Addr} {fd : FuncData} (F : Fun K "law" "law" slaw f fd) (hm : mg "law" = some (.ref f)) (T : Txt mg) (d_l_pot : Df P w K mg base 1 "_law_pot" ["_law_script", "_law_k"] (p_pot K))
    (d_l_long_right : Df P w K mg base 7 "_law_long_right" ["_law_pot_here"] p_right) (d_l_of_right : Df P w K mg base 7 "_law_of_right" ["_law_pot_here"] p_right) (d_l_grown_right : Df P w K mg base 7 "_law_grown_right" ["_law_pot_here"] p_right)
    (d_l_choices_right : Df P w K mg base 7 "_law_choices_right" ["_law_pot_here"] p_right) : Df P w K mg base 8 "law" ["_law_script"] (p_law K) := by
  refine Df.body F hm bilaw sclaw (fun vs H Q h => ?_) (fun cdv A outer s H vs Q hr h => ?_)
  · obtain ⟨a, ns, rfl, _⟩ := h; rfl
  · obtain ⟨a, ns, rfl, ha, k⟩ := h
    refine ⟨_, (pss_cons (ps_set (i := 1) sclaw.nd rfl (Or.inl rfl) (pe_c3 d_l_pot (hr.less (by decide)) rfl (pa_cons (pv 0) (pa_cons pe_int pa_nil))))
 (pss_cons (ps_if (pt_not (pt_val (pe_c3 d_l_long_right (hr.less (by decide)) rfl (pa_cons (pe_c3 d_l_pot (hr.less (by decide)) rfl (pa_cons (pv 0) (pa_cons pe_int pa_nil))) pa_nil)))) (pss_one (ps_ret pe_bl)) pss_nil)
 (pss_one (ps_ret (pe_and (pe_c3 d_l_of_right (hr.less (by decide)) rfl (pa_cons (pv 1) pa_nil)) (pe_and (pe_c3 d_l_grown_right (hr.less (by decide)) rfl (pa_cons (pv 1) pa_nil)) (pe_one (pe_c3 d_l_choices_right (hr.less (by decide)) rfl (pa_cons (pv 1) pa_nil))))))))), ?_⟩
    refine ⟨_, rfl, a, ns, 0, rfl, ha, by omega, fun p H1 e1 hp => ?_⟩
    refine ⟨_, rfl, a, ns, 1, rfl, Evl.ex_l e1 ha, by omega, fun p2 H2 e2 hp2 => ⟨p2, rfl, hp2, fun H3 e3 => ⟨_, rfl, iteF ?_⟩⟩⟩
    have h3 := e3 _ _ (e2 _ _ hp)
    exact ⟨_, rfl, p, rfl, h3, fun H4 e4 => ⟨_, rfl, iteT ⟨_, rfl, p, rfl, e4 _ _ h3, fun H5 e5 => ⟨_, rfl, iteT ⟨_, rfl, p, rfl, e5 _ _ (e4 _ _ h3), fun H6 e6 => k H6⟩⟩⟩⟩⟩
end
end W3

end
section
set_option Elab.async false
set_option linter.all false
set_option maxRecDepth 100000
set_option maxHeartbeats 4000000
namespace W3
open PySem PySem.Spec PyProof.Rows L2 M83
/-! ### what the top has written -/
theorem all_mk {P : Program} {w : World} {K : PySem.W.Frag} {h base : Heap} {mg : Str → Option Value} {f1 f2 f3 f4 f5 f6 f7 f8 f9 f10 f11 f12 f13 f14 f15 f16 f17 f18 f19 f20 f21 f22 f23 f24 f25 f26 f27 f28 f29 f30 f31 : Addr} {tP tC : Tok} (X : K.In h) (G : h.Ns mainGlobals mg)
    {od1 an1 od2 an2 od3 an3 od4 an4 od5 an5 od6 an6 od7 an7 od8 an8 od9 an9 od10 an10 od11 an11 od12 an12 od13 an13 od14 an14 od15 an15 od16 an16 od17 an17 od18 an18 od19 an19 od20 an20 od21 an21 od22 an22 od23 an23 od24 an24 od25 an25 od26 an26 od27 an27 od28 an28 od29 an29 od30 an30 od31 an31 : Option Addr}
    {sl1 sl2 sl3 sl4 sl5 sl6 sl7 sl8 sl9 sl10 sl11 sl12 sl13 sl14 sl15 sl16 sl17 sl18 sl19 sl20 sl21 sl22 sl23 sl24 sl25 sl26 sl27 sl28 sl29 sl30 sl31 : Array (Option Value)}
    {oc1 kV1 dc1 pm1 cd1 ct1 oc2 kV2 dc2 pm2 cd2 ct2 oc3 kV3 dc3 pm3 cd3 ct3 oc4 kV4 dc4 pm4 cd4 ct4 oc5 kV5 dc5 pm5 cd5 ct5 oc6 kV6 dc6 pm6 cd6 ct6 oc7 kV7 dc7 pm7 cd7 ct7 oc8 kV8 dc8 pm8 cd8 ct8 oc9 kV9 dc9 pm9 cd9 ct9 oc10 kV10 dc10 pm10 cd10 ct10 oc11 kV11 dc11 pm11 cd11 ct11 oc12 kV12 dc12 pm12 cd12 ct12 oc13 kV13 dc13 pm13 cd13 ct13 oc14 kV14 dc14 pm14 cd14 ct14 oc15 kV15 dc15 pm15 cd15 ct15 oc16 kV16 dc16 pm16 cd16 ct16 oc17 kV17 dc17 pm17 cd17 ct17 oc18 kV18 dc18 pm18 cd18 ct18 oc19 kV19 dc19 pm19 cd19 ct19 oc20 kV20 dc20 pm20 cd20 ct20 oc21 kV21 dc21 pm21 cd21 ct21 oc22 kV22 dc22 pm22 cd22 ct22 oc23 kV23 dc23 pm23 cd23 ct23 oc24 kV24 dc24 pm24 cd24 ct24 oc25 kV25 dc25 pm25 cd25 ct25 oc26 kV26 dc26 pm26 cd26 ct26 oc27 kV27 dc27 pm27 cd27 ct27 oc28 kV28 dc28 pm28 cd28 ct28 oc29 kV29 dc29 pm29 cd29 ct29 oc30 kV30 dc30 pm30 cd30 ct30 oc31 kV31 dc31 pm31 cd31 ct31 : Value}
    (a1 : PySem.W.nsIn K mainGlobals "want_at_most" = some (some (.ref f1))) (l1 : K.lookup f1 = some ⟨oc1, od1, .func (PySem.W.fnOf "want_at_most" "want_at_most" (defArgs swant_at_most) (defBody swant_at_most) (defScope swant_at_most) .none kV1 dc1 pm1 an1 cd1 ct1), sl1⟩) (c1 : PySem.W.codeIn K cd1 "want_at_most" = true) (k1 : PySem.W.keepIn K (.ref f1) = true)
    (a2 : PySem.W.nsIn K mainGlobals "times_itself" = some (some (.ref f2))) (l2 : K.lookup f2 = some ⟨oc2, od2, .func (PySem.W.fnOf "times_itself" "times_itself" (defArgs stimes_itself) (defBody stimes_itself) (defScope stimes_itself) .none kV2 dc2 pm2 an2 cd2 ct2), sl2⟩) (c2 : PySem.W.codeIn K cd2 "times_itself" = true) (k2 : PySem.W.keepIn K (.ref f2) = true)
    (a3 : PySem.W.nsIn K mainGlobals "near_of" = some (some (.ref f3))) (l3 : K.lookup f3 = some ⟨oc3, od3, .func (PySem.W.fnOf "near_of" "near_of" (defArgs snear_of) (defBody snear_of) (defScope snear_of) .none kV3 dc3 pm3 an3 cd3 ct3), sl3⟩) (c3 : PySem.W.codeIn K cd3 "near_of" = true) (k3 : PySem.W.keepIn K (.ref f3) = true)
    (a4 : PySem.W.nsIn K mainGlobals "near_lists" = some (some (.ref f4))) (l4 : K.lookup f4 = some ⟨oc4, od4, .func (PySem.W.fnOf "near_lists" "near_lists" (defArgs snear_lists) (defBody snear_lists) (defScope snear_lists) .none kV4 dc4 pm4 an4 cd4 ct4), sl4⟩) (c4 : PySem.W.codeIn K cd4 "near_lists" = true) (k4 : PySem.W.keepIn K (.ref f4) = true)
    (a5 : PySem.W.nsIn K mainGlobals "piece_of" = some (some (.ref f5))) (l5 : K.lookup f5 = some ⟨oc5, od5, .func (PySem.W.fnOf "piece_of" "piece_of" (defArgs spiece_of) (defBody spiece_of) (defScope spiece_of) .none kV5 dc5 pm5 an5 cd5 ct5), sl5⟩) (c5 : PySem.W.codeIn K cd5 "piece_of" = true) (k5 : PySem.W.keepIn K (.ref f5) = true)
    (a6 : PySem.W.nsIn K mainGlobals "pieces_of" = some (some (.ref f6))) (l6 : K.lookup f6 = some ⟨oc6, od6, .func (PySem.W.fnOf "pieces_of" "pieces_of" (defArgs spieces_of) (defBody spieces_of) (defScope spieces_of) .none kV6 dc6 pm6 an6 cd6 ct6), sl6⟩) (c6 : PySem.W.codeIn K cd6 "pieces_of" = true) (k6 : PySem.W.keepIn K (.ref f6) = true)
    (a7 : PySem.W.nsIn K mainGlobals "pieces" = some (some (.ref f7))) (l7 : K.lookup f7 = some ⟨oc7, od7, .func (PySem.W.fnOf "pieces" "pieces" (defArgs spieces) (defBody spieces) (defScope spieces) .none kV7 dc7 pm7 an7 cd7 ct7), sl7⟩) (c7 : PySem.W.codeIn K cd7 "pieces" = true) (k7 : PySem.W.keepIn K (.ref f7) = true)
    (a8 : PySem.W.nsIn K mainGlobals "is_whole_web" = some (some (.ref f8))) (l8 : K.lookup f8 = some ⟨oc8, od8, .func (PySem.W.fnOf "is_whole_web" "is_whole_web" (defArgs sis_whole_web) (defBody sis_whole_web) (defScope sis_whole_web) .none kV8 dc8 pm8 an8 cd8 ct8), sl8⟩) (c8 : PySem.W.codeIn K cd8 "is_whole_web" = true) (k8 : PySem.W.keepIn K (.ref f8) = true)
    (a9 : PySem.W.nsIn K mainGlobals "pairs_of" = some (some (.ref f9))) (l9 : K.lookup f9 = some ⟨oc9, od9, .func (PySem.W.fnOf "pairs_of" "pairs_of" (defArgs spairs_of) (defBody spairs_of) (defScope spairs_of) .none kV9 dc9 pm9 an9 cd9 ct9), sl9⟩) (c9 : PySem.W.codeIn K cd9 "pairs_of" = true) (k9 : PySem.W.keepIn K (.ref f9) = true)
    (a10 : PySem.W.nsIn K mainGlobals "all_choices" = some (some (.ref f10))) (l10 : K.lookup f10 = some ⟨oc10, od10, .func (PySem.W.fnOf "all_choices" "all_choices" (defArgs sall_choices) (defBody sall_choices) (defScope sall_choices) .none kV10 dc10 pm10 an10 cd10 ct10), sl10⟩) (c10 : PySem.W.codeIn K cd10 "all_choices" = true) (k10 : PySem.W.keepIn K (.ref f10) = true)
    (a11 : PySem.W.nsIn K mainGlobals "grown" = some (some (.ref f11))) (l11 : K.lookup f11 = some ⟨oc11, od11, .func (PySem.W.fnOf "grown" "grown" (defArgs sgrown) (defBody sgrown) (defScope sgrown) .none kV11 dc11 pm11 an11 cd11 ct11), sl11⟩) (c11 : PySem.W.codeIn K cd11 "grown" = true) (k11 : PySem.W.keepIn K (.ref f11) = true)
    (a12 : PySem.W.nsIn K mainGlobals "is_of_family" = some (some (.ref f12))) (l12 : K.lookup f12 = some ⟨oc12, od12, .func (PySem.W.fnOf "is_of_family" "is_of_family" (defArgs sis_of_family) (defBody sis_of_family) (defScope sis_of_family) .none kV12 dc12 pm12 an12 cd12 ct12), sl12⟩) (c12 : PySem.W.codeIn K cd12 "is_of_family" = true) (k12 : PySem.W.keepIn K (.ref f12) = true)
    (a13 : PySem.W.nsIn K mainGlobals "_law_pot" = some (some (.ref f13))) (l13 : K.lookup f13 = some ⟨oc13, od13, .func (PySem.W.fnOf "_law_pot" "_law_pot" (defArgs sl_pot) (defBody sl_pot) (defScope sl_pot) .none kV13 dc13 pm13 an13 cd13 ct13), sl13⟩) (c13 : PySem.W.codeIn K cd13 "_law_pot" = true) (k13 : PySem.W.keepIn K (.ref f13) = true)
    (a14 : PySem.W.nsIn K mainGlobals "_law_draw" = some (some (.ref f14))) (l14 : K.lookup f14 = some ⟨oc14, od14, .func (PySem.W.fnOf "_law_draw" "_law_draw" (defArgs sl_draw) (defBody sl_draw) (defScope sl_draw) .none kV14 dc14 pm14 an14 cd14 ct14), sl14⟩) (c14 : PySem.W.codeIn K cd14 "_law_draw" = true) (k14 : PySem.W.keepIn K (.ref f14) = true)
    (a15 : PySem.W.nsIn K mainGlobals "_law_pick" = some (some (.ref f15))) (l15 : K.lookup f15 = some ⟨oc15, od15, .func (PySem.W.fnOf "_law_pick" "_law_pick" (defArgs sl_pick) (defBody sl_pick) (defScope sl_pick) .none kV15 dc15 pm15 an15 cd15 ct15), sl15⟩) (c15 : PySem.W.codeIn K cd15 "_law_pick" = true) (k15 : PySem.W.keepIn K (.ref f15) = true)
    (a16 : PySem.W.nsIn K mainGlobals "_law_near" = some (some (.ref f16))) (l16 : K.lookup f16 = some ⟨oc16, od16, .func (PySem.W.fnOf "_law_near" "_law_near" (defArgs sl_near) (defBody sl_near) (defScope sl_near) .none kV16 dc16 pm16 an16 cd16 ct16), sl16⟩) (c16 : PySem.W.codeIn K cd16 "_law_near" = true) (k16 : PySem.W.keepIn K (.ref f16) = true)
    (a17 : PySem.W.nsIn K mainGlobals "_law_ties" = some (some (.ref f17))) (l17 : K.lookup f17 = some ⟨oc17, od17, .func (PySem.W.fnOf "_law_ties" "_law_ties" (defArgs sl_ties) (defBody sl_ties) (defScope sl_ties) .none kV17 dc17 pm17 an17 cd17 ct17), sl17⟩) (c17 : PySem.W.codeIn K cd17 "_law_ties" = true) (k17 : PySem.W.keepIn K (.ref f17) = true)
    (a18 : PySem.W.nsIn K mainGlobals "_law_hands" = some (some (.ref f18))) (l18 : K.lookup f18 = some ⟨oc18, od18, .func (PySem.W.fnOf "_law_hands" "_law_hands" (defArgs sl_hands) (defBody sl_hands) (defScope sl_hands) .none kV18 dc18 pm18 an18 cd18 ct18), sl18⟩) (c18 : PySem.W.codeIn K cd18 "_law_hands" = true) (k18 : PySem.W.keepIn K (.ref f18) = true)
    (a19 : PySem.W.nsIn K mainGlobals "_law_sides" = some (some (.ref f19))) (l19 : K.lookup f19 = some ⟨oc19, od19, .func (PySem.W.fnOf "_law_sides" "_law_sides" (defArgs sl_sides) (defBody sl_sides) (defScope sl_sides) .none kV19 dc19 pm19 an19 cd19 ct19), sl19⟩) (c19 : PySem.W.codeIn K cd19 "_law_sides" = true) (k19 : PySem.W.keepIn K (.ref f19) = true)
    (a20 : PySem.W.nsIn K mainGlobals "_law_web" = some (some (.ref f20))) (l20 : K.lookup f20 = some ⟨oc20, od20, .func (PySem.W.fnOf "_law_web" "_law_web" (defArgs sl_web) (defBody sl_web) (defScope sl_web) .none kV20 dc20 pm20 an20 cd20 ct20), sl20⟩) (c20 : PySem.W.codeIn K cd20 "_law_web" = true) (k20 : PySem.W.keepIn K (.ref f20) = true)
    (a21 : PySem.W.nsIn K mainGlobals "_law_choices" = some (some (.ref f21))) (l21 : K.lookup f21 = some ⟨oc21, od21, .func (PySem.W.fnOf "_law_choices" "_law_choices" (defArgs sl_choices) (defBody sl_choices) (defScope sl_choices) .none kV21 dc21 pm21 an21 cd21 ct21), sl21⟩) (c21 : PySem.W.codeIn K cd21 "_law_choices" = true) (k21 : PySem.W.keepIn K (.ref f21) = true)
    (a22 : PySem.W.nsIn K mainGlobals "_law_is_whole" = some (some (.ref f22))) (l22 : K.lookup f22 = some ⟨oc22, od22, .func (PySem.W.fnOf "_law_is_whole" "_law_is_whole" (defArgs sl_is_whole) (defBody sl_is_whole) (defScope sl_is_whole) .none kV22 dc22 pm22 an22 cd22 ct22), sl22⟩) (c22 : PySem.W.codeIn K cd22 "_law_is_whole" = true) (k22 : PySem.W.keepIn K (.ref f22) = true)
    (a23 : PySem.W.nsIn K mainGlobals "_law_mixed" = some (some (.ref f23))) (l23 : K.lookup f23 = some ⟨oc23, od23, .func (PySem.W.fnOf "_law_mixed" "_law_mixed" (defArgs sl_mixed) (defBody sl_mixed) (defScope sl_mixed) .none kV23 dc23 pm23 an23 cd23 ct23), sl23⟩) (c23 : PySem.W.codeIn K cd23 "_law_mixed" = true) (k23 : PySem.W.keepIn K (.ref f23) = true)
    (a24 : PySem.W.nsIn K mainGlobals "_law_orders" = some (some (.ref f24))) (l24 : K.lookup f24 = some ⟨oc24, od24, .func (PySem.W.fnOf "_law_orders" "_law_orders" (defArgs sl_orders) (defBody sl_orders) (defScope sl_orders) .none kV24 dc24 pm24 an24 cd24 ct24), sl24⟩) (c24 : PySem.W.codeIn K cd24 "_law_orders" = true) (k24 : PySem.W.keepIn K (.ref f24) = true)
    (a25 : PySem.W.nsIn K mainGlobals "_law_grown" = some (some (.ref f25))) (l25 : K.lookup f25 = some ⟨oc25, od25, .func (PySem.W.fnOf "_law_grown" "_law_grown" (defArgs sl_grown) (defBody sl_grown) (defScope sl_grown) .none kV25 dc25 pm25 an25 cd25 ct25), sl25⟩) (c25 : PySem.W.codeIn K cd25 "_law_grown" = true) (k25 : PySem.W.keepIn K (.ref f25) = true)
    (a26 : PySem.W.nsIn K mainGlobals "_law_spoilt" = some (some (.ref f26))) (l26 : K.lookup f26 = some ⟨oc26, od26, .func (PySem.W.fnOf "_law_spoilt" "_law_spoilt" (defArgs sl_spoilt) (defBody sl_spoilt) (defScope sl_spoilt) .none kV26 dc26 pm26 an26 cd26 ct26), sl26⟩) (c26 : PySem.W.codeIn K cd26 "_law_spoilt" = true) (k26 : PySem.W.keepIn K (.ref f26) = true)
    (a27 : PySem.W.nsIn K mainGlobals "_law_choices_right" = some (some (.ref f27))) (l27 : K.lookup f27 = some ⟨oc27, od27, .func (PySem.W.fnOf "_law_choices_right" "_law_choices_right" (defArgs sl_choices_right) (defBody sl_choices_right) (defScope sl_choices_right) .none kV27 dc27 pm27 an27 cd27 ct27), sl27⟩) (c27 : PySem.W.codeIn K cd27 "_law_choices_right" = true) (k27 : PySem.W.keepIn K (.ref f27) = true)
    (a28 : PySem.W.nsIn K mainGlobals "_law_grown_right" = some (some (.ref f28))) (l28 : K.lookup f28 = some ⟨oc28, od28, .func (PySem.W.fnOf "_law_grown_right" "_law_grown_right" (defArgs sl_grown_right) (defBody sl_grown_right) (defScope sl_grown_right) .none kV28 dc28 pm28 an28 cd28 ct28), sl28⟩) (c28 : PySem.W.codeIn K cd28 "_law_grown_right" = true) (k28 : PySem.W.keepIn K (.ref f28) = true)
    (a29 : PySem.W.nsIn K mainGlobals "_law_of_right" = some (some (.ref f29))) (l29 : K.lookup f29 = some ⟨oc29, od29, .func (PySem.W.fnOf "_law_of_right" "_law_of_right" (defArgs sl_of_right) (defBody sl_of_right) (defScope sl_of_right) .none kV29 dc29 pm29 an29 cd29 ct29), sl29⟩) (c29 : PySem.W.codeIn K cd29 "_law_of_right" = true) (k29 : PySem.W.keepIn K (.ref f29) = true)
    (a30 : PySem.W.nsIn K mainGlobals "_law_long_right" = some (some (.ref f30))) (l30 : K.lookup f30 = some ⟨oc30, od30, .func (PySem.W.fnOf "_law_long_right" "_law_long_right" (defArgs sl_long_right) (defBody sl_long_right) (defScope sl_long_right) .none kV30 dc30 pm30 an30 cd30 ct30), sl30⟩) (c30 : PySem.W.codeIn K cd30 "_law_long_right" = true) (k30 : PySem.W.keepIn K (.ref f30) = true)
    (a31 : PySem.W.nsIn K mainGlobals "law" = some (some (.ref f31))) (l31 : K.lookup f31 = some ⟨oc31, od31, .func (PySem.W.fnOf "law" "law" (defArgs slaw) (defBody slaw) (defScope slaw) .none kV31 dc31 pm31 an31 cd31 ct31), sl31⟩) (c31 : PySem.W.codeIn K cd31 "law" = true) (k31 : PySem.W.keepIn K (.ref f31) = true)
    (z_range : PySem.W.nsIn K mainGlobals "range" = some none) (z_len : PySem.W.nsIn K mainGlobals "len" = some none) (z_sorted : PySem.W.nsIn K mainGlobals "sorted" = some none) (z_repr : PySem.W.nsIn K mainGlobals "repr" = some none) (z_abs : PySem.W.nsIn K mainGlobals "abs" = some none) (z_max : PySem.W.nsIn K mainGlobals "max" = some none) (z_min : PySem.W.nsIn K mainGlobals "min" = some none) (z_int : PySem.W.nsIn K mainGlobals "int" = some none) (z_list : PySem.W.nsIn K mainGlobals "list" = some none) (z_divmod : PySem.W.nsIn K mainGlobals "divmod" = some none) (z_all : PySem.W.nsIn K mainGlobals "all" = some none)
    (zP : PySem.W.nsIn K mainGlobals "MOST_PLAIN" = some (some (.int 4 tP))) (zC : PySem.W.nsIn K mainGlobals "MOST_CHOICES" = some (some (.int 5000 tC))) :
    Df P w K mg base 8 "law" ["_law_script"] (p_law K) := by
  have T : Txt mg := ⟨PySem.W.mg_none_of X G z_range, PySem.W.mg_none_of X G z_len, PySem.W.mg_none_of X G z_sorted, PySem.W.mg_none_of X G z_repr, PySem.W.mg_none_of X G z_abs, PySem.W.mg_none_of X G z_max, PySem.W.mg_none_of X G z_min, PySem.W.mg_none_of X G z_int, PySem.W.mg_none_of X G z_list, PySem.W.mg_none_of X G z_divmod, PySem.W.mg_none_of X G z_all, ⟨tP, PySem.W.mg_of X G zP⟩, ⟨tC, PySem.W.mg_of X G zC⟩⟩
  have d_want_at_most := W3.d_want_at_most (P := P) (w := w) (base := base) (fun_mk (st := swant_at_most) l1 c1 k1) (PySem.W.mg_of X G a1) T 
  have d_times_itself := W3.d_times_itself (P := P) (w := w) (base := base) (fun_mk (st := stimes_itself) l2 c2 k2) (PySem.W.mg_of X G a2) T 
  have d_near_of := W3.d_near_of (P := P) (w := w) (base := base) (fun_mk (st := snear_of) l3 c3 k3) (PySem.W.mg_of X G a3) T 
  have d_near_lists := W3.d_near_lists (P := P) (w := w) (base := base) (fun_mk (st := snear_lists) l4 c4 k4) (PySem.W.mg_of X G a4) T d_near_of
  have d_piece_of := W3.d_piece_of (P := P) (w := w) (base := base) (fun_mk (st := spiece_of) l5 c5 k5) (PySem.W.mg_of X G a5) T 
  have d_pieces_of := W3.d_pieces_of (P := P) (w := w) (base := base) (fun_mk (st := spieces_of) l6 c6 k6) (PySem.W.mg_of X G a6) T d_piece_of
  have d_pieces := W3.d_pieces (P := P) (w := w) (base := base) (fun_mk (st := spieces) l7 c7 k7) (PySem.W.mg_of X G a7) T d_pieces_of d_near_lists
  have d_is_whole_web := W3.d_is_whole_web (P := P) (w := w) (base := base) (fun_mk (st := sis_whole_web) l8 c8 k8) (PySem.W.mg_of X G a8) T d_pieces
  have d_pairs_of := W3.d_pairs_of (P := P) (w := w) (base := base) (fun_mk (st := spairs_of) l9 c9 k9) (PySem.W.mg_of X G a9) T 
  have dk_all_choices := W3.dk_all_choices (P := P) (w := w) (base := base) (fun_mk (st := sall_choices) l10 c10 k10) (PySem.W.mg_of X G a10) T d_want_at_most d_pairs_of d_times_itself
  have d_all_choices := dk_all_choices.df
  have dk_grown := W3.dk_grown (P := P) (w := w) (base := base) (fun_mk (st := sgrown) l11 c11 k11) (PySem.W.mg_of X G a11) T 
  have d_grown := dk_grown.df
  have dk_is_of_family := W3.dk_is_of_family (P := P) (w := w) (base := base) (fun_mk (st := sis_of_family) l12 c12 k12) (PySem.W.mg_of X G a12) T d_is_whole_web
  have d_is_of_family := dk_is_of_family.df
  have d_l_pot := W3.d_l_pot (P := P) (w := w) (base := base) (fun_mk (st := sl_pot) l13 c13 k13) (PySem.W.mg_of X G a13) T 
  have d_l_draw := W3.d_l_draw (P := P) (w := w) (base := base) (fun_mk (st := sl_draw) l14 c14 k14) (PySem.W.mg_of X G a14) T 
  have d_l_pick := W3.d_l_pick (P := P) (w := w) (base := base) (fun_mk (st := sl_pick) l15 c15 k15) (PySem.W.mg_of X G a15) T d_l_draw
  have d_l_near := W3.d_l_near (P := P) (w := w) (base := base) (fun_mk (st := sl_near) l16 c16 k16) (PySem.W.mg_of X G a16) T 
  have d_l_ties := W3.d_l_ties (P := P) (w := w) (base := base) (fun_mk (st := sl_ties) l17 c17 k17) (PySem.W.mg_of X G a17) T d_l_draw d_l_pick
  have d_l_hands := W3.d_l_hands (P := P) (w := w) (base := base) (fun_mk (st := sl_hands) l18 c18 k18) (PySem.W.mg_of X G a18) T d_l_draw d_l_near
  have d_l_sides := W3.d_l_sides (P := P) (w := w) (base := base) (fun_mk (st := sl_sides) l19 c19 k19) (PySem.W.mg_of X G a19) T d_l_draw d_l_near
  have d_l_web := W3.d_l_web (P := P) (w := w) (base := base) (fun_mk (st := sl_web) l20 c20 k20) (PySem.W.mg_of X G a20) T d_l_draw d_l_pick d_l_ties d_l_hands d_l_sides
  have d_l_choices := W3.d_l_choices (P := P) (w := w) (base := base) (fun_mk (st := sl_choices) l21 c21 k21) (PySem.W.mg_of X G a21) T 
  have d_l_is_whole := W3.d_l_is_whole (P := P) (w := w) (base := base) (fun_mk (st := sl_is_whole) l22 c22 k22) (PySem.W.mg_of X G a22) T 
  have d_l_mixed := W3.d_l_mixed (P := P) (w := w) (base := base) (fun_mk (st := sl_mixed) l23 c23 k23) (PySem.W.mg_of X G a23) T d_l_draw
  have d_l_orders := W3.d_l_orders (P := P) (w := w) (base := base) (fun_mk (st := sl_orders) l24 c24 k24) (PySem.W.mg_of X G a24) T d_l_draw d_l_mixed
  have d_l_grown := W3.d_l_grown (P := P) (w := w) (base := base) (fun_mk (st := sl_grown) l25 c25 k25) (PySem.W.mg_of X G a25) T 
  have d_l_spoilt := W3.d_l_spoilt (P := P) (w := w) (base := base) (fun_mk (st := sl_spoilt) l26 c26 k26) (PySem.W.mg_of X G a26) T 
  have d_l_choices_right := W3.d_l_choices_right (P := P) (w := w) (base := base) (fun_mk (st := sl_choices_right) l27 c27 k27) (PySem.W.mg_of X G a27) T d_l_draw d_l_pick d_l_orders d_l_choices d_l_spoilt d_all_choices dk_all_choices
  have d_l_grown_right := W3.d_l_grown_right (P := P) (w := w) (base := base) (fun_mk (st := sl_grown_right) l28 c28 k28) (PySem.W.mg_of X G a28) T d_l_draw d_l_pick d_l_orders d_l_web d_l_grown d_l_spoilt d_grown dk_grown
  have d_l_of_right := W3.d_l_of_right (P := P) (w := w) (base := base) (fun_mk (st := sl_of_right) l29 c29 k29) (PySem.W.mg_of X G a29) T d_l_draw d_l_mixed d_l_web d_l_is_whole d_is_of_family dk_is_of_family
  have d_l_long_right := W3.d_l_long_right (P := P) (w := w) (base := base) (fun_mk (st := sl_long_right) l30 c30 k30) (PySem.W.mg_of X G a30) T d_l_draw d_l_pick d_l_mixed d_l_is_whole d_is_of_family
  have d_law := W3.d_law (P := P) (w := w) (base := base) (fun_mk (st := slaw) l31 c31 k31) (PySem.W.mg_of X G a31) T d_l_pot d_l_long_right d_l_of_right d_l_grown_right d_l_choices_right
  exact d_law
end W3

end
section
set_option Elab.async false
set_option maxRecDepth 100000
open PySem PySem.W PyProof.Rows in
set_option maxRecDepth 100000 in
set_option maxHeartbeats 0 in
theorem PySem.Challenge.cw_webnames_k83_choices_grown_and_of_famili_holds : PySem.Challenge.rw_webnames_k83_choices_grown_and_of_famili.Holds := by
  w_on; o_law; k_head; (case hw => w_witness2)
  k_fill
  refine W3.walk_end (l := PySem.Challenge.rw_webnames_k83_choices_grown_and_of_famili) (k := 8) (ps := ["_law_script"]) (sp := fun K => W3.p_law K) rfl (by decide) rfl ⟨⟨rfl, by decide, by decide⟩, rfl⟩ rfl (fun w h Y => PySem.W.kIn_of Y) ?F (fun K H a ns _ hS => ⟨a, ns, rfl, hS, fun _ => rfl⟩)
  case F =>
    intro w mg h KX G base _ _
    refine' W3.all_mk KX G ?a1 ?l1 ?c1 ?k1 ?a2 ?l2 ?c2 ?k2 ?a3 ?l3 ?c3 ?k3 ?a4 ?l4 ?c4 ?k4 ?a5 ?l5 ?c5 ?k5 ?a6 ?l6 ?c6 ?k6 ?a7 ?l7 ?c7 ?k7 ?a8 ?l8 ?c8 ?k8 ?a9 ?l9 ?c9 ?k9 ?a10 ?l10 ?c10 ?k10 ?a11 ?l11 ?c11 ?k11 ?a12 ?l12 ?c12 ?k12 ?a13 ?l13 ?c13 ?k13 ?a14 ?l14 ?c14 ?k14 ?a15 ?l15 ?c15 ?k15 ?a16 ?l16 ?c16 ?k16 ?a17 ?l17 ?c17 ?k17 ?a18 ?l18 ?c18 ?k18 ?a19 ?l19 ?c19 ?k19 ?a20 ?l20 ?c20 ?k20 ?a21 ?l21 ?c21 ?k21 ?a22 ?l22 ?c22 ?k22 ?a23 ?l23 ?c23 ?k23 ?a24 ?l24 ?c24 ?k24 ?a25 ?l25 ?c25 ?k25 ?a26 ?l26 ?c26 ?k26 ?a27 ?l27 ?c27 ?k27 ?a28 ?l28 ?c28 ?k28 ?a29 ?l29 ?c29 ?k29 ?a30 ?l30 ?c30 ?k30 ?a31 ?l31 ?c31 ?k31 ?z_range ?z_len ?z_sorted ?z_repr ?z_abs ?z_max ?z_min ?z_int ?z_list ?z_divmod ?z_all ?zP ?zC
    (case a1 => k_is)
    (case l1 => k_is)
    (case c1 => k_is)
    (case k1 => k_is)
    (case a2 => k_is)
    (case l2 => k_is)
    (case c2 => k_is)
    (case k2 => k_is)
    (case a3 => k_is)
    (case l3 => k_is)
    (case c3 => k_is)
    (case k3 => k_is)
    (case a4 => k_is)
    (case l4 => k_is)
    (case c4 => k_is)
    (case k4 => k_is)
    (case a5 => k_is)
    (case l5 => k_is)
    (case c5 => k_is)
    (case k5 => k_is)
    (case a6 => k_is)
    (case l6 => k_is)
    (case c6 => k_is)
    (case k6 => k_is)
    (case a7 => k_is)
    (case l7 => k_is)
    (case c7 => k_is)
    (case k7 => k_is)
    (case a8 => k_is)
    (case l8 => k_is)
    (case c8 => k_is)
    (case k8 => k_is)
    (case a9 => k_is)
    (case l9 => k_is)
    (case c9 => k_is)
    (case k9 => k_is)
    (case a10 => k_is)
    (case l10 => k_is)
    (case c10 => k_is)
    (case k10 => k_is)
    (case a11 => k_is)
    (case l11 => k_is)
    (case c11 => k_is)
    (case k11 => k_is)
    (case a12 => k_is)
    (case l12 => k_is)
    (case c12 => k_is)
    (case k12 => k_is)
    (case a13 => k_is)
    (case l13 => k_is)
    (case c13 => k_is)
    (case k13 => k_is)
    (case a14 => k_is)
    (case l14 => k_is)
    (case c14 => k_is)
    (case k14 => k_is)
    (case a15 => k_is)
    (case l15 => k_is)
    (case c15 => k_is)
    (case k15 => k_is)
    (case a16 => k_is)
    (case l16 => k_is)
    (case c16 => k_is)
    (case k16 => k_is)
    (case a17 => k_is)
    (case l17 => k_is)
    (case c17 => k_is)
    (case k17 => k_is)
    (case a18 => k_is)
    (case l18 => k_is)
    (case c18 => k_is)
    (case k18 => k_is)
    (case a19 => k_is)
    (case l19 => k_is)
    (case c19 => k_is)
    (case k19 => k_is)
    (case a20 => k_is)
    (case l20 => k_is)
    (case c20 => k_is)
    (case k20 => k_is)
    (case a21 => k_is)
    (case l21 => k_is)
    (case c21 => k_is)
    (case k21 => k_is)
    (case a22 => k_is)
    (case l22 => k_is)
    (case c22 => k_is)
    (case k22 => k_is)
    (case a23 => k_is)
    (case l23 => k_is)
    (case c23 => k_is)
    (case k23 => k_is)
    (case a24 => k_is)
    (case l24 => k_is)
    (case c24 => k_is)
    (case k24 => k_is)
    (case a25 => k_is)
    (case l25 => k_is)
    (case c25 => k_is)
    (case k25 => k_is)
    (case a26 => k_is)
    (case l26 => k_is)
    (case c26 => k_is)
    (case k26 => k_is)
    (case a27 => k_is)
    (case l27 => k_is)
    (case c27 => k_is)
    (case k27 => k_is)
    (case a28 => k_is)
    (case l28 => k_is)
    (case c28 => k_is)
    (case k28 => k_is)
    (case a29 => k_is)
    (case l29 => k_is)
    (case c29 => k_is)
    (case k29 => k_is)
    (case a30 => k_is)
    (case l30 => k_is)
    (case c30 => k_is)
    (case k30 => k_is)
    (case a31 => k_is)
    (case l31 => k_is)
    (case c31 => k_is)
    (case k31 => k_is)
    (case z_range => k_is)
    (case z_len => k_is)
    (case z_sorted => k_is)
    (case z_repr => k_is)
    (case z_abs => k_is)
    (case z_max => k_is)
    (case z_min => k_is)
    (case z_int => k_is)
    (case z_list => k_is)
    (case z_divmod => k_is)
    (case z_all => k_is)
    (case zP => k_is)
    (case zC => k_is)

end
