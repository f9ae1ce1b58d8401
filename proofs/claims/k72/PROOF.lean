import PyProof.Rows.All
import Wide.All
import OpenK.AllK
import Wide.FinOn
import HandS.ForMost
import HandS.Evl
import HandS.SortInts
import HandS.Style
import KE.SortData
import PyProof.Rows.NestShow
import HandS.AnyAll
import KE.KNest
import HandS.Deep
import HandS.IsInst
import HandS.Zip
import HandS.Conv
import KE.DataFind
import KE.DataCmp
import PyProof.Rows.StrMul
import PySem.Challenge.RW_webnames_k72_whole_states_and_bounds
section
set_option Elab.async false
set_option linter.all false
set_option maxRecDepth 100000
set_option maxHeartbeats 4000000
namespace W3
open PySem PySem.Spec PyProof.Rows L2
open Evl (Ex)

/-! ### data on the abstract heap -/
mutual
/-- the value v reads as the datum, its lists and tuples tracked -/
def Dt (H : Hp) : PyData → V → Prop
  | .none, v => v = .non
  | .bool b, v => v = .bl b
  | .int i, v => v = .int i
  | .str x, v => v = .str x
  | .list ds, v => ∃ a xs, v = .ref a ∧ H a = some (.lst xs) ∧ Dts H ds xs
  | .tuple ds, v => ∃ a xs, v = .ref a ∧ H a = some (.tup xs) ∧ Dts H ds xs
  | .dict _, _ => False
def Dts (H : Hp) : List PyData → List V → Prop
  | [], xs => xs = []
  | d :: ds, xs => ∃ x r, xs = x :: r ∧ Dt H d x ∧ Dts H ds r
end

mutual
theorem Dt.mono {H G : Hp} (e : Ex H G) : ∀ {d : PyData} {v : V}, Dt H d v → Dt G d v
  | .none, _, h => h
  | .bool _, _, h => h
  | .int _, _, h => h
  | .str _, _, h => h
  | .list _, _, h => by
    obtain ⟨a, xs, rfl, ha, hx⟩ := h
    exact ⟨a, xs, rfl, e _ _ ha, Dts.mono e hx⟩
  | .tuple _, _, h => by
    obtain ⟨a, xs, rfl, ha, hx⟩ := h
    exact ⟨a, xs, rfl, e _ _ ha, Dts.mono e hx⟩
  | .dict _, _, h => h.elim
theorem Dts.mono {H G : Hp} (e : Ex H G) : ∀ {ds : List PyData} {xs : List V}, Dts H ds xs → Dts G ds xs
  | [], _, h => h
  | _ :: _, _, h => by
    obtain ⟨x, r, rfl, hx, hr⟩ := h
    exact ⟨x, r, rfl, Dt.mono e hx, Dts.mono e hr⟩
end
mutual
theorem Dt.dp {K : PySem.W.Frag} {H : Hp} : ∀ {d : PyData} {v : V}, Dt H d v → Dp K H v d
  | .none, _, h => by cases h; exact .non
  | .bool b, _, h => by cases h; exact .bl b
  | .int i, _, h => by cases h; exact .int i
  | .str x, _, h => by cases h; exact .str x
  | .list _, _, h => by
    obtain ⟨a, xs, rfl, ha, hx⟩ := h
    exact .lst (SqL.of ha) (Dts.dp hx)
  | .tuple _, _, h => by
    obtain ⟨a, xs, rfl, ha, hx⟩ := h
    exact .tup (SqT.of ha) (Dts.dp hx)
  | .dict _, _, h => h.elim
theorem Dts.dp {K : PySem.W.Frag} {H : Hp} : ∀ {ds : List PyData} {xs : List V}, Dts H ds xs → DpAll K H xs ds
  | [], _, h => by cases h; exact .nil
  | _ :: _, _, h => by
    obtain ⟨x, r, rfl, hx, hr⟩ := h
    exact .cons (Dt.dp hx) (Dts.dp hr)
end
theorem Dts.length {H : Hp} : ∀ {ds : List PyData} {xs : List V}, Dts H ds xs → xs.length = ds.length
  | [], _, h => by cases h; rfl
  | _ :: _, _, h => by
    obtain ⟨x, r, rfl, _, hr⟩ := h
    simp [Dts.length hr]
theorem Dts.get {H : Hp} : ∀ {ds : List PyData} {xs : List V} {i : Nat} {d : PyData}, Dts H ds xs → ds[i]? = some d → ∃ x, xs[i]? = some x ∧ Dt H d x
  | [], _, _, _, _, e => by simp at e
  | d :: _, _, 0, _, h, e => by
    obtain ⟨x, r, rfl, hx, _⟩ := h
    simp at e; subst e
    exact ⟨x, rfl, hx⟩
  | _ :: ds, _, i + 1, _, h, e => by
    obtain ⟨x, r, rfl, _, hr⟩ := h
    exact Dts.get (i := i) hr (by simpa using e)
theorem Dts.got {H : Hp} : ∀ {ds : List PyData} {xs : List V} {i : Nat} {x : V}, Dts H ds xs → xs[i]? = some x → ∃ d, ds[i]? = some d ∧ Dt H d x
  | [], _, _, _, h, e => by cases h; simp at e
  | d :: _, _, 0, _, h, e => by
    obtain ⟨x, r, rfl, hx, _⟩ := h
    simp at e; subst e
    exact ⟨d, rfl, hx⟩
  | _ :: ds, _, i + 1, _, h, e => by
    obtain ⟨x, r, rfl, _, hr⟩ := h
    exact Dts.got (i := i) hr (by simpa using e)
theorem Dts.snoc {H : Hp} {d : PyData} {x : V} (hd : Dt H d x) : ∀ {ds : List PyData} {xs : List V}, Dts H ds xs → Dts H (ds ++ [d]) (xs ++ [x])
  | [], _, h => by cases h; exact ⟨x, [], rfl, hd, rfl⟩
  | _ :: _, _, h => by
    obtain ⟨y, r, rfl, hy, hr⟩ := h
    exact ⟨y, r ++ [x], rfl, hy, Dts.snoc hd hr⟩
theorem Dts.append {H : Hp} {es : List PyData} {ys : List V} (he : Dts H es ys) : ∀ {ds : List PyData} {xs : List V}, Dts H ds xs → Dts H (ds ++ es) (xs ++ ys)
  | [], _, h => by cases h; exact he
  | _ :: _, _, h => by
    obtain ⟨y, r, rfl, hy, hr⟩ := h
    exact ⟨y, r ++ ys, rfl, hy, Dts.append he hr⟩
theorem Dts.take {H : Hp} (n : Nat) : ∀ {ds : List PyData} {xs : List V}, Dts H ds xs → Dts H (ds.take n) (xs.take n) := by
  induction n with
  | zero => intro ds xs _; exact rfl
  | succ n ih =>
    intro ds xs h
    cases ds with
    | nil => cases h; exact rfl
    | cons d ds =>
      obtain ⟨y, r, rfl, hy, hr⟩ := h
      exact ⟨y, r.take n, rfl, hy, ih hr⟩
theorem Dts.drop {H : Hp} (n : Nat) : ∀ {ds : List PyData} {xs : List V}, Dts H ds xs → Dts H (ds.drop n) (xs.drop n) := by
  induction n with
  | zero => intro ds xs h; exact h
  | succ n ih =>
    intro ds xs h
    cases ds with
    | nil => cases h; exact rfl
    | cons d ds =>
      obtain ⟨y, r, rfl, hy, hr⟩ := h
      exact ih hr
theorem Dts.erase {H : Hp} (n : Nat) : ∀ {ds : List PyData} {xs : List V}, Dts H ds xs → Dts H (ds.eraseIdx n) (xs.eraseIdx n) := by
  induction n with
  | zero =>
    intro ds xs h
    cases ds with
    | nil => cases h; exact rfl
    | cons d ds =>
      obtain ⟨y, r, rfl, hy, hr⟩ := h
      exact hr
  | succ n ih =>
    intro ds xs h
    cases ds with
    | nil => cases h; exact rfl
    | cons d ds =>
      obtain ⟨y, r, rfl, hy, hr⟩ := h
      exact ⟨y, r.eraseIdx n, rfl, hy, ih hr⟩
theorem Dts.put {H : Hp} {d : PyData} {x : V} (hd : Dt H d x) : ∀ (n : Nat) {ds : List PyData} {xs : List V}, Dts H ds xs → Dts H (ds.set n d) (xs.set n x) := by
  intro n
  induction n with
  | zero =>
    intro ds xs h
    cases ds with
    | nil => cases h; exact rfl
    | cons e ds =>
      obtain ⟨y, r, rfl, hy, hr⟩ := h
      exact ⟨x, r, rfl, hd, hr⟩
  | succ n ih =>
    intro ds xs h
    cases ds with
    | nil => cases h; exact rfl
    | cons e ds =>
      obtain ⟨y, r, rfl, hy, hr⟩ := h
      exact ⟨y, r.set n x, rfl, hy, ih hr⟩
theorem Dts.rev {H : Hp} : ∀ {ds : List PyData} {xs : List V}, Dts H ds xs → Dts H ds.reverse xs.reverse
  | [], _, h => by cases h; exact rfl
  | d :: ds, _, h => by
    obtain ⟨y, r, rfl, hy, hr⟩ := h
    rw [List.reverse_cons, List.reverse_cons]
    exact Dts.snoc hy (Dts.rev hr)
theorem Dts.ints {H : Hp} : ∀ {ns : List Int} {xs : List V}, Dts H (ns.map .int) xs ↔ xs = ns.map V.int
  | [], _ => Iff.rfl
  | n :: ns, xs => by
    constructor
    · rintro ⟨x, r, rfl, hx, hr⟩
      cases hx
      rw [(Dts.ints (ns := ns)).mp hr]; rfl
    · rintro rfl
      exact ⟨_, _, rfl, rfl, (Dts.ints (ns := ns)).mpr rfl⟩
theorem Dts.mk2 {H : Hp} {a b : PyData} {x y : V} (h1 : Dt H a x) (h2 : Dt H b y) : Dts H [a, b] [x, y] := ⟨_, _, rfl, h1, _, _, rfl, h2, rfl⟩
theorem Dts.mk1 {H : Hp} {a : PyData} {x : V} (h1 : Dt H a x) : Dts H [a] [x] := ⟨_, _, rfl, h1, rfl⟩

/-! ### one list is out of sight -/
def rm (D : Addr) (H : Hp) : Hp := fun b => if b = D then none else H b
theorem rm_same {D : Addr} {H : Hp} : rm D H D = none := by unfold rm; rw [if_pos rfl]
theorem rm_ne {D b : Addr} {H : Hp} (h : b ≠ D) : rm D H b = H b := by unfold rm; rw [if_neg h]
theorem of_rm {D b : Addr} {H : Hp} {o : HO} (h : rm D H b = some o) : b ≠ D ∧ H b = some o := by
  by_cases e : b = D
  · subst e; rw [rm_same] at h; cases h
  · rw [rm_ne e] at h; exact ⟨e, h⟩
theorem rm_none {D b : Addr} {H : Hp} (h : H b = none) : rm D H b = none := by
  by_cases e : b = D
  · subst e; exact rm_same
  · rw [rm_ne e]; exact h
theorem rm_upd {D : Addr} {H : Hp} {o : HO} (h : H D = none) : rm D (upd H D o) = H := by
  funext b
  by_cases e : b = D
  · subst e; rw [rm_same, h]
  · rw [rm_ne e, upd_ne e]
theorem upd_rm {D : Addr} {H : Hp} {o : HO} (h : H D = some o) : upd (rm D H) D o = H := by
  funext b
  by_cases e : b = D
  · subst e; rw [upd_same, h]
  · rw [upd_ne e, rm_ne e]
theorem ex_rm {D : Addr} {H : Hp} : Ex (rm D H) H := fun _ _ h => (of_rm h).2
theorem ex_upd {D : Addr} {H : Hp} {o : HO} (h : H D = none) : Ex H (upd H D o) := Ex.new h

section
variable {X : Cx} {pins : List (Addr × Obj)} {σ : L2.St} {H : Hp} {s : Shared}
theorem fs_free (I : Inv X pins σ H s) {b : Addr} (hb : b ∈ X.fs) : H b = none := by
  obtain ⟨_, o, ho, _⟩ := I.ok.funs.mem hb
  exact I.base.free b o ho (I.ok.frf b hb) fun z => I.ok.exfs b z hb
theorem hide {D : Addr} {xs : List V} (I : Inv X pins σ H s) (hD : H D = some (.lst xs)) :
    ∃ ob : Obj, Inv X (pins ++ [(D, ob)]) σ (rm D H) s ∧ ∀ {σ' : L2.St} {H' : Hp} {s' : Shared}, Inv X (pins ++ [(D, ob)]) σ' H' s' → H' D = none ∧ Inv X pins σ' (upd H' D (.lst xs)) s' := by
  obtain ⟨hl, its, n, rv, hob⟩ := I.hok D _ hD
  have ne : ∀ {b : Addr}, H b = none → b ≠ D := fun {b} h e => by rw [e, hD] at h; cases h
  refine ⟨({ cls := .type "list", data := .seq its.toArray n } : Obj), ?_, fun {σ' H' s'} J => ?_⟩
  refine ⟨I.ok, I.os, I.bare, ⟨I.base.keep, I.base.slot, fun b o q n hx => rm_none (I.base.free b o q n hx), I.base.there, fun b ys q => ?_, fun b o ys q => ?_, fun b ps q => ?_⟩,
    I.loc, I.cell, rm_none I.free, fun x c e => rm_none (I.freeC x c e), fun p hp => ?_, fun a o e => ?_, I.len⟩
  · have z := I.base.tups b ys q
    rw [rm_ne (fun e => by rw [e, hD] at z; cases z)]; exact z
  · have z := I.base.frzs b o ys q
    rw [rm_ne (fun e => by rw [e, hD] at z; cases z)]; exact z
  · obtain ⟨m, z⟩ := I.base.tbls b ps q
    exact ⟨m, by rw [rm_ne (fun e => by rw [e, hD] at z; cases z)]; exact z⟩
  · rcases List.mem_append.mp hp with hp | hp
    · obtain ⟨e, n', l, f, c⟩ := I.pin p (List.mem_append_left _ hp)
      exact ⟨e, rm_none n', l, f, c⟩
    · rcases List.mem_append.mp hp with hp | hp
      · obtain ⟨e, n', l, f, c⟩ := I.pin p (List.mem_append_right _ hp)
        exact ⟨e, rm_none n', l, f, c⟩
      · have e := List.mem_singleton.mp hp
        subst e
        exact ⟨hob, rm_same, fun z => ne I.free z.symm, fun z => ne (fs_free I z) rfl, fun v z => by cases z⟩
  · obtain ⟨_, e'⟩ := of_rm e
    exact (I.hok a o e').stay (fun _ _ _ q => q) (fun b q => by rw [rm_ne (fun e => by rw [e, hD] at q; cases q)]; exact q) fun b ys q => by rw [rm_ne (fun e => by rw [e, hD] at q; cases q)]; exact q
  · have pD := J.pin (D, _) (List.mem_append_right _ (List.mem_append_right _ (List.mem_singleton.mpr rfl)))
    have nD : ∀ {b : Addr} {o : HO}, H' b = some o → b ≠ D := fun {b o} h e => by rw [e, pD.2.1] at h; cases h
    refine ⟨pD.2.1, ⟨J.ok, J.os, J.bare, ⟨J.base.keep, J.base.slot, fun b o q n hx => ?_, J.base.there, fun b ys q => ?_, fun b o ys q => ?_, fun b ps q => ?_⟩,
      J.loc, J.cell, ?_, fun x c e => ?_, fun p hp => ?_, fun a o e => ?_, J.len⟩⟩
    · rw [upd_ne (ne (I.base.free b o q n hx))]; exact J.base.free b o q n hx
    · have z := J.base.tups b ys q
      rw [upd_ne (nD z)]; exact z
    · have z := J.base.frzs b o ys q
      rw [upd_ne (nD z)]; exact z
    · obtain ⟨m, z⟩ := J.base.tbls b ps q
      exact ⟨m, by rw [upd_ne (nD z)]; exact z⟩
    · rw [upd_ne (ne I.free)]; exact J.free
    · rw [upd_ne (ne (I.freeC x c e))]; exact J.freeC x c e
    · have hp' : p ∈ X.pn ++ (pins ++ [(D, ({ cls := .type "list", data := .seq its.toArray n } : Obj))]) := by
        rw [← List.append_assoc]; exact List.mem_append_left _ hp
      obtain ⟨e, n', l, f, c⟩ := J.pin p hp'
      exact ⟨e, by rw [upd_ne (ne (I.pin p hp).2.1)]; exact n', l, f, c⟩
    · by_cases ha : a = D
      · subst ha
        rw [upd_same] at e; cases e
        exact ⟨hl, its, n, rv, pD.1⟩
      · rw [upd_ne ha] at e
        exact (J.hok a o e).stay (fun _ _ _ q => q) (fun b q => by rw [upd_ne (nD q)]; exact q) fun b ys q => by rw [upd_ne (nD q)]; exact q
end
section
variable {X : Cx}
/-- the list at D is hidden while e runs; Q0: what is shown of its end -/
def tFr (t : TE) : TE := fun σ H Q => ∃ (D : Addr) (xs : List V) (Q0 : VK), H D = some (.lst xs) ∧ t σ (rm D H) Q0 ∧ ∀ v H', Q0 v H' → H' D = none → Q v (upd H' D (.lst xs))
theorem pe_fr {e : Expr} {t : TE} (h : PE X e t) : PE X e (tFr t) := by
  refine ⟨fun pins s σ H Q I h0 => ?_⟩
  obtain ⟨D, xs, Q0, hD, q, k⟩ := h0
  obtain ⟨ob, J, back⟩ := hide I hD
  refine thn (h.run _ s σ (rm D H) _ J q) fun v s1 ⟨x, H1, I1, r1, q1⟩ => ?_
  obtain ⟨n1, I2⟩ := back I1
  exact ⟨x, _, I2, r1, k x H1 q1 n1⟩
def tFrT (t : TT) : TT := fun σ H Q => ∃ (D : Addr) (xs : List V) (Q0 : Bool → Hp → Prop), H D = some (.lst xs) ∧ t σ (rm D H) Q0 ∧ ∀ b H', Q0 b H' → H' D = none → Q b (upd H' D (.lst xs))
theorem pts_fr {ifs : List Expr} {t : TT} (h : PTs X ifs t) : PTs X ifs (tFrT t) := by
  refine ⟨fun pins s σ H Q I h0 => ?_⟩
  obtain ⟨D, xs, Q0, hD, q, k⟩ := h0
  obtain ⟨ob, J, back⟩ := hide I hD
  refine thn (h.run _ s σ (rm D H) _ J q) fun v s1 ⟨H1, I1, q1⟩ => ?_
  obtain ⟨n1, I2⟩ := back I1
  exact ⟨_, I2, k v H1 q1 n1⟩
/-- an expression, by what is shown of its end -/
def tM (t : TE) : TE := fun σ H Q => ∃ Q0 : VK, t σ H Q0 ∧ ∀ v H', Q0 v H' → Q v H'
theorem pe_m {e : Expr} {t : TE} (h : PE X e t) : PE X e (tM t) := by
  refine ⟨fun pins s σ H Q I ⟨Q0, q, k⟩ => thn (h.run pins s σ H _ I q) fun v s1 ⟨x, H1, I1, r1, q1⟩ => ⟨x, H1, I1, r1, k x H1 q1⟩⟩
def tMT (t : TT) : TT := fun σ H Q => ∃ Q0 : Bool → Hp → Prop, t σ H Q0 ∧ ∀ b H', Q0 b H' → Q b H'
theorem pt_m {e : Expr} {t : TT} (h : PT X e t) : PT X e (tMT t) := by
  refine ⟨fun pins s σ H Q I ⟨Q0, q, k⟩ => thn (h.run pins s σ H _ I q) fun v s1 ⟨H1, I1, q1⟩ => ⟨H1, I1, k v H1 q1⟩⟩
end
end W3

end
section
set_option Elab.async false
set_option linter.all false
set_option maxRecDepth 100000
set_option maxHeartbeats 4000000
namespace W3
open PySem PySem.Spec PyProof.Rows L2
open Evl (Ex)

/-! ### a pot: a list of two numbers, known to be one, not which -/
abbrev potM : Int := 2147483587
def PotFact (p : Addr) (h : Heap) : Prop := ∃ (x y : Int) (t u : Tok) (n : Nat), 0 ≤ y ∧ y < potM ∧ h.get? p = some { cls := .type "list", data := .seq #[.int x t, .int y u] n }
def PotO (p : Addr) : HO := .ext (PotFact p)
section
variable {P : Program} {w : World} {H : Hp} {h : Heap} {p : Addr}
theorem pot_ok (q : PotFact p h) : ObjOk P w H h p (PotO p) := by
  refine ⟨q, ?_, ?_⟩
  · obtain ⟨x, y, t, u, n, _, _, e⟩ := q
    exact ⟨_, e⟩
  · rintro h1 h2 ⟨x, y, t, u, n, a, b, e⟩ k
    exact ⟨x, y, t, u, n, a, b, k _ e⟩
end
section
variable {X : Cx}
/-- a list of two numbers just made becomes a pot -/
def tSeal (t : TE) : TE := fun σ H Q => t σ H fun v H1 => ∃ (p : Addr) (x y : Int), v = .ref p ∧ H1 p = some (.lst [.int x, .int y]) ∧ 0 ≤ y ∧ y < potM ∧ Q v (upd H1 p (PotO p))
theorem seal_inv {pins : List (Addr × Obj)} {σ : L2.St} {H : Hp} {s : Shared} {p : Addr} {x y : Int} (I : Inv X pins σ H s) (hp : H p = some (.lst [.int x, .int y])) (h0 : 0 ≤ y) (h1 : y < potM) : Inv X pins σ (upd H p (PotO p)) s := by
  obtain ⟨_, its, n, rv, e⟩ := I.hok p _ hp
  cases rv with
  | cons r1 r =>
    cases r with
    | cons r2 r =>
      cases r
      obtain ⟨t, rfl⟩ := r1
      obtain ⟨u, rfl⟩ := r2
      exact I.write (e := p) (t' := s.toks) (by rw [hp]; trivial) (.inl rfl) (fun _ _ _ q => q) ⟨_, e⟩ (pot_ok ⟨x, y, t, u, n, h0, h1, e⟩)
theorem pe_seal {e : Expr} {t : TE} (h : PE X e t) : PE X e (tSeal t) := by
  refine ⟨fun pins s σ H Q I h0 => thn (h.run pins s σ H _ I h0) fun v s1 ⟨x, H1, I1, r1, p, a, b, e1, hp, g0, g1, q⟩ => ?_⟩
  exact ⟨x, _, seal_inv I1 hp g0 g1, r1, q⟩
/-- a body that opens the pot in slot i: within, it is a list of two numbers; where it returns, it is closed again -/
def tOpen (t : TS) : TS := fun D σ H => ∃ p, H p = some (PotO p) ∧ ∀ x y : Int, 0 ≤ y → y < potM →
  t { nx := fun _ _ => False, rt := fun v H' => ∃ a b : Int, H' p = some (.lst [.int a, .int b]) ∧ 0 ≤ b ∧ b < potM ∧ D.rt v (upd H' p (PotO p)) } σ (upd H p (.lst [.int x, .int y]))
theorem pss_open {b : List Stmt} {t : TS} (h : PSs X b t) : PSs X b (tOpen t) := by
  refine ⟨fun pins s σ H D I h0 => ?_⟩
  obtain ⟨p, hp, q⟩ := h0
  obtain ⟨⟨x, y, t1, t2, n, g0, g1, e⟩, _, _⟩ := I.hok p _ hp
  have J : Inv X pins σ (upd H p (.lst [.int x, .int y])) s :=
    I.write (e := p) (t' := s.toks) (by rw [hp]; trivial) (.inl rfl) (fun _ _ _ q => q) ⟨_, e⟩ ⟨(by show 2 ≤ sizeLine; decide), [.int x t1, .int y t2], n, .cons ⟨_, rfl⟩ (.cons ⟨_, rfl⟩ .nil), e⟩
  refine thn (h.run pins s σ _ _ J (q x y g0 g1)) fun f s1 z => ?_
  cases f with
  | next => obtain ⟨_, _, _, z⟩ := z; exact z.elim
  | brk => obtain ⟨_, _, _, z⟩ := z; exact z.elim
  | cont => obtain ⟨_, _, _, z⟩ := z; exact z.elim
  | ret u =>
    obtain ⟨v, σ', H', I', r, a, b, hp', g0', g1', k⟩ := z
    exact ⟨v, σ', _, seal_inv I' hp' g0' g1', r, k⟩
end

/-! ### sorted(xs) of data -/
section
variable {X : Cx}
open PySem.W in
def rSortD : List V → Hp → VK → Prop := fun vs H Q => ∃ (a : Addr) (xs : List V) (ds : List PyData), vs = [.ref a] ∧ H a = some (.lst xs) ∧ Dts H ds xs ∧ AllAlike ds ∧ Sortable ds ∧ (∀ d ∈ ds, d.depth ≤ 32) ∧
  ∀ (p : Addr) (ys : List V), H p = none → ys.Perm xs → Dts H (ds.mergeSort (dataLe false id)) ys → Q (.ref p) (upd H p (.lst ys))
theorem each_of_dts {H : Hp} : ∀ {ds : List PyData} {xs : List V} {us : List Value}, Dts H ds xs → Vals xs us → PySem.W.EachIs (fun u (b : PyData × V) => RelV b.2 u ∧ Dt H b.1 b.2) us (ds.zip xs)
  | [], _, _, h, r => by cases h; cases r; exact .nil
  | d :: ds, _, _, h, r => by
    obtain ⟨x, xs, rfl, hx, hr⟩ := h
    cases r with
    | cons r1 r2 => exact .cons ⟨r1, hx⟩ (each_of_dts hr r2)
theorem dts_of_each {H : Hp} : ∀ {us : List Value} {bs : List (PyData × V)}, PySem.W.EachIs (fun u (b : PyData × V) => RelV b.2 u ∧ Dt H b.1 b.2) us bs → Dts H (bs.map (·.1)) (bs.map (·.2)) ∧ Vals (bs.map (·.2)) us
  | _, _, .nil => ⟨rfl, .nil⟩
  | _, _, .cons h t => let ⟨a, b⟩ := dts_of_each t; ⟨⟨_, _, rfl, h.2, a⟩, .cons h.1 b⟩
theorem zip_fst {α β : Type} : ∀ {l : List α} {m : List β}, l.length = m.length → (l.zip m).map (·.1) = l
  | [], _, _ => rfl
  | a :: l, [], h => by simp at h
  | a :: l, b :: m, h => by simp [zip_fst (l := l) (m := m) (by simpa using h)]
theorem zip_snd {α β : Type} : ∀ {l : List α} {m : List β}, l.length = m.length → (l.zip m).map (·.2) = m
  | [], [], _ => rfl
  | [], b :: m, h => by simp at h
  | a :: l, [], h => by simp at h
  | a :: l, b :: m, h => by simp [zip_snd (l := l) (m := m) (by simpa using h)]
open PySem.W in
theorem cr_sortD (hu : X.A.units + 64 < cLine) : CallR X (.builtin "sorted") rSortD := by
  intro pins s σ H vs us Q I r h
  obtain ⟨a, xs, ds, rfl, ha, hd, hal, hk, hdep, q⟩ := h
  obtain ⟨its, rv, hl, hz⟩ := I.list (SqL.of ha)
  rw [Vals.ref1 r]
  have len : ds.length = xs.length := hd.length.symm
  have e1 := each_of_dts hd rv
  have er : EachIs (fun u (b : PyData × V) => ∃ as, Reads s.heap u b.1 as) its (ds.zip xs) := e1.mono fun u b ⟨r1, d1⟩ => Dp.reads I b.1 b.2 u (Dt.dp d1) r1
  have mf : (ds.zip xs).map (·.1) = ds := zip_fst len
  have ms : (ds.zip xs).map (·.2) = xs := zip_snd len
  refine sorted_data (enc := fun b : PyData × V => b.1) hl.isList e1 er (by rw [mf]; exact hal) (by rw [mf]; exact hk) (by simp only [List.length_zip]; omega) (fun b hb => ?_) fun out ho eo => ?_
  · have := hdep b.1 (by rw [← mf]; exact List.mem_map_of_mem hb)
    omega
  · obtain ⟨d2, v2⟩ := dts_of_each eo
    have mp : ((ds.zip xs).mergeSort (dataLe false fun b : PyData × V => b.1)).Perm (ds.zip xs) := List.mergeSort_perm _ _
    have p2 := mp.map (·.2)
    rw [ms] at p2
    have e3 : ((ds.zip xs).mergeSort (dataLe false fun b : PyData × V => b.1)).map (·.1) = ds.mergeSort (dataLe false id) := by
      have z := sort_maps (r := dataLe false fun b : PyData × V => b.1) (s := dataLe false (id : PyData → PyData)) (fun b : PyData × V => b.1) (l := ds.zip xs) fun _ _ _ _ => rfl
      rw [mf] at z
      exact z
    rw [e3] at d2
    obtain ⟨ep, he'⟩ := PyProof.Rows.sortedAll_at s.heap its out.toArray
    have hlen : (((ds.zip xs).mergeSort (dataLe false fun b : PyData × V => b.1)).map (·.2)).length ≤ sizeLine := by
      rw [p2.length_eq]; exact hz
    refine ⟨.ref (s.heap.objs.size + 1), upd H (s.heap.objs.size + 1) (.lst (((ds.zip xs).mergeSort (dataLe false fun b : PyData × V => b.1)).map (·.2))), I.laid (t' := s.toks) (fun _ _ => PyProof.Rows.sortedAll_old) (Nat.le_succ _) ⟨hlen, out, ep, v2, he'⟩, rfl, q _ _ (I.hok.fresh (Nat.le_succ _)) p2 d2⟩
end

/-! ### repr(x) of data -/
section
variable {X : Cx}
def Dt.fine (d : PyData) : Prop := d.showable = true ∧ d.hasDict = false ∧ d.depth ≤ 32 ∧ d.shown.length ≤ sizeLine
def rReprD : List V → Hp → VK → Prop := fun vs H Q => ∃ (x : V) (d : PyData), vs = [x] ∧ Dt H d x ∧ isDisplay d = true ∧ Dt.fine d ∧ Q (.str d.shown) H
theorem cr_reprD (hg : X.A.guards = some []) (hu : X.A.units + 64 < cLine) : CallR X (.builtin "repr") rReprD := by
  intro pins s σ H vs us Q I r h
  obtain ⟨x, d, rfl, hd, hi, ⟨f1, f2, f3, f4⟩, q⟩ := h
  cases r with
  | cons r rr =>
    cases rr
    obtain ⟨as, rd⟩ := Dp.reads I d x _ (Dt.dp hd) r
    obtain ⟨a, rfl⟩ := isRef_of_reads rd hi
    refine repr_of_reads' rd f1 (PyData.noDict_hsm f2) hg (by omega) (fun _ _ e => e) (fun h' u tk hk => ?_) f4
    exact ⟨.str d.shown, H, I.kept (t' := tk) hk, ⟨_, rfl⟩, q⟩
def rReprB : List V → Hp → VK → Prop := fun vs H Q => ∃ b : Bool, vs = [.bl b] ∧ Q (.str (if b then "True" else "False")) H
theorem cr_reprB : CallR X (.builtin "repr") rReprB := by
  intro pins s σ H vs us Q I r h
  obtain ⟨b, rfl, q⟩ := h
  cases r with
  | cons r rr =>
    cases rr
    cases r
    exact PySem.P.repr_of_bool ⟨.str (if b then "True" else "False"), H, I.tok _, ⟨_, rfl⟩, q⟩
end
end W3

end
section
set_option Elab.async false
set_option linter.all false
set_option maxRecDepth 100000
set_option maxHeartbeats 4000000
namespace W3
open PySem PySem.Spec PyProof.Rows L2
open Evl (Ex)

/-! ### defs of the module, called where no repr runs -/
structure RG (k : Nat) (A : Around) : Prop where
  room : Room k A
  quiet : A.guards = some []
theorem RG.less {j k : Nat} {A : Around} (r : RG k A) (h : j ≤ k) : RG j A := ⟨r.room.mono h, r.quiet⟩
theorem RG.u64 {k : Nat} {A : Around} (r : RG k A) : A.units + 64 < cLine := r.room.units
abbrev Sp3 := List V → Hp → VK → Prop

/-- the module's def of this name keeps its promise, by at most k calls one in another -/
structure Df (P : Program) (w : World) (K : PySem.W.Frag) (mg : Str → Option Value) (base : Heap) (k : Nat) (x : Str) (ps : List Str) (sp : Sp3) : Prop where
  len : ∀ vs H Q, sp vs H Q → vs.length = ps.length
  ex : ∃ (f : Addr) (fd : FuncData), mg x = some (.ref f) ∧ PySem.W.keepIn K (.ref f) = true ∧ (∀ args us, bindArgs fd args = pure (ps.zip us) → us.length = ps.length →
      ∀ (A : Around) (outer : List Env) (s : Shared) (H : Hp) (vs : List V) (Q : VK), RG k A → Env0 P w K mg base A outer s H → Vals vs us → sp vs H Q →
        codeAny (model P w) A (.call (.ref f) args) (CR CX0 outer P w H s Q E0) s) ∧
    (∀ us : List Value, us.length = ps.length → bindArgs fd ⟨us, []⟩ = pure (ps.zip us)) ∧
    ∃ (st : Stmt) (kV doc pm : Value) (an : Option Addr) (cdv ct : Value), fd = PySem.W.fnOf x x (defArgs st) (defBody st) (defScope st) .none kV doc pm an cdv ct
section
variable {P : Program} {w : World} {K : PySem.W.Frag} {mg : Str → Option Value} {base : Heap}
theorem Df.more {j k : Nat} {x : Str} {ps : List Str} {sp : Sp3} (d : Df P w K mg base j x ps sp) (h : j ≤ k) : Df P w K mg base k x ps sp := by
  obtain ⟨f, fd, e1, e2, e3, e4⟩ := d.ex
  exact ⟨d.len, f, fd, e1, e2, fun args us hb hl A outer s H vs Q r => e3 args us hb hl A outer s H vs Q (r.less h), e4⟩

/-- a def by its body -/
theorem Df.body {x : Str} {st : Stmt} {f : Addr} {fd : FuncData} {N ps : List Str} {k : Nat} {sp : Sp3} (F : Fun K x x st f fd) (hm : mg x = some (.ref f))
    (hb : ∀ (kV doc pm : Value) (an : Option Addr) (cdv ct : Value) (us : List Value), us.length = ps.length → bindArgs (PySem.W.fnOf x x (defArgs st) (defBody st) (defScope st) .none kV doc pm an cdv ct) ⟨us, []⟩ = pure (ps.zip us))
    (S : FnScope N ps (defScope st)) (len : ∀ vs H Q, sp vs H Q → vs.length = ps.length)
    (go : ∀ (cdv : Value) (A : Around) (outer : List Env) (s : Shared) (H : Hp) (vs : List V) (Q : VK), RG k (A.deeper (envOfC x (defScope st) s.heap.objs.size f cdv)) → sp vs H Q →
      ∃ t, PSs (cxOf CX0 P w K mg base N x (defScope st) f cdv A outer s H E0).nox (defBody st) t ∧ t { nx := fun _ H' => Q .non H', rt := Q } (start N vs) H) : Df P w K mg base (k + 1) x ps sp := by
  obtain ⟨oc, od, kV, doc, pm, an, cdv, ct, osl, rfl, lk, hcd⟩ := F.ex
  refine ⟨len, f, _, hm, F.kp, fun args us hbi hlu A outer s H vs Q rg e0 rv hsp => ?_, hb kV doc pm an cdv ct, st, kV, doc, pm, an, cdv, ct, rfl⟩
  have inK : K.In s.heap := e0.mod.kin.keeps fun b o e => (e0.bs b o e).1
  have noLim : s.heap.NoLimit := e0.mod.nolimit.keeps fun b o e => (e0.bs b o e).1
  have kinds : ∀ y ∈ ps.zip us, (defScope st).names.lookup y.1 = some .local ∨
      ((defScope st).names.lookup y.1 = some .cell ∧ ((cellsFrom (s.heap.objs.size + 1) (defScope st).names []).lookup y.1).isSome = true) := by
    rintro ⟨n, v⟩ hy
    refine (S.par n (List.of_mem_zip hy).1).imp id fun q => ⟨q, ?_⟩
    exact PySem.W.cellsFrom_some _ _ _ (.inl q)
  refine codeAny_call_function rg.room.depth (inK _ _ lk) rfl S.co S.gen rfl
    (PySem.W.codeRec_of inK hcd) ((BindsTo.of_eq hbi) _ _ _ _ ?_)
  refine wpAny_newFunctionEnv_cells S.kind kinds fun env he s1 ic => ?_
  subst he
  refine ⟨noLim.keeps ic.toInCall.keep, codeAny_func ?_⟩
  have rk : ∀ env, RG k (A.deeper env) := fun env => ⟨rg.room.deeper env, rg.quiet⟩
  obtain ⟨t, ht, hq⟩ := go cdv A outer s H vs Q (rk _) hsp
  have J : Inv (cxOf CX0 P w K mg base N x (defScope st) f cdv A outer s H E0) [] (start N vs) H s1 := inv_start S rg.room.hd e0 (len _ _ _ hsp) rv ic
  refine wpAny_mono (ht.nox.run [] s1 _ H _ J hq) (fun fl s' hs => ?_) fun e s' hs => hs
  cases fl with
  | brk => obtain ⟨_, _, _, z⟩ := hs; exact z.elim
  | cont => obtain ⟨_, _, _, z⟩ := hs; exact z.elim
  | next =>
    obtain ⟨σ', H', J', q⟩ := hs
    exact ⟨.non, H', J'.os, J'.bare, J'.base, J'.hok, rfl, q⟩
  | ret u =>
    obtain ⟨v, σ', H', J', rv', q⟩ := hs
    exact ⟨v, H', J'.os, J'.bare, J'.base, J'.hok, rv', q⟩
end

section
variable {X : Cx} {k : Nat} {x : Str} {ps : List Str} {sp : Sp3} {p pos : Pos} {e : Expr} {es : List Expr} {t : TA}
theorem after_call {pins : List (Addr × Obj)} {σ : L2.St} {H : Hp} {s : Shared} {Q : VK} {f : Addr} {args : Args} (I : Inv X pins σ H s)
    (h : codeAny (model X.prog X.w) X.A (.call (.ref f) args) (CR CX0 X.stack X.prog X.w H s Q E0) s) : wpAny (model X.prog X.w) X.A (call (.ref f) args.pos args.kw) (EP X pins σ Q) X.xe s := by
  refine wpAny_call (codeAny_mono h fun r s' hq => ?_)
  match r, hq with
  | .error _, hq => exact hq.elim
  | .ok (.ret _), hq => exact I.after hq
  | .ok .next, hq => exact hq.elim
  | .ok .brk, hq => exact hq.elim
  | .ok .cont, hq => exact hq.elim
/-- a call, its arguments by place -/
def tC3 (sp : Sp3) (t : TA) : TE := fun σ H Q => t σ H fun vs H1 => sp vs H1 Q
theorem pe_c3 (d : Df X.prog X.w X.K X.mg X.base k x ps sp) (hr : RG k X.A) (hg : Gl X x) (ha : PA X (e :: es) t) (hdb : (x == ("__debug__" : Str)) = false := by decide)
    (he : starEach (e :: es) X.env = (false, eval e X.env) :: starEach es X.env := by rfl) (hpl : (backTo pos (starEach es X.env)).any (·.1) = false := by rfl) : PE X (.Call (.Name x p) (e :: es) [] pos) (tC3 sp t) := by
  refine ⟨fun pins s σ H Q I h => ?_⟩
  obtain ⟨f, fd, hm, hk, run, hb, _⟩ := d.ex
  refine wpAny_Call_Name_kw (ld_glob I hg hm ?_ hdb)
  refine PySem.W.callWith_K (h₀ := X.base) I.ok.mod.kin hk (thn (ha.run pos pins s σ H _ I h) fun us s1 ⟨vs, H1, I1, r, q⟩ => ⟨I1.kIn, ?_⟩) he hpl
  have hl : us.length = ps.length := by rw [← r.length]; exact d.len _ _ _ q
  exact after_call I1 (run ⟨us, []⟩ us (hb us hl) hl X.A X.stack s1 H1 vs Q hr I1.env0 r q)
/-- a call by keywords alone -/
def tCk3 (sp : Sp3) (g : List V → List V) (n : Nat) (t : TA) : TE := fun σ H Q => t σ H fun vs H1 => vs.length = n ∧ sp (g vs) H1 Q
theorem pe_ck3 {kws : List Keyword} {ks : List Str} {g : {α : Type} → List α → List α} (d : Df X.prog X.w X.K X.mg X.base k x ps sp) (hr : RG k X.A) (hg : Gl X x) (hkw : PK X kws t)
    (hb : ∀ (st : Stmt) (kV doc pm : Value) (an : Option Addr) (cdv ct : Value) (us : List Value), us.length = ks.length →
      (∀ us : List Value, us.length = ps.length → bindArgs (PySem.W.fnOf x x (defArgs st) (defBody st) (defScope st) .none kV doc pm an cdv ct) ⟨us, []⟩ = pure (ps.zip us)) →
      bindArgs (PySem.W.fnOf x x (defArgs st) (defBody st) (defScope st) .none kV doc pm an cdv ct) ⟨[], ks.zip us⟩ = pure (ps.zip (g us)) ∧ (g us).length = ps.length)
    (hv : ∀ {vs : List V} {us : List Value}, vs.length = ks.length → Vals vs us → Vals (g vs) (g us))
    (hall : (backToKw pos (keywordEach kws X.env)).all (·.1.isSome) = true := by rfl) (hks : (backToKw pos (keywordEach kws X.env)).filterMap (·.1) = ks := by rfl) (hdb : (x == ("__debug__" : Str)) = false := by decide)
    (hpl : ((backTo pos (starEach [] X.env)).any (·.1) || (backToKw pos (keywordEach kws X.env)).any (·.1.isNone)) = false := by rfl) : PE X (.Call (.Name x p) [] kws pos) (tCk3 sp g ks.length t) := by
  refine ⟨fun pins s σ H Q I h => ?_⟩
  obtain ⟨f, fd, hm, hk, run, hb0, st, kV, doc, pm, an, cdv, ct, rfl⟩ := d.ex
  refine wpAny_Call_Name_kw (ld_glob I hg hm ?_ hdb)
  refine PySem.W.callWith_KW0 (h₀ := X.base) I.ok.mod.kin hk hall ?_ hpl
  refine thn (hkw.run pos pins s σ H _ I h) fun us s1 ⟨vs, H1, I1, r, l, q⟩ => ⟨I1.kIn, ?_⟩
  rw [hks]
  obtain ⟨b1, b2⟩ := hb st kV doc pm an cdv ct us (r.length.symm.trans l) hb0
  exact after_call (args := ⟨[], ks.zip us⟩) I1 (run _ (g us) b1 b2 X.A X.stack s1 H1 (g vs) Q hr I1.env0 (hv l r) q)
end

/-! ### the end of a law -/
theorem law_end {P : Program} {w : World} {K : PySem.W.Frag} {mg mb : Str → Option Value} {k : Nat} {fa a : Addr} {lw : Str} {ps : List Str} {sp : Sp3} {s₁ : Shared} {vs : List Value} {ns : List Int}
    (inK : K.In s₁.heap) (glob : s₁.heap.Ns mainGlobals mg) (blt : s₁.heap.Ns builtinsNs mb) (bltE : ∀ x : Str, x ≠ "__name__" → mb x = bootBuiltins x) (lim : s₁.heap.NoLimit) (gens : s₁.gens = #[])
    (obj : s₁.heap.get? a = some { cls := .type "list", data := .seq vs.toArray }) (hi : IntsAre vs ns) (hl : ns.length ≤ sizeLine) (hr : RG k callerA) (hmg : mg lw = some (.ref fa)) (hps : ps.length = 1)
    (F : ∀ base : Heap, K.In base → base.Ns mainGlobals mg → Df P w K mg base k lw ps sp)
    (hsp : ∀ H : Hp, SqL K H a (ns.map V.int) → sp [.ref a] H (fun v _ => v = .bl true)) :
    codeAny (model P w) callerA (.call (.ref fa) ⟨[.ref a], []⟩) (fun r s' => r = .ok (.ret (.bool true)) ∧ OldK s₁.heap s'.heap ∧ s'.os = s₁.os ∧ AllBare s'.gens) s₁ := by
  have rv : Vals (ns.map V.int) vs := vals_ints hi
  -- the abstract heap: the script, if it is not the module's own
  obtain ⟨H, hO, hS, hok, hA, hK⟩ : ∃ H : Hp, (∀ b, H b = none ∨ ∃ o ys, H b = some (.frz o (.lst ys))) ∧ SqL K H a (ns.map V.int) ∧ HOk P w H s₁.heap ∧ (∀ b, H b ≠ none → b = a) ∧ (H a ≠ none → K.lookup a = none) := by
    cases hk : K.lookup a with
    | some o =>
      have e := inK a o hk
      rw [obj] at e
      cases e
      refine ⟨fun _ => none, fun _ => .inl rfl, .inr ⟨_, vs.toArray, _, hk, rfl, rfl, rfl, ?_, by simpa using rv⟩, fun b u z => (by cases z), fun b z => (z rfl).elim, fun z => (z rfl).elim⟩
      rw [List.size_toArray, ← rv.length, List.length_map]; exact hl
    | none =>
      refine ⟨upd (fun _ => none) a (.frz { cls := .type "list", data := .seq vs.toArray } (.lst (ns.map V.int))), fun b => ?_, .inl (.inr ⟨_, upd_same⟩), fun b u z => ?_, fun b z => ?_, fun _ => rfl⟩
      · by_cases hb : b = a
        · subst hb; exact .inr ⟨_, _, upd_same⟩
        · exact .inl (upd_ne hb)
      · by_cases hb : b = a
        · subst hb
          rw [upd_same] at z; cases z
          exact ⟨obj, by rw [List.length_map]; exact hl, vs, _, rv, obj⟩
        · rw [upd_ne hb] at z; cases z
      · by_cases hb : b = a
        · exact hb
        · exact (z (upd_ne hb)).elim
  have off : ∀ {b : Addr} {o : Obj}, s₁.heap.get? b = some o → H b = none → (hidT s₁.heap H).get? b = some o := fun e n => hidT_get e n
  have onlyA : ∀ {b : Addr}, H b ≠ none → s₁.heap.get? b = some { cls := .type "list", data := .seq vs.toArray } := fun {b} z => by rw [hA b z]; exact obj
  have dictOff : ∀ {b : Addr} {o : Obj} {es : Array DictEntry} {ep : Nat}, s₁.heap.get? b = some o → o.data = .dict es ep → H b = none := fun {b o es ep} e d => by
    cases q : H b with
    | none => rfl
    | some u =>
      have z := onlyA (b := b) (by rw [q]; exact fun z => nomatch z)
      rw [e] at z
      cases z
      cases d
  have nsB : ∀ {b : Addr} {m : Str → Option Value}, s₁.heap.Ns b m → (hidT s₁.heap H).Ns b m := fun {b m} z => by
    obtain ⟨o, es, ep, e, d, r⟩ := z
    exact ⟨o, es, ep, off e (dictOff e d), d, r⟩
  have inB : K.In (hidT s₁.heap H) := fun b o e => off (inK b o e) (by
    cases q : H b with
    | none => rfl
    | some u =>
      have n0 : H b ≠ none := by rw [q]; exact fun z => nomatch z
      have eb := hA b n0
      subst eb
      rw [hK n0] at e
      cases e)
  have md : Mod K mg (hidT s₁.heap H) := ⟨inB, nsB glob, ⟨mb, nsB blt, bltE⟩, by obtain ⟨mc, h1, h2⟩ := lim; exact ⟨mc, nsB h1, h2⟩⟩
  have e0 : Env0 P w K mg (hidT s₁.heap H) callerA [] s₁ H := ⟨rfl, md, fun b o e => of_hidT e, Nat.le_of_eq (hidT_size _ _), trivial, fun b hb => (by cases hb), hok, .of_eq gens⟩
  obtain ⟨f, fd, hm, _, run, hb, _⟩ := (F _ inB (nsB glob)).ex
  rw [hmg] at hm
  cases hm
  refine codeAny_mono (run ⟨[.ref a], []⟩ [.ref a] (hb _ hps.symm) hps.symm callerA [] s₁ H [.ref a] _ hr e0 (.cons rfl .nil) (hsp H hS)) fun r s' h => ?_
  match r, h with
  | .error _, h => exact h.elim
  | .ok .next, h => exact h.elim
  | .ok .brk, h => exact h.elim
  | .ok .cont, h => exact h.elim
  | .ok (.ret u), h =>
    obtain ⟨v, H', os, bare, un, hok', r', q⟩ := h
    have q' : v = .bl true := q
    subst q'
    obtain rfl : u = Value.bool true := r'
    refine ⟨rfl, OldK.of_keep fun b o e => ?_, os, bare⟩
    rcases hO b with z | ⟨ob, ys, z⟩
    · exact un.keep b o e z (fun y => by cases y) (fun y => by cases y)
    · have z2 := un.frzs b ob _ z
      have e1 := (hok b _ z).1
      have e2 := (hok' b _ z2).1
      rw [e] at e1
      cases e1
      exact e2
theorem walk_end {l : PySem.W.OpenLaw} {n k : Nat} {q : Program} {loose : List Str} {XP : (Str → Option Value) → Heap → Prop} {YP : World → Heap → Prop} {d : DefRec} {K : Params → PySem.W.Frag} {ps : List Str} {sp : PySem.W.Frag → Sp3}
    (hn : l.most = some n) (hn2 : n ≤ sizeLine) (hdf : d.params.defaults = []) (hr : RG k callerA) (hps : ps.length = 1)
    (hY : ∀ (w : World) (h : Heap), YP w h → (K w.params).In h)
    (F : ∀ (w : World) (mg : Str → Option Value) (h : Heap), (K w.params).In h → h.Ns mainGlobals mg →
      ∀ base : Heap, (K w.params).In base → base.Ns mainGlobals mg → Df l.prog w (K w.params) mg base k d.name ps (sp (K w.params)))
    (hsp : ∀ (K : PySem.W.Frag) (H : Hp) (a : Addr) (ns : List Int), ns.length ≤ n → SqL K H a (ns.map V.int) → sp K [.ref a] H (fun v _ => v = .bl true)) :
    PySem.W.WalkO q loose XP YP l.row.toRowW d [] (fun f vs => PySem.call f vs) := by
  refine Att.attach_call hn hdf fun w s₀ s₁ mg mb fa o pm cd doc a vs ns G Y _ _ _ hmg hobj hints hlen hg => ?_
  have inK := hY w _ Y
  exact law_end inK G.T.g G.T.b G.T.builtins G.T.nolimit hg hobj hints (Nat.le_trans hlen hn2) hr hmg hps (F w mg _ inK G.T.g) fun H hS => hsp _ H a ns hlen hS
end W3

end
section
set_option Elab.async false
set_option linter.all false
set_option maxRecDepth 100000
set_option maxHeartbeats 4000000
namespace W3
open PySem PySem.Spec PyProof.Rows L2
open Evl (Ex)

/-- where a comprehension stands: G what is known beside the list D that is made -/
def At (H1 : Hp) (D : Addr) (P : List V → Hp → Prop) (H : Hp) : Prop := ∃ acc G, H = upd G D (.lst acc) ∧ G D = none ∧ Ex H1 G ∧ acc.length < sizeLine ∧ P acc G
section
variable {K : PySem.W.Frag} {σ : L2.St} {H H1 : Hp} {vs : List Nat} {Q : VK} {te : TE} {tt : TT} {D : Addr} {P P' : List V → Hp → Prop} {σ2 : L2.St} {acc : List V} {G : Hp}

theorem At.start (hD : H1 D = none) (h : P [] H1) : At H1 D P (upd H1 D (.lst [])) := ⟨[], H1, rfl, hD, Ex.refl _, by show 0 < sizeLine; decide, h⟩

theorem yes_of {F N : Hp → Prop} (h : F H) : tYes σ2 H fun b H3 => if b = true then F H3 else N H3 := by
  show if true = true then F H else N H
  rw [if_pos rfl]; exact h
/-- a turn without a test: the element, the list made so far out of sight -/
theorem el_fr (hD : G D = none) (e1 : Ex H1 G) (hz : acc.length + 1 < sizeLine) (h : te σ2 G fun y G4 => Ex G G4 ∧ P' (acc ++ [y]) G4) :
    tFr te σ2 (upd G D (.lst acc)) fun y H4 => ∃ acc, H4 D = some (.lst acc) ∧ acc.length < sizeLine ∧ At H1 D P' (upd H4 D (.lst (acc ++ [y]))) := by
  refine ⟨D, acc, fun y G4 => Ex G G4 ∧ P' (acc ++ [y]) G4, upd_same, by rw [rm_upd hD]; exact h, fun y G4 ⟨e, p⟩ n4 => ?_⟩
  exact ⟨acc, upd_same, by omega, acc ++ [y], G4, by rw [upd_upd], n4, e1.trans e, by rw [List.length_append]; exact hz, p⟩
/-- a turn with a test -/
theorem tt_fr (hD : G D = none) (e1 : Ex H1 G) (hz : acc.length + 1 < sizeLine)
    (h : tt σ2 G fun b G3 => Ex G G3 ∧ (b = true → te σ2 G3 fun y G4 => Ex G3 G4 ∧ P' (acc ++ [y]) G4) ∧ (b = false → P' acc G3)) :
    tFrT tt σ2 (upd G D (.lst acc)) fun b H3 => if b = true then tFr te σ2 H3 fun y H4 => ∃ acc, H4 D = some (.lst acc) ∧ acc.length < sizeLine ∧ At H1 D P' (upd H4 D (.lst (acc ++ [y]))) else At H1 D P' H3 := by
  refine ⟨D, acc, fun b G3 => Ex G G3 ∧ (b = true → te σ2 G3 fun y G4 => Ex G3 G4 ∧ P' (acc ++ [y]) G4) ∧ (b = false → P' acc G3), upd_same, by rw [rm_upd hD]; exact h, fun b G3 ⟨e, h1, h2⟩ n3 => ?_⟩
  cases b with
  | true => exact iteT (el_fr n3 (e1.trans e) hz (h1 rfl))
  | false => exact iteF ⟨acc, G3, rfl, n3, e1.trans e, by omega, h2 rfl⟩

/-- [e for x in xs] -/
theorem lc_n {a : Addr} {xs : List V} {j : Nat} (P : Nat → List V → Hp → Prop) (hx : H1 a = some (.lst xs)) (hz : xs.length ≤ 100000) (h0 : P 0 [] H1) (hlen : ∀ i acc G, P i acc G → acc.length ≤ i)
    (hw : ∀ x, wipe ((wipe σ vs).set j (some x)) vs = wipe σ vs)
    (step : ∀ i x acc G, xs[i]? = some x → Ex H1 G → P i acc G → te ((wipe σ vs).set j (some x)) G fun y G4 => Ex G G4 ∧ P (i + 1) (acc ++ [y]) G4)
    (done : ∀ acc G p, Ex H1 G → G p = none → P xs.length acc G → Q (.ref p) (upd G p (.lst acc))) (hD : H1 D = none) :
    ∃ W : Nat → Nat → Hp → Prop, (∃ m, W 0 m (upd H1 D (.lst []))) ∧ ∀ i m H, W i m H →
      ((Itl K a).stop i H ∧ Q (.ref D) H) ∨ ((Itl K a).go i H ∧ ∃ Nx : Hp → Prop, (∀ H', Nx H' → ∃ m', m' < m ∧ W (i + 1) m' H') ∧ ∀ x H', (Itl K a).yld i H x H' → gName j x (wipe σ vs) H' fun σ2 H2 => wipe σ2 vs = wipe σ vs ∧ tYes σ2 H2 fun b H3 =>
        if b = true then tFr te σ2 H3 fun y H4 => ∃ acc, H4 D = some (.lst acc) ∧ acc.length < sizeLine ∧ Nx (upd H4 D (.lst (acc ++ [y]))) else Nx H3) := by
  refine lc_list (xs := xs) (fun i => At H1 D (P i)) (At.start hD h0) (fun i H _ ⟨acc, G, eH, n, e, _, _⟩ => ?_) (fun i x H hi ⟨acc, G, eH, n, e, l, p⟩ => ?_) fun H ⟨acc, G, eH, n, e, _, p⟩ => ?_
  · subst eH; exact SqL.of (ex_upd n _ _ (e _ _ hx))
  · subst eH
    refine ⟨hw x, yes_of (el_fr n e ?_ (step i x acc G hi e p))⟩
    have h1 := hlen i acc G p
    have h2 := (List.getElem?_eq_some_iff.mp hi).1
    have h3 : (100002 : Nat) < sizeLine := by decide
    omega
  · subst eH; exact done acc G D e n p
/-- [e for x in range(n)] -/
theorem lc_r {lo : Int} {n j : Nat} (P : Nat → List V → Hp → Prop) (hz : n ≤ 100000) (h0 : P 0 [] H1) (hlen : ∀ i acc G, P i acc G → acc.length ≤ i)
    (hw : ∀ x, wipe ((wipe σ vs).set j (some x)) vs = wipe σ vs)
    (step : ∀ i acc G, i < n → Ex H1 G → P i acc G → te ((wipe σ vs).set j (some (.int (lo + i)))) G fun y G4 => Ex G G4 ∧ P (i + 1) (acc ++ [y]) G4)
    (done : ∀ acc G p, Ex H1 G → G p = none → P n acc G → Q (.ref p) (upd G p (.lst acc))) (hD : H1 D = none) :
    ∃ W : Nat → Nat → Hp → Prop, (∃ m, W 0 m (upd H1 D (.lst []))) ∧ ∀ i m H, W i m H →
      ((Itr lo n).stop i H ∧ Q (.ref D) H) ∨ ((Itr lo n).go i H ∧ ∃ Nx : Hp → Prop, (∀ H', Nx H' → ∃ m', m' < m ∧ W (i + 1) m' H') ∧ ∀ x H', (Itr lo n).yld i H x H' → gName j x (wipe σ vs) H' fun σ2 H2 => wipe σ2 vs = wipe σ vs ∧ tYes σ2 H2 fun b H3 =>
        if b = true then tFr te σ2 H3 fun y H4 => ∃ acc, H4 D = some (.lst acc) ∧ acc.length < sizeLine ∧ Nx (upd H4 D (.lst (acc ++ [y]))) else Nx H3) := by
  refine lc_range (lo := lo) (n := n) (fun i => At H1 D (P i)) (At.start hD h0) (fun i H hi ⟨acc, G, eH, n', e, l, p⟩ => ?_) fun H ⟨acc, G, eH, n', e, _, p⟩ => ?_
  · subst eH
    refine ⟨hw _, yes_of (el_fr n' e ?_ (step i acc G hi e p))⟩
    have h1 := hlen i acc G p
    have h3 : (100002 : Nat) < sizeLine := by decide
    omega
  · subst eH; exact done acc G D e n' p
/-- [e for x in range(n) if t] -/
theorem lc_rt {lo : Int} {n j : Nat} (P : Nat → List V → Hp → Prop) (hz : n ≤ 100000) (h0 : P 0 [] H1) (hlen : ∀ i acc G, P i acc G → acc.length ≤ i)
    (hw : ∀ x, wipe ((wipe σ vs).set j (some x)) vs = wipe σ vs)
    (step : ∀ i acc G, i < n → Ex H1 G → P i acc G → tt ((wipe σ vs).set j (some (.int (lo + i)))) G fun b G3 => Ex G G3 ∧
      (b = true → te ((wipe σ vs).set j (some (.int (lo + i)))) G3 fun y G4 => Ex G3 G4 ∧ P (i + 1) (acc ++ [y]) G4) ∧ (b = false → P (i + 1) acc G3))
    (done : ∀ acc G p, Ex H1 G → G p = none → P n acc G → Q (.ref p) (upd G p (.lst acc))) (hD : H1 D = none) :
    ∃ W : Nat → Nat → Hp → Prop, (∃ m, W 0 m (upd H1 D (.lst []))) ∧ ∀ i m H, W i m H →
      ((Itr lo n).stop i H ∧ Q (.ref D) H) ∨ ((Itr lo n).go i H ∧ ∃ Nx : Hp → Prop, (∀ H', Nx H' → ∃ m', m' < m ∧ W (i + 1) m' H') ∧ ∀ x H', (Itr lo n).yld i H x H' → gName j x (wipe σ vs) H' fun σ2 H2 => wipe σ2 vs = wipe σ vs ∧ tFrT tt σ2 H2 fun b H3 =>
        if b = true then tFr te σ2 H3 fun y H4 => ∃ acc, H4 D = some (.lst acc) ∧ acc.length < sizeLine ∧ Nx (upd H4 D (.lst (acc ++ [y]))) else Nx H3) := by
  refine lc_range (lo := lo) (n := n) (fun i => At H1 D (P i)) (At.start hD h0) (fun i H hi ⟨acc, G, eH, n', e, l, p⟩ => ?_) fun H ⟨acc, G, eH, n', e, _, p⟩ => ?_
  · subst eH
    refine ⟨hw _, tt_fr n' e ?_ (step i acc G hi e p)⟩
    have h1 := hlen i acc G p
    have h3 : (100002 : Nat) < sizeLine := by decide
    omega
  · subst eH; exact done acc G D e n' p
/-- the targets a, b, c of a for over tuples of three -/
def g3 (K : PySem.W.Frag) (i j l : Nat) : TG := gTup K 3 (gCons (gName i) (gCons (gName j) (gCons (gName l) gNil)))
theorem g3_at {i j l : Nat} {p : Addr} {x y z : V} {C : L2.St → Hp → Prop} (h : SqT K H p [x, y, z]) (q : C (((σ.set i (some x)).set j (some y)).set l (some z)) H) : g3 K i j l (.ref p) σ H C :=
  ⟨p, _, rfl, h, rfl, x, _, rfl, y, _, rfl, z, _, rfl, rfl, q⟩
/-- [e for a, b, c in xs if t], tests and elements numbers -/
theorem lc_t3 {a : Addr} {xs : List V} {j1 j2 j3 : Nat} (P : Nat → List V → Hp → Prop) (hx : H1 a = some (.lst xs)) (hz : xs.length ≤ 100000) (h0 : P 0 [] H1) (hlen : ∀ i acc G, P i acc G → acc.length ≤ i)
    (hw : ∀ x y z, wipe ((((wipe σ vs).set j1 (some x)).set j2 (some y)).set j3 (some z)) vs = wipe σ vs)
    (step : ∀ i x acc G, xs[i]? = some x → Ex H1 G → P i acc G → ∃ p u v w, x = .ref p ∧ SqT K G p [u, v, w] ∧
      tt ((((wipe σ vs).set j1 (some u)).set j2 (some v)).set j3 (some w)) G fun b G3 => Ex G G3 ∧
      (b = true → te ((((wipe σ vs).set j1 (some u)).set j2 (some v)).set j3 (some w)) G3 fun y G4 => Ex G3 G4 ∧ P (i + 1) (acc ++ [y]) G4) ∧ (b = false → P (i + 1) acc G3))
    (done : ∀ acc G p, Ex H1 G → G p = none → P xs.length acc G → Q (.ref p) (upd G p (.lst acc))) (hD : H1 D = none) :
    ∃ W : Nat → Nat → Hp → Prop, (∃ m, W 0 m (upd H1 D (.lst []))) ∧ ∀ i m H, W i m H →
      ((Itl K a).stop i H ∧ Q (.ref D) H) ∨ ((Itl K a).go i H ∧ ∃ Nx : Hp → Prop, (∀ H', Nx H' → ∃ m', m' < m ∧ W (i + 1) m' H') ∧ ∀ x H', (Itl K a).yld i H x H' → g3 K j1 j2 j3 x (wipe σ vs) H' fun σ2 H2 => wipe σ2 vs = wipe σ vs ∧ tFrT tt σ2 H2 fun b H3 =>
        if b = true then tFr te σ2 H3 fun y H4 => ∃ acc, H4 D = some (.lst acc) ∧ acc.length < sizeLine ∧ Nx (upd H4 D (.lst (acc ++ [y]))) else Nx H3) := by
  refine lc_list (xs := xs) (fun i => At H1 D (P i)) (At.start hD h0) (fun i H _ ⟨acc, G, eH, n, e, _, _⟩ => ?_) (fun i x H hi ⟨acc, G, eH, n, e, l, p⟩ => ?_) fun H ⟨acc, G, eH, n, e, _, p⟩ => ?_
  · subst eH; exact SqL.of (ex_upd n _ _ (e _ _ hx))
  · subst eH
    obtain ⟨q, u, v, w, rfl, ht, h⟩ := step i x acc G hi e p
    refine g3_at (Evl.ex_t (ex_upd n) ht) ⟨hw u v w, tt_fr n e ?_ h⟩
    have h1 := hlen i acc G p
    have h2 := (List.getElem?_eq_some_iff.mp hi).1
    have h3 : (100002 : Nat) < sizeLine := by decide
    omega
  · subst eH; exact done acc G D e n p
/-- the same without a test -/
theorem lc_t3n {a : Addr} {xs : List V} {j1 j2 j3 : Nat} (P : Nat → List V → Hp → Prop) (hx : H1 a = some (.lst xs)) (hz : xs.length ≤ 100000) (h0 : P 0 [] H1) (hlen : ∀ i acc G, P i acc G → acc.length ≤ i)
    (hw : ∀ x y z, wipe ((((wipe σ vs).set j1 (some x)).set j2 (some y)).set j3 (some z)) vs = wipe σ vs)
    (step : ∀ i x acc G, xs[i]? = some x → Ex H1 G → P i acc G → ∃ p u v w, x = .ref p ∧ SqT K G p [u, v, w] ∧
      te ((((wipe σ vs).set j1 (some u)).set j2 (some v)).set j3 (some w)) G fun y G4 => Ex G G4 ∧ P (i + 1) (acc ++ [y]) G4)
    (done : ∀ acc G p, Ex H1 G → G p = none → P xs.length acc G → Q (.ref p) (upd G p (.lst acc))) (hD : H1 D = none) :
    ∃ W : Nat → Nat → Hp → Prop, (∃ m, W 0 m (upd H1 D (.lst []))) ∧ ∀ i m H, W i m H →
      ((Itl K a).stop i H ∧ Q (.ref D) H) ∨ ((Itl K a).go i H ∧ ∃ Nx : Hp → Prop, (∀ H', Nx H' → ∃ m', m' < m ∧ W (i + 1) m' H') ∧ ∀ x H', (Itl K a).yld i H x H' → g3 K j1 j2 j3 x (wipe σ vs) H' fun σ2 H2 => wipe σ2 vs = wipe σ vs ∧ tYes σ2 H2 fun b H3 =>
        if b = true then tFr te σ2 H3 fun y H4 => ∃ acc, H4 D = some (.lst acc) ∧ acc.length < sizeLine ∧ Nx (upd H4 D (.lst (acc ++ [y]))) else Nx H3) := by
  refine lc_list (xs := xs) (fun i => At H1 D (P i)) (At.start hD h0) (fun i H _ ⟨acc, G, eH, n, e, _, _⟩ => ?_) (fun i x H hi ⟨acc, G, eH, n, e, l, p⟩ => ?_) fun H ⟨acc, G, eH, n, e, _, p⟩ => ?_
  · subst eH; exact SqL.of (ex_upd n _ _ (e _ _ hx))
  · subst eH
    obtain ⟨q, u, v, w, rfl, ht, h⟩ := step i x acc G hi e p
    refine g3_at (Evl.ex_t (ex_upd n) ht) ⟨hw u v w, yes_of (el_fr n e ?_ h)⟩
    have h1 := hlen i acc G p
    have h2 := (List.getElem?_eq_some_iff.mp hi).1
    have h3 : (100002 : Nat) < sizeLine := by decide
    omega
  · subst eH; exact done acc G D e n p
end
end W3

end
section
set_option Elab.async false
set_option linter.all false
set_option maxRecDepth 100000
set_option maxHeartbeats 4000000
namespace W3
open PySem PySem.Spec PyProof.Rows L2
open Evl (Ex)
section
variable {K : PySem.W.Frag} {σ : L2.St} {H H1 : Hp} {vs vs1 : List Nat} {Q : VK} {te : TE} {D : Addr}

theorem inner_list {b : Addr} {ys : List V} {j2 : Nat} {σ2 : L2.St} {Nx : Hp → Prop} {P : Nat → List V → Hp → Prop} (hb : H1 b = some (.lst ys)) (hw : ∀ y, wipe ((wipe σ2 vs1).set j2 (some y)) vs1 = wipe σ2 vs1)
    (hlen : ∀ j acc G, P j acc G → acc.length ≤ 200000) (step : ∀ j y acc G, ys[j]? = some y → Ex H1 G → P j acc G → te ((wipe σ2 vs1).set j2 (some y)) G fun z G4 => Ex G G4 ∧ P (j + 1) (acc ++ [z]) G4)
    (done : ∀ H, At H1 D (P ys.length) H → Nx H) {H4 : Hp} (h0 : At H1 D (P 0) H4) :
    ∃ W1 : Nat → Nat → Hp → Prop, (∃ m, W1 0 m H4) ∧ ∀ j k H, W1 j k H →
      ((Itl K b).stop j H ∧ Nx H) ∨ ((Itl K b).go j H ∧ ∃ Nx1 : Hp → Prop, (∀ H', Nx1 H' → ∃ k', k' < k ∧ W1 (j + 1) k' H') ∧ ∀ x H', (Itl K b).yld j H x H' → gName j2 x (wipe σ2 vs1) H' fun σ3 H5 => wipe σ3 vs1 = wipe σ2 vs1 ∧ tYes σ3 H5 fun b H6 =>
        if b = true then tFr te σ3 H6 fun y H7 => ∃ acc, H7 D = some (.lst acc) ∧ acc.length < sizeLine ∧ Nx1 (upd H7 D (.lst (acc ++ [y]))) else Nx1 H6) := by
  refine ⟨fun j m H => m = ys.length - j ∧ j ≤ ys.length ∧ At H1 D (P j) H, ⟨ys.length, by simp, Nat.zero_le _, h0⟩, ?_⟩
  rintro j m H ⟨rfl, hj, hA⟩
  have hl : SqL K H b ys := by
    obtain ⟨acc, G, eH, n, e, _, _⟩ := hA
    subst eH; exact SqL.of (ex_upd n _ _ (e _ _ hb))
  by_cases lt : j < ys.length
  · refine .inr ⟨⟨ys, ys[j], hl, by simp [lt]⟩, At H1 D (P (j + 1)), fun H' h' => ⟨ys.length - (j + 1), by omega, rfl, lt, h'⟩, fun x H' y => ?_⟩
    obtain ⟨e, y⟩ := y
    subst e
    obtain ⟨acc, G, eH, n, e, l, p⟩ := hA
    subst eH
    refine ⟨hw x, yes_of (el_fr n e ?_ (step j x acc G (y ys hl) e p))⟩
    have h1 := hlen j acc G p
    have h3 : (200002 : Nat) < sizeLine := by decide
    omega
  · have e : j = ys.length := by omega
    subst e
    exact .inl ⟨⟨ys, hl, Nat.le_refl _⟩, done _ hA⟩

/-- [e for x in xs for y in ys], both lists, ys in the slot sl -/
theorem lc2_ll {a b : Addr} {xs ys : List V} {j1 j2 sl : Nat} (P : Nat → Nat → List V → Hp → Prop) (hx : H1 a = some (.lst xs)) (hy : H1 b = some (.lst ys)) (h0 : P 0 0 [] H1)
    (hlen : ∀ i j acc G, P i j acc G → acc.length ≤ 200000) (hw1 : ∀ x, wipe ((wipe σ vs).set j1 (some x)) vs = wipe σ vs)
    (hw2 : ∀ x y, wipe ((wipe ((wipe σ vs).set j1 (some x)) vs1).set j2 (some y)) vs1 = wipe ((wipe σ vs).set j1 (some x)) vs1) (hv : ∀ x, ((wipe σ vs).set j1 (some x))[sl]? = some (some (.ref b)))
    (step : ∀ i j x y acc G, xs[i]? = some x → ys[j]? = some y → Ex H1 G → P i j acc G → te ((wipe ((wipe σ vs).set j1 (some x)) vs1).set j2 (some y)) G fun z G4 => Ex G G4 ∧ P i (j + 1) (acc ++ [z]) G4)
    (roll : ∀ i acc G, i < xs.length → P i ys.length acc G → P (i + 1) 0 acc G)
    (done : ∀ acc G p, Ex H1 G → G p = none → P xs.length 0 acc G → Q (.ref p) (upd G p (.lst acc))) (hD : H1 D = none) :
    ∃ W : Nat → Nat → Hp → Prop, (∃ m, W 0 m (upd H1 D (.lst []))) ∧ ∀ i m H, W i m H →
      ((Itl K a).stop i H ∧ Q (.ref D) H) ∨ ((Itl K a).go i H ∧ ∃ Nx : Hp → Prop, (∀ H', Nx H' → ∃ m', m' < m ∧ W (i + 1) m' H') ∧ ∀ x H', (Itl K a).yld i H x H' → gName j1 x (wipe σ vs) H' fun σ2 H2 => wipe σ2 vs = wipe σ vs ∧ tYes σ2 H2 fun b H3 =>
        if b = true then iList K (tVar sl) σ2 H3 fun J1 H4 => ∃ W1 : Nat → Nat → Hp → Prop, (∃ m, W1 0 m H4) ∧ ∀ j k H, W1 j k H →
          (J1.stop j H ∧ Nx H) ∨ (J1.go j H ∧ ∃ Nx1 : Hp → Prop, (∀ H', Nx1 H' → ∃ k', k' < k ∧ W1 (j + 1) k' H') ∧ ∀ x H', J1.yld j H x H' → gName j2 x (wipe σ2 vs1) H' fun σ3 H5 => wipe σ3 vs1 = wipe σ2 vs1 ∧ tYes σ3 H5 fun b H6 =>
            if b = true then tFr te σ3 H6 fun y H7 => ∃ acc, H7 D = some (.lst acc) ∧ acc.length < sizeLine ∧ Nx1 (upd H7 D (.lst (acc ++ [y]))) else Nx1 H6)
        else Nx H3) := by
  refine ⟨fun i m H => m = xs.length - i ∧ i ≤ xs.length ∧ At H1 D (P i 0) H, ⟨xs.length, by simp, Nat.zero_le _, At.start hD h0⟩, ?_⟩
  rintro i m H ⟨rfl, hi, hA⟩
  have hl : SqL K H a xs := by
    obtain ⟨acc, G, eH, n, e, _, _⟩ := hA
    subst eH; exact SqL.of (ex_upd n _ _ (e _ _ hx))
  by_cases lt : i < xs.length
  · refine .inr ⟨⟨xs, xs[i], hl, by simp [lt]⟩, At H1 D (P (i + 1) 0), fun H' h' => ⟨xs.length - (i + 1), by omega, rfl, lt, h'⟩, fun x H' y => ?_⟩
    obtain ⟨e, y⟩ := y
    subst e
    have hx' : xs[i]? = some x := y xs hl
    refine ⟨hw1 x, yes_of ⟨.ref b, hv x, b, rfl, ⟨ys, ?_⟩, ?_⟩⟩
    · obtain ⟨acc, G, eH, n, e, _, _⟩ := hA
      subst eH; exact SqL.of (ex_upd n _ _ (e _ _ hy))
    · refine inner_list (P := P i) hy (hw2 x) (hlen i) (fun j y acc G h1 h2 h3 => step i j x y acc G hx' h1 h2 h3) (fun H h => ?_) hA
      obtain ⟨acc, G, eH, n, e, l, p⟩ := h
      exact ⟨acc, G, eH, n, e, l, roll i acc G lt p⟩
  · have e : i = xs.length := by omega
    subst e
    obtain ⟨acc, G, eH, n, e, _, p⟩ := hA
    subst eH
    exact .inl ⟨⟨xs, hl, Nat.le_refl _⟩, done acc G D e n p⟩

/-- [e for x in range(n) for y in range(..)], the inner range by what x is -/
theorem lc2_rr {lo : Int} {n j1 j2 : Nat} {lo1 : Nat → Int} {n1 : Nat → Nat} {wi1 : TI} (P : Nat → Nat → List V → Hp → Prop) (h0 : P 0 0 [] H1)
    (hlen : ∀ i j acc G, P i j acc G → acc.length ≤ 200000) (hw1 : ∀ x, wipe ((wipe σ vs).set j1 (some x)) vs = wipe σ vs)
    (hw2 : ∀ x y, wipe ((wipe ((wipe σ vs).set j1 (some x)) vs1).set j2 (some y)) vs1 = wipe ((wipe σ vs).set j1 (some x)) vs1)
    (hi1 : ∀ i G (R : It → Hp → Prop), i < n → R (Itr (lo1 i) (n1 i)) G → wi1 ((wipe σ vs).set j1 (some (.int (lo + i)))) G R)
    (step : ∀ i j acc G, i < n → j < n1 i → Ex H1 G → P i j acc G → te ((wipe ((wipe σ vs).set j1 (some (.int (lo + i)))) vs1).set j2 (some (.int (lo1 i + j)))) G fun z G4 => Ex G G4 ∧ P i (j + 1) (acc ++ [z]) G4)
    (roll : ∀ i acc G, i < n → P i (n1 i) acc G → P (i + 1) 0 acc G)
    (done : ∀ acc G p, Ex H1 G → G p = none → P n 0 acc G → Q (.ref p) (upd G p (.lst acc))) (hD : H1 D = none) :
    ∃ W : Nat → Nat → Hp → Prop, (∃ m, W 0 m (upd H1 D (.lst []))) ∧ ∀ i m H, W i m H →
      ((Itr lo n).stop i H ∧ Q (.ref D) H) ∨ ((Itr lo n).go i H ∧ ∃ Nx : Hp → Prop, (∀ H', Nx H' → ∃ m', m' < m ∧ W (i + 1) m' H') ∧ ∀ x H', (Itr lo n).yld i H x H' → gName j1 x (wipe σ vs) H' fun σ2 H2 => wipe σ2 vs = wipe σ vs ∧ tYes σ2 H2 fun b H3 =>
        if b = true then wi1 σ2 H3 fun J1 H4 => ∃ W1 : Nat → Nat → Hp → Prop, (∃ m, W1 0 m H4) ∧ ∀ j k H, W1 j k H →
          (J1.stop j H ∧ Nx H) ∨ (J1.go j H ∧ ∃ Nx1 : Hp → Prop, (∀ H', Nx1 H' → ∃ k', k' < k ∧ W1 (j + 1) k' H') ∧ ∀ x H', J1.yld j H x H' → gName j2 x (wipe σ2 vs1) H' fun σ3 H5 => wipe σ3 vs1 = wipe σ2 vs1 ∧ tYes σ3 H5 fun b H6 =>
            if b = true then tFr te σ3 H6 fun y H7 => ∃ acc, H7 D = some (.lst acc) ∧ acc.length < sizeLine ∧ Nx1 (upd H7 D (.lst (acc ++ [y]))) else Nx1 H6)
        else Nx H3) := by
  refine ⟨fun i m H => m = n - i ∧ i ≤ n ∧ At H1 D (P i 0) H, ⟨n, by simp, Nat.zero_le _, At.start hD h0⟩, ?_⟩
  rintro i m H ⟨rfl, hi, hA⟩
  by_cases lt : i < n
  · refine .inr ⟨lt, At H1 D (P (i + 1) 0), fun H' h' => ⟨n - (i + 1), by omega, rfl, lt, h'⟩, fun x H' y => ?_⟩
    obtain ⟨e, y⟩ := y
    subst e y
    refine ⟨hw1 _, yes_of (hi1 i _ _ lt ?_)⟩
    refine ⟨fun j m H => m = n1 i - j ∧ j ≤ n1 i ∧ At H1 D (P i j) H, ⟨n1 i, by simp, Nat.zero_le _, hA⟩, ?_⟩
    rintro j m H ⟨rfl, hj, hB⟩
    by_cases lt2 : j < n1 i
    · refine .inr ⟨lt2, At H1 D (P i (j + 1)), fun H' h' => ⟨n1 i - (j + 1), by omega, rfl, lt2, h'⟩, fun x H' y => ?_⟩
      obtain ⟨e, y⟩ := y
      subst e y
      obtain ⟨acc, G, eH, n', e, l, p⟩ := hB
      subst eH
      refine ⟨hw2 _ _, yes_of (el_fr n' e ?_ (step i j acc G lt lt2 e p))⟩
      have h1 := hlen i j acc G p
      have h3 : (200002 : Nat) < sizeLine := by decide
      omega
    · have e : j = n1 i := by omega
      subst e
      refine .inl ⟨Nat.le_refl _, ?_⟩
      obtain ⟨acc, G, eH, n', e, l, p⟩ := hB
      exact ⟨acc, G, eH, n', e, l, roll i acc G lt p⟩
  · have e : i = n := by omega
    subst e
    obtain ⟨acc, G, eH, n', e, _, p⟩ := hA
    subst eH
    exact .inl ⟨Nat.le_refl _, done acc G D e n' p⟩
end
end W3
namespace W3
open PySem PySem.Spec PyProof.Rows L2
/-! ### rules that name the written part (within a comprehension's block) -/
section
variable {X : Cx}
theorem ixL (K : PySem.W.Frag) (h : X.K = K := by rfl) : IxR X (rIxL K) := h ▸ ix_list
theorem ixT (K : PySem.W.Frag) (h : X.K = K := by rfl) : IxR X (rIxT K) := h ▸ ix_tup
theorem slL (K : PySem.W.Frag) (h : X.K = K := by rfl) : SlR X (rSlL K) := h ▸ sl_list
theorem crSI (K : PySem.W.Frag) (h : X.K = K := by rfl) : CallR X (.builtin "sorted") (rSortedI K) := h ▸ cr_sortedI
theorem crAll (K : PySem.W.Frag) (h : X.K = K := by rfl) (hc : X.calm = true := by rfl) : CallR X (.builtin "all") (rAll K) := h ▸ cr_all hc
theorem opIn (K : PySem.W.Frag) (h : X.K = K := by rfl) : OpR X (compareOp .In) (rIn K false) := h ▸ op_in_seq
theorem opNotIn (K : PySem.W.Frag) (h : X.K = K := by rfl) : OpR X (compareOp .NotIn) (rIn K true) := h ▸ op_notIn_seq
theorem opEqD (K : PySem.W.Frag) (hu : X.A.units + 64 < cLine) (h : X.K = K := by rfl) : OpR X (compareOp .Eq) (rEqD K) := h ▸ op_eqD hu
theorem opNeD (K : PySem.W.Frag) (hu : X.A.units + 64 < cLine) (h : X.K = K := by rfl) : OpR X (compareOp .NotEq) (rNeD K) := h ▸ op_neD hu
theorem piL (K : PySem.W.Frag) {tg l : Expr} {tl : TE} (hl : PE X l tl) (h : X.K = K := by rfl) : PI X tg l (iList K tl) := h ▸ pi_list hl
theorem pgT (K : PySem.W.Frag) (n : Nat) {es : List Expr} {k pos} {t : TGs} (h : PGs X es t) (hk : X.K = K := by rfl) (hc : X.calm = true := by rfl) (h1 : (assignEach es X.env).length = n := by rfl)
    (h2 : (assignEach es X.env).findIdx? (·.1) = none := by rfl) : PG X (.Tuple es k pos) (gTup K n t) := hk ▸ pg_tup hc h h1 h2
theorem lenS (K : PySem.W.Frag) (h : X.K = K := by rfl) : CallR X (.builtin "len") (Evl.rLenS K) := h ▸ call_len_seq
theorem listS (K : PySem.W.Frag) (h : X.K = K := by rfl) : CallR X (.type "list") (Evl.rListS K) := h ▸ call_list_of
theorem mnL (K : PySem.W.Frag) (h : X.K = K := by rfl) (hc : X.calm = true := by rfl) : CallR X (.builtin "min") (rMin K) := h ▸ cr_min hc
theorem mxL (K : PySem.W.Frag) (h : X.K = K := by rfl) (hc : X.calm = true := by rfl) : CallR X (.builtin "max") (rMax K) := h ▸ cr_max hc
theorem revL (K : PySem.W.Frag) {e : Expr} {te : TE} {k : Nat} {p1 p2 p3 pos : Pos} (he : PE X e te) (h : X.K = K := by rfl) :
    PE X (.Subscript e (.Slice none none (some (.UnaryOp .USub (.Constant (.int 1) k p1) p2)) p3) pos) (tRevL K te) := h ▸ pe_revL he
end
end W3

end
section
set_option Elab.async false
set_option linter.all false
set_option maxRecDepth 100000
set_option maxHeartbeats 4000000
namespace W3
open PySem PySem.Spec PyProof.Rows L2
open Evl (Ex)
/-! ### comprehensions as readings -/
section
variable {K : PySem.W.Frag} {σ : L2.St} {H : Hp} {vs vs1 : List Nat} {Q : VK} {te : TE} {tt : TT} {wi wi1 : TI}
theorem lcN (H1 : Hp) {a : Addr} {xs : List V} {j : Nat} (P : Nat → List V → Hp → Prop) (hi : ∀ R : It → Hp → Prop, R (Itl K a) H1 → wi σ H R) (hx : H1 a = some (.lst xs)) (hz : xs.length ≤ 100000) (h0 : P 0 [] H1) (hlen : ∀ i acc G, P i acc G → acc.length ≤ i)
    (hw : ∀ x, wipe ((wipe σ vs).set j (some x)) vs = wipe σ vs)
    (step : ∀ i x acc G, xs[i]? = some x → Ex H1 G → P i acc G → te ((wipe σ vs).set j (some x)) G fun y G4 => Ex G G4 ∧ P (i + 1) (acc ++ [y]) G4)
    (done : ∀ acc G p, Ex H1 G → G p = none → P xs.length acc G → Q (.ref p) (upd G p (.lst acc))) : tLc wi (gName j) tYes (tFr te) vs σ H Q :=
  hi _ fun _ hD => lc_n P hx hz h0 hlen hw step done hD
theorem lcR (H1 : Hp) {lo : Int} {n j : Nat} (P : Nat → List V → Hp → Prop) (hi : ∀ R : It → Hp → Prop, R (Itr lo n) H1 → wi σ H R) (hz : n ≤ 100000) (h0 : P 0 [] H1) (hlen : ∀ i acc G, P i acc G → acc.length ≤ i)
    (hw : ∀ x, wipe ((wipe σ vs).set j (some x)) vs = wipe σ vs)
    (step : ∀ i acc G, i < n → Ex H1 G → P i acc G → te ((wipe σ vs).set j (some (.int (lo + i)))) G fun y G4 => Ex G G4 ∧ P (i + 1) (acc ++ [y]) G4)
    (done : ∀ acc G p, Ex H1 G → G p = none → P n acc G → Q (.ref p) (upd G p (.lst acc))) : tLc wi (gName j) tYes (tFr te) vs σ H Q :=
  hi _ fun _ hD => lc_r P hz h0 hlen hw step done hD
theorem lcRt (H1 : Hp) {lo : Int} {n j : Nat} (P : Nat → List V → Hp → Prop) (hi : ∀ R : It → Hp → Prop, R (Itr lo n) H1 → wi σ H R) (hz : n ≤ 100000) (h0 : P 0 [] H1) (hlen : ∀ i acc G, P i acc G → acc.length ≤ i)
    (hw : ∀ x, wipe ((wipe σ vs).set j (some x)) vs = wipe σ vs)
    (step : ∀ i acc G, i < n → Ex H1 G → P i acc G → tt ((wipe σ vs).set j (some (.int (lo + i)))) G fun b G3 => Ex G G3 ∧
      (b = true → te ((wipe σ vs).set j (some (.int (lo + i)))) G3 fun y G4 => Ex G3 G4 ∧ P (i + 1) (acc ++ [y]) G4) ∧ (b = false → P (i + 1) acc G3))
    (done : ∀ acc G p, Ex H1 G → G p = none → P n acc G → Q (.ref p) (upd G p (.lst acc))) : tLc wi (gName j) (tFrT tt) (tFr te) vs σ H Q :=
  hi _ fun _ hD => lc_rt P hz h0 hlen hw step done hD
theorem lcT (H1 : Hp) {a : Addr} {xs : List V} {j1 j2 j3 : Nat} (P : Nat → List V → Hp → Prop) (hi : ∀ R : It → Hp → Prop, R (Itl K a) H1 → wi σ H R) (hx : H1 a = some (.lst xs)) (hz : xs.length ≤ 100000) (h0 : P 0 [] H1) (hlen : ∀ i acc G, P i acc G → acc.length ≤ i)
    (hw : ∀ x y z, wipe ((((wipe σ vs).set j1 (some x)).set j2 (some y)).set j3 (some z)) vs = wipe σ vs)
    (step : ∀ i x acc G, xs[i]? = some x → Ex H1 G → P i acc G → ∃ p u v w, x = .ref p ∧ SqT K G p [u, v, w] ∧
      tt ((((wipe σ vs).set j1 (some u)).set j2 (some v)).set j3 (some w)) G fun b G3 => Ex G G3 ∧
      (b = true → te ((((wipe σ vs).set j1 (some u)).set j2 (some v)).set j3 (some w)) G3 fun y G4 => Ex G3 G4 ∧ P (i + 1) (acc ++ [y]) G4) ∧ (b = false → P (i + 1) acc G3))
    (done : ∀ acc G p, Ex H1 G → G p = none → P xs.length acc G → Q (.ref p) (upd G p (.lst acc))) :
    tLc wi (gTup K 3 (gCons (gName j1) (gCons (gName j2) (gCons (gName j3) gNil)))) (tFrT tt) (tFr te) vs σ H Q :=
  hi _ fun _ hD => lc_t3 P hx hz h0 hlen hw step done hD
theorem lcTn (H1 : Hp) {a : Addr} {xs : List V} {j1 j2 j3 : Nat} (P : Nat → List V → Hp → Prop) (hi : ∀ R : It → Hp → Prop, R (Itl K a) H1 → wi σ H R) (hx : H1 a = some (.lst xs)) (hz : xs.length ≤ 100000) (h0 : P 0 [] H1) (hlen : ∀ i acc G, P i acc G → acc.length ≤ i)
    (hw : ∀ x y z, wipe ((((wipe σ vs).set j1 (some x)).set j2 (some y)).set j3 (some z)) vs = wipe σ vs)
    (step : ∀ i x acc G, xs[i]? = some x → Ex H1 G → P i acc G → ∃ p u v w, x = .ref p ∧ SqT K G p [u, v, w] ∧
      te ((((wipe σ vs).set j1 (some u)).set j2 (some v)).set j3 (some w)) G fun y G4 => Ex G G4 ∧ P (i + 1) (acc ++ [y]) G4)
    (done : ∀ acc G p, Ex H1 G → G p = none → P xs.length acc G → Q (.ref p) (upd G p (.lst acc))) :
    tLc wi (gTup K 3 (gCons (gName j1) (gCons (gName j2) (gCons (gName j3) gNil)))) tYes (tFr te) vs σ H Q :=
  hi _ fun _ hD => lc_t3n P hx hz h0 hlen hw step done hD
theorem lcLL (H1 : Hp) {a b : Addr} {xs ys : List V} {j1 j2 sl : Nat} (P : Nat → Nat → List V → Hp → Prop) (hi : ∀ R : It → Hp → Prop, R (Itl K a) H1 → wi σ H R) (hx : H1 a = some (.lst xs)) (hy : H1 b = some (.lst ys)) (h0 : P 0 0 [] H1)
    (hlen : ∀ i j acc G, P i j acc G → acc.length ≤ 200000) (hw1 : ∀ x, wipe ((wipe σ vs).set j1 (some x)) vs = wipe σ vs)
    (hw2 : ∀ x y, wipe ((wipe ((wipe σ vs).set j1 (some x)) vs1).set j2 (some y)) vs1 = wipe ((wipe σ vs).set j1 (some x)) vs1) (hv : ∀ x, ((wipe σ vs).set j1 (some x))[sl]? = some (some (.ref b)))
    (step : ∀ i j x y acc G, xs[i]? = some x → ys[j]? = some y → Ex H1 G → P i j acc G → te ((wipe ((wipe σ vs).set j1 (some x)) vs1).set j2 (some y)) G fun z G4 => Ex G G4 ∧ P i (j + 1) (acc ++ [z]) G4)
    (roll : ∀ i acc G, i < xs.length → P i ys.length acc G → P (i + 1) 0 acc G)
    (done : ∀ acc G p, Ex H1 G → G p = none → P xs.length 0 acc G → Q (.ref p) (upd G p (.lst acc))) :
    tLc2 wi (gName j1) tYes (iList K (tVar sl)) (gName j2) tYes (tFr te) vs vs1 σ H Q :=
  hi _ fun _ hD => lc2_ll P hx hy h0 hlen hw1 hw2 hv step roll done hD
theorem lcRR (H1 : Hp) {lo : Int} {n j1 j2 : Nat} (lo1 : Nat → Int) (n1 : Nat → Nat) (P : Nat → Nat → List V → Hp → Prop) (hi : ∀ R : It → Hp → Prop, R (Itr lo n) H1 → wi σ H R) (h0 : P 0 0 [] H1)
    (hlen : ∀ i j acc G, P i j acc G → acc.length ≤ 200000) (hw1 : ∀ x, wipe ((wipe σ vs).set j1 (some x)) vs = wipe σ vs)
    (hw2 : ∀ x y, wipe ((wipe ((wipe σ vs).set j1 (some x)) vs1).set j2 (some y)) vs1 = wipe ((wipe σ vs).set j1 (some x)) vs1)
    (hi1 : ∀ i G (R : It → Hp → Prop), i < n → R (Itr (lo1 i) (n1 i)) G → wi1 ((wipe σ vs).set j1 (some (.int (lo + i)))) G R)
    (step : ∀ i j acc G, i < n → j < n1 i → Ex H1 G → P i j acc G → te ((wipe ((wipe σ vs).set j1 (some (.int (lo + i)))) vs1).set j2 (some (.int (lo1 i + j)))) G fun z G4 => Ex G G4 ∧ P i (j + 1) (acc ++ [z]) G4)
    (roll : ∀ i acc G, i < n → P i (n1 i) acc G → P (i + 1) 0 acc G)
    (done : ∀ acc G p, Ex H1 G → G p = none → P n 0 acc G → Q (.ref p) (upd G p (.lst acc))) :
    tLc2 wi (gName j1) tYes wi1 (gName j2) tYes (tFr te) vs vs1 σ H Q :=
  hi _ fun _ hD => lc2_rr P h0 hlen hw1 hw2 hi1 step roll done hD
end
end W3
namespace W3
open PySem PySem.Spec PyProof.Rows L2
open Evl (Ex)
/-! ### statements as readings, one step -/
section
variable {D : Ends} {σ : L2.St} {H : Hp} {t u : TS} {te : TE} {g : TG} {i j l : Nat} {ta : TA}
theorem go_set (h : te σ H fun x H1 => D.nx (σ.set i (some x)) H1) : tAsg te (gName i) D σ H := h
theorem go_sets (h : te σ H fun x H1 => u D (σ.set i (some x)) H1) : tSeq (tAsg te (gName i)) u D σ H := h
theorem go_asg (h : te σ H fun x H1 => g x σ H1 D.nx) : tAsg te g D σ H := h
theorem go_asgs (h : te σ H fun x H1 => g x σ H1 (u D)) : tSeq (tAsg te g) u D σ H := h
theorem go_ret (h : te σ H D.rt) : tRet te D σ H := h
theorem go_expr (h : te σ H fun _ H1 => D.nx σ H1) : tDrop te D σ H := h
theorem go_exprs (h : te σ H fun _ H1 => u D σ H1) : tSeq (tDrop te) u D σ H := h
theorem go_seq (h : t { D with nx := u D } σ H) : tSeq t u D σ H := h
end
end W3

end
section
set_option Elab.async false
set_option linter.all false
set_option maxRecDepth 100000
set_option maxHeartbeats 4000000
namespace W3
open PySem PySem.Spec PyProof.Rows L2
/-! ### data with small leaves: they are compared, shown -/
mutual
def Lf : PyData → Prop
  | .none => True
  | .bool _ => True
  | .int i => i.natAbs < 1000000
  | .str x => ∀ c ∈ x.cps.toList, c < 128
  | .list xs => Lfs xs
  | .tuple xs => Lfs xs
  | .dict _ => False
def Lfs : List PyData → Prop
  | [] => True
  | x :: xs => Lf x ∧ Lfs xs
end
mutual
theorem Lf.lay : ∀ d : PyData, Lf d → d.canLay0 = true ∧ d.showable = true ∧ d.hasDict = false ∧ d.leavesShort 8 = true
  | .none, _ => by simp [PyData.canLay0, PyData.showable, PyData.hasDict, PyData.leavesShort]
  | .bool _, _ => by simp [PyData.canLay0, PyData.showable, PyData.hasDict, PyData.leavesShort]
  | .int i, h => by
    have h' : i.natAbs < 1000000 := h
    refine ⟨by simp [PyData.canLay0], ?_, by simp [PyData.hasDict], ?_⟩
    · simp only [PyData.showable, decide_eq_true_eq]
      have : i.natAbs.log2 < 20 := by
        by_cases z : i.natAbs = 0
        · rw [z]; decide
        · exact (Nat.log2_lt z).mpr (by omega)
      omega
    · simp only [PyData.leavesShort, decide_eq_true_eq, PyData.shown]
      have := int_text_length_le10 (a := i) (k := 6) (by decide) (by omega)
      have h2 : (toString i).length ≤ 7 := this
      refine decide_eq_true ?_
      rw [PySem.ofString_length]
      omega
  | .str x, h => by
    have h' : ∀ c ∈ x.cps.toList, c < 128 := h
    refine ⟨?_, by simp [PyData.showable], by simp [PyData.hasDict], ?_⟩
    · simp only [PyData.canLay0]
      unfold PyData.strOk
      rw [Array.all_eq_true']
      intro c hc
      have := h' c (by simpa using hc)
      simp; omega
    · simp only [PyData.leavesShort, List.all_eq_true, decide_eq_true_eq]
      intro c hc
      have := h' c hc
      omega
  | .list xs, h => by
    obtain ⟨a, b, c, d⟩ := Lfs.lay xs h
    exact ⟨by simpa [PyData.canLay0] using a, by simpa [PyData.showable] using b, by simpa [PyData.hasDict] using c, by simpa [PyData.leavesShort] using d⟩
  | .tuple xs, h => by
    obtain ⟨a, b, c, d⟩ := Lfs.lay xs h
    exact ⟨by simpa [PyData.canLay0] using a, by simpa [PyData.showable] using b, by simpa [PyData.hasDict] using c, by simpa [PyData.leavesShort] using d⟩
  | .dict _, h => h.elim
theorem Lfs.lay : ∀ ds : List PyData, Lfs ds → PyData.canLayAll0 ds = true ∧ PyData.showableAll ds = true ∧ PyData.hasDictAll ds = false ∧ PyData.leavesShortAll 8 ds = true
  | [], _ => by simp [PyData.canLayAll0, PyData.showableAll, PyData.hasDictAll, PyData.leavesShortAll]
  | d :: ds, h => by
    obtain ⟨a, b, c, e⟩ := Lf.lay d h.1
    obtain ⟨a', b', c', e'⟩ := Lfs.lay ds h.2
    simp [PyData.canLayAll0, PyData.showableAll, PyData.hasDictAll, PyData.leavesShortAll, a, b, c, e, a', b', c', e']
end
theorem Lfs.map {α : Type} {enc : α → PyData} : ∀ {as : List α}, (∀ a ∈ as, Lf (enc a)) → Lfs (as.map enc)
  | [], _ => trivial
  | a :: as, h => ⟨h a (by simp), Lfs.map fun b hb => h b (by simp [hb])⟩
theorem depthAll_map {α : Type} {enc : α → PyData} {k : Nat} : ∀ {as : List α}, (∀ a ∈ as, (enc a).depth ≤ k) → PyData.depthAll (as.map enc) ≤ k
  | [], _ => by simp [PyData.depthAll]
  | a :: as, h => by
    have h1 := h a (by simp)
    have h2 := depthAll_map (as := as) fun b hb => h b (by simp [hb])
    simp only [List.map_cons, PyData.depthAll]
    omega
theorem bulkAll_map {α : Type} {enc : α → PyData} {k : Nat} : ∀ {as : List α}, (∀ a ∈ as, (enc a).bulk ≤ k) → PyData.bulkAll (as.map enc) ≤ as.length * (k + 1)
  | [], _ => by simp [PyData.bulkAll]
  | a :: as, h => by
    have h1 := h a (by simp)
    have h2 := bulkAll_map (as := as) fun b hb => h b (by simp [hb])
    simp only [List.map_cons, PyData.bulkAll, List.length_cons, Nat.succ_mul]
    omega
theorem shaped_of {d : PyData} (h : Lf d) (hd : d.depth ≤ 32) : SeqAt.shaped d = true := by
  unfold SeqAt.shaped
  rw [(Lf.lay d h).1, Bool.true_and]
  exact decide_eq_true (by omega)
theorem fine_of {d : PyData} (h : Lf d) (hd : d.depth ≤ 32) (hb : d.bulk ≤ 1000000) : Dt.fine d := by
  obtain ⟨a, b, c, e⟩ := Lf.lay d h
  refine ⟨b, c, hd, ?_⟩
  have := PyData.shown_le_bulk 8 (by decide) d e
  have z : (10000008 : Nat) ≤ sizeLine := by decide
  omega
theorem eqv_nil (ds : List PyData) : PyData.eqv (.list ds) (.list []) = ds.isEmpty := by cases ds <;> simp [PyData.eqv, PyData.eqvAll]

/-! ### alike data: one sorted list -/
open PySem.W in
mutual
theorem toks_inj : ∀ (x y : PyData), alike x y = true → ∀ l m, keyToks x ++ l = keyToks y ++ m → x = y ∧ l = m
  | .none, y, h, l, m, e => by
    cases y <;> simp_all [alike, keyToks]
  | .bool a, y, h, l, m, e => by
    cases y with
    | bool b => cases a <;> cases b <;> simp_all [keyToks]
    | _ => simp [alike] at h
  | .int a, y, h, l, m, e => by
    cases y with
    | int b => simp_all [keyToks]
    | _ => simp [alike] at h
  | .str a, y, h, l, m, e => by
    cases y with
    | str b =>
      simp only [keyToks, List.cons_append, List.nil_append, List.cons.injEq, Sum.inr.injEq] at e
      exact ⟨by rw [str_of_cps e.1], e.2⟩
    | _ => simp [alike] at h
  | .list xs, y, h, l, m, e => by
    cases y with
    | list ys =>
      simp only [keyToks] at e
      obtain ⟨a, b⟩ := toksAll_inj xs ys (by simpa [alike] using h) l m e
      exact ⟨by rw [a], b⟩
    | _ => simp [alike] at h
  | .tuple xs, y, h, l, m, e => by
    cases y with
    | tuple ys =>
      simp only [keyToks] at e
      obtain ⟨a, b⟩ := toksAll_inj xs ys (by simpa [alike] using h) l m e
      exact ⟨by rw [a], b⟩
    | _ => simp [alike] at h
  | .dict _, y, h, _, _, _ => by cases y <;> simp [alike] at h
theorem toksAll_inj : ∀ (xs ys : List PyData), alikeAll xs ys = true → ∀ l m, keyToksAll xs ++ l = keyToksAll ys ++ m → xs = ys ∧ l = m
  | [], [], _, l, m, e => by simpa [keyToksAll] using e
  | [], y :: ys, _, l, m, e => by simp [keyToksAll] at e
  | x :: xs, [], _, l, m, e => by simp [keyToksAll] at e
  | x :: xs, y :: ys, h, l, m, e => by
    obtain ⟨h1, h2⟩ := alike_all_cons h
    simp only [keyToksAll, List.cons_append, List.cons.injEq, true_and, List.append_assoc] at e
    obtain ⟨rfl, e2⟩ := toks_inj x y h1 _ _ e
    obtain ⟨rfl, e3⟩ := toksAll_inj xs ys h2 _ _ e2
    exact ⟨rfl, e3⟩
end
open PySem.W in
theorem dataLe_anti {x y : PyData} (h : alike x y = true) (h1 : dataLe false id x y = true) (h2 : dataLe false id y x = true) : x = y := by
  have a : lexLt itemOrd (keyToks y) (keyToks x) = false := by simpa [dataLe, sortLe] using h1
  have b : lexLt itemOrd (keyToks x) (keyToks y) = false := by simpa [dataLe, sortLe] using h2
  have e := lex_total (O := itemOrd) _ _ b a
  exact (toks_inj x y h [] [] (by rw [e])).1
open PySem.W in
theorem sort_perm {ds es : List PyData} (hal : AllAlike ds) (p : ds.Perm es) : ds.mergeSort (dataLe false id) = es.mergeSort (dataLe false id) := by
  have t := sortLe_total (listOrd itemOrd) false (fun b : PyData => keyToks b)
  have p1 : (ds.mergeSort (dataLe false id)).Perm ds := List.mergeSort_perm _ _
  have p2 : (es.mergeSort (dataLe false id)).Perm es := List.mergeSort_perm _ _
  have s1 : (ds.mergeSort (dataLe false id)).Pairwise (fun a b => dataLe false id a b = true) := sort_pairwise t ds
  have s2 : (es.mergeSort (dataLe false id)).Pairwise (fun a b => dataLe false id a b = true) := sort_pairwise t es
  refine List.Perm.eq_of_pairwise (le := fun a b => dataLe false id a b = true) (fun a b ha hb h1 h2 => ?_) s1 s2 ((p1.trans p).trans p2.symm)
  exact dataLe_anti (hal a (p1.mem_iff.mp ha) b ((p2.trans p.symm).mem_iff.mp hb)) h1 h2
open PySem.W in
theorem perm_sort {ds es : List PyData} (h : ds.mergeSort (dataLe false id) = es.mergeSort (dataLe false id)) : ds.Perm es :=
  (List.mergeSort_perm ds _).symm.trans (h ▸ List.mergeSort_perm es _)
mutual
theorem eqv_self : ∀ d : PyData, Lf d → PyData.eqv d d = true
  | .none, _ => by simp [PyData.eqv]
  | .bool _, _ => by simp [PyData.eqv]
  | .int _, _ => by simp [PyData.eqv]
  | .str _, _ => by simp [PyData.eqv]
  | .list xs, h => by simpa [PyData.eqv] using eqvAll_self xs h
  | .tuple xs, h => by simpa [PyData.eqv] using eqvAll_self xs h
  | .dict _, h => h.elim
theorem eqvAll_self : ∀ ds : List PyData, Lfs ds → PyData.eqvAll ds ds = true
  | [], _ => by simp [PyData.eqvAll]
  | d :: ds, h => by simp [PyData.eqvAll, eqv_self d h.1, eqvAll_self ds h.2]
end
open PySem.W in
mutual
theorem eqv_eq : ∀ x y : PyData, alike x y = true → PyData.eqv x y = true → x = y
  | .none, y, h, e => by cases y <;> simp_all [alike]
  | .bool a, y, h, e => by cases y <;> simp_all [alike, PyData.eqv]
  | .int a, y, h, e => by cases y <;> simp_all [alike, PyData.eqv]
  | .str a, y, h, e => by cases y <;> simp_all [alike, PyData.eqv]
  | .list xs, y, h, e => by
    cases y with
    | list ys => rw [eqvAll_eq xs ys (by simpa [alike] using h) (by simpa [PyData.eqv] using e)]
    | _ => simp [alike] at h
  | .tuple xs, y, h, e => by
    cases y with
    | tuple ys => rw [eqvAll_eq xs ys (by simpa [alike] using h) (by simpa [PyData.eqv] using e)]
    | _ => simp [alike] at h
  | .dict _, y, h, _ => by cases y <;> simp [alike] at h
theorem eqvAll_eq : ∀ xs ys : List PyData, alikeAll xs ys = true → PyData.eqvAll xs ys = true → xs = ys
  | [], [], _, _ => rfl
  | [], _ :: _, _, e => by simp [PyData.eqvAll] at e
  | _ :: _, [], _, e => by simp [PyData.eqvAll] at e
  | x :: xs, y :: ys, h, e => by
    obtain ⟨h1, h2⟩ := alike_all_cons h
    simp only [PyData.eqvAll, Bool.and_eq_true] at e
    rw [eqv_eq x y h1 e.1, eqvAll_eq xs ys h2 e.2]
end
end W3

end
section
set_option autoImplicit false
set_option linter.all false
/-! plain mathematics: ways in a web, two searches -/
namespace M83
abbrev Tie := Int × Int × Int
def Adj (ts : List Tie) (i j : Int) : Prop := ∃ o, (i, j, o) ∈ ts ∨ (j, i, o) ∈ ts
inductive RT (ts : List Tie) (i : Int) : Int → Prop
  | refl : RT ts i i
  | step {j k : Int} : RT ts i j → Adj ts j k → RT ts i k
theorem RT.trans {ts : List Tie} {i j k : Int} (h : RT ts i j) (h' : RT ts j k) : RT ts i k := by
  induction h' with
  | refl => exact h
  | step _ a ih => exact .step ih a
/-- ties of so many parts -/
def TiesOk (n : Nat) (ts : List Tie) : Prop := ∀ t ∈ ts, 0 ≤ t.1 ∧ t.1 < t.2.1 ∧ t.2.1 < (n : Int)
def Whole (n : Nat) (ts : List Tie) : Prop := ∀ j : Nat, j < n → RT ts 0 j

/-! ### lists of neighbours -/
def near1 (N : List (List Int)) (t : Tie) : List (List Int) := (N.modify t.1.toNat (· ++ [t.2.1])).modify t.2.1.toNat (· ++ [t.1])
def nearM (n : Nat) (ts : List Tie) : List (List Int) := ts.foldl near1 (List.replicate n [])
def NearOk (n : Nat) (ts : List Tie) (N : List (List Int)) : Prop := N.length = n ∧ ∀ (i : Nat) (row : List Int), N[i]? = some row → ∀ j, j ∈ row ↔ Adj ts i j
theorem near1_len (N : List (List Int)) (t : Tie) : (near1 N t).length = N.length := by simp [near1]
theorem nearM_snoc (n : Nat) (ts : List Tie) (t : Tie) : nearM n (ts ++ [t]) = near1 (nearM n ts) t := by simp [nearM]
theorem nearM_len (n : Nat) : ∀ ts : List Tie, (nearM n ts).length = n := by
  intro ts
  unfold nearM
  suffices h : ∀ N : List (List Int), N.length = n → (ts.foldl near1 N).length = n from h _ (by simp)
  induction ts with
  | nil => intro N h; exact h
  | cons t ts ih => intro N h; exact ih _ ((near1_len N t).trans h)
theorem nearM_sum (n : Nat) (ts : List Tie) : ∀ (i : Nat) (row : List Int), (nearM n ts)[i]? = some row → row.length ≤ 2 * ts.length := by
  suffices h : ∀ (ts : List Tie) (N : List (List Int)) (b : Nat), (∀ (i : Nat) (row : List Int), N[i]? = some row → row.length ≤ b) → ∀ (i : Nat) (row : List Int), (ts.foldl near1 N)[i]? = some row → row.length ≤ b + 2 * ts.length by
    intro i row hr
    have := h ts (List.replicate n []) 0 (fun i row e => by simp [List.getElem?_replicate] at e; simp [e.2]) i row hr
    omega
  intro ts
  induction ts with
  | nil => intro N b h i row e; have := h i row e; simpa using this
  | cons t ts ih =>
    intro N b h i row e
    have := ih (near1 N t) (b + 2) (fun i row e => by
      unfold near1 at e
      rw [List.getElem?_modify] at e
      obtain ⟨r1, e1, rfl⟩ := Option.map_eq_some_iff.mp e
      rw [List.getElem?_modify] at e1
      obtain ⟨r0, e0, rfl⟩ := Option.map_eq_some_iff.mp e1
      have := h i r0 e0
      (repeat' split) <;> simp <;> omega) i row e
    simp only [List.length_cons]
    omega
theorem nearM_ok (n : Nat) : ∀ ts : List Tie, TiesOk n ts → NearOk n ts (nearM n ts) := by
  suffices h : ∀ (ts done : List Tie) (N : List (List Int)), TiesOk n ts → NearOk n done N → NearOk n (done ++ ts) (ts.foldl near1 N) by
    intro ts ok
    refine h ts [] (List.replicate n []) ok ⟨by simp, fun i row e j => ?_⟩
    simp [List.getElem?_replicate] at e
    simp [e.2, Adj]
  intro ts
  induction ts with
  | nil => intro done N _ h; simpa using h
  | cons t ts ih =>
    intro done N ok h
    have ot := ok t (by simp)
    have := ih (done ++ [t]) (near1 N t) (fun x hx => ok x (by simp [hx])) ⟨by rw [near1_len]; exact h.1, fun i row e j => ?_⟩
    · simpa using this
    · unfold near1 at e
      rw [List.getElem?_modify] at e
      obtain ⟨r1, e1, rfl⟩ := Option.map_eq_some_iff.mp e
      rw [List.getElem?_modify] at e1
      obtain ⟨r0, e0, rfl⟩ := Option.map_eq_some_iff.mp e1
      have m0 := h.2 i r0 e0 j
      obtain ⟨a, b, o⟩ := t
      simp only at ot ⊢
      have adj : Adj (done ++ [(a, b, o)]) i j ↔ Adj done i j ∨ (a = i ∧ b = j) ∨ (a = j ∧ b = i) := by
        unfold Adj
        constructor
        · rintro ⟨o', h | h⟩
          · rcases List.mem_append.mp h with h | h
            · exact .inl ⟨o', .inl h⟩
            · simp at h; exact .inr (.inl ⟨h.1.symm, h.2.1.symm⟩)
          · rcases List.mem_append.mp h with h | h
            · exact .inl ⟨o', .inr h⟩
            · simp at h; exact .inr (.inr ⟨h.1.symm, h.2.1.symm⟩)
        · rintro (⟨o', h | h⟩ | ⟨rfl, rfl⟩ | ⟨rfl, rfl⟩)
          · exact ⟨o', .inl (List.mem_append_left _ h)⟩
          · exact ⟨o', .inr (List.mem_append_left _ h)⟩
          · exact ⟨o, .inl (by simp)⟩
          · exact ⟨o, .inr (by simp)⟩
      rw [adj, ← m0]
      have c1 : a.toNat = i ↔ a = (i : Int) := by omega
      have c2 : b.toNat = i ↔ b = (i : Int) := by omega
      by_cases h1 : a = (i : Int)
      · have h2 : ¬ b = (i : Int) := by omega
        rw [if_neg (fun z => h2 (c2.mp z)), if_pos (c1.mpr h1)]
        simp only [List.mem_append, List.mem_singleton]
        constructor
        · rintro (h | h)
          · exact .inl h
          · exact .inr (.inl ⟨h1, h.symm⟩)
        · rintro (h | ⟨_, h⟩ | ⟨_, h⟩)
          · exact .inl h
          · exact .inr h.symm
          · exact absurd h h2
      · rw [if_neg (fun z => h1 (c1.mp z))]
        by_cases h2 : b = (i : Int)
        · rw [if_pos (c2.mpr h2)]
          simp only [List.mem_append, List.mem_singleton]
          constructor
          · rintro (h | h)
            · exact .inl h
            · exact .inr (.inr ⟨h.symm, h2⟩)
          · rintro (h | ⟨h, _⟩ | ⟨h, _⟩)
            · exact .inl h
            · exact absurd h h1
            · exact .inr h.symm
        · rw [if_neg (fun z => h2 (c2.mp z))]
          constructor
          · exact .inl
          · rintro (h | ⟨h, _⟩ | ⟨_, h⟩)
            · exact h
            · exact absurd h h1
            · exact absurd h h2

/-! ### the search of one piece -/
/-- ways by lists of neighbours -/
inductive RN (N : List (List Int)) (i : Int) : Int → Prop
  | refl : RN N i i
  | step {j k : Int} {row : List Int} : RN N i j → N[j.toNat]? = some row → k ∈ row → RN N i k
/-- rows in bounds -/
def RowsOk (N : List (List Int)) : Prop := ∀ row ∈ N, ∀ j ∈ row, 0 ≤ j ∧ j < (N.length : Int)
def push (q : List Bool × List Int) (o : Int) : List Bool × List Int := if q.1[o.toNat]? = some true then q else (q.1.set o.toNat true, q.2 ++ [o])
def cf (S : List Bool) : Nat := S.count false
theorem cf_set : ∀ {S : List Bool} {i : Nat}, i < S.length → S[i]? ≠ some true → cf (S.set i true) + 1 = cf S
  | [], _, h, _ => by simp at h
  | b :: S, 0, _, h => by
    have hb : b = false := by cases b <;> simp_all
    subst hb; simp [cf]
  | b :: S, i + 1, h, h' => by
    have := cf_set (S := S) (i := i) (by simpa using h) (by simpa using h')
    simp only [cf, List.set_cons_succ, List.count_cons] at this ⊢
    omega
structure Dfs (N : List (List Int)) (s : Int) (F L : List Int) (S : List Bool) : Prop where
  len : S.length = N.length
  fin : ∀ j, j ∈ F ∨ j ∈ L → 0 ≤ j ∧ j < (N.length : Int) ∧ S[j.toNat]? = some true ∧ RN N s j
  all : ∀ j : Int, 0 ≤ j → S[j.toNat]? = some true → j ∈ F ∨ j ∈ L
  clo : ∀ i ∈ F, ∀ row, N[i.toNat]? = some row → ∀ j ∈ row, S[j.toNat]? = some true
  st : S[s.toNat]? = some true
  s0 : 0 ≤ s
theorem push_len {q : List Bool × List Int} {o : Int} : (push q o).1.length = q.1.length := by unfold push; split <;> simp
theorem push_old {q : List Bool × List Int} {o j : Int} (h : q.1[j.toNat]? = some true) : (push q o).1[j.toNat]? = some true := by
  unfold push; split
  · exact h
  · simp only [List.getElem?_set]
    split
    · rename_i e
      have := (List.getElem?_eq_some_iff.mp h).1
      rw [if_pos (by omega)]
    · exact h
theorem push_new {q : List Bool × List Int} {o : Int} (h : o.toNat < q.1.length) : (push q o).1[o.toNat]? = some true := by
  unfold push; split
  · assumption
  · simp [h]
theorem push_cnt {q : List Bool × List Int} {o : Int} (h : o.toNat < q.1.length) : (push q o).2.length + cf (push q o).1 = q.2.length + cf q.1 := by
  unfold push; split
  · rfl
  · rename_i h'
    have := cf_set h h'
    simp only [List.length_append, List.length_singleton]
    omega
theorem pushes {N : List (List Int)} (q0 : List Bool × List Int) (hl : q0.1.length = N.length) : ∀ (row : List Int), (∀ j ∈ row, 0 ≤ j ∧ j < (N.length : Int)) →
    (row.foldl push q0).1.length = N.length ∧ (∀ j : Int, q0.1[j.toNat]? = some true → (row.foldl push q0).1[j.toNat]? = some true) ∧ (∀ j ∈ row, (row.foldl push q0).1[j.toNat]? = some true) ∧
    (row.foldl push q0).2.length + cf (row.foldl push q0).1 = q0.2.length + cf q0.1 ∧
    (∀ j ∈ (row.foldl push q0).2, j ∈ q0.2 ∨ (j ∈ row ∧ (row.foldl push q0).1[j.toNat]? = some true)) ∧ (∀ j ∈ q0.2, j ∈ (row.foldl push q0).2) ∧
    (∀ j : Int, 0 ≤ j → (row.foldl push q0).1[j.toNat]? = some true → q0.1[j.toNat]? = some true ∨ j ∈ (row.foldl push q0).2) := by
  intro row
  induction row generalizing q0 with
  | nil => intro _; exact ⟨hl, fun _ h => h, fun j h => by simp at h, rfl, fun j h => .inl h, fun j h => h, fun j _ h => .inl h⟩
  | cons o row ih =>
    intro ok
    have oo := ok o (by simp)
    have ho : o.toNat < q0.1.length := by omega
    obtain ⟨a1, a2, a3, a4, a5, a6, a7⟩ := ih (push q0 o) (push_len.trans hl) (fun j hj => ok j (by simp [hj]))
    refine ⟨a1, fun j h => a2 j (push_old h), fun j hj => ?_, a4.trans (push_cnt ho), fun j hj => ?_, fun j hj => a6 j ?_, fun j j0 h => ?_⟩
    · rcases List.mem_cons.mp hj with rfl | hj
      · exact a2 _ (push_new ho)
      · exact a3 j hj
    · rcases a5 j hj with h | ⟨h, h'⟩
      · have : j ∈ q0.2 ∨ j = o := by
          unfold push at h; split at h
          · exact .inl h
          · simpa using h
        rcases this with h | rfl
        · exact .inl h
        · exact .inr ⟨by simp, a2 _ (push_new ho)⟩
      · exact .inr ⟨by simp [h], h'⟩
    · unfold push; split
      · exact hj
      · simp [hj]
    · rcases a7 j j0 h with h | h
      · unfold push at h; split at h
        · exact .inl h
        · rename_i hn
          simp only [List.getElem?_set] at h
          split at h
          · rename_i e
            have e2 : j = o := by omega
            subst e2
            refine .inr (a6 _ ?_)
            unfold push; rw [if_neg hn]; simp
          · exact .inl h
      · exact .inr h
theorem dfs_step {N : List (List Int)} {s part : Int} {F L : List Int} {S : List Bool} {row : List Int} (ok : RowsOk N) (h : Dfs N s F (L ++ [part]) S) (hr : N[part.toNat]? = some row) :
    Dfs N s (F ++ [part]) (row.foldl push (S, L)).2 (row.foldl push (S, L)).1 ∧ (row.foldl push (S, L)).2.length + cf (row.foldl push (S, L)).1 < (L ++ [part]).length + cf S := by
  have hrow : ∀ j ∈ row, 0 ≤ j ∧ j < (N.length : Int) := ok row (List.mem_of_getElem? hr)
  have pp := h.fin part (by simp)
  obtain ⟨a1, a2, a3, a4, a5, a6, a7⟩ := pushes (N := N) (S, L) h.len row hrow
  refine ⟨⟨a1, fun j hj => ?_, fun j j0 hj => ?_, fun i hi rw_ hrw j hj => ?_, a2 _ h.st, h.s0⟩, ?_⟩
  · have old : ∀ j, j ∈ F ∨ j ∈ L ++ [part] → 0 ≤ j ∧ j < (N.length : Int) ∧ (row.foldl push (S, L)).1[j.toNat]? = some true ∧ RN N s j := fun j hj => by
      obtain ⟨b1, b2, b3, b4⟩ := h.fin j hj
      exact ⟨b1, b2, a2 j b3, b4⟩
    rcases hj with hj | hj
    · rcases List.mem_append.mp hj with hj | hj
      · exact old j (.inl hj)
      · exact old j (.inr (by simp at hj; simp [hj]))
    · rcases a5 j hj with hj | ⟨hj, hj'⟩
      · exact old j (.inr (by simp only [List.mem_append]; exact .inl hj))
      · exact ⟨(hrow j hj).1, (hrow j hj).2, hj', .step pp.2.2.2 hr hj⟩
  · rcases a7 j j0 hj with hj | hj
    · rcases h.all j j0 hj with hj | hj
      · exact .inl (by simp [hj])
      · rcases List.mem_append.mp hj with hj | hj
        · exact .inr (a6 j hj)
        · exact .inl (by simp at hj; simp [hj])
    · exact .inr hj
  · rcases List.mem_append.mp hi with hi | hi
    · exact a2 j (h.clo i hi rw_ hrw j hj)
    · simp at hi; subst hi
      rw [hr] at hrw; cases hrw
      exact a3 j hj
  · simp only [List.length_append, List.length_singleton] at a4 ⊢
    omega
theorem dfs_end {N : List (List Int)} {s : Int} {F : List Int} {S : List Bool} (ok : RowsOk N) (h : Dfs N s F [] S) : ∀ j, j ∈ F ↔ RN N s j := by
  intro j
  constructor
  · intro hj; exact (h.fin j (.inl hj)).2.2.2
  · intro r
    have : S[j.toNat]? = some true ∧ 0 ≤ j := by
      induction r with
      | refl => exact ⟨h.st, h.s0⟩
      | step _ hrow hk ih =>
        rcases h.all _ ih.2 ih.1 with hF | hF
        · exact ⟨h.clo _ hF _ hrow _ hk, (ok _ (List.mem_of_getElem? hrow) _ hk).1⟩
        · simp at hF
    rcases h.all j this.2 this.1 with h | h
    · exact h
    · simp at h
theorem dfs_start {N : List (List Int)} {s : Int} (h0 : 0 ≤ s) (h1 : s < (N.length : Int)) : Dfs N s [] [s] ((List.replicate N.length false).set s.toNat true) := by
  refine ⟨by simp, fun j hj => ?_, fun j j0 hj => ?_, fun i hi => by simp at hi, ?_, h0⟩
  · simp at hj; subst hj
    refine ⟨h0, h1, ?_, .refl⟩
    rw [List.getElem?_set_self (by simp; omega)]
  · rw [List.getElem?_set] at hj
    split at hj
    · rename_i e
      right; simp; omega
    · simp [List.getElem?_replicate] at hj
  · rw [List.getElem?_set_self (by simp; omega)]

theorem RN.trans {N : List (List Int)} {i j k : Int} (h : RN N i j) (h' : RN N j k) : RN N i k := by
  induction h' with
  | refl => exact h
  | step _ a b ih => exact .step ih a b
theorem rn_rt {n : Nat} {ts : List Tie} {N : List (List Int)} (ok : TiesOk n ts) (h : NearOk n ts N) {i j : Int} (i0 : 0 ≤ i) : RN N i j ↔ RT ts i j := by
  have nn : ∀ {j}, RT ts i j → 0 ≤ j := by
    intro j r
    induction r with
    | refl => exact i0
    | step _ a _ =>
      obtain ⟨o, a | a⟩ := a
      · have := ok _ a; simp only at this; omega
      · have := ok _ a; simp only at this; omega
  constructor
  · intro r
    induction r with
    | refl => exact .refl
    | @step j k row _ hr hk ih =>
      refine .step ih ?_
      have j0 := nn ih
      have := (h.2 j.toNat row hr k).mp hk
      rwa [show ((j.toNat : Nat) : Int) = j by omega] at this
  · intro r
    induction r with
    | refl => exact .refl
    | @step j k r' a ih =>
      have j0 := nn r'
      have jn : j < (n : Int) := by
        obtain ⟨o, a | a⟩ := a
        · have := ok _ a; simp only at this; omega
        · have := ok _ a; simp only at this; omega
      have lt : j.toNat < N.length := by rw [h.1]; omega
      refine .step ih (List.getElem?_eq_getElem lt) ?_
      refine (h.2 j.toNat _ (List.getElem?_eq_getElem lt) k).mpr ?_
      rwa [show ((j.toNat : Nat) : Int) = j by omega]
theorem near_rows {n : Nat} {ts : List Tie} {N : List (List Int)} (ok : TiesOk n ts) (h : NearOk n ts N) : RowsOk N := by
  intro row hr j hj
  obtain ⟨i, hi⟩ := List.getElem?_of_mem hr
  obtain ⟨o, a | a⟩ := (h.2 i row hi j).mp hj
  · have := ok _ a; simp only at this; rw [h.1]; omega
  · have := ok _ a; simp only at this; rw [h.1]; omega

/-! ### counting pieces -/
structure Pcs (N : List (List Int)) (k c : Nat) (S : List Bool) : Prop where
  len : S.length = N.length
  seen : ∀ j : Nat, j < N.length → (S[j]? = some true ↔ ∃ i : Nat, i < k ∧ RN N i j)
  c0 : k = 0 → c = 0
  c1 : 0 < k → 0 < c ∧ (c ≤ 1 ↔ ∀ i : Nat, i < k → RN N 0 i)
theorem pcs_start (N : List (List Int)) : Pcs N 0 0 (List.replicate N.length false) := ⟨by simp, fun j hj => by simp [List.getElem?_replicate], fun _ => rfl, fun h => absurd h (Nat.lt_irrefl _)⟩
theorem pcs_skip {N : List (List Int)} {k c : Nat} {S : List Bool} (h : Pcs N k c S) (hk : k < N.length) (hs : S[k]? = some true) : Pcs N (k + 1) c S := by
  obtain ⟨i, hi, r⟩ := (h.seen k hk).mp hs
  refine ⟨h.len, fun j hj => ?_, fun e => by omega, fun _ => ?_⟩
  · rw [h.seen j hj]
    constructor
    · rintro ⟨i', h1, h2⟩; exact ⟨i', by omega, h2⟩
    · rintro ⟨i', h1, h2⟩
      by_cases e : i' = k
      · subst e; exact ⟨i, hi, r.trans h2⟩
      · exact ⟨i', by omega, h2⟩
  · obtain ⟨a, b⟩ := h.c1 (by omega)
    refine ⟨a, b.trans ⟨fun q i' hi' => ?_, fun q i' hi' => q i' (by omega)⟩⟩
    by_cases e : i' = k
    · subst e; exact (q i hi).trans r
    · exact q i' (by omega)
/-- marking the parts of a piece -/
def marks (S : List Bool) (ms : List Int) : List Bool := ms.foldl (fun S j => S.set j.toNat true) S
theorem marks_get {ms : List Int} : ∀ {S : List Bool}, (marks S ms).length = S.length ∧ ∀ j : Nat, j < S.length → ((marks S ms)[j]? = some true ↔ S[j]? = some true ∨ ∃ m ∈ ms, m.toNat = j) := by
  induction ms with
  | nil => intro S; exact ⟨rfl, fun j _ => by simp [marks]⟩
  | cons m ms ih =>
    intro S
    obtain ⟨a, b⟩ := ih (S := S.set m.toNat true)
    refine ⟨by simpa [marks] using a, fun j hj => ?_⟩
    have := b j (by simpa using hj)
    show (marks (S.set m.toNat true) ms)[j]? = some true ↔ _
    rw [this, List.getElem?_set]
    constructor
    · rintro (h | ⟨x, hx, e⟩)
      · split at h
        · rename_i e; exact .inr ⟨m, by simp, e⟩
        · exact .inl h
      · exact .inr ⟨x, by simp [hx], e⟩
    · rintro (h | ⟨x, hx, e⟩)
      · by_cases e : m.toNat = j
        · left; rw [if_pos e, if_pos (by omega)]
        · left; rw [if_neg e]; exact h
      · rcases List.mem_cons.mp hx with rfl | hx
        · left; rw [if_pos e, if_pos (by omega)]
        · exact .inr ⟨x, hx, e⟩
theorem pcs_new {N : List (List Int)} {k c : Nat} {S : List Bool} {ms : List Int} (ok : RowsOk N) (h : Pcs N k c S) (hk : k < N.length) (hs : S[k]? ≠ some true) (hm : ∀ j, j ∈ ms ↔ RN N k j) : Pcs N (k + 1) (c + 1) (marks S ms) := by
  obtain ⟨a, b⟩ := marks_get (ms := ms) (S := S)
  have nn : ∀ j, RN N k j → 0 ≤ j := by
    intro j r
    induction r with
    | refl => omega
    | step _ hr hj _ => exact (ok _ (List.mem_of_getElem? hr) _ hj).1
  refine ⟨a.trans h.len, fun j hj => ?_, fun e => by omega, fun _ => ⟨by omega, ?_⟩⟩
  · rw [b j (by rw [h.len]; exact hj), h.seen j hj]
    constructor
    · rintro (⟨i, h1, h2⟩ | ⟨m, hm', e⟩)
      · exact ⟨i, by omega, h2⟩
      · have r := (hm m).mp hm'
        have := nn m r
        exact ⟨k, by omega, by rwa [show (j : Int) = m by omega]⟩
    · rintro ⟨i, h1, h2⟩
      by_cases e : i = k
      · subst e; exact .inr ⟨j, (hm j).mpr h2, by omega⟩
      · exact .inl ⟨i, by omega, h2⟩
  · by_cases k0 : k = 0
    · subst k0
      rw [h.c0 rfl]
      refine ⟨fun _ i hi => ?_, fun _ => by omega⟩
      have : i = 0 := by omega
      subst this; exact .refl
    · obtain ⟨c1, c2⟩ := h.c1 (by omega)
      constructor
      · intro h1; omega
      · intro q
        exfalso
        apply hs
        rw [h.seen k hk]
        exact ⟨0, by omega, q k (by omega)⟩
theorem pcs_end {n : Nat} {ts : List Tie} {N : List (List Int)} {c : Nat} {S : List Bool} (ok : TiesOk n ts) (hN : NearOk n ts N) (h : Pcs N n c S) : c < 2 ↔ Whole n ts := by
  by_cases n0 : n = 0
  · have := h.c0 n0
    constructor
    · intro _ j hj; omega
    · intro _; omega
  · obtain ⟨_, b⟩ := h.c1 (by omega)
    have : c < 2 ↔ c ≤ 1 := by omega
    rw [this, b]
    constructor
    · intro q j hj; exact (rn_rt ok hN (by omega)).mp (q j hj)
    · intro q j hj; exact (rn_rt ok hN (by omega)).mpr (q j hj)

/-! ### the other way: meeting parts tie by tie -/
def meet1 (M : List Int) (t : Tie) : List Int := if decide (t.1 ∈ M) ≠ decide (t.2.1 ∈ M) then M ++ [if t.1 ∈ M then t.2.1 else t.1] else M
def meets (ts : List Tie) (M : List Int) : List Int := ts.foldl meet1 M
def rounds (ts : List Tie) : Nat → List Int → List Int
  | 0, M => M
  | k + 1, M => meets ts (rounds ts k M)
structure Met (n : Nat) (ts : List Tie) (M : List Int) : Prop where
  nd : M.Nodup
  fin : ∀ j ∈ M, 0 ≤ j ∧ j < (n : Int) ∧ RT ts 0 j
theorem meet1_met {n : Nat} {ts : List Tie} {M : List Int} {t : Tie} (ok : TiesOk n ts) (ht : t ∈ ts) (h : Met n ts M) : Met n ts (meet1 M t) := by
  obtain ⟨a, b, o⟩ := t
  have o1 := ok _ ht
  simp only at o1
  unfold meet1
  simp only
  split
  · rename_i hne
    by_cases ha : a ∈ M
    · have hb : b ∉ M := fun hb => hne (by simp [ha, hb])
      rw [if_pos ha]
      refine ⟨List.nodup_append.mpr ⟨h.nd, by simp, fun x hx y hy => by simp at hy; subst hy; intro e; subst e; exact hb hx⟩, fun j hj => ?_⟩
      rcases List.mem_append.mp hj with hj | hj
      · exact h.fin j hj
      · simp at hj; subst hj
        exact ⟨by omega, by omega, .step (h.fin a ha).2.2 ⟨o, .inl ht⟩⟩
    · have hb : b ∈ M := by
        by_cases hb : b ∈ M
        · exact hb
        · exact absurd (by simp [ha, hb]) hne
      rw [if_neg ha]
      refine ⟨List.nodup_append.mpr ⟨h.nd, by simp, fun x hx y hy => by simp at hy; subst hy; intro e; subst e; exact ha hx⟩, fun j hj => ?_⟩
      rcases List.mem_append.mp hj with hj | hj
      · exact h.fin j hj
      · simp at hj; subst hj
        exact ⟨by omega, by omega, .step (h.fin b hb).2.2 ⟨o, .inr ht⟩⟩
  · exact h
theorem meet1_pre {M : List Int} {t : Tie} : M <+: meet1 M t := by unfold meet1; split <;> simp
theorem meets_pre : ∀ {ts : List Tie} {M : List Int}, M <+: meets ts M
  | [], M => List.prefix_refl _
  | t :: ts, M => List.IsPrefix.trans meet1_pre (meets_pre (ts := ts) (M := meet1 M t))
theorem meets_met {n : Nat} {ts : List Tie} (ok : TiesOk n ts) : ∀ {us : List Tie} {M : List Int}, (∀ t ∈ us, t ∈ ts) → Met n ts M → Met n ts (meets us M)
  | [], _, _, h => h
  | t :: us, M, hu, h => meets_met ok (us := us) (fun t ht => hu t (by simp [ht])) (meet1_met ok (hu t (by simp)) h)
theorem meets_same : ∀ {us : List Tie} {M : List Int}, (meets us M).length = M.length → ∀ t ∈ us, (t.1 ∈ M ↔ t.2.1 ∈ M)
  | [], _, _, t, ht => by simp at ht
  | u :: us, M, h, t, ht => by
    have l1 := (meet1_pre (M := M) (t := u)).length_le
    have l2 := (meets_pre (ts := us) (M := meet1 M u)).length_le
    have h' : (meets us (meet1 M u)).length = M.length := h
    have e1 : (meet1 M u).length = M.length := by omega
    have e2 : meet1 M u = M := (meet1_pre.eq_of_length e1.symm).symm
    rcases List.mem_cons.mp ht with rfl | ht
    · unfold meet1 at e2
      split at e2
      · simp at e2
      · rename_i hne
        have := Decidable.not_not.mp hne
        simpa using this
    · rw [e2] at h'
      exact meets_same h' t ht
theorem nodup_below : ∀ (n : Nat) (l : List Nat), l.Nodup → (∀ x ∈ l, x < n) → l.length ≤ n
  | 0, l, _, h => by
    cases l with
    | nil => simp
    | cons a l => exact absurd (h a (by simp)) (Nat.not_lt_zero _)
  | n + 1, l, nd, h => by
    by_cases hn : n ∈ l
    · have := nodup_below n (l.erase n) (nd.erase n) (fun x hx => by
        obtain ⟨h1, h2⟩ := (nd.mem_erase_iff).mp hx
        have := h x h2
        omega)
      rw [List.length_erase_of_mem hn] at this
      omega
    · have := nodup_below n l nd (fun x hx => by
        have := h x hx
        have : x ≠ n := fun e => hn (e ▸ hx)
        omega)
      omega
theorem met_len {n : Nat} {ts : List Tie} {M : List Int} (h : Met n ts M) : M.length ≤ n := by
  have nd : (M.map Int.toNat).Nodup := by
    rw [List.nodup_iff_pairwise_ne, List.pairwise_map]
    refine List.Pairwise.imp_of_mem (fun {a b} ha hb hab => ?_) (List.nodup_iff_pairwise_ne.mp h.nd)
    have := h.fin a ha
    have := h.fin b hb
    omega
  have s := nodup_below n (M.map Int.toNat) nd (fun x hx => by
    obtain ⟨j, hj, rfl⟩ := List.mem_map.mp hx
    have := h.fin j hj
    omega)
  simpa using s
theorem rounds_met {n : Nat} {ts : List Tie} (ok : TiesOk n ts) (n0 : 0 < n) : ∀ k, Met n ts (rounds ts k [0])
  | 0 => ⟨by simp [rounds], fun j hj => by simp [rounds] at hj; subst hj; exact ⟨by omega, by omega, .refl⟩⟩
  | k + 1 => meets_met ok (fun t h => h) (rounds_met ok n0 k)
theorem rounds_grow (ts : List Tie) : ∀ k, (rounds ts k [0]).length ≥ k + 1 ∨ ∃ M, rounds ts k [0] = M ∧ (meets ts M).length = M.length
  | 0 => .inl (by simp [rounds])
  | k + 1 => by
    rcases rounds_grow ts k with h | ⟨M, e, h⟩
    · have l := (meets_pre (ts := ts) (M := rounds ts k [0])).length_le
      by_cases e : (meets ts (rounds ts k [0])).length = (rounds ts k [0]).length
      · right
        have e2 : meets ts (rounds ts k [0]) = rounds ts k [0] := (meets_pre.eq_of_length e.symm).symm
        refine ⟨_, rfl, ?_⟩
        show (meets ts (meets ts (rounds ts k [0]))).length = (meets ts (rounds ts k [0])).length
        rw [e2]; exact e
      · left
        show (meets ts (rounds ts k [0])).length ≥ k + 1 + 1
        omega
    · right
      have e2 : meets ts M = M := (meets_pre.eq_of_length h.symm).symm
      refine ⟨M, ?_, h⟩
      show meets ts (rounds ts k [0]) = M
      rw [e]; exact e2
theorem rounds_closed {n : Nat} {ts : List Tie} (ok : TiesOk n ts) (n0 : 0 < n) : ∀ t ∈ ts, (t.1 ∈ rounds ts n [0] ↔ t.2.1 ∈ rounds ts n [0]) := by
  rcases rounds_grow ts n with h | ⟨M, e, h⟩
  · have := met_len (rounds_met ok n0 n)
    omega
  · rw [e]; exact meets_same h
theorem zero_rounds (ts : List Tie) : ∀ k, (0 : Int) ∈ rounds ts k [0]
  | 0 => by simp [rounds]
  | k + 1 => (meets_pre (ts := ts) (M := rounds ts k [0])).subset (zero_rounds ts k)
/-- what the law counts: the parts met are as many as the parts exactly if the web is one piece -/
theorem rounds_whole {n : Nat} {ts : List Tie} (ok : TiesOk n ts) (n0 : 0 < n) : (rounds ts n [0]).length = n ↔ Whole n ts := by
  have hm := rounds_met ok n0 n
  have clo := rounds_closed ok n0
  have reach : ∀ j, RT ts 0 j → j ∈ rounds ts n [0] := by
    intro j r
    induction r with
    | refl => exact zero_rounds ts n
    | step _ a ih =>
      obtain ⟨o, a | a⟩ := a
      · exact (clo _ a).mp ih
      · exact (clo _ a).mpr ih
  constructor
  · intro hl j hj
    -- every number below n is met
    have : (j : Int) ∈ rounds ts n [0] := by
      refine Decidable.byContradiction fun hn => ?_
      have h2 : Met n ts (rounds ts n [0]) := hm
      have nd : ((j :: (rounds ts n [0]).map Int.toNat)).Nodup := by
        refine List.nodup_cons.mpr ⟨fun hx => ?_, ?_⟩
        · obtain ⟨x, hx, e⟩ := List.mem_map.mp hx
          have := h2.fin x hx
          exact hn (by rwa [show (j : Int) = x by omega])
        · rw [List.nodup_iff_pairwise_ne, List.pairwise_map]
          refine List.Pairwise.imp_of_mem (fun {a b} ha hb hab => ?_) (List.nodup_iff_pairwise_ne.mp h2.nd)
          have := h2.fin a ha
          have := h2.fin b hb
          omega
      have := nodup_below n _ nd (fun x hx => by
        rcases List.mem_cons.mp hx with rfl | hx
        · exact hj
        · obtain ⟨y, hy, rfl⟩ := List.mem_map.mp hx
          have := h2.fin y hy
          omega)
      simp at this
      omega
    exact (hm.fin _ this).2.2
  · intro w
    have h1 := met_len hm
    have h2 : (List.range n).length ≤ (rounds ts n [0]).length := by
      have sub : ∀ x ∈ List.range n, (x : Int) ∈ rounds ts n [0] := fun x hx => reach _ (w x (by simpa using hx))
      have nd : ∀ (l : List Nat) (M : List Int), l.Nodup → (∀ x ∈ l, (x : Int) ∈ M) → l.length ≤ M.length := by
        intro l
        induction l with
        | nil => intro M _ _; simp
        | cons x l ih =>
          intro M nd h
          have hx := h x (by simp)
          have := ih (M.erase x) (List.nodup_cons.mp nd).2 (fun y hy => by
            refine (List.mem_erase_of_ne (fun e => ?_)).mpr (h y (by simp [hy]))
            have : y = x := by omega
            subst this
            exact (List.nodup_cons.mp nd).1 hy)
          rw [List.length_erase_of_mem hx] at this
          have := List.length_pos_of_mem hx
          simp; omega
      exact nd _ _ (List.nodup_range) sub
    simp at h2
    omega
end M83

end
section
set_option autoImplicit false
set_option linter.all false
/-! plain mathematics: choices of ties -/
namespace M83
def pairsRow (i j : Nat) : List (Int × Int) := (List.range j).map fun (k : Nat) => ((i : Int), (i : Int) + 1 + (k : Int))
def pairsTo (n i : Nat) : List (Int × Int) := (List.range i).flatMap fun a => pairsRow a (n - (a + 1))
def pairsM (n : Nat) : List (Int × Int) := pairsTo n n
theorem pairsRow_succ (i j : Nat) : pairsRow i (j + 1) = pairsRow i j ++ [((i : Int), (i : Int) + 1 + (j : Int))] := by simp [pairsRow, List.range_succ]
theorem pairsTo_succ (n i : Nat) : pairsTo n (i + 1) = pairsTo n i ++ pairsRow i (n - (i + 1)) := by simp [pairsTo, List.range_succ]
theorem pairsTo_len (n : Nat) : ∀ i, i ≤ n → (pairsTo n i).length ≤ i * n
  | 0, _ => by simp [pairsTo]
  | i + 1, h => by
    rw [pairsTo_succ, List.length_append]
    have := pairsTo_len n i (by omega)
    simp only [pairsRow, List.length_map, List.length_range, Nat.succ_mul]
    omega
theorem pairsM_len (n : Nat) : 2 * (pairsM n).length = n * (n - 1) := by
  suffices h : ∀ i, i ≤ n → 2 * (pairsTo n i).length + i * (i + 1) = 2 * i * n from by
    have := h n (Nat.le_refl _)
    show 2 * (pairsTo n n).length = _
    cases n with
    | zero => simp [pairsTo]
    | succ n =>
      simp only [Nat.add_sub_cancel]
      have e1 : 2 * (n + 1) * (n + 1) = (n + 1) * (n + 1 + 1) + (n + 1) * n := by
        rw [← Nat.mul_add, Nat.mul_assoc, Nat.mul_comm 2]
        rw [Nat.mul_assoc]; congr 1; omega
      omega
  intro i
  induction i with
  | zero => intro _; simp [pairsTo]
  | succ i ih =>
    intro h
    have := ih (by omega)
    rw [pairsTo_succ, List.length_append]
    simp only [pairsRow, List.length_map, List.length_range]
    have e1 : (i + 1) * (i + 1 + 1) = i * (i + 1) + 2 * (i + 1) := by
      rw [Nat.mul_comm, ← Nat.add_mul]
    have e2 : 2 * (i + 1) * n = 2 * i * n + 2 * n := by
      rw [Nat.mul_add, Nat.add_mul]
    omega
/-- the program's step: no tie of the pair, or a tie of each order behind -/
def grow1 (os : List Int) (rows : List (List Tie)) (p : Int × Int) : List (List Tie) := rows ++ rows.flatMap fun r => os.map fun o => r ++ [(p.1, p.2, o)]
def choicesM (os : List Int) (ps : List (Int × Int)) : List (List Tie) := ps.foldl (grow1 os) [[]]
/-- the law's step -/
def growL (os : List Int) (rows : List (List Tie)) (p : Int × Int) : List (List Tie) := rows.flatMap fun r => ([] :: os.map fun o => [(p.1, p.2, o)]).map fun t => r ++ t
def choicesL (os : List Int) (ps : List (Int × Int)) : List (List Tie) := ps.foldl (growL os) [[]]
theorem grow1_len (os : List Int) (rows : List (List Tie)) (p : Int × Int) : (grow1 os rows p).length = rows.length * (os.length + 1) := by
  unfold grow1
  rw [List.length_append]
  have : (rows.flatMap fun r => os.map fun o => r ++ [(p.1, p.2, o)]).length = rows.length * os.length := by
    induction rows with
    | nil => simp
    | cons r rows ih => simp only [List.flatMap_cons, List.length_append, List.length_map, ih, List.length_cons, Nat.succ_mul]; omega
  rw [this, Nat.mul_succ]; omega
theorem choices_len (os : List Int) (ps : List (Int × Int)) : (choicesM os ps).length = (os.length + 1) ^ ps.length := by
  suffices h : ∀ (ps : List (Int × Int)) (rows : List (List Tie)), (ps.foldl (grow1 os) rows).length = rows.length * (os.length + 1) ^ ps.length by
    have := h ps [[]]
    simpa [choicesM] using this
  intro ps
  induction ps with
  | nil => intro rows; simp
  | cons p ps ih => intro rows; simp only [List.foldl_cons, ih, grow1_len, List.length_cons, Nat.pow_succ]; rw [Nat.mul_assoc, Nat.mul_comm (os.length + 1)]
theorem grow1_perm {os : List Int} {rows rows' : List (List Tie)} (p : Int × Int) (h : rows.Perm rows') : (grow1 os rows p).Perm (growL os rows' p) := by
  have a : (growL os rows p).Perm (growL os rows' p) := h.flatMap_right _
  refine List.Perm.trans ?_ a
  unfold grow1 growL
  have : ∀ rows : List (List Tie), (rows ++ rows.flatMap fun r => os.map fun o => r ++ [(p.1, p.2, o)]).Perm (rows.flatMap fun r => r :: os.map fun o => r ++ [(p.1, p.2, o)]) := by
    intro rows
    induction rows with
    | nil => simp
    | cons r rows ih =>
      simp only [List.flatMap_cons, List.cons_append]
      refine List.Perm.cons r ?_
      refine List.Perm.trans ?_ (List.Perm.append_left _ ih)
      rw [← List.append_assoc, ← List.append_assoc]
      exact List.Perm.append_right _ List.perm_append_comm
  have e : (rows.flatMap fun r => ([] :: os.map fun o => [(p.1, p.2, o)]).map fun t => r ++ t) = rows.flatMap fun r => r :: os.map fun o => r ++ [(p.1, p.2, o)] := by
    congr 1; funext r; simp [Function.comp_def]
  rw [e]
  exact this rows
theorem choices_perm (os : List Int) (ps : List (Int × Int)) : (choicesM os ps).Perm (choicesL os ps) := by
  suffices h : ∀ (ps : List (Int × Int)) (rows rows' : List (List Tie)), rows.Perm rows' → (ps.foldl (grow1 os) rows).Perm (ps.foldl (growL os) rows') from h ps _ _ (List.Perm.refl _)
  intro ps
  induction ps with
  | nil => intro rows rows' h; exact h
  | cons p ps ih => intro rows rows' h; exact ih _ _ (grow1_perm p h)
/-- every tie of a choice is of a told pair and order -/
theorem choices_fin {os : List Int} {ps : List (Int × Int)} {B : Tie → Prop} (h : ∀ p ∈ ps, ∀ o ∈ os, B (p.1, p.2, o)) : ∀ r ∈ choicesM os ps, (∀ t ∈ r, B t) ∧ r.length ≤ ps.length := by
  suffices hh : ∀ (ps : List (Int × Int)) (rows : List (List Tie)) (k : Nat), (∀ p ∈ ps, ∀ o ∈ os, B (p.1, p.2, o)) → (∀ r ∈ rows, (∀ t ∈ r, B t) ∧ r.length ≤ k) → ∀ r ∈ ps.foldl (grow1 os) rows, (∀ t ∈ r, B t) ∧ r.length ≤ k + ps.length by
    intro r hr
    have := hh ps [[]] 0 h (fun r hr => by simp at hr; subst hr; simp) r hr
    simpa using this
  intro ps
  induction ps with
  | nil => intro rows k _ h; simpa using h
  | cons p ps ih =>
    intro rows k hp h r hr
    have := ih (grow1 os rows p) (k + 1) (fun q hq => hp q (by simp [hq])) (fun r hr => by
      unfold grow1 at hr
      rcases List.mem_append.mp hr with hr | hr
      · exact ⟨(h r hr).1, by have := (h r hr).2; omega⟩
      · obtain ⟨r0, hr0, hr⟩ := List.mem_flatMap.mp hr
        obtain ⟨o, ho, rfl⟩ := List.mem_map.mp hr
        refine ⟨fun t ht => ?_, by have := (h r0 hr0).2; simp; omega⟩
        rcases List.mem_append.mp ht with ht | ht
        · exact (h r0 hr0).1 t ht
        · simp at ht; subst ht; exact hp p (by simp) o ho) r hr
    refine ⟨this.1, by have := this.2; simp; omega⟩
end M83

end
section
set_option Elab.async false
set_option linter.all false
set_option maxRecDepth 100000
set_option maxHeartbeats 4000000
namespace W3
open PySem PySem.Spec PyProof.Rows L2 M83
open Evl (Ex)
section
variable {P : Program} {w : World} {K : PySem.W.Frag} {mg : Str → Option Value} {base : Heap}
/-! ### want_at_most -/
def p_want : Sp3 := fun vs H Q => ∃ (x : V) (l n : Int), vs = [x, .int l, .int n] ∧ n ≤ l ∧ ∀ H', Ex H H' → Q .non H'
/-! ### times_itself -/
def p_times : Sp3 := fun vs H Q => ∃ (a : Int) (n : Nat), vs = [.int a, .int n] ∧ 0 ≤ a ∧ a ≤ 1000 ∧ n ≤ 1000 ∧ ∀ H', Ex H H' → Q (.int (a ^ n)) H'
/-! ### near_of -/
def eInts (ns : List Int) : PyData := .list (ns.map .int)
def eTie (t : Tie) : PyData := .tuple [.int t.1, .int t.2.1, .int t.2.2]
def eTies (ts : List Tie) : PyData := .list (ts.map eTie)
def eNear (N : List (List Int)) : PyData := .list (N.map eInts)
theorem tie_at {H : Hp} {t : Tie} {v : V} (h : Dt H (eTie t) v) : ∃ p, v = .ref p ∧ H p = some (.tup [.int t.1, .int t.2.1, .int t.2.2]) := by
  obtain ⟨p, xs, rfl, hp, x, r, rfl, rfl, y, r2, rfl, rfl, z, r3, rfl, rfl, rfl⟩ := h
  exact ⟨p, rfl, hp⟩
theorem tie_mk {H : Hp} {p : Addr} {a b c : Int} (h : H p = some (.tup [.int a, .int b, .int c])) : Dt H (eTie (a, b, c)) (.ref p) := ⟨p, _, rfl, h, _, _, rfl, rfl, _, _, rfl, rfl, _, _, rfl, rfl, rfl⟩
theorem ints_at {H : Hp} {ns : List Int} {v : V} (h : Dt H (eInts ns) v) : ∃ p, v = .ref p ∧ H p = some (.lst (ns.map V.int)) := by
  obtain ⟨p, xs, rfl, hp, hx⟩ := h
  rw [Dts.ints.mp hx] at hp
  exact ⟨p, rfl, hp⟩
theorem ints_mk {H : Hp} {ns : List Int} {p : Addr} (h : H p = some (.lst (ns.map V.int))) : Dt H (eInts ns) (.ref p) := ⟨p, _, rfl, h, Dts.ints.mpr rfl⟩
/-- an item of a list of data -/
theorem item {α : Type} {H : Hp} {enc : α → PyData} {as : List α} {xs : List V} {i : Nat} {a : α} (h : Dts H (as.map enc) xs) (hi : as[i]? = some a) : ∃ x, xs[i]? = some x ∧ Dt H (enc a) x :=
  h.get (by rw [List.getElem?_map, hi]; rfl)
theorem item' {α : Type} {H : Hp} {enc : α → PyData} {as : List α} {xs : List V} {i : Nat} {x : V} (h : Dts H (as.map enc) xs) (hi : xs[i]? = some x) : ∃ a, as[i]? = some a ∧ Dt H (enc a) x := by
  obtain ⟨d, hd, hx⟩ := h.got hi
  rw [List.getElem?_map] at hd
  obtain ⟨a, ha, rfl⟩ := Option.map_eq_some_iff.mp hd
  exact ⟨a, ha, hx⟩
theorem atI_of {α : Type} {xs : List α} {z : Int} {v : α} (h0 : 0 ≤ z) (h : xs[z.toNat]? = some v) : atI xs z = some v := by
  have : z = (z.toNat : Int) := by omega
  rw [this]; exact atI_nat h
theorem ixN_of {n : Nat} {z : Int} (h0 : 0 ≤ z) (h1 : z < (n : Int)) : ixN n z = some z.toNat := by unfold ixN; rw [if_pos h0, if_pos h1]
/-- lists at unlike places, each of the ints told -/
structure Rows (H : Hp) (as : List Addr) (N : List (List Int)) : Prop where
  nd : as.Nodup
  len : as.length = N.length
  at_ : ∀ (i : Nat) (a : Addr) (row : List Int), as[i]? = some a → N[i]? = some row → H a = some (.lst (row.map V.int))
theorem Rows.mono {H G : Hp} {as : List Addr} {N : List (List Int)} (h : Rows H as N) (e : ∀ a ∈ as, ∀ o, H a = some o → G a = some o) : Rows G as N :=
  ⟨h.nd, h.len, fun i a row h1 h2 => e a (List.mem_of_getElem? h1) _ (h.at_ i a row h1 h2)⟩
theorem Rows.add {H : Hp} {as : List Addr} {N : List (List Int)} {i : Nat} {a : Addr} {row : List Int} {j : Int} (h : Rows H as N) (ha : as[i]? = some a) (hr : N[i]? = some row) :
    Rows (upd H a (.lst (row.map V.int ++ [V.int j]))) as (N.modify i (· ++ [j])) := by
  refine ⟨h.nd, by rw [List.length_modify]; exact h.len, fun k b r h1 h2 => ?_⟩
  rw [List.getElem?_modify] at h2
  obtain ⟨r0, e0, rfl⟩ := Option.map_eq_some_iff.mp h2
  by_cases e : i = k
  · subst e
    rw [ha] at h1; cases h1
    rw [hr] at e0; cases e0
    rw [if_pos rfl, upd_same, List.map_append]; rfl
  · rw [if_neg e, upd_ne (fun z => e ?_)]
    · exact h.at_ k b r0 h1 e0
    · subst z; exact (nd_ix h.nd ha h1)
/-- a list walked while others change -/
theorem near_args {N : List (List Int)} {H : Hp} {v : V} (h : Dt H (eNear N) v) : ∃ p xs, v = .ref p ∧ H p = some (.lst xs) ∧ Dts H (N.map eInts) xs := h
def p_near_of : Sp3 := fun vs H Q => ∃ (n : Nat) (v : V) (ts : List Tie), vs = [.int n, v] ∧ n ≤ 1000 ∧ ts.length ≤ 1000 ∧ TiesOk n ts ∧ Dt H (eTies ts) v ∧
  ∀ N v' H', Ex H H' → NearOk n ts N → Dt H' (eNear N) v' → Q v' H'
end
end W3
namespace W3
open PySem PySem.Spec PyProof.Rows L2 M83
open Evl (Ex)
/-! ### webs -/
abbrev Part := Str × Int
abbrev Hand := Int × Int
structure Web where
  parts : List Part
  ties : List Tie
  hands : List Hand
  sides : List Tie
def ePart (p : Part) : PyData := .tuple [.str p.1, .int p.2]
def eHand (h : Hand) : PyData := .tuple [.int h.1, .int h.2]
def eParts (ps : List Part) : PyData := .list (ps.map ePart)
def eHands (hs : List Hand) : PyData := .list (hs.map eHand)
def eWeb (w : Web) : PyData := .tuple [eParts w.parts, eTies w.ties, eHands w.hands, eTies w.sides]
theorem web_at {H : Hp} {w : Web} {v : V} (h : Dt H (eWeb w) v) : ∃ p a b c d, v = .ref p ∧ H p = some (.tup [.ref a, .ref b, .ref c, .ref d]) ∧
    Dt H (eParts w.parts) (.ref a) ∧ Dt H (eTies w.ties) (.ref b) ∧ Dt H (eHands w.hands) (.ref c) ∧ Dt H (eTies w.sides) (.ref d) := by
  obtain ⟨p, xs, rfl, hp, x, r, rfl, h1, y, r2, rfl, h2, z, r3, rfl, h3, u, r4, rfl, h4, rfl⟩ := h
  obtain ⟨a, _, rfl, _⟩ := id h1
  obtain ⟨b, _, rfl, _⟩ := id h2
  obtain ⟨c, _, rfl, _⟩ := id h3
  obtain ⟨d, _, rfl, _⟩ := id h4
  exact ⟨p, a, b, c, d, rfl, hp, h1, h2, h3, h4⟩
theorem web_mk {H : Hp} {w : Web} {p : Addr} {a b c d : V} (hp : H p = some (.tup [a, b, c, d])) (h1 : Dt H (eParts w.parts) a) (h2 : Dt H (eTies w.ties) b) (h3 : Dt H (eHands w.hands) c) (h4 : Dt H (eTies w.sides) d) : Dt H (eWeb w) (.ref p) :=
  ⟨p, _, rfl, hp, _, _, rfl, h1, _, _, rfl, h2, _, _, rfl, h3, _, _, rfl, h4, rfl⟩
theorem Dt.list_at {H : Hp} {ds : List PyData} {a : Addr} (h : Dt H (.list ds) (.ref a)) : ∃ xs, H a = some (.lst xs) ∧ Dts H ds xs := by
  obtain ⟨b, xs, e, hb, hx⟩ := h
  cases e
  exact ⟨xs, hb, hx⟩
section
variable {P : Program} {w : World} {K : PySem.W.Frag} {mg : Str → Option Value} {base : Heap}
/-! ### near_lists -/
def p_near_lists : Sp3 := fun vs H Q => ∃ (v : V) (wb : Web), vs = [v] ∧ wb.parts.length ≤ 1000 ∧ wb.ties.length ≤ 1000 ∧ TiesOk wb.parts.length wb.ties ∧ Dt H (eWeb wb) v ∧
  ∀ N v' H', Ex H H' → NearOk wb.parts.length wb.ties N → Dt H' (eNear N) v' → Q v' H'
end
theorem bools_get {S : List Bool} {z : Int} (h0 : 0 ≤ z) (h1 : z.toNat < S.length) : atI (S.map V.bl) z = some (.bl S[z.toNat]) := atI_of h0 (by rw [List.getElem?_map, List.getElem?_eq_getElem h1]; rfl)
theorem ints_lf {ns : List Int} (h : ∀ n ∈ ns, n.natAbs < 1000000) : Lf (eInts ns) := Lfs.map h
theorem ints_dep (ns : List Int) : (eInts ns).depth ≤ 32 := by
  show PyData.depthAll (ns.map .int) + 1 ≤ 32
  have := depthAll_map (enc := PyData.int) (k := 0) (as := ns) fun a _ => by simp [PyData.depth]
  omega
theorem nil_lf : Lf (.list []) := trivial
theorem nil_dep : (PyData.list []).depth ≤ 32 := by simp [PyData.depth, PyData.depthAll]
theorem sz1 {α : Type} {x : α} : [x].length ≤ sizeLine := (by show 1 ≤ sizeLine; decide)
theorem sz {n : Nat} (h : n ≤ 1000) : n ≤ sizeLine := Nat.le_trans h (by decide)
theorem sz' {n : Nat} (h : n ≤ 100000) : n < sizeLine := Nat.lt_of_le_of_lt h (by decide)
theorem new_ne {H : Hp} {p q : Addr} {o : HO} (h : H p = some o) (hq : H q = none) : p ≠ q := ne_of_none h hq
/-- three lists at unlike places, that none knew ahead -/
structure PSt (H H' : Hp) (fp lp sp : Addr) (F L : List Int) (S : List Bool) : Prop where
  ex : Ex H H'
  f0 : H fp = none
  l0 : H lp = none
  s0 : H sp = none
  fl : fp ≠ lp
  fs : fp ≠ sp
  ls : lp ≠ sp
  hf : H' fp = some (.lst (F.map V.int))
  hl : H' lp = some (.lst (L.map V.int))
  hs : H' sp = some (.lst (S.map V.bl))
section
variable {H H' G : Hp} {fp lp sp : Addr} {F L : List Int} {S : List Bool}
theorem PSt.setF (q : PSt H H' fp lp sp F L S) {F' : List Int} : PSt H (upd H' fp (.lst (F'.map V.int))) fp lp sp F' L S :=
  ⟨Evl.Ex.mut q.ex q.f0, q.f0, q.l0, q.s0, q.fl, q.fs, q.ls, upd_same, by rw [upd_ne q.fl.symm]; exact q.hl, by rw [upd_ne q.fs.symm]; exact q.hs⟩
theorem PSt.setL (q : PSt H H' fp lp sp F L S) {L' : List Int} : PSt H (upd H' lp (.lst (L'.map V.int))) fp lp sp F L' S :=
  ⟨Evl.Ex.mut q.ex q.l0, q.f0, q.l0, q.s0, q.fl, q.fs, q.ls, by rw [upd_ne q.fl]; exact q.hf, upd_same, by rw [upd_ne q.ls.symm]; exact q.hs⟩
theorem PSt.setS (q : PSt H H' fp lp sp F L S) {S' : List Bool} : PSt H (upd H' sp (.lst (S'.map V.bl))) fp lp sp F L S' :=
  ⟨Evl.Ex.mut q.ex q.s0, q.f0, q.l0, q.s0, q.fl, q.fs, q.ls, by rw [upd_ne q.fs]; exact q.hf, by rw [upd_ne q.ls]; exact q.hl, upd_same⟩
theorem PSt.grow (q : PSt H H' fp lp sp F L S) (e : Ex H' G) : PSt H G fp lp sp F L S :=
  ⟨q.ex.trans e, q.f0, q.l0, q.s0, q.fl, q.fs, q.ls, e _ _ q.hf, e _ _ q.hl, e _ _ q.hs⟩
end
section
variable {P : Program} {w : World} {K : PySem.W.Frag} {mg : Str → Option Value} {base : Heap}
/-! ### piece_of -/
def p_piece_of : Sp3 := fun vs H Q => ∃ (v : V) (N : List (List Int)) (s : Int), vs = [v, .int s] ∧ N.length ≤ 1000 ∧ RowsOk N ∧ 0 ≤ s ∧ s < (N.length : Int) ∧ Dt H (eNear N) v ∧
  ∀ ms v' H', Ex H H' → (∀ j, j ∈ ms ↔ RN N s j) → Dt H' (eInts ms) v' → Q v' H'
end
end W3
namespace W3
open PySem PySem.Spec PyProof.Rows L2 M83
open Evl (Ex)
section
variable {P : Program} {w : World} {K : PySem.W.Frag} {mg : Str → Option Value} {base : Heap}
def p_pieces_of : Sp3 := fun vs H Q => ∃ (v : V) (N : List (List Int)), vs = [v] ∧ N.length ≤ 1000 ∧ RowsOk N ∧ Dt H (eNear N) v ∧
  ∀ (c : Nat) (S : List Bool) (fp : Addr) (xs : List V) (H' : Hp), Ex H H' → Pcs N N.length c S → H' fp = some (.lst xs) → xs.length = c → Q (.ref fp) H'
/-! ### pieces, is_whole_web -/
def p_pieces : Sp3 := fun vs H Q => ∃ (v : V) (wb : Web), vs = [v] ∧ wb.parts.length ≤ 1000 ∧ wb.ties.length ≤ 1000 ∧ TiesOk wb.parts.length wb.ties ∧ Dt H (eWeb wb) v ∧
  ∀ (fp : Addr) (xs : List V) (H' : Hp), Ex H H' → H' fp = some (.lst xs) → (xs.length < 2 ↔ Whole wb.parts.length wb.ties) → Q (.ref fp) H'
open Classical in
def p_is_whole : Sp3 := fun vs H Q => ∃ (v : V) (wb : Web), vs = [v] ∧ wb.parts.length ≤ 1000 ∧ wb.ties.length ≤ 1000 ∧ TiesOk wb.parts.length wb.ties ∧ Dt H (eWeb wb) v ∧
  ∀ (H' : Hp), Ex H H' → Q (.bl (decide (Whole wb.parts.length wb.ties))) H'
end
end W3
namespace W3
open PySem PySem.Spec PyProof.Rows L2 M83
open Evl (Ex)
/-! ### shapes of data -/
theorem sz2 {α : Type} {x y : α} : [x, y].length ≤ sizeLine := (by show 2 ≤ sizeLine; decide)
theorem sz3 {α : Type} {x y z : α} : [x, y, z].length ≤ sizeLine := (by show 3 ≤ sizeLine; decide)
theorem sz4 {α : Type} {x y z u : α} : [x, y, z, u].length ≤ sizeLine := (by show 4 ≤ sizeLine; decide)
section
open PySem.W
theorem alikeAll_map {α : Type} {enc : α → PyData} (h : ∀ a b, alike (enc a) (enc b) = true) : ∀ (xs ys : List α), alikeAll (xs.map enc) (ys.map enc) = true
  | [], _ => by simp [alikeAll]
  | _ :: _, [] => by simp [alikeAll]
  | x :: xs, y :: ys => by simp only [List.map_cons, alikeAll, h, alikeAll_map h xs ys, Bool.and_self]
theorem alike_part (p q : Part) : alike (ePart p) (ePart q) = true := by simp [ePart, alike, alikeAll]
theorem alike_tie (p q : Tie) : alike (eTie p) (eTie q) = true := by simp [eTie, alike, alikeAll]
theorem alike_hand (p q : Hand) : alike (eHand p) (eHand q) = true := by simp [eHand, alike, alikeAll]
theorem alike_web (u v : Web) : alike (eWeb u) (eWeb v) = true := by
  simp only [eWeb, eParts, eTies, eHands, alike, alikeAll, alikeAll_map alike_part, alikeAll_map alike_tie, alikeAll_map alike_hand, Bool.and_self]
theorem allAlike_map {α : Type} {enc : α → PyData} (h : ∀ a b, alike (enc a) (enc b) = true) (xs : List α) : AllAlike (xs.map enc) := AllAlike.of h
end
theorem dep_part (p : Part) : (ePart p).depth ≤ 1 := by simp [ePart, PyData.depth, PyData.depthAll]
theorem dep_tie (t : Tie) : (eTie t).depth ≤ 1 := by simp [eTie, PyData.depth, PyData.depthAll]
theorem dep_hand (t : Hand) : (eHand t).depth ≤ 1 := by simp [eHand, PyData.depth, PyData.depthAll]
theorem dep_list {α : Type} {enc : α → PyData} {k : Nat} (h : ∀ a, (enc a).depth ≤ k) (as : List α) : (PyData.list (as.map enc)).depth ≤ k + 1 := by
  show PyData.depthAll (as.map enc) + 1 ≤ k + 1
  have := depthAll_map (enc := enc) (as := as) fun a _ => h a
  omega
theorem dep_web (w : Web) : (eWeb w).depth ≤ 3 := by
  have a := dep_list dep_part w.parts
  have b := dep_list dep_tie w.ties
  have c := dep_list dep_hand w.hands
  have d := dep_list dep_tie w.sides
  simp only [eWeb, eParts, eTies, eHands, PyData.depth, PyData.depthAll] at a b c d ⊢
  omega
open PySem.W in
/-- the sorted list of webs, as data -/
def sortW (ws : List Web) : List PyData := (ws.map eWeb).mergeSort (dataLe false id)
theorem sort_in {ds : List PyData} {d : PyData} (h : d ∈ ds.mergeSort (PySem.W.dataLe false id)) : d ∈ ds := (List.mergeSort_perm _ _).mem_iff.mp h
/-- a list of webs whose four lists were made since H -/
def Loose (H H' : Hp) (ys : List V) : Prop := ∀ y ∈ ys, ∃ q a b c d xa xb xc xd, y = .ref q ∧ H' q = some (.tup [.ref a, .ref b, .ref c, .ref d]) ∧
  (H a = none ∧ H' a = some (.lst xa) ∧ xa.length ≤ 1000) ∧ (H b = none ∧ H' b = some (.lst xb) ∧ xb.length ≤ 1000) ∧ (H c = none ∧ H' c = some (.lst xc) ∧ xc.length ≤ 1000) ∧ (H d = none ∧ H' d = some (.lst xd) ∧ xd.length ≤ 1000)
theorem Loose.mono {H H' G : Hp} {ys : List V} (h : Loose H H' ys) (e : Ex H' G) : Loose H G ys := fun y hy => by
  obtain ⟨q, a, b, c, d, xa, xb, xc, xd, rfl, hq, ⟨a1, a2, a3⟩, ⟨b1, b2, b3⟩, ⟨c1, c2, c3⟩, ⟨d1, d2, d3⟩⟩ := h y hy
  exact ⟨q, a, b, c, d, xa, xb, xc, xd, rfl, e _ _ hq, ⟨a1, e _ _ a2, a3⟩, ⟨b1, e _ _ b2, b3⟩, ⟨c1, e _ _ c2, c3⟩, ⟨d1, e _ _ d2, d3⟩⟩
section
variable {P : Program} {w : World} {K : PySem.W.Frag} {mg : Str → Option Value} {base : Heap}
/-! ### pairs_of -/
theorem hand_mk {H : Hp} {p : Addr} {a b : Int} (h : H p = some (.tup [.int a, .int b])) : Dt H (eHand (a, b)) (.ref p) := ⟨p, _, rfl, h, _, _, rfl, rfl, _, _, rfl, rfl, rfl⟩
theorem hand_at {H : Hp} {t : Hand} {v : V} (h : Dt H (eHand t) v) : ∃ p, v = .ref p ∧ H p = some (.tup [.int t.1, .int t.2]) := by
  obtain ⟨p, xs, rfl, hp, x, r, rfl, rfl, y, r2, rfl, rfl, rfl⟩ := h
  exact ⟨p, rfl, hp⟩
def p_pairs_of : Sp3 := fun vs H Q => ∃ n : Nat, vs = [.int n] ∧ n ≤ 100 ∧ ∀ v' H', Ex H H' → Dt H' (eHands (pairsM n)) v' → Q v' H'
end
end W3
namespace W3
open PySem PySem.Spec PyProof.Rows L2
open Evl (Ex)
/-- a def that is called by keywords, too: its text is told -/
structure Dk (P : Program) (w : World) (K : PySem.W.Frag) (mg : Str → Option Value) (base : Heap) (k : Nat) (x : Str) (ps : List Str) (sp : Sp3) (st : Stmt) : Prop where
  df : Df P w K mg base k x ps sp
  ex : ∃ (f : Addr) (fd : FuncData), mg x = some (.ref f) ∧ PySem.W.keepIn K (.ref f) = true ∧ (∀ args us, bindArgs fd args = pure (ps.zip us) → us.length = ps.length →
      ∀ (A : Around) (outer : List Env) (s : Shared) (H : Hp) (vs : List V) (Q : VK), RG k A → Env0 P w K mg base A outer s H → Vals vs us → sp vs H Q →
        codeAny (model P w) A (.call (.ref f) args) (CR CX0 outer P w H s Q E0) s) ∧
    ∃ (kV doc pm : Value) (an : Option Addr) (cdv ct : Value), fd = PySem.W.fnOf x x (defArgs st) (defBody st) (defScope st) .none kV doc pm an cdv ct
section
variable {P : Program} {w : World} {K : PySem.W.Frag} {mg : Str → Option Value} {base : Heap}
theorem Dk.body {x : Str} {st : Stmt} {f : Addr} {fd : FuncData} {N ps : List Str} {k : Nat} {sp : Sp3} (F : Fun K x x st f fd) (hm : mg x = some (.ref f))
    (hb : ∀ (kV doc pm : Value) (an : Option Addr) (cdv ct : Value) (us : List Value), us.length = ps.length → bindArgs (PySem.W.fnOf x x (defArgs st) (defBody st) (defScope st) .none kV doc pm an cdv ct) ⟨us, []⟩ = pure (ps.zip us))
    (S : FnScope N ps (defScope st)) (len : ∀ vs H Q, sp vs H Q → vs.length = ps.length)
    (go : ∀ (cdv : Value) (A : Around) (outer : List Env) (s : Shared) (H : Hp) (vs : List V) (Q : VK), RG k (A.deeper (envOfC x (defScope st) s.heap.objs.size f cdv)) → sp vs H Q →
      ∃ t, PSs (cxOf CX0 P w K mg base N x (defScope st) f cdv A outer s H E0).nox (defBody st) t ∧ t { nx := fun _ H' => Q .non H', rt := Q } (start N vs) H) : Dk P w K mg base (k + 1) x ps sp st := by
  refine ⟨Df.body F hm hb S len go, ?_⟩
  obtain ⟨oc, od, kV, doc, pm, an, cdv, ct, osl, rfl, lk, hcd⟩ := F.ex
  refine ⟨f, _, hm, F.kp, fun args us hbi hlu A outer s H vs Q rg e0 rv hsp => ?_, kV, doc, pm, an, cdv, ct, rfl⟩
  have inK : K.In s.heap := e0.mod.kin.keeps fun b o e => (e0.bs b o e).1
  have noLim : s.heap.NoLimit := e0.mod.nolimit.keeps fun b o e => (e0.bs b o e).1
  have kinds : ∀ y ∈ ps.zip us, (defScope st).names.lookup y.1 = some .local ∨
      ((defScope st).names.lookup y.1 = some .cell ∧ ((cellsFrom (s.heap.objs.size + 1) (defScope st).names []).lookup y.1).isSome = true) := by
    rintro ⟨n, v⟩ hy
    refine (S.par n (List.of_mem_zip hy).1).imp id fun q => ⟨q, ?_⟩
    exact PySem.W.cellsFrom_some _ _ _ (.inl q)
  refine codeAny_call_function rg.room.depth (inK _ _ lk) rfl S.co S.gen rfl (PySem.W.codeRec_of inK hcd) ((BindsTo.of_eq hbi) _ _ _ _ ?_)
  refine wpAny_newFunctionEnv_cells S.kind kinds fun env he s1 ic => ?_
  subst he
  refine ⟨noLim.keeps ic.toInCall.keep, codeAny_func ?_⟩
  obtain ⟨t, ht, hq⟩ := go cdv A outer s H vs Q ⟨rg.room.deeper _, rg.quiet⟩ hsp
  have J : Inv (cxOf CX0 P w K mg base N x (defScope st) f cdv A outer s H E0) [] (start N vs) H s1 := inv_start S rg.room.hd e0 (len _ _ _ hsp) rv ic
  refine wpAny_mono (ht.nox.run [] s1 _ H _ J hq) (fun fl s' hs => ?_) fun e s' hs => hs
  cases fl with
  | brk => obtain ⟨_, _, _, z⟩ := hs; exact z.elim
  | cont => obtain ⟨_, _, _, z⟩ := hs; exact z.elim
  | next =>
    obtain ⟨σ', H', J', q⟩ := hs
    exact ⟨.non, H', J'.os, J'.bare, J'.base, J'.hok, rfl, q⟩
  | ret u =>
    obtain ⟨v, σ', H', J', rv', q⟩ := hs
    exact ⟨v, H', J'.os, J'.bare, J'.base, J'.hok, rv', q⟩
end
section
variable {X : Cx} {k : Nat} {x : Str} {ps : List Str} {sp : Sp3} {st : Stmt} {p pos : Pos} {t : TA}
theorem pe_ck {kws : List Keyword} {ks : List Str} {g : {α : Type} → List α → List α} (d : Dk X.prog X.w X.K X.mg X.base k x ps sp st) (hr : RG k X.A) (hg : Gl X x) (hkw : PK X kws t)
    (hb : ∀ (kV doc pm : Value) (an : Option Addr) (cdv ct : Value) (us : List Value), us.length = ks.length →
      bindArgs (PySem.W.fnOf x x (defArgs st) (defBody st) (defScope st) .none kV doc pm an cdv ct) ⟨[], ks.zip us⟩ = pure (ps.zip (g us)) ∧ (g us).length = ps.length)
    (hv : ∀ {vs : List V} {us : List Value}, vs.length = ks.length → Vals vs us → Vals (g vs) (g us))
    (hall : (backToKw pos (keywordEach kws X.env)).all (·.1.isSome) = true := by rfl) (hks : (backToKw pos (keywordEach kws X.env)).filterMap (·.1) = ks := by rfl) (hdb : (x == ("__debug__" : Str)) = false := by decide)
    (hpl : ((backTo pos (starEach [] X.env)).any (·.1) || (backToKw pos (keywordEach kws X.env)).any (·.1.isNone)) = false := by rfl) : PE X (.Call (.Name x p) [] kws pos) (tCk3 sp g ks.length t) := by
  refine ⟨fun pins s σ H Q I h => ?_⟩
  obtain ⟨f, fd, hm, hk, run, kV, doc, pm, an, cdv, ct, rfl⟩ := d.ex
  refine wpAny_Call_Name_kw (ld_glob I hg hm ?_ hdb)
  refine PySem.W.callWith_KW0 (h₀ := X.base) I.ok.mod.kin hk hall ?_ hpl
  refine thn (hkw.run pos pins s σ H _ I h) fun us s1 ⟨vs, H1, I1, r, l, q⟩ => ⟨I1.kIn, ?_⟩
  rw [hks]
  obtain ⟨b1, b2⟩ := hb kV doc pm an cdv ct us (r.length.symm.trans l)
  exact after_call (args := ⟨[], ks.zip us⟩) I1 (run _ (g us) b1 b2 X.A X.stack s1 H1 (g vs) Q hr I1.env0 (hv l r) q)
end
def kg_all_choices {α : Type} : List α → List α
  | [a, b] => [b, a]
  | l => l
def kg_grown {α : Type} : List α → List α
  | [a, b, c] => [c, b, a]
  | l => l
def kg_is_of_family {α : Type} : List α → List α
  | [a, b, c, d] => [d, c, b, a]
  | l => l
theorem kv_all_choices {vs : List V} {us : List Value} (hl : vs.length = 2) (h : Vals vs us) : Vals (kg_all_choices vs) (kg_all_choices us) := by
  match vs, hl, h with
  | [_, _], _, .cons a (.cons b .nil) => exact .cons b (.cons a .nil)
theorem kv_grown {vs : List V} {us : List Value} (hl : vs.length = 3) (h : Vals vs us) : Vals (kg_grown vs) (kg_grown us) := by
  match vs, hl, h with
  | [_, _, _], _, .cons a (.cons b (.cons c .nil)) => exact .cons c (.cons b (.cons a .nil))
theorem kv_is_of_family {vs : List V} {us : List Value} (hl : vs.length = 4) (h : Vals vs us) : Vals (kg_is_of_family vs) (kg_is_of_family us) := by
  match vs, hl, h with
  | [_, _, _, _], _, .cons a (.cons b (.cons c (.cons d .nil))) => exact .cons d (.cons c (.cons b (.cons a .nil)))
end W3
namespace W3
open PySem PySem.Spec PyProof.Rows L2 M83
open Evl (Ex)
theorem go_cb1 {r : List V → Hp → VK → Prop} {te : TE} {σ : L2.St} {H : Hp} {Q : VK} (h : te σ H fun x H1 => r [x] H1 Q) : tCB r (tCons te tNil) σ H Q := h
/-! ### rows of ties, each a list of its own -/
def New (H : Hp) (xs : List V) : Prop := ∀ x ∈ xs, ∃ a, x = V.ref a ∧ H a = none
theorem New.snoc {H : Hp} {xs : List V} {p : Addr} (h : New H xs) (hp : H p = none) : New H (xs ++ [.ref p]) := fun x hx => by
  rcases List.mem_append.mp hx with hx | hx
  · exact h x hx
  · exact ⟨p, by simpa using hx, hp⟩
theorem New.append {H : Hp} {xs ys : List V} (h : New H xs) (h' : New H ys) : New H (xs ++ ys) := fun x hx => (List.mem_append.mp hx).elim (h x) (h' x)
def rowOf (x y : Int) (os : List Int) (r : List Tie) : List (List Tie) := os.map fun o => r ++ [(x, y, o)]
/-- [row + [(x, y, order)] for row in rows for order in orders] -/
theorem grow_lc {K : PySem.W.Frag} {σ : L2.St} {H H1 : Hp} {Q : VK} {sR sO i1 i2 : Nat} {rp op : Addr} {xs : List V} {rows : List (List Tie)} {os : List Int} {x y : Int} (e : Ex H H1) (hr : σ[sR]? = some (some (.ref rp))) (hrp : H1 rp = some (.lst xs))
    (hx : Dts H1 (rows.map eTies) xs) (hop : H1 op = some (.lst (os.map V.int))) (hl : rows.length ≤ 5000) (hos : os.length ≤ 4) (hrl : ∀ r ∈ rows, r.length ≤ 1000)
    (hw1 : ∀ x, wipe ((wipe σ [6, 7]).set 6 (some x)) [6, 7] = wipe σ [6, 7])
    (hw2 : ∀ x y, wipe ((wipe ((wipe σ [6, 7]).set 6 (some x)) [7]).set 7 (some y)) [7] = wipe ((wipe σ [6, 7]).set 6 (some x)) [7]) (hv : ∀ x, ((wipe σ [6, 7]).set 6 (some x))[sO]? = some (some (.ref op)))
    (g1 : ∀ r o, ((wipe ((wipe σ [6, 7]).set 6 (some r)) [7]).set 7 (some o))[6]? = some (some r)) (g2 : ∀ r o, ((wipe ((wipe σ [6, 7]).set 6 (some r)) [7]).set 7 (some o))[7]? = some (some o))
    (g3 : ∀ r o, ((wipe ((wipe σ [6, 7]).set 6 (some r)) [7]).set 7 (some o))[i1]? = some (some (.int x))) (g4 : ∀ r o, ((wipe ((wipe σ [6, 7]).set 6 (some r)) [7]).set 7 (some o))[i2]? = some (some (.int y)))
    (done : ∀ D acc G, Ex H1 G → G D = none → Dts G ((rows.flatMap (rowOf x y os)).map eTies) acc → New H acc → Q (.ref D) (upd G D (.lst acc))) :
    tLc2 (iList K (tVar sR)) (gName 6) tYes (iList K (tVar sO)) (gName 7) tYes (tFr (tOp rCat (tVar 6) (tLst (tCons (tTup (tCons (tVar i1) (tCons (tVar i2) (tCons (tVar 7) tNil)))) tNil)))) [6, 7] [7] σ H1 Q := by
  have lx : xs.length = rows.length := by rw [hx.length, List.length_map]
  refine lcLL H1 (fun i j acc G => Ex H1 G ∧ Dts G (((rows.take i).flatMap (rowOf x y os) ++ rowOf x y (os.take j) (rows[i]?.getD [])).map eTies) acc ∧ New H acc ∧ acc.length ≤ i * os.length + j ∧ i ≤ rows.length ∧ j ≤ os.length)
    (fun R r => ⟨_, hr, rp, rfl, ⟨_, SqL.of hrp⟩, r⟩) hrp hop ⟨Ex.refl _, by simp [rowOf, Dts], fun z h => by simp at h, Nat.zero_le _, Nat.zero_le _, Nat.zero_le _⟩ ?_ hw1 hw2 hv ?_ ?_ ?_
  · rintro i j acc G ⟨_, _, _, h1, h2, h3⟩
    have : i * os.length ≤ 5000 * 4 := Nat.mul_le_mul (by omega) hos
    omega
  · rintro i j r o acc G hi hj eG ⟨_, hd, hn, h1, h2, h3⟩
    rw [List.getElem?_map] at hj
    obtain ⟨oi, ho, rfl⟩ := Option.map_eq_some_iff.mp hj
    obtain ⟨row, hrow, hdr⟩ := item' hx hi
    obtain ⟨q, rxs, rfl, hq, hqd⟩ := hdr
    have jl := (List.getElem?_eq_some_iff.mp ho).1
    have lr := hrl row (List.mem_of_getElem? hrow)
    have lrx : rxs.length = row.length := by rw [hqd.length, List.length_map]
    refine ⟨_, g1 _ _, _, g3 _ _, _, g4 _ _, _, g2 _ _, sz3, fun tp htp => ⟨sz1, fun bp hb => ?_⟩⟩
    have e1 := Ex.new (o := .tup [.int x, .int y, .int oi]) htp
    have e2 := e1.trans (Ex.new (o := .lst [.ref tp]) hb)
    have big : (3000 : Nat) < sizeLine := by decide
    refine ⟨q, bp, rxs, [.ref tp], rfl, rfl, e2 _ _ (eG _ _ hq), upd_same, by simp; omega, fun p hp => ?_⟩
    have e3 := e2.trans (Ex.new (o := .lst (rxs ++ [V.ref tp])) hp)
    refine ⟨e3, eG.trans e3, ?_, hn.snoc (Evl.fresh_back (e.trans (eG.trans e2)) hp), by simp; omega, h2, by omega⟩
    have et : rowOf x y (os.take (j + 1)) (rows[i]?.getD []) = rowOf x y (os.take j) (rows[i]?.getD []) ++ [row ++ [(x, y, oi)]] := by
      rw [List.take_add_one, ho, hrow]; simp [rowOf]
    rw [et, ← List.append_assoc, List.map_append]
    refine Dts.snoc ?_ (hd.mono e3)
    refine ⟨p, _, rfl, upd_same, ?_⟩
    rw [List.map_append]
    refine Dts.snoc ?_ ((hqd.mono eG).mono e3)
    have ntp : tp ≠ bp := new_ne upd_same hb
    have ntq : tp ≠ p := new_ne (o := .tup [.int x, .int y, .int oi]) (by rw [upd_ne ntp]; exact upd_same) hp
    exact tie_mk (by rw [upd_ne ntq, upd_ne ntp]; exact upd_same)
  · rintro i acc G hi ⟨eG, hd, hn, h1, h2, h3⟩
    rw [lx] at hi
    refine ⟨eG, ?_, hn, ?_, hi, Nat.zero_le _⟩
    · have er : rows[i]? = some rows[i] := List.getElem?_eq_getElem hi
      rw [List.length_map, List.take_length, er] at hd
      have : (rows.take (i + 1)).flatMap (rowOf x y os) ++ rowOf x y (os.take 0) (rows[i + 1]?.getD []) = (rows.take i).flatMap (rowOf x y os) ++ rowOf x y os ((some rows[i]).getD []) := by
        rw [List.take_add_one, er, List.flatMap_append]; simp [rowOf, -List.take_append_getElem]
      rw [this]; exact hd
    · rw [List.length_map] at h1
      rw [Nat.succ_mul]; omega
  · rintro acc G p eG hp ⟨_, hd, hn, h1, h2, h3⟩
    refine done p acc G eG hp ?_ hn
    rw [lx, List.take_length] at hd
    simpa [rowOf] using hd
/-- .. and none of them the list at p -/
def LooseP (p : Addr) (n : Nat) (H H' : Hp) (ys : List V) : Prop := ∀ y ∈ ys, ∃ q a b c d xa xb xc xd, y = .ref q ∧ H' q = some (.tup [.ref a, .ref b, .ref c, .ref d]) ∧
  (H a = none ∧ a ≠ p ∧ H' a = some (.lst xa) ∧ xa.length ≤ n) ∧ (H b = none ∧ b ≠ p ∧ H' b = some (.lst xb) ∧ xb.length ≤ n) ∧ (H c = none ∧ c ≠ p ∧ H' c = some (.lst xc) ∧ xc.length ≤ n) ∧ (H d = none ∧ d ≠ p ∧ H' d = some (.lst xd) ∧ xd.length ≤ n)
theorem LooseP.mono {p : Addr} {n : Nat} {H H' G : Hp} {ys : List V} (h : LooseP p n H H' ys) (e : Ex H' G) : LooseP p n H G ys := fun y hy => by
  obtain ⟨q, a, b, c, d, xa, xb, xc, xd, rfl, hq, ⟨a1, z1, a2, a3⟩, ⟨b1, z2, b2, b3⟩, ⟨c1, z3, c2, c3⟩, ⟨d1, z4, d2, d3⟩⟩ := h y hy
  exact ⟨q, a, b, c, d, xa, xb, xc, xd, rfl, e _ _ hq, ⟨a1, z1, e _ _ a2, a3⟩, ⟨b1, z2, e _ _ b2, b3⟩, ⟨c1, z3, e _ _ c2, c3⟩, ⟨d1, z4, e _ _ d2, d3⟩⟩
theorem cutV_all (xs : List V) : cutV xs none none = xs := by simp [cutV, HT.sIx]
theorem sort_webs {H0 G : Hp} {p : Addr} {ws : List Web} {acc : List V} {Q : VK} (ex : Ex H0 G) (hp : G p = none) (hd : Dts G (ws.map eWeb) acc) (hl : Loose H0 G acc) (hlen : acc.length ≤ 5000)
    (k : ∀ p ys H', Ex H0 H' → H0 p = none → H' p = some (.lst ys) → ys.length ≤ 5000 → Dts H' (sortW ws) ys → LooseP p 1000 H0 H' ys → Q (.ref p) H') : rSortD [.ref p] (upd G p (.lst acc)) Q := by
  have e1 := Ex.new (o := .lst acc) hp
  refine ⟨p, acc, _, rfl, upd_same, hd.mono e1, allAlike_map alike_web ws, .inl fun d h => ?_, fun d h => ?_, fun q ys hq pm dd => ?_⟩
  · obtain ⟨w, _, rfl⟩ := List.mem_map.mp h
    exact ⟨_, _, rfl⟩
  · obtain ⟨w, _, rfl⟩ := List.mem_map.mp h
    have := dep_web w
    omega
  · have e2 := Ex.new (o := .lst ys) hq
    have lm := hl.mono (e1.trans e2)
    refine k q ys _ (ex.trans (e1.trans e2)) (Evl.fresh_back (ex.trans e1) hq) upd_same (by rw [pm.length_eq]; exact hlen) (dd.mono e2) fun y hy => ?_
    obtain ⟨r, a, b, c, d, xa, xb, xc, xd, rfl, hr, ⟨a1, a2, a3⟩, ⟨b1, b2, b3⟩, ⟨c1, c2, c3⟩, ⟨d1, d2, d3⟩⟩ := hl y (pm.mem_iff.mp hy)
    have n1 : ∀ {b : Addr} {xs : List V}, G b = some (.lst xs) → b ≠ q := fun h => new_ne (e1 _ _ h) hq
    have e12 := e1.trans e2
    exact ⟨r, a, b, c, d, xa, xb, xc, xd, rfl, e12 _ _ hr, ⟨a1, n1 a2, e12 _ _ a2, a3⟩, ⟨b1, n1 b2, e12 _ _ b2, b3⟩, ⟨c1, n1 c2, e12 _ _ c2, c3⟩, ⟨d1, n1 d2, e12 _ _ d2, d3⟩⟩
/-- a web of four new lists is made -/
theorem loose_web {H G : Hp} {a b c d q : Addr} {xa xb xc xd : List V} (a1 : H a = none) (a2 : G a = some (.lst xa)) (a3 : xa.length ≤ 1000) (b1 : H b = none) (b2 : G b = some (.lst xb)) (b3 : xb.length ≤ 1000)
    (c1 : H c = none) (c2 : G c = some (.lst xc)) (c3 : xc.length ≤ 1000) (d1 : H d = none) (d2 : G d = some (.lst xd)) (d3 : xd.length ≤ 1000) (hq : G q = some (.tup [.ref a, .ref b, .ref c, .ref d])) : Loose H G [.ref q] := fun y hy => by
  have ey : y = .ref q := by simpa using hy
  exact ⟨q, a, b, c, d, xa, xb, xc, xd, ey, hq, ⟨a1, a2, a3⟩, ⟨b1, b2, b3⟩, ⟨c1, c2, c3⟩, ⟨d1, d2, d3⟩⟩
theorem Loose.append {H G : Hp} {xs ys : List V} (h : Loose H G xs) (h' : Loose H G ys) : Loose H G (xs ++ ys) := fun x hx => (List.mem_append.mp hx).elim (h x) (h' x)
section
variable {P : Program} {w : World} {K : PySem.W.Frag} {mg : Str → Option Value} {base : Heap}
/-! ### all_choices -/
def p_all_choices : Sp3 := fun vs H Q => ∃ (pv ov : V) (ps : List Part) (os : List Int), vs = [pv, ov] ∧ Dt H (eParts ps) pv ∧ Dt H (eInts os) ov ∧ ps.length ≤ 4 ∧ os.length ≤ 4 ∧ (os.length + 1) ^ (pairsM ps.length).length ≤ 5000 ∧
  ∀ p ys H', Ex H H' → H p = none → H' p = some (.lst ys) → ys.length ≤ 5000 → Dts H' (sortW ((choicesM os (pairsM ps.length)).map fun r => ⟨ps, r, [], []⟩)) ys → LooseP p 1000 H H' ys → Q (.ref p) H'
end
end W3
namespace W3
open PySem PySem.Spec PyProof.Rows L2 M83
open Evl (Ex)
def growPairs (n : Nat) : List (Int × Int) := (List.range n).map fun (i : Nat) => ((i : Int), (n : Int))
open PySem.W in
def sortT (ts : List Tie) : List Tie := ts.mergeSort fun a b => dataLe false id (eTie a) (eTie b)
open PySem.W in
theorem sortT_data (ts : List Tie) : (ts.map eTie).mergeSort (dataLe false id) = (sortT ts).map eTie :=
  (sort_maps (r := fun a b => dataLe false id (eTie a) (eTie b)) (s := dataLe false (id : PyData → PyData)) eTie (l := ts) fun _ _ _ _ => rfl).symm
theorem dt_list {H : Hp} {a : Addr} {xs : List V} {ds : List PyData} (h : H a = some (.lst xs)) (hx : Dts H ds xs) : Dt H (.list ds) (.ref a) := ⟨a, xs, rfl, h, hx⟩
theorem dt_nil {H : Hp} {a : Addr} (h : H a = some (.lst [])) : Dt H (.list []) (.ref a) := ⟨a, [], rfl, h, rfl⟩
/-! ### sorted parts, compared -/
theorem dtab_tup {K : PySem.W.Frag} {H : Hp} {xs : List V} {p : Addr} (h : H p = some (.tup xs)) : SqT K H p xs := SqT.of h
theorem sort_any {α : Type} {enc : α → PyData} (hal : ∀ a b, PySem.W.alike (enc a) (enc b) = true) (hdep : ∀ a, (enc a).depth ≤ 1) (ht : ∀ a, ∃ x r, enc a = .tuple (x :: r)) {H : Hp} {as : List α} {v : V} {Q : VK} (hd : Dt H (.list (as.map enc)) v)
    (k : ∀ p ys H', Ex H H' → H p = none → H' p = some (.lst ys) → ys.length = as.length → Dts H' ((as.map enc).mergeSort (PySem.W.dataLe false id)) ys → Q (.ref p) H') : rSortD [v] H Q := by
  obtain ⟨a, xs, rfl, ha, hx⟩ := hd
  refine ⟨a, xs, _, rfl, ha, hx, allAlike_map hal as, .inl fun d h => ?_, fun d h => ?_, fun q ys hq pm dd => ?_⟩
  · obtain ⟨w, _, rfl⟩ := List.mem_map.mp h
    exact ht w
  · obtain ⟨w, _, rfl⟩ := List.mem_map.mp h
    have := hdep w
    omega
  · exact k q ys _ (Ex.new hq) hq upd_same (by rw [pm.length_eq, hx.length, List.length_map]) (dd.mono (Ex.new hq))
theorem part_inj : ∀ p q : Part, ePart p = ePart q → p = q := fun p q h => by
  obtain ⟨a, b⟩ := p
  obtain ⟨c, d⟩ := q
  simp [ePart] at h
  rw [h.1, h.2]
theorem Lfs.all : ∀ {ds : List PyData}, Lfs ds ↔ ∀ d ∈ ds, Lf d
  | [] => ⟨fun _ d h => by simp at h, fun _ => trivial⟩
  | d :: ds => ⟨fun h e he => by
      rcases List.mem_cons.mp he with rfl | he
      · exact h.1
      · exact Lfs.all.mp h.2 e he, fun h => ⟨h d (by simp), Lfs.all.mpr fun e he => h e (by simp [he])⟩⟩
theorem Lfs.sort {ds : List PyData} (h : Lfs ds) : Lfs (ds.mergeSort (PySem.W.dataLe false id)) := Lfs.all.mpr fun d hd => Lfs.all.mp h d (sort_in hd)
theorem perm_map_inj {α β : Type} {f : α → β} (hf : ∀ a b, f a = f b → a = b) : ∀ {as bs : List α}, (as.map f).Perm (bs.map f) → as.Perm bs
  | [], bs, h => by
    have := h.length_eq
    simp at this
    have e : bs = [] := List.length_eq_zero_iff.mp this.symm
    rw [e]
  | a :: as, bs, h => by
    have hm : f a ∈ bs.map f := h.mem_iff.mp (by simp)
    obtain ⟨b, hb, e⟩ := List.mem_map.mp hm
    have e2 := hf _ _ e
    subst e2
    obtain ⟨l, r, rfl⟩ := List.append_of_mem hb
    have h2 : (f b :: as.map f).Perm (f b :: (l ++ r).map f) := by
      refine List.Perm.trans h ?_
      rw [List.map_append, List.map_append, List.map_cons]
      exact List.perm_middle
    exact ((perm_map_inj hf h2.cons_inv).cons b).trans List.perm_middle.symm
open Classical in
theorem eqv_parts {ps qs : List Part} (h1 : Lf (eParts ps)) : PyData.eqv (.list ((ps.map ePart).mergeSort (PySem.W.dataLe false id))) (.list ((qs.map ePart).mergeSort (PySem.W.dataLe false id))) = decide (ps.Perm qs) := by
  rw [Bool.eq_iff_iff, decide_eq_true_iff]
  constructor
  · intro h
    have := eqv_eq _ _ (by
      show PySem.W.alikeAll _ _ = true
      have e : ∀ rs : List Part, (rs.map ePart).mergeSort (PySem.W.dataLe false id) = (rs.mergeSort (fun a b => PySem.W.dataLe false id (ePart a) (ePart b))).map ePart := fun rs =>
        (PySem.W.sort_maps (r := fun a b => PySem.W.dataLe false id (ePart a) (ePart b)) (s := PySem.W.dataLe false (id : PyData → PyData)) ePart (l := rs) fun _ _ _ _ => rfl).symm
      rw [e, e]
      exact alikeAll_map alike_part _ _) h
    have e2 : (ps.map ePart).mergeSort (PySem.W.dataLe false id) = (qs.map ePart).mergeSort (PySem.W.dataLe false id) := by simpa using this
    exact perm_map_inj part_inj (perm_sort e2)
  · intro h
    rw [sort_perm (allAlike_map alike_part ps) (h.map ePart)]
    refine eqv_self _ (Lfs.sort ?_)
    exact Lfs.all.mpr fun d hd => Lfs.all.mp h1 d ((h.map ePart).symm.mem_iff.mp hd)
theorem part_tup (p : Part) : ∃ x r, ePart p = .tuple (x :: r) := ⟨_, _, rfl⟩
theorem in_ints (z : Int) (os : List Int) : inV (.int z) (os.map V.int) = decide (z ∈ os) := by
  rw [Bool.eq_iff_iff, decide_eq_true_iff, inV, List.any_eq_true]
  constructor
  · rintro ⟨x, hx, e⟩
    obtain ⟨y, hy, rfl⟩ := List.mem_map.mp hx
    have : y = z := by simpa [eqV] using e
    rw [← this]; exact hy
  · intro h
    exact ⟨.int z, List.mem_map_of_mem h, by simp [eqV]⟩
theorem flat_ints (os : List Int) : (os.map V.int).all flatV = true := by
  rw [List.all_eq_true]
  intro x hx
  obtain ⟨y, _, rfl⟩ := List.mem_map.mp hx
  rfl
section
variable {P : Program} {w : World} {K : PySem.W.Frag} {mg : Str → Option Value} {base : Heap}
/-! ### grown -/
def p_grown : Sp3 := fun vs H Q => ∃ (wv pw ov : V) (wb : Web) (part : Part) (os : List Int), vs = [wv, pw, ov] ∧ Dt H (eWeb wb) wv ∧ Dt H (ePart part) pw ∧ Dt H (eInts os) ov ∧ wb.parts.length ≤ 4 ∧ wb.ties.length ≤ 100 ∧ os.length ≤ 4 ∧
  (os.length + 1) ^ wb.parts.length ≤ 5000 ∧
  ∀ p ys H', Ex H H' → H p = none → H' p = some (.lst ys) → ys.length ≤ 5000 → Dts H' (sortW ((choicesM os (growPairs wb.parts.length)).map fun r => ⟨wb.parts ++ [part], sortT (wb.ties ++ r), [], []⟩)) ys → LooseP p 1000 H H' ys → Q (.ref p) H'
/-! ### is_of_family -/
open Classical in
def OfFam (ps : List Part) (os : List Int) (isw : Bool) (wb : Web) : Prop := ps.Perm wb.parts ∧ wb.hands = [] ∧ wb.sides = [] ∧ (∀ t ∈ wb.ties, t.2.2 ∈ os) ∧ (isw = true → Whole wb.parts.length wb.ties)
structure Small (wb : Web) : Prop where
  n1 : wb.parts.length ≤ 100
  n2 : wb.ties.length ≤ 1000
  n3 : wb.hands.length ≤ 1000
  n4 : wb.sides.length ≤ 1000
  lf : Lf (eWeb wb)
open Classical in
def p_of : Sp3 := fun vs H Q => ∃ (qv ov wv : V) (ps : List Part) (os : List Int) (isw : Bool) (wb : Web), vs = [qv, ov, .bl isw, wv] ∧ Dt H (eParts ps) qv ∧ Dt H (eInts os) ov ∧ Dt H (eWeb wb) wv ∧ ps.length ≤ 100 ∧ os.length ≤ 100 ∧ Lf (eParts ps) ∧ Small wb ∧
  TiesOk wb.parts.length wb.ties ∧ ∀ H', Ex H H' → Q (.bl (decide (OfFam ps os isw wb))) H'
end
end W3
namespace W3
open PySem PySem.Spec PyProof.Rows L2 M83
open Evl (Ex)
/-- closing the pot again -/
theorem pot_ex {H H' : Hp} {p : Addr} (hp : H p = some (PotO p)) (h : ∀ b o, b ≠ p → H b = some o → H' b = some o) : Ex H (upd H' p (PotO p)) := fun b o e => by
  by_cases hb : b = p
  · subst hb; rw [upd_same]; rw [hp] at e; exact e
  · rw [upd_ne hb]; exact h b o hb e
theorem perm_of_map {α β : Type} (f : α → β) : ∀ {ys : List β} {as : List α}, ys.Perm (as.map f) → ∃ bs : List α, ys = bs.map f ∧ bs.Perm as
  | [], as, h => by
    have := h.length_eq
    simp at this
    have e : as = [] := List.length_eq_zero_iff.mp this.symm
    exact ⟨[], rfl, by rw [e]⟩
  | y :: ys, as, h => by
    have hm : y ∈ as.map f := h.mem_iff.mp (by simp)
    obtain ⟨a, ha, rfl⟩ := List.mem_map.mp hm
    obtain ⟨l, r, rfl⟩ := List.append_of_mem ha
    have h2 : (f a :: ys).Perm (f a :: (l ++ r).map f) := by
      refine List.Perm.trans h ?_
      rw [List.map_append, List.map_append, List.map_cons]
      exact List.perm_middle
    obtain ⟨bs, rfl, pb⟩ := perm_of_map f h2.cons_inv
    exact ⟨a :: bs, rfl, (pb.cons a).trans List.perm_middle.symm⟩
theorem cutV_to {xs : List V} {m : Int} (h : 0 ≤ m) : cutV xs none (some m) = xs.take m.toNat := by
  have e : HT.sIx xs.length xs.length (some m) = min m.toNat xs.length := by
    show (if m < 0 then (m + (xs.length : Int)).toNat else min m.toNat xs.length) = _
    rw [if_neg (by omega)]
  unfold cutV
  rw [e, HT.sIx_none, List.drop_zero, Nat.sub_zero, ← List.take_take, List.take_of_length_le (Nat.le_refl _)]
theorem cutV_from {xs : List V} {m : Int} (h : 0 ≤ m) : cutV xs (some m) none = xs.drop m.toNat := by
  have e : HT.sIx xs.length 0 (some m) = min m.toNat xs.length := by
    show (if m < 0 then (m + (xs.length : Int)).toNat else min m.toNat xs.length) = _
    rw [if_neg (by omega)]
  unfold cutV
  rw [e, HT.sIx_none, List.take_of_length_le (by rw [List.length_drop]; omega)]
  by_cases hl : m.toNat ≤ xs.length
  · rw [Nat.min_eq_left hl]
  · rw [Nat.min_eq_right (by omega), List.drop_of_length_le (Nat.le_refl _), List.drop_of_length_le (by omega)]
theorem erase_perm {α : Type} : ∀ {L : List α} {k : Nat} (h : k < L.length), (L[k] :: L.eraseIdx k).Perm L
  | a :: L, 0, _ => List.Perm.refl _
  | a :: L, k + 1, h => by
    have h' : k < L.length := by simpa using h
    exact (List.Perm.swap _ _ _).trans ((erase_perm h').cons a)
section
variable {P : Program} {w : World} {K : PySem.W.Frag} {mg : Str → Option Value} {base : Heap}
/-! ### _law_pot -/
def p_pot (K : PySem.W.Frag) : Sp3 := fun vs H Q => ∃ (a : Addr) (ns : List Int) (k : Nat), vs = [.ref a, .int k] ∧ SqL K H a (ns.map V.int) ∧ k ≤ 1 ∧ ∀ p H', Ex H H' → H' p = some (PotO p) → Q (.ref p) H'
/-! ### _law_draw -/
def p_draw : Sp3 := fun vs H Q => ∃ (p : Addr) (n : Int), vs = [.ref p, .int n] ∧ H p = some (PotO p) ∧ 0 < n ∧ n < 1000000 ∧ ∀ d : Int, 0 ≤ d → d < n → ∀ H', Ex H H' → Q (.int d) H'
/-! ### _law_pick -/
def p_pick : Sp3 := fun vs H Q => ∃ (p a : Addr) (xs : List V), vs = [.ref p, .ref a] ∧ H p = some (PotO p) ∧ H a = some (.lst xs) ∧ 0 < xs.length ∧ xs.length ≤ 1000 ∧ ∀ (i : Nat) (x : V), xs[i]? = some x → ∀ H', Ex H H' → Q x H'
/-! ### _law_near -/
def p_lnear : Sp3 := fun vs H Q => ∃ (v : V) (ts : List Tie) (z : Int), vs = [v, .int z] ∧ Dt H (eTies ts) v ∧ ts.length ≤ 1000 ∧ ∀ (p : Addr) (ns : List Int) H', Ex H H' → H' p = some (.lst (ns.map V.int)) → Q (.ref p) H'
/-! ### _law_mixed -/
def p_mixed : Sp3 := fun vs H Q => ∃ (p a : Addr) (xs : List V), vs = [.ref p, .ref a] ∧ H p = some (PotO p) ∧ H a = some (.lst xs) ∧ xs.length ≤ 1000 ∧ ∀ q ys H', Ex H H' → H q = none → H' q = some (.lst ys) → ys.Perm xs → Q (.ref q) H'
/-! ### _law_orders -/
def p_orders : Sp3 := fun vs H Q => ∃ (p : Addr) (m : Int), vs = [.ref p, .int m] ∧ H p = some (PotO p) ∧ 0 ≤ m ∧ m ≤ 4 ∧ ∀ (q : Addr) (os : List Int) H', Ex H H' → H' q = some (.lst (os.map V.int)) → (os.length : Int) ≤ m → (∀ o ∈ os, 1 ≤ o ∧ o ≤ 4) → Q (.ref q) H'
end
end W3
namespace W3
open PySem PySem.Spec PyProof.Rows L2 M83
open Evl (Ex)
section
variable {X : Cx}
/-- a statement, by what is shown of its end -/
def tMS (t : TS) : TS := fun D σ H => ∃ N : L2.St → Hp → Prop, t { D with nx := N } σ H ∧ ∀ σ' H', N σ' H' → D.nx σ' H'
theorem ps_m {st : Stmt} {t : TS} (h : PS X st t) : PS X st (tMS t) := by
  refine ⟨fun pins s σ H D I ⟨N, q, k⟩ => thn (h.run pins s σ H _ I q) fun f s1 z => ?_⟩
  cases f with
  | next => obtain ⟨σ', H', I', z⟩ := z; exact ⟨σ', H', I', k _ _ z⟩
  | brk => exact z
  | cont => exact z
  | ret u => exact z
end
def TiesFine (n : Nat) (ts : List Tie) : Prop := TiesOk n ts ∧ (∀ t ∈ ts, 1 ≤ t.2.2 ∧ t.2.2 ≤ 4)
theorem TiesFine.snoc {n : Nat} {ts : List Tie} (h : TiesFine n ts) {a b c : Int} (h0 : 0 ≤ a) (h1 : a < b) (h2 : b < n) (h3 : 1 ≤ c) (h4 : c ≤ 4) : TiesFine n (ts ++ [(a, b, c)]) := by
  refine ⟨fun t ht => ?_, fun t ht => ?_⟩
  · rcases List.mem_append.mp ht with ht | ht
    · exact h.1 t ht
    · have : t = (a, b, c) := by simpa using ht
      subst this; exact ⟨h0, h1, h2⟩
  · rcases List.mem_append.mp ht with ht | ht
    · exact h.2 t ht
    · have : t = (a, b, c) := by simpa using ht
      subst this; exact ⟨h3, h4⟩
section
variable {P : Program} {w : World} {K : PySem.W.Frag} {mg : Str → Option Value} {base : Heap}
theorem iteAny {A B : Prop} {c : Bool} (h1 : c = true → A) (h2 : c = false → B) : if c = true then A else B := by
  cases c with
  | true => exact iteT (h1 rfl)
  | false => exact iteF (h2 rfl)
theorem rm_upd_any {D : Addr} {H : Hp} {o : HO} : rm D (upd H D o) = rm D H := by
  funext b
  by_cases e : b = D
  · subst e; rw [rm_same, rm_same]
  · rw [rm_ne e, rm_ne e, upd_ne e]
theorem rm_ex {D : Addr} {H G : Hp} (e : Ex H G) : Ex (rm D H) (rm D G) := fun b o h => by
  obtain ⟨hb, h'⟩ := of_rm h
  rw [rm_ne hb]; exact e _ _ h'
theorem rm_at {D b : Addr} {H : Hp} {o : HO} (hb : b ≠ D) (h : H b = some o) : rm D H b = some o := by rw [rm_ne hb]; exact h
/-- a list that grows: its items do not know it -/
structure Grow (H H' : Hp) (fp : Addr) (ds : List PyData) : Prop where
  ex : Ex H H'
  new : H fp = none
  at_ : ∃ F, H' fp = some (.lst F) ∧ Dts (rm fp H') ds F
theorem Grow.start {H G : Hp} {fp : Addr} (e : Ex H G) (h : G fp = none) : Grow H (upd G fp (.lst [])) fp [] := ⟨e.trans (Ex.new h), Evl.fresh_back e h, [], upd_same, rfl⟩
theorem Grow.grow {H H' G : Hp} {fp : Addr} {ds : List PyData} (g : Grow H H' fp ds) (e : Ex H' G) : Grow H G fp ds := by
  obtain ⟨F, h1, h2⟩ := g.at_
  exact ⟨g.ex.trans e, g.new, F, e _ _ h1, h2.mono (rm_ex e)⟩
theorem Grow.snoc {H H' : Hp} {fp : Addr} {ds : List PyData} {F : List V} {d : PyData} {x : V} (g : Grow H H' fp ds) (hF : H' fp = some (.lst F)) (hd : Dt (rm fp H') d x) : Grow H (upd H' fp (.lst (F ++ [x]))) fp (ds ++ [d]) := by
  obtain ⟨F', h1, h2⟩ := g.at_
  rw [hF] at h1; cases h1
  refine ⟨Evl.Ex.mut g.ex g.new, g.new, _, upd_same, ?_⟩
  rw [rm_upd_any]
  exact Dts.snoc hd h2
theorem Grow.len {H H' : Hp} {fp : Addr} {ds : List PyData} {F : List V} (g : Grow H H' fp ds) (hF : H' fp = some (.lst F)) : F.length = ds.length := by
  obtain ⟨F', h1, h2⟩ := g.at_
  rw [hF] at h1; cases h1
  exact h2.length
theorem Grow.dt {H H' : Hp} {fp : Addr} {ds : List PyData} (g : Grow H H' fp ds) : Dt H' (.list ds) (.ref fp) := by
  obtain ⟨F', h1, h2⟩ := g.at_
  exact ⟨fp, F', rfl, h1, h2.mono ex_rm⟩
theorem dts_nil {α : Type} {enc : α → PyData} {H : Hp} : Dts H (([] : List α).map enc) [] := rfl
/-! ### _law_ties -/
def p_lties : Sp3 := fun vs H Q => ∃ (p : Addr) (n : Nat), vs = [.ref p, .int n] ∧ H p = some (PotO p) ∧ n ≤ 6 ∧ ∀ q ts H', Ex H H' → H q = none → Dt H' (eTies ts) (.ref q) → TiesFine n ts → ts.length ≤ 36 → Q (.ref q) H'
/-! ### _law_hands -/
def HandFine (h : Hand) : Prop := 0 ≤ h.1 ∧ h.1 < 1000 ∧ -1 ≤ h.2 ∧ h.2 ≤ 1
def p_lhands : Sp3 := fun vs H Q => ∃ (p : Addr) (n : Nat) (v : V) (ts : List Tie), vs = [.ref p, .int n, v] ∧ H p = some (PotO p) ∧ n ≤ 6 ∧ Dt H (eTies ts) v ∧ ts.length ≤ 1000 ∧
  ∀ q hs H', Ex H H' → H q = none → Dt H' (eHands hs) (.ref q) → (∀ h ∈ hs, HandFine h) → hs.length ≤ 6 → Q (.ref q) H'
/-! ### _law_sides -/
def SideFine (t : Tie) : Prop := 0 ≤ t.1 ∧ t.1 < 1000 ∧ 0 ≤ t.2.1 ∧ t.2.1 < 1000 ∧ -1 ≤ t.2.2 ∧ t.2.2 ≤ 1
def p_lsides : Sp3 := fun vs H Q => ∃ (p : Addr) (v : V) (ts : List Tie), vs = [.ref p, v] ∧ H p = some (PotO p) ∧ Dt H (eTies ts) v ∧ ts.length ≤ 36 ∧ (∀ t ∈ ts, 0 ≤ t.1 ∧ t.1 < 1000 ∧ 0 ≤ t.2.1 ∧ t.2.1 < 1000) ∧
  ∀ q ss H', Ex H H' → H q = none → Dt H' (eTies ss) (.ref q) → (∀ t ∈ ss, SideFine t) → ss.length ≤ 36 → Q (.ref q) H'
end
end W3
namespace W3
open PySem PySem.Spec PyProof.Rows L2 M83
open Evl (Ex)
def PartFine (p : Part) : Prop := (∀ c ∈ p.1.cps.toList, c < 128) ∧ p.1.cps.size ≤ 4 ∧ -9 ≤ p.2 ∧ p.2 ≤ 9
theorem part_mk {H : Hp} {p : Addr} {a : Str} {b : Int} (h : H p = some (.tup [.str a, .int b])) : Dt H (ePart (a, b)) (.ref p) := ⟨p, _, rfl, h, _, _, rfl, rfl, _, _, rfl, rfl, rfl⟩
theorem part_at {H : Hp} {t : Part} {v : V} (h : Dt H (ePart t) v) : ∃ p, v = .ref p ∧ H p = some (.tup [.str t.1, .int t.2]) := by
  obtain ⟨p, xs, rfl, hp, x, r, rfl, rfl, y, r2, rfl, rfl, rfl⟩ := h
  exact ⟨p, rfl, hp⟩
structure WebFine (m : Nat) (wb : Web) : Prop where
  pl : wb.parts.length ≤ m
  pf : ∀ q ∈ wb.parts, PartFine q
  tf : TiesFine wb.parts.length wb.ties
  tl : wb.ties.length ≤ 36
  hf : ∀ h ∈ wb.hands, HandFine h
  hl : wb.hands.length ≤ 6
  sf : ∀ t ∈ wb.sides, SideFine t
  sl : wb.sides.length ≤ 36
section
variable {σ : L2.St} {H : Hp} {p : Addr} {Q : VK}
/-- pick(pot, [four parts]) -/
theorem pick4 (a b c d : Part) {ta tb tc td : TE} (qa : ∀ H (Q : VK), Q (.int a.2) H → ta σ H Q) (qb : ∀ H (Q : VK), Q (.int b.2) H → tb σ H Q) (qc : ∀ H (Q : VK), Q (.int c.2) H → tc σ H Q) (qd : ∀ H (Q : VK), Q (.int d.2) H → td σ H Q) (hs : σ[0]? = some (some (.ref p))) (hp : H p = some (PotO p)) (k : ∀ q x H', (q = a ∨ q = b ∨ q = c ∨ q = d) → Ex H H' → (∀ fp o, H fp = some o → Dt (rm fp H') (ePart q) x) → Q x H') :
    tC3 p_pick (tCons (tVar 0) (tCons (tLst (tCons (tTup (tCons (tC (.str a.1)) (tCons ta tNil))) (tCons (tTup (tCons (tC (.str b.1)) (tCons tb tNil))) (tCons (tTup (tCons (tC (.str c.1)) (tCons tc tNil))) (tCons (tTup (tCons (tC (.str d.1)) (tCons td tNil))) tNil))))) tNil)) σ H Q := by
  refine ⟨_, hs, qa _ _ ⟨sz2, fun a1 h1 => qb _ _ ⟨sz2, fun a2 h2 => qc _ _ ⟨sz2, fun a3 h3 => qd _ _ ⟨sz2, fun a4 h4 => ⟨sz4, fun lp hlp => ?_⟩⟩⟩⟩⟩⟩
  have e1 := Ex.new (o := .tup [.str a.1, .int a.2]) h1
  have e2 := Ex.new (o := .tup [.str b.1, .int b.2]) h2
  have e3 := Ex.new (o := .tup [.str c.1, .int c.2]) h3
  have e4 := Ex.new (o := .tup [.str d.1, .int d.2]) h4
  have e5 := Ex.new (o := .lst [.ref a1, .ref a2, .ref a3, .ref a4]) hlp
  have e25 := e2.trans (e3.trans (e4.trans e5))
  have e35 := e3.trans (e4.trans e5)
  have e45 := e4.trans e5
  refine ⟨p, lp, _, rfl, (e1.trans e25) _ _ hp, upd_same, by simp, by simp, fun ix x hx H6 e6 => ?_⟩
  have n1 := h1
  have n2 := Evl.fresh_back e1 h2
  have n3 := Evl.fresh_back (e1.trans e2) h3
  have n4 := Evl.fresh_back ((e1.trans e2).trans e3) h4
  have := List.mem_of_getElem? hx
  simp only [List.mem_cons, List.not_mem_nil, or_false] at this
  rcases this with rfl | rfl | rfl | rfl
  · exact k a _ H6 (.inl rfl) ((e1.trans e25).trans e6) fun fp o hf => part_mk (rm_at (new_ne hf n1).symm (e6 _ _ (e25 _ _ upd_same)))
  · exact k b _ H6 (.inr (.inl rfl)) ((e1.trans e25).trans e6) fun fp o hf => part_mk (rm_at (new_ne hf n2).symm (e6 _ _ (e35 _ _ upd_same)))
  · exact k c _ H6 (.inr (.inr (.inl rfl))) ((e1.trans e25).trans e6) fun fp o hf => part_mk (rm_at (new_ne hf n3).symm (e6 _ _ (e45 _ _ upd_same)))
  · exact k d _ H6 (.inr (.inr (.inr rfl))) ((e1.trans e25).trans e6) fun fp o hf => part_mk (rm_at (new_ne hf n4).symm (e6 _ _ (e5 _ _ upd_same)))
theorem pick3 (a b c : Part) (hs : σ[0]? = some (some (.ref p))) (hp : H p = some (PotO p)) (k : ∀ q x H', (q = a ∨ q = b ∨ q = c) → Ex H H' → (∀ fp o, H fp = some o → Dt (rm fp H') (ePart q) x) → Q x H') :
    tC3 p_pick (tCons (tVar 0) (tCons (tLst (tCons (tTup (tCons (tC (.str a.1)) (tCons (tC (.int a.2)) tNil))) (tCons (tTup (tCons (tC (.str b.1)) (tCons (tC (.int b.2)) tNil))) (tCons (tTup (tCons (tC (.str c.1)) (tCons (tC (.int c.2)) tNil))) tNil)))) tNil)) σ H Q := by
  refine ⟨_, hs, sz2, fun a1 h1 => ⟨sz2, fun a2 h2 => ⟨sz2, fun a3 h3 => ⟨sz3, fun lp hlp => ?_⟩⟩⟩⟩
  have e1 := Ex.new (o := .tup [.str a.1, .int a.2]) h1
  have e2 := Ex.new (o := .tup [.str b.1, .int b.2]) h2
  have e3 := Ex.new (o := .tup [.str c.1, .int c.2]) h3
  have e5 := Ex.new (o := .lst [.ref a1, .ref a2, .ref a3]) hlp
  have e25 := e2.trans (e3.trans e5)
  have e35 := e3.trans e5
  refine ⟨p, lp, _, rfl, (e1.trans e25) _ _ hp, upd_same, by simp, by simp, fun ix x hx H6 e6 => ?_⟩
  have n1 := h1
  have n2 := Evl.fresh_back e1 h2
  have n3 := Evl.fresh_back (e1.trans e2) h3
  have := List.mem_of_getElem? hx
  simp only [List.mem_cons, List.not_mem_nil, or_false] at this
  rcases this with rfl | rfl | rfl
  · exact k a _ H6 (.inl rfl) ((e1.trans e25).trans e6) fun fp o hf => part_mk (rm_at (new_ne hf n1).symm (e6 _ _ (e25 _ _ upd_same)))
  · exact k b _ H6 (.inr (.inl rfl)) ((e1.trans e25).trans e6) fun fp o hf => part_mk (rm_at (new_ne hf n2).symm (e6 _ _ (e35 _ _ upd_same)))
  · exact k c _ H6 (.inr (.inr rfl)) ((e1.trans e25).trans e6) fun fp o hf => part_mk (rm_at (new_ne hf n3).symm (e6 _ _ (e5 _ _ upd_same)))
end
section
variable {P : Program} {w : World} {K : PySem.W.Frag} {mg : Str → Option Value} {base : Heap}
/-! ### _law_web -/
def p_web : Sp3 := fun vs H Q => ∃ (p : Addr) (lo hi : Int) (m : Nat), vs = [.ref p, .int lo, .int hi] ∧ H p = some (PotO p) ∧ 0 ≤ lo ∧ lo ≤ hi ∧ hi = m ∧ m ≤ 6 ∧ ∀ wv wb H', Ex H H' → Dt H' (eWeb wb) wv → WebFine m wb → Q wv H'
end
end W3
namespace W3
open PySem PySem.Spec PyProof.Rows L2 M83
open Evl (Ex)
/-! ### the law's own way to grow rows -/
def waysM (x y : Int) (os : List Int) : List (List Tie) := [] :: os.map fun o => [(x, y, o)]
theorem growL_ways (os : List Int) (rows : List (List Tie)) (p : Int × Int) : growL os rows p = rows.flatMap fun r => (waysM p.1 p.2 os).map fun t => r ++ t := rfl
theorem choicesL_snoc (os : List Int) (ps : List (Int × Int)) (p : Int × Int) : choicesL os (ps ++ [p]) = growL os (choicesL os ps) p := by
  unfold choicesL; rw [List.foldl_append]; rfl
theorem choicesL_len (os : List Int) (ps : List (Int × Int)) : (choicesL os ps).length = (os.length + 1) ^ ps.length := by
  rw [← (choices_perm os ps).length_eq, choices_len]
theorem choicesL_row {os : List Int} {ps : List (Int × Int)} {r : List Tie} (h : r ∈ choicesL os ps) : r.length ≤ ps.length :=
  (choices_fin (B := fun _ => True) (fun _ _ _ _ => trivial) r ((choices_perm os ps).mem_iff.mpr h)).2
theorem pairsTo_mono (n : Nat) {i k : Nat} (h : i ≤ k) : (pairsTo n i).length ≤ (pairsTo n k).length := by
  induction h with
  | refl => exact Nat.le_refl _
  | step _ ih => rw [pairsTo_succ, List.length_append]; omega
theorem ex_to_rm {D : Addr} {H G : Hp} (e : Ex H G) (h : H D = none) : Ex H (rm D G) := fun b o hb => rm_at (new_ne hb h) (e _ _ hb)
theorem sortW_perm {A B : List (List Tie)} (f : List Tie → Web) (h : A.Perm B) : sortW (A.map f) = sortW (B.map f) := sort_perm (allAlike_map alike_web _) ((h.map f).map eWeb)
theorem ways_go {K : PySem.W.Frag} {σ : L2.St} {G : Hp} {Q : VK} {sO so sa sb : Nat} {op : Addr} {x y : Int} {os : List Int} (hs : σ[sO]? = some (some (.ref op))) (hop : G op = some (.lst (os.map V.int))) (hl : os.length ≤ 4)
    (hw : ∀ v, wipe ((wipe σ [so]).set so (some v)) [so] = wipe σ [so]) (ga : ∀ v, ((wipe σ [so]).set so (some v))[sa]? = some (some (.int x))) (gb : ∀ v, ((wipe σ [so]).set so (some v))[sb]? = some (some (.int y))) (go : ∀ v, ((wipe σ [so]).set so (some v))[so]? = some (some v))
    (k : ∀ wp wxs H2, Ex G H2 → H2 wp = some (.lst wxs) → Dts H2 ((waysM x y os).map eTies) wxs → Q (.ref wp) H2) :
    tOp rCat (tLst (tCons (tLst tNil) tNil)) (tLc (iList K (tVar sO)) (gName so) tYes (tFr (tLst (tCons (tTup (tCons (tVar sa) (tCons (tVar sb) (tCons (tVar so) tNil)))) tNil))) [so]) σ G Q := by
  refine ⟨Nat.zero_le _, fun a1 h1 => ⟨sz1, fun a2 h2 => ?_⟩⟩
  have e1 := Ex.new (o := .lst []) h1
  have e2 := e1.trans (Ex.new (o := .lst [.ref a1]) h2)
  have n12 : a1 ≠ a2 := new_ne upd_same h2
  have ha1 : upd (upd G a1 (.lst [])) a2 (.lst [.ref a1]) a1 = some (.lst []) := by rw [upd_ne n12]; exact upd_same
  have ha2 : upd (upd G a1 (.lst [])) a2 (.lst [.ref a1]) a2 = some (.lst [.ref a1]) := upd_same
  have hop2 := e2 _ _ hop
  generalize upd (upd G a1 (.lst [])) a2 (.lst [.ref a1]) = G2 at e2 ha1 ha2 hop2 ⊢
  refine lcN G2 (fun i acc G' => Ex G2 G' ∧ Dts G' ((os.take i).map fun o => eTies [(x, y, o)]) acc) (fun R q => ⟨_, hs, op, rfl, ⟨_, SqL.of hop2⟩, q⟩) hop2 (by rw [List.length_map]; omega) ⟨Ex.refl _, rfl⟩ ?_ hw ?_ ?_
  · rintro i acc G' ⟨_, hd⟩
    rw [hd.length, List.length_map, List.length_take]; omega
  · rintro i v acc G' hi eG ⟨_, hd⟩
    rw [List.getElem?_map] at hi
    obtain ⟨o, ho, rfl⟩ := Option.map_eq_some_iff.mp hi
    refine ⟨_, ga _, _, gb _, _, go _, sz3, fun tp htp => ⟨sz1, fun lp hlp => ?_⟩⟩
    have f1 := Ex.new (o := .tup [.int x, .int y, .int o]) htp
    have f2 := f1.trans (Ex.new (o := .lst [.ref tp]) hlp)
    refine ⟨f2, eG.trans f2, ?_⟩
    rw [List.take_add_one, ho, List.map_append]
    refine Dts.snoc ?_ (hd.mono f2)
    exact ⟨lp, _, rfl, upd_same, Dts.mk1 (tie_mk (by rw [upd_ne (new_ne upd_same hlp)]; exact upd_same))⟩
  · rintro acc G' p eG hp ⟨_, hd⟩
    rw [List.length_map, List.take_length] at hd
    have f1 := Ex.new (o := .lst acc) hp
    have la := hd.length
    rw [List.length_map] at la
    have big : (3000 : Nat) < sizeLine := by decide
    refine ⟨a2, p, _, acc, rfl, rfl, f1 _ _ (eG _ _ ha2), upd_same, by simp; omega, fun wp hwp => ?_⟩
    have f2 := f1.trans (Ex.new (o := .lst ([.ref a1] ++ acc)) hwp)
    refine k wp _ _ ((e2.trans eG).trans f2) upd_same ?_
    have h0 : Dt (upd (upd G' p (.lst acc)) wp (.lst ([.ref a1] ++ acc))) (eTies []) (.ref a1) := ⟨a1, [], rfl, (eG.trans f2) _ _ ha1, rfl⟩
    have hd2 := hd.mono f2
    refine ⟨.ref a1, acc, rfl, h0, ?_⟩
    rw [List.map_map]
    exact hd2
theorem ext_go {K : PySem.W.Frag} {σ : L2.St} {G : Hp} {Q : VK} {sw sr st : Nat} {rp wp : Addr} {rxs wxs : List V} {r : List Tie} {ws : List (List Tie)} (hs : σ[sw]? = some (some (.ref wp))) (hrp : G rp = some (.lst rxs)) (hr : Dts G (r.map eTie) rxs) (hwp : G wp = some (.lst wxs)) (hw' : Dts G (ws.map eTies) wxs)
    (hlr : r.length ≤ 100) (hlw : ws.length ≤ 100) (hlt : ∀ t ∈ ws, t.length ≤ 100) (hw : ∀ v, wipe ((wipe σ [st]).set st (some v)) [st] = wipe σ [st]) (gr : ∀ v, ((wipe σ [st]).set st (some v))[sr]? = some (some (.ref rp))) (gt : ∀ v, ((wipe σ [st]).set st (some v))[st]? = some (some v))
    (k : ∀ q acc H2, Ex G H2 → H2 q = some (.lst acc) → Dts H2 ((ws.map fun t => r ++ t).map eTies) acc → New G acc → Q (.ref q) H2) :
    tLc (iList K (tVar sw)) (gName st) tYes (tFr (tOp rCat (tVar sr) (tVar st))) [st] σ G Q := by
  have lw : wxs.length = ws.length := by rw [hw'.length, List.length_map]
  refine lcN G (fun i acc G' => Ex G G' ∧ Dts G' (((ws.take i).map fun t => r ++ t).map eTies) acc ∧ New G acc) (fun R q => ⟨_, hs, wp, rfl, ⟨_, SqL.of hwp⟩, q⟩) hwp (by omega) ⟨Ex.refl _, rfl, fun z h => by simp at h⟩ ?_ hw ?_ ?_
  · rintro i acc G' ⟨_, hd, _⟩
    rw [hd.length, List.length_map, List.length_map, List.length_take]; omega
  · rintro i v acc G' hi eG ⟨_, hd, hn⟩
    obtain ⟨t, ht, hv⟩ := item' hw' hi
    obtain ⟨tp, txs, rfl, htp, htx⟩ := hv
    have lt := hlt t (List.mem_of_getElem? ht)
    have lr : rxs.length = r.length := by rw [hr.length, List.length_map]
    have ltx : txs.length = t.length := by rw [htx.length, List.length_map]
    have big : (3000 : Nat) < sizeLine := by decide
    refine ⟨_, gr _, _, gt _, rp, tp, rxs, txs, rfl, rfl, eG _ _ hrp, eG _ _ htp, by omega, fun p hp => ?_⟩
    have f1 := Ex.new (o := .lst (rxs ++ txs)) hp
    refine ⟨f1, eG.trans f1, ?_, hn.snoc (Evl.fresh_back eG hp)⟩
    rw [List.take_add_one, ht, List.map_append, List.map_append]
    refine Dts.snoc ?_ (hd.mono f1)
    refine ⟨p, _, rfl, upd_same, ?_⟩
    rw [List.map_append]
    exact Dts.append (htx.mono (eG.trans f1)) (hr.mono (eG.trans f1))
  · rintro acc G' p eG hp ⟨_, hd, hn⟩
    rw [lw, List.take_length] at hd
    exact k p acc _ (eG.trans (Ex.new hp)) upd_same (hd.mono (Ex.new hp)) hn
end W3
namespace W3
open PySem PySem.Spec PyProof.Rows L2 M83
open Evl (Ex)
/-! ### small data: they are shown -/
structure Sm (k b : Nat) (d : PyData) : Prop where
  lf : Lf d
  dp : d.depth ≤ k
  bk : d.bulk ≤ b
theorem Sm.fine {k b : Nat} {d : PyData} (h : Sm k b d) (hk : k ≤ 32 := by decide) (hb : b ≤ 1000000 := by decide) : Dt.fine d := fine_of h.lf (Nat.le_trans h.dp hk) (Nat.le_trans h.bk hb)
theorem Sm.list {α : Type} {enc : α → PyData} {k b n : Nat} {as : List α} (h : ∀ a ∈ as, Sm k b (enc a)) (hn : as.length ≤ n) : Sm (k + 1) (n * (b + 1)) (.list (as.map enc)) := by
  refine ⟨Lfs.map fun a ha => (h a ha).lf, ?_, ?_⟩
  · show PyData.depthAll _ + 1 ≤ k + 1
    have := depthAll_map (enc := enc) (k := k) (as := as) fun a ha => (h a ha).dp
    omega
  · show PyData.bulkAll _ ≤ _
    have := bulkAll_map (enc := enc) (k := b) (as := as) fun a ha => (h a ha).bk
    exact Nat.le_trans this (Nat.mul_le_mul_right _ hn)
theorem Sm.tup2 {k a b : Nat} {x y : PyData} (h1 : Sm k a x) (h2 : Sm k b y) : Sm (k + 1) (a + b + 2) (.tuple [x, y]) := by
  have := h1.dp; have := h2.dp; have := h1.bk; have := h2.bk
  refine ⟨⟨h1.lf, h2.lf, trivial⟩, ?_, ?_⟩
  · simp only [PyData.depth, PyData.depthAll]; omega
  · simp only [PyData.bulk, PyData.bulkAll]; omega
theorem Sm.tup3 {k a b c : Nat} {x y z : PyData} (h1 : Sm k a x) (h2 : Sm k b y) (h3 : Sm k c z) : Sm (k + 1) (a + b + c + 3) (.tuple [x, y, z]) := by
  have := h1.dp; have := h2.dp; have := h1.bk; have := h2.bk; have := h3.dp; have := h3.bk
  refine ⟨⟨h1.lf, h2.lf, h3.lf, trivial⟩, ?_, ?_⟩
  · simp only [PyData.depth, PyData.depthAll]; omega
  · simp only [PyData.bulk, PyData.bulkAll]; omega
theorem Sm.tup4 {k a b c d : Nat} {x y z u : PyData} (h1 : Sm k a x) (h2 : Sm k b y) (h3 : Sm k c z) (h4 : Sm k d u) : Sm (k + 1) (a + b + c + d + 4) (.tuple [x, y, z, u]) := by
  have := h1.dp; have := h2.dp; have := h1.bk; have := h2.bk; have := h3.dp; have := h3.bk; have := h4.dp; have := h4.bk
  refine ⟨⟨h1.lf, h2.lf, h3.lf, h4.lf, trivial⟩, ?_, ?_⟩
  · simp only [PyData.depth, PyData.depthAll]; omega
  · simp only [PyData.bulk, PyData.bulkAll]; omega
theorem Sm.up {k k' b b' : Nat} {d : PyData} (h : Sm k b d) (hk : k ≤ k' := by decide) (hb : b ≤ b' := by decide) : Sm k' b' d := ⟨h.lf, Nat.le_trans h.dp hk, Nat.le_trans h.bk hb⟩
theorem sm_int {i : Int} (h : i.natAbs < 1000000) : Sm 0 0 (.int i) := ⟨h, by simp [PyData.depth], by simp [PyData.bulk]⟩
theorem sm_part {q : Part} (h : PartFine q) : Sm 1 6 (ePart q) := by
  obtain ⟨h1, h2, h3, h4⟩ := h
  refine ⟨⟨h1, (by show q.2.natAbs < 1000000; omega), trivial⟩, dep_part q, ?_⟩
  simp only [ePart, PyData.bulk, PyData.bulkAll]; omega
def TieSm (t : Tie) : Prop := t.1.natAbs < 1000 ∧ t.2.1.natAbs < 1000 ∧ t.2.2.natAbs < 1000
theorem sm_tie {t : Tie} (h : TieSm t) : Sm 1 3 (eTie t) := by
  obtain ⟨h1, h2, h3⟩ := h
  exact (Sm.tup3 (sm_int (by omega)) (sm_int (by omega)) (sm_int (by omega))).up
theorem sm_hand {h : Hand} (hf : HandFine h) : Sm 1 2 (eHand h) := by
  obtain ⟨h1, h2, h3, h4⟩ := hf
  exact (Sm.tup2 (sm_int (by omega)) (sm_int (by omega))).up
structure WSm (w : Web) : Prop where
  pf : ∀ q ∈ w.parts, PartFine q
  pn : w.parts.length ≤ 30
  tf : ∀ t ∈ w.ties, TieSm t
  tn : w.ties.length ≤ 60
  hf : ∀ h ∈ w.hands, HandFine h
  hn : w.hands.length ≤ 60
  sf : ∀ t ∈ w.sides, TieSm t
  sn : w.sides.length ≤ 60
theorem sm_web {w : Web} (h : WSm w) : Sm 3 1000 (eWeb w) :=
  (Sm.tup4 (Sm.list (n := 30) (fun q hq => sm_part (h.pf q hq)) h.pn) (Sm.list (n := 60) (fun t ht => sm_tie (h.tf t ht)) h.tn) (Sm.up (k' := 2) (b' := 180) (Sm.list (n := 60) (fun t ht => sm_hand (h.hf t ht)) h.hn)) (Sm.list (n := 60) (fun t ht => sm_tie (h.sf t ht)) h.sn)).up
theorem sm_parts {ps : List Part} (h : ∀ q ∈ ps, PartFine q) (hn : ps.length ≤ 30) : Sm 2 210 (eParts ps) := Sm.list (n := 30) (fun q hq => sm_part (h q hq)) hn
theorem sm_ints {os : List Int} (h : ∀ o ∈ os, o.natAbs < 1000000) (hn : os.length ≤ 30) : Sm 1 30 (eInts os) := (Sm.list (enc := PyData.int) (n := 30) (fun o ho => sm_int (h o ho)) hn).up
theorem sm_webs {ws : List Web} (h : ∀ w ∈ ws, WSm w) (hn : ws.length ≤ 100) : Sm 4 100100 (.list (sortW ws)) := by
  have e : (PyData.list (sortW ws)) = .list ((sortW ws).map id) := by rw [List.map_id]
  rw [e]
  refine Sm.list (enc := id) (n := 100) (k := 3) (b := 1000) (fun d hd => ?_) ?_
  · obtain ⟨w, hw, rfl⟩ := List.mem_map.mp (sort_in hd)
    exact sm_web (h w hw)
  · unfold sortW; rw [List.length_mergeSort, List.length_map]; exact hn
theorem choice_bound {n l : Nat} (h : (n ≤ 2 ∧ l ≤ 4) ∨ (n = 3 ∧ l ≤ 3) ∨ (n = 4 ∧ l ≤ 1)) : (l + 1) ^ (pairsM n).length ≤ 64 := by
  rcases h with ⟨h1, h2⟩ | ⟨rfl, h2⟩ | ⟨rfl, h2⟩
  · have : (pairsM n).length ≤ 1 := by
      have := pairsM_len n
      have : n * (n - 1) ≤ 2 * 1 := Nat.mul_le_mul h1 (by omega)
      omega
    exact Nat.le_trans (Nat.pow_le_pow_right (by omega) this) (by rw [Nat.pow_one]; omega)
  · rw [show (pairsM 3).length = 3 by decide]
    exact Nat.le_trans (Nat.pow_le_pow_left (show l + 1 ≤ 4 by omega) 3) (by decide)
  · rw [show (pairsM 4).length = 6 by decide]
    exact Nat.le_trans (Nat.pow_le_pow_left (show l + 1 ≤ 2 by omega) 6) (by decide)
theorem pairs_fin {n : Nat} {pr : Int × Int} (h : pr ∈ pairsM n) : 0 ≤ pr.1 ∧ pr.1 < n ∧ 0 ≤ pr.2 ∧ pr.2 < n := by
  obtain ⟨a, ha, h⟩ := List.mem_flatMap.mp h
  obtain ⟨k, hk, rfl⟩ := List.mem_map.mp h
  have := List.mem_range.mp ha
  have := List.mem_range.mp hk
  refine ⟨?_, ?_, ?_, ?_⟩ <;> dsimp only <;> omega
section
variable {P : Program} {w : World} {K : PySem.W.Frag} {mg : Str → Option Value} {base : Heap}
def p_right : Sp3 := fun vs H Q => ∃ p : Addr, vs = [.ref p] ∧ H p = some (PotO p) ∧ ∀ H', Ex H H' → Q (.bl true) H'
end
end W3
namespace W3
open PySem PySem.Spec PyProof.Rows L2 M83
open Evl (Ex)
theorem grow_bound {n l : Nat} (h : (n ≤ 3 ∧ l ≤ 3) ∨ (n = 4 ∧ l ≤ 2)) : (l + 1) ^ n ≤ 100 := by
  rcases h with ⟨h1, h2⟩ | ⟨rfl, h2⟩
  · exact Nat.le_trans (Nat.pow_le_pow_right (by omega) h1) (Nat.le_trans (Nat.pow_le_pow_left (show l + 1 ≤ 4 by omega) 3) (by decide))
  · exact Nat.le_trans (Nat.pow_le_pow_left (show l + 1 ≤ 3 by omega) 4) (by decide)
theorem WebFine.sm {m : Nat} {wb : Web} (h : WebFine m wb) (hm : m ≤ 6) : WSm wb := by
  refine ⟨h.pf, by have := h.pl; omega, fun t ht => ?_, by have := h.tl; omega, h.hf, by have := h.hl; omega, fun t ht => ?_, by have := h.sl; omega⟩
  · have a := h.tf.1 t ht
    have b := h.tf.2 t ht
    have := h.pl
    exact ⟨by omega, by omega, by omega⟩
  · obtain ⟨a, b, c, d, e, f⟩ := h.sf t ht
    exact ⟨by omega, by omega, by omega⟩
theorem WebFine.plain {m : Nat} {wb : Web} (h : WebFine m wb) : WebFine m ⟨wb.parts, wb.ties, [], []⟩ := ⟨h.pl, h.pf, h.tf, h.tl, fun h hh => by simp at hh, Nat.zero_le _, fun h hh => by simp at hh, Nat.zero_le _⟩
section
variable {P : Program} {w : World} {K : PySem.W.Frag} {mg : Str → Option Value} {base : Heap}
end
end W3
namespace W3
open PySem PySem.Spec PyProof.Rows L2 M83
open Evl (Ex)
section
variable {K : PySem.W.Frag} {σ : L2.St} {H H1 : Hp} {vs : List Nat} {Q : VK} {te : TE} {tt : TT} {wi : TI}
/-- [e for x in xs if t] -/
theorem lc_nt {a : Addr} {xs : List V} {j : Nat} {D : Addr} (P : Nat → List V → Hp → Prop) (hx : H1 a = some (.lst xs)) (hz : xs.length ≤ 100000) (h0 : P 0 [] H1) (hlen : ∀ i acc G, P i acc G → acc.length ≤ i)
    (hw : ∀ x, wipe ((wipe σ vs).set j (some x)) vs = wipe σ vs)
    (step : ∀ i x acc G, xs[i]? = some x → Ex H1 G → P i acc G → tt ((wipe σ vs).set j (some x)) G fun b G3 => Ex G G3 ∧ (b = true → te ((wipe σ vs).set j (some x)) G3 fun y G4 => Ex G3 G4 ∧ P (i + 1) (acc ++ [y]) G4) ∧ (b = false → P (i + 1) acc G3))
    (done : ∀ acc G p, Ex H1 G → G p = none → P xs.length acc G → Q (.ref p) (upd G p (.lst acc))) (hD : H1 D = none) :
    ∃ W : Nat → Nat → Hp → Prop, (∃ m, W 0 m (upd H1 D (.lst []))) ∧ ∀ i m H, W i m H →
      ((Itl K a).stop i H ∧ Q (.ref D) H) ∨ ((Itl K a).go i H ∧ ∃ Nx : Hp → Prop, (∀ H', Nx H' → ∃ m', m' < m ∧ W (i + 1) m' H') ∧ ∀ x H', (Itl K a).yld i H x H' → gName j x (wipe σ vs) H' fun σ2 H2 => wipe σ2 vs = wipe σ vs ∧ tFrT tt σ2 H2 fun b H3 =>
        if b = true then tFr te σ2 H3 fun y H4 => ∃ acc, H4 D = some (.lst acc) ∧ acc.length < sizeLine ∧ Nx (upd H4 D (.lst (acc ++ [y]))) else Nx H3) := by
  refine lc_list (xs := xs) (fun i => At H1 D (P i)) (At.start hD h0) (fun i H _ ⟨acc, G, eH, n, e, _, _⟩ => ?_) (fun i x H hi ⟨acc, G, eH, n, e, l, p⟩ => ?_) fun H ⟨acc, G, eH, n, e, _, p⟩ => ?_
  · subst eH; exact SqL.of (ex_upd n _ _ (e _ _ hx))
  · subst eH
    refine ⟨hw x, tt_fr n e ?_ (step i x acc G hi e p)⟩
    have h1 := hlen i acc G p
    have h2 := (List.getElem?_eq_some_iff.mp hi).1
    have h3 : (100002 : Nat) < sizeLine := by decide
    omega
  · subst eH; exact done acc G D e n p
theorem lcNt (H1 : Hp) {a : Addr} {xs : List V} {j : Nat} (P : Nat → List V → Hp → Prop) (hi : ∀ R : It → Hp → Prop, R (Itl K a) H1 → wi σ H R) (hx : H1 a = some (.lst xs)) (hz : xs.length ≤ 100000) (h0 : P 0 [] H1) (hlen : ∀ i acc G, P i acc G → acc.length ≤ i)
    (hw : ∀ x, wipe ((wipe σ vs).set j (some x)) vs = wipe σ vs)
    (step : ∀ i x acc G, xs[i]? = some x → Ex H1 G → P i acc G → tt ((wipe σ vs).set j (some x)) G fun b G3 => Ex G G3 ∧ (b = true → te ((wipe σ vs).set j (some x)) G3 fun y G4 => Ex G3 G4 ∧ P (i + 1) (acc ++ [y]) G4) ∧ (b = false → P (i + 1) acc G3))
    (done : ∀ acc G p, Ex H1 G → G p = none → P xs.length acc G → Q (.ref p) (upd G p (.lst acc))) : tLc wi (gName j) (tFrT tt) (tFr te) vs σ H Q :=
  hi _ fun _ hD => lc_nt P hx hz h0 hlen hw step done hD
end
theorem dts_perm {H : Hp} {ys xs : List V} (pm : ys.Perm xs) : ∀ {ds : List PyData}, Dts H ds xs → ∃ es, es.Perm ds ∧ Dts H es ys := by
  induction pm with
  | nil => exact fun {ds} h => ⟨ds, List.Perm.refl _, h⟩
  | cons x p ih =>
    intro ds h
    cases ds with
    | nil => cases h
    | cons d ds =>
      obtain ⟨y, r, e, hy, hr⟩ := h
      cases e
      obtain ⟨es, p2, h2⟩ := ih hr
      exact ⟨d :: es, p2.cons d, _, _, rfl, hy, h2⟩
  | swap x y l =>
    intro ds h
    cases ds with
    | nil => cases h
    | cons d ds =>
      obtain ⟨y, r, e, hy, hr⟩ := h
      cases e
      cases ds with
      | nil => cases hr
      | cons d2 ds =>
        obtain ⟨z, r2, e, hz, hr⟩ := hr
        cases e
        exact ⟨d2 :: d :: ds, List.Perm.swap _ _ _, _, _, rfl, hz, _, _, rfl, hy, hr⟩
  | trans p q ih1 ih2 =>
    intro ds h
    obtain ⟨es, p1, h1⟩ := ih2 h
    obtain ⟨fs, p2, h2⟩ := ih1 h1
    exact ⟨fs, p2.trans p1, h2⟩
theorem dts_perm_map {α : Type} {enc : α → PyData} {H : Hp} {ys xs : List V} {as : List α} (pm : ys.Perm xs) (h : Dts H (as.map enc) xs) : ∃ bs : List α, bs.Perm as ∧ Dts H (bs.map enc) ys := by
  obtain ⟨es, p, h2⟩ := dts_perm pm h
  obtain ⟨bs, rfl, q⟩ := perm_of_map enc p
  exact ⟨bs, q, h2⟩
end W3
namespace W3
open PySem PySem.Spec PyProof.Rows L2 M83
open Evl (Ex)
theorem part_k0 : PartFine ("k", 0) := ⟨by decide +kernel, by decide +kernel, by decide, by decide⟩
theorem TiesFine.sm {n : Nat} {ts : List Tie} (h : TiesFine n ts) (hn : n ≤ 100) : ∀ t ∈ ts, TieSm t := fun t ht => by
  have a := h.1 t ht
  have b := h.2 t ht
  exact ⟨by omega, by omega, by omega⟩
theorem tup3_mk {H : Hp} {p : Addr} {a b c : V} {x y z : PyData} (h : H p = some (.tup [a, b, c])) (h1 : Dt H x a) (h2 : Dt H y b) (h3 : Dt H z c) : Dt H (.tuple [x, y, z]) (.ref p) := ⟨p, _, rfl, h, _, _, rfl, h1, _, _, rfl, h2, _, _, rfl, h3, rfl⟩
theorem dep_any {α : Type} {enc : α → PyData} (h : ∀ a, (enc a).depth ≤ 1) (as : List α) : (PyData.list (as.map enc)).depth ≤ 32 := Nat.le_trans (dep_list h as) (by decide)
theorem dep_parts (ps : List Part) : (PyData.list ((ps.map ePart).mergeSort (PySem.W.dataLe false id))).depth ≤ 32 := by
  show PyData.depthAll _ + 1 ≤ 32
  have := depthAll_map (enc := id) (k := 1) (as := (ps.map ePart).mergeSort (PySem.W.dataLe false id)) fun d hd => by
    obtain ⟨p, _, rfl⟩ := List.mem_map.mp (sort_in hd)
    exact dep_part p
  rw [List.map_id] at this
  omega
theorem mapnil {α β : Type} {f : α → β} {xs : List α} : (xs.map f).isEmpty = true ↔ xs = [] := by cases xs <;> simp
open Classical in
/-- web[2] == [] and web[3] == [] -/
theorem sides_go {K : PySem.W.Frag} {σ : L2.St} {H : Hp} {Q : VK} {s : Nat} {wp a b ha sa : Addr} {wb : Web} (hs : σ[s]? = some (some (.ref wp))) (hwp : H wp = some (.tup [.ref a, .ref b, .ref ha, .ref sa])) (d3 : Dt H (eHands wb.hands) (.ref ha)) (d4 : Dt H (eTies wb.sides) (.ref sa)) (sm : WSm wb)
    (k : ∀ H', Ex H H' → Q (.bl (decide (wb.hands = [] ∧ wb.sides = []))) H') :
    tAndV (tOp (rEqD K) (tOp (rIxT K) (tVar s) (tC (.int 2))) (tLst tNil)) (tOp (rEqD K) (tOp (rIxT K) (tVar s) (tC (.int 3))) (tLst tNil)) σ H Q := by
  have lf := (sm_web sm).lf
  refine ⟨_, hs, wp, _, 2, _, rfl, rfl, SqT.of hwp, rfl, Nat.zero_le _, fun b1 nb1 => ?_⟩
  have e3 := Ex.new (o := .lst []) nb1
  refine ⟨_, _, Dt.dp (d3.mono e3), Dt.dp (dt_nil upd_same), shaped_of lf.2.2.1 (dep_any dep_hand _), shaped_of nil_lf nil_dep, _, rfl, ?_⟩
  rw [show eHands wb.hands = .list (wb.hands.map eHand) from rfl, eqv_nil]
  refine iteAny (fun h => ?_) (fun h => ?_)
  · have hh := mapnil.mp h
    refine ⟨_, hs, wp, _, 3, _, rfl, rfl, SqT.of (e3 _ _ hwp), rfl, Nat.zero_le _, fun b2 nb2 => ?_⟩
    have e4 := e3.trans (Ex.new (o := .lst []) nb2)
    refine ⟨_, _, Dt.dp (d4.mono e4), Dt.dp (dt_nil upd_same), shaped_of lf.2.2.2.1 (dep_any dep_tie _), shaped_of nil_lf nil_dep, ?_⟩
    rw [show eTies wb.sides = .list (wb.sides.map eTie) from rfl, eqv_nil]
    have z := k _ e4
    have : decide (wb.hands = [] ∧ wb.sides = []) = (wb.sides.map eTie).isEmpty := by
      rw [Bool.eq_iff_iff, decide_eq_true_iff, mapnil]
      exact ⟨fun h => h.2, fun h => ⟨hh, h⟩⟩
    rw [this] at z
    exact z
  · have z := k _ e3
    rw [decide_eq_false (fun h2 => by rw [h2.1] at h; simp at h)] at z
    exact z
section
variable {P : Program} {w : World} {K : PySem.W.Frag} {mg : Str → Option Value} {base : Heap}
open Classical in
/-- parts, orders, and whether it must be whole: what is asked of a web -/
structure Ask (H0 H : Hp) (p : Addr) (wv qv ov : V) (wb : Web) (ps : List Part) (os : List Int) : Prop where
  ex : Ex H0 H
  dw : Dt H (eWeb wb) wv
  dp : Dt H (eParts ps) qv
  dO : Dt H (eInts os) ov
  pl : ps.length ≤ 7
  pf : ∀ q ∈ ps, PartFine q
  ol : os.length ≤ 36
  of : ∀ o ∈ os, 1 ≤ o ∧ o ≤ 4
end
end W3
namespace W3
open PySem PySem.Spec PyProof.Rows L2 M83
open Evl (Ex)
theorem part_a9 : PartFine ("a", 9) := ⟨by decide +kernel, by decide +kernel, by decide, by decide⟩
theorem part_b0 : PartFine ("b", 0) := ⟨by decide +kernel, by decide +kernel, by decide, by decide⟩
/-- ties of a chain or a ring, one order -/
def Chain (n : Int) (o : Int) (ts : List Tie) : Prop := ∀ t ∈ ts, 0 ≤ t.1 ∧ t.1 < t.2.1 ∧ t.2.1 < n ∧ t.2.2 = o
theorem sm_bools {bs : List Bool} (h : bs.length ≤ 4) : Sm 1 4 (.list (bs.map PyData.bool)) :=
  Sm.up (Sm.list (enc := PyData.bool) (k := 0) (b := 0) (n := 4) (fun b _ => ⟨trivial, by simp [PyData.depth], by simp [PyData.bulk]⟩) h)
theorem dts_bools {H : Hp} : ∀ bs : List Bool, Dts H (bs.map PyData.bool) (bs.map V.bl)
  | [] => rfl
  | _ :: bs => ⟨_, _, rfl, rfl, dts_bools bs⟩
theorem map_erase {α β : Type} (f : α → β) : ∀ (xs : List α) {k : Nat}, (xs.map f).eraseIdx k = (xs.eraseIdx k).map f
  | [], _ => rfl
  | _ :: _, 0 => rfl
  | x :: xs, k + 1 => by simp [map_erase f xs]
section
variable {P : Program} {w : World} {K : PySem.W.Frag} {mg : Str → Option Value} {base : Heap}
end
end W3

end
section
set_option Elab.async false
set_option linter.all false
set_option maxRecDepth 100000
set_option maxHeartbeats 4000000
namespace W3
open PySem PySem.Spec PyProof.Rows L2
open Evl (Ex)
/-! ### any, all of a generator expression over a list or a tuple -/
/-- a list (tp = false) or a tuple -/
def Src (tp : Bool) (h : Heap) (ax : Addr) (its : Array Value) : Prop := if tp = true then h.IsTuple ax its else h.IsList ax its
def Turn (tp : Bool) (I ax : Addr) (its : Array Value) (i : Nat) (h : Heap) : Prop := (if tp = true then h.IsTupleIter I ax i else h.IsListIter I ax i) ∧ Src tp h ax its
theorem Src.get {tp : Bool} {h : Heap} {ax : Addr} {its : Array Value} (q : Src tp h ax its) : ∃ o, h.get? ax = some o ∧ (∀ vs, o.data ≠ .fields vs) := by
  cases tp with
  | true =>
    obtain ⟨o, e, _, _, d⟩ := (show h.IsTuple ax its from q)
    exact ⟨o, e, fun vs z => by rw [d] at z; cases z⟩
  | false =>
    obtain ⟨o, e, _, _, d⟩ := (show h.IsList ax its from q)
    exact ⟨o, e, fun vs z => by rw [d] at z; cases z⟩
theorem Src.keep {tp : Bool} {h g : Heap} {ax : Addr} {its : Array Value} (q : Src tp h ax its) (k : ∀ o, h.get? ax = some o → g.get? ax = some o) : Src tp g ax its := by
  cases tp with
  | true => obtain ⟨o, e, r⟩ := (show h.IsTuple ax its from q); exact (show g.IsTuple ax its from ⟨o, k _ e, r⟩)
  | false => obtain ⟨o, e, r⟩ := (show h.IsList ax its from q); exact (show g.IsList ax its from ⟨o, k _ e, r⟩)
theorem turn_walks {prog : Program} {w : World} (tp : Bool) (A : Around) (hh : A.handled = none) (I ax : Addr) (hne : ax ≠ I) (its : Array Value) : Walks prog w A I [I, ax] [I] its.size (fun i v => its[i]? = some v) (Turn tp I ax its) := by
  cases tp with
  | true => exact Walks.tuple hh I ax hne its
  | false => exact Walks.list hh I ax hne its
theorem turn_iter {prog : Program} {w : World} {A : Around} {E : Value → Shared → Prop} {s : Shared} {tp : Bool} {ax : Addr} {its : Array Value} {Q : Value → Shared → Prop} (q : Src tp s.heap ax its)
    (hQ : ∀ o : Obj, o.isFreed = false → (∀ h, h.get? s.heap.objs.size = some o → Src tp h ax its → Turn tp s.heap.objs.size ax its 0 h) → Q (.ref s.heap.objs.size) { s with heap := s.heap.push o }) : wpAny (model prog w) A (pyIter (.ref ax)) Q E s := by
  cases tp with
  | true => exact wpAny_pyIter_tuple q (hQ _ rfl fun h e q2 => ⟨⟨_, e, rfl, rfl⟩, q2⟩)
  | false => exact wpAny_pyIter_list q (hQ _ rfl fun h e q2 => ⟨⟨_, e, rfl, rfl⟩, q2⟩)
/-- what an element asks: the generator's frame, what stood when it was made -/
def Elt (X : Cx) (s1 : Shared) (P : Addr) (scope : Scope) (x : Str) (elt : Expr) (xs : List V) (tb : Nat → Bool) : Prop :=
  ∀ (cenv : Env) (A' : Around) (E' : Value → Shared → Prop) (i : Nat) (xv : V) (v : Value) (s₂ : Shared) (m₂ : Str → Option Value), A'.handled = none → cenv.scope = scope → cenv.cells = cloFrom X.env.cells scope.names [] → xs[i]? = some xv → RelV xv v →
    s₂.heap.Ns cenv.locals m₂ → m₂ x = some v → (∀ b o, b ≠ P → s1.heap.get? b = some o → s₂.heap.get? b = some o) → wpAny (model X.prog X.w) A' (eval elt cenv) (fun y s₃ => y = .bool (tb i) ∧ Keeps s₂ s₃) E' s₂
section
variable {X : Cx} {pins : List (Addr × Obj)} {σ : L2.St} {H : Hp} {s : Shared}
/-- the generator over n values, truths tb, ready to be walked -/
def Rdy (X : Cx) (pins : List (Addr × Obj)) (σ : L2.St) (H1 : Hp) (P : Addr) (n : Nat) (tb : Nat → Bool) (g : Addr) (s5 : Shared) : Prop :=
  ∃ (fp wr : List Addr) (G : Array GenState → Array GenState → Prop) (F : Nat → Value → Prop) (St : Nat → Shared → Prop), WalksS X.prog X.w X.A.in1 g fp wr G n F St ∧ St 0 s5 ∧ TruthOf X.prog X.w X.A.in1 F tb ∧
    ∀ s', Moved wr G s5 s' → ∃ H2, GxR.Tabbed P H1 H2 ∧ Inv X pins σ H2 s'
theorem gen_seq {c P : Addr} {elt iter : Expr} {x : Str} {px gpos : Pos} {scope : Scope} {te : TE} {k : Nat} {Q' : Value → Shared → Prop} {R : List V → (Nat → Bool) → Hp → Prop}
    (hr : Room k X.A) (TB : GxR.TabB X.base X.mg c P) (hcode : X.env.code = .ref c) (S : GxR.GenS X.env scope x) (hi : PE X iter te) (hs : ∀ v, genFold iter X.env v = pure v) (I : Inv X pins σ H s)
    (h : te σ H fun v H1 => ∃ (yl : Addr) (xs : List V) (tb : Nat → Bool), v = .ref yl ∧ (SqL X.K H1 yl xs ∨ SqT X.K H1 yl xs) ∧ GxR.TabG H1 P ∧ (∀ pins s1, Inv X pins σ H1 s1 → Elt X s1 P scope x elt xs tb) ∧ R xs tb H1)
    (hQ : ∀ xs tb H1 g s5, R xs tb H1 → Rdy X pins σ H1 P xs.length tb g s5 → Q' (.ref g) s5) :
    wpAny (model X.prog X.w) X.A (eval (.GeneratorExp elt [⟨.Name x px, iter, [], 0⟩] scope gpos) X.env) Q' X.xe s := by
  refine wpAny_GeneratorExp_walksQ hr.hd S.co (closure_ok S.free) S.cell S.dot S.loc S.kind (by have z := hr.dp; omega) (thn (hi.run pins s σ H _ I h) fun xv s1 ⟨v, H1, I1, r1, q1⟩ => ?_) hs
  obtain ⟨yl, xs, tb, rfl, hyl, ⟨ps, hP, ht⟩, hel0, q1⟩ := q1
  have hel := hel0 _ s1 I1
  obtain rfl : xv = Value.ref yl := r1
  obtain ⟨tp, its, rv, hsrc, hylP⟩ : ∃ (tp : Bool) (its : List Value), Vals xs its ∧ Src tp s1.heap yl its.toArray ∧ yl ≠ P := by
    have nP : ∀ {tp : Bool} {its : Array Value}, Src tp s1.heap yl its → yl ≠ P := fun q z => by
      obtain ⟨o, e, d⟩ := q.get
      have e2 : s1.heap.get? P = some { cls := .none, data := .fields ps } := I1.hok P _ hP
      rw [z, e2] at e; cases e; exact d _ rfl
    rcases hyl with hyl | hyl
    · obtain ⟨its, rv, hl, _⟩ := I1.list hyl
      exact ⟨false, its, rv, hl.isList, nP (tp := false) hl.isList⟩
    · obtain ⟨its, rv, hl, _⟩ := I1.tuple hyl
      exact ⟨true, its, rv, hl, nP (tp := true) hl⟩
  have hlen : its.length = xs.length := rv.length.symm
  refine turn_iter hsrc fun o hof hstart => ?_
  have hPs : s1.heap.get? P = some { cls := .none, data := .fields ps } := I1.hok P _ hP
  have hPlt := Heap.lt_size hPs
  have hylt : yl < s1.heap.objs.size := let ⟨_, e, _⟩ := hsrc.get; Heap.lt_size e
  have hP2 : (s1.heap.push o).get? P = some { cls := .none, data := .fields ps } := Heap.get?_push_of_some _ hPs
  have cd : PySem.W.CodeHd (s1.heap.push o) c P := TB.code.keeps fun b u e => Heap.get?_push_of_some _ (I1.bk b u e)
  have lim2 := I1.nolimit.push o
  have szp : (s1.heap.push o).objs.size = s1.heap.objs.size + 1 := Heap.size_push ..
  -- what follows the code object
  refine ⟨lim2, thn (Q := fun code s₃ => ∃ (h3 : Heap) (tk : Nat) (ps' : Array Value), s₃ = { s1 with heap := h3, toks := tk } ∧ Heap.ExtBut P (s1.heap.push o) h3 ∧ (s1.heap.push o).objs.size ≤ h3.objs.size ∧ h3.get? P = some { cls := .none, data := .fields ps' } ∧ (∃ more, ps' = ps ++ more) ∧ TriplesOk ps'.toList) ?_ fun code s₃ hh => ?_⟩
  · cases hf : codeAmong gpos ps.toList with
    | none =>
      refine wpAny_genexprCodeX hcode (cd.code hP2 ht) (cd.tab hP2) hf fun c' h' tk hx hge hlt hco' _ htab' _ => ?_
      obtain ⟨_, _, _, _, _, _, _, _, _, _, _, _, _, _, _, _, _, _, _, htr, _⟩ := hco'
      exact ⟨h', tk, _, rfl, hx, Nat.le_trans hge (Nat.le_of_lt hlt), htab'.2, ⟨_, rfl⟩, htr⟩
    | some cv => exact wpAny_genexprCode_hit hcode (cd.code hP2 ht) hf ⟨s1.heap.push o, s1.toks, ps, rfl, Heap.ExtBut.refl _ _, Nat.le_refl _, hP2, ⟨#[], by simp⟩, ht⟩
  obtain ⟨h3, tk, ps', rfl, hx, hsz, hP3, hmore, ht3⟩ := hh
  obtain ⟨bm, ob, e1, e2, e3, e4, e5, e6, e7, e8⟩ := TB.bm
  obtain ⟨hcP, hcl⟩ : cStatics ≠ P ∧ cStatics < s1.heap.objs.size := by
    obtain ⟨_, hns, _⟩ := I1.nolimit
    refine ⟨fun e => ?_, hns.lt⟩
    obtain ⟨o', es, ep, ho, hd, _⟩ := hns
    rw [e, hPs] at ho; cases ho; cases hd
  have keep3 : ∀ b u, b ≠ P → s1.heap.get? b = some u → h3.get? b = some u := fun b u hb e => hx b u hb (Heap.get?_push_of_some _ e)
  have hit3 : h3.get? s1.heap.objs.size = some o := hx _ _ (Nat.ne_of_gt hPlt) (Heap.get?_push_size _ hof)
  have hsrc3 := hsrc.keep fun u e => keep3 yl u hylP e
  have lt3 : ∀ {b : Addr}, b < s1.heap.objs.size → b < h3.objs.size := fun {b} hb => Nat.lt_of_lt_of_le hb (by omega)
  refine wpAny_builtinsFor (m := X.mg) (by rw [I1.ok.glob]; exact ((I1.mod.glob.keeps I1.bk).push o).extBut hx TB.gP) e1 e2 (keep3 _ _ e4 (I1.bk _ _ e5)) e6 e7 e8 ?_
  refine ⟨s1.heap.objs.size, [s1.heap.objs.size, yl], [s1.heap.objs.size], its.toArray.size, (fun i v => its.toArray[i]? = some v), Turn tp s1.heap.objs.size yl its.toArray, (fun _ => true), (fun i y => i < xs.length ∧ y = .bool (tb i)), rfl,
    (fun A' hA => turn_walks tp A' hA _ _ (Nat.ne_of_lt hylt) _), hstart _ hit3 hsrc3, fun b hb => ?_, lim2.extBut hx hcP, fun z => ?_, fun href hhref => ⟨fun A' E' i v s₂ m₂ _ _ _ _ _ => ?_, fun A' E' i v s₂ m₂ hA hPv hp hn hm hk => ?_⟩, fun g h5 tk5 gs hgb hag hsz5 hk5 W5 hgat => ?_⟩
  · simp only [List.mem_cons, List.not_mem_nil, or_false] at hb
    rcases hb with rfl | rfl
    · show s1.heap.objs.size < h3.objs.size; omega
    · exact lt3 hylt
  · simp only [List.mem_cons, List.not_mem_nil, or_false] at z
    exact Nat.ne_of_lt hcl z
  · simp only [List.forIn_nil]
    exact wpAny_pure ⟨rfl, GxR.keeps_refl _⟩
  · have hv : its[i]? = some v := by simpa using hPv
    have il := (List.getElem?_eq_some_iff.mp hv).1
    obtain ⟨xv, hxv⟩ : ∃ a, xs[i]? = some a := ⟨xs[i]'(by omega), List.getElem?_eq_getElem _⟩
    obtain ⟨u, hu, ru⟩ := rv.get hxv
    rw [hv] at hu; cases hu
    refine wpAny_mono (hel _ A' E' i xv v s₂ m₂ hA rfl rfl hxv ru hn hm fun b ob hb e => ?_) (fun y s3 r => ⟨⟨by omega, r.1⟩, r.2⟩) fun _ _ e => e
    have hbl := Heap.lt_size e
    exact hk b (List.mem_range.mpr (lt3 hbl)) (fun z => by simp only [List.mem_cons, List.not_mem_nil, or_false] at z; exact Nat.ne_of_lt hbl z) ob (hhref b ob (keep3 b ob hb e))
  · simp only [GxR.passing_true, List.length_range] at W5
    have hn5 : its.toArray.size = xs.length := by rw [List.size_toArray, hlen]
    rw [hn5] at W5 hgat
    refine hQ xs tb H1 g _ q1 ⟨_, _, _, _, _, W5.in4_1, hgat, fun j y sj Qj Ej hy hQj => ?_, fun s' hm => ?_⟩
    · obtain ⟨i, hij, hil, rfl⟩ := hy
      obtain ⟨hj, ej⟩ := List.getElem?_eq_some_iff.mp hij
      rw [List.getElem_range] at ej
      subst ej
      exact wpAny_truthy_bool hQj
    · obtain ⟨more, em⟩ := hmore
      have nwr : ∀ b u, s1.heap.get? b = some u → b ∉ h3.objs.size :: [s1.heap.objs.size] := fun b u e hb => by
        have hl := Heap.lt_size e
        have h9 := lt3 hl
        simp only [List.mem_cons, List.not_mem_nil, or_false] at hb
        rcases hb with z | z
        · exact Nat.ne_of_lt h9 z
        · exact Nat.ne_of_lt hl z
      have J := GxR.inv_tab (more := more) (h' := s'.heap) (g' := s'.gens) (d' := s'.drawn) (t' := s'.toks) I1 hP (fun b u hb e => hm.heap b u (nwr b u e) (hk5 b u (keep3 b u hb e))) (by rw [← em]; exact hm.heap P _ (nwr P _ hPs) (hk5 P _ hP3)) (AllBare.movedS (I1.bare.push hgb) hm)
      rw [GxR.sh_eta s1 s' hm.os] at J
      exact ⟨upd H1 P (.tbl (ps ++ more)), ⟨⟨ps ++ more, upd_same, by rw [← em]; exact ht3⟩, fun b hb => upd_ne hb⟩, J⟩
/-- all(elt for x in e), e a list or a tuple; behind it the def's table may have grown -/
def tAllQ (X : Cx) (P : Addr) (scope : Scope) (x : Str) (elt : Expr) (te : TE) : TE := fun σ H Q => te σ H fun v H1 => ∃ (yl : Addr) (xs : List V) (tb : Nat → Bool), v = .ref yl ∧ (SqL X.K H1 yl xs ∨ SqT X.K H1 yl xs) ∧ GxR.TabG H1 P ∧
  (∀ pins s1, Inv X pins σ H1 s1 → Elt X s1 P scope x elt xs tb) ∧ ∀ H2, GxR.Tabbed P H1 H2 → Q (.bl ((List.range xs.length).all tb)) H2
theorem pe_allQ {c P : Addr} {elt iter : Expr} {x : Str} {px p pos gpos : Pos} {scope : Scope} {te : TE} {k : Nat} (hr : Room k X.A) (hg : Gl X "all") (hm : X.mg "all" = none) (hb : bootBuiltins "all" = some (.builtin "all"))
    (TB : GxR.TabB X.base X.mg c P) (hcode : X.env.code = .ref c) (S : GxR.GenS X.env scope x) (hi : PE X iter te) (hs : ∀ v, genFold iter X.env v = pure v)
    (he : starEach [.GeneratorExp elt [⟨.Name x px, iter, [], 0⟩] scope gpos] X.env = (false, eval (.GeneratorExp elt [⟨.Name x px, iter, [], 0⟩] scope gpos) X.env) :: starEach [] X.env := by rfl) :
    PE X (.Call (.Name "all" p) [.GeneratorExp elt [⟨.Name x px, iter, [], 0⟩] scope gpos] [] pos) (tAllQ X P scope x elt te) := by
  refine ⟨fun pins s σ H Q I h => wpAny_Call_Name_kw (ld_blt I hg hm hb (PyProof.Rows.callWith_builtin1 ?_ he (by rfl)))⟩
  rw [he]
  show wpAny _ _ (spliced ((false, eval (.GeneratorExp elt [⟨.Name x px, iter, [], 0⟩] scope gpos) X.env) :: backTo pos (starEach [] X.env))) _ _ s
  refine Calls.spliced_cons (gen_seq (R := fun xs tb H1 => ∀ H2, GxR.Tabbed P H1 H2 → Q (.bl ((List.range xs.length).all tb)) H2) hr TB hcode S hi hs I h fun xs tb H1 g s5 hR hG => Calls.spliced_nil ?_)
  · obtain ⟨fp, wr, G, F, St, W, hst, htr, hI⟩ := hG
    refine call_all_walkS (W.self 0 _ _ _ hst ⟨g, fp, wr, G, _, F, St, _, rfl, W, hst, htr, fun s' hmv => ?_⟩)
    obtain ⟨H2, hT, J⟩ := hI s' hmv
    exact ⟨.bl _, H2, J, rfl, hR H2 hT⟩
/-- any(elt for x in e), e a list or a tuple; behind it the def's table may have grown -/
def tAnyQ (X : Cx) (P : Addr) (scope : Scope) (x : Str) (elt : Expr) (te : TE) : TE := fun σ H Q => te σ H fun v H1 => ∃ (yl : Addr) (xs : List V) (tb : Nat → Bool), v = .ref yl ∧ (SqL X.K H1 yl xs ∨ SqT X.K H1 yl xs) ∧ GxR.TabG H1 P ∧
  (∀ pins s1, Inv X pins σ H1 s1 → Elt X s1 P scope x elt xs tb) ∧ ∀ H2, GxR.Tabbed P H1 H2 → Q (.bl ((List.range xs.length).any tb)) H2
theorem pe_anyQ {c P : Addr} {elt iter : Expr} {x : Str} {px p pos gpos : Pos} {scope : Scope} {te : TE} {k : Nat} (hr : Room k X.A) (hg : Gl X "any") (hm : X.mg "any" = none) (hb : bootBuiltins "any" = some (.builtin "any"))
    (TB : GxR.TabB X.base X.mg c P) (hcode : X.env.code = .ref c) (S : GxR.GenS X.env scope x) (hi : PE X iter te) (hs : ∀ v, genFold iter X.env v = pure v)
    (he : starEach [.GeneratorExp elt [⟨.Name x px, iter, [], 0⟩] scope gpos] X.env = (false, eval (.GeneratorExp elt [⟨.Name x px, iter, [], 0⟩] scope gpos) X.env) :: starEach [] X.env := by rfl) :
    PE X (.Call (.Name "any" p) [.GeneratorExp elt [⟨.Name x px, iter, [], 0⟩] scope gpos] [] pos) (tAnyQ X P scope x elt te) := by
  refine ⟨fun pins s σ H Q I h => wpAny_Call_Name_kw (ld_blt I hg hm hb (PyProof.Rows.callWith_builtin1 ?_ he (by rfl)))⟩
  rw [he]
  show wpAny _ _ (spliced ((false, eval (.GeneratorExp elt [⟨.Name x px, iter, [], 0⟩] scope gpos) X.env) :: backTo pos (starEach [] X.env))) _ _ s
  refine Calls.spliced_cons (gen_seq (R := fun xs tb H1 => ∀ H2, GxR.Tabbed P H1 H2 → Q (.bl ((List.range xs.length).any tb)) H2) hr TB hcode S hi hs I h fun xs tb H1 g s5 hR hG => Calls.spliced_nil ?_)
  · obtain ⟨fp, wr, G, F, St, W, hst, htr, hI⟩ := hG
    refine call_any_walkS (W.self 0 _ _ _ hst ⟨g, fp, wr, G, _, F, St, _, rfl, W, hst, htr, fun s' hmv => ?_⟩)
    obtain ⟨H2, hT, J⟩ := hI s' hmv
    exact ⟨.bl _, H2, J, rfl, hR H2 hT⟩
end
end W3

end
section
set_option Elab.async false
set_option linter.all false
set_option maxRecDepth 100000
set_option maxHeartbeats 4000000
namespace W3
open PySem PySem.Spec PyProof.Rows L2
open Evl (Ex)
/-! ### what stands in an element: its own name, captured names -/
section
variable {X : Cx} {pins : List (Addr × Obj)} {σ : L2.St} {H1 : Hp} {s1 : Shared} {P : Addr}
theorem cap_cell (I : Inv X pins σ H1 s1) {j : Nat} {y : Str} {v : V} (hj : X.N[j]? = some y) (hs : σ[j]? = some (some v)) (hc : X.env.scope.names.lookup y = some .cell ∨ X.env.scope.names.lookup y = some .free) : ∃ u c, RelV v u ∧ X.env.cells.lookup y = some c ∧ s1.heap.IsCell c (some u) := by
  obtain ⟨m, _, k⟩ := I.loc
  obtain ⟨u, r, l⟩ := k j y v hj hs (.inr hc)
  rcases l with ⟨l, _⟩ | ⟨_, c, e, d⟩
  · have l' : X.env.scope.names.lookup y = some .local := l
    rcases hc with hc | hc <;> (rw [hc] at l'; cases l')
  · exact ⟨u, c, r, e, d⟩
theorem tab_ne (I : Inv X pins σ H1 s1) (hP : GxR.TabG H1 P) {b : Addr} {o : Obj} (e : s1.heap.get? b = some o) (d : ∀ vs, o.data ≠ .fields vs) : b ≠ P := fun z => by
  obtain ⟨ps, h, _⟩ := hP
  have e2 : s1.heap.get? P = some { cls := .none, data := .fields ps } := I.hok P _ h
  rw [z, e2] at e; cases e; exact d _ rfl
/-- a captured name, read in the generator's frame -/
theorem cap_read (I : Inv X pins σ H1 s1) (hP : GxR.TabG H1 P) {j : Nat} {y : Str} {v : V} {scope : Scope} {cenv : Env} {A' : Around} {E' : Value → Shared → Prop} {s₂ : Shared} {pos : Pos} {Q : Value → Shared → Prop}
    (hj : X.N[j]? = some y) (hs : σ[j]? = some (some v)) (hc : X.env.scope.names.lookup y = some .cell ∨ X.env.scope.names.lookup y = some .free) (hk : scope.kind = .function) (hy : scope.names.lookup y = some .free) (hclo : (cloFrom X.env.cells scope.names []).lookup y = some ((X.env.cells.lookup y).getD 0))
    (e1 : cenv.scope = scope) (e2 : cenv.cells = cloFrom X.env.cells scope.names []) (keep : ∀ b o, b ≠ P → s1.heap.get? b = some o → s₂.heap.get? b = some o) (h : ∀ u, RelV v u → Q u s₂)
    (hn : (y == ("__classdict__" : Str)) = false := by decide) (hd : (y == ("__debug__" : Str)) = false := by decide) : wpAny (model X.prog X.w) A' (eval (.Name y pos) cenv) Q E' s₂ := by
  obtain ⟨u, c, r, ec, o, ho, hdt⟩ := cap_cell I hj hs hc
  have hcP : c ≠ P := tab_ne I hP ho fun vs z => by rw [hdt] at z; cases z
  refine wpAny_Name (wpAny_loadName_free (c := c) (by rw [e1]; exact hk) (by show cenv.scope.names.lookup y = _; rw [e1]; exact hy) (by rw [e2, hclo, ec]; rfl) ⟨o, keep c o hcP ho, hdt⟩ (h u r) hn) hd
theorem own_read {x : Str} {v : Value} {scope : Scope} {cenv : Env} {A' : Around} {E' : Value → Shared → Prop} {s₂ : Shared} {m₂ : Str → Option Value} {pos : Pos} {Q : Value → Shared → Prop} (hk : scope.kind = .function) (hx : scope.names.lookup x = some .local) (e1 : cenv.scope = scope)
    (hn : s₂.heap.Ns cenv.locals m₂) (hm : m₂ x = some v) (h : Q v s₂) (hd : (x == ("__debug__" : Str)) = false := by decide) : wpAny (model X.prog X.w) A' (eval (.Name x pos) cenv) Q E' s₂ :=
  wpAny_Name (wpAny_loadName_local (by rw [e1]; exact hk) (by show cenv.scope.names.lookup x = _; rw [e1]; exact hx) hn hm h) hd
/-- a tracked list of ints, as it stands behind -/
theorem list_kept (I : Inv X pins σ H1 s1) (hP : GxR.TabG H1 P) {q : Addr} {ms : List Int} {s₂ : Shared} (hq : SqL X.K H1 q (ms.map V.int)) (keep : ∀ b o, b ≠ P → s1.heap.get? b = some o → s₂.heap.get? b = some o) : ∃ its : List Value, Vals (ms.map V.int) its ∧ s₂.heap.IsList q its.toArray := by
  obtain ⟨its, rv, hl, _⟩ := I.list hq
  have hL := hl.isList
  obtain ⟨o, ho, hc, n, hd⟩ := hL
  exact ⟨its, rv, o, keep q o (tab_ne I hP ho fun vs z => by rw [hd] at z; cases z) ho, hc, n, hd⟩
def tIn (neg : Bool) (ns ms : List Int) (i : Nat) : Bool := match ns[i]? with | some z => if neg = true then !decide (z ∈ ms) else decide (z ∈ ms) | none => false
theorem elt_notIn (I : Inv X pins σ H1 s1) (hP : GxR.TabG H1 P) {j : Nat} {x y : Str} {q : Addr} {ns ms : List Int} {scope : Scope} {p1 p2 p3 : Pos} (hk : scope.kind = .function) (hx : scope.names.lookup x = some .local) (hy : scope.names.lookup y = some .free)
    (hclo : (cloFrom X.env.cells scope.names []).lookup y = some ((X.env.cells.lookup y).getD 0)) (hj : X.N[j]? = some y) (hs : σ[j]? = some (some (.ref q))) (hc : X.env.scope.names.lookup y = some .cell ∨ X.env.scope.names.lookup y = some .free) (hq : SqL X.K H1 q (ms.map V.int))
    (hd1 : (x == ("__debug__" : Str)) = false := by decide) (hd2 : (y == ("__debug__" : Str)) = false := by decide) (hd3 : (y == ("__classdict__" : Str)) = false := by decide) :
    Elt X s1 P scope x (.Compare (.Name x p1) [.NotIn] [.Name y p2] p3) (ns.map V.int) (tIn true ns ms) := by
  intro cenv A' E' i xv v s₂ m₂ hA e1 e2 hxi rv hn hm keep
  rw [List.getElem?_map] at hxi
  obtain ⟨z, hz, rfl⟩ := Option.map_eq_some_iff.mp hxi
  refine wpAny_Compare1 (own_read hk hx e1 hn hm (cap_read I hP hj hs hc hk hy hclo e1 e2 keep (fun u ru => ?_) hd3 hd2) hd1) (by with_unfolding_all rfl)
  obtain rfl : u = Value.ref q := ru
  obtain ⟨its, rw1, hL⟩ := list_kept I hP hq keep
  refine SeqAt.notIn_listAt (eqU (.int z)) hL (fun w hw => mem_eqAt rv rfl rw1 (flat_ints ms) w (by simpa using hw)) ⟨?_, GxR.keeps_refl _⟩
  rw [show its.toArray.any (eqU (.int z)) = its.any (eqU (.int z)) by simp, any_eqU rw1 (flat_ints ms)]
  rw [show ((ms.map V.int).any fun y => eqV y (V.int z)) = decide (z ∈ ms) from in_ints z ms]
  simp [tIn, hz]
/-- x >= a or x in b -/
def tGeIn (ns : List Int) (m : Int) (ms : List Int) (i : Nat) : Bool := match ns[i]? with | some z => decide (m ≤ z) || decide (z ∈ ms) | none => false
theorem elt_geIn (I : Inv X pins σ H1 s1) (hP : GxR.TabG H1 P) {j l : Nat} {x a y : Str} {q : Addr} {m : Int} {ns ms : List Int} {scope : Scope} {p1 p2 p3 p4 p5 p6 p7 : Pos} (hk : scope.kind = .function) (hx : scope.names.lookup x = some .local) (hy : scope.names.lookup y = some .free) (ha : scope.names.lookup a = some .free)
    (hclo : (cloFrom X.env.cells scope.names []).lookup y = some ((X.env.cells.lookup y).getD 0)) (hcla : (cloFrom X.env.cells scope.names []).lookup a = some ((X.env.cells.lookup a).getD 0))
    (hj : X.N[j]? = some y) (hs : σ[j]? = some (some (.ref q))) (hc : X.env.scope.names.lookup y = some .cell ∨ X.env.scope.names.lookup y = some .free) (hq : SqL X.K H1 q (ms.map V.int)) (hl : X.N[l]? = some a) (hsl : σ[l]? = some (some (.int m))) (hca : X.env.scope.names.lookup a = some .cell ∨ X.env.scope.names.lookup a = some .free)
    (hd1 : (x == ("__debug__" : Str)) = false := by decide) (hd2 : (y == ("__debug__" : Str)) = false := by decide) (hd3 : (y == ("__classdict__" : Str)) = false := by decide) (hd4 : (a == ("__debug__" : Str)) = false := by decide) (hd5 : (a == ("__classdict__" : Str)) = false := by decide) :
    Elt X s1 P scope x (.BoolOp .Or [.Compare (.Name x p1) [.GtE] [.Name a p2] p3, .Compare (.Name x p4) [.In] [.Name y p5] p6] p7) (ns.map V.int) (tGeIn ns m ms) := by
  intro cenv A' E' i xv v s₂ m₂ hA e1 e2 hxi rv hn hm keep
  rw [List.getElem?_map] at hxi
  obtain ⟨z, hz, rfl⟩ := Option.map_eq_some_iff.mp hxi
  obtain ⟨t, rfl⟩ := (show ∃ t, v = Value.int z t from rv)
  refine PyProof.Rows.BoolOp_or (wpAny_Compare1 (own_read hk hx e1 hn hm (cap_read I hP hl hsl hca hk ha hcla e1 e2 keep (fun u ru => ?_) hd5 hd4) hd1) (by with_unfolding_all rfl))
  obtain ⟨t2, rfl⟩ := (show ∃ t, u = Value.int m t from ru)
  refine ge_int (wpAny_truthy_bool ?_)
  by_cases hc1 : m ≤ z
  · rw [decide_eq_true hc1]
    refine iteT ⟨?_, GxR.keeps_refl _⟩
    simp [tGeIn, hz, hc1]
  · rw [decide_eq_false hc1]
    refine iteF (PyProof.Rows.BoolOp_one (wpAny_Compare1 (own_read hk hx e1 hn hm (cap_read I hP hj hs hc hk hy hclo e1 e2 keep (fun u ru => ?_) hd3 hd2) hd1) (by with_unfolding_all rfl)))
    obtain rfl : u = Value.ref q := ru
    obtain ⟨its, rw1, hL⟩ := list_kept I hP hq keep
    refine SeqAt.in_listAt (eqU (.int z)) hL (fun w hw => mem_eqAt rv rfl rw1 (flat_ints ms) w (by simpa using hw)) ⟨?_, GxR.keeps_refl _⟩
    rw [show its.toArray.any (eqU (.int z)) = its.any (eqU (.int z)) by simp, any_eqU rw1 (flat_ints ms)]
    rw [show ((ms.map V.int).any fun y => eqV y (V.int z)) = decide (z ∈ ms) from in_ints z ms]
    simp [tGeIn, hz, hc1]
theorem range_all {α : Type} (f : α → Bool) : ∀ (ns : List α) (g : Nat → Bool), (∀ i z, ns[i]? = some z → g i = f z) → (List.range ns.length).all g = ns.all f := by
  intro ns g h
  rw [Bool.eq_iff_iff, List.all_eq_true, List.all_eq_true]
  constructor
  · intro q z hz
    obtain ⟨i, hi⟩ := List.getElem?_of_mem hz
    rw [← h i z hi]
    exact q i (List.mem_range.mpr (List.getElem?_eq_some_iff.mp hi).1)
  · intro q i hi
    have hl := List.mem_range.mp hi
    rw [h i ns[i] (List.getElem?_eq_getElem hl)]
    exact q _ (List.getElem_mem hl)
theorem range_any {α : Type} (f : α → Bool) : ∀ (ns : List α) (g : Nat → Bool), (∀ i z, ns[i]? = some z → g i = f z) → (List.range ns.length).any g = ns.any f := by
  intro ns g h
  rw [Bool.eq_iff_iff, List.any_eq_true, List.any_eq_true]
  constructor
  · rintro ⟨i, hi, q⟩
    have hl := List.mem_range.mp hi
    exact ⟨ns[i], List.getElem_mem hl, by rw [← h i _ (List.getElem?_eq_getElem hl)]; exact q⟩
  · rintro ⟨z, hz, q⟩
    obtain ⟨i, hi⟩ := List.getElem?_of_mem hz
    exact ⟨i, List.mem_range.mpr (List.getElem?_eq_some_iff.mp hi).1, by rw [h i z hi]; exact q⟩
end
/-! ### the two generator expressions as readings -/
/-- the generator's own scope -/
structure GenZ (scope : Scope) (x : Str) (fr : List Str) : Prop where
  kind : scope.kind = .function
  co : scope.isCoroutine = false
  cell : ∀ y ∈ scope.names, y.2 ≠ .cell
  dot : scope.names.lookup (".0" : Str) = some NameKind.local
  loc : scope.names.lookup x = some .local
  free : ∀ y ∈ scope.names, y.2 = .free → y.1 ∈ fr
theorem GenZ.at {scope : Scope} {x : Str} {fr : List Str} {env : Env} (Z : GenZ scope x fr) (h : ∀ y ∈ fr, ∃ c, env.cells.lookup y = some c) : GxR.GenS env scope x :=
  ⟨Z.kind, Z.co, Z.cell, Z.dot, Z.loc, fun y hy e => h _ (Z.free y hy e)⟩
section
variable {X : Cx} {c T : Addr} {iter : Expr} {x a y : Str} {px p pos gpos p1 p2 p3 p4 p5 p6 p7 : Pos} {scope : Scope} {te : TE} {k j l : Nat}
/-- all(x >= a or x in y for x in e) -/
def tAllGe (K : PySem.W.Frag) (T : Addr) (j l : Nat) (te : TE) : TE := fun σ H Q => ∃ (q : Addr) (m : Int), σ[j]? = some (some (.ref q)) ∧ σ[l]? = some (some (.int m)) ∧ te σ H fun v H1 => ∃ (yl : Addr) (ns ms : List Int), v = .ref yl ∧ (SqL K H1 yl (ns.map V.int) ∨ SqT K H1 yl (ns.map V.int)) ∧ GxR.TabG H1 T ∧
  SqL K H1 q (ms.map V.int) ∧ ∀ H2, GxR.Tabbed T H1 H2 → Q (.bl (ns.all fun z => decide (m ≤ z) || decide (z ∈ ms))) H2
theorem pe_allGe (K : PySem.W.Frag) (hr : Room k X.A) (TB : GxR.TabB X.base X.mg c T) (hg : Gl X "all") (hm : X.mg "all" = none) (hb : bootBuiltins "all" = some (.builtin "all")) (hi : PE X iter te) (Z : GenZ scope x [y, a]) (hy : scope.names.lookup y = some .free) (ha : scope.names.lookup a = some .free)
    (hclo : (cloFrom X.env.cells scope.names []).lookup y = some ((X.env.cells.lookup y).getD 0)) (hcla : (cloFrom X.env.cells scope.names []).lookup a = some ((X.env.cells.lookup a).getD 0)) (hj : X.N[j]? = some y) (hc : X.env.scope.names.lookup y = some .cell ∨ X.env.scope.names.lookup y = some .free)
    (hl : X.N[l]? = some a) (hca : X.env.scope.names.lookup a = some .cell ∨ X.env.scope.names.lookup a = some .free) (hcode : X.env.code = .ref c := by rfl) (hs : ∀ v, genFold iter X.env v = pure v := by intro _; rfl) (hK : X.K = K := by rfl)
    (hd1 : (x == ("__debug__" : Str)) = false := by decide) (hd2 : (y == ("__debug__" : Str)) = false := by decide) (hd3 : (y == ("__classdict__" : Str)) = false := by decide) (hd4 : (a == ("__debug__" : Str)) = false := by decide) (hd5 : (a == ("__classdict__" : Str)) = false := by decide) :
    PE X (.Call (.Name "all" p) [.GeneratorExp (.BoolOp .Or [.Compare (.Name x p1) [.GtE] [.Name a p2] p3, .Compare (.Name x p4) [.In] [.Name y p5] p6] p7) [⟨.Name x px, iter, [], 0⟩] scope gpos] [] pos) (tAllGe K T j l te) := by
  subst hK
  refine ⟨fun pins s σ H Q I ⟨q, m, h1, h3, h⟩ => ?_⟩
  have S : GxR.GenS X.env scope x := Z.at fun z hz => by
    simp only [List.mem_cons, List.not_mem_nil, or_false] at hz
    rcases hz with rfl | rfl
    · obtain ⟨u, c', _, e, _⟩ := cap_cell I hj h1 hc; exact ⟨c', e⟩
    · obtain ⟨u, c', _, e, _⟩ := cap_cell I hl h3 hca; exact ⟨c', e⟩
  refine (pe_allQ hr hg hm hb TB hcode S (te := fun σ' H' Q' => ∃ q0 : VK, te σ' H' q0 ∧ σ' = σ ∧ ∀ v H1, q0 v H1 → Q' v H1) ⟨fun pins s σ H Q I ⟨q0, t, _, k⟩ => thn (hi.run pins s σ H q0 I t) fun v s1 ⟨w, H1, I1, r1, q1⟩ => ⟨w, H1, I1, r1, k _ _ q1⟩⟩ hs).run pins s σ H Q I ⟨_, h, rfl, ?_⟩
  rintro v H1 ⟨yl, ns, ms, e, hsq, hT, h2, fin⟩
  refine ⟨yl, _, tGeIn ns m ms, e, hsq, hT, fun pins s1 I1 => ?_, fun H2 t2 => ?_⟩
  · exact elt_geIn I1 hT Z.kind Z.loc hy ha hclo hcla hj h1 hc h2 hl h3 hca hd1 hd2 hd3 hd4 hd5
  · rw [List.length_map, range_all (fun z => decide (m ≤ z) || decide (z ∈ ms)) ns _ fun i z hz => by simp [tGeIn, hz]]
    exact fin H2 t2
/-- any(x not in y for x in e) -/
def tAnyNot (K : PySem.W.Frag) (T : Addr) (j : Nat) (te : TE) : TE := fun σ H Q => ∃ q : Addr, σ[j]? = some (some (.ref q)) ∧ te σ H fun v H1 => ∃ (yl : Addr) (ns ms : List Int), v = .ref yl ∧ (SqL K H1 yl (ns.map V.int) ∨ SqT K H1 yl (ns.map V.int)) ∧ GxR.TabG H1 T ∧
  SqL K H1 q (ms.map V.int) ∧ ∀ H2, GxR.Tabbed T H1 H2 → Q (.bl (ns.any fun z => !decide (z ∈ ms))) H2
theorem pe_anyNot (K : PySem.W.Frag) (hr : Room k X.A) (TB : GxR.TabB X.base X.mg c T) (hg : Gl X "any") (hm : X.mg "any" = none) (hb : bootBuiltins "any" = some (.builtin "any")) (hi : PE X iter te) (Z : GenZ scope x [y]) (hy : scope.names.lookup y = some .free)
    (hclo : (cloFrom X.env.cells scope.names []).lookup y = some ((X.env.cells.lookup y).getD 0)) (hj : X.N[j]? = some y) (hc : X.env.scope.names.lookup y = some .cell ∨ X.env.scope.names.lookup y = some .free)
    (hcode : X.env.code = .ref c := by rfl) (hs : ∀ v, genFold iter X.env v = pure v := by intro _; rfl) (hK : X.K = K := by rfl)
    (hd1 : (x == ("__debug__" : Str)) = false := by decide) (hd2 : (y == ("__debug__" : Str)) = false := by decide) (hd3 : (y == ("__classdict__" : Str)) = false := by decide) :
    PE X (.Call (.Name "any" p) [.GeneratorExp (.Compare (.Name x p1) [.NotIn] [.Name y p2] p3) [⟨.Name x px, iter, [], 0⟩] scope gpos] [] pos) (tAnyNot K T j te) := by
  subst hK
  refine ⟨fun pins s σ H Q I ⟨q, h1, h⟩ => ?_⟩
  have S : GxR.GenS X.env scope x := Z.at fun z hz => by
    simp only [List.mem_cons, List.not_mem_nil, or_false] at hz
    subst hz
    obtain ⟨u, c', _, e, _⟩ := cap_cell I hj h1 hc; exact ⟨c', e⟩
  refine (pe_anyQ hr hg hm hb TB hcode S (te := fun σ' H' Q' => ∃ q0 : VK, te σ' H' q0 ∧ σ' = σ ∧ ∀ v H1, q0 v H1 → Q' v H1) ⟨fun pins s σ H Q I ⟨q0, t, _, k⟩ => thn (hi.run pins s σ H q0 I t) fun v s1 ⟨w, H1, I1, r1, q1⟩ => ⟨w, H1, I1, r1, k _ _ q1⟩⟩ hs).run pins s σ H Q I ⟨_, h, rfl, ?_⟩
  rintro v H1 ⟨yl, ns, ms, e, hsq, hT, h2, fin⟩
  refine ⟨yl, _, tIn true ns ms, e, hsq, hT, fun pins s1 I1 => ?_, fun H2 t2 => ?_⟩
  · exact elt_notIn I1 hT Z.kind Z.loc hy hclo hj h1 hc h2 hd1 hd2 hd3
  · rw [List.length_map, range_any (fun z => !decide (z ∈ ms)) ns _ fun i z hz => by simp [tIn, hz]]
    exact fin H2 t2
end
end W3

end
section
set_option Elab.async false
set_option linter.all false
set_option maxRecDepth 100000
set_option maxHeartbeats 4000000
namespace W3
open PySem PySem.Spec PyProof.Rows L2
open Evl (Ex)
/-! ### a def whose code object is known -/
section
variable {P : Program} {w : World} {K : PySem.W.Frag} {mg : Str → Option Value} {base : Heap}
theorem Df.bodyC {x : Str} {st : Stmt} {f c : Addr} {N ps : List Str} {k : Nat} {sp : Sp3} {oc kV doc pm ct : Value} {od an : Option Addr} {osl : Array (Option Value)} (hm : mg x = some (.ref f))
    (lk : K.lookup f = some ⟨oc, od, .func (PySem.W.fnOf x x (defArgs st) (defBody st) (defScope st) .none kV doc pm an (.ref c) ct), osl⟩) (hcd : PySem.W.codeIn K (.ref c) x = true) (kp : PySem.W.keepIn K (.ref f) = true)
    (hb : ∀ (kV doc pm : Value) (an : Option Addr) (cdv ct : Value) (us : List Value), us.length = ps.length → bindArgs (PySem.W.fnOf x x (defArgs st) (defBody st) (defScope st) .none kV doc pm an cdv ct) ⟨us, []⟩ = pure (ps.zip us))
    (S : FnScope N ps (defScope st)) (len : ∀ vs H Q, sp vs H Q → vs.length = ps.length)
    (go : ∀ (A : Around) (outer : List Env) (s : Shared) (H : Hp) (vs : List V) (Q : VK), RG k (A.deeper (envOfC x (defScope st) s.heap.objs.size f (.ref c))) → sp vs H Q →
      ∃ t, PSs (cxOf CX0 P w K mg base N x (defScope st) f (.ref c) A outer s H E0).nox (defBody st) t ∧ t { nx := fun _ H' => Q .non H', rt := Q } (start N vs) H) : Dk P w K mg base (k + 1) x ps sp st := by
  have run : ∀ args us, bindArgs (PySem.W.fnOf x x (defArgs st) (defBody st) (defScope st) .none kV doc pm an (.ref c) ct) args = pure (ps.zip us) → us.length = ps.length →
      ∀ (A : Around) (outer : List Env) (s : Shared) (H : Hp) (vs : List V) (Q : VK), RG (k + 1) A → Env0 P w K mg base A outer s H → Vals vs us → sp vs H Q →
        codeAny (model P w) A (.call (.ref f) args) (CR CX0 outer P w H s Q E0) s := by
    intro args us hbi hlu A outer s H vs Q rg e0 rv hsp
    have inK : K.In s.heap := e0.mod.kin.keeps fun b o e => (e0.bs b o e).1
    have noLim := e0.mod.nolimit.keeps fun b o e => (e0.bs b o e).1
    have kinds : ∀ y ∈ ps.zip us, (defScope st).names.lookup y.1 = some .local ∨ ((defScope st).names.lookup y.1 = some .cell ∧ ((cellsFrom (s.heap.objs.size + 1) (defScope st).names []).lookup y.1).isSome = true) :=
      fun ⟨n, v⟩ hy => (S.par n (List.of_mem_zip hy).1).imp id fun q => ⟨q, PySem.W.cellsFrom_some _ _ _ (.inl q)⟩
    refine codeAny_call_function rg.room.depth (inK _ _ lk) rfl S.co S.gen rfl (PySem.W.codeRec_of inK hcd) ((BindsTo.of_eq hbi) _ _ _ _ (wpAny_newFunctionEnv_cells S.kind kinds fun env he s1 ic => ?_))
    subst he
    refine ⟨noLim.keeps ic.toInCall.keep, codeAny_func ?_⟩
    obtain ⟨t, ht, hq⟩ := go A outer s H vs Q ⟨rg.room.deeper _, rg.quiet⟩ hsp
    have J : Inv (cxOf CX0 P w K mg base N x (defScope st) f (.ref c) A outer s H E0) [] (start N vs) H s1 := inv_start S rg.room.hd e0 (len _ _ _ hsp) rv ic
    refine wpAny_mono (ht.nox.run [] s1 _ H _ J hq) (fun fl s' hs => ?_) fun e s' hs => hs
    cases fl with
    | brk => obtain ⟨_, _, _, z⟩ := hs; exact z.elim
    | cont => obtain ⟨_, _, _, z⟩ := hs; exact z.elim
    | next => obtain ⟨σ', H', J', q⟩ := hs; exact ⟨.non, H', J'.os, J'.bare, J'.base, J'.hok, rfl, q⟩
    | ret u => obtain ⟨v, σ', H', J', rv', q⟩ := hs; exact ⟨v, H', J'.os, J'.bare, J'.base, J'.hok, rv', q⟩
  exact ⟨⟨len, f, _, hm, kp, run, hb kV doc pm an _ ct, st, kV, doc, pm, an, _, ct, rfl⟩, f, _, hm, kp, run, kV, doc, pm, an, _, ct, rfl⟩
end
/-! ### the end of a law, one def's table of code objects tracked -/
theorem law_endT {P : Program} {w : World} {K : PySem.W.Frag} {mg mb : Str → Option Value} {k : Nat} {fa a c T : Addr} {lw : Str} {ps : List Str} {sp : Sp3} {s₁ : Shared} {vs : List Value} {ns : List Int}
    (inK : K.In s₁.heap) (glob : s₁.heap.Ns mainGlobals mg) (blt : s₁.heap.Ns builtinsNs mb) (bltE : ∀ x : Str, x ≠ "__name__" → mb x = bootBuiltins x) (lim : s₁.heap.NoLimit) (gens : s₁.gens = #[])
    (bmn : ∃ bm ob, mg "__builtins__" = some (.ref bm) ∧ bm ≠ builtinsNs ∧ s₁.heap.get? bm = some ob ∧ ob.cls = .type "module" ∧ ob.dict = some builtinsNs ∧ ob.data = .plain)
    (hT : s₁.heap.get? T = some { cls := .none, data := .fields #[] }) (nT : K.lookup T = none) (hC : PySem.W.CodeHd s₁.heap c T)
    (obj : s₁.heap.get? a = some { cls := .type "list", data := .seq vs.toArray }) (hi : IntsAre vs ns) (hl : ns.length ≤ sizeLine) (hr : RG k callerA) (hmg : mg lw = some (.ref fa)) (hps : ps.length = 1)
    (F : ∀ base : Heap, K.In base → base.Ns mainGlobals mg → GxR.TabB base mg c T → Df P w K mg base k lw ps sp)
    (hsp : ∀ H : Hp, SqL K H a (ns.map V.int) → GxR.TabG H T → sp [.ref a] H (fun v _ => v = .bl true)) :
    codeAny (model P w) callerA (.call (.ref fa) ⟨[.ref a], []⟩) (fun r s' => r = .ok (.ret (.bool true)) ∧ OldK s₁.heap s'.heap ∧ s'.os = s₁.os ∧ AllBare s'.gens) s₁ := by
  have rv : Vals (ns.map V.int) vs := vals_ints hi
  have aT : a ≠ T := fun z => by rw [z, hT] at obj; cases obj
  obtain ⟨H, hO, hS, hok, hA, hK, hHT⟩ : ∃ H : Hp, (∀ b, b ≠ T → H b = none ∨ ∃ o ys, H b = some (.frz o (.lst ys))) ∧ SqL K H a (ns.map V.int) ∧ HOk P w H s₁.heap ∧ (∀ b, H b ≠ none → b = a ∨ b = T) ∧ (H a ≠ none → K.lookup a = none) ∧ H T = some (.tbl #[]) := by
    cases hk : K.lookup a with
    | some o =>
      have e := inK a o hk
      rw [obj] at e; cases e
      refine ⟨upd (fun _ => none) T (.tbl #[]), fun b hb => .inl (upd_ne hb), .inr ⟨_, vs.toArray, _, hk, rfl, rfl, rfl, ?_, by simpa using rv⟩, fun b u z => ?_, fun b z => ?_, fun z => (z (upd_ne aT)).elim, upd_same⟩
      · rw [List.size_toArray, ← rv.length, List.length_map]; exact hl
      · by_cases hb : b = T
        · subst hb; rw [upd_same] at z; cases z; exact hT
        · rw [upd_ne hb] at z; cases z
      · by_cases hb : b = T
        · exact .inr hb
        · exact (z (upd_ne hb)).elim
    | none =>
      refine ⟨upd (upd (fun _ => none) T (.tbl #[])) a (.frz { cls := .type "list", data := .seq vs.toArray } (.lst (ns.map V.int))), fun b hbT => ?_, .inl (.inr ⟨_, upd_same⟩), fun b u z => ?_, fun b z => ?_, fun _ => rfl, by rw [upd_ne aT.symm]; exact upd_same⟩
      · by_cases hb : b = a
        · subst hb; exact .inr ⟨_, _, upd_same⟩
        · exact .inl (by rw [upd_ne hb, upd_ne hbT])
      · by_cases hb : b = a
        · subst hb; rw [upd_same] at z; cases z
          exact ⟨obj, by rw [List.length_map]; exact hl, vs, _, rv, obj⟩
        · rw [upd_ne hb] at z
          by_cases hb2 : b = T
          · subst hb2; rw [upd_same] at z; cases z; exact hT
          · rw [upd_ne hb2] at z; cases z
      · by_cases hb : b = a
        · exact .inl hb
        · by_cases hb2 : b = T
          · exact .inr hb2
          · exact (z (by rw [upd_ne hb, upd_ne hb2])).elim
  have off : ∀ {b : Addr} {o : Obj}, s₁.heap.get? b = some o → H b = none → (hidT s₁.heap H).get? b = some o := fun e n => hidT_get e n
  have free : ∀ {b : Addr} {o : Obj}, s₁.heap.get? b = some o → (∀ n, o.data ≠ .seq vs.toArray n) → o.data ≠ .fields #[] → H b = none := fun {b o} e d1 d2 => by
    cases q : H b with
    | none => rfl
    | some u =>
      rcases hA b (by rw [q]; exact fun z => nomatch z) with z | z
      · rw [z, obj] at e; cases e; exact (d1 _ rfl).elim
      · rw [z, hT] at e; cases e; exact (d2 rfl).elim
  have nsB : ∀ {b : Addr} {m : Str → Option Value}, s₁.heap.Ns b m → (hidT s₁.heap H).Ns b m := fun {b m} z => by
    obtain ⟨o, es, ep, e, d, r⟩ := z
    exact ⟨o, es, ep, off e (free e (fun n z => by rw [d] at z; cases z) fun z => by rw [d] at z; cases z), d, r⟩
  have inB : K.In (hidT s₁.heap H) := fun b o e => off (inK b o e) (by
    cases q : H b with
    | none => rfl
    | some u =>
      have n0 : H b ≠ none := by rw [q]; exact fun z => nomatch z
      rcases hA b n0 with eb | eb
      · subst eb; rw [hK n0] at e; cases e
      · subst eb; rw [nT] at e; cases e)
  have md : Mod K mg (hidT s₁.heap H) := ⟨inB, nsB glob, ⟨mb, nsB blt, bltE⟩, by obtain ⟨mc, h1, h2⟩ := lim; exact ⟨mc, nsB h1, h2⟩⟩
  have gT : mainGlobals ≠ T := fun z => by
    obtain ⟨o, es, ep, e, hd, _⟩ := glob
    rw [z, hT] at e; cases e; cases hd
  have tb : GxR.TabB (hidT s₁.heap H) mg c T := by
    refine ⟨?_, ?_, gT⟩
    · obtain ⟨o, us, file, tf, flags, tg, inF, text, tt, g1, g2, g3, g4, g5, g6, g7, g8, g9, g10⟩ := hC
      refine ⟨o, us, file, tf, flags, tg, inF, text, tt, off g1 (free g1 (fun n z => by rw [g3] at z; cases z) fun z => ?_), g2, g3, g4, g5, g6, g7, g8, g9, g10⟩
      rw [g3] at z; cases z; simp at g4
    · obtain ⟨bm, ob, b1, b2, b3, b4, b5, b6⟩ := bmn
      refine ⟨bm, ob, b1, b2, fun q => ?_, fun q => ?_, off b3 (free b3 (fun n z => by rw [b6] at z; cases z) fun z => by rw [b6] at z; cases z), b4, b5, b6⟩
      · obtain ⟨o, es, ep, e, hd, _⟩ := glob
        rw [q, e] at b3; cases b3; rw [hd] at b6; cases b6
      · rw [q, hT] at b3; cases b3; cases b6
  have e0 : Env0 P w K mg (hidT s₁.heap H) callerA [] s₁ H := ⟨rfl, md, fun b o e => of_hidT e, Nat.le_of_eq (hidT_size _ _), trivial, fun b hb => (by cases hb), hok, .of_eq gens⟩
  obtain ⟨f, fd, hm, _, run, hb, _⟩ := (F _ inB (nsB glob) tb).ex
  rw [hmg] at hm; cases hm
  refine codeAny_mono (run ⟨[.ref a], []⟩ [.ref a] (hb _ hps.symm) hps.symm callerA [] s₁ H [.ref a] _ hr e0 (.cons rfl .nil) (hsp H hS ⟨#[], hHT, by simp [TriplesOk]⟩)) fun r s' h => ?_
  match r, h with
  | .error _, h => exact h.elim
  | .ok .next, h => exact h.elim
  | .ok .brk, h => exact h.elim
  | .ok .cont, h => exact h.elim
  | .ok (.ret u), h =>
    obtain ⟨v, H', os, bare, un, hok', r', q⟩ := h
    have q' : v = .bl true := q
    subst q'
    obtain rfl : u = Value.bool true := r'
    have key : ∀ b o, b ≠ T → s₁.heap.get? b = some o → s'.heap.get? b = some o := fun b o nb e => by
      rcases hO b nb with z | ⟨ob, ys, z⟩
      · exact un.keep b o e z (fun y => by cases y) (fun y => by cases y)
      · have e1 := (hok b _ z).1
        have e2 := (hok' b _ (un.frzs b ob _ z)).1
        rw [e] at e1; cases e1; exact e2
    obtain ⟨more, hmT⟩ := un.tbls T #[] hHT
    have hmT2 : s'.heap.get? T = some { cls := .none, data := .fields (#[] ++ more) } := hok' T _ hmT
    refine ⟨rfl, ⟨fun b o e => ?_, fun b o e => ?_⟩, os, bare⟩
    · by_cases hb : b = T
      · subst hb
        rw [hT] at e; cases e
        exact .inr (.inl ⟨(hC.tab hT).isCodeTable, rfl, #[], more, rfl, hmT2⟩)
      · exact .inl (key b o hb e)
    · by_cases hb : b = T
      · subst hb; exact ⟨_, hmT2⟩
      · exact ⟨o, key b o hb e⟩
theorem walk_endT {l : PySem.W.OpenLaw} {n k : Nat} {q : Program} {loose : List Str} {XP : (Str → Option Value) → Heap → Prop} {YP : World → Heap → Prop} {d dg : DefRec} {gx : Str} {K : Params → PySem.W.Frag} {ps : List Str} {sp : PySem.W.Frag → Addr → Sp3} {c T : Params → Addr}
    (hn : l.most = some n) (hn2 : n ≤ sizeLine) (hdf : d.params.defaults = []) (hr : RG k callerA) (hps : ps.length = 1) (hrec : (recsOf q).find? (fun e => e.name == gx) = some dg)
    (hY : ∀ (w : World) (h : Heap), YP w h → (K w.params).In h) (htab : ∀ w : World, PySem.W.tabIn (K w.params) gx = some (c w.params, T w.params)) (hnT : ∀ w : World, (K w.params).lookup (T w.params) = none)
    (F : ∀ (w : World) (mg : Str → Option Value) (h : Heap), (K w.params).In h → h.Ns mainGlobals mg → ∀ base : Heap, (K w.params).In base → base.Ns mainGlobals mg → GxR.TabB base mg (c w.params) (T w.params) → Df l.prog w (K w.params) mg base k d.name ps (sp (K w.params) (T w.params)))
    (hsp : ∀ (K : PySem.W.Frag) (T : Addr) (H : Hp) (a : Addr) (ns : List Int), ns.length ≤ n → SqL K H a (ns.map V.int) → GxR.TabG H T → sp K T [.ref a] H (fun v _ => v = .bl true)) :
    PySem.W.WalkO q loose XP YP l.row.toRowW d [] (fun f vs => PySem.call f vs) := by
  refine Att.attach_call hn hdf fun w s₀ s₁ mg mb fa o pm cd doc a vs ns G Y _ _ _ hmg hobj hints hlen hg => ?_
  have inK := hY w _ Y
  obtain ⟨hC, hT⟩ := PySem.W.tab_of G.T inK hrec (htab w)
  exact law_endT inK G.T.g G.T.b G.T.builtins G.T.nolimit hg G.T.bmain hT (hnT w) hC hobj hints (Nat.le_trans hlen hn2) hr hmg hps (F w mg _ inK G.T.g) fun H hS hG => hsp _ _ H a ns hlen hS hG
end W3

end
section
set_option Elab.async false
set_option linter.all false
set_option maxRecDepth 100000
set_option maxHeartbeats 4000000
namespace W3
open PySem PySem.Spec PyProof.Rows L2
open Evl (Ex)
/-! ### more rules -/
section
variable {X : Cx}
/-- s * n, a small text a few times -/
def rMulS : R2 := fun x y H Q => ∃ (a : Str) (n : Nat), x = .str a ∧ y = .int n ∧ a.length ≤ 100 ∧ n ≤ 100 ∧ Q (.str (Txt.mul a n)) H
theorem op_mulS : OpR X (binaryOp .Mult) rMulS := by
  intro pins s σ H x y v u Q I rx ry h
  obtain ⟨a, n, rfl, rfl, h1, h2, q⟩ := h
  obtain ⟨t, rfl⟩ := (show ∃ t, v = Value.str a t from rx)
  obtain ⟨t2, rfl⟩ := (show ∃ t, u = Value.int n t from ry)
  exact SB.mul (mulOk_of 100 100 h1 (by omega) (by omega) (by decide) (by decide)) fun t' k => ⟨.str (Txt.mul a n), H, I.tok _, ⟨_, rfl⟩, q⟩
/-- d < e, alike data -/
def rLtD : R2 := fun x y H Q => ∃ d e, Dt H d x ∧ Dt H e y ∧ PySem.W.alike d e = true ∧ d ≠ .none ∧ d.depth ≤ 32 ∧ Q (.bl (PySem.W.dataLt d e)) H
theorem op_ltD (hu : X.A.units + 64 < cLine) : OpR X (compareOp .Lt) rLtD := by
  intro pins s σ H x y v u Q I rx ry h
  obtain ⟨d, e, hd, he, ha, hn, hk, q⟩ := h
  obtain ⟨as, r1⟩ := Dp.reads I d x v hd.dp rx
  obtain ⟨bs, r2⟩ := Dp.reads I e y u he.dp ry
  refine PySem.W.lt_data r1 r2 ha hn ?_ ⟨.bl _, H, I, rfl, q⟩
  have : min d.depth e.depth ≤ d.depth := Nat.min_le_left _ _
  omega
mutual
theorem Lf.plain : ∀ d : PyData, Lf d → d.plain = true
  | .none, _ => by simp [PyData.plain]
  | .bool _, _ => by simp [PyData.plain]
  | .int _, _ => by simp [PyData.plain]
  | .str _, _ => by simp [PyData.plain]
  | .list xs, h => by simpa [PyData.plain] using Lfs.plain xs h
  | .tuple xs, h => by simpa [PyData.plain] using Lfs.plain xs h
  | .dict _, h => h.elim
theorem Lfs.plain : ∀ ds : List PyData, Lfs ds → PyData.plainAll ds = true
  | [], _ => by simp [PyData.plainAll]
  | d :: ds, h => by simp [PyData.plainAll, Lf.plain d h.1, Lfs.plain ds h.2]
end
/-- xs.count(d) of data -/
def rCntD : V → List V → Hp → VK → Prop := fun x vs H Q => ∃ (p : Addr) (xs : List V) (ds : List PyData) (y : V) (d : PyData), x = .ref p ∧ vs = [y] ∧ H p = some (.lst xs) ∧ Dts H ds xs ∧ Dt H d y ∧ Lfs ds ∧ Lf d ∧ d.depth ≤ 32 ∧ Q (.int ((ds.countP fun z => PyData.eqv z d : Nat) : Int)) H
theorem mt_countD (hu : X.A.units + 64 < cLine) : MtR X "list.count" rCntD := by
  intro pins s σ H x vs v us Q I rx rxs h
  obtain ⟨p, xs, ds, y, d, rfl, rfl, hp, hds, hd, l1, l2, hk, q⟩ := h
  cases rx
  obtain ⟨u, rfl, ru⟩ := rxs.one
  obtain ⟨its, rv, hl, hz⟩ := I.list (SqL.of (K := X.K) hp)
  obtain ⟨as, r1⟩ := Dp.readsAll I ds xs its hds.dp rv
  obtain ⟨bs, r2⟩ := Dp.reads I d y u hd.dp ru
  refine SeqAt.count_list_data hl.isList (xs := ds) (as := as) (by simpa using r1) r2 (Lfs.plain ds l1) (Lf.plain d l2) ?_ ⟨.int _, H, I.tok _, ⟨_, rfl⟩, q⟩
  have : min (PyData.depthAll ds) d.depth ≤ d.depth := Nat.min_le_right _ _
  omega
theorem tupS (K : PySem.W.Frag) (h : X.K = K := by rfl) : CallR X (.type "tuple") (fun xs H Q => ∃ p ys, xs = [.ref p] ∧ ((SqL K H p ys ∧ ∀ l, H l = none → Q (.ref l) (upd H l (.tup ys))) ∨ (SqT K H p ys ∧ Q (.ref p) H))) := h ▸ call_tuple_of
theorem anyS (K : PySem.W.Frag) (h : X.K = K := by rfl) (hc : X.calm = true := by rfl) : CallR X (.builtin "any") (rAny K) := h ▸ cr_any hc
theorem isiS (K : PySem.W.Frag) (h : X.K = K := by rfl) : CallR X (.builtin "isinstance") (rIsi K) := h ▸ call_isi
theorem opInD (K : PySem.W.Frag) (hu : X.A.units + 65 < cLine) (h : X.K = K := by rfl) : OpR X (compareOp .In) (rInD K) := h ▸ op_inD hu
theorem opNotInD (K : PySem.W.Frag) (hu : X.A.units + 65 < cLine) (h : X.K = K := by rfl) : OpR X (compareOp .NotIn) (rNotInD K) := h ▸ op_notInD hu
theorem catT (K : PySem.W.Frag) (h : X.K = K := by rfl) : OpR X (binaryOp .Add) (rCatT K) := h ▸ op_catT
theorem slT (K : PySem.W.Frag) (h : X.K = K := by rfl) : SlR X (rSlT K) := h ▸ sl_tup
theorem ixI (K : PySem.W.Frag) (h : X.K = K := by rfl) : MtR X "list.index" (rIndex K) := h ▸ mt_index
end
end W3

end
section
set_option Elab.async false
set_option linter.all false
set_option maxRecDepth 100000
set_option maxHeartbeats 4000000
namespace W3
open PySem PySem.Spec PyProof.Rows L2
/-! ### the text by places -/
def topS (i : Nat) : Stmt := PySem.Challenge.pw_webnames_k72_whole_states_and_bounds.main.body.getD i (.Pass ⟨0, 0, 0, 0⟩)
theorem bt_abs : bootBuiltins "abs" = some (.builtin "abs") := by decide +kernel
theorem bt_all : bootBuiltins "all" = some (.builtin "all") := by decide +kernel
theorem bt_any : bootBuiltins "any" = some (.builtin "any") := by decide +kernel
theorem bt_bool : bootBuiltins "bool" = some (.type "bool") := by decide +kernel
theorem bt_divmod : bootBuiltins "divmod" = some (.builtin "divmod") := by decide +kernel
theorem bt_int : bootBuiltins "int" = some (.type "int") := by decide +kernel
theorem bt_isinstance : bootBuiltins "isinstance" = some (.builtin "isinstance") := by decide +kernel
theorem bt_len : bootBuiltins "len" = some (.builtin "len") := by decide +kernel
theorem bt_list : bootBuiltins "list" = some (.type "list") := by decide +kernel
theorem bt_max : bootBuiltins "max" = some (.builtin "max") := by decide +kernel
theorem bt_min : bootBuiltins "min" = some (.builtin "min") := by decide +kernel
theorem bt_repr : bootBuiltins "repr" = some (.builtin "repr") := by decide +kernel
theorem bt_sorted : bootBuiltins "sorted" = some (.builtin "sorted") := by decide +kernel
theorem bt_tuple : bootBuiltins "tuple" = some (.type "tuple") := by decide +kernel
/-- what the module's names hold, beside its defs -/
structure Txt (mg : Str → Option Value) : Prop where
  range : mg "range" = none
  n_abs : mg "abs" = none
  n_all : mg "all" = none
  n_any : mg "any" = none
  n_bool : mg "bool" = none
  n_divmod : mg "divmod" = none
  n_enumerate : mg "enumerate" = none
  n_int : mg "int" = none
  n_isinstance : mg "isinstance" = none
  n_len : mg "len" = none
  n_list : mg "list" = none
  n_max : mg "max" = none
  n_min : mg "min" = none
  n_repr : mg "repr" = none
  n_sorted : mg "sorted" = none
  n_tuple : mg "tuple" = none
  n_zip : mg "zip" = none
/-! ### slots, scopes, how arguments bind -/
abbrev snear_of : Stmt := topS 1
abbrev Nnear_of : List Str := ["many", "ties", "near", "tie", "turn", "others"]
theorem scnear_of : FnScope Nnear_of ["many", "ties"] (defScope snear_of) := ⟨rfl, rfl, rfl, by decide +kernel, rfl, by decide +kernel, by decide +kernel⟩
theorem binear_of (kV doc pm : Value) (an : Option Addr) (cdv ct : Value) (us : List Value) (hl : us.length = 2) : bindArgs (PySem.W.fnOf "near_of" "near_of" (defArgs snear_of) (defBody snear_of) (defScope snear_of) .none kV doc pm an cdv ct) ⟨us, []⟩ = pure ((["many", "ties"] : List Str).zip us) :=
  match us, hl with
  | [_, _], _ => rfl
abbrev spiece_of : Stmt := topS 2
abbrev Npiece_of : List Str := ["near", "start", "found", "left", "seen", "part", "other"]
theorem scpiece_of : FnScope Npiece_of ["near", "start"] (defScope spiece_of) := ⟨rfl, rfl, rfl, by decide +kernel, rfl, by decide +kernel, by decide +kernel⟩
theorem bipiece_of (kV doc pm : Value) (an : Option Addr) (cdv ct : Value) (us : List Value) (hl : us.length = 2) : bindArgs (PySem.W.fnOf "piece_of" "piece_of" (defArgs spiece_of) (defBody spiece_of) (defScope spiece_of) .none kV doc pm an cdv ct) ⟨us, []⟩ = pure ((["near", "start"] : List Str).zip us) :=
  match us, hl with
  | [_, _], _ => rfl
abbrev sorders_of : Stmt := topS 4
abbrev Norders_of : List Str := ["web", "table", "first", "second", "order", "part"]
theorem scorders_of : FnScope Norders_of ["web"] (defScope sorders_of) := ⟨rfl, rfl, rfl, by decide +kernel, rfl, by decide +kernel, by decide +kernel⟩
theorem biorders_of (kV doc pm : Value) (an : Option Addr) (cdv ct : Value) (us : List Value) (hl : us.length = 1) : bindArgs (PySem.W.fnOf "orders_of" "orders_of" (defArgs sorders_of) (defBody sorders_of) (defScope sorders_of) .none kV doc pm an cdv ct) ⟨us, []⟩ = pure ((["web"] : List Str).zip us) :=
  match us, hl with
  | [_], _ => rfl
abbrev spart_class : Stmt := topS 5
abbrev Npart_class : List Str := ["web", "parts", "part", "row", "other"]
theorem scpart_class : FnScope Npart_class ["web", "parts", "part"] (defScope spart_class) := ⟨rfl, rfl, rfl, by decide +kernel, rfl, by decide +kernel, by decide +kernel⟩
theorem bipart_class (kV doc pm : Value) (an : Option Addr) (cdv ct : Value) (us : List Value) (hl : us.length = 3) : bindArgs (PySem.W.fnOf "part_class" "part_class" (defArgs spart_class) (defBody spart_class) (defScope spart_class) .none kV doc pm an cdv ct) ⟨us, []⟩ = pure ((["web", "parts", "part"] : List Str).zip us) :=
  match us, hl with
  | [_, _, _], _ => rfl
abbrev sleft_classes : Stmt := topS 6
abbrev Nleft_classes : List Str := ["web", "parts", "left", "table", "part", "other"]
theorem scleft_classes : FnScope Nleft_classes ["web", "parts", "left"] (defScope sleft_classes) := ⟨rfl, rfl, rfl, by decide +kernel, rfl, by decide +kernel, by decide +kernel⟩
theorem bileft_classes (kV doc pm : Value) (an : Option Addr) (cdv ct : Value) (us : List Value) (hl : us.length = 3) : bindArgs (PySem.W.fnOf "left_classes" "left_classes" (defArgs sleft_classes) (defBody sleft_classes) (defScope sleft_classes) .none kV doc pm an cdv ct) ⟨us, []⟩ = pure ((["web", "parts", "left"] : List Str).zip us) :=
  match us, hl with
  | [_, _, _], _ => rfl
abbrev sleft_second : Stmt := topS 7
abbrev Nleft_second : List Str := ["other", "pairs", "used", "place", "part"]
theorem scleft_second : FnScope Nleft_second ["other", "pairs"] (defScope sleft_second) := ⟨rfl, rfl, rfl, by decide +kernel, rfl, by decide +kernel, by decide +kernel⟩
theorem bileft_second (kV doc pm : Value) (an : Option Addr) (cdv ct : Value) (us : List Value) (hl : us.length = 2) : bindArgs (PySem.W.fnOf "left_second" "left_second" (defArgs sleft_second) (defBody sleft_second) (defScope sleft_second) .none kV doc pm an cdv ct) ⟨us, []⟩ = pure ((["other", "pairs"] : List Str).zip us) :=
  match us, hl with
  | [_, _], _ => rfl
abbrev sshared : Stmt := topS 8
abbrev Nshared : List Str := ["first", "second", "at", "to", "found"]
theorem scshared : FnScope Nshared ["first", "second"] (defScope sshared) := ⟨rfl, rfl, rfl, by decide +kernel, rfl, by decide +kernel, by decide +kernel⟩
theorem bishared (kV doc pm : Value) (an : Option Addr) (cdv ct : Value) (us : List Value) (hl : us.length = 2) : bindArgs (PySem.W.fnOf "shared" "shared" (defArgs sshared) (defBody sshared) (defScope sshared) .none kV doc pm an cdv ct) ⟨us, []⟩ = pure ((["first", "second"] : List Str).zip us) :=
  match us, hl with
  | [_, _], _ => rfl
abbrev sclass_bound : Stmt := topS 9
abbrev Nclass_bound : List Str := ["web", "other", "pairs", "many", "first", "second", "part", "place"]
theorem scclass_bound : FnScope Nclass_bound ["web", "other", "pairs", "many"] (defScope sclass_bound) := ⟨rfl, rfl, rfl, by decide +kernel, rfl, by decide +kernel, by decide +kernel⟩
theorem biclass_bound (kV doc pm : Value) (an : Option Addr) (cdv ct : Value) (us : List Value) (hl : us.length = 4) : bindArgs (PySem.W.fnOf "class_bound" "class_bound" (defArgs sclass_bound) (defBody sclass_bound) (defScope sclass_bound) .none kV doc pm an cdv ct) ⟨us, []⟩ = pure ((["web", "other", "pairs", "many"] : List Str).zip us) :=
  match us, hl with
  | [_, _, _, _], _ => rfl
abbrev skind_bound : Stmt := topS 10
abbrev Nkind_bound : List Str := ["web", "other"]
theorem sckind_bound : FnScope Nkind_bound ["web", "other"] (defScope skind_bound) := ⟨rfl, rfl, rfl, by decide +kernel, rfl, by decide +kernel, by decide +kernel⟩
theorem bikind_bound (kV doc pm : Value) (an : Option Addr) (cdv ct : Value) (us : List Value) (hl : us.length = 2) : bindArgs (PySem.W.fnOf "kind_bound" "kind_bound" (defArgs skind_bound) (defBody skind_bound) (defScope skind_bound) .none kV doc pm an cdv ct) ⟨us, []⟩ = pure ((["web", "other"] : List Str).zip us) :=
  match us, hl with
  | [_, _], _ => rfl
abbrev sis_apart : Stmt := topS 11
abbrev Nis_apart : List Str := ["web", "pairs", "many", "firsts", "within", "piece", "tie", "part", "place"]
theorem scis_apart : FnScope Nis_apart ["web", "pairs", "many"] (defScope sis_apart) := ⟨rfl, rfl, rfl, by decide +kernel, rfl, by decide +kernel, by decide +kernel⟩
theorem biis_apart (kV doc pm : Value) (an : Option Addr) (cdv ct : Value) (us : List Value) (hl : us.length = 3) : bindArgs (PySem.W.fnOf "is_apart" "is_apart" (defArgs sis_apart) (defBody sis_apart) (defScope sis_apart) .none kV doc pm an cdv ct) ⟨us, []⟩ = pure ((["web", "pairs", "many"] : List Str).zip us) :=
  match us, hl with
  | [_, _, _], _ => rfl
abbrev sleft_candidates : Stmt := topS 12
abbrev Nleft_candidates : List Str := ["web", "other", "pairs", "many", "wanted", "places", "place", "part"]
theorem scleft_candidates : FnScope Nleft_candidates ["web", "other", "pairs", "many"] (defScope sleft_candidates) := ⟨rfl, rfl, rfl, by decide +kernel, rfl, by decide +kernel, by decide +kernel⟩
theorem bileft_candidates (kV doc pm : Value) (an : Option Addr) (cdv ct : Value) (us : List Value) (hl : us.length = 4) : bindArgs (PySem.W.fnOf "left_candidates" "left_candidates" (defArgs sleft_candidates) (defBody sleft_candidates) (defScope sleft_candidates) .none kV doc pm an cdv ct) ⟨us, []⟩ = pure ((["web", "other", "pairs", "many"] : List Str).zip us) :=
  match us, hl with
  | [_, _, _, _], _ => rfl
abbrev sl_pot : Stmt := topS 14
abbrev Nl_pot : List Str := ["_law_script", "_law_k", "_law_cell"]
theorem scl_pot : FnScope Nl_pot ["_law_script", "_law_k"] (defScope sl_pot) := ⟨rfl, rfl, rfl, by decide +kernel, rfl, by decide +kernel, by decide +kernel⟩
theorem bil_pot (kV doc pm : Value) (an : Option Addr) (cdv ct : Value) (us : List Value) (hl : us.length = 2) : bindArgs (PySem.W.fnOf "_law_pot" "_law_pot" (defArgs sl_pot) (defBody sl_pot) (defScope sl_pot) .none kV doc pm an cdv ct) ⟨us, []⟩ = pure ((["_law_script", "_law_k"] : List Str).zip us) :=
  match us, hl with
  | [_, _], _ => rfl
abbrev sl_draw : Stmt := topS 15
abbrev Nl_draw : List Str := ["_law_pot_here", "_law_many", "_law_digit"]
theorem scl_draw : FnScope Nl_draw ["_law_pot_here", "_law_many"] (defScope sl_draw) := ⟨rfl, rfl, rfl, by decide +kernel, rfl, by decide +kernel, by decide +kernel⟩
theorem bil_draw (kV doc pm : Value) (an : Option Addr) (cdv ct : Value) (us : List Value) (hl : us.length = 2) : bindArgs (PySem.W.fnOf "_law_draw" "_law_draw" (defArgs sl_draw) (defBody sl_draw) (defScope sl_draw) .none kV doc pm an cdv ct) ⟨us, []⟩ = pure ((["_law_pot_here", "_law_many"] : List Str).zip us) :=
  match us, hl with
  | [_, _], _ => rfl
abbrev sl_pick : Stmt := topS 16
abbrev Nl_pick : List Str := ["_law_pot_here", "_law_some"]
theorem scl_pick : FnScope Nl_pick ["_law_pot_here", "_law_some"] (defScope sl_pick) := ⟨rfl, rfl, rfl, by decide +kernel, rfl, by decide +kernel, by decide +kernel⟩
theorem bil_pick (kV doc pm : Value) (an : Option Addr) (cdv ct : Value) (us : List Value) (hl : us.length = 2) : bindArgs (PySem.W.fnOf "_law_pick" "_law_pick" (defArgs sl_pick) (defBody sl_pick) (defScope sl_pick) .none kV doc pm an cdv ct) ⟨us, []⟩ = pure ((["_law_pot_here", "_law_some"] : List Str).zip us) :=
  match us, hl with
  | [_, _], _ => rfl
abbrev sl_same : Stmt := topS 17
abbrev Nl_same : List Str := ["_law_one", "_law_two_here", "_law_a", "_law_b"]
theorem scl_same : FnScope Nl_same ["_law_one", "_law_two_here"] (defScope sl_same) := ⟨rfl, rfl, rfl, by decide +kernel, rfl, by decide +kernel, by decide +kernel⟩
theorem bil_same (kV doc pm : Value) (an : Option Addr) (cdv ct : Value) (us : List Value) (hl : us.length = 2) : bindArgs (PySem.W.fnOf "_law_same" "_law_same" (defArgs sl_same) (defBody sl_same) (defScope sl_same) .none kV doc pm an cdv ct) ⟨us, []⟩ = pure ((["_law_one", "_law_two_here"] : List Str).zip us) :=
  match us, hl with
  | [_, _], _ => rfl
abbrev sl_shape : Stmt := topS 19
abbrev Nl_shape : List Str := ["_law_pot_here", "_law_long", "_law_row", "_law_more", "_law_ring", "_law_way", "_law_order", "_law_drawn", "_law_at", "_law_many", "_law_full", "_law_a", "_law_place", "_law_b", "_law_one"]
theorem scl_shape : FnScope Nl_shape ["_law_pot_here"] (defScope sl_shape) := ⟨rfl, rfl, rfl, by decide +kernel, rfl, by decide +kernel, by decide +kernel⟩
theorem bil_shape (kV doc pm : Value) (an : Option Addr) (cdv ct : Value) (us : List Value) (hl : us.length = 1) : bindArgs (PySem.W.fnOf "_law_shape" "_law_shape" (defArgs sl_shape) (defBody sl_shape) (defScope sl_shape) .none kV doc pm an cdv ct) ⟨us, []⟩ = pure ((["_law_pot_here"] : List Str).zip us) :=
  match us, hl with
  | [_], _ => rfl
abbrev sl_dressed : Stmt := topS 20
abbrev Nl_dressed : List Str := ["_law_pot_here", "_law_many", "_law_ties", "_law_odd", "_law_near_here", "_law_parts", "_law_some", "_law_hands", "_law_twos", "_law_fit", "_law_sides", "_law_x", "_law_a", "_law_b", "_law_order"]
theorem scl_dressed : FnScope Nl_dressed ["_law_pot_here", "_law_many", "_law_ties", "_law_odd"] (defScope sl_dressed) := ⟨rfl, rfl, rfl, by decide +kernel, rfl, by decide +kernel, by decide +kernel⟩
theorem bil_dressed (kV doc pm : Value) (an : Option Addr) (cdv ct : Value) (us : List Value) (hl : us.length = 4) : bindArgs (PySem.W.fnOf "_law_dressed" "_law_dressed" (defArgs sl_dressed) (defBody sl_dressed) (defScope sl_dressed) .none kV doc pm an cdv ct) ⟨us, []⟩ = pure ((["_law_pot_here", "_law_many", "_law_ties", "_law_odd"] : List Str).zip us) :=
  match us, hl with
  | [_, _, _, _], _ => rfl
abbrev sl_drawn_ties : Stmt := topS 21
abbrev Nl_drawn_ties : List Str := ["_law_pot_here", "_law_many", "_law_at", "_law_full", "_law_drawn", "_law_place"]
theorem scl_drawn_ties : FnScope Nl_drawn_ties ["_law_pot_here", "_law_many"] (defScope sl_drawn_ties) := ⟨rfl, rfl, rfl, by decide +kernel, rfl, by decide +kernel, by decide +kernel⟩
theorem bil_drawn_ties (kV doc pm : Value) (an : Option Addr) (cdv ct : Value) (us : List Value) (hl : us.length = 2) : bindArgs (PySem.W.fnOf "_law_drawn_ties" "_law_drawn_ties" (defArgs sl_drawn_ties) (defBody sl_drawn_ties) (defScope sl_drawn_ties) .none kV doc pm an cdv ct) ⟨us, []⟩ = pure ((["_law_pot_here", "_law_many"] : List Str).zip us) :=
  match us, hl with
  | [_, _], _ => rfl
abbrev sl_two : Stmt := topS 22
abbrev Nl_two : List Str := ["_law_pot_here", "_law_most", "_law_letters", "_law_odd", "_law_many", "_law_web", "_law_order", "_law_x", "_law_ties", "_law_other", "_law_parts", "_law_place", "_law_a", "_law_b", "_law_c"]
theorem scl_two : FnScope Nl_two ["_law_pot_here", "_law_most"] (defScope sl_two) := ⟨rfl, rfl, rfl, by decide +kernel, rfl, by decide +kernel, by decide +kernel⟩
theorem bil_two (kV doc pm : Value) (an : Option Addr) (cdv ct : Value) (us : List Value) (hl : us.length = 2) : bindArgs (PySem.W.fnOf "_law_two" "_law_two" (defArgs sl_two) (defBody sl_two) (defScope sl_two) .none kV doc pm an cdv ct) ⟨us, []⟩ = pure ((["_law_pot_here", "_law_most"] : List Str).zip us) :=
  match us, hl with
  | [_, _], _ => rfl
abbrev sl_orders : Stmt := topS 23
abbrev Nl_orders : List Str := ["_law_web", "_law_rows", "_law_a", "_law_b", "_law_order", "_law_x"]
theorem scl_orders : FnScope Nl_orders ["_law_web"] (defScope sl_orders) := ⟨rfl, rfl, rfl, by decide +kernel, rfl, by decide +kernel, by decide +kernel⟩
theorem bil_orders (kV doc pm : Value) (an : Option Addr) (cdv ct : Value) (us : List Value) (hl : us.length = 1) : bindArgs (PySem.W.fnOf "_law_orders" "_law_orders" (defArgs sl_orders) (defBody sl_orders) (defScope sl_orders) .none kV doc pm an cdv ct) ⟨us, []⟩ = pure ((["_law_web"] : List Str).zip us) :=
  match us, hl with
  | [_], _ => rfl
abbrev sl_joined : Stmt := topS 24
abbrev Nl_joined : List Str := ["_law_rows", "_law_some", "_law_seen", "_law_left", "_law_x", "_law_new", "_law_y"]
theorem scl_joined : FnScope Nl_joined ["_law_rows", "_law_some"] (defScope sl_joined) := ⟨rfl, rfl, rfl, by decide +kernel, rfl, by decide +kernel, by decide +kernel⟩
theorem bil_joined (kV doc pm : Value) (an : Option Addr) (cdv ct : Value) (us : List Value) (hl : us.length = 2) : bindArgs (PySem.W.fnOf "_law_joined" "_law_joined" (defArgs sl_joined) (defBody sl_joined) (defScope sl_joined) .none kV doc pm an cdv ct) ⟨us, []⟩ = pure ((["_law_rows", "_law_some"] : List Str).zip us) :=
  match us, hl with
  | [_, _], _ => rfl
abbrev sl_fits : Stmt := topS 25
abbrev Nl_fits : List Str := ["_law_web", "_law_other", "_law_rows", "_law_lists", "_law_pairs", "_law_a", "_law_b", "_law_c", "_law_d"]
theorem scl_fits : FnScope Nl_fits ["_law_web", "_law_other", "_law_rows", "_law_lists", "_law_pairs", "_law_a", "_law_b"] (defScope sl_fits) := ⟨rfl, rfl, rfl, by decide +kernel, rfl, by decide +kernel, by decide +kernel⟩
theorem bil_fits (kV doc pm : Value) (an : Option Addr) (cdv ct : Value) (us : List Value) (hl : us.length = 7) : bindArgs (PySem.W.fnOf "_law_fits" "_law_fits" (defArgs sl_fits) (defBody sl_fits) (defScope sl_fits) .none kV doc pm an cdv ct) ⟨us, []⟩ = pure ((["_law_web", "_law_other", "_law_rows", "_law_lists", "_law_pairs", "_law_a", "_law_b"] : List Str).zip us) :=
  match us, hl with
  | [_, _, _, _, _, _, _], _ => rfl
abbrev sl_class : Stmt := topS 28
abbrev Nl_class : List Str := ["_law_web", "_law_rows", "_law_some", "_law_x", "_law_y"]
theorem scl_class : FnScope Nl_class ["_law_web", "_law_rows", "_law_some", "_law_x"] (defScope sl_class) := ⟨rfl, rfl, rfl, by decide +kernel, rfl, by decide +kernel, by decide +kernel⟩
theorem bil_class (kV doc pm : Value) (an : Option Addr) (cdv ct : Value) (us : List Value) (hl : us.length = 4) : bindArgs (PySem.W.fnOf "_law_class" "_law_class" (defArgs sl_class) (defBody sl_class) (defScope sl_class) .none kV doc pm an cdv ct) ⟨us, []⟩ = pure ((["_law_web", "_law_rows", "_law_some", "_law_x"] : List Str).zip us) :=
  match us, hl with
  | [_, _, _, _], _ => rfl
abbrev sl_bound : Stmt := topS 29
abbrev Nl_bound : List Str := ["_law_web", "_law_other", "_law_pairs", "_law_many", "_law_here", "_law_free", "_law_there", "_law_total", "_law_rows", "_law_lists", "_law_ours", "_law_theirs", "_law_at", "_law_one", "_law_x", "_law_a", "_law_b"]
theorem scl_bound : FnScope Nl_bound ["_law_web", "_law_other", "_law_pairs", "_law_many"] (defScope sl_bound) := ⟨rfl, rfl, rfl, by decide +kernel, rfl, by decide +kernel, by decide +kernel⟩
theorem bil_bound (kV doc pm : Value) (an : Option Addr) (cdv ct : Value) (us : List Value) (hl : us.length = 4) : bindArgs (PySem.W.fnOf "_law_bound" "_law_bound" (defArgs sl_bound) (defBody sl_bound) (defScope sl_bound) .none kV doc pm an cdv ct) ⟨us, []⟩ = pure ((["_law_web", "_law_other", "_law_pairs", "_law_many"] : List Str).zip us) :=
  match us, hl with
  | [_, _, _, _], _ => rfl
abbrev sl_apart : Stmt := topS 30
abbrev Nl_apart : List Str := ["_law_web", "_law_pairs", "_law_many", "_law_left", "_law_rows", "_law_ours", "_law_some", "_law_seen", "_law_x", "_law_new", "_law_y", "_law_a", "_law_b"]
theorem scl_apart : FnScope Nl_apart ["_law_web", "_law_pairs", "_law_many"] (defScope sl_apart) := ⟨rfl, rfl, rfl, by decide +kernel, rfl, by decide +kernel, by decide +kernel⟩
theorem bil_apart (kV doc pm : Value) (an : Option Addr) (cdv ct : Value) (us : List Value) (hl : us.length = 3) : bindArgs (PySem.W.fnOf "_law_apart" "_law_apart" (defArgs sl_apart) (defBody sl_apart) (defScope sl_apart) .none kV doc pm an cdv ct) ⟨us, []⟩ = pure ((["_law_web", "_law_pairs", "_law_many"] : List Str).zip us) :=
  match us, hl with
  | [_, _, _], _ => rfl
abbrev sl_candidates : Stmt := topS 31
abbrev Nl_candidates : List Str := ["_law_web", "_law_other", "_law_pairs", "_law_many", "_law_rows", "_law_lists", "_law_b"]
theorem scl_candidates : FnScope Nl_candidates ["_law_web", "_law_other", "_law_pairs", "_law_many"] (defScope sl_candidates) := ⟨rfl, rfl, rfl, by decide +kernel, rfl, by decide +kernel, by decide +kernel⟩
theorem bil_candidates (kV doc pm : Value) (an : Option Addr) (cdv ct : Value) (us : List Value) (hl : us.length = 4) : bindArgs (PySem.W.fnOf "_law_candidates" "_law_candidates" (defArgs sl_candidates) (defBody sl_candidates) (defScope sl_candidates) .none kV doc pm an cdv ct) ⟨us, []⟩ = pure ((["_law_web", "_law_other", "_law_pairs", "_law_many"] : List Str).zip us) :=
  match us, hl with
  | [_, _, _, _], _ => rfl
abbrev sl_built : Stmt := topS 32
abbrev Nl_built : List Str := ["_law_pot_here", "_law_turn", "_law_odd", "_law_webs", "_law_many", "_law_ties"]
theorem scl_built : FnScope Nl_built ["_law_pot_here"] (defScope sl_built) := ⟨rfl, rfl, rfl, by decide +kernel, rfl, by decide +kernel, by decide +kernel⟩
theorem bil_built (kV doc pm : Value) (an : Option Addr) (cdv ct : Value) (us : List Value) (hl : us.length = 1) : bindArgs (PySem.W.fnOf "_law_built" "_law_built" (defArgs sl_built) (defBody sl_built) (defScope sl_built) .none kV doc pm an cdv ct) ⟨us, []⟩ = pure ((["_law_pot_here"] : List Str).zip us) :=
  match us, hl with
  | [_], _ => rfl
abbrev sl_made : Stmt := topS 33
abbrev Nl_made : List Str := ["_law_web", "_law_other", "_law_pairs", "_law_many", "_law_a", "_law_rows", "_law_lists", "_law_found", "_law_new", "_law_own", "_law_b"]
theorem scl_made : FnScope Nl_made ["_law_web", "_law_other", "_law_pairs", "_law_many"] (defScope sl_made) := ⟨rfl, rfl, rfl, by decide +kernel, rfl, by decide +kernel, by decide +kernel⟩
theorem bil_made (kV doc pm : Value) (an : Option Addr) (cdv ct : Value) (us : List Value) (hl : us.length = 4) : bindArgs (PySem.W.fnOf "_law_made" "_law_made" (defArgs sl_made) (defBody sl_made) (defScope sl_made) .none kV doc pm an cdv ct) ⟨us, []⟩ = pure ((["_law_web", "_law_other", "_law_pairs", "_law_many"] : List Str).zip us) :=
  match us, hl with
  | [_, _, _, _], _ => rfl
abbrev sl_right : Stmt := topS 34
abbrev Nl_right : List Str := ["_law_pot_here", "_law_a", "_law_apart_here", "_law_told", "_law_kinds", "_law_web", "_law_other", "_law_rows", "_law_lists", "_law_kept", "_law_many", "_law_pairs", "_law_some", "_law_held", "_law_due", "_law_one", "_law_row", "_law_x", "_law_made_here", "_law_b", "_law_shown", "_law_y"]
theorem scl_right : FnScope Nl_right ["_law_pot_here"] (defScope sl_right) := ⟨rfl, rfl, rfl, by decide +kernel, rfl, by decide +kernel, by decide +kernel⟩
theorem bil_right (kV doc pm : Value) (an : Option Addr) (cdv ct : Value) (us : List Value) (hl : us.length = 1) : bindArgs (PySem.W.fnOf "_law_right" "_law_right" (defArgs sl_right) (defBody sl_right) (defScope sl_right) .none kV doc pm an cdv ct) ⟨us, []⟩ = pure ((["_law_pot_here"] : List Str).zip us) :=
  match us, hl with
  | [_], _ => rfl
abbrev slaw : Stmt := topS 35
abbrev Nlaw : List Str := ["_law_script"]
theorem sclaw : FnScope Nlaw ["_law_script"] (defScope slaw) := ⟨rfl, rfl, rfl, by decide +kernel, rfl, by decide +kernel, by decide +kernel⟩
theorem bilaw (kV doc pm : Value) (an : Option Addr) (cdv ct : Value) (us : List Value) (hl : us.length = 1) : bindArgs (PySem.W.fnOf "law" "law" (defArgs slaw) (defBody slaw) (defScope slaw) .none kV doc pm an cdv ct) ⟨us, []⟩ = pure ((["_law_script"] : List Str).zip us) :=
  match us, hl with
  | [_], _ => rfl
end W3

end
section
set_option Elab.async false
set_option linter.all false
set_option maxRecDepth 100000
set_option maxHeartbeats 4000000
namespace W3
open PySem PySem.Spec PyProof.Rows L2 M83
open Evl (Ex)
section
variable {P : Program} {w : World} {K : PySem.W.Frag} {mg : Str → Option Value} {base : Heap}
theorem d_near_of {f : Addr} {fd : FuncData} (F : Fun K "near_of" "near_of" snear_of f fd) (hm : mg "near_of" = some (.ref f)) (T : Txt mg) : Df P w K mg base 1 "near_of" ["many", "ties"] p_near_of := by
  refine Df.body F hm binear_of scnear_of (fun vs H Q h => ?_) (fun cdv A outer s H vs Q hr h => ?_)
  · obtain ⟨n, v, ts, rfl, _⟩ := h; rfl
  · obtain ⟨n, v, ts, rfl, hn, hts, ok, ⟨tp, txs, rfl, htp, htx⟩, k⟩ := h
    refine ⟨_, (pss_cons (ps_setLc (own := [("turn", 4)]) (i := 2) rfl scnear_of.nd rfl rfl (sw_true rfl rfl rfl (by decide +kernel)) (pi_range1 rfl T.range (pa_cons (pv 0) pa_nil)) (blkOk_by (N := Nnear_of) (sc := defScope snear_of) (by decide +kernel)) (fun _ _ _ _ _ => (pg_name (i := 4) scnear_of.nd rfl (Or.inl rfl))) (fun _ _ _ _ _ => pts_nil) (fun _ _ _ _ _ => (pe_fr (pe_lst pa_nil))))
 (pss_cons (ps_for PassesOwn.never rfl (piL K (pv 1)) (pg_name (i := 3) scnear_of.nd rfl (Or.inl rfl)) (pss_cons (ps_expr (pe_bm PySem.F.plainAttrs_list PySem.F.slot_list_append PySem.F.type_list_append mt_append (pe_ix (ixL K) (pv 2) (pe_ix (ixT K) (pv 3) pe_int (fun _ _ => rfl)) (fun _ _ => rfl)) (pa_cons (pe_ix (ixT K) (pv 3) pe_int (fun _ _ => rfl)) pa_nil)))
 (pss_one (ps_expr (pe_bm PySem.F.plainAttrs_list PySem.F.slot_list_append PySem.F.type_list_append mt_append (pe_ix (ixL K) (pv 2) (pe_ix (ixT K) (pv 3) pe_int (fun _ _ => rfl)) (fun _ _ => rfl)) (pa_cons (pe_ix (ixT K) (pv 3) pe_int (fun _ _ => rfl)) pa_nil))))))
 (pss_one (ps_ret (pe_lc (own := [("others", 5)]) rfl scnear_of.nd (piL K (pv 2)) (blkOk_by (N := Nnear_of) (sc := defScope snear_of) (by decide +kernel)) (fun _ _ _ _ _ => (pg_name (i := 5) scnear_of.nd rfl (Or.inl rfl))) (fun _ _ _ _ _ => pts_nil) (fun _ _ _ _ _ => (pe_fr (pe_callB (crSI K) (by rfl) T.n_sorted bt_sorted (pa_cons (pv 5) pa_nil))))))))), ?_⟩
    refine go_sets (lcR H (lo := 0) (n := n) (fun i acc G => ∃ as : List Addr, acc = as.map V.ref ∧ Rows G as (List.replicate i []) ∧ (∀ a ∈ as, H a = none) ∧ Ex H G) (fun R r => ⟨_, rfl, _, rfl, by omega, by omega, r⟩) (by omega) ⟨[], rfl, ⟨List.nodup_nil, rfl, fun i a row h => by simp at h⟩, fun a h => by simp at h, Ex.refl _⟩ ?_ (fun _ => rfl) ?_ ?_)
    · rintro i acc G ⟨as, rfl, r, _⟩
      rw [List.length_map, r.len, List.length_replicate]; exact Nat.le_refl _
    · rintro i acc G hi e ⟨as, rfl, r, fr, e1⟩
      refine ⟨Nat.zero_le _, fun p hp => ⟨Ex.new hp, as ++ [p], by simp, ⟨?_, ?_, ?_⟩, ?_, e1.trans (Ex.new hp)⟩⟩
      · refine List.nodup_append.mpr ⟨r.nd, by simp, fun x hx y hy => ?_⟩
        have ey : y = p := by simpa using hy
        subst ey
        intro e2; subst e2
        obtain ⟨j, hj⟩ := List.getElem?_of_mem hx
        have hl := (List.getElem?_eq_some_iff.mp hj).1
        rw [r.len] at hl
        rw [r.at_ j x _ hj (List.getElem?_eq_getElem hl)] at hp
        cases hp
      · simp [r.len]
      · intro j a row h1 h2
        rw [List.getElem?_replicate] at h2
        split at h2
        · cases h2
          rw [List.getElem?_append] at h1
          split at h1
          · rename_i hj
            have h3 := r.at_ j a [] h1 (by rw [List.getElem?_replicate, if_pos (by rw [r.len, List.length_replicate] at hj; exact hj)])
            exact Ex.new hp _ _ h3
          · rw [List.getElem?_singleton] at h1
            split at h1
            · cases h1; exact upd_same
            · cases h1
        · cases h2
      · intro a ha
        rcases List.mem_append.mp ha with ha | ha
        · exact fr a ha
        · have ea : a = p := by simpa using ha
          subst ea
          exact Evl.fresh_back e1 hp
    · rintro acc G p e np ⟨as, rfl, r, fr, e1⟩
      have e2 : Ex H (upd G p (.lst (as.map V.ref))) := e1.trans (Ex.new np)
      have fp : H p = none := Evl.fresh_back e1 np
      have pn : ∀ a ∈ as, a ≠ p := fun a ha z => by
        subst z
        obtain ⟨j, hj⟩ := List.getElem?_of_mem ha
        have hl := (List.getElem?_eq_some_iff.mp hj).1
        rw [r.len] at hl
        rw [r.at_ j a _ hj (List.getElem?_eq_getElem hl)] at np
        cases np
      -- for tie in ties
      refine ⟨_, rfl, tp, rfl, ⟨_, SqL.of (e2 _ _ htp)⟩, ?_⟩
      refine for_list (K := K) (a := tp) (xs := txs) (fun i σ H' => ∃ v, σ = [some (.int n), some (.ref tp), some (.ref p), v, none, none] ∧ Ex H H' ∧ H' p = some (.lst (as.map V.ref)) ∧ Rows H' as (nearM n (ts.take i)))
        ⟨none, rfl, e2, upd_same, ?_⟩ (fun i σ H' _ ⟨v, _, e3, _⟩ => SqL.of (e3 _ _ htp)) ?_ ?_
      · have r2 := r.mono (G := upd G p (.lst (as.map V.ref))) fun a ha o ho => by
          rw [upd_ne (ne_of_none ho np)]; exact ho
        simpa [nearM] using r2
      · rintro i x σ H' hi ⟨v, rfl, e3, hp, r3⟩
        obtain ⟨t, ht, hx⟩ := item' htx hi
        obtain ⟨q, rfl, hq⟩ := tie_at hx
        obtain ⟨t0, t1, t2⟩ := ok t (List.mem_of_getElem? ht)
        have hq' := e3 _ _ hq
        have l1 : t.1.toNat < as.length := by rw [r.len, List.length_replicate]; omega
        have l2 : t.2.1.toNat < as.length := by rw [r.len, List.length_replicate]; omega
        have m1 : t.1.toNat < (nearM n (ts.take i)).length := by rw [nearM_len]; omega
        have m2 : t.2.1.toNat < (nearM n (ts.take i)).length := by rw [nearM_len]; omega
        have h1 := r3.at_ _ _ _ (List.getElem?_eq_getElem l1) (List.getElem?_eq_getElem m1)
        have b1 := nearM_sum n (ts.take i) _ _ (List.getElem?_eq_getElem m1)
        have btk : (ts.take i).length ≤ 1000 := by rw [List.length_take]; omega
        have r4 := r3.add (j := t.2.1) (List.getElem?_eq_getElem l1) (List.getElem?_eq_getElem m1)
        have a1 := List.getElem_mem l1
        have a2 := List.getElem_mem l2
        have e4 : Ex H (upd H' as[t.1.toNat] (.lst ((nearM n (ts.take i))[t.1.toNat].map V.int ++ [V.int t.2.1]))) := Evl.Ex.mut e3 (fr _ a1)
        have hp4 : (upd H' as[t.1.toNat] (.lst ((nearM n (ts.take i))[t.1.toNat].map V.int ++ [V.int t.2.1]))) p = some (.lst (as.map V.ref)) := by rw [upd_ne (pn _ a1).symm]; exact hp
        have m3 : t.2.1.toNat < ((nearM n (ts.take i)).modify t.1.toNat (· ++ [t.2.1])).length := by rw [List.length_modify]; exact m2
        have h2 := r4.at_ _ _ _ (List.getElem?_eq_getElem l2) (List.getElem?_eq_getElem m3)
        have r5 := r4.add (j := t.1) (List.getElem?_eq_getElem l2) (List.getElem?_eq_getElem m3)
        have b2 : ((nearM n (ts.take i)).modify t.1.toNat (· ++ [t.2.1]))[t.2.1.toNat].length ≤ 2001 := by
          have z : ((nearM n (ts.take i)).modify t.1.toNat (· ++ [t.2.1]))[t.2.1.toNat]? = some ((nearM n (ts.take i)).modify t.1.toNat (· ++ [t.2.1]))[t.2.1.toNat] := List.getElem?_eq_getElem m3
          rw [List.getElem?_modify] at z
          obtain ⟨r0, z0, z1⟩ := Option.map_eq_some_iff.mp z
          have := nearM_sum n (ts.take i) _ _ z0
          rw [← z1]
          split <;> simp <;> omega
        have big : (3000 : Nat) < sizeLine := by decide
        have ix : ∀ {z : Int}, 0 ≤ z → (h : z.toNat < as.length) → atI (as.map V.ref) z = some (.ref as[z.toNat]) := fun h0 h => atI_of h0 (by rw [List.getElem?_map, List.getElem?_eq_getElem h]; rfl)
        -- near[tie[0]].append(tie[1])
        refine ⟨_, rfl, _, rfl, q, _, 0, _, rfl, rfl, SqT.of hq', rfl, p, _, _, _, rfl, rfl, SqL.of hp, ix t0 l1, .inl ⟨rfl, _, SqL.of h1⟩, _, rfl, q, _, 1, _, rfl, rfl, SqT.of hq', rfl,
          _, _, _, rfl, rfl, h1, by rw [List.length_map]; omega, ?_⟩
        -- near[tie[1]].append(tie[0])
        refine ⟨_, rfl, _, rfl, q, _, 1, _, rfl, rfl, SqT.of (e4 _ _ hq), rfl, p, _, _, _, rfl, rfl, SqL.of hp4, ix (by omega) l2, .inl ⟨rfl, _, SqL.of h2⟩, _, rfl, q, _, 0, _, rfl, rfl, SqT.of (e4 _ _ hq), rfl,
          _, _, _, rfl, rfl, h2, by rw [List.length_map]; omega, ?_⟩
        refine ⟨_, rfl, Evl.Ex.mut e4 (fr _ a2), by rw [upd_ne (pn _ a2).symm]; exact hp4, ?_⟩
        rw [List.take_succ, ht]
        show Rows _ as (nearM n (ts.take i ++ [t]))
        rw [nearM_snoc]
        exact r5
      · rintro σ H' ⟨v, rfl, e3, hp, r3⟩
        have lts : txs.length = ts.length := by rw [htx.length, List.length_map]
        rw [lts, List.take_length] at r3
        have nok := nearM_ok n ts ok
        -- [sorted(others) for others in near]
        dsimp only
        refine go_ret ?_
        refine lcN H' (fun i acc G => ∃ N' : List (List Int), Dts G (N'.map eInts) acc ∧ N'.length = i ∧ ∀ (j : Nat) (row row' : List Int), N'[j]? = some row' → (nearM n ts)[j]? = some row → row'.Perm row)
          (fun R q => ⟨_, rfl, p, rfl, ⟨_, SqL.of hp⟩, q⟩) hp (by rw [List.length_map, r.len, List.length_replicate]; omega) ⟨[], rfl, rfl, fun j row row' h => by simp at h⟩ ?_ (fun _ => rfl) ?_ ?_
        · rintro i acc G ⟨N', hd, hl, _⟩
          rw [hd.length, List.length_map, hl]; exact Nat.le_refl _
        · rintro i x acc G hi e4 ⟨N', hd, hl, hN⟩
          rw [List.getElem?_map] at hi
          obtain ⟨a, ha, rfl⟩ := Option.map_eq_some_iff.mp hi
          have li : i < (nearM n ts).length := by
            have := (List.getElem?_eq_some_iff.mp ha).1
            rw [r3.len] at this; exact this
          have hrow := e4 _ _ (r3.at_ i a _ ha (List.getElem?_eq_getElem li))
          refine ⟨_, rfl, a, _, rfl, SqL.of hrow, fun ns' q hperm _ hq => ⟨Ex.new hq, N' ++ [ns'], ?_, by simp [hl], ?_⟩⟩
          · rw [List.map_append]
            exact Dts.snoc (ints_mk upd_same) (hd.mono (Ex.new hq))
          · intro j row row' h1 h2
            rw [List.getElem?_append] at h1
            split at h1
            · exact hN j row row' h1 h2
            · rw [List.getElem?_singleton] at h1
              split at h1
              · have ej : j = i := by omega
                subst ej
                cases h1
                rw [List.getElem?_eq_getElem li] at h2
                cases h2
                exact hperm
              · cases h1
        · rintro acc G q e4 nq ⟨N', hd, hl, hN⟩
          rw [List.length_map, r3.len, nearM_len] at hl
          refine k N' _ _ ((e3.trans e4).trans (Ex.new nq)) ⟨hl, fun j row hj x => ?_⟩ ⟨q, acc, rfl, upd_same, hd.mono (Ex.new nq)⟩
          have lj : j < (nearM n ts).length := by
            have := (List.getElem?_eq_some_iff.mp hj).1
            rw [nearM_len]; omega
          rw [(hN j _ row hj (List.getElem?_eq_getElem lj)).mem_iff]
          exact nok.2 j _ (List.getElem?_eq_getElem lj) x
theorem d_piece_of {f : Addr} {fd : FuncData} (F : Fun K "piece_of" "piece_of" spiece_of f fd) (hm : mg "piece_of" = some (.ref f)) (T : Txt mg) : Df P w K mg base 1 "piece_of" ["near", "start"] p_piece_of := by
  refine Df.body F hm bipiece_of scpiece_of (fun vs H Q h => ?_) (fun cdv A outer s H vs Q hr h => ?_)
  · obtain ⟨v, N, s, rfl, _⟩ := h; rfl
  · obtain ⟨v, N, z, rfl, hl, ok, z0, z1, ⟨np, nxs, rfl, hnp, hnx⟩, k⟩ := h
    have ln : nxs.length = N.length := by rw [hnx.length, List.length_map]
    have big : (3000 : Nat) < sizeLine := by decide
    refine ⟨_, (pss_cons (ps_par3 (i := 2) (j := 3) (l := 4) rfl scpiece_of.nd rfl rfl rfl (by decide) (by decide) (by decide) rfl rfl rfl (pa_cons (pe_lst pa_nil) (pa_cons (pe_lst (pa_cons (pv 1) pa_nil)) (pa_cons (pe_op op_rep (pe_lst (pa_cons pe_bl pa_nil)) (pe_callB (lenS K) (by rfl) T.n_len bt_len (pa_cons (pv 0) pa_nil))) pa_nil))) (by rfl))
 (pss_cons (ps_asg pe_bl (pg_sub (pv 4) (pv 1) set_list))
 (pss_cons (ps_while PassesOwn.never (pt_cmpR (opNeD K hr.u64) (pv 3) (pe_lst pa_nil) (nomark _)) (pss_cons (ps_set (i := 5) scpiece_of.nd rfl (Or.inl rfl) (pe_bm0 PySem.F.plainAttrs_list PySem.F.slot_list_pop PySem.F.type_list_pop mt_pop (pv 3)))
 (pss_cons (ps_expr (pe_bm PySem.F.plainAttrs_list PySem.F.slot_list_append PySem.F.type_list_append mt_append (pv 2) (pa_cons (pv 5) pa_nil)))
 (pss_one (ps_for PassesOwn.never rfl (piL K (pe_ix (ixL K) (pv 0) (pv 5) (fun _ _ => rfl))) (pg_name (i := 6) scpiece_of.nd rfl (Or.inl rfl)) (pss_one (ps_if (pt_not (pt_val (pe_ix (ixL K) (pv 4) (pv 6) (fun _ _ => rfl)))) (pss_cons (ps_asg pe_bl (pg_sub (pv 4) (pv 6) set_list))
 (pss_one (ps_expr (pe_bm PySem.F.plainAttrs_list PySem.F.slot_list_append PySem.F.type_list_append mt_append (pv 3) (pa_cons (pv 6) pa_nil))))) pss_nil)))))))
 (pss_one (ps_ret (pe_callB (crSI K) (by rfl) T.n_sorted bt_sorted (pa_cons (pv 2) pa_nil))))))), ?_⟩
    -- found, left, seen
    refine ⟨Nat.zero_le _, fun fp hf => ⟨_, rfl, sz1, fun lp hlp => ⟨sz1, fun bp hb => ?_⟩⟩⟩
    refine ⟨_, rfl, np, nxs, rfl, .inl (SqL.of (((Ex.new hf).trans ((Ex.new hlp).trans (Ex.new hb))) _ _ hnp)), bp, _, _, rfl, rfl, upd_same, by omega, by omega, ?_, fun sp hs => ?_⟩
    · rw [ln]; simp; omega
    have q0 : PSt H (upd (upd (upd (upd H fp (.lst [])) lp (.lst [V.int z])) bp (.lst [V.bl false])) sp (.lst (List.replicate (nxs.length : Int).toNat [V.bl false]).flatten)) fp lp sp [] [z] (List.replicate N.length false) := by
      have e1 := Ex.new (o := .lst []) hf
      have e2 := e1.trans (Ex.new (o := .lst [V.int z]) hlp)
      have e3 := e2.trans (Ex.new (o := .lst [V.bl false]) hb)
      have n1 : fp ≠ lp := new_ne upd_same hlp
      have n2 : fp ≠ bp := new_ne (o := .lst []) (by rw [upd_ne n1]; exact upd_same) hb
      have n3 : lp ≠ bp := new_ne upd_same hb
      have n4 : fp ≠ sp := new_ne (o := .lst []) (by rw [upd_ne n2, upd_ne n1]; exact upd_same) hs
      have n5 : lp ≠ sp := new_ne (o := .lst [V.int z]) (by rw [upd_ne n3]; exact upd_same) hs
      refine ⟨e3.trans (Ex.new hs), hf, Evl.fresh_back e1 hlp, Evl.fresh_back e3 hs, n1, n4, n5, by rw [upd_ne n4, upd_ne n2, upd_ne n1]; exact upd_same, by rw [upd_ne n5, upd_ne n3]; exact upd_same, ?_⟩
      rw [upd_same, List.flatten_replicate_singleton, ln, List.map_replicate]; rfl
    generalize upd (upd (upd (upd H fp (.lst [])) lp (.lst [V.int z])) bp (.lst [V.bl false])) sp (.lst (List.replicate (nxs.length : Int).toNat [V.bl false]).flatten) = H4 at q0
    refine ⟨_, _, _, rfl, ?_⟩
    -- seen[start] = True
    refine ⟨_, rfl, _, rfl, sp, _, _, _, rfl, rfl, q0.hs, ixN_of z0 (by simp; exact z1), ?_⟩
    have q1 : PSt H (upd H4 sp (.lst (((List.replicate N.length false).map V.bl).set z.toNat (V.bl true)))) fp lp sp [] [z] ((List.replicate N.length false).set z.toNat true) := by
      have q := q0.setS (S' := (List.replicate N.length false).set z.toNat true)
      rwa [List.map_set] at q
    generalize upd H4 sp (.lst (((List.replicate N.length false).map V.bl).set z.toNat (V.bl true))) = H5 at q1
    clear q0
    -- while left != []
    refine ⟨fun m σ H' => ∃ u v F L S, σ = [some (.ref np), some (.int z), some (.ref fp), some (.ref lp), some (.ref sp), u, v] ∧ PSt H H' fp lp sp F L S ∧ Dfs N z F L S ∧ m = L.length + cf S ∧ F.length + (L.length + cf S) ≤ N.length + 1,
      ⟨_, none, none, _, _, _, rfl, q1, dfs_start z0 z1, rfl, ?_⟩, ?_⟩
    · have := List.count_le_length (a := false) (l := (List.replicate N.length false).set z.toNat true)
      simp [cf] at this ⊢
      omega
    rintro m σ H' ⟨u, v, F, L, S, rfl, q, hd, rfl, hbd⟩
    have lfL : Lf (eInts L) := ints_lf fun n hn => by have := hd.fin n (.inr hn); omega
    have lenS := hd.len
    refine ⟨_, rfl, Nat.zero_le _, fun tp htp => ?_⟩
    have q2 := q.grow (Ex.new (o := .lst []) htp)
    refine ⟨eInts L, .list [], Dt.dp (ints_mk q2.hl), Dt.dp ⟨_, _, rfl, upd_same, rfl⟩, shaped_of lfL (ints_dep L), shaped_of nil_lf nil_dep, _, rfl, ?_⟩
    generalize upd H' tp (.lst []) = H6 at q2
    rw [show eInts L = .list (L.map .int) from rfl, eqv_nil]
    rcases List.eq_nil_or_concat L with rfl | ⟨L0, part, rfl⟩
    · -- return sorted(found)
      refine iteF ?_
      dsimp only
      refine ⟨_, rfl, fp, F, rfl, SqL.of q2.hf, fun ms p hp _ np' => ?_⟩
      exact k ms _ _ (q2.ex.trans (Ex.new np')) (fun j => hp.mem_iff.trans (dfs_end ok hd j)) (ints_mk upd_same)
    · have ne : (!(List.map PyData.int (L0 ++ [part])).isEmpty) = true := by simp
      rw [List.concat_eq_append] at *
      rw [ne]
      refine iteT ?_
      have pp := hd.fin part (.inr (by simp))
      have lp_ : part.toNat < N.length := by omega
      have hrow : N[part.toNat]? = some N[part.toNat] := List.getElem?_eq_getElem lp_
      generalize N[part.toNat] = row at hrow
      have step := dfs_step ok hd hrow
      have rowok : ∀ j ∈ row, 0 ≤ j ∧ j < (N.length : Int) := ok row (List.mem_of_getElem? hrow)
      obtain ⟨xr, hxr, hdr⟩ := item hnx hrow
      obtain ⟨rp, rfl, hrp⟩ := ints_at hdr
      refine ⟨fun σ' H' => ∃ u v, σ' = [some (.ref np), some (.int z), some (.ref fp), some (.ref lp), some (.ref sp), u, v] ∧ PSt H H' fp lp sp (F ++ [part]) (row.foldl push (S, L0)).2 (row.foldl push (S, L0)).1,
        fun σ' H' ⟨u, v, e, q⟩ => ⟨_, step.2, u, v, _, _, _, e, q, step.1, rfl, by have := step.2; simp only [List.length_append, List.length_singleton] at hbd this ⊢; omega⟩, ?_⟩
      -- part = left.pop()
      refine ⟨_, rfl, .inl ⟨rfl, _, SqL.of q2.hl⟩, lp, _, V.int part, rfl, rfl, q2.hl, by simp, ?_⟩
      have q3 : PSt H (upd H6 lp (.lst ((L0 ++ [part]).map V.int).dropLast)) fp lp sp F L0 S := by
        have q := q2.setL (L' := L0)
        simpa using q
      generalize upd H6 lp (.lst ((L0 ++ [part]).map V.int).dropLast) = H7 at q3
      -- found.append(part)
      have bF : F.length ≤ 1001 := by omega
      refine ⟨_, rfl, .inl ⟨rfl, _, SqL.of q3.hf⟩, _, rfl, fp, _, _, rfl, rfl, q3.hf, by rw [List.length_map]; omega, ?_⟩
      have q4 : PSt H (upd H7 fp (.lst (F.map V.int ++ [V.int part]))) fp lp sp (F ++ [part]) L0 S := by
        have q := q3.setF (F' := F ++ [part])
        simpa using q
      generalize upd H7 fp (.lst (F.map V.int ++ [V.int part])) = H8 at q4
      -- for other in near[part]
      refine ⟨_, rfl, _, rfl, np, _, _, _, rfl, rfl, SqL.of (q4.ex _ _ hnp), atI_of pp.1 hxr, rp, rfl, ⟨_, SqL.of (q4.ex _ _ hrp)⟩, ?_⟩
      refine for_list (K := K) (a := rp) (xs := row.map V.int) (fun i σ' H' => ∃ v, σ' = [some (.ref np), some (.int z), some (.ref fp), some (.ref lp), some (.ref sp), some (.int part), v] ∧
          PSt H H' fp lp sp (F ++ [part]) ((row.take i).foldl push (S, L0)).2 ((row.take i).foldl push (S, L0)).1) ⟨_, rfl, q4⟩ (fun i σ' H' _ ⟨_, _, q⟩ => SqL.of (q.ex _ _ hrp)) ?_ ?_
      · rintro i x σ' H' hi ⟨v, rfl, q⟩
        rw [List.getElem?_map] at hi
        obtain ⟨o, ho, rfl⟩ := Option.map_eq_some_iff.mp hi
        have oo := rowok o (List.mem_of_getElem? ho)
        obtain ⟨p1, _, _, p4, _⟩ := pushes (N := N) (S, L0) lenS (row.take i) (fun j hj => rowok j (List.mem_of_mem_take hj))
        have e5 : (row.take (i + 1)).foldl push (S, L0) = push ((row.take i).foldl push (S, L0)) o := by
          rw [List.take_add_one, ho]; simp
        have lo : o.toNat < ((row.take i).foldl push (S, L0)).1.length := by rw [p1]; omega
        have bL : ((row.take i).foldl push (S, L0)).2.length ≤ 1001 := by
          simp only [List.length_append, List.length_singleton] at hbd p4
          omega
        generalize (row.take i).foldl push (S, L0) = q9 at q e5 lo bL
        obtain ⟨S9, L9⟩ := q9
        simp only at q lo bL
        -- if not seen[other]
        refine ⟨_, rfl, _, rfl, sp, _, _, _, rfl, rfl, SqL.of q.hs, bools_get oo.1 lo, _, rfl, ?_⟩
        cases hb : S9[o.toNat] with
        | true =>
          have e6 : push (S9, L9) o = (S9, L9) := by unfold push; rw [if_pos (by simp [List.getElem?_eq_getElem lo, hb])]
          refine iteF ⟨_, rfl, ?_⟩
          rw [e5, e6]; exact q
        | false =>
          have e6 : push (S9, L9) o = (S9.set o.toNat true, L9 ++ [o]) := by unfold push; rw [if_neg (by simp [List.getElem?_eq_getElem lo, hb])]
          refine iteT ?_
          refine ⟨_, rfl, _, rfl, sp, _, _, _, rfl, rfl, q.hs, ixN_of oo.1 (by rw [List.length_map]; omega), ?_⟩
          have q10 : PSt H (upd H' sp (.lst ((S9.map V.bl).set o.toNat (V.bl true)))) fp lp sp (F ++ [part]) L9 (S9.set o.toNat true) := by
            have z := q.setS (S' := S9.set o.toNat true)
            rwa [List.map_set] at z
          refine ⟨_, rfl, .inl ⟨rfl, _, SqL.of q10.hl⟩, _, rfl, lp, _, _, rfl, rfl, q10.hl, by rw [List.length_map]; omega, ?_⟩
          refine ⟨_, rfl, ?_⟩
          rw [e5, e6]
          have z := q10.setL (L' := L9 ++ [o])
          simpa using z
      · rintro σ' H' ⟨v, rfl, q⟩
        rw [List.length_map, List.take_length] at q
        exact ⟨_, _, rfl, q⟩
theorem d_l_pot {f : Addr} {fd : FuncData} (F : Fun K "_law_pot" "_law_pot" sl_pot f fd) (hm : mg "_law_pot" = some (.ref f)) (T : Txt mg) : Df P w K mg base 1 "_law_pot" ["_law_script", "_law_k"] (p_pot K) := by
  refine Df.body F hm bil_pot scl_pot (fun vs H Q h => ?_) (fun cdv A outer s H vs Q hr h => ?_)
  · obtain ⟨a, ns, k, rfl, _⟩ := h; rfl
  · obtain ⟨a, ns, kk, rfl, ha, hk, k⟩ := h
    refine ⟨_, (pss_cons (ps_set (i := 2) scl_pot.nd rfl (Or.inl rfl) (pe_m (pe_ifExp (pt_cmpR op_lt (pv 1) (pe_callB (lenS K) (by rfl) T.n_len bt_len (pa_cons (pv 0) pa_nil)) (nomark _)) (pe_callB call_abs (by rfl) T.n_abs bt_abs (pa_cons (pe_ix (ixL K) (pv 0) (pv 1) (fun _ _ => rfl)) pa_nil)) (pe_op op_add (pe_op op_mul pe_int (pv 1)) pe_int))))
 (pss_one (ps_ret (pe_seal (pe_lst (pa_cons (pe_callB (call_max2 rfl) (by rfl) T.n_max bt_max (pa_cons pe_int (pa_cons (pe_op op_sub (pv 2) (pe_op op_pow pe_int pe_int)) pa_nil))) (pa_cons (pe_op op_add (pe_op op_mod (pe_callTy call_int1 (by rfl) T.n_int bt_int (pa_cons (pe_op op_add (pe_op op_add (pe_op op_mul (pe_op op_mod (pe_callTy call_int1 (by rfl) T.n_int bt_int (pa_cons (pv 2) pa_nil)) pe_int) pe_int) (pe_op op_mul pe_int (pv 1))) pe_int) pa_nil)) pe_int) pe_int) pa_nil))))))), ?_⟩
    have fin0 : ∀ m : Int, 0 ≤ m % 2147483563 + 1 := fun m => by
      have := Int.emod_nonneg m (show (2147483563 : Int) ≠ 0 by decide)
      omega
    have fin1 : ∀ m : Int, m % 2147483563 + 1 < potM := fun m => by
      have := Int.emod_lt_of_pos m (show (0 : Int) < 2147483563 by decide)
      show m % 2147483563 + 1 < 2147483587
      omega
    -- the cell
    refine ⟨fun v H' => (∃ c : Int, v = .int c) ∧ H' = H, ?_, ?_⟩
    · refine ⟨_, rfl, _, rfl, a, _, rfl, .inl ha, _, _, rfl, rfl, _, rfl, ?_⟩
      by_cases hc : (kk : Int) < (ns.map V.int).length
      · rw [decide_eq_true hc]
        have hl : kk < ns.length := by rw [List.length_map] at hc; omega
        exact iteT ⟨_, rfl, _, rfl, a, _, kk, _, rfl, rfl, ha, atI_nat (v := .int ns[kk]) (by rw [List.getElem?_map, List.getElem?_eq_getElem hl]; rfl), _, rfl, ⟨_, rfl⟩, rfl⟩
      · rw [decide_eq_false hc]
        exact iteF ⟨_, rfl, _, _, rfl, rfl, .inl ⟨by omega, by omega⟩, _, _, rfl, rfl, ⟨_, rfl⟩, rfl⟩
    rintro v _ ⟨⟨cell, rfl⟩, rfl⟩
    rename_i H
    refine ⟨_, rfl, _, _, rfl, rfl, ⟨by omega, by omega, by decide⟩, _, _, rfl, rfl, _, _, rfl, ?_⟩
    refine ⟨_, rfl, .inl ⟨_, rfl, _, _, rfl, rfl, by omega, _, _, rfl, rfl, .inr ⟨by omega, by omega⟩, _, rfl, _, _, rfl, rfl, .inl ⟨by omega, by omega⟩, _, _, rfl, rfl, _, _, rfl, rfl, .inl ⟨_, rfl, _, _, rfl, rfl, by omega, _, _, rfl, rfl, sz2, fun p hp => ?_⟩⟩⟩
    refine ⟨p, _, _, rfl, upd_same, fin0 _, fin1 _, k p _ (Evl.Ex.mut (Ex.new hp) hp) upd_same⟩
theorem d_l_draw {f : Addr} {fd : FuncData} (F : Fun K "_law_draw" "_law_draw" sl_draw f fd) (hm : mg "_law_draw" = some (.ref f)) (T : Txt mg) : Df P w K mg base 1 "_law_draw" ["_law_pot_here", "_law_many"] p_draw := by
  refine Df.body F hm bil_draw scl_draw (fun vs H Q h => ?_) (fun cdv A outer s H vs Q hr h => ?_)
  · obtain ⟨p, n, rfl, _⟩ := h; rfl
  · obtain ⟨p, n, rfl, hp, n0, n1, k⟩ := h
    refine ⟨_, (pss_open (pss_cons (ps_if (pt_cmpR op_gt (pe_ix (ixL K) (pv 0) pe_int (fun _ _ => rfl)) pe_int (nomark _)) (pss_cons (ps_asg (pe_callB call_divmod (by rfl) T.n_divmod bt_divmod (pa_cons (pe_ix (ixL K) (pv 0) pe_int (fun _ _ => rfl)) (pa_cons (pv 1) pa_nil))) (pgT K 2 (pgs_cons (pg_sub (pv 0) pe_int set_list) (pgs_cons (pg_name (i := 2) scl_draw.nd rfl (Or.inl rfl)) pgs_nil))))
 (pss_one (ps_ret (pv 2)))) pss_nil)
 (pss_cons (ps_asg (pe_op op_mod (pe_callTy call_int1 (by rfl) T.n_int bt_int (pa_cons (pe_op op_add (pe_op op_mul (pe_ix (ixL K) (pv 0) pe_int (fun _ _ => rfl)) pe_int) pe_int) pa_nil)) pe_int) (pg_sub (pv 0) pe_int set_list))
 (pss_one (ps_ret (pe_op op_mod (pe_callTy call_int1 (by rfl) T.n_int bt_int (pa_cons (pe_op op_fdiv (pe_op op_mod (pe_callTy call_int1 (by rfl) T.n_int bt_int (pa_cons (pe_op op_mul (pe_ix (ixL K) (pv 0) pe_int (fun _ _ => rfl)) (pe_ix (ixL K) (pv 0) pe_int (fun _ _ => rfl))) pa_nil)) pe_int) pe_int) pa_nil)) (pv 1))))))), ?_⟩
    refine ⟨p, hp, fun x y y0 y1 => ?_⟩
    have c1 : 1 < sizeLine := by decide
    refine ⟨_, rfl, p, _, 0, _, rfl, rfl, SqL.of upd_same, rfl, _, _, rfl, rfl, _, rfl, ?_⟩
    by_cases hx : x > 0
    · rw [decide_eq_true hx]
      refine iteT ?_
      refine ⟨_, rfl, p, _, 0, _, rfl, rfl, SqL.of upd_same, rfl, _, rfl, x, n, rfl, ⟨n0, by omega⟩, fun q hq => ?_⟩
      have npq : p ≠ q := new_ne upd_same hq
      refine ⟨q, _, rfl, SqT.of upd_same, rfl, _, _, rfl, ?_⟩
      refine ⟨_, rfl, p, _, 0, 0, rfl, rfl, by rw [upd_ne npq]; exact upd_same, rfl, _, _, rfl, rfl, ?_⟩
      refine ⟨_, rfl, x / n, y, upd_same, y0, y1, k _ (Int.emod_nonneg _ (by omega)) (Int.emod_lt_of_pos _ n0) _ (pot_ex hp fun b o hb e => ?_)⟩
      have e1 : upd H p (.lst [.int x, .int y]) b = some o := by rw [upd_ne hb]; exact e
      rw [upd_ne hb, upd_ne (new_ne e1 hq), upd_ne hb]; exact e
    · rw [decide_eq_false hx]
      refine iteF ?_
      refine ⟨_, rfl, p, _, 1, _, rfl, rfl, SqL.of upd_same, rfl, _, _, rfl, rfl, .inr ⟨by omega, by omega⟩, _, _, rfl, rfl, .inl ⟨_, rfl, _, _, rfl, rfl, by omega, ?_⟩⟩
      have m0 : 0 ≤ ((y * 39373 + 8167) % 2147483587) := Int.emod_nonneg _ (by decide)
      have m1 : ((y * 39373 + 8167) % 2147483587) < potM := Int.emod_lt_of_pos _ (by decide)
      have m2 : ((y * 39373 + 8167) % 2147483587) < 2147483587 := m1
      refine ⟨_, rfl, p, _, 1, 1, rfl, rfl, upd_same, rfl, ?_⟩
      refine ⟨_, rfl, p, [.int x, .int ((y * 39373 + 8167) % 2147483587)], 1, _, rfl, rfl, SqL.of upd_same, rfl, _, rfl, p, [.int x, .int ((y * 39373 + 8167) % 2147483587)], 1, _, rfl, rfl, SqL.of upd_same, rfl, _, _, rfl, rfl, .inl ⟨by omega, by omega⟩, .inl ⟨_, rfl, _, _, rfl, rfl, by omega, _, _, rfl, rfl, ⟨by omega, by omega⟩, .inl ⟨_, rfl, _, rfl, _, _, rfl, rfl, n0, ?_⟩⟩⟩
      refine ⟨x, ((y * 39373 + 8167) % 2147483587), upd_same, m0, m1, k _ (Int.emod_nonneg _ (by omega)) (Int.emod_lt_of_pos _ n0) _ (pot_ex hp fun b o hb e => ?_)⟩
      rw [upd_ne hb, upd_ne hb]; exact e
theorem d_l_pick {f : Addr} {fd : FuncData} (F : Fun K "_law_pick" "_law_pick" sl_pick f fd) (hm : mg "_law_pick" = some (.ref f)) (T : Txt mg) (d_l_draw : Df P w K mg base 1 "_law_draw" ["_law_pot_here", "_law_many"] p_draw) : Df P w K mg base 2 "_law_pick" ["_law_pot_here", "_law_some"] p_pick := by
  refine Df.body F hm bil_pick scl_pick (fun vs H Q h => ?_) (fun cdv A outer s H vs Q hr h => ?_)
  · obtain ⟨p, a, xs, rfl, _⟩ := h; rfl
  · obtain ⟨p, a, xs, rfl, hp, ha, n0, n1, k⟩ := h
    refine ⟨_, (pss_one (ps_ret (pe_ix (ixL K) (pv 1) (pe_c3 d_l_draw (hr.less (by decide)) rfl (pa_cons (pv 0) (pa_cons (pe_callB (lenS K) (by rfl) T.n_len bt_len (pa_cons (pv 1) pa_nil)) pa_nil))) (fun _ _ => rfl)))), ?_⟩
    refine ⟨_, rfl, _, rfl, _, rfl, a, xs, rfl, .inl (SqL.of ha), p, _, rfl, hp, by omega, by omega, fun d d0 d1 H' e => ?_⟩
    have hd : d.toNat < xs.length := by omega
    exact ⟨a, xs, d, _, rfl, rfl, SqL.of (e _ _ ha), atI_of d0 (List.getElem?_eq_getElem hd), k d.toNat _ (List.getElem?_eq_getElem hd) H' e⟩
end
end W3

end
section
set_option Elab.async false
set_option linter.all false
set_option maxRecDepth 100000
set_option maxHeartbeats 4000000
namespace W3
open PySem PySem.Spec PyProof.Rows L2
open Evl (Ex)
/-! ### comprehensions over pairs -/
section
variable {K : PySem.W.Frag} {σ : L2.St} {H H1 : Hp} {vs : List Nat} {Q : VK} {te : TE} {tt : TT} {wi : TI} {D : Addr}
def g2 (K : PySem.W.Frag) (i j : Nat) : TG := gTup K 2 (gCons (gName i) (gCons (gName j) gNil))
theorem lc_p {a : Addr} {xs : List V} {j1 j2 : Nat} (P : Nat → List V → Hp → Prop) (hx : H1 a = some (.lst xs)) (hz : xs.length ≤ 100000) (h0 : P 0 [] H1) (hlen : ∀ i acc G, P i acc G → acc.length ≤ i)
    (hw : ∀ x y, wipe (((wipe σ vs).set j1 (some x)).set j2 (some y)) vs = wipe σ vs)
    (step : ∀ i x acc G, xs[i]? = some x → Ex H1 G → P i acc G → ∃ p u v, x = .ref p ∧ SqT K G p [u, v] ∧ tt (((wipe σ vs).set j1 (some u)).set j2 (some v)) G fun b G3 => Ex G G3 ∧
      (b = true → te (((wipe σ vs).set j1 (some u)).set j2 (some v)) G3 fun y G4 => Ex G3 G4 ∧ P (i + 1) (acc ++ [y]) G4) ∧ (b = false → P (i + 1) acc G3))
    (done : ∀ acc G p, Ex H1 G → G p = none → P xs.length acc G → Q (.ref p) (upd G p (.lst acc))) (hD : H1 D = none) :
    ∃ W : Nat → Nat → Hp → Prop, (∃ m, W 0 m (upd H1 D (.lst []))) ∧ ∀ i m H, W i m H →
      ((Itl K a).stop i H ∧ Q (.ref D) H) ∨ ((Itl K a).go i H ∧ ∃ Nx : Hp → Prop, (∀ H', Nx H' → ∃ m', m' < m ∧ W (i + 1) m' H') ∧ ∀ x H', (Itl K a).yld i H x H' → g2 K j1 j2 x (wipe σ vs) H' fun σ2 H2 => wipe σ2 vs = wipe σ vs ∧ tFrT tt σ2 H2 fun b H3 =>
        if b = true then tFr te σ2 H3 fun y H4 => ∃ acc, H4 D = some (.lst acc) ∧ acc.length < sizeLine ∧ Nx (upd H4 D (.lst (acc ++ [y]))) else Nx H3) := by
  refine lc_list (xs := xs) (fun i => At H1 D (P i)) (At.start hD h0) (fun i H _ ⟨acc, G, eH, n, e, _, _⟩ => ?_) (fun i x H hi ⟨acc, G, eH, n, e, l, p⟩ => ?_) fun H ⟨acc, G, eH, n, e, _, p⟩ => ?_
  · subst eH; exact SqL.of (ex_upd n _ _ (e _ _ hx))
  · subst eH
    obtain ⟨q, u, v, rfl, ht, h⟩ := step i x acc G hi e p
    refine ⟨q, _, rfl, Evl.ex_t (ex_upd n) ht, rfl, u, _, rfl, v, _, rfl, rfl, hw u v, tt_fr n e ?_ h⟩
    have h1 := hlen i acc G p
    have h2 := (List.getElem?_eq_some_iff.mp hi).1
    have h3 : (100002 : Nat) < sizeLine := by decide
    omega
  · subst eH; exact done acc G D e n p
theorem lc_pn {a : Addr} {xs : List V} {j1 j2 : Nat} (P : Nat → List V → Hp → Prop) (hx : H1 a = some (.lst xs)) (hz : xs.length ≤ 100000) (h0 : P 0 [] H1) (hlen : ∀ i acc G, P i acc G → acc.length ≤ i)
    (hw : ∀ x y, wipe (((wipe σ vs).set j1 (some x)).set j2 (some y)) vs = wipe σ vs)
    (step : ∀ i x acc G, xs[i]? = some x → Ex H1 G → P i acc G → ∃ p u v, x = .ref p ∧ SqT K G p [u, v] ∧ te (((wipe σ vs).set j1 (some u)).set j2 (some v)) G fun y G4 => Ex G G4 ∧ P (i + 1) (acc ++ [y]) G4)
    (done : ∀ acc G p, Ex H1 G → G p = none → P xs.length acc G → Q (.ref p) (upd G p (.lst acc))) (hD : H1 D = none) :
    ∃ W : Nat → Nat → Hp → Prop, (∃ m, W 0 m (upd H1 D (.lst []))) ∧ ∀ i m H, W i m H →
      ((Itl K a).stop i H ∧ Q (.ref D) H) ∨ ((Itl K a).go i H ∧ ∃ Nx : Hp → Prop, (∀ H', Nx H' → ∃ m', m' < m ∧ W (i + 1) m' H') ∧ ∀ x H', (Itl K a).yld i H x H' → g2 K j1 j2 x (wipe σ vs) H' fun σ2 H2 => wipe σ2 vs = wipe σ vs ∧ tYes σ2 H2 fun b H3 =>
        if b = true then tFr te σ2 H3 fun y H4 => ∃ acc, H4 D = some (.lst acc) ∧ acc.length < sizeLine ∧ Nx (upd H4 D (.lst (acc ++ [y]))) else Nx H3) := by
  refine lc_list (xs := xs) (fun i => At H1 D (P i)) (At.start hD h0) (fun i H _ ⟨acc, G, eH, n, e, _, _⟩ => ?_) (fun i x H hi ⟨acc, G, eH, n, e, l, p⟩ => ?_) fun H ⟨acc, G, eH, n, e, _, p⟩ => ?_
  · subst eH; exact SqL.of (ex_upd n _ _ (e _ _ hx))
  · subst eH
    obtain ⟨q, u, v, rfl, ht, h⟩ := step i x acc G hi e p
    refine ⟨q, _, rfl, Evl.ex_t (ex_upd n) ht, rfl, u, _, rfl, v, _, rfl, rfl, hw u v, yes_of (el_fr n e ?_ h)⟩
    have h1 := hlen i acc G p
    have h2 := (List.getElem?_eq_some_iff.mp hi).1
    have h3 : (100002 : Nat) < sizeLine := by decide
    omega
  · subst eH; exact done acc G D e n p
theorem lcP (H1 : Hp) {a : Addr} {xs : List V} {j1 j2 : Nat} (P : Nat → List V → Hp → Prop) (hi : ∀ R : It → Hp → Prop, R (Itl K a) H1 → wi σ H R) (hx : H1 a = some (.lst xs)) (hz : xs.length ≤ 100000) (h0 : P 0 [] H1) (hlen : ∀ i acc G, P i acc G → acc.length ≤ i)
    (hw : ∀ x y, wipe (((wipe σ vs).set j1 (some x)).set j2 (some y)) vs = wipe σ vs)
    (step : ∀ i x acc G, xs[i]? = some x → Ex H1 G → P i acc G → ∃ p u v, x = .ref p ∧ SqT K G p [u, v] ∧ tt (((wipe σ vs).set j1 (some u)).set j2 (some v)) G fun b G3 => Ex G G3 ∧
      (b = true → te (((wipe σ vs).set j1 (some u)).set j2 (some v)) G3 fun y G4 => Ex G3 G4 ∧ P (i + 1) (acc ++ [y]) G4) ∧ (b = false → P (i + 1) acc G3))
    (done : ∀ acc G p, Ex H1 G → G p = none → P xs.length acc G → Q (.ref p) (upd G p (.lst acc))) : tLc wi (gTup K 2 (gCons (gName j1) (gCons (gName j2) gNil))) (tFrT tt) (tFr te) vs σ H Q :=
  hi _ fun _ hD => lc_p P hx hz h0 hlen hw step done hD
theorem lcPn (H1 : Hp) {a : Addr} {xs : List V} {j1 j2 : Nat} (P : Nat → List V → Hp → Prop) (hi : ∀ R : It → Hp → Prop, R (Itl K a) H1 → wi σ H R) (hx : H1 a = some (.lst xs)) (hz : xs.length ≤ 100000) (h0 : P 0 [] H1) (hlen : ∀ i acc G, P i acc G → acc.length ≤ i)
    (hw : ∀ x y, wipe (((wipe σ vs).set j1 (some x)).set j2 (some y)) vs = wipe σ vs)
    (step : ∀ i x acc G, xs[i]? = some x → Ex H1 G → P i acc G → ∃ p u v, x = .ref p ∧ SqT K G p [u, v] ∧ te (((wipe σ vs).set j1 (some u)).set j2 (some v)) G fun y G4 => Ex G G4 ∧ P (i + 1) (acc ++ [y]) G4)
    (done : ∀ acc G p, Ex H1 G → G p = none → P xs.length acc G → Q (.ref p) (upd G p (.lst acc))) : tLc wi (gTup K 2 (gCons (gName j1) (gCons (gName j2) gNil))) tYes (tFr te) vs σ H Q :=
  hi _ fun _ hD => lc_pn P hx hz h0 hlen hw step done hD
end
/-! ### rows of a table -/
theorem Rows.put {H : Hp} {as : List Addr} {N : List (List Int)} {i : Nat} {a : Addr} {row : List Int} {j : Nat} {o : Int} (h : Rows H as N) (ha : as[i]? = some a) (hr : N[i]? = some row) :
    Rows (upd H a (.lst ((row.map V.int).set j (.int o)))) as (N.modify i (·.set j o)) := by
  refine ⟨h.nd, by rw [List.length_modify]; exact h.len, fun k b r h1 h2 => ?_⟩
  rw [List.getElem?_modify] at h2
  obtain ⟨r0, e0, rfl⟩ := Option.map_eq_some_iff.mp h2
  by_cases e : i = k
  · subst e
    rw [ha] at h1; cases h1
    rw [hr] at e0; cases e0
    rw [if_pos rfl, upd_same, List.map_set]
  · rw [if_neg e, upd_ne (fun z => e ?_)]
    · exact h.at_ k b r0 h1 e0
    · subst z; exact nd_ix h.nd ha h1
theorem Rows.dts {H : Hp} : ∀ {as : List Addr} {N : List (List Int)}, Rows H as N → Dts H (N.map eInts) (as.map V.ref)
  | [], [], _ => rfl
  | [], _ :: _, h => by have := h.len; simp at this
  | _ :: _, [], h => by have := h.len; simp at this
  | a :: as, r :: N, h => by
    refine ⟨.ref a, as.map V.ref, rfl, ints_mk (h.at_ 0 a r rfl rfl), Rows.dts (as := as) (N := N) ⟨(List.nodup_cons.mp h.nd).2, by have := h.len; simpa using this, fun i b row h1 h2 => h.at_ (i + 1) b row (by simpa using h1) (by simpa using h2)⟩⟩
end W3
namespace M83
/-! ### the table of orders -/
def setT (T : List (List Int)) (a b : Nat) (o : Int) : List (List Int) := T.modify a (·.set b o)
def putT (T : List (List Int)) (t : Tie) : List (List Int) := setT (setT T t.1.toNat t.2.1.toNat t.2.2) t.2.1.toNat t.1.toNat t.2.2
def tabM (n : Nat) (ts : List Tie) : List (List Int) := ts.foldl putT (List.replicate n (List.replicate n 0))
def Sqr (n : Nat) (T : List (List Int)) : Prop := T.length = n ∧ ∀ r ∈ T, r.length = n
theorem setT_sqr {n : Nat} {T : List (List Int)} {a b : Nat} {o : Int} (h : Sqr n T) : Sqr n (setT T a b o) := by
  refine ⟨by rw [setT, List.length_modify]; exact h.1, fun r hr => ?_⟩
  obtain ⟨i, hi⟩ := List.getElem?_of_mem hr
  rw [setT, List.getElem?_modify] at hi
  obtain ⟨r0, e0, rfl⟩ := Option.map_eq_some_iff.mp hi
  have := h.2 r0 (List.mem_of_getElem? e0)
  split
  · rw [List.length_set]; exact this
  · exact this
theorem tabM_sqr (n : Nat) (ts : List Tie) : Sqr n (tabM n ts) := by
  suffices h : ∀ (ts : List Tie) (T : List (List Int)), Sqr n T → Sqr n (ts.foldl putT T) from h ts _ ⟨by simp, fun r hr => by rw [(List.mem_replicate.mp hr).2]; simp⟩
  intro ts
  induction ts with
  | nil => exact fun T h => h
  | cons t ts ih => exact fun T h => ih _ (setT_sqr (setT_sqr h))
theorem tabM_snoc (n : Nat) (ts : List Tie) (t : Tie) : tabM n (ts ++ [t]) = putT (tabM n ts) t := by unfold tabM; rw [List.foldl_append]; rfl
end M83

end
section
set_option Elab.async false
set_option linter.all false
set_option maxRecDepth 100000
set_option maxHeartbeats 4000000
namespace W3
open PySem PySem.Spec PyProof.Rows L2 M83
open Evl (Ex)
theorem Rows.snoc {G : Hp} {as : List Addr} {N : List (List Int)} {p : Addr} {row : List Int} (r : Rows G as N) (hp : G p = none) : Rows (upd G p (.lst (row.map V.int))) (as ++ [p]) (N ++ [row]) := by
  have np : ∀ a ∈ as, a ≠ p := fun a ha z => by
    subst z
    obtain ⟨j, hj⟩ := List.getElem?_of_mem ha
    have hl := (List.getElem?_eq_some_iff.mp hj).1
    rw [r.len] at hl
    rw [r.at_ j a _ hj (List.getElem?_eq_getElem hl)] at hp
    cases hp
  refine ⟨List.nodup_append.mpr ⟨r.nd, by simp, fun x hx y hy => ?_⟩, by simp [r.len], fun j a rw1 h1 h2 => ?_⟩
  · have ey : y = p := by simpa using hy
    subst ey; exact np x hx
  · rw [List.getElem?_append] at h1 h2
    by_cases hj : j < as.length
    · rw [if_pos hj] at h1
      rw [if_pos (by rw [← r.len]; exact hj)] at h2
      rw [upd_ne (np a (List.mem_of_getElem? h1))]
      exact r.at_ j a rw1 h1 h2
    · rw [if_neg hj] at h1
      rw [if_neg (by rw [← r.len]; exact hj)] at h2
      rw [List.getElem?_singleton] at h1 h2
      split at h1
      · cases h1
        have : j - N.length = 0 := by rw [← r.len]; assumption
        rw [if_pos this] at h2; cases h2
        exact upd_same
      · cases h1
theorem rep_ints (n : Nat) (z : Int) : (List.replicate n [V.int z]).flatten = (List.replicate n z).map V.int := by
  induction n with
  | zero => rfl
  | succ n ih => rw [List.replicate_succ, List.flatten_cons, ih, List.replicate_succ]; rfl
theorem flat_rep {α : Type} (n : Nat) (x : α) : ((List.replicate n [x]).flatten).length = n := by simp
/-- a place of a table, in the heap -/
theorem row_at {H : Hp} {as : List Addr} {N : List (List Int)} {n : Nat} (r : Rows H as N) (q : Sqr n N) {z : Int} (h0 : 0 ≤ z) (h1 : z < n) : ∃ a row, atI (as.map V.ref) z = some (.ref a) ∧ as[z.toNat]? = some a ∧ N[z.toNat]? = some row ∧ H a = some (.lst (row.map V.int)) ∧ row.length = n := by
  have lN : z.toNat < N.length := by rw [q.1]; omega
  have la : z.toNat < as.length := by rw [r.len]; exact lN
  refine ⟨as[z.toNat], N[z.toNat], atI_of h0 (by rw [List.getElem?_map, List.getElem?_eq_getElem la]; rfl), List.getElem?_eq_getElem la, List.getElem?_eq_getElem lN, r.at_ _ _ _ (List.getElem?_eq_getElem la) (List.getElem?_eq_getElem lN), q.2 _ (List.getElem_mem lN)⟩
def p_tab : Sp3 := fun vs H Q => ∃ (v : V) (wb : Web), vs = [v] ∧ Dt H (eWeb wb) v ∧ wb.parts.length ≤ 100 ∧ wb.ties.length ≤ 1000 ∧ TiesOk wb.parts.length wb.ties ∧ ∀ v' H', Ex H H' → Dt H' (eNear (tabM wb.parts.length wb.ties)) v' → Q v' H'
section
variable {P : Program} {w : World} {K : PySem.W.Frag} {mg : Str → Option Value} {base : Heap}
theorem d_orders_of {f : Addr} {fd : FuncData} (F : Fun K "orders_of" "orders_of" sorders_of f fd) (hm : mg "orders_of" = some (.ref f)) (T : Txt mg) : Df P w K mg base 1 "orders_of" ["web"] p_tab := by
  refine Df.body F hm biorders_of scorders_of (fun vs H Q h => ?_) (fun cdv A outer s H vs Q hr h => ?_)
  · obtain ⟨v, wb, rfl, _⟩ := h; rfl
  · obtain ⟨v, wb, rfl, dw, h1, h2, ok, k⟩ := h
    obtain ⟨wp, pa, ta, ha, sa, rfl, hwp, d1, d2, _, _⟩ := web_at dw
    obtain ⟨pxs, hpa, hpx⟩ := Dt.list_at d1
    obtain ⟨txs, hta, htx⟩ := Dt.list_at d2
    have lp : pxs.length = wb.parts.length := by rw [hpx.length, List.length_map]
    have lt : txs.length = wb.ties.length := by rw [htx.length, List.length_map]
    have big : (3000 : Nat) < sizeLine := by decide
    refine ⟨_, (pss_cons (ps_setLc (own := [("part", 5)]) (i := 1) rfl scorders_of.nd rfl rfl (sw_true rfl rfl rfl (by decide +kernel)) (piL K (pe_ix (ixT K) (pv 0) pe_int (fun _ _ => rfl))) (blkOk_by (N := Norders_of) (sc := defScope sorders_of) (by decide +kernel)) (fun _ _ _ _ _ => (pg_name (i := 5) scorders_of.nd rfl (Or.inl rfl))) (fun _ _ _ _ _ => pts_nil) (fun _ _ _ _ _ => (pe_fr (pe_op op_rep (pe_lst (pa_cons pe_int pa_nil)) (pe_callB (lenS K) (by rfl) T.n_len bt_len (pa_cons (pe_ix (ixT K) (pv 0) pe_int (fun _ _ => rfl)) pa_nil))))))
 (pss_cons (ps_for PassesOwn.never rfl (piL K (pe_ix (ixT K) (pv 0) pe_int (fun _ _ => rfl))) (pgT K 3 (pgs_cons (pg_name (i := 2) scorders_of.nd rfl (Or.inl rfl)) (pgs_cons (pg_name (i := 3) scorders_of.nd rfl (Or.inl rfl)) (pgs_cons (pg_name (i := 4) scorders_of.nd rfl (Or.inl rfl)) pgs_nil)))) (pss_cons (ps_asg (pv 4) (pg_sub (pe_ix (ixL K) (pv 1) (pv 2) (fun _ _ => rfl)) (pv 3) set_list))
 (pss_one (ps_asg (pv 4) (pg_sub (pe_ix (ixL K) (pv 1) (pv 3) (fun _ _ => rfl)) (pv 2) set_list)))))
 (pss_one (ps_ret (pv 1))))), ?_⟩
    refine go_sets (lcN H (fun i acc G => ∃ as : List Addr, acc = as.map V.ref ∧ Rows G as (List.replicate i (List.replicate wb.parts.length 0)) ∧ (∀ a ∈ as, H a = none) ∧ Ex H G) (fun R r => ⟨_, rfl, wp, _, 0, _, rfl, rfl, SqT.of hwp, rfl, pa, rfl, ⟨_, SqL.of hpa⟩, r⟩) hpa (by omega) ⟨[], rfl, ⟨List.nodup_nil, rfl, fun i a row h => by simp at h⟩, fun a h => by simp at h, Ex.refl _⟩ ?_ (fun _ => rfl) ?_ ?_)
    · rintro i acc G ⟨as, rfl, r, _⟩
      rw [List.length_map, r.len, List.length_replicate]; exact Nat.le_refl _
    · rintro i x acc G hi e ⟨as, rfl, r, fr, e1⟩
      refine ⟨sz1, fun bp hb => ⟨_, rfl, wp, _, 0, _, rfl, rfl, SqT.of ((e1.trans (Ex.new hb)) _ _ hwp), rfl, pa, pxs, rfl, .inl (SqL.of ((e1.trans (Ex.new hb)) _ _ hpa)), bp, _, _, rfl, rfl, upd_same, by omega, by omega, by simp; omega, fun p hp => ?_⟩⟩
      have g := (Ex.new (o := .lst [.int 0]) hb).trans (Ex.new (o := .lst ((List.replicate (pxs.length : Int).toNat [V.int 0]).flatten)) hp)
      refine ⟨g, as ++ [p], by simp, ?_, fun a ha => ?_, e1.trans g⟩
      · rw [List.replicate_succ']
        have r2 := (r.mono (G := upd G bp (.lst [.int 0])) fun a ha o ho => Ex.new hb _ _ ho).snoc (row := List.replicate wb.parts.length 0) hp
        have er : (List.replicate (pxs.length : Int).toNat [V.int 0]).flatten = (List.replicate wb.parts.length 0).map V.int := by rw [rep_ints, Int.toNat_natCast, lp]
        rw [er]; exact r2
      · rcases List.mem_append.mp ha with ha | ha
        · exact fr a ha
        · have ea : a = p := by simpa using ha
          subst ea
          exact Evl.fresh_back (e1.trans (Ex.new hb)) hp
    rintro acc G p e np ⟨as, rfl, r, fr, e1⟩
    have e2 := e1.trans (Ex.new (o := .lst (as.map V.ref)) np)
    have fp : H p = none := Evl.fresh_back e1 np
    have r2 := r.mono (G := upd G p (.lst (as.map V.ref))) fun a ha o ho => Ex.new np _ _ ho
    have pn : ∀ a ∈ as, a ≠ p := fun a ha z => by
      subst z
      obtain ⟨j, hj⟩ := List.getElem?_of_mem ha
      have hl := (List.getElem?_eq_some_iff.mp hj).1
      rw [r.len] at hl
      rw [r.at_ j a _ hj (List.getElem?_eq_getElem hl)] at np
      cases np
    rw [lp] at r2
    have hpp : upd G p (.lst (as.map V.ref)) p = some (.lst (as.map V.ref)) := upd_same
    generalize upd G p (.lst (as.map V.ref)) = G0 at e2 r2 hpp ⊢
    refine ⟨_, rfl, wp, _, 1, _, rfl, rfl, SqT.of (e2 _ _ hwp), rfl, ta, rfl, ⟨_, SqL.of (e2 _ _ hta)⟩, ?_⟩
    refine for_list (K := K) (a := ta) (xs := txs) (fun i σ H' => ∃ va vb vc, σ = [some (.ref wp), some (.ref p), va, vb, vc, none] ∧ Ex H H' ∧ H' p = some (.lst (as.map V.ref)) ∧ Rows H' as (tabM wb.parts.length (wb.ties.take i)))
      ⟨none, none, none, rfl, e2, hpp, r2⟩ (fun i σ H' _ ⟨_, _, _, _, e, _⟩ => SqL.of (e _ _ hta)) ?_ ?_
    · rintro i x σ H' hi ⟨va, vb, vc, rfl, e3, hp, r3⟩
      obtain ⟨t, ht, hx⟩ := item' htx hi
      obtain ⟨q, rfl, hq⟩ := tie_at hx
      obtain ⟨t0, t1, t2⟩ := ok t (List.mem_of_getElem? ht)
      have sq := tabM_sqr wb.parts.length (wb.ties.take i)
      refine ⟨q, _, rfl, SqT.of (e3 _ _ hq), rfl, _, _, rfl, _, _, rfl, _, _, rfl, rfl, ?_⟩
      obtain ⟨a1, row1, i1, ia1, in1, h1', l1⟩ := row_at r3 sq (z := t.1) (by omega) (by omega)
      have fa1 := fr _ (List.mem_of_getElem? ia1)
      obtain ⟨Hx, eHx⟩ : ∃ Hx, Hx = H' := ⟨_, rfl⟩
      subst eHx
      have r3' := r3
      have e3' := e3
      have hp' := hp
      refine ⟨_, rfl, _, rfl, _, rfl, p, _, _, _, rfl, rfl, SqL.of hp, i1, _, rfl, a1, _, t.2.1, t.2.1.toNat, rfl, rfl, h1', ixN_of (by omega) (by rw [List.length_map, l1]; omega), ?_⟩
      have r4 := r3'.put (j := t.2.1.toNat) (o := t.2.2) ia1 in1
      have sq2 : Sqr wb.parts.length (setT (tabM wb.parts.length (wb.ties.take i)) t.1.toNat t.2.1.toNat t.2.2) := setT_sqr sq
      have e4 := Evl.Ex.mut (o := .lst ((row1.map V.int).set t.2.1.toNat (.int t.2.2))) e3' fa1
      have hp4 : upd Hx a1 (.lst ((row1.map V.int).set t.2.1.toNat (.int t.2.2))) p = some (.lst (as.map V.ref)) := by rw [upd_ne (pn _ (List.mem_of_getElem? ia1)).symm]; exact hp'
      obtain ⟨a2, row2, i2, ia2, in2, h2', l2⟩ := row_at r4 sq2 (z := t.2.1) (by omega) (by omega)
      have fa2 := fr _ (List.mem_of_getElem? ia2)
      refine ⟨_, rfl, _, rfl, _, rfl, p, _, _, _, rfl, rfl, SqL.of hp4, i2, _, rfl, a2, _, t.1, t.1.toNat, rfl, rfl, h2', ixN_of (by omega) (by rw [List.length_map, l2]; omega), ?_⟩
      refine ⟨_, _, _, rfl, Evl.Ex.mut e4 fa2, by rw [upd_ne (pn _ (List.mem_of_getElem? ia2)).symm]; exact hp4, ?_⟩
      rw [List.take_add_one, ht]
      show Rows _ as (tabM wb.parts.length (wb.ties.take i ++ [t]))
      rw [tabM_snoc]
      exact r4.put (j := t.1.toNat) (o := t.2.2) ia2 in2
    · rintro σ H' ⟨va, vb, vc, rfl, e3, hp, r3⟩
      rw [lt, List.take_length] at r3
      exact ⟨_, rfl, k (.ref p) H' e3 (dt_list hp r3.dts)⟩
theorem d_l_orders {f : Addr} {fd : FuncData} (F : Fun K "_law_orders" "_law_orders" sl_orders f fd) (hm : mg "_law_orders" = some (.ref f)) (T : Txt mg) : Df P w K mg base 1 "_law_orders" ["_law_web"] p_tab := by
  refine Df.body F hm bil_orders scl_orders (fun vs H Q h => ?_) (fun cdv A outer s H vs Q hr h => ?_)
  · obtain ⟨v, wb, rfl, _⟩ := h; rfl
  · obtain ⟨v, wb, rfl, dw, h1, h2, ok, k⟩ := h
    obtain ⟨wp, pa, ta, ha, sa, rfl, hwp, d1, d2, _, _⟩ := web_at dw
    obtain ⟨pxs, hpa, hpx⟩ := Dt.list_at d1
    obtain ⟨txs, hta, htx⟩ := Dt.list_at d2
    have lp : pxs.length = wb.parts.length := by rw [hpx.length, List.length_map]
    have lt : txs.length = wb.ties.length := by rw [htx.length, List.length_map]
    have big : (3000 : Nat) < sizeLine := by decide
    refine ⟨_, (pss_cons (ps_setLc (own := [("_law_x", 5)]) (i := 1) rfl scl_orders.nd rfl rfl (sw_true rfl rfl rfl (by decide +kernel)) (piL K (pe_ix (ixT K) (pv 0) pe_int (fun _ _ => rfl))) (blkOk_by (N := Nl_orders) (sc := defScope sl_orders) (by decide +kernel)) (fun _ _ _ _ _ => (pg_name (i := 5) scl_orders.nd rfl (Or.inl rfl))) (fun _ _ _ _ _ => pts_nil) (fun _ _ _ _ _ => (pe_fr (pe_op op_rep (pe_lst (pa_cons pe_int pa_nil)) (pe_callB (lenS K) (by rfl) T.n_len bt_len (pa_cons (pe_ix (ixT K) (pv 0) pe_int (fun _ _ => rfl)) pa_nil))))))
 (pss_cons (ps_for PassesOwn.never rfl (piL K (pe_ix (ixT K) (pv 0) pe_int (fun _ _ => rfl))) (pgT K 3 (pgs_cons (pg_name (i := 2) scl_orders.nd rfl (Or.inl rfl)) (pgs_cons (pg_name (i := 3) scl_orders.nd rfl (Or.inl rfl)) (pgs_cons (pg_name (i := 4) scl_orders.nd rfl (Or.inl rfl)) pgs_nil)))) (pss_one (ps_asg (pe_tup (pa_cons (pv 4) (pa_cons (pv 4) pa_nil))) (pgT K 2 (pgs_cons (pg_sub (pe_ix (ixL K) (pv 1) (pv 2) (fun _ _ => rfl)) (pv 3) set_list) (pgs_cons (pg_sub (pe_ix (ixL K) (pv 1) (pv 3) (fun _ _ => rfl)) (pv 2) set_list) pgs_nil))))))
 (pss_one (ps_ret (pv 1))))), ?_⟩
    refine go_sets (lcN H (fun i acc G => ∃ as : List Addr, acc = as.map V.ref ∧ Rows G as (List.replicate i (List.replicate wb.parts.length 0)) ∧ (∀ a ∈ as, H a = none) ∧ Ex H G) (fun R r => ⟨_, rfl, wp, _, 0, _, rfl, rfl, SqT.of hwp, rfl, pa, rfl, ⟨_, SqL.of hpa⟩, r⟩) hpa (by omega) ⟨[], rfl, ⟨List.nodup_nil, rfl, fun i a row h => by simp at h⟩, fun a h => by simp at h, Ex.refl _⟩ ?_ (fun _ => rfl) ?_ ?_)
    · rintro i acc G ⟨as, rfl, r, _⟩
      rw [List.length_map, r.len, List.length_replicate]; exact Nat.le_refl _
    · rintro i x acc G hi e ⟨as, rfl, r, fr, e1⟩
      refine ⟨sz1, fun bp hb => ⟨_, rfl, wp, _, 0, _, rfl, rfl, SqT.of ((e1.trans (Ex.new hb)) _ _ hwp), rfl, pa, pxs, rfl, .inl (SqL.of ((e1.trans (Ex.new hb)) _ _ hpa)), bp, _, _, rfl, rfl, upd_same, by omega, by omega, by simp; omega, fun p hp => ?_⟩⟩
      have g := (Ex.new (o := .lst [.int 0]) hb).trans (Ex.new (o := .lst ((List.replicate (pxs.length : Int).toNat [V.int 0]).flatten)) hp)
      refine ⟨g, as ++ [p], by simp, ?_, fun a ha => ?_, e1.trans g⟩
      · rw [List.replicate_succ']
        have r2 := (r.mono (G := upd G bp (.lst [.int 0])) fun a ha o ho => Ex.new hb _ _ ho).snoc (row := List.replicate wb.parts.length 0) hp
        have er : (List.replicate (pxs.length : Int).toNat [V.int 0]).flatten = (List.replicate wb.parts.length 0).map V.int := by rw [rep_ints, Int.toNat_natCast, lp]
        rw [er]; exact r2
      · rcases List.mem_append.mp ha with ha | ha
        · exact fr a ha
        · have ea : a = p := by simpa using ha
          subst ea
          exact Evl.fresh_back (e1.trans (Ex.new hb)) hp
    rintro acc G p e np ⟨as, rfl, r, fr, e1⟩
    have e2 := e1.trans (Ex.new (o := .lst (as.map V.ref)) np)
    have fp : H p = none := Evl.fresh_back e1 np
    have r2 := r.mono (G := upd G p (.lst (as.map V.ref))) fun a ha o ho => Ex.new np _ _ ho
    have pn : ∀ a ∈ as, a ≠ p := fun a ha z => by
      subst z
      obtain ⟨j, hj⟩ := List.getElem?_of_mem ha
      have hl := (List.getElem?_eq_some_iff.mp hj).1
      rw [r.len] at hl
      rw [r.at_ j a _ hj (List.getElem?_eq_getElem hl)] at np
      cases np
    rw [lp] at r2
    have hpp : upd G p (.lst (as.map V.ref)) p = some (.lst (as.map V.ref)) := upd_same
    generalize upd G p (.lst (as.map V.ref)) = G0 at e2 r2 hpp ⊢
    refine ⟨_, rfl, wp, _, 1, _, rfl, rfl, SqT.of (e2 _ _ hwp), rfl, ta, rfl, ⟨_, SqL.of (e2 _ _ hta)⟩, ?_⟩
    refine for_list (K := K) (a := ta) (xs := txs) (fun i σ H' => ∃ va vb vc, σ = [some (.ref wp), some (.ref p), va, vb, vc, none] ∧ Ex H H' ∧ H' p = some (.lst (as.map V.ref)) ∧ Rows H' as (tabM wb.parts.length (wb.ties.take i)))
      ⟨none, none, none, rfl, e2, hpp, r2⟩ (fun i σ H' _ ⟨_, _, _, _, e, _⟩ => SqL.of (e _ _ hta)) ?_ ?_
    · rintro i x σ H' hi ⟨va, vb, vc, rfl, e3, hp, r3⟩
      obtain ⟨t, ht, hx⟩ := item' htx hi
      obtain ⟨q, rfl, hq⟩ := tie_at hx
      obtain ⟨t0, t1, t2⟩ := ok t (List.mem_of_getElem? ht)
      have sq := tabM_sqr wb.parts.length (wb.ties.take i)
      refine ⟨q, _, rfl, SqT.of (e3 _ _ hq), rfl, _, _, rfl, _, _, rfl, _, _, rfl, rfl, ?_⟩
      obtain ⟨a1, row1, i1, ia1, in1, h1', l1⟩ := row_at r3 sq (z := t.1) (by omega) (by omega)
      have fa1 := fr _ (List.mem_of_getElem? ia1)
      refine ⟨_, rfl, _, rfl, sz2, fun tp ntp => ⟨tp, _, rfl, SqT.of upd_same, rfl, _, _, rfl, ?_⟩⟩
      have n1 := Ex.new (o := .tup [.int t.2.2, .int t.2.2]) ntp
      have r3' := r3.mono (G := upd H' tp (.tup [.int t.2.2, .int t.2.2])) fun a ha o ho => n1 _ _ ho
      have e3' := e3.trans n1
      have hp' := n1 _ _ hp
      replace h1' := n1 _ _ h1'
      generalize upd H' tp (.tup [.int t.2.2, .int t.2.2]) = Hx at r3' e3' hp' h1' ⊢
      refine ⟨_, rfl, _, rfl, p, _, _, _, rfl, rfl, SqL.of hp', i1, _, rfl, a1, _, t.2.1, t.2.1.toNat, rfl, rfl, h1', ixN_of (by omega) (by rw [List.length_map, l1]; omega), _, _, rfl, ?_⟩
      have r4 := r3'.put (j := t.2.1.toNat) (o := t.2.2) ia1 in1
      have sq2 : Sqr wb.parts.length (setT (tabM wb.parts.length (wb.ties.take i)) t.1.toNat t.2.1.toNat t.2.2) := setT_sqr sq
      have e4 := Evl.Ex.mut (o := .lst ((row1.map V.int).set t.2.1.toNat (.int t.2.2))) e3' fa1
      have hp4 : upd Hx a1 (.lst ((row1.map V.int).set t.2.1.toNat (.int t.2.2))) p = some (.lst (as.map V.ref)) := by rw [upd_ne (pn _ (List.mem_of_getElem? ia1)).symm]; exact hp'
      obtain ⟨a2, row2, i2, ia2, in2, h2', l2⟩ := row_at r4 sq2 (z := t.2.1) (by omega) (by omega)
      have fa2 := fr _ (List.mem_of_getElem? ia2)
      refine ⟨_, rfl, _, rfl, p, _, _, _, rfl, rfl, SqL.of hp4, i2, _, rfl, a2, _, t.1, t.1.toNat, rfl, rfl, h2', ixN_of (by omega) (by rw [List.length_map, l2]; omega), rfl, ?_⟩
      refine ⟨_, _, _, rfl, Evl.Ex.mut e4 fa2, by rw [upd_ne (pn _ (List.mem_of_getElem? ia2)).symm]; exact hp4, ?_⟩
      rw [List.take_add_one, ht]
      show Rows _ as (tabM wb.parts.length (wb.ties.take i ++ [t]))
      rw [tabM_snoc]
      exact r4.put (j := t.1.toNat) (o := t.2.2) ia2 in2
    · rintro σ H' ⟨va, vb, vc, rfl, e3, hp, r3⟩
      rw [lt, List.take_length] at r3
      exact ⟨_, rfl, k (.ref p) H' e3 (dt_list hp r3.dts)⟩
end
end W3

end
section
set_option Elab.async false
set_option linter.all false
set_option maxRecDepth 100000
set_option maxHeartbeats 4000000
namespace W3
open PySem PySem.Spec PyProof.Rows L2 M83
open Evl (Ex)
/-! ### classes of parts -/
def cellM (T : List (List Int)) (x y : Int) : Int := ((T[x.toNat]?.getD [])[y.toNat]?).getD 0
def rowM (T : List (List Int)) (ps : List Int) (x : Int) : List Int := ps.map (cellM T x)
def partM (wb : Web) (x : Int) : Part := wb.parts[x.toNat]?.getD (Str.ofString "", 0)
def eCls (c : Part × List Int) : PyData := .tuple [.str c.1.1, .int c.1.2, eInts c.2]
def eKey (c : Part × List Int) : PyData := .tuple [ePart c.1, .tuple (c.2.map .int)]
def clsM (wb : Web) (ps : List Int) (x : Int) : Part × List Int := (partM wb x, rowM (tabM wb.parts.length wb.ties) ps x)
def Below (n : Nat) (ps : List Int) : Prop := ∀ y ∈ ps, 0 ≤ y ∧ y < (n : Int)
def freeM (n : Nat) (used : List Int) : List Int := ((List.range n).map fun (i : Nat) => (i : Int)).filter fun z => !decide (z ∈ used)
theorem part_item {H : Hp} {wb : Web} {a : Addr} {x : Int} (d : Dt H (eParts wb.parts) (.ref a)) (h0 : 0 ≤ x) (h1 : x < wb.parts.length) : ∃ (xs : List V) (q : Addr), H a = some (.lst xs) ∧ atI xs x = some (.ref q) ∧ H q = some (.tup [.str (partM wb x).1, .int (partM wb x).2]) := by
  obtain ⟨xs, ha, hx⟩ := Dt.list_at d
  have hl : x.toNat < wb.parts.length := by omega
  obtain ⟨v, hv, dv⟩ := item hx (List.getElem?_eq_getElem hl)
  obtain ⟨q, rfl, hq⟩ := part_at dv
  have e : partM wb x = wb.parts[x.toNat] := by rw [partM, List.getElem?_eq_getElem hl]; rfl
  exact ⟨xs, q, ha, atI_of h0 hv, by rw [e]; exact hq⟩
theorem tab_item {H : Hp} {T : List (List Int)} {n : Nat} {a : Addr} {x : Int} (sq : Sqr n T) (d : Dt H (eNear T) (.ref a)) (h0 : 0 ≤ x) (h1 : x < n) : ∃ (xs : List V) (q : Addr) (row : List Int), H a = some (.lst xs) ∧ atI xs x = some (.ref q) ∧ H q = some (.lst (row.map V.int)) ∧ row.length = n ∧ ∀ y : Int, 0 ≤ y → y < n → atI (row.map V.int) y = some (.int (cellM T x y)) := by
  obtain ⟨xs, ha, hx⟩ := Dt.list_at d
  have hl : x.toNat < T.length := by rw [sq.1]; omega
  obtain ⟨v, hv, dv⟩ := item hx (List.getElem?_eq_getElem hl)
  obtain ⟨q, rfl, hq⟩ := ints_at dv
  have lr := sq.2 _ (List.getElem_mem hl)
  refine ⟨xs, q, T[x.toNat], ha, atI_of h0 hv, hq, lr, fun y y0 y1 => atI_of y0 ?_⟩
  have hy : y.toNat < T[x.toNat].length := by rw [lr]; omega
  rw [List.getElem?_map, List.getElem?_eq_getElem hy, cellM, List.getElem?_eq_getElem hl]
  show some (V.int T[x.toNat][y.toNat]) = some (V.int ((T[x.toNat])[y.toNat]?.getD 0))
  rw [List.getElem?_eq_getElem hy]; rfl
theorem cls_mk {H : Hp} {p q : Addr} {c : Part × List Int} (hp : H p = some (.tup [.str c.1.1, .int c.1.2, .ref q])) (hq : H q = some (.lst (c.2.map V.int))) : Dt H (eCls c) (.ref p) := ⟨p, _, rfl, hp, _, _, rfl, rfl, _, _, rfl, rfl, _, _, rfl, ints_mk hq, rfl⟩
section
variable {P : Program} {w : World} {K : PySem.W.Frag} {mg : Str → Option Value} {base : Heap}
/-! ### part_class -/
def p_pcls : Sp3 := fun vs H Q => ∃ (wv qv : V) (x : Int) (wb : Web) (ps : List Int), vs = [wv, qv, .int x] ∧ Dt H (eWeb wb) wv ∧ Dt H (eInts ps) qv ∧ wb.parts.length ≤ 100 ∧ wb.ties.length ≤ 1000 ∧ TiesOk wb.parts.length wb.ties ∧ 0 ≤ x ∧ x < wb.parts.length ∧ Below wb.parts.length ps ∧ ps.length ≤ 100 ∧
  ∀ p q H', Ex H H' → H q = none → H' p = some (.tup [.str (clsM wb ps x).1.1, .int (clsM wb ps x).1.2, .ref q]) → H' q = some (.lst ((clsM wb ps x).2.map V.int)) → Q (.ref p) H'
theorem d_part_class {f : Addr} {fd : FuncData} (F : Fun K "part_class" "part_class" spart_class f fd) (hm : mg "part_class" = some (.ref f)) (T : Txt mg) (d_orders_of : Df P w K mg base 1 "orders_of" ["web"] p_tab) : Dk P w K mg base 2 "part_class" ["web", "parts", "part"] p_pcls spart_class := by
  refine Dk.body F hm bipart_class scpart_class (fun vs H Q h => ?_) (fun cdv A outer s H vs Q hr h => ?_)
  · obtain ⟨wv, qv, x, wb, ps, rfl, _⟩ := h; rfl
  · obtain ⟨wv, qv, x, wb, ps, rfl, dw, dq, h1, h2, ok, x0, x1, bl, lps, k⟩ := h
    obtain ⟨wp, pa, ta, ha, sa, rfl, hwp, d1, d2, _, _⟩ := web_at dw
    obtain ⟨qa, rfl, hqa⟩ := ints_at dq
    have sq := tabM_sqr wb.parts.length wb.ties
    refine ⟨_, (pss_cons (ps_set (i := 3) scpart_class.nd rfl (Or.inr rfl) (pe_ix (ixL K) (pe_c3 d_orders_of (hr.less (by decide)) rfl (pa_cons (pv 0) pa_nil)) (pv 2) (fun _ _ => rfl)))
 (pss_one (ps_ret (pe_tup (pa_cons (pe_ix (ixT K) (pe_ix (ixL K) (pe_ix (ixT K) (pv 0) pe_int (fun _ _ => rfl)) (pv 2) (fun _ _ => rfl)) pe_int (fun _ _ => rfl)) (pa_cons (pe_ix (ixT K) (pe_ix (ixL K) (pe_ix (ixT K) (pv 0) pe_int (fun _ _ => rfl)) (pv 2) (fun _ _ => rfl)) pe_int (fun _ _ => rfl)) (pa_cons (pe_lc (own := [("other", 4)]) rfl scpart_class.nd (piL K (pv 1)) (blkOk_by (N := Npart_class) (sc := defScope spart_class) (by decide +kernel)) (fun _ _ _ _ _ => (pg_name (i := 4) scpart_class.nd rfl (Or.inl rfl))) (fun _ _ _ _ _ => pts_nil) (fun _ _ _ _ _ => (pe_fr (pe_ix (ixL K) (pv 3) (pv 4) (fun _ _ => rfl))))) pa_nil))))))), ?_⟩
    refine ⟨_, rfl, _, wb, rfl, dw, h1, h2, ok, fun tv H1 e1 dT => ?_⟩
    obtain ⟨tp, txs, rfl, _, _⟩ := id dT
    obtain ⟨txs, rq, row, htp, hrq, hrow, lrow, cell⟩ := tab_item sq dT x0 x1
    refine ⟨_, rfl, tp, txs, x, _, rfl, rfl, SqL.of htp, hrq, ?_⟩
    obtain ⟨pxs, pq, hpa, hpi, hpq⟩ := part_item (d1.mono e1) x0 x1
    refine ⟨_, rfl, wp, _, 0, _, rfl, rfl, SqT.of (e1 _ _ hwp), rfl, _, rfl, pa, pxs, x, _, rfl, rfl, SqL.of hpa, hpi, pq, _, 0, _, rfl, rfl, SqT.of hpq, rfl, ?_⟩
    refine ⟨_, rfl, wp, _, 0, _, rfl, rfl, SqT.of (e1 _ _ hwp), rfl, _, rfl, pa, pxs, x, _, rfl, rfl, SqL.of hpa, hpi, pq, _, 1, _, rfl, rfl, SqT.of hpq, rfl, ?_⟩
    refine lcN H1 (fun i acc G => Ex H1 G ∧ acc = ((rowM (tabM wb.parts.length wb.ties) ps x).take i).map V.int) (fun R r => ⟨_, rfl, qa, rfl, ⟨_, SqL.of (e1 _ _ hqa)⟩, r⟩) (e1 _ _ hqa) (by rw [List.length_map]; omega) ⟨Ex.refl _, rfl⟩ ?_ (fun _ => rfl) ?_ ?_
    · rintro i acc G ⟨_, rfl⟩
      rw [List.length_map, List.length_take]; omega
    · rintro i v acc G hi eG ⟨_, rfl⟩
      rw [List.getElem?_map] at hi
      obtain ⟨y, hy, rfl⟩ := Option.map_eq_some_iff.mp hi
      obtain ⟨y0, y1⟩ := bl y (List.mem_of_getElem? hy)
      refine ⟨_, rfl, _, rfl, rq, _, y, _, rfl, rfl, SqL.of (eG _ _ hrow), cell y y0 y1, Ex.refl _, eG, ?_⟩
      have : (rowM (tabM wb.parts.length wb.ties) ps x)[i]? = some (cellM (tabM wb.parts.length wb.ties) x y) := by rw [rowM, List.getElem?_map, hy]; rfl
      rw [List.take_add_one, this, List.map_append]; rfl
    · rintro acc G q eG hq ⟨_, rfl⟩
      rw [List.length_map, show ps.length = (rowM (tabM wb.parts.length wb.ties) ps x).length by simp [rowM], List.take_length]
      refine ⟨sz3, fun p hp => ?_⟩
      have g := e1.trans (eG.trans (Ex.new (o := .lst ((rowM (tabM wb.parts.length wb.ties) ps x).map V.int)) hq))
      exact k p q _ (g.trans (Ex.new hp)) (Evl.fresh_back (e1.trans eG) hq) upd_same (Ex.new hp _ _ upd_same)
/-! ### _law_class -/
def p_lcls : Sp3 := fun vs H Q => ∃ (wv rv qv : V) (x : Int) (wb : Web) (ps : List Int), vs = [wv, rv, qv, .int x] ∧ Dt H (eWeb wb) wv ∧ Dt H (eNear (tabM wb.parts.length wb.ties)) rv ∧ Dt H (eInts ps) qv ∧ 0 ≤ x ∧ x < wb.parts.length ∧ Below wb.parts.length ps ∧ ps.length ≤ 100 ∧
  ∀ v' H', Ex H H' → Dt H' (eCls (clsM wb ps x)) v' → Q v' H'
theorem d_l_class {f : Addr} {fd : FuncData} (F : Fun K "_law_class" "_law_class" sl_class f fd) (hm : mg "_law_class" = some (.ref f)) (T : Txt mg) : Df P w K mg base 1 "_law_class" ["_law_web", "_law_rows", "_law_some", "_law_x"] p_lcls := by
  refine Df.body F hm bil_class scl_class (fun vs H Q h => ?_) (fun cdv A outer s H vs Q hr h => ?_)
  · obtain ⟨wv, rv, qv, x, wb, ps, rfl, _⟩ := h; rfl
  · obtain ⟨wv, rv, qv, x, wb, ps, rfl, dw, dT, dq, x0, x1, bl, lps, k⟩ := h
    obtain ⟨wp, pa, ta, ha, sa, rfl, hwp, d1, d2, _, _⟩ := web_at dw
    obtain ⟨qa, rfl, hqa⟩ := ints_at dq
    have sq := tabM_sqr wb.parts.length wb.ties
    refine ⟨_, (pss_one (ps_ret (pe_op (catT K) (pe_ix (ixL K) (pe_ix (ixT K) (pv 0) pe_int (fun _ _ => rfl)) (pv 3) (fun _ _ => rfl)) (pe_tup (pa_cons (pe_lc (own := [("_law_y", 4)]) rfl scl_class.nd (piL K (pv 2)) (blkOk_by (N := Nl_class) (sc := defScope sl_class) (by decide +kernel)) (fun _ _ _ _ _ => (pg_name (i := 4) scl_class.nd rfl (Or.inl rfl))) (fun _ _ _ _ _ => pts_nil) (fun _ _ _ _ _ => (pe_fr (pe_ix (ixL K) (pe_ix (ixL K) (pv 1) (pv 3) (fun _ _ => rfl)) (pv 4) (fun _ _ => rfl))))) pa_nil))))), ?_⟩
    obtain ⟨tp, txs, rfl, _, _⟩ := id dT
    obtain ⟨txs, rq, row, htp, hrq, hrow, lrow, cell⟩ := tab_item sq dT x0 x1
    obtain ⟨pxs, pq, hpa, hpi, hpq⟩ := part_item d1 x0 x1
    refine ⟨_, rfl, wp, _, 0, _, rfl, rfl, SqT.of hwp, rfl, _, rfl, pa, pxs, x, _, rfl, rfl, SqL.of hpa, hpi, ?_⟩
    dsimp only [tTup, tCons, tNil]
    refine lcN H (fun i acc G => Ex H G ∧ acc = ((rowM (tabM wb.parts.length wb.ties) ps x).take i).map V.int) (fun R r => ⟨_, rfl, qa, rfl, ⟨_, SqL.of hqa⟩, r⟩) hqa (by rw [List.length_map]; omega) ⟨Ex.refl _, rfl⟩ ?_ (fun _ => rfl) ?_ ?_
    · rintro i acc G ⟨_, rfl⟩
      rw [List.length_map, List.length_take]; omega
    · rintro i v acc G hi eG ⟨_, rfl⟩
      rw [List.getElem?_map] at hi
      obtain ⟨y, hy, rfl⟩ := Option.map_eq_some_iff.mp hi
      obtain ⟨y0, y1⟩ := bl y (List.mem_of_getElem? hy)
      refine ⟨_, rfl, _, rfl, tp, txs, x, _, rfl, rfl, SqL.of (eG _ _ htp), hrq, _, rfl, rq, _, y, _, rfl, rfl, SqL.of (eG _ _ hrow), cell y y0 y1, Ex.refl _, eG, ?_⟩
      have : (rowM (tabM wb.parts.length wb.ties) ps x)[i]? = some (cellM (tabM wb.parts.length wb.ties) x y) := by rw [rowM, List.getElem?_map, hy]; rfl
      rw [List.take_add_one, this, List.map_append]; rfl
    · rintro acc G q eG hq ⟨_, rfl⟩
      rw [List.length_map, show ps.length = (rowM (tabM wb.parts.length wb.ties) ps x).length by simp [rowM], List.take_length]
      refine ⟨sz1, fun b hb => ?_⟩
      have g1 := Ex.new (o := .lst ((rowM (tabM wb.parts.length wb.ties) ps x).map V.int)) hq
      have g2 := Ex.new (o := .tup [.ref q]) hb
      refine ⟨pq, b, [.str (partM wb x).1, .int (partM wb x).2], [.ref q], rfl, rfl, SqT.of ((eG.trans (g1.trans g2)) _ _ hpq), SqT.of upd_same, by simp, (by show 3 ≤ sizeLine; decide), ⟨(fun z => nomatch z), fun _ p hp => ?_⟩⟩
      have g3 := Ex.new (o := .tup ([.str (partM wb x).1, .int (partM wb x).2] ++ [.ref q])) hp
      exact k (.ref p) _ (eG.trans (g1.trans (g2.trans g3))) (cls_mk (c := clsM wb ps x) upd_same ((g2.trans g3) _ _ upd_same))
/-! ### left_second -/
def p_lsec : Sp3 := fun vs H Q => ∃ (wv pv : V) (wb : Web) (prs : List Hand), vs = [wv, pv] ∧ Dt H (eWeb wb) wv ∧ Dt H (eHands prs) pv ∧ wb.parts.length ≤ 100 ∧ prs.length ≤ 100 ∧ ∀ v' H', Ex H H' → Dt H' (eInts (freeM wb.parts.length (prs.map (·.2)))) v' → Q v' H'
theorem d_left_second {f : Addr} {fd : FuncData} (F : Fun K "left_second" "left_second" sleft_second f fd) (hm : mg "left_second" = some (.ref f)) (T : Txt mg) : Df P w K mg base 1 "left_second" ["other", "pairs"] p_lsec := by
  refine Df.body F hm bileft_second scleft_second (fun vs H Q h => ?_) (fun cdv A outer s H vs Q hr h => ?_)
  · obtain ⟨wv, pv, wb, prs, rfl, _⟩ := h; rfl
  · obtain ⟨wv, pw, wb, prs, rfl, dw, dp, h1, h2, k⟩ := h
    obtain ⟨wp, pa, ta, ha, sa, rfl, hwp, d1, d2, _, _⟩ := web_at dw
    obtain ⟨pxs, hpa, hpx⟩ := Dt.list_at d1
    obtain ⟨pp, qxs, rfl, hpp, hqx⟩ := dp
    have lp : pxs.length = wb.parts.length := by rw [hpx.length, List.length_map]
    have lq : qxs.length = prs.length := by rw [hqx.length, List.length_map]
    refine ⟨_, (pss_cons (ps_set (i := 2) scleft_second.nd rfl (Or.inr rfl) (pe_lc (own := [("part", 4), ("place", 3)]) rfl scleft_second.nd (piL K (pv 1)) (blkOk_by (N := Nleft_second) (sc := defScope sleft_second) (by decide +kernel)) (fun _ _ _ _ _ => (pgT K 2 (pgs_cons (pg_name (i := 4) scleft_second.nd rfl (Or.inl rfl)) (pgs_cons (pg_name (i := 3) scleft_second.nd rfl (Or.inl rfl)) pgs_nil)))) (fun _ _ _ _ _ => pts_nil) (fun _ _ _ _ _ => (pe_fr (pv 3)))))
 (pss_one (ps_ret (pe_lc (own := [("place", 3)]) rfl scleft_second.nd (pi_range1 rfl T.range (pa_cons (pe_callB (lenS K) (by rfl) T.n_len bt_len (pa_cons (pe_ix (ixT K) (pv 0) pe_int (fun _ _ => rfl)) pa_nil)) pa_nil)) (blkOk_by (N := Nleft_second) (sc := defScope sleft_second) (by decide +kernel)) (fun _ _ _ _ _ => (pg_name (i := 3) scleft_second.nd rfl (Or.inl rfl))) (fun _ _ _ _ _ => (pts_fr (pts_one (pt_cmpR (opNotIn K) (pv 3) (pv 2) (by with_unfolding_all rfl))))) (fun _ _ _ _ _ => (pe_fr (pv 3))))))), ?_⟩
    refine go_sets (lcPn H (fun i acc G => Ex H G ∧ acc = ((prs.map (·.2)).take i).map V.int) (fun R r => ⟨_, rfl, pp, rfl, ⟨_, SqL.of hpp⟩, r⟩) hpp (by omega) ⟨Ex.refl _, rfl⟩ ?_ (fun _ _ => rfl) ?_ ?_)
    · rintro i acc G ⟨_, rfl⟩
      rw [List.length_map, List.length_take]; omega
    · rintro i v acc G hi eG ⟨_, rfl⟩
      obtain ⟨t, ht, hv⟩ := item' hqx hi
      obtain ⟨q, rfl, hq⟩ := hand_at hv
      refine ⟨q, _, _, rfl, SqT.of (eG _ _ hq), _, rfl, Ex.refl _, eG, ?_⟩
      rw [List.take_add_one, List.getElem?_map, ht, List.map_append]; rfl
    rintro acc G up eG hup ⟨_, rfl⟩
    rw [lq, show prs.length = (prs.map (·.2)).length by simp, List.take_length]
    have e1 := eG.trans (Ex.new (o := .lst ((prs.map (·.2)).map V.int)) hup)
    have hu : upd G up (.lst ((prs.map (·.2)).map V.int)) up = some (.lst ((prs.map (·.2)).map V.int)) := upd_same
    generalize upd G up (.lst ((prs.map (·.2)).map V.int)) = H1 at e1 hu ⊢
    refine go_ret (lcRt H1 (lo := 0) (n := pxs.length) (fun i acc G => Ex H1 G ∧ acc = (freeM i (prs.map (·.2))).map V.int) (fun R r => ⟨_, rfl, wp, _, 0, _, rfl, rfl, SqT.of (e1 _ _ hwp), rfl, pa, pxs, rfl, .inl (SqL.of (e1 _ _ hpa)), _, rfl, by omega, by omega, r⟩) (by omega) ⟨Ex.refl _, rfl⟩ ?_ (fun _ => rfl) ?_ ?_)
    · rintro i acc G ⟨_, rfl⟩
      rw [List.length_map, freeM]
      exact Nat.le_trans (List.length_filter_le _ _) (by simp)
    · rintro i acc G hi eG2 ⟨_, rfl⟩
      have fs : freeM (i + 1) (prs.map (·.2)) = freeM i (prs.map (·.2)) ++ if decide ((i : Int) ∈ prs.map (·.2)) = true then [] else [(i : Int)] := by
        rw [freeM, freeM, List.range_succ, List.map_append, List.filter_append]
        congr 1
        simp only [List.map_cons, List.map_nil, List.filter_cons, List.filter_nil]
        cases decide ((i : Int) ∈ prs.map (·.2)) <;> rfl
      have z : (0 : Int) + (i : Int) = i := by omega
      refine ⟨_, rfl, _, rfl, up, _, rfl, .inl (SqL.of (eG2 _ _ hu)), rfl, flat_ints _, _, rfl, Ex.refl _, fun h => ⟨_, rfl, Ex.refl _, eG2, ?_⟩, fun h => ⟨eG2, ?_⟩⟩
      · have h' : (!decide (((0 : Int) + (i : Int)) ∈ prs.map (·.2))) = true := by rw [← in_ints]; exact h
        rw [z] at h' ⊢
        have h2' : decide ((i : Int) ∈ prs.map (·.2)) = false := by cases q : decide ((i : Int) ∈ prs.map (·.2)) <;> simp_all
        rw [fs, h2', List.map_append]; rfl
      · have h' : (!decide (((0 : Int) + (i : Int)) ∈ prs.map (·.2))) = false := by rw [← in_ints]; exact h
        rw [z] at h'
        have h2' : decide ((i : Int) ∈ prs.map (·.2)) = true := by cases q : decide ((i : Int) ∈ prs.map (·.2)) <;> simp_all
        rw [fs, h2']; simp
    · rintro acc G q eG2 hq ⟨_, rfl⟩
      rw [lp]
      exact k (.ref q) _ (e1.trans (eG2.trans (Ex.new hq))) (ints_mk upd_same)
end
end W3

end
section
set_option autoImplicit false
set_option linter.all false
/-! plain mathematics: what two lists share -/
namespace M72
variable {α : Type} [DecidableEq α]
/-- how many of xs find their like in ys, each once -/
def ic : List α → List α → Nat
  | [], _ => 0
  | x :: xs, ys => if x ∈ ys then ic xs (ys.erase x) + 1 else ic xs ys
theorem ic_nil : ∀ xs : List α, ic xs [] = 0
  | [] => rfl
  | x :: xs => by simp [ic, ic_nil xs]
theorem ic_right {ys zs : List α} : ∀ (xs : List α), ys.Perm zs → ic xs ys = ic xs zs := by
  intro xs
  induction xs generalizing ys zs with
  | nil => intro _; rfl
  | cons x xs ih =>
    intro h
    simp only [ic, h.mem_iff]
    by_cases hx : x ∈ zs
    · rw [if_pos hx, if_pos hx, ih (h.erase x)]
    · rw [if_neg hx, if_neg hx, ih h]
theorem ic_left {xs xs' : List α} (h : xs.Perm xs') : ∀ ys : List α, ic xs ys = ic xs' ys := by
  induction h with
  | nil => intro _; rfl
  | cons x _ ih => intro ys; simp only [ic]; split <;> simp [ih]
  | swap x y l =>
    intro ys
    simp only [ic]
    by_cases e : x = y
    · subst e; rfl
    · have hx : x ∈ ys.erase y ↔ x ∈ ys := List.mem_erase_of_ne e
      have hy : y ∈ ys.erase x ↔ y ∈ ys := List.mem_erase_of_ne (Ne.symm e)
      by_cases h1 : x ∈ ys <;> by_cases h2 : y ∈ ys <;> simp [h1, h2, hx, hy, List.erase_comm x y]
  | trans _ _ i1 i2 => intro ys; rw [i1, i2]
theorem ic_skip {y : α} : ∀ (xs ys : List α), y ∉ xs → ic xs (y :: ys) = ic xs ys
  | [], _, _ => rfl
  | x :: xs, ys, h => by
    have hxy : x ≠ y := fun e => h (by rw [e]; exact List.mem_cons_self)
    have hy : y ∉ xs := fun m => h (List.mem_cons_of_mem _ m)
    simp only [ic, List.mem_cons, hxy, false_or]
    by_cases hx : x ∈ ys
    · rw [if_pos hx, if_pos hx, List.erase_cons_tail (by simpa using Ne.symm hxy), ic_skip xs _ hy]
    · rw [if_neg hx, if_neg hx, ic_skip xs _ hy]
theorem ic_same (x : α) (xs ys : List α) : ic (x :: xs) (x :: ys) = ic xs ys + 1 := by simp [ic]
theorem ic_drop {x : α} (xs ys : List α) (h : x ∉ ys) : ic (x :: xs) ys = ic xs ys := by simp [ic, h]
theorem ic_map {β : Type} [DecidableEq β] {f : α → β} (hf : ∀ a b, f a = f b → a = b) : ∀ (xs ys : List α), ic (xs.map f) (ys.map f) = ic xs ys
  | [], _ => rfl
  | x :: xs, ys => by
    have hm : f x ∈ ys.map f ↔ x ∈ ys := ⟨fun h => by obtain ⟨a, ha, e⟩ := List.mem_map.mp h; rw [← hf _ _ e]; exact ha, fun h => List.mem_map_of_mem h⟩
    have he : ∀ ys : List α, (ys.map f).erase (f x) = (ys.erase x).map f := by
      intro ys
      induction ys with
      | nil => rfl
      | cons y ys ih =>
        by_cases e : y = x
        · subst e; simp
        · have e2 : f y ≠ f x := fun z => e (hf _ _ z)
          rw [List.map_cons, List.erase_cons_tail (by simpa using e2), List.erase_cons_tail (by simpa using e), List.map_cons, ih]
    simp only [List.map_cons, ic, hm, he]
    split <;> simp [ic_map hf]
theorem ic_le : ∀ (xs ys : List α), ic xs ys ≤ xs.length
  | [], _ => Nat.le_refl _
  | x :: xs, ys => by
    simp only [ic]
    have a := ic_le xs (ys.erase x)
    have b := ic_le xs ys
    split <;> simp <;> omega
/-- a part of both that is the same is no longer -/
theorem ic_ge : ∀ (zs xs ys : List α), (∀ a, zs.count a ≤ xs.count a) → (∀ a, zs.count a ≤ ys.count a) → zs.length ≤ ic xs ys
  | [], _, _, _, _ => Nat.zero_le _
  | z :: zs, xs, ys, h1, h2 => by
    have m1 : z ∈ xs := List.count_pos_iff.mp (by have := h1 z; simp at this; omega)
    have m2 : z ∈ ys := List.count_pos_iff.mp (by have := h2 z; simp at this; omega)
    have p1 := List.perm_cons_erase m1
    have p2 := List.perm_cons_erase m2
    rw [ic_left p1, ic_right _ p2, ic_same]
    have := ic_ge zs (xs.erase z) (ys.erase z) (fun a => by
      have := h1 a
      rw [p1.count_eq] at this
      simp only [List.count_cons] at this
      omega) (fun a => by
      have := h2 a
      rw [p2.count_eq] at this
      simp only [List.count_cons] at this
      omega)
    simp only [List.length_cons]
    omega
/-- the law's sum: each unlike one once, the least of its two counts -/
def sumM : List α → List α → List α → Nat
  | _, [], _ => 0
  | seen, x :: xs, ys => (if x ∈ seen then 0 else min ((x :: xs).count x) (ys.count x)) + sumM (seen ++ [x]) xs ys
theorem ic_filter (x : α) : ∀ (xs ys : List α), ic xs ys = min (xs.count x) (ys.count x) + ic (xs.filter (· ≠ x)) (ys.filter (· ≠ x))
  | [], ys => by simp [ic]
  | y :: xs, ys => by
    by_cases e : y = x
    · subst e
      simp only [ic, List.count_cons_self, List.filter_cons, ne_eq, not_true_eq_false, decide_false, Bool.false_eq_true, if_false]
      by_cases hm : y ∈ ys
      · rw [if_pos hm, ic_filter y xs (ys.erase y)]
        have c := List.count_pos_iff.mpr hm
        have e2 : (ys.erase y).count y = ys.count y - 1 := List.count_erase_self
        have e3 : (ys.erase y).filter (fun z => decide (¬z = y)) = ys.filter (fun z => decide (¬z = y)) := by
          clear hm c e2
          induction ys with
          | nil => rfl
          | cons z ys ih =>
            by_cases q : z = y
            · subst q; simp
            · rw [List.erase_cons_tail (by simpa using q)]; simpa [List.filter_cons, q] using ih
        simp only [ne_eq] at e3 ⊢
        rw [e2, e3]; omega
      · have c : ys.count y = 0 := List.count_eq_zero.mpr hm
        rw [if_neg hm, ic_filter y xs ys, c]; simp
    · have h1 : (y :: xs).count x = xs.count x := List.count_cons_of_ne e
      have h2 : (y :: xs).filter (· ≠ x) = y :: xs.filter (· ≠ x) := by simp [List.filter_cons, e]
      have hm : y ∈ ys.filter (· ≠ x) ↔ y ∈ ys := by simp [List.mem_filter, e]
      rw [h1, h2]
      simp only [ic, hm]
      by_cases my : y ∈ ys
      · rw [if_pos my, if_pos my, ic_filter x xs (ys.erase y)]
        have e2 : (ys.erase y).count x = ys.count x := List.count_erase_of_ne (Ne.symm e)
        have e3 : (ys.erase y).filter (· ≠ x) = (ys.filter (· ≠ x)).erase y := by
          clear hm my e2
          induction ys with
          | nil => rfl
          | cons z ys ih =>
            by_cases q : z = y
            · subst q; simp [List.filter_cons, e]
            · rw [List.erase_cons_tail (by simpa using q)]
              by_cases q2 : z = x
              · simp [List.filter_cons, q2] at ih ⊢; exact ih
              · simp only [List.filter_cons, ne_eq, q2, not_false_eq_true, decide_true, if_true] at ih ⊢
                rw [List.erase_cons_tail (by simpa using q), ih]
        rw [e2, e3]; omega
      · rw [if_neg my, if_neg my, ic_filter x xs ys]
end M72

end
section
set_option Elab.async false
set_option linter.all false
set_option maxRecDepth 100000
set_option maxHeartbeats 4000000
namespace W3
open PySem PySem.Spec PyProof.Rows L2 M83 M72
open Evl (Ex)
open Classical in
noncomputable def icD (ds es : List PyData) : Nat := ic ds es
/-- data that are compared: alike, small, no None -/
structure Cmp (ds : List PyData) : Prop where
  al : ∀ d ∈ ds, ∀ e ∈ ds, PySem.W.alike d e = true
  lf : ∀ d ∈ ds, Lf d
  dp : ∀ d ∈ ds, d.depth ≤ 31
  nn : ∀ d ∈ ds, d ≠ .none
def Sorted (ds : List PyData) : Prop := ds.Pairwise fun a b => PySem.W.dataLe false id a b = true
theorem le_lt {d e : PyData} : PySem.W.dataLe false id d e = !PySem.W.dataLt e d := rfl
section
variable {P : Program} {w : World} {K : PySem.W.Frag} {mg : Str → Option Value} {base : Heap}
/-! ### shared -/
def p_shared : Sp3 := fun vs H Q => ∃ (v u : V) (ds es : List PyData), vs = [v, u] ∧ Dt H (.list ds) v ∧ Dt H (.list es) u ∧ Cmp (ds ++ es) ∧ Sorted ds ∧ Sorted es ∧ ds.length ≤ 1000 ∧ es.length ≤ 1000 ∧ ∀ H', Ex H H' → Q (.int (icD ds es)) H'
open Classical in
theorem d_shared {f : Addr} {fd : FuncData} (F : Fun K "shared" "shared" sshared f fd) (hm : mg "shared" = some (.ref f)) (T : Txt mg) : Df P w K mg base 1 "shared" ["first", "second"] p_shared := by
  refine Df.body F hm bishared scshared (fun vs H Q h => ?_) (fun cdv A outer s H vs Q hr h => ?_)
  · obtain ⟨v, u, ds, es, rfl, _⟩ := h; rfl
  · obtain ⟨v, u, ds, es, rfl, ⟨ap, xs, rfl, hap, hxs⟩, ⟨bp, ys, rfl, hbp, hys⟩, cm, s1, s2, l1, l2, k⟩ := h
    have lx := hxs.length
    have ly := hys.length
    refine ⟨_, (pss_cons (ps_asg (pe_tup (pa_cons pe_int (pa_cons pe_int (pa_cons pe_int pa_nil)))) (pgT K 3 (pgs_cons (pg_name (i := 2) scshared.nd rfl (Or.inl rfl)) (pgs_cons (pg_name (i := 3) scshared.nd rfl (Or.inl rfl)) (pgs_cons (pg_name (i := 4) scshared.nd rfl (Or.inl rfl)) pgs_nil)))))
 (pss_cons (ps_while PassesOwn.never (PW.pt (pw_and (pt_cmpR op_lt (pv 2) (pe_callB (lenS K) (by rfl) T.n_len bt_len (pa_cons (pv 0) pa_nil)) (nomark _)) (pw_and1 (pt_cmpR op_lt (pv 3) (pe_callB (lenS K) (by rfl) T.n_len bt_len (pa_cons (pv 1) pa_nil)) (nomark _))))) (pss_one (ps_if (pt_cmpR (opEqD K hr.u64) (pe_ix (ixL K) (pv 0) (pv 2) (fun _ _ => rfl)) (pe_ix (ixL K) (pv 1) (pv 3) (fun _ _ => rfl)) (nomark _)) (pss_one (ps_par3 (i := 2) (j := 3) (l := 4) rfl scshared.nd rfl rfl rfl (by decide) (by decide) (by decide) rfl rfl rfl (pa_cons (pe_op op_add (pv 2) pe_int) (pa_cons (pe_op op_add (pv 3) pe_int) (pa_cons (pe_op op_add (pv 4) pe_int) pa_nil))) (by rfl))) (pss_one (ps_if (pt_cmpR (op_ltD hr.u64) (pe_ix (ixL K) (pv 0) (pv 2) (fun _ _ => rfl)) (pe_ix (ixL K) (pv 1) (pv 3) (fun _ _ => rfl)) (nomark _)) (pss_one (ps_aug (i := 2) scshared.nd rfl (Or.inl rfl) pe_int ip_add)) (pss_one (ps_aug (i := 3) scshared.nd rfl (Or.inl rfl) pe_int ip_add)))))))
 (pss_one (ps_ret (pv 4))))), ?_⟩
    refine ⟨sz3, fun tp ntp => ⟨tp, _, rfl, SqT.of upd_same, rfl, _, _, rfl, _, _, rfl, _, _, rfl, rfl, ?_⟩⟩
    have e0 := Ex.new (o := .tup [.int 0, .int 0, .int 0]) ntp
    refine ⟨fun m σ H' => ∃ a b c : Nat, σ = [some (.ref ap), some (.ref bp), some (.int a), some (.int b), some (.int c)] ∧ Ex H H' ∧ a ≤ ds.length ∧ b ≤ es.length ∧ c + ic (ds.drop a) (es.drop b) = ic ds es ∧ m = (ds.length - a) + (es.length - b),
      ⟨_, 0, 0, 0, rfl, e0, Nat.zero_le _, Nat.zero_le _, by simp, rfl⟩, ?_⟩
    rintro m σ H' ⟨a, b, c, rfl, e1, ha, hb, hc, rfl⟩
    refine ⟨_, rfl, _, rfl, ap, xs, rfl, .inl (SqL.of (e1 _ _ hap)), _, _, rfl, rfl, _, rfl, ?_⟩
    by_cases h1 : a < ds.length
    · have t1 : decide ((a : Int) < (xs.length : Int)) = true := decide_eq_true (by omega)
      rw [t1]
      refine iteT ⟨_, rfl, _, rfl, bp, ys, rfl, .inl (SqL.of (e1 _ _ hbp)), _, _, rfl, rfl, _, rfl, ?_⟩
      by_cases h2 : b < es.length
      · have t2 : decide ((b : Int) < (ys.length : Int)) = true := decide_eq_true (by omega)
        rw [t2]
        refine iteT ⟨fun σ' H' => ∃ m', m' < (ds.length - a) + (es.length - b) ∧ ∃ a b c : Nat, σ' = [some (.ref ap), some (.ref bp), some (.int a), some (.int b), some (.int c)] ∧ Ex H H' ∧ a ≤ ds.length ∧ b ≤ es.length ∧ c + ic (ds.drop a) (es.drop b) = ic ds es ∧ m' = (ds.length - a) + (es.length - b), fun _ _ h => h, ?_⟩
        -- the two heads
        obtain ⟨x, hx, dx⟩ := hxs.get (List.getElem?_eq_getElem h1)
        obtain ⟨y, hy, dy⟩ := hys.get (List.getElem?_eq_getElem h2)
        have mx : ds[a] ∈ ds ++ es := List.mem_append_left _ (List.getElem_mem h1)
        have my : es[b] ∈ ds ++ es := List.mem_append_right _ (List.getElem_mem h2)
        have da : ds.drop a = ds[a] :: ds.drop (a + 1) := List.drop_eq_getElem_cons h1
        have db : es.drop b = es[b] :: es.drop (b + 1) := List.drop_eq_getElem_cons h2
        have so1 : (ds[a] :: ds.drop (a + 1)).Pairwise fun p q => PySem.W.dataLe false id p q = true := by rw [← da]; exact s1.sublist (List.drop_sublist _ _)
        have so2 : (es[b] :: es.drop (b + 1)).Pairwise fun p q => PySem.W.dataLe false id p q = true := by rw [← db]; exact s2.sublist (List.drop_sublist _ _)
        have dx' := dx.mono e1
        have dy' := dy.mono e1
        refine ⟨_, rfl, _, rfl, ap, xs, a, x, rfl, rfl, SqL.of (e1 _ _ hap), atI_nat hx, _, rfl, _, rfl, bp, ys, b, y, rfl, rfl, SqL.of (e1 _ _ hbp), atI_nat hy, ds[a], es[b], dx'.dp, dy'.dp, shaped_of (cm.lf _ mx) (Nat.le_trans (cm.dp _ mx) (by decide)), shaped_of (cm.lf _ my) (Nat.le_trans (cm.dp _ my) (by decide)), _, rfl, ?_⟩
        by_cases he : ds[a] = es[b]
        · have tq : PyData.eqv ds[a] es[b] = true := by rw [← he]; exact eqv_self _ (cm.lf _ mx)
          rw [tq]
          refine iteT ⟨_, rfl, _, _, rfl, rfl, _, rfl, _, _, rfl, rfl, _, rfl, _, _, rfl, rfl, _, _, _, rfl, ?_⟩
          refine ⟨_, ?_, a + 1, b + 1, c + 1, rfl, e1, by omega, by omega, ?_, rfl⟩
          · omega
          · rw [da, db, he, ic_same] at hc; omega
        · have tq : PyData.eqv ds[a] es[b] = false := by
            rw [Bool.eq_false_iff]; intro z; exact he (eqv_eq _ _ (cm.al _ mx _ my) z)
          rw [tq]
          refine iteF ⟨_, rfl, _, rfl, ap, xs, a, x, rfl, rfl, SqL.of (e1 _ _ hap), atI_nat hx, _, rfl, _, rfl, bp, ys, b, y, rfl, rfl, SqL.of (e1 _ _ hbp), atI_nat hy, ds[a], es[b], dx', dy', cm.al _ mx _ my, cm.nn _ mx, Nat.le_trans (cm.dp _ mx) (by decide), _, rfl, ?_⟩
          refine iteAny (fun hlt => ?_) (fun hlt => ?_)
          · refine ⟨_, rfl, _, _, rfl, rfl, ?_⟩
            refine ⟨_, ?_, a + 1, b, c, rfl, e1, by omega, hb, ?_, rfl⟩
            · omega
            · have nm : ds[a] ∉ es.drop b := by
                rw [db]
                intro hmem
                rcases List.mem_cons.mp hmem with z | z
                · exact he z
                · have := (List.pairwise_cons.mp so2).1 _ z
                  rw [le_lt, hlt] at this; cases this
              rw [da, ic_drop _ _ nm] at hc; exact hc
          · refine ⟨_, rfl, _, _, rfl, rfl, ?_⟩
            refine ⟨_, ?_, a, b + 1, c, rfl, e1, ha, by omega, ?_, rfl⟩
            · omega
            · have nm : es[b] ∉ ds.drop a := by
                rw [da]
                intro hmem
                rcases List.mem_cons.mp hmem with z | z
                · exact he z.symm
                · have q1 := (List.pairwise_cons.mp so1).1 _ z
                  have q2 : PySem.W.dataLe false id es[b] ds[a] = true := by rw [le_lt, hlt]; rfl
                  exact he (dataLe_anti (cm.al _ mx _ my) q1 q2)
              rw [db, ic_skip _ _ nm] at hc; exact hc
      · have t2 : decide ((b : Int) < (ys.length : Int)) = false := decide_eq_false (by omega)
        rw [t2]
        refine iteF ⟨_, rfl, ?_⟩
        have z := k H' e1
        rw [List.drop_of_length_le (show es.length ≤ b by omega), ic_nil] at hc
        rw [show icD ds es = c from hc.symm] at z
        exact z
    · have t1 : decide ((a : Int) < (xs.length : Int)) = false := decide_eq_false (by omega)
      rw [t1]
      refine iteF (iteF ⟨_, rfl, ?_⟩)
      have z := k H' e1
      rw [List.drop_of_length_le (show ds.length ≤ a by omega)] at hc
      rw [show icD ds es = c from hc.symm] at z
      exact z
end
end W3

end
section
set_option Elab.async false
set_option linter.all false
set_option maxRecDepth 100000
set_option maxHeartbeats 4000000
namespace W3
open PySem PySem.Spec PyProof.Rows L2 M83 M72
open Evl (Ex)
/-! ### small webs, their keys -/
structure W72 (wb : Web) : Prop where
  pn : wb.parts.length ≤ 30
  tn : wb.ties.length ≤ 100
  tok : TiesOk wb.parts.length wb.ties
  ord : ∀ t ∈ wb.ties, 1 ≤ t.2.2 ∧ t.2.2 ≤ 9
  pf : ∀ q ∈ wb.parts, PartFine q
def SmallT (T : List (List Int)) : Prop := ∀ r ∈ T, ∀ z ∈ r, 0 ≤ z ∧ z ≤ 9
theorem setT_small {T : List (List Int)} {a b : Nat} {o : Int} (h : SmallT T) (h0 : 0 ≤ o) (h1 : o ≤ 9) : SmallT (setT T a b o) := fun r hr z hz => by
  obtain ⟨i, hi⟩ := List.getElem?_of_mem hr
  rw [setT, List.getElem?_modify] at hi
  obtain ⟨r0, e0, rfl⟩ := Option.map_eq_some_iff.mp hi
  have q := h r0 (List.mem_of_getElem? e0)
  split at hz
  · rcases List.mem_or_eq_of_mem_set hz with m | rfl
    · exact q z m
    · exact ⟨h0, h1⟩
  · exact q z hz
theorem tabM_small {n : Nat} : ∀ {ts : List Tie}, (∀ t ∈ ts, 1 ≤ t.2.2 ∧ t.2.2 ≤ 9) → SmallT (tabM n ts) := by
  intro ts h
  suffices g : ∀ (ts : List Tie) (T : List (List Int)), (∀ t ∈ ts, 1 ≤ t.2.2 ∧ t.2.2 ≤ 9) → SmallT T → SmallT (ts.foldl putT T) from g ts _ h fun r hr z hz => by
    rw [(List.mem_replicate.mp hr).2] at hz
    have := (List.mem_replicate.mp hz).2
    omega
  intro ts
  induction ts with
  | nil => exact fun T _ h => h
  | cons t ts ih =>
    intro T h q
    have o := h t (by simp)
    exact ih _ (fun t ht => h t (by simp [ht])) (setT_small (setT_small q (by omega) o.2) (by omega) o.2)
theorem cell_small {T : List (List Int)} (h : SmallT T) (x y : Int) : 0 ≤ cellM T x y ∧ cellM T x y ≤ 9 := by
  unfold cellM
  cases h1 : T[x.toNat]? with
  | none => simp
  | some r =>
    simp only [Option.getD_some]
    cases h2 : r[y.toNat]? with
    | none => simp
    | some z => exact h r (List.mem_of_getElem? h1) z (List.mem_of_getElem? h2)
theorem partM_fine {wb : Web} (h : ∀ q ∈ wb.parts, PartFine q) (x : Int) : PartFine (partM wb x) := by
  unfold partM
  cases h1 : wb.parts[x.toNat]? with
  | none => exact ⟨by decide +kernel, by decide +kernel, by decide, by decide⟩
  | some q => exact h q (List.mem_of_getElem? h1)
theorem cls_small {wb : Web} (h : W72 wb) (ps : List Int) (x : Int) : ∀ z ∈ (clsM wb ps x).2, 0 ≤ z ∧ z ≤ 9 := fun z hz => by
  obtain ⟨y, _, rfl⟩ := List.mem_map.mp hz
  exact cell_small (tabM_small h.ord) x y
theorem alike_ints' (a b : List Int) : PySem.W.alikeAll (a.map .int) (b.map .int) = true := alikeAll_map (enc := PyData.int) (fun x y => by simp [PySem.W.alike]) a b
theorem alike_key (c d : Part × List Int) : PySem.W.alike (eKey c) (eKey d) = true := by
  simp only [eKey, PySem.W.alike, PySem.W.alikeAll, alike_part, alike_ints', Bool.and_self]
theorem dep_key (c : Part × List Int) : (eKey c).depth ≤ 2 := by
  have a := dep_part c.1
  have b := depthAll_map (enc := PyData.int) (k := 0) (as := c.2) fun a _ => by simp [PyData.depth]
  simp only [eKey, PyData.depth, PyData.depthAll] at a b ⊢
  omega
theorem lf_key {c : Part × List Int} (h : PartFine c.1) (h2 : ∀ z ∈ c.2, 0 ≤ z ∧ z ≤ 9) : Lf (eKey c) := ⟨(sm_part h).lf, Lfs.map fun z hz => (by have := h2 z hz; show z.natAbs < 1000000; omega), trivial⟩
theorem key_inj : ∀ c d : Part × List Int, eKey c = eKey d → c = d := fun c d h => by
  obtain ⟨p, r⟩ := c
  obtain ⟨q, s⟩ := d
  simp only [eKey, PyData.tuple.injEq, List.cons.injEq, and_true] at h
  obtain ⟨h1, h2⟩ := h
  have e1 := part_inj p q h1
  have e2 : r = s := by
    have inj : ∀ (a b : List Int), a.map PyData.int = b.map PyData.int → a = b := by
      intro a
      induction a with
      | nil => intro b h; cases b <;> simp_all
      | cons x a ih => intro b h; cases b with
        | nil => simp at h
        | cons y b => simp only [List.map_cons, List.cons.injEq, PyData.int.injEq] at h; rw [h.1, ih b h.2]
    exact inj r s h2
  rw [e1, e2]
abbrev srt (ds : List PyData) : List PyData := ds.mergeSort (PySem.W.dataLe false id)
theorem srt_sorted (ds : List PyData) : Sorted (srt ds) := open PySem.W in sort_pairwise (sortLe_total (listOrd itemOrd) false fun b : PyData => keyToks b) ds
open Classical in
theorem icD_srt (ds es : List PyData) : icD (srt ds) (srt es) = icD ds es := by
  unfold icD
  rw [ic_left (List.mergeSort_perm ds _), ic_right _ (List.mergeSort_perm es _)]
theorem Cmp.srt2 {ds es : List PyData} (h : Cmp (ds ++ es)) : Cmp (srt ds ++ srt es) := by
  have m : ∀ d ∈ srt ds ++ srt es, d ∈ ds ++ es := fun d hd => by
    rcases List.mem_append.mp hd with hd | hd
    · exact List.mem_append_left _ (sort_in hd)
    · exact List.mem_append_right _ (sort_in hd)
  exact ⟨fun d hd e he => h.al d (m d hd) e (m e he), fun d hd => h.lf d (m d hd), fun d hd => h.dp d (m d hd), fun d hd => h.nn d (m d hd)⟩
def rgI (a b : Int) : List Int := (List.range (b - a).toNat).map fun (i : Nat) => a + (i : Int)
theorem rgV_ints (a b : Int) : rgV a b = (rgI a b).map V.int := by simp [rgV, rgI, List.map_map, Function.comp_def]
section
variable {P : Program} {w : World} {K : PySem.W.Frag} {mg : Str → Option Value} {base : Heap}
/-! ### left_classes -/
def p_lcs : Sp3 := fun vs H Q => ∃ (wv qv lv : V) (wb : Web) (ps ls : List Int), vs = [wv, qv, lv] ∧ Dt H (eWeb wb) wv ∧ Dt H (eInts ps) qv ∧ Dt H (eInts ls) lv ∧ W72 wb ∧ Below wb.parts.length ps ∧ ps.length ≤ 100 ∧ Below wb.parts.length ls ∧ ls.length ≤ 100 ∧
  ∀ v' H', Ex H H' → Dt H' (.list (srt (ls.map fun x => eKey (clsM wb ps x)))) v' → Q v' H'
theorem d_left_classes {f : Addr} {fd : FuncData} (F : Fun K "left_classes" "left_classes" sleft_classes f fd) (hm : mg "left_classes" = some (.ref f)) (T : Txt mg) (d_orders_of : Df P w K mg base 1 "orders_of" ["web"] p_tab) : Df P w K mg base 2 "left_classes" ["web", "parts", "left"] p_lcs := by
  refine Df.body F hm bileft_classes scleft_classes (fun vs H Q h => ?_) (fun cdv A outer s H vs Q hr h => ?_)
  · obtain ⟨wv, qv, lv, wb, ps, ls, rfl, _⟩ := h; rfl
  · obtain ⟨wv, qv, lv, wb, ps, ls, rfl, dw, dq, dl, w7, bp, lps, bls, lls, k⟩ := h
    obtain ⟨wp, pa, ta, ha, sa, rfl, hwp, d1, d2, _, _⟩ := web_at dw
    obtain ⟨qa, rfl, hqa⟩ := ints_at dq
    obtain ⟨la, rfl, hla⟩ := ints_at dl
    have sq := tabM_sqr wb.parts.length wb.ties
    have pn := w7.pn
    have tn := w7.tn
    refine ⟨_, (pss_cons (ps_set (i := 3) scleft_classes.nd rfl (Or.inr rfl) (pe_c3 d_orders_of (hr.less (by decide)) rfl (pa_cons (pv 0) pa_nil)))
 (pss_one (ps_ret (pe_callB (cr_sortD hr.u64) (by rfl) T.n_sorted bt_sorted (pa_cons (pe_lc (own := [("part", 4)]) rfl scleft_classes.nd (piL K (pv 2)) (blkOk_by (N := Nleft_classes) (sc := defScope sleft_classes) (by decide +kernel)) (fun _ _ _ _ _ => (pg_name (i := 4) scleft_classes.nd rfl (Or.inr rfl))) (fun _ _ _ _ _ => pts_nil) (fun _ _ _ _ _ => (pe_fr (pe_tup (pa_cons (pe_ix (ixL K) (pe_ix (ixT K) (pv 0) pe_int (fun _ _ => rfl)) (pv 4) (fun _ _ => rfl)) (pa_cons (pe_callTy (tupS K) (by rfl) T.n_tuple bt_tuple (pa_cons (pe_lc (own := [("other", 5)]) rfl scleft_classes.nd (piL K (pv 1)) (blkOk_by (N := Nleft_classes) (by rfl)) (fun _ _ _ _ _ => (pg_name (i := 5) scleft_classes.nd rfl (Or.inl rfl))) (fun _ _ _ _ _ => pts_nil) (fun _ _ _ _ _ => (pe_fr (pe_ix (ixL K) (pe_ix (ixL K) (pv 3) (pv 4) (fun _ _ => rfl)) (pv 5) (fun _ _ => rfl))))) pa_nil)) pa_nil)))))) pa_nil))))), ?_⟩
    refine ⟨_, rfl, _, wb, rfl, dw, by omega, by omega, w7.tok, fun tv H1 e1 dT => ?_⟩
    obtain ⟨tp, _, rfl, _, _⟩ := id dT
    dsimp only [gName]
    refine go_ret (go_cb1 ?_)
    refine lcN H1 (fun i acc G => Ex H1 G ∧ Dts G ((ls.take i).map fun x => eKey (clsM wb ps x)) acc) (fun R r => ⟨_, rfl, la, rfl, ⟨_, SqL.of (e1 _ _ hla)⟩, r⟩) (e1 _ _ hla) (by rw [List.length_map]; omega) ⟨Ex.refl _, rfl⟩ ?_ (fun _ => rfl) ?_ ?_
    · rintro i acc G ⟨_, hd⟩
      rw [hd.length, List.length_map, List.length_take]; omega
    · rintro i v acc G hi eG ⟨_, hd⟩
      rw [List.getElem?_map] at hi
      obtain ⟨x, hx, rfl⟩ := Option.map_eq_some_iff.mp hi
      obtain ⟨x0, x1⟩ := bls x (List.mem_of_getElem? hx)
      have eHG := e1.trans eG
      obtain ⟨pxs, pq, hpa, hpi, hpq⟩ := part_item (d1.mono eHG) x0 x1
      obtain ⟨txs, rq, row, htp, hrq, hrow, lrow, cell⟩ := tab_item sq (dT.mono eG) x0 x1
      refine ⟨_, rfl, wp, _, 0, _, rfl, rfl, SqT.of (eHG _ _ hwp), rfl, _, rfl, pa, pxs, x, _, rfl, rfl, SqL.of hpa, hpi, ?_⟩
      dsimp only [tCB, tCons, tNil]
      refine lcN G (fun i acc G' => Ex G G' ∧ acc = ((rowM (tabM wb.parts.length wb.ties) ps x).take i).map V.int) (fun R r => ⟨_, rfl, qa, rfl, ⟨_, SqL.of (eHG _ _ hqa)⟩, r⟩) (eHG _ _ hqa) (by rw [List.length_map]; omega) ⟨Ex.refl _, rfl⟩ ?_ (fun _ => rfl) ?_ ?_
      · rintro i acc G ⟨_, rfl⟩
        rw [List.length_map, List.length_take]; omega
      · rintro i v acc G2 hi eG2 ⟨_, rfl⟩
        rw [List.getElem?_map] at hi
        obtain ⟨y, hy, rfl⟩ := Option.map_eq_some_iff.mp hi
        obtain ⟨y0, y1⟩ := bp y (List.mem_of_getElem? hy)
        refine ⟨_, rfl, _, rfl, tp, txs, x, _, rfl, rfl, SqL.of (eG2 _ _ htp), hrq, _, rfl, rq, _, y, _, rfl, rfl, SqL.of (eG2 _ _ hrow), cell y y0 y1, Ex.refl _, eG2, ?_⟩
        have : (rowM (tabM wb.parts.length wb.ties) ps x)[i]? = some (cellM (tabM wb.parts.length wb.ties) x y) := by rw [rowM, List.getElem?_map, hy]; rfl
        rw [List.take_add_one, this, List.map_append]; rfl
      · rintro acc2 G2 q eG2 hq ⟨_, rfl⟩
        rw [List.length_map, show ps.length = (rowM (tabM wb.parts.length wb.ties) ps x).length by simp [rowM], List.take_length]
        refine ⟨q, _, rfl, .inl ⟨SqL.of upd_same, fun tl ntl => ⟨sz2, fun kp nkp => ?_⟩⟩⟩
        have f1 := Ex.new (o := .lst ((rowM (tabM wb.parts.length wb.ties) ps x).map V.int)) hq
        have f2 := Ex.new (o := .tup ((rowM (tabM wb.parts.length wb.ties) ps x).map V.int)) ntl
        have f3 := Ex.new (o := .tup [.ref pq, .ref tl]) nkp
        have f := eG2.trans (f1.trans (f2.trans f3))
        refine ⟨f, eG.trans f, ?_⟩
        rw [List.take_add_one, hx, List.map_append]
        refine Dts.snoc ?_ (hd.mono f)
        exact ⟨kp, _, rfl, upd_same, _, _, rfl, part_mk (a := (partM wb x).1) (b := (partM wb x).2) (f _ _ hpq), _, _, rfl, ⟨tl, _, rfl, f3 _ _ upd_same, Dts.ints.mpr rfl⟩, rfl⟩
    · rintro acc G p eG hp ⟨_, hd⟩
      rw [List.length_map, List.take_length] at hd
      have f1 := Ex.new (o := .lst acc) hp
      refine ⟨p, acc, _, rfl, upd_same, hd.mono f1, PySem.W.AllAlike.of fun x y => alike_key _ _, .inl fun d h => ?_, fun d h => ?_, fun r ys hr' pm dd => ?_⟩
      · obtain ⟨x, _, rfl⟩ := List.mem_map.mp h
        exact ⟨_, _, rfl⟩
      · obtain ⟨x, _, rfl⟩ := List.mem_map.mp h
        have := dep_key (clsM wb ps x)
        omega
      · exact k (.ref r) _ ((e1.trans eG).trans (f1.trans (Ex.new hr'))) (dt_list upd_same (dd.mono (Ex.new hr')))
/-! ### class_bound -/
def keysM (wb : Web) (ps ls : List Int) : List PyData := ls.map fun x => eKey (clsM wb ps x)
theorem keys_cmp {wb vb : Web} (h1 : W72 wb) (h2 : W72 vb) (ps ls qs ms : List Int) : Cmp (keysM wb ps ls ++ keysM vb qs ms) := by
  have f : ∀ d ∈ keysM wb ps ls ++ keysM vb qs ms, ∃ c : Part × List Int, d = eKey c ∧ PartFine c.1 ∧ ∀ z ∈ c.2, 0 ≤ z ∧ z ≤ 9 := fun d hd => by
    rcases List.mem_append.mp hd with hd | hd
    · obtain ⟨x, _, rfl⟩ := List.mem_map.mp hd
      exact ⟨_, rfl, partM_fine h1.pf x, cls_small h1 ps x⟩
    · obtain ⟨x, _, rfl⟩ := List.mem_map.mp hd
      exact ⟨_, rfl, partM_fine h2.pf x, cls_small h2 qs x⟩
  refine ⟨fun d hd e he => ?_, fun d hd => ?_, fun d hd => ?_, fun d hd => ?_⟩
  · obtain ⟨c, rfl, _⟩ := f d hd
    obtain ⟨c', rfl, _⟩ := f e he
    exact alike_key _ _
  · obtain ⟨c, rfl, a, b⟩ := f d hd
    exact lf_key a b
  · obtain ⟨c, rfl, _⟩ := f d hd
    have := dep_key c
    omega
  · obtain ⟨c, rfl, _⟩ := f d hd
    intro z; cases z
noncomputable def boundM (wb vb : Web) (prs : List Hand) (m : Int) : Int := prs.length + icD (keysM wb (prs.map (·.1)) (rgI m wb.parts.length)) (keysM vb (prs.map (·.2)) (freeM vb.parts.length (prs.map (·.2))))
structure PrsOk (wb vb : Web) (prs : List Hand) : Prop where
  len : prs.length ≤ 30
  b1 : Below wb.parts.length (prs.map (·.1))
  b2 : Below vb.parts.length (prs.map (·.2))
def p_cb : Sp3 := fun vs H Q => ∃ (wv ov pw : V) (m : Int) (wb vb : Web) (prs : List Hand), vs = [wv, ov, pw, .int m] ∧ Dt H (eWeb wb) wv ∧ Dt H (eWeb vb) ov ∧ Dt H (eHands prs) pw ∧ W72 wb ∧ W72 vb ∧ PrsOk wb vb prs ∧ 0 ≤ m ∧ m ≤ wb.parts.length ∧ ∀ H', Ex H H' → Q (.int (boundM wb vb prs m)) H'
theorem d_class_bound {f : Addr} {fd : FuncData} (F : Fun K "class_bound" "class_bound" sclass_bound f fd) (hm : mg "class_bound" = some (.ref f)) (T : Txt mg) (d_left_classes : Df P w K mg base 2 "left_classes" ["web", "parts", "left"] p_lcs)
    (d_left_second : Df P w K mg base 1 "left_second" ["other", "pairs"] p_lsec) (d_shared : Df P w K mg base 1 "shared" ["first", "second"] p_shared) : Dk P w K mg base 3 "class_bound" ["web", "other", "pairs", "many"] p_cb sclass_bound := by
  refine Dk.body F hm biclass_bound scclass_bound (fun vs H Q h => ?_) (fun cdv A outer s H vs Q hr h => ?_)
  · obtain ⟨wv, ov, pw, m, wb, vb, prs, rfl, _⟩ := h; rfl
  · obtain ⟨wv, ov, pw, m, wb, vb, prs, rfl, dw, dv, dp, w7, v7, pk, m0, m1, k⟩ := h
    obtain ⟨wp, pa, ta, ha, sa, rfl, hwp, d1, d2, _, _⟩ := web_at dw
    obtain ⟨pxs, hpa, hpx⟩ := Dt.list_at d1
    obtain ⟨pp, qxs, rfl, hpp, hqx⟩ := dp
    have lp : pxs.length = wb.parts.length := by rw [hpx.length, List.length_map]
    have lq : qxs.length = prs.length := by rw [hqx.length, List.length_map]
    have pn := w7.pn
    have vn := v7.pn
    have lk := pk.len
    refine ⟨_, (pss_cons (ps_set (i := 4) scclass_bound.nd rfl (Or.inl rfl) (pe_c3 d_left_classes (hr.less (by decide)) rfl (pa_cons (pv 0) (pa_cons (pe_lc (own := [("part", 6), ("place", 7)]) rfl scclass_bound.nd (piL K (pv 2)) (blkOk_by (N := Nclass_bound) (sc := defScope sclass_bound) (by decide +kernel)) (fun _ _ _ _ _ => (pgT K 2 (pgs_cons (pg_name (i := 6) scclass_bound.nd rfl (Or.inl rfl)) (pgs_cons (pg_name (i := 7) scclass_bound.nd rfl (Or.inl rfl)) pgs_nil)))) (fun _ _ _ _ _ => pts_nil) (fun _ _ _ _ _ => (pe_fr (pv 6)))) (pa_cons (pe_listRg rfl rfl T.n_list (prg_2 rfl T.range (pv 3) (pe_callB (lenS K) (by rfl) T.n_len bt_len (pa_cons (pe_ix (ixT K) (pv 0) pe_int (fun _ _ => rfl)) pa_nil)))) pa_nil)))))
 (pss_cons (ps_set (i := 5) scclass_bound.nd rfl (Or.inl rfl) (pe_c3 d_left_classes (hr.less (by decide)) rfl (pa_cons (pv 1) (pa_cons (pe_lc (own := [("part", 6), ("place", 7)]) rfl scclass_bound.nd (piL K (pv 2)) (blkOk_by (N := Nclass_bound) (sc := defScope sclass_bound) (by decide +kernel)) (fun _ _ _ _ _ => (pgT K 2 (pgs_cons (pg_name (i := 6) scclass_bound.nd rfl (Or.inl rfl)) (pgs_cons (pg_name (i := 7) scclass_bound.nd rfl (Or.inl rfl)) pgs_nil)))) (fun _ _ _ _ _ => pts_nil) (fun _ _ _ _ _ => (pe_fr (pv 7)))) (pa_cons (pe_c3 d_left_second (hr.less (by decide)) rfl (pa_cons (pv 1) (pa_cons (pv 2) pa_nil))) pa_nil)))))
 (pss_one (ps_ret (pe_op op_add (pe_callB (lenS K) (by rfl) T.n_len bt_len (pa_cons (pv 2) pa_nil)) (pe_c3 d_shared (hr.less (by decide)) rfl (pa_cons (pv 4) (pa_cons (pv 5) pa_nil)))))))), ?_⟩
    -- first
    refine ⟨_, rfl, ?_⟩
    dsimp only [tCons, tNil]
    refine lcPn H (fun i acc G => Ex H G ∧ acc = ((prs.map (·.1)).take i).map V.int) (fun R r => ⟨_, rfl, pp, rfl, ⟨_, SqL.of hpp⟩, r⟩) hpp (by omega) ⟨Ex.refl _, rfl⟩ ?_ (fun _ _ => rfl) ?_ ?_
    · rintro i acc G ⟨_, rfl⟩
      rw [List.length_map, List.length_take]; omega
    · rintro i v acc G hi eG ⟨_, rfl⟩
      obtain ⟨t, ht, hv⟩ := item' hqx hi
      obtain ⟨q, rfl, hq⟩ := hand_at hv
      refine ⟨q, _, _, rfl, SqT.of (eG _ _ hq), _, rfl, Ex.refl _, eG, ?_⟩
      rw [List.take_add_one, List.getElem?_map, ht, List.map_append]; rfl
    rintro acc G fa eG hfa ⟨_, rfl⟩
    rw [lq, show prs.length = (prs.map (·.1)).length by simp, List.take_length]
    have e1 := eG.trans (Ex.new (o := .lst ((prs.map (·.1)).map V.int)) hfa)
    refine ⟨_, rfl, _, rfl, wp, _, 0, _, rfl, rfl, SqT.of (e1 _ _ hwp), rfl, pa, pxs, rfl, .inl (SqL.of (e1 _ _ hpa)), _, _, rfl, rfl, RgOk.of_le m0 (by omega) (by omega) (by omega), fun ra hra => ?_⟩
    rw [rgV_ints]
    have g1 := Ex.new (o := .lst ((rgI m pxs.length).map V.int)) hra
    have bel : Below wb.parts.length (rgI m pxs.length) := fun y hy => by
      obtain ⟨i, hi, rfl⟩ := List.mem_map.mp hy
      have := List.mem_range.mp hi
      omega
    have lrg : (rgI m pxs.length).length ≤ 100 := by simp [rgI]; omega
    refine ⟨.ref wp, .ref fa, .ref ra, wb, prs.map (·.1), rgI m pxs.length, rfl, dw.mono (e1.trans g1), ints_mk (g1 _ _ upd_same), ints_mk upd_same, w7, pk.b1, by simp; omega, bel, lrg, fun v1 H2 e2 dv1 => ?_⟩
    have e12 := (e1.trans g1).trans e2
    -- second
    refine ⟨_, rfl, ?_⟩
    dsimp only [tCons, tNil]
    refine lcPn H2 (fun i acc G => Ex H2 G ∧ acc = ((prs.map (·.2)).take i).map V.int) (fun R r => ⟨_, rfl, pp, rfl, ⟨_, SqL.of (e12 _ _ hpp)⟩, r⟩) (e12 _ _ hpp) (by omega) ⟨Ex.refl _, rfl⟩ ?_ (fun _ _ => rfl) ?_ ?_
    · rintro i acc G ⟨_, rfl⟩
      rw [List.length_map, List.length_take]; omega
    · rintro i v acc G hi eG ⟨_, rfl⟩
      obtain ⟨t, ht, hv⟩ := item' (hqx.mono e12) hi
      obtain ⟨q, rfl, hq⟩ := hand_at hv
      refine ⟨q, _, _, rfl, SqT.of (eG _ _ hq), _, rfl, Ex.refl _, eG, ?_⟩
      rw [List.take_add_one, List.getElem?_map, ht, List.map_append]; rfl
    rintro acc G2 sa2 eG2 hsa ⟨_, rfl⟩
    rw [lq, show prs.length = (prs.map (·.2)).length by simp, List.take_length]
    have g2 := eG2.trans (Ex.new (o := .lst ((prs.map (·.2)).map V.int)) hsa)
    have e13 := e12.trans g2
    refine ⟨_, rfl, _, rfl, ov, .ref pp, vb, prs, rfl, dv.mono e13, dt_list (e13 _ _ hpp) (hqx.mono e13), by omega, by omega, fun fv H3 e3 dfv => ?_⟩
    have belf : Below vb.parts.length (freeM vb.parts.length (prs.map (·.2))) := fun y hy => by
      obtain ⟨h1, _⟩ := List.mem_filter.mp hy
      obtain ⟨i, hi, rfl⟩ := List.mem_map.mp h1
      have := List.mem_range.mp hi
      omega
    have lfr : (freeM vb.parts.length (prs.map (·.2))).length ≤ 100 := Nat.le_trans (List.length_filter_le _ _) (by simp; omega)
    refine ⟨ov, .ref sa2, fv, vb, prs.map (·.2), freeM vb.parts.length (prs.map (·.2)), rfl, dv.mono (e13.trans e3), ints_mk (e3 _ _ upd_same), dfv, v7, pk.b2, by simp; omega, belf, lfr, fun v2 H4 e4 dv2 => ?_⟩
    have e34 := e3.trans e4
    have e14 := e13.trans e34
    -- len(pairs) + shared
    refine ⟨_, rfl, pp, qxs, rfl, .inl (SqL.of (e14 _ _ hpp)), _, rfl, _, rfl, v1, v2, srt (keysM wb (prs.map fun x : Hand => x.1) (rgI m pxs.length)), srt (keysM vb (prs.map fun x : Hand => x.2) (freeM vb.parts.length (prs.map fun x : Hand => x.2))), rfl, dv1.mono (g2.trans e34), dv2, (keys_cmp w7 v7 _ _ _ _).srt2, srt_sorted _, srt_sorted _,
      by rw [List.length_mergeSort]; simp only [keysM, List.length_map]; omega, by rw [List.length_mergeSort]; simp only [keysM, List.length_map]; omega, fun H5 e5 => ⟨_, _, rfl, rfl, ?_⟩⟩
    have z := k H5 (e14.trans e5)
    rw [icD_srt, lq, lp]
    exact z
/-! ### kind_bound -/
def p_kb : Sp3 := fun vs H Q => ∃ (wv ov : V) (wb vb : Web), vs = [wv, ov] ∧ Dt H (eWeb wb) wv ∧ Dt H (eWeb vb) ov ∧ W72 wb ∧ W72 vb ∧ ∀ H', Ex H H' → Q (.int (icD (wb.parts.map ePart) (vb.parts.map ePart))) H'
theorem d_kind_bound {f : Addr} {fd : FuncData} (F : Fun K "kind_bound" "kind_bound" skind_bound f fd) (hm : mg "kind_bound" = some (.ref f)) (T : Txt mg) (d_shared : Df P w K mg base 1 "shared" ["first", "second"] p_shared) : Dk P w K mg base 2 "kind_bound" ["web", "other"] p_kb skind_bound := by
  refine Dk.body F hm bikind_bound sckind_bound (fun vs H Q h => ?_) (fun cdv A outer s H vs Q hr h => ?_)
  · obtain ⟨wv, ov, wb, vb, rfl, _⟩ := h; rfl
  · obtain ⟨wv, ov, wb, vb, rfl, dw, dv, w7, v7, k⟩ := h
    obtain ⟨wp, pa, ta, ha, sa, rfl, hwp, d1, _, _, _⟩ := web_at dw
    obtain ⟨vp, qa, tb, hb, sb, rfl, hvp, d1', _, _, _⟩ := web_at dv
    have pn := w7.pn
    have vn := v7.pn
    refine ⟨_, (pss_one (ps_ret (pe_c3 d_shared (hr.less (by decide)) rfl (pa_cons (pe_callB (cr_sortD hr.u64) (by rfl) T.n_sorted bt_sorted (pa_cons (pe_ix (ixT K) (pv 0) pe_int (fun _ _ => rfl)) pa_nil)) (pa_cons (pe_callB (cr_sortD hr.u64) (by rfl) T.n_sorted bt_sorted (pa_cons (pe_ix (ixT K) (pv 1) pe_int (fun _ _ => rfl)) pa_nil)) pa_nil))))), ?_⟩
    refine ⟨_, rfl, wp, _, 0, _, rfl, rfl, SqT.of hwp, rfl, ?_⟩
    dsimp only [tNil]
    refine sort_any alike_part dep_part part_tup d1 fun p1 ys1 H1 e1 n1 hp1 l1 dd1 => ?_
    refine ⟨_, rfl, vp, _, 0, _, rfl, rfl, SqT.of (e1 _ _ hvp), rfl, ?_⟩
    dsimp only [tNil]
    refine sort_any alike_part dep_part part_tup (d1'.mono e1) fun p2 ys2 H2 e2 n2 hp2 l2 dd2 => ?_
    have cm : Cmp (wb.parts.map ePart ++ vb.parts.map ePart) := by
      have f : ∀ d ∈ wb.parts.map ePart ++ vb.parts.map ePart, ∃ q : Part, d = ePart q ∧ PartFine q := fun d hd => by
        rcases List.mem_append.mp hd with hd | hd
        · obtain ⟨q, hq, rfl⟩ := List.mem_map.mp hd; exact ⟨q, rfl, w7.pf q hq⟩
        · obtain ⟨q, hq, rfl⟩ := List.mem_map.mp hd; exact ⟨q, rfl, v7.pf q hq⟩
      refine ⟨fun d hd e he => ?_, fun d hd => ?_, fun d hd => ?_, fun d hd => ?_⟩
      · obtain ⟨q, rfl, _⟩ := f d hd
        obtain ⟨r, rfl, _⟩ := f e he
        exact alike_part _ _
      · obtain ⟨q, rfl, h⟩ := f d hd
        exact (sm_part h).lf
      · obtain ⟨q, rfl, _⟩ := f d hd
        have := dep_part q
        omega
      · obtain ⟨q, rfl, _⟩ := f d hd
        intro z; cases z
    refine ⟨.ref p1, .ref p2, srt (wb.parts.map ePart), srt (vb.parts.map ePart), rfl, dt_list (e2 _ _ hp1) (dd1.mono e2), dt_list hp2 dd2, cm.srt2, srt_sorted _, srt_sorted _, by rw [List.length_mergeSort, List.length_map]; omega, by rw [List.length_mergeSort, List.length_map]; omega, fun H3 e3 => ?_⟩
    rw [icD_srt]
    exact k H3 ((e1.trans e2).trans e3)
end
end W3

end
section
set_option Elab.async false
set_option linter.all false
set_option maxRecDepth 100000
set_option maxHeartbeats 4000000
namespace W3
open PySem PySem.Spec PyProof.Rows L2 M83 M72
open Evl (Ex)
/-! ### what a def's table grows: all else stays -/
/-- H' is H, but for the table at T and what is new -/
structure ExT (T : Addr) (H H' : Hp) : Prop where
  ex : Ex (rm T H) (rm T H')
  tab : GxR.TabG H' T
theorem ExT.of_ex {T : Addr} {H H' : Hp} (h : Ex H H') (t : GxR.TabG H T) : ExT T H H' := ⟨rm_ex h, let ⟨ps, e, r⟩ := t; ⟨ps, h _ _ e, r⟩⟩
theorem ExT.trans {T : Addr} {H G F : Hp} (a : ExT T H G) (b : ExT T G F) : ExT T H F := ⟨a.ex.trans b.ex, b.tab⟩
theorem ExT.get {T : Addr} {H H' : Hp} (h : ExT T H H') {b : Addr} {o : HO} (nb : b ≠ T) (e : H b = some o) : H' b = some o := ex_rm _ _ (h.ex _ _ (rm_at nb e))
theorem ExT.of_tabbed {T : Addr} {H H' : Hp} (h : GxR.Tabbed T H H') : ExT T H H' := ⟨fun b o e => by
  obtain ⟨nb, e'⟩ := of_rm e
  exact rm_at nb (by rw [h.2 b nb]; exact e'), h.1⟩
section
variable {K : PySem.W.Frag} {σ : L2.St} {H H1 : Hp} {vs : List Nat} {Q : VK} {te : TE} {tt : TT} {wi : TI} {T : Addr}
def AtT (T : Addr) (H1 : Hp) (D : Addr) (P : List V → Hp → Prop) (H : Hp) : Prop := ∃ acc G, H = upd G D (.lst acc) ∧ G D = none ∧ D ≠ T ∧ ExT T H1 G ∧ acc.length < sizeLine ∧ P acc G
theorem lc_ntT {a : Addr} {xs : List V} {j : Nat} {D : Addr} (P : Nat → List V → Hp → Prop) (hT : GxR.TabG H1 T) (hx : H1 a = some (.lst xs)) (hz : xs.length ≤ 100000) (h0 : P 0 [] H1) (hlen : ∀ i acc G, P i acc G → acc.length ≤ i)
    (hw : ∀ x, wipe ((wipe σ vs).set j (some x)) vs = wipe σ vs)
    (step : ∀ i x acc G, xs[i]? = some x → ExT T H1 G → P i acc G → tt ((wipe σ vs).set j (some x)) G fun b G3 => ExT T G G3 ∧ (b = true → te ((wipe σ vs).set j (some x)) G3 fun y G4 => ExT T G3 G4 ∧ P (i + 1) (acc ++ [y]) G4) ∧ (b = false → P (i + 1) acc G3))
    (done : ∀ acc G p, ExT T H1 G → G p = none → P xs.length acc G → Q (.ref p) (upd G p (.lst acc))) (hD : H1 D = none) :
    ∃ W : Nat → Nat → Hp → Prop, (∃ m, W 0 m (upd H1 D (.lst []))) ∧ ∀ i m H, W i m H →
      ((Itl K a).stop i H ∧ Q (.ref D) H) ∨ ((Itl K a).go i H ∧ ∃ Nx : Hp → Prop, (∀ H', Nx H' → ∃ m', m' < m ∧ W (i + 1) m' H') ∧ ∀ x H', (Itl K a).yld i H x H' → gName j x (wipe σ vs) H' fun σ2 H2 => wipe σ2 vs = wipe σ vs ∧ tFrT tt σ2 H2 fun b H3 =>
        if b = true then tFr te σ2 H3 fun y H4 => ∃ acc, H4 D = some (.lst acc) ∧ acc.length < sizeLine ∧ Nx (upd H4 D (.lst (acc ++ [y]))) else Nx H3) := by
  have aT : a ≠ T := fun z => by obtain ⟨ps, e, _⟩ := hT; rw [← z, hx] at e; cases e
  have dT : D ≠ T := fun z => by obtain ⟨ps, e, _⟩ := hT; rw [← z, hD] at e; cases e
  refine lc_list (xs := xs) (fun i => AtT T H1 D (P i)) ⟨[], H1, rfl, hD, dT, ExT.of_ex (Ex.refl _) hT, (by show 0 < sizeLine; decide), h0⟩ (fun i H _ ⟨acc, G, eH, n, _, e, _, _⟩ => ?_) (fun i x H hi ⟨acc, G, eH, n, _, e, l, p⟩ => ?_) fun H ⟨acc, G, eH, n, _, e, _, p⟩ => ?_
  · subst eH; exact SqL.of (ex_upd n _ _ (e.get aT hx))
  · subst eH
    have hz1 : acc.length + 1 < sizeLine := by
      have h1 := hlen i acc G p
      have h2 := (List.getElem?_eq_some_iff.mp hi).1
      have h3 : (100002 : Nat) < sizeLine := by decide
      omega
    refine ⟨hw x, D, acc, fun b G3 => ExT T G G3 ∧ (b = true → te ((wipe σ vs).set j (some x)) G3 fun y G4 => ExT T G3 G4 ∧ P (i + 1) (acc ++ [y]) G4) ∧ (b = false → P (i + 1) acc G3), upd_same, by rw [rm_upd n]; exact step i x acc G hi e p, fun b G3 ⟨e3, h1, h2⟩ n3 => ?_⟩
    cases b with
    | false => exact iteF ⟨acc, G3, rfl, n3, dT, e.trans e3, by omega, h2 rfl⟩
    | true =>
      refine iteT ⟨D, acc, fun y G4 => ExT T G3 G4 ∧ P (i + 1) (acc ++ [y]) G4, upd_same, by rw [rm_upd n3]; exact h1 rfl, fun y G4 ⟨e4, p4⟩ n4 => ?_⟩
      exact ⟨acc, upd_same, by omega, acc ++ [y], G4, by rw [upd_upd], n4, dT, (e.trans e3).trans e4, by rw [List.length_append]; exact hz1, p4⟩
  · subst eH; exact done acc G D e n p
theorem lcNtT (H1 : Hp) {a : Addr} {xs : List V} {j : Nat} (P : Nat → List V → Hp → Prop) (hi : ∀ R : It → Hp → Prop, R (Itl K a) H1 → wi σ H R) (hT : GxR.TabG H1 T) (hx : H1 a = some (.lst xs)) (hz : xs.length ≤ 100000) (h0 : P 0 [] H1) (hlen : ∀ i acc G, P i acc G → acc.length ≤ i)
    (hw : ∀ x, wipe ((wipe σ vs).set j (some x)) vs = wipe σ vs)
    (step : ∀ i x acc G, xs[i]? = some x → ExT T H1 G → P i acc G → tt ((wipe σ vs).set j (some x)) G fun b G3 => ExT T G G3 ∧ (b = true → te ((wipe σ vs).set j (some x)) G3 fun y G4 => ExT T G3 G4 ∧ P (i + 1) (acc ++ [y]) G4) ∧ (b = false → P (i + 1) acc G3))
    (done : ∀ acc G p, ExT T H1 G → G p = none → P xs.length acc G → Q (.ref p) (upd G p (.lst acc))) : tLc wi (gName j) (tFrT tt) (tFr te) vs σ H Q :=
  hi _ fun _ hD => lc_ntT P hT hx hz h0 hlen hw step done hD
end
section
variable {P : Program} {w : World} {K : PySem.W.Frag} {mg : Str → Option Value} {base : Heap}
/-! ### is_apart -/
def withinM (wb : Web) (prs : List Hand) (m : Int) : List Tie := wb.ties.filter fun t => ([t.1, t.2.1]).all fun z => decide (m ≤ z) || decide (z ∈ prs.map (·.1))
def ApartP (wb : Web) (prs : List Hand) (m : Int) : Prop := ∃ p0 rest, prs = p0 :: rest ∧ ∃ q ∈ prs, ¬ RT (withinM wb prs m) p0.1 q.1
def p_apart (tP : Addr) : Sp3 := fun vs H Q => ∃ (wv pw : V) (m : Int) (wb : Web) (prs : List Hand), vs = [wv, pw, .int m] ∧ Dt (rm tP H) (eWeb wb) wv ∧ Dt (rm tP H) (eHands prs) pw ∧ W72 wb ∧ prs.length ≤ 30 ∧ Below wb.parts.length (prs.map (·.1)) ∧ Lf (eHands prs) ∧ GxR.TabG H tP ∧
  ∀ (b : Bool) H', ExT tP H H' → (b = true ↔ ApartP wb prs m) → Q (.bl b) H'
theorem d_test {f c tP : Addr} {N : List Str} {oc kV doc pm ct : Value} {od an : Option Addr} {osl : Array (Option Value)} (hm : mg "is_apart" = some (.ref f))
    (lk : K.lookup f = some ⟨oc, od, .func (PySem.W.fnOf "is_apart" "is_apart" (defArgs sis_apart) (defBody sis_apart) (defScope sis_apart) .none kV doc pm an (.ref c) ct), osl⟩) (hcd : PySem.W.codeIn K (.ref c) "is_apart" = true) (kp : PySem.W.keepIn K (.ref f) = true)
    (T : Txt mg) (d_piece_of : Df P w K mg base 1 "piece_of" ["near", "start"] p_piece_of) (d_near_of : Df P w K mg base 1 "near_of" ["many", "ties"] p_near_of) (TB : GxR.TabB base mg c tP) : Dk P w K mg base 2 "is_apart" ["web", "pairs", "many"] (p_apart tP) sis_apart := by
  refine Df.bodyC (N := Nis_apart) hm lk hcd kp biis_apart scis_apart (fun vs H Q h => ?_) (fun A outer s H vs Q hr h => ?_)
  · obtain ⟨wv, pw, m, wb, prs, rfl, _⟩ := h; rfl
  · obtain ⟨wv, pw, m, wb, prs, rfl, dw, dp, w7, lk, bel, lf, hT, k⟩ := h
    refine ⟨_, (pss_cons (ps_if (pt_cmpR (opEqD K hr.u64) (pv 1) (pe_lst pa_nil) (nomark _)) (pss_one (ps_ret pe_bl)) pss_nil)
 (pss_cons (ps_set (i := 3) scis_apart.nd rfl (Or.inr rfl) (pe_lc (own := [("part", 7), ("place", 8)]) rfl scis_apart.nd (piL K (pv 1)) (blkOk_by (N := Nis_apart) (sc := defScope sis_apart) (by decide +kernel)) (fun _ _ _ _ _ => (pgT K 2 (pgs_cons (pg_name (i := 7) scis_apart.nd rfl (Or.inl rfl)) (pgs_cons (pg_name (i := 8) scis_apart.nd rfl (Or.inl rfl)) pgs_nil)))) (fun _ _ _ _ _ => pts_nil) (fun _ _ _ _ _ => (pe_fr (pv 7)))))
 (pss_cons (ps_setLc (own := [("tie", 6)]) (i := 4) rfl scis_apart.nd rfl rfl (sw_true rfl rfl rfl (by decide +kernel)) (piL K (pe_ix (ixT K) (pv 0) pe_int (fun _ _ => rfl))) (blkOk_by (N := Nis_apart) (sc := defScope sis_apart) (by decide +kernel)) (fun _ _ _ _ _ => (pg_name (i := 6) scis_apart.nd rfl (Or.inl rfl))) (fun _ _ _ _ _ => (pts_fr (pts_one (pt_val (pe_allGe (j := 3) (l := 2) K hr.room TB rfl T.n_all bt_all (pe_slice (slT K) (pv 6) po_none (po_some pe_int)) ⟨rfl, rfl, (by decide), rfl, rfl, (by decide)⟩ rfl rfl rfl rfl rfl (Or.inl rfl) rfl (Or.inl rfl)))))) (fun _ _ _ _ _ => (pe_fr (pv 6))))
 (pss_cons (ps_set (i := 5) scis_apart.nd rfl (Or.inr rfl) (pe_c3 d_piece_of (hr.less (by decide)) rfl (pa_cons (pe_c3 d_near_of (hr.less (by decide)) rfl (pa_cons (pe_callB (lenS K) (by rfl) T.n_len bt_len (pa_cons (pe_ix (ixT K) (pv 0) pe_int (fun _ _ => rfl)) pa_nil)) (pa_cons (pv 4) pa_nil))) (pa_cons (pe_ix (ixL K) (pv 3) pe_int (fun _ _ => rfl)) pa_nil))))
 (pss_one (ps_ret (pe_anyNot (j := 5) K hr.room TB rfl T.n_any bt_any (pv 3) ⟨rfl, rfl, (by decide), rfl, rfl, (by decide)⟩ rfl rfl rfl (Or.inl rfl)))))))), ?_⟩
    have eR : Ex (rm tP H) H := ex_rm
    obtain ⟨wp, pa, ta, ha, sa, rfl, hwp, d1, d2, _, _⟩ := web_at dw
    obtain ⟨pxs, hpa, hpx⟩ := Dt.list_at d1
    obtain ⟨txs, hta, htx⟩ := Dt.list_at d2
    obtain ⟨pp, qxs, rfl, hpp, hqx⟩ := dp
    have lp : pxs.length = wb.parts.length := by rw [hpx.length, List.length_map]
    have lt : txs.length = wb.ties.length := by rw [htx.length, List.length_map]
    have lq : qxs.length = prs.length := by rw [hqx.length, List.length_map]
    have pn := w7.pn
    have tn := w7.tn
    -- pairs == []
    refine ⟨_, rfl, Nat.zero_le _, fun np hnp => ?_⟩
    have x0 : Ex H (upd H np (.lst [])) := Ex.new hnp
    refine ⟨eHands prs, .list [], Dt.dp ((dt_list hpp hqx).mono (eR.trans x0)), Dt.dp (dt_nil upd_same), shaped_of lf (dep_any dep_hand _), shaped_of nil_lf nil_dep, _, rfl, ?_⟩
    have hT0 : GxR.TabG (upd H np (.lst [])) tP := (ExT.of_ex x0 hT).tab
    have y0 : ExT tP H (upd H np (.lst [])) := ExT.of_ex x0 hT
    generalize upd H np (.lst []) = G0 at x0 hT0 y0
    rw [show eHands prs = .list (prs.map eHand) from rfl, eqv_nil]
    rcases prs with _ | ⟨p0, rest⟩
    · exact iteT (k false _ y0 ⟨fun z => (by cases z), fun ⟨p0, rest, e, _⟩ => (by cases e)⟩)
    refine iteF ?_
    generalize hpr : p0 :: rest = prs at *
    -- firsts
    dsimp only [tNext]
    refine go_sets ?_
    refine (lcPn G0 (fun i acc G => Ex G0 G ∧ acc = ((prs.map (·.1)).take i).map V.int) (fun R r => ⟨_, rfl, pp, rfl, ⟨_, SqL.of ((eR.trans x0) _ _ hpp)⟩, r⟩) ((eR.trans x0) _ _ hpp) (by omega) ⟨Ex.refl _, rfl⟩ ?_ (fun _ _ => rfl) ?_ ?_)
    · rintro i acc G ⟨_, rfl⟩
      rw [List.length_map, List.length_take]; omega
    · rintro i v acc G hi eG ⟨_, rfl⟩
      obtain ⟨t, ht, hv⟩ := item' hqx hi
      obtain ⟨q, rfl, hq⟩ := hand_at hv
      refine ⟨q, _, _, rfl, SqT.of (eG _ _ ((eR.trans x0) _ _ hq)), _, rfl, Ex.refl _, eG, ?_⟩
      rw [List.take_add_one, List.getElem?_map, ht, List.map_append]; rfl
    rintro acc G fa eG hfa ⟨_, rfl⟩
    rw [lq, show prs.length = (prs.map (·.1)).length by simp, List.take_length]
    have x1 : Ex G0 (upd G fa (.lst ((prs.map (·.1)).map V.int))) := eG.trans (Ex.new hfa)
    have y1 := y0.trans (ExT.of_ex x1 hT0)
    have hfa1 : upd G fa (.lst ((prs.map (·.1)).map V.int)) fa = some (.lst ((prs.map (·.1)).map V.int)) := upd_same
    have x2 := eR.trans (x0.trans x1)
    generalize upd G fa (.lst ((prs.map (·.1)).map V.int)) = G1 at x1 y1 hfa1 x2
    clear eG hfa
    have nf : fa ≠ tP := fun z => by obtain ⟨ps, e, _⟩ := y1.tab; rw [← z, hfa1] at e; cases e
    -- within
    refine go_sets (lcNtT G1 (T := tP) (fun i acc G => ExT tP G1 G ∧ Dts (rm tP G) (((wb.ties.take i).filter fun t => ([t.1, t.2.1]).all fun z => decide (m ≤ z) || decide (z ∈ prs.map (·.1))).map eTie) acc)
      (fun R r => ⟨_, rfl, wp, _, 1, _, rfl, rfl, SqT.of (x2 _ _ hwp), rfl, ta, rfl, ⟨_, SqL.of (x2 _ _ hta)⟩, r⟩) y1.tab (x2 _ _ hta) (by omega) ⟨ExT.of_ex (Ex.refl _) y1.tab, rfl⟩ ?_ (fun _ => rfl) ?_ ?_)
    · rintro i acc G ⟨_, hd⟩
      rw [hd.length, List.length_map]
      exact Nat.le_trans (List.length_filter_le _ _) (by rw [List.length_take]; omega)
    · rintro i v acc G hi eG ⟨_, hd⟩
      obtain ⟨t, ht, hv⟩ := item' htx hi
      obtain ⟨q, rfl, hq⟩ := tie_at hv
      have z1 := (y1.trans eG).ex
      have hqG := (z1.trans ex_rm) _ _ hq
      have hfG : G fa = some (.lst ((prs.map (·.1)).map V.int)) := eG.get nf hfa1
      refine ⟨fa, m, rfl, rfl, _, rfl, 2, rfl, q, _, rfl, SqT.of hqG, (by simp [HT.sIx]), fun sp hsp => ?_⟩
      rw [show cutV [V.int t.1, V.int t.2.1, V.int t.2.2] none (some 2) = [t.1, t.2.1].map V.int from rfl]
      have g1 := ExT.of_ex (Ex.new (o := .tup ([t.1, t.2.1].map V.int)) hsp) eG.tab
      refine ⟨sp, [t.1, t.2.1], prs.map (·.1), rfl, .inr (SqT.of upd_same), g1.tab, SqL.of (Ex.new hsp _ _ hfG), fun H2 t2 => ⟨_, rfl, ?_⟩⟩
      have g2 := g1.trans (ExT.of_tabbed t2)
      have e5 : wb.ties.take (i + 1) = wb.ties.take i ++ [t] := by rw [List.take_add_one, ht]; rfl
      rw [e5, List.filter_append, List.filter_cons, List.filter_nil]
      refine ⟨g2, fun hb => ⟨_, rfl, ExT.of_ex (Ex.refl _) g2.tab, eG.trans g2, ?_⟩, fun hb => ⟨eG.trans g2, ?_⟩⟩
      · rw [if_pos hb, List.map_append]
        exact Dts.snoc (hv.mono (z1.trans g2.ex)) (hd.mono g2.ex)
      · rw [if_neg (by rw [hb]; decide), List.append_nil]
        exact hd.mono g2.ex
    rintro acc G wa eG hwa ⟨_, hd⟩
    rw [lt, List.take_length] at hd
    have y2 := eG.trans (ExT.of_ex (Ex.new (o := .lst acc) hwa) eG.tab)
    have hw2 : upd G wa (.lst acc) wa = some (.lst acc) := upd_same
    have dw2 : Dt (upd G wa (.lst acc)) (eTies (withinM wb prs m)) (.ref wa) := dt_list hw2 ((hd.mono ex_rm).mono (Ex.new hwa))
    generalize upd G wa (.lst acc) = G2 at y2 hw2 dw2
    have z2 := (y1.trans y2).ex.trans (ex_rm (D := tP) (H := G2))
    have hf2 : G2 fa = some (.lst ((prs.map (·.1)).map V.int)) := y2.get nf hfa1
    have lwi : (withinM wb prs m).length ≤ 1000 := Nat.le_trans (List.length_filter_le _ _) (by omega)
    have twi : TiesOk wb.parts.length (withinM wb prs m) := fun t ht => w7.tok t (List.mem_filter.mp ht).1
    have b0 := bel p0.1 (by rw [← hpr]; simp)
    -- piece
    refine go_sets ?_
    refine ⟨_, rfl, wp, _, 0, _, rfl, rfl, SqT.of (z2 _ _ hwp), rfl, pa, pxs, rfl, .inl (SqL.of (z2 _ _ hpa)), _, rfl, ?_⟩
    refine ⟨wb.parts.length, _, withinM wb prs m, by rw [lp], by omega, lwi, twi, dw2, fun Nn v' H3 e3 ok dN => ?_⟩
    refine ⟨_, rfl, fa, _, 0, _, rfl, rfl, SqL.of (e3 _ _ hf2), (atI_nat (v := V.int p0.1) (j := 0) (by rw [← hpr]; rfl)), ?_⟩
    refine ⟨v', Nn, p0.1, rfl, by rw [ok.1]; omega, near_rows twi ok, b0.1, by rw [ok.1]; exact b0.2, dN, fun ms v2 H4 e4 hms dm => ?_⟩
    obtain ⟨ma, rfl, hma⟩ := ints_at dm
    have y4 := (y0.trans (ExT.of_ex x1 hT0)).trans (y2.trans (ExT.of_ex (e3.trans e4) y2.tab))
    -- any
    refine ⟨ma, rfl, _, rfl, fa, prs.map (·.1), ms, rfl, .inl (SqL.of ((e3.trans e4) _ _ hf2)), y4.tab, SqL.of hma, fun H5 t5 => k _ H5 (y4.trans (ExT.of_tabbed t5)) ?_⟩
    rw [List.any_eq_true]
    constructor
    · rintro ⟨z, hz, hn⟩
      obtain ⟨q, hq, rfl⟩ := List.mem_map.mp hz
      refine ⟨p0, rest, hpr.symm, q, hq, fun r => ?_⟩
      rw [← rn_rt twi ok b0.1, ← hms] at r
      simp [r] at hn
    · rintro ⟨p1, rest1, e, q, hq, hn⟩
      rw [← hpr] at e
      cases e
      refine ⟨q.1, List.mem_map_of_mem hq, ?_⟩
      rw [← rn_rt twi ok b0.1, ← hms] at hn
      simp [hn]
end
end W3

end
section
set_option Elab.async false
set_option linter.all false
set_option maxRecDepth 100000
set_option maxHeartbeats 4000000
namespace W3
open PySem PySem.Spec PyProof.Rows L2 M83 M72
open Evl (Ex)
theorem alike_cls (c d : Part × List Int) : PySem.W.alike (eCls c) (eCls d) = true := by
  simp only [eCls, eInts, PySem.W.alike, PySem.W.alikeAll, alike_ints', Bool.and_self]
theorem dep_cls (c : Part × List Int) : (eCls c).depth ≤ 2 := by
  have b := depthAll_map (enc := PyData.int) (k := 0) (as := c.2) fun a _ => by simp [PyData.depth]
  simp only [eCls, eInts, PyData.depth, PyData.depthAll] at b ⊢
  omega
theorem lf_cls {c : Part × List Int} (h : PartFine c.1) (h2 : ∀ z ∈ c.2, 0 ≤ z ∧ z ≤ 9) : Lf (eCls c) := by
  have a := (sm_part h).lf
  exact ⟨a.1, a.2.1, Lfs.map fun z hz => (by have := h2 z hz; show z.natAbs < 1000000; omega), trivial⟩
theorem cls_inj : ∀ c d : Part × List Int, eCls c = eCls d → c = d := fun c d h => key_inj c d (by
  obtain ⟨⟨p1, p2⟩, r⟩ := c
  obtain ⟨⟨q1, q2⟩, s⟩ := d
  simp only [eCls, eInts, PyData.tuple.injEq, List.cons.injEq, and_true, PyData.str.injEq, PyData.int.injEq, PyData.list.injEq] at h
  simp only [eKey, ePart, h.1, h.2.1, h.2.2])
theorem eqv_cls {c d : Part × List Int} (hc : Lf (eCls c)) (hd : Lf (eCls d)) : PyData.eqv (eCls c) (eCls d) = decide (c = d) := by
  rw [Bool.eq_iff_iff, decide_eq_true_iff]
  exact ⟨fun h => cls_inj _ _ (eqv_eq _ _ (alike_cls c d) h), fun h => by rw [h]; exact eqv_self _ hd⟩
section
variable {P : Program} {w : World} {K : PySem.W.Frag} {mg : Str → Option Value} {base : Heap}
/-! ### left_candidates -/
def candM (wb vb : Web) (prs : List Hand) (m : Int) : List Int := (freeM vb.parts.length (prs.map (·.2))).filter fun z => decide (clsM vb (prs.map (·.2)) z = clsM wb (prs.map (·.1)) m)
def p_cand : Sp3 := fun vs H Q => ∃ (wv ov pw : V) (m : Int) (wb vb : Web) (prs : List Hand), vs = [wv, ov, pw, .int m] ∧ Dt H (eWeb wb) wv ∧ Dt H (eWeb vb) ov ∧ Dt H (eHands prs) pw ∧ W72 wb ∧ W72 vb ∧ PrsOk wb vb prs ∧ 0 ≤ m ∧ m < wb.parts.length ∧
  ∀ q H', Ex H H' → H q = none → H' q = some (.lst ((candM wb vb prs m).map V.int)) → Q (.ref q) H'
theorem d_left_candidates {f : Addr} {fd : FuncData} (F : Fun K "left_candidates" "left_candidates" sleft_candidates f fd) (hm : mg "left_candidates" = some (.ref f)) (T : Txt mg) (d_part_class : Df P w K mg base 2 "part_class" ["web", "parts", "part"] p_pcls)
    (d_left_second : Df P w K mg base 1 "left_second" ["other", "pairs"] p_lsec) : Dk P w K mg base 3 "left_candidates" ["web", "other", "pairs", "many"] p_cand sleft_candidates := by
  refine Dk.body F hm bileft_candidates scleft_candidates (fun vs H Q h => ?_) (fun cdv A outer s H vs Q hr h => ?_)
  · obtain ⟨wv, ov, pw, m, wb, vb, prs, rfl, _⟩ := h; rfl
  · obtain ⟨wv, ov, pw, m, wb, vb, prs, rfl, dw, dv, dp, w7, v7, pk, m0, m1, k⟩ := h
    obtain ⟨pp, qxs, rfl, hpp, hqx⟩ := dp
    have lq : qxs.length = prs.length := by rw [hqx.length, List.length_map]
    have pn := w7.pn
    have vn := v7.pn
    have tn := w7.tn
    have vtn := v7.tn
    have lk := pk.len
    refine ⟨_, (pss_cons (ps_set (i := 4) scleft_candidates.nd rfl (Or.inr rfl) (pe_c3 d_part_class (hr.less (by decide)) rfl (pa_cons (pv 0) (pa_cons (pe_lc (own := [("part", 7), ("place", 6)]) rfl scleft_candidates.nd (piL K (pv 2)) (blkOk_by (N := Nleft_candidates) (sc := defScope sleft_candidates) (by decide +kernel)) (fun _ _ _ _ _ => (pgT K 2 (pgs_cons (pg_name (i := 7) scleft_candidates.nd rfl (Or.inl rfl)) (pgs_cons (pg_name (i := 6) scleft_candidates.nd rfl (Or.inl rfl)) pgs_nil)))) (fun _ _ _ _ _ => pts_nil) (fun _ _ _ _ _ => (pe_fr (pv 7)))) (pa_cons (pv 3) pa_nil)))))
 (pss_cons (ps_set (i := 5) scleft_candidates.nd rfl (Or.inr rfl) (pe_lc (own := [("part", 7), ("place", 6)]) rfl scleft_candidates.nd (piL K (pv 2)) (blkOk_by (N := Nleft_candidates) (sc := defScope sleft_candidates) (by decide +kernel)) (fun _ _ _ _ _ => (pgT K 2 (pgs_cons (pg_name (i := 7) scleft_candidates.nd rfl (Or.inl rfl)) (pgs_cons (pg_name (i := 6) scleft_candidates.nd rfl (Or.inl rfl)) pgs_nil)))) (fun _ _ _ _ _ => pts_nil) (fun _ _ _ _ _ => (pe_fr (pv 6)))))
 (pss_one (ps_ret (pe_lc (own := [("place", 6)]) rfl scleft_candidates.nd (piL K (pe_c3 d_left_second (hr.less (by decide)) rfl (pa_cons (pv 1) (pa_cons (pv 2) pa_nil)))) (blkOk_by (N := Nleft_candidates) (sc := defScope sleft_candidates) (by decide +kernel)) (fun _ _ _ _ _ => (pg_name (i := 6) scleft_candidates.nd rfl (Or.inl rfl))) (fun _ _ _ _ _ => (pts_fr (pts_one (pt_cmpR (opEqD K hr.u64) (pe_c3 d_part_class (hr.less (by decide)) rfl (pa_cons (pv 1) (pa_cons (pv 5) (pa_cons (pv 6) pa_nil)))) (pv 4) (nomark _))))) (fun _ _ _ _ _ => (pe_fr (pv 6)))))))), ?_⟩
    have fst : ∀ (G0 : Hp) (j1 j2 : Nat) (σ : L2.St) (vs : List Nat) (Q : VK) (wi : TI), (∀ R : It → Hp → Prop, R (Itl K pp) G0 → wi σ G0 R) → Ex H G0 → (∀ x y, wipe (((wipe σ vs).set j1 (some x)).set j2 (some y)) vs = wipe σ vs) → j1 ≠ j2 → j1 < (wipe σ vs).length → (∀ fa G, Ex G0 G → G0 fa = none → G fa = some (.lst ((prs.map (·.1)).map V.int)) → Q (.ref fa) G) →
        tLc wi (gTup K 2 (gCons (gName j1) (gCons (gName j2) gNil))) tYes (tFr (tVar j1)) vs σ G0 Q := by
      intro G0 j1 j2 σ vs Q wi hi x0 hw nj hl kk
      refine lcPn G0 (fun i acc G => Ex G0 G ∧ acc = ((prs.map (·.1)).take i).map V.int) hi (x0 _ _ hpp) (by omega) ⟨Ex.refl _, rfl⟩ ?_ hw ?_ ?_
      · rintro i acc G ⟨_, rfl⟩
        rw [List.length_map, List.length_take]; omega
      · rintro i v acc G hi eG ⟨_, rfl⟩
        obtain ⟨t, ht, hv⟩ := item' hqx hi
        obtain ⟨q, rfl, hq⟩ := hand_at hv
        refine ⟨q, _, _, rfl, SqT.of (eG _ _ (x0 _ _ hq)), .int t.1, ?_, Ex.refl _, eG, ?_⟩
        · rw [List.getElem?_set_ne (fun z => nj z.symm), List.getElem?_set_self hl]
        · rw [List.take_add_one, List.getElem?_map, ht, List.map_append]; rfl
      rintro acc G fa eG hfa ⟨_, rfl⟩
      rw [lq, show prs.length = (prs.map (·.1)).length by simp, List.take_length]
      exact kk _ _ (eG.trans (Ex.new hfa)) (Evl.fresh_back eG hfa) upd_same
    have snd : ∀ (G0 : Hp) (j1 j2 : Nat) (σ : L2.St) (vs : List Nat) (Q : VK) (wi : TI), (∀ R : It → Hp → Prop, R (Itl K pp) G0 → wi σ G0 R) → Ex H G0 → (∀ x y, wipe (((wipe σ vs).set j1 (some x)).set j2 (some y)) vs = wipe σ vs) → j2 < (wipe σ vs).length → (∀ fa G, Ex G0 G → G0 fa = none → G fa = some (.lst ((prs.map (·.2)).map V.int)) → Q (.ref fa) G) →
        tLc wi (gTup K 2 (gCons (gName j1) (gCons (gName j2) gNil))) tYes (tFr (tVar j2)) vs σ G0 Q := by
      intro G0 j1 j2 σ vs Q wi hi x0 hw hl kk
      refine lcPn G0 (fun i acc G => Ex G0 G ∧ acc = ((prs.map (·.2)).take i).map V.int) hi (x0 _ _ hpp) (by omega) ⟨Ex.refl _, rfl⟩ ?_ hw ?_ ?_
      · rintro i acc G ⟨_, rfl⟩
        rw [List.length_map, List.length_take]; omega
      · rintro i v acc G hi eG ⟨_, rfl⟩
        obtain ⟨t, ht, hv⟩ := item' hqx hi
        obtain ⟨q, rfl, hq⟩ := hand_at hv
        refine ⟨q, _, _, rfl, SqT.of (eG _ _ (x0 _ _ hq)), .int t.2, ?_, Ex.refl _, eG, ?_⟩
        · rw [List.getElem?_set_self (by rw [List.length_set]; exact hl)]
        · rw [List.take_add_one, List.getElem?_map, ht, List.map_append]; rfl
      rintro acc G fa eG hfa ⟨_, rfl⟩
      rw [lq, show prs.length = (prs.map (·.2)).length by simp, List.take_length]
      exact kk _ _ (eG.trans (Ex.new hfa)) (Evl.fresh_back eG hfa) upd_same
    -- wanted
    refine go_sets ?_
    refine ⟨_, rfl, ?_⟩
    dsimp only [tCons, tNil]
    refine fst H 7 6 _ _ _ _ (fun R r => ⟨_, rfl, pp, rfl, ⟨_, SqL.of hpp⟩, r⟩) (Ex.refl _) (fun _ _ => rfl) (by decide) (by simp [wipe, L2.start]) fun fa H1 e1 _ hfa => ?_
    refine ⟨_, rfl, _, _, m, wb, prs.map (·.1), rfl, dw.mono e1, ints_mk hfa, by omega, by omega, w7.tok, m0, m1, pk.b1, by simp; omega, fun cp cq H2 e2 _ hcp hcq => ?_⟩
    have e12 := e1.trans e2
    -- places
    refine go_sets ?_
    refine snd H2 7 6 _ _ _ _ (fun R r => ⟨_, rfl, pp, rfl, ⟨_, SqL.of (e12 _ _ hpp)⟩, r⟩) e12 (fun _ _ => rfl) (by simp [wipe, L2.start]) fun pa H3 e3 _ hpa => ?_
    have e13 := e12.trans e3
    have dc := cls_mk (c := clsM wb (prs.map (·.1)) m) (e3 _ _ hcp) (e3 _ _ hcq)
    refine go_ret ?_
    refine ⟨_, rfl, _, rfl, ov, .ref pp, vb, prs, rfl, dv.mono e13, dt_list (e13 _ _ hpp) (hqx.mono e13), by omega, by omega, fun lv H4 e4 dl => ?_⟩
    obtain ⟨la, rfl, hla⟩ := ints_at dl
    refine ⟨la, rfl, ⟨_, SqL.of hla⟩, fun D hD => ?_⟩
    have e14 := e13.trans e4
    have lfr : (freeM vb.parts.length (prs.map (·.2))).length ≤ 100 := Nat.le_trans (List.length_filter_le _ _) (by simp; omega)
    refine lc_nt (H1 := H4) (fun i acc G => Ex H4 G ∧ acc = (((freeM vb.parts.length (prs.map (·.2))).take i).filter fun z => decide (clsM vb (prs.map (·.2)) z = clsM wb (prs.map (·.1)) m)).map V.int) hla (by rw [List.length_map]; omega) ⟨Ex.refl _, rfl⟩ ?_ (fun _ => rfl) ?_ ?_ hD
    · rintro i acc G ⟨_, rfl⟩
      rw [List.length_map]
      exact Nat.le_trans (List.length_filter_le _ _) (by rw [List.length_take]; omega)
    · rintro i v acc G hi eG ⟨_, rfl⟩
      rw [List.getElem?_map] at hi
      obtain ⟨z, hz, rfl⟩ := Option.map_eq_some_iff.mp hi
      have hz2 := (List.mem_filter.mp (List.mem_of_getElem? hz)).1
      obtain ⟨zi, hzi, rfl⟩ := List.mem_map.mp hz2
      have zl := List.mem_range.mp hzi
      have eHG := e14.trans eG
      refine ⟨_, rfl, _, rfl, _, rfl, ov, .ref pa, zi, vb, prs.map (·.2), rfl, dv.mono eHG, ints_mk ((e4.trans eG) _ _ hpa), by omega, by omega, v7.tok, by omega, by omega, pk.b2, by simp; omega, fun dp' dq H5 e5 _ hdp hdq => ?_⟩
      have lc := lf_cls (c := clsM vb (prs.map (·.2)) zi) (partM_fine v7.pf _) (cls_small v7 _ _)
      have ld := lf_cls (c := clsM wb (prs.map (·.1)) m) (partM_fine w7.pf _) (cls_small w7 _ _)
      have e6 : (freeM vb.parts.length (prs.map (·.2))).take (i + 1) = (freeM vb.parts.length (prs.map (·.2))).take i ++ [(zi : Int)] := by rw [List.take_add_one, hz]; rfl
      refine ⟨_, rfl, _, _, Dt.dp (cls_mk hdp hdq), Dt.dp (dc.mono (e4.trans (eG.trans e5))), shaped_of lc (Nat.le_trans (dep_cls _) (by decide)), shaped_of ld (Nat.le_trans (dep_cls _) (by decide)), _, rfl, ?_⟩
      rw [eqv_cls lc ld, e6, List.filter_append, List.filter_cons, List.filter_nil]
      refine ⟨e5, fun hb => ⟨_, rfl, Ex.refl _, eG.trans e5, ?_⟩, fun hb => ⟨eG.trans e5, ?_⟩⟩
      · rw [if_pos hb, List.map_append]; rfl
      · rw [if_neg (by rw [hb]; decide), List.append_nil]
    · rintro acc G p eG hp ⟨_, rfl⟩
      rw [List.length_map, List.take_length]
      exact k p _ (e14.trans (eG.trans (Ex.new hp))) (Evl.fresh_back (e14.trans eG) hp) upd_same
end
end W3

end
section
set_option Elab.async false
set_option linter.all false
set_option maxRecDepth 100000
set_option maxHeartbeats 4000000
namespace W3
open PySem PySem.Spec PyProof.Rows L2 M83 M72
open Evl (Ex)
section
variable {K : PySem.W.Frag} {σ : L2.St} {vs : List Nat} {Q : VK} {te : TE} {wi : TI}
/-- [e for a, b in pairs], e changes nothing -/
theorem lcPr (G0 : Hp) {pp : Addr} {qxs : List V} {prs : List Hand} {j1 j2 : Nat} (val : Hand → V) (hpp : G0 pp = some (.lst qxs)) (hqx : Dts G0 (prs.map eHand) qxs) (hl : prs.length ≤ 1000) (hi : ∀ R : It → Hp → Prop, R (Itl K pp) G0 → wi σ G0 R)
    (hw : ∀ x y, wipe (((wipe σ vs).set j1 (some x)).set j2 (some y)) vs = wipe σ vs)
    (step : ∀ p ∈ prs, ∀ (G : Hp) (R : VK), Ex G0 G → (∀ G4, Ex G G4 → R (val p) G4) → te (((wipe σ vs).set j1 (some (.int p.1))).set j2 (some (.int p.2))) G R)
    (done : ∀ q G, Ex G0 G → G0 q = none → G q = some (.lst (prs.map val)) → Q (.ref q) G) : tLc wi (gTup K 2 (gCons (gName j1) (gCons (gName j2) gNil))) tYes (tFr te) vs σ G0 Q := by
  have lq : qxs.length = prs.length := by rw [hqx.length, List.length_map]
  refine lcPn G0 (fun i acc G => Ex G0 G ∧ acc = (prs.take i).map val) hi hpp (by omega) ⟨Ex.refl _, rfl⟩ ?_ hw ?_ ?_
  · rintro i acc G ⟨_, rfl⟩
    rw [List.length_map, List.length_take]; omega
  · rintro i v acc G hi eG ⟨_, rfl⟩
    obtain ⟨t, ht, hv⟩ := item' hqx hi
    obtain ⟨q, rfl, hq⟩ := hand_at hv
    refine ⟨q, _, _, rfl, SqT.of (eG _ _ hq), ?_⟩
    have e5 : (prs.take (i + 1)).map val = (prs.take i).map val ++ [val t] := by rw [List.take_add_one, ht, List.map_append]; rfl
    rw [e5]
    exact step t (List.mem_of_getElem? ht) G _ eG fun G4 e4 => ⟨e4, eG.trans e4, rfl⟩
  rintro acc G fa eG hfa ⟨_, rfl⟩
  rw [lq, List.take_length]
  exact done _ _ (eG.trans (Ex.new hfa)) (Evl.fresh_back eG hfa) upd_same
end
section
variable {P : Program} {w : World} {K : PySem.W.Frag} {mg : Str → Option Value} {base : Heap}
/-! ### _law_fits -/
def fitsM (wb vb : Web) (prs : List Hand) (a b : Int) : Bool := decide (partM wb a = partM vb b) && !(prs.any fun p => decide (a = p.1) || decide (b = p.2)) && prs.all fun p => decide (cellM (tabM wb.parts.length wb.ties) a p.1 = cellM (tabM vb.parts.length vb.ties) b p.2)
def p_fits : Sp3 := fun vs H Q => ∃ (wv ov rv lv pw : V) (a b : Int) (wb vb : Web) (prs : List Hand), vs = [wv, ov, rv, lv, pw, .int a, .int b] ∧ Dt H (eWeb wb) wv ∧ Dt H (eWeb vb) ov ∧ Dt H (eNear (tabM wb.parts.length wb.ties)) rv ∧ Dt H (eNear (tabM vb.parts.length vb.ties)) lv ∧ Dt H (eHands prs) pw ∧
  W72 wb ∧ W72 vb ∧ PrsOk wb vb prs ∧ 0 ≤ a ∧ a < wb.parts.length ∧ 0 ≤ b ∧ b < vb.parts.length ∧ ∀ H', Ex H H' → Q (.bl (fitsM wb vb prs a b)) H'
theorem d_l_fits {f : Addr} {fd : FuncData} (F : Fun K "_law_fits" "_law_fits" sl_fits f fd) (hm : mg "_law_fits" = some (.ref f)) (T : Txt mg) : Df P w K mg base 1 "_law_fits" ["_law_web", "_law_other", "_law_rows", "_law_lists", "_law_pairs", "_law_a", "_law_b"] p_fits := by
  refine Df.body F hm bil_fits scl_fits (fun vs H Q h => ?_) (fun cdv A outer s H vs Q hr h => ?_)
  · obtain ⟨wv, ov, rv, lv, pw, a, b, wb, vb, prs, rfl, _⟩ := h; rfl
  · obtain ⟨wv, ov, rv, lv, pw, a, b, wb, vb, prs, rfl, dw, dv, dr, dl, dp, w7, v7, pk, a0, a1, b0, b1, k⟩ := h
    obtain ⟨wp, pa, ta, ha, sa, rfl, hwp, d1, d2, _, _⟩ := web_at dw
    obtain ⟨vp, qa, tb, hb, sb, rfl, hvp, d1', _, _, _⟩ := web_at dv
    obtain ⟨pp, qxs, rfl, hpp, hqx⟩ := dp
    have lq : qxs.length = prs.length := by rw [hqx.length, List.length_map]
    have lk := pk.len
    refine ⟨_, (pss_cons (ps_if (PW.pt (pw_or (pt_cmpR (opNeD K hr.u64) (pe_ix (ixL K) (pe_ix (ixT K) (pv 0) pe_int (fun _ _ => rfl)) (pv 5) (fun _ _ => rfl)) (pe_ix (ixL K) (pe_ix (ixT K) (pv 1) pe_int (fun _ _ => rfl)) (pv 6) (fun _ _ => rfl)) (nomark _)) (pw_or1 (pt_val (pe_callB (anyS K) (by rfl) T.n_any bt_any (pa_cons (pe_lc (own := [("_law_c", 7), ("_law_d", 8)]) rfl scl_fits.nd (piL K (pv 4)) (blkOk_by (N := Nl_fits) (sc := defScope sl_fits) (by decide +kernel)) (fun _ _ _ _ _ => (pgT K 2 (pgs_cons (pg_name (i := 7) scl_fits.nd rfl (Or.inl rfl)) (pgs_cons (pg_name (i := 8) scl_fits.nd rfl (Or.inl rfl)) pgs_nil)))) (fun _ _ _ _ _ => pts_nil) (fun _ _ _ _ _ => (pe_fr (pe_or (pe_cmpR op_eq (pv 5) (pv 7) (nomark _)) (pe_one (pe_cmpR op_eq (pv 6) (pv 8) (nomark _))))))) pa_nil)))))) (pss_one (ps_ret pe_bl)) pss_nil)
 (pss_one (ps_ret (pe_callB (crAll K) (by rfl) T.n_all bt_all (pa_cons (pe_lc (own := [("_law_c", 7), ("_law_d", 8)]) rfl scl_fits.nd (piL K (pv 4)) (blkOk_by (N := Nl_fits) (sc := defScope sl_fits) (by decide +kernel)) (fun _ _ _ _ _ => (pgT K 2 (pgs_cons (pg_name (i := 7) scl_fits.nd rfl (Or.inl rfl)) (pgs_cons (pg_name (i := 8) scl_fits.nd rfl (Or.inl rfl)) pgs_nil)))) (fun _ _ _ _ _ => pts_nil) (fun _ _ _ _ _ => (pe_fr (pe_cmpR op_eq (pe_ix (ixL K) (pe_ix (ixL K) (pv 2) (pv 5) (fun _ _ => rfl)) (pv 7) (fun _ _ => rfl)) (pe_ix (ixL K) (pe_ix (ixL K) (pv 3) (pv 6) (fun _ _ => rfl)) (pv 8) (fun _ _ => rfl)) (nomark _))))) pa_nil))))), ?_⟩
    have pn := w7.pn
    have vn := v7.pn
    obtain ⟨pxs, pq, hpa, hpi, hpq⟩ := part_item d1 a0 a1
    obtain ⟨qys, qq, hqa, hqi, hqq⟩ := part_item d1' b0 b1
    obtain ⟨tp, _, rfl, _, _⟩ := id dr
    obtain ⟨lp, _, rfl, _, _⟩ := id dl
    obtain ⟨txs, rq, row, htp, hrq, hrow, lrow, cell⟩ := tab_item (tabM_sqr wb.parts.length wb.ties) dr a0 a1
    obtain ⟨lxs, sq, col, hlp, hsq, hcol, lcol, cell2⟩ := tab_item (tabM_sqr vb.parts.length vb.ties) dl b0 b1
    have fp1 := partM_fine w7.pf a
    have fp2 := partM_fine v7.pf b
    have dp1 : Dt H (ePart (partM wb a)) (.ref pq) := part_mk (a := (partM wb a).1) (b := (partM wb a).2) hpq
    have dp2 : Dt H (ePart (partM vb b)) (.ref qq) := part_mk (a := (partM vb b).1) (b := (partM vb b).2) hqq
    have ev : PyData.eqv (ePart (partM wb a)) (ePart (partM vb b)) = decide (partM wb a = partM vb b) := by
      rw [Bool.eq_iff_iff, decide_eq_true_iff]
      exact ⟨fun h => part_inj _ _ (eqv_eq _ _ (alike_part _ _) h), fun h => by rw [h]; exact eqv_self _ (sm_part fp2).lf⟩
    refine ⟨_, rfl, wp, _, 0, _, rfl, rfl, SqT.of hwp, rfl, _, rfl, pa, pxs, a, _, rfl, rfl, SqL.of hpa, hpi, _, rfl, vp, _, 0, _, rfl, rfl, SqT.of hvp, rfl, _, rfl, qa, qys, b, _, rfl, rfl, SqL.of hqa, hqi, ?_⟩
    refine ⟨_, _, Dt.dp dp1, Dt.dp dp2, shaped_of (sm_part fp1).lf (Nat.le_trans (dep_part _) (by decide)), shaped_of (sm_part fp2).lf (Nat.le_trans (dep_part _) (by decide)), _, rfl, ?_⟩
    rw [ev]
    by_cases he : partM wb a = partM vb b
    · rw [decide_eq_true he]
      refine iteF ?_
      -- any
      dsimp only [tB]
      refine go_cb1 ?_
      refine lcPr H (fun p => .bl (decide (a = p.1) || decide (b = p.2))) hpp hqx (by omega) (fun R r => ⟨_, rfl, pp, rfl, ⟨_, SqL.of hpp⟩, r⟩) (fun _ _ => rfl) ?_ fun q G eG _ hq => ?_
      · rintro p hp G R eG kk
        refine ⟨_, rfl, _, rfl, rfl, _, rfl, ?_⟩
        rw [show decide (V.int a = V.int p.1) = decide (a = p.1) by rw [dec_int]; rfl]
        cases h1 : decide (a = p.1) with
        | true => exact iteT (by simpa [h1] using kk G (Ex.refl _))
        | false =>
          refine iteF ⟨_, rfl, _, rfl, rfl, ?_⟩
          rw [show decide (V.int b = V.int p.2) = decide (b = p.2) by rw [dec_int]; rfl]
          simpa [h1] using kk G (Ex.refl _)
      refine ⟨q, prs.map fun p => decide (a = p.1) || decide (b = p.2), rfl, SqL.of (by rw [List.map_map]; exact hq), _, rfl, ?_⟩
      have an : (prs.map fun p => decide (a = p.1) || decide (b = p.2)).any id = prs.any fun p => decide (a = p.1) || decide (b = p.2) := by rw [List.any_map]; rfl
      rw [an]
      cases hany : prs.any fun p => decide (a = p.1) || decide (b = p.2) with
      | true =>
        refine iteT ?_
        have : fitsM wb vb prs a b = false := by simp only [fitsM, hany]; simp
        exact this ▸ k G eG
      | false =>
        refine iteF ?_
        dsimp only [tNext]
        refine go_ret (go_cb1 ?_)
        refine lcPr G (fun p => .bl (decide (cellM (tabM wb.parts.length wb.ties) a p.1 = cellM (tabM vb.parts.length vb.ties) b p.2))) (eG _ _ hpp) (hqx.mono eG) (by omega) (fun R r => ⟨_, rfl, pp, rfl, ⟨_, SqL.of (eG _ _ hpp)⟩, r⟩) (fun _ _ => rfl) ?_ fun q2 G2 eG2 _ hq2 => ?_
        · rintro p hp G3 R e3 kk
          have x3 := eG.trans e3
          have c0 := pk.b1 p.1 (List.mem_map_of_mem hp)
          have d0 := pk.b2 p.2 (List.mem_map_of_mem hp)
          refine ⟨_, rfl, _, rfl, tp, txs, a, _, rfl, rfl, SqL.of (x3 _ _ htp), hrq, _, rfl, rq, _, p.1, _, rfl, rfl, SqL.of (x3 _ _ hrow), cell _ c0.1 c0.2, ?_⟩
          refine ⟨_, rfl, _, rfl, lp, lxs, b, _, rfl, rfl, SqL.of (x3 _ _ hlp), hsq, _, rfl, sq, _, p.2, _, rfl, rfl, SqL.of (x3 _ _ hcol), cell2 _ d0.1 d0.2, rfl, ?_⟩
          rw [show ∀ i j : Int, decide (V.int i = V.int j) = decide (i = j) from fun i j => by rw [dec_int]; rfl]
          exact kk G3 (Ex.refl _)
        refine ⟨q2, prs.map fun p => decide (cellM (tabM wb.parts.length wb.ties) a p.1 = cellM (tabM vb.parts.length vb.ties) b p.2), rfl, SqL.of (by rw [List.map_map]; exact hq2), ?_⟩
        have z : ((prs.map fun p => decide (cellM (tabM wb.parts.length wb.ties) a p.1 = cellM (tabM vb.parts.length vb.ties) b p.2)).all id) = fitsM wb vb prs a b := by
          rw [List.all_map]
          simp only [fitsM, he, hany]
          simp [Function.comp_def]
        rw [z]
        exact k G2 (eG.trans eG2)
    · rw [decide_eq_false he]
      refine iteT (iteT ?_)
      have : fitsM wb vb prs a b = false := by simp [fitsM, he]
      exact this ▸ k H (Ex.refl _)
end
end W3

end
section
set_option Elab.async false
set_option linter.all false
set_option maxRecDepth 100000
set_option maxHeartbeats 4000000
namespace W3
open PySem PySem.Spec PyProof.Rows L2 M83 M72
open Evl (Ex)
section
variable {P : Program} {w : World} {K : PySem.W.Frag} {mg : Str → Option Value} {base : Heap}
/-! ### _law_candidates -/
def fitL (wb vb : Web) (prs : List Hand) (a : Int) (n : Nat) : List Int := ((List.range n).map fun (i : Nat) => (i : Int)).filter fun z => fitsM wb vb prs a z
theorem fitL_succ (wb vb : Web) (prs : List Hand) (a : Int) (i : Nat) : fitL wb vb prs a (i + 1) = fitL wb vb prs a i ++ if fitsM wb vb prs a i = true then [(i : Int)] else [] := by
  rw [fitL, fitL, List.range_succ, List.map_append, List.filter_append, List.map_cons, List.map_nil, List.filter_cons, List.filter_nil]
def p_lcand : Sp3 := fun vs H Q => ∃ (wv ov pw : V) (m : Int) (wb vb : Web) (prs : List Hand), vs = [wv, ov, pw, .int m] ∧ Dt H (eWeb wb) wv ∧ Dt H (eWeb vb) ov ∧ Dt H (eHands prs) pw ∧ W72 wb ∧ W72 vb ∧ PrsOk wb vb prs ∧ 0 ≤ m ∧ m < wb.parts.length ∧
  ∀ q H', Ex H H' → H q = none → H' q = some (.lst ((fitL wb vb prs m vb.parts.length).map V.int)) → Q (.ref q) H'
theorem d_l_candidates {f : Addr} {fd : FuncData} (F : Fun K "_law_candidates" "_law_candidates" sl_candidates f fd) (hm : mg "_law_candidates" = some (.ref f)) (T : Txt mg) (d_l_orders : Df P w K mg base 1 "_law_orders" ["_law_web"] p_tab)
    (d_l_fits : Df P w K mg base 1 "_law_fits" ["_law_web", "_law_other", "_law_rows", "_law_lists", "_law_pairs", "_law_a", "_law_b"] p_fits) : Df P w K mg base 2 "_law_candidates" ["_law_web", "_law_other", "_law_pairs", "_law_many"] p_lcand := by
  refine Df.body F hm bil_candidates scl_candidates (fun vs H Q h => ?_) (fun cdv A outer s H vs Q hr h => ?_)
  · obtain ⟨wv, ov, pw, m, wb, vb, prs, rfl, _⟩ := h; rfl
  · obtain ⟨wv, ov, pw, m, wb, vb, prs, rfl, dw, dv, dp, w7, v7, pk, m0, m1, k⟩ := h
    obtain ⟨vp, qa, tb, hb, sb, rfl, hvp, d1', _, _, _⟩ := web_at dv
    obtain ⟨qys, hqa, hqy⟩ := Dt.list_at d1'
    have ly : qys.length = vb.parts.length := by rw [hqy.length, List.length_map]
    have pn := w7.pn
    have vn := v7.pn
    have tn := w7.tn
    have vtn := v7.tn
    refine ⟨_, (pss_cons (ps_asg (pe_tup (pa_cons (pe_c3 d_l_orders (hr.less (by decide)) rfl (pa_cons (pv 0) pa_nil)) (pa_cons (pe_c3 d_l_orders (hr.less (by decide)) rfl (pa_cons (pv 1) pa_nil)) pa_nil))) (pgT K 2 (pgs_cons (pg_name (i := 4) scl_candidates.nd rfl (Or.inr rfl)) (pgs_cons (pg_name (i := 5) scl_candidates.nd rfl (Or.inr rfl)) pgs_nil))))
 (pss_one (ps_ret (pe_lc (own := [("_law_b", 6)]) rfl scl_candidates.nd (pi_range1 rfl T.range (pa_cons (pe_callB (lenS K) (by rfl) T.n_len bt_len (pa_cons (pe_ix (ixT K) (pv 1) pe_int (fun _ _ => rfl)) pa_nil)) pa_nil)) (blkOk_by (N := Nl_candidates) (sc := defScope sl_candidates) (by decide +kernel)) (fun _ _ _ _ _ => (pg_name (i := 6) scl_candidates.nd rfl (Or.inl rfl))) (fun _ _ _ _ _ => (pts_fr (pts_one (pt_val (pe_c3 d_l_fits (hr.less (by decide)) rfl (pa_cons (pv 0) (pa_cons (pv 1) (pa_cons (pv 4) (pa_cons (pv 5) (pa_cons (pv 2) (pa_cons (pv 3) (pa_cons (pv 6) pa_nil)))))))))))) (fun _ _ _ _ _ => (pe_fr (pv 6))))))), ?_⟩
    refine go_asgs ?_
    refine ⟨_, rfl, _, wb, rfl, dw, by omega, by omega, w7.tok, fun rv H1 e1 dr => ⟨_, rfl, _, vb, rfl, dv.mono e1, by omega, by omega, v7.tok, fun lv H2 e2 dl => ⟨sz2, fun tq htq => ?_⟩⟩⟩
    have e3 := e2.trans (Ex.new (o := .tup [rv, lv]) htq)
    refine ⟨tq, _, rfl, SqT.of upd_same, rfl, _, _, rfl, ?_⟩
    have dr2 := dr.mono e3
    have dl2 := dl.mono (Ex.new (o := .tup [rv, lv]) htq)
    have e4 := e1.trans e3
    generalize upd H2 tq (.tup [rv, lv]) = H3 at e3 dr2 dl2 e4
    dsimp only [gName]
    refine ⟨_, _, rfl, ?_⟩
    dsimp only [gName]
    refine ⟨rfl, ?_⟩
    refine go_ret ?_
    refine lcRt H3 (lo := 0) (n := qys.length) (fun i acc G => Ex H3 G ∧ acc = (fitL wb vb prs m i).map V.int) (fun R r => ⟨_, rfl, vp, _, 0, _, rfl, rfl, SqT.of (e4 _ _ hvp), rfl, qa, qys, rfl, .inl (SqL.of (e4 _ _ hqa)), _, rfl, by omega, by omega, r⟩) (by omega) ⟨Ex.refl _, rfl⟩ ?_ (fun _ => rfl) ?_ ?_
    · rintro i acc G ⟨_, rfl⟩
      rw [List.length_map, fitL]
      exact Nat.le_trans (List.length_filter_le _ _) (by simp)
    · rintro i acc G hi eG ⟨_, rfl⟩
      have z : (0 : Int) + (i : Int) = i := by omega
      rw [fitL_succ]
      refine ⟨_, rfl, _, rfl, _, rfl, _, rfl, _, rfl, _, rfl, _, rfl, wv, .ref vp, rv, lv, pw, m, _, wb, vb, prs, rfl, dw.mono (e4.trans eG), dv.mono (e4.trans eG), dr2.mono eG, dl2.mono eG, dp.mono (e4.trans eG), w7, v7, pk, m0, m1, by omega, by omega, fun G2 e5 => ⟨_, rfl, ?_⟩⟩
      rw [z]
      refine ⟨e5, fun hb => ⟨_, rfl, Ex.refl _, eG.trans e5, ?_⟩, fun hb => ⟨eG.trans e5, ?_⟩⟩
      · rw [if_pos hb, List.map_append]; rfl
      · rw [if_neg (by rw [hb]; decide), List.append_nil]
    · rintro acc G p eG hp ⟨_, rfl⟩
      rw [ly]
      exact k p _ (e4.trans (eG.trans (Ex.new hp))) (Evl.fresh_back (e4.trans eG) hp) upd_same
end
end W3

end
section
set_option Elab.async false
set_option linter.all false
namespace W3
open PySem PySem.Spec PyProof.Rows L2 M83 M72
/-! ### the plain law of candidates -/
theorem rows_eq {α : Type} (f g : α → Int) (ps : List α) : ps.map f = ps.map g ↔ ∀ p ∈ ps, f p = g p := by
  induction ps with
  | nil => simp
  | cons p ps ih => simp [ih]
theorem cls_fits {wb vb : Web} {prs : List Hand} {m z : Int} (h : ∀ p ∈ prs, p.1 ≠ m) : ((!decide (z ∈ prs.map (·.2))) && decide (clsM vb (prs.map (·.2)) z = clsM wb (prs.map (·.1)) m)) = fitsM wb vb prs m z := by
  rw [Bool.eq_iff_iff]
  simp only [Bool.and_eq_true, Bool.not_eq_true', decide_eq_false_iff_not, decide_eq_true_eq, fitsM, clsM, Prod.mk.injEq, rowM, List.map_map, rows_eq, Function.comp_def, List.all_eq_true, List.any_eq_false, Bool.or_eq_true, not_or]
  constructor
  · rintro ⟨a, b, c⟩
    exact ⟨⟨b.symm, fun p hp => ⟨fun e => h p hp e.symm, fun e => a (by rw [e]; exact List.mem_map_of_mem hp)⟩⟩, fun p hp => (c p hp).symm⟩
  · rintro ⟨⟨b, a⟩, c⟩
    refine ⟨fun e => ?_, b.symm, fun p hp => (c p hp).symm⟩
    obtain ⟨p, hp, e⟩ := List.mem_map.mp e
    exact (a p hp).2 e.symm
theorem cand_fit {wb vb : Web} {prs : List Hand} {m : Int} (h : ∀ p ∈ prs, p.1 ≠ m) : candM wb vb prs m = fitL wb vb prs m vb.parts.length := by
  rw [candM, fitL, freeM, List.filter_filter]
  refine List.filter_congr fun z _ => ?_
  rw [Bool.and_comm, cls_fits h]
end W3

end
section
set_option Elab.async false
set_option linter.all false
namespace W3
open PySem PySem.Spec PyProof.Rows L2 M83 M72
/-! ### the law's own search -/
inductive RS (T : List (List Int)) (some : List Int) (s : Int) : Int → Prop
  | refl : RS T some s s
  | step {j k : Int} : RS T some s j → k ∈ some → 0 < cellM T j k → RS T some s k
def unseen (some seen : List Int) : List Int := some.filter fun y => !decide (y ∈ seen)
def newM (T : List (List Int)) (some seen : List Int) (x : Int) : List Int := some.filter fun y => decide (0 < cellM T x y) && !decide (y ∈ seen)
structure Sch (T : List (List Int)) (some : List Int) (s : Int) (c : Nat) (seen left : List Int) : Prop where
  rch : ∀ y ∈ seen, RS T some s y
  start : s ∈ seen
  sub : ∀ y ∈ left, y ∈ seen
  cl : ∀ x ∈ seen, x ∉ left → ∀ y ∈ some, 0 < cellM T x y → y ∈ seen
  cnt : seen.length + (unseen some seen).length = c
theorem new_cnt (T : List (List Int)) (seen : List Int) (x : Int) (some : List Int) : (newM T some seen x).length + (unseen some (seen ++ newM T some seen x)).length = (unseen some seen).length := by
  have e : unseen some (seen ++ newM T some seen x) = some.filter fun y => !decide (0 < cellM T x y) && !decide (y ∈ seen) := by
    unfold unseen
    refine List.filter_congr fun y hy => ?_
    rw [Bool.eq_iff_iff]
    simp only [Bool.not_eq_true', decide_eq_false_iff_not, Bool.and_eq_true, List.mem_append, newM, List.mem_filter, decide_eq_true_eq, not_or, not_and]
    constructor
    · rintro ⟨a, b⟩
      exact ⟨fun h => b hy h a, a⟩
    · rintro ⟨a, b⟩
      exact ⟨b, fun _ h => (a h).elim⟩
  rw [e]
  unfold newM unseen
  clear e
  induction some with
  | nil => rfl
  | cons y r ih =>
    simp only [List.filter_cons]
    cases decide (0 < cellM T x y) <;> cases decide (y ∈ seen) <;> simp <;> omega
theorem Sch.step {T : List (List Int)} {some : List Int} {s : Int} {c : Nat} {seen left : List Int} {x : Int} (h : Sch T some s c seen (left ++ [x])) : Sch T some s c (seen ++ newM T some seen x) (left ++ newM T some seen x) := by
  have hx := h.sub x (by simp)
  refine ⟨fun y hy => ?_, List.mem_append_left _ h.start, fun y hy => ?_, fun z hz nz y hy hp => ?_, ?_⟩
  · rcases List.mem_append.mp hy with hy | hy
    · exact h.rch y hy
    · obtain ⟨a, b⟩ := List.mem_filter.mp hy
      simp only [Bool.and_eq_true, decide_eq_true_eq] at b
      exact .step (h.rch x hx) a b.1
  · rcases List.mem_append.mp hy with hy | hy
    · exact List.mem_append_left _ (h.sub y (List.mem_append_left _ hy))
    · exact List.mem_append_right _ hy
  · rcases List.mem_append.mp hz with hz | hz
    · by_cases e : z = x
      · subst e
        by_cases q : y ∈ seen
        · exact List.mem_append_left _ q
        · exact List.mem_append_right _ (List.mem_filter.mpr ⟨hy, by simp [hp, q]⟩)
      · refine List.mem_append_left _ (h.cl z hz (fun m => ?_) y hy hp)
        rcases List.mem_append.mp m with m | m
        · exact nz (List.mem_append_left _ m)
        · exact e (by simpa using m)
    · exact (nz (List.mem_append_right _ hz)).elim
  · have := new_cnt T seen x some
    have := h.cnt
    rw [List.length_append]
    omega
theorem Sch.begin (T : List (List Int)) {some : List Int} {s : Int} : Sch T some s (1 + (unseen some [s]).length) [s] [s] :=
  ⟨fun y hy => by rw [List.mem_singleton.mp hy]; exact .refl, by simp, fun y hy => hy, fun x hx nx => (nx hx).elim, rfl⟩
theorem Sch.fin {T : List (List Int)} {some : List Int} {s : Int} {c : Nat} {seen : List Int} (h : Sch T some s c seen []) (y : Int) : y ∈ seen ↔ RS T some s y := by
  refine ⟨h.rch y, fun r => ?_⟩
  induction r with
  | refl => exact h.start
  | step _ a b ih => exact h.cl _ ih (by simp) _ a b
/-- every one is seen, if as many are seen -/
theorem Sch.all {T : List (List Int)} {some : List Int} {s : Int} {c : Nat} {seen left : List Int} (h : Sch T some s c seen left) (e : seen.length = c) : ∀ y ∈ some, y ∈ seen := by
  intro y hy
  have := h.cnt
  have z : unseen some seen = [] := List.eq_nil_of_length_eq_zero (by omega)
  by_cases q : y ∈ seen
  · exact q
  · have : y ∈ unseen some seen := List.mem_filter.mpr ⟨hy, by simp [q]⟩
    rw [z] at this; cases this
theorem unseen_head {s : Int} {r : List Int} (nd : (s :: r).Nodup) : 1 + (unseen (s :: r) [s]).length = (s :: r).length := by
  have a := (List.nodup_cons.mp nd).1
  have e : unseen (s :: r) [s] = r := by
    unfold unseen
    rw [List.filter_cons]
    simp only [List.mem_singleton, decide_true, Bool.not_true]
    rw [if_neg (by decide)]
    refine List.filter_eq_self.mpr fun y hy => ?_
    have : y ≠ s := fun z => a (z ▸ hy)
    simp [this]
  rw [e, List.length_cons]; omega
end W3

end
section
set_option Elab.async false
set_option linter.all false
set_option maxRecDepth 100000
set_option maxHeartbeats 4000000
namespace W3
open PySem PySem.Spec PyProof.Rows L2 M83 M72
open Evl (Ex)
section
variable {P : Program} {w : World} {K : PySem.W.Frag} {mg : Str → Option Value} {base : Heap}
/-! ### _law_joined -/
def p_joined : Sp3 := fun vs H Q => ∃ (rv sv : V) (n : Nat) (T : List (List Int)) (ss : List Int), vs = [rv, sv] ∧ Dt H (eNear T) rv ∧ Dt H (eInts ss) sv ∧ Sqr n T ∧ Below n ss ∧ ss.length ≤ 100 ∧ ss.Nodup ∧
  ∀ (b : Bool) H', Ex H H' → (b = true → ∀ s r, ss = s :: r → ∀ y ∈ ss, RS T ss s y) → Q (.bl b) H'
theorem d_l_joined {f : Addr} {fd : FuncData} (F : Fun K "_law_joined" "_law_joined" sl_joined f fd) (hm : mg "_law_joined" = some (.ref f)) (T : Txt mg) : Df P w K mg base 1 "_law_joined" ["_law_rows", "_law_some"] p_joined := by
  refine Df.body F hm bil_joined scl_joined (fun vs H Q h => ?_) (fun cdv A outer s H vs Q hr h => ?_)
  · obtain ⟨rv, sv, n, Tb, ss, rfl, _⟩ := h; rfl
  · obtain ⟨rv, sv, n, Tb, ss, rfl, dr, ds, sq, bl, ls, nd, k⟩ := h
    refine ⟨_, (pss_cons (ps_asg (pe_tup (pa_cons (pe_slice (slL K) (pv 1) po_none (po_some pe_int)) (pa_cons (pe_slice (slL K) (pv 1) po_none (po_some pe_int)) pa_nil))) (pgT K 2 (pgs_cons (pg_name (i := 2) scl_joined.nd rfl (Or.inr rfl)) (pgs_cons (pg_name (i := 3) scl_joined.nd rfl (Or.inl rfl)) pgs_nil))))
 (pss_cons (ps_while PassesOwn.never (pt_truth (pv 3) (by intro _; rfl)) (pss_cons (ps_set (i := 4) scl_joined.nd rfl (Or.inr rfl) (pe_bm0 PySem.F.plainAttrs_list PySem.F.slot_list_pop PySem.F.type_list_pop mt_pop (pv 3)))
 (pss_cons (ps_setLc (own := [("_law_y", 6)]) (i := 5) rfl scl_joined.nd rfl rfl (sw_true rfl rfl rfl (by decide +kernel)) (piL K (pv 1)) (blkOk_by (N := Nl_joined) (sc := defScope sl_joined) (by decide +kernel)) (fun _ _ _ _ _ => (pg_name (i := 6) scl_joined.nd rfl (Or.inl rfl))) (fun _ _ _ _ _ => (pts_fr (pts_one (PW.pt (pw_and (pt_cmpR op_gt (pe_ix (ixL K) (pe_ix (ixL K) (pv 0) (pv 4) (fun _ _ => rfl)) (pv 6) (fun _ _ => rfl)) pe_int (nomark _)) (pw_and1 (pt_cmpR (opNotIn K) (pv 6) (pv 2) (by with_unfolding_all rfl)))))))) (fun _ _ _ _ _ => (pe_fr (pv 6))))
 (pss_one (ps_asg (pe_tup (pa_cons (pe_op op_cat (pv 2) (pv 5)) (pa_cons (pe_op op_cat (pv 3) (pv 5)) pa_nil))) (pgT K 2 (pgs_cons (pg_name (i := 2) scl_joined.nd rfl (Or.inr rfl)) (pgs_cons (pg_name (i := 3) scl_joined.nd rfl (Or.inl rfl)) pgs_nil))))))))
 (pss_one (ps_ret (pe_cmpR op_eq (pe_callB (lenS K) (by rfl) T.n_len bt_len (pa_cons (pv 2) pa_nil)) (pe_callB (lenS K) (by rfl) T.n_len bt_len (pa_cons (pv 1) pa_nil)) (nomark _)))))), ?_⟩
    obtain ⟨sa, rfl, hsa⟩ := ints_at ds
    obtain ⟨tp, _, rfl, _, _⟩ := id dr
    refine go_asgs ?_
    refine ⟨_, rfl, 1, rfl, sa, _, rfl, SqL.of hsa, fun ap hap => ⟨_, rfl, 1, rfl, sa, _, rfl, SqL.of (Ex.new hap _ _ hsa), fun bp hbp => ⟨sz2, fun tq htq => ?_⟩⟩⟩
    refine ⟨tq, _, rfl, SqT.of upd_same, rfl, _, _, rfl, ?_⟩
    have ec : cutV (ss.map V.int) none (some 1) = (ss.take 1).map V.int := by rw [cutV_to (by decide), List.map_take]; rfl
    rw [ec] at hbp htq ⊢
    have e2 : Ex H (upd (upd H ap (.lst ((ss.take 1).map V.int))) bp (.lst ((ss.take 1).map V.int))) := (Ex.new hap).trans (Ex.new hbp)
    have e3 : Ex H (upd (upd (upd H ap (.lst ((ss.take 1).map V.int))) bp (.lst ((ss.take 1).map V.int))) tq (.tup [.ref ap, .ref bp])) := e2.trans (Ex.new htq)
    have nab : ap ≠ bp := new_ne upd_same hbp
    have h1 := (Ex.new (o := .tup [.ref ap, .ref bp]) htq) _ _ ((Ex.new (o := .lst ((ss.take 1).map V.int)) hbp) ap (.lst ((ss.take 1).map V.int)) upd_same)
    have h2 := (Ex.new (o := .tup [.ref ap, .ref bp]) htq) bp (.lst ((ss.take 1).map V.int)) upd_same
    have f2 : H bp = none := Evl.fresh_back (Ex.new hap) hbp
    generalize upd (upd (upd H ap (.lst ((ss.take 1).map V.int))) bp (.lst ((ss.take 1).map V.int))) tq (.tup [.ref ap, .ref bp]) = H3 at e3 h1 h2
    dsimp only [gName]
    refine ⟨_, _, rfl, ?_⟩
    dsimp only [gName]
    refine ⟨rfl, ?_⟩
    -- while
    refine ⟨fun m σ H' => ∃ ap bp seen left u v w, σ = [some (.ref tp), some (.ref sa), some (.ref ap), some (.ref bp), u, v, w] ∧ Ex H H' ∧ H' ap = some (.lst (seen.map V.int)) ∧ H' bp = some (.lst (left.map V.int)) ∧ H bp = none ∧ ap ≠ bp ∧
      (∀ s r, ss = s :: r → Sch Tb ss s ss.length seen left) ∧ (∀ y ∈ left, 0 ≤ y ∧ y < n) ∧ left.length ≤ seen.length ∧ seen.length + (unseen ss seen).length = ss.length ∧ m = left.length + (unseen ss seen).length,
      ⟨_, ap, bp, ss.take 1, ss.take 1, none, none, none, rfl, e3, h1, h2, f2, nab, fun s r e => ?_, fun y hy => bl y (List.mem_of_mem_take hy), Nat.le_refl _, ?_, rfl⟩, ?_⟩
    · subst e
      have := Sch.begin Tb (some := s :: r) (s := s)
      rw [unseen_head nd] at this
      exact this
    · rcases ss with _ | ⟨s, r⟩
      · rfl
      · exact unseen_head nd
    rintro m σ H' ⟨ap, bp, seen, left, u, v, w, rfl, eH, ha, hb, fb, nab, sch, bll, lls, cnt, rfl⟩
    refine ⟨_, rfl, _, .inl ⟨_, SqL.of hb, rfl⟩, ?_⟩
    rcases List.eq_nil_or_concat left with rfl | ⟨L0, x, rfl⟩
    · refine iteF ?_
      dsimp only
      refine go_ret ⟨_, rfl, ap, _, rfl, .inl (SqL.of ha), _, rfl, sa, _, rfl, .inl (SqL.of (eH _ _ hsa)), rfl, k _ _ eH fun hd s r e y hy => ?_⟩
      have hd2 : seen.length = ss.length := by
        have z := of_decide_eq_true hd
        simp only [V.int.injEq, List.length_map] at z
        omega
      have sc := sch s r e
      exact sc.rch y (sc.all hd2 y hy)
    rw [List.concat_eq_append] at *
    have ne : (!(List.map V.int (L0 ++ [x])).isEmpty) = true := by simp
    rw [ne]
    refine iteT ?_
    obtain ⟨x0, x1⟩ := bll x (by simp)
    have nc := new_cnt Tb seen x ss
    refine ⟨fun σ' H' => ∃ ap bp u v w, σ' = [some (.ref tp), some (.ref sa), some (.ref ap), some (.ref bp), u, v, w] ∧ Ex H H' ∧ H' ap = some (.lst ((seen ++ newM Tb ss seen x).map V.int)) ∧ H' bp = some (.lst ((L0 ++ newM Tb ss seen x).map V.int)) ∧ H bp = none ∧ ap ≠ bp,
      fun σ' H' ⟨ap, bp, u, v, w, e, e1, g1, g2, g3, g4⟩ => ⟨_, ?_, ap, bp, _, _, u, v, w, e, e1, g1, g2, g3, g4, fun s r es => (sch s r es).step, fun y hy => ?_, ?_, ?_, rfl⟩, ?_⟩
    · simp only [List.length_append, List.length_singleton]; omega
    · rcases List.mem_append.mp hy with hy | hy
      · exact bll y (by simp [hy])
      · exact bl y (List.mem_filter.mp hy).1
    · simp only [List.length_append, List.length_singleton] at lls ⊢; omega
    · rw [List.length_append]; omega
    refine go_sets ?_
    refine ⟨_, rfl, .inl ⟨rfl, _, SqL.of hb⟩, bp, _, V.int x, rfl, rfl, hb, by simp, ?_⟩
    rw [show ((L0 ++ [x]).map V.int).dropLast = L0.map V.int by simp]
    have eH1 : Ex H (upd H' bp (.lst (L0.map V.int))) := Evl.Ex.mut eH fb
    have ha1 : upd H' bp (.lst (L0.map V.int)) ap = some (.lst (seen.map V.int)) := by rw [upd_ne nab]; exact ha
    have hb1 : upd H' bp (.lst (L0.map V.int)) bp = some (.lst (L0.map V.int)) := upd_same
    generalize upd H' bp (.lst (L0.map V.int)) = H1 at eH1 ha1 hb1
    obtain ⟨txs, rq, row, htp, hrq, hrow, lrow, cell⟩ := tab_item sq dr x0 x1
    refine go_sets (lcNt H1 (fun i acc G => Ex H1 G ∧ acc = (newM Tb (ss.take i) seen x).map V.int) (fun R r => ⟨_, rfl, sa, rfl, ⟨_, SqL.of (eH1 _ _ hsa)⟩, r⟩) (eH1 _ _ hsa) (by rw [List.length_map]; omega) ⟨Ex.refl _, rfl⟩ ?_ (fun _ => rfl) ?_ ?_)
    · rintro i acc G ⟨_, rfl⟩
      rw [List.length_map]
      exact Nat.le_trans (List.length_filter_le _ _) (by rw [List.length_take]; omega)
    · rintro i v acc G hi eG ⟨_, rfl⟩
      rw [List.getElem?_map] at hi
      obtain ⟨y, hy, rfl⟩ := Option.map_eq_some_iff.mp hi
      obtain ⟨y0, y1⟩ := bl y (List.mem_of_getElem? hy)
      have e6 : newM Tb (ss.take (i + 1)) seen x = newM Tb (ss.take i) seen x ++ if (decide (0 < cellM Tb x y) && !decide (y ∈ seen)) = true then [y] else [] := by
        rw [newM, newM, List.take_add_one, hy, List.filter_append, Option.toList_some, List.filter_cons, List.filter_nil]
      rw [e6]
      have eHG := eH1.trans eG
      refine ⟨_, rfl, _, rfl, tp, txs, x, _, rfl, rfl, SqL.of (eHG _ _ htp), hrq, _, rfl, rq, _, y, _, rfl, rfl, SqL.of (eHG _ _ hrow), cell y y0 y1, _, _, rfl, rfl, _, rfl, ?_⟩
      by_cases hc : 0 < cellM Tb x y
      · rw [decide_eq_true hc]
        refine iteT ⟨_, rfl, _, rfl, ap, _, rfl, .inl (SqL.of (eG _ _ ha1)), rfl, flat_ints _, _, rfl, Ex.refl _, fun h => ⟨_, rfl, Ex.refl _, eG, ?_⟩, fun h => ⟨eG, ?_⟩⟩
        · have h' : (!decide (y ∈ seen)) = true := by rw [← in_ints]; exact h
          rw [h', Bool.true_and, if_pos rfl, List.map_append]; rfl
        · have h' : (!decide (y ∈ seen)) = false := by rw [← in_ints]; exact h
          rw [h', Bool.true_and, if_neg (by decide), List.append_nil]
      · rw [decide_eq_false hc]
        refine iteF ⟨Ex.refl _, fun h => (by cases h), fun _ => ⟨eG, ?_⟩⟩
        rw [Bool.false_and, if_neg (by decide), List.append_nil]
    rintro acc G np eG hnp ⟨_, rfl⟩
    rw [List.length_map, List.take_length]
    have eG2 := eG.trans (Ex.new (o := .lst ((newM Tb ss seen x).map V.int)) hnp)
    have hn2 : upd G np (.lst ((newM Tb ss seen x).map V.int)) np = some (.lst ((newM Tb ss seen x).map V.int)) := upd_same
    generalize upd G np (.lst ((newM Tb ss seen x).map V.int)) = G2 at eG2 hn2
    have big : (1000 : Nat) < sizeLine := by decide
    have lnw : (newM Tb ss seen x).length ≤ 100 := Nat.le_trans (List.length_filter_le _ _) ls
    refine go_asg ?_
    refine ⟨_, rfl, _, rfl, ap, np, _, _, rfl, rfl, eG2 _ _ ha1, hn2, (by simp only [List.length_map]; omega), fun sp hsp => ?_⟩
    have x1 := Ex.new (o := .lst (seen.map V.int ++ (newM Tb ss seen x).map V.int)) hsp
    refine ⟨_, rfl, _, rfl, bp, np, _, _, rfl, rfl, x1 _ _ (eG2 _ _ hb1), x1 _ _ hn2, ?_, fun lp hlp => ?_⟩
    · simp only [List.length_append, List.length_singleton, List.length_map] at lls ⊢; omega
    have x2 := Ex.new (o := .lst (L0.map V.int ++ (newM Tb ss seen x).map V.int)) hlp
    refine ⟨sz2, fun tq htq => ?_⟩
    have x3 := Ex.new (o := .tup [.ref sp, .ref lp]) htq
    refine ⟨tq, _, rfl, SqT.of upd_same, rfl, _, _, rfl, ?_⟩
    dsimp only [gName]
    refine ⟨_, _, rfl, ?_⟩
    dsimp only [gName]
    refine ⟨rfl, sp, lp, _, _, _, rfl, eH1.trans (eG2.trans (x1.trans (x2.trans x3))), ?_, ?_, ?_, ?_⟩
    · rw [List.map_append]; exact x3 _ _ (x2 _ _ upd_same)
    · rw [List.map_append]; exact x3 _ _ upd_same
    · exact Evl.fresh_back (eH1.trans (eG2.trans x1)) hlp
    · exact new_ne upd_same hlp
end
end W3

end
section
set_option Elab.async false
set_option linter.all false
set_option maxRecDepth 100000
set_option maxHeartbeats 4000000
namespace W3
open PySem PySem.Spec PyProof.Rows L2 M83 M72
open Evl (Ex)
section
variable {P : Program} {w : World} {K : PySem.W.Frag} {mg : Str → Option Value} {base : Heap}
/-! ### _law_apart -/
/-- the law's own word -/
def ApartL (wb : Web) (prs : List Hand) (m : Int) : Prop := ∃ p0 rest, prs = p0 :: rest ∧ ∃ q ∈ prs, ¬ RS (tabM wb.parts.length wb.ties) (prs.map (·.1) ++ rgI m wb.parts.length) p0.1 q.1
def p_lapart : Sp3 := fun vs H Q => ∃ (wv pw : V) (m : Int) (wb : Web) (prs : List Hand), vs = [wv, pw, .int m] ∧ Dt H (eWeb wb) wv ∧ Dt H (eHands prs) pw ∧ W72 wb ∧ prs.length ≤ 30 ∧ Below wb.parts.length (prs.map (·.1)) ∧ 0 ≤ m ∧ m ≤ wb.parts.length ∧
  ∀ (b : Bool) H', Ex H H' → (b = true ↔ ApartL wb prs m) → Q (.bl b) H'
theorem d_l_apart {f : Addr} {fd : FuncData} (F : Fun K "_law_apart" "_law_apart" sl_apart f fd) (hm : mg "_law_apart" = some (.ref f)) (T : Txt mg) (d_l_orders : Df P w K mg base 1 "_law_orders" ["_law_web"] p_tab) : Df P w K mg base 2 "_law_apart" ["_law_web", "_law_pairs", "_law_many"] p_lapart := by
  refine Df.body F hm bil_apart scl_apart (fun vs H Q h => ?_) (fun cdv A outer s H vs Q hr h => ?_)
  · obtain ⟨wv, pw, m, wb, prs, rfl, _⟩ := h; rfl
  · obtain ⟨wv, pw, m, wb, prs, rfl, dw, dp, w7, lk, bel, m0, m1, k⟩ := h
    obtain ⟨wp, pa, ta, ha, sa, rfl, hwp, d1, d2, _, _⟩ := web_at dw
    obtain ⟨pxs, hpa, hpx⟩ := Dt.list_at d1
    obtain ⟨pp, qxs, rfl, hpp, hqx⟩ := dp
    have lp : pxs.length = wb.parts.length := by rw [hpx.length, List.length_map]
    have pn := w7.pn
    have tn := w7.tn
    refine ⟨_, (pss_cons (ps_asg (pe_tup (pa_cons (pe_c3 d_l_orders (hr.less (by decide)) rfl (pa_cons (pv 0) pa_nil)) (pa_cons (pe_lc (own := [("_law_a", 11), ("_law_b", 12)]) rfl scl_apart.nd (piL K (pv 1)) (blkOk_by (N := Nl_apart) (sc := defScope sl_apart) (by decide +kernel)) (fun _ _ _ _ _ => (pgT K 2 (pgs_cons (pg_name (i := 11) scl_apart.nd rfl (Or.inl rfl)) (pgs_cons (pg_name (i := 12) scl_apart.nd rfl (Or.inl rfl)) pgs_nil)))) (fun _ _ _ _ _ => pts_nil) (fun _ _ _ _ _ => (pe_fr (pv 11)))) pa_nil))) (pgT K 2 (pgs_cons (pg_name (i := 4) scl_apart.nd rfl (Or.inr rfl)) (pgs_cons (pg_name (i := 5) scl_apart.nd rfl (Or.inl rfl)) pgs_nil))))
 (pss_cons (ps_asg (pe_tup (pa_cons (pe_op op_cat (pv 5) (pe_listRg rfl rfl T.n_list (prg_2 rfl T.range (pv 2) (pe_callB (lenS K) (by rfl) T.n_len bt_len (pa_cons (pe_ix (ixT K) (pv 0) pe_int (fun _ _ => rfl)) pa_nil))))) (pa_cons (pe_slice (slL K) (pv 5) po_none (po_some pe_int)) pa_nil))) (pgT K 2 (pgs_cons (pg_name (i := 6) scl_apart.nd rfl (Or.inl rfl)) (pgs_cons (pg_name (i := 7) scl_apart.nd rfl (Or.inr rfl)) pgs_nil))))
 (pss_cons (ps_set (i := 3) scl_apart.nd rfl (Or.inl rfl) (pe_slice (slL K) (pv 5) po_none (po_some pe_int)))
 (pss_cons (ps_while PassesOwn.never (pt_truth (pv 3) (by intro _; rfl)) (pss_cons (ps_set (i := 8) scl_apart.nd rfl (Or.inr rfl) (pe_bm0 PySem.F.plainAttrs_list PySem.F.slot_list_pop PySem.F.type_list_pop mt_pop (pv 3)))
 (pss_cons (ps_setLc (own := [("_law_y", 10)]) (i := 9) rfl scl_apart.nd rfl rfl (sw_true rfl rfl rfl (by decide +kernel)) (piL K (pv 6)) (blkOk_by (N := Nl_apart) (sc := defScope sl_apart) (by decide +kernel)) (fun _ _ _ _ _ => (pg_name (i := 10) scl_apart.nd rfl (Or.inl rfl))) (fun _ _ _ _ _ => (pts_fr (pts_one (PW.pt (pw_and (pt_cmpR op_gt (pe_ix (ixL K) (pe_ix (ixL K) (pv 4) (pv 8) (fun _ _ => rfl)) (pv 10) (fun _ _ => rfl)) pe_int (nomark _)) (pw_and1 (pt_cmpR (opNotIn K) (pv 10) (pv 7) (by with_unfolding_all rfl)))))))) (fun _ _ _ _ _ => (pe_fr (pv 10))))
 (pss_one (ps_asg (pe_tup (pa_cons (pe_op op_cat (pv 7) (pv 9)) (pa_cons (pe_op op_cat (pv 3) (pv 9)) pa_nil))) (pgT K 2 (pgs_cons (pg_name (i := 7) scl_apart.nd rfl (Or.inr rfl)) (pgs_cons (pg_name (i := 3) scl_apart.nd rfl (Or.inl rfl)) pgs_nil))))))))
 (pss_one (ps_ret (pe_callB (anyS K) (by rfl) T.n_any bt_any (pa_cons (pe_lc (own := [("_law_x", 8)]) rfl scl_apart.nd (piL K (pv 5)) (blkOk_by (N := Nl_apart) (sc := defScope sl_apart) (by decide +kernel)) (fun _ _ _ _ _ => (pg_name (i := 8) scl_apart.nd rfl (Or.inl rfl))) (fun _ _ _ _ _ => pts_nil) (fun _ _ _ _ _ => (pe_fr (pe_cmpR (opNotIn K) (pv 8) (pv 7) (by with_unfolding_all rfl))))) pa_nil)))))))), ?_⟩
    -- rows, ours
    refine go_asgs ?_
    refine ⟨_, rfl, _, wb, rfl, dw, by omega, by omega, w7.tok, fun rv H1 e1 dr0 => ?_⟩
    refine lcPr H1 (fun p => .int p.1) (e1 _ _ hpp) (hqx.mono e1) (by omega) (fun R r => ⟨_, rfl, pp, rfl, ⟨_, SqL.of (e1 _ _ hpp)⟩, r⟩) (fun _ _ => rfl) (fun p hp G R eG kk => ⟨_, rfl, kk G (Ex.refl _)⟩) fun oa G1 eG1 _ hoa => ?_
    refine ⟨sz2, fun tq htq => ?_⟩
    have e2 := (e1.trans eG1).trans (Ex.new (o := .tup [rv, .ref oa]) htq)
    have hoa2 := (Ex.new (o := .tup [rv, .ref oa]) htq) _ _ hoa
    have dr := dr0.mono (eG1.trans (Ex.new (o := .tup [rv, .ref oa]) htq))
    refine ⟨tq, _, rfl, SqT.of upd_same, rfl, _, _, rfl, ?_⟩
    generalize upd G1 tq (.tup [rv, .ref oa]) = H2 at e2 hoa2 dr
    rw [show prs.map (fun p => V.int p.1) = (prs.map (·.1)).map V.int by simp] at hoa2
    dsimp only [gName]
    refine ⟨_, _, rfl, ?_⟩
    dsimp only [gName]
    refine ⟨rfl, ?_⟩
    -- some, seen
    refine go_asgs ?_
    have big : (1000 : Nat) < sizeLine := by decide
    refine ⟨_, rfl, _, rfl, _, rfl, wp, _, 0, _, rfl, rfl, SqT.of (e2 _ _ hwp), rfl, pa, pxs, rfl, .inl (SqL.of (e2 _ _ hpa)), _, _, rfl, rfl, RgOk.of_le m0 (by omega) (by omega) (by omega), fun ra hra => ?_⟩
    rw [rgV_ints, lp] at *
    have x1 := Ex.new (o := .lst ((rgI m wb.parts.length).map V.int)) hra
    refine ⟨oa, ra, _, _, rfl, rfl, x1 _ _ hoa2, upd_same, (by simp [rgI]; omega), fun sa hsa0 => ?_⟩
    rw [← List.map_append] at *
    have x2 := x1.trans (Ex.new (o := .lst ((prs.map (·.1) ++ rgI m wb.parts.length).map V.int)) hsa0)
    generalize hss : prs.map (·.1) ++ rgI m wb.parts.length = ss at *
    refine ⟨_, rfl, 1, rfl, oa, _, rfl, SqL.of (x2 _ _ hoa2), fun ap hap => ⟨sz2, fun tq2 htq2 => ?_⟩⟩
    have x3 := x2.trans (Ex.new (o := .lst (cutV ((prs.map (·.1)).map V.int) none (some 1))) hap)
    refine ⟨tq2, _, rfl, SqT.of upd_same, rfl, _, _, rfl, ?_⟩
    have hsa3 := (Ex.new (o := .tup [.ref sa, .ref ap]) htq2) _ _ ((Ex.new (o := .lst (cutV ((prs.map (·.1)).map V.int) none (some 1))) hap) sa (.lst (ss.map V.int)) upd_same)
    have hap3 := (Ex.new (o := .tup [.ref sa, .ref ap]) htq2) ap (.lst (cutV ((prs.map (·.1)).map V.int) none (some 1))) upd_same
    have x4 := x3.trans (Ex.new (o := .tup [.ref sa, .ref ap]) htq2)
    have ec : cutV ((prs.map (·.1)).map V.int) none (some 1) = ((prs.map (·.1)).take 1).map V.int := by rw [cutV_to (by decide), List.map_take]; rfl
    generalize upd (upd (upd (upd H2 ra (.lst ((rgI m wb.parts.length).map V.int))) sa (.lst (ss.map V.int))) ap (.lst (cutV ((prs.map (·.1)).map V.int) none (some 1)))) tq2 (.tup [.ref sa, .ref ap]) = HB at hsa3 hap3 x4
    rw [ec] at hap3
    have e4 := e2.trans x4
    have hoa4 := x4 _ _ hoa2
    have drB := dr.mono x4
    have bl : Below wb.parts.length ss := fun y hy => by
      rw [← hss] at hy
      rcases List.mem_append.mp hy with hy | hy
      · exact bel y hy
      · obtain ⟨i, hi, rfl⟩ := List.mem_map.mp hy
        have := List.mem_range.mp hi
        omega
    have lss : ss.length ≤ 100 := by rw [← hss]; simp [rgI]; omega
    obtain ⟨tp, _, rfl, _, _⟩ := id dr
    have sq := tabM_sqr wb.parts.length wb.ties
    dsimp only [gName]
    refine ⟨_, _, rfl, ?_⟩
    dsimp only [gName]
    refine ⟨rfl, ?_⟩
    -- left
    refine go_sets ?_
    refine ⟨_, rfl, 1, rfl, oa, _, rfl, SqL.of hoa4, fun bp hbp => ?_⟩
    rw [ec]
    have nab : ap ≠ bp := new_ne hap3 hbp
    have e5 : Ex HB (upd HB bp (.lst (((prs.map (·.1)).take 1).map V.int))) := Ex.new hbp
    have hap5 := e5 _ _ hap3
    have hbp5 : upd HB bp (.lst (((prs.map (·.1)).take 1).map V.int)) bp = some (.lst (((prs.map (·.1)).take 1).map V.int)) := upd_same
    generalize upd HB bp (.lst (((prs.map (·.1)).take 1).map V.int)) = H5 at e5 hap5 hbp5
    generalize hTb : tabM wb.parts.length wb.ties = Tb at *
    -- while
    refine ⟨fun mm σ H' => ∃ ap bp seen left u v w, σ = [some (.ref wp), some (.ref pp), some (.int m), some (.ref bp), some (.ref tp), some (.ref oa), some (.ref sa), some (.ref ap), u, v, w, none, none] ∧ Ex HB H' ∧ H' ap = some (.lst (seen.map V.int)) ∧ H' bp = some (.lst (left.map V.int)) ∧ HB bp = none ∧ ap ≠ bp ∧
      (∀ p0 rest, prs = p0 :: rest → Sch Tb ss p0.1 (1 + (unseen ss [p0.1]).length) seen left) ∧ (∀ y ∈ left, 0 ≤ y ∧ y < wb.parts.length) ∧ left.length ≤ seen.length ∧ seen.length + (unseen ss seen).length ≤ 200 ∧ mm = left.length + (unseen ss seen).length,
      ⟨_, ap, bp, (prs.map (·.1)).take 1, (prs.map (·.1)).take 1, none, none, none, rfl, e5, hap5, hbp5, hbp, nab, fun p0 rest e => ?_, fun y hy => bel y (List.mem_of_mem_take hy), Nat.le_refl _, ?_, rfl⟩, ?_⟩
    · rw [e]
      exact Sch.begin Tb
    · have q1 : (unseen ss ((prs.map (·.1)).take 1)).length ≤ ss.length := List.length_filter_le _ _
      have q2 : ((prs.map (·.1)).take 1).length ≤ 1 := by rw [List.length_take]; omega
      omega
    rintro mm σ H' ⟨ap, bp, seen, left, u, v, w, rfl, eH, ha, hb, fb, nab, sch, bll, lls, cnt, rfl⟩
    refine ⟨_, rfl, _, .inl ⟨_, SqL.of hb, rfl⟩, ?_⟩
    rcases List.eq_nil_or_concat left with rfl | ⟨L0, x, rfl⟩
    · refine iteF ?_
      dsimp only
      refine go_ret (go_cb1 ?_)
      refine lcN H' (fun i acc G => Ex H' G ∧ acc = (((prs.map (·.1)).take i).map fun z => !decide (z ∈ seen)).map V.bl) (fun R r => ⟨_, rfl, oa, rfl, ⟨_, SqL.of (eH _ _ hoa4)⟩, r⟩) (eH _ _ hoa4) (by simp; omega) ⟨Ex.refl _, rfl⟩ ?_ (fun _ => rfl) ?_ ?_
      · rintro i acc G ⟨_, rfl⟩
        simp only [List.length_map, List.length_take]; omega
      · rintro i v acc G hi eG ⟨_, rfl⟩
        rw [List.getElem?_map] at hi
        obtain ⟨y, hy, rfl⟩ := Option.map_eq_some_iff.mp hi
        refine ⟨_, rfl, _, rfl, ap, _, rfl, .inl (SqL.of (eG _ _ ha)), rfl, flat_ints _, Ex.refl _, eG, ?_⟩
        rw [show (prs.map (·.1)).take (i + 1) = (prs.map (·.1)).take i ++ [y] by rw [List.take_add_one, hy]; rfl, List.map_append, List.map_append]
        congr 1
        exact congrArg (fun b => [V.bl (!b)]) (in_ints y seen)
      rintro acc G q eG hq ⟨_, rfl⟩
      rw [List.length_map, List.take_length]
      refine ⟨q, _, rfl, SqL.of upd_same, k _ _ (e4.trans (eH.trans (eG.trans (Ex.new hq)))) ?_⟩
      rw [List.any_map, List.any_eq_true]
      constructor
      · rintro ⟨z, hz, hn⟩
        obtain ⟨q, hq, rfl⟩ := List.mem_map.mp hz
        rcases hprs : prs with _ | ⟨p0, rest⟩
        · rw [hprs] at hq; cases hq
        · refine ⟨p0, rest, rfl, q, by rw [← hprs]; exact hq, fun r => ?_⟩
          rw [← hprs, hss, hTb, ← (sch p0 rest hprs).fin] at r
          simp [r] at hn
      · rintro ⟨p0, rest, hprs, q, hq, hn⟩
        rw [hss, hTb, ← (sch p0 rest hprs).fin] at hn
        exact ⟨q.1, List.mem_map_of_mem hq, by simp [hn]⟩
    rw [List.concat_eq_append] at *
    have ne : (!(List.map V.int (L0 ++ [x])).isEmpty) = true := by simp
    rw [ne]
    refine iteT ?_
    obtain ⟨x0, x1⟩ := bll x (by simp)
    have nc := new_cnt Tb seen x ss
    refine ⟨fun σ' H' => ∃ ap bp u v w, σ' = [some (.ref wp), some (.ref pp), some (.int m), some (.ref bp), some (.ref tp), some (.ref oa), some (.ref sa), some (.ref ap), u, v, w, none, none] ∧ Ex HB H' ∧ H' ap = some (.lst ((seen ++ newM Tb ss seen x).map V.int)) ∧ H' bp = some (.lst ((L0 ++ newM Tb ss seen x).map V.int)) ∧ HB bp = none ∧ ap ≠ bp,
      fun σ' H' ⟨ap, bp, u, v, w, e, e1, g1, g2, g3, g4⟩ => ⟨_, ?_, ap, bp, _, _, u, v, w, e, e1, g1, g2, g3, g4, fun p0 rest es => (sch p0 rest es).step, fun y hy => ?_, ?_, ?_, rfl⟩, ?_⟩
    · simp only [List.length_append, List.length_singleton]; omega
    · rcases List.mem_append.mp hy with hy | hy
      · exact bll y (by simp [hy])
      · exact bl y (List.mem_filter.mp hy).1
    · simp only [List.length_append, List.length_singleton] at lls ⊢; omega
    · rw [List.length_append]; omega
    refine go_sets ?_
    refine ⟨_, rfl, .inl ⟨rfl, _, SqL.of hb⟩, bp, _, V.int x, rfl, rfl, hb, by simp, ?_⟩
    rw [show ((L0 ++ [x]).map V.int).dropLast = L0.map V.int by simp]
    have eH1 : Ex HB (upd H' bp (.lst (L0.map V.int))) := Evl.Ex.mut eH fb
    have ha1 : upd H' bp (.lst (L0.map V.int)) ap = some (.lst (seen.map V.int)) := by rw [upd_ne nab]; exact ha
    have hb1 : upd H' bp (.lst (L0.map V.int)) bp = some (.lst (L0.map V.int)) := upd_same
    generalize upd H' bp (.lst (L0.map V.int)) = H1 at eH1 ha1 hb1
    obtain ⟨txs, rq, row, htp, hrq, hrow, lrow, cell⟩ := tab_item sq drB x0 x1
    refine go_sets (lcNt H1 (fun i acc G => Ex H1 G ∧ acc = (newM Tb (ss.take i) seen x).map V.int) (fun R r => ⟨_, rfl, sa, rfl, ⟨_, SqL.of (eH1 _ _ hsa3)⟩, r⟩) (eH1 _ _ hsa3) (by rw [List.length_map]; omega) ⟨Ex.refl _, rfl⟩ ?_ (fun _ => rfl) ?_ ?_)
    · rintro i acc G ⟨_, rfl⟩
      rw [List.length_map]
      exact Nat.le_trans (List.length_filter_le _ _) (by rw [List.length_take]; omega)
    · rintro i v acc G hi eG ⟨_, rfl⟩
      rw [List.getElem?_map] at hi
      obtain ⟨y, hy, rfl⟩ := Option.map_eq_some_iff.mp hi
      obtain ⟨y0, y1⟩ := bl y (List.mem_of_getElem? hy)
      have e6 : newM Tb (ss.take (i + 1)) seen x = newM Tb (ss.take i) seen x ++ if (decide (0 < cellM Tb x y) && !decide (y ∈ seen)) = true then [y] else [] := by
        rw [newM, newM, List.take_add_one, hy, List.filter_append, Option.toList_some, List.filter_cons, List.filter_nil]
      rw [e6]
      have eHG := eH1.trans eG
      refine ⟨_, rfl, _, rfl, tp, txs, x, _, rfl, rfl, SqL.of (eHG _ _ htp), hrq, _, rfl, rq, _, y, _, rfl, rfl, SqL.of (eHG _ _ hrow), cell y y0 y1, _, _, rfl, rfl, _, rfl, ?_⟩
      by_cases hc : 0 < cellM Tb x y
      · rw [decide_eq_true hc]
        refine iteT ⟨_, rfl, _, rfl, ap, _, rfl, .inl (SqL.of (eG _ _ ha1)), rfl, flat_ints _, _, rfl, Ex.refl _, fun h => ⟨_, rfl, Ex.refl _, eG, ?_⟩, fun h => ⟨eG, ?_⟩⟩
        · have h' : (!decide (y ∈ seen)) = true := by rw [← in_ints]; exact h
          rw [h', Bool.true_and, if_pos rfl, List.map_append]; rfl
        · have h' : (!decide (y ∈ seen)) = false := by rw [← in_ints]; exact h
          rw [h', Bool.true_and, if_neg (by decide), List.append_nil]
      · rw [decide_eq_false hc]
        refine iteF ⟨Ex.refl _, fun h => (by cases h), fun _ => ⟨eG, ?_⟩⟩
        rw [Bool.false_and, if_neg (by decide), List.append_nil]
    rintro acc G np eG hnp ⟨_, rfl⟩
    rw [List.length_map, List.take_length]
    have eG2 := eG.trans (Ex.new (o := .lst ((newM Tb ss seen x).map V.int)) hnp)
    have hn2 : upd G np (.lst ((newM Tb ss seen x).map V.int)) np = some (.lst ((newM Tb ss seen x).map V.int)) := upd_same
    generalize upd G np (.lst ((newM Tb ss seen x).map V.int)) = G2 at eG2 hn2
    have lnw : (newM Tb ss seen x).length ≤ 100 := Nat.le_trans (List.length_filter_le _ _) lss
    refine go_asg ?_
    refine ⟨_, rfl, _, rfl, ap, np, _, _, rfl, rfl, eG2 _ _ ha1, hn2, (by simp only [List.length_map]; omega), fun sp hsp => ?_⟩
    have x1 := Ex.new (o := .lst (seen.map V.int ++ (newM Tb ss seen x).map V.int)) hsp
    refine ⟨_, rfl, _, rfl, bp, np, _, _, rfl, rfl, x1 _ _ (eG2 _ _ hb1), x1 _ _ hn2, ?_, fun lp hlp => ?_⟩
    · simp only [List.length_append, List.length_singleton, List.length_map] at lls ⊢; omega
    have x2 := Ex.new (o := .lst (L0.map V.int ++ (newM Tb ss seen x).map V.int)) hlp
    refine ⟨sz2, fun tq htq => ?_⟩
    have x3 := Ex.new (o := .tup [.ref sp, .ref lp]) htq
    refine ⟨tq, _, rfl, SqT.of upd_same, rfl, _, _, rfl, ?_⟩
    dsimp only [gName]
    refine ⟨_, _, rfl, ?_⟩
    dsimp only [gName]
    refine ⟨rfl, sp, lp, _, _, _, rfl, eH1.trans (eG2.trans (x1.trans (x2.trans x3))), ?_, ?_, ?_, ?_⟩
    · rw [List.map_append]; exact x3 _ _ (x2 _ _ upd_same)
    · rw [List.map_append]; exact x3 _ _ upd_same
    · exact Evl.fresh_back (eH1.trans (eG2.trans x1)) hlp
    · exact new_ne upd_same hlp
end
end W3

end
section
set_option Elab.async false
set_option linter.all false
namespace W3
open PySem PySem.Spec PyProof.Rows L2 M83 M72
/-! ### the table and the ties -/
theorem cell_set {n : Nat} {T : List (List Int)} {a b x y : Nat} {o : Int} (sq : Sqr n T) (ha : a < n) (hb : b < n) : cellM (setT T a b o) x y = if x = a ∧ y = b then o else cellM T x y := by
  have hl : a < T.length := by rw [sq.1]; exact ha
  have hr : b < T[a].length := by rw [sq.2 _ (List.getElem_mem hl)]; exact hb
  unfold cellM setT
  rw [List.getElem?_modify, Int.toNat_natCast, Int.toNat_natCast]
  by_cases h1 : x = a
  · subst h1
    rw [List.getElem?_eq_getElem hl]
    simp only [Option.map_eq_map, Option.map_some, Option.getD_some, if_pos]
    by_cases h2 : y = b
    · subst h2
      rw [if_pos (by simp), List.getElem?_set_self hr]; rfl
    · rw [if_neg (fun h => h2 h.2), List.getElem?_set_ne (fun z => h2 z.symm)]
  · rw [if_neg (fun h => h1 h.1)]
    have e : (fun r : List Int => if a = x then r.set b o else r) = id := by
      funext r
      rw [if_neg (fun z => h1 z.symm)]; rfl
    rw [e, Option.map_eq_map, Option.map_id]; rfl
theorem put_pos {n : Nat} {T : List (List Int)} {t : Tie} {x y : Int} (sq : Sqr n T) (h : 0 ≤ t.1 ∧ t.1 < t.2.1 ∧ t.2.1 < (n : Int)) (o : 1 ≤ t.2.2) (x0 : 0 ≤ x) (y0 : 0 ≤ y) :
    0 < cellM (putT T t) x y ↔ 0 < cellM T x y ∨ (x = t.1 ∧ y = t.2.1) ∨ (x = t.2.1 ∧ y = t.1) := by
  obtain ⟨x, rfl⟩ := Int.eq_ofNat_of_zero_le x0
  obtain ⟨y, rfl⟩ := Int.eq_ofNat_of_zero_le y0
  obtain ⟨a, b, c⟩ := t
  simp only at h o ⊢
  obtain ⟨a, rfl⟩ := Int.eq_ofNat_of_zero_le h.1
  obtain ⟨b, rfl⟩ := Int.eq_ofNat_of_zero_le (show 0 ≤ b by omega)
  unfold putT
  simp only [Int.toNat_natCast]
  rw [cell_set (setT_sqr sq) (by omega) (by omega), cell_set sq (by omega) (by omega)]
  split
  · rename_i q
    exact ⟨fun _ => .inr (.inr ⟨by omega, by omega⟩), fun _ => by omega⟩
  · rename_i q
    split
    · rename_i q2
      exact ⟨fun _ => .inr (.inl ⟨by omega, by omega⟩), fun _ => by omega⟩
    · rename_i q2
      constructor
      · exact fun z => .inl z
      · rintro (z | z | z)
        · exact z
        · omega
        · omega
theorem tab_pos {n : Nat} : ∀ (ts : List Tie), TiesOk n ts → (∀ t ∈ ts, 1 ≤ t.2.2) → ∀ {x y : Int}, 0 ≤ x → 0 ≤ y → (0 < cellM (tabM n ts) x y ↔ Adj ts x y) := by
  intro ts
  suffices g : ∀ (ts : List Tie) (T : List (List Int)), Sqr n T → TiesOk n ts → (∀ t ∈ ts, 1 ≤ t.2.2) → ∀ {x y : Int}, 0 ≤ x → 0 ≤ y → (0 < cellM (ts.foldl putT T) x y ↔ 0 < cellM T x y ∨ Adj ts x y) by
    intro ok ho x y x0 y0
    rw [tabM, g ts _ ⟨by simp, fun r hr => by rw [(List.mem_replicate.mp hr).2]; simp⟩ ok ho x0 y0]
    constructor
    · rintro (z | z)
      · exfalso
        unfold cellM at z
        rw [List.getElem?_replicate] at z
        split at z
        · rw [Option.getD_some, List.getElem?_replicate] at z
          split at z <;> simp at z
        · simp at z
      · exact z
    · exact .inr
  clear ts
  intro ts
  induction ts with
  | nil =>
    intro T _ _ _ x y _ _
    exact ⟨.inl, fun h => h.elim id fun ⟨o, h⟩ => by simp at h⟩
  | cons t ts ih =>
    intro T sq ok ho x y x0 y0
    rw [List.foldl_cons, ih (putT T t) (setT_sqr (setT_sqr sq)) (fun t ht => ok t (by simp [ht])) (fun t ht => ho t (by simp [ht])) x0 y0, put_pos sq (ok t (by simp)) (ho t (by simp)) x0 y0]
    obtain ⟨a, b, c⟩ := t
    simp only [Adj, List.mem_cons, Prod.mk.injEq]
    constructor
    · rintro ((z | z | z) | ⟨o, z | z⟩)
      · exact .inl z
      · exact .inr ⟨c, .inl (.inl ⟨z.1, z.2, rfl⟩)⟩
      · exact .inr ⟨c, .inr (.inl ⟨z.2, z.1, rfl⟩)⟩
      · exact .inr ⟨o, .inl (.inr z)⟩
      · exact .inr ⟨o, .inr (.inr z)⟩
    · rintro (z | ⟨o, (z | z) | (z | z)⟩)
      · exact .inl (.inl z)
      · exact .inl (.inr (.inl ⟨z.1, z.2.1⟩))
      · exact .inr ⟨o, .inl z⟩
      · exact .inl (.inr (.inr ⟨z.2.1, z.1⟩))
      · exact .inr ⟨o, .inr z⟩
/-! ### two words for apart -/
theorem apart_same {wb : Web} {prs : List Hand} {m : Int} (ok : TiesOk wb.parts.length wb.ties) (ho : ∀ t ∈ wb.ties, 1 ≤ t.2.2) (bel : Below wb.parts.length (prs.map (·.1))) (m0 : 0 ≤ m) : ApartP wb prs m ↔ ApartL wb prs m := by
  have mem : ∀ z : Int, 0 ≤ z → z < wb.parts.length → (z ∈ prs.map (·.1) ++ rgI m wb.parts.length ↔ (m ≤ z ∨ z ∈ prs.map (·.1))) := fun z z0 z1 => by
    rw [List.mem_append]
    constructor
    · rintro (h | h)
      · exact .inr h
      · obtain ⟨i, hi, rfl⟩ := List.mem_map.mp h
        exact .inl (by omega)
    · rintro (h | h)
      · refine .inr (List.mem_map.mpr ⟨(z - m).toNat, List.mem_range.mpr (by omega), by omega⟩)
      · exact .inl h
  have rng : ∀ {j k : Int}, Adj wb.ties j k → 0 ≤ j ∧ j < wb.parts.length ∧ 0 ≤ k ∧ k < wb.parts.length := fun ⟨o, h⟩ => by
    rcases h with h | h
    · have := ok _ h; simp only at this; omega
    · have := ok _ h; simp only at this; omega
  have adj : ∀ {j k : Int}, Adj (withinM wb prs m) j k ↔ Adj wb.ties j k ∧ (m ≤ j ∨ j ∈ prs.map (·.1)) ∧ (m ≤ k ∨ k ∈ prs.map (·.1)) := by
    intro j k
    simp only [Adj, withinM, List.mem_filter, List.all_cons, List.all_nil, Bool.and_true, Bool.and_eq_true, Bool.or_eq_true, decide_eq_true_eq]
    constructor
    · rintro ⟨o, ⟨a, b⟩ | ⟨a, b⟩⟩
      · exact ⟨⟨o, .inl a⟩, b⟩
      · exact ⟨⟨o, .inr a⟩, b.2, b.1⟩
    · rintro ⟨⟨o, a | a⟩, b⟩
      · exact ⟨o, .inl ⟨a, b⟩⟩
      · exact ⟨o, .inr ⟨a, b.2, b.1⟩⟩
  have same : ∀ p0 ∈ prs, ∀ z : Int, RT (withinM wb prs m) p0.1 z ↔ RS (tabM wb.parts.length wb.ties) (prs.map (·.1) ++ rgI m wb.parts.length) p0.1 z := by
    intro p0 hp z
    constructor
    · intro r
      induction r with
      | refl => exact .refl
      | step _ a ih =>
        obtain ⟨a, _, b⟩ := adj.mp a
        obtain ⟨r1, r2, r3, r4⟩ := rng a
        exact .step ih ((mem _ r3 r4).mpr b) ((tab_pos wb.ties ok ho r1 r3).mpr a)
    · intro r
      suffices g : RT (withinM wb prs m) p0.1 z ∧ 0 ≤ z ∧ z < wb.parts.length ∧ (m ≤ z ∨ z ∈ prs.map (·.1)) from g.1
      induction r with
      | refl =>
        have h1 : p0.1 ∈ prs.map (·.1) := List.mem_map_of_mem hp
        have b := bel _ h1
        exact ⟨.refl, b.1, b.2, .inr h1⟩
      | @step j k _ hk hc ih =>
        obtain ⟨i1, i2, i3, i4⟩ := ih
        have k0 : 0 ≤ k ∧ k < wb.parts.length := by
          rcases List.mem_append.mp hk with h | h
          · exact bel _ h
          · obtain ⟨i, hi, rfl⟩ := List.mem_map.mp h
            have := List.mem_range.mp hi
            omega
        have a := (tab_pos wb.ties ok ho i2 k0.1).mp hc
        have mk := (mem k k0.1 k0.2).mp hk
        exact ⟨.step i1 (adj.mpr ⟨a, i4, mk⟩), k0.1, k0.2, mk⟩
  constructor
  · rintro ⟨p0, rest, e, q, hq, h⟩
    exact ⟨p0, rest, e, q, hq, fun r => h ((same p0 (by rw [e]; simp) _).mpr r)⟩
  · rintro ⟨p0, rest, e, q, hq, h⟩
    exact ⟨p0, rest, e, q, hq, fun r => h ((same p0 (by rw [e]; simp) _).mp r)⟩
end W3

end
section
set_option Elab.async false
set_option linter.all false
namespace W3
open PySem PySem.Spec PyProof.Rows L2 M83 M72
/-! ### rows that grow from the pairs -/
structure Ext (wb vb : Web) (prs : List Hand) (m top : Int) (row : List Hand) : Prop where
  tail : ∃ ex : List Hand, row = prs ++ ex ∧ (ex.map (·.1)).Nodup ∧ (ex.map (·.2)).Nodup ∧ ∀ e ∈ ex, m ≤ e.1 ∧ e.1 < top ∧ 0 ≤ e.2 ∧ e.2 < vb.parts.length ∧ e.2 ∉ prs.map (·.2) ∧ clsM vb (prs.map (·.2)) e.2 = clsM wb (prs.map (·.1)) e.1
theorem Ext.start (wb vb : Web) (prs : List Hand) (m top : Int) : Ext wb vb prs m top prs := ⟨[], by simp, by simp, by simp, fun e h => by simp at h⟩
theorem Ext.up {wb vb : Web} {prs row : List Hand} {m top up : Int} (h : Ext wb vb prs m top row) (l : top ≤ up) : Ext wb vb prs m up row := by
  obtain ⟨ex, e, n1, n2, q⟩ := h.tail
  exact ⟨ex, e, n1, n2, fun e he => by have := q e he; exact ⟨this.1, by omega, this.2.2⟩⟩
theorem Ext.snoc {wb vb : Web} {prs row : List Hand} {m a b : Int} (h : Ext wb vb prs m a row) (f : fitsM wb vb row a b = true) (ma : m ≤ a) (b0 : 0 ≤ b) (b1 : b < vb.parts.length) : Ext wb vb prs m (a + 1) (row ++ [(a, b)]) := by
  obtain ⟨ex, rfl, n1, n2, q⟩ := h.tail
  simp only [fitsM, Bool.and_eq_true, decide_eq_true_eq, Bool.not_eq_true', List.any_eq_false, List.all_eq_true, Bool.or_eq_true, not_or] at f
  obtain ⟨⟨f1, f2⟩, f3⟩ := f
  refine ⟨ex ++ [(a, b)], by simp, ?_, ?_, fun e he => ?_⟩
  · rw [List.map_append, List.nodup_append]
    refine ⟨n1, by simp, fun x hx y hy => ?_⟩
    obtain ⟨e, he, rfl⟩ := List.mem_map.mp hx
    have := (q e he).2.1
    simp at hy; omega
  · rw [List.map_append, List.nodup_append]
    refine ⟨n2, by simp, fun x hx y hy z => ?_⟩
    obtain ⟨e, he, rfl⟩ := List.mem_map.mp hx
    have := (f2 e (List.mem_append_right _ he)).2
    simp at hy; exact this (by rw [z, hy])
  · rcases List.mem_append.mp he with he | he
    · have := q e he; exact ⟨this.1, by omega, this.2.2⟩
    · rw [List.mem_singleton.mp he]
      refine ⟨ma, by show a < a + 1; omega, b0, b1, fun hm => ?_, ?_⟩
      · obtain ⟨p, hp, e⟩ := List.mem_map.mp hm
        exact (f2 p (List.mem_append_left _ hp)).2 e.symm
      · simp only [clsM, Prod.mk.injEq, rowM, List.map_map, rows_eq, Function.comp_def]
        exact ⟨f1.symm, fun p hp => (f3 p (List.mem_append_left _ hp)).symm⟩
theorem count_sub {α β : Type} [DecidableEq α] [DecidableEq β] (f : α → β) (b : β) : ∀ (l k : List α), l.Nodup → (∀ x ∈ l, x ∈ k) → (l.map f).count b ≤ (k.map f).count b
  | [], _, _, _ => Nat.zero_le _
  | x :: l, k, nd, h => by
    have hx := h x (by simp)
    obtain ⟨nx, nd'⟩ := List.nodup_cons.mp nd
    have ih := count_sub f b l (k.erase x) nd' fun y hy => (List.mem_erase_of_ne (fun e : y = x => nx (by rw [← e]; exact hy))).mpr (h y (by simp [hy]))
    have p : (k.map f).Perm ((x :: k.erase x).map f) := (List.perm_cons_erase hx).map f
    rw [p.count_eq b]
    simp only [List.map_cons, List.count_cons]
    omega
open Classical in
theorem Ext.bound {wb vb : Web} {prs row : List Hand} {m : Int} (h : Ext wb vb prs m wb.parts.length row) : (row.length : Int) ≤ boundM wb vb prs m := by
  obtain ⟨ex, rfl, n1, n2, q⟩ := h.tail
  have e1 : ex.map (fun e => eKey (clsM wb (prs.map (·.1)) e.1)) = (ex.map (·.1)).map fun x => eKey (clsM wb (prs.map (·.1)) x) := by rw [List.map_map]; rfl
  have e2 : ex.map (fun e => eKey (clsM wb (prs.map (·.1)) e.1)) = (ex.map (·.2)).map fun x => eKey (clsM vb (prs.map (·.2)) x) := by
    rw [List.map_map]
    refine List.map_congr_left fun e he => ?_
    show _ = eKey (clsM vb (prs.map (·.2)) e.2)
    rw [(q e he).2.2.2.2.2]
  have g := ic_ge (ex.map fun e => eKey (clsM wb (prs.map (·.1)) e.1)) (keysM wb (prs.map (·.1)) (rgI m wb.parts.length)) (keysM vb (prs.map (·.2)) (freeM vb.parts.length (prs.map (·.2)))) ?_ ?_
  · rw [List.length_map] at g
    simp only [boundM, icD, List.length_append]
    omega
  · intro a
    rw [e1]
    refine count_sub _ a _ _ n1 fun x hx => ?_
    obtain ⟨e, he, rfl⟩ := List.mem_map.mp hx
    have := q e he
    exact List.mem_map.mpr ⟨(e.1 - m).toNat, List.mem_range.mpr (by omega), by omega⟩
  · intro a
    rw [e2]
    refine count_sub _ a _ _ n2 fun x hx => ?_
    obtain ⟨e, he, rfl⟩ := List.mem_map.mp hx
    have h := q e he
    exact List.mem_filter.mpr ⟨List.mem_map.mpr ⟨e.2.toNat, List.mem_range.mpr (by omega), by omega⟩, by simpa using h.2.2.2.2.1⟩
/-! ### apart: no row is joined -/
theorem RS.mono {T : List (List Int)} {ss tt : List Int} {s y : Int} (h : RS T ss s y) (sub : ∀ z ∈ ss, z ∈ tt) : RS T tt s y := by
  induction h with
  | refl => exact .refl
  | step _ a b ih => exact .step ih (sub _ a) b
theorem apart_unjoined {wb vb : Web} {prs row : List Hand} {m : Int} (h : ApartL wb prs m) (e : Ext wb vb prs m wb.parts.length row) : ¬ ∀ s r, row.map (·.1) = s :: r → ∀ y ∈ row.map (·.1), RS (tabM wb.parts.length wb.ties) (row.map (·.1)) s y := by
  intro j
  obtain ⟨p0, rest, hp, q, hq, n⟩ := h
  obtain ⟨ex, rfl, _, _, hx⟩ := e.tail
  have r := j p0.1 ((rest ++ ex).map (·.1)) (by rw [hp]; rfl) q.1 (List.mem_map_of_mem (List.mem_append_left _ hq))
  refine n (r.mono fun z hz => ?_)
  rw [List.map_append] at hz
  rcases List.mem_append.mp hz with hz | hz
  · exact List.mem_append_left _ hz
  · obtain ⟨e, he, rfl⟩ := List.mem_map.mp hz
    have := hx e he
    exact List.mem_append_right _ (List.mem_map.mpr ⟨(e.1 - m).toNat, List.mem_range.mpr (by omega), by omega⟩)
end W3

end
section
set_option Elab.async false
set_option linter.all false
namespace W3
open M72
/-! ### the law's sum -/
section
variable {α : Type} [DecidableEq α]
def sumF (hs ts : List α) : Nat → Nat
  | 0 => 0
  | i + 1 => match hs[i]? with
    | some x => if x ∈ hs.take i then sumF hs ts i else sumF hs ts i + min (hs.count x) (ts.count x)
    | none => sumF hs ts i
def without (seen xs : List α) : List α := xs.filter fun y => !decide (y ∈ seen)
theorem without_count {seen xs : List α} {x : α} (h : x ∉ seen) : (without seen xs).count x = xs.count x := by
  unfold without
  rw [List.count_filter (by simpa using h)]
theorem without_more (seen xs : List α) (x : α) : (without seen xs).filter (· ≠ x) = without (seen ++ [x]) xs := by
  unfold without
  rw [List.filter_filter]
  refine List.filter_congr fun y _ => ?_
  rw [Bool.eq_iff_iff]
  simp [and_comm]
theorem without_same {seen xs : List α} {x : α} (h : x ∈ seen) : without (seen ++ [x]) xs = without seen xs := by
  unfold without
  refine List.filter_congr fun y _ => ?_
  rw [Bool.eq_iff_iff]
  simp only [Bool.not_eq_true', decide_eq_false_iff_not, List.mem_append, List.mem_singleton, not_or]
  exact ⟨fun q => q.1, fun q => ⟨q, fun e => q (e ▸ h)⟩⟩
theorem sumF_ic (hs ts : List α) : ∀ i, i ≤ hs.length → sumF hs ts i + ic (without (hs.take i) hs) (without (hs.take i) ts) = ic hs ts
  | 0, _ => by
    have e : ∀ xs : List α, without ([] : List α) xs = xs := fun xs => List.filter_eq_self.mpr fun y _ => by simp
    rw [List.take_zero, e, e, sumF, Nat.zero_add]
  | i + 1, h => by
    have ih := sumF_ic hs ts i (by omega)
    have hx : hs[i]? = some hs[i] := List.getElem?_eq_getElem (by omega)
    rw [sumF, hx, List.take_add_one, hx]
    simp only [Option.toList_some]
    split
    · rename_i m
      rw [without_same m, without_same m]; exact ih
    · rename_i m
      rw [ic_filter hs[i], without_count m, without_count m, without_more, without_more] at ih
      omega
theorem sumF_all (hs ts : List α) : sumF hs ts hs.length = ic hs ts := by
  have h := sumF_ic hs ts hs.length (Nat.le_refl _)
  rw [List.take_length] at h
  have e : without hs hs = [] := List.filter_eq_nil_iff.mpr fun y hy => by simp [hy]
  rw [e] at h
  simpa [ic] using h
end
open PySem PySem.Spec PyProof.Rows L2 M83
def clsL (wb : Web) (ps ls : List Int) : List (Part × List Int) := ls.map (clsM wb ps)
open Classical in
theorem bound_law {wb vb : Web} {prs : List Hand} {m : Int} : ((prs.length + sumF (clsL wb (prs.map (·.1)) (rgI m wb.parts.length)) (clsL vb (prs.map (·.2)) (freeM vb.parts.length (prs.map (·.2)))) (clsL wb (prs.map (·.1)) (rgI m wb.parts.length)).length : Nat) : Int) = boundM wb vb prs m := by
  rw [sumF_all]
  have e : ∀ (w : Web) (ps ls : List Int), keysM w ps ls = (clsL w ps ls).map eKey := fun w ps ls => by unfold keysM clsL; rw [List.map_map]; rfl
  unfold boundM icD
  rw [e, e, ic_map key_inj]
  omega
end W3

end
section
set_option Elab.async false
set_option linter.all false
set_option maxRecDepth 100000
set_option maxHeartbeats 4000000
namespace W3
open PySem PySem.Spec PyProof.Rows L2 M83 M72
open Evl (Ex)
/-! ### a comprehension over a zip of two lists, of two tuples -/
theorem upd_swap {H : Hp} {a b : Addr} {o u : HO} (h : a ≠ b) : upd (upd H a o) b u = upd (upd H b u) a o := by
  funext c
  by_cases e : c = a
  · subst e; rw [upd_ne h, upd_same, upd_same]
  · rw [upd_ne (H := upd H b u) e]
    by_cases e2 : c = b
    · subst e2; rw [upd_same, upd_same]
    · rw [upd_ne e2, upd_ne e2, upd_ne e]
section
variable {K : PySem.W.Frag} {σ : L2.St} {H : Hp} {vs : List Nat} {Q : VK} {te : TE} {wi : TI}
theorem zip_turn {H1 G : Hp} {D T : Addr} {acc : List V} {x y : V} {j1 j2 : Nat} {P P' : List V → Hp → Prop} (n : G D = none) (e : Ex H1 G) (hz : acc.length + 1 < sizeLine) (hT : upd G D (.lst acc) T = none)
    (hw : ∀ x y, wipe (((wipe σ vs).set j1 (some x)).set j2 (some y)) vs = wipe σ vs) (p : P acc G) (mono : ∀ G', Ex G G' → P acc G → P acc G')
    (step : ∀ G', Ex H1 G' → P acc G' → te (((wipe σ vs).set j1 (some x)).set j2 (some y)) G' fun z G4 => Ex G' G4 ∧ P' (acc ++ [z]) G4) :
    gTup K 2 (gCons (gName j1) (gCons (gName j2) gNil)) (.ref T) (wipe σ vs) (upd (upd G D (.lst acc)) T (.tup [x, y])) fun σ2 H2 => wipe σ2 vs = wipe σ vs ∧ tYes σ2 H2 fun b H3 =>
        if b = true then tFr te σ2 H3 fun y H4 => ∃ acc, H4 D = some (.lst acc) ∧ acc.length < sizeLine ∧ At H1 D P' (upd H4 D (.lst (acc ++ [y]))) else At H1 D P' H3 := by
  have dT : D ≠ T := fun z => by rw [← z, upd_same] at hT; cases hT
  have gT : G T = none := by rw [upd_ne dT.symm] at hT; exact hT
  rw [upd_swap dT]
  have e2 := Ex.new (o := .tup [x, y]) gT
  have n2 : upd G T (.tup [x, y]) D = none := by rw [upd_ne dT]; exact n
  exact ⟨T, _, rfl, SqT.of (by rw [upd_ne dT.symm]; exact upd_same), rfl, x, _, rfl, y, _, rfl, rfl, hw x y, yes_of (el_fr n2 (e.trans e2) hz (step _ (e.trans e2) (mono _ e2 p)))⟩
theorem lcZ (H1 : Hp) {a b : Addr} {xs ys : List V} {j1 j2 : Nat} {J : It} (P : Nat → List V → Hp → Prop) (hJ : (J = Itz K a b ∧ H1 a = some (.lst xs) ∧ H1 b = some (.lst ys)) ∨ (J = RZ.ItzT K a b ∧ H1 a = some (.tup xs) ∧ H1 b = some (.tup ys)))
    (hi : ∀ R : It → Hp → Prop, R J H1 → wi σ H R) (hl : xs.length = ys.length) (hz : xs.length ≤ 100000) (h0 : P 0 [] H1) (hlen : ∀ i acc G, P i acc G → acc.length ≤ i)
    (hw : ∀ x y, wipe (((wipe σ vs).set j1 (some x)).set j2 (some y)) vs = wipe σ vs) (mono : ∀ i acc G G', Ex G G' → P i acc G → P i acc G')
    (step : ∀ i x y acc G, xs[i]? = some x → ys[i]? = some y → Ex H1 G → P i acc G → te (((wipe σ vs).set j1 (some x)).set j2 (some y)) G fun z G4 => Ex G G4 ∧ P (i + 1) (acc ++ [z]) G4)
    (done : ∀ acc G p, Ex H1 G → G p = none → P xs.length acc G → Q (.ref p) (upd G p (.lst acc))) : tLc wi (gTup K 2 (gCons (gName j1) (gCons (gName j2) gNil))) tYes (tFr te) vs σ H Q := by
  refine hi _ fun D hD => ⟨fun i m H => m = xs.length - i ∧ i ≤ xs.length ∧ At H1 D (P i) H, ⟨xs.length, by simp, Nat.zero_le _, At.start hD h0⟩, ?_⟩
  rintro i m H ⟨rfl, hi, acc, G, rfl, n, e, l, p⟩
  have big : (100002 : Nat) < sizeLine := by decide
  have hlen' := hlen i acc G p
  by_cases lt : i < xs.length
  · have hx : xs[i]? = some xs[i] := List.getElem?_eq_getElem lt
    have lt2 : i < ys.length := by omega
    have hy : ys[i]? = some ys[i] := List.getElem?_eq_getElem lt2
    rcases hJ with ⟨rfl, ha, hb⟩ | ⟨rfl, ha, hb⟩
    · have qa : SqL K (upd G D (.lst acc)) a xs := SqL.of (ex_upd n _ _ (e _ _ ha))
      have qb : SqL K (upd G D (.lst acc)) b ys := SqL.of (ex_upd n _ _ (e _ _ hb))
      refine .inr ⟨⟨xs, ys, _, _, qa, qb, hx, hy⟩, At H1 D (P (i + 1)), fun H' h' => ⟨xs.length - (i + 1), by omega, rfl, lt, h'⟩, fun v H' q => ?_⟩
      obtain ⟨T, x', y', rfl, hT, rfl, kx, ky⟩ := q
      exact zip_turn n e (by omega) hT hw p (fun G' => mono i acc G G') fun G' e' p' => step i x' y' acc G' (kx xs qa) (ky ys qb) e' p'
    · have qa : SqT K (upd G D (.lst acc)) a xs := SqT.of (ex_upd n _ _ (e _ _ ha))
      have qb : SqT K (upd G D (.lst acc)) b ys := SqT.of (ex_upd n _ _ (e _ _ hb))
      refine .inr ⟨⟨xs, ys, _, _, qa, qb, hx, hy⟩, At H1 D (P (i + 1)), fun H' h' => ⟨xs.length - (i + 1), by omega, rfl, lt, h'⟩, fun v H' q => ?_⟩
      obtain ⟨T, x', y', rfl, hT, rfl, kx, ky⟩ := q
      exact zip_turn n e (by omega) hT hw p (fun G' => mono i acc G G') fun G' e' p' => step i x' y' acc G' (kx xs qa) (ky ys qb) e' p'
  · have ei : i = xs.length := by omega
    subst ei
    rcases hJ with ⟨rfl, ha, hb⟩ | ⟨rfl, ha, hb⟩
    · exact .inl ⟨⟨xs, ys, SqL.of (ex_upd n _ _ (e _ _ ha)), SqL.of (ex_upd n _ _ (e _ _ hb)), .inl (Nat.le_refl _)⟩, done acc G D e n p⟩
    · exact .inl ⟨⟨xs, ys, SqT.of (ex_upd n _ _ (e _ _ ha)), SqT.of (ex_upd n _ _ (e _ _ hb)), .inl (Nat.le_refl _)⟩, done acc G D e n p⟩
end
/-! ### _law_same -/
mutual
def Shrt : PyData → Prop
  | .list ds => ds.length ≤ 1000 ∧ Shrts ds
  | .tuple ds => ds.length ≤ 1000 ∧ Shrts ds
  | .none => False
  | .dict _ => False
  | _ => True
def Shrts : List PyData → Prop
  | [] => True
  | d :: ds => Shrt d ∧ Shrts ds
end
theorem Shrts.get : ∀ {ds : List PyData} {i : Nat} {d : PyData}, Shrts ds → ds[i]? = some d → Shrt d
  | [], _, _, _, e => by simp at e
  | d :: _, 0, _, h, e => by simp at e; exact e ▸ h.1
  | _ :: ds, i + 1, _, h, e => Shrts.get (ds := ds) (i := i) h.2 (by simpa using e)
theorem Lfs.get {ds : List PyData} {i : Nat} {d : PyData} (h : Lfs ds) (e : ds[i]? = some d) : Lf d := Lfs.all.mp h d (List.mem_of_getElem? e)
theorem depthAll_get : ∀ {ds : List PyData} {i : Nat} {d : PyData}, ds[i]? = some d → d.depth ≤ PyData.depthAll ds
  | [], _, _, e => by simp at e
  | d :: ds, 0, _, e => by simp at e; subst e; simp only [PyData.depthAll]; omega
  | _ :: ds, i + 1, _, e => by
    have := depthAll_get (ds := ds) (i := i) (by simpa using e)
    simp only [PyData.depthAll]; omega
def tyD : PyData → String
  | .bool _ => "bool"
  | .int _ => "int"
  | .str _ => "str"
  | .list _ => "list"
  | .tuple _ => "tuple"
  | _ => "NoneType"
theorem ty_of {K : PySem.W.Frag} {H : Hp} {d : PyData} {v : V} (h : Dt H d v) : TyX K H v (.type (tyD d)) := by
  cases d with
  | none => cases h; exact .base .non
  | bool b => cases h; exact .base (.bl b)
  | int i => cases h; exact .base (.int i)
  | str x => cases h; exact .base (.str x)
  | list ds => obtain ⟨a, xs, rfl, ha, _⟩ := h; exact .base (.lst ha)
  | tuple ds => obtain ⟨a, xs, rfl, ha, _⟩ := h; exact .base (.tup ha)
  | dict _ => exact h.elim
def isL (d : PyData) : Bool := tyD d == "list"
def isT (d : PyData) : Bool := tyD d == "tuple"
def isB (d : PyData) : Bool := tyD d == "bool"
theorem kit_l (d : PyData) (h : Shrt d) : kitB (tyD d) "list" = some (isL d) := by cases d <;> first | exact h.elim | (simp only [tyD, isL]; decide +kernel)
theorem kit_t (d : PyData) (h : Shrt d) : kitB (tyD d) "tuple" = some (isT d) := by cases d <;> first | exact h.elim | (simp only [tyD, isT]; decide +kernel)
theorem kit_b (d : PyData) (h : Shrt d) : kitB (tyD d) "bool" = some (isB d) := by cases d <;> first | exact h.elim | (simp only [tyD, isB]; decide +kernel)
def p_same : Nat → Sp3
  | 0 => fun _ _ _ => False
  | n + 1 => fun vs H Q => ∃ (u v : V) (d : PyData), vs = [u, v] ∧ Dt H d u ∧ Dt H d v ∧ Lf d ∧ Shrt d ∧ d.depth ≤ n ∧ n ≤ 30 ∧ ∀ H', Ex H H' → Q (.bl true) H'
theorem all_true (n : Nat) : (List.replicate n true).all id = true := by
  rw [List.all_eq_true]
  intro b hb
  rw [(List.mem_replicate.mp hb).2]; rfl
section
variable {P : Program} {w : World} {K : PySem.W.Frag} {mg : Str → Option Value} {base : Heap}
theorem d_l_same {f : Addr} {fd : FuncData} (F : Fun K "_law_same" "_law_same" sl_same f fd) (hm : mg "_law_same" = some (.ref f)) (T : Txt mg) : ∀ n, Df P w K mg base (n + 1) "_law_same" ["_law_one", "_law_two_here"] (p_same n)
  | 0 => Df.body F hm bil_same scl_same (fun vs H Q h => h.elim) (fun cdv A outer s H vs Q hr h => h.elim)
  | n + 1 => by
    have d_l_same := d_l_same F hm T n
    refine Df.body F hm bil_same scl_same (fun vs H Q h => ?_) (fun cdv A outer s H vs Q hr h => ?_)
    · obtain ⟨u, v, d, rfl, _⟩ := h; rfl
    · obtain ⟨u, v, d, rfl, du, dv, lf, sh, dp, hn, k⟩ := h
      refine ⟨_, (pss_cons (ps_if (pt_cmpR op_ne (pe_callB (isiS K) (by rfl) T.n_isinstance bt_isinstance (pa_cons (pv 0) (pa_cons (pe_bltn (v := .ty "list") rfl T.n_list bt_list rfl) pa_nil))) (pe_callB (isiS K) (by rfl) T.n_isinstance bt_isinstance (pa_cons (pv 1) (pa_cons (pe_bltn (v := .ty "list") rfl T.n_list bt_list rfl) pa_nil))) (nomark _)) (pss_one (ps_ret pe_bl)) pss_nil)
 (pss_cons (ps_if (pt_cmpR op_ne (pe_callB (isiS K) (by rfl) T.n_isinstance bt_isinstance (pa_cons (pv 0) (pa_cons (pe_bltn (v := .ty "tuple") rfl T.n_tuple bt_tuple rfl) pa_nil))) (pe_callB (isiS K) (by rfl) T.n_isinstance bt_isinstance (pa_cons (pv 1) (pa_cons (pe_bltn (v := .ty "tuple") rfl T.n_tuple bt_tuple rfl) pa_nil))) (nomark _)) (pss_one (ps_ret pe_bl)) pss_nil)
 (pss_cons (ps_if (pt_cmpR op_ne (pe_callB (isiS K) (by rfl) T.n_isinstance bt_isinstance (pa_cons (pv 0) (pa_cons (pe_bltn (v := .ty "bool") rfl T.n_bool bt_bool rfl) pa_nil))) (pe_callB (isiS K) (by rfl) T.n_isinstance bt_isinstance (pa_cons (pv 1) (pa_cons (pe_bltn (v := .ty "bool") rfl T.n_bool bt_bool rfl) pa_nil))) (nomark _)) (pss_one (ps_ret pe_bl)) pss_nil)
 (pss_cons (ps_if (PW.pt (pw_or (pt_val (pe_callB (isiS K) (by rfl) T.n_isinstance bt_isinstance (pa_cons (pv 1) (pa_cons (pe_bltn (v := .ty "list") rfl T.n_list bt_list rfl) pa_nil)))) (pw_or1 (pt_val (pe_callB (isiS K) (by rfl) T.n_isinstance bt_isinstance (pa_cons (pv 1) (pa_cons (pe_bltn (v := .ty "tuple") rfl T.n_tuple bt_tuple rfl) pa_nil))))))) (pss_one (ps_ret (pe_and (pe_cmpR op_eq (pe_callB (lenS K) (by rfl) T.n_len bt_len (pa_cons (pv 0) pa_nil)) (pe_callB (lenS K) (by rfl) T.n_len bt_len (pa_cons (pv 1) pa_nil)) (nomark _)) (pe_one (pe_callB (crAll K) (by rfl) T.n_all bt_all (pa_cons (pe_lc (own := [("_law_a", 2), ("_law_b", 3)]) rfl scl_same.nd (RZ.pi_zipA rfl T.n_zip (pa_cons (pv 0) (pa_cons (pv 1) pa_nil))) (blkOk_by (N := Nl_same) (sc := defScope sl_same) (by decide +kernel)) (fun _ _ _ _ _ => (pgT K 2 (pgs_cons (pg_name (i := 2) scl_same.nd rfl (Or.inl rfl)) (pgs_cons (pg_name (i := 3) scl_same.nd rfl (Or.inl rfl)) pgs_nil)))) (fun _ _ _ _ _ => pts_nil) (fun _ _ _ _ _ => (pe_fr (pe_c3 d_l_same (hr.less (by omega)) rfl (pa_cons (pv 2) (pa_cons (pv 3) pa_nil)))))) pa_nil)))))) pss_nil)
 (pss_one (ps_ret (pe_cmpR (opEqD K hr.u64) (pv 0) (pv 1) (nomark _)))))))), ?_⟩
      have tu := ty_of (K := K) du
      have tv := ty_of (K := K) dv
      refine ⟨_, rfl, u, .ty "list", _, .type "list", _, rfl, .ty _, tu, kit_ty (kit_l d sh), _, rfl, v, .ty "list", _, .type "list", _, rfl, .ty _, tv, kit_ty (kit_l d sh), rfl, _, rfl, ?_⟩
      rw [decide_eq_true rfl]
      refine iteF ⟨_, rfl, u, .ty "tuple", _, .type "tuple", _, rfl, .ty _, tu, kit_ty (kit_t d sh), _, rfl, v, .ty "tuple", _, .type "tuple", _, rfl, .ty _, tv, kit_ty (kit_t d sh), rfl, _, rfl, ?_⟩
      rw [decide_eq_true rfl]
      refine iteF ⟨_, rfl, u, .ty "bool", _, .type "bool", _, rfl, .ty _, tu, kit_ty (kit_b d sh), _, rfl, v, .ty "bool", _, .type "bool", _, rfl, .ty _, tv, kit_ty (kit_b d sh), rfl, _, rfl, ?_⟩
      rw [decide_eq_true rfl]
      refine iteF ⟨_, rfl, v, .ty "list", _, .type "list", _, rfl, .ty _, tv, kit_ty (kit_l d sh), _, rfl, ?_⟩
      rcases d with _ | bb | ii | ss | ds | ds | _
      · exact sh.elim
      · refine iteF ⟨_, rfl, v, .ty "tuple", _, .type "tuple", _, rfl, .ty _, tv, kit_ty (kit_t _ sh), _, rfl, iteF ?_⟩
        refine ⟨_, rfl, _, rfl, _, _, Dt.dp du, Dt.dp dv, shaped_of lf (by simp [PyData.depth]), shaped_of lf (by simp [PyData.depth]), ?_⟩
        rw [eqv_self _ lf]
        exact k _ (Ex.refl _)
      · refine iteF ⟨_, rfl, v, .ty "tuple", _, .type "tuple", _, rfl, .ty _, tv, kit_ty (kit_t _ sh), _, rfl, iteF ?_⟩
        refine ⟨_, rfl, _, rfl, _, _, Dt.dp du, Dt.dp dv, shaped_of lf (by simp [PyData.depth]), shaped_of lf (by simp [PyData.depth]), ?_⟩
        rw [eqv_self _ lf]
        exact k _ (Ex.refl _)
      · refine iteF ⟨_, rfl, v, .ty "tuple", _, .type "tuple", _, rfl, .ty _, tv, kit_ty (kit_t _ sh), _, rfl, iteF ?_⟩
        refine ⟨_, rfl, _, rfl, _, _, Dt.dp du, Dt.dp dv, shaped_of lf (by simp [PyData.depth]), shaped_of lf (by simp [PyData.depth]), ?_⟩
        rw [eqv_self _ lf]
        exact k _ (Ex.refl _)
      · obtain ⟨a, xs, rfl, ha, hx⟩ := id du
        obtain ⟨b, ys, rfl, hb, hy⟩ := id dv
        have lx := hx.length
        have ly := hy.length
        have le : xs.length = ys.length := by omega
        have hn1 : ds.length ≤ 1000 := sh.1
        refine iteT (iteT ?_)
        refine ⟨_, rfl, a, xs, rfl, .inl (SqL.of ha), _, rfl, b, ys, rfl, .inl (SqL.of hb), rfl, _, rfl, ?_⟩
        rw [le, decide_eq_true rfl]
        refine iteT ?_
        refine go_cb1 ?_
        refine lcZ H (a := a) (b := b) (xs := xs) (ys := ys) (J := Itz K a b) (fun i acc G => Ex H G ∧ acc = (List.replicate i true).map V.bl) (.inl ⟨rfl, ha, hb⟩) (fun R r => ⟨_, rfl, _, rfl, a, b, xs, ys, rfl, .inl ⟨SqL.of ha, SqL.of hb, r⟩⟩) le (by omega) ⟨Ex.refl _, rfl⟩ ?_ (fun _ _ => rfl) (fun i acc G G' e h => ⟨h.1.trans e, h.2⟩) ?_ ?_
        · rintro i acc G ⟨_, rfl⟩
          simp
        · rintro i x y acc G hi hj eG ⟨_, rfl⟩
          obtain ⟨d, hd, dx⟩ := Dts.got hx hi
          obtain ⟨d', hd', dy⟩ := Dts.got hy hj
          rw [hd] at hd'; cases hd'
          have dep : d.depth ≤ n - 1 ∧ 0 < n := by
            have h1 := depthAll_get hd
            simp only [PyData.depth] at dp
            omega
          obtain ⟨n, rfl⟩ : ∃ k, n = k + 1 := ⟨n - 1, by omega⟩
          refine ⟨_, rfl, _, rfl, x, y, d, rfl, dx.mono eG, dy.mono eG, Lfs.get lf hd, Shrts.get sh.2 hd, by omega, by omega, fun H' e' => ⟨e', eG.trans e', ?_⟩⟩
          rw [List.replicate_succ', List.map_append]; rfl
        · rintro acc G q eG hq ⟨_, rfl⟩
          refine ⟨q, List.replicate xs.length true, rfl, SqL.of upd_same, ?_⟩
          rw [all_true]
          exact k _ (eG.trans (Ex.new hq))
      · obtain ⟨a, xs, rfl, ha, hx⟩ := id du
        obtain ⟨b, ys, rfl, hb, hy⟩ := id dv
        have lx := hx.length
        have ly := hy.length
        have le : xs.length = ys.length := by omega
        have hn1 : ds.length ≤ 1000 := sh.1
        refine iteF ⟨_, rfl, .ref b, .ty "tuple", _, .type "tuple", _, rfl, .ty _, tv, kit_ty (kit_t (.tuple ds) sh), _, rfl, iteT ?_⟩
        refine ⟨_, rfl, a, xs, rfl, .inr (SqT.of ha), _, rfl, b, ys, rfl, .inr (SqT.of hb), rfl, _, rfl, ?_⟩
        rw [le, decide_eq_true rfl]
        refine iteT ?_
        refine go_cb1 ?_
        refine lcZ H (a := a) (b := b) (xs := xs) (ys := ys) (J := RZ.ItzT K a b) (fun i acc G => Ex H G ∧ acc = (List.replicate i true).map V.bl) (.inr ⟨rfl, ha, hb⟩) (fun R r => ⟨_, rfl, _, rfl, a, b, xs, ys, rfl, .inr ⟨SqT.of ha, SqT.of hb, r⟩⟩) le (by omega) ⟨Ex.refl _, rfl⟩ ?_ (fun _ _ => rfl) (fun i acc G G' e h => ⟨h.1.trans e, h.2⟩) ?_ ?_
        · rintro i acc G ⟨_, rfl⟩
          simp
        · rintro i x y acc G hi hj eG ⟨_, rfl⟩
          obtain ⟨d, hd, dx⟩ := Dts.got hx hi
          obtain ⟨d', hd', dy⟩ := Dts.got hy hj
          rw [hd] at hd'; cases hd'
          have dep : d.depth ≤ n - 1 ∧ 0 < n := by
            have h1 := depthAll_get hd
            simp only [PyData.depth] at dp
            omega
          obtain ⟨n, rfl⟩ : ∃ k, n = k + 1 := ⟨n - 1, by omega⟩
          refine ⟨_, rfl, _, rfl, x, y, d, rfl, dx.mono eG, dy.mono eG, Lfs.get lf hd, Shrts.get sh.2 hd, by omega, by omega, fun H' e' => ⟨e', eG.trans e', ?_⟩⟩
          rw [List.replicate_succ', List.map_append]; rfl
        · rintro acc G q eG hq ⟨_, rfl⟩
          refine ⟨q, List.replicate xs.length true, rfl, SqL.of upd_same, ?_⟩
          rw [all_true]
          exact k _ (eG.trans (Ex.new hq))
      · exact sh.elim
end
end W3

end
section
set_option Elab.async false
set_option linter.all false
set_option maxRecDepth 100000
set_option maxHeartbeats 4000000
namespace W3
open PySem PySem.Spec PyProof.Rows L2 M83 M72
open Evl (Ex)
theorem sz6 {α : Type} {a b c d e f : α} : [a, b, c, d, e, f].length ≤ sizeLine := (by show 6 ≤ sizeLine; decide)
theorem sz5 {α : Type} {a b c d e : α} : [a, b, c, d, e].length ≤ sizeLine := (by show 5 ≤ sizeLine; decide)
/-! ### picks of numbers -/
theorem pick_ints {σ : L2.St} {H : Hp} {p : Addr} {Q : VK} {te : TE} {i : Nat} (vals : List Int) (hs : σ[i]? = some (some (.ref p))) (hp : H p = some (PotO p)) (h0 : 0 < vals.length) (h1 : vals.length ≤ 1000)
    (ht : ∀ R : VK, (∀ lp, H lp = none → R (.ref lp) (upd H lp (.lst (vals.map V.int)))) → te σ H R) (k : ∀ z ∈ vals, ∀ H', Ex H H' → Q (.int z) H') : tC3 p_pick (tCons (tVar i) (tCons te tNil)) σ H Q := by
  refine ⟨_, hs, ht _ fun lp hlp => ⟨p, lp, _, rfl, (Ex.new hlp) _ _ hp, upd_same, by rw [List.length_map]; exact h0, by rw [List.length_map]; exact h1, fun ix x hx H' e => ?_⟩⟩
  rw [List.getElem?_map] at hx
  obtain ⟨z, hz, rfl⟩ := Option.map_eq_some_iff.mp hx
  exact k z (List.mem_of_getElem? hz) H' ((Ex.new hlp).trans e)
theorem draw_go {σ : L2.St} {H : Hp} {p : Addr} {Q : VK} {te : TE} {i : Nat} (n : Int) (hs : σ[i]? = some (some (.ref p))) (hp : H p = some (PotO p)) (h0 : 0 < n) (h1 : n < 1000000) (ht : ∀ R : VK, R (.int n) H → te σ H R)
    (k : ∀ d : Int, 0 ≤ d → d < n → ∀ H', Ex H H' → Q (.int d) H') : tC3 p_draw (tCons (tVar i) (tCons te tNil)) σ H Q :=
  ⟨_, hs, ht _ ⟨p, n, rfl, hp, h0, h1, k⟩⟩
/-! ### ties of a web with n parts -/
def TF (n : Int) (t : Tie) : Prop := 0 ≤ t.1 ∧ t.1 < t.2.1 ∧ t.2.1 < n ∧ 1 ≤ t.2.2 ∧ t.2.2 ≤ 4
theorem TF.fine {n : Nat} {ts : List Tie} (h : ∀ t ∈ ts, TF n t) : TiesFine n ts := ⟨fun t ht => by have := h t ht; exact ⟨this.1, this.2.1, this.2.2.1⟩, fun t ht => by have := h t ht; exact this.2.2.2⟩
theorem TF.up {n m : Int} {t : Tie} (h : TF n t) (l : n ≤ m) : TF m t := ⟨h.1, h.2.1, by have := h.2.2.1; omega, h.2.2.2⟩
theorem all_snoc {α : Type} {p : α → Prop} {xs : List α} {x : α} (h : ∀ y ∈ xs, p y) (hx : p x) : ∀ y ∈ xs ++ [x], p y := fun y hy => by
  rcases List.mem_append.mp hy with hy | hy
  · exact h y hy
  · rw [List.mem_singleton.mp hy]; exact hx
theorem all_app {α : Type} {p : α → Prop} {xs ys : List α} (h : ∀ y ∈ xs, p y) (hy : ∀ y ∈ ys, p y) : ∀ y ∈ xs ++ ys, p y := fun y m => (List.mem_append.mp m).elim (h y) (hy y)
theorem place_of {z n : Int} (h : 0 < n) (h0 : 0 ≤ z) : 0 ≤ z / n ∧ 0 ≤ z - z / n * n ∧ z - z / n * n < n := by
  have e := Int.mul_ediv_add_emod z n
  have a := Int.emod_nonneg z (show n ≠ 0 by omega)
  have b := Int.emod_lt_of_pos z h
  have c := Int.ediv_nonneg h0 (show 0 ≤ n by omega)
  rw [Int.mul_comm] at e
  exact ⟨c, by omega, by omega⟩
section
variable {P : Program} {w : World} {K : PySem.W.Frag} {mg : Str → Option Value} {base : Heap}
/-! ### _law_drawn_ties -/
def p_dties : Sp3 := fun vs H Q => ∃ (p : Addr) (n : Nat), vs = [.ref p, .int n] ∧ H p = some (PotO p) ∧ n ≤ 6 ∧ ∀ q ts H', Ex H H' → Dt H' (eTies ts) (.ref q) → TiesFine n ts → ts.length ≤ 36 → Q (.ref q) H'
theorem d_l_drawn_ties {f : Addr} {fd : FuncData} (F : Fun K "_law_drawn_ties" "_law_drawn_ties" sl_drawn_ties f fd) (hm : mg "_law_drawn_ties" = some (.ref f)) (T : Txt mg) (d_l_draw : Df P w K mg base 1 "_law_draw" ["_law_pot_here", "_law_many"] p_draw)
    (d_l_pick : Df P w K mg base 2 "_law_pick" ["_law_pot_here", "_law_some"] p_pick) : Df P w K mg base 3 "_law_drawn_ties" ["_law_pot_here", "_law_many"] p_dties := by
  refine Df.body F hm bil_drawn_ties scl_drawn_ties (fun vs H Q h => ?_) (fun cdv A outer s H vs Q hr h => ?_)
  · obtain ⟨p, n, rfl, _⟩ := h; rfl
  · obtain ⟨p, n, rfl, hp, hn, k⟩ := h
    refine ⟨_, (pss_cons (ps_par (i := 3) (j := 4) rfl scl_drawn_ties.nd rfl rfl (by decide) rfl rfl (pa_cons (pe_op op_add pe_int (pe_c3 d_l_draw (hr.less (by decide)) rfl (pa_cons (pv 0) (pa_cons pe_int pa_nil)))) (pa_cons (pe_lst pa_nil) pa_nil)) (by rfl))
 (pss_cons (ps_for PassesOwn.never rfl (pi_range1 rfl T.range (pa_cons (pe_op op_mul (pv 1) (pv 1)) pa_nil)) (pg_name (i := 2) scl_drawn_ties.nd rfl (Or.inl rfl)) (pss_cons (ps_set (i := 5) scl_drawn_ties.nd rfl (Or.inl rfl) (pe_op op_fdiv (pv 2) (pv 1)))
 (pss_one (ps_if (pt_m (PW.pt (pw_and (pt_cmpR op_lt (pv 5) (pe_op op_sub (pv 2) (pe_op op_mul (pv 5) (pv 1))) (nomark _)) (pw_and1 (pt_cmpR op_lt (pe_c3 d_l_draw (hr.less (by decide)) rfl (pa_cons (pv 0) (pa_cons pe_int pa_nil))) (pv 3) (nomark _)))))) (pss_one (ps_expr (pe_bm PySem.F.plainAttrs_list PySem.F.slot_list_append PySem.F.type_list_append mt_append (pv 4) (pa_cons (pe_tup (pa_cons (pv 5) (pa_cons (pe_op op_sub (pv 2) (pe_op op_mul (pv 5) (pv 1))) (pa_cons (pe_c3 d_l_pick (hr.less (by decide)) rfl (pa_cons (pv 0) (pa_cons (pe_lst (pa_cons pe_int (pa_cons pe_int (pa_cons pe_int (pa_cons pe_int (pa_cons pe_int (pa_cons pe_int pa_nil))))))) pa_nil))) pa_nil)))) pa_nil)))) pss_nil))))
 (pss_one (ps_ret (pv 4))))), ?_⟩
    refine ⟨_, rfl, p, _, rfl, hp, by omega, by omega, fun od o0 o1 H2 e2 => ⟨_, _, rfl, rfl, Nat.zero_le _, fun fp hfp => ⟨_, _, rfl, ?_⟩⟩⟩
    have g0 := Grow.start e2 hfp
    have n36 : n * n ≤ 6 * 6 := Nat.mul_le_mul hn hn
    have nn : ((n : Int) * (n : Int)) = ((n * n : Nat) : Int) := by rw [Int.natCast_mul]
    have big : (3000 : Nat) < sizeLine := by decide
    refine ⟨_, rfl, _, rfl, _, _, rfl, rfl, .inl ⟨by omega, by omega⟩, _, rfl, by omega, by omega, ?_⟩
    refine for_range (lo := 0) (n := ((n : Int) * (n : Int)).toNat) (fun i σ H' => ∃ va vp ts, σ = [some (.ref p), some (.int n), va, some (.int (1 + od)), some (.ref fp), vp] ∧ Grow H H' fp (ts.map eTie) ∧ (∀ t ∈ ts, TF n t) ∧ ts.length ≤ i)
      ⟨none, none, [], rfl, g0, fun t h => by simp at h, Nat.zero_le _⟩ ?_ ?_
    · rintro i σ H3 hi ⟨va, vp, ts, rfl, g, fine, hl⟩
      have n0 : 0 < n := by
        rcases Nat.eq_zero_or_pos n with z | z
        · subst z; simp at hi
        · exact z
      have il : i < 36 := by omega
      obtain ⟨q0, q1, q2⟩ := place_of (z := (0 : Int) + i) (n := n) (by omega) (by omega)
      have q3 : (0 : Int) / n ≤ ((0 : Int) + i) / n := by rw [Int.zero_ediv]; exact q0
      have q4 : ((0 : Int) + i) / n < 100 := by
        have := Int.ediv_le_self (n : Int) (show 0 ≤ (0 : Int) + i by omega)
        omega
      refine ⟨_, rfl, _, rfl, _, _, rfl, rfl, ⟨by omega, by omega⟩, ?_⟩
      refine ⟨fun b H' => (b = true → ((0 : Int) + i) / n < (0 : Int) + i - ((0 : Int) + i) / n * n) ∧ Grow H H' fp (ts.map eTie), ?_, ?_⟩
      · refine ⟨_, rfl, _, rfl, _, rfl, _, rfl, _, _, rfl, rfl, .inl ⟨by omega, by omega⟩, _, _, rfl, rfl, _, _, rfl, rfl, _, rfl, ?_⟩
        refine iteAny (fun h => ?_) (fun _ => ⟨fun z => (by cases z), g⟩)
        exact ⟨_, rfl, p, _, rfl, g.ex _ _ hp, by omega, by omega, fun d _ _ H' e => ⟨_, rfl, _, _, rfl, rfl, _, rfl, fun _ => of_decide_eq_true h, g.grow e⟩⟩
      rintro b H4 ⟨hb, g4⟩
      cases b with
      | false => exact iteF ⟨_, _, ts, rfl, g4, fine, by omega⟩
      | true =>
        have hb := hb rfl
        refine iteT ?_
        obtain ⟨F, hF, _⟩ := id g4.at_
        refine ⟨_, rfl, .inl ⟨rfl, _, SqL.of hF⟩, _, rfl, _, rfl, _, rfl, _, rfl, _, _, rfl, rfl, .inl ⟨by omega, by omega⟩, _, _, rfl, rfl, ?_⟩
        refine pick_ints [1, 1, 1, 2, 3, 4] rfl (g4.ex _ _ hp) (by decide) (by decide) (fun R r => ⟨sz6, fun lp h => r lp h⟩) fun z hz H5 e5 => ⟨sz3, fun tp htp => ?_⟩
        have g5 := g4.grow e5
        have g6 := g5.grow (Ex.new (o := .tup [.int (((0 : Int) + i) / n), .int ((0 : Int) + i - ((0 : Int) + i) / n * n), .int z]) htp)
        have hF6 := Ex.new (o := .tup [.int (((0 : Int) + i) / n), .int ((0 : Int) + i - ((0 : Int) + i) / n * n), .int z]) htp _ _ (e5 _ _ hF)
        have lF := g4.len hF
        rw [List.length_map] at lF
        have ntf : tp ≠ fp := (new_ne (e5 _ _ hF) htp).symm
        refine ⟨fp, F, _, rfl, rfl, hF6, by omega, ?_⟩
        refine ⟨_, _, ts ++ [(((0 : Int) + i) / n, (0 : Int) + i - ((0 : Int) + i) / n * n, z)], rfl, ?_, all_snoc fine ⟨q0, hb, q2, ?_⟩, by simp; omega⟩
        · rw [List.map_append]
          exact g6.snoc hF6 (tie_mk (rm_at ntf upd_same))
        · simp only [List.mem_cons, List.not_mem_nil, or_false] at hz
          dsimp only
          omega
    · rintro σ H3 ⟨va, vp, ts, rfl, g, fine, hl⟩
      exact ⟨_, rfl, k fp ts H3 g.ex g.dt (TF.fine fine) (by omega)⟩
end
end W3

end
section
set_option Elab.async false
set_option linter.all false
set_option maxRecDepth 100000
set_option maxHeartbeats 4000000
namespace W3
open PySem PySem.Spec PyProof.Rows L2 M83 M72
open Evl (Ex)
/-! ### lists of ties -/
theorem all_range {α : Type} {p : α → Prop} {n : Nat} {f : Nat → α} (h : ∀ i, i < n → p (f i)) : ∀ t ∈ (List.range n).map f, p t := fun t ht => by
  obtain ⟨i, hi, rfl⟩ := List.mem_map.mp ht
  exact h i (List.mem_range.mp hi)
theorem all_map {α β : Type} {p : β → Prop} {xs : List α} {f : α → β} (h : ∀ x ∈ xs, p (f x)) : ∀ t ∈ xs.map f, p t := fun t ht => by
  obtain ⟨i, hi, rfl⟩ := List.mem_map.mp ht
  exact h i hi
theorem cat_ties {H : Hp} {a b : Addr} {ts us : List Tie} {Q : VK} (h1 : Dt H (eTies ts) (.ref a)) (h2 : Dt H (eTies us) (.ref b)) (hl : ts.length + us.length ≤ 1000)
    (k : ∀ q H', Ex H H' → H q = none → Dt H' (eTies (ts ++ us)) (.ref q) → Q (.ref q) H') : rCat (.ref a) (.ref b) H Q := by
  obtain ⟨xs, ha, hx⟩ := Dt.list_at h1
  obtain ⟨ys, hb, hy⟩ := Dt.list_at h2
  have big : (3000 : Nat) < sizeLine := by decide
  refine ⟨a, b, xs, ys, rfl, rfl, ha, hb, by rw [hx.length, hy.length, List.length_map, List.length_map]; omega, fun p hp => k p _ (Ex.new hp) hp (dt_list upd_same ?_)⟩
  rw [List.map_append]
  exact Dts.append (hy.mono (Ex.new hp)) (hx.mono (Ex.new hp))
theorem sort_ties {H : Hp} {v : V} {ts : List Tie} {Q : VK} (h : Dt H (eTies ts) v) (k : ∀ q H', Ex H H' → H q = none → Dt H' (eTies (sortT ts)) (.ref q) → Q (.ref q) H') : rSortD [v] H Q := by
  refine sort_any alike_tie dep_tie (fun t => ⟨_, _, rfl⟩) h fun p ys H' e hp hp' _ hd => k p H' e hp ?_
  rw [sortT_data] at hd
  exact dt_list hp' hd
theorem sortT_mem {ts : List Tie} {t : Tie} : t ∈ sortT ts ↔ t ∈ ts := (List.mergeSort_perm _ _).mem_iff
theorem sortT_len (ts : List Tie) : (sortT ts).length = ts.length := List.length_mergeSort _
section
variable {K : PySem.W.Frag} {σ : L2.St} {H : Hp} {vs : List Nat} {Q : VK} {te : TE} {wi : TI}
theorem lcTies (H1 : Hp) {lo : Int} {n j : Nat} (f : Nat → Tie) (hi : ∀ R : It → Hp → Prop, R (Itr lo n) H1 → wi σ H R) (hz : n ≤ 1000)
    (hw : ∀ x, wipe ((wipe σ vs).set j (some x)) vs = wipe σ vs)
    (step : ∀ i G (R : VK), i < n → Ex H1 G → (∀ tq, G tq = none → R (.ref tq) (upd G tq (.tup [.int (f i).1, .int (f i).2.1, .int (f i).2.2]))) → te ((wipe σ vs).set j (some (.int (lo + i)))) G R)
    (done : ∀ q H', Ex H1 H' → H1 q = none → Dt H' (eTies ((List.range n).map f)) (.ref q) → Q (.ref q) H') : tLc wi (gName j) tYes (tFr te) vs σ H Q := by
  refine lcR H1 (lo := lo) (n := n) (fun i acc G => Ex H1 G ∧ Dts G (((List.range i).map f).map eTie) acc) hi (by omega) ⟨Ex.refl _, rfl⟩ ?_ hw ?_ ?_
  · rintro i acc G ⟨_, hd⟩
    rw [hd.length]; simp
  · rintro i acc G hi' e ⟨_, hd⟩
    refine step i G _ hi' e fun tq ntq => ⟨Ex.new ntq, e.trans (Ex.new ntq), ?_⟩
    rw [List.range_succ, List.map_append, List.map_append]
    exact Dts.snoc (tie_mk (a := (f i).1) (b := (f i).2.1) (c := (f i).2.2) upd_same) (hd.mono (Ex.new ntq))
  · rintro acc G p e np ⟨_, hd⟩
    exact done p _ (e.trans (Ex.new np)) (Evl.fresh_back e np) (dt_list upd_same (hd.mono (Ex.new np)))
theorem lcTiesT (H1 : Hp) {a : Addr} {ts : List Tie} {j1 j2 j3 : Nat} (f : Tie → Tie) (hi : ∀ R : It → Hp → Prop, R (Itl K a) H1 → wi σ H R) (hd : Dt H1 (eTies ts) (.ref a)) (hz : ts.length ≤ 1000)
    (hw : ∀ x y z, wipe ((((wipe σ vs).set j1 (some x)).set j2 (some y)).set j3 (some z)) vs = wipe σ vs)
    (step : ∀ t G (R : VK), t ∈ ts → Ex H1 G → (∀ tq, G tq = none → R (.ref tq) (upd G tq (.tup [.int (f t).1, .int (f t).2.1, .int (f t).2.2]))) → te ((((wipe σ vs).set j1 (some (.int t.1))).set j2 (some (.int t.2.1))).set j3 (some (.int t.2.2))) G R)
    (done : ∀ q H', Ex H1 H' → H1 q = none → Dt H' (eTies (ts.map f)) (.ref q) → Q (.ref q) H') : tLc wi (gTup K 3 (gCons (gName j1) (gCons (gName j2) (gCons (gName j3) gNil)))) tYes (tFr te) vs σ H Q := by
  obtain ⟨xs, ha, hx⟩ := Dt.list_at hd
  have lx : xs.length = ts.length := by rw [hx.length, List.length_map]
  refine lcTn H1 (fun i acc G => Ex H1 G ∧ Dts G (((ts.take i).map f).map eTie) acc) hi ha (by omega) ⟨Ex.refl _, rfl⟩ ?_ hw ?_ ?_
  · rintro i acc G ⟨_, hd⟩
    rw [hd.length]; simp; omega
  · rintro i v acc G hi' e ⟨_, hd⟩
    obtain ⟨t, ht, hv⟩ := item' hx hi'
    obtain ⟨q, rfl, hq⟩ := tie_at hv
    refine ⟨q, _, _, _, rfl, SqT.of (e _ _ hq), step t G _ (List.mem_of_getElem? ht) e fun tq ntq => ⟨Ex.new ntq, e.trans (Ex.new ntq), ?_⟩⟩
    rw [List.take_add_one, ht, List.map_append, List.map_append]
    exact Dts.snoc (tie_mk (a := (f t).1) (b := (f t).2.1) (c := (f t).2.2) upd_same) (hd.mono (Ex.new ntq))
  · rintro acc G p e np ⟨_, hd⟩
    rw [lx, List.take_length] at hd
    exact done p _ (e.trans (Ex.new np)) (Evl.fresh_back e np) (dt_list upd_same (hd.mono (Ex.new np)))
end
section
variable {P : Program} {w : World} {K : PySem.W.Frag} {mg : Str → Option Value} {base : Heap}
/-! ### _law_shape -/
def Shp (H : Hp) (v : V) : Prop := ∃ (q tq : Addr) (n : Nat) (ts : List Tie), v = .ref q ∧ H q = some (.tup [.int n, .ref tq]) ∧ Dt H (eTies ts) (.ref tq) ∧ n ≤ 24 ∧ (∀ t ∈ ts, TF n t) ∧ ts.length ≤ 40
theorem Shp.mk {H : Hp} {q tq : Addr} {z : Int} {ts : List Tie} (hq : H q = none) (d : Dt H (eTies ts) (.ref tq)) (z0 : 0 ≤ z) (z1 : z ≤ 24) (f : ∀ t ∈ ts, TF z t) (l : ts.length ≤ 40) : Shp (upd H q (.tup [.int z, .ref tq])) (.ref q) := by
  obtain ⟨n, rfl⟩ := Int.eq_ofNat_of_zero_le z0
  exact ⟨q, tq, n, ts, rfl, upd_same, d.mono (Ex.new hq), by omega, f, l⟩
def p_shape : Sp3 := fun vs H Q => ∃ p : Addr, vs = [.ref p] ∧ H p = some (PotO p) ∧ ∀ v H', Ex H H' → Shp H' v → Q v H'
theorem d_l_shape {f : Addr} {fd : FuncData} (F : Fun K "_law_shape" "_law_shape" sl_shape f fd) (hm : mg "_law_shape" = some (.ref f)) (T : Txt mg) (d_l_draw : Df P w K mg base 1 "_law_draw" ["_law_pot_here", "_law_many"] p_draw)
    (d_l_pick : Df P w K mg base 2 "_law_pick" ["_law_pot_here", "_law_some"] p_pick) : Df P w K mg base 3 "_law_shape" ["_law_pot_here"] p_shape := by
  refine Df.body F hm bil_shape scl_shape (fun vs H Q h => ?_) (fun cdv A outer s H vs Q hr h => ?_)
  · obtain ⟨p, rfl, _⟩ := h; rfl
  · obtain ⟨p, rfl, hp, k⟩ := h
    refine ⟨_, (pss_cons (ps_asg (pe_tup (pa_cons (pe_c3 d_l_draw (hr.less (by decide)) rfl (pa_cons (pv 0) (pa_cons pe_int pa_nil))) (pa_cons (pe_c3 d_l_pick (hr.less (by decide)) rfl (pa_cons (pv 0) (pa_cons (pe_lst (pa_cons pe_int (pa_cons pe_int (pa_cons pe_int (pa_cons pe_int (pa_cons pe_int pa_nil)))))) pa_nil))) pa_nil))) (pgT K 2 (pgs_cons (pg_name (i := 5) scl_shape.nd rfl (Or.inl rfl)) (pgs_cons (pg_name (i := 6) scl_shape.nd rfl (Or.inr rfl)) pgs_nil))))
 (pss_cons (ps_if (pt_cmpR op_lt (pv 5) pe_int (nomark _)) (pss_cons (ps_par (i := 9) (j := 10) rfl scl_shape.nd rfl rfl (by decide) rfl rfl (pa_cons (pe_c3 d_l_draw (hr.less (by decide)) rfl (pa_cons (pv 0) (pa_cons pe_int pa_nil))) (pa_cons (pe_op op_add pe_int (pe_c3 d_l_draw (hr.less (by decide)) rfl (pa_cons (pv 0) (pa_cons pe_int pa_nil)))) pa_nil)) (by rfl))
 (pss_cons (ps_set (i := 7) scl_shape.nd rfl (Or.inl rfl) (pe_lst pa_nil))
 (pss_cons (ps_for PassesOwn.never rfl (pi_range1 rfl T.range (pa_cons (pe_op op_mul (pv 9) (pv 9)) pa_nil)) (pg_name (i := 8) scl_shape.nd rfl (Or.inl rfl)) (pss_one (ps_if (pt_m (PW.pt (pw_and (pt_cmpR op_lt (pe_op op_fdiv (pv 8) (pv 9)) (pe_op op_sub (pv 8) (pe_op op_mul (pe_op op_fdiv (pv 8) (pv 9)) (pv 9))) (nomark _)) (pw_and1 (pt_cmpR op_lt (pe_c3 d_l_draw (hr.less (by decide)) rfl (pa_cons (pv 0) (pa_cons pe_int pa_nil))) (pv 10) (nomark _)))))) (pss_cons (ps_set (i := 12) scl_shape.nd rfl (Or.inl rfl) (pe_op op_fdiv (pv 8) (pv 9)))
 (pss_one (ps_expr (pe_bm PySem.F.plainAttrs_list PySem.F.slot_list_append PySem.F.type_list_append mt_append (pv 7) (pa_cons (pe_tup (pa_cons (pv 12) (pa_cons (pe_op op_sub (pv 8) (pe_op op_mul (pv 12) (pv 9))) (pa_cons (pe_c3 d_l_pick (hr.less (by decide)) rfl (pa_cons (pv 0) (pa_cons (pe_lst (pa_cons pe_int (pa_cons pe_int (pa_cons pe_int (pa_cons pe_int (pa_cons pe_int (pa_cons pe_int pa_nil))))))) pa_nil))) pa_nil)))) pa_nil))))) pss_nil)))
 (pss_one (ps_ret (pe_tup (pa_cons (pv 9) (pa_cons (pv 7) pa_nil)))))))) pss_nil)
 (pss_cons (ps_set (i := 1) scl_shape.nd rfl (Or.inr rfl) (pe_m (pe_ifExp (pt_cmpR op_eq (pe_c3 d_l_draw (hr.less (by decide)) rfl (pa_cons (pv 0) (pa_cons pe_int pa_nil))) pe_int (nomark _)) (pe_op op_add pe_int (pe_c3 d_l_draw (hr.less (by decide)) rfl (pa_cons (pv 0) (pa_cons pe_int pa_nil)))) (pe_op op_add pe_int (pe_c3 d_l_draw (hr.less (by decide)) rfl (pa_cons (pv 0) (pa_cons pe_int pa_nil)))))))
 (pss_cons (ps_setLc (own := [("_law_a", 11)]) (i := 2) rfl scl_shape.nd rfl rfl (sw_true rfl rfl rfl (by decide +kernel)) (pi_range1 rfl T.range (pa_cons (pe_op op_sub (pv 1) pe_int) pa_nil)) (blkOk_by (N := Nl_shape) (sc := defScope sl_shape) (by decide +kernel)) (fun _ _ _ _ _ => (pg_name (i := 11) scl_shape.nd rfl (Or.inl rfl))) (fun _ _ _ _ _ => pts_nil) (fun _ _ _ _ _ => (pe_fr (pe_tup (pa_cons (pv 11) (pa_cons (pe_op op_add (pv 11) pe_int) (pa_cons (pv 6) pa_nil)))))))
 (pss_cons (ps_if (pt_cmpR op_eq (pv 5) pe_int (nomark _)) (pss_one (ps_ret (pe_tup (pa_cons (pv 1) (pa_cons (pe_m (pe_ifExp (pt_cmpR op_eq (pe_c3 d_l_draw (hr.less (by decide)) rfl (pa_cons (pv 0) (pa_cons pe_int pa_nil))) pe_int (nomark _)) (pv 2) (pe_callB (cr_sortD hr.u64) (by rfl) T.n_sorted bt_sorted (pa_cons (pe_op op_cat (pv 2) (pe_lst (pa_cons (pe_tup (pa_cons pe_int (pa_cons (pe_op op_sub (pv 1) pe_int) (pa_cons pe_int pa_nil)))) pa_nil))) pa_nil)))) pa_nil))))) pss_nil)
 (pss_cons (ps_set (i := 1) scl_shape.nd rfl (Or.inr rfl) (pe_op op_add pe_int (pe_c3 d_l_draw (hr.less (by decide)) rfl (pa_cons (pv 0) (pa_cons pe_int pa_nil)))))
 (pss_cons (ps_setLc (own := [("_law_a", 11)]) (i := 2) rfl scl_shape.nd rfl rfl (sw_true rfl rfl rfl (by decide +kernel)) (pi_range1 rfl T.range (pa_cons (pv 1) pa_nil)) (blkOk_by (N := Nl_shape) (sc := defScope sl_shape) (by decide +kernel)) (fun _ _ _ _ _ => (pg_name (i := 11) scl_shape.nd rfl (Or.inl rfl))) (fun _ _ _ _ _ => pts_nil) (fun _ _ _ _ _ => (pe_fr (pe_tup (pa_cons (pv 11) (pa_cons (pe_op op_add (pv 11) pe_int) (pa_cons (pv 6) pa_nil)))))))
 (pss_cons (ps_setLc (own := [("_law_a", 11), ("_law_b", 13), ("_law_one", 14)]) (i := 3) rfl scl_shape.nd rfl rfl (sw_true rfl rfl rfl (by decide +kernel)) (piL K (pv 2)) (blkOk_by (N := Nl_shape) (sc := defScope sl_shape) (by decide +kernel)) (fun _ _ _ _ _ => (pgT K 3 (pgs_cons (pg_name (i := 11) scl_shape.nd rfl (Or.inl rfl)) (pgs_cons (pg_name (i := 13) scl_shape.nd rfl (Or.inl rfl)) (pgs_cons (pg_name (i := 14) scl_shape.nd rfl (Or.inl rfl)) pgs_nil))))) (fun _ _ _ _ _ => pts_nil) (fun _ _ _ _ _ => (pe_fr (pe_tup (pa_cons (pe_op op_add (pe_op op_add (pv 1) pe_int) (pv 11)) (pa_cons (pe_op op_add (pe_op op_add (pv 1) pe_int) (pv 13)) (pa_cons (pv 14) pa_nil)))))))
 (pss_cons (ps_if (pt_cmpR op_eq (pv 5) pe_int (nomark _)) (pss_one (ps_ret (pe_tup (pa_cons (pe_op op_add (pe_op op_mul pe_int (pv 1)) pe_int) (pa_cons (pe_callB (cr_sortD hr.u64) (by rfl) T.n_sorted bt_sorted (pa_cons (pe_op op_cat (pe_op op_cat (pv 2) (pv 3)) (pe_lc (own := [("_law_a", 11)]) rfl scl_shape.nd (pi_range1 rfl T.range (pa_cons (pe_op op_add (pv 1) pe_int) pa_nil)) (blkOk_by (N := Nl_shape) (sc := defScope sl_shape) (by decide +kernel)) (fun _ _ _ _ _ => (pg_name (i := 11) scl_shape.nd rfl (Or.inl rfl))) (fun _ _ _ _ _ => pts_nil) (fun _ _ _ _ _ => (pe_fr (pe_tup (pa_cons (pv 11) (pa_cons (pe_op op_add (pe_op op_add (pv 11) (pv 1)) pe_int) (pa_cons pe_int pa_nil)))))))) pa_nil)) pa_nil))))) pss_nil)
 (pss_cons (ps_set (i := 4) scl_shape.nd rfl (Or.inl rfl) (pe_op op_cat (pe_op op_cat (pv 2) (pv 3)) (pe_lst (pa_cons (pe_tup (pa_cons pe_int (pa_cons (pv 1) (pa_cons pe_int pa_nil)))) (pa_cons (pe_tup (pa_cons (pe_op op_add (pv 1) pe_int) (pa_cons (pe_op op_add (pe_op op_mul pe_int (pv 1)) pe_int) (pa_cons pe_int pa_nil)))) pa_nil)))))
 (pss_cons (ps_if (pt_cmpR op_eq (pv 5) pe_int (nomark _)) (pss_one (ps_ret (pe_tup (pa_cons (pe_op op_add (pe_op op_mul pe_int (pv 1)) pe_int) (pa_cons (pe_callB (cr_sortD hr.u64) (by rfl) T.n_sorted bt_sorted (pa_cons (pe_op op_cat (pv 4) (pe_op op_rep (pe_lst (pa_cons (pe_tup (pa_cons (pv 1) (pa_cons (pe_op op_add (pv 1) pe_int) (pa_cons pe_int pa_nil)))) pa_nil)) (pe_c3 d_l_draw (hr.less (by decide)) rfl (pa_cons (pv 0) (pa_cons pe_int pa_nil))))) pa_nil)) pa_nil))))) pss_nil)
 (pss_one (ps_ret (pe_tup (pa_cons (pe_op op_add (pv 1) pe_int) (pa_cons (pe_lc (own := [("_law_a", 11)]) rfl scl_shape.nd (pi_range1 rfl T.range (pa_cons (pe_op op_add (pv 1) pe_int) pa_nil)) (blkOk_by (N := Nl_shape) (sc := defScope sl_shape) (by decide +kernel)) (fun _ _ _ _ _ => (pg_name (i := 11) scl_shape.nd rfl (Or.inl rfl))) (fun _ _ _ _ _ => pts_nil) (fun _ _ _ _ _ => (pe_fr (pe_tup (pa_cons (pv 11) (pa_cons (pe_op op_add (pv 1) pe_int) (pa_cons (pv 6) pa_nil))))))) pa_nil)))))))))))))))), ?_⟩
    have big : (3000 : Nat) < sizeLine := by decide
    rw [show start Nl_shape [.ref p] = [some (.ref p), none, none, none, none, none, none, none, none, none, none, none, none, none, none] from rfl]
    refine ⟨_, rfl, p, _, rfl, hp, by omega, by omega, fun way w0 w1 H1 e1 => ?_⟩
    refine pick_ints [1, 1, 2, 3, 4] rfl (e1 _ _ hp) (by decide) (by decide) (fun R r => ⟨sz5, fun lp h => r lp h⟩) fun o ho H2 e2 => ⟨sz2, fun tp ntp => ⟨tp, _, rfl, SqT.of upd_same, rfl, _, _, rfl, _, _, rfl, rfl, ?_⟩⟩
    have o0 : 1 ≤ o ∧ o ≤ 4 := by
      simp only [List.mem_cons, List.not_mem_nil, or_false] at ho
      omega
    have e3 := (e1.trans e2).trans (Ex.new (o := .tup [.int way, .int o]) ntp)
    clear e1 e2 ho
    generalize upd H2 tp (.tup [.int way, .int o]) = H3 at e3 ⊢
    have hp3 := e3 _ _ hp
    clear ntp
    simp only [gName, tNext, List.set_cons_succ, List.set_cons_zero]
    refine ⟨_, rfl, _, _, rfl, rfl, _, rfl, iteAny (fun _ => ?_) (fun _ => ?_)⟩
    · -- drawn
      refine ⟨_, rfl, p, _, rfl, hp3, by omega, by omega, fun m m0 m1 H4 e4 => ⟨_, rfl, p, _, rfl, e4 _ _ hp3, by omega, by omega, fun od d0 d1 H5 e5 => ⟨_, _, rfl, rfl, _, _, rfl, ?_⟩⟩⟩
      obtain ⟨n, rfl⟩ := Int.eq_ofNat_of_zero_le m0
      refine ⟨Nat.zero_le _, fun fp hfp => ?_⟩
      have g0 := Grow.start (e3.trans (e4.trans e5)) hfp
      have hn : n ≤ 6 := by omega
      have n36 : n * n ≤ 6 * 6 := Nat.mul_le_mul hn hn
      have nn : ((n : Int) * (n : Int)) = ((n * n : Nat) : Int) := by rw [Int.natCast_mul]
      refine ⟨_, rfl, _, rfl, _, _, rfl, rfl, .inl ⟨by omega, by omega⟩, _, rfl, by omega, by omega, ?_⟩
      refine for_range (lo := 0) (n := ((n : Int) * (n : Int)).toNat) (fun i σ H' => ∃ va vp ts, σ = [some (.ref p), none, none, none, none, some (.int way), some (.int o), some (.ref fp), va, some (.int n), some (.int (1 + od)), none, vp, none, none] ∧ Grow H H' fp (ts.map eTie) ∧ (∀ t ∈ ts, TF n t) ∧ ts.length ≤ i)
        ⟨none, none, [], rfl, g0, fun t h => by simp at h, Nat.zero_le _⟩ ?_ ?_
      · rintro i σ H3 hi ⟨va, vp, ts, rfl, g, fine, hl⟩
        have n0 : 0 < n := by
          rcases Nat.eq_zero_or_pos n with z | z
          · subst z; simp at hi
          · exact z
        have il : i < 36 := by omega
        obtain ⟨q0, q1, q2⟩ := place_of (z := (0 : Int) + i) (n := n) (by omega) (by omega)
        have q4 : ((0 : Int) + i) / n < 100 := by
          have := Int.ediv_le_self (n : Int) (show 0 ≤ (0 : Int) + i by omega)
          omega
        refine ⟨fun b H' => (b = true → ((0 : Int) + i) / n < (0 : Int) + i - ((0 : Int) + i) / n * n) ∧ Grow H H' fp (ts.map eTie), ?_, ?_⟩
        · refine ⟨_, rfl, _, rfl, _, _, rfl, rfl, ⟨by omega, by omega⟩, _, rfl, _, rfl, _, rfl, _, _, rfl, rfl, ⟨by omega, by omega⟩, _, rfl, _, _, rfl, rfl, .inl ⟨by omega, by omega⟩, _, _, rfl, rfl, _, _, rfl, rfl, _, rfl, ?_⟩
          refine iteAny (fun h => ?_) (fun _ => ⟨fun z => (by cases z), g⟩)
          exact ⟨_, rfl, p, _, rfl, g.ex _ _ hp, by omega, by omega, fun d _ _ H' e => ⟨_, rfl, _, _, rfl, rfl, _, rfl, fun _ => of_decide_eq_true h, g.grow e⟩⟩
        rintro b H4 ⟨hb, g4⟩
        cases b with
        | false => exact iteF ⟨_, _, ts, rfl, g4, fine, by omega⟩
        | true =>
          have hb := hb rfl
          refine iteT ?_
          obtain ⟨F, hF, _⟩ := id g4.at_
          refine ⟨_, rfl, _, rfl, _, _, rfl, rfl, ⟨by omega, by omega⟩, ?_⟩
          refine ⟨_, rfl, .inl ⟨rfl, _, SqL.of hF⟩, _, rfl, _, rfl, _, rfl, _, rfl, _, _, rfl, rfl, .inl ⟨by omega, by omega⟩, _, _, rfl, rfl, ?_⟩
          refine pick_ints [1, 1, 2, 2, 3, 4] rfl (g4.ex _ _ hp) (by decide) (by decide) (fun R r => ⟨sz6, fun lp h => r lp h⟩) fun z hz H5 e5 => ⟨sz3, fun tp htp => ?_⟩
          have g5 := g4.grow e5
          have g6 := g5.grow (Ex.new (o := .tup [.int (((0 : Int) + i) / n), .int ((0 : Int) + i - ((0 : Int) + i) / n * n), .int z]) htp)
          have hF6 := Ex.new (o := .tup [.int (((0 : Int) + i) / n), .int ((0 : Int) + i - ((0 : Int) + i) / n * n), .int z]) htp _ _ (e5 _ _ hF)
          have lF := g4.len hF
          rw [List.length_map] at lF
          have ntf : tp ≠ fp := (new_ne (e5 _ _ hF) htp).symm
          refine ⟨fp, F, _, rfl, rfl, hF6, by omega, ?_⟩
          refine ⟨_, _, ts ++ [(((0 : Int) + i) / n, (0 : Int) + i - ((0 : Int) + i) / n * n, z)], rfl, ?_, all_snoc fine ⟨q0, hb, q2, ?_⟩, by simp; omega⟩
          · rw [List.map_append]
            exact g6.snoc hF6 (tie_mk (rm_at ntf upd_same))
          · simp only [List.mem_cons, List.not_mem_nil, or_false] at hz
            dsimp only
            omega
      · rintro σ H3 ⟨va, vp, ts, rfl, g, fine, hl⟩
        refine ⟨_, rfl, _, rfl, sz2, fun q hq => k (.ref q) _ (g.ex.trans (Ex.new hq)) (Shp.mk hq g.dt (by omega) (by omega) fine (by omega))⟩
    -- long
    refine ⟨fun v H' => (∃ z : Int, v = .int z ∧ 3 ≤ z ∧ z ≤ 24) ∧ Ex H3 H', ?_, ?_⟩
    · refine ⟨_, rfl, p, _, rfl, hp3, by omega, by omega, fun d d0 d1 H4 e4 => ⟨rfl, _, rfl, iteAny (fun _ => ?_) (fun _ => ?_)⟩⟩
      · exact ⟨_, rfl, p, _, rfl, e4 _ _ hp3, by omega, by omega, fun c c0 c1 H5 e5 => ⟨_, _, rfl, rfl, ⟨_, rfl, by omega, by omega⟩, e4.trans e5⟩⟩
      · exact ⟨_, rfl, p, _, rfl, e4 _ _ hp3, by omega, by omega, fun c c0 c1 H5 e5 => ⟨_, _, rfl, rfl, ⟨_, rfl, by omega, by omega⟩, e4.trans e5⟩⟩
    rintro v H4 ⟨⟨z, rfl, z0, z1⟩, e34⟩
    have e4 := e3.trans e34
    have hp4 := e4 _ _ hp
    clear e34
    -- row
    simp only [gName, tNext, List.set_cons_succ, List.set_cons_zero]
    refine go_sets (lcTies H4 (lo := 0) (n := (z - 1).toNat) (fun i => ((0 : Int) + i, (0 : Int) + i + 1, o)) (fun R r => ⟨_, rfl, _, _, rfl, rfl, _, rfl, by omega, by omega, r⟩) (by omega) (fun _ => rfl) (fun i G R hi e r => ⟨_, rfl, _, rfl, _, _, rfl, rfl, _, rfl, sz3, r⟩) fun ra H5 e45 nra dr => ?_)
    have fr : ∀ t ∈ (List.range (z - 1).toNat).map (fun i : Nat => (((0 : Int) + i, (0 : Int) + i + 1, o) : Tie)), TF z t := all_range fun i hi => ⟨by dsimp only; omega, by dsimp only; omega, by dsimp only; omega, o0⟩
    have lr : ((List.range (z - 1).toNat).map (fun i : Nat => (((0 : Int) + i, (0 : Int) + i + 1, o) : Tie))).length ≤ 30 := by simp; omega
    generalize (List.range (z - 1).toNat).map (fun i : Nat => (((0 : Int) + i, (0 : Int) + i + 1, o) : Tie)) = row at dr fr lr
    have e5 := e4.trans e45
    have hp5 := e5 _ _ hp
    clear e45 hp4 nra
    refine ⟨_, rfl, rfl, _, rfl, iteAny (fun _ => ?_) (fun _ => ?_)⟩
    · refine ⟨_, rfl, fun v H' => (∃ tq ts, v = .ref tq ∧ Dt H' (eTies ts) (.ref tq) ∧ (∀ t ∈ ts, TF z t) ∧ ts.length ≤ 40) ∧ Ex H5 H', ?_, ?_⟩
      · refine ⟨_, rfl, p, _, rfl, hp5, by omega, by omega, fun d d0 d1 H6 e6 => ⟨rfl, _, rfl, iteAny (fun _ => ?_) (fun _ => ?_)⟩⟩
        · exact ⟨_, rfl, ⟨ra, row, rfl, dr.mono e6, fr, by omega⟩, e6⟩
        · refine ⟨_, rfl, _, rfl, _, _, rfl, rfl, sz3, fun t1 n1 => ⟨sz1, fun l1 nl1 => ?_⟩⟩
          have g1 := Ex.new (o := .tup [.int 0, .int (z - 1), .int 1]) n1
          have g2 := Ex.new (o := .lst [.ref t1]) nl1
          have g := e6.trans (g1.trans g2)
          have dl : Dt (upd (upd H6 t1 (.tup [.int 0, .int (z - 1), .int 1])) l1 (.lst [.ref t1])) (eTies [((0 : Int), z - 1, (1 : Int))]) (.ref l1) := dt_list upd_same (Dts.mk1 (tie_mk (g2 _ _ upd_same)))
          refine cat_ties (dr.mono g) dl (by simp; omega) fun q H7 e7 _ dq => ?_
          dsimp only [tNil]
          refine sort_ties dq fun q2 H8 e8 _ dq2 => ⟨⟨q2, _, rfl, dq2, fun t ht => ?_, by rw [sortT_len]; simp; omega⟩, g.trans (e7.trans e8)⟩
          exact all_snoc fr ⟨by dsimp only; omega, by dsimp only; omega, by dsimp only; omega, by dsimp only; omega, by dsimp only; omega⟩ t (sortT_mem.mp ht)
      · rintro v H6 ⟨⟨tq, ts, rfl, dt, ft, lt⟩, e6⟩
        exact ⟨sz2, fun q hq => k (.ref q) _ ((e5.trans e6).trans (Ex.new hq)) (Shp.mk hq dt (by omega) (by omega) ft lt)⟩
    -- the shorter row
    clear dr fr lr row
    refine ⟨_, rfl, p, _, rfl, hp5, by omega, by omega, fun y y0 y1 H6 e56 => ⟨_, _, rfl, rfl, ?_⟩⟩
    have e6 := e5.trans e56
    have hp6 := e6 _ _ hp
    clear e56 hp5
    obtain ⟨l, el⟩ : ∃ l : Int, l = 2 + y := ⟨_, rfl⟩
    simp only [gName, tNext, List.set_cons_succ, List.set_cons_zero]
    rw [← el]
    have l0 : 2 ≤ l ∧ l ≤ 4 := by omega
    clear el y0 y1
    refine go_sets (lcTies H6 (lo := 0) (n := l.toNat) (fun i => ((0 : Int) + i, (0 : Int) + i + 1, o)) (fun R r => ⟨_, rfl, _, rfl, by omega, by omega, r⟩) (by omega) (fun _ => rfl) (fun i G R hi e r => ⟨_, rfl, _, rfl, _, _, rfl, rfl, _, rfl, sz3, r⟩) fun ra H7 e67 nra dr => ?_)
    have fr : ∀ t ∈ (List.range l.toNat).map (fun i : Nat => (((0 : Int) + i, (0 : Int) + i + 1, o) : Tie)), TF (l + 1) t := all_range fun i hi => ⟨by dsimp only; omega, by dsimp only; omega, by dsimp only; omega, o0⟩
    have lr : ((List.range l.toNat).map (fun i : Nat => (((0 : Int) + i, (0 : Int) + i + 1, o) : Tie))).length ≤ 4 := by simp; omega
    generalize (List.range l.toNat).map (fun i : Nat => (((0 : Int) + i, (0 : Int) + i + 1, o) : Tie)) = row at dr fr lr
    have e7 := e6.trans e67
    clear e67 hp6 nra
    -- more
    simp only [gName, tNext, List.set_cons_succ, List.set_cons_zero]
    obtain ⟨rxs, hra, _⟩ := Dt.list_at dr
    refine go_sets (lcTiesT H7 (a := ra) (ts := row) (fun t => (l + 1 + t.1, l + 1 + t.2.1, t.2.2)) (fun R r => ⟨_, rfl, ra, rfl, ⟨_, SqL.of hra⟩, r⟩) dr (by omega) (fun _ _ _ => rfl) (fun t G R ht e r => ⟨_, rfl, _, _, rfl, rfl, _, rfl, _, _, rfl, rfl, _, rfl, _, _, rfl, rfl, _, rfl, _, _, rfl, rfl, _, rfl, sz3, r⟩) fun ma H8 e78 nma dm => ?_)
    have fm : ∀ t ∈ row.map (fun t : Tie => ((l + 1 + t.1, l + 1 + t.2.1, t.2.2) : Tie)), TF (2 * l + 2) t := all_map fun t ht => by
      have := fr t ht
      refine ⟨?_, ?_, ?_, this.2.2.2⟩ <;> dsimp only <;> have := this.1 <;> have := (fr t ht).2.1 <;> have := (fr t ht).2.2.1 <;> omega
    have lm : (row.map (fun t : Tie => ((l + 1 + t.1, l + 1 + t.2.1, t.2.2) : Tie))).length ≤ 4 := by simp; omega
    generalize row.map (fun t : Tie => ((l + 1 + t.1, l + 1 + t.2.1, t.2.2) : Tie)) = more at dm fm lm
    have e8 := e7.trans e78
    have dr8 := dr.mono e78
    have hp8 := e8 _ _ hp
    clear e78 dr hra nma
    have fr2 : ∀ t ∈ row, TF (2 * l + 2) t := fun t ht => (fr t ht).up (by omega)
    -- a ladder
    simp only [gName, tNext, List.set_cons_succ, List.set_cons_zero]
    refine ⟨_, rfl, rfl, _, rfl, iteAny (fun _ => ?_) (fun _ => ?_)⟩
    · refine ⟨_, rfl, _, _, rfl, rfl, .inl ⟨by omega, by omega⟩, _, _, rfl, rfl, ?_⟩
      refine ⟨_, rfl, _, rfl, ?_⟩
      refine cat_ties dr8 dm (by omega) fun q1 H9 e89 _ d1 => ?_
      refine lcTies H9 (lo := 0) (n := (l + 1).toNat) (fun i => ((0 : Int) + i, (0 : Int) + i + l + 1, 1)) (fun R r => ⟨_, rfl, _, _, rfl, rfl, _, rfl, by omega, by omega, r⟩) (by omega) (fun _ => rfl) (fun i G R hi e r => ⟨_, rfl, _, rfl, _, rfl, _, _, rfl, rfl, _, _, rfl, rfl, sz3, r⟩) fun q2 H10 e10 _ d2 => ?_
      refine cat_ties (d1.mono e10) d2 (by simp; omega) fun q3 H11 e11 _ d3 => ?_
      dsimp only [tNil]
      refine sort_ties d3 fun q4 H12 e12 _ d4 => ⟨sz2, fun q hq => k (.ref q) _ ((e8.trans (e89.trans (e10.trans (e11.trans e12)))).trans (Ex.new hq)) (Shp.mk hq d4 (by omega) (by omega) (fun t ht => ?_) (by rw [sortT_len]; simp; omega))⟩
      have ht := sortT_mem.mp ht
      refine all_app (all_app fr2 fm) (all_range fun i hi => ?_) t ht
      refine ⟨?_, ?_, ?_, ?_, ?_⟩ <;> dsimp only <;> omega
    -- two rings
    refine ⟨_, rfl, _, rfl, ?_⟩
    refine cat_ties dr8 dm (by omega) fun q1 H9 e89 _ d1 => ?_
    refine ⟨_, rfl, sz3, fun t1 n1 => ?_⟩
    refine ⟨_, rfl, _, _, rfl, rfl, _, rfl, _, _, rfl, rfl, .inl ⟨by omega, by omega⟩, _, _, rfl, rfl, sz3, fun t2 n2 => ⟨sz2, fun l1 nl1 => ?_⟩⟩
    have g1 := Ex.new (o := .tup [.int 0, .int l, .int 2]) n1
    have g2 := Ex.new (o := .tup [.int (l + 1), .int (2 * l + 1), .int 2]) n2
    have g3 := Ex.new (o := .lst [.ref t1, .ref t2]) nl1
    have g := g1.trans (g2.trans g3)
    refine cat_ties (ts := row ++ more) (us := [((0 : Int), l, (2 : Int)), (l + 1, 2 * l + 1, 2)]) (d1.mono g) (dt_list upd_same (Dts.mk2 (tie_mk ((g2.trans g3) _ _ upd_same)) (tie_mk (g3 _ _ upd_same)))) (by simp; omega) fun q2 H10 e10 _ d2 => ?_
    have e11 := e8.trans (e89.trans (g.trans e10))
    have hp11 := e11 _ _ hp
    have f2 : ∀ t ∈ row ++ more ++ [((0 : Int), l, (2 : Int)), (l + 1, 2 * l + 1, 2)], TF (2 * l + 2) t := all_app (all_app fr2 fm) fun t ht => by
      simp only [List.mem_cons, List.not_mem_nil, or_false] at ht
      rcases ht with rfl | rfl
      · refine ⟨?_, ?_, ?_, ?_, ?_⟩ <;> dsimp only <;> omega
      · refine ⟨?_, ?_, ?_, ?_, ?_⟩ <;> dsimp only <;> omega
    have l2 : (row ++ more ++ [((0 : Int), l, (2 : Int)), (l + 1, 2 * l + 1, 2)]).length ≤ 20 := by simp; omega
    generalize row ++ more ++ [((0 : Int), l, (2 : Int)), (l + 1, 2 * l + 1, 2)] = ring at d2 f2 l2
    clear g g1 g2 g3 n1 n2 nl1 d1 e10 e89
    refine ⟨_, rfl, rfl, _, rfl, iteAny (fun _ => ?_) (fun _ => ?_)⟩
    · refine ⟨_, rfl, _, _, rfl, rfl, .inl ⟨by omega, by omega⟩, _, _, rfl, rfl, ?_⟩
      refine ⟨_, rfl, _, rfl, _, rfl, _, _, rfl, rfl, sz3, fun t1 n1 => ⟨sz1, fun l1 nl1 => ?_⟩⟩
      have g1 := Ex.new (o := .tup [.int l, .int (l + 1), .int 2]) n1
      have g2 := Ex.new (o := .lst [.ref t1]) nl1
      have g := g1.trans g2
      refine ⟨_, rfl, p, _, rfl, g _ _ hp11, by omega, by omega, fun d d0 d1 H11 e12 => ?_⟩
      refine ⟨l1, d, [.ref t1], rfl, rfl, e12 _ _ upd_same, by omega, by omega, by simp; omega, fun l3 nl3 => ?_⟩
      have g3 := Ex.new (o := .lst (List.replicate d.toNat [V.ref t1]).flatten) nl3
      have gg := g.trans (e12.trans g3)
      have dd : Dt (upd H11 l3 (.lst (List.replicate d.toNat [V.ref t1]).flatten)) (eTies (List.replicate d.toNat ((l, l + 1, 2) : Tie))) (.ref l3) := by
        refine dt_list upd_same ?_
        have tt : Dt (upd H11 l3 (.lst (List.replicate d.toNat [V.ref t1]).flatten)) (eTie (l, l + 1, 2)) (.ref t1) := tie_mk ((e12.trans g3) _ _ (g2 _ _ upd_same))
        have e1 : d.toNat = 0 ∨ d.toNat = 1 := by omega
        generalize upd H11 l3 (.lst (List.replicate d.toNat [V.ref t1]).flatten) = Gx at tt
        rcases e1 with e1 | e1
        · rw [e1]; rfl
        · rw [e1]; exact Dts.mk1 tt
      refine cat_ties (d2.mono gg) dd (by simp; omega) fun q3 H12 e13 _ d3 => ?_
      dsimp only [tNil]
      refine sort_ties d3 fun q4 H13 e14 _ d4 => ⟨sz2, fun q hq => k (.ref q) _ ((e11.trans (gg.trans (e13.trans e14))).trans (Ex.new hq)) (Shp.mk hq d4 (by omega) (by omega) (fun t ht => ?_) (by rw [sortT_len]; simp; omega))⟩
      refine all_app f2 (fun t ht => ?_) t (sortT_mem.mp ht)
      rw [(List.mem_replicate.mp ht).2]
      refine ⟨?_, ?_, ?_, ?_, ?_⟩ <;> dsimp only <;> omega
    -- a star
    refine ⟨_, rfl, _, _, rfl, rfl, ?_⟩
    refine lcTies _ (lo := 0) (n := (l + 2).toNat) (fun i => ((0 : Int) + i, l + 2, o)) (fun R r => ⟨_, rfl, _, _, rfl, rfl, _, rfl, by omega, by omega, r⟩) (by omega) (fun _ => rfl) (fun i G R hi e r => ⟨_, rfl, _, rfl, _, _, rfl, rfl, _, rfl, sz3, r⟩) fun q2 H12 e12 _ d3 => ?_
    refine ⟨sz2, fun q hq => k (.ref q) _ ((e11.trans e12).trans (Ex.new hq)) (Shp.mk hq d3 (by omega) (by omega) (all_range fun i hi => ?_) (by simp; omega))⟩
    refine ⟨?_, ?_, ?_, ?_, ?_⟩ <;> dsimp only <;> omega
end
end W3

end
section
set_option Elab.async false
set_option linter.all false
set_option maxRecDepth 100000
set_option maxHeartbeats 4000000
namespace W3
open PySem PySem.Spec PyProof.Rows L2 M83 M72
open Evl (Ex)
/-! ### comprehensions that make data, each datum with a property -/
section
variable {K : PySem.W.Frag} {σ : L2.St} {H : Hp} {vs : List Nat} {Q : VK} {te : TE} {tt : TT} {wi : TI} {α : Type}
/-- what an element is to show: a datum a with p a -/
abbrev El (enc : α → PyData) (p : α → Prop) (G : Hp) (R : VK) : Prop := ∀ y G4 a, Ex G G4 → Dt G4 (enc a) y → p a → R y G4
/-- what a test is to show -/
abbrev Tl (good : Prop) (G : Hp) (R : Bool → Hp → Prop) : Prop := ∀ b G3, Ex G G3 → (b = true → good) → R b G3
/-- the list made so far -/
def Acc (enc : α → PyData) (p : α → Prop) (H1 : Hp) (n : Nat) (acc : List V) (G : Hp) : Prop := Ex H1 G ∧ ∃ as : List α, Dts G (as.map enc) acc ∧ (∀ a ∈ as, p a) ∧ as.length ≤ n
section
variable {enc : α → PyData} {p : α → Prop} {H1 G : Hp} {n : Nat} {acc : List V}
theorem Acc.nil : Acc enc p H1 0 [] H1 := ⟨Ex.refl _, [], rfl, fun a h => (by cases h), Nat.le_refl _⟩
theorem Acc.len (h : Acc enc p H1 n acc G) : acc.length ≤ n := by
  obtain ⟨_, as, hd, _, hl⟩ := h
  rw [hd.length, List.length_map]; exact hl
theorem Acc.el {G4 : Hp} {a : α} {y : V} (h : Acc enc p H1 n acc G) (e : Ex G G4) (dy : Dt G4 (enc a) y) (pa : p a) : Acc enc p H1 (n + 1) (acc ++ [y]) G4 := by
  obtain ⟨eG, as, hd, hp, hl⟩ := h
  exact ⟨eG.trans e, as ++ [a], by rw [List.map_append]; exact Dts.snoc dy (hd.mono e), all_snoc hp pa, by simp; omega⟩
theorem Acc.skip {G4 : Hp} (h : Acc enc p H1 n acc G) (e : Ex G G4) : Acc enc p H1 (n + 1) acc G4 := by
  obtain ⟨eG, as, hd, hp, hl⟩ := h
  exact ⟨eG.trans e, as, hd.mono e, hp, by omega⟩
theorem Acc.done {q : Addr} (h : Acc enc p H1 n acc G) (hq : G q = none) : Ex H1 (upd G q (.lst acc)) ∧ H1 q = none ∧ ∃ as : List α, Dt (upd G q (.lst acc)) (.list (as.map enc)) (.ref q) ∧ (∀ a ∈ as, p a) ∧ as.length ≤ n ∧ as.length = acc.length := by
  obtain ⟨eG, as, hd, hp, hl⟩ := h
  exact ⟨eG.trans (Ex.new hq), Evl.fresh_back eG hq, as, dt_list upd_same (hd.mono (Ex.new hq)), hp, hl, by rw [hd.length, List.length_map]⟩
end
/-- [e for x in range(n)] -/
theorem lcDR (H1 : Hp) {lo : Int} {n j : Nat} (enc : α → PyData) (p : α → Prop) (hi : ∀ R : It → Hp → Prop, R (Itr lo n) H1 → wi σ H R) (hz : n ≤ 1000) (hw : ∀ x, wipe ((wipe σ vs).set j (some x)) vs = wipe σ vs)
    (step : ∀ i G (R : VK), i < n → Ex H1 G → El enc p G R → te ((wipe σ vs).set j (some (.int (lo + i)))) G R)
    (done : ∀ q (as : List α) H', Ex H1 H' → H1 q = none → Dt H' (.list (as.map enc)) (.ref q) → (∀ a ∈ as, p a) → as.length = n → Q (.ref q) H') : tLc wi (gName j) tYes (tFr te) vs σ H Q :=
  lcR (lo := lo) (n := n) H1 (fun i acc G => Acc enc p H1 i acc G ∧ acc.length = i) hi (by omega) ⟨Acc.nil, rfl⟩ (fun i acc G h => h.1.len) hw
    (fun i acc G hi' eG h => step i G _ hi' eG fun y G4 a e dy pa => ⟨e, h.1.el e dy pa, by simp [h.2]⟩)
    fun acc G q e hq h => let ⟨e1, n1, as, d, hp, _, hl⟩ := h.1.done hq; done q as _ e1 n1 d hp (hl.trans h.2)
/-- [e for x in range(n) if t] -/
theorem lcDRt (H1 : Hp) {lo : Int} {n j : Nat} (enc : α → PyData) (p : α → Prop) (good : Nat → Prop) (hi : ∀ R : It → Hp → Prop, R (Itr lo n) H1 → wi σ H R) (hz : n ≤ 1000) (hw : ∀ x, wipe ((wipe σ vs).set j (some x)) vs = wipe σ vs)
    (test : ∀ i G (R : Bool → Hp → Prop), i < n → Ex H1 G → Tl (good i) G R → tt ((wipe σ vs).set j (some (.int (lo + i)))) G R)
    (step : ∀ i G (R : VK), i < n → good i → Ex H1 G → El enc p G R → te ((wipe σ vs).set j (some (.int (lo + i)))) G R)
    (done : ∀ q (as : List α) H', Ex H1 H' → H1 q = none → Dt H' (.list (as.map enc)) (.ref q) → (∀ a ∈ as, p a) → as.length ≤ n → Q (.ref q) H') : tLc wi (gName j) (tFrT tt) (tFr te) vs σ H Q :=
  lcRt (lo := lo) (n := n) H1 (fun i acc G => Acc enc p H1 i acc G) hi (by omega) Acc.nil (fun i acc G h => h.len) hw
    (fun i acc G hi' eG h => test i G _ hi' eG fun b G3 e g => ⟨e, fun hb => step i G3 _ hi' (g hb) (eG.trans e) fun y G4 a e4 dy pa => ⟨e4, h.el (e.trans e4) dy pa⟩, fun _ => h.skip e⟩)
    fun acc G q e hq h => let ⟨e1, n1, as, d, hp, hl, _⟩ := h.done hq; done q as _ e1 n1 d hp hl
/-- [e for x in xs] -/
theorem lcDL (H1 : Hp) {a : Addr} {xs : List V} {j : Nat} (enc : α → PyData) (p : α → Prop) (hi : ∀ R : It → Hp → Prop, R (Itl K a) H1 → wi σ H R) (hx : H1 a = some (.lst xs)) (hz : xs.length ≤ 100000) (hw : ∀ x, wipe ((wipe σ vs).set j (some x)) vs = wipe σ vs)
    (step : ∀ (i : Nat) (x : V) G (R : VK), xs[i]? = some x → Ex H1 G → El enc p G R → te ((wipe σ vs).set j (some x)) G R)
    (done : ∀ q (as : List α) H', Ex H1 H' → H1 q = none → Dt H' (.list (as.map enc)) (.ref q) → (∀ a ∈ as, p a) → as.length = xs.length → Q (.ref q) H') : tLc wi (gName j) tYes (tFr te) vs σ H Q :=
  lcN H1 (fun i acc G => Acc enc p H1 i acc G ∧ acc.length = i) hi hx (by omega) ⟨Acc.nil, rfl⟩ (fun i acc G h => h.1.len) hw
    (fun i x acc G hi' eG h => step i x G _ hi' eG fun y G4 a e dy pa => ⟨e, h.1.el e dy pa, by simp [h.2]⟩)
    fun acc G q e hq h => let ⟨e1, n1, as, d, hp, _, hl⟩ := h.1.done hq; done q as _ e1 n1 d hp (hl.trans h.2)
/-- [e for a, b, c in ties if t] -/
theorem lcDT (H1 : Hp) {a : Addr} {ts : List Tie} {j1 j2 j3 : Nat} (enc : α → PyData) (p : α → Prop) (good : Tie → Prop) (hi : ∀ R : It → Hp → Prop, R (Itl K a) H1 → wi σ H R) (hd : Dt H1 (eTies ts) (.ref a)) (hz : ts.length ≤ 1000)
    (hw : ∀ x y z, wipe ((((wipe σ vs).set j1 (some x)).set j2 (some y)).set j3 (some z)) vs = wipe σ vs)
    (test : ∀ t ∈ ts, ∀ G (R : Bool → Hp → Prop), Ex H1 G → Tl (good t) G R → tt ((((wipe σ vs).set j1 (some (.int t.1))).set j2 (some (.int t.2.1))).set j3 (some (.int t.2.2))) G R)
    (step : ∀ t ∈ ts, good t → ∀ G (R : VK), Ex H1 G → El enc p G R → te ((((wipe σ vs).set j1 (some (.int t.1))).set j2 (some (.int t.2.1))).set j3 (some (.int t.2.2))) G R)
    (done : ∀ q (as : List α) H', Ex H1 H' → H1 q = none → Dt H' (.list (as.map enc)) (.ref q) → (∀ a ∈ as, p a) → as.length ≤ ts.length → Q (.ref q) H') : tLc wi (gTup K 3 (gCons (gName j1) (gCons (gName j2) (gCons (gName j3) gNil)))) (tFrT tt) (tFr te) vs σ H Q := by
  obtain ⟨xs, ha, hx⟩ := Dt.list_at hd
  have lx : xs.length = ts.length := by rw [hx.length, List.length_map]
  refine lcT H1 (fun i acc G => Acc enc p H1 i acc G) hi ha (by omega) Acc.nil (fun i acc G h => h.len) hw (fun i x acc G hi' eG h => ?_)
    fun acc G q e hq h => let ⟨e1, n1, as, d, hp, hl, _⟩ := h.done hq; done q as _ e1 n1 d hp (lx ▸ hl)
  obtain ⟨t, ht, hv⟩ := item' hx hi'
  obtain ⟨q, rfl, hq⟩ := tie_at hv
  have mt := List.mem_of_getElem? ht
  exact ⟨q, _, _, _, rfl, SqT.of (eG _ _ hq), test t mt G _ eG fun b G3 e g => ⟨e, fun hb => step t mt (g hb) G3 _ (eG.trans e) fun y G4 a e4 dy pa => ⟨e4, h.el (e.trans e4) dy pa⟩, fun _ => h.skip e⟩⟩
/-- [e for a, b in pairs if t] -/
theorem lcDP (H1 : Hp) {a : Addr} {ts : List Hand} {j1 j2 : Nat} (enc : α → PyData) (p : α → Prop) (good : Hand → Prop) (hi : ∀ R : It → Hp → Prop, R (Itl K a) H1 → wi σ H R) (hd : Dt H1 (eHands ts) (.ref a)) (hz : ts.length ≤ 1000)
    (hw : ∀ x y, wipe (((wipe σ vs).set j1 (some x)).set j2 (some y)) vs = wipe σ vs)
    (test : ∀ t ∈ ts, ∀ G (R : Bool → Hp → Prop), Ex H1 G → Tl (good t) G R → tt (((wipe σ vs).set j1 (some (.int t.1))).set j2 (some (.int t.2))) G R)
    (step : ∀ t ∈ ts, good t → ∀ G (R : VK), Ex H1 G → El enc p G R → te (((wipe σ vs).set j1 (some (.int t.1))).set j2 (some (.int t.2))) G R)
    (done : ∀ q (as : List α) H', Ex H1 H' → H1 q = none → Dt H' (.list (as.map enc)) (.ref q) → (∀ a ∈ as, p a) → as.length ≤ ts.length → Q (.ref q) H') : tLc wi (gTup K 2 (gCons (gName j1) (gCons (gName j2) gNil))) (tFrT tt) (tFr te) vs σ H Q := by
  obtain ⟨xs, ha, hx⟩ := Dt.list_at hd
  have lx : xs.length = ts.length := by rw [hx.length, List.length_map]
  refine lcP H1 (fun i acc G => Acc enc p H1 i acc G) hi ha (by omega) Acc.nil (fun i acc G h => h.len) hw (fun i x acc G hi' eG h => ?_)
    fun acc G q e hq h => let ⟨e1, n1, as, d, hp, hl, _⟩ := h.done hq; done q as _ e1 n1 d hp (lx ▸ hl)
  obtain ⟨t, ht, hv⟩ := item' hx hi'
  obtain ⟨q, rfl, hq⟩ := hand_at hv
  have mt := List.mem_of_getElem? ht
  exact ⟨q, _, _, rfl, SqT.of (eG _ _ hq), test t mt G _ eG fun b G3 e g => ⟨e, fun hb => step t mt (g hb) G3 _ (eG.trans e) fun y G4 a e4 dy pa => ⟨e4, h.el (e.trans e4) dy pa⟩, fun _ => h.skip e⟩⟩
end
theorem near_item {H : Hp} {N : List (List Int)} {a : Addr} {x : Int} (d : Dt H (eNear N) (.ref a)) (h0 : 0 ≤ x) (h1 : x < N.length) : ∃ (xs : List V) (q : Addr) (row : List Int), H a = some (.lst xs) ∧ atI xs x = some (.ref q) ∧ H q = some (.lst (row.map V.int)) := by
  obtain ⟨xs, ha, hx⟩ := Dt.list_at d
  have hl : x.toNat < N.length := by omega
  obtain ⟨v, hv, dv⟩ := item hx (List.getElem?_eq_getElem hl)
  obtain ⟨q, rfl, hq⟩ := ints_at dv
  exact ⟨xs, q, N[x.toNat], ha, atI_of h0 hv, hq⟩
section
variable {P : Program} {w : World} {K : PySem.W.Frag} {mg : Str → Option Value} {base : Heap}
/-! ### _law_dressed -/
structure D72 (n : Nat) (ts : List Tie) (wb : Web) : Prop where
  pl : wb.parts.length = n
  te : wb.ties = ts
  pf : ∀ q ∈ wb.parts, PartFine q
  hf : ∀ h ∈ wb.hands, HandFine h
  hn : wb.hands.length ≤ 30
  sf : ∀ t ∈ wb.sides, TieSm t
  sn : wb.sides.length ≤ 60
def p_dressed : Sp3 := fun vs H Q => ∃ (p tp : Addr) (n : Nat) (ts : List Tie) (ov : V) (odd : Part), vs = [.ref p, .int n, .ref tp, ov] ∧ H p = some (PotO p) ∧ n ≤ 24 ∧ Dt H (eTies ts) (.ref tp) ∧ (∀ t ∈ ts, TF n t) ∧ ts.length ≤ 40 ∧ Dt H (ePart odd) ov ∧ PartFine odd ∧
  ∀ wv wb H', Ex H H' → Dt H' (eWeb wb) wv → D72 n ts wb → Q wv H'
theorem d_l_dressed {f : Addr} {fd : FuncData} (F : Fun K "_law_dressed" "_law_dressed" sl_dressed f fd) (hm : mg "_law_dressed" = some (.ref f)) (T : Txt mg) (d_l_draw : Df P w K mg base 1 "_law_draw" ["_law_pot_here", "_law_many"] p_draw)
    (d_l_pick : Df P w K mg base 2 "_law_pick" ["_law_pot_here", "_law_some"] p_pick) : Df P w K mg base 3 "_law_dressed" ["_law_pot_here", "_law_many", "_law_ties", "_law_odd"] p_dressed := by
  refine Df.body F hm bil_dressed scl_dressed (fun vs H Q h => ?_) (fun cdv A outer s H vs Q hr h => ?_)
  · obtain ⟨p, tp, n, ts, ov, odd, rfl, _⟩ := h; rfl
  · obtain ⟨p, tp, n, ts, ov, odd, rfl, hp, hn, dt, ft, lt, dodd, fodd, k⟩ := h
    refine ⟨_, (pss_cons (ps_set (i := 4) scl_dressed.nd rfl (Or.inr rfl) (pe_lc (own := [("_law_x", 11)]) rfl scl_dressed.nd (pi_range1 rfl T.range (pa_cons (pv 1) pa_nil)) (blkOk_by (N := Nl_dressed) (sc := defScope sl_dressed) (by decide +kernel)) (fun _ _ _ _ _ => (pg_name (i := 11) scl_dressed.nd rfl (Or.inr rfl))) (fun _ _ _ _ _ => pts_nil) (fun _ _ _ _ _ => (pe_fr (pe_lc (own := [("_law_a", 12), ("_law_b", 13), ("_law_order", 14)]) rfl scl_dressed.nd (piL K (pv 2)) (blkOk_by (N := Nl_dressed) (by rfl)) (fun _ _ _ _ _ => (pgT K 3 (pgs_cons (pg_name (i := 12) scl_dressed.nd rfl (Or.inl rfl)) (pgs_cons (pg_name (i := 13) scl_dressed.nd rfl (Or.inl rfl)) (pgs_cons (pg_name (i := 14) scl_dressed.nd rfl (Or.inl rfl)) pgs_nil))))) (fun _ _ _ _ _ => (pts_fr (pts_one (pt_cmpR (opIn K) (pv 11) (pe_tup (pa_cons (pv 12) (pa_cons (pv 13) pa_nil))) (by with_unfolding_all rfl))))) (fun _ _ _ _ _ => (pe_fr (pe_op op_sub (pe_op op_add (pv 12) (pv 13)) (pv 11)))))))))
 (pss_cons (ps_setLc (own := [("_law_x", 11)]) (i := 5) rfl scl_dressed.nd rfl rfl (sw_true rfl rfl rfl (by decide +kernel)) (pi_range1 rfl T.range (pa_cons (pv 1) pa_nil)) (blkOk_by (N := Nl_dressed) (sc := defScope sl_dressed) (by decide +kernel)) (fun _ _ _ _ _ => (pg_name (i := 11) scl_dressed.nd rfl (Or.inl rfl))) (fun _ _ _ _ _ => pts_nil) (fun _ _ _ _ _ => (pe_fr (pe_c3 d_l_pick (hr.less (by decide)) rfl (pa_cons (pv 0) (pa_cons (pe_lst (pa_cons (pe_tup (pa_cons pe_str (pa_cons pe_int pa_nil))) (pa_cons (pe_tup (pa_cons pe_str (pa_cons pe_int pa_nil))) (pa_cons (pe_tup (pa_cons pe_str (pa_cons pe_int pa_nil))) (pa_cons (pv 3) pa_nil))))) pa_nil))))))
 (pss_cons (ps_setLc (own := [("_law_x", 11)]) (i := 6) rfl scl_dressed.nd rfl rfl (sw_true rfl rfl rfl (by decide +kernel)) (pi_range1 rfl T.range (pa_cons (pv 1) pa_nil)) (blkOk_by (N := Nl_dressed) (sc := defScope sl_dressed) (by decide +kernel)) (fun _ _ _ _ _ => (pg_name (i := 11) scl_dressed.nd rfl (Or.inl rfl))) (fun _ _ _ _ _ => (pts_fr (pts_one (pt_m (PW.pt (pw_and (pt_chain op_le op_le pe_int (pe_callB (lenS K) (by rfl) T.n_len bt_len (pa_cons (pe_ix (ixL K) (pv 4) (pv 11) (fun _ _ => rfl)) pa_nil)) pe_int) (pw_and1 (pt_cmpR op_gt (pe_c3 d_l_draw (hr.less (by decide)) rfl (pa_cons (pv 0) (pa_cons pe_int pa_nil))) pe_int (nomark _))))))))) (fun _ _ _ _ _ => (pe_fr (pv 11))))
 (pss_cons (ps_setLc (own := [("_law_x", 11)]) (i := 7) rfl scl_dressed.nd rfl rfl (sw_true rfl rfl rfl (by decide +kernel)) (piL K (pv 6)) (blkOk_by (N := Nl_dressed) (sc := defScope sl_dressed) (by decide +kernel)) (fun _ _ _ _ _ => (pg_name (i := 11) scl_dressed.nd rfl (Or.inl rfl))) (fun _ _ _ _ _ => pts_nil) (fun _ _ _ _ _ => (pe_fr (pe_tup (pa_cons (pv 11) (pa_cons (pe_c3 d_l_pick (hr.less (by decide)) rfl (pa_cons (pv 0) (pa_cons (pe_lst (pa_cons pe_int (pa_cons (pe_un un_neg pe_int) pa_nil))) pa_nil))) pa_nil))))))
 (pss_cons (ps_setLc (own := [("_law_a", 12), ("_law_b", 13), ("_law_order", 14)]) (i := 8) rfl scl_dressed.nd rfl rfl (sw_true rfl rfl rfl (by decide +kernel)) (piL K (pv 2)) (blkOk_by (N := Nl_dressed) (sc := defScope sl_dressed) (by decide +kernel)) (fun _ _ _ _ _ => (pgT K 3 (pgs_cons (pg_name (i := 12) scl_dressed.nd rfl (Or.inl rfl)) (pgs_cons (pg_name (i := 13) scl_dressed.nd rfl (Or.inl rfl)) (pgs_cons (pg_name (i := 14) scl_dressed.nd rfl (Or.inl rfl)) pgs_nil))))) (fun _ _ _ _ _ => (pts_fr (pts_one (pt_cmpR op_eq (pv 14) pe_int (nomark _))))) (fun _ _ _ _ _ => (pe_fr (pe_tup (pa_cons (pv 12) (pa_cons (pv 13) pa_nil))))))
 (pss_cons (ps_setLc (own := [("_law_a", 12), ("_law_b", 13)]) (i := 9) rfl scl_dressed.nd rfl rfl (sw_true rfl rfl rfl (by decide +kernel)) (piL K (pv 8)) (blkOk_by (N := Nl_dressed) (sc := defScope sl_dressed) (by decide +kernel)) (fun _ _ _ _ _ => (pgT K 2 (pgs_cons (pg_name (i := 12) scl_dressed.nd rfl (Or.inl rfl)) (pgs_cons (pg_name (i := 13) scl_dressed.nd rfl (Or.inl rfl)) pgs_nil)))) (fun _ _ _ _ _ => (pts_fr (pts_one (pt_m (PW.pt (pw_and (pt_chain op_le op_le pe_int (pe_callB (lenS K) (by rfl) T.n_len bt_len (pa_cons (pe_ix (ixL K) (pv 4) (pv 12) (fun _ _ => rfl)) pa_nil)) pe_int) (pw_and1 (pt_chain op_le op_le pe_int (pe_callB (lenS K) (by rfl) T.n_len bt_len (pa_cons (pe_ix (ixL K) (pv 4) (pv 13) (fun _ _ => rfl)) pa_nil)) pe_int)))))))) (fun _ _ _ _ _ => (pe_fr (pe_tup (pa_cons (pv 12) (pa_cons (pv 13) pa_nil))))))
 (pss_cons (ps_setLc (own := [("_law_a", 12), ("_law_b", 13)]) (i := 10) rfl scl_dressed.nd rfl rfl (sw_true rfl rfl rfl (by decide +kernel)) (piL K (pv 9)) (blkOk_by (N := Nl_dressed) (sc := defScope sl_dressed) (by decide +kernel)) (fun _ _ _ _ _ => (pgT K 2 (pgs_cons (pg_name (i := 12) scl_dressed.nd rfl (Or.inl rfl)) (pgs_cons (pg_name (i := 13) scl_dressed.nd rfl (Or.inl rfl)) pgs_nil)))) (fun _ _ _ _ _ => (pts_fr (pts_one (pt_cmpR op_gt (pe_c3 d_l_draw (hr.less (by decide)) rfl (pa_cons (pv 0) (pa_cons pe_int pa_nil))) pe_int (nomark _))))) (fun _ _ _ _ _ => (pe_fr (pe_tup (pa_cons (pv 12) (pa_cons (pv 13) (pa_cons (pe_c3 d_l_pick (hr.less (by decide)) rfl (pa_cons (pv 0) (pa_cons (pe_lst (pa_cons pe_int (pa_cons (pe_un un_neg pe_int) pa_nil))) pa_nil))) pa_nil)))))))
 (pss_one (ps_ret (pe_tup (pa_cons (pv 5) (pa_cons (pv 2) (pa_cons (pv 7) (pa_cons (pv 10) pa_nil)))))))))))))), ?_⟩
    have big : (3000 : Nat) < sizeLine := by decide
    obtain ⟨txs, htp, htx⟩ := Dt.list_at dt
    rw [show start Nl_dressed [.ref p, .int n, .ref tp, ov] = [some (.ref p), some (.int n), some (.ref tp), some (ov), none, none, none, none, none, none, none, none, none, none, none] from rfl]
    -- near
    refine go_sets (lcDR H (lo := 0) (n := n) eInts (fun _ => True) (fun R r => ⟨_, rfl, _, rfl, by omega, by omega, r⟩) (by omega) (fun _ => rfl) (fun i G R hi eG r => ?_) fun np N H1 e1 _ dN _ lN => ?_)
    · refine lcDT G (a := tp) (ts := ts) PyData.int (fun _ => True) (fun _ => True) (fun R r => ⟨_, rfl, tp, rfl, ⟨_, SqL.of (eG _ _ htp)⟩, r⟩) (dt.mono eG) (by omega) (fun _ _ _ => rfl) (fun t _ G' R' e' r' => ?_) (fun t _ _ G' R' e' r' => ?_) fun q ns H' e' _ dq _ _ => r _ _ ns e' dq trivial
      · exact ⟨_, rfl, _, rfl, _, rfl, sz2, fun tq ntq => ⟨tq, _, rfl, .inr (SqT.of upd_same), rfl, rfl, _, rfl, r' _ _ (Ex.new ntq) fun _ => trivial⟩⟩
      · exact ⟨_, rfl, _, rfl, _, _, rfl, rfl, _, rfl, _, _, rfl, rfl, r' _ _ _ (Ex.refl _) rfl trivial⟩
    have dt1 := dt.mono e1
    have do1 := dodd.mono e1
    have hp1 := e1 _ _ hp
    -- parts
    simp only [gName, tNext, List.set_cons_succ, List.set_cons_zero]
    refine go_sets (lcDR H1 (lo := 0) (n := n) ePart PartFine (fun R r => ⟨_, rfl, _, rfl, by omega, by omega, r⟩) (by omega) (fun _ => rfl) (fun i G R hi eG r => ?_) fun pq ps H2 e12 _ dP fP lP => ?_)
    · refine ⟨_, rfl, sz2, fun a1 n1 => ⟨sz2, fun a2 n2 => ⟨sz2, fun a3 n3 => ⟨_, rfl, sz4, fun lp nlp => ?_⟩⟩⟩⟩
      have g1 := Ex.new (o := .tup [.str "k", .int 0]) n1
      have g2 := Ex.new (o := .tup [.str "k", .int 0]) n2
      have g3 := Ex.new (o := .tup [.str "k", .int 0]) n3
      have g4 := Ex.new (o := .lst [.ref a1, .ref a2, .ref a3, ov]) nlp
      have g14 := g1.trans (g2.trans (g3.trans g4))
      refine ⟨p, lp, _, rfl, (eG.trans g14) _ _ hp1, upd_same, by simp, by simp, fun ix x hx H6 e6 => ?_⟩
      have mem := List.mem_of_getElem? hx
      simp only [List.mem_cons, List.not_mem_nil, or_false] at mem
      rcases mem with rfl | rfl | rfl | rfl
      · exact r _ _ ("k", 0) (g14.trans e6) (part_mk (e6 _ _ ((g2.trans (g3.trans g4)) _ _ upd_same))) part_k0
      · exact r _ _ ("k", 0) (g14.trans e6) (part_mk (e6 _ _ ((g3.trans g4) _ _ upd_same))) part_k0
      · exact r _ _ ("k", 0) (g14.trans e6) (part_mk (e6 _ _ (g4 _ _ upd_same))) part_k0
      · exact r _ _ odd (g14.trans e6) (do1.mono ((eG.trans g14).trans e6)) fodd
    have dN2 := dN.mono e12
    have dt2 := dt1.mono e12
    have hp2 := e12 _ _ hp1
    -- some
    simp only [gName, tNext, List.set_cons_succ, List.set_cons_zero]
    refine go_sets (lcDRt H2 (lo := 0) (n := n) PyData.int (fun z => 0 ≤ z ∧ z < (n : Int)) (fun _ => True) (fun R r => ⟨_, rfl, _, rfl, by omega, by omega, r⟩) (by omega) (fun _ => rfl) (fun i G R hi eG r => ?_) (fun i G R hi _ eG r => ⟨_, rfl, r _ _ _ (Ex.refl _) rfl ⟨by omega, by omega⟩⟩) fun sq ss H3 e23 _ dS fS lS => ?_)
    · obtain ⟨xs, q, row, hnp, hq, hrow⟩ := near_item (x := (0 : Int) + i) (dN2.mono eG) (by omega) (by omega)
      refine ⟨fun b H' => Ex G H', ?_, fun b H' e => r b H' e fun _ => trivial⟩
      refine ⟨_, rfl, _, rfl, np, xs, _, _, rfl, rfl, SqL.of hnp, hq, q, _, rfl, .inl (SqL.of hrow), _, _, rfl, rfl, _, rfl, ?_⟩
      refine iteAny (fun _ => ⟨_, _, rfl, rfl, _, rfl, iteAny (fun _ => ?_) fun _ => Ex.refl _⟩) fun _ => ⟨_, rfl, Ex.refl _⟩
      exact ⟨_, rfl, p, _, rfl, (eG _ _ hp2), by omega, by omega, fun d _ _ H' e => ⟨_, _, rfl, rfl, _, rfl, e⟩⟩
    have dN3 := dN2.mono e23
    have dt3 := dt2.mono e23
    have dP3 := dP.mono e23
    have hp3 := e23 _ _ hp2
    clear dN2 dt2 dP hp2 dN dt1 do1 hp1
    -- hands
    simp only [gName, tNext, List.set_cons_succ, List.set_cons_zero]
    obtain ⟨sxs, hsq, hsx⟩ := Dt.list_at dS
    have lsx : sxs.length = ss.length := by rw [hsx.length, List.length_map]
    refine go_sets (lcDL H3 (a := sq) (xs := sxs) eHand HandFine (fun R r => ⟨_, rfl, sq, rfl, ⟨_, SqL.of hsq⟩, r⟩) hsq (by omega) (fun _ => rfl) (fun i x G R hi eG r => ?_) fun hq hs H4 e34 _ dH fH lH => ?_)
    · obtain ⟨z, hz, dz⟩ := item' hsx hi
      cases dz
      have bz := fS z (List.mem_of_getElem? hz)
      refine ⟨_, rfl, ?_⟩
      refine pick_ints [1, -1] rfl (eG _ _ hp3) (by decide) (by decide) (fun R r => ⟨_, rfl, sz2, fun lp h => r lp h⟩) fun u hu H' e => ⟨sz2, fun tq ntq => r _ _ (z, u) (e.trans (Ex.new ntq)) (hand_mk upd_same) ?_⟩
      simp only [List.mem_cons, List.not_mem_nil, or_false] at hu
      refine ⟨?_, ?_, ?_, ?_⟩ <;> dsimp only <;> omega
    have dN4 := dN3.mono e34
    have dt4 := dt3.mono e34
    have dP4 := dP3.mono e34
    have hp4 := e34 _ _ hp3
    clear dN3 dt3 dP3 hp3 hsq hsx dS
    -- twos
    simp only [gName, tNext, List.set_cons_succ, List.set_cons_zero]
    obtain ⟨txs4, htp4, _⟩ := Dt.list_at dt4
    refine go_sets (lcDT H4 (a := tp) (ts := ts) eHand (fun h => 0 ≤ h.1 ∧ h.1 < (n : Int) ∧ 0 ≤ h.2 ∧ h.2 < (n : Int)) (fun _ => True) (fun R r => ⟨_, rfl, tp, rfl, ⟨_, SqL.of htp4⟩, r⟩) dt4 (by omega) (fun _ _ _ => rfl) (fun t _ G R eG r => ⟨_, rfl, rfl, _, rfl, r _ _ (Ex.refl _) fun _ => trivial⟩) (fun t mt _ G R eG r => ⟨_, rfl, _, rfl, sz2, fun tq ntq => r _ _ (t.1, t.2.1) (Ex.new ntq) (hand_mk upd_same) ?_⟩) fun wq ws H5 e45 _ dW fW lW => ?_)
    · have := ft t mt
      refine ⟨this.1, ?_, ?_, this.2.2.1⟩ <;> have := (ft t mt).1 <;> have := (ft t mt).2.1 <;> have := (ft t mt).2.2.1 <;> dsimp only <;> omega
    have dN5 := dN4.mono e45
    have dt5 := dt4.mono e45
    have dP5 := dP4.mono e45
    have dH5 := dH.mono e45
    have hp5 := e45 _ _ hp4
    clear dN4 dt4 dP4 hp4 dH htp4
    -- fit
    simp only [gName, tNext, List.set_cons_succ, List.set_cons_zero]
    obtain ⟨wxs, hwq, _⟩ := Dt.list_at dW
    refine go_sets (lcDP H5 (a := wq) (ts := ws) eHand (fun h => 0 ≤ h.1 ∧ h.1 < (n : Int) ∧ 0 ≤ h.2 ∧ h.2 < (n : Int)) (fun _ => True) (fun R r => ⟨_, rfl, wq, rfl, ⟨_, SqL.of hwq⟩, r⟩) dW (by omega) (fun _ _ => rfl) (fun t mt G R eG r => ?_) (fun t mt _ G R eG r => ⟨_, rfl, _, rfl, sz2, fun tq ntq => r _ _ (t.1, t.2) (Ex.new ntq) (hand_mk upd_same) (fW t mt)⟩) fun fq fs H6 e56 _ dF fF lF => ?_)
    · have bt := fW t mt
      obtain ⟨xs, q, row, hnp, hq, hrow⟩ := near_item (x := t.1) (dN5.mono eG) (by omega) (by omega)
      obtain ⟨xs', q', row', hnp', hq', hrow'⟩ := near_item (x := t.2) (dN5.mono eG) (by omega) (by omega)
      refine ⟨fun b H' => Ex G H', ?_, fun b H' e => r b H' e fun _ => trivial⟩
      refine ⟨_, rfl, _, rfl, np, xs, _, _, rfl, rfl, SqL.of hnp, hq, q, _, rfl, .inl (SqL.of hrow), _, _, rfl, rfl, _, rfl, ?_⟩
      refine iteAny (fun _ => ⟨_, _, rfl, rfl, _, rfl, iteAny (fun _ => ?_) fun _ => Ex.refl _⟩) fun _ => ⟨_, rfl, Ex.refl _⟩
      refine ⟨_, rfl, _, rfl, np, xs', _, _, rfl, rfl, SqL.of hnp', hq', q', _, rfl, .inl (SqL.of hrow'), _, _, rfl, rfl, _, rfl, ?_⟩
      exact iteAny (fun _ => ⟨_, _, rfl, rfl, _, rfl, Ex.refl _⟩) fun _ => ⟨_, rfl, Ex.refl _⟩
    have dt6 := dt5.mono e56
    have dP6 := dP5.mono e56
    have dH6 := dH5.mono e56
    have hp6 := e56 _ _ hp5
    clear dN5 dt5 dP5 hp5 dH5 hwq dW
    -- sides
    simp only [gName, tNext, List.set_cons_succ, List.set_cons_zero]
    obtain ⟨fxs, hfq, _⟩ := Dt.list_at dF
    refine go_sets (lcDP H6 (a := fq) (ts := fs) eTie TieSm (fun _ => True) (fun R r => ⟨_, rfl, fq, rfl, ⟨_, SqL.of hfq⟩, r⟩) dF (by omega) (fun _ _ => rfl) (fun t mt G R eG r => ?_) (fun t mt _ G R eG r => ⟨_, rfl, _, rfl, ?_⟩) fun dq ds H7 e67 _ dD fD lD => ?_)
    · exact ⟨_, rfl, p, _, rfl, eG _ _ hp6, by omega, by omega, fun d _ _ H' e => ⟨_, _, rfl, rfl, _, rfl, r _ _ e fun _ => trivial⟩⟩
    · have bt := fF t mt
      refine pick_ints [1, -1] rfl (eG _ _ hp6) (by decide) (by decide) (fun R r => ⟨_, rfl, sz2, fun lp h => r lp h⟩) fun u hu H' e => ⟨sz3, fun tq ntq => r _ _ (t.1, t.2, u) (e.trans (Ex.new ntq)) (tie_mk upd_same) ?_⟩
      simp only [List.mem_cons, List.not_mem_nil, or_false] at hu
      refine ⟨?_, ?_, ?_⟩ <;> dsimp only <;> omega
    -- the web
    refine ⟨_, rfl, _, rfl, _, rfl, _, rfl, sz4, fun wp nwp => ?_⟩
    have g := e67.trans (Ex.new (o := .tup [.ref pq, .ref tp, .ref hq, .ref dq]) nwp)
    exact k (.ref wp) ⟨ps, ts, hs, ds⟩ _ (e1.trans (e12.trans (e23.trans (e34.trans (e45.trans (e56.trans g)))))) (web_mk upd_same (dP6.mono g) (dt6.mono g) (dH6.mono g) (dD.mono (Ex.new nwp))) ⟨lP, rfl, fP, fH, by show hs.length ≤ 30; omega, fD, by show ds.length ≤ 60; omega⟩
end
end W3

end
section
set_option Elab.async false
set_option linter.all false
set_option maxRecDepth 100000
set_option maxHeartbeats 4000000
namespace W3
open PySem PySem.Spec PyProof.Rows L2 M83 M72
open Evl (Ex)
/-! ### lists put together, cut -/
theorem cat_data {H : Hp} {a b : Addr} {ds es : List PyData} {Q : VK} (h1 : Dt H (.list ds) (.ref a)) (h2 : Dt H (.list es) (.ref b)) (hl : ds.length + es.length ≤ 1000)
    (k : ∀ q H', Ex H H' → H q = none → Dt H' (.list (ds ++ es)) (.ref q) → Q (.ref q) H') : rCat (.ref a) (.ref b) H Q := by
  obtain ⟨xs, ha, hx⟩ := Dt.list_at h1
  obtain ⟨ys, hb, hy⟩ := Dt.list_at h2
  have big : (3000 : Nat) < sizeLine := by decide
  exact ⟨a, b, xs, ys, rfl, rfl, ha, hb, by rw [hx.length, hy.length]; omega, fun p hp => k p _ (Ex.new hp) hp (dt_list upd_same (Dts.append (hy.mono (Ex.new hp)) (hx.mono (Ex.new hp))))⟩
theorem cut_to {K : PySem.W.Frag} {α : Type} (enc : α → PyData) {H : Hp} {a : Addr} {as : List α} {m : Int} {Q : VK} (h : Dt H (.list (as.map enc)) (.ref a)) (h0 : 0 ≤ m)
    (k : ∀ q H', Ex H H' → H q = none → Dt H' (.list ((as.take m.toNat).map enc)) (.ref q) → Q (.ref q) H') : rSlL K (.ref a) none (some m) H Q := by
  obtain ⟨xs, ha, hx⟩ := Dt.list_at h
  refine ⟨a, xs, rfl, SqL.of ha, fun p hp => k p _ (Ex.new hp) hp (dt_list upd_same ?_)⟩
  rw [cutV_to h0, List.map_take]
  exact (hx.take _).mono (Ex.new hp)
theorem cut_from {K : PySem.W.Frag} {α : Type} (enc : α → PyData) {H : Hp} {a : Addr} {as : List α} {m : Int} {Q : VK} (h : Dt H (.list (as.map enc)) (.ref a)) (h0 : 0 ≤ m)
    (k : ∀ q H', Ex H H' → H q = none → Dt H' (.list ((as.drop m.toNat).map enc)) (.ref q) → Q (.ref q) H') : rSlL K (.ref a) (some m) none H Q := by
  obtain ⟨xs, ha, hx⟩ := Dt.list_at h
  refine ⟨a, xs, rfl, SqL.of ha, fun p hp => k p _ (Ex.new hp) hp (dt_list upd_same ?_)⟩
  rw [cutV_from h0, List.map_drop]
  exact (hx.drop _).mono (Ex.new hp)
/-- pick(pot, numbers), the list made with draws -/
theorem pick_any {σ : L2.St} {H : Hp} {p : Addr} {Q : VK} {te : TE} {i : Nat} (good : Int → Prop) (hs : σ[i]? = some (some (.ref p))) (hp : H p = some (PotO p))
    (ht : ∀ R : VK, (∀ lp H1 (vals : List Int), Ex H H1 → H1 lp = some (.lst (vals.map V.int)) → 0 < vals.length → vals.length ≤ 1000 → (∀ z ∈ vals, good z) → R (.ref lp) H1) → te σ H R) (k : ∀ z, good z → ∀ H', Ex H H' → Q (.int z) H') :
    tC3 p_pick (tCons (tVar i) (tCons te tNil)) σ H Q := by
  refine ⟨_, hs, ht _ fun lp H1 vals e1 hlp h0 h1 hg => ⟨p, lp, _, rfl, e1 _ _ hp, hlp, by rw [List.length_map]; exact h0, by rw [List.length_map]; exact h1, fun ix x hx H' e => ?_⟩⟩
  rw [List.getElem?_map] at hx
  obtain ⟨z, hz, rfl⟩ := Option.map_eq_some_iff.mp hx
  exact k z (hg z (List.mem_of_getElem? hz)) H' (e1.trans e)
/-! ### a sequence of the numbers below n -/
def rgN (n : Nat) : List Int := (List.range n).map fun (i : Nat) => (i : Int)
theorem rgN_succ (n : Nat) : rgN (n + 1) = rgN n ++ [(n : Int)] := by simp [rgN, List.range_succ]
theorem mem_rgN {n : Nat} {z : Int} : z ∈ rgN n ↔ 0 ≤ z ∧ z < n := by
  unfold rgN
  rw [List.mem_map]
  constructor
  · rintro ⟨i, hi, rfl⟩
    have := List.mem_range.mp hi
    omega
  · intro h
    exact ⟨z.toNat, List.mem_range.mpr (by omega), by omega⟩
theorem nd_rgN (n : Nat) : (rgN n).Nodup := by
  unfold rgN
  exact List.Pairwise.map _ (fun a b h => by omega) List.nodup_range
theorem put_perm {os : List Int} {n : Nat} {z : Int} {k : Nat} (h : os.Perm (rgN n)) (e : z = (n : Int)) : (os.take k ++ [z] ++ os.drop k).Perm (rgN (n + 1)) := by
  rw [rgN_succ, ← e]
  have a : (os.take k ++ [z] ++ os.drop k).Perm (os.take k ++ os.drop k ++ [z]) := by
    rw [List.append_assoc, List.append_assoc]
    exact List.Perm.append_left _ List.perm_append_comm
  rw [List.take_append_drop] at a
  exact a.trans (h.append_right _)
theorem first_at {os : List Int} {z : Int} (nd : os.Nodup) (h : z ∈ os) : ∃ j : Nat, j < os.length ∧ os[j]? = some z ∧ ∀ (m : Nat) (y : V), m < j → (os.map V.int)[m]? = some y → eqV y (.int z) = false := by
  obtain ⟨j, hj⟩ := List.getElem?_of_mem h
  refine ⟨j, (List.getElem?_eq_some_iff.mp hj).1, hj, fun m y hm hy => ?_⟩
  rw [List.getElem?_map] at hy
  obtain ⟨u, hu, rfl⟩ := Option.map_eq_some_iff.mp hy
  show (u == z) = false
  rw [beq_eq_false_iff_ne]
  rintro rfl
  have := nd_ix nd hu hj
  omega
theorem nd_at {os : List Int} (nd : os.Nodup) {i j : Nat} {x y : Int} (hi : os[i]? = some x) (hj : os[j]? = some y) (h : i ≠ j) : x ≠ y := by
  rintro rfl
  exact h (nd_ix nd hi hj)
/-! ### webs as the law makes them -/
structure G72 (wb : Web) : Prop where
  w : W72 wb
  s : WSm wb
theorem D72.g {n : Nat} {ts : List Tie} {wb : Web} (d : D72 n ts wb) (hn : n ≤ 24) (f : ∀ t ∈ ts, TF n t) (l : ts.length ≤ 40) : G72 wb := by
  have h1 := d.pl
  have h2 := d.te
  refine ⟨⟨by omega, by rw [h2]; omega, fun t ht => ?_, fun t ht => ?_, d.pf⟩, ⟨d.pf, by omega, fun t ht => ?_, by rw [h2]; omega, d.hf, by have := d.hn; omega, d.sf, d.sn⟩⟩
  · rw [h2] at ht; rw [h1]
    have := f t ht
    exact ⟨this.1, this.2.1, this.2.2.1⟩
  · rw [h2] at ht
    have := (f t ht).2.2.2
    omega
  · rw [h2] at ht
    obtain ⟨a, b, c, e⟩ := f t ht
    exact ⟨by omega, by omega, by omega⟩
def Two (H : Hp) (v : V) : Prop := ∃ (q : Addr) (wv ov : V) (wb vb : Web), v = .ref q ∧ H q = some (.tup [wv, ov]) ∧ Dt H (eWeb wb) wv ∧ Dt H (eWeb vb) ov ∧ G72 wb ∧ G72 vb
theorem Two.mk {H : Hp} {q : Addr} {wv ov : V} {wb vb : Web} (hq : H q = none) (d1 : Dt H (eWeb wb) wv) (d2 : Dt H (eWeb vb) ov) (g1 : G72 wb) (g2 : G72 vb) : Two (upd H q (.tup [wv, ov])) (.ref q) :=
  ⟨q, wv, ov, wb, vb, rfl, upd_same, d1.mono (Ex.new hq), d2.mono (Ex.new hq), g1, g2⟩
/-! ### an odd part -/
theorem fine_mul {c : Nat} {n : Nat} {m : Int} (hc : c < 128) (hn : n ≤ 4) (h0 : -9 ≤ m) (h1 : m ≤ 9) : PartFine (Txt.mul ⟨#[c]⟩ n, m) := by
  have e : (Txt.mul ⟨#[c]⟩ n).cps.toList = List.replicate n c := by rw [mul_one_list]; simp
  refine ⟨fun x hx => ?_, ?_, h0, h1⟩
  · rw [show (Txt.mul ⟨#[c]⟩ (n : Int), m).1 = Txt.mul ⟨#[c]⟩ n from rfl, e] at hx
    rw [(List.mem_replicate.mp hx).2]; exact hc
  · show (Txt.mul ⟨#[c]⟩ n).cps.size ≤ 4
    rw [← Array.length_toList, e, List.length_replicate]; exact hn
abbrev abcS : Str := "abcdefghijklmnopqrstuvwxyz"
theorem abc_len : abcS.length ≤ sizeLine := by decide +kernel
theorem abc_at {d : Int} (h0 : 0 ≤ d) (h1 : d < 26) : ∃ c, atI abcS.cps.toList d = some c ∧ c < 128 := by
  have hl : abcS.cps.toList.length = 26 := by decide +kernel
  have ha : ∀ c ∈ abcS.cps.toList, c < 128 := by decide +kernel
  have hd : d.toNat < abcS.cps.toList.length := by omega
  exact ⟨abcS.cps.toList[d.toNat], atI_of h0 (List.getElem?_eq_getElem hd), ha _ (List.getElem_mem hd)⟩
section
variable {P : Program} {w : World} {K : PySem.W.Frag} {mg : Str → Option Value} {base : Heap}
/-! ### _law_built -/
def p_built : Sp3 := fun vs H Q => ∃ p : Addr, vs = [.ref p] ∧ H p = some (PotO p) ∧ ∀ v H', Ex H H' → Two H' v → Q v H'
theorem d_l_built {f : Addr} {fd : FuncData} (F : Fun K "_law_built" "_law_built" sl_built f fd) (hm : mg "_law_built" = some (.ref f)) (T : Txt mg) (d_l_draw : Df P w K mg base 1 "_law_draw" ["_law_pot_here", "_law_many"] p_draw)
    (d_l_shape : Df P w K mg base 3 "_law_shape" ["_law_pot_here"] p_shape) (d_l_dressed : Df P w K mg base 3 "_law_dressed" ["_law_pot_here", "_law_many", "_law_ties", "_law_odd"] p_dressed) : Df P w K mg base 4 "_law_built" ["_law_pot_here"] p_built := by
  refine Df.body F hm bil_built scl_built (fun vs H Q h => ?_) (fun cdv A outer s H vs Q hr h => ?_)
  · obtain ⟨p, rfl, _⟩ := h; rfl
  · obtain ⟨p, rfl, hp, k⟩ := h
    refine ⟨_, (pss_cons (ps_par (i := 2) (j := 3) rfl scl_built.nd rfl rfl (by decide) rfl rfl (pa_cons (pe_tup (pa_cons (pe_op op_mulS pe_str (pe_op op_add pe_int (pe_c3 d_l_draw (hr.less (by decide)) rfl (pa_cons (pv 0) (pa_cons pe_int pa_nil))))) (pa_cons (pe_op op_sub (pe_c3 d_l_draw (hr.less (by decide)) rfl (pa_cons (pv 0) (pa_cons pe_int pa_nil))) pe_int) pa_nil))) (pa_cons (pe_lst pa_nil) pa_nil)) (by rfl))
 (pss_cons (ps_for PassesOwn.never rfl (pi_range1 rfl T.range (pa_cons pe_int pa_nil)) (pg_name (i := 1) scl_built.nd rfl (Or.inl rfl)) (pss_cons (ps_asg (pe_fr (pe_c3 d_l_shape (hr.less (by decide)) rfl (pa_cons (pv 0) pa_nil))) (pgT K 2 (pgs_cons (pg_name (i := 4) scl_built.nd rfl (Or.inl rfl)) (pgs_cons (pg_name (i := 5) scl_built.nd rfl (Or.inl rfl)) pgs_nil))))
 (pss_one (ps_expr (pe_bm PySem.F.plainAttrs_list PySem.F.slot_list_append PySem.F.type_list_append mt_append (pv 3) (pa_cons (pe_fr (pe_c3 d_l_dressed (hr.less (by decide)) rfl (pa_cons (pv 0) (pa_cons (pv 4) (pa_cons (pv 5) (pa_cons (pv 2) pa_nil)))))) pa_nil))))))
 (pss_one (ps_ret (pe_tup (pa_cons (pe_ix (ixL K) (pv 3) pe_int (fun _ _ => rfl)) (pa_cons (pe_ix (ixL K) (pv 3) pe_int (fun _ _ => rfl)) pa_nil))))))), ?_⟩
    rw [show start Nl_built [.ref p] = [some (.ref p), none, none, none, none, none] from rfl]
    have big : (3000 : Nat) < sizeLine := by decide
    refine ⟨_, rfl, p, _, rfl, hp, by omega, by omega, fun d d0 d1 H1 e1 => ⟨_, _, rfl, rfl, ?_⟩⟩
    obtain ⟨m, hm'⟩ := Int.eq_ofNat_of_zero_le (show 0 ≤ 1 + d by omega)
    have hm2 : m ≤ 4 := by omega
    refine ⟨"b", m, rfl, by rw [← hm'], by decide +kernel, by omega, ?_⟩
    refine ⟨_, rfl, p, _, rfl, e1 _ _ hp, by omega, by omega, fun c c0 c1 H2 e2 => ⟨_, _, rfl, rfl, sz2, fun tp ntp => ⟨Nat.zero_le _, fun fp nfp => ⟨_, _, rfl, ?_⟩⟩⟩⟩
    have eb : ("b" : Str) = ⟨#[98]⟩ := by decide +kernel
    have f1 : PartFine (Txt.mul "b" m, c - 9) := by rw [eb]; exact fine_mul (by omega) hm2 (by omega) (by omega)
    have g1 := Ex.new (o := .tup [.str (Txt.mul "b" m), .int (c - 9)]) ntp
    have do1 : Dt (rm fp (upd (upd H2 tp (.tup [.str (Txt.mul "b" m), .int (c - 9)])) fp (.lst []))) (ePart (Txt.mul "b" m, c - 9)) (.ref tp) := by rw [rm_upd nfp]; exact part_mk upd_same
    have g0 := Grow.start ((e1.trans e2).trans g1) nfp
    generalize hodd : ((Txt.mul "b" m, c - 9) : Part) = odd at f1 do1
    generalize upd (upd H2 tp (.tup [.str (Txt.mul "b" m), .int (c - 9)])) fp (.lst []) = H3 at do1 g0
    simp only [gName, tNext, List.set_cons_succ, List.set_cons_zero]
    refine ⟨_, rfl, by omega, by omega, ?_⟩
    have ptp : p ≠ fp := fun z => by have := g0.new; rw [← z, hp] at this; cases this
    refine for_range (lo := 0) (n := 2) (fun i σ H' => ∃ va vm vt ws, σ = [some (.ref p), va, some (.ref tp), some (.ref fp), vm, vt] ∧ Ex (rm fp H3) (rm fp H') ∧ Grow H H' fp (ws.map eWeb) ∧ (∀ w ∈ ws, G72 w) ∧ ws.length = i)
      ⟨none, none, none, [], rfl, Ex.refl _, g0, fun w h => (by cases h), rfl⟩ ?_ ?_
    · rintro i σ H4 hi ⟨va, vm, vt, ws, rfl, e4, g, fw, lw⟩
      obtain ⟨F, hF, hd⟩ := id g.at_
      have hpr : rm fp H4 p = some (PotO p) := rm_at ptp (g.ex _ _ hp)
      refine ⟨fp, F, fun v H' => Ex (rm fp H4) H' ∧ Shp H' v, hF, ⟨_, rfl, p, rfl, hpr, fun v H' e h => ⟨e, h⟩⟩, fun v H5 hv n5 => ?_⟩
      obtain ⟨e5, q, tq, n, ts, rfl, hq, dt, hn, ft, lt⟩ := hv
      refine ⟨q, _, rfl, SqT.of (Ex.new n5 _ _ hq), rfl, _, _, rfl, _, _, rfl, rfl, ?_⟩
      refine ⟨_, rfl, .inl ⟨rfl, _, SqL.of upd_same⟩, fp, F, fun v H' => Ex H5 H' ∧ ∃ wb, Dt H' (eWeb wb) v ∧ G72 wb, upd_same, ?_, fun v H6 hv n6 => ?_⟩
      · rw [rm_upd n5]
        exact ⟨_, rfl, _, rfl, _, rfl, _, rfl, p, tq, n, ts, .ref tp, odd, rfl, e5 _ _ hpr, hn, dt, ft, lt, do1.mono (e4.trans e5), f1, fun wv wb H6 e6 dw d72 => ⟨e6, wb, dw, d72.g hn ft lt⟩⟩
      · obtain ⟨e6, wb, dw, gw⟩ := hv
        have lF := g.len hF
        rw [List.length_map] at lF
        refine ⟨fp, F, _, rfl, rfl, upd_same, by omega, ?_⟩
        refine ⟨_, _, _, ws ++ [wb], rfl, ?_, ⟨?_, g.new, F ++ [v], upd_same, ?_⟩, all_snoc fw gw, by simp [lw]⟩
        · rw [upd_upd, rm_upd n6]; exact e4.trans (e5.trans e6)
        · rw [upd_upd]; exact (ex_to_rm g.ex g.new).trans ((e5.trans e6).trans (Ex.new n6))
        · rw [upd_upd, rm_upd n6, List.map_append]; exact Dts.snoc dw (hd.mono (e5.trans e6))
    · rintro σ H4 ⟨va, vm, vt, ws, rfl, e4, g, fw, lw⟩
      obtain ⟨F, hF, hd⟩ := id g.at_
      obtain ⟨w1, w2, rfl⟩ : ∃ w1 w2, ws = [w1, w2] := by
        match ws, lw with
        | [a, b], _ => exact ⟨a, b, rfl⟩
      obtain ⟨x, r, rfl, dx, y, r2, rfl, dy, rfl⟩ := hd
      refine ⟨_, rfl, fp, _, 0, _, rfl, rfl, SqL.of hF, rfl, _, rfl, fp, _, 1, _, rfl, rfl, SqL.of hF, rfl, sz2, fun q nq => k (.ref q) _ (g.ex.trans (Ex.new nq)) (Two.mk nq (dx.mono ex_rm) (dy.mono ex_rm) (fw _ (by simp)) (fw _ (by simp)))⟩
end
end W3

end
section
set_option Elab.async false
set_option linter.all false
set_option maxRecDepth 100000
set_option maxHeartbeats 4000000
namespace W3
open PySem PySem.Spec PyProof.Rows L2 M83 M72
open Evl (Ex)
/-- a method's call, K told -/
theorem pe_bmK {X : Cx} {o e : Expr} {es : List Expr} {to : TE} {t : TA} {name : Str} {apos cpos : Pos} {T id : String} {r : V → List V → Hp → VK → Prop} (K : PySem.W.Frag) (pa : PlainAttrs T) (slot : Slot T name id) (hty : typeOf (.builtin id) = pure (.type "method_descriptor")) (hm : MtR X id r) (ho : PE X o to) (ha : PA X (e :: es) t)
    (hk : X.K = K := by rfl) (hbase : attributeBase o name X.env (eval o X.env) = eval o X.env := by rfl)
    (hfew : ((backTo cpos (starEach (e :: es) X.env)).all (fun x => !x.1) && (backToKw cpos (keywordEach [] X.env)).all (fun x => x.1.isSome)
      && decide ((e :: es).length + ([] : List Keyword).length + (if ([] : List Keyword).isEmpty then 0 else 1) < 30)) = true := by rfl)
    (hline : (apos.endLine == cpos.line) = true := by rfl) (hs : starEach (e :: es) X.env = (false, eval e X.env) :: starEach es X.env := by rfl) (hplain : (backTo cpos (starEach es X.env)).any (·.1) = false := by rfl) :
    PE X (.Call (.Attribute o name apos) (e :: es) [] cpos) (tBM K T r to t) := hk ▸ pe_bm pa slot hty hm ho ha hbase hfew hline hs hplain
/-! ### ties led by a sequence -/
def ledT (os : List Int) (t : Tie) : Tie :=
  ((if os[t.2.1.toNat]?.getD 0 < os[t.1.toNat]?.getD 0 then os[t.2.1.toNat]?.getD 0 else os[t.1.toNat]?.getD 0),
   (if os[t.2.1.toNat]?.getD 0 > os[t.1.toNat]?.getD 0 then os[t.2.1.toNat]?.getD 0 else os[t.1.toNat]?.getD 0), t.2.2)
theorem led_fine {os : List Int} {n : Nat} {t : Tie} (h : os.Perm (rgN n)) (f : TF n t) : TF n (ledT os t) := by
  have len : os.length = n := by rw [h.length_eq]; simp [rgN]
  have nd : os.Nodup := h.nodup_iff.mpr (nd_rgN n)
  obtain ⟨a, b, c, d⟩ := f
  have l1 : t.1.toNat < os.length := by omega
  have l2 : t.2.1.toNat < os.length := by omega
  have e1 := List.getElem?_eq_getElem l1
  have e2 := List.getElem?_eq_getElem l2
  have b1 := mem_rgN.mp (h.mem_iff.mp (List.getElem_mem l1))
  have b2 := mem_rgN.mp (h.mem_iff.mp (List.getElem_mem l2))
  have ne := nd_at nd e1 e2 (by omega)
  unfold ledT
  rw [e1, e2]
  simp only [Option.getD_some]
  generalize os[t.1.toNat] = u at *
  generalize os[t.2.1.toNat] = v at *
  unfold TF
  refine ⟨?_, ?_, ?_, d⟩ <;> dsimp only <;> split <;> (try split) <;> omega
theorem ties_lf {n : Nat} {ts : List Tie} (hn : n ≤ 24) (f : ∀ t ∈ ts, TF n t) : Lf (eTies ts) := Lfs.map fun t ht => (sm_tie (by
  obtain ⟨a, b, c, d⟩ := f t ht
  exact ⟨by omega, by omega, by omega⟩)).lf
section
variable {P : Program} {w : World} {K : PySem.W.Frag} {mg : Str → Option Value} {base : Heap}
/-! ### _law_two -/
def p_two : Sp3 := fun vs H Q => ∃ p : Addr, vs = [.ref p, .int 5] ∧ H p = some (PotO p) ∧ ∀ v H', Ex H H' → Two H' v → Q v H'
theorem d_l_two {f : Addr} {fd : FuncData} (F : Fun K "_law_two" "_law_two" sl_two f fd) (hm : mg "_law_two" = some (.ref f)) (T : Txt mg) (d_l_draw : Df P w K mg base 1 "_law_draw" ["_law_pot_here", "_law_many"] p_draw)
    (d_l_pick : Df P w K mg base 2 "_law_pick" ["_law_pot_here", "_law_some"] p_pick) (d_l_drawn_ties : Df P w K mg base 3 "_law_drawn_ties" ["_law_pot_here", "_law_many"] p_dties)
    (d_l_dressed : Df P w K mg base 3 "_law_dressed" ["_law_pot_here", "_law_many", "_law_ties", "_law_odd"] p_dressed) : Df P w K mg base 4 "_law_two" ["_law_pot_here", "_law_most"] p_two := by
  refine Df.body F hm bil_two scl_two (fun vs H Q h => ?_) (fun cdv A outer s H vs Q hr h => ?_)
  · obtain ⟨p, rfl, _⟩ := h; rfl
  · obtain ⟨p, rfl, hp, k⟩ := h
    refine ⟨_, (pss_cons (ps_set (i := 2) scl_two.nd rfl (Or.inl rfl) pe_str)
 (pss_cons (ps_set (i := 3) scl_two.nd rfl (Or.inl rfl) (pe_tup (pa_cons (pe_op op_mulS (pe_ix ix_str (pv 2) (pe_c3 d_l_draw (hr.less (by decide)) rfl (pa_cons (pv 0) (pa_cons pe_int pa_nil))) (fun _ _ => rfl)) (pe_op op_add pe_int (pe_c3 d_l_draw (hr.less (by decide)) rfl (pa_cons (pv 0) (pa_cons pe_int pa_nil))))) (pa_cons (pe_op op_sub (pe_c3 d_l_draw (hr.less (by decide)) rfl (pa_cons (pv 0) (pa_cons pe_int pa_nil))) pe_int) pa_nil))))
 (pss_cons (ps_set (i := 4) scl_two.nd rfl (Or.inl rfl) (pe_c3 d_l_pick (hr.less (by decide)) rfl (pa_cons (pv 0) (pa_cons (pe_lst (pa_cons (pv 1) (pa_cons (pv 1) (pa_cons (pe_op op_sub (pv 1) pe_int) (pa_cons (pe_c3 d_l_draw (hr.less (by decide)) rfl (pa_cons (pv 0) (pa_cons (pe_op op_add (pv 1) pe_int) pa_nil))) pa_nil))))) pa_nil))))
 (pss_cons (ps_set (i := 5) scl_two.nd rfl (Or.inr rfl) (pe_c3 d_l_dressed (hr.less (by decide)) rfl (pa_cons (pv 0) (pa_cons (pv 4) (pa_cons (pe_c3 d_l_drawn_ties (hr.less (by decide)) rfl (pa_cons (pv 0) (pa_cons (pv 4) pa_nil))) (pa_cons (pv 3) pa_nil))))))
 (pss_cons (ps_if (pt_cmpR op_eq (pe_c3 d_l_draw (hr.less (by decide)) rfl (pa_cons (pv 0) (pa_cons pe_int pa_nil))) pe_int (nomark _)) (pss_cons (ps_set (i := 4) scl_two.nd rfl (Or.inl rfl) (pe_c3 d_l_pick (hr.less (by decide)) rfl (pa_cons (pv 0) (pa_cons (pe_lst (pa_cons (pv 1) (pa_cons (pe_op op_sub (pv 1) pe_int) (pa_cons (pe_c3 d_l_draw (hr.less (by decide)) rfl (pa_cons (pv 0) (pa_cons (pe_op op_add (pv 1) pe_int) pa_nil))) pa_nil)))) pa_nil))))
 (pss_one (ps_ret (pe_tup (pa_cons (pv 5) (pa_cons (pe_c3 d_l_dressed (hr.less (by decide)) rfl (pa_cons (pv 0) (pa_cons (pv 4) (pa_cons (pe_c3 d_l_drawn_ties (hr.less (by decide)) rfl (pa_cons (pv 0) (pa_cons (pv 4) pa_nil))) (pa_cons (pv 3) pa_nil))))) pa_nil)))))) pss_nil)
 (pss_cons (ps_set (i := 6) scl_two.nd rfl (Or.inr rfl) (pe_lst pa_nil))
 (pss_cons (ps_for PassesOwn.never rfl (pi_range1 rfl T.range (pa_cons (pv 4) pa_nil)) (pg_name (i := 7) scl_two.nd rfl (Or.inl rfl)) (pss_cons (ps_set (i := 11) scl_two.nd rfl (Or.inl rfl) (pe_c3 d_l_draw (hr.less (by decide)) rfl (pa_cons (pv 0) (pa_cons (pe_op op_add (pv 7) pe_int) pa_nil))))
 (pss_one (ps_set (i := 6) scl_two.nd rfl (Or.inr rfl) (pe_op op_cat (pe_op op_cat (pe_slice (slL K) (pv 6) po_none (po_some (pv 11))) (pe_lst (pa_cons (pv 7) pa_nil))) (pe_slice (slL K) (pv 6) (po_some (pv 11)) po_none))))))
 (pss_cons (ps_set (i := 8) scl_two.nd rfl (Or.inl rfl) (pe_callB (cr_sortD hr.u64) (by rfl) T.n_sorted bt_sorted (pa_cons (pe_lc (own := [("_law_a", 12), ("_law_b", 13), ("_law_c", 14)]) rfl scl_two.nd (piL K (pe_ix (ixT K) (pv 5) pe_int (fun _ _ => rfl))) (blkOk_by (N := Nl_two) (sc := defScope sl_two) (by decide +kernel)) (fun _ _ _ _ _ => (pgT K 3 (pgs_cons (pg_name (i := 12) scl_two.nd rfl (Or.inl rfl)) (pgs_cons (pg_name (i := 13) scl_two.nd rfl (Or.inl rfl)) (pgs_cons (pg_name (i := 14) scl_two.nd rfl (Or.inl rfl)) pgs_nil))))) (fun _ _ _ _ _ => pts_nil) (fun _ _ _ _ _ => (pe_fr (pe_tup (pa_cons (pe_callB (call_min2 rfl) (by rfl) T.n_min bt_min (pa_cons (pe_ix (ixL K) (pv 6) (pv 12) (fun _ _ => rfl)) (pa_cons (pe_ix (ixL K) (pv 6) (pv 13) (fun _ _ => rfl)) pa_nil))) (pa_cons (pe_callB (call_max2 rfl) (by rfl) T.n_max bt_max (pa_cons (pe_ix (ixL K) (pv 6) (pv 12) (fun _ _ => rfl)) (pa_cons (pe_ix (ixL K) (pv 6) (pv 13) (fun _ _ => rfl)) pa_nil))) (pa_cons (pv 14) pa_nil))))))) pa_nil)))
 (pss_cons (ps_m (ps_if (PW.pt (pw_and (pt_cmpR (opNeD K hr.u64) (pv 8) (pe_lst pa_nil) (nomark _)) (pw_and1 (pt_cmpR op_eq (pe_c3 d_l_draw (hr.less (by decide)) rfl (pa_cons (pv 0) (pa_cons pe_int pa_nil))) pe_int (nomark _))))) (pss_cons (ps_set (i := 11) scl_two.nd rfl (Or.inl rfl) (pe_c3 d_l_draw (hr.less (by decide)) rfl (pa_cons (pv 0) (pa_cons (pe_callB (lenS K) (by rfl) T.n_len bt_len (pa_cons (pv 8) pa_nil)) pa_nil))))
 (pss_cons (ps_asg (pe_ix (ixL K) (pv 8) (pv 11) (fun _ _ => rfl)) (pgT K 3 (pgs_cons (pg_name (i := 12) scl_two.nd rfl (Or.inl rfl)) (pgs_cons (pg_name (i := 13) scl_two.nd rfl (Or.inl rfl)) (pgs_cons (pg_name (i := 14) scl_two.nd rfl (Or.inl rfl)) pgs_nil)))))
 (pss_one (ps_set (i := 8) scl_two.nd rfl (Or.inl rfl) (pe_op op_cat (pe_op op_cat (pe_slice (slL K) (pv 8) po_none (po_some (pv 11))) (pe_c3 d_l_pick (hr.less (by decide)) rfl (pa_cons (pv 0) (pa_cons (pe_lst (pa_cons (pe_lst pa_nil) (pa_cons (pe_lst (pa_cons (pe_tup (pa_cons (pv 12) (pa_cons (pv 13) (pa_cons (pe_op op_sub pe_int (pv 14)) pa_nil)))) pa_nil)) pa_nil))) pa_nil)))) (pe_slice (slL K) (pv 8) (po_some (pe_op op_add (pv 11) pe_int)) po_none)))))) pss_nil))
 (pss_cons (ps_set (i := 9) scl_two.nd rfl (Or.inl rfl) (pe_c3 d_l_dressed (hr.less (by decide)) rfl (pa_cons (pv 0) (pa_cons (pv 4) (pa_cons (pv 8) (pa_cons (pv 3) pa_nil))))))
 (pss_cons (ps_setLc (own := [("_law_x", 7)]) (i := 10) rfl scl_two.nd rfl rfl (sw_true rfl rfl rfl (by decide +kernel)) (pi_range1 rfl T.range (pa_cons (pv 4) pa_nil)) (blkOk_by (N := Nl_two) (sc := defScope sl_two) (by decide +kernel)) (fun _ _ _ _ _ => (pg_name (i := 7) scl_two.nd rfl (Or.inl rfl))) (fun _ _ _ _ _ => pts_nil) (fun _ _ _ _ _ => (pe_fr (pe_ix (ixL K) (pe_ix (ixT K) (pv 5) pe_int (fun _ _ => rfl)) (pe_bmK K PySem.F.plainAttrs_list PySem.F.slot_list_index PySem.F.type_list_index (ixI K) (pv 6) (pa_cons (pv 7) pa_nil)) (fun _ _ => rfl)))))
 (pss_one (ps_ret (pe_tup (pa_cons (pv 5) (pa_cons (pe_tup (pa_cons (pe_m (pe_ifExp (pt_cmpR op_gt (pe_c3 d_l_draw (hr.less (by decide)) rfl (pa_cons (pv 0) (pa_cons pe_int pa_nil))) pe_int (nomark _)) (pv 10) (pe_ix (ixT K) (pv 9) pe_int (fun _ _ => rfl)))) (pa_cons (pv 8) (pa_cons (pe_ix (ixT K) (pv 9) pe_int (fun _ _ => rfl)) (pa_cons (pe_ix (ixT K) (pv 9) pe_int (fun _ _ => rfl)) pa_nil))))) pa_nil)))))))))))))))), ?_⟩
    rw [show start Nl_two [.ref p, .int 5] = [some (.ref p), some (.int 5), none, none, none, none, none, none, none, none, none, none, none, none, none] from rfl]
    have big : (3000 : Nat) < sizeLine := by decide
    -- odd
    refine go_sets ?_
    show tSeq _ _ _ (List.set _ 2 (some (.str abcS))) H
    simp only [gName, tNext, List.set_cons_succ, List.set_cons_zero]
    refine go_sets ?_
    refine ⟨_, rfl, _, rfl, p, _, rfl, hp, by omega, by omega, fun d d0 d1 H1 e1 => ?_⟩
    obtain ⟨ch, hch, hc⟩ := abc_at d0 d1
    refine ⟨abcS, d, ch, rfl, rfl, abc_len, hch, ?_⟩
    refine ⟨_, rfl, p, _, rfl, e1 _ _ hp, by omega, by omega, fun c c0 c1 H2 e2 => ⟨_, _, rfl, rfl, ?_⟩⟩
    obtain ⟨m, hm'⟩ := Int.eq_ofNat_of_zero_le (show 0 ≤ 1 + c by omega)
    have hm2 : m ≤ 4 := by omega
    refine ⟨⟨#[ch]⟩, m, rfl, by rw [← hm'], by show 1 ≤ 100; omega, by omega, ?_⟩
    have e12 := e1.trans e2
    refine ⟨_, rfl, p, _, rfl, e12 _ _ hp, by omega, by omega, fun b b0 b1 H3 e3 => ⟨_, _, rfl, rfl, sz2, fun tp ntp => ?_⟩⟩
    have f1 : PartFine (Txt.mul ⟨#[ch]⟩ m, b - 9) := fine_mul hc hm2 (by omega) (by omega)
    have g1 := Ex.new (o := .tup [.str (Txt.mul ⟨#[ch]⟩ m), .int (b - 9)]) ntp
    have do4 : Dt (upd H3 tp (.tup [.str (Txt.mul ⟨#[ch]⟩ m), .int (b - 9)])) (ePart (Txt.mul ⟨#[ch]⟩ m, b - 9)) (.ref tp) := part_mk upd_same
    have e4 := (e12.trans e3).trans g1
    generalize hodd : ((Txt.mul ⟨#[ch]⟩ m, b - 9) : Part) = odd at f1 do4
    generalize upd H3 tp (.tup [.str (Txt.mul ⟨#[ch]⟩ m), .int (b - 9)]) = H4 at do4 e4 ⊢
    clear g1 ntp hodd e12 e1 e2 e3
    have hp4 := e4 _ _ hp
    simp only [gName, tNext, List.set_cons_succ, List.set_cons_zero]
    -- many
    refine go_sets ?_
    refine pick_any (fun z => 0 ≤ z ∧ z ≤ 5) rfl hp4 (fun R r => ?_) fun z hz H5 e45 => ?_
    · refine ⟨_, rfl, _, rfl, _, rfl, _, _, rfl, rfl, _, rfl, _, rfl, _, _, rfl, rfl, p, _, rfl, hp4, by omega, by omega, fun y y0 y1 H5 e5 => ⟨sz4, fun lp nlp => r lp _ [5, 5, 5 - 1, y] (e5.trans (Ex.new nlp)) upd_same (by simp) (by simp) fun z hz => ?_⟩⟩
      simp only [List.mem_cons, List.not_mem_nil, or_false] at hz
      omega
    obtain ⟨n, rfl⟩ := Int.eq_ofNat_of_zero_le hz.1
    have hn : n ≤ 5 := by omega
    have e5 := e4.trans e45
    have hp5 := e45 _ _ hp4
    have do5 := do4.mono e45
    clear do4 hp4 e4 e45 hz
    simp only [gName, tNext, List.set_cons_succ, List.set_cons_zero]
    -- the first web
    refine go_sets ?_
    refine ⟨_, rfl, _, rfl, _, rfl, _, rfl, p, n, rfl, hp5, by omega, fun q ts H6 e6 dt ft lt => ?_⟩
    have ft' : ∀ t ∈ ts, TF n t := fun t ht => ⟨(ft.1 t ht).1, (ft.1 t ht).2.1, (ft.1 t ht).2.2, ft.2 t ht⟩
    refine ⟨_, rfl, p, q, n, ts, .ref tp, odd, rfl, e6 _ _ hp5, by omega, dt, ft', by omega, do5.mono e6, f1, fun wv wb H7 e7 dw d7 => ?_⟩
    have gw := d7.g (by omega) ft' (by omega)
    have e8 := e5.trans (e6.trans e7)
    have do8 := do5.mono (e6.trans e7)
    have hp8 := e8 _ _ hp
    clear do5 hp5 dt e5 e6 e7
    simp only [gName, tNext, List.set_cons_succ, List.set_cons_zero]
    refine ⟨_, rfl, p, _, rfl, hp8, by omega, by omega, fun y _ _ H8 e78 => ⟨rfl, _, rfl, iteAny (fun _ => ?_) (fun _ => ?_)⟩⟩
    · have dw8 := dw.mono e78
      have hpA := e78 _ _ hp8
      refine go_sets ?_
      refine pick_any (fun z => 0 ≤ z ∧ z ≤ 5) rfl hpA (fun R r => ?_) fun z hz H9 e9 => ?_
      · refine ⟨_, rfl, _, rfl, _, _, rfl, rfl, _, rfl, _, rfl, _, _, rfl, rfl, p, _, rfl, hpA, by omega, by omega, fun y y0 y1 H5 e5 => ⟨sz3, fun lp nlp => r lp _ [5, 5 - 1, y] (e5.trans (Ex.new nlp)) upd_same (by simp) (by simp) fun z hz => ?_⟩⟩
        simp only [List.mem_cons, List.not_mem_nil, or_false] at hz
        omega
      obtain ⟨n2, rfl⟩ := Int.eq_ofNat_of_zero_le hz.1
      have hpB := e9 _ _ hpA
      simp only [gName, tNext, List.set_cons_succ, List.set_cons_zero]
      refine ⟨_, rfl, _, rfl, _, rfl, _, rfl, _, rfl, p, n2, rfl, hpB, by omega, fun q ts H10 e10 dt ft lt => ?_⟩
      have ft' : ∀ t ∈ ts, TF n2 t := fun t ht => ⟨(ft.1 t ht).1, (ft.1 t ht).2.1, (ft.1 t ht).2.2, ft.2 t ht⟩
      refine ⟨_, rfl, p, q, n2, ts, .ref tp, odd, rfl, e10 _ _ hpB, by omega, dt, ft', by omega, do8.mono (e78.trans (e9.trans e10)), f1, fun ov vb H11 e11 dv dd => ⟨sz2, fun r nr => ?_⟩⟩
      exact k (.ref r) _ ((e8.trans (e78.trans (e9.trans (e10.trans e11)))).trans (Ex.new nr)) (Two.mk nr (dw8.mono (e9.trans (e10.trans e11))) dv gw (dd.g (by omega) ft' (by omega)))
    have e9 := e8.trans e78
    have dw9 := dw.mono e78
    have do9 := do8.mono e78
    have hp9 := e78 _ _ hp8
    clear e8 e78 dw do8 hp8 ft
    simp only [gName, tNext, List.set_cons_succ, List.set_cons_zero]
    obtain ⟨wp, pa, ta, ha, sa, rfl, hwp, dpa, dta, dha, dsa⟩ := web_at dw9
    have ete := d7.te
    have epl := d7.pl
    rw [ete] at dta
    -- a sequence
    refine go_sets ⟨Nat.zero_le _, fun oq noq => ?_⟩
    have d0 : Dt (upd H8 oq (.lst [])) (eInts []) (.ref oq) := dt_nil upd_same
    have g0 := Ex.new (o := .lst []) noq
    have hp10 := g0 _ _ hp9
    have e10 := e9.trans g0
    replace do9 := do9.mono g0
    replace hwp := g0 _ _ hwp
    replace dpa := dpa.mono g0
    replace dta := dta.mono g0
    replace dw9 := dw9.mono g0
    generalize upd H8 oq (.lst []) = H9 at d0 hp10 e10 do9 hwp dpa dta dw9
    clear g0 noq hp9 e9 dha dsa
    simp only [gName, tNext, List.set_cons_succ, List.set_cons_zero]
    refine ⟨_, rfl, _, rfl, by omega, by omega, ?_⟩
    refine for_range (lo := 0) (n := n) (fun i σ H' => ∃ vx vp oa os, σ = [some (.ref p), some (.int 5), some (.str abcS), some (.ref tp), some (.int n), some (.ref wp), some (.ref oa), vx, none, none, none, vp, none, none, none] ∧ Ex H9 H' ∧ Dt H' (eInts os) (.ref oa) ∧ os.Perm (rgN i))
      ⟨none, none, oq, [], rfl, Ex.refl _, d0, by simp [rgN]⟩ ?_ ?_
    · rintro i σ HA hi ⟨vx, vp, oa, os, rfl, eA, dos, pm⟩
      have los : os.length = i := by rw [pm.length_eq]; simp [rgN]
      refine ⟨_, rfl, _, rfl, _, _, rfl, rfl, p, _, rfl, eA _ _ hp10, by omega, by omega, fun pl p0 p1 HB eB => ?_⟩
      refine ⟨_, rfl, _, rfl, _, rfl, ?_⟩
      refine cut_to PyData.int (dos.mono eB) p0 fun s1 HC eC _ d1 => ?_
      refine ⟨_, rfl, sz1, fun l1 nl1 => ?_⟩
      have g1 := Ex.new (o := .lst [.int ((0 : Int) + i)]) nl1
      refine cat_data (d1.mono g1) (show Dt _ (.list [PyData.int ((0 : Int) + i)]) (.ref l1) from dt_list upd_same (Dts.mk1 rfl)) (by simp; omega) fun c1 HD eD _ d2 => ?_
      refine ⟨_, rfl, _, rfl, _, rfl, ?_⟩
      dsimp only [tNoPart]
      refine cut_from PyData.int (dos.mono (eB.trans (eC.trans (g1.trans eD)))) p0 fun s2 HE eE _ d3 => ?_
      refine cat_data (d2.mono eE) d3 (by simp; omega) fun c2 HF eF _ d4 => ?_
      refine ⟨_, _, c2, os.take pl.toNat ++ [(0 : Int) + i] ++ os.drop pl.toNat, rfl, eA.trans (eB.trans (eC.trans (g1.trans (eD.trans (eE.trans eF))))), ?_, put_perm pm (by omega)⟩
      unfold eInts
      rw [List.map_append, List.map_append]
      exact d4
    rintro σ HA ⟨vx, vp, oa, os, rfl, eA, dos, pm⟩
    obtain ⟨_, eoa, hoa⟩ := ints_at dos
    cases eoa
    have los : os.length = n := by rw [pm.length_eq]; simp [rgN]
    have ndo : os.Nodup := pm.nodup_iff.mpr (nd_rgN n)
    have hpA := eA _ _ hp10
    have dtA := dta.mono eA
    obtain ⟨txs, htA, _⟩ := Dt.list_at dtA
    -- the ties led
    dsimp only
    refine go_sets (go_cb1 ?_)
    refine lcTiesT HA (a := ta) (ts := ts) (ledT os) (fun R r => ⟨_, rfl, wp, _, 1, _, rfl, rfl, SqT.of (eA _ _ hwp), rfl, ta, rfl, ⟨_, SqL.of htA⟩, r⟩) dtA (by omega) (fun _ _ _ => rfl) (fun t G R ht e r => ?_) fun q2 HB eB _ dq => ?_
    · obtain ⟨a0, a1, a2, a3⟩ := ft' t ht
      have l1 : t.1.toNat < os.length := by omega
      have l2 : t.2.1.toNat < os.length := by omega
      have i1 : atI (os.map V.int) t.1 = some (.int (os[t.1.toNat]?.getD 0)) := atI_of a0 (by rw [List.getElem?_map, List.getElem?_eq_getElem l1]; rfl)
      have i2 : atI (os.map V.int) t.2.1 = some (.int (os[t.2.1.toNat]?.getD 0)) := atI_of (by omega) (by rw [List.getElem?_map, List.getElem?_eq_getElem l2]; rfl)
      have ho := e _ _ hoa
      exact ⟨_, rfl, _, rfl, oa, _, _, _, rfl, rfl, SqL.of ho, i1, _, rfl, _, rfl, oa, _, _, _, rfl, rfl, SqL.of ho, i2, _, _, rfl, _, rfl, _, rfl, oa, _, _, _, rfl, rfl, SqL.of ho, i1, _, rfl, _, rfl, oa, _, _, _, rfl, rfl, SqL.of ho, i2, _, _, rfl, _, rfl, sz3, r⟩
    refine sort_ties dq fun tq HC eC _ dtq => ?_
    have f2 : ∀ t ∈ sortT (ts.map (ledT os)), TF n t := fun t ht => all_map (p := TF n) (fun t ht => led_fine pm (ft' t ht)) t (sortT_mem.mp ht)
    have l2 : (sortT (ts.map (ledT os))).length ≤ 36 := by rw [sortT_len, List.length_map]; exact lt
    generalize sortT (ts.map (ledT os)) = us at dtq f2 l2
    have eBC := eB.trans eC
    have hpC := eBC _ _ hpA
    have hoC := eBC _ _ hoa
    have eAC := eA.trans eBC
    clear dq hpA dtA htA eB eC hoa
    simp only [gName, tNext, List.set_cons_succ, List.set_cons_zero]
    -- perhaps one of them changed
    refine ⟨fun σ' H' => ∃ tq us vp va vb vc, σ' = [some (.ref p), some (.int 5), some (.str abcS), some (.ref tp), some (.int n), some (.ref wp), some (.ref oa), vx, some (.ref tq), none, none, vp, va, vb, vc] ∧ Ex HC H' ∧ Dt H' (eTies us) (.ref tq) ∧ (∀ t ∈ us, TF n t) ∧ us.length ≤ 40, ?_, ?_⟩
    · refine ⟨_, rfl, Nat.zero_le _, fun np nnp => ?_⟩
      have g1 := Ex.new (o := .lst []) nnp
      refine ⟨eTies us, .list [], Dt.dp (dtq.mono g1), Dt.dp (dt_nil upd_same), shaped_of (ties_lf (by omega) f2) (dep_any dep_tie _), shaped_of nil_lf nil_dep, _, rfl, ?_⟩
      refine iteAny (fun hne => ?_) (fun _ => iteF ⟨tq, us, _, _, _, _, rfl, g1, dtq.mono g1, f2, by omega⟩)
      have une : 0 < us.length := by
        cases us with
        | nil => exact absurd hne (by simp [eTies, PyData.eqv, PyData.eqvAll])
        | cons a b => simp
      refine ⟨_, rfl, p, _, rfl, g1 _ _ hpC, by omega, by omega, fun y _ _ HD eD => ⟨rfl, _, rfl, iteAny (fun _ => ?_) (fun _ => ⟨tq, us, _, _, _, _, rfl, g1.trans eD, dtq.mono (g1.trans eD), f2, by omega⟩)⟩⟩
      have dtD := dtq.mono (g1.trans eD)
      obtain ⟨uxs, huD, hux⟩ := Dt.list_at dtD
      have lux : uxs.length = us.length := by rw [hux.length, List.length_map]
      refine ⟨_, rfl, _, rfl, tq, uxs, rfl, .inl (SqL.of huD), p, _, rfl, eD _ _ (g1 _ _ hpC), by omega, by omega, fun pl p0 p1 HE eE => ?_⟩
      have lpl : pl.toNat < us.length := by omega
      obtain ⟨xv, hxv, dxv⟩ := item hux (List.getElem?_eq_getElem lpl)
      have ft2 := f2 _ (List.getElem_mem lpl)
      generalize us[pl.toNat] = t at dxv ft2
      obtain ⟨q, rfl, hq⟩ := tie_at dxv
      simp only [gName, tNext, List.set_cons_succ, List.set_cons_zero]
      refine ⟨_, rfl, _, rfl, tq, uxs, pl, _, rfl, rfl, SqL.of (eE _ _ huD), atI_of p0 hxv, q, _, rfl, SqT.of (eE _ _ hq), rfl, _, _, rfl, _, _, rfl, _, _, rfl, rfl, ?_⟩
      simp only [gName, tNext, List.set_cons_succ, List.set_cons_zero]
      refine ⟨_, rfl, _, rfl, _, rfl, ?_⟩
      refine cut_to eTie (dtD.mono eE) p0 fun s1 HF eF _ d1 => ?_
      refine ⟨_, rfl, Nat.zero_le _, fun l0 nl0 => ⟨_, rfl, _, rfl, _, rfl, _, _, rfl, rfl, sz3, fun t1 n1 => ⟨sz1, fun l1 nl1 => ⟨sz2, fun lp nlp => ?_⟩⟩⟩⟩
      have k0 := Ex.new (o := .lst []) nl0
      have k1 := Ex.new (o := .tup [.int t.1, .int t.2.1, .int (5 - t.2.2)]) n1
      have k2 := Ex.new (o := .lst [.ref t1]) nl1
      have k3 := Ex.new (o := .lst [.ref l0, .ref l1]) nlp
      have kk := k0.trans (k1.trans (k2.trans k3))
      refine ⟨p, lp, _, rfl, kk _ _ (eF _ _ (eE _ _ (eD _ _ (g1 _ _ hpC)))), upd_same, by simp, by simp, fun ix x hx HG eG => ?_⟩
      have hb : ∃ ws b, x = .ref b ∧ Dt HG (eTies ws) (.ref b) ∧ (∀ t ∈ ws, TF n t) ∧ ws.length ≤ 1 := by
        have mem := List.mem_of_getElem? hx
        simp only [List.mem_cons, List.not_mem_nil, or_false] at mem
        rcases mem with rfl | rfl
        · exact ⟨[], l0, rfl, dt_nil (eG _ _ ((k1.trans (k2.trans k3)) _ _ upd_same)), fun t ht => (by cases ht), Nat.zero_le _⟩
        · refine ⟨[(t.1, t.2.1, 5 - t.2.2)], l1, rfl, dt_list (eG _ _ (k3 _ _ upd_same)) (Dts.mk1 (tie_mk (eG _ _ ((k2.trans k3) _ _ upd_same)))), fun u hu => ?_, by simp⟩
          rw [List.mem_singleton.mp hu]
          obtain ⟨a, b, c, d⟩ := ft2
          exact ⟨a, b, c, by dsimp only; omega, by dsimp only; omega⟩
      obtain ⟨ws, wb', rfl, dws, fws, lws⟩ := hb
      refine cat_ties (d1.mono (kk.trans eG)) dws (by rw [List.length_take]; omega) fun c1 HI eI _ d2 => ?_
      refine ⟨_, rfl, _, rfl, _, _, rfl, rfl, _, rfl, ?_⟩
      have eDI := eE.trans (eF.trans (kk.trans (eG.trans eI)))
      dsimp only [tNoPart]
      refine cut_from eTie (dtD.mono eDI) (by omega) fun s2 HJ eJ _ d3 => ?_
      refine cat_ties (d2.mono eJ) d3 (by simp; omega) fun c2 HK eK _ d4 => ?_
      refine ⟨c2, _, _, _, _, _, rfl, g1.trans (eD.trans (eDI.trans (eJ.trans eK))), d4, all_app (all_app (fun u hu => f2 u (List.mem_of_mem_take hu)) fws) fun u hu => f2 u (List.mem_of_mem_drop hu), ?_⟩
      simp; omega
    rintro σ' HD ⟨tq, us, vp, va, vb, vc, rfl, eD, dtq, f2, l2⟩
    have hpD := eD _ _ hpC
    have eAD := eAC.trans eD
    have hoD := eD _ _ hoC
    -- the other web
    dsimp only
    refine go_sets ?_
    refine ⟨_, rfl, _, rfl, _, rfl, _, rfl, p, tq, n, us, .ref tp, odd, rfl, hpD, by omega, dtq, f2, by omega, do9.mono eAD, f1, fun ov vb2 HE eE dv dd => ?_⟩
    have gv := dd.g (by omega) f2 (by omega)
    obtain ⟨vq, pa2, ta2, ha2, sa2, rfl, hvq, dpa2, dta2, dha2, dsa2⟩ := web_at dv
    have eAE := eAD.trans eE
    simp only [gName, tNext, List.set_cons_succ, List.set_cons_zero]
    -- parts
    obtain ⟨pxs, hpa, hpx⟩ := Dt.list_at dpa
    have lpx : pxs.length = n := by rw [hpx.length, List.length_map, epl]
    refine go_sets (lcDR HE (lo := 0) (n := n) ePart PartFine (fun R r => ⟨_, rfl, _, rfl, by omega, by omega, r⟩) (by omega) (fun _ => rfl) (fun i G R hi eG r => ?_) fun pq ps HF eF _ dps fps lps => ?_)
    · obtain ⟨j, lj, hj, no⟩ := first_at ndo (z := (0 : Int) + i) (pm.mem_iff.mpr (mem_rgN.mpr (by omega)))
      have ljp : j < wb.parts.length := by omega
      obtain ⟨v, hv, dv'⟩ := item hpx (List.getElem?_eq_getElem ljp)
      have ho := eG _ _ (eE _ _ hoD)
      exact ⟨_, rfl, wp, _, 0, _, rfl, rfl, SqT.of (eG _ _ (eAE _ _ hwp)), rfl, _, rfl, .inl ⟨rfl, _, SqL.of ho⟩, _, rfl, oa, os.map V.int, .int ((0 : Int) + i), j, .int ((0 : Int) + i), rfl, rfl, SqL.of ho, rfl, flat_ints os, by rw [List.getElem?_map, hj]; rfl, by show (((0 : Int) + i) == ((0 : Int) + i)) = true; exact beq_self_eq_true _, no,
        pa, pxs, j, v, rfl, rfl, SqL.of (eG _ _ (eAE _ _ hpa)), atI_nat hv, r v G wb.parts[j] (Ex.refl _) (dv'.mono (eAE.trans eG)) (gw.w.pf _ (List.getElem_mem ljp))⟩
    have hpF := eF _ _ (eE _ _ hpD)
    have eAF := eAE.trans eF
    simp only [gName, tNext, List.set_cons_succ, List.set_cons_zero]
    refine ⟨_, rfl, fun v H' => (∃ ps, Dt H' (eParts ps) v ∧ (∀ q ∈ ps, PartFine q) ∧ ps.length = n) ∧ Ex HF H', ?_, ?_⟩
    · refine ⟨_, rfl, p, _, rfl, hpF, by omega, by omega, fun y _ _ HG eG => ⟨_, _, rfl, rfl, _, rfl, iteAny (fun _ => ?_) (fun _ => ?_)⟩⟩
      · exact ⟨_, rfl, ⟨ps, dps.mono eG, fps, lps⟩, eG⟩
      · exact ⟨_, rfl, vq, _, 0, _, rfl, rfl, SqT.of (eG _ _ (eF _ _ hvq)), rfl, ⟨vb2.parts, dpa2.mono (eF.trans eG), gv.w.pf, dd.pl⟩, eG⟩
    rintro v HG ⟨⟨ps2, dp2, fp2, lp2⟩, eG⟩
    have hvG := eG _ _ (eF _ _ hvq)
    refine ⟨_, rfl, _, rfl, vq, _, 2, _, rfl, rfl, SqT.of hvG, rfl, _, rfl, vq, _, 3, _, rfl, rfl, SqT.of hvG, rfl, sz4, fun r1 nr1 => ⟨sz2, fun r2 nr2 => ?_⟩⟩
    have j1 := Ex.new (o := .tup [v, .ref tq, .ref ha2, .ref sa2]) nr1
    have eFG := eF.trans eG
    have d7' : D72 n us ⟨ps2, us, vb2.hands, vb2.sides⟩ := ⟨lp2, rfl, fp2, dd.hf, dd.hn, dd.sf, dd.sn⟩
    exact k (.ref r2) _ (e10.trans ((eAF.trans eG).trans (j1.trans (Ex.new nr2)))) (Two.mk (wb := wb) (vb := ⟨ps2, us, vb2.hands, vb2.sides⟩) nr2 (dw9.mono ((eAF.trans eG).trans j1)) (web_mk upd_same (dp2.mono j1) (dtq.mono (eE.trans (eFG.trans j1))) (dha2.mono (eFG.trans j1)) (dsa2.mono (eFG.trans j1))) gw (d7'.g (by omega) f2 l2))
end
end W3

end
section
set_option Elab.async false
set_option linter.all false
set_option maxRecDepth 100000
set_option maxHeartbeats 4000000
namespace W3
open PySem PySem.Spec PyProof.Rows L2 M83 M72
open Evl (Ex)
theorem RG.u65 {k : Nat} {A : Around} (r : RG k A) : A.units + 65 < cLine := by have := r.room.un; omega
/-! ### comprehensions that make just these data -/
section
variable {K : PySem.W.Frag} {σ : L2.St} {H : Hp} {vs : List Nat} {Q : VK} {te : TE} {tt : TT} {wi : TI} {α : Type}
/-- what an element is to show: the datum d -/
abbrev Ed (d : PyData) (G : Hp) (R : VK) : Prop := ∀ y G4, Ex G G4 → Dt G4 d y → R y G4
theorem lcXR (H1 : Hp) {lo : Int} {n j : Nat} (f : Nat → PyData) (hi : ∀ R : It → Hp → Prop, R (Itr lo n) H1 → wi σ H R) (hz : n ≤ 1000) (hw : ∀ x, wipe ((wipe σ vs).set j (some x)) vs = wipe σ vs)
    (step : ∀ i G (R : VK), i < n → Ex H1 G → Ed (f i) G R → te ((wipe σ vs).set j (some (.int (lo + i)))) G R)
    (done : ∀ q H', Ex H1 H' → H1 q = none → Dt H' (.list ((List.range n).map f)) (.ref q) → Q (.ref q) H') : tLc wi (gName j) tYes (tFr te) vs σ H Q := by
  refine lcR (lo := lo) (n := n) H1 (fun i acc G => Ex H1 G ∧ Dts G ((List.range i).map f) acc) hi (by omega) ⟨Ex.refl _, rfl⟩ ?_ hw ?_ ?_
  · rintro i acc G ⟨_, hd⟩
    rw [hd.length]; simp
  · rintro i acc G hi' e ⟨_, hd⟩
    refine step i G _ hi' e fun y G4 e4 dy => ⟨e4, e.trans e4, ?_⟩
    rw [List.range_succ, List.map_append]
    exact Dts.snoc dy (hd.mono e4)
  · rintro acc G p e np ⟨_, hd⟩
    exact done p _ (e.trans (Ex.new np)) (Evl.fresh_back e np) (dt_list upd_same (hd.mono (Ex.new np)))
theorem lcXI (H1 : Hp) {a : Addr} {ns : List Int} {j : Nat} (f : Int → PyData) (hi : ∀ R : It → Hp → Prop, R (Itl K a) H1 → wi σ H R) (hx : H1 a = some (.lst (ns.map V.int))) (hz : ns.length ≤ 1000) (hw : ∀ x, wipe ((wipe σ vs).set j (some x)) vs = wipe σ vs)
    (step : ∀ z ∈ ns, ∀ G (R : VK), Ex H1 G → Ed (f z) G R → te ((wipe σ vs).set j (some (.int z))) G R)
    (done : ∀ q H', Ex H1 H' → H1 q = none → Dt H' (.list (ns.map f)) (.ref q) → Q (.ref q) H') : tLc wi (gName j) tYes (tFr te) vs σ H Q := by
  refine lcN H1 (fun i acc G => Ex H1 G ∧ Dts G ((ns.take i).map f) acc) hi hx (by rw [List.length_map]; omega) ⟨Ex.refl _, rfl⟩ ?_ hw ?_ ?_
  · rintro i acc G ⟨_, hd⟩
    rw [hd.length, List.length_map, List.length_take]; omega
  · rintro i x acc G hi' e ⟨_, hd⟩
    rw [List.getElem?_map] at hi'
    obtain ⟨z, hz, rfl⟩ := Option.map_eq_some_iff.mp hi'
    refine step z (List.mem_of_getElem? hz) G _ e fun y G4 e4 dy => ⟨e4, e.trans e4, ?_⟩
    rw [List.take_add_one, hz, List.map_append]
    exact Dts.snoc dy (hd.mono e4)
  · rintro acc G p e np ⟨_, hd⟩
    rw [List.length_map, List.take_length] at hd
    exact done p _ (e.trans (Ex.new np)) (Evl.fresh_back e np) (dt_list upd_same (hd.mono (Ex.new np)))
end
/-- for i, x in enumerate(xs) -/
theorem for_enum {K : PySem.W.Frag} {a : Addr} {xs : List V} {g : TG} {tb : TS} {D : Ends} {σ : L2.St} {H : Hp} (Pv : Nat → L2.St → Hp → Prop) (h0 : Pv 0 σ H) (hl : ∀ i σ H, Pv i σ H → SqL K H a xs)
    (hs : ∀ (i : Nat) (x : V) (T : Addr) (σ : L2.St) (H : Hp), xs[i]? = some x → Pv i σ H → H T = none → g (.ref T) σ (upd H T (.tup [.int i, x])) fun σ2 H2 => tb { D with nx := Pv (i + 1), ct := Pv (i + 1), bk := D.nx } σ2 H2) (hd : ∀ σ H, Pv xs.length σ H → D.nx σ H) :
    ∃ W : Nat → Nat → L2.St → Hp → Prop, (∃ m, W 0 m σ H) ∧ ∀ i m σ H, W i m σ H →
      ((Ite K a).stop i H ∧ D.nx σ H) ∨ ((Ite K a).go i H ∧ ∃ N : L2.St → Hp → Prop, (∀ σ' H', N σ' H' → ∃ m', m' < m ∧ W (i + 1) m' σ' H') ∧ ∀ v H', (Ite K a).yld i H v H' → g v σ H' fun σ2 H2 => tb { D with nx := N, ct := N, bk := D.nx } σ2 H2) := by
  refine ⟨fun i m σ H => m = xs.length - i ∧ i ≤ xs.length ∧ Pv i σ H, ⟨xs.length, by simp, Nat.zero_le _, h0⟩, ?_⟩
  rintro i m σ H ⟨rfl, hi, p⟩
  have q := hl i σ H p
  by_cases lt : i < xs.length
  · refine .inr ⟨⟨xs, xs[i], q, by simp [lt]⟩, Pv (i + 1), fun σ' H' p' => ⟨xs.length - (i + 1), by omega, rfl, lt, p'⟩, fun v H' y => ?_⟩
    obtain ⟨T, x, rfl, hT, rfl, hx⟩ := y
    exact hs i x T σ H (hx xs q) p hT
  · have e : i = xs.length := by omega
    subst e
    exact .inl ⟨⟨xs, q, Nat.le_refl _⟩, hd σ H p⟩
theorem any_cls {cs : List (Part × List Int)} {c : Part × List Int} (hl : ∀ d ∈ cs, Lf (eCls d)) (hc : Lf (eCls c)) : (cs.map eCls).any (fun z => PyData.eqv z (eCls c)) = decide (c ∈ cs) := by
  rw [Bool.eq_iff_iff, decide_eq_true_iff, List.any_map, List.any_eq_true]
  constructor
  · rintro ⟨d, hd, e⟩
    simp only [Function.comp] at e
    rw [eqv_cls (hl d hd) hc, decide_eq_true_iff] at e
    exact e ▸ hd
  · exact fun h => ⟨c, h, by simp only [Function.comp]; rw [eqv_cls hc hc, decide_eq_true rfl]⟩
def cntD {α : Type} [DecidableEq α] (c : α) (xs : List α) : Nat := xs.count c
theorem sumF_in {α : Type} [DecidableEq α] {hs ts : List α} {i : Nat} {c : α} (h : hs[i]? = some c) (e : c ∈ hs.take i) : sumF hs ts (i + 1) = sumF hs ts i := by
  simp only [sumF, h]
  rw [if_pos e]
theorem sumF_out {α : Type} [DecidableEq α] {hs ts : List α} {i : Nat} {c : α} (h : hs[i]? = some c) (e : c ∉ hs.take i) : sumF hs ts (i + 1) = sumF hs ts i + min (cntD c hs) (cntD c ts) := by
  simp only [sumF, h, cntD]
  rw [if_neg e]
theorem cntD_eq {α : Type} [DecidableEq α] (c : α) (xs : List α) : cntD c xs = xs.countP fun d => decide (d = c) := by
  unfold cntD List.count
  refine List.countP_congr fun d _ => ?_
  rw [beq_iff_eq, decide_eq_true_iff]
theorem cnt_cls {cs : List (Part × List Int)} {c : Part × List Int} (hl : ∀ d ∈ cs, Lf (eCls d)) (hc : Lf (eCls c)) : (cs.map eCls).countP (fun z => PyData.eqv z (eCls c)) = cntD c cs := by
  rw [List.countP_map, cntD_eq]
  refine List.countP_congr fun d hd => ?_
  simp only [Function.comp]
  rw [eqv_cls (hl d hd) hc]
theorem freeM_succ (i : Nat) (us : List Int) : freeM (i + 1) us = freeM i us ++ if decide ((i : Int) ∈ us) = true then [] else [(i : Int)] := by
  rw [freeM, freeM, List.range_succ, List.map_append, List.filter_append]
  congr 1
  simp only [List.map_cons, List.map_nil, List.filter_cons, List.filter_nil]
  cases decide ((i : Int) ∈ us) <;> rfl
theorem freeM_len (n : Nat) (us : List Int) : (freeM n us).length ≤ n := by rw [freeM]; exact Nat.le_trans (List.length_filter_le _ _) (by simp)
theorem freeM_below {n : Nat} {us : List Int} {z : Int} (h : z ∈ freeM n us) : 0 ≤ z ∧ z < n := by
  obtain ⟨i, hi, rfl⟩ := List.mem_map.mp (List.mem_filter.mp h).1
  have := List.mem_range.mp hi
  omega
theorem clsL_lf {wb : Web} (h : W72 wb) (ps ls : List Int) : ∀ d ∈ clsL wb ps ls, Lf (eCls d) := fun d hd => by
  obtain ⟨x, _, rfl⟩ := List.mem_map.mp hd
  exact lf_cls (partM_fine h.pf x) (cls_small h ps x)
section
variable {P : Program} {w : World} {K : PySem.W.Frag} {mg : Str → Option Value} {base : Heap}
/-! ### _law_bound -/
theorem d_l_bound {f : Addr} {fd : FuncData} (F : Fun K "_law_bound" "_law_bound" sl_bound f fd) (hm : mg "_law_bound" = some (.ref f)) (T : Txt mg) (d_l_orders : Df P w K mg base 1 "_law_orders" ["_law_web"] p_tab)
    (d_l_class : Df P w K mg base 1 "_law_class" ["_law_web", "_law_rows", "_law_some", "_law_x"] p_lcls) : Df P w K mg base 2 "_law_bound" ["_law_web", "_law_other", "_law_pairs", "_law_many"] p_cb := by
  refine Df.body F hm bil_bound scl_bound (fun vs H Q h => ?_) (fun cdv A outer s H vs Q hr h => ?_)
  · obtain ⟨wv, ov, pw, m, wb, vb, prs, rfl, _⟩ := h; rfl
  · obtain ⟨wv, ov, pw, m, wb, vb, prs, rfl, dw, dv, dp, w7, v7, pk, m0, m1, k⟩ := h
    refine ⟨_, (pss_cons (ps_asg (pe_tup (pa_cons (pe_c3 d_l_orders (hr.less (by decide)) rfl (pa_cons (pv 0) pa_nil)) (pa_cons (pe_c3 d_l_orders (hr.less (by decide)) rfl (pa_cons (pv 1) pa_nil)) pa_nil))) (pgT K 2 (pgs_cons (pg_name (i := 8) scl_bound.nd rfl (Or.inr rfl)) (pgs_cons (pg_name (i := 9) scl_bound.nd rfl (Or.inr rfl)) pgs_nil))))
 (pss_cons (ps_asg (pe_tup (pa_cons (pe_lc (own := [("_law_a", 15), ("_law_b", 16)]) rfl scl_bound.nd (piL K (pv 2)) (blkOk_by (N := Nl_bound) (sc := defScope sl_bound) (by decide +kernel)) (fun _ _ _ _ _ => (pgT K 2 (pgs_cons (pg_name (i := 15) scl_bound.nd rfl (Or.inl rfl)) (pgs_cons (pg_name (i := 16) scl_bound.nd rfl (Or.inl rfl)) pgs_nil)))) (fun _ _ _ _ _ => pts_nil) (fun _ _ _ _ _ => (pe_fr (pv 15)))) (pa_cons (pe_lc (own := [("_law_a", 15), ("_law_b", 16)]) rfl scl_bound.nd (piL K (pv 2)) (blkOk_by (N := Nl_bound) (sc := defScope sl_bound) (by decide +kernel)) (fun _ _ _ _ _ => (pgT K 2 (pgs_cons (pg_name (i := 15) scl_bound.nd rfl (Or.inl rfl)) (pgs_cons (pg_name (i := 16) scl_bound.nd rfl (Or.inl rfl)) pgs_nil)))) (fun _ _ _ _ _ => pts_nil) (fun _ _ _ _ _ => (pe_fr (pv 16)))) pa_nil))) (pgT K 2 (pgs_cons (pg_name (i := 10) scl_bound.nd rfl (Or.inr rfl)) (pgs_cons (pg_name (i := 11) scl_bound.nd rfl (Or.inr rfl)) pgs_nil))))
 (pss_cons (ps_setLc (own := [("_law_x", 14)]) (i := 4) rfl scl_bound.nd rfl rfl (sw_true rfl rfl rfl (by decide +kernel)) (pi_range2 rfl T.range (pa_cons (pv 3) (pa_cons (pe_callB (lenS K) (by rfl) T.n_len bt_len (pa_cons (pe_ix (ixT K) (pv 0) pe_int (fun _ _ => rfl)) pa_nil)) pa_nil))) (blkOk_by (N := Nl_bound) (sc := defScope sl_bound) (by decide +kernel)) (fun _ _ _ _ _ => (pg_name (i := 14) scl_bound.nd rfl (Or.inl rfl))) (fun _ _ _ _ _ => pts_nil) (fun _ _ _ _ _ => (pe_fr (pe_c3 d_l_class (hr.less (by decide)) rfl (pa_cons (pv 0) (pa_cons (pv 8) (pa_cons (pv 10) (pa_cons (pv 14) pa_nil))))))))
 (pss_cons (ps_setLc (own := [("_law_x", 14)]) (i := 5) rfl scl_bound.nd rfl rfl (sw_true rfl rfl rfl (by decide +kernel)) (pi_range1 rfl T.range (pa_cons (pe_callB (lenS K) (by rfl) T.n_len bt_len (pa_cons (pe_ix (ixT K) (pv 1) pe_int (fun _ _ => rfl)) pa_nil)) pa_nil)) (blkOk_by (N := Nl_bound) (sc := defScope sl_bound) (by decide +kernel)) (fun _ _ _ _ _ => (pg_name (i := 14) scl_bound.nd rfl (Or.inl rfl))) (fun _ _ _ _ _ => (pts_fr (pts_one (pt_cmpR (opNotIn K) (pv 14) (pv 11) (by with_unfolding_all rfl))))) (fun _ _ _ _ _ => (pe_fr (pv 14))))
 (pss_cons (ps_setLc (own := [("_law_x", 14)]) (i := 6) rfl scl_bound.nd rfl rfl (sw_true rfl rfl rfl (by decide +kernel)) (piL K (pv 5)) (blkOk_by (N := Nl_bound) (sc := defScope sl_bound) (by decide +kernel)) (fun _ _ _ _ _ => (pg_name (i := 14) scl_bound.nd rfl (Or.inl rfl))) (fun _ _ _ _ _ => pts_nil) (fun _ _ _ _ _ => (pe_fr (pe_c3 d_l_class (hr.less (by decide)) rfl (pa_cons (pv 1) (pa_cons (pv 9) (pa_cons (pv 11) (pa_cons (pv 14) pa_nil))))))))
 (pss_cons (ps_set (i := 7) scl_bound.nd rfl (Or.inl rfl) (pe_callB (lenS K) (by rfl) T.n_len bt_len (pa_cons (pv 2) pa_nil)))
 (pss_cons (ps_for PassesOwn.never rfl (pi_enum rfl T.n_enumerate (pa_cons (pv 4) pa_nil)) (pgT K 2 (pgs_cons (pg_name (i := 12) scl_bound.nd rfl (Or.inl rfl)) (pgs_cons (pg_name (i := 13) scl_bound.nd rfl (Or.inl rfl)) pgs_nil))) (pss_one (ps_if (pt_cmpR (opNotInD K hr.u65) (pv 13) (pe_slice (slL K) (pv 4) po_none (po_some (pv 12))) (by with_unfolding_all rfl)) (pss_one (ps_set (i := 7) scl_bound.nd rfl (Or.inl rfl) (pe_op op_add (pv 7) (pe_callB (call_min2 rfl) (by rfl) T.n_min bt_min (pa_cons (pe_bm PySem.F.plainAttrs_list PySem.F.slot_list_count PySem.F.type_list_count (mt_countD hr.u64) (pv 4) (pa_cons (pv 13) pa_nil)) (pa_cons (pe_bm PySem.F.plainAttrs_list PySem.F.slot_list_count PySem.F.type_list_count (mt_countD hr.u64) (pv 6) (pa_cons (pv 13) pa_nil)) pa_nil)))))) pss_nil)))
 (pss_one (ps_ret (pv 7)))))))))), ?_⟩
    rw [show start Nl_bound [wv, ov, pw, .int m] = [some (wv), some (ov), some (pw), some (.int m), none, none, none, none, none, none, none, none, none, none, none, none, none] from rfl]
    have pn := w7.pn
    have tn := w7.tn
    have vn := v7.pn
    have vtn := v7.tn
    have lk := pk.len
    -- tables
    refine ⟨_, rfl, wv, wb, rfl, dw, by omega, by omega, w7.tok, fun rv H1 e1 dr => ⟨_, rfl, ov, vb, rfl, dv.mono e1, by omega, by omega, v7.tok, fun lv H2 e2 dl => ⟨sz2, fun tp ntp => ⟨tp, _, rfl, SqT.of upd_same, rfl, _, _, rfl, _, _, rfl, rfl, ?_⟩⟩⟩⟩
    have g := Ex.new (o := .tup [rv, lv]) ntp
    have x2 := e1.trans (e2.trans g)
    replace dr := dr.mono (e2.trans g)
    replace dl := dl.mono g
    replace dw := dw.mono x2
    replace dv := dv.mono x2
    replace dp := dp.mono x2
    generalize upd H2 tp (.tup [rv, lv]) = H3 at x2 dr dl dw dv dp ⊢
    clear g e1 e2 ntp
    simp only [gName, tNext, List.set_cons_succ, List.set_cons_zero]
    obtain ⟨pp, qxs, rfl, hpp, hqx⟩ := id dp
    -- ours, theirs
    refine go_asgs ?_
    dsimp only [tTup, tCons, tNil]
    refine lcPr H3 (fun p => .int p.1) hpp hqx (by omega) (fun R r => ⟨_, rfl, pp, rfl, ⟨_, SqL.of hpp⟩, r⟩) (fun _ _ => rfl) (fun p hp G R eG kk => ⟨_, rfl, kk G (Ex.refl _)⟩) fun oa H4 e4 _ hoa => ?_
    refine lcPr H4 (fun p => .int p.2) (e4 _ _ hpp) (hqx.mono e4) (by omega) (fun R r => ⟨_, rfl, pp, rfl, ⟨_, SqL.of (e4 _ _ hpp)⟩, r⟩) (fun _ _ => rfl) (fun p hp G R eG kk => ⟨_, rfl, kk G (Ex.refl _)⟩) fun ta H5 e5 _ hta => ?_
    refine ⟨sz2, fun tp ntp => ⟨tp, _, rfl, SqT.of upd_same, rfl, _, _, rfl, _, _, rfl, rfl, ?_⟩⟩
    have g := Ex.new (o := .tup [.ref oa, .ref ta]) ntp
    have x45 := e4.trans (e5.trans g)
    have ho : upd H5 tp (.tup [.ref oa, .ref ta]) oa = some (.lst ((prs.map (·.1)).map V.int)) := by
      have := g _ _ (e5 _ _ hoa)
      rw [List.map_map]; exact this
    have ht : upd H5 tp (.tup [.ref oa, .ref ta]) ta = some (.lst ((prs.map (·.2)).map V.int)) := by
      have := g _ _ hta
      rw [List.map_map]; exact this
    replace dr := dr.mono x45
    replace dl := dl.mono x45
    replace dw := dw.mono x45
    replace dv := dv.mono x45
    replace hpp := x45 _ _ hpp
    have x5 := x2.trans x45
    generalize upd H5 tp (.tup [.ref oa, .ref ta]) = H6 at x5 dr dl dw dv hpp ho ht ⊢
    clear x2 x45 g e4 e5 ntp hoa hta dp
    simp only [gName, tNext, List.set_cons_succ, List.set_cons_zero]
    obtain ⟨wp, pa, tia, ha, sa, rfl, hwp, d1, _, _, _⟩ := web_at dw
    obtain ⟨vp, qa, tib, hb, sb, rfl, hvp, d1', _, _, _⟩ := web_at dv
    obtain ⟨pxs, hpa, hpx⟩ := Dt.list_at d1
    obtain ⟨qxs', hqa, hqx'⟩ := Dt.list_at d1'
    have lp : pxs.length = wb.parts.length := by rw [hpx.length, List.length_map]
    have lq : qxs'.length = vb.parts.length := by rw [hqx'.length, List.length_map]
    -- here
    refine go_sets (lcXR H6 (lo := m) (n := ((wb.parts.length : Int) - m).toNat) (fun i => eCls (clsM wb (prs.map (·.1)) (m + i))) (fun R r => ⟨_, rfl, _, rfl, wp, _, 0, _, rfl, rfl, SqT.of hwp, rfl, pa, pxs, rfl, .inl (SqL.of hpa), _, _, rfl, ⟨by omega, by omega, by omega, by omega⟩, by rw [lp]; exact r⟩) (by omega) (fun _ => rfl) (fun i G R hi eG r => ?_) fun hq H7 e7 _ dh => ?_)
    · exact ⟨_, rfl, _, rfl, _, rfl, _, rfl, .ref wp, rv, .ref oa, m + i, wb, prs.map (·.1), rfl, dw.mono eG, dr.mono eG, (ints_mk ho).mono eG, by omega, by omega, pk.b1, by rw [List.length_map]; omega, fun v' H' e d => r v' H' e d⟩
    have eh : (List.range ((wb.parts.length : Int) - m).toNat).map (fun i : Nat => eCls (clsM wb (prs.map (·.1)) (m + i))) = (clsL wb (prs.map (·.1)) (rgI m wb.parts.length)).map eCls := by
      rw [clsL, rgI, List.map_map, List.map_map]; rfl
    rw [eh] at dh
    replace dl := dl.mono e7
    replace dv := dv.mono e7
    replace hpp := e7 _ _ hpp
    replace hvp := e7 _ _ hvp
    replace hqa := e7 _ _ hqa
    replace ht := e7 _ _ ht
    have x7 := x5.trans e7
    clear dr dw hwp hpa hpx d1 ho eh e7 x5 d1'
    simp only [gName, tNext, List.set_cons_succ, List.set_cons_zero]
    -- free
    refine go_sets (lcRt H7 (lo := 0) (n := qxs'.length) (fun i acc G => Ex H7 G ∧ acc = (freeM i (prs.map (·.2))).map V.int) (fun R r => ⟨_, rfl, vp, _, 0, _, rfl, rfl, SqT.of hvp, rfl, qa, qxs', rfl, .inl (SqL.of hqa), _, rfl, by omega, by omega, r⟩) (by omega) ⟨Ex.refl _, rfl⟩ ?_ (fun _ => rfl) ?_ ?_)
    · rintro i acc G ⟨_, rfl⟩
      rw [List.length_map]; exact freeM_len _ _
    · rintro i acc G hi eG2 ⟨_, rfl⟩
      have z : (0 : Int) + (i : Int) = i := by omega
      refine ⟨_, rfl, _, rfl, ta, _, rfl, .inl (SqL.of (eG2 _ _ ht)), rfl, flat_ints _, _, rfl, Ex.refl _, fun h => ⟨_, rfl, Ex.refl _, eG2, ?_⟩, fun h => ⟨eG2, ?_⟩⟩
      · have h' : (!decide (((0 : Int) + (i : Int)) ∈ prs.map (·.2))) = true := by rw [← in_ints]; exact h
        rw [z] at h' ⊢
        have h2' : decide ((i : Int) ∈ prs.map (·.2)) = false := by cases q : decide ((i : Int) ∈ prs.map (·.2)) <;> simp_all
        rw [freeM_succ, h2', List.map_append]; rfl
      · have h' : (!decide (((0 : Int) + (i : Int)) ∈ prs.map (·.2))) = false := by rw [← in_ints]; exact h
        rw [z] at h'
        have h2' : decide ((i : Int) ∈ prs.map (·.2)) = true := by cases q : decide ((i : Int) ∈ prs.map (·.2)) <;> simp_all
        rw [freeM_succ, h2']; simp
    rintro acc G fq eG2 nfq ⟨_, rfl⟩
    rw [lq]
    have e8 := eG2.trans (Ex.new (o := .lst ((freeM vb.parts.length (prs.map (·.2))).map V.int)) nfq)
    have hfq : upd G fq (.lst ((freeM vb.parts.length (prs.map (·.2))).map V.int)) fq = some (.lst ((freeM vb.parts.length (prs.map (·.2))).map V.int)) := upd_same
    generalize upd G fq (.lst ((freeM vb.parts.length (prs.map (·.2))).map V.int)) = H8 at e8 hfq ⊢
    clear eG2 nfq
    replace dl := dl.mono e8
    replace dv := dv.mono e8
    replace dh := dh.mono e8
    replace hpp := e8 _ _ hpp
    replace ht := e8 _ _ ht
    have x8 := x7.trans e8
    clear e8 x7 hvp hqa hqx'
    simp only [gName, tNext, List.set_cons_succ, List.set_cons_zero]
    have lf := freeM_len vb.parts.length (prs.map (·.2))
    -- there
    refine go_sets (lcXI H8 (a := fq) (ns := freeM vb.parts.length (prs.map (·.2))) (fun z => eCls (clsM vb (prs.map (·.2)) z)) (fun R r => ⟨_, rfl, fq, rfl, ⟨_, SqL.of hfq⟩, r⟩) hfq (by omega) (fun _ => rfl) (fun z hz G R eG r => ?_) fun tq H9 e9 _ dt => ?_)
    · have bz := freeM_below hz
      exact ⟨_, rfl, _, rfl, _, rfl, _, rfl, .ref vp, lv, .ref ta, z, vb, prs.map (·.2), rfl, dv.mono eG, dl.mono eG, (ints_mk ht).mono eG, bz.1, bz.2, pk.b2, by rw [List.length_map]; omega, fun v' H' e d => r v' H' e d⟩
    have et : (freeM vb.parts.length (prs.map (·.2))).map (fun z => eCls (clsM vb (prs.map (·.2)) z)) = (clsL vb (prs.map (·.2)) (freeM vb.parts.length (prs.map (·.2)))).map eCls := by
      rw [clsL, List.map_map]; rfl
    rw [et] at dt
    replace dh := dh.mono e9
    replace hpp := e9 _ _ hpp
    have x9 := x8.trans e9
    clear e9 x8 dl dv ht hfq et
    have lqx : qxs.length = prs.length := by rw [hqx.length, List.length_map]
    have lf1 := clsL_lf w7 (prs.map (·.1)) (rgI m wb.parts.length)
    have lf2 := clsL_lf v7 (prs.map (·.2)) (freeM vb.parts.length (prs.map (·.2)))
    have lh : (clsL wb (prs.map (·.1)) (rgI m wb.parts.length)).length ≤ 30 := by simp [clsL, rgI]; omega
    have lt : (clsL vb (prs.map (·.2)) (freeM vb.parts.length (prs.map (·.2)))).length ≤ 30 := by rw [clsL, List.length_map]; omega
    have fin := bound_law (wb := wb) (vb := vb) (prs := prs) (m := m)
    have kx : ∀ H', Ex H9 H' → Q (.int (boundM wb vb prs m)) H' := fun H' e => k H' (x9.trans e)
    clear k x9
    rw [← fin] at kx
    generalize clsL wb (prs.map (·.1)) (rgI m wb.parts.length) = hs at dh lf1 lh kx
    generalize clsL vb (prs.map (·.2)) (freeM vb.parts.length (prs.map (·.2))) = ts at dt lf2 lt kx
    simp only [gName, tNext, List.set_cons_succ, List.set_cons_zero]
    obtain ⟨hxs, hhq, hhx⟩ := Dt.list_at dh
    obtain ⟨txs, htq, htx⟩ := Dt.list_at dt
    have lhx : hxs.length = hs.length := by rw [hhx.length, List.length_map]
    -- the sum
    refine ⟨_, rfl, pp, _, rfl, .inl (SqL.of hpp), ?_⟩
    simp only [gName, tNext, List.set_cons_succ, List.set_cons_zero]
    refine ⟨_, rfl, hq, hxs, rfl, SqL.of hhq, ?_⟩
    refine for_enum (K := K) (a := hq) (xs := hxs) (fun i σ H' => ∃ va vo, σ = [some (.ref wp), some (.ref vp), some (.ref pp), some (.int m), some (.ref hq), some (.ref fq), some (.ref tq), some (.int ((prs.length + sumF hs ts i : Nat) : Int)), some rv, some lv, some (.ref oa), some (.ref ta), va, vo, none, none, none] ∧ Ex H9 H')
      ⟨none, none, by rw [lqx]; rfl, Ex.refl _⟩ (fun i σ H' ⟨_, _, _, e⟩ => SqL.of (e _ _ hhq)) ?_ ?_
    · rintro i x Tq σ HA hi ⟨va, vo, rfl, eA⟩ nT
      obtain ⟨c, hc, dc⟩ := item' hhx hi
      have gT := Ex.new (o := .tup [.int i, x]) nT
      have mc := List.mem_of_getElem? hc
      refine ⟨Tq, _, rfl, SqT.of upd_same, rfl, _, _, rfl, _, _, rfl, rfl, ?_⟩
      have eB := eA.trans gT
      generalize upd HA Tq (.tup [.int i, x]) = HB at eB
      refine ⟨_, rfl, _, rfl, _, rfl, _, rfl, ?_⟩
      refine cut_to eCls (dh.mono eB) (by omega) fun cq HC eC _ dcq => ?_
      have lfc := lf1 c mc
      have lft : ∀ d ∈ hs.take ((i : Int)).toNat, Lf (eCls d) := fun d hd => lf1 d (List.mem_of_mem_take hd)
      refine ⟨eCls c, (hs.take ((i : Int)).toNat).map eCls, Dt.dp ((dc.mono eB).mono eC), Dt.dp dcq, shaped_of lfc (Nat.le_trans (dep_cls c) (by decide)), shaped_of (Lfs.map lft) (Nat.le_trans (dep_list dep_cls _) (by decide)), _, rfl, ?_⟩
      rw [any_cls lft lfc, Int.toNat_natCast]
      by_cases hin : c ∈ hs.take i
      · rw [decide_eq_true hin]
        have es := sumF_in (ts := ts) hc hin
        exact iteF ⟨_, _, by rw [es]; rfl, eB.trans eC⟩
      · rw [decide_eq_false hin]
        have es := sumF_out (ts := ts) hc hin
        refine iteT ?_
        have eD := eB.trans eC
        refine ⟨_, rfl, _, rfl, .inl ⟨rfl, _, SqL.of (eD _ _ hhq)⟩, _, rfl, hq, hxs, _, x, eCls c, rfl, rfl, eD _ _ hhq, hhx.mono eD, dc.mono eD, Lfs.map lf1, lfc, Nat.le_trans (dep_cls c) (by decide), _, rfl, .inl ⟨rfl, _, SqL.of (eD _ _ htq)⟩, _, rfl, tq, txs, _, x, eCls c, rfl, rfl, eD _ _ htq, htx.mono eD, dc.mono eD, Lfs.map lf2, lfc, Nat.le_trans (dep_cls c) (by decide), _, _, rfl, _, _, rfl, rfl, ?_⟩
        rw [cnt_cls lf1 lfc, cnt_cls lf2 lfc]
        refine ⟨some (.int i), some x, ?_, eD⟩
        rw [es]
        have ez : ((prs.length + sumF hs ts i : Nat) : Int) + (if ((cntD c ts : Nat) : Int) < ((cntD c hs : Nat) : Int) then ((cntD c ts : Nat) : Int) else ((cntD c hs : Nat) : Int)) = ((prs.length + (sumF hs ts i + min (cntD c hs) (cntD c ts)) : Nat) : Int) := by
          split <;> omega
        rw [← ez]; rfl
    · rintro σ HA ⟨va, vo, rfl, eA⟩
      rw [lhx]
      exact ⟨_, rfl, kx HA eA⟩
end
end W3

end
section
set_option Elab.async false
set_option linter.all false
set_option maxRecDepth 100000
set_option maxHeartbeats 4000000
namespace W3
open PySem PySem.Spec PyProof.Rows L2 M83 M72
open Evl (Ex)
/-- rows made so far: i parts of the first web are decided -/
structure RowI (wb vb : Web) (prs : List Hand) (m : Int) (i : Nat) (row : List Hand) : Prop where
  ext : Ext wb vb prs m (m + i) row
  len : row.length ≤ prs.length + i
theorem RowI.up {wb vb : Web} {prs row : List Hand} {m : Int} {i : Nat} (h : RowI wb vb prs m i row) : RowI wb vb prs m (i + 1) row := ⟨h.ext.up (by omega), by have := h.len; omega⟩
theorem RowI.ok {wb vb : Web} {prs row : List Hand} {m : Int} {i : Nat} (h : RowI wb vb prs m i row) (pk : PrsOk wb vb prs) (lp : prs.length ≤ 24) (m0 : 0 ≤ m) (hi : m + i ≤ wb.parts.length) (h6 : i ≤ 6) : PrsOk wb vb row := by
  have hl := h.len
  obtain ⟨ex, e, _, _, q⟩ := h.ext.tail
  refine ⟨by omega, fun z hz => ?_, fun z hz => ?_⟩
  · rw [e, List.map_append] at hz
    rcases List.mem_append.mp hz with hz | hz
    · exact pk.b1 z hz
    · obtain ⟨x, hx, rfl⟩ := List.mem_map.mp hz
      have := q x hx
      omega
  · rw [e, List.map_append] at hz
    rcases List.mem_append.mp hz with hz | hz
    · exact pk.b2 z hz
    · obtain ⟨x, hx, rfl⟩ := List.mem_map.mp hz
      have := q x hx
      omega
theorem six_pow {i : Nat} (h : i ≤ 5) : 6 ^ i ≤ 7776 := Nat.le_trans (Nat.pow_le_pow_right (by decide) h) (by decide)
section
variable {P : Program} {w : World} {K : PySem.W.Frag} {mg : Str → Option Value} {base : Heap}
/-! ### _law_made -/
def p_made : Sp3 := fun vs H Q => ∃ (wv ov pw : V) (m : Int) (wb vb : Web) (prs : List Hand), vs = [wv, ov, pw, .int m] ∧ Dt H (eWeb wb) wv ∧ Dt H (eWeb vb) ov ∧ Dt H (eHands prs) pw ∧ W72 wb ∧ W72 vb ∧ PrsOk wb vb prs ∧ 0 ≤ m ∧ m ≤ wb.parts.length ∧
  wb.parts.length ≤ 5 ∧ vb.parts.length ≤ 5 ∧ prs.length ≤ 24 ∧ ∀ q (rows : List (List Hand)) H', Ex H H' → Dt H' (.list (rows.map eHands)) (.ref q) → (∀ row ∈ rows, Ext wb vb prs m wb.parts.length row) → 0 < rows.length → rows.length ≤ 7776 → Q (.ref q) H'
theorem d_l_made {f : Addr} {fd : FuncData} (F : Fun K "_law_made" "_law_made" sl_made f fd) (hm : mg "_law_made" = some (.ref f)) (T : Txt mg) (d_l_orders : Df P w K mg base 1 "_law_orders" ["_law_web"] p_tab)
    (d_l_fits : Df P w K mg base 1 "_law_fits" ["_law_web", "_law_other", "_law_rows", "_law_lists", "_law_pairs", "_law_a", "_law_b"] p_fits) : Df P w K mg base 2 "_law_made" ["_law_web", "_law_other", "_law_pairs", "_law_many"] p_made := by
  refine Df.body F hm bil_made scl_made (fun vs H Q h => ?_) (fun cdv A outer s H vs Q hr h => ?_)
  · obtain ⟨wv, ov, pw, m, wb, vb, prs, rfl, _⟩ := h; rfl
  · obtain ⟨wv, ov, pw, m, wb, vb, prs, rfl, dw, dv, dp, w7, v7, pk, m0, m1, n5, v5, l24, k⟩ := h
    refine ⟨_, (pss_cons (ps_par3 (i := 5) (j := 6) (l := 7) rfl scl_made.nd rfl rfl rfl (by decide) (by decide) (by decide) rfl rfl rfl (pa_cons (pe_c3 d_l_orders (hr.less (by decide)) rfl (pa_cons (pv 0) pa_nil)) (pa_cons (pe_c3 d_l_orders (hr.less (by decide)) rfl (pa_cons (pv 1) pa_nil)) (pa_cons (pe_lst (pa_cons (pv 2) pa_nil)) pa_nil))) (by rfl))
 (pss_cons (ps_for PassesOwn.never rfl (pi_range2 rfl T.range (pa_cons (pv 3) (pa_cons (pe_callB (lenS K) (by rfl) T.n_len bt_len (pa_cons (pe_ix (ixT K) (pv 0) pe_int (fun _ _ => rfl)) pa_nil)) pa_nil))) (pg_name (i := 4) scl_made.nd rfl (Or.inl rfl)) (pss_cons (ps_set (i := 8) scl_made.nd rfl (Or.inl rfl) (pe_lst pa_nil))
 (pss_cons (ps_for PassesOwn.never rfl (piL K (pv 7)) (pg_name (i := 9) scl_made.nd rfl (Or.inl rfl)) (pss_one (ps_for PassesOwn.never rfl (pi_range1 rfl T.range (pa_cons (pe_callB (lenS K) (by rfl) T.n_len bt_len (pa_cons (pe_ix (ixT K) (pv 1) pe_int (fun _ _ => rfl)) pa_nil)) pa_nil)) (pg_name (i := 10) scl_made.nd rfl (Or.inl rfl)) (pss_one (ps_if (pt_val (pe_c3 d_l_fits (hr.less (by decide)) rfl (pa_cons (pv 0) (pa_cons (pv 1) (pa_cons (pv 5) (pa_cons (pv 6) (pa_cons (pv 9) (pa_cons (pv 4) (pa_cons (pv 10) pa_nil))))))))) (pss_one (ps_expr (pe_bm PySem.F.plainAttrs_list PySem.F.slot_list_append PySem.F.type_list_append mt_append (pv 8) (pa_cons (pe_op op_cat (pv 9) (pe_lst (pa_cons (pe_tup (pa_cons (pv 4) (pa_cons (pv 10) pa_nil))) pa_nil))) pa_nil)))) pss_nil)))))
 (pss_one (ps_set (i := 7) scl_made.nd rfl (Or.inl rfl) (pe_op op_cat (pv 7) (pv 8)))))))
 (pss_one (ps_ret (pv 7))))), ?_⟩
    rw [show start Nl_made [wv, ov, pw, .int m] = [some (wv), some (ov), some (pw), some (.int m), none, none, none, none, none, none, none] from rfl]
    have tn := w7.tn
    have vtn := v7.tn
    have big : (100000 : Nat) < sizeLine := by decide
    refine ⟨_, rfl, wv, wb, rfl, dw, by omega, by omega, w7.tok, fun rv H1 e1 dr => ⟨_, rfl, ov, vb, rfl, dv.mono e1, by omega, by omega, v7.tok, fun lv H2 e2 dl => ⟨_, rfl, sz1, fun fa nfa => ⟨_, _, _, rfl, ?_⟩⟩⟩⟩
    have g := Ex.new (o := .lst [pw]) nfa
    have x2 := e1.trans (e2.trans g)
    replace dr := dr.mono (e2.trans g)
    replace dl := dl.mono g
    replace dw := dw.mono x2
    replace dv := dv.mono x2
    have df : Dt (upd H2 fa (.lst [pw])) (.list ([prs].map eHands)) (.ref fa) := dt_list upd_same (Dts.mk1 (dp.mono x2))
    generalize upd H2 fa (.lst [pw]) = H3 at x2 dr dl dw dv df ⊢
    clear g e1 e2 nfa
    simp only [gName, tNext, List.set_cons_succ, List.set_cons_zero]
    obtain ⟨wp, pa, tia, ha, sa, rfl, hwp, d1, _, _, _⟩ := web_at dw
    obtain ⟨vp, qa, tib, hb, sb, rfl, hvp, d1', _, _, _⟩ := web_at dv
    obtain ⟨pxs, hpa, hpx⟩ := Dt.list_at d1
    obtain ⟨qxs, hqa, hqx⟩ := Dt.list_at d1'
    have lp : pxs.length = wb.parts.length := by rw [hpx.length, List.length_map]
    have lq : qxs.length = vb.parts.length := by rw [hqx.length, List.length_map]
    refine ⟨_, rfl, _, rfl, wp, _, 0, _, rfl, rfl, SqT.of hwp, rfl, pa, pxs, rfl, .inl (SqL.of hpa), _, _, rfl, ⟨by omega, by omega, by omega, by omega⟩, ?_⟩
    rw [lp]
    refine for_range (lo := m) (n := ((wb.parts.length : Int) - m).toNat) (fun i σ H' => ∃ (va vn vo vb' : Option V) (fa : Addr) (rows : List (List Hand)), σ = [some (.ref wp), some (.ref vp), some pw, some (.int m), va, some rv, some lv, some (.ref fa), vn, vo, vb'] ∧ Ex H3 H' ∧ Dt H' (.list (rows.map eHands)) (.ref fa) ∧ (∀ row ∈ rows, RowI wb vb prs m i row) ∧ 0 < rows.length ∧ rows.length ≤ 6 ^ i)
      ⟨none, none, none, none, fa, [prs], rfl, Ex.refl _, df, fun row hr => by rw [List.mem_singleton.mp hr]; exact ⟨Ext.start _ _ _ _ _, by omega⟩, by simp, by simp⟩ ?_ ?_
    · rintro i σ H4 hi ⟨va, vn, vo, vb', fa, rows, rfl, e4, df, fr, r0, r1⟩
      have i5 : i < 5 := by omega
      have p6 := six_pow (i := i) (by omega)
      obtain ⟨fxs, hfa, hfx⟩ := Dt.list_at df
      have lfx : fxs.length = rows.length := by rw [hfx.length, List.length_map]
      refine ⟨Nat.zero_le _, fun np nnp => ?_⟩
      have g0 := Grow.start (Ex.refl H4) nnp
      refine ⟨_, rfl, fa, rfl, ⟨_, SqL.of (g0.ex _ _ hfa)⟩, ?_⟩
      refine for_list (K := K) (a := fa) (xs := fxs) (fun j σ H' => ∃ (vo vb' : Option V) (news : List (List Hand)), σ = [some (.ref wp), some (.ref vp), some pw, some (.int m), some (.int (m + i)), some rv, some lv, some (.ref fa), some (.ref np), vo, vb'] ∧ Grow H4 H' np (news.map eHands) ∧ (∀ row ∈ news, RowI wb vb prs m (i + 1) row) ∧ news.length ≤ j * 5)
        ⟨vo, vb', [], rfl, g0, fun r h => (by cases h), Nat.zero_le _⟩ (fun j σ H' _ ⟨_, _, _, _, g, _⟩ => SqL.of (g.ex _ _ hfa)) ?_ ?_
      · rintro j x σ H5 hj ⟨vo, vb', news, rfl, g, fn, ln⟩
        obtain ⟨row, hrow, dx⟩ := item' hfx hj
        have jl := (List.getElem?_eq_some_iff.mp hj).1
        have fr1 := fr row (List.mem_of_getElem? hrow)
        have okr := fr1.ok pk l24 m0 (by omega) (by omega)
        obtain ⟨oa, oxs, rfl, hoa, hox⟩ := id dx
        have lox : oxs.length = row.length := by rw [hox.length, List.length_map]
        have lrow := okr.len
        refine ⟨_, rfl, vp, _, 0, _, rfl, rfl, SqT.of (g.ex _ _ (e4 _ _ hvp)), rfl, qa, qxs, rfl, .inl (SqL.of (g.ex _ _ (e4 _ _ hqa))), _, rfl, by omega, by omega, ?_⟩
        rw [lq]
        refine for_range (lo := 0) (n := vb.parts.length) (fun l σ H' => ∃ (vb' : Option V) (news : List (List Hand)), σ = [some (.ref wp), some (.ref vp), some pw, some (.int m), some (.int (m + i)), some rv, some lv, some (.ref fa), some (.ref np), some (.ref oa), vb'] ∧ Grow H4 H' np (news.map eHands) ∧ (∀ row ∈ news, RowI wb vb prs m (i + 1) row) ∧ news.length ≤ j * 5 + l)
          ⟨vb', news, rfl, g, fn, by omega⟩ ?_ ?_
        · rintro l σ H6 hl ⟨vb', news, rfl, g, fn, ln⟩
          have e6 := e4.trans g.ex
          refine ⟨_, rfl, _, rfl, _, rfl, _, rfl, _, rfl, _, rfl, _, rfl, .ref wp, .ref vp, rv, lv, .ref oa, m + i, (0 : Int) + l, wb, vb, row, rfl, dw.mono e6, dv.mono e6, dr.mono e6, dl.mono e6, dx.mono g.ex, w7, v7, okr, by omega, by omega, by omega, by omega, fun H7 e7 => ⟨_, rfl, ?_⟩⟩
          have g7 := g.grow e7
          refine iteAny (fun hf => ?_) (fun _ => ⟨_, news, rfl, g7, fn, by omega⟩)
          obtain ⟨Fx, hF, _⟩ := id g7.at_
          refine ⟨_, rfl, .inl ⟨rfl, _, SqL.of hF⟩, _, rfl, _, rfl, _, rfl, sz2, fun tq ntq => ⟨sz1, fun lq2 nlq => ?_⟩⟩
          have k1 := Ex.new (o := .tup [.int (m + i), .int ((0 : Int) + l)]) ntq
          have k2 := Ex.new (o := .lst [.ref tq]) nlq
          have g8 := (g7.grow k1).grow k2
          refine ⟨oa, lq2, oxs, [.ref tq], rfl, rfl, g8.ex _ _ hoa, upd_same, by simp; omega, fun cq ncq => ?_⟩
          have k3 := Ex.new (o := .lst (oxs ++ [.ref tq])) ncq
          have g9 := g8.grow k3
          have hF9 := (k1.trans (k2.trans k3)) _ _ hF
          have lF := g7.len hF
          rw [List.length_map] at lF
          have ln' : news.length ≤ 100000 := by omega
          refine ⟨np, Fx, _, rfl, rfl, hF9, by omega, ?_⟩
          have ntn : tq ≠ np := (new_ne hF ntq).symm
          have ncn : cq ≠ np := (new_ne ((k1.trans k2) _ _ hF) ncq).symm
          refine ⟨_, news ++ [row ++ [(m + i, (0 : Int) + l)]], rfl, ?_, all_snoc fn ⟨?_, ?_⟩, by simp; omega⟩
          · rw [List.map_append]
            refine g9.snoc hF9 ⟨cq, oxs ++ [.ref tq], rfl, rm_at ncn upd_same, ?_⟩
            rw [List.map_append]
            exact Dts.snoc (hand_mk (rm_at ntn ((k2.trans k3) _ _ upd_same))) (hox.mono (ex_to_rm g9.ex g9.new))
          · have := fr1.ext.snoc hf (by omega) (by omega) (by omega)
            have e : m + (i : Int) + 1 = m + ((i + 1 : Nat) : Int) := by omega
            rw [← e]; exact this
          · have := fr1.len
            simp; omega
        · rintro σ H6 ⟨vb', news, rfl, g, fn, ln⟩
          exact ⟨_, _, news, rfl, g, fn, by omega⟩
      · rintro σ H5 ⟨vo, vb', news, rfl, g, fn, ln⟩
        have ln' : news.length ≤ 6 ^ i * 5 := by
          have : fxs.length * 5 ≤ 6 ^ i * 5 := Nat.mul_le_mul_right 5 (by omega)
          omega
        obtain ⟨nxs, hnp, hnx⟩ := Dt.list_at g.dt
        have lnx : nxs.length = news.length := by rw [hnx.length, List.length_map]
        refine ⟨_, rfl, _, rfl, fa, np, fxs, nxs, rfl, rfl, g.ex _ _ hfa, hnp, by omega, fun cq ncq => ?_⟩
        have k1 := Ex.new (o := .lst (fxs ++ nxs)) ncq
        refine ⟨_, _, _, _, cq, rows ++ news, rfl, (e4.trans g.ex).trans k1, dt_list upd_same ?_, all_app (fun row hr => (fr row hr).up) fn, by simp; omega, ?_⟩
        · rw [List.map_append]
          exact Dts.append (hnx.mono k1) (hfx.mono (g.ex.trans k1))
        · rw [List.length_append, Nat.pow_succ]; omega
    · rintro σ H4 ⟨va, vn, vo, vb', fa, rows, rfl, e4, df, fr, r0, r1⟩
      have p6 := six_pow (i := ((wb.parts.length : Int) - m).toNat) (by omega)
      refine ⟨_, rfl, k fa rows H4 (x2.trans e4) df (fun row hr => (fr row hr).ext.up (by omega)) r0 (by omega)⟩
end
end W3

end
section
set_option Elab.async false
set_option linter.all false
set_option maxRecDepth 100000
set_option maxHeartbeats 4000000
namespace W3
open PySem PySem.Spec PyProof.Rows L2 M83 M72
open Evl (Ex)
/-! ### data stay where a table grows -/
theorem ne_tab {T a : Addr} {H : Hp} {o : HO} (hT : ∃ ps, H T = some (.tbl ps)) (h : H a = some o) (ho : ∀ ps, o ≠ .tbl ps) : a ≠ T := fun z => by
  obtain ⟨ps, e⟩ := hT
  rw [← z, h] at e; cases e; exact ho _ rfl
mutual
theorem Dt.hide {T : Addr} {H : Hp} (hT : ∃ ps, H T = some (.tbl ps)) : ∀ {d : PyData} {v : V}, Dt H d v → Dt (rm T H) d v
  | .none, _, h => h
  | .bool _, _, h => h
  | .int _, _, h => h
  | .str _, _, h => h
  | .list _, _, h => by
    obtain ⟨a, xs, rfl, ha, hx⟩ := h
    exact ⟨a, xs, rfl, rm_at (ne_tab hT ha fun _ z => by cases z) ha, Dts.hide hT hx⟩
  | .tuple _, _, h => by
    obtain ⟨a, xs, rfl, ha, hx⟩ := h
    exact ⟨a, xs, rfl, rm_at (ne_tab hT ha fun _ z => by cases z) ha, Dts.hide hT hx⟩
  | .dict _, _, h => h.elim
theorem Dts.hide {T : Addr} {H : Hp} (hT : ∃ ps, H T = some (.tbl ps)) : ∀ {ds : List PyData} {xs : List V}, Dts H ds xs → Dts (rm T H) ds xs
  | [], _, h => h
  | _ :: _, _, h => by
    obtain ⟨x, r, rfl, hx, hr⟩ := h
    exact ⟨x, r, rfl, Dt.hide hT hx, Dts.hide hT hr⟩
end
theorem TabG.tb {T : Addr} {H : Hp} (t : GxR.TabG H T) : ∃ ps, H T = some (.tbl ps) := let ⟨ps, e, _⟩ := t; ⟨ps, e⟩
theorem TabG.ex {T : Addr} {H H' : Hp} (t : GxR.TabG H T) (e : Ex H H') : GxR.TabG H' T := let ⟨ps, h, r⟩ := t; ⟨ps, e _ _ h, r⟩
theorem ExT.dt {T : Addr} {H H' : Hp} (y : ExT T H H') (t : GxR.TabG H T) {d : PyData} {v : V} (h : Dt H d v) : Dt H' d v := ((h.hide (TabG.tb t)).mono y.ex).mono ex_rm
theorem ExT.pot {T p : Addr} {H H' : Hp} (y : ExT T H H') (t : GxR.TabG H T) (h : H p = some (PotO p)) : H' p = some (PotO p) := y.get (ne_tab (TabG.tb t) h fun _ z => by cases z) h
theorem ExT.by_ex {T : Addr} {H H' H'' : Hp} (y : ExT T H H') (e : Ex H' H'') : ExT T H H'' := y.trans (ExT.of_ex e y.tab)
/-! ### the bound by kinds -/
theorem parts_all (ps : List Part) : (List.range ps.length).map (fun i : Nat => ps[i]?.getD (Str.ofString "", 0)) = ps := by
  refine List.ext_getElem (by simp) fun i h1 h2 => ?_
  simp only [List.getElem_map, List.getElem_range]
  rw [List.getElem?_eq_getElem h2]; rfl
theorem keys_kinds (wb : Web) (ls : List Int) (h : ls = (List.range wb.parts.length).map fun (i : Nat) => (i : Int)) : keysM wb [] ls = wb.parts.map fun p => eKey (p, []) := by
  rw [keysM, h, List.map_map]
  have e : ((fun x : Int => eKey (clsM wb [] x)) ∘ fun (i : Nat) => (i : Int)) = (fun p : Part => eKey (p, [])) ∘ fun i : Nat => wb.parts[i]?.getD (Str.ofString "", 0) := by
    funext i
    simp only [Function.comp, clsM, partM, rowM, Int.toNat_natCast, List.map_nil]
  rw [e, ← List.map_map, parts_all]
open Classical in
theorem bound_kinds (wb vb : Web) : boundM wb vb [] 0 = icD (wb.parts.map ePart) (vb.parts.map ePart) := by
  have e1 : keysM wb (([] : List Hand).map (·.1)) (rgI 0 wb.parts.length) = wb.parts.map fun p => eKey (p, []) := keys_kinds wb _ (by
    unfold rgI
    rw [show ((wb.parts.length : Int) - 0).toNat = wb.parts.length by omega]
    exact List.map_congr_left fun i _ => by omega)
  have e2 : keysM vb (([] : List Hand).map (·.2)) (freeM vb.parts.length (([] : List Hand).map (·.2))) = vb.parts.map fun p => eKey (p, []) := keys_kinds vb _ (by
    unfold freeM
    exact List.filter_eq_self.mpr fun z _ => by simp)
  unfold boundM
  rw [e1, e2]
  unfold icD
  rw [ic_map (f := fun p : Part => eKey (p, [])) (fun a b h => by have := key_inj _ _ h; exact (Prod.mk.inj this).1), ic_map (f := ePart) part_inj]
  simp
/-! ### rows' first parts -/
theorem Ext.nodup {wb vb : Web} {prs row : List Hand} {m top : Int} (h : Ext wb vb prs m top row) (nd : (prs.map (·.1)).Nodup) (lt : ∀ q ∈ prs, q.1 < m) : (row.map (·.1)).Nodup := by
  obtain ⟨ex, rfl, n1, _, q⟩ := h.tail
  rw [List.map_append, List.nodup_append]
  refine ⟨nd, n1, fun x hx y hy => ?_⟩
  obtain ⟨a, ha, rfl⟩ := List.mem_map.mp hx
  obtain ⟨b, hb, rfl⟩ := List.mem_map.mp hy
  have := lt a ha
  have := (q b hb).1
  omega
theorem Ext.below {wb vb : Web} {prs row : List Hand} {m : Int} (h : Ext wb vb prs m wb.parts.length row) (b : Below wb.parts.length (prs.map (·.1))) (m0 : 0 ≤ m) : Below wb.parts.length (row.map (·.1)) := by
  obtain ⟨ex, rfl, _, _, q⟩ := h.tail
  intro z hz
  rw [List.map_append] at hz
  rcases List.mem_append.mp hz with hz | hz
  · exact b z hz
  · obtain ⟨x, hx, rfl⟩ := List.mem_map.mp hz
    have := q x hx
    omega
theorem Dts.bools {H : Hp} : ∀ {bs : List Bool} {xs : List V}, Dts H (bs.map PyData.bool) xs → xs = bs.map V.bl
  | [], _, h => h
  | b :: bs, _, h => by
    obtain ⟨x, r, rfl, hx, hr⟩ := h
    have e : x = .bl b := hx
    rw [e, Dts.bools hr]; rfl
theorem bools_at {H : Hp} {bs : List Bool} {a : Addr} (h : Dt H (.list (bs.map PyData.bool)) (.ref a)) : H a = some (.lst (bs.map V.bl)) := by
  obtain ⟨xs, ha, hx⟩ := Dt.list_at h
  rw [ha, Dts.bools hx]
abbrev kg_class_bound {α : Type} : List α → List α := kg_is_of_family
theorem kv_class_bound {vs : List V} {us : List Value} (hl : vs.length = 4) (h : Vals vs us) : Vals (kg_class_bound vs) (kg_class_bound us) := kv_is_of_family hl h
theorem kb_class_bound (kV doc pm : Value) (an : Option Addr) (cdv ct : Value) (us : List Value) (hl : us.length = 4) : bindArgs (PySem.W.fnOf "class_bound" "class_bound" (defArgs sclass_bound) (defBody sclass_bound) (defScope sclass_bound) .none kV doc pm an cdv ct) ⟨[], (["many", "pairs", "other", "web"] : List Str).zip us⟩ = pure ((["web", "other", "pairs", "many"] : List Str).zip (kg_class_bound us)) ∧ (kg_class_bound us).length = 4 :=
  match us, hl with
  | [_, _, _, _], _ => ⟨rfl, rfl⟩
abbrev kg_is_apart {α : Type} : List α → List α := kg_grown
theorem kv_is_apart {vs : List V} {us : List Value} (hl : vs.length = 3) (h : Vals vs us) : Vals (kg_is_apart vs) (kg_is_apart us) := kv_grown hl h
theorem kb_is_apart (kV doc pm : Value) (an : Option Addr) (cdv ct : Value) (us : List Value) (hl : us.length = 3) : bindArgs (PySem.W.fnOf "is_apart" "is_apart" (defArgs sis_apart) (defBody sis_apart) (defScope sis_apart) .none kV doc pm an cdv ct) ⟨[], (["many", "pairs", "web"] : List Str).zip us⟩ = pure ((["web", "pairs", "many"] : List Str).zip (kg_is_apart us)) ∧ (kg_is_apart us).length = 3 :=
  match us, hl with
  | [_, _, _], _ => ⟨rfl, rfl⟩
abbrev kg_left_candidates {α : Type} : List α → List α := kg_is_of_family
theorem kv_left_candidates {vs : List V} {us : List Value} (hl : vs.length = 4) (h : Vals vs us) : Vals (kg_left_candidates vs) (kg_left_candidates us) := kv_is_of_family hl h
theorem kb_left_candidates (kV doc pm : Value) (an : Option Addr) (cdv ct : Value) (us : List Value) (hl : us.length = 4) : bindArgs (PySem.W.fnOf "left_candidates" "left_candidates" (defArgs sleft_candidates) (defBody sleft_candidates) (defScope sleft_candidates) .none kV doc pm an cdv ct) ⟨[], (["many", "pairs", "other", "web"] : List Str).zip us⟩ = pure ((["web", "other", "pairs", "many"] : List Str).zip (kg_left_candidates us)) ∧ (kg_left_candidates us).length = 4 :=
  match us, hl with
  | [_, _, _, _], _ => ⟨rfl, rfl⟩
abbrev kg_kind_bound {α : Type} : List α → List α := kg_all_choices
theorem kv_kind_bound {vs : List V} {us : List Value} (hl : vs.length = 2) (h : Vals vs us) : Vals (kg_kind_bound vs) (kg_kind_bound us) := kv_all_choices hl h
theorem kb_kind_bound (kV doc pm : Value) (an : Option Addr) (cdv ct : Value) (us : List Value) (hl : us.length = 2) : bindArgs (PySem.W.fnOf "kind_bound" "kind_bound" (defArgs skind_bound) (defBody skind_bound) (defScope skind_bound) .none kV doc pm an cdv ct) ⟨[], (["other", "web"] : List Str).zip us⟩ = pure ((["web", "other"] : List Str).zip (kg_kind_bound us)) ∧ (kg_kind_bound us).length = 2 :=
  match us, hl with
  | [_, _], _ => ⟨rfl, rfl⟩
abbrev kg_part_class {α : Type} : List α → List α := kg_grown
theorem kv_part_class {vs : List V} {us : List Value} (hl : vs.length = 3) (h : Vals vs us) : Vals (kg_part_class vs) (kg_part_class us) := kv_grown hl h
theorem kb_part_class (kV doc pm : Value) (an : Option Addr) (cdv ct : Value) (us : List Value) (hl : us.length = 3) : bindArgs (PySem.W.fnOf "part_class" "part_class" (defArgs spart_class) (defBody spart_class) (defScope spart_class) .none kV doc pm an cdv ct) ⟨[], (["part", "parts", "web"] : List Str).zip us⟩ = pure ((["web", "parts", "part"] : List Str).zip (kg_part_class us)) ∧ (kg_part_class us).length = 3 :=
  match us, hl with
  | [_, _, _], _ => ⟨rfl, rfl⟩
end W3

end
section
set_option Elab.async false
set_option linter.all false
set_option maxRecDepth 100000
set_option maxHeartbeats 4000000
namespace W3
open PySem PySem.Spec PyProof.Rows L2 M83 M72
open Evl (Ex)
section
variable {P : Program} {w : World} {K : PySem.W.Frag} {mg : Str → Option Value} {base : Heap}
theorem fitsM_new {wb vb : Web} {prs : List Hand} {a b : Int} (h : fitsM wb vb prs a b = true) : ∀ p ∈ prs, a ≠ p.1 := fun p hp => by
  simp only [fitsM, Bool.and_eq_true, decide_eq_true_eq, Bool.not_eq_true', List.any_eq_false, List.all_eq_true, Bool.or_eq_true, not_or] at h
  exact (h.1.2 p hp).1
theorem small_ints {n : Nat} {ns : List Int} (hn : n ≤ 30) (h : ∀ z ∈ ns, 0 ≤ z ∧ z < (n : Int)) : Lf (eInts ns) := ints_lf fun z hz => by have := h z hz; omega
theorem p_same1 {H : Hp} {Q : VK} {u v : V} {d : PyData} (du : Dt H d u) (dv : Dt H d v) (lf : Lf d) (sh : Shrt d) (dp : d.depth ≤ 2) (k : ∀ H', Ex H H' → Q (.bl true) H') : p_same 3 [u, v] H Q := ⟨u, v, d, rfl, du, dv, lf, sh, dp, by decide, k⟩
theorem sh_ints {ns : List Int} (h : ns.length ≤ 1000) : Shrt (eInts ns) := by
  refine ⟨by rw [List.length_map]; exact h, ?_⟩
  clear h
  induction ns with
  | nil => trivial
  | cons z ns ih => exact ⟨trivial, ih⟩
theorem dep_ints (ns : List Int) : (eInts ns).depth ≤ 1 := by
  have := depthAll_map (enc := PyData.int) (k := 0) (as := ns) fun a _ => by simp [PyData.depth]
  simp only [eInts, PyData.depth]; omega
theorem sh_cls {c : Part × List Int} (h : c.2.length ≤ 1000) : Shrt (eCls c) := ⟨by simp, trivial, trivial, sh_ints h, trivial⟩
theorem bound_small {wb vb : Web} {prs : List Hand} {m : Int} (hl : prs.length ≤ 30) (hn : wb.parts.length ≤ 30) (m0 : 0 ≤ m) : 0 ≤ boundM wb vb prs m ∧ boundM wb vb prs m ≤ 60 := by
  classical
  have h := ic_le (keysM wb (prs.map (·.1)) (rgI m wb.parts.length)) (keysM vb (prs.map (·.2)) (freeM vb.parts.length (prs.map (·.2))))
  have h2 : (keysM wb (prs.map (·.1)) (rgI m wb.parts.length)).length ≤ 30 := by
    rw [keysM, List.length_map, rgI, List.length_map, List.length_range]; omega
  unfold boundM icD
  have h3 : ic (keysM wb (prs.map (·.1)) (rgI m wb.parts.length)) (keysM vb (prs.map (·.2)) (freeM vb.parts.length (prs.map (·.2)))) ≤ 30 := Nat.le_trans h h2
  constructor
  · omega
  · omega
theorem hands_lf {a b : Nat} {prs : List Hand} (ha : a ≤ 30) (hb : b ≤ 30) (h1 : Below a (prs.map (·.1))) (h2 : Below b (prs.map (·.2))) : Lf (eHands prs) := Lfs.map fun q hq => by
  have x := h1 q.1 (List.mem_map_of_mem hq)
  have y := h2 q.2 (List.mem_map_of_mem hq)
  exact ⟨(by show q.1.natAbs < 1000000; omega), (by show q.2.natAbs < 1000000; omega), trivial⟩
theorem fit_below {wb vb : Web} {prs : List Hand} {a : Int} {n : Nat} {z : Int} (h : z ∈ fitL wb vb prs a n) : 0 ≤ z ∧ z < n := by
  obtain ⟨i, hi, rfl⟩ := List.mem_map.mp (List.mem_filter.mp h).1
  have := List.mem_range.mp hi
  omega
/-! ### _law_right -/
def p_lright (tP : Addr) : Sp3 := fun vs H Q => ∃ p : Addr, vs = [.ref p] ∧ H p = some (PotO p) ∧ GxR.TabG H tP ∧ ∀ H', Q (.bl true) H'
theorem d_l_right {f : Addr} {fd : FuncData} {tP : Addr} (F : Fun K "_law_right" "_law_right" sl_right f fd) (hm : mg "_law_right" = some (.ref f)) (T : Txt mg) (d_l_draw : Df P w K mg base 1 "_law_draw" ["_law_pot_here", "_law_many"] p_draw)
    (d_l_pick : Df P w K mg base 2 "_law_pick" ["_law_pot_here", "_law_some"] p_pick) (d_l_same : Df P w K mg base 4 "_law_same" ["_law_one", "_law_two_here"] (p_same 3))
    (d_l_two : Df P w K mg base 4 "_law_two" ["_law_pot_here", "_law_most"] p_two) (d_l_built : Df P w K mg base 4 "_law_built" ["_law_pot_here"] p_built)
    (d_l_orders : Df P w K mg base 1 "_law_orders" ["_law_web"] p_tab) (d_l_fits : Df P w K mg base 1 "_law_fits" ["_law_web", "_law_other", "_law_rows", "_law_lists", "_law_pairs", "_law_a", "_law_b"] p_fits)
    (d_l_bound : Df P w K mg base 2 "_law_bound" ["_law_web", "_law_other", "_law_pairs", "_law_many"] p_cb) (d_l_apart : Df P w K mg base 2 "_law_apart" ["_law_web", "_law_pairs", "_law_many"] p_lapart)
    (d_l_candidates : Df P w K mg base 2 "_law_candidates" ["_law_web", "_law_other", "_law_pairs", "_law_many"] p_lcand) (d_l_class : Df P w K mg base 1 "_law_class" ["_law_web", "_law_rows", "_law_some", "_law_x"] p_lcls)
    (d_l_made : Df P w K mg base 2 "_law_made" ["_law_web", "_law_other", "_law_pairs", "_law_many"] p_made) (d_l_joined : Df P w K mg base 1 "_law_joined" ["_law_rows", "_law_some"] p_joined)
    (dk_class_bound : Dk P w K mg base 3 "class_bound" ["web", "other", "pairs", "many"] p_cb sclass_bound) (dk_is_apart : Dk P w K mg base 2 "is_apart" ["web", "pairs", "many"] (p_apart tP) sis_apart)
    (dk_left_candidates : Dk P w K mg base 3 "left_candidates" ["web", "other", "pairs", "many"] p_cand sleft_candidates) (dk_kind_bound : Dk P w K mg base 2 "kind_bound" ["web", "other"] p_kb skind_bound)
    (dk_part_class : Dk P w K mg base 2 "part_class" ["web", "parts", "part"] p_pcls spart_class) : Df P w K mg base 5 "_law_right" ["_law_pot_here"] (p_lright tP) := by
  have d_class_bound := dk_class_bound.df
  have d_is_apart := dk_is_apart.df
  have d_left_candidates := dk_left_candidates.df
  have d_kind_bound := dk_kind_bound.df
  have d_part_class := dk_part_class.df
  refine Df.body F hm bil_right scl_right (fun vs H Q h => ?_) (fun cdv A outer s H vs Q hr h => ?_)
  · obtain ⟨p, rfl, _⟩ := h; rfl
  · obtain ⟨p, rfl, hp, tab, k⟩ := h
    refine ⟨_, (pss_cons (ps_asg (pe_m (pe_ifExp (pt_cmpR op_eq (pe_c3 d_l_draw (hr.less (by decide)) rfl (pa_cons (pv 0) (pa_cons pe_int pa_nil))) pe_int (nomark _)) (pe_c3 d_l_two (hr.less (by decide)) rfl (pa_cons (pv 0) (pa_cons pe_int pa_nil))) (pe_c3 d_l_built (hr.less (by decide)) rfl (pa_cons (pv 0) pa_nil)))) (pgT K 2 (pgs_cons (pg_name (i := 5) scl_right.nd rfl (Or.inr rfl)) (pgs_cons (pg_name (i := 6) scl_right.nd rfl (Or.inr rfl)) pgs_nil))))
 (pss_cons (ps_asg (pe_tup (pa_cons (pe_c3 d_l_orders (hr.less (by decide)) rfl (pa_cons (pv 5) pa_nil)) (pa_cons (pe_c3 d_l_orders (hr.less (by decide)) rfl (pa_cons (pv 6) pa_nil)) (pa_cons (pe_callB (cr_reprD hr.quiet hr.u64) (by rfl) T.n_repr bt_repr (pa_cons (pe_tup (pa_cons (pv 5) (pa_cons (pv 6) pa_nil))) pa_nil)) pa_nil)))) (pgT K 3 (pgs_cons (pg_name (i := 7) scl_right.nd rfl (Or.inr rfl)) (pgs_cons (pg_name (i := 8) scl_right.nd rfl (Or.inr rfl)) (pgs_cons (pg_name (i := 9) scl_right.nd rfl (Or.inl rfl)) pgs_nil)))))
 (pss_cons (ps_asg (pe_tup (pa_cons (pe_c3 d_l_draw (hr.less (by decide)) rfl (pa_cons (pv 0) (pa_cons (pe_op op_add (pe_callB (lenS K) (by rfl) T.n_len bt_len (pa_cons (pe_ix (ixT K) (pv 5) pe_int (fun _ _ => rfl)) pa_nil)) pe_int) pa_nil))) (pa_cons (pe_lst pa_nil) pa_nil))) (pgT K 2 (pgs_cons (pg_name (i := 10) scl_right.nd rfl (Or.inl rfl)) (pgs_cons (pg_name (i := 11) scl_right.nd rfl (Or.inr rfl)) pgs_nil))))
 (pss_cons (ps_for PassesOwn.never rfl (pi_range1 rfl T.range (pa_cons (pv 10) pa_nil)) (pg_name (i := 1) scl_right.nd rfl (Or.inr rfl)) (pss_cons (ps_setLc (own := [("_law_b", 19)]) (i := 12) rfl scl_right.nd rfl rfl (sw_true rfl rfl rfl (by decide +kernel)) (pi_range1 rfl T.range (pa_cons (pe_callB (lenS K) (by rfl) T.n_len bt_len (pa_cons (pe_ix (ixT K) (pv 6) pe_int (fun _ _ => rfl)) pa_nil)) pa_nil)) (blkOk_by (N := Nl_right) (sc := defScope sl_right) (by decide +kernel)) (fun _ _ _ _ _ => (pg_name (i := 19) scl_right.nd rfl (Or.inl rfl))) (fun _ _ _ _ _ => (pts_fr (pts_one (pt_val (pe_c3 d_l_fits (hr.less (by decide)) rfl (pa_cons (pv 5) (pa_cons (pv 6) (pa_cons (pv 7) (pa_cons (pv 8) (pa_cons (pv 11) (pa_cons (pv 1) (pa_cons (pv 19) pa_nil)))))))))))) (fun _ _ _ _ _ => (pe_fr (pv 19))))
 (pss_one (ps_if (PW.pt (pw_and (pt_cmpR (opNeD K hr.u64) (pv 12) (pe_lst pa_nil) (nomark _)) (pw_and1 (pt_cmpR op_gt (pe_c3 d_l_draw (hr.less (by decide)) rfl (pa_cons (pv 0) (pa_cons pe_int pa_nil))) pe_int (nomark _))))) (pss_one (ps_set (i := 11) scl_right.nd rfl (Or.inr rfl) (pe_op op_cat (pv 11) (pe_lst (pa_cons (pe_tup (pa_cons (pv 1) (pa_cons (pe_c3 d_l_pick (hr.less (by decide)) rfl (pa_cons (pv 0) (pa_cons (pv 12) pa_nil))) pa_nil))) pa_nil))))) pss_nil))))
 (pss_cons (ps_par (i := 13) (j := 14) rfl scl_right.nd rfl rfl (by decide) rfl rfl (pa_cons (pe_callTy (listS K) (by rfl) T.n_list bt_list (pa_cons (pv 11) pa_nil)) (pa_cons (pe_c3 d_l_bound (hr.less (by decide)) rfl (pa_cons (pv 5) (pa_cons (pv 6) (pa_cons (pv 11) (pa_cons (pv 10) pa_nil))))) pa_nil)) (by rfl))
 (pss_cons (ps_if (pt_not (pt_val (pe_c3 d_l_same (hr.less (by decide)) rfl (pa_cons (pe_c3 d_class_bound (hr.less (by decide)) rfl (pa_cons (pv 5) (pa_cons (pv 6) (pa_cons (pv 11) (pa_cons (pv 10) pa_nil))))) (pa_cons (pv 14) pa_nil))))) (pss_one (ps_ret pe_bl)) pss_nil)
 (pss_cons (ps_if (pt_not (pt_val (pe_c3 d_l_same (hr.less (by decide)) rfl (pa_cons (pe_ck (g := kg_class_bound) (ks := ["many", "pairs", "other", "web"]) dk_class_bound (hr.less (by decide)) rfl (pk_cons (pv 10) (pk_cons (pv 11) (pk_cons (pv 6) (pk_cons (pv 5) pk_nil)))) kb_class_bound kv_class_bound) (pa_cons (pv 14) pa_nil))))) (pss_one (ps_ret pe_bl)) pss_nil)
 (pss_cons (ps_set (i := 2) scl_right.nd rfl (Or.inl rfl) (pe_c3 d_l_apart (hr.less (by decide)) rfl (pa_cons (pv 5) (pa_cons (pv 11) (pa_cons (pv 10) pa_nil)))))
 (pss_cons (ps_set (i := 3) scl_right.nd rfl (Or.inl rfl) (pe_lst (pa_cons (pe_c3 d_is_apart (hr.less (by decide)) rfl (pa_cons (pv 5) (pa_cons (pv 11) (pa_cons (pv 10) pa_nil)))) (pa_cons (pe_ck (g := kg_is_apart) (ks := ["many", "pairs", "web"]) dk_is_apart (hr.less (by decide)) rfl (pk_cons (pv 10) (pk_cons (pv 11) (pk_cons (pv 5) pk_nil))) kb_is_apart kv_is_apart) pa_nil))))
 (pss_cons (ps_if (pt_not (pt_val (pe_c3 d_l_same (hr.less (by decide)) rfl (pa_cons (pv 3) (pa_cons (pe_lst (pa_cons (pv 2) (pa_cons (pv 2) pa_nil))) pa_nil))))) (pss_one (ps_ret pe_bl)) pss_nil)
 (pss_cons (ps_m (ps_if (pt_cmpR op_lt (pv 10) (pe_callB (lenS K) (by rfl) T.n_len bt_len (pa_cons (pe_ix (ixT K) (pv 5) pe_int (fun _ _ => rfl)) pa_nil)) (nomark _)) (pss_cons (ps_set (i := 12) scl_right.nd rfl (Or.inl rfl) (pe_c3 d_l_candidates (hr.less (by decide)) rfl (pa_cons (pv 5) (pa_cons (pv 6) (pa_cons (pv 11) (pa_cons (pv 10) pa_nil))))))
 (pss_cons (ps_set (i := 3) scl_right.nd rfl (Or.inl rfl) (pe_ck (g := kg_left_candidates) (ks := ["many", "pairs", "other", "web"]) dk_left_candidates (hr.less (by decide)) rfl (pk_cons (pv 10) (pk_cons (pv 11) (pk_cons (pv 6) (pk_cons (pv 5) pk_nil)))) kb_left_candidates kv_left_candidates))
 (pss_cons (ps_if (pt_not (pt_val (pe_c3 d_l_same (hr.less (by decide)) rfl (pa_cons (pv 3) (pa_cons (pv 12) pa_nil))))) (pss_one (ps_ret pe_bl)) pss_nil)
 (pss_cons (ps_expr (pe_bm PySem.F.plainAttrs_list PySem.F.slot_list_append PySem.F.type_list_append mt_append (pv 3) (pa_cons pe_int pa_nil)))
 (pss_one (ps_if (pt_not (pt_val (pe_c3 d_l_same (hr.less (by decide)) rfl (pa_cons (pe_c3 d_left_candidates (hr.less (by decide)) rfl (pa_cons (pv 5) (pa_cons (pv 6) (pa_cons (pv 11) (pa_cons (pv 10) pa_nil))))) (pa_cons (pv 12) pa_nil))))) (pss_one (ps_ret pe_bl)) pss_nil)))))) pss_nil))
 (pss_cons (ps_set (i := 4) scl_right.nd rfl (Or.inl rfl) (pe_c3 d_l_bound (hr.less (by decide)) rfl (pa_cons (pv 5) (pa_cons (pv 6) (pa_cons (pe_lst pa_nil) (pa_cons pe_int pa_nil))))))
 (pss_cons (ps_if (pt_not (pt_val (pe_c3 d_l_same (hr.less (by decide)) rfl (pa_cons (pe_lst (pa_cons (pe_c3 d_kind_bound (hr.less (by decide)) rfl (pa_cons (pv 5) (pa_cons (pv 6) pa_nil))) (pa_cons (pe_ck (g := kg_kind_bound) (ks := ["other", "web"]) dk_kind_bound (hr.less (by decide)) rfl (pk_cons (pv 6) (pk_cons (pv 5) pk_nil)) kb_kind_bound kv_kind_bound) pa_nil))) (pa_cons (pe_op op_rep (pe_lst (pa_cons (pv 4) pa_nil)) pe_int) pa_nil))))) (pss_one (ps_ret pe_bl)) pss_nil)
 (pss_cons (ps_for PassesOwn.never rfl (piL K (pe_lst (pa_cons (pe_tup (pa_cons (pv 5) (pa_cons (pv 7) pa_nil))) (pa_cons (pe_tup (pa_cons (pv 6) (pa_cons (pv 8) pa_nil))) pa_nil)))) (pgT K 2 (pgs_cons (pg_name (i := 15) scl_right.nd rfl (Or.inl rfl)) (pgs_cons (pg_name (i := 16) scl_right.nd rfl (Or.inl rfl)) pgs_nil))) (pss_one (ps_for PassesOwn.never rfl (pi_range1 rfl T.range (pa_cons (pe_callB (lenS K) (by rfl) T.n_len bt_len (pa_cons (pe_ix (ixT K) (pv 15) pe_int (fun _ _ => rfl)) pa_nil)) pa_nil)) (pg_name (i := 17) scl_right.nd rfl (Or.inr rfl)) (pss_cons (ps_setLc (own := [("_law_y", 21)]) (i := 12) rfl scl_right.nd rfl rfl (sw_true rfl rfl rfl (by decide +kernel)) (pi_range1 rfl T.range (pa_cons (pe_callB (lenS K) (by rfl) T.n_len bt_len (pa_cons (pe_ix (ixT K) (pv 15) pe_int (fun _ _ => rfl)) pa_nil)) pa_nil)) (blkOk_by (N := Nl_right) (sc := defScope sl_right) (by decide +kernel)) (fun _ _ _ _ _ => (pg_name (i := 21) scl_right.nd rfl (Or.inl rfl))) (fun _ _ _ _ _ => (pts_fr (pts_one (PW.pt (pw_and (pt_cmpR op_ne (pv 21) (pv 17) (nomark _)) (pw_and1 (pt_cmpR op_eq (pe_c3 d_l_draw (hr.less (by decide)) rfl (pa_cons (pv 0) (pa_cons pe_int pa_nil))) pe_int (nomark _)))))))) (fun _ _ _ _ _ => (pe_fr (pv 21))))
 (pss_cons (ps_set (i := 12) scl_right.nd rfl (Or.inl rfl) (pe_m (pe_ifExp (pt_cmpR op_eq (pe_c3 d_l_draw (hr.less (by decide)) rfl (pa_cons (pv 0) (pa_cons pe_int pa_nil))) pe_int (nomark _)) (revL K (pv 12)) (pv 12))))
 (pss_cons (ps_par (i := 14) (j := 20) rfl scl_right.nd rfl rfl (by decide) rfl rfl (pa_cons (pe_c3 d_l_class (hr.less (by decide)) rfl (pa_cons (pv 15) (pa_cons (pv 16) (pa_cons (pv 12) (pa_cons (pv 17) pa_nil))))) (pa_cons (pe_callTy (listS K) (by rfl) T.n_list bt_list (pa_cons (pv 12) pa_nil)) pa_nil)) (by rfl))
 (pss_cons (ps_set (i := 3) scl_right.nd rfl (Or.inl rfl) (pe_c3 d_part_class (hr.less (by decide)) rfl (pa_cons (pv 15) (pa_cons (pv 12) (pa_cons (pv 17) pa_nil)))))
 (pss_cons (ps_if (PW.pt (pw_or (pt_not (pt_val (pe_c3 d_l_same (hr.less (by decide)) rfl (pa_cons (pv 3) (pa_cons (pv 14) pa_nil))))) (pw_or1 (pt_cmpR (opNeD K hr.u64) (pv 12) (pv 20) (nomark _))))) (pss_one (ps_ret pe_bl)) pss_nil)
 (pss_cons (ps_expr (pe_bm PySem.F.plainAttrs_list PySem.F.slot_list_append PySem.F.type_list_append mt_append (pe_ix (ixT K) (pv 3) pe_int (fun _ _ => rfl)) (pa_cons pe_int pa_nil)))
 (pss_one (ps_if (PW.pt (pw_or (pt_cmpR (opNeD K hr.u64) (pe_ck (g := kg_part_class) (ks := ["part", "parts", "web"]) dk_part_class (hr.less (by decide)) rfl (pk_cons (pv 17) (pk_cons (pv 12) (pk_cons (pv 15) pk_nil))) kb_part_class kv_part_class) (pv 14) (nomark _)) (pw_or1 (pt_cmpR (opNeD K hr.u64) (pv 12) (pv 20) (nomark _))))) (pss_one (ps_ret pe_bl)) pss_nil)))))))))))
 (pss_cons (ps_m (ps_if (PW.pt (pw_and (pt_cmpR op_le (pe_callB (lenS K) (by rfl) T.n_len bt_len (pa_cons (pe_ix (ixT K) (pv 5) pe_int (fun _ _ => rfl)) pa_nil)) pe_int (nomark _)) (pw_and1 (pt_cmpR op_le (pe_callB (lenS K) (by rfl) T.n_len bt_len (pa_cons (pe_ix (ixT K) (pv 6) pe_int (fun _ _ => rfl)) pa_nil)) pe_int (nomark _))))) (pss_cons (ps_set (i := 18) scl_right.nd rfl (Or.inl rfl) (pe_c3 d_l_made (hr.less (by decide)) rfl (pa_cons (pv 5) (pa_cons (pv 6) (pa_cons (pv 11) (pa_cons (pv 10) pa_nil))))))
 (pss_cons (ps_if (pt_cmpR op_gt (pe_callB (mxL K) (by rfl) T.n_max bt_max (pa_cons (pe_lc (own := [("_law_row", 16)]) rfl scl_right.nd (piL K (pv 18)) (blkOk_by (N := Nl_right) (sc := defScope sl_right) (by decide +kernel)) (fun _ _ _ _ _ => (pg_name (i := 16) scl_right.nd rfl (Or.inl rfl))) (fun _ _ _ _ _ => pts_nil) (fun _ _ _ _ _ => (pe_fr (pe_callB (lenS K) (by rfl) T.n_len bt_len (pa_cons (pv 16) pa_nil))))) pa_nil)) (pe_c3 d_class_bound (hr.less (by decide)) rfl (pa_cons (pv 5) (pa_cons (pv 6) (pa_cons (pv 11) (pa_cons (pv 10) pa_nil))))) (nomark _)) (pss_one (ps_ret pe_bl)) pss_nil)
 (pss_one (ps_if (pt_val (pe_c3 d_is_apart (hr.less (by decide)) rfl (pa_cons (pv 5) (pa_cons (pv 11) (pa_cons (pv 10) pa_nil))))) (pss_one (ps_if (pt_val (pe_callB (anyS K) (by rfl) T.n_any bt_any (pa_cons (pe_lc (own := [("_law_row", 16)]) rfl scl_right.nd (piL K (pv 18)) (blkOk_by (N := Nl_right) (sc := defScope sl_right) (by decide +kernel)) (fun _ _ _ _ _ => (pg_name (i := 16) scl_right.nd rfl (Or.inl rfl))) (fun _ _ _ _ _ => pts_nil) (fun _ _ _ _ _ => (pe_fr (pe_c3 d_l_joined (hr.less (by decide)) rfl (pa_cons (pv 7) (pa_cons (pe_lc (own := [("_law_a", 1), ("_law_b", 19)]) rfl scl_right.nd (piL K (pv 16)) (blkOk_by (N := Nl_right) (by rfl)) (fun _ _ _ _ _ => (pgT K 2 (pgs_cons (pg_name (i := 1) scl_right.nd rfl (Or.inl rfl)) (pgs_cons (pg_name (i := 19) scl_right.nd rfl (Or.inl rfl)) pgs_nil)))) (fun _ _ _ _ _ => pts_nil) (fun _ _ _ _ _ => (pe_fr (pv 1)))) pa_nil)))))) pa_nil))) (pss_one (ps_ret pe_bl)) pss_nil)) pss_nil)))) pss_nil))
 (pss_one (ps_ret (pe_and (pe_cmpR (opEqD K hr.u64) (pv 11) (pv 13) (nomark _)) (pe_one (pe_cmpR op_eq (pe_callB (cr_reprD hr.quiet hr.u64) (by rfl) T.n_repr bt_repr (pa_cons (pe_tup (pa_cons (pv 5) (pa_cons (pv 6) pa_nil))) pa_nil)) (pv 9) (nomark _))))))))))))))))))))), ?_⟩
    rw [show start Nl_right [.ref p] = [some (.ref p), none, none, none, none, none, none, none, none, none, none, none, none, none, none, none, none, none, none, none, none, none] from rfl]
    have big : (100000 : Nat) < sizeLine := by decide
    -- two webs
    refine ⟨fun v H' => Two H' v ∧ Ex H H', ?_, ?_⟩
    · refine ⟨_, rfl, p, _, rfl, hp, by omega, by omega, fun d _ _ H1 e1 => ⟨rfl, _, rfl, iteAny (fun _ => ?_) (fun _ => ?_)⟩⟩
      · exact ⟨_, rfl, p, rfl, e1 _ _ hp, fun v H' e h => ⟨h, e1.trans e⟩⟩
      · exact ⟨_, rfl, p, rfl, e1 _ _ hp, fun v H' e h => ⟨h, e1.trans e⟩⟩
    rintro v H1 ⟨⟨q, wv, ov, wb, vb, rfl, hq, dw, dv, gw, gv⟩, e1⟩
    have hp1 := e1 _ _ hp
    have tab1 := TabG.ex tab e1
    clear hp tab e1
    refine ⟨q, _, rfl, SqT.of hq, rfl, _, _, rfl, _, _, rfl, rfl, ?_⟩
    clear hq
    simp only [gName, tNext, List.set_cons_succ, List.set_cons_zero]
    have w7 := gw.w
    have v7 := gv.w
    have wn := w7.pn
    have wt := w7.tn
    have vn := v7.pn
    have vt := v7.tn
    -- their tables, as they are written
    have sm2 : Sm 4 2002 (.tuple [eWeb wb, eWeb vb]) := Sm.tup2 (sm_web gw.s) (sm_web gv.s)
    refine ⟨_, rfl, wv, wb, rfl, dw, by omega, by omega, w7.tok, fun rv H2 e2 dr => ⟨_, rfl, ov, vb, rfl, dv.mono e2, by omega, by omega, v7.tok, fun lv H3 e3 dl => ⟨_, rfl, _, rfl, sz2, fun t1 n1 => ?_⟩⟩⟩
    have g1 := Ex.new (o := .tup [wv, ov]) n1
    refine ⟨.ref t1, .tuple [eWeb wb, eWeb vb], rfl, ⟨t1, _, rfl, upd_same, Dts.mk2 (dw.mono (e2.trans (e3.trans g1))) (dv.mono (e2.trans (e3.trans g1)))⟩, rfl, sm2.fine, sz3, fun t2 n2 => ⟨t2, _, rfl, SqT.of upd_same, rfl, _, _, rfl, _, _, rfl, _, _, rfl, rfl, ?_⟩⟩
    have g2 := Ex.new (o := .tup [rv, lv, .str (PyData.tuple [eWeb wb, eWeb vb]).shown]) n2
    have x := e2.trans (e3.trans (g1.trans g2))
    replace dw := dw.mono x
    replace dv := dv.mono x
    replace dr := dr.mono (e3.trans (g1.trans g2))
    replace dl := dl.mono (g1.trans g2)
    have hp2 := x _ _ hp1
    have tab2 := TabG.ex tab1 x
    generalize upd (upd H3 t1 (.tup [wv, ov])) t2 (.tup [rv, lv, .str (PyData.tuple [eWeb wb, eWeb vb]).shown]) = H4 at dw dv dr dl hp2 tab2 ⊢
    clear x g1 g2 n1 n2 e2 e3 hp1 tab1
    obtain ⟨wp, pa, tia, ha, sa, rfl, hwp, d1, _, _, _⟩ := web_at dw
    obtain ⟨vp, qa, tib, hb, sb, rfl, hvp, d1', _, _, _⟩ := web_at dv
    obtain ⟨pxs, hpa, hpx⟩ := Dt.list_at d1
    obtain ⟨qxs, hqa, hqx⟩ := Dt.list_at d1'
    have lp : pxs.length = wb.parts.length := by rw [hpx.length, List.length_map]
    have lq : qxs.length = vb.parts.length := by rw [hqx.length, List.length_map]
    clear d1 d1' hpx hqx
    simp only [gName, tNext, List.set_cons_succ, List.set_cons_zero]
    generalize hshown : (PyData.tuple [eWeb wb, eWeb vb]).shown = kept
    -- how many
    refine ⟨_, rfl, _, rfl, wp, _, 0, _, rfl, rfl, SqT.of hwp, rfl, pa, pxs, rfl, .inl (SqL.of hpa), _, _, rfl, rfl, p, _, rfl, hp2, by omega, by omega, fun m m0 m1 H5 e5 => ⟨Nat.zero_le _, fun pq0 npq => ⟨sz2, fun t3 n3 => ⟨t3, _, rfl, SqT.of upd_same, rfl, _, _, rfl, _, _, rfl, rfl, ?_⟩⟩⟩⟩
    have g1 := Ex.new (o := .lst []) npq
    have g2 := Ex.new (o := .tup [.int m, .ref pq0]) n3
    have x := e5.trans (g1.trans g2)
    replace dw := dw.mono x
    replace dv := dv.mono x
    replace dr := dr.mono x
    replace dl := dl.mono x
    replace hwp := x _ _ hwp
    replace hvp := x _ _ hvp
    replace hpa := x _ _ hpa
    replace hqa := x _ _ hqa
    have hp3 := x _ _ hp2
    have tab3 := TabG.ex tab2 x
    have dp0 : Dt (upd (upd H5 pq0 (.lst [])) t3 (.tup [.int m, .ref pq0])) (eHands []) (.ref pq0) := dt_nil (g2 _ _ upd_same)
    generalize upd (upd H5 pq0 (.lst [])) t3 (.tup [.int m, .ref pq0]) = H6 at dw dv dr dl hwp hvp hpa hqa hp3 tab3 dp0 ⊢
    clear x g1 g2 n3 npq e5 hp2 tab2
    obtain ⟨mn, rfl⟩ := Int.eq_ofNat_of_zero_le m0
    have lm : mn ≤ wb.parts.length := by omega
    clear m0 m1
    simp only [gName, tNext, List.set_cons_succ, List.set_cons_zero]
    -- the pairs
    refine ⟨_, rfl, _, rfl, by omega, by omega, ?_⟩
    refine for_range (lo := 0) (n := mn) (fun i σ H' => ∃ (va v12 v19 : Option V) (pq : Addr) (prs : List Hand), σ = [some (.ref p), va, none, none, none, some (.ref wp), some (.ref vp), some rv, some lv, some (.str kept), some (.int mn), some (.ref pq), v12, none, none, none, none, none, none, v19, none, none] ∧ Ex H6 H' ∧ Dt H' (eHands prs) (.ref pq) ∧ PrsOk wb vb prs ∧ prs.length ≤ i ∧ (∀ q ∈ prs, q.1 < i) ∧ (prs.map (·.1)).Nodup)
      ⟨none, none, none, pq0, [], rfl, Ex.refl _, dp0, ⟨Nat.zero_le _, fun z h => (by cases h), fun z h => (by cases h)⟩, Nat.le_refl _, fun q h => (by cases h), List.nodup_nil⟩ ?_ ?_
    · rintro i σ H7 hi ⟨va, v12, v19, pq, prs, rfl, e7, dp, pk, lpr, ltp, nd⟩
      refine go_sets (lcDRt H7 (lo := 0) (n := vb.parts.length) PyData.int (fun z => 0 ≤ z ∧ z < (vb.parts.length : Int) ∧ fitsM wb vb prs ((0 : Int) + i) z = true) (fun l => fitsM wb vb prs ((0 : Int) + i) ((0 : Int) + l) = true) (fun R r => ⟨_, rfl, vp, _, 0, _, rfl, rfl, SqT.of (e7 _ _ hvp), rfl, qa, qxs, rfl, .inl (SqL.of (e7 _ _ hqa)), _, rfl, by omega, by omega, by rw [lq]; exact r⟩) (by omega) (fun _ => rfl)
        (fun l G R hl eG r => ?_) (fun l G R hl hf eG r => ⟨_, rfl, r _ _ _ (Ex.refl _) rfl ⟨by omega, by omega, hf⟩⟩) fun sq ss H8 e8 _ dss fss lss => ?_)
      · have x := e7.trans eG
        exact ⟨_, rfl, _, rfl, _, rfl, _, rfl, _, rfl, _, rfl, _, rfl, .ref wp, .ref vp, rv, lv, .ref pq, (0 : Int) + i, (0 : Int) + l, wb, vb, prs, rfl, dw.mono x, dv.mono x, dr.mono x, dl.mono x, dp.mono eG, w7, v7, pk, by omega, by omega, by omega, by omega, fun H9 e9 => ⟨_, rfl, r _ _ e9 fun h => h⟩⟩
      have x8 := e7.trans e8
      have lfs : Lf (.list (ss.map PyData.int)) := small_ints (n := vb.parts.length) (by omega) fun z hz => ⟨(fss z hz).1, (fss z hz).2.1⟩
      simp only [gName, tNext, List.set_cons_succ, List.set_cons_zero]
      refine ⟨_, rfl, Nat.zero_le _, fun np nnp => ?_⟩
      have g1 := Ex.new (o := .lst []) nnp
      refine ⟨.list (ss.map PyData.int), .list [], Dt.dp (dss.mono g1), Dt.dp (dt_nil upd_same), shaped_of lfs (Nat.le_trans (dep_ints ss) (by decide)), shaped_of nil_lf nil_dep, _, rfl, ?_⟩
      refine iteAny (fun hne => ?_) (fun _ => iteF ⟨_, _, _, pq, prs, rfl, x8.trans g1, dp.mono (e8.trans g1), pk, by omega, fun q hq => by have := ltp q hq; omega, nd⟩)
      have sne : 0 < ss.length := by
        cases ss with
        | nil => exact absurd hne (by simp [PyData.eqv, PyData.eqvAll])
        | cons a b => simp
      refine ⟨_, rfl, p, _, rfl, g1 _ _ (x8 _ _ hp3), by omega, by omega, fun d _ _ H9 e9 => ⟨_, _, rfl, rfl, _, rfl, iteAny (fun _ => ?_) (fun _ => ⟨_, _, _, pq, prs, rfl, x8.trans (g1.trans e9), dp.mono (e8.trans (g1.trans e9)), pk, by omega, fun q hq => by have := ltp q hq; omega, nd⟩)⟩⟩
      have g9 := g1.trans e9
      have x9 := x8.trans g9
      obtain ⟨_, es, hss⟩ := ints_at (dss.mono g9)
      cases es
      obtain ⟨ppx, pxs', epx, hpp, hpx'⟩ := dp.mono (e8.trans g9)
      cases epx
      refine ⟨_, rfl, _, rfl, _, rfl, _, rfl, p, sq, _, rfl, x9 _ _ hp3, hss, by rw [List.length_map]; exact sne, by rw [List.length_map]; omega, fun ix y hy H10 e10 => ⟨sz2, fun t1 n1 => ⟨sz1, fun l1 nl1 => ?_⟩⟩⟩
      rw [List.getElem?_map] at hy
      obtain ⟨z, hz, rfl⟩ := Option.map_eq_some_iff.mp hy
      have bz := fss z (List.mem_of_getElem? hz)
      have k1 := Ex.new (o := .tup [.int ((0 : Int) + i), .int z]) n1
      have k2 := Ex.new (o := .lst [.ref t1]) nl1
      have kk := e10.trans (k1.trans k2)
      have lpx : pxs'.length = prs.length := by rw [hpx'.length, List.length_map]
      refine ⟨pq, l1, pxs', [.ref t1], rfl, rfl, kk _ _ hpp, upd_same, by simp; omega, fun c1 nc1 => ?_⟩
      have k3 := Ex.new (o := .lst (pxs' ++ [.ref t1])) nc1
      refine ⟨_, _, _, c1, prs ++ [((0 : Int) + i, z)], rfl, x9.trans (kk.trans k3), dt_list upd_same ?_, ⟨by simp; omega, ?_, ?_⟩, by simp; omega, all_snoc (fun q hq => by have := ltp q hq; omega) (by dsimp only; omega), ?_⟩
      · rw [List.map_append]
        exact Dts.snoc (hand_mk ((k2.trans k3) _ _ upd_same)) (hpx'.mono (kk.trans k3))
      · rw [List.map_append]
        exact all_snoc pk.b1 ⟨by dsimp only; omega, by dsimp only; omega⟩
      · rw [List.map_append]
        exact all_snoc pk.b2 ⟨bz.1, bz.2.1⟩
      · rw [List.map_append, List.nodup_append]
        refine ⟨nd, by simp, fun a ha b hb => ?_⟩
        obtain ⟨q, hq, rfl⟩ := List.mem_map.mp ha
        have := ltp q hq
        simp at hb; omega
    rintro σ H7 ⟨va, v12, v19, pq, prs, rfl, e7, dp, pk, lpr, ltp, nd⟩
    have lpk := pk.len
    have mpos : (0 : Int) ≤ mn := by omega
    replace dw := dw.mono e7
    replace dv := dv.mono e7
    replace dr := dr.mono e7
    replace dl := dl.mono e7
    replace hwp := e7 _ _ hwp
    replace hvp := e7 _ _ hvp
    replace hpa := e7 _ _ hpa
    replace hqa := e7 _ _ hqa
    have hp := e7 _ _ hp3
    have tab := TabG.ex tab3 e7
    clear hp3 tab3 e7 dp0
    dsimp only
    -- held, due
    obtain ⟨_, ppx, epq, hpp, hpx⟩ := id dp
    cases epq
    refine ⟨_, rfl, pq, ppx, rfl, .inl (SqL.of hpp), fun hq0 nhq => ?_⟩
    have g1 := Ex.new (o := .lst ppx) nhq
    refine ⟨_, rfl, _, rfl, _, rfl, _, rfl, .ref wp, .ref vp, .ref pq, mn, wb, vb, prs, rfl, dw.mono g1, dv.mono g1, dp.mono g1, w7, v7, pk, mpos, by omega, fun H8 e8 => ⟨_, _, rfl, ?_⟩⟩
    have dh : Dt H7 (eHands prs) (.ref pq) := dp
    have dh8 : Dt H8 (eHands prs) (.ref hq0) := (dt_list upd_same (hpx.mono g1) : Dt (upd H7 hq0 (.lst ppx)) (eHands prs) (.ref hq0)).mono e8
    replace dw := dw.mono (g1.trans e8)
    replace dv := dv.mono (g1.trans e8)
    replace dr := dr.mono (g1.trans e8)
    replace dl := dl.mono (g1.trans e8)
    replace dp := dp.mono (g1.trans e8)
    replace dh := dh.mono (g1.trans e8)
    replace hwp := (g1.trans e8) _ _ hwp
    replace hvp := (g1.trans e8) _ _ hvp
    replace hpa := (g1.trans e8) _ _ hpa
    replace hqa := (g1.trans e8) _ _ hqa
    replace hp := (g1.trans e8) _ _ hp
    replace tab := TabG.ex tab (g1.trans e8)
    clear dh
    have dh := dh8
    clear dh8 g1 e8 nhq hpp hpx
    simp only [gName, tNext, List.set_cons_succ, List.set_cons_zero]
    have bs := bound_small (vb := vb) lpk wn mpos
    obtain ⟨D, hD⟩ : ∃ D, D = boundM wb vb prs mn := ⟨_, rfl⟩
    rw [← hD] at bs ⊢
    have lfD : Lf (.int D) := by show D.natAbs < 1000000; omega
    have dpD : (PyData.int D).depth ≤ 2 := by simp [PyData.depth]
    -- the bound, twice
    refine ⟨_, rfl, _, rfl, _, rfl, _, rfl, .ref wp, .ref vp, .ref pq, mn, wb, vb, prs, rfl, dw, dv, dp, w7, v7, pk, mpos, by omega, fun H9 e9 => ⟨_, rfl, ?_⟩⟩
    rw [← hD]
    dsimp only [tNil]
    refine p_same1 (d := .int D) rfl rfl lfD trivial dpD fun H10 e10 => ⟨_, rfl, iteF ?_⟩
    replace dw := dw.mono (e9.trans e10)
    replace dv := dv.mono (e9.trans e10)
    replace dr := dr.mono (e9.trans e10)
    replace dl := dl.mono (e9.trans e10)
    replace dp := dp.mono (e9.trans e10)
    replace dh := dh.mono (e9.trans e10)
    replace hwp := (e9.trans e10) _ _ hwp
    replace hvp := (e9.trans e10) _ _ hvp
    replace hpa := (e9.trans e10) _ _ hpa
    replace hqa := (e9.trans e10) _ _ hqa
    replace hp := (e9.trans e10) _ _ hp
    replace tab := TabG.ex tab (e9.trans e10)
    clear e9 e10
    simp only [gName, tNext, List.set_cons_succ, List.set_cons_zero]
    refine ⟨_, rfl, _, rfl, _, rfl, _, rfl, rfl, .ref wp, .ref vp, .ref pq, mn, wb, vb, prs, rfl, dw, dv, dp, w7, v7, pk, mpos, by omega, fun H9 e9 => ⟨_, rfl, ?_⟩⟩
    rw [← hD]
    dsimp only [tNil]
    refine p_same1 (d := .int D) rfl rfl lfD trivial dpD fun H11 e11 => ⟨_, rfl, iteF ?_⟩
    replace dw := dw.mono (e9.trans e11)
    replace dv := dv.mono (e9.trans e11)
    replace dr := dr.mono (e9.trans e11)
    replace dl := dl.mono (e9.trans e11)
    replace dp := dp.mono (e9.trans e11)
    replace dh := dh.mono (e9.trans e11)
    replace hwp := (e9.trans e11) _ _ hwp
    replace hvp := (e9.trans e11) _ _ hvp
    replace hpa := (e9.trans e11) _ _ hpa
    replace hqa := (e9.trans e11) _ _ hqa
    replace hp := (e9.trans e11) _ _ hp
    replace tab := TabG.ex tab (e9.trans e11)
    clear e9 e11
    simp only [gName, tNext, List.set_cons_succ, List.set_cons_zero]
    -- apart
    refine ⟨_, rfl, _, rfl, _, rfl, .ref wp, .ref pq, mn, wb, prs, rfl, dw, dp, w7, lpk, pk.b1, mpos, by omega, fun b H12 e12 hb => ?_⟩
    replace dw := dw.mono (e12)
    replace dv := dv.mono (e12)
    replace dr := dr.mono (e12)
    replace dl := dl.mono (e12)
    replace dp := dp.mono (e12)
    replace dh := dh.mono (e12)
    replace hwp := (e12) _ _ hwp
    replace hvp := (e12) _ _ hvp
    replace hpa := (e12) _ _ hpa
    replace hqa := (e12) _ _ hqa
    replace hp := (e12) _ _ hp
    replace tab := TabG.ex tab (e12)
    clear e12
    simp only [gName, tNext, List.set_cons_succ, List.set_cons_zero]
    have lfp := hands_lf wn vn pk.b1 pk.b2
    have ap := apart_same (prs := prs) (m := mn) w7.tok (fun t ht => (w7.ord t ht).1) pk.b1 mpos
    have beq : ∀ c : Bool, (c = true ↔ ApartP wb prs mn) → c = b := fun c h => by
      have : c = true ↔ b = true := h.trans (ap.trans hb.symm)
      cases c <;> cases b <;> simp_all
    refine ⟨_, rfl, _, rfl, _, rfl, .ref wp, .ref pq, mn, wb, prs, rfl, dw.hide (TabG.tb tab), dp.hide (TabG.tb tab), w7, lpk, pk.b1, lfp, tab, fun b1 H13 y13 h1 => ?_⟩
    rw [beq b1 h1]
    replace dw := (y13).dt tab dw
    replace dv := (y13).dt tab dv
    replace dr := (y13).dt tab dr
    replace dl := (y13).dt tab dl
    replace dp := (y13).dt tab dp
    replace dh := (y13).dt tab dh
    replace hwp := (y13).get (ne_tab (TabG.tb tab) hwp (fun _ z => by cases z)) hwp
    replace hvp := (y13).get (ne_tab (TabG.tb tab) hvp (fun _ z => by cases z)) hvp
    replace hpa := (y13).get (ne_tab (TabG.tb tab) hpa (fun _ z => by cases z)) hpa
    replace hqa := (y13).get (ne_tab (TabG.tb tab) hqa (fun _ z => by cases z)) hqa
    replace hp := (y13).get (ne_tab (TabG.tb tab) hp (fun _ z => by cases z)) hp
    replace tab := (y13).tab
    clear y13
    refine ⟨_, rfl, _, rfl, _, rfl, rfl, .ref wp, .ref pq, mn, wb, prs, rfl, dw.hide (TabG.tb tab), dp.hide (TabG.tb tab), w7, lpk, pk.b1, lfp, tab, fun b2 H14 y14 h2 => ⟨sz2, fun l1 nl1 => ?_⟩⟩
    rw [beq b2 h2]
    replace dw := (y14).dt tab dw
    replace dv := (y14).dt tab dv
    replace dr := (y14).dt tab dr
    replace dl := (y14).dt tab dl
    replace dp := (y14).dt tab dp
    replace dh := (y14).dt tab dh
    replace hwp := (y14).get (ne_tab (TabG.tb tab) hwp (fun _ z => by cases z)) hwp
    replace hvp := (y14).get (ne_tab (TabG.tb tab) hvp (fun _ z => by cases z)) hvp
    replace hpa := (y14).get (ne_tab (TabG.tb tab) hpa (fun _ z => by cases z)) hpa
    replace hqa := (y14).get (ne_tab (TabG.tb tab) hqa (fun _ z => by cases z)) hqa
    replace hp := (y14).get (ne_tab (TabG.tb tab) hp (fun _ z => by cases z)) hp
    replace tab := (y14).tab
    clear y14
    have g1 := Ex.new (o := .lst [.bl b, .bl b]) nl1
    have dl1 : Dt (upd H14 l1 (.lst [.bl b, .bl b])) (.list [.bool b, .bool b]) (.ref l1) := dt_list upd_same (Dts.mk2 rfl rfl)
    replace dw := dw.mono (g1)
    replace dv := dv.mono (g1)
    replace dr := dr.mono (g1)
    replace dl := dl.mono (g1)
    replace dp := dp.mono (g1)
    replace dh := dh.mono (g1)
    replace hwp := (g1) _ _ hwp
    replace hvp := (g1) _ _ hvp
    replace hpa := (g1) _ _ hpa
    replace hqa := (g1) _ _ hqa
    replace hp := (g1) _ _ hp
    replace tab := TabG.ex tab (g1)
    generalize upd H14 l1 (.lst [.bl b, .bl b]) = H15 at dw dv dr dl dp dh hwp hvp hpa hqa hp tab dl1 ⊢
    clear g1 nl1
    simp only [gName, tNext, List.set_cons_succ, List.set_cons_zero]
    refine ⟨_, rfl, _, rfl, _, rfl, sz2, fun l2 nl2 => ?_⟩
    have g1 := Ex.new (o := .lst [.bl b, .bl b]) nl2
    dsimp only [tNil]
    refine p_same1 (d := .list [.bool b, .bool b]) (dl1.mono g1) (dt_list upd_same (Dts.mk2 rfl rfl)) ⟨trivial, trivial, trivial⟩ ⟨by simp, trivial, trivial, trivial⟩ (by simp [PyData.depth, PyData.depthAll]) fun H16 e16 => ⟨_, rfl, iteF ?_⟩
    replace dw := dw.mono (g1.trans e16)
    replace dv := dv.mono (g1.trans e16)
    replace dr := dr.mono (g1.trans e16)
    replace dl := dl.mono (g1.trans e16)
    replace dp := dp.mono (g1.trans e16)
    replace dh := dh.mono (g1.trans e16)
    replace hwp := (g1.trans e16) _ _ hwp
    replace hvp := (g1.trans e16) _ _ hvp
    replace hpa := (g1.trans e16) _ _ hpa
    replace hqa := (g1.trans e16) _ _ hqa
    replace hp := (g1.trans e16) _ _ hp
    replace tab := TabG.ex tab (g1.trans e16)
    clear g1 e16 nl2 dl1
    simp only [gName, tNext, List.set_cons_succ, List.set_cons_zero]
    -- the next part's candidates
    refine ⟨fun σ' H' => ∃ v3 v12 : Option V, σ' = [some (.ref p), va, some (.bl b), v3, none, some (.ref wp), some (.ref vp), some rv, some lv, some (.str kept), some (.int mn), some (.ref pq), v12, some (.ref hq0), some (.int D), none, none, none, none, v19, none, none] ∧ Ex H16 H', ?_, ?_⟩
    · refine ⟨_, rfl, _, rfl, wp, _, 0, _, rfl, rfl, SqT.of hwp, rfl, pa, pxs, rfl, .inl (SqL.of hpa), _, _, rfl, rfl, _, rfl, iteAny (fun hlt => ?_) (fun _ => ⟨_, _, rfl, Ex.refl _⟩)⟩
      have hlt : mn < wb.parts.length := by have := of_decide_eq_true hlt; omega
      have ne : ∀ q ∈ prs, q.1 ≠ (mn : Int) := fun q hq => by have := ltp q hq; omega
      have lfit : (fitL wb vb prs mn vb.parts.length).length ≤ 30 := by
        rw [fitL]
        exact Nat.le_trans (List.length_filter_le _ _) (by simp; omega)
      have lff : Lf (eInts (fitL wb vb prs mn vb.parts.length)) := small_ints vn fun z hz => fit_below hz
      have shf : Shrt (eInts (fitL wb vb prs mn vb.parts.length)) := sh_ints (by omega)
      have dpf : (eInts (fitL wb vb prs mn vb.parts.length)).depth ≤ 2 := Nat.le_trans (dep_ints _) (by decide)
      refine ⟨_, rfl, _, rfl, _, rfl, _, rfl, .ref wp, .ref vp, .ref pq, mn, wb, vb, prs, rfl, dw, dv, dp, w7, v7, pk, mpos, by omega, fun q1 H17 e17 _ hq1 => ?_⟩
      simp only [gName, tNext, List.set_cons_succ, List.set_cons_zero]
      refine ⟨_, rfl, _, rfl, _, rfl, _, rfl, rfl, .ref wp, .ref vp, .ref pq, mn, wb, vb, prs, rfl, dw.mono e17, dv.mono e17, dp.mono e17, w7, v7, pk, mpos, by omega, fun q2 H18 e18 n2 hq2 => ?_⟩
      rw [cand_fit ne] at hq2
      simp only [gName, tNext, List.set_cons_succ, List.set_cons_zero]
      refine ⟨_, rfl, _, rfl, ?_⟩
      dsimp only [tNil]
      refine p_same1 (ints_mk hq2) (ints_mk (e18 _ _ hq1)) lff shf dpf fun H19 e19 => ⟨_, rfl, iteF ?_⟩
      simp only [gName, tNext, List.set_cons_succ, List.set_cons_zero]
      refine ⟨_, rfl, .inl ⟨rfl, _, SqL.of (e19 _ _ hq2)⟩, q2, _, _, rfl, rfl, e19 _ _ hq2, by rw [List.length_map]; omega, ?_⟩
      have m1 : Ex H17 (upd H19 q2 (.lst ((fitL wb vb prs mn vb.parts.length).map V.int ++ [.int 0]))) := Evl.Ex.mut (e18.trans e19) n2
      generalize upd H19 q2 (.lst ((fitL wb vb prs mn vb.parts.length).map V.int ++ [.int 0])) = H20 at m1 ⊢
      have m0 := e17.trans m1
      refine ⟨_, rfl, _, rfl, _, rfl, _, rfl, .ref wp, .ref vp, .ref pq, mn, wb, vb, prs, rfl, dw.mono m0, dv.mono m0, dp.mono m0, w7, v7, pk, mpos, by omega, fun q3 H21 e21 _ hq3 => ⟨_, rfl, ?_⟩⟩
      rw [cand_fit ne] at hq3
      dsimp only [tNil]
      exact p_same1 (ints_mk hq3) (ints_mk (e21 _ _ (m1 _ _ hq1))) lff shf dpf fun H22 e22 => ⟨_, rfl, iteF ⟨_, _, rfl, m0.trans (e21.trans e22)⟩⟩
    rintro σ' H17 ⟨v3, v12, rfl, e17⟩
    replace dw := dw.mono (e17)
    replace dv := dv.mono (e17)
    replace dr := dr.mono (e17)
    replace dl := dl.mono (e17)
    replace dp := dp.mono (e17)
    replace dh := dh.mono (e17)
    replace hwp := (e17) _ _ hwp
    replace hvp := (e17) _ _ hvp
    replace hpa := (e17) _ _ hpa
    replace hqa := (e17) _ _ hqa
    replace hp := (e17) _ _ hp
    replace tab := TabG.ex tab (e17)
    clear e17
    -- the bound by kinds
    refine ⟨_, rfl, _, rfl, Nat.zero_le _, fun np nnp => ⟨.ref wp, .ref vp, .ref np, 0, wb, vb, [], rfl, dw.mono (Ex.new nnp), dv.mono (Ex.new nnp), dt_nil upd_same, w7, v7, ⟨Nat.zero_le _, fun z h => (by cases h), fun z h => (by cases h)⟩, by omega, by omega, fun H18 e18 => ?_⟩⟩
    have bk := bound_small (wb := wb) (vb := vb) (prs := []) (m := 0) (Nat.zero_le _) wn (by omega)
    rw [bound_kinds] at bk ⊢
    replace dw := dw.mono ((Ex.new nnp).trans e18)
    replace dv := dv.mono ((Ex.new nnp).trans e18)
    replace dr := dr.mono ((Ex.new nnp).trans e18)
    replace dl := dl.mono ((Ex.new nnp).trans e18)
    replace dp := dp.mono ((Ex.new nnp).trans e18)
    replace dh := dh.mono ((Ex.new nnp).trans e18)
    replace hwp := ((Ex.new nnp).trans e18) _ _ hwp
    replace hvp := ((Ex.new nnp).trans e18) _ _ hvp
    replace hpa := ((Ex.new nnp).trans e18) _ _ hpa
    replace hqa := ((Ex.new nnp).trans e18) _ _ hqa
    replace hp := ((Ex.new nnp).trans e18) _ _ hp
    replace tab := TabG.ex tab ((Ex.new nnp).trans e18)
    clear e18 nnp
    simp only [gName, tNext, List.set_cons_succ, List.set_cons_zero]
    obtain ⟨kb, hkb⟩ : ∃ kb : Int, kb = (icD (wb.parts.map ePart) (vb.parts.map ePart) : Int) := ⟨_, rfl⟩
    rw [← hkb] at bk ⊢
    refine ⟨_, rfl, _, rfl, .ref wp, .ref vp, wb, vb, rfl, dw, dv, w7, v7, fun H19 e19 => ⟨_, rfl, _, rfl, rfl, .ref wp, .ref vp, wb, vb, rfl, dw.mono e19, dv.mono e19, w7, v7, fun H20 e20 => ⟨sz2, fun l1 nl1 => ?_⟩⟩⟩
    rw [← hkb]
    refine ⟨_, rfl, sz1, fun l2 nl2 => ⟨l2, 2, _, rfl, rfl, upd_same, by omega, by omega, (by show 1 * 2 ≤ sizeLine; omega), fun l3 nl3 => ?_⟩⟩
    dsimp only [tNil]
    have g1 := Ex.new (o := .lst [.int kb, .int kb]) nl1
    have g2 := Ex.new (o := .lst [.int kb]) nl2
    have g3 := Ex.new (o := .lst (List.replicate (2 : Int).toNat [V.int kb]).flatten) nl3
    refine p_same1 (d := .list [.int kb, .int kb]) (dt_list ((g2.trans g3) _ _ upd_same) (Dts.mk2 rfl rfl)) (dt_list upd_same (Dts.mk2 rfl rfl)) ⟨(by show kb.natAbs < 1000000; omega), (by show kb.natAbs < 1000000; omega), trivial⟩ ⟨by simp, trivial, trivial, trivial⟩ (by simp [PyData.depth, PyData.depthAll]) fun H21 e21 => ⟨_, rfl, iteF ?_⟩
    replace dw := dw.mono (e19.trans (e20.trans (g1.trans (g2.trans (g3.trans e21)))))
    replace dv := dv.mono (e19.trans (e20.trans (g1.trans (g2.trans (g3.trans e21)))))
    replace dr := dr.mono (e19.trans (e20.trans (g1.trans (g2.trans (g3.trans e21)))))
    replace dl := dl.mono (e19.trans (e20.trans (g1.trans (g2.trans (g3.trans e21)))))
    replace dp := dp.mono (e19.trans (e20.trans (g1.trans (g2.trans (g3.trans e21)))))
    replace dh := dh.mono (e19.trans (e20.trans (g1.trans (g2.trans (g3.trans e21)))))
    replace hwp := (e19.trans (e20.trans (g1.trans (g2.trans (g3.trans e21))))) _ _ hwp
    replace hvp := (e19.trans (e20.trans (g1.trans (g2.trans (g3.trans e21))))) _ _ hvp
    replace hpa := (e19.trans (e20.trans (g1.trans (g2.trans (g3.trans e21))))) _ _ hpa
    replace hqa := (e19.trans (e20.trans (g1.trans (g2.trans (g3.trans e21))))) _ _ hqa
    replace hp := (e19.trans (e20.trans (g1.trans (g2.trans (g3.trans e21))))) _ _ hp
    replace tab := TabG.ex tab (e19.trans (e20.trans (g1.trans (g2.trans (g3.trans e21)))))
    clear e19 e20 g1 g2 g3 e21 nl1 nl2 nl3
    simp only [gName, tNext, List.set_cons_succ, List.set_cons_zero]
    -- each part's class
    refine ⟨_, rfl, _, rfl, sz2, fun t1 n1 => ⟨_, rfl, _, rfl, sz2, fun t2 n2 => ⟨sz2, fun lp0 nlp => ⟨lp0, rfl, ⟨_, SqL.of upd_same⟩, ?_⟩⟩⟩⟩
    have g1 := Ex.new (o := .tup [.ref wp, rv]) n1
    have g2 := Ex.new (o := .tup [.ref vp, lv]) n2
    have g3 := Ex.new (o := .lst [.ref t1, .ref t2]) nlp
    have g := g1.trans (g2.trans g3)
    have ht1 := (g2.trans g3) _ _ (upd_same (H := H21) (a := t1) (o := .tup [.ref wp, rv]))
    have ht2 := g3 _ _ (upd_same (H := upd H21 t1 (.tup [.ref wp, rv])) (a := t2) (o := .tup [.ref vp, lv]))
    have hlp0 := upd_same (H := upd (upd H21 t1 (.tup [.ref wp, rv])) t2 (.tup [.ref vp, lv])) (a := lp0) (o := .lst [.ref t1, .ref t2])
    replace dw := dw.mono (g)
    replace dv := dv.mono (g)
    replace dr := dr.mono (g)
    replace dl := dl.mono (g)
    replace dp := dp.mono (g)
    replace dh := dh.mono (g)
    replace hwp := (g) _ _ hwp
    replace hvp := (g) _ _ hvp
    replace hpa := (g) _ _ hpa
    replace hqa := (g) _ _ hqa
    replace hp := (g) _ _ hp
    replace tab := TabG.ex tab (g)
    generalize upd (upd (upd H21 t1 (.tup [.ref wp, rv])) t2 (.tup [.ref vp, lv])) lp0 (.lst [.ref t1, .ref t2]) = Hb at dw dv dr dl dp dh hwp hvp hpa hqa hp tab ht1 ht2 hlp0 ⊢
    clear g g1 g2 g3 n1 n2 nlp
    have each : ∀ (i : Nat) (x : V), [V.ref t1, V.ref t2][i]? = some x → ∃ (q up : Addr) (tv : V) (ub : Web), x = .ref q ∧ Hb q = some (.tup [.ref up, tv]) ∧ Dt Hb (eWeb ub) (.ref up) ∧ Dt Hb (eNear (tabM ub.parts.length ub.ties)) tv ∧ G72 ub := fun i x h => by
      have mem := List.mem_of_getElem? h
      simp only [List.mem_cons, List.not_mem_nil, or_false] at mem
      rcases mem with rfl | rfl
      · exact ⟨t1, wp, rv, wb, rfl, ht1, dw, dr, gw⟩
      · exact ⟨t2, vp, lv, vb, rfl, ht2, dv, dl, gv⟩
    refine for_list (K := K) (a := lp0) (xs := [.ref t1, .ref t2]) (fun i σ H' => ∃ (v3 v12 v14 v15 v16 v17 v20 : Option V), σ = [some (.ref p), va, some (.bl b), v3, some (.int kb), some (.ref wp), some (.ref vp), some rv, some lv, some (.str kept), some (.int mn), some (.ref pq), v12, some (.ref hq0), v14, v15, v16, v17, none, v19, v20, none] ∧ Ex Hb H')
      ⟨_, _, _, _, _, _, _, rfl, Ex.refl _⟩ (fun i σ H' _ ⟨_, _, _, _, _, _, _, _, e⟩ => SqL.of (e _ _ hlp0)) ?_ ?_
    · rintro i x σ H22 hi ⟨v3, v12, v14, v15, v16, v17, v20, rfl, e22⟩
      obtain ⟨q, up, tv, ub, rfl, hq, du, dt, gu⟩ := each i x hi
      refine ⟨q, _, rfl, SqT.of (e22 _ _ hq), rfl, _, _, rfl, _, _, rfl, rfl, ?_⟩
      have u7 := gu.w
      have un := u7.pn
      have ut := u7.tn
      obtain ⟨_, pa', _, _, _, eup, hup, dup, _, _, _⟩ := web_at du
      cases eup
      obtain ⟨uxs, hpa', hux⟩ := Dt.list_at dup
      have lux : uxs.length = ub.parts.length := by rw [hux.length, List.length_map]
      simp only [gName, tNext, List.set_cons_succ, List.set_cons_zero]
      refine ⟨_, rfl, up, _, 0, _, rfl, rfl, SqT.of (e22 _ _ hup), rfl, pa', uxs, rfl, .inl (SqL.of (e22 _ _ hpa')), _, rfl, by omega, by omega, ?_⟩
      rw [lux]
      refine for_range (lo := 0) (n := ub.parts.length) (fun j σ H' => ∃ (v3 v12 v14 v17 v20 : Option V), σ = [some (.ref p), va, some (.bl b), v3, some (.int kb), some (.ref wp), some (.ref vp), some rv, some lv, some (.str kept), some (.int mn), some (.ref pq), v12, some (.ref hq0), v14, some (.ref up), some tv, v17, none, v19, v20, none] ∧ Ex Hb H')
        ⟨_, _, _, _, _, rfl, e22⟩ ?_ ?_
      · rintro j σ H23 hj ⟨v3, v12, v14, v17, v20, rfl, e23⟩
        refine go_sets (lcDRt H23 (lo := 0) (n := ub.parts.length) PyData.int (fun z => 0 ≤ z ∧ z < (ub.parts.length : Int)) (fun _ => True) (fun R r => ⟨_, rfl, up, _, 0, _, rfl, rfl, SqT.of (e23 _ _ hup), rfl, pa', uxs, rfl, .inl (SqL.of (e23 _ _ hpa')), _, rfl, by omega, by omega, by rw [lux]; exact r⟩) (by omega) (fun _ => rfl)
          (fun l G R hl eG r => ⟨_, rfl, _, rfl, rfl, _, rfl, iteAny (fun _ => ⟨_, rfl, p, _, rfl, (e23.trans eG) _ _ hp, by omega, by omega, fun d _ _ H' e => ⟨rfl, _, rfl, r _ _ e fun _ => trivial⟩⟩) (fun _ => r _ _ (Ex.refl _) fun _ => trivial)⟩) (fun l G R hl _ eG r => ⟨_, rfl, r _ _ _ (Ex.refl _) rfl ⟨by omega, by omega⟩⟩) fun sq ss H24 e24 _ dss fss lss => ?_)
        simp only [gName, tNext, List.set_cons_succ, List.set_cons_zero]
        obtain ⟨_, es, hss⟩ := ints_at (ns := ss) dss
        cases es
        refine ⟨fun v H' => (∃ (b2 : Addr) (ns : List Int), v = .ref b2 ∧ H' b2 = some (.lst (ns.map V.int)) ∧ (∀ z ∈ ns, 0 ≤ z ∧ z < (ub.parts.length : Int)) ∧ ns.length ≤ 30) ∧ Ex H24 H', ?_, ?_⟩
        · refine ⟨_, rfl, p, _, rfl, (e23.trans e24) _ _ hp, by omega, by omega, fun d _ _ H25 e25 => ⟨rfl, _, rfl, iteAny (fun _ => ?_) (fun _ => ?_)⟩⟩
          · exact ⟨_, rfl, sq, _, rfl, SqL.of (e25 _ _ hss), fun rq nrq => ⟨⟨rq, ss.reverse, rfl, by rw [List.map_reverse]; exact upd_same, fun z hz => fss z (List.mem_reverse.mp hz), by rw [List.length_reverse]; omega⟩, e25.trans (Ex.new nrq)⟩⟩
          · exact ⟨_, rfl, ⟨sq, ss, rfl, e25 _ _ hss, fss, by omega⟩, e25⟩
        rintro v H25 ⟨⟨b2, ns, rfl, hns, fns, lns⟩, e25⟩
        have x25 := e23.trans (e24.trans e25)
        have j0 : 0 ≤ (0 : Int) + j ∧ (0 : Int) + j < ub.parts.length := by omega
        obtain ⟨z, hz⟩ : ∃ z, z = (0 : Int) + j := ⟨_, rfl⟩
        rw [← hz] at j0 ⊢
        clear e23 e24 e25 hss dss
        simp only [gName, tNext, List.set_cons_succ, List.set_cons_zero]
        refine ⟨_, rfl, _, rfl, _, rfl, _, rfl, .ref up, tv, .ref b2, z, ub, ns, rfl, du.mono x25, dt.mono x25, ints_mk hns, j0.1, j0.2, fns, by omega, fun dv0 H26 e26 ddue => ⟨_, rfl, b2, _, rfl, .inl (SqL.of (e26 _ _ hns)), fun sq2 nsq => ⟨_, _, rfl, ?_⟩⟩⟩
        have g := Ex.new (o := .lst (ns.map V.int)) nsq
        have x26 := x25.trans (e26.trans g)
        have hns2 := g _ _ (e26 _ _ hns)
        have hsh := upd_same (H := H26) (a := sq2) (o := .lst (ns.map V.int))
        replace ddue := ddue.mono g
        generalize upd H26 sq2 (.lst (ns.map V.int)) = H27 at x26 hns2 hsh ddue ⊢
        clear g e26 nsq hns x25
        have lfc : Lf (eCls (clsM ub ns z)) := lf_cls (partM_fine u7.pf z) (cls_small u7 ns z)
        have shc : Shrt (eCls (clsM ub ns z)) := sh_cls (by simp [clsM, rowM]; omega)
        have dpc := dep_cls (clsM ub ns z)
        have lfn : Lf (eInts ns) := small_ints un fns
        have dpn := Nat.le_trans (dep_ints ns) (show 1 ≤ 32 by decide)
        have dpc2 := Nat.le_trans dpc (show 2 ≤ 32 by decide)
        simp only [gName, tNext, List.set_cons_succ, List.set_cons_zero]
        refine ⟨_, rfl, _, rfl, _, rfl, .ref up, .ref b2, z, ub, ns, rfl, du.mono x26, ints_mk hns2, by omega, by omega, u7.tok, j0.1, j0.2, fns, by omega, fun tp q2 H28 e28 nq2 htp hq2 => ?_⟩
        simp only [gName, tNext, List.set_cons_succ, List.set_cons_zero]
        refine ⟨_, rfl, _, rfl, ?_⟩
        dsimp only [tNil]
        refine p_same1 (cls_mk (c := clsM ub ns z) htp hq2) (ddue.mono e28) lfc shc dpc fun H29 e29 => ⟨_, rfl, iteF ?_⟩
        have x29 := e28.trans e29
        refine ⟨_, rfl, _, rfl, eInts ns, eInts ns, Dt.dp (ints_mk (x29 _ _ hns2)), Dt.dp (ints_mk (x29 _ _ hsh)), shaped_of lfn dpn, shaped_of lfn dpn, _, rfl, ?_⟩
        rw [eqv_self _ lfn]
        refine iteF ?_
        simp only [gName, tNext, List.set_cons_succ, List.set_cons_zero]
        have hq29 := e29 _ _ hq2
        refine ⟨_, rfl, tp, _, 2, _, rfl, rfl, SqT.of (e29 _ _ htp), rfl, .inl ⟨rfl, _, SqL.of hq29⟩, q2, _, _, rfl, rfl, hq29, by simp [clsM, rowM]; omega, ?_⟩
        have m1 : Ex H27 (upd H29 q2 (.lst ((clsM ub ns z).2.map V.int ++ [.int 0]))) := Evl.Ex.mut x29 nq2
        generalize upd H29 q2 (.lst ((clsM ub ns z).2.map V.int ++ [.int 0])) = H30 at m1 ⊢
        have x30 := x26.trans m1
        refine ⟨_, rfl, _, rfl, _, rfl, rfl, .ref up, .ref b2, z, ub, ns, rfl, du.mono x30, ints_mk (m1 _ _ hns2), by omega, by omega, u7.tok, j0.1, j0.2, fns, by omega, fun tp3 q3 H31 e31 nq3 htp3 hq3 => ?_⟩
        refine ⟨_, rfl, eCls (clsM ub ns z), eCls (clsM ub ns z), Dt.dp (cls_mk (c := clsM ub ns z) htp3 hq3), Dt.dp (ddue.mono (m1.trans e31)), shaped_of lfc dpc2, shaped_of lfc dpc2, _, rfl, ?_⟩
        rw [eqv_self _ lfc]
        have x31 := m1.trans e31
        refine iteF ⟨_, rfl, _, rfl, eInts ns, eInts ns, Dt.dp (ints_mk (x31 _ _ hns2)), Dt.dp (ints_mk (x31 _ _ hsh)), shaped_of lfn dpn, shaped_of lfn dpn, _, rfl, ?_⟩
        rw [eqv_self _ lfn]
        exact iteF ⟨_, _, _, _, _, rfl, x26.trans x31⟩
      · rintro σ H23 ⟨v3, v12, v14, v17, v20, rfl, e23⟩
        exact ⟨_, _, _, _, _, _, _, rfl, e23⟩
    rintro σ H22 ⟨v3, v12, v14, v15, v16, v17, v20, rfl, e22⟩
    replace dw := dw.mono (e22)
    replace dv := dv.mono (e22)
    replace dr := dr.mono (e22)
    replace dl := dl.mono (e22)
    replace dp := dp.mono (e22)
    replace dh := dh.mono (e22)
    replace hwp := (e22) _ _ hwp
    replace hvp := (e22) _ _ hvp
    replace hpa := (e22) _ _ hpa
    replace hqa := (e22) _ _ hqa
    replace hp := (e22) _ _ hp
    replace tab := TabG.ex tab (e22)
    clear e22 each ht1 ht2 hlp0
    dsimp only
    -- few parts: all rows that are made
    refine ⟨fun σ' H' => ∃ v18 : Option V, σ' = [some (.ref p), va, some (.bl b), v3, some (.int kb), some (.ref wp), some (.ref vp), some rv, some lv, some (.str kept), some (.int mn), some (.ref pq), v12, some (.ref hq0), v14, v15, v16, v17, v18, v19, v20, none] ∧ ExT tP H22 H', ?_, ?_⟩
    · refine ⟨_, rfl, wp, _, 0, _, rfl, rfl, SqT.of hwp, rfl, pa, pxs, rfl, .inl (SqL.of hpa), _, _, rfl, rfl, _, rfl, iteAny (fun h1 => ⟨_, rfl, vp, _, 0, _, rfl, rfl, SqT.of hvp, rfl, qa, qxs, rfl, .inl (SqL.of hqa), _, _, rfl, rfl, _, rfl, iteAny (fun h2 => ?_) (fun _ => ⟨_, rfl, ExT.of_ex (Ex.refl _) tab⟩)⟩) (fun _ => iteF ⟨_, rfl, ExT.of_ex (Ex.refl _) tab⟩)⟩
      have h1 := of_decide_eq_true h1
      have h2 := of_decide_eq_true h2
      refine ⟨_, rfl, _, rfl, _, rfl, _, rfl, .ref wp, .ref vp, .ref pq, mn, wb, vb, prs, rfl, dw, dv, dp, w7, v7, pk, mpos, by omega, by omega, by omega, by omega, fun mq rows H30 e30 dm fm r0 r1 => ?_⟩
      obtain ⟨mxs, hmq, hmx⟩ := Dt.list_at dm
      have lmx : mxs.length = rows.length := by rw [hmx.length, List.length_map]
      simp only [gName, tNext, List.set_cons_succ, List.set_cons_zero]
      -- no row is longer than the bound
      refine go_seq ?_
      dsimp only [tIfS, tTest, tOp]
      refine go_cb1 ?_
      refine lcDL H30 (a := mq) (xs := mxs) PyData.int (fun z => z ≤ D) (fun R r => ⟨_, rfl, mq, rfl, ⟨_, SqL.of hmq⟩, r⟩) hmq (by omega) (fun _ => rfl) (fun i x G R hi eG r => ?_) fun q ns H31 e31 _ dq fq lq2 => ?_
      · obtain ⟨row, hrow, dx⟩ := item' hmx hi
        obtain ⟨ra, rxs, rfl, hra, hrx⟩ := dx
        have lrx : rxs.length = row.length := by rw [hrx.length, List.length_map]
        have bd := (fm row (List.mem_of_getElem? hrow)).bound
        exact ⟨_, rfl, ra, rxs, rfl, .inl (SqL.of (eG _ _ hra)), r _ _ _ (Ex.refl _) rfl (by rw [lrx, hD]; exact bd)⟩
      obtain ⟨_, eq, hq⟩ := ints_at (ns := ns) dq
      cases eq
      refine ⟨q, ns, rfl, SqL.of hq, by omega, fun z hz _ => ?_⟩
      have x31 := e30.trans e31
      refine ⟨_, rfl, _, rfl, _, rfl, _, rfl, .ref wp, .ref vp, .ref pq, mn, wb, vb, prs, rfl, dw.mono x31, dv.mono x31, dp.mono x31, w7, v7, pk, mpos, by omega, fun H32 e32 => ⟨_, _, rfl, rfl, _, rfl, ?_⟩⟩
      rw [← hD, decide_eq_false (show ¬ D < z from by have := fq z hz; omega)]
      refine iteF ?_
      simp only [gName, tNext, List.set_cons_succ, List.set_cons_zero]
      have x32 := x31.trans e32
      have tab32 := TabG.ex tab x32
      -- apart: none is joined
      refine ⟨_, rfl, _, rfl, _, rfl, .ref wp, .ref pq, mn, wb, prs, rfl, (dw.mono x32).hide (TabG.tb tab32), (dp.mono x32).hide (TabG.tb tab32), w7, lpk, pk.b1, lfp, tab32, fun b3 H33 y33 h3 => ⟨_, rfl, iteAny (fun hb3 => ?_) (fun _ => ⟨_, rfl, (ExT.of_ex x32 tab).trans y33⟩)⟩⟩
      have isap := ap.mp (h3.mp hb3)
      have y := (ExT.of_ex x32 tab).trans y33
      have dm33 := y33.dt tab32 (dm.mono (e31.trans e32))
      obtain ⟨mys, hmq33, hmx33⟩ := Dt.list_at dm33
      have lmy : mys.length = rows.length := by rw [hmx33.length, List.length_map]
      have dr33 := y.dt tab dr
      refine go_cb1 ?_
      refine lcDL H33 (a := mq) (xs := mys) PyData.bool (fun c => c = false) (fun R r => ⟨_, rfl, mq, rfl, ⟨_, SqL.of hmq33⟩, r⟩) hmq33 (by omega) (fun _ => rfl) (fun i x G R hi eG r => ?_) fun q2 bs H34 e34 _ db fb _ => ?_
      · obtain ⟨row, hrow, dx⟩ := item' hmx33 hi
        obtain ⟨ra, rxs, rfl, hra, hrx⟩ := dx
        have lrx : rxs.length = row.length := by rw [hrx.length, List.length_map]
        have ext := fm row (List.mem_of_getElem? hrow)
        have nd2 := ext.nodup nd ltp
        have bel := ext.below pk.b1 mpos
        have bd := ext.bound
        rw [← hD] at bd
        refine ⟨_, rfl, ?_⟩
        refine lcPr G (fun p => .int p.1) (eG _ _ hra) (hrx.mono eG) (by omega) (fun R r => ⟨_, rfl, ra, rfl, ⟨_, SqL.of (eG _ _ hra)⟩, r⟩) (fun _ _ => rfl) (fun p hp G R eG kk => ⟨_, rfl, kk G (Ex.refl _)⟩) fun oa H35 e35 _ hoa => ?_
        refine ⟨rv, .ref oa, wb.parts.length, tabM wb.parts.length wb.ties, row.map (·.1), rfl, (dr33.mono eG).mono e35, ints_mk (by rw [List.map_map]; exact hoa), tabM_sqr _ _, bel, by rw [List.length_map]; omega, nd2, fun c H36 e36 hc => ?_⟩
        cases c with
        | false => exact r _ _ false (e35.trans e36) rfl rfl
        | true => exact (apart_unjoined isap ext (hc rfl)).elim
      · refine ⟨q2, bs, rfl, SqL.of (bools_at db), _, rfl, ?_⟩
        have an : bs.any id = false := by
          rw [List.any_eq_false]
          intro c hc
          rw [fb c hc]; decide
        rw [an]
        exact iteF ⟨_, rfl, y.trans (ExT.of_ex e34 y.tab)⟩
    rintro σ' H23 ⟨v18, rfl, y23⟩
    replace dw := (y23).dt tab dw
    replace dv := (y23).dt tab dv
    replace dr := (y23).dt tab dr
    replace dl := (y23).dt tab dl
    replace dp := (y23).dt tab dp
    replace dh := (y23).dt tab dh
    replace hwp := (y23).get (ne_tab (TabG.tb tab) hwp (fun _ z => by cases z)) hwp
    replace hvp := (y23).get (ne_tab (TabG.tb tab) hvp (fun _ z => by cases z)) hvp
    replace hpa := (y23).get (ne_tab (TabG.tb tab) hpa (fun _ z => by cases z)) hpa
    replace hqa := (y23).get (ne_tab (TabG.tb tab) hqa (fun _ z => by cases z)) hqa
    replace hp := (y23).get (ne_tab (TabG.tb tab) hp (fun _ z => by cases z)) hp
    replace tab := (y23).tab
    clear y23
    -- nothing was changed
    refine ⟨_, rfl, _, rfl, eHands prs, eHands prs, Dt.dp dp, Dt.dp dh, shaped_of lfp (dep_any dep_hand _), shaped_of lfp (dep_any dep_hand _), _, rfl, ?_⟩
    rw [eqv_self _ lfp]
    refine iteT ⟨_, rfl, _, rfl, sz2, fun t1 n1 => ?_⟩
    have g1 := Ex.new (o := .tup [.ref wp, .ref vp]) n1
    refine ⟨.ref t1, .tuple [eWeb wb, eWeb vb], rfl, ⟨t1, _, rfl, upd_same, Dts.mk2 (dw.mono g1) (dv.mono g1)⟩, rfl, sm2.fine, _, rfl, rfl, ?_⟩
    rw [hshown, decide_eq_true rfl]
    exact k _
/-! ### law -/
def p_law (K : PySem.W.Frag) (tP : Addr) : Sp3 := fun vs H Q => ∃ (a : Addr) (ns : List Int), vs = [.ref a] ∧ SqL K H a (ns.map V.int) ∧ GxR.TabG H tP ∧ ∀ H', Q (.bl true) H'
theorem d_law {f : Addr} {fd : FuncData} {tP : Addr} (F : Fun K "law" "law" slaw f fd) (hm : mg "law" = some (.ref f)) (T : Txt mg) (d_l_pot : Df P w K mg base 1 "_law_pot" ["_law_script", "_law_k"] (p_pot K))
    (d_l_right : Df P w K mg base 5 "_law_right" ["_law_pot_here"] (p_lright tP)) : Df P w K mg base 6 "law" ["_law_script"] (p_law K tP) := by
  refine Df.body F hm bilaw sclaw (fun vs H Q h => ?_) (fun cdv A outer s H vs Q hr h => ?_)
  · obtain ⟨a, ns, rfl, _⟩ := h; rfl
  · obtain ⟨a, ns, rfl, ha, tab, k⟩ := h
    refine ⟨_, (pss_one (ps_ret (pe_c3 d_l_right (hr.less (by decide)) rfl (pa_cons (pe_c3 d_l_pot (hr.less (by decide)) rfl (pa_cons (pv 0) (pa_cons pe_int pa_nil))) pa_nil)))), ?_⟩
    exact ⟨_, rfl, a, ns, 0, rfl, ha, by omega, fun p H1 e1 hp => ⟨p, rfl, hp, TabG.ex tab e1, fun H' => k H'⟩⟩
end
end W3

end
section
set_option Elab.async false
set_option linter.all false
set_option maxRecDepth 100000
set_option maxHeartbeats 4000000
namespace W3
open PySem PySem.Spec PyProof.Rows L2 M83 M72
/-! ### what the top has written -/
theorem walk_endC {l : PySem.W.OpenLaw} {n k : Nat} {q : Program} {loose : List Str} {XP : (Str → Option Value) → Heap → Prop} {YP : World → Heap → Prop} {d dg : DefRec} {gx : Str} {K : Params → PySem.W.Frag} {ps : List Str} {sp : PySem.W.Frag → Addr → Sp3} {c T : Addr}
    (hn : l.most = some n) (hn2 : n ≤ sizeLine) (hdf : d.params.defaults = []) (hr : RG k callerA) (hps : ps.length = 1) (hrec : (recsOf q).find? (fun e => e.name == gx) = some dg)
    (hY : ∀ (w : World) (h : Heap), YP w h → (K w.params).In h) (htab : ∀ w : World, PySem.W.tabIn (K w.params) gx = some (c, T)) (hnT : ∀ w : World, (K w.params).lookup T = none)
    (F : ∀ (w : World) (mg : Str → Option Value) (h : Heap), (K w.params).In h → h.Ns mainGlobals mg → ∀ base : Heap, (K w.params).In base → base.Ns mainGlobals mg → GxR.TabB base mg c T → Df l.prog w (K w.params) mg base k d.name ps (sp (K w.params) T))
    (hsp : ∀ (K : PySem.W.Frag) (T : Addr) (H : Hp) (a : Addr) (ns : List Int), ns.length ≤ n → SqL K H a (ns.map V.int) → GxR.TabG H T → sp K T [.ref a] H (fun v _ => v = .bl true)) :
    PySem.W.WalkO q loose XP YP l.row.toRowW d [] (fun f vs => PySem.call f vs) :=
  walk_endT (c := fun _ => c) (T := fun _ => T) hn hn2 hdf hr hps hrec hY htab hnT F hsp
theorem tab_mk {K : PySem.W.Frag} {x : Str} {f c P : Addr} {oc oc2 : Value} {od od2 : Option Addr} {fd : FuncData} {sl sl2 : Array (Option Value)} {vs : Array Value} (a : PySem.W.nsIn K mainGlobals x = some (some (.ref f)))
    (l : K.lookup f = some ⟨oc, od, .func fd, sl⟩) (hc : fd.code = .ref c) (l2 : K.lookup c = some ⟨oc2, od2, .fields vs, sl2⟩) (h : vs[11]? = some (.ref P)) : PySem.W.tabIn K x = some (c, P) := by
  unfold PySem.W.tabIn
  rw [a]
  simp only [l, hc, l2, h]
theorem all_mk {P : Program} {w : World} {K : PySem.W.Frag} {h base : Heap} {mg : Str → Option Value} {cA tP : Addr} {f1 f2 f3 f4 f5 f6 f7 f8 f9 f10 f11 f12 f13 f14 f15 f16 f17 f18 f19 f20 f21 f22 f23 f24 f25 f26 f27 f28 f29 f30 : Addr} (X : K.In h) (G : h.Ns mainGlobals mg) (TB : GxR.TabB base mg cA tP)
    {od1 an1 od2 an2 od3 an3 od4 an4 od5 an5 od6 an6 od7 an7 od8 an8 od9 an9 od10 an10 od11 an11 od12 an12 od13 an13 od14 an14 od15 an15 od16 an16 od17 an17 od18 an18 od19 an19 od20 an20 od21 an21 od22 an22 od23 an23 od24 an24 od25 an25 od26 an26 od27 an27 od28 an28 od29 an29 od30 an30 : Option Addr}
    {sl1 sl2 sl3 sl4 sl5 sl6 sl7 sl8 sl9 sl10 sl11 sl12 sl13 sl14 sl15 sl16 sl17 sl18 sl19 sl20 sl21 sl22 sl23 sl24 sl25 sl26 sl27 sl28 sl29 sl30 : Array (Option Value)}
    {oc1 kV1 dc1 pm1 ct1 cd1 oc2 kV2 dc2 pm2 ct2 cd2 oc3 kV3 dc3 pm3 ct3 cd3 oc4 kV4 dc4 pm4 ct4 cd4 oc5 kV5 dc5 pm5 ct5 cd5 oc6 kV6 dc6 pm6 ct6 cd6 oc7 kV7 dc7 pm7 ct7 cd7 oc8 kV8 dc8 pm8 ct8 cd8 oc9 kV9 dc9 pm9 ct9 cd9 oc10 kV10 dc10 pm10 ct10 oc11 kV11 dc11 pm11 ct11 cd11 oc12 kV12 dc12 pm12 ct12 cd12 oc13 kV13 dc13 pm13 ct13 cd13 oc14 kV14 dc14 pm14 ct14 cd14 oc15 kV15 dc15 pm15 ct15 cd15 oc16 kV16 dc16 pm16 ct16 cd16 oc17 kV17 dc17 pm17 ct17 cd17 oc18 kV18 dc18 pm18 ct18 cd18 oc19 kV19 dc19 pm19 ct19 cd19 oc20 kV20 dc20 pm20 ct20 cd20 oc21 kV21 dc21 pm21 ct21 cd21 oc22 kV22 dc22 pm22 ct22 cd22 oc23 kV23 dc23 pm23 ct23 cd23 oc24 kV24 dc24 pm24 ct24 cd24 oc25 kV25 dc25 pm25 ct25 cd25 oc26 kV26 dc26 pm26 ct26 cd26 oc27 kV27 dc27 pm27 ct27 cd27 oc28 kV28 dc28 pm28 ct28 cd28 oc29 kV29 dc29 pm29 ct29 cd29 oc30 kV30 dc30 pm30 ct30 cd30 : Value}
    (a1 : PySem.W.nsIn K mainGlobals "near_of" = some (some (.ref f1))) (l1 : K.lookup f1 = some ⟨oc1, od1, .func (PySem.W.fnOf "near_of" "near_of" (defArgs snear_of) (defBody snear_of) (defScope snear_of) .none kV1 dc1 pm1 an1 cd1 ct1), sl1⟩) (c1 : PySem.W.codeIn K cd1 "near_of" = true) (k1 : PySem.W.keepIn K (.ref f1) = true)
    (a2 : PySem.W.nsIn K mainGlobals "piece_of" = some (some (.ref f2))) (l2 : K.lookup f2 = some ⟨oc2, od2, .func (PySem.W.fnOf "piece_of" "piece_of" (defArgs spiece_of) (defBody spiece_of) (defScope spiece_of) .none kV2 dc2 pm2 an2 cd2 ct2), sl2⟩) (c2 : PySem.W.codeIn K cd2 "piece_of" = true) (k2 : PySem.W.keepIn K (.ref f2) = true)
    (a3 : PySem.W.nsIn K mainGlobals "orders_of" = some (some (.ref f3))) (l3 : K.lookup f3 = some ⟨oc3, od3, .func (PySem.W.fnOf "orders_of" "orders_of" (defArgs sorders_of) (defBody sorders_of) (defScope sorders_of) .none kV3 dc3 pm3 an3 cd3 ct3), sl3⟩) (c3 : PySem.W.codeIn K cd3 "orders_of" = true) (k3 : PySem.W.keepIn K (.ref f3) = true)
    (a4 : PySem.W.nsIn K mainGlobals "part_class" = some (some (.ref f4))) (l4 : K.lookup f4 = some ⟨oc4, od4, .func (PySem.W.fnOf "part_class" "part_class" (defArgs spart_class) (defBody spart_class) (defScope spart_class) .none kV4 dc4 pm4 an4 cd4 ct4), sl4⟩) (c4 : PySem.W.codeIn K cd4 "part_class" = true) (k4 : PySem.W.keepIn K (.ref f4) = true)
    (a5 : PySem.W.nsIn K mainGlobals "left_classes" = some (some (.ref f5))) (l5 : K.lookup f5 = some ⟨oc5, od5, .func (PySem.W.fnOf "left_classes" "left_classes" (defArgs sleft_classes) (defBody sleft_classes) (defScope sleft_classes) .none kV5 dc5 pm5 an5 cd5 ct5), sl5⟩) (c5 : PySem.W.codeIn K cd5 "left_classes" = true) (k5 : PySem.W.keepIn K (.ref f5) = true)
    (a6 : PySem.W.nsIn K mainGlobals "left_second" = some (some (.ref f6))) (l6 : K.lookup f6 = some ⟨oc6, od6, .func (PySem.W.fnOf "left_second" "left_second" (defArgs sleft_second) (defBody sleft_second) (defScope sleft_second) .none kV6 dc6 pm6 an6 cd6 ct6), sl6⟩) (c6 : PySem.W.codeIn K cd6 "left_second" = true) (k6 : PySem.W.keepIn K (.ref f6) = true)
    (a7 : PySem.W.nsIn K mainGlobals "shared" = some (some (.ref f7))) (l7 : K.lookup f7 = some ⟨oc7, od7, .func (PySem.W.fnOf "shared" "shared" (defArgs sshared) (defBody sshared) (defScope sshared) .none kV7 dc7 pm7 an7 cd7 ct7), sl7⟩) (c7 : PySem.W.codeIn K cd7 "shared" = true) (k7 : PySem.W.keepIn K (.ref f7) = true)
    (a8 : PySem.W.nsIn K mainGlobals "class_bound" = some (some (.ref f8))) (l8 : K.lookup f8 = some ⟨oc8, od8, .func (PySem.W.fnOf "class_bound" "class_bound" (defArgs sclass_bound) (defBody sclass_bound) (defScope sclass_bound) .none kV8 dc8 pm8 an8 cd8 ct8), sl8⟩) (c8 : PySem.W.codeIn K cd8 "class_bound" = true) (k8 : PySem.W.keepIn K (.ref f8) = true)
    (a9 : PySem.W.nsIn K mainGlobals "kind_bound" = some (some (.ref f9))) (l9 : K.lookup f9 = some ⟨oc9, od9, .func (PySem.W.fnOf "kind_bound" "kind_bound" (defArgs skind_bound) (defBody skind_bound) (defScope skind_bound) .none kV9 dc9 pm9 an9 cd9 ct9), sl9⟩) (c9 : PySem.W.codeIn K cd9 "kind_bound" = true) (k9 : PySem.W.keepIn K (.ref f9) = true)
    (a10 : PySem.W.nsIn K mainGlobals "is_apart" = some (some (.ref f10))) (l10 : K.lookup f10 = some ⟨oc10, od10, .func (PySem.W.fnOf "is_apart" "is_apart" (defArgs sis_apart) (defBody sis_apart) (defScope sis_apart) .none kV10 dc10 pm10 an10 (.ref cA) ct10), sl10⟩) (c10 : PySem.W.codeIn K (.ref cA) "is_apart" = true) (k10 : PySem.W.keepIn K (.ref f10) = true)
    (a11 : PySem.W.nsIn K mainGlobals "left_candidates" = some (some (.ref f11))) (l11 : K.lookup f11 = some ⟨oc11, od11, .func (PySem.W.fnOf "left_candidates" "left_candidates" (defArgs sleft_candidates) (defBody sleft_candidates) (defScope sleft_candidates) .none kV11 dc11 pm11 an11 cd11 ct11), sl11⟩) (c11 : PySem.W.codeIn K cd11 "left_candidates" = true) (k11 : PySem.W.keepIn K (.ref f11) = true)
    (a12 : PySem.W.nsIn K mainGlobals "_law_pot" = some (some (.ref f12))) (l12 : K.lookup f12 = some ⟨oc12, od12, .func (PySem.W.fnOf "_law_pot" "_law_pot" (defArgs sl_pot) (defBody sl_pot) (defScope sl_pot) .none kV12 dc12 pm12 an12 cd12 ct12), sl12⟩) (c12 : PySem.W.codeIn K cd12 "_law_pot" = true) (k12 : PySem.W.keepIn K (.ref f12) = true)
    (a13 : PySem.W.nsIn K mainGlobals "_law_draw" = some (some (.ref f13))) (l13 : K.lookup f13 = some ⟨oc13, od13, .func (PySem.W.fnOf "_law_draw" "_law_draw" (defArgs sl_draw) (defBody sl_draw) (defScope sl_draw) .none kV13 dc13 pm13 an13 cd13 ct13), sl13⟩) (c13 : PySem.W.codeIn K cd13 "_law_draw" = true) (k13 : PySem.W.keepIn K (.ref f13) = true)
    (a14 : PySem.W.nsIn K mainGlobals "_law_pick" = some (some (.ref f14))) (l14 : K.lookup f14 = some ⟨oc14, od14, .func (PySem.W.fnOf "_law_pick" "_law_pick" (defArgs sl_pick) (defBody sl_pick) (defScope sl_pick) .none kV14 dc14 pm14 an14 cd14 ct14), sl14⟩) (c14 : PySem.W.codeIn K cd14 "_law_pick" = true) (k14 : PySem.W.keepIn K (.ref f14) = true)
    (a15 : PySem.W.nsIn K mainGlobals "_law_same" = some (some (.ref f15))) (l15 : K.lookup f15 = some ⟨oc15, od15, .func (PySem.W.fnOf "_law_same" "_law_same" (defArgs sl_same) (defBody sl_same) (defScope sl_same) .none kV15 dc15 pm15 an15 cd15 ct15), sl15⟩) (c15 : PySem.W.codeIn K cd15 "_law_same" = true) (k15 : PySem.W.keepIn K (.ref f15) = true)
    (a16 : PySem.W.nsIn K mainGlobals "_law_shape" = some (some (.ref f16))) (l16 : K.lookup f16 = some ⟨oc16, od16, .func (PySem.W.fnOf "_law_shape" "_law_shape" (defArgs sl_shape) (defBody sl_shape) (defScope sl_shape) .none kV16 dc16 pm16 an16 cd16 ct16), sl16⟩) (c16 : PySem.W.codeIn K cd16 "_law_shape" = true) (k16 : PySem.W.keepIn K (.ref f16) = true)
    (a17 : PySem.W.nsIn K mainGlobals "_law_dressed" = some (some (.ref f17))) (l17 : K.lookup f17 = some ⟨oc17, od17, .func (PySem.W.fnOf "_law_dressed" "_law_dressed" (defArgs sl_dressed) (defBody sl_dressed) (defScope sl_dressed) .none kV17 dc17 pm17 an17 cd17 ct17), sl17⟩) (c17 : PySem.W.codeIn K cd17 "_law_dressed" = true) (k17 : PySem.W.keepIn K (.ref f17) = true)
    (a18 : PySem.W.nsIn K mainGlobals "_law_drawn_ties" = some (some (.ref f18))) (l18 : K.lookup f18 = some ⟨oc18, od18, .func (PySem.W.fnOf "_law_drawn_ties" "_law_drawn_ties" (defArgs sl_drawn_ties) (defBody sl_drawn_ties) (defScope sl_drawn_ties) .none kV18 dc18 pm18 an18 cd18 ct18), sl18⟩) (c18 : PySem.W.codeIn K cd18 "_law_drawn_ties" = true) (k18 : PySem.W.keepIn K (.ref f18) = true)
    (a19 : PySem.W.nsIn K mainGlobals "_law_two" = some (some (.ref f19))) (l19 : K.lookup f19 = some ⟨oc19, od19, .func (PySem.W.fnOf "_law_two" "_law_two" (defArgs sl_two) (defBody sl_two) (defScope sl_two) .none kV19 dc19 pm19 an19 cd19 ct19), sl19⟩) (c19 : PySem.W.codeIn K cd19 "_law_two" = true) (k19 : PySem.W.keepIn K (.ref f19) = true)
    (a20 : PySem.W.nsIn K mainGlobals "_law_orders" = some (some (.ref f20))) (l20 : K.lookup f20 = some ⟨oc20, od20, .func (PySem.W.fnOf "_law_orders" "_law_orders" (defArgs sl_orders) (defBody sl_orders) (defScope sl_orders) .none kV20 dc20 pm20 an20 cd20 ct20), sl20⟩) (c20 : PySem.W.codeIn K cd20 "_law_orders" = true) (k20 : PySem.W.keepIn K (.ref f20) = true)
    (a21 : PySem.W.nsIn K mainGlobals "_law_joined" = some (some (.ref f21))) (l21 : K.lookup f21 = some ⟨oc21, od21, .func (PySem.W.fnOf "_law_joined" "_law_joined" (defArgs sl_joined) (defBody sl_joined) (defScope sl_joined) .none kV21 dc21 pm21 an21 cd21 ct21), sl21⟩) (c21 : PySem.W.codeIn K cd21 "_law_joined" = true) (k21 : PySem.W.keepIn K (.ref f21) = true)
    (a22 : PySem.W.nsIn K mainGlobals "_law_fits" = some (some (.ref f22))) (l22 : K.lookup f22 = some ⟨oc22, od22, .func (PySem.W.fnOf "_law_fits" "_law_fits" (defArgs sl_fits) (defBody sl_fits) (defScope sl_fits) .none kV22 dc22 pm22 an22 cd22 ct22), sl22⟩) (c22 : PySem.W.codeIn K cd22 "_law_fits" = true) (k22 : PySem.W.keepIn K (.ref f22) = true)
    (a23 : PySem.W.nsIn K mainGlobals "_law_class" = some (some (.ref f23))) (l23 : K.lookup f23 = some ⟨oc23, od23, .func (PySem.W.fnOf "_law_class" "_law_class" (defArgs sl_class) (defBody sl_class) (defScope sl_class) .none kV23 dc23 pm23 an23 cd23 ct23), sl23⟩) (c23 : PySem.W.codeIn K cd23 "_law_class" = true) (k23 : PySem.W.keepIn K (.ref f23) = true)
    (a24 : PySem.W.nsIn K mainGlobals "_law_bound" = some (some (.ref f24))) (l24 : K.lookup f24 = some ⟨oc24, od24, .func (PySem.W.fnOf "_law_bound" "_law_bound" (defArgs sl_bound) (defBody sl_bound) (defScope sl_bound) .none kV24 dc24 pm24 an24 cd24 ct24), sl24⟩) (c24 : PySem.W.codeIn K cd24 "_law_bound" = true) (k24 : PySem.W.keepIn K (.ref f24) = true)
    (a25 : PySem.W.nsIn K mainGlobals "_law_apart" = some (some (.ref f25))) (l25 : K.lookup f25 = some ⟨oc25, od25, .func (PySem.W.fnOf "_law_apart" "_law_apart" (defArgs sl_apart) (defBody sl_apart) (defScope sl_apart) .none kV25 dc25 pm25 an25 cd25 ct25), sl25⟩) (c25 : PySem.W.codeIn K cd25 "_law_apart" = true) (k25 : PySem.W.keepIn K (.ref f25) = true)
    (a26 : PySem.W.nsIn K mainGlobals "_law_candidates" = some (some (.ref f26))) (l26 : K.lookup f26 = some ⟨oc26, od26, .func (PySem.W.fnOf "_law_candidates" "_law_candidates" (defArgs sl_candidates) (defBody sl_candidates) (defScope sl_candidates) .none kV26 dc26 pm26 an26 cd26 ct26), sl26⟩) (c26 : PySem.W.codeIn K cd26 "_law_candidates" = true) (k26 : PySem.W.keepIn K (.ref f26) = true)
    (a27 : PySem.W.nsIn K mainGlobals "_law_built" = some (some (.ref f27))) (l27 : K.lookup f27 = some ⟨oc27, od27, .func (PySem.W.fnOf "_law_built" "_law_built" (defArgs sl_built) (defBody sl_built) (defScope sl_built) .none kV27 dc27 pm27 an27 cd27 ct27), sl27⟩) (c27 : PySem.W.codeIn K cd27 "_law_built" = true) (k27 : PySem.W.keepIn K (.ref f27) = true)
    (a28 : PySem.W.nsIn K mainGlobals "_law_made" = some (some (.ref f28))) (l28 : K.lookup f28 = some ⟨oc28, od28, .func (PySem.W.fnOf "_law_made" "_law_made" (defArgs sl_made) (defBody sl_made) (defScope sl_made) .none kV28 dc28 pm28 an28 cd28 ct28), sl28⟩) (c28 : PySem.W.codeIn K cd28 "_law_made" = true) (k28 : PySem.W.keepIn K (.ref f28) = true)
    (a29 : PySem.W.nsIn K mainGlobals "_law_right" = some (some (.ref f29))) (l29 : K.lookup f29 = some ⟨oc29, od29, .func (PySem.W.fnOf "_law_right" "_law_right" (defArgs sl_right) (defBody sl_right) (defScope sl_right) .none kV29 dc29 pm29 an29 cd29 ct29), sl29⟩) (c29 : PySem.W.codeIn K cd29 "_law_right" = true) (k29 : PySem.W.keepIn K (.ref f29) = true)
    (a30 : PySem.W.nsIn K mainGlobals "law" = some (some (.ref f30))) (l30 : K.lookup f30 = some ⟨oc30, od30, .func (PySem.W.fnOf "law" "law" (defArgs slaw) (defBody slaw) (defScope slaw) .none kV30 dc30 pm30 an30 cd30 ct30), sl30⟩) (c30 : PySem.W.codeIn K cd30 "law" = true) (k30 : PySem.W.keepIn K (.ref f30) = true)
    (z_range : PySem.W.nsIn K mainGlobals "range" = some none) (z_abs : PySem.W.nsIn K mainGlobals "abs" = some none) (z_all : PySem.W.nsIn K mainGlobals "all" = some none) (z_any : PySem.W.nsIn K mainGlobals "any" = some none) (z_bool : PySem.W.nsIn K mainGlobals "bool" = some none) (z_divmod : PySem.W.nsIn K mainGlobals "divmod" = some none) (z_enumerate : PySem.W.nsIn K mainGlobals "enumerate" = some none) (z_int : PySem.W.nsIn K mainGlobals "int" = some none) (z_isinstance : PySem.W.nsIn K mainGlobals "isinstance" = some none) (z_len : PySem.W.nsIn K mainGlobals "len" = some none) (z_list : PySem.W.nsIn K mainGlobals "list" = some none) (z_max : PySem.W.nsIn K mainGlobals "max" = some none) (z_min : PySem.W.nsIn K mainGlobals "min" = some none) (z_repr : PySem.W.nsIn K mainGlobals "repr" = some none) (z_sorted : PySem.W.nsIn K mainGlobals "sorted" = some none) (z_tuple : PySem.W.nsIn K mainGlobals "tuple" = some none) (z_zip : PySem.W.nsIn K mainGlobals "zip" = some none) :
    Df P w K mg base 6 "law" ["_law_script"] (p_law K tP) := by
  have T : Txt mg := ⟨PySem.W.mg_none_of X G z_range, PySem.W.mg_none_of X G z_abs, PySem.W.mg_none_of X G z_all, PySem.W.mg_none_of X G z_any, PySem.W.mg_none_of X G z_bool, PySem.W.mg_none_of X G z_divmod, PySem.W.mg_none_of X G z_enumerate, PySem.W.mg_none_of X G z_int, PySem.W.mg_none_of X G z_isinstance, PySem.W.mg_none_of X G z_len, PySem.W.mg_none_of X G z_list, PySem.W.mg_none_of X G z_max, PySem.W.mg_none_of X G z_min, PySem.W.mg_none_of X G z_repr, PySem.W.mg_none_of X G z_sorted, PySem.W.mg_none_of X G z_tuple, PySem.W.mg_none_of X G z_zip⟩
  have d_near_of := W3.d_near_of (P := P) (w := w) (base := base) (fun_mk (st := snear_of) l1 c1 k1) (PySem.W.mg_of X G a1) T 
  have d_piece_of := W3.d_piece_of (P := P) (w := w) (base := base) (fun_mk (st := spiece_of) l2 c2 k2) (PySem.W.mg_of X G a2) T 
  have d_orders_of := W3.d_orders_of (P := P) (w := w) (base := base) (fun_mk (st := sorders_of) l3 c3 k3) (PySem.W.mg_of X G a3) T 
  have dk_part_class := W3.d_part_class (P := P) (w := w) (base := base) (fun_mk (st := spart_class) l4 c4 k4) (PySem.W.mg_of X G a4) T d_orders_of
  have d_part_class := dk_part_class.df
  have d_left_classes := W3.d_left_classes (P := P) (w := w) (base := base) (fun_mk (st := sleft_classes) l5 c5 k5) (PySem.W.mg_of X G a5) T d_orders_of
  have d_left_second := W3.d_left_second (P := P) (w := w) (base := base) (fun_mk (st := sleft_second) l6 c6 k6) (PySem.W.mg_of X G a6) T 
  have d_shared := W3.d_shared (P := P) (w := w) (base := base) (fun_mk (st := sshared) l7 c7 k7) (PySem.W.mg_of X G a7) T 
  have dk_class_bound := W3.d_class_bound (P := P) (w := w) (base := base) (fun_mk (st := sclass_bound) l8 c8 k8) (PySem.W.mg_of X G a8) T d_left_classes d_left_second d_shared
  have d_class_bound := dk_class_bound.df
  have dk_kind_bound := W3.d_kind_bound (P := P) (w := w) (base := base) (fun_mk (st := skind_bound) l9 c9 k9) (PySem.W.mg_of X G a9) T d_shared
  have d_kind_bound := dk_kind_bound.df
  have dk_is_apart := W3.d_test (P := P) (w := w) (base := base) (N := []) (PySem.W.mg_of X G a10) l10 c10 k10 T d_piece_of d_near_of TB
  have d_is_apart := dk_is_apart.df
  have dk_left_candidates := W3.d_left_candidates (P := P) (w := w) (base := base) (fun_mk (st := sleft_candidates) l11 c11 k11) (PySem.W.mg_of X G a11) T d_part_class d_left_second
  have d_left_candidates := dk_left_candidates.df
  have d_l_pot := W3.d_l_pot (P := P) (w := w) (base := base) (fun_mk (st := sl_pot) l12 c12 k12) (PySem.W.mg_of X G a12) T 
  have d_l_draw := W3.d_l_draw (P := P) (w := w) (base := base) (fun_mk (st := sl_draw) l13 c13 k13) (PySem.W.mg_of X G a13) T 
  have d_l_pick := W3.d_l_pick (P := P) (w := w) (base := base) (fun_mk (st := sl_pick) l14 c14 k14) (PySem.W.mg_of X G a14) T d_l_draw
  have d_l_same := W3.d_l_same (P := P) (w := w) (base := base) (fun_mk (st := sl_same) l15 c15 k15) (PySem.W.mg_of X G a15) T 3
  have d_l_shape := W3.d_l_shape (P := P) (w := w) (base := base) (fun_mk (st := sl_shape) l16 c16 k16) (PySem.W.mg_of X G a16) T d_l_draw d_l_pick
  have d_l_dressed := W3.d_l_dressed (P := P) (w := w) (base := base) (fun_mk (st := sl_dressed) l17 c17 k17) (PySem.W.mg_of X G a17) T d_l_draw d_l_pick
  have d_l_drawn_ties := W3.d_l_drawn_ties (P := P) (w := w) (base := base) (fun_mk (st := sl_drawn_ties) l18 c18 k18) (PySem.W.mg_of X G a18) T d_l_draw d_l_pick
  have d_l_two := W3.d_l_two (P := P) (w := w) (base := base) (fun_mk (st := sl_two) l19 c19 k19) (PySem.W.mg_of X G a19) T d_l_draw d_l_pick d_l_drawn_ties d_l_dressed
  have d_l_orders := W3.d_l_orders (P := P) (w := w) (base := base) (fun_mk (st := sl_orders) l20 c20 k20) (PySem.W.mg_of X G a20) T 
  have d_l_joined := W3.d_l_joined (P := P) (w := w) (base := base) (fun_mk (st := sl_joined) l21 c21 k21) (PySem.W.mg_of X G a21) T 
  have d_l_fits := W3.d_l_fits (P := P) (w := w) (base := base) (fun_mk (st := sl_fits) l22 c22 k22) (PySem.W.mg_of X G a22) T 
  have d_l_class := W3.d_l_class (P := P) (w := w) (base := base) (fun_mk (st := sl_class) l23 c23 k23) (PySem.W.mg_of X G a23) T 
  have d_l_bound := W3.d_l_bound (P := P) (w := w) (base := base) (fun_mk (st := sl_bound) l24 c24 k24) (PySem.W.mg_of X G a24) T d_l_orders d_l_class
  have d_l_apart := W3.d_l_apart (P := P) (w := w) (base := base) (fun_mk (st := sl_apart) l25 c25 k25) (PySem.W.mg_of X G a25) T d_l_orders
  have d_l_candidates := W3.d_l_candidates (P := P) (w := w) (base := base) (fun_mk (st := sl_candidates) l26 c26 k26) (PySem.W.mg_of X G a26) T d_l_orders d_l_fits
  have d_l_built := W3.d_l_built (P := P) (w := w) (base := base) (fun_mk (st := sl_built) l27 c27 k27) (PySem.W.mg_of X G a27) T d_l_draw d_l_shape d_l_dressed
  have d_l_made := W3.d_l_made (P := P) (w := w) (base := base) (fun_mk (st := sl_made) l28 c28 k28) (PySem.W.mg_of X G a28) T d_l_orders d_l_fits
  have d_l_right := W3.d_l_right (P := P) (w := w) (base := base) (fun_mk (st := sl_right) l29 c29 k29) (PySem.W.mg_of X G a29) T d_l_draw d_l_pick d_l_same d_l_two d_l_built d_l_orders d_l_fits d_l_bound d_l_apart d_l_candidates d_l_class d_l_made d_l_joined dk_class_bound dk_is_apart dk_left_candidates dk_kind_bound dk_part_class
  have d_law := W3.d_law (P := P) (w := w) (base := base) (fun_mk (st := slaw) l30 c30 k30) (PySem.W.mg_of X G a30) T d_l_pot d_l_right
  exact d_law
end W3

end
section
set_option Elab.async false
set_option maxRecDepth 100000
open PySem PySem.W PyProof.Rows in
set_option maxRecDepth 100000 in
set_option maxHeartbeats 0 in
theorem PySem.Challenge.cw_webnames_k72_whole_states_and_bounds_holds : PySem.Challenge.rw_webnames_k72_whole_states_and_bounds.Holds := by
  w_on; o_law; k_head; (case hw => w_witness2)
  k_fill
  refine' W3.walk_endC (l := PySem.Challenge.rw_webnames_k72_whole_states_and_bounds) (k := 6) (gx := "is_apart") (ps := ["_law_script"]) (sp := fun K T => W3.p_law K T) rfl (by decide) rfl ⟨⟨rfl, by decide, by decide⟩, rfl⟩ rfl rfl (fun w h Y => PySem.W.kIn_of Y) ?htab ?hnT ?F (fun K T H a ns _ hS hG => ⟨a, ns, rfl, hS, hG, fun _ => rfl⟩)
  case htab => intro w; refine' W3.tab_mk ?tb1 ?tb2 ?tb3 ?tb4 ?tb5; (case tb1 => k_is); (case tb2 => k_is); (case tb3 => rfl); (case tb4 => k_is); (case tb5 => rfl)
  case hnT => intro w; kernel_rfl
  case F =>
    intro w mg h KX G base _ _ TB
    refine' W3.all_mk KX G TB ?a1 ?l1 ?c1 ?k1 ?a2 ?l2 ?c2 ?k2 ?a3 ?l3 ?c3 ?k3 ?a4 ?l4 ?c4 ?k4 ?a5 ?l5 ?c5 ?k5 ?a6 ?l6 ?c6 ?k6 ?a7 ?l7 ?c7 ?k7 ?a8 ?l8 ?c8 ?k8 ?a9 ?l9 ?c9 ?k9 ?a10 ?l10 ?c10 ?k10 ?a11 ?l11 ?c11 ?k11 ?a12 ?l12 ?c12 ?k12 ?a13 ?l13 ?c13 ?k13 ?a14 ?l14 ?c14 ?k14 ?a15 ?l15 ?c15 ?k15 ?a16 ?l16 ?c16 ?k16 ?a17 ?l17 ?c17 ?k17 ?a18 ?l18 ?c18 ?k18 ?a19 ?l19 ?c19 ?k19 ?a20 ?l20 ?c20 ?k20 ?a21 ?l21 ?c21 ?k21 ?a22 ?l22 ?c22 ?k22 ?a23 ?l23 ?c23 ?k23 ?a24 ?l24 ?c24 ?k24 ?a25 ?l25 ?c25 ?k25 ?a26 ?l26 ?c26 ?k26 ?a27 ?l27 ?c27 ?k27 ?a28 ?l28 ?c28 ?k28 ?a29 ?l29 ?c29 ?k29 ?a30 ?l30 ?c30 ?k30 ?z_range ?z_abs ?z_all ?z_any ?z_bool ?z_divmod ?z_enumerate ?z_int ?z_isinstance ?z_len ?z_list ?z_max ?z_min ?z_repr ?z_sorted ?z_tuple ?z_zip
    (case a1 => k_is)
    (case l1 => k_is)
    (case c1 => k_is)
    (case k1 => k_is)
    (case a2 => k_is)
    (case l2 => k_is)
    (case c2 => k_is)
    (case k2 => k_is)
    (case a3 => k_is)
    (case l3 => k_is)
    (case c3 => k_is)
    (case k3 => k_is)
    (case a4 => k_is)
    (case l4 => k_is)
    (case c4 => k_is)
    (case k4 => k_is)
    (case a5 => k_is)
    (case l5 => k_is)
    (case c5 => k_is)
    (case k5 => k_is)
    (case a6 => k_is)
    (case l6 => k_is)
    (case c6 => k_is)
    (case k6 => k_is)
    (case a7 => k_is)
    (case l7 => k_is)
    (case c7 => k_is)
    (case k7 => k_is)
    (case a8 => k_is)
    (case l8 => k_is)
    (case c8 => k_is)
    (case k8 => k_is)
    (case a9 => k_is)
    (case l9 => k_is)
    (case c9 => k_is)
    (case k9 => k_is)
    (case a10 => k_is)
    (case l10 => k_is)
    (case c10 => k_is)
    (case k10 => k_is)
    (case a11 => k_is)
    (case l11 => k_is)
    (case c11 => k_is)
    (case k11 => k_is)
    (case a12 => k_is)
    (case l12 => k_is)
    (case c12 => k_is)
    (case k12 => k_is)
    (case a13 => k_is)
    (case l13 => k_is)
    (case c13 => k_is)
    (case k13 => k_is)
    (case a14 => k_is)
    (case l14 => k_is)
    (case c14 => k_is)
    (case k14 => k_is)
    (case a15 => k_is)
    (case l15 => k_is)
    (case c15 => k_is)
    (case k15 => k_is)
    (case a16 => k_is)
    (case l16 => k_is)
    (case c16 => k_is)
    (case k16 => k_is)
    (case a17 => k_is)
    (case l17 => k_is)
    (case c17 => k_is)
    (case k17 => k_is)
    (case a18 => k_is)
    (case l18 => k_is)
    (case c18 => k_is)
    (case k18 => k_is)
    (case a19 => k_is)
    (case l19 => k_is)
    (case c19 => k_is)
    (case k19 => k_is)
    (case a20 => k_is)
    (case l20 => k_is)
    (case c20 => k_is)
    (case k20 => k_is)
    (case a21 => k_is)
    (case l21 => k_is)
    (case c21 => k_is)
    (case k21 => k_is)
    (case a22 => k_is)
    (case l22 => k_is)
    (case c22 => k_is)
    (case k22 => k_is)
    (case a23 => k_is)
    (case l23 => k_is)
    (case c23 => k_is)
    (case k23 => k_is)
    (case a24 => k_is)
    (case l24 => k_is)
    (case c24 => k_is)
    (case k24 => k_is)
    (case a25 => k_is)
    (case l25 => k_is)
    (case c25 => k_is)
    (case k25 => k_is)
    (case a26 => k_is)
    (case l26 => k_is)
    (case c26 => k_is)
    (case k26 => k_is)
    (case a27 => k_is)
    (case l27 => k_is)
    (case c27 => k_is)
    (case k27 => k_is)
    (case a28 => k_is)
    (case l28 => k_is)
    (case c28 => k_is)
    (case k28 => k_is)
    (case a29 => k_is)
    (case l29 => k_is)
    (case c29 => k_is)
    (case k29 => k_is)
    (case a30 => k_is)
    (case l30 => k_is)
    (case c30 => k_is)
    (case k30 => k_is)
    (case z_range => k_is)
    (case z_abs => k_is)
    (case z_all => k_is)
    (case z_any => k_is)
    (case z_bool => k_is)
    (case z_divmod => k_is)
    (case z_enumerate => k_is)
    (case z_int => k_is)
    (case z_isinstance => k_is)
    (case z_len => k_is)
    (case z_list => k_is)
    (case z_max => k_is)
    (case z_min => k_is)
    (case z_repr => k_is)
    (case z_sorted => k_is)
    (case z_tuple => k_is)
    (case z_zip => k_is)

end
