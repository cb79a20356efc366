import PyProof.Rows.All
import Wide.All
import OpenK.AllK
import Wide.FinOn
import HandS.ForMost
import HandS.ForExc
import HandS.ExcInit
import HandS.More
import HandS.Conv
import HandS.TupAny
import HandS.Strs
import HandS.DictTup
import HandS.SetKeys
import KE.KDictKeyed
import KE.KDictDisplayH
import KE.SortData
import PySem.Challenge.RW_worldsay_k78_whole_who_sees_more
import HandS.Walk
import HandS.SetFor
set_option Elab.async false
set_option linter.all false
set_option maxRecDepth 100000
set_option maxHeartbeats 4000000
/-! ## data that stands in tuples, how the heap goes on, the tape -/
namespace Kn
open PySem L2

/-! ### the text by places -/
def top (i : Nat) : Stmt := PySem.Challenge.pw_worldsay_k78_whole_who_sees_more.main.body.getD i (.Pass ⟨0, 0, 0, 0⟩)

/-! ### data -/
/-- what stands in tuples within tuples; any: whatever it is -/
inductive D where
  | int (i : Int) | str (x : Str) | any | tup (ds : List D)

mutual
def Tr (H : Hp) : D → V → Prop
  | .int i, v => v = .int i
  | .str x, v => v = .str x
  | .any, _ => True
  | .tup ds, v => ∃ a vs, v = .ref a ∧ H a = some (.tup vs) ∧ TrL H ds vs
def TrL (H : Hp) : List D → List V → Prop
  | [], vs => vs = []
  | d :: ds, vs => ∃ v r, vs = v :: r ∧ Tr H d v ∧ TrL H ds r
end

/-- tuples stand -/
def Tk (H H' : Hp) : Prop := ∀ b xs, H b = some (.tup xs) → H' b = some (.tup xs)
theorem Tk.refl (H : Hp) : Tk H H := fun _ _ h => h
theorem Tk.trans {H H1 H2 : Hp} (a : Tk H H1) (b : Tk H1 H2) : Tk H H2 := fun c o h => b c o (a c o h)

mutual
theorem Tr.mono {H H' : Hp} (g : Tk H H') : ∀ (d : D) (v : V), Tr H d v → Tr H' d v
  | .int _, _, h => h
  | .str _, _, h => h
  | .any, _, _ => trivial
  | .tup ds, _, ⟨a, vs, e, h, t⟩ => ⟨a, vs, e, g a vs h, TrL.mono g ds vs t⟩
theorem TrL.mono {H H' : Hp} (g : Tk H H') : ∀ (ds : List D) (vs : List V), TrL H ds vs → TrL H' ds vs
  | [], _, h => h
  | d :: ds, _, ⟨v, r, e, h, t⟩ => ⟨v, r, e, Tr.mono g d v h, TrL.mono g ds r t⟩
end
theorem Tr.go {H H' : Hp} {d : D} {v : V} (h : Tr H d v) (g : Tk H H') : Tr H' d v := Tr.mono g d v h
theorem TrL.go {H H' : Hp} {ds : List D} {vs : List V} (h : TrL H ds vs) (g : Tk H H') : TrL H' ds vs := TrL.mono g ds vs h

section
variable {H : Hp}
theorem tr_int {i : Int} : Tr H (.int i) (.int i) := by unfold Tr; rfl
theorem tr_str {x : Str} : Tr H (.str x) (.str x) := by unfold Tr; rfl
theorem tr_any {v : V} : Tr H .any v := by unfold Tr; trivial
theorem tr_tup {ds : List D} {a : Addr} {vs : List V} (h : H a = some (.tup vs)) (t : TrL H ds vs) : Tr H (.tup ds) (.ref a) := by unfold Tr; exact ⟨a, vs, rfl, h, t⟩
theorem Tr.int_of {i : Int} {v : V} (h : Tr H (.int i) v) : v = .int i := by unfold Tr at h; exact h
theorem Tr.str_of {x : Str} {v : V} (h : Tr H (.str x) v) : v = .str x := by unfold Tr at h; exact h
theorem Tr.tup_of {ds : List D} {v : V} (h : Tr H (.tup ds) v) : ∃ a vs, v = .ref a ∧ H a = some (.tup vs) ∧ TrL H ds vs := by unfold Tr at h; exact h
theorem trl_nil : TrL H [] [] := by unfold TrL; rfl
theorem trl_cons {d : D} {v : V} {ds : List D} {vs : List V} (h : Tr H d v) (t : TrL H ds vs) : TrL H (d :: ds) (v :: vs) := by unfold TrL; exact ⟨v, vs, rfl, h, t⟩
theorem TrL.nil_of {vs : List V} (h : TrL H [] vs) : vs = [] := by unfold TrL at h; exact h
theorem TrL.cons_of {d : D} {ds : List D} {vs : List V} (h : TrL H (d :: ds) vs) : ∃ v r, vs = v :: r ∧ Tr H d v ∧ TrL H ds r := by unfold TrL at h; exact h
theorem TrL.two {d e : D} {vs : List V} (h : TrL H [d, e] vs) : ∃ v w, vs = [v, w] ∧ Tr H d v ∧ Tr H e w := by
  obtain ⟨v, r, rfl, h1, t⟩ := h.cons_of
  obtain ⟨w, r, rfl, h2, t⟩ := t.cons_of
  cases t.nil_of
  exact ⟨v, w, rfl, h1, h2⟩
theorem TrL.three {d e f : D} {vs : List V} (h : TrL H [d, e, f] vs) : ∃ v w x, vs = [v, w, x] ∧ Tr H d v ∧ Tr H e w ∧ Tr H f x := by
  obtain ⟨v, r, rfl, h1, t⟩ := h.cons_of
  obtain ⟨w, x, rfl, h2, h3⟩ := t.two
  exact ⟨v, w, x, rfl, h1, h2, h3⟩
theorem TrL.four {d e f g : D} {vs : List V} (h : TrL H [d, e, f, g] vs) : ∃ v w x y, vs = [v, w, x, y] ∧ Tr H d v ∧ Tr H e w ∧ Tr H f x ∧ Tr H g y := by
  obtain ⟨v, r, rfl, h1, t⟩ := h.cons_of
  obtain ⟨w, x, y, rfl, h2, h3, h4⟩ := t.three
  exact ⟨v, w, x, y, rfl, h1, h2, h3, h4⟩
theorem Tr.one {d : D} {v : V} (h : Tr H (.tup [d]) v) : ∃ a x, v = .ref a ∧ H a = some (.tup [x]) ∧ Tr H d x := by
  obtain ⟨a, vs, e, h1, t⟩ := h.tup_of
  obtain ⟨x, r, rfl, hx, t⟩ := t.cons_of
  cases t.nil_of
  exact ⟨a, x, e, h1, hx⟩
theorem Tr.two {d e : D} {v : V} (h : Tr H (.tup [d, e]) v) : ∃ a x y, v = .ref a ∧ H a = some (.tup [x, y]) ∧ Tr H d x ∧ Tr H e y := by
  obtain ⟨a, vs, e, h1, t⟩ := h.tup_of
  obtain ⟨x, y, rfl, hx, hy⟩ := t.two
  exact ⟨a, x, y, e, h1, hx, hy⟩
theorem Tr.three {d e f : D} {v : V} (h : Tr H (.tup [d, e, f]) v) : ∃ a x y z, v = .ref a ∧ H a = some (.tup [x, y, z]) ∧ Tr H d x ∧ Tr H e y ∧ Tr H f z := by
  obtain ⟨a, vs, e, h1, t⟩ := h.tup_of
  obtain ⟨x, y, z, rfl, hx, hy, hz⟩ := t.three
  exact ⟨a, x, y, z, e, h1, hx, hy, hz⟩
theorem Tr.four {d e f g : D} {v : V} (h : Tr H (.tup [d, e, f, g]) v) : ∃ a x y z w, v = .ref a ∧ H a = some (.tup [x, y, z, w]) ∧ Tr H d x ∧ Tr H e y ∧ Tr H f z ∧ Tr H g w := by
  obtain ⟨a, vs, e, h1, t⟩ := h.tup_of
  obtain ⟨x, y, z, w, rfl, hx, hy, hz, hw⟩ := t.four
  exact ⟨a, x, y, z, w, e, h1, hx, hy, hz, hw⟩
theorem tr2 {d e : D} {a : Addr} {x y : V} (h : H a = some (.tup [x, y])) (hx : Tr H d x) (hy : Tr H e y) : Tr H (.tup [d, e]) (.ref a) := tr_tup h (trl_cons hx (trl_cons hy trl_nil))
theorem tr1 {d : D} {a : Addr} {x : V} (h : H a = some (.tup [x])) (hx : Tr H d x) : Tr H (.tup [d]) (.ref a) := tr_tup h (trl_cons hx trl_nil)
theorem tr3 {d e f : D} {a : Addr} {x y z : V} (h : H a = some (.tup [x, y, z])) (hx : Tr H d x) (hy : Tr H e y) (hz : Tr H f z) : Tr H (.tup [d, e, f]) (.ref a) := tr_tup h (trl_cons hx (trl_cons hy (trl_cons hz trl_nil)))
theorem tr4 {d e f g : D} {a : Addr} {x y z w : V} (h : H a = some (.tup [x, y, z, w])) (hx : Tr H d x) (hy : Tr H e y) (hz : Tr H f z) (hw : Tr H g w) : Tr H (.tup [d, e, f, g]) (.ref a) :=
  tr_tup h (trl_cons hx (trl_cons hy (trl_cons hz (trl_cons hw trl_nil))))
theorem TrL.length : ∀ {ds : List D} {vs : List V}, TrL H ds vs → ds.length = vs.length
  | [], _, h => by cases h.nil_of; rfl
  | d :: ds, _, h => by
    obtain ⟨v, r, rfl, _, t⟩ := h.cons_of
    rw [List.length_cons, List.length_cons, TrL.length t]
theorem TrL.app : ∀ {ds es : List D} {vs ws : List V}, TrL H ds vs → TrL H es ws → TrL H (ds ++ es) (vs ++ ws)
  | [], _, _, _, h, k => by cases h.nil_of; exact k
  | d :: ds, _, _, _, h, k => by
    obtain ⟨v, r, rfl, a, t⟩ := h.cons_of
    exact trl_cons a (TrL.app t k)
theorem TrL.snoc {ds : List D} {vs : List V} {d : D} {v : V} (h : TrL H ds vs) (k : Tr H d v) : TrL H (ds ++ [d]) (vs ++ [v]) := h.app (trl_cons k trl_nil)
theorem TrL.get : ∀ {ds : List D} {vs : List V} {i : Nat} {v : V}, TrL H ds vs → vs[i]? = some v → ∃ d, ds[i]? = some d ∧ Tr H d v
  | [], _, _, _, h, e => by cases h.nil_of; simp at e
  | d :: ds, _, 0, v, h, e => by
    obtain ⟨w, r, rfl, a, t⟩ := h.cons_of
    have e' : w = v := by simpa using e
    exact ⟨d, rfl, e' ▸ a⟩
  | d :: ds, _, i + 1, v, h, e => by
    obtain ⟨w, r, rfl, a, t⟩ := h.cons_of
    obtain ⟨d', h1, h2⟩ := TrL.get (i := i) (v := v) t (by simpa using e)
    exact ⟨d', by simpa using h1, h2⟩
theorem TrL.get' {ds : List D} {vs : List V} {i : Nat} {d : D} (h : TrL H ds vs) (e : ds[i]? = some d) : ∃ v, vs[i]? = some v ∧ Tr H d v := by
  have hl := h.length
  obtain ⟨h1, e1⟩ := List.getElem?_eq_some_iff.mp e
  have h2 : i < vs.length := by omega
  obtain ⟨d', e2, t⟩ := h.get (i := i) (v := vs[i]) (List.getElem?_eq_getElem h2)
  rw [e] at e2
  cases e2
  exact ⟨vs[i], List.getElem?_eq_getElem h2, t⟩
theorem trl_ints : ∀ {ns : List Int}, TrL H (ns.map D.int) (ns.map V.int)
  | [] => trl_nil
  | n :: r => trl_cons tr_int trl_ints
theorem TrL.ints_of : ∀ {ns : List Int} {vs : List V}, TrL H (ns.map D.int) vs → vs = ns.map V.int
  | [], _, h => h.nil_of
  | n :: r, _, h => by
    obtain ⟨v, w, rfl, a, t⟩ := TrL.cons_of (d := .int n) (ds := r.map D.int) h
    rw [a.int_of, TrL.ints_of t]
    rfl
theorem trl_strs : ∀ {ns : List Str}, TrL H (ns.map D.str) (ns.map V.str)
  | [] => trl_nil
  | n :: r => trl_cons tr_str trl_strs
theorem TrL.strs_of : ∀ {ns : List Str} {vs : List V}, TrL H (ns.map D.str) vs → vs = ns.map V.str
  | [], _, h => h.nil_of
  | n :: r, _, h => by
    obtain ⟨v, w, rfl, a, t⟩ := TrL.cons_of (d := .str n) (ds := r.map D.str) h
    rw [a.str_of, TrL.strs_of t]
    rfl
theorem TrL.perm : ∀ {vs ws : List V}, ws.Perm vs → ∀ {ds : List D}, TrL H ds vs → ∃ es, es.Perm ds ∧ TrL H es ws := by
  intro vs ws p
  induction p with
  | nil =>
    intro ds h
    cases ds with
    | nil => exact ⟨[], .refl _, trl_nil⟩
    | cons d ds => obtain ⟨_, _, e, _⟩ := h.cons_of; cases e
  | cons x _ ih =>
    intro ds h
    cases ds with
    | nil => cases h.nil_of
    | cons d ds =>
      obtain ⟨v, r, e, a, t⟩ := h.cons_of
      cases e
      obtain ⟨es, p, q⟩ := ih t
      exact ⟨d :: es, p.cons _, trl_cons a q⟩
  | swap x y l =>
    intro ds h
    cases ds with
    | nil => cases h.nil_of
    | cons d ds =>
      obtain ⟨v, r, e, a, t⟩ := h.cons_of
      cases e
      cases ds with
      | nil => cases t.nil_of
      | cons d' ds =>
        obtain ⟨v, r, e, a', t⟩ := t.cons_of
        cases e
        exact ⟨d' :: d :: ds, .swap _ _ _, trl_cons a' (trl_cons a t)⟩
  | trans _ _ ih1 ih2 =>
    intro ds h
    obtain ⟨es, p, q⟩ := ih2 h
    obtain ⟨fs, p', q'⟩ := ih1 q
    exact ⟨fs, p'.trans p, q'⟩
end

/-! ### how the heap goes on: all but what S tells stands, tuples stand -/
structure Go (S : Addr → Prop) (H H' : Hp) : Prop where
  old : ∀ b o, ¬ S b → H b = some o → H' b = some o
  tk : Tk H H'
abbrev S0 : Addr → Prop := fun _ => False
section
variable {S S' : Addr → Prop} {H H1 H2 : Hp} {p : Addr} {o : HO}
theorem Go.refl : Go S H H := ⟨fun _ _ _ h => h, .refl _⟩
theorem Go.trans (a : Go S H H1) (b : Go S H1 H2) : Go S H H2 := ⟨fun c o n h => b.old c o n (a.old c o n h), a.tk.trans b.tk⟩
theorem Go.wk (a : Go S0 H H1) : Go S H H1 := ⟨fun c o _ h => a.old c o id h, a.tk⟩
theorem Go.new (h : H p = none) (o : HO) : Go S H (upd H p o) := ⟨fun b u _ q => by rw [upd_ne (ne_of_none q h)]; exact q, fun b u q => by rw [upd_ne (ne_of_none q h)]; exact q⟩
theorem Go.free (a : Go S0 H H1) (h : H1 p = none) : H p = none := by
  cases q : H p with
  | none => rfl
  | some u =>
    have z := a.old _ _ id q
    rw [h] at z
    cases z
/-- a thing is changed that stood nowhere at first -/
theorem Go.set (a : Go S H H1) (h : H p = none) (o : HO) : Go S H (upd H1 p o) :=
  ⟨fun b u n q => by rw [upd_ne (ne_of_none q h)]; exact a.old b u n q, fun b u q => by rw [upd_ne (ne_of_none q h)]; exact a.tk b u q⟩
/-- a list is changed that may be -/
theorem Go.put (hS : S p) {xs : List V} (h : H p = some (.lst xs)) (o : HO) : Go S H (upd H p o) :=
  ⟨fun b u n q => by rw [upd_ne (fun e => by subst e; exact n hS)]; exact q, fun b u q => by rw [upd_ne (fun e => by rw [e, h] at q; cases q)]; exact q⟩
theorem Tk.put {xs : List V} (h : H p = some (.lst xs)) (o : HO) : Tk H (upd H p o) := fun b u q => by rw [upd_ne (fun e => by rw [e, h] at q; cases q)]; exact q
theorem Tk.putK {kvs : List (Key × V)} (h : H p = some (.dK kvs)) (o : HO) : Tk H (upd H p o) := fun b u q => by rw [upd_ne (fun e => by rw [e, h] at q; cases q)]; exact q
theorem Tk.putT {kvs : List (List Key × V)} (h : H p = some (.dT kvs)) (o : HO) : Tk H (upd H p o) := fun b u q => by rw [upd_ne (fun e => by rw [e, h] at q; cases q)]; exact q
theorem Tk.new (h : H p = none) (o : HO) : Tk H (upd H p o) := fun b u q => by rw [upd_ne (ne_of_none q h)]; exact q
theorem Go.same (a : Go S0 H H1) : Same H H1 := fun b o h => a.old b o id h
theorem Same.gox (a : Same H H1) : Go S H H1 := ⟨fun b o _ h => a b o h, fun b xs h => a b _ h⟩
end

/-! ### the tape: the list [script, number of draws] -/
abbrev St1 (tp : Addr) : Addr → Prop := fun b => b = tp
structure Tape (K : PySem.W.Frag) (tp sa : Addr) (ns : List Int) (k : Int) (H : Hp) : Prop where
  lst : H tp = some (.lst [.ref sa, .int k])
  scr : ∀ H', Go (St1 tp) H H' → SqL K H' sa (ns.map V.int)
  small : ns.length ≤ 63
  pos : 0 ≤ k
section
variable {K : PySem.W.Frag} {tp sa : Addr} {ns : List Int} {k : Int} {H H' : Hp}
theorem Tape.go (t : Tape K tp sa ns k H) (g : Go S0 H H') : Tape K tp sa ns k H' := ⟨g.old _ _ id t.lst, fun H2 g2 => t.scr H2 ((Go.wk g).trans g2), t.small, t.pos⟩
theorem Tape.go' (t : Tape K tp sa ns k H) (g : Go (St1 tp) H H') (e : H' tp = H tp) : Tape K tp sa ns k H' := ⟨e.trans t.lst, fun H2 g2 => t.scr H2 (g.trans g2), t.small, t.pos⟩
theorem Tape.next (t : Tape K tp sa ns k H) : Tape K tp sa ns (k + 1) (upd H tp (.lst [.ref sa, .int (k + 1)])) :=
  ⟨upd_same, fun H2 g2 => t.scr H2 ((Go.put (S := St1 tp) rfl t.lst _).trans g2), t.small, by have := t.pos; omega⟩
end
end Kn
/-! ## the text, def by def (written by gentx.py) -/
namespace Kn
open PySem L2
/-- a def of the text as it stands behind the top -/
structure Df (K : PySem.W.Frag) (mg : Str → Option Value) (x : Str) (st : Stmt) where
  a : Addr
  m : mg x = some (.ref a)
  fd : FuncData
  F : Fun K x x st a fd
abbrev s_reckoned : Stmt := top 4
abbrev N_reckoned : List Str := ["reckoning", "values", "word", "parts", "one"]
abbrev P_reckoned : List Str := ["reckoning", "values"]
theorem sc_reckoned : FnScope N_reckoned P_reckoned (defScope s_reckoned) := ⟨rfl, rfl, rfl, by decide +kernel, rfl, by decide +kernel, by decide +kernel⟩
theorem b_reckoned {K : PySem.W.Frag} {mg : Str → Option Value} (d : Df K mg "reckoned" s_reckoned) : Binds K d.fd P_reckoned [] := d.F.binds (ps := P_reckoned) fun _ _ _ _ _ _ us hl => match us, hl with | [_, _], _ => rfl
abbrev s_first_state : Stmt := top 7
abbrev N_first_state : List Str := ["machine", "box"]
abbrev P_first_state : List Str := ["machine"]
theorem sc_first_state : FnScope N_first_state P_first_state (defScope s_first_state) := ⟨rfl, rfl, rfl, by decide +kernel, rfl, by decide +kernel, by decide +kernel⟩
theorem b_first_state {K : PySem.W.Frag} {mg : Str → Option Value} (d : Df K mg "first_state" s_first_state) : Binds K d.fd P_first_state [] := d.F.binds (ps := P_first_state) fun _ _ _ _ _ _ us hl => match us, hl with | [_], _ => rfl
abbrev s_values_of : Stmt := top 8
abbrev N_values_of : List Str := ["boxes", "state", "values", "k"]
abbrev P_values_of : List Str := ["boxes", "state"]
theorem sc_values_of : FnScope N_values_of P_values_of (defScope s_values_of) := ⟨rfl, rfl, rfl, by decide +kernel, rfl, by decide +kernel, by decide +kernel⟩
theorem b_values_of {K : PySem.W.Frag} {mg : Str → Option Value} (d : Df K mg "values_of" s_values_of) : Binds K d.fd P_values_of [] := d.F.binds (ps := P_values_of) fun _ _ _ _ _ _ us hl => match us, hl with | [_, _], _ => rfl
abbrev s_laid : Stmt := top 9
abbrev N_laid : List Str := ["boxes", "state", "lays", "values", "fresh", "name", "one", "told", "least", "greatest", "first"]
abbrev P_laid : List Str := ["boxes", "state", "lays"]
theorem sc_laid : FnScope N_laid P_laid (defScope s_laid) := ⟨rfl, rfl, rfl, by decide +kernel, rfl, by decide +kernel, by decide +kernel⟩
theorem b_laid {K : PySem.W.Frag} {mg : Str → Option Value} (d : Df K mg "laid" s_laid) : Binds K d.fd P_laid [] := d.F.binds (ps := P_laid) fun _ _ _ _ _ _ us hl => match us, hl with | [_, _, _], _ => rfl
abbrev s_done_at : Stmt := top 10
abbrev N_done_at : List Str := ["machine", "state", "number", "guard", "lays"]
abbrev P_done_at : List Str := ["machine", "state", "number"]
theorem sc_done_at : FnScope N_done_at P_done_at (defScope s_done_at) := ⟨rfl, rfl, rfl, by decide +kernel, rfl, by decide +kernel, by decide +kernel⟩
theorem b_done_at {K : PySem.W.Frag} {mg : Str → Option Value} (d : Df K mg "done_at" s_done_at) : Binds K d.fd P_done_at [] := d.F.binds (ps := P_done_at) fun _ _ _ _ _ _ us hl => match us, hl with | [_, _, _], _ => rfl
abbrev s_states_of : Stmt := top 11
abbrev N_states_of : List Str := ["machine", "states", "numbers", "moves", "goals", "k", "state"]
abbrev P_states_of : List Str := ["machine"]
theorem sc_states_of : FnScope N_states_of P_states_of (defScope s_states_of) := ⟨rfl, rfl, rfl, by decide +kernel, rfl, by decide +kernel, by decide +kernel⟩
theorem b_states_of {K : PySem.W.Frag} {mg : Str → Option Value} (d : Df K mg "states_of" s_states_of) : Binds K d.fd P_states_of [] := d.F.binds (ps := P_states_of) fun _ _ _ _ _ _ us hl => match us, hl with | [_], _ => rfl
abbrev s_parts_by : Stmt := top 12
abbrev N_parts_by : List Str := ["keys", "parts", "number", "one"]
abbrev P_parts_by : List Str := ["keys"]
theorem sc_parts_by : FnScope N_parts_by P_parts_by (defScope s_parts_by) := ⟨rfl, rfl, rfl, by decide +kernel, rfl, by decide +kernel, by decide +kernel⟩
theorem b_parts_by {K : PySem.W.Frag} {mg : Str → Option Value} (d : Df K mg "parts_by" s_parts_by) : Binds K d.fd P_parts_by [] := d.F.binds (ps := P_parts_by) fun _ _ _ _ _ _ us hl => match us, hl with | [_], _ => rfl
abbrev s_world_of : Stmt := top 13
abbrev N_world_of : List Str := ["machine", "states", "moves", "boxes", "lots", "state", "facts", "name", "reckoning", "k", "sights", "hand", "seen", "lot"]
abbrev P_world_of : List Str := ["machine"]
theorem sc_world_of : FnScope N_world_of P_world_of (defScope s_world_of) := ⟨rfl, rfl, rfl, by decide +kernel, rfl, by decide +kernel, by decide +kernel⟩
theorem b_world_of {K : PySem.W.Frag} {mg : Str → Option Value} (d : Df K mg "world_of" s_world_of) : Binds K d.fd P_world_of [] := d.F.binds (ps := P_world_of) fun _ _ _ _ _ _ us hl => match us, hl with | [_], _ => rfl
abbrev s_many_points : Stmt := top 15
abbrev N_many_points : List Str := ["world"]
abbrev P_many_points : List Str := ["world"]
theorem sc_many_points : FnScope N_many_points P_many_points (defScope s_many_points) := ⟨rfl, rfl, rfl, by decide +kernel, rfl, by decide +kernel, by decide +kernel⟩
theorem b_many_points {K : PySem.W.Frag} {mg : Str → Option Value} (d : Df K mg "many_points" s_many_points) : Binds K d.fd P_many_points [] := d.F.binds (ps := P_many_points) fun _ _ _ _ _ _ us hl => match us, hl with | [_], _ => rfl
abbrev s_points_of : Stmt := top 16
abbrev N_points_of : List Str := ["world", "name", "fact", "holding"]
abbrev P_points_of : List Str := ["world", "name"]
theorem sc_points_of : FnScope N_points_of P_points_of (defScope s_points_of) := ⟨rfl, rfl, rfl, by decide +kernel, rfl, by decide +kernel, by decide +kernel⟩
theorem b_points_of {K : PySem.W.Frag} {mg : Str → Option Value} (d : Df K mg "points_of" s_points_of) : Binds K d.fd P_points_of [] := d.F.binds (ps := P_points_of) fun _ _ _ _ _ _ us hl => match us, hl with | [_, _], _ => rfl
abbrev s_part_of : Stmt := top 17
abbrev N_part_of : List Str := ["world", "hand", "point", "name", "parts", "part"]
abbrev P_part_of : List Str := ["world", "hand", "point"]
theorem sc_part_of : FnScope N_part_of P_part_of (defScope s_part_of) := ⟨rfl, rfl, rfl, by decide +kernel, rfl, by decide +kernel, by decide +kernel⟩
theorem b_part_of {K : PySem.W.Frag} {mg : Str → Option Value} (d : Df K mg "part_of" s_part_of) : Binds K d.fd P_part_of [] := d.F.binds (ps := P_part_of) fun _ _ _ _ _ _ us hl => match us, hl with | [_, _, _], _ => rfl
abbrev s_led : Stmt := top 18
abbrev N_led : List Str := ["world", "step", "point", "everywhere", "other", "seen", "hand", "part"]
abbrev P_led : List Str := ["world", "step", "point"]
theorem sc_led : FnScope N_led P_led (defScope s_led) := ⟨rfl, rfl, rfl, by decide +kernel, rfl, by decide +kernel, by decide +kernel⟩
theorem b_led {K : PySem.W.Frag} {mg : Str → Option Value} (d : Df K mg "led" s_led) : Binds K d.fd P_led [] := d.F.binds (ps := P_led) fun _ _ _ _ _ _ us hl => match us, hl with | [_, _, _], _ => rfl
abbrev s_true_points : Stmt := top 22
abbrev N_true_points : List Str := ["truths", "point"]
abbrev P_true_points : List Str := ["truths"]
theorem sc_true_points : FnScope N_true_points P_true_points (defScope s_true_points) := ⟨rfl, rfl, rfl, by decide +kernel, rfl, by decide +kernel, by decide +kernel⟩
theorem b_true_points {K : PySem.W.Frag} {mg : Str → Option Value} (d : Df K mg "true_points" s_true_points) : Binds K d.fd P_true_points [] := d.F.binds (ps := P_true_points) fun _ _ _ _ _ _ us hl => match us, hl with | [_], _ => rfl
abbrev s_stepped : Stmt := top 24
abbrev N_stepped : List Str := ["world", "sentence", "truths", "word", "step", "found", "point", "ends", "other"]
abbrev P_stepped : List Str := ["world", "sentence", "truths"]
theorem sc_stepped : FnScope N_stepped P_stepped (defScope s_stepped) := ⟨rfl, rfl, rfl, by decide +kernel, rfl, by decide +kernel, by decide +kernel⟩
theorem b_stepped {K : PySem.W.Frag} {mg : Str → Option Value} (d : Df K mg "stepped" s_stepped) : Binds K d.fd P_stepped [] := d.F.binds (ps := P_stepped) fun _ _ _ _ _ _ us hl => match us, hl with | [_, _, _], _ => rfl
abbrev s_judged : Stmt := top 25
abbrev N_judged : List Str := ["world", "sentence", "wishes", "word", "points", "point", "shown", "one", "truth", "other", "first", "second"]
abbrev P_judged : List Str := ["world", "sentence", "wishes"]
theorem sc_judged : FnScope N_judged P_judged (defScope s_judged) := ⟨rfl, rfl, rfl, by decide +kernel, rfl, by decide +kernel, by decide +kernel⟩
theorem b_judged {K : PySem.W.Frag} {mg : Str → Option Value} (d : Df K mg "judged" s_judged) : Binds K d.fd P_judged [] := d.F.binds (ps := P_judged) fun _ _ _ _ _ _ us hl => match us, hl with | [_, _, _], _ => rfl
abbrev s_holds : Stmt := top 26
abbrev N_holds : List Str := ["world", "sentence"]
abbrev P_holds : List Str := ["world", "sentence"]
theorem sc_holds : FnScope N_holds P_holds (defScope s_holds) := ⟨rfl, rfl, rfl, by decide +kernel, rfl, by decide +kernel, by decide +kernel⟩
theorem b_holds {K : PySem.W.Frag} {mg : Str → Option Value} (d : Df K mg "holds" s_holds) : Binds K d.fd P_holds [] := d.F.binds (ps := P_holds) fun _ _ _ _ _ _ us hl => match us, hl with | [_, _], _ => rfl
abbrev s_cell_at : Stmt := top 28
abbrev N_cell_at : List Str := ["_law_script", "_law_k"]
abbrev P_cell_at : List Str := ["_law_script", "_law_k"]
theorem sc_cell_at : FnScope N_cell_at P_cell_at (defScope s_cell_at) := ⟨rfl, rfl, rfl, by decide +kernel, rfl, by decide +kernel, by decide +kernel⟩
theorem b_cell_at {K : PySem.W.Frag} {mg : Str → Option Value} (d : Df K mg "_law_cell_at" s_cell_at) : Binds K d.fd P_cell_at [] := d.F.binds (ps := P_cell_at) fun _ _ _ _ _ _ us hl => match us, hl with | [_, _], _ => rfl
abbrev s_by : Stmt := top 29
abbrev N_by : List Str := ["_law_script", "_law_k", "_law_many", "_law_cell", "_law_part", "_law_seed"]
abbrev P_by : List Str := ["_law_script", "_law_k", "_law_many"]
theorem sc_by : FnScope N_by P_by (defScope s_by) := ⟨rfl, rfl, rfl, by decide +kernel, rfl, by decide +kernel, by decide +kernel⟩
theorem b_by {K : PySem.W.Frag} {mg : Str → Option Value} (d : Df K mg "_law_by" s_by) : Binds K d.fd P_by [] := d.F.binds (ps := P_by) fun _ _ _ _ _ _ us hl => match us, hl with | [_, _, _], _ => rfl
abbrev s_next : Stmt := top 30
abbrev N_next : List Str := ["_law_tape", "_law_many"]
abbrev P_next : List Str := ["_law_tape", "_law_many"]
theorem sc_next : FnScope N_next P_next (defScope s_next) := ⟨rfl, rfl, rfl, by decide +kernel, rfl, by decide +kernel, by decide +kernel⟩
theorem b_next {K : PySem.W.Frag} {mg : Str → Option Value} (d : Df K mg "_law_next" s_next) : Binds K d.fd P_next [] := d.F.binds (ps := P_next) fun _ _ _ _ _ _ us hl => match us, hl with | [_, _], _ => rfl
abbrev s_number : Stmt := top 31
abbrev N_number : List Str := ["_law_tape", "_law_way"]
abbrev P_number : List Str := ["_law_tape"]
theorem sc_number : FnScope N_number P_number (defScope s_number) := ⟨rfl, rfl, rfl, by decide +kernel, rfl, by decide +kernel, by decide +kernel⟩
theorem b_number {K : PySem.W.Frag} {mg : Str → Option Value} (d : Df K mg "_law_number" s_number) : Binds K d.fd P_number [] := d.F.binds (ps := P_number) fun _ _ _ _ _ _ us hl => match us, hl with | [_], _ => rfl
abbrev s_sum : Stmt := top 32
abbrev N_sum : List Str := ["_law_tape", "_law_names_here", "_law_deep", "_law_way", "_law_word", "_law_many", "_law_k"]
abbrev P_sum : List Str := ["_law_tape", "_law_names_here", "_law_deep"]
theorem sc_sum : FnScope N_sum P_sum (defScope s_sum) := ⟨rfl, rfl, rfl, by decide +kernel, rfl, by decide +kernel, by decide +kernel⟩
theorem b_sum {K : PySem.W.Frag} {mg : Str → Option Value} (d : Df K mg "_law_sum" s_sum) : Binds K d.fd P_sum [] := d.F.binds (ps := P_sum) fun _ _ _ _ _ _ us hl => match us, hl with | [_, _, _], _ => rfl
abbrev s_names : Stmt := top 33
abbrev N_names : List Str := ["_law_tape", "_law_many", "_law_pool", "_law_start", "_law_step", "_law_k"]
abbrev P_names : List Str := ["_law_tape", "_law_many"]
theorem sc_names : FnScope N_names P_names (defScope s_names) := ⟨rfl, rfl, rfl, by decide +kernel, rfl, by decide +kernel, by decide +kernel⟩
theorem b_names {K : PySem.W.Frag} {mg : Str → Option Value} (d : Df K mg "_law_names" s_names) : Binds K d.fd P_names [] := d.F.binds (ps := P_names) fun _ _ _ _ _ _ us hl => match us, hl with | [_, _], _ => rfl
abbrev s_box : Stmt := top 34
abbrev N_box : List Str := ["_law_tape", "_law_name", "_law_least", "_law_greatest"]
abbrev P_box : List Str := ["_law_tape", "_law_name"]
theorem sc_box : FnScope N_box P_box (defScope s_box) := ⟨rfl, rfl, rfl, by decide +kernel, rfl, by decide +kernel, by decide +kernel⟩
theorem b_box {K : PySem.W.Frag} {mg : Str → Option Value} (d : Df K mg "_law_box" s_box) : Binds K d.fd P_box [] := d.F.binds (ps := P_box) fun _ _ _ _ _ _ us hl => match us, hl with | [_, _], _ => rfl
abbrev s_some_names : Stmt := top 35
abbrev N_some_names : List Str := ["_law_tape", "_law_names_here", "_law_name"]
abbrev P_some_names : List Str := ["_law_tape", "_law_names_here"]
theorem sc_some_names : FnScope N_some_names P_some_names (defScope s_some_names) := ⟨rfl, rfl, rfl, by decide +kernel, rfl, by decide +kernel, by decide +kernel⟩
theorem b_some_names {K : PySem.W.Frag} {mg : Str → Option Value} (d : Df K mg "_law_some_names" s_some_names) : Binds K d.fd P_some_names [] := d.F.binds (ps := P_some_names) fun _ _ _ _ _ _ us hl => match us, hl with | [_, _], _ => rfl
abbrev s_deed : Stmt := top 36
abbrev N_deed : List Str := ["_law_tape", "_law_names_here", "_law_lays", "_law_name"]
abbrev P_deed : List Str := ["_law_tape", "_law_names_here"]
theorem sc_deed : FnScope N_deed P_deed (defScope s_deed) := ⟨rfl, rfl, rfl, by decide +kernel, rfl, by decide +kernel, by decide +kernel⟩
theorem b_deed {K : PySem.W.Frag} {mg : Str → Option Value} (d : Df K mg "_law_deed" s_deed) : Binds K d.fd P_deed [] := d.F.binds (ps := P_deed) fun _ _ _ _ _ _ us hl => match us, hl with | [_, _], _ => rfl
abbrev s_machine : Stmt := top 37
abbrev N_machine : List Str := ["_law_tape", "_law_names_here", "_law_boxes", "_law_name", "_law_hands", "_law_hand", "_law_deeds", "_law_k", "_law_facts"]
abbrev P_machine : List Str := ["_law_tape"]
theorem sc_machine : FnScope N_machine P_machine (defScope s_machine) := ⟨rfl, rfl, rfl, by decide +kernel, rfl, by decide +kernel, by decide +kernel⟩
theorem b_machine {K : PySem.W.Frag} {mg : Str → Option Value} (d : Df K mg "_law_machine" s_machine) : Binds K d.fd P_machine [] := d.F.binds (ps := P_machine) fun _ _ _ _ _ _ us hl => match us, hl with | [_], _ => rfl
abbrev s_told : Stmt := top 38
abbrev N_told : List Str := ["_law_machine_here", "_law_told_here"]
abbrev P_told : List Str := ["_law_machine_here"]
theorem sc_told : FnScope N_told P_told (defScope s_told) := ⟨rfl, rfl, rfl, by decide +kernel, rfl, by decide +kernel, by decide +kernel⟩
theorem b_told {K : PySem.W.Frag} {mg : Str → Option Value} (d : Df K mg "_law_told" s_told) : Binds K d.fd P_told [] := d.F.binds (ps := P_told) fun _ _ _ _ _ _ us hl => match us, hl with | [_], _ => rfl
abbrev s_knows : Stmt := top 39
abbrev N_knows : List Str := ["_law_world", "_law_hand", "_law_sentence"]
abbrev P_knows : List Str := ["_law_world", "_law_hand", "_law_sentence"]
theorem sc_knows : FnScope N_knows P_knows (defScope s_knows) := ⟨rfl, rfl, rfl, by decide +kernel, rfl, by decide +kernel, by decide +kernel⟩
theorem b_knows {K : PySem.W.Frag} {mg : Str → Option Value} (d : Df K mg "_law_knows" s_knows) : Binds K d.fd P_knows [] := d.F.binds (ps := P_knows) fun _ _ _ _ _ _ us hl => match us, hl with | [_, _, _], _ => rfl
abbrev s_fact_right : Stmt := top 40
abbrev N_fact_right : List Str := ["_law_world", "_law_many", "_law_fact", "_law_sentence", "_law_there", "_law_more", "_law_k"]
abbrev P_fact_right : List Str := ["_law_world", "_law_many", "_law_fact"]
theorem sc_fact_right : FnScope N_fact_right P_fact_right (defScope s_fact_right) := ⟨rfl, rfl, rfl, by decide +kernel, rfl, by decide +kernel, by decide +kernel⟩
theorem b_fact_right {K : PySem.W.Frag} {mg : Str → Option Value} (d : Df K mg "_law_fact_right" s_fact_right) : Binds K d.fd P_fact_right [] := d.F.binds (ps := P_fact_right) fun _ _ _ _ _ _ us hl => match us, hl with | [_, _, _], _ => rfl
abbrev s_law : Stmt := top 41
abbrev N_law : List Str := ["_law_script", "_law_tape", "_law_boxes", "_law_hands", "_law_deeds", "_law_facts", "_law_names_here", "_law_box_here", "_law_some", "_law_more", "_law_told_here", "_law_world", "_law_states", "_law_many", "_law_name", "_law_one", "_law_deep", "_law_hand", "_law_seen", "_law_known", "_law_met", "_law_k", "_law_key"]
abbrev P_law : List Str := ["_law_script"]
theorem sc_law : FnScope N_law P_law (defScope s_law) := ⟨rfl, rfl, rfl, by decide +kernel, rfl, by decide +kernel, by decide +kernel⟩
theorem b_law {K : PySem.W.Frag} {mg : Str → Option Value} (d : Df K mg "law" s_law) : Binds K d.fd P_law [] := d.F.binds (ps := P_law) fun _ _ _ _ _ _ us hl => match us, hl with | [_], _ => rfl
/-- what the top has written -/
structure Tx (K : PySem.W.Frag) (mg : Str → Option Value) where
  d_reckoned : Df K mg "reckoned" s_reckoned
  d_first_state : Df K mg "first_state" s_first_state
  d_values_of : Df K mg "values_of" s_values_of
  d_laid : Df K mg "laid" s_laid
  d_done_at : Df K mg "done_at" s_done_at
  d_states_of : Df K mg "states_of" s_states_of
  d_parts_by : Df K mg "parts_by" s_parts_by
  d_world_of : Df K mg "world_of" s_world_of
  d_many_points : Df K mg "many_points" s_many_points
  d_points_of : Df K mg "points_of" s_points_of
  d_part_of : Df K mg "part_of" s_part_of
  d_led : Df K mg "led" s_led
  d_true_points : Df K mg "true_points" s_true_points
  d_stepped : Df K mg "stepped" s_stepped
  d_judged : Df K mg "judged" s_judged
  d_holds : Df K mg "holds" s_holds
  d_cell_at : Df K mg "_law_cell_at" s_cell_at
  d_by : Df K mg "_law_by" s_by
  d_next : Df K mg "_law_next" s_next
  d_number : Df K mg "_law_number" s_number
  d_sum : Df K mg "_law_sum" s_sum
  d_names : Df K mg "_law_names" s_names
  d_box : Df K mg "_law_box" s_box
  d_some_names : Df K mg "_law_some_names" s_some_names
  d_deed : Df K mg "_law_deed" s_deed
  d_machine : Df K mg "_law_machine" s_machine
  d_told : Df K mg "_law_told" s_told
  d_knows : Df K mg "_law_knows" s_knows
  d_fact_right : Df K mg "_law_fact_right" s_fact_right
  d_law : Df K mg "law" s_law
  z_len : mg "len" = none
  z_range : mg "range" = none
  z_max : mg "max" = none
  z_min : mg "min" = none
  z_int : mg "int" = none
  z_tuple : mg "tuple" = none
  z_list : mg "list" = none
  z_sorted : mg "sorted" = none
  z_set : mg "set" = none
  z_all : mg "all" = none
  z_any : mg "any" = none
  z_zip : mg "zip" = none
  m_most : ∃ t, mg "MOST_POINTS" = some (.int 60 t)
end Kn
/-! ## comprehensions and loops, by a relation between what is made and what is walked -/
namespace Kn
open PySem L2
theorem lt_line {n : Nat} (h : n ≤ 100000) : n < sizeLine := Nat.lt_of_le_of_lt h (by rw [sizeLine_eq]; decide)
section
variable {K : PySem.W.Frag} {a : Addr} {g : TG} {tt : TT} {te : TE} {vs : List Nat} {σ : St} {H1 : Hp} {D : Addr} {Qd : Hp → Prop}
theorem lcT {xs : List V} (S : Addr → Prop) (R : Nat → List V → Hp → Prop) (hx : H1 a = some (.tup xs)) (hD : H1 D = none) (hn : xs.length ≤ 100000) (h0 : R 0 [] (upd H1 D (.lst [])))
    (hs : ∀ i x acc H (Kt : V → Hp → Prop) (Kf : Hp → Prop), xs[i]? = some x → H D = some (.lst acc) → Go S H1 H → R i acc H →
      (∀ y H4, H4 D = some (.lst acc) → Go S H1 H4 → R (i + 1) (acc ++ [y]) (upd H4 D (.lst (acc ++ [y]))) → Kt y H4) → (∀ H3, H3 D = some (.lst acc) → Go S H1 H3 → R (i + 1) acc H3 → Kf H3) →
      g x (wipe σ vs) H fun σ2 H2 => wipe σ2 vs = wipe σ vs ∧ tt σ2 H2 fun b H3 => if b = true then te σ2 H3 Kt else Kf H3)
    (hd : ∀ acc H, H D = some (.lst acc) → acc.length ≤ xs.length → Go S H1 H → R xs.length acc H → Qd H) :
    ∃ W : Nat → Nat → Hp → Prop, (∃ m, W 0 m (upd H1 D (.lst []))) ∧ ∀ i m H, W i m H →
      ((Itt K a).stop i H ∧ Qd H) ∨ ((Itt K a).go i H ∧ ∃ Nx : Hp → Prop, (∀ H', Nx H' → ∃ m', m' < m ∧ W (i + 1) m' H') ∧ ∀ x H', (Itt K a).yld i H x H' → g x (wipe σ vs) H' fun σ2 H2 => wipe σ2 vs = wipe σ vs ∧ tt σ2 H2 fun b H3 =>
        if b = true then te σ2 H3 fun y H4 => ∃ acc, H4 D = some (.lst acc) ∧ acc.length < sizeLine ∧ Nx (upd H4 D (.lst (acc ++ [y]))) else Nx H3) := by
  refine lc_tup (xs := xs) (fun i H => ∃ acc, H D = some (.lst acc) ∧ acc.length ≤ i ∧ Go S H1 H ∧ R i acc H) ⟨[], upd_same, Nat.le_refl _, Go.new hD _, h0⟩
    (fun i H hi ⟨acc, e, l, go, r⟩ => SqT.of (go.tk _ _ hx)) (fun i x H hi ⟨acc, e, l, go, r⟩ => ?_) (fun H ⟨acc, e, l, go, r⟩ => hd acc H e l go r)
  have hlt : i < xs.length := (List.getElem?_eq_some_iff.mp hi).1
  exact hs i x acc H _ _ hi e go r (fun y H4 e4 g4 r4 => ⟨acc, e4, lt_line (by omega), acc ++ [y], upd_same, by rw [List.length_append]; exact Nat.succ_le_succ l, g4.set hD _, r4⟩)
    (fun H3 e3 g3 r3 => ⟨acc, e3, by omega, g3, r3⟩)
theorem lcL {xs : List V} (S : Addr → Prop) (R : Nat → List V → Hp → Prop) (hx : H1 a = some (.lst xs)) (hS : ¬ S a) (hD : H1 D = none) (hn : xs.length ≤ 100000) (h0 : R 0 [] (upd H1 D (.lst [])))
    (hs : ∀ i x acc H (Kt : V → Hp → Prop) (Kf : Hp → Prop), xs[i]? = some x → H D = some (.lst acc) → Go S H1 H → R i acc H →
      (∀ y H4, H4 D = some (.lst acc) → Go S H1 H4 → R (i + 1) (acc ++ [y]) (upd H4 D (.lst (acc ++ [y]))) → Kt y H4) → (∀ H3, H3 D = some (.lst acc) → Go S H1 H3 → R (i + 1) acc H3 → Kf H3) →
      g x (wipe σ vs) H fun σ2 H2 => wipe σ2 vs = wipe σ vs ∧ tt σ2 H2 fun b H3 => if b = true then te σ2 H3 Kt else Kf H3)
    (hd : ∀ acc H, H D = some (.lst acc) → acc.length ≤ xs.length → Go S H1 H → R xs.length acc H → Qd H) :
    ∃ W : Nat → Nat → Hp → Prop, (∃ m, W 0 m (upd H1 D (.lst []))) ∧ ∀ i m H, W i m H →
      ((Itl K a).stop i H ∧ Qd H) ∨ ((Itl K a).go i H ∧ ∃ Nx : Hp → Prop, (∀ H', Nx H' → ∃ m', m' < m ∧ W (i + 1) m' H') ∧ ∀ x H', (Itl K a).yld i H x H' → g x (wipe σ vs) H' fun σ2 H2 => wipe σ2 vs = wipe σ vs ∧ tt σ2 H2 fun b H3 =>
        if b = true then te σ2 H3 fun y H4 => ∃ acc, H4 D = some (.lst acc) ∧ acc.length < sizeLine ∧ Nx (upd H4 D (.lst (acc ++ [y]))) else Nx H3) := by
  refine lc_list (xs := xs) (fun i H => ∃ acc, H D = some (.lst acc) ∧ acc.length ≤ i ∧ Go S H1 H ∧ R i acc H) ⟨[], upd_same, Nat.le_refl _, Go.new hD _, h0⟩
    (fun i H hi ⟨acc, e, l, go, r⟩ => SqL.of (go.old _ _ hS hx)) (fun i x H hi ⟨acc, e, l, go, r⟩ => ?_) (fun H ⟨acc, e, l, go, r⟩ => hd acc H e l go r)
  have hlt : i < xs.length := (List.getElem?_eq_some_iff.mp hi).1
  exact hs i x acc H _ _ hi e go r (fun y H4 e4 g4 r4 => ⟨acc, e4, lt_line (by omega), acc ++ [y], upd_same, by rw [List.length_append]; exact Nat.succ_le_succ l, g4.set hD _, r4⟩)
    (fun H3 e3 g3 r3 => ⟨acc, e3, by omega, g3, r3⟩)
theorem lcR {n : Nat} (S : Addr → Prop) (R : Nat → List V → Hp → Prop) (hD : H1 D = none) (hn : n ≤ 100000) (h0 : R 0 [] (upd H1 D (.lst [])))
    (hs : ∀ (i : Nat) acc H (Kt : V → Hp → Prop) (Kf : Hp → Prop), i < n → H D = some (.lst acc) → Go S H1 H → R i acc H →
      (∀ y H4, H4 D = some (.lst acc) → Go S H1 H4 → R (i + 1) (acc ++ [y]) (upd H4 D (.lst (acc ++ [y]))) → Kt y H4) → (∀ H3, H3 D = some (.lst acc) → Go S H1 H3 → R (i + 1) acc H3 → Kf H3) →
      g (.int i) (wipe σ vs) H fun σ2 H2 => wipe σ2 vs = wipe σ vs ∧ tt σ2 H2 fun b H3 => if b = true then te σ2 H3 Kt else Kf H3)
    (hd : ∀ acc H, H D = some (.lst acc) → acc.length ≤ n → Go S H1 H → R n acc H → Qd H) :
    ∃ W : Nat → Nat → Hp → Prop, (∃ m, W 0 m (upd H1 D (.lst []))) ∧ ∀ i m H, W i m H →
      ((Itr 0 n).stop i H ∧ Qd H) ∨ ((Itr 0 n).go i H ∧ ∃ Nx : Hp → Prop, (∀ H', Nx H' → ∃ m', m' < m ∧ W (i + 1) m' H') ∧ ∀ x H', (Itr 0 n).yld i H x H' → g x (wipe σ vs) H' fun σ2 H2 => wipe σ2 vs = wipe σ vs ∧ tt σ2 H2 fun b H3 =>
        if b = true then te σ2 H3 fun y H4 => ∃ acc, H4 D = some (.lst acc) ∧ acc.length < sizeLine ∧ Nx (upd H4 D (.lst (acc ++ [y]))) else Nx H3) := by
  refine lc_range (lo := 0) (n := n) (fun i H => ∃ acc, H D = some (.lst acc) ∧ acc.length ≤ i ∧ Go S H1 H ∧ R i acc H) ⟨[], upd_same, Nat.le_refl _, Go.new hD _, h0⟩
    (fun i H hi ⟨acc, e, l, go, r⟩ => ?_) (fun H ⟨acc, e, l, go, r⟩ => hd acc H e l go r)
  rw [Int.zero_add]
  exact hs i acc H _ _ hi e go r (fun y H4 e4 g4 r4 => ⟨acc, e4, lt_line (by omega), acc ++ [y], upd_same, by rw [List.length_append]; exact Nat.succ_le_succ l, g4.set hD _, r4⟩)
    (fun H3 e3 g3 r3 => ⟨acc, e3, by omega, g3, r3⟩)
end
section
variable {J : It} {n : Nat} {G : Hp → Prop} {Y : Nat → Hp → V → Hp → Prop} {g : TG} {tt : TT} {te : TE} {vs : List Nat} {σ : St} {H1 : Hp} {D : Addr} {Qd : Hp → Prop}
theorem lcW (w : Walk J n G Y) (S : Addr → Prop) (R : Nat → List V → Hp → Prop) (hG : ∀ H, Go S H1 H → G H) (hD : H1 D = none) (hn : n ≤ 100000) (h0 : R 0 [] (upd H1 D (.lst [])))
    (hs : ∀ (i : Nat) acc x H H' (Kt : V → Hp → Prop) (Kf : Hp → Prop), i < n → H D = some (.lst acc) → Go S H1 H → R i acc H → Y i H x H' →
      (∀ y H4, H4 D = some (.lst acc) → Go S H1 H4 → R (i + 1) (acc ++ [y]) (upd H4 D (.lst (acc ++ [y]))) → Kt y H4) → (∀ H3, H3 D = some (.lst acc) → Go S H1 H3 → R (i + 1) acc H3 → Kf H3) →
      g x (wipe σ vs) H' fun σ2 H2 => wipe σ2 vs = wipe σ vs ∧ tt σ2 H2 fun b H3 => if b = true then te σ2 H3 Kt else Kf H3)
    (hd : ∀ acc H, H D = some (.lst acc) → acc.length ≤ n → Go S H1 H → R n acc H → Qd H) :
    ∃ W : Nat → Nat → Hp → Prop, (∃ m, W 0 m (upd H1 D (.lst []))) ∧ ∀ i m H, W i m H →
      (J.stop i H ∧ Qd H) ∨ (J.go i H ∧ ∃ Nx : Hp → Prop, (∀ H', Nx H' → ∃ m', m' < m ∧ W (i + 1) m' H') ∧ ∀ x H', J.yld i H x H' → g x (wipe σ vs) H' fun σ2 H2 => wipe σ2 vs = wipe σ vs ∧ tt σ2 H2 fun b H3 =>
        if b = true then te σ2 H3 fun y H4 => ∃ acc, H4 D = some (.lst acc) ∧ acc.length < sizeLine ∧ Nx (upd H4 D (.lst (acc ++ [y]))) else Nx H3) := by
  refine lc_it w (fun i H => ∃ acc, H D = some (.lst acc) ∧ acc.length ≤ i ∧ Go S H1 H ∧ R i acc H) ⟨[], upd_same, Nat.le_refl _, Go.new hD _, h0⟩
    (fun i H hi ⟨acc, e, l, go, r⟩ => hG H go) (fun i x H H' hi ⟨acc, e, l, go, r⟩ y => ?_) (fun H ⟨acc, e, l, go, r⟩ => hd acc H e l go r)
  exact hs i acc x H H' _ _ hi e go r y (fun y H4 e4 g4 r4 => ⟨acc, e4, lt_line (by omega), acc ++ [y], upd_same, by rw [List.length_append]; exact Nat.succ_le_succ l, g4.set hD _, r4⟩)
    (fun H3 e3 g3 r3 => ⟨acc, e3, by omega, g3, r3⟩)
end
/-! ### the layer's rules with the written part told (within a comprehension's block a rule's reading may not speak of the block) -/
section
variable {X : Cx} {l : Expr} {tl : TE} {tg : Expr} {pos apos cpos : Pos} (K : PySem.W.Frag)
theorem xl (h : X.K = K := by rfl) : IxR X (rIxL K) := h ▸ ix_list
theorem xt (h : X.K = K := by rfl) : IxR X (rIxT K) := h ▸ ix_tup
theorem slt (h : X.K = K := by rfl) : SlR X (rSlT K) := h ▸ sl_tup
theorem oin (h : X.K = K := by rfl) : OpR X (compareOp .In) (rIn K false) := h ▸ op_in_seq
theorem onin (h : X.K = K := by rfl) : OpR X (compareOp .NotIn) (rIn K true) := h ▸ op_notIn_seq
theorem ocat (h : X.K = K := by rfl) : OpR X (binaryOp .Add) (rCatA K) := h ▸ op_catA
theorem oeqD (hu : X.A.units + 64 < cLine) (h : X.K = K := by rfl) : OpR X (compareOp .Eq) (rEqD K) := h ▸ op_eqD hu
theorem oneD' (hu : X.A.units + 64 < cLine) (h : X.K = K := by rfl) : OpR X (compareOp .NotEq) (rNeD K) := h ▸ op_neD hu
def rLenK (K : PySem.W.Frag) : List V → Hp → VK → Prop := fun xs H Q => ∃ p ys, xs = [.ref p] ∧ (SqL K H p ys ∨ SqT K H p ys) ∧ Q (.int ys.length) H
theorem clen (h : X.K = K := by rfl) : CallR X (.builtin "len") (rLenK K) := h ▸ call_len_seq
def rTupK (K : PySem.W.Frag) : List V → Hp → VK → Prop := fun xs H Q => ∃ p ys, xs = [.ref p] ∧ ((SqL K H p ys ∧ ∀ l, H l = none → Q (.ref l) (upd H l (.tup ys))) ∨ (SqT K H p ys ∧ Q (.ref p) H))
theorem ctup (h : X.K = K := by rfl) : CallR X (.type "tuple") (rTupK K) := h ▸ call_tuple_of
theorem csortS (h : X.K = K := by rfl) : CallR X (.builtin "sorted") (rSortedS K) := h ▸ cr_sortedS
theorem cany (hc : X.calm = true) (h : X.K = K := by rfl) : CallR X (.builtin "any") (rAny K) := h ▸ cr_any hc
theorem call' (hc : X.calm = true) (h : X.K = K := by rfl) : CallR X (.builtin "all") (rAll K) := h ▸ cr_all hc
theorem mindex (h : X.K = K := by rfl) : MtR X "list.index" (rIndex K) := h ▸ mt_index
theorem pil (hl : PE X l tl) (h : X.K = K := by rfl) : PI X tg l (iList K tl) := h ▸ pi_list hl
theorem pit (hl : PE X l tl) (h : X.K = K := by rfl) : PI X tg l (iTup K tl) := h ▸ pi_tup hl
theorem pgt {es : List Expr} {k : Nat} {t : TGs} {n : Nat} (hc : X.calm = true) (h : PGs X es t) (hK : X.K = K := by rfl)
    (hn : (assignEach es X.env).length = n := by rfl) (hst : (assignEach es X.env).findIdx? (·.1) = none := by rfl) : PG X (.Tuple es k pos) (gTup K n t) := hK ▸ pg_tup hc h hn hst
theorem pbm {T id : String} {name : Str} {r : V → List V → Hp → VK → Prop} {o e : Expr} {es : List Expr} {to : TE} {t : TA} (pa : PlainAttrs T) (slot : Slot T name id) (hty : typeOf (.builtin id) = pure (.type "method_descriptor")) (hm : MtR X id r) (ho : PE X o to) (ha : PA X (e :: es) t)
    (hK : X.K = K := by rfl) (hbase : attributeBase o name X.env (eval o X.env) = eval o X.env := by rfl)
    (hfew : ((backTo cpos (starEach (e :: es) X.env)).all (fun x => !x.1) && (backToKw cpos (keywordEach [] X.env)).all (fun x => x.1.isSome)
      && decide ((e :: es).length + ([] : List Keyword).length + (if ([] : List Keyword).isEmpty then 0 else 1) < 30)) = true := by rfl)
    (hline : (apos.endLine == cpos.line) = true := by rfl) (hs : starEach (e :: es) X.env = (false, eval e X.env) :: starEach es X.env := by rfl) (hplain : (backTo cpos (starEach es X.env)).any (·.1) = false := by rfl) :
    PE X (.Call (.Attribute o name apos) (e :: es) [] cpos) (tBM K T r to t) := hK ▸ pe_bm pa slot hty hm ho ha hbase hfew hline hs hplain
theorem piz {e e2 : Expr} {ta : TA} {p : Pos} {elts : List Expr} {kk : Nat} {tpos : Pos} (hg : Gl X "zip") (hm : X.mg "zip" = none) (ha : PA X [e, e2] ta) (hK : X.K = K := by rfl)
    (hs : starEach [e, e2] X.env = (false, eval e X.env) :: starEach [e2] X.env := by rfl) (hpl : (backTo pos (starEach [e2] X.env)).any (·.1) = false := by rfl) :
    PI X (.Tuple elts kk tpos) (.Call (.Name "zip" p) [e, e2] [] pos) (iZip K ta) := hK ▸ pi_zip hg hm ha hs hpl
end
/-- a result that nothing of what stood was changed for -/
abbrev Ret (H : Hp) (Q : VK) (R : V → Hp → Prop) : Prop := ∀ v H', Go S0 H H' → R v H' → Q v H'
end Kn
/-! ## worlds: many_points, points_of, part_of, led, true_points -/
namespace Kn
open PySem L2
theorem ifF {c : Bool} {A B : Prop} (hc : c = false) (h : B) : if c = true then A else B := by
  rw [hc, if_neg Bool.false_ne_true]
  exact h
theorem ifT {c : Bool} {A B : Prop} (hc : c = true) (h : A) : if c = true then A else B := by
  rw [if_pos hc]
  exact h
/-- a world: how many points, its facts, its hands' parts -/
structure Wd where
  n : Nat
  facts : List (Str × List Int)
  sights : List (Str × List (List Int))
def D.ints (l : List Int) : D := .tup (l.map D.int)
def factD (f : Str × List Int) : D := .tup [.str f.1, D.ints f.2]
def sightD (s : Str × List (List Int)) : D := .tup [.str s.1, .tup (s.2.map D.ints)]
def Wd.d (w : Wd) : D := .tup [.tup (w.facts.map factD), .tup (List.replicate w.n .any), .tup (w.sights.map sightD)]
/-- the points where a fact holds; the part of a hand that has a point -/
def Wd.pts (w : Wd) (x : Str) : List Int := ((w.facts.find? fun f => decide (f.1 = x)).map (·.2)).getD []
def Wd.part (w : Wd) (h : Str) (k : Int) : List Int := ((w.sights.find? fun s => decide (s.1 = h)).map fun s => (s.2.filter fun p => p.contains k).headD []).getD [k]
structure Wd.Ok (w : Wd) : Prop where
  n : w.n ≤ 1000
  facts : w.facts.length ≤ 1000
  sights : w.sights.length ≤ 1000
  many : ∀ s ∈ w.sights, s.2.length ≤ 1000
  has : ∀ s ∈ w.sights, ∀ k : Int, 0 ≤ k → k < w.n → ∃ p ∈ s.2, p.contains k = true
section
variable {P : Program} {w : World} {K : PySem.W.Frag} {mg : Str → Option Value} {base : Heap}
theorem find_none {α : Type} {l : List α} {p : α → Bool} (h : ∀ j : Nat, j < l.length → ∀ a, l[j]? = some a → p a = false) : l.find? p = none := by
  rw [List.find?_eq_none]
  intro a ha
  obtain ⟨i, hi, e⟩ := List.mem_iff_getElem.mp ha
  rw [h i hi a (by rw [List.getElem?_eq_getElem hi, e])]
  simp
theorem find_first {α : Type} : ∀ {l : List α} {p : α → Bool} {i : Nat} {a : α}, l[i]? = some a → p a = true → (∀ j : Nat, j < i → ∀ b, l[j]? = some b → p b = false) → l.find? p = some a
  | [], _, _, _, h, _, _ => by simp at h
  | x :: r, p, 0, a, h, q, _ => by
    have e : x = a := by simpa using h
    subst e
    rw [List.find?_cons, q]
  | x :: r, p, i + 1, a, h, q, n => by
    rw [List.find?_cons, n 0 (Nat.succ_pos i) x rfl]
    exact find_first (i := i) (by simpa using h) q fun j hj b hb => n (j + 1) (by omega) b (by simpa using hb)

def sp_many_points : Sp := fun vs H Q _ => ∃ (W : Wd) (v : V), vs = [v] ∧ Tr H W.d v ∧ Q (.int W.n) H
theorem ok_many_points (T : Tx K mg) : FnOk P w K mg base CX0 1 T.d_many_points.a T.d_many_points.fd P_many_points sp_many_points := by
  refine T.d_many_points.F.ok sc_many_points (fun vs H Q E h => ?_) (fun cdv A outer s H vs Q E hr h => ?_)
  · obtain ⟨W, v, rfl, _⟩ := h
    rfl
  obtain ⟨W, v, rfl, hW, q⟩ := h
  refine ⟨_, (pss_one (ps_ret (pe_callB (clen K) (by rfl) T.z_len (by decide +kernel) (pa_cons (pe_ix (xt K) (pv 0) pe_int (fun _ _ => rfl)) pa_nil)))), ?_⟩
  obtain ⟨a, x, y, z, rfl, ha, hx, hy, hz⟩ := hW.three
  obtain ⟨b, ms, rfl, hb, hm⟩ := hy.tup_of
  refine ⟨_, rfl, _, _, _, _, rfl, rfl, SqT.of ha, rfl, _, _, rfl, .inr (SqT.of hb), ?_⟩
  have e := hm.length
  rw [List.length_replicate] at e
  rw [← e]
  exact q

def sp_points_of : Sp := fun vs H Q _ => ∃ (W : Wd) (v : V) (x : Str), vs = [v, .str x] ∧ Tr H W.d v ∧ Ret H Q fun v' H' => Tr H' (D.ints (W.pts x)) v'
theorem ok_points_of (T : Tx K mg) : FnOk P w K mg base CX0 1 T.d_points_of.a T.d_points_of.fd P_points_of sp_points_of := by
  refine T.d_points_of.F.ok sc_points_of (fun vs H Q E h => ?_) (fun cdv A outer s H vs Q E hr h => ?_)
  · obtain ⟨W, v, x, rfl, _⟩ := h
    rfl
  obtain ⟨W, v, x, rfl, hW, q⟩ := h
  refine ⟨_, (pss_cons (ps_for PassesOwn.never rfl (pit K (pe_ix (xt K) (pv 0) pe_int (fun _ _ => rfl))) (pgt K (n := 2) rfl (pgs_cons (pg_name (i := 2) sc_points_of.nd rfl (by first | exact Or.inl rfl | exact Or.inr rfl)) (pgs_cons (pg_name (i := 3) sc_points_of.nd rfl (by first | exact Or.inl rfl | exact Or.inr rfl)) pgs_nil)))
  (pss_one (ps_if (pt_cmpR op_eq (pv 2) (pv 1) (nomark _))
  (pss_one (ps_ret (pv 3)))
  pss_nil)))
  (pss_one (ps_ret (pe_tup pa_nil)))), ?_⟩
  obtain ⟨a, x1, y1, z1, rfl, ha, hx, hy, hz⟩ := hW.three
  obtain ⟨b, fs, rfl, hb, hf⟩ := hx.tup_of
  refine ⟨_, rfl, _, _, _, _, rfl, rfl, SqT.of ha, rfl, _, rfl, ⟨_, SqT.of hb⟩, ?_⟩
  refine for_tup (xs := fs) (fun i σ H' => H' = H ∧ (∃ o2 o3, σ = [some (.ref a), some (.str x), o2, o3]) ∧ ∀ j : Nat, j < i → ∀ f, W.facts[j]? = some f → decide (f.1 = x) = false)
    ⟨rfl, ⟨_, _, rfl⟩, fun j hj => absurd hj (Nat.not_lt_zero j)⟩ (fun i σ H' _ ⟨e, _⟩ => by subst e; exact SqT.of hb) ?_ ?_
  · rintro i y σ H' hi ⟨rfl, ⟨o2, o3, rfl⟩, hn⟩
    obtain ⟨d, hd, ty⟩ := hf.get hi
    rw [List.getElem?_map] at hd
    cases ef : W.facts[i]? with
    | none => rw [ef] at hd; cases hd
    | some f =>
      rw [ef] at hd
      cases hd
      obtain ⟨c, v1, v2, rfl, hc, h1, h2⟩ := Tr.two (d := .str f.1) (e := D.ints f.2) ty
      cases h1.str_of
      refine ⟨_, _, rfl, SqT.of hc, rfl, _, _, rfl, _, _, rfl, rfl, ?_⟩
      refine ⟨_, rfl, _, rfl, rfl, _, rfl, ?_⟩
      refine ite2 (fun c1 => ?_) (fun c1 => ?_)
      · have e1 : f.1 = x := by simpa using c1
        refine ⟨_, rfl, q _ _ Go.refl ?_⟩
        have e2 : W.pts x = f.2 := by
          unfold Wd.pts
          rw [find_first ef (decide_eq_true e1) hn]
          rfl
        rw [e2]
        exact h2
      · refine ⟨rfl, ⟨_, _, rfl⟩, fun j hj g hg => ?_⟩
        by_cases hji : j = i
        · subst hji
          rw [ef] at hg
          cases hg
          have c2 : ¬ f.1 = x := fun e => c1 (by rw [e]; simp)
          exact decide_eq_false c2
        · exact hn j (by omega) g hg
  · rintro σ H' ⟨rfl, ⟨o2, o3, rfl⟩, hn⟩
    refine ⟨Nat.zero_le _, fun p hp => q _ _ (Go.new hp _) ?_⟩
    have e2 : W.pts x = [] := by
      unfold Wd.pts
      rw [find_none (fun j hj f hf' => hn j (by rw [← hf.length, List.length_map]; exact hj) f hf')]
      rfl
    rw [e2]
    exact tr_tup upd_same trl_nil

theorem inV_int (k : Int) : ∀ ns : List Int, inV (.int k) (ns.map V.int) = ns.contains k
  | [] => rfl
  | n :: r => by
    have ih := inV_int k r
    unfold inV at ih ⊢
    rw [List.map_cons, List.any_cons, ih, List.contains_cons]
    show ((n == k) || _) = _
    rw [Bool.beq_comm (a := n)]
theorem flat_ints : ∀ ns : List Int, (ns.map V.int).all flatV = true
  | [] => rfl
  | n :: r => by rw [List.map_cons, List.all_cons, flat_ints r]; rfl
/-- 0, 1 .. below n -/
def ixs (n : Nat) : List Int := (List.range n).map fun i : Nat => (i : Int)
theorem ixs_succ (n : Nat) : ixs (n + 1) = ixs n ++ [(n : Int)] := by unfold ixs; rw [List.range_succ, List.map_append]; rfl
theorem ixs_length (n : Nat) : (ixs n).length = n := by unfold ixs; rw [List.length_map, List.length_range]
theorem ixs_get {n i : Nat} (h : i < n) : (ixs n)[i]? = some (i : Int) := by
  unfold ixs
  rw [List.getElem?_map, List.getElem?_range h]
  rfl
theorem mem_ixs {n : Nat} {k : Int} : k ∈ ixs n ↔ 0 ≤ k ∧ k < n := by
  unfold ixs
  rw [List.mem_map]
  constructor
  · rintro ⟨i, hi, rfl⟩
    rw [List.mem_range] at hi
    omega
  · rintro ⟨h0, h1⟩
    exact ⟨k.toNat, by rw [List.mem_range]; omega, by omega⟩
theorem rgV_ixs (n : Nat) : rgV 0 n = (ixs n).map V.int := by
  unfold rgV ixs
  rw [Int.sub_zero, Int.toNat_natCast, List.map_map]
  refine List.map_congr_left fun i _ => ?_
  show V.int (0 + (i : Int)) = V.int i
  rw [Int.zero_add]

/-- the places of True -/
def tps (bs : List Bool) : List Int := (ixs bs.length).filter fun i => bs.getD i.toNat false
def sp_true_points : Sp := fun vs H Q _ => ∃ (l : Addr) (bs : List Bool), vs = [.ref l] ∧ H l = some (.lst (bs.map V.bl)) ∧ bs.length ≤ 1000 ∧ Ret H Q fun v' H' => Tr H' (D.ints (tps bs)) v'
theorem ok_true_points (T : Tx K mg) : FnOk P w K mg base CX0 1 T.d_true_points.a T.d_true_points.fd P_true_points sp_true_points := by
  refine T.d_true_points.F.ok sc_true_points (fun vs H Q E h => ?_) (fun cdv A outer s H vs Q E hr h => ?_)
  · obtain ⟨l, bs, rfl, _⟩ := h
    rfl
  obtain ⟨l, bs, rfl, hl, hn, q⟩ := h
  refine ⟨_, (pss_one (ps_ret (pe_callTy (ctup K) (by rfl) T.z_tuple (by decide +kernel) (pa_cons (pe_lc (own := [("point", 1)]) (by rfl) sc_true_points.nd (pi_range1 rfl T.z_range (pa_cons (pe_callB (clen K) (by rfl) T.z_len (by decide +kernel) (pa_cons (pv 0) pa_nil)) pa_nil)) (blkOk_by (N := N_true_points) (sc := defScope s_true_points) (by decide +kernel)) (fun _ _ _ _ _ => (pg_name (i := 1) sc_true_points.nd rfl (by first | exact Or.inl rfl | exact Or.inr rfl))) (fun _ _ _ _ _ => (pts_one (pt_val (pe_ix (xl K) (pv 0) (pv 1) (fun _ _ => rfl))))) (fun _ _ _ _ _ => (pv 1))) pa_nil)))), ?_⟩
  refine ⟨_, rfl, _, _, rfl, .inl (SqL.of hl), _, rfl, ?_⟩
  rw [List.length_map]
  refine ⟨by omega, by omega, fun p hp => ?_⟩
  rw [Int.toNat_natCast]
  refine lcR S0 (fun i acc H' => acc = ((ixs i).filter fun i => bs.getD i.toNat false).map V.int) hp (by omega) rfl ?_ ?_
  · rintro i acc H' Kt Kf hi hD go rfl kt kf
    refine ⟨rfl, ?_⟩
    have e1 : bs[i]? = some bs[i] := List.getElem?_eq_getElem hi
    have e2 : (bs.map V.bl)[i]? = some (V.bl bs[i]) := by rw [List.getElem?_map, e1]; rfl
    have e3 : bs.getD (i : Int).toNat false = bs[i] := by rw [Int.toNat_natCast, List.getD_eq_getElem?_getD, e1]; rfl
    refine ⟨_, rfl, _, rfl, _, _, _, _, rfl, rfl, SqL.of (go.old _ _ id hl), atI_nat e2, _, rfl, ?_⟩
    refine ite2 (fun c => ?_) (fun c => ?_)
    · refine ⟨_, rfl, kt _ _ hD go ?_⟩
      rw [ixs_succ, List.filter_append, List.map_append]
      congr 1
      rw [List.filter_cons, e3, c]
      rfl
    · refine kf _ hD go ?_
      rw [ixs_succ, List.filter_append, List.map_append]
      rw [List.filter_cons, e3, Bool.eq_false_iff.mpr c]
      exact (List.append_nil _).symm
  · rintro acc H' hD hle go rfl
    refine ⟨p, _, rfl, .inl ⟨SqL.of hD, fun t ht => ?_⟩⟩
    exact q _ _ (go.trans (Go.new ht _)) (tr_tup upd_same trl_ints)

def sp_part_of : Sp := fun vs H Q _ => ∃ (W : Wd) (v : V) (x : Str) (k : Int), vs = [v, .str x, .int k] ∧ Tr H W.d v ∧ W.Ok ∧ 0 ≤ k ∧ k < W.n ∧ Ret H Q fun v' H' => Tr H' (D.ints (W.part x k)) v'
theorem ok_part_of (T : Tx K mg) : FnOk P w K mg base CX0 1 T.d_part_of.a T.d_part_of.fd P_part_of sp_part_of := by
  refine T.d_part_of.F.ok sc_part_of (fun vs H Q E h => ?_) (fun cdv A outer s H vs Q E hr h => ?_)
  · obtain ⟨W, v, x, k, rfl, _⟩ := h
    rfl
  obtain ⟨W, v, x, k, rfl, hW, ok, h0, h1, q⟩ := h
  refine ⟨_, (pss_cons (ps_for PassesOwn.never rfl (pit K (pe_ix (xt K) (pv 0) pe_int (fun _ _ => rfl))) (pgt K (n := 2) rfl (pgs_cons (pg_name (i := 3) sc_part_of.nd rfl (by first | exact Or.inl rfl | exact Or.inr rfl)) (pgs_cons (pg_name (i := 4) sc_part_of.nd rfl (by first | exact Or.inl rfl | exact Or.inr rfl)) pgs_nil)))
  (pss_one (ps_if (pt_cmpR op_eq (pv 3) (pv 1) (nomark _))
  (pss_one (ps_ret (pe_ix (xl K) (pe_lc (own := [("part", 5)]) (by rfl) sc_part_of.nd (pit K (pv 4)) (blkOk_by (N := N_part_of) (sc := defScope s_part_of) (by decide +kernel)) (fun _ _ _ _ _ => (pg_name (i := 5) sc_part_of.nd rfl (by first | exact Or.inl rfl | exact Or.inr rfl))) (fun _ _ _ _ _ => (pts_one (pt_cmpR (oin K) (pv 2) (pv 5) (by rfl)))) (fun _ _ _ _ _ => (pv 5))) pe_int (fun _ _ => rfl))))
  pss_nil)))
  (pss_one (ps_ret (pe_tup (pa_cons (pv 2) pa_nil))))), ?_⟩
  obtain ⟨a, x1, y1, z1, rfl, ha, hx, hy, hz⟩ := hW.three
  obtain ⟨b, ss, rfl, hb, hs⟩ := hz.tup_of
  refine ⟨_, rfl, _, _, _, _, rfl, rfl, SqT.of ha, rfl, _, rfl, ⟨_, SqT.of hb⟩, ?_⟩
  refine for_tup (xs := ss) (fun i σ H' => H' = H ∧ (∃ o3 o4 o5, σ = [some (.ref a), some (.str x), some (.int k), o3, o4, o5]) ∧ ∀ j : Nat, j < i → ∀ f, W.sights[j]? = some f → decide (f.1 = x) = false)
    ⟨rfl, ⟨_, _, _, rfl⟩, fun j hj => absurd hj (Nat.not_lt_zero j)⟩ (fun i σ H' _ ⟨e, _⟩ => by subst e; exact SqT.of hb) ?_ ?_
  · rintro i y σ H' hi ⟨rfl, ⟨o3, o4, o5, rfl⟩, hn⟩
    obtain ⟨d, hd, ty⟩ := hs.get hi
    rw [List.getElem?_map] at hd
    cases ef : W.sights[i]? with
    | none => rw [ef] at hd; cases hd
    | some f =>
      rw [ef] at hd
      cases hd
      obtain ⟨c, v1, v2, rfl, hc, h1', h2⟩ := Tr.two (d := .str f.1) (e := .tup (f.2.map D.ints)) ty
      cases h1'.str_of
      refine ⟨_, _, rfl, SqT.of hc, rfl, _, _, rfl, _, _, rfl, rfl, ?_⟩
      refine ⟨_, rfl, _, rfl, rfl, _, rfl, ?_⟩
      refine ite2 (fun c1 => ?_) (fun c1 => ?_)
      · have e1 : f.1 = x := by simpa using c1
        obtain ⟨pa, ps, rfl, hpa, hps⟩ := h2.tup_of
        have hlen := hps.length
        rw [List.length_map] at hlen
        have hmem : f ∈ W.sights := List.mem_of_getElem? ef
        refine ⟨_, rfl, _, rfl, ⟨_, SqT.of hpa⟩, fun L0 hD => ?_⟩
        refine lcT (xs := ps) S0 (fun i acc H' => TrL H' (((f.2.take i).filter fun p => p.contains k).map D.ints) acc) hpa hD (by have := ok.many f hmem; omega) trl_nil ?_ ?_
        · rintro i z acc H1 Kt Kf hz' hD1 go r kt kf
          obtain ⟨d, hd, tz⟩ := hps.get hz'
          rw [List.getElem?_map] at hd
          cases ep : f.2[i]? with
          | none => rw [ep] at hd; cases hd
          | some p =>
            rw [ep] at hd
            cases hd
            obtain ⟨pc, vs, rfl, hpc, ht⟩ := Tr.tup_of (ds := p.map D.int) tz
            cases ht.ints_of
            have et : f.2.take (i + 1) = f.2.take i ++ [p] := by rw [List.take_add_one, ep]; rfl
            refine ⟨rfl, _, rfl, _, rfl, _, _, rfl, .inr (SqT.of (go.tk _ _ hpc)), rfl, flat_ints _, _, rfl, ?_⟩
            rw [if_neg Bool.false_ne_true, inV_int]
            refine ite2 (fun c => ?_) (fun c => ?_)
            · refine ⟨_, rfl, kt _ _ hD1 go ?_⟩
              rw [et, List.filter_append, List.map_append]
              rw [List.filter_cons, c, if_pos rfl, List.filter_nil, List.map_cons, List.map_nil]
              exact TrL.snoc (r.go (Tk.put hD1 _)) (tr_tup ((Tk.put hD1 _) _ _ (go.tk _ _ hpc)) trl_ints)
            · refine kf _ hD1 go ?_
              rw [et, List.filter_append, List.map_append, List.filter_cons, Bool.eq_false_iff.mpr c, if_neg Bool.false_ne_true, List.filter_nil, List.map_nil, List.append_nil]
              exact r
        · rintro acc H1 hD1 hle go r
          rw [show f.2.take ps.length = f.2 by rw [← hlen]; exact List.take_length ..] at r
          obtain ⟨p, hp, hpk⟩ := ok.has f hmem k h0 h1
          cases efl : f.2.filter fun p => p.contains k with
          | nil =>
            have z := List.filter_eq_nil_iff.mp efl p hp
            exact absurd hpk z
          | cons p0 pr =>
            rw [efl] at r
            obtain ⟨z, zs, rfl, hz0, _⟩ := TrL.cons_of (d := D.ints p0) r
            refine ⟨_, _, _, _, rfl, rfl, SqL.of hD1, atI_nat (j := 0) rfl, q _ _ go ?_⟩
            have e2 : W.part x k = p0 := by
              unfold Wd.part
              rw [find_first ef (decide_eq_true e1) hn]
              show ((f.2.filter fun p => p.contains k).headD []) = p0
              rw [efl]
              rfl
            rw [e2]
            exact hz0
      · refine ⟨rfl, ⟨_, _, _, rfl⟩, fun j hj g hg => ?_⟩
        by_cases hji : j = i
        · subst hji
          rw [ef] at hg
          cases hg
          have c2 : ¬ f.1 = x := fun e => c1 (by rw [e]; simp)
          exact decide_eq_false c2
        · exact hn j (by omega) g hg
  · rintro σ H' ⟨rfl, ⟨o3, o4, o5, rfl⟩, hn⟩
    refine ⟨_, rfl, (by show 1 ≤ sizeLine; decide), fun p hp => q _ _ (Go.new hp _) ?_⟩
    have e2 : W.part x k = [k] := by
      unfold Wd.part
      rw [find_none (fun j hj f hf' => hn j (by rw [← hs.length, List.length_map]; exact hj) f hf')]
      rfl
    rw [e2]
    exact tr_tup upd_same (trl_ints (ns := [k]))

def Wd.led (W : Wd) (x : Str) (k : Int) : List Int := (ixs W.n).filter fun o => (W.part x k).contains o
def oneD (x : Str) : D := .tup [.str "one", .tup [.str x]]
def sp_led : Sp := fun vs H Q _ => ∃ (W : Wd) (v s : V) (x : Str) (k : Int), vs = [v, s, .int k] ∧ Tr H W.d v ∧ Tr H (oneD x) s ∧ W.Ok ∧ 0 ≤ k ∧ k < W.n ∧ Ret H Q fun v' H' => Tr H' (D.ints (W.led x k)) v'
theorem ok_led (T : Tx K mg) : FnOk P w K mg base CX0 2 T.d_led.a T.d_led.fd P_led sp_led := by
  have G_many_points := ok_many_points (P := P) (w := w) (base := base) T
  have G_part_of := ok_part_of (P := P) (w := w) (base := base) T
  refine T.d_led.F.ok sc_led (fun vs H Q E h => ?_) (fun cdv A outer s H vs Q E hr h => ?_)
  · obtain ⟨W, v, s, x, k, rfl, _⟩ := h
    rfl
  obtain ⟨W, v, s, x, k, rfl, hW, hs, ok, h0, h1, q⟩ := h
  refine ⟨_, (pss_cons (ps_if (pt_cmpR op_eq (pe_ix (xt K) (pv 1) pe_int (fun _ _ => rfl)) pe_str (nomark _))
  (pss_one ps_never)
  pss_nil)
  (pss_cons (ps_set (i := 3) sc_led.nd rfl (Or.inl rfl) (pe_listRg rfl rfl T.z_list (prg_1 rfl T.z_range (pe_call G_many_points (hr.mono (by omega)) rfl T.d_many_points.m T.d_many_points.F.kp (b_many_points T.d_many_points) .nil pass0 (pa_cons (pv 0) pa_nil)))))
  (pss_cons (ps_if (pt_cmpR op_eq (pe_ix (xt K) (pv 1) pe_int (fun _ _ => rfl)) pe_str (nomark _))
  (pss_one ps_never)
  pss_nil)
  (pss_cons (ps_set (i := 5) sc_led.nd rfl (Or.inr rfl) (pe_lc (own := [("hand", 6)]) (by rfl) sc_led.nd (pit K (pe_ix (xt K) (pv 1) pe_int (fun _ _ => rfl))) (blkOk_by (N := N_led) (sc := defScope s_led) (by decide +kernel)) (fun _ _ _ _ _ => (pg_name (i := 6) sc_led.nd rfl (by first | exact Or.inl rfl | exact Or.inr rfl))) (fun _ _ _ _ _ => pts_nil) (fun _ _ _ _ _ => (pe_call G_part_of (hr.mono (by omega)) rfl T.d_part_of.m T.d_part_of.F.kp (b_part_of T.d_part_of) .nil pass0 (pa_cons (pv 0) (pa_cons (pv 6) (pa_cons (pv 2) pa_nil)))))))
  (pss_cons (ps_if (pt_cmpR op_eq (pe_ix (xt K) (pv 1) pe_int (fun _ _ => rfl)) pe_str (nomark _))
  (pss_one (ps_ret (pe_callTy (ctup K) (by rfl) T.z_tuple (by decide +kernel) (pa_cons (pe_lc (own := [("other", 4)]) (by rfl) sc_led.nd (pil K (pv 3)) (blkOk_by (N := N_led) (sc := defScope s_led) (by decide +kernel)) (fun _ _ _ _ _ => (pg_name (i := 4) sc_led.nd rfl (by first | exact Or.inl rfl | exact Or.inr rfl))) (fun _ _ _ _ _ => (pts_one (pt_val (pe_callB (cany K rfl) (by rfl) T.z_any (by decide +kernel) (pa_cons (pe_lc (own := [("part", 7)]) (by rfl) sc_led.nd (pil K (pv 5)) (blkOk_by (by kernel_rfl)) (fun _ _ _ _ _ => (pg_name (i := 7) sc_led.nd rfl (by first | exact Or.inl rfl | exact Or.inr rfl))) (fun _ _ _ _ _ => pts_nil) (fun _ _ _ _ _ => (pe_cmpR (oin K) (pv 4) (pv 7) (by rfl)))) pa_nil))))) (fun _ _ _ _ _ => (pv 4))) pa_nil))))
  pss_nil)
  (pss_one ps_never)))))), ?_⟩
  have hW' := hW
  obtain ⟨a, x1, y1, z1, rfl, ha, hx, hy, hz⟩ := hW.three
  obtain ⟨b, v1, v2, rfl, hb, hb1, hb2⟩ := hs.two
  cases hb1.str_of
  obtain ⟨c, v3, rfl, hc, hc1⟩ := hb2.one
  cases hc1.str_of
  refine ⟨_, rfl, _, _, _, _, rfl, rfl, SqT.of hb, rfl, rfl, _, rfl, ifF (by decide +kernel) ?_⟩
  refine ⟨_, rfl, W, _, rfl, hW', _, rfl, RgOk.of_le (by omega) (by have := ok.n; omega) (by omega) (by omega), fun l hl => ?_⟩
  have g1 : Go S0 H (upd H l (.lst (rgV 0 W.n))) := Go.new hl _
  have el : upd H l (.lst (rgV 0 W.n)) l = some (.lst ((ixs W.n).map V.int)) := by rw [upd_same, rgV_ixs]
  generalize upd H l (.lst (rgV 0 W.n)) = H1 at g1 el
  refine ⟨_, rfl, _, _, _, _, rfl, rfl, SqT.of (g1.tk _ _ hb), rfl, rfl, _, rfl, ifF (by decide +kernel) ?_⟩
  refine ⟨_, rfl, _, _, _, _, rfl, rfl, SqT.of (g1.tk _ _ hb), rfl, _, rfl, ⟨_, SqT.of (g1.tk _ _ hc)⟩, fun L0 hD => ?_⟩
  refine lcT (xs := [.str x]) S0 (fun i acc H' => TrL H' (([W.part x k].take i).map D.ints) acc) (g1.tk _ _ hc) hD (by show 1 ≤ 100000; decide) trl_nil ?_ ?_
  · rintro i z acc H2 Kt Kf hz2 hD2 go r kt kf
    have e0 : i = 0 := by
      have := (List.getElem?_eq_some_iff.mp hz2).1
      simp at this
      exact this
    subst e0
    cases hz2
    cases r.nil_of
    refine ⟨rfl, ?_⟩
    refine ⟨_, rfl, _, rfl, _, rfl, W, _, x, k, rfl, hW'.go (g1.tk.trans go.tk), ok, h0, h1, fun v' H3 g3 t3 => ?_⟩
    exact kt _ _ (g3.old _ _ id hD2) (go.trans g3) (trl_cons (t3.go (Tk.put (g3.old _ _ id hD2) _)) trl_nil)
  · rintro acc H2 hD2 hle go r
    obtain ⟨z, zs, rfl, hz0, hz1⟩ := TrL.cons_of (d := D.ints (W.part x k)) (ds := []) r
    cases hz1.nil_of
    obtain ⟨pc, ps, rfl, hpc, ht⟩ := Tr.tup_of (ds := (W.part x k).map D.int) hz0
    cases ht.ints_of
    refine ⟨_, rfl, _, _, _, _, rfl, rfl, SqT.of (go.tk _ _ (g1.tk _ _ hb)), rfl, rfl, _, rfl, ifT (by decide +kernel) ?_⟩
    have el2 := go.old _ _ id el
    refine ⟨_, rfl, _, rfl, ⟨_, SqL.of el2⟩, fun D2 hD3 => ?_⟩
    refine lcL (xs := (ixs W.n).map V.int) S0 (fun i acc H' => acc = ((ixs i).filter fun o => (W.part x k).contains o).map V.int) el2 id hD3 (by rw [List.length_map, ixs_length]; have := ok.n; omega) rfl ?_ ?_
    · rintro i z acc H3 Kt Kf hz3 hD4 go3 rfl kt kf
      have hi : i < W.n := by
        have := (List.getElem?_eq_some_iff.mp hz3).1
        rw [List.length_map, ixs_length] at this
        exact this
      rw [List.getElem?_map, ixs_get hi] at hz3
      cases hz3
      refine ⟨rfl, ?_⟩
      have hD5 := go3.old _ _ id hD2
      refine ⟨_, rfl, _, rfl, ⟨_, SqL.of hD5⟩, fun D3 hD6 => ?_⟩
      refine lcL (xs := [.ref pc]) S0 (fun j acc H' => acc = ([(W.part x k).contains (i : Int)].take j).map V.bl) hD5 id hD6 (by show 1 ≤ 100000; decide) rfl ?_ ?_
      · rintro j z acc H4 Kt Kf hz4 hD7 go4 rfl kt kf
        have e0 : j = 0 := by
          have := (List.getElem?_eq_some_iff.mp hz4).1
          simp at this
          exact this
        subst e0
        cases hz4
        refine ⟨rfl, ?_⟩
        refine ⟨_, rfl, _, rfl, _, _, rfl, .inr (SqT.of (go4.tk _ _ (go3.tk _ _ hpc))), rfl, flat_ints _, ?_⟩
        rw [if_neg Bool.false_ne_true, inV_int]
        exact kt _ _ hD7 go4 rfl
      · rintro acc H4 hD7 hle4 go4 rfl
        refine ⟨D3, [(W.part x k).contains (i : Int)], rfl, SqL.of hD7, _, rfl, ?_⟩
        rw [show ([(W.part x k).contains (i : Int)].any id) = (W.part x k).contains (i : Int) by simp]
        have hD8 := go4.old _ _ id hD4
        refine ite2 (fun c => ?_) (fun c => ?_)
        · refine ⟨_, rfl, kt _ _ hD8 (go3.trans go4) ?_⟩
          rw [ixs_succ, List.filter_append, List.map_append, List.filter_cons, c]
          rfl
        · refine kf _ hD8 (go3.trans go4) ?_
          rw [ixs_succ, List.filter_append, List.map_append, List.filter_cons, Bool.eq_false_iff.mpr c]
          exact (List.append_nil _).symm
    · rintro acc H3 hD4 hle3 go3 rfl
      rw [List.length_map, ixs_length] at hD4
      refine ⟨D2, _, rfl, .inl ⟨SqL.of hD4, fun t ht => ?_⟩⟩
      exact q _ _ (((g1.trans go).trans go3).trans (Go.new ht _)) (tr_tup upd_same trl_ints)
end
end Kn
/-! ## judging: stepped, judged, holds -/
namespace Kn
open PySem L2
/-- the sentences that the law asks -/
inductive Sn where
  | fact (x : Str) | neg (s : Sn) | or (s t : Sn) | ev (h : Str) (s : Sn) | sm (h : Str) (s : Sn)
def Sn.d : Sn → D
  | .fact x => .tup [.str "fact", .str x]
  | .neg s => .tup [.str "not", s.d]
  | .or s t => .tup [.str "or", s.d, t.d]
  | .ev h s => .tup [.str "every", oneD h, s.d]
  | .sm h s => .tup [.str "some", oneD h, s.d]
def Sn.deep : Sn → Nat
  | .fact _ => 1
  | .neg s => s.deep + 1
  | .or s t => max s.deep t.deep + 1
  | .ev _ s => s.deep + 1
  | .sm _ s => s.deep + 1
/-- at each point whether some (all) of those that the hand can't tell from it have True -/
def Wd.st (W : Wd) (b : Bool) (h : Str) (bs : List Bool) (k : Int) : Bool := if b then ((W.led h k).map fun o => bs.getD o.toNat false).any id else ((W.led h k).map fun o => bs.getD o.toNat false).all id
def Wd.jd (W : Wd) : Sn → List Bool
  | .fact x => (ixs W.n).map fun k => (W.pts x).contains k
  | .neg s => (W.jd s).map (!·)
  | .or s t => List.zipWith (· || ·) (W.jd s) (W.jd t)
  | .ev h s => (ixs W.n).map (W.st false h (W.jd s))
  | .sm h s => (ixs W.n).map (W.st true h (W.jd s))
theorem Wd.jd_length (W : Wd) : ∀ s : Sn, (W.jd s).length = W.n
  | .fact x => by unfold Wd.jd; rw [List.length_map, ixs_length]
  | .neg s => by unfold Wd.jd; rw [List.length_map, Wd.jd_length W s]
  | .or s t => by unfold Wd.jd; rw [List.length_zipWith, Wd.jd_length W s, Wd.jd_length W t, Nat.min_self]
  | .ev h s => by unfold Wd.jd; rw [List.length_map, ixs_length]
  | .sm h s => by unfold Wd.jd; rw [List.length_map, ixs_length]
section
variable {P : Program} {w : World} {K : PySem.W.Frag} {mg : Str → Option Value} {base : Heap}
def word (b : Bool) : Str := if b then "some" else "every"
def sp_stepped : Sp := fun vs H Q _ => ∃ (W : Wd) (v s : V) (l : Addr) (b : Bool) (h : Str) (e : D) (bs : List Bool), vs = [v, s, .ref l] ∧ Tr H W.d v ∧ Tr H (.tup [.str (word b), oneD h, e]) s ∧ H l = some (.lst (bs.map V.bl)) ∧ bs.length = W.n ∧ W.Ok ∧
  ∀ p H', Go S0 H H' → H' p = some (.lst (((ixs W.n).map (W.st b h bs)).map V.bl)) → Q (.ref p) H'
theorem take_map_succ {α β : Type} {l : List α} {f : α → β} {i : Nat} {a : α} (h : l[i]? = some a) : (l.take (i + 1)).map f = (l.take i).map f ++ [f a] := by
  rw [List.take_add_one, h, List.map_append]
  rfl
theorem ok_stepped (T : Tx K mg) : FnOk P w K mg base CX0 3 T.d_stepped.a T.d_stepped.fd P_stepped sp_stepped := by
  have G_led := ok_led (P := P) (w := w) (base := base) T
  refine T.d_stepped.F.ok sc_stepped (fun vs H Q E h => ?_) (fun cdv A outer s H vs Q E hr h => ?_)
  · obtain ⟨W, v, s, l, b, h, e, bs, rfl, _⟩ := h
    rfl
  obtain ⟨W, v, s, l, b, x, e, bs, rfl, hW, hs, hl, hn, ok, q⟩ := h
  refine ⟨_, (pss_cons (ps_asg (pe_slice (slt K) (pv 1) po_none (po_some pe_int)) (pgt K (n := 2) rfl (pgs_cons (pg_name (i := 3) sc_stepped.nd rfl (by first | exact Or.inl rfl | exact Or.inr rfl)) (pgs_cons (pg_name (i := 4) sc_stepped.nd rfl (by first | exact Or.inl rfl | exact Or.inr rfl)) pgs_nil))))
  (pss_cons (ps_set (i := 5) sc_stepped.nd rfl (Or.inl rfl) (pe_lst pa_nil))
  (pss_cons (ps_for PassesOwn.never rfl (pi_range1 rfl T.z_range (pa_cons (pe_callB (clen K) (by rfl) T.z_len (by decide +kernel) (pa_cons (pv 2) pa_nil)) pa_nil)) (pg_name (i := 6) sc_stepped.nd rfl (by first | exact Or.inl rfl | exact Or.inr rfl))
  (pss_cons (ps_setLc (i := 7) (own := [("other", 8)]) rfl sc_stepped.nd rfl rfl (sw_true rfl rfl rfl (by decide +kernel)) (pit K (pe_call G_led (hr.mono (by omega)) rfl T.d_led.m T.d_led.F.kp (b_led T.d_led) .nil pass0 (pa_cons (pv 0) (pa_cons (pv 4) (pa_cons (pv 6) pa_nil))))) (blkOk_by (N := N_stepped) (sc := defScope s_stepped) (by decide +kernel)) (fun _ _ _ _ _ => (pg_name (i := 8) sc_stepped.nd rfl (by first | exact Or.inl rfl | exact Or.inr rfl))) (fun _ _ _ _ _ => pts_nil) (fun _ _ _ _ _ => (pe_ix (xl K) (pv 2) (pv 8) (fun _ _ => rfl))))
  (pss_one (ps_if (pt_cmpR op_eq (pv 3) pe_str (nomark _))
  (pss_one (ps_expr (pbm K PySem.F.plainAttrs_list PySem.F.slot_list_append PySem.F.type_list_append mt_append (pv 5) (pa_cons (pe_callB (cany K rfl) (by rfl) T.z_any (by decide +kernel) (pa_cons (pv 7) pa_nil)) pa_nil))))
  (pss_one (ps_expr (pbm K PySem.F.plainAttrs_list PySem.F.slot_list_append PySem.F.type_list_append mt_append (pv 5) (pa_cons (pe_callB (call' K rfl) (by rfl) T.z_all (by decide +kernel) (pa_cons (pv 7) pa_nil)) pa_nil))))))))
  (pss_one (ps_ret (pv 5)))))), ?_⟩
  obtain ⟨sa, v1, v2, v3, rfl, hsa, h1, h2, h3⟩ := hs.three
  cases h1.str_of
  refine ⟨_, rfl, 2, rfl, sa, _, rfl, SqT.of hsa, (fun z => absurd z.2 (by show ¬ HT.sIx 3 3 (some 2) = 3; decide)), fun p hp => ?_⟩
  have g1 : Go S0 H (upd H p (.tup (cutV [V.str (word b), v2, v3] none (some 2)))) := Go.new hp _
  have e1 : upd H p (.tup (cutV [V.str (word b), v2, v3] none (some 2))) p = some (.tup [V.str (word b), v2]) := upd_same
  generalize upd H p (.tup (cutV [V.str (word b), v2, v3] none (some 2))) = H1 at g1 e1
  refine ⟨p, _, rfl, SqT.of e1, rfl, _, _, rfl, _, _, rfl, rfl, ?_⟩
  refine ⟨Nat.zero_le _, fun f hf => ?_⟩
  refine ⟨_, rfl, _, _, rfl, .inl (SqL.of ((g1.trans (Go.new hf _)).old _ _ id hl)), _, rfl, ?_⟩
  rw [List.length_map, hn]
  have okn := ok.n
  refine ⟨by omega, by omega, ?_⟩
  rw [Int.toNat_natCast]
  refine for_range (lo := 0) (n := W.n) (fun i σ H' => ∃ o6 o7 o8, σ = [some v, some (.ref sa), some (.ref l), some (.str (word b)), some v2, some (.ref f), o6, o7, o8] ∧ H' f = some (.lst (((ixs i).map (W.st b x bs)).map V.bl)) ∧ Go S0 H1 H')
    ⟨_, _, _, rfl, upd_same, Go.new hf _⟩ ?_ ?_
  · rintro i σ H' hi ⟨o6, o7, o8, rfl, hf', g2⟩
    have g02 := g1.trans g2
    rw [Int.zero_add]
    refine ⟨_, rfl, _, rfl, _, rfl, W, _, _, x, (i : Int), rfl, hW.go g02.tk, h2.go g02.tk, ok, by omega, by omega, fun v' H2 g3 t3 => ?_⟩
    obtain ⟨t, ts, rfl, ht, hts⟩ := t3.tup_of
    cases hts.ints_of
    have g03 := g02.trans g3
    refine ⟨t, rfl, ⟨_, SqT.of ht⟩, fun D hD => ?_⟩
    refine lcT (xs := (W.led x i).map V.int) S0 (fun j acc H' => acc = (((W.led x i).take j).map fun o => bs.getD o.toNat false).map V.bl) ht hD ?_ rfl ?_ ?_
    · rw [List.length_map]
      unfold Wd.led
      have := List.length_filter_le (fun o => (W.part x i).contains o) (ixs W.n)
      rw [ixs_length] at this
      omega
    · rintro j z acc H3 Kt Kf hz hD3 g4 rfl kt kf
      rw [List.getElem?_map] at hz
      cases eo : (W.led x i)[j]? with
      | none => rw [eo] at hz; cases hz
      | some o =>
        rw [eo] at hz
        cases hz
        have ho : o ∈ ixs W.n := (List.mem_filter.mp (List.mem_of_getElem? eo)).1
        rw [mem_ixs] at ho
        refine ⟨rfl, ?_⟩
        have e2 : bs[o.toNat]? = some bs[o.toNat] := List.getElem?_eq_getElem (by omega)
        have e3 : (bs.map V.bl)[o.toNat]? = some (V.bl bs[o.toNat]) := by rw [List.getElem?_map, e2]; rfl
        refine ⟨_, rfl, _, rfl, _, _, _, _, rfl, rfl, SqL.of (g4.old _ _ id (g03.old _ _ id hl)), at_of (j := o.toNat) (by omega) e3, kt _ _ hD3 g4 ?_⟩
        rw [take_map_succ eo, List.map_append]
        congr 1
        show [V.bl bs[o.toNat]] = [V.bl (bs.getD o.toNat false)]
        rw [List.getD_eq_getElem?_getD, e2]
        rfl
    · rintro acc H3 hD3 hle g4 rfl
      rw [List.length_map, List.take_length] at hD3
      have hf3 := g4.old _ _ id (g3.old _ _ id hf')
      have fin : ∀ (bb : Bool), bb = W.st b x bs i → Go S0 H1 (upd H3 f (.lst (((ixs i).map (W.st b x bs)).map V.bl ++ [V.bl bb]))) ∧ upd H3 f (.lst (((ixs i).map (W.st b x bs)).map V.bl ++ [V.bl bb])) f = some (.lst (((ixs (i + 1)).map (W.st b x bs)).map V.bl)) := by
        rintro bb rfl
        refine ⟨((g2.trans g3).trans g4).set hf _, ?_⟩
        rw [upd_same, ixs_succ, List.map_append, List.map_append]
        rfl
      have ln : (((ixs i).map (W.st b x bs)).map V.bl).length < sizeLine := by rw [List.length_map, List.length_map, ixs_length]; exact lt_line (by omega)
      refine ⟨_, rfl, rfl, _, rfl, ?_⟩
      cases b with
      | true =>
        refine ifT (by decide +kernel) ?_
        refine ⟨_, rfl, .inl ⟨rfl, _, SqL.of hf3⟩, _, rfl, D, _, rfl, SqL.of hD3, f, _, _, rfl, rfl, hf3, ln, ?_⟩
        obtain ⟨z1, z2⟩ := fin _ rfl
        exact ⟨_, _, _, rfl, z2, z1⟩
      | false =>
        refine ifF (by decide +kernel) ?_
        refine ⟨_, rfl, .inl ⟨rfl, _, SqL.of hf3⟩, _, rfl, D, _, rfl, SqL.of hD3, f, _, _, rfl, rfl, hf3, ln, ?_⟩
        obtain ⟨z1, z2⟩ := fin _ rfl
        exact ⟨_, _, _, rfl, z2, z1⟩
  · rintro σ H' ⟨o6, o7, o8, rfl, hf', g2⟩
    exact ⟨_, rfl, q _ _ (g1.trans g2) hf'⟩

def sp_judged (n : Nat) : Sp := fun vs H Q _ => ∃ (W : Wd) (v sv u : V) (s : Sn), vs = [v, sv, u] ∧ Tr H W.d v ∧ Tr H s.d sv ∧ W.Ok ∧ s.deep ≤ n ∧ ∀ l H', Go S0 H H' → H' l = some (.lst ((W.jd s).map V.bl)) → Q (.ref l) H'
theorem judged_step (T : Tx K mg) {n : Nat} (G_judged : FnOk P w K mg base CX0 (3 + n) T.d_judged.a T.d_judged.fd P_judged (sp_judged n)) : FnOk P w K mg base CX0 (3 + n + 1) T.d_judged.a T.d_judged.fd P_judged (sp_judged (n + 1)) := by
  have G_stepped := ok_stepped (P := P) (w := w) (base := base) T
  have G_many_points := ok_many_points (P := P) (w := w) (base := base) T
  have G_points_of := ok_points_of (P := P) (w := w) (base := base) T
  refine T.d_judged.F.ok sc_judged (fun vs H Q E h => ?_) (fun cdv A outer s H vs Q E hr h => ?_)
  · obtain ⟨W, v, sv, u, s, rfl, _⟩ := h
    rfl
  obtain ⟨W, v, sv, u, s, rfl, hW, hs, ok, hd, q⟩ := h
  refine ⟨_, (pss_cons (ps_set (i := 3) sc_judged.nd rfl (Or.inl rfl) (pe_ix (xt K) (pv 1) pe_int (fun _ _ => rfl)))
  (pss_cons (ps_if (pt_cmpR op_eq (pv 3) pe_str (nomark _))
  (pss_cons (ps_set (i := 4) sc_judged.nd rfl (Or.inr rfl) (pe_call G_points_of (hr.mono (by omega)) rfl T.d_points_of.m T.d_points_of.F.kp (b_points_of T.d_points_of) .nil pass0 (pa_cons (pv 0) (pa_cons (pe_ix (xt K) (pv 1) pe_int (fun _ _ => rfl)) pa_nil))))
  (pss_one (ps_ret (pe_lc (own := [("point", 5)]) (by rfl) sc_judged.nd (pi_range1 rfl T.z_range (pa_cons (pe_call G_many_points (hr.mono (by omega)) rfl T.d_many_points.m T.d_many_points.F.kp (b_many_points T.d_many_points) .nil pass0 (pa_cons (pv 0) pa_nil)) pa_nil)) (blkOk_by (N := N_judged) (sc := defScope s_judged) (by decide +kernel)) (fun _ _ _ _ _ => (pg_name (i := 5) sc_judged.nd rfl (by first | exact Or.inl rfl | exact Or.inr rfl))) (fun _ _ _ _ _ => pts_nil) (fun _ _ _ _ _ => (pe_cmpR (oin K) (pv 5) (pv 4) (by rfl)))))))
  pss_nil)
  (pss_cons (ps_if (pt_cmpR op_eq (pv 3) pe_str (nomark _))
  (pss_one ps_never)
  pss_nil)
  (pss_cons (ps_if (PW.pt (pw_or (pt_cmpR op_eq (pv 3) pe_str (nomark _)) (pw_or1 (pt_cmpR op_eq (pv 3) pe_str (nomark _)))))
  (pss_one ps_never)
  pss_nil)
  (pss_cons (ps_if (pt_cmpR op_eq (pv 3) pe_str (nomark _))
  (pss_cons ps_never
  (pss_one ps_never))
  pss_nil)
  (pss_cons (ps_if (PW.pt (pw_or (pt_cmpR op_eq (pv 3) pe_str (nomark _)) (pw_or1 (pt_cmpR op_eq (pv 3) pe_str (nomark _)))))
  (pss_one (ps_ret (pe_call G_stepped (hr.mono (by omega)) rfl T.d_stepped.m T.d_stepped.F.kp (b_stepped T.d_stepped) .nil pass0 (pa_cons (pv 0) (pa_cons (pv 1) (pa_cons (pe_call G_judged (hr.mono (by omega)) rfl T.d_judged.m T.d_judged.F.kp (b_judged T.d_judged) .nil pass0 (pa_cons (pv 0) (pa_cons (pe_ix (xt K) (pv 1) pe_int (fun _ _ => rfl)) (pa_cons (pv 2) pa_nil)))) pa_nil))))))
  pss_nil)
  (pss_cons (ps_set (i := 7) sc_judged.nd rfl (Or.inl rfl) (pe_call G_judged (hr.mono (by omega)) rfl T.d_judged.m T.d_judged.F.kp (b_judged T.d_judged) .nil pass0 (pa_cons (pv 0) (pa_cons (pe_ix (xt K) (pv 1) pe_int (fun _ _ => rfl)) (pa_cons (pv 2) pa_nil)))))
  (pss_cons (ps_if (pt_cmpR op_eq (pv 3) pe_str (nomark _))
  (pss_one (ps_ret (pe_lc (own := [("truth", 8)]) (by rfl) sc_judged.nd (pil K (pv 7)) (blkOk_by (N := N_judged) (sc := defScope s_judged) (by decide +kernel)) (fun _ _ _ _ _ => (pg_name (i := 8) sc_judged.nd rfl (by first | exact Or.inl rfl | exact Or.inr rfl))) (fun _ _ _ _ _ => pts_nil) (fun _ _ _ _ _ => (pe_not (pv 8))))))
  pss_nil)
  (pss_cons (ps_set (i := 9) sc_judged.nd rfl (Or.inl rfl) (pe_call G_judged (hr.mono (by omega)) rfl T.d_judged.m T.d_judged.F.kp (b_judged T.d_judged) .nil pass0 (pa_cons (pv 0) (pa_cons (pe_ix (xt K) (pv 1) pe_int (fun _ _ => rfl)) (pa_cons (pv 2) pa_nil)))))
  (pss_cons (ps_if (pt_cmpR op_eq (pv 3) pe_str (nomark _))
  (pss_one ps_never)
  pss_nil)
  (pss_one (ps_ret (pe_lc (own := [("first", 10), ("second", 11)]) (by rfl) sc_judged.nd (piz K (by rfl) T.z_zip (pa_cons (pv 7) (pa_cons (pv 9) pa_nil))) (blkOk_by (N := N_judged) (sc := defScope s_judged) (by decide +kernel)) (fun _ _ _ _ _ => (pgt K (n := 2) rfl (pgs_cons (pg_name (i := 10) sc_judged.nd rfl (by first | exact Or.inl rfl | exact Or.inr rfl)) (pgs_cons (pg_name (i := 11) sc_judged.nd rfl (by first | exact Or.inl rfl | exact Or.inr rfl)) pgs_nil)))) (fun _ _ _ _ _ => pts_nil) (fun _ _ _ _ _ => (pe_or (pv 10) (pe_one (pv 11))))))))))))))))), ?_⟩
  have okn := ok.n
  cases s with
  | fact x =>
    obtain ⟨a, v1, v2, rfl, ha, h1, h2⟩ := hs.two
    cases h1.str_of
    cases h2.str_of
    refine ⟨_, rfl, _, _, _, _, rfl, rfl, SqT.of ha, rfl, ?_⟩
    refine ⟨_, rfl, rfl, _, rfl, ifT (by decide +kernel) ?_⟩
    refine ⟨_, rfl, _, rfl, _, _, _, _, rfl, rfl, SqT.of ha, rfl, W, _, x, rfl, hW, fun v' H1 g1 t1 => ?_⟩
    obtain ⟨t, ts, rfl, ht, hts⟩ := t1.tup_of
    cases hts.ints_of
    refine ⟨_, rfl, W, _, rfl, hW.go g1.tk, _, rfl, by omega, by omega, fun D hD => ?_⟩
    rw [Int.toNat_natCast]
    refine lcR S0 (fun i acc H' => acc = ((ixs i).map fun k => (W.pts x).contains k).map V.bl) hD (by omega) rfl ?_ ?_
    · rintro i acc H2 Kt Kf hi hD2 g2 rfl kt kf
      refine ⟨rfl, _, rfl, _, rfl, _, _, rfl, .inr (SqT.of (g2.tk _ _ ht)), rfl, flat_ints _, ?_⟩
      rw [if_neg Bool.false_ne_true, inV_int]
      refine kt _ _ hD2 g2 ?_
      rw [ixs_succ, List.map_append, List.map_append]
      rfl
    · rintro acc H2 hD2 hle g2 rfl
      exact q _ _ (g1.trans g2) hD2
  | neg s =>
    obtain ⟨a, v1, v2, rfl, ha, h1, h2⟩ := Tr.two (d := .str "not") (e := s.d) hs
    cases h1.str_of
    have hd' : s.deep + 1 ≤ n + 1 := hd
    refine ⟨_, rfl, _, _, _, _, rfl, rfl, SqT.of ha, rfl, ?_⟩
    refine ⟨_, rfl, rfl, _, rfl, ifF (by decide +kernel) ?_⟩
    refine ⟨_, rfl, rfl, _, rfl, ifF (by decide +kernel) ?_⟩
    refine ⟨_, rfl, rfl, _, rfl, ifF (by decide +kernel) ⟨_, rfl, rfl, _, rfl, ifF (by decide +kernel) ?_⟩⟩
    refine ⟨_, rfl, rfl, _, rfl, ifF (by decide +kernel) ?_⟩
    refine ⟨_, rfl, rfl, _, rfl, ifF (by decide +kernel) ⟨_, rfl, rfl, _, rfl, ifF (by decide +kernel) ?_⟩⟩
    refine ⟨_, rfl, _, rfl, _, _, _, _, rfl, rfl, SqT.of ha, rfl, _, rfl, W, _, _, _, s, rfl, hW, h2, ok, by omega, fun l H1 g1 hl => ?_⟩
    refine ⟨_, rfl, rfl, _, rfl, ifT (by decide +kernel) ?_⟩
    refine ⟨_, rfl, _, rfl, ⟨_, SqL.of hl⟩, fun D hD => ?_⟩
    refine lcL (xs := (W.jd s).map V.bl) S0 (fun i acc H' => acc = (((W.jd s).take i).map (!·)).map V.bl) hl id hD (by rw [List.length_map, W.jd_length]; omega) rfl ?_ ?_
    · rintro i z acc H2 Kt Kf hz hD2 g2 rfl kt kf
      rw [List.getElem?_map] at hz
      cases eo : (W.jd s)[i]? with
      | none => rw [eo] at hz; cases hz
      | some o =>
        rw [eo] at hz
        cases hz
        refine ⟨rfl, _, rfl, _, rfl, kt _ _ hD2 g2 ?_⟩
        rw [take_map_succ eo, List.map_append]
        rfl
    · rintro acc H2 hD2 hle g2 rfl
      rw [List.length_map, List.take_length] at hD2
      exact q _ _ (g1.trans g2) hD2
  | or s t =>
    obtain ⟨a, v1, v2, v3, rfl, ha, h1, h2, h3⟩ := Tr.three (d := .str "or") (e := s.d) (f := t.d) hs
    cases h1.str_of
    have hd' : max s.deep t.deep + 1 ≤ n + 1 := hd
    refine ⟨_, rfl, _, _, _, _, rfl, rfl, SqT.of ha, rfl, ?_⟩
    refine ⟨_, rfl, rfl, _, rfl, ifF (by decide +kernel) ?_⟩
    refine ⟨_, rfl, rfl, _, rfl, ifF (by decide +kernel) ?_⟩
    refine ⟨_, rfl, rfl, _, rfl, ifF (by decide +kernel) ⟨_, rfl, rfl, _, rfl, ifF (by decide +kernel) ?_⟩⟩
    refine ⟨_, rfl, rfl, _, rfl, ifF (by decide +kernel) ?_⟩
    refine ⟨_, rfl, rfl, _, rfl, ifF (by decide +kernel) ⟨_, rfl, rfl, _, rfl, ifF (by decide +kernel) ?_⟩⟩
    refine ⟨_, rfl, _, rfl, _, _, _, _, rfl, rfl, SqT.of ha, rfl, _, rfl, W, _, _, _, s, rfl, hW, h2, ok, by omega, fun l H1 g1 hl => ?_⟩
    refine ⟨_, rfl, rfl, _, rfl, ifF (by decide +kernel) ?_⟩
    refine ⟨_, rfl, _, rfl, _, _, _, _, rfl, rfl, SqT.of (g1.tk _ _ ha), rfl, _, rfl, W, _, _, _, t, rfl, hW.go g1.tk, h3.go g1.tk, ok, by omega, fun l2 H2 g2 hl2 => ?_⟩
    refine ⟨_, rfl, rfl, _, rfl, ifF (by decide +kernel) ?_⟩
    have hl' := g2.old _ _ id hl
    refine ⟨_, rfl, _, rfl, l, l2, _, _, rfl, SqL.of hl', SqL.of hl2, fun D hD => ?_⟩
    refine lcW (walk_zip (n := W.n) (xs := (W.jd s).map V.bl) (ys := (W.jd t).map V.bl) (by rw [List.length_map, List.length_map, W.jd_length, W.jd_length, Nat.min_self])) S0
      (fun i acc H' => acc = ((List.zipWith (· || ·) (W.jd s) (W.jd t)).take i).map V.bl) (fun H3 g3 => ⟨SqL.of (g3.old _ _ id hl'), SqL.of (g3.old _ _ id hl2)⟩) hD (by omega) rfl ?_ ?_
    · rintro i acc z H3 H4 Kt Kf hi hD3 g3 rfl ⟨tp, x, y, rfl, htp, rfl, hx, hy⟩ kt kf
      have i1 : i < (W.jd s).length := by rw [W.jd_length]; exact hi
      have i2 : i < (W.jd t).length := by rw [W.jd_length]; exact hi
      have e1 : (W.jd s)[i]? = some ((W.jd s)[i]'(by rw [W.jd_length]; exact hi)) := List.getElem?_eq_getElem _
      have e2 : (W.jd t)[i]? = some ((W.jd t)[i]'(by rw [W.jd_length]; exact hi)) := List.getElem?_eq_getElem _
      have hx : ((W.jd s).map V.bl)[i]? = some x := hx
      have hy : ((W.jd t).map V.bl)[i]? = some y := hy
      rw [List.getElem?_map, e1] at hx
      rw [List.getElem?_map, e2] at hy
      cases hx
      cases hy
      have e3 : (List.zipWith (· || ·) (W.jd s) (W.jd t))[i]? = some ((W.jd s)[i]'(by rw [W.jd_length]; exact hi) || (W.jd t)[i]'(by rw [W.jd_length]; exact hi)) := by
        rw [List.getElem?_zipWith, e1, e2]
      refine ⟨tp, _, rfl, SqT.of upd_same, rfl, _, _, rfl, _, _, rfl, rfl, rfl, ?_⟩
      have hD4 : upd H3 tp (.tup [V.bl (W.jd s)[i], V.bl (W.jd t)[i]]) D = some (.lst (((List.zipWith (· || ·) (W.jd s) (W.jd t)).take i).map V.bl)) := by rw [upd_ne (ne_of_none hD3 htp)]; exact hD3
      have ap : ∀ c : Bool, c = ((W.jd s)[i]'(by rw [W.jd_length]; exact hi) || (W.jd t)[i]'(by rw [W.jd_length]; exact hi)) → ((List.zipWith (· || ·) (W.jd s) (W.jd t)).take i).map V.bl ++ [V.bl c] = ((List.zipWith (· || ·) (W.jd s) (W.jd t)).take (i + 1)).map V.bl := by
        rintro c rfl
        rw [take_map_succ e3]
      refine ⟨_, rfl, _, rfl, ?_⟩
      refine ite2 (fun c => ?_) (fun c => ?_)
      · refine kt _ _ hD4 (g3.trans (Go.new htp _)) (ap _ ?_)
        rw [c]
        rfl
      · refine ⟨_, rfl, kt _ _ hD4 (g3.trans (Go.new htp _)) (ap _ ?_)⟩
        rw [Bool.eq_false_iff.mpr c]
        rfl
    · rintro acc H3 hD3 hle g3 rfl
      rw [show (List.zipWith (· || ·) (W.jd s) (W.jd t)).take W.n = List.zipWith (· || ·) (W.jd s) (W.jd t) from List.take_of_length_le (by have := W.jd_length (.or s t); unfold Wd.jd at this; omega)] at hD3
      exact q _ _ ((g1.trans g2).trans g3) hD3
  | ev h s =>
    have hs' := hs
    obtain ⟨a, v1, v2, v3, rfl, ha, h1, h2, h3⟩ := Tr.three (d := .str "every") (e := oneD h) (f := s.d) hs
    cases h1.str_of
    have hd' : s.deep + 1 ≤ n + 1 := hd
    refine ⟨_, rfl, _, _, _, _, rfl, rfl, SqT.of ha, rfl, ?_⟩
    refine ⟨_, rfl, rfl, _, rfl, ifF (by decide +kernel) ?_⟩
    refine ⟨_, rfl, rfl, _, rfl, ifF (by decide +kernel) ?_⟩
    refine ⟨_, rfl, rfl, _, rfl, ifF (by decide +kernel) ⟨_, rfl, rfl, _, rfl, ifF (by decide +kernel) ?_⟩⟩
    refine ⟨_, rfl, rfl, _, rfl, ifF (by decide +kernel) ?_⟩
    refine ⟨_, rfl, rfl, _, rfl, ifF (by decide +kernel) ⟨_, rfl, rfl, _, rfl, ifT (by decide +kernel) ?_⟩⟩
    refine ⟨_, rfl, _, rfl, _, rfl, _, rfl, _, _, _, _, rfl, rfl, SqT.of ha, rfl, _, rfl, W, _, _, _, s, rfl, hW, h3, ok, by omega, fun l H1 g1 hl => ?_⟩
    exact ⟨W, _, _, l, false, h, s.d, _, rfl, hW.go g1.tk, Tr.go (d := .tup [.str "every", oneD h, s.d]) hs' g1.tk, hl, W.jd_length s, ok, fun p H' g2 hp => q _ _ (g1.trans g2) hp⟩
  | sm h s =>
    have hs' := hs
    obtain ⟨a, v1, v2, v3, rfl, ha, h1, h2, h3⟩ := Tr.three (d := .str "some") (e := oneD h) (f := s.d) hs
    cases h1.str_of
    have hd' : s.deep + 1 ≤ n + 1 := hd
    refine ⟨_, rfl, _, _, _, _, rfl, rfl, SqT.of ha, rfl, ?_⟩
    refine ⟨_, rfl, rfl, _, rfl, ifF (by decide +kernel) ?_⟩
    refine ⟨_, rfl, rfl, _, rfl, ifF (by decide +kernel) ?_⟩
    refine ⟨_, rfl, rfl, _, rfl, ifF (by decide +kernel) ⟨_, rfl, rfl, _, rfl, ifF (by decide +kernel) ?_⟩⟩
    refine ⟨_, rfl, rfl, _, rfl, ifF (by decide +kernel) ?_⟩
    refine ⟨_, rfl, rfl, _, rfl, ifT (by decide +kernel) ?_⟩
    refine ifT rfl ?_
    refine ⟨_, rfl, _, rfl, _, rfl, _, rfl, _, _, _, _, rfl, rfl, SqT.of ha, rfl, _, rfl, W, _, _, _, s, rfl, hW, h3, ok, by omega, fun l H1 g1 hl => ?_⟩
    exact ⟨W, _, _, l, true, h, s.d, _, rfl, hW.go g1.tk, Tr.go (d := .tup [.str "some", oneD h, s.d]) hs' g1.tk, hl, W.jd_length s, ok, fun p H' g2 hp => q _ _ (g1.trans g2) hp⟩
theorem judged_none {k : Nat} (T : Tx K mg) : FnOk P w K mg base CX0 k T.d_judged.a T.d_judged.fd P_judged (sp_judged 0) := by
  have no : ∀ vs H Q E, ¬ sp_judged 0 vs H Q E := fun vs H Q E h => by
    obtain ⟨W, v, sv, u, s, _, _, _, _, hd, _⟩ := h
    cases s <;> simp only [Sn.deep] at hd <;> omega
  exact ⟨fun vs H Q E h => absurd h (no vs H Q E), fun A outer s H args us vs Q E _ _ _ _ h => absurd h (no vs H Q E)⟩
theorem ok_judged (T : Tx K mg) : ∀ n : Nat, FnOk P w K mg base CX0 (3 + n) T.d_judged.a T.d_judged.fd P_judged (sp_judged n)
  | 0 => judged_none T
  | n + 1 => judged_step T (ok_judged T n)

/-- the points where a sentence holds -/
def Wd.holds (W : Wd) (s : Sn) : List Int := tps (W.jd s)
def sp_holds : Sp := fun vs H Q _ => ∃ (W : Wd) (v sv : V) (s : Sn), vs = [v, sv] ∧ Tr H W.d v ∧ Tr H s.d sv ∧ W.Ok ∧ s.deep ≤ 5 ∧ Ret H Q fun v' H' => Tr H' (D.ints (W.holds s)) v'
theorem ok_holds (T : Tx K mg) : FnOk P w K mg base CX0 9 T.d_holds.a T.d_holds.fd P_holds sp_holds := by
  have G_judged := ok_judged (P := P) (w := w) (base := base) T 5
  have G_true_points := ok_true_points (P := P) (w := w) (base := base) T
  refine T.d_holds.F.ok sc_holds (fun vs H Q E h => ?_) (fun cdv A outer s H vs Q E hr h => ?_)
  · obtain ⟨W, v, sv, s, rfl, _⟩ := h
    rfl
  obtain ⟨W, v, sv, s, rfl, hW, hs, ok, hd, q⟩ := h
  refine ⟨_, (pss_one (ps_ret (pe_call G_true_points (hr.mono (by omega)) rfl T.d_true_points.m T.d_true_points.F.kp (b_true_points T.d_true_points) .nil pass0 (pa_cons (pe_call G_judged (hr.mono (by omega)) rfl T.d_judged.m T.d_judged.F.kp (b_judged T.d_judged) .nil pass0 (pa_cons (pv 0) (pa_cons (pv 1) (pa_cons pe_dnewK pa_nil)))) pa_nil)))), ?_⟩
  refine ⟨_, rfl, _, rfl, fun p hp => ?_⟩
  have g1 : Go S0 H (upd H p (.dK [])) := Go.new hp _
  refine ⟨W, _, _, _, s, rfl, hW.go g1.tk, hs.go g1.tk, ok, hd, fun l H1 g2 hl => ?_⟩
  exact ⟨l, _, rfl, hl, by rw [W.jd_length]; exact ok.n, fun v' H' g3 t3 => q _ _ ((g1.trans g2).trans g3) t3⟩
end
end Kn
/-! ## machines: reckoned, first_state, values_of, laid, done_at -/
namespace Kn
open PySem L2
/-! ### data -/
/-- a box: its name, least, greatest, first -/
structure Bx where
  nm : Str
  lo : Int
  hi : Int
  ft : Int
def Bx.d (b : Bx) : D := .tup [.str b.nm, .int b.lo, .int b.hi, .int b.ft]
def Bx.Ok (b : Bx) : Prop := (-999 ≤ b.lo ∧ b.lo ≤ 999) ∧ (-999 ≤ b.hi ∧ b.hi ≤ 999) ∧ -999 ≤ b.ft ∧ b.ft ≤ 999
def Small (i : Int) : Prop := -999 ≤ i ∧ i ≤ 999
def opsK : List (Str × Nat) := [("add", 2), ("sub", 2), ("times", 2), ("less", 2), ("same", 2), ("pick", 3)]
/-- reckonings over boxes of these names, k deep -/
inductive RkD (ns : List Str) : Nat → D → Prop where
  | num {k : Nat} {n : Int} (h : Small n) : RkD ns k (.tup [.str "num", .int n])
  | box {k : Nat} {x : Str} (h : x ∈ ns) : RkD ns k (.tup [.str "box", .str x])
  | op {k : Nat} {o : Str} {ds : List D} (h : (o, ds.length) ∈ opsK) (hd : ∀ d ∈ ds, RkD ns k d) : RkD ns (k + 1) (.tup (.str o :: ds))
def Bd : Nat → Int
  | 0 => 1000
  | 1 => 1000000
  | _ => 1000000000000
/-- what a dict of boxes' values holds -/
def Vd (names : List Str) (st : List Int) (kvs : List (Key × V)) : Prop := ∀ (i : Nat) x v, names[i]? = some x → st[i]? = some v → valV kvs (Sum.inr x) = some (.int v)
def Vs (names : List Str) (kvs : List (Key × V)) : Prop := ∀ x ∈ names, ∃ i, Small i ∧ valV kvs (Sum.inr x) = some (.int i)
theorem Vd.vs {names : List Str} {st : List Int} {kvs : List (Key × V)} (h : Vd names st kvs) (hl : names.length = st.length) (hs : ∀ i ∈ st, Small i) : Vs names kvs := fun x hx => by
  obtain ⟨i, hi, e⟩ := List.mem_iff_getElem.mp hx
  have hi' : i < st.length := by omega
  exact ⟨st[i], hs _ (List.getElem_mem hi'), h i x st[i] (by rw [List.getElem?_eq_getElem hi, e]) (List.getElem?_eq_getElem hi')⟩
theorem putK_le {κ : Type} [DecidableEq κ] (kvs : List (κ × V)) (k : κ) (v : V) : (putK kvs k v).length ≤ kvs.length + 1 := by
  unfold putK
  split
  · rw [List.length_map]; omega
  · rw [List.length_append]; exact Nat.le_refl _
theorem cut1 (x : V) (vs : List V) : cutV (x :: vs) (some 1) none = vs := by
  have e := HT.sIx_nat (x :: vs).length 0 1
  unfold cutV
  rw [show (1 : Int) = ((1 : Nat) : Int) from rfl, e, HT.sIx_none]
  rw [show min 1 (x :: vs).length = 1 by rw [List.length_cons]; omega]
  show ((x :: vs).drop 1).take ((x :: vs).length - 1) = vs
  rw [List.length_cons, Nat.add_sub_cancel, List.drop_one, List.tail_cons, List.take_length]
section
variable {P : Program} {w : World} {K : PySem.W.Frag} {mg : Str → Option Value} {base : Heap}

def sp_reckoned (n : Nat) : Sp := fun vs H Q _ => ∃ (v : V) (l : Addr) (names : List Str) (kvs : List (Key × V)) (d : D) (k : Nat), vs = [v, .ref l] ∧ k + 1 ≤ n ∧ k ≤ 2 ∧ RkD names k d ∧ Tr H d v ∧ H l = some (.dK kvs) ∧ Vs names kvs ∧
  ∀ i H', Go S0 H H' → -Bd k ≤ i → i ≤ Bd k → Q (.int i) H'
theorem bd_ge (k : Nat) : 1000 ≤ Bd k := by
  unfold Bd
  split <;> decide
theorem bd_next {k : Nat} (h : k + 1 ≤ 2) : Bd k ≤ 1000000 ∧ Bd k * Bd k ≤ Bd (k + 1) := by
  have e : k = 0 ∨ k = 1 := by omega
  rcases e with rfl | rfl <;> exact ⟨by decide, by decide⟩
theorem reckoned_step (T : Tx K mg) {n : Nat} (G_reckoned : FnOk P w K mg base CX0 n T.d_reckoned.a T.d_reckoned.fd P_reckoned (sp_reckoned n)) : FnOk P w K mg base CX0 (n + 1) T.d_reckoned.a T.d_reckoned.fd P_reckoned (sp_reckoned (n + 1)) := by
  refine T.d_reckoned.F.ok sc_reckoned (fun vs H Q E h => ?_) (fun cdv A outer s H vs Q E hr h => ?_)
  · obtain ⟨v, l, names, kvs, d, k, rfl, _⟩ := h
    rfl
  obtain ⟨v, l, names, kvs, d, k, rfl, hk, hk2, hd, hv, hl, hvs, q⟩ := h
  have hu := hu_of hr
  refine ⟨_, (pss_cons (ps_set (i := 2) sc_reckoned.nd rfl (Or.inl rfl) (pe_ix (xt K) (pv 0) pe_int (fun _ _ => rfl)))
  (pss_cons (ps_if (pt_cmpR op_eq (pv 2) pe_str (nomark _))
  (pss_one (ps_ret (pe_ix (xt K) (pv 0) pe_int (fun _ _ => rfl))))
  pss_nil)
  (pss_cons (ps_if (pt_cmpR op_eq (pv 2) pe_str (nomark _))
  (pss_one (ps_ret (pe_dget hu (pv 1) (pe_ix (xt K) (pv 0) pe_int (fun _ _ => rfl)) (fun _ _ => rfl))))
  pss_nil)
  (pss_cons (ps_setLc (i := 3) (own := [("one", 4)]) rfl sc_reckoned.nd rfl rfl (sw_true rfl rfl rfl (by decide +kernel)) (pit K (pe_slice (slt K) (pv 0) (po_some pe_int) po_none)) (blkOk_by (N := N_reckoned) (sc := defScope s_reckoned) (by decide +kernel)) (fun _ _ _ _ _ => (pg_name (i := 4) sc_reckoned.nd rfl (by first | exact Or.inl rfl | exact Or.inr rfl))) (fun _ _ _ _ _ => pts_nil) (fun _ _ _ _ _ => (pe_call G_reckoned (hr.mono (by omega)) rfl T.d_reckoned.m T.d_reckoned.F.kp (b_reckoned T.d_reckoned) .nil pass0 (pa_cons (pv 4) (pa_cons (pv 1) pa_nil)))))
  (pss_cons (ps_if (pt_cmpR op_eq (pv 2) pe_str (nomark _))
  (pss_one (ps_ret (pe_op op_add (pe_ix (xl K) (pv 3) pe_int (fun _ _ => rfl)) (pe_ix (xl K) (pv 3) pe_int (fun _ _ => rfl)))))
  pss_nil)
  (pss_cons (ps_if (pt_cmpR op_eq (pv 2) pe_str (nomark _))
  (pss_one (ps_ret (pe_op op_sub (pe_ix (xl K) (pv 3) pe_int (fun _ _ => rfl)) (pe_ix (xl K) (pv 3) pe_int (fun _ _ => rfl)))))
  pss_nil)
  (pss_cons (ps_if (pt_cmpR op_eq (pv 2) pe_str (nomark _))
  (pss_one (ps_ret (pe_op op_mul (pe_ix (xl K) (pv 3) pe_int (fun _ _ => rfl)) (pe_ix (xl K) (pv 3) pe_int (fun _ _ => rfl)))))
  pss_nil)
  (pss_cons (ps_if (pt_cmpR op_eq (pv 2) pe_str (nomark _))
  (pss_one (ps_ret (pe_callTy call_int1 (by rfl) T.z_int (by decide +kernel) (pa_cons (pe_cmpR op_lt (pe_ix (xl K) (pv 3) pe_int (fun _ _ => rfl)) (pe_ix (xl K) (pv 3) pe_int (fun _ _ => rfl)) (nomark _)) pa_nil))))
  pss_nil)
  (pss_cons (ps_if (pt_cmpR op_eq (pv 2) pe_str (nomark _))
  (pss_one (ps_ret (pe_callTy call_int1 (by rfl) T.z_int (by decide +kernel) (pa_cons (pe_cmpR op_eq (pe_ix (xl K) (pv 3) pe_int (fun _ _ => rfl)) (pe_ix (xl K) (pv 3) pe_int (fun _ _ => rfl)) (nomark _)) pa_nil))))
  pss_nil)
  (pss_one (ps_ret (pe_ifExp (pt_cmpR op_eq (pe_ix (xl K) (pv 3) pe_int (fun _ _ => rfl)) pe_int (nomark _)) (pe_ix (xl K) (pv 3) pe_int (fun _ _ => rfl)) (pe_ix (xl K) (pv 3) pe_int (fun _ _ => rfl)))))))))))))), ?_⟩
  cases hd with
  | num hn =>
    obtain ⟨a, v1, v2, rfl, ha, h1, h2⟩ := hv.two
    cases h1.str_of
    cases h2.int_of
    have b := bd_ge k
    unfold Small at hn
    refine ⟨_, rfl, _, _, _, _, rfl, rfl, SqT.of ha, rfl, ?_⟩
    refine ⟨_, rfl, rfl, _, rfl, ifT (by decide +kernel) ?_⟩
    exact ⟨_, rfl, _, _, _, _, rfl, rfl, SqT.of ha, rfl, q _ _ Go.refl (by omega) (by omega)⟩
  | @box _ x hx =>
    obtain ⟨a, v1, v2, rfl, ha, h1, h2⟩ := hv.two
    cases h1.str_of
    cases h2.str_of
    obtain ⟨i, hi, hg⟩ := hvs x hx
    have b := bd_ge k
    unfold Small at hi
    refine ⟨_, rfl, _, _, _, _, rfl, rfl, SqT.of ha, rfl, ?_⟩
    refine ⟨_, rfl, rfl, _, rfl, ifF (by decide +kernel) ?_⟩
    refine ⟨_, rfl, rfl, _, rfl, ifT (by decide +kernel) ?_⟩
    refine ⟨_, rfl, _, rfl, _, _, _, _, rfl, rfl, SqT.of ha, rfl, l, V.int i, rfl, ?_, q i _ Go.refl (by omega) (by omega)⟩
    have g := DGet.k (k := Sum.inr x) hl
    rw [hg] at g
    exact g
  | @op k o ds ho hds =>
    obtain ⟨a, us, rfl, ha, ht0⟩ := hv.tup_of
    obtain ⟨v1, vs, rfl, h1, ht⟩ := ht0.cons_of
    cases h1.str_of
    have hlen := ht.length
    have bb := bd_next hk2
    have b := bd_ge k
    have nn : o ≠ "num" ∧ o ≠ "box" := by
      unfold opsK at ho
      simp only [List.mem_cons, Prod.mk.injEq, List.not_mem_nil, or_false] at ho
      rcases ho with ⟨rfl, _⟩ | ⟨rfl, _⟩ | ⟨rfl, _⟩ | ⟨rfl, _⟩ | ⟨rfl, _⟩ | ⟨rfl, _⟩ <;> exact ⟨by decide +kernel, by decide +kernel⟩
    have tst : ∀ z : Str, o ≠ z → decide (V.str o = V.str z) = false := fun z hz => decide_eq_false fun e => hz (V.str.inj e)
    refine ⟨_, rfl, _, _, _, _, rfl, rfl, SqT.of ha, atI_nat (j := 0) rfl, ?_⟩
    refine ⟨_, rfl, rfl, _, rfl, ifF (tst _ nn.1) ?_⟩
    refine ⟨_, rfl, rfl, _, rfl, ifF (tst _ nn.2) ?_⟩
    refine ⟨_, rfl, 1, rfl, a, _, rfl, SqT.of ha, ?_, fun p hp => ?_⟩
    · rintro ⟨z, _⟩
      rw [show (1 : Int) = ((1 : Nat) : Int) from rfl, HT.sIx_nat, List.length_cons] at z
      omega
    rw [cut1]
    have g1 : Go S0 H (upd H p (.tup vs)) := Go.new hp _
    have ep : upd H p (.tup vs) p = some (.tup vs) := upd_same
    generalize upd H p (.tup vs) = H1 at g1 ep
    have h23 : vs.length = 2 ∨ vs.length = 3 := by
      unfold opsK at ho
      simp only [List.mem_cons, Prod.mk.injEq, List.not_mem_nil, or_false] at ho
      omega
    refine ⟨p, rfl, ⟨_, SqT.of ep⟩, fun D hD => ?_⟩
    refine lcT (xs := vs) S0 (fun i acc _ => ∃ ns : List Int, acc = ns.map V.int ∧ ns.length = i ∧ ∀ n ∈ ns, -Bd k ≤ n ∧ n ≤ Bd k) ep hD (by omega) ⟨[], rfl, rfl, fun n hn => by cases hn⟩ ?_ ?_
    · rintro i z acc H2 Kt Kf hz hD2 g2 ⟨ns, rfl, hns, hb⟩ kt kf
      obtain ⟨d, hd1, td⟩ := ht.get hz
      refine ⟨rfl, ?_⟩
      refine ⟨_, rfl, _, rfl, _, l, names, kvs, d, k, rfl, by omega, by omega, hds d (List.mem_of_getElem? hd1), td.go (g1.tk.trans g2.tk), g2.old _ _ id (g1.old _ _ id hl), hvs, fun i' H3 g3 lo hi => ?_⟩
      refine kt _ _ (g3.old _ _ id hD2) (g2.trans g3) ⟨ns ++ [i'], ?_, ?_, ?_⟩
      · rw [List.map_append]; rfl
      · rw [List.length_append, hns]; rfl
      · intro m hm
        rcases List.mem_append.mp hm with hm | hm
        · exact hb m hm
        · rw [List.mem_singleton] at hm
          subst hm
          exact ⟨lo, hi⟩
    · rintro acc H2 hD2 hle g2 ⟨ns, rfl, hns, hb⟩
      have g12 := g1.trans g2
      have two : ∀ z, (o, 2) = z → ds.length = 2 → ∃ x y : Int, ns = [x, y] ∧ (-Bd k ≤ x ∧ x ≤ Bd k) ∧ (-Bd k ≤ y ∧ y ≤ Bd k) := fun _ _ e => by
        have e2 : ns.length = 2 := by omega
        match ns, e2 with
        | [x, y], _ => exact ⟨x, y, rfl, hb x (by simp), hb y (by simp)⟩
      have mulB : ∀ x y : Int, (-Bd k ≤ x ∧ x ≤ Bd k) → (-Bd k ≤ y ∧ y ≤ Bd k) → -(Bd k * Bd k) ≤ x * y ∧ x * y ≤ Bd k * Bd k := fun x y hx hy => by
        have h1 : (x * y).natAbs ≤ (Bd k * Bd k).natAbs := by
          rw [Int.natAbs_mul, Int.natAbs_mul]
          exact Nat.mul_le_mul (by omega) (by omega)
        have h0 : 0 ≤ Bd k * Bd k := Int.mul_nonneg (by omega) (by omega)
        omega
      have sq2 : 2 * Bd k ≤ Bd k * Bd k := Int.mul_le_mul_of_nonneg_right (by omega) (by omega)
      unfold opsK at ho
      simp only [List.mem_cons, Prod.mk.injEq, List.not_mem_nil, or_false] at ho
      rcases ho with ⟨rfl, e2⟩ | ⟨rfl, e2⟩ | ⟨rfl, e2⟩ | ⟨rfl, e2⟩ | ⟨rfl, e2⟩ | ⟨rfl, e2⟩
      · obtain ⟨x, y, rfl, hx, hy⟩ := two _ rfl e2
        refine ⟨_, rfl, rfl, _, rfl, ifT (by decide +kernel) ?_⟩
        refine ⟨_, rfl, _, _, _, _, rfl, rfl, SqL.of hD2, rfl, _, rfl, _, _, _, _, rfl, rfl, SqL.of hD2, rfl, _, _, rfl, rfl, q _ _ g12 (by omega) (by omega)⟩
      · obtain ⟨x, y, rfl, hx, hy⟩ := two _ rfl e2
        refine ⟨_, rfl, rfl, _, rfl, ifF (by decide +kernel) ?_⟩
        refine ⟨_, rfl, rfl, _, rfl, ifT (by decide +kernel) ?_⟩
        refine ⟨_, rfl, _, _, _, _, rfl, rfl, SqL.of hD2, rfl, _, rfl, _, _, _, _, rfl, rfl, SqL.of hD2, rfl, _, _, rfl, rfl, q _ _ g12 (by omega) (by omega)⟩
      · obtain ⟨x, y, rfl, hx, hy⟩ := two _ rfl e2
        have m := mulB x y hx hy
        refine ⟨_, rfl, rfl, _, rfl, ifF (by decide +kernel) ?_⟩
        refine ⟨_, rfl, rfl, _, rfl, ifF (by decide +kernel) ?_⟩
        refine ⟨_, rfl, rfl, _, rfl, ifT (by decide +kernel) ?_⟩
        refine ⟨_, rfl, _, _, _, _, rfl, rfl, SqL.of hD2, rfl, _, rfl, _, _, _, _, rfl, rfl, SqL.of hD2, rfl, _, _, rfl, rfl, .inl ⟨by omega, by omega⟩, q _ _ g12 (by omega) (by omega)⟩
      · obtain ⟨x, y, rfl, hx, hy⟩ := two _ rfl e2
        refine ⟨_, rfl, rfl, _, rfl, ifF (by decide +kernel) ?_⟩
        refine ⟨_, rfl, rfl, _, rfl, ifF (by decide +kernel) ?_⟩
        refine ⟨_, rfl, rfl, _, rfl, ifF (by decide +kernel) ?_⟩
        refine ⟨_, rfl, rfl, _, rfl, ifT (by decide +kernel) ?_⟩
        refine ⟨_, rfl, _, _, _, _, rfl, rfl, SqL.of hD2, rfl, _, rfl, _, _, _, _, rfl, rfl, SqL.of hD2, rfl, _, _, rfl, rfl, .inr ⟨_, rfl, q _ _ g12 ?_ ?_⟩⟩
        · split <;> omega
        · split <;> omega
      · obtain ⟨x, y, rfl, hx, hy⟩ := two _ rfl e2
        refine ⟨_, rfl, rfl, _, rfl, ifF (by decide +kernel) ?_⟩
        refine ⟨_, rfl, rfl, _, rfl, ifF (by decide +kernel) ?_⟩
        refine ⟨_, rfl, rfl, _, rfl, ifF (by decide +kernel) ?_⟩
        refine ⟨_, rfl, rfl, _, rfl, ifF (by decide +kernel) ?_⟩
        refine ⟨_, rfl, rfl, _, rfl, ifT (by decide +kernel) ?_⟩
        refine ⟨_, rfl, _, _, _, _, rfl, rfl, SqL.of hD2, rfl, _, rfl, _, _, _, _, rfl, rfl, SqL.of hD2, rfl, rfl, .inr ⟨_, rfl, q _ _ g12 ?_ ?_⟩⟩
        · split <;> omega
        · split <;> omega
      · have e3 : ns.length = 3 := by omega
        match ns, e3 with
        | [x, y, z], _ =>
          have hy := hb y (by simp)
          have hz := hb z (by simp)
          refine ⟨_, rfl, rfl, _, rfl, ifF (by decide +kernel) ?_⟩
          refine ⟨_, rfl, rfl, _, rfl, ifF (by decide +kernel) ?_⟩
          refine ⟨_, rfl, rfl, _, rfl, ifF (by decide +kernel) ?_⟩
          refine ⟨_, rfl, rfl, _, rfl, ifF (by decide +kernel) ?_⟩
          refine ⟨_, rfl, rfl, _, rfl, ifF (by decide +kernel) ?_⟩
          refine ⟨_, rfl, _, _, _, _, rfl, rfl, SqL.of hD2, rfl, rfl, _, rfl, ?_⟩
          refine ite2 (fun c => ?_) (fun c => ?_)
          · exact ⟨_, rfl, _, _, _, _, rfl, rfl, SqL.of hD2, rfl, q _ _ g12 (by omega) (by omega)⟩
          · exact ⟨_, rfl, _, _, _, _, rfl, rfl, SqL.of hD2, rfl, q _ _ g12 (by omega) (by omega)⟩
theorem reckoned_none {k : Nat} (T : Tx K mg) : FnOk P w K mg base CX0 k T.d_reckoned.a T.d_reckoned.fd P_reckoned (sp_reckoned 0) := by
  have no : ∀ vs H Q E, ¬ sp_reckoned 0 vs H Q E := fun vs H Q E h => by
    obtain ⟨v, l, names, kvs, d, k, _, hk, _⟩ := h
    omega
  exact ⟨fun vs H Q E h => absurd h (no vs H Q E), fun A outer s H args us vs Q E _ _ _ _ h => absurd h (no vs H Q E)⟩
theorem ok_reckoned (T : Tx K mg) : ∀ n : Nat, FnOk P w K mg base CX0 n T.d_reckoned.a T.d_reckoned.fd P_reckoned (sp_reckoned n)
  | 0 => reckoned_none T
  | n + 1 => reckoned_step T (ok_reckoned T n)
end
end Kn
/-! ## machines: first_state, values_of, laid, done_at -/
namespace Kn
open PySem L2
def layD (l : Str × D) : D := .tup [.str l.1, l.2]
def deedD (d : D × List (Str × D)) : D := .tup [d.1, .tup (d.2.map layD)]
def seenD (h : Str × List Str) : D := .tup [.str h.1, .tup (h.2.map D.str)]
structure Mc where
  boxes : List Bx
  hands : List (Str × List Str)
  deeds : List (D × List (Str × D))
  facts : List (Str × D)
def Mc.names (M : Mc) : List Str := M.boxes.map (·.nm)
def Mc.d (M : Mc) : D := .tup [.tup (M.boxes.map Bx.d), .tup (M.hands.map seenD), .tup (M.deeds.map deedD), .tup (M.facts.map layD)]
structure Mc.Ok (M : Mc) : Prop where
  few : M.boxes.length ≤ 10
  nodup : M.names.Nodup
  box : ∀ b ∈ M.boxes, b.Ok
  hands : M.hands.length ≤ 100
  seen : ∀ h ∈ M.hands, h.2.length ≤ 100 ∧ ∀ x ∈ h.2, x ∈ M.names
  deeds : M.deeds.length ≤ 20
  deed : ∀ d ∈ M.deeds, RkD M.names 2 d.1 ∧ d.2.length ≤ 100 ∧ ∀ l ∈ d.2, RkD M.names 2 l.2
  facts : M.facts.length ≤ 100
  fact : ∀ f ∈ M.facts, RkD M.names 2 f.2
def StOk (n : Nat) (st : List Int) : Prop := st.length = n ∧ ∀ i ∈ st, Small i
theorem map_get {α β : Type} {l : List α} {f : α → β} {i : Nat} {b : β} (h : (l.map f)[i]? = some b) : ∃ a, l[i]? = some a ∧ b = f a := by
  rw [List.getElem?_map] at h
  cases e : l[i]? with
  | none => rw [e] at h; cases h
  | some a =>
    rw [e] at h
    cases h
    exact ⟨a, rfl, rfl⟩
section
variable {P : Program} {w : World} {K : PySem.W.Frag} {mg : Str → Option Value} {base : Heap}
def sp_first_state : Sp := fun vs H Q _ => ∃ (M : Mc) (v : V), vs = [v] ∧ Tr H M.d v ∧ M.Ok ∧ Ret H Q fun v' H' => Tr H' (D.ints (M.boxes.map (·.ft))) v'
theorem ok_first_state (T : Tx K mg) : FnOk P w K mg base CX0 1 T.d_first_state.a T.d_first_state.fd P_first_state sp_first_state := by
  refine T.d_first_state.F.ok sc_first_state (fun vs H Q E h => ?_) (fun cdv A outer s H vs Q E hr h => ?_)
  · obtain ⟨M, v, rfl, _⟩ := h
    rfl
  obtain ⟨M, v, rfl, hM, ok, q⟩ := h
  refine ⟨_, (pss_one (ps_ret (pe_callTy (ctup K) (by rfl) T.z_tuple (by decide +kernel) (pa_cons (pe_lc (own := [("box", 1)]) (by rfl) sc_first_state.nd (pit K (pe_ix (xt K) (pv 0) pe_int (fun _ _ => rfl))) (blkOk_by (N := N_first_state) (sc := defScope s_first_state) (by decide +kernel)) (fun _ _ _ _ _ => (pg_name (i := 1) sc_first_state.nd rfl (by first | exact Or.inl rfl | exact Or.inr rfl))) (fun _ _ _ _ _ => pts_nil) (fun _ _ _ _ _ => (pe_ix (xt K) (pv 1) pe_int (fun _ _ => rfl)))) pa_nil)))), ?_⟩
  obtain ⟨a, v1, v2, v3, v4, rfl, ha, h1, h2, h3, h4⟩ := hM.four
  obtain ⟨b, bs, rfl, hb, ht⟩ := h1.tup_of
  have hl := ht.length
  rw [List.length_map] at hl
  have few := ok.few
  refine ⟨_, rfl, _, _, _, _, rfl, rfl, SqT.of ha, rfl, _, rfl, ⟨_, SqT.of hb⟩, fun p hp => ?_⟩
  refine lcT (xs := bs) S0 (fun i acc H' => acc = ((M.boxes.take i).map (·.ft)).map V.int) hb hp (by omega) rfl ?_ ?_
  · rintro i z acc H2 Kt Kf hz hD2 g2 rfl kt kf
    obtain ⟨d, hd, td⟩ := ht.get hz
    obtain ⟨bx, ebx, rfl⟩ := map_get hd
    obtain ⟨c, x1, x2, x3, x4, rfl, hc, t1, t2, t3, t4⟩ := Tr.four (d := .str bx.nm) (e := .int bx.lo) (f := .int bx.hi) (g := .int bx.ft) td
    cases t4.int_of
    refine ⟨rfl, ?_⟩
    refine ⟨_, rfl, _, _, _, _, rfl, rfl, SqT.of (g2.tk _ _ hc), rfl, kt _ _ hD2 g2 ?_⟩
    rw [take_map_succ ebx, List.map_append]
    rfl
  · rintro acc H2 hD2 hle g2 rfl
    rw [show M.boxes.take bs.length = M.boxes by rw [← hl]; exact List.take_length ..] at hD2
    refine ⟨p, _, rfl, .inl ⟨SqL.of hD2, fun t htt => q _ _ (g2.trans (Go.new htt _)) (tr_tup upd_same trl_ints)⟩⟩

def sp_values_of : Sp := fun vs H Q _ => ∃ (M : Mc) (bv sv : V) (st : List Int), vs = [bv, sv] ∧ Tr H (.tup (M.boxes.map Bx.d)) bv ∧ Tr H (D.ints st) sv ∧ M.Ok ∧ StOk M.boxes.length st ∧
  ∀ p H' kvs, Go S0 H H' → H' p = some (.dK kvs) → Vd M.names st kvs → Vs M.names kvs → Q (.ref p) H'
theorem ok_values_of (T : Tx K mg) : FnOk P w K mg base CX0 1 T.d_values_of.a T.d_values_of.fd P_values_of sp_values_of := by
  refine T.d_values_of.F.ok sc_values_of (fun vs H Q E h => ?_) (fun cdv A outer s H vs Q E hr h => ?_)
  · obtain ⟨M, bv, sv, st, rfl, _⟩ := h
    rfl
  obtain ⟨M, bv, sv, st, rfl, hbv, hsv, ok, hst, q⟩ := h
  have hu := hu_of hr
  refine ⟨_, (pss_cons (ps_set (i := 2) sc_values_of.nd rfl (Or.inl rfl) pe_dnewK)
  (pss_cons (ps_for PassesOwn.never rfl (pi_range1 rfl T.z_range (pa_cons (pe_callB (clen K) (by rfl) T.z_len (by decide +kernel) (pa_cons (pv 0) pa_nil)) pa_nil)) (pg_name (i := 3) sc_values_of.nd rfl (by first | exact Or.inl rfl | exact Or.inr rfl))
  (pss_one (ps_dput hu (pv 2) (pe_ix (xt K) (pe_ix (xt K) (pv 0) (pv 3) (fun _ _ => rfl)) pe_int (fun _ _ => rfl)) (pe_ix (xt K) (pv 1) (pv 3) (fun _ _ => rfl)) rfl)))
  (pss_one (ps_ret (pv 2))))), ?_⟩
  obtain ⟨b, bs, rfl, hb, ht⟩ := hbv.tup_of
  obtain ⟨c, ss, rfl, hc, hts⟩ := hsv.tup_of
  cases hts.ints_of
  have hl := ht.length
  rw [List.length_map] at hl
  have few := ok.few
  refine fun p hp => ?_
  refine ⟨_, rfl, _, _, rfl, .inr (SqT.of ((Go.new (S := S0) hp _).tk _ _ hb)), _, rfl, ?_⟩
  rw [← hl]
  refine ⟨by omega, by omega, ?_⟩
  rw [Int.toNat_natCast]
  refine for_range (lo := 0) (n := M.boxes.length) (fun i σ H' => (∃ o3, σ = [some (.ref b), some (.ref c), some (.ref p), o3]) ∧ ∃ kvs, H' p = some (.dK kvs) ∧ kvs.length ≤ i ∧ (∀ (j : Nat) x v, j < i → M.names[j]? = some x → st[j]? = some v → valV kvs (Sum.inr x) = some (.int v)) ∧ Go S0 H H')
    ⟨⟨_, rfl⟩, [], upd_same, Nat.le_refl _, fun j x v hj => absurd hj (Nat.not_lt_zero j), Go.new hp _⟩ ?_ ?_
  · rintro i σ H' hi ⟨⟨o3, rfl⟩, kvs, hk, hkl, hv, g⟩
    rw [Int.zero_add]
    have e1 : M.boxes[i]? = some M.boxes[i] := List.getElem?_eq_getElem hi
    have hi2 : i < st.length := by rw [hst.1]; exact hi
    have e2 : st[i]? = some st[i] := List.getElem?_eq_getElem hi2
    obtain ⟨x, hx, tx⟩ := ht.get' (i := i) (d := Bx.d M.boxes[i]) (by rw [List.getElem?_map, e1]; rfl)
    obtain ⟨d, x1, x2, x3, x4, rfl, hd, t1, t2, t3, t4⟩ := Tr.four (d := .str M.boxes[i].nm) (e := .int M.boxes[i].lo) (f := .int M.boxes[i].hi) (g := .int M.boxes[i].ft) tx
    cases t1.str_of
    have e3 : (st.map V.int)[i]? = some (V.int st[i]) := by rw [List.getElem?_map, e2]; rfl
    refine ⟨_, rfl, _, rfl, _, _, _, _, rfl, rfl, SqT.of (g.tk _ _ hc), atI_nat e3, ?_⟩
    refine ⟨_, rfl, _, rfl, _, rfl, _, _, _, _, rfl, rfl, SqT.of (g.tk _ _ hb), atI_nat hx, ?_⟩
    refine ⟨_, _, _, _, rfl, rfl, SqT.of (g.tk _ _ hd), rfl, p, _, rfl, DPut.k (k := Sum.inr M.boxes[i].nm) hk (lt_line (by omega)), ?_⟩
    refine ⟨⟨_, rfl⟩, _, upd_same, ?_, ?_, g.set hp _⟩
    · have := putK_le kvs (Sum.inr M.boxes[i].nm) (V.int st[i])
      omega
    · intro j y v hj hy hv'
      rw [valV_put]
      by_cases hji : j = i
      · subst hji
        have ey : y = M.boxes[j].nm := by
          have z : M.names[j]? = some M.boxes[j].nm := by unfold Mc.names; rw [List.getElem?_map, e1]; rfl
          rw [z] at hy
          exact (Option.some.inj hy).symm
        rw [e2] at hv'
        cases hv'
        rw [if_pos (by rw [ey])]
      · have ney : ¬ (Sum.inr y : Key) = Sum.inr M.boxes[i].nm := fun e => by
          have ey : y = M.boxes[i].nm := Sum.inr.inj e
          have z : M.names[i]? = some y := by unfold Mc.names; rw [List.getElem?_map, e1, ey]; rfl
          exact hji (nd_ix ok.nodup hy z)
        rw [if_neg ney]
        exact hv j y v (by omega) hy hv'
  · rintro σ H' ⟨⟨o3, rfl⟩, kvs, hk, hkl, hv, g⟩
    have vd : Vd M.names st kvs := fun i x v hx hv' => hv i x v (by
      have := (List.getElem?_eq_some_iff.mp hx).1
      unfold Mc.names at this
      rw [List.length_map] at this
      exact this) hx hv'
    exact ⟨_, rfl, q _ _ kvs g hk vd (vd.vs (by unfold Mc.names; rw [List.length_map, hst.1]) hst.2)⟩

def sp_laid : Sp := fun vs H Q _ => ∃ (M : Mc) (bv sv lv : V) (st : List Int) (ls : List (Str × D)), vs = [bv, sv, lv] ∧ Tr H (.tup (M.boxes.map Bx.d)) bv ∧ Tr H (D.ints st) sv ∧ Tr H (.tup (ls.map layD)) lv ∧ M.Ok ∧ StOk M.boxes.length st ∧
  ls.length ≤ 100 ∧ (∀ l ∈ ls, RkD M.names 2 l.2) ∧ ∀ v' H' st', Go S0 H H' → StOk M.boxes.length st' → Tr H' (D.ints st') v' → Q v' H'
theorem ok_laid (T : Tx K mg) : FnOk P w K mg base CX0 4 T.d_laid.a T.d_laid.fd P_laid sp_laid := by
  have G_values_of := ok_values_of (P := P) (w := w) (base := base) T
  have G_reckoned := ok_reckoned (P := P) (w := w) (base := base) T 3
  refine T.d_laid.F.ok sc_laid (fun vs H Q E h => ?_) (fun cdv A outer s H vs Q E hr h => ?_)
  · obtain ⟨M, bv, sv, lv, st, ls, rfl, _⟩ := h
    rfl
  obtain ⟨M, bv, sv, lv, st, ls, rfl, hbv, hsv, hlv, ok, hst, hls, hlr, q⟩ := h
  have hu := hu_of hr
  refine ⟨_, (pss_cons (ps_set (i := 3) sc_laid.nd rfl (Or.inl rfl) (pe_call G_values_of (hr.mono (by omega)) rfl T.d_values_of.m T.d_values_of.F.kp (b_values_of T.d_values_of) .nil pass0 (pa_cons (pv 0) (pa_cons (pv 1) pa_nil))))
  (pss_cons (ps_set (i := 4) sc_laid.nd rfl (Or.inl rfl) pe_dnewK)
  (pss_cons (ps_for PassesOwn.never rfl (pit K (pv 2)) (pgt K (n := 2) rfl (pgs_cons (pg_name (i := 5) sc_laid.nd rfl (by first | exact Or.inl rfl | exact Or.inr rfl)) (pgs_cons (pg_name (i := 6) sc_laid.nd rfl (by first | exact Or.inl rfl | exact Or.inr rfl)) pgs_nil)))
  (pss_one (ps_dput hu (pv 4) (pv 5) (pe_call G_reckoned (hr.mono (by omega)) rfl T.d_reckoned.m T.d_reckoned.F.kp (b_reckoned T.d_reckoned) .nil pass0 (pa_cons (pv 6) (pa_cons (pv 3) pa_nil))) rfl)))
  (pss_cons (ps_set (i := 7) sc_laid.nd rfl (Or.inl rfl) (pe_lst pa_nil))
  (pss_cons (ps_for PassesOwn.never rfl (pit K (pv 0)) (pgt K (n := 4) rfl (pgs_cons (pg_name (i := 5) sc_laid.nd rfl (by first | exact Or.inl rfl | exact Or.inr rfl)) (pgs_cons (pg_name (i := 8) sc_laid.nd rfl (by first | exact Or.inl rfl | exact Or.inr rfl)) (pgs_cons (pg_name (i := 9) sc_laid.nd rfl (by first | exact Or.inl rfl | exact Or.inr rfl)) (pgs_cons (pg_name (i := 10) sc_laid.nd rfl (by first | exact Or.inl rfl | exact Or.inr rfl)) pgs_nil)))))
  (pss_one (ps_expr (pbm K PySem.F.plainAttrs_list PySem.F.slot_list_append PySem.F.type_list_append mt_append (pv 7) (pa_cons (pe_callB (call_max2 rfl) (by rfl) T.z_max (by decide +kernel) (pa_cons (pv 8) (pa_cons (pe_callB (call_min2 rfl) (by rfl) T.z_min (by decide +kernel) (pa_cons (pv 9) (pa_cons (pe_dget2 hu (pv 4) (pv 5) (pe_dget hu (pv 3) (pv 5) (fun _ _ => rfl)) ⟨rfl, rfl, rfl, rfl⟩) pa_nil))) pa_nil))) pa_nil)))))
  (pss_one (ps_ret (pe_callTy (ctup K) (by rfl) T.z_tuple (by decide +kernel) (pa_cons (pv 7) pa_nil))))))))), ?_⟩
  refine ⟨_, rfl, _, rfl, M, _, _, st, rfl, hbv, hsv, ok, hst, fun p H1 kvs g1 hp vd vs => ?_⟩
  refine fun f hf => ?_
  obtain ⟨b, bs, rfl, hb, ht⟩ := hbv.tup_of
  obtain ⟨l, lvs, rfl, hl, htl⟩ := hlv.tup_of
  have ll := htl.length
  rw [List.length_map] at ll
  have lb := ht.length
  rw [List.length_map] at lb
  have few := ok.few
  have gf := Go.new (S := S0) hf (.dK [])
  have pf : p ≠ f := ne_of_none hp hf
  refine ⟨_, rfl, l, rfl, ⟨_, SqT.of ((g1.trans gf).tk _ _ hl)⟩, ?_⟩
  refine for_tup (xs := lvs) (fun i σ H' => (∃ o5 o6 o7 o8 o9 o10, σ = [some (.ref b), some sv, some (.ref l), some (.ref p), some (.ref f), o5, o6, o7, o8, o9, o10]) ∧ ∃ fk, H' f = some (.dK fk) ∧ fk.length ≤ i ∧ (∀ k v, valV fk k = some v → ∃ n : Int, v = .int n) ∧ Go S0 H1 H')
    ⟨⟨_, _, _, _, _, _, rfl⟩, [], upd_same, Nat.le_refl _, (fun k v hk => by rw [valV_nil] at hk; cases hk), gf⟩ (fun i σ H' _ ⟨_, fk, _, _, _, g⟩ => SqT.of (g.tk _ _ (g1.tk _ _ hl))) ?_ ?_
  · rintro i z σ H' hz ⟨⟨o5, o6, o7, o8, o9, o10, rfl⟩, fk, hfk, hfl, hfv, g⟩
    obtain ⟨d, hd, td⟩ := htl.get hz
    obtain ⟨y, ey, rfl⟩ := map_get hd
    obtain ⟨c, x1, x2, rfl, hc, t1, t2⟩ := Tr.two (d := .str y.1) (e := y.2) td
    cases t1.str_of
    have hi : i < lvs.length := (List.getElem?_eq_some_iff.mp hz).1
    have g01 := g1.trans g
    refine ⟨_, _, rfl, SqT.of (g01.tk _ _ hc), rfl, _, _, rfl, _, _, rfl, rfl, ?_⟩
    refine ⟨_, rfl, _, rfl, _, p, M.names, kvs, y.2, 2, rfl, by omega, by omega, hlr y (List.mem_of_getElem? ey), t2.go g01.tk, g.old _ _ id hp, vs, fun n H2 g2 lo hi => ?_⟩
    have hfk2 := g2.old _ _ id hfk
    refine ⟨_, rfl, _, rfl, f, _, rfl, DPut.k (k := Sum.inr y.1) hfk2 (lt_line (by omega)), ?_⟩
    refine ⟨⟨_, _, _, _, _, _, rfl⟩, _, upd_same, ?_, ?_, (g.trans g2).set hf _⟩
    · have := putK_le fk (Sum.inr y.1) (V.int n)
      omega
    · intro k v hk
      rw [valV_put] at hk
      split at hk
      · cases hk
        exact ⟨n, rfl⟩
      · exact hfv k v hk
  · rintro σ H2 ⟨⟨o5, o6, o7, o8, o9, o10, rfl⟩, fk, hfk, hfl, hfv, g⟩
    refine ⟨Nat.zero_le _, fun t htn => ?_⟩
    have gt := Go.new (S := S0) htn (.lst [])
    have ht1 := g.free htn
    have tf : f ≠ t := ne_of_none hfk htn
    have g02 := g1.trans g
    refine ⟨_, rfl, b, rfl, ⟨_, SqT.of ((g02.trans gt).tk _ _ hb)⟩, ?_⟩
    refine for_tup (xs := bs) (fun i σ H' => (∃ o5 o6 o8 o9 o10, σ = [some (.ref b), some sv, some (.ref l), some (.ref p), some (.ref f), o5, o6, some (.ref t), o8, o9, o10]) ∧ (∃ ns : List Int, H' t = some (.lst (ns.map V.int)) ∧ ns.length = i ∧ ∀ n ∈ ns, Small n) ∧ Go S0 H2 H')
      ⟨⟨_, _, _, _, _, rfl⟩, ⟨[], upd_same, rfl, (fun n hn => by cases hn)⟩, gt⟩ (fun i σ H' _ ⟨_, _, g'⟩ => SqT.of (g'.tk _ _ (g02.tk _ _ hb))) ?_ ?_
    · rintro i z σ H' hz ⟨⟨o5, o6, o8, o9, o10, rfl⟩, ⟨ns, hns, hnl, hnv⟩, g'⟩
      obtain ⟨d, hd, td⟩ := ht.get hz
      obtain ⟨y, ey, rfl⟩ := map_get hd
      obtain ⟨c, x1, x2, x3, x4, rfl, hc, t1, t2, t3, t4⟩ := Tr.four (d := .str y.nm) (e := .int y.lo) (f := .int y.hi) (g := .int y.ft) td
      cases t1.str_of
      cases t2.int_of
      cases t3.int_of
      cases t4.int_of
      have hi : i < bs.length := (List.getElem?_eq_some_iff.mp hz).1
      have ymem := List.mem_of_getElem? ey
      obtain ⟨n, hn, gn⟩ := vs y.nm (List.mem_map.mpr ⟨y, ymem, rfl⟩)
      have g03 := g02.trans g'
      have hp3 := g'.old _ _ id (g.old _ _ id hp)
      have hf3 := g'.old _ _ id hfk
      obtain ⟨m, hm⟩ : ∃ m : Int, (valV fk (Sum.inr y.nm)).getD (V.int n) = V.int m := by
        cases e : valV fk (Sum.inr y.nm) with
        | none => exact ⟨n, rfl⟩
        | some v =>
          obtain ⟨m, rfl⟩ := hfv _ _ e
          exact ⟨m, rfl⟩
      have dg := DGet.k (k := Sum.inr y.nm) hp3
      rw [gn] at dg
      refine ⟨_, _, rfl, SqT.of (g03.tk _ _ hc), rfl, _, _, rfl, _, _, rfl, _, _, rfl, _, _, rfl, rfl, ?_⟩
      refine ⟨_, rfl, .inl ⟨rfl, _, SqL.of hns⟩, ?_⟩
      refine ⟨_, rfl, _, rfl, _, rfl, f, rfl, .inl ⟨_, .inl hf3⟩, _, rfl, _, rfl, _, rfl, p, _, rfl, dg, _, DGet.k (k := Sum.inr y.nm) hf3, _, m, by rw [hm], _, _, rfl, ?_⟩
      have small : Small (if (if m < y.hi then m else y.hi) > y.lo then (if m < y.hi then m else y.hi) else y.lo) := by
        obtain ⟨⟨a1, a2⟩, ⟨a3, a4⟩, _⟩ := ok.box y ymem
        unfold Small
        split
        · split at * <;> omega
        · omega
      refine ⟨t, _, _, rfl, rfl, hns, lt_line (by rw [List.length_map]; omega), ?_⟩
      refine ⟨⟨_, _, _, _, _, rfl⟩, ⟨ns ++ [_], by rw [upd_same, List.map_append]; rfl, by rw [List.length_append, hnl]; rfl, fun n hn => ?_⟩, g'.set htn _⟩
      rcases List.mem_append.mp hn with hn | hn
      · exact hnv n hn
      · rw [List.mem_singleton] at hn
        subst hn
        exact small
    · rintro σ H3 ⟨⟨o5, o6, o8, o9, o10, rfl⟩, ⟨ns, hns, hnl, hnv⟩, g'⟩
      refine ⟨_, rfl, t, _, rfl, .inl ⟨SqL.of hns, fun u hu' => ?_⟩⟩
      exact q _ _ ns ((g02.trans g').trans (Go.new hu' _)) ⟨by rw [hnl, lb], hnv⟩ (tr_tup upd_same trl_ints)

def sp_done_at : Sp := fun vs H Q _ => ∃ (M : Mc) (v sv : V) (st : List Int) (k : Nat), vs = [v, sv, .int k] ∧ Tr H M.d v ∧ Tr H (D.ints st) sv ∧ M.Ok ∧ StOk M.boxes.length st ∧ k < M.deeds.length ∧
  (∀ H', Go S0 H H' → Q .non H') ∧ ∀ v' H' st', Go S0 H H' → StOk M.boxes.length st' → Tr H' (D.ints st') v' → Q v' H'
theorem ok_done_at (T : Tx K mg) : FnOk P w K mg base CX0 5 T.d_done_at.a T.d_done_at.fd P_done_at sp_done_at := by
  have G_values_of := ok_values_of (P := P) (w := w) (base := base) T
  have G_reckoned := ok_reckoned (P := P) (w := w) (base := base) T 3
  have G_laid := ok_laid (P := P) (w := w) (base := base) T
  refine T.d_done_at.F.ok sc_done_at (fun vs H Q E h => ?_) (fun cdv A outer s H vs Q E hr h => ?_)
  · obtain ⟨M, v, sv, st, k, rfl, _⟩ := h
    rfl
  obtain ⟨M, v, sv, st, k, rfl, hM, hsv, ok, hst, hk, q0, q⟩ := h
  refine ⟨_, (pss_cons (ps_asg (pe_ix (xt K) (pe_ix (xt K) (pv 0) pe_int (fun _ _ => rfl)) (pv 2) (fun _ _ => rfl)) (pgt K (n := 2) rfl (pgs_cons (pg_name (i := 3) sc_done_at.nd rfl (by first | exact Or.inl rfl | exact Or.inr rfl)) (pgs_cons (pg_name (i := 4) sc_done_at.nd rfl (by first | exact Or.inl rfl | exact Or.inr rfl)) pgs_nil))))
  (pss_cons (ps_if (pt_cmpR op_eq (pe_call G_reckoned (hr.mono (by omega)) rfl T.d_reckoned.m T.d_reckoned.F.kp (b_reckoned T.d_reckoned) .nil pass0 (pa_cons (pv 3) (pa_cons (pe_call G_values_of (hr.mono (by omega)) rfl T.d_values_of.m T.d_values_of.F.kp (b_values_of T.d_values_of) .nil pass0 (pa_cons (pe_ix (xt K) (pv 0) pe_int (fun _ _ => rfl)) (pa_cons (pv 1) pa_nil))) pa_nil))) pe_int (nomark _))
  (pss_one (ps_ret pe_non))
  pss_nil)
  (pss_one (ps_ret (pe_call G_laid (hr.mono (by omega)) rfl T.d_laid.m T.d_laid.F.kp (b_laid T.d_laid) .nil pass0 (pa_cons (pe_ix (xt K) (pv 0) pe_int (fun _ _ => rfl)) (pa_cons (pv 1) (pa_cons (pv 4) pa_nil)))))))), ?_⟩
  obtain ⟨a, v1, v2, v3, v4, rfl, ha, h1, h2, h3, h4⟩ := hM.four
  obtain ⟨c, ds, rfl, hc, ht⟩ := h3.tup_of
  have e1 : M.deeds[k]? = some M.deeds[k] := List.getElem?_eq_getElem hk
  obtain ⟨x, hx, tx⟩ := ht.get' (i := k) (d := deedD M.deeds[k]) (by rw [List.getElem?_map, e1]; rfl)
  obtain ⟨d, x1, x2, rfl, hd, t1, t2⟩ := Tr.two (d := M.deeds[k].1) (e := .tup (M.deeds[k].2.map layD)) tx
  obtain ⟨r1, r2, r3⟩ := ok.deed M.deeds[k] (List.getElem_mem hk)
  refine ⟨_, rfl, _, _, _, _, rfl, rfl, SqT.of ha, rfl, _, rfl, _, _, _, _, rfl, rfl, SqT.of hc, atI_nat hx, ?_⟩
  refine ⟨_, _, rfl, SqT.of hd, rfl, _, _, rfl, _, _, rfl, rfl, ?_⟩
  refine ⟨_, rfl, _, rfl, _, _, _, _, rfl, rfl, SqT.of ha, rfl, _, rfl, M, _, _, st, rfl, h1, hsv, ok, hst, fun p H1 kvs g1 hp vd vs => ?_⟩
  refine ⟨_, p, M.names, kvs, M.deeds[k].1, 2, rfl, by omega, by omega, r1, t1.go g1.tk, hp, vs, fun n H2 g2 lo hi => ?_⟩
  refine ⟨rfl, _, rfl, ?_⟩
  have g02 := g1.trans g2
  refine ite2 (fun c => ?_) (fun c => ?_)
  · exact q0 _ g02
  · refine ⟨_, rfl, _, _, _, _, rfl, rfl, SqT.of (g02.tk _ _ ha), rfl, _, rfl, _, rfl, M, _, _, _, st, _, rfl, h1.go g02.tk, hsv.go g02.tk, t2.go g02.tk, ok, hst, r2, r3, fun v' H' st' g3 s3 t3 => q _ _ st' (g02.trans g3) s3 t3⟩
end
end Kn
/-! ## rules that the layer lacks: {k: v} with a tuple for a key, d.setdefault(t, x), sorted of tuples of ints of any length -/
namespace Kn
open PySem L2
section
variable {X : Cx} {td ty tx tk tv : TE} {o e f k v : Expr} {pos apos cpos : Pos}
/-- {k: v}, k a tuple of ints and texts -/
def tDisp1 (tk tv : TE) : TE := fun σ H Q => ∀ p, H p = none → tk σ (upd H p (.dT [])) fun x H1 => tv σ H1 fun y H2 => ∃ b ks, x = .ref b ∧ H2 p = some (.dT []) ∧ H2 b = some (.tup (ks.map kV)) ∧ Q (.ref p) (upd H2 p (.dT [(ks, y)]))
theorem pe_disp1 (hu : X.A.units < cLine) (hk : PE X k tk) (hv : PE X v tv) : PE X (.Dict [some k] [v] pos) (tDisp1 tk tv) := by
  refine ⟨fun pins s σ H Q I q => ?_⟩
  have hn := I.hok.fresh (Nat.le_refl s.heap.objs.size)
  have I1 : Inv X pins σ (upd H s.heap.objs.size (.dT [])) { s with heap := s.heap.push { cls := .type "dict", data := .dict #[] }, toks := s.toks } :=
    I.laid (fun _ _ z => Heap.get?_push_of_some _ z) (Nat.le_refl _) (dt_empty s.heap I.big)
  rw [arm_eval_Dict, zip_pairTrees [some k] [v] X.env pos rfl rfl, dictDisplay_pairs (pairTrees [some k] [v] X.env pos) (by intro z; cases z) (by show 1 < 17; decide)]
  refine wpAny_bind (wpAny_standAt (wpAny_bind (wpAny_subDictH (knd := tupleKind (mixKind X.prog X.w)) (show X.A.units < cLine from hu) (by show 1 ≤ 15; decide) ?_)))
  refine pairTrees_cons_walk (thn (hk.run pins _ σ _ _ I1 (q _ hn)) fun u s1 ⟨x, H1, J1, rx, q1⟩ => thn (hv.run pins s1 σ H1 _ J1 q1) fun u2 s2 ⟨y, H2, J2, ry, b, ks, ex, e0, eb, q2⟩ => pairTrees_nil_walk ?_)
  subst ex
  cases (show u = Value.ref b from rx)
  obtain ⟨_, hd, xs, rel, dd⟩ := dt_of J2.hok e0
  cases rel
  refine ⟨[(ks, b, u2)], ⟨rfl, rfl, key_of J2.hok eb, True.intro⟩, dd, fun h' tk' dd' hs => wpAny_pure ⟨.ref s.heap.objs.size, _, ?_, rfl, q2⟩⟩
  obtain ⟨ob, es, ep, h1, h2, h3, h4, h5, h6⟩ := dd'
  refine d_write J2 (by rw [e0]; exact True.intro) hs ⟨ob, h1⟩ ⟨by show 1 ≤ sizeLine; decide, hd, [(ks, b, u2)], ?_, ob, es, ep, h1, h2, h3, h4, h6⟩
  refine .cons ⟨rfl, ?_, ry⟩ .nil
  rw [upd_ne (ne_of eb e0 (fun z => nomatch z))]
  exact eb
/-- d.setdefault(t, x), t a tuple of ints and texts -/
def tDSetdT (td ty tx : TE) : TE := fun σ H Q => td σ H fun x H1 => ∃ a, x = .ref a ∧ IsD H1 a ∧ ty σ H1 fun y H2 => tx σ H2 fun z H3 => ∃ (kvs : List (List Key × V)) (k : List Key) (b : Addr), H3 a = some (.dT kvs) ∧ y = .ref b ∧ H3 b = some (.tup (k.map kV)) ∧ kvs.length < sizeLine ∧
  (∀ v, valV kvs k = some v → Q v H3) ∧ (valV kvs k = none → Q z (upd H3 a (.dT (putK kvs k z))))
theorem pe_dsetdT (hu : X.A.units + 1 < cLine) (ho : PE X o td) (he : PE X e ty) (hf : PE X f tx) (m : M2 X o "setdefault" apos e f cpos) : PE X (.Call (.Attribute o "setdefault" apos) [e, f] [] cpos) (tDSetdT td ty tx) := by
  refine ⟨fun pins s σ H Q I h => ?_⟩
  refine wpAny_Call_method m.base m.few m.line PySem.F.plainAttrs_dict PySem.F.slot_dict_setdefault PySem.F.type_dict_setdefault (thn (ho.run pins s σ H _ I h) fun u s1 ⟨x, H1, I1, rx, a, ex, d, q1⟩ => ?_)
  subst ex
  cases (show u = Value.ref a from rx)
  obtain ⟨t1, t2, _⟩ := isD_at I1 d
  refine ⟨t1, t2, ?_⟩
  rw [m.trees]
  refine Calls.callWith_builtin rfl (Calls.evalArgs_plain (Calls.spliced_cons (thn (he.run pins s1 σ H1 _ I1 q1) fun iv s2 ⟨y, H2, I2, ry, q2⟩ =>
    Calls.spliced_cons (thn (hf.run pins s2 σ H2 _ I2 q2) fun fv s3 ⟨z, H3, I3, rz, kvs, k, b, ea, ey, eb, hl, q3, q4⟩ => Calls.spliced_nil ?_))))
  subst ey
  cases (show iv = Value.ref b from ry)
  obtain ⟨hz, hd, xs, rel, dd⟩ := dt_of I3.hok ea
  have hxs : xs.length ≤ sizeLine := by rw [← Paired.length rel]; exact hz
  refine PySem.call_setdefault_heap (hsz := hxs) (tupleKind_room_in1 hu) (key_of I3.hok eb) hd dd (fun p hp => ?_) fun hn h' dd' hs => ?_
  · have r := rel.val k
    rw [hp] at r
    cases ev : valV kvs k with
    | none => rw [ev] at r; exact r.elim
    | some v0 =>
      rw [ev] at r
      exact ⟨v0, _, I3.tok _, r, q3 v0 ev⟩
  · have ev : valV kvs k = none := by
      have r := rel.val k
      rw [hn] at r
      cases ev : valV kvs k with
      | none => rfl
      | some v0 => rw [ev] at r; exact r.elim
    obtain ⟨ob, es, ep, h1, h2, h3, h4, _, h6⟩ := dd'
    have hl' : (putK kvs k z).length ≤ sizeLine := by have := length_putK kvs k z; omega
    refine ⟨z, _, d_write (ob := .dT (putK kvs k z)) I3 (by rw [ea]; exact True.intro) hs ⟨ob, h1⟩ ⟨hl', hd, _, (rel.put k eb rz).keeps fun c ys ec => ?_, ob, es, ep, h1, h2, h3, h4, h6⟩, rz, q4 ev⟩
    rw [upd_ne (ne_of ec ea (fun z => nomatch z))]
    exact ec

/-- sorted(l), l a list of tuples of ints, each with an item at least: the same items, in some order -/
def rSortTI (K : PySem.W.Frag) : List V → Hp → VK → Prop := fun vs H Q => ∃ (a : Addr) (xs : List V) (ps : List (List Int)), vs = [.ref a] ∧ SqL K H a xs ∧ TrL H (ps.map fun p => .tup (p.map D.int)) xs ∧ (∀ p ∈ ps, p ≠ []) ∧ xs.length ≤ 100000 ∧
  ∀ ys p, ys.Perm xs → H p = none → Q (.ref p) (upd H p (.lst ys))
theorem dp_ints {K : PySem.W.Frag} {H : Hp} : ∀ ns : List Int, DpAll K H (ns.map V.int) (ns.map PyData.int)
  | [] => .nil
  | n :: r => .cons (.int n) (dp_ints r)
theorem alike_ints : ∀ (ns ms : List Int), PySem.W.alikeAll (ns.map PyData.int) (ms.map PyData.int) = true
  | [], _ => by unfold PySem.W.alikeAll; rfl
  | n :: r, [] => by unfold PySem.W.alikeAll; rfl
  | n :: r, m :: q => by
    have ih := alike_ints r q
    rw [List.map_cons, List.map_cons, PySem.W.alikeAll, ih]
    rfl

theorem dps_tr {K : PySem.W.Frag} {H : Hp} : ∀ {ps : List (List Int)} {xs : List V}, TrL H (ps.map fun p => .tup (p.map D.int)) xs → DpAll K H xs (ps.map fun p => .tuple (p.map PyData.int))
  | [], _, h => by
    cases h.nil_of
    exact .nil
  | p :: ps, _, h => by
    obtain ⟨v, r, rfl, h1, t⟩ := TrL.cons_of (d := .tup (p.map D.int)) (ds := ps.map fun p => .tup (p.map D.int)) h
    obtain ⟨a, vs, rfl, ha, ht⟩ := h1.tup_of
    cases ht.ints_of
    exact .cons (.tup (SqT.of ha) (dp_ints p)) (dps_tr t)
theorem depth_ints : ∀ ns : List Int, PyData.depthAll (ns.map PyData.int) ≤ 1
  | [] => by rw [List.map_nil]; simp [PyData.depthAll]
  | n :: r => by
    have ih := depth_ints r
    rw [List.map_cons]
    simp only [PyData.depthAll, PyData.depth]
    omega
theorem reads_each {h : Heap} : ∀ {us : List Value} {ds : List PyData} {as : List Addr}, ReadsAll h us ds as → PySem.W.EachIs (fun v d => ∃ as, Reads h v d as) us ds
  | _, [], _, r => by
    cases r
    exact .nil
  | _, d :: ds, _, r => by
    cases r with
    | cons h1 h2 => exact .cons ⟨_, h1⟩ (reads_each h2)
theorem each_pairs {α β : Type} {R : α → β → Prop} : ∀ {us : List α} {ds : List β}, PySem.W.EachIs R us ds → PySem.W.EachIs (fun v (b : α × β) => v = b.1) us (us.zip ds) ∧ PySem.W.EachIs (fun v (b : α × β) => R v b.2) us (us.zip ds) ∧ (us.zip ds).map Prod.fst = us ∧ (us.zip ds).map Prod.snd = ds
  | _, _, .nil => ⟨.nil, .nil, rfl, rfl⟩
  | _, _, .cons h t => by
    obtain ⟨a, b, c, d⟩ := each_pairs t
    exact ⟨.cons rfl a, .cons h b, by rw [List.zip_cons_cons, List.map_cons, c], by rw [List.zip_cons_cons, List.map_cons, d]⟩
theorem each_fst {α β : Type} : ∀ {us : List α} {zs : List (α × β)}, PySem.W.EachIs (fun v (b : α × β) => v = b.1) us zs → us = zs.map Prod.fst
  | _, _, .nil => rfl
  | _, _, .cons h t => by rw [List.map_cons, ← h, ← each_fst t]
theorem vals_perm {xs : List V} {us us' : List Value} (r : Vals xs us) (p : us'.Perm us) : ∃ xs', xs'.Perm xs ∧ Vals xs' us' := by
  induction p generalizing xs with
  | nil =>
    cases r
    exact ⟨[], .refl _, .nil⟩
  | cons x _ ih =>
    cases r with
    | cons h t =>
      obtain ⟨ys, q, r'⟩ := ih t
      exact ⟨_ :: ys, q.cons _, .cons h r'⟩
  | swap x y l =>
    cases r with
    | cons h t =>
      cases t with
      | cons h' t => exact ⟨_ :: _ :: _, .swap _ _ _, .cons h' (.cons h t)⟩
  | trans _ _ ih1 ih2 =>
    obtain ⟨ys, q, r'⟩ := ih2 r
    obtain ⟨zs, q', r''⟩ := ih1 r'
    exact ⟨zs, q'.trans q, r''⟩
theorem cr_sortTI {X : Cx} (K : PySem.W.Frag) (hu : X.A.units + 64 < cLine) (hK : X.K = K := by rfl) : CallR X (.builtin "sorted") (rSortTI K) := by
  subst hK
  intro pins s σ H vs us Q I r h
  obtain ⟨a, xs, ps, rfl, hs, ht, hne, hlen, q⟩ := h
  obtain ⟨its, rv, hl, _⟩ := I.list hs
  rw [Vals.ref1 r]
  obtain ⟨as, hr⟩ := Dp.readsAll I _ _ _ (dps_tr ht) rv
  obtain ⟨e1, e2, e3, e4⟩ := each_pairs (reads_each hr)
  have hil : its.length = xs.length := rv.length.symm
  have hz : (its.zip (ps.map fun p => PyData.tuple (p.map PyData.int))).length = its.length := by rw [← List.length_map (f := Prod.fst), e3]
  have alk : ∀ d, d ∈ ps.map (fun p => PyData.tuple (p.map PyData.int)) → ∃ p ∈ ps, d = PyData.tuple (p.map PyData.int) := fun d hd => by
    obtain ⟨p, hp, rfl⟩ := List.mem_map.mp hd
    exact ⟨p, hp, rfl⟩
  refine PySem.W.sorted_data (enc := Prod.snd) hl.isList e1 e2 ?_ ?_ (by rw [hz, hil]; exact Nat.le_of_lt (lt_line hlen)) ?_ fun out ho he => ?_
  · rw [e4]
    intro d hd d' hd'
    obtain ⟨p, _, rfl⟩ := alk d hd
    obtain ⟨p', _, rfl⟩ := alk d' hd'
    rw [PySem.W.alike]
    exact alike_ints p p'
  · rw [e4]
    refine .inl fun d hd => ?_
    obtain ⟨p, hp, rfl⟩ := alk d hd
    cases p with
    | nil => exact absurd rfl (hne _ hp)
    | cons n r => exact ⟨_, _, rfl⟩
  · intro b hb
    have hb' : b.2 ∈ ps.map (fun p => PyData.tuple (p.map PyData.int)) := by rw [← e4]; exact List.mem_map.mpr ⟨b, hb, rfl⟩
    obtain ⟨p, _, e⟩ := alk _ hb'
    have hd : b.2.depth ≤ 2 := by
      rw [e]
      have := depth_ints p
      simp only [PyData.depth]
      omega
    omega
  · have eo := each_fst he
    have po : out.Perm its := by
      have q := (List.mergeSort_perm (its.zip (ps.map fun p => PyData.tuple (p.map PyData.int))) (PySem.W.dataLe false Prod.snd)).map Prod.fst
      rw [e3] at q
      rw [eo]
      exact q
    obtain ⟨ys, py, ry⟩ := vals_perm rv po
    obtain ⟨ep, he'⟩ := PyProof.Rows.sortedAll_at s.heap its (List.toArray out)
    have hly : ys.length ≤ sizeLine := by rw [py.length_eq]; exact Nat.le_of_lt (lt_line hlen)
    exact ⟨.ref _, upd H (s.heap.objs.size + 1) (.lst ys), I.laid (t' := s.toks) (fun _ _ => PyProof.Rows.sortedAll_old) (Nat.le_succ _) ⟨hly, out, ep, ry, he'⟩, rfl, q ys _ py (I.hok.fresh (Nat.le_succ _))⟩
end
end Kn
/-! ## TooMany: made, raised. Its __init__ calls WorldError.__init__(self, text); it keeps no field. After the layer's own errors with an __init__ (HandS.ExcInit), turned to one without a dict -/
namespace Kn
open PySem L2 PySem.Spec
abbrev s_tm : Stmt := inClass (top 2) 0
abbrev N_tm : List Str := ["self"]
theorem sc_tm : FnScope N_tm N_tm (defScope s_tm) := ⟨rfl, rfl, rfl, by decide +kernel, rfl, by decide +kernel, by decide +kernel⟩
/-- what the top has written of the two classes -/
structure Tm (K : PySem.W.Frag) (mg : Str → Option Value) where
  C : Addr
  W : Addr
  fI : Addr
  fd : FuncData
  gC : mg "TooMany" = some (.ref C)
  gW : mg "WorldError" = some (.ref W)
  oex : OexC K C
  iC : PySem.W.findIn K (.ref C) "__init__" = some (some (.ref fI))
  tI : PySem.W.typeIn K (.ref fI) = some (.type "function")
  gaW : PySem.W.specialIn K (.ref W) "__getattribute__" = some (some (.builtin "type.__getattribute__"))
  rdW : PySem.W.readsIn K W (.type "type") = true
  vW : PySem.W.findCls K (.ref W) (.type "type") "__init__" = some (.val (.builtin "ValueError.__init__"))
  te : PySem.W.exmOne K (.ref C) (.ref C) = some true
  F : Fun K "__init__" "TooMany.__init__" s_tm fI fd
theorem b_tm {K : PySem.W.Frag} {mg : Str → Option Value} (T : Tm K mg) : Binds K T.fd N_tm [] := T.F.binds (ps := N_tm) fun _ _ _ _ _ _ us hl => match us, hl with | [_], _ => rfl
section
variable {X : Cx} {e : Expr} {es : List Expr} {ta : TA} {p p1 p2 pos : Pos}
theorem pe_winit {W : Addr} {pl : Sem Bool} (hg : Gl X "WorldError") (gW : X.mg "WorldError" = some (.ref W)) (ga : PySem.W.specialIn X.K (.ref W) "__getattribute__" = some (some (.builtin "type.__getattribute__"))) (rd : PySem.W.readsIn X.K W (.type "type") = true)
    (vW : PySem.W.findCls X.K (.ref W) (.type "type") "__init__" = some (.val (.builtin "ValueError.__init__"))) (ha : PA X (e :: es) ta) (he : starEach (e :: es) X.env = (false, eval e X.env) :: starEach es X.env := by rfl) (hpl : (backTo pos (starEach es X.env)).any (·.1) = false := by rfl)
    (hc : eval (.Call (.Attribute (.Name "WorldError" p1) "__init__" p2) (e :: es) [] pos) X.env = (do
      let ov ← eval (.Name "WorldError" p1) X.env
      standAt p2.atName
      let (f, first) ← holding [ov] (getMethod ov "__init__" pl)
      callWith pos f first (backTo pos (starEach (e :: es) X.env)) (backToKw pos (keywordEach [] X.env))) := by rfl) :
    PE X (.Call (.Attribute (.Name "WorldError" p1) "__init__" p2) (e :: es) [] pos) (tVeI X.K ta) := by
  refine ⟨fun pins s σ H Q I h => ?_⟩
  refine PySem.W.methodCall_KW (ld_glob I hg gW ?_ (by decide)) hc
  refine PySem.W.method_cls I.kIn ga (PySem.W.cls_value I.kIn rd vW (by decide +kernel) ?_)
  show wpAny _ _ (callWith pos (Value.builtin "ValueError.__init__") [] (backTo pos (starEach (e :: es) X.env)) []) _ _ _
  refine PyProof.Rows.callWith_method1 (thn (ha.run pos pins _ σ H _ (I.tok _) h) fun us s1 ⟨vs, H1, I1, r1, a, C, ws, ev, hl, T, ea, q⟩ => ?_) he hpl
  subst ev
  cases r1 with
  | @cons _ u0 _ ur ra rw' =>
    cases (show u0 = Value.ref a from ra)
    exact oinit_ok T I1 ea (by rw [← Paired.length rw', sizeLine_eq]; omega) fun s' J => ⟨.non, H1, J, rfl, q⟩
end
section
variable {P : Program} {w : World} {K : PySem.W.Frag} {mg : Str → Option Value} {base : Heap}
def sp_tm (C : Addr) : Sp := fun vs H Q _ => ∃ a : Addr, vs = [.ref a] ∧ H a = some (exo a C none) ∧ Q .non H
theorem ok_tm (T : Tm K mg) : FnOk P w K mg base CX0 1 T.fI T.fd N_tm (sp_tm T.C) := by
  refine T.F.ok sc_tm (fun vs H Q E h => ?_) (fun cdv A outer s H vs Q E hr h => ?_)
  · obtain ⟨a, rfl, _⟩ := h
    rfl
  obtain ⟨a, rfl, ha, q⟩ := h
  refine ⟨_, pss_one (ps_expr (pe_winit rfl T.gW T.gaW T.rdW T.vW (pa_cons (pv 0) (pa_cons pe_str pa_nil)))), ?_⟩
  exact ⟨_, rfl, a, T.C, _, rfl, by show 1 ≤ 1000; decide, T.oex, ha, q⟩
end
/-- the exception is let go off the tracked heap: it stands, without a dict -/
theorem tm_end {X : Cx} {pins : List (Addr × Obj)} {σ : St} {H1 : Hp} {hp h2 : Heap} {g1 g2 : Array GenState} {d1 d2 : Drawn} {t1 t2 : Nat} {os1 os2 : OsState} {a C : Addr} (I1 : Inv X pins σ H1 ⟨hp, g1, d1, t1, os1⟩) (ha : hp.objs.size ≤ a) {hp2 : Heap}
    (k : ∀ b o, hp.get? b = some o → hp2.get? b = some o) (un : Un (frs X.stack) [] (upd H1 a (exo a C none)) (upd H1 a (exo a C none)) hp2 h2) (hok : HOk X.prog X.w (upd H1 a (exo a C none)) h2) (ho : os2 = os1) (hb : PyProof.Rows.AllBare g2) :
    ∃ (t0 : Addr) (G : Heap), Inv X pins σ H1 ⟨G, g2, d2, t2, os2⟩ ∧ (∀ b o, G.get? b = some o → h2.get? b = some o) ∧ G.get? a = none ∧
      h2.get? a = some ({ cls := .ref C, dict := none, data := .fields #[.ref t0, .none, .none, .none, .bool false, .none] } : Obj) := by
  obtain ⟨t0, hoe⟩ := exo_at hok (upd_same (H := H1))
  have hn : H1 a = none := I1.hok.fresh ha
  obtain ⟨G, gT, gF⟩ := restrict h2 fun b => decide (b ≠ a)
  have gk : ∀ b, b ≠ a → G.get? b = h2.get? b := fun b q => gT b (decide_eq_true q)
  have ge : G.get? a = none := gF a (by simp)
  have old : ∀ {b : Addr} {o : Obj}, hp.get? b = some o → b ≠ a := fun {b o} z => Nat.ne_of_lt (Nat.lt_of_lt_of_le (Heap.lt_size z) ha)
  have tr : ∀ {b : Addr} {u : HO}, H1 b = some u → b ≠ a := fun {b u} z q => by rw [q, hn] at z; cases z
  have up : ∀ {b : Addr}, b ≠ a → H1 b = none → upd H1 a (exo a C none) b = none := fun {b} q n => by rw [upd_ne q]; exact n
  have U : Un (frs X.stack) [] H1 H1 hp G := {
    keep := fun b o z n hf hx => by
      rw [gk b (old z)]
      exact un.keep b o (k b o z) (up (old z) n) hf hx
    slot := fun b o z n hf hx => by
      rw [gk b (old z)]
      exact un.slot b o (k b o z) (up (old z) n) hf hx
    free := fun b o z n hx => n
    there := fun b o z hx => by
      rw [gk b (old z)]
      exact un.there b o (k b o z) hx
    tups := fun b xs z => z
    frzs := fun b o v z => z
    tbls := fun b ps z => ⟨#[], by rw [z]; simp⟩ }
  have hok3 : HOk X.prog X.w H1 G := fun b o z => by
    have hba := tr z
    have z2 : upd H1 a (exo a C none) b = some o := by rw [upd_ne hba]; exact z
    have back : ∀ {c : Addr} {u : HO}, u ≠ exo a C none → upd H1 a (exo a C none) c = some u → c ≠ a ∧ H1 c = some u := fun {c u} ne q => by
      by_cases hc : c = a
      · rw [hc, upd_same] at q
        exact absurd (Option.some.inj q).symm ne
      · rw [upd_ne hc] at q
        exact ⟨hc, q⟩
    refine (hok b o z2).stay (fun c v hc y => ?_) (fun c hc => (back (fun e => exo_own e.symm) hc).2) (fun c xs hc => (back (fun e => exo_tup e.symm) hc).2)
    have hca : c ≠ a := by
      rcases hc with hc | hc
      · rw [hc]
        exact hba
      · exact (back (fun e => exo_own e.symm) hc).1
    rw [gk c hca]
    exact y
  refine ⟨t0, G, I1.call' (ch := []) ho U hok3 hb (fun b z => absurd z (by simp)), fun b o z => ?_, ge, hoe⟩
  by_cases hba : b = a
  · rw [hba, ge] at z
    cases z
  · exact (gk b hba).symm.trans z
/-- TooMany() -/
theorem pmk_tm {X : Cx} {p pos : Pos} (T : Tm X.K X.mg) (F1 : FnOk X.prog X.w X.K X.mg X.base CX0 1 T.fI T.fd N_tm (sp_tm T.C)) (hr : Room 2 X.A) (hg : Gl X "TooMany") : PMk X (.Call (.Name "TooMany" p) [] [] pos) (fun _ H Q => Q (.ref T.C) none H) := by
  intro pins s σ H1 Q I1 q
  obtain ⟨nm, qn, N, bs, bm, sn, sub, ab, col, dd, k0, k1, k2, k3, k5, hC, hbm⟩ := T.oex.cls
  refine wpAny_Call_Name_kw (ld_glob I1 hg T.gC ?_ (by decide))
  refine PySem.W.callWith_K0 I1.kIn T.oex.kC ?_
  show wpAny _ _ (call (.ref T.C) []) _ _ _
  obtain ⟨hp, g, dr, tk, os⟩ := s
  have hsz : hp.objs.size ≤ hp.objs.size + 1 := Nat.le_succ _
  have hn : H1 (hp.objs.size + 1) = none := I1.hok.fresh hsz
  have kk : ∀ b o, hp.get? b = some o → ((hp.push (PySem.W.kdv_tup [])).push (PySem.HandSPX.excO T.C hp.objs.size)).get? b = some o := fun b o e => Heap.get?_push_of_some _ (Heap.get?_push_of_some _ e)
  have hget : ((hp.push (PySem.W.kdv_tup [])).push (PySem.HandSPX.excO T.C hp.objs.size)).get? (hp.objs.size + 1) = some (PySem.HandSPX.excO T.C hp.objs.size) := by heap_get
  have I2 : Inv X pins σ (upd H1 (hp.objs.size + 1) (exo (hp.objs.size + 1) T.C none)) ⟨(hp.push (PySem.W.kdv_tup [])).push (PySem.HandSPX.excO T.C hp.objs.size), g, dr, tk, os⟩ := I1.laid (t' := tk) kk hsz (exo_ok hget)
  have r2 : Vals [V.ref (hp.objs.size + 1)] [Value.ref (hp.objs.size + 1)] := .cons rfl .nil
  refine wpAny_call (PySem.HandSPX.call_own F.excBase_ValueError (fun Y => PySem.HandSPX.refsVE_contains Y bm hbm) (I1.kIn _ _ hC) (PySem.W.looks_findIn I1.kIn T.iC) (fun self => PySem.W.bind_fn I1.kIn self T.tI) (Nat.zero_le _)
    (codeAny_mono (F1.run _ X.stack _ _ ⟨Value.ref (hp.objs.size + 1) :: [], []⟩ [Value.ref (hp.objs.size + 1)] [V.ref (hp.objs.size + 1)] (fun v H2 => v = V.non ∧ H2 = upd H1 (hp.objs.size + 1) (exo (hp.objs.size + 1) T.C none)) E0 (hr.make T.C [] []) (I2.env0.make T.C [] [])
      (b_tm T _ [Value.ref (hp.objs.size + 1)] I2.kIn rfl) r2 ⟨_, rfl, upd_same, rfl, rfl⟩) fun r s' hq' => ?_))
  cases r with
  | error er => exact False.elim hq'
  | ok fl =>
    cases fl with
    | ret u =>
      obtain ⟨v, H2, os2, bare2, un2, hok2, rv, ev, eH⟩ := hq'
      subst ev eH
      obtain ⟨h2, g2, d2, t2, os'⟩ := s'
      obtain ⟨t0, G, J, kG, ge, hoe⟩ := tm_end (d2 := d2) (t2 := t2) I1 hsz kk un2 hok2 os2 bare2
      exact ⟨rv, hp.objs.size + 1, _, _, ⟨G, g2, d2, t2, os'⟩, H1, .ref T.C, none, rfl, J, kG, ge, hoe, ⟨rfl, rfl⟩, rfl, rfl, hn, rfl, bare2, raises_own T.oex.exC T.oex.tyC, q⟩
    | next => exact False.elim hq'
    | brk => exact False.elim hq'
    | cont => exact False.elim hq'
/-- .. told of a context by its parts -/
theorem pmk_tm2 {X : Cx} {p pos : Pos} {P : Program} {w : World} {K : PySem.W.Frag} {mg : Str → Option Value} {base : Heap} (T : Tm K mg) (F1 : FnOk P w K mg base CX0 1 T.fI T.fd N_tm (sp_tm T.C)) (hr : Room 2 X.A) (hg : Gl X "TooMany")
    (h : X.prog = P ∧ X.w = w ∧ X.K = K ∧ X.mg = mg ∧ X.base = base := by exact ⟨rfl, rfl, rfl, rfl, rfl⟩) : PMk X (.Call (.Name "TooMany" p) [] [] pos) (fun _ H Q => Q (.ref T.C) none H) := by
  obtain ⟨rfl, rfl, rfl, rfl, rfl⟩ := h
  exact pmk_tm T F1 hr hg
end Kn
/-! ## sets of texts: set(t) of a tuple of texts, sorted of such a set. After the layer's own sets of ints (HandS.Set, HandS.SetFor), turned to texts -/
namespace Kn
open PySem L2 PySem.Spec PyProof.Rows
/-- the text of a row of a set's table -/
def rowX (e : Int × Value) : Str := strOf e.2
def GoodX (w : World) (e : Int × Value) : Prop := ∃ x tk, e.2 = Value.str x tk ∧ e.1 = hashStr w x
/-- at a stands a set of the texts l; its table can be walked -/
def TxS (w : World) (h : Heap) (a : Addr) (l : List Str) : Prop :=
  ∃ o es ep t, h.get? a = some o ∧ o.ExactSet ∧ o.data = .set es ep t ∧ (∀ e ∈ es.toList, GoodX w e) ∧ (es.toList.map rowX).Perm l ∧ l.Nodup ∧ es.size < scanBound ∧ t.fits es.size = true ∧ Ris t.place.toList ∧
    (w.params.followText "set-order" = true ∨ t.led = true)
def insX (x : Str) (l : List Str) : List Str := if x ∈ l then l else x :: l
section
variable {P : Program} {w : World} {h h' : Heap} {a : Addr} {l : List Str}
theorem TxS.stay (R : TxS w h a l) (k : ∀ o, h.get? a = some o → h'.get? a = some o) : TxS w h' a l := by
  obtain ⟨o, es, ep, t, ho, r⟩ := R
  exact ⟨o, es, ep, t, k o ho, r⟩
theorem goodX_elems {es : List (Int × Value)} (g : ∀ e ∈ es, GoodX w e) : ElemsOf (PySem.strKind P w) es := fun e he => by
  obtain ⟨x, tk, h1, h2⟩ := g e he
  exact ⟨⟨x, by rw [h1]; exact PySem.strKind_is P w x tk, h2⟩, by rw [h1]; rfl⟩
theorem goodX_is {e : Int × Value} (g : GoodX w e) (x : Str) : (PySem.strKind P w).is x e.2 = true ↔ rowX e = x := by
  obtain ⟨y, tk, h1, _⟩ := g
  have e1 : rowX e = y := by unfold rowX; rw [h1]; rfl
  rw [e1, h1]
  constructor
  · intro q
    obtain ⟨tk', z⟩ := Value.isStrOf_shape (x := x) (v := Value.str y tk) q
    injection z with z
  · rintro rfl
    exact PySem.strKind_is P w y tk
end
section
variable {P : Program} {w : World} {A : Around} {E : Value → Shared → Prop} {s : Shared} {a : Addr} {l : List Str}
theorem tx_tail {gv : Bool → Sem Unit} (hg : ∀ (b : Bool) (s₁ : Shared) (Q' : Unit → Shared → Prop), Q' () s₁ → wpAny (model P w) A (gv b) Q' E s₁) {o : Obj} {es es1 : Array (Int × Value)} {ep : Nat} {t t2 : SetTable} {l' : List Str} {wasDummy : Bool} {R : Option Bool → Shared → Prop}
    (ho : s.heap.get? a = some o) (hex : o.ExactSet) (hd : o.data = .set es ep t) (g1 : ∀ e ∈ es1.toList, GoodX w e) (p1 : (es1.toList.map rowX).Perm l') (nd1 : l'.Nodup) (hb1 : es1.size < scanBound) (hf2 : t2.fits es1.size = true) (hr : Ris t2.place.toList)
    (hl : w.params.followText "set-order" = true ∨ t2.led = true) (hR : ∀ h', Heap.SameBut a s.heap h' → TxS w h' a l' → R (some true) { s with heap := h' }) :
    wpAny (model P w) A (storeSet a es1 t2 >>= fun _ => if (!wasDummy && t2.tooFull) = true then (gv (relayAll t2 es1 (SetTable.grown es1.size)).2.2 >>= fun _ =>
        storeSet a (relayAll t2 es1 (SetTable.grown es1.size)).1 (relayAll t2 es1 (SetTable.grown es1.size)).2.1 >>= fun _ => pure (some true)) else pure (some true)) R E s := by
  have ho1 := L2.store_at (es' := es1) (t' := t2) ho hd
  have sb1 := Heap.SameBut.update s.heap a (Obj.putSet es1 t2)
  refine wpAny_bind (wpAny_storeSet_of ho hd ?_ (fits_of_scanBound hb1))
  split
  · have pm := relayAll_perm t2 es1 (SetTable.grown es1.size)
    have hf3 := relayAll_fits t2 es1 (SetTable.grown es1.size)
    have hr3 := relayAll_ris t2 es1 (SetTable.grown es1.size)
    have hl3 := relayAll_led t2 es1 (SetTable.grown es1.size)
    generalize relayAll t2 es1 (SetTable.grown es1.size) = Z at pm hf3 hr3 hl3 ⊢
    obtain ⟨es2, t3, gave⟩ := Z
    dsimp only at pm hf3 hr3 hl3 ⊢
    have hb2 : es2.size < scanBound := by
      have z := pm.length_eq
      rw [Array.length_toList, Array.length_toList] at z
      omega
    refine wpAny_bind (hg _ _ _ (wpAny_bind (wpAny_storeSet_of ho1 rfl ?_ (fits_of_scanBound hb2))))
    exact wpAny_pure (hR _ (sb1.trans (Heap.SameBut.update _ a _)) ⟨_, es2, _, t3, L2.store_at (es' := es2) (t' := t3) ho1 rfl, hex, rfl, fun e he => g1 e (pm.mem_iff.mp he), (pm.map rowX).trans p1, nd1, hb2, hf3, hr3,
      hl.imp id fun z => by rw [hl3]; exact z⟩)
  · exact wpAny_pure (hR _ sb1 ⟨_, es1, _, t2, ho1, hex, rfl, g1, p1, nd1, hb1, hf2, hr, hl⟩)
theorem tx_add {x : Str} {tk : Tok} {Q : Bool → Shared → Prop} (R : TxS w s.heap a l) (room : l.length + 1 < scanBound) (hQ : ∀ h' b, Heap.SameBut a s.heap h' → TxS w h' a (insX x l) → Q b { s with heap := h' }) :
    wpAny (model P w) A (setAddHashed a (.str x tk) ((PySem.strKind P w).hash x)) Q E s := by
  obtain ⟨o, es, ep, t, ho, hex, hd, g, pl, nd, hb, hf, hr, hl⟩ := R
  have hkey : (PySem.strKind P w).is x (.str x tk) = true := PySem.strKind_is P w x tk
  have hsc : (Value.str x tk).scannable = true := rfl
  have hel : ElemsOf (PySem.strKind P w) es.toList := goodX_elems g
  have hn : es.size = l.length := by
    have z := pl.length_eq
    rw [List.length_map, Array.length_toList] at z
    exact z
  unfold setAddHashed setAddHashedIn
  refine wpAny_holding (wpAny_bind (wpAny_setState_of ho hd hf ?_))
  dsimp only
  rw [byScan_of hsc hb hel]
  simp only [↓reduceIte]
  unfold setAddByScan
  refine wpAny_bind (wpAny_bind (wpAny_rule (wpAny_bind (wpAny_setScan_of hkey ho hd hf hel ?_))))
  cases hfi : List.findIdx? (fun e => (PySem.strKind P w).is x e.2) es.toList with
  | some j =>
    dsimp only
    obtain ⟨hj, pj, _⟩ := List.findIdx?_eq_some_iff_getElem.mp hfi
    have hm : x ∈ l := pl.mem_iff.mp (List.mem_map.mpr ⟨es.toList[j], List.getElem_mem hj, (goodX_is (g _ (List.getElem_mem hj)) x).1 pj⟩)
    have e1 : insX x l = l := if_pos hm
    refine wpAny_pure (wpAny_pure (hQ s.heap _ (Heap.SameBut.refl a s.heap) ?_))
    rw [e1]
    exact ⟨o, es, ep, t, ho, hex, hd, g, pl, nd, hb, hf, hr, hl⟩
  | none =>
    dsimp only
    have hm : x ∉ l := fun z => by
      obtain ⟨e, he, q⟩ := List.mem_map.mp (pl.mem_iff.mpr z)
      have c := List.findIdx?_eq_none_iff.mp hfi e he
      rw [(goodX_is (P := P) (g e he) x).2 q] at c
      cases c
    have e1 : insX x l = x :: l := if_neg hm
    have hgw : ∀ (b : Bool) {s₁ : Shared} {Q' : Unit → Shared → Prop}, Q' () s₁ → wpAny (model P w) A (match b with | true => rule "set.scan.the-table-gave-way" | false => pure ()) Q' E s₁ :=
      fun b s₁ Q' q => by cases b <;> first | exact wpAny_pure q | exact wpAny_rule q
    have pm := layNew_perm t es ((PySem.strKind P w).hash x) (.str x tk)
    have hf1 := layNew_fits t es ((PySem.strKind P w).hash x) (.str x tk)
    have hr1 := layNew_ris t es ((PySem.strKind P w).hash x) (.str x tk) hr
    have hl1 := layNew_led t es ((PySem.strKind P w).hash x) (.str x tk)
    generalize layNew t es ((PySem.strKind P w).hash x) (.str x tk) = Z at pm hf1 hr1 hl1 ⊢
    obtain ⟨es1, t1, wasDummy, gave⟩ := Z
    dsimp only at pm hf1 hr1 hl1 ⊢
    rw [Array.toList_push] at pm
    have pc : es1.toList.Perm (((PySem.strKind P w).hash x, Value.str x tk) :: es.toList) := pm.trans (List.perm_append_singleton _ _)
    have pk : (es1.toList.map rowX).Perm (x :: l) := (pc.map rowX).trans (pl.cons x)
    have g1 : ∀ e ∈ es1.toList, GoodX w e := fun e he => by
      rcases List.mem_cons.mp (pc.mem_iff.mp he) with z | z
      · rw [z]; exact ⟨x, tk, rfl, rfl⟩
      · exact g e z
    have nd1 : (x :: l).Nodup := List.nodup_cons.mpr ⟨hm, nd⟩
    have hb1 : es1.size < scanBound := by
      have z := pk.length_eq
      rw [List.length_map, Array.length_toList, List.length_cons] at z
      omega
    have hled : w.params.followText "set-order" = true ∨ t1.led = true := hl.imp id fun z => by rw [hl1]; exact z
    refine wpAny_bind (hgw _ ?_)
    split
    · refine wpAny_bind ?_
      rw [hashByValue_scannable 8 hsc]
      refine wpAny_pure (tx_tail ?_ ho hex hd g1 pk nd1 hb1 ?_ ?_ ?_ ?_)
      · intro b s₁ Q' q; cases b <;> first | exact wpAny_pure q | exact wpAny_rule q
      · first | (split <;> first | exact hf1 | exact SetTable.fits_plain_off hf1) | exact hf1
      · first | (split <;> exact hr1) | exact hr1
      · first | (split <;> exact hled) | exact hled
      · intro h' sb r; dsimp only; exact wpAny_pure (hQ h' _ sb (by rw [e1]; exact r))
    · refine wpAny_bind (wpAny_pure ?_)
      simp only [↓reduceIte]
      refine tx_tail ?_ ho hex hd g1 pk nd1 hb1 hf1 hr1 hled ?_
      · intro b s₁ Q' q; cases b <;> first | exact wpAny_pure q | exact wpAny_rule q
      · intro h' sb r; dsimp only; exact wpAny_pure (hQ h' _ sb (by rw [e1]; exact r))
end

/-! ### set(t) -/
theorem txS_new {w : World} {h : Heap} {a : Addr} (ho : h.get? a = some { cls := .type "set", dict := none, data := .set #[] 0 (.fresh 0 0 (!w.params.followText "set-order")) }) : TxS w h a [] := by
  refine ⟨_, #[], 0, _, ho, ⟨rfl, rfl, rfl⟩, rfl, fun e he => by simp at he, by simp, List.nodup_nil, by decide, rfl, List.Pairwise.nil, ?_⟩
  show w.params.followText "set-order" = true ∨ (!w.params.followText "set-order") = true
  cases w.params.followText "set-order"
  · exact .inr rfl
  · exact .inl rfl
theorem insX_mem {x y : Str} {l : List Str} : y ∈ insX x l ↔ y = x ∨ y ∈ l := by
  unfold insX
  split
  · rename_i h
    constructor
    · exact .inr
    · rintro (rfl | q)
      · exact h
      · exact q
  · exact List.mem_cons
theorem insX_len (x : Str) (l : List Str) : (insX x l).length ≤ l.length + 1 := by
  unfold insX
  split
  · omega
  · exact Nat.le_refl _
section
variable {P : Program} {w : World} {A : Around} {E : Value → Shared → Prop} {s : Shared}
theorem tx_update {I : Addr} {fp wr : List Addr} {G : Array GenState → Array GenState → Prop} {n : Nat} {Pv : Nat → Value → Prop} {St : Nat → Shared → Prop} {R : Result → Shared → Prop} (W : WalksS P w A.in1 I fp wr G n Pv St) (S : Addr) (hSf : S ∉ fp) (xs : List Str)
    (hn : n = xs.length) (hb : xs.length + 1 < scanBound) (hval : ∀ i v, Pv i v → ∃ k t, xs[i]? = some k ∧ v = .str k t) :
    ∀ (k i : Nat) (s : Shared), n - i = k → i ≤ n → St i s → (∃ l, l.length ≤ i ∧ (∀ x, x ∈ l ↔ x ∈ xs.take i) ∧ TxS w s.heap S l) →
      (∀ s' l, Moved (S :: wr) G s s' → l.length ≤ n → (∀ x, x ∈ l ↔ x ∈ xs) → TxS w s'.heap S l → R (.ok (.ret .none)) s') → codeAny (model P w) A (.builtin "set.update.loop" ⟨[.ref S, .ref I], []⟩) R s := by
  have hSw : S ∉ wr := fun h => hSf (W.sub _ h)
  have hsub : ∀ b ∈ wr, b ∈ S :: wr := fun b hb => List.mem_cons_of_mem _ hb
  intro k
  induction k with
  | zero =>
    intro i s hk' hi hst ⟨l, hl, hm, hS⟩ hR
    have hin : i = n := by omega
    subst hin
    refine codeAny_builtin F.entry_set_update_loop ?_
    rw [Around.under_plainId F.plain_set_update_loop _]
    show wpAny _ A.in1 (pyNext (.ref I) >>= _) _ _ s
    refine wpAny_bind (W.done s _ _ hst fun s' mv => ?_)
    show wpAny _ A.in1 (ret Value.none) _ _ s'
    rw [List.take_of_length_le (by omega)] at hm
    exact wpAny_pure (hR s' l (mv.mono hsub) hl hm (hS.stay fun o e => mv.heap S o hSw e))
  | succ k ih =>
    intro i s hk' hi hst ⟨l, hl, hm, hS⟩ hR
    have hlt : i < n := by omega
    refine codeAny_builtin F.entry_set_update_loop ?_
    rw [Around.under_plainId F.plain_set_update_loop _]
    show wpAny _ A.in1 (pyNext (.ref I) >>= _) _ _ s
    refine wpAny_bind (W.item i s _ _ hlt hst fun v s' hP hst' mv => ?_)
    obtain ⟨z, t, hz, rfl⟩ := hval i v hP
    have hS' : TxS w s'.heap S l := hS.stay fun o e => mv.heap S o hSw e
    show wpAny _ A.in1 (holding [Value.str z t] (setAdd S (.str z t)) >>= _) _ _ s'
    refine wpAny_bind (wpAny_holding ?_)
    unfold setAdd
    refine wpAny_holding (wpAny_bind ((PySem.strKind P w).pyHash (k := z) (PySem.strKind_is _ _ _ _) ?_))
    refine tx_add (s := { s' with toks := s'.toks + 1 }) hS' (by omega) fun h' b0 hsb hS2 => ?_
    have hm2 : ∀ x, x ∈ insX z l ↔ x ∈ xs.take (i + 1) := fun x => by
      rw [insX_mem, hm x, List.take_add_one, hz]
      simp [or_comm]
    refine wpAny_pure ⟨plainId_quiet F.plain_set_update_loop _, ih (i + 1) _ (by omega) hlt (W.frame _ s' _ _ hst' (Nat.le_succ _) fun b hb o e => ?_) ⟨_, Nat.le_trans (insX_len z l) (by omega), hm2, hS2⟩ fun s'' l2 mv'' hl2 hm'' hS'' => ?_⟩
    · rw [hsb.2 b (fun h : b = S => hSf (by rw [← h]; exact hb))]; exact e
    · refine hR s'' l2 (Moved.trans W.gtrans ((mv.mono hsub).then_heap (Nat.le_succ _) fun b o hb e => ?_) mv'') hl2 hm'' hS''
      rw [hsb.2 b (fun h : b = S => hb (by rw [h]; exact List.mem_cons_self))]; exact e
set_option maxHeartbeats 8000000 in
theorem call_set_tupX {l : Addr} {items : Array Value} (xs : List Str) {Q : Value → Shared → Prop} (hh : A.handled = none) (hl : s.heap.IsTuple l items) (hit : StrsAre items.toList xs) (hb : xs.length + 1 < scanBound)
    (h : ∀ (h' : Heap) (tk : Nat) (ys : List Str), TxS w h' s.heap.objs.size ys → ys.length ≤ xs.length → (∀ x, x ∈ ys ↔ x ∈ xs) → (∀ b o, s.heap.get? b = some o → h'.get? b = some o) → Q (.ref s.heap.objs.size) { s with heap := h', toks := tk }) :
    wpAny (model P w) A (call (.type "set") [.ref l]) Q E s := by
  have hisz : items.size = xs.length := by
    have q := hit.length
    rw [Array.length_toList] at q
    exact q
  have hvals : ∀ (i : Nat) (v : Value), items[i]? = some v → ∃ k t, xs[i]? = some k ∧ v = .str k t := fun i v hv => by
    have hi : i < xs.length := by rw [← hisz]; exact (Array.getElem?_eq_some_iff.mp hv).1
    obtain ⟨t, e⟩ := SS.strs_at hit i v (by rw [Array.getElem?_toList]; exact hv)
    refine ⟨xs[i], t, List.getElem?_eq_getElem hi, ?_⟩
    rw [e, List.getD_eq_getElem?_getD, List.getElem?_eq_getElem hi]
    rfl
  obtain ⟨c, tl, hmro⟩ := F.called_set.mro
  have hmade := F.called_set.made
  have hsub := F.called_set.sub
  refine wpAny_call (codeAny_of_tree ?_)
  show wpAny _ _ (callAny (.type "set") _) _ _ _
  refine wpAny_pure ⟨Code.quiet_builtin _ (by decide +kernel), codeAny_builtin F.entry_type_call ?_⟩
  rw [Around.under_plain (weight_type_call_type "set" [.ref l] []) rfl]
  have h1 := F.called_set.notType
  have h2 := F.called_set.canCreate
  have hct := F.typeCall_set_1 (.ref l)
  repeat (any_goals (first | assumption | wp_step))
  refine codeAny_mono (L2.code_set_led1 (.ref l) (E := E) (Q₁ := fun obj s₁ => obj = .ref s.heap.objs.size ∧ s₁ = { s with heap := s.heap.push { cls := .type "set", dict := none, data := .set #[] 0 (.fresh 0 0 (!w.params.followText "set-order")) } }) ⟨rfl, rfl⟩) fun r s₁ hr => ?_
  cases r with
  | error e => exact hr
  | ok fl =>
    cases fl with
    | ret obj =>
      obtain ⟨rfl, rfl⟩ := hr
      generalize hN : ({ cls := .type "set", dict := none, data := .set #[] 0 (.fresh 0 0 (!w.params.followText "set-order")) } : Obj) = N
      have hS : (s.heap.push N).get? s.heap.objs.size = some N := Heap.get?_push_size _ (by rw [← hN]; rfl)
      have hT : Shared.TypeIs { s with heap := s.heap.push N } (.ref s.heap.objs.size) "set" := ⟨_, hS, by rw [← hN]⟩
      have hli := F.called_set.init.lookup
      have hbi := F.called_set.init.bind (.ref s.heap.objs.size)
      repeat (any_goals (first | assumption | wp_step))
      refine codeAny_mono (codeAny_call_builtin (R := wants (fun r s₂ => r = .none ∧ ∃ h' tk ys, s₂ = { s with heap := h', toks := tk } ∧ TxS w h' s.heap.objs.size ys ∧ ys.length ≤ xs.length ∧ (∀ x, x ∈ ys ↔ x ∈ xs) ∧
          (∀ b o, s.heap.get? b = some o → h'.get? b = some o)) E) F.called_set.init.plain F.entry_set_init (check_set_init_1 hT ?_)) fun r₂ s₂ hr₂ => ?_
      · obtain ⟨ol, hol, hcl, nl, hdl⟩ := hl
        obtain ⟨ocls, odict, odata, oslots⟩ := ol
        simp only at hcl hdl
        subst hcl; subst hdl
        have hol' : (s.heap.push N).get? l = some { cls := .type "tuple", dict := odict, data := .seq items nl, slots := oslots } := Heap.get?_push_of_some _ hol
        have hsls := F.sub_tuple_set
        have hslf := F.sub_tuple_frozenset
        have hne : (Value.type "tuple" == Value.type "dict") = false := by decide
        have hl1 : (s.heap.push N).IsTuple l items := ⟨_, hol', rfl, nl, rfl⟩
        have hlS : l < s.heap.objs.size := Heap.lt_size hol
        have hz1 : (s.heap.push N).objs.size = s.heap.objs.size + 1 := Heap.size_push ..
        have hneI : l ≠ (s.heap.push N).objs.size := by rw [hz1]; exact Nat.ne_of_lt (Nat.lt_succ_of_lt hlS)
        have hSf : s.heap.objs.size ∉ [(s.heap.push N).objs.size, l] := by
          rw [hz1]
          intro q
          rcases List.mem_cons.mp q with q | q
          · omega
          · exact absurd (List.mem_singleton.mp q) (Nat.ne_of_gt hlS)
        have hh3 : A.in1.in1.in1.handled = none := by simp [hh]
        subst hN
        unfold Builtin.«set.__init__» noKeywords Builtin.Frozenset.updateFrom
        generalize hPI : pyIter = PI
        wp_walk
        subst hPI
        refine wpAny_pyIter_tuple hl1 ?_
        refine wpAny_bind (wpAny_runValue ?_)
        refine tx_update ((Walks.tuple hh3 _ l hneI items).toS) s.heap.objs.size hSf xs hisz hb hvals (items.size - 0) 0 _ (by omega) (Nat.zero_le _)
          ⟨⟨_, Heap.get?_push_size _ rfl, rfl, rfl⟩, (hl1.push _)⟩ ⟨[], Nat.le_refl 0, fun x => by simp, txS_new (Heap.get?_push_of_some _ hS)⟩ ?_
        intro s' ys mv hys hm hS'
        obtain ⟨h', g2, d', tk', os'⟩ := s'
        have eg : g2 = s.gens := mv.gens
        have ed : d' = s.drawn := mv.drawn
        have eo : os' = s.os := mv.os
        subst eg; subst ed; subst eo
        show wpAny _ _ _ _ _ _
        refine wpAny_pure ?_
        show wpAny _ _ (ret Value.none) _ _ _
        rw [hisz] at hys
        refine wpAny_pure ⟨rfl, h', tk', ys, rfl, hS', hys, hm, fun b o e => ?_⟩
        have hb0 : b < s.heap.objs.size := Heap.lt_size e
        refine mv.heap b o (fun q => ?_) (Heap.get?_push_of_some _ (Heap.get?_push_of_some _ e))
        rcases List.mem_cons.mp q with q | q
        · exact absurd q (Nat.ne_of_lt hb0)
        · have q := List.mem_singleton.mp q
          rw [hz1] at q
          exact absurd q (Nat.ne_of_lt (Nat.lt_succ_of_lt hb0))
      · cases r₂ with
        | error e => exact hr₂
        | ok fl₂ =>
          cases fl₂ with
          | ret r =>
            obtain ⟨rfl, h', tk, ys, rfl, hS', hys, hm, hk'⟩ := hr₂
            repeat (any_goals (first | assumption | wp_step))
            exact h _ _ _ hS' hys hm hk'
          | _ => exact hr₂.elim
    | _ => exact hr.elim

/-! ### sorted of such a set -/
theorem sorted_txS {a : Addr} {l : List Str} {Q : Value → Shared → Prop} (R : TxS w s.heap a l) (hh : A.handled = none) (h64 : l.length < 64)
    (hQ : ∀ s' p (out : Array Value) (c : Nat) (ys : List Str), (∀ b o, s.heap.get? b = some o → s'.heap.get? b = some o) → s'.gens = s.gens → s'.os = s.os → s.heap.objs.size ≤ p → s'.heap.get? p = some (seqObj "list" out c) → StrsAre out.toList ys → ys.Perm l → Q (.ref p) s') :
    wpAny (model P w) A (call (.builtin "sorted") [.ref a]) Q E s := by
  obtain ⟨o, es, ep, t, ho, hex, hd, g, pl, nd, hb, hf, hr, hl⟩ := R
  refine Calls.call_function_entry kind_sorted plain_sorted entry_sorted (args_sorted1 _) ?_
  unfold Builtin.«sorted»
  refine wpAny_bind (m := checkCount "sorted" 1 1 _) (wpAny_pure ?_)
  refine wpAny_bind (L2.collect_set (A := A.in1) hh ⟨o, ho, hex.1, hd⟩ hf hb hr hl fun s1 vs k1 hz g1 o1 pm => ?_)
  have hI : StrsAre vs (vs.map strOf) := strsAre_map vs fun v hv => by
    obtain ⟨e, he, q⟩ := List.mem_map.mp (pm.mem_iff.mp hv)
    obtain ⟨k, tk, h1, _⟩ := g e he
    exact ⟨k, tk, by rw [← q]; exact h1⟩
  have pv : (vs.map strOf).Perm l := by
    have q := pm.map strOf
    rw [List.map_map] at q
    exact q.trans pl
  have hvl : vs.length < 64 := by
    have z := pv.length_eq
    rw [List.length_map] at z
    omega
  refine wpAny_bind (wpAny_newList ?_ (by rw [sizeLine_eq]; omega))
  have hoL : (s1.heap.push (seqObj "list" vs.toArray 0)).get? s1.heap.objs.size = some (seqObj "list" vs.toArray 0) := Heap.get?_push_size _ rfl
  refine wpAny_bind (wpAny_holding (wpAny_call_entry slot_list_sort ⟨_, hoL, rfl⟩ entry_list_sort (list_sort_treeK strKind_oneLt hoL hI.keysOf (fun v₁ v₂ rest e => by subst e; exact keyKind_strs hI) hvl fun st' a1 a2 => ⟨_, rfl, ?_⟩) (args_list_sort _)))
  obtain ⟨ys, q1, q2, _⟩ := sorted_out_str hI a1 a2
  obtain ⟨c, hc⟩ := sortedHeap_at (vs := vs) (out := (arrOf st').map (·.2)) hoL
  refine wpAny_pure ⟨_, rfl, hQ _ s1.heap.objs.size _ c ys (fun b u e => ?_) g1 o1 hz hc q1 (q2.trans pv)⟩
  have hlt := Heap.lt_size (k1 b u e)
  show (sortedHeap (s1.heap.push (seqObj "list" vs.toArray 0)) s1.heap.objs.size vs ((arrOf st').map (·.2))).get? b = some u
  rw [sortedHeap_old (Nat.ne_of_lt hlt) (by rw [size_push']; exact Nat.lt_succ_of_lt hlt)]
  exact Heap.get?_push_of_some _ (k1 b u e)
end
/-! ### over the layer -/
def SetX (w : World) (a : Addr) (l : List Str) : HO := .ext fun h => TxS w h a l
section
variable {X : Cx}
def rSetX (K : PySem.W.Frag) (w : World) : List V → Hp → VK → Prop := fun vs H Q => ∃ (p : Addr) (xs : List Str), vs = [.ref p] ∧ H p = some (.tup (xs.map V.str)) ∧ xs.length ≤ 1000 ∧ ∀ q l, H q = none → l.length ≤ xs.length → (∀ x, x ∈ l ↔ x ∈ xs) → Q (.ref q) (upd H q (SetX w q l))
theorem cr_setX (K : PySem.W.Frag) (w : World) (hc : X.calm = true) (hK : X.K = K := by rfl) (hw : X.w = w := by rfl) : CallR X (.type "set") (rSetX K w) := by
  subst hK hw
  intro pins s σ H vs us Q I r h
  obtain ⟨p, xs, rfl, hp, hl, q⟩ := h
  obtain ⟨its, rv, ht, _⟩ := I.tuple (SqT.of hp)
  rw [Vals.ref1 r]
  have hs := rv.strs
  refine call_set_tupX (P := X.prog) (w := X.w) xs (I.ok.hd hc) ?_ hs (by show xs.length + 1 < 4096; omega) fun h' tk ys R hy hm k => ?_
  · obtain ⟨o, h1, h2, n, h3⟩ := ht
    exact ⟨o, h1, h2, n, h3⟩
  · have J : Inv X pins σ (upd H s.heap.objs.size (SetX X.w s.heap.objs.size ys)) { s with heap := h', toks := tk } := I.laid (t' := tk) k (Nat.le_refl _) (by
      obtain ⟨o, es, ep, t, ho, r⟩ := R
      exact ⟨⟨o, es, ep, t, ho, r⟩, ⟨o, ho⟩, fun h1 h2 z k => z.stay fun o e => k _ e⟩)
    exact ⟨.ref _, _, J, rfl, q _ ys (I.hok.fresh (Nat.le_refl _)) hy hm⟩
def rSortX (w : World) : List V → Hp → VK → Prop := fun vs H Q => ∃ (p : Addr) (l : List Str), vs = [.ref p] ∧ H p = some (SetX w p l) ∧ l.length < 64 ∧ ∀ (q : Addr) (ys : List Str), H q = none → (∀ x, x ∈ ys ↔ x ∈ l) → ys.length = l.length → Q (.ref q) (upd H q (.lst (ys.map V.str)))
theorem cr_sortX (w : World) (hc : X.calm = true) (hw : X.w = w := by rfl) : CallR X (.builtin "sorted") (rSortX w) := by
  subst hw
  intro pins s σ H vs us Q I r h
  obtain ⟨p, l, rfl, hp, h64, q⟩ := h
  rw [Vals.ref1 r]
  have R : TxS X.w s.heap p l := by
    have x : ObjOk X.prog X.w H s.heap p (.ext fun h => TxS X.w h p l) := I.hok p _ hp
    exact x.1
  refine sorted_txS (P := X.prog) R (I.ok.hd hc) h64 fun s' b out c ys k g1 o1 hb hob hs py => ?_
  have hn := I.hok.fresh hb
  have hly : (ys.map V.str).length ≤ sizeLine := by rw [List.length_map, py.length_eq]; exact Nat.le_of_lt (lt_line (by omega))
  have hok : HOk X.prog X.w (upd H b (.lst (ys.map V.str))) s'.heap := I.hok.laid k hb ⟨hly, out.toList, c, vals_of_strs hs, hob⟩
  have J : Inv X pins σ (upd H b (.lst (ys.map V.str))) s' := I.call' (ch := []) o1 (Un.laid k hb hn) hok (by rw [g1]; exact I.bare) (fun b z => absurd z (by simp))
  exact ⟨.ref b, _, J, rfl, q b ys hn (fun x => py.mem_iff) py.length_eq⟩
end
end Kn
/-! ## machines: states_of -/
namespace Kn
open PySem L2
/-- the dict of the states' numbers -/
structure NumOk (sts : List (List Int)) (kvs : List (List Key × V)) : Prop where
  len : kvs.length ≤ sts.length
  has : ∀ st ∈ sts, (valV kvs (st.map Sum.inl)).isSome = true
  int : ∀ k v, valV kvs k = some v → ∃ i : Int, v = .int i
theorem keyMap (st : List Int) : (st.map (Sum.inl : Int → Key)).map kV = st.map V.int := by rw [List.map_map]; rfl
theorem inl_inj {a b : List Int} (h : a.map (Sum.inl : Int → Key) = b.map Sum.inl) : a = b := by
  have z := congrArg (fun l => l.map kV) h
  rw [keyMap, keyMap] at z
  have inj : ∀ (a b : List Int), a.map V.int = b.map V.int → a = b := by
    intro a
    induction a with
    | nil => intro b h; cases b with
      | nil => rfl
      | cons _ _ => cases h
    | cons x r ih => intro b h; cases b with
      | nil => cases h
      | cons y q =>
        rw [List.map_cons, List.map_cons] at h
        injection h with h1 h2
        injection h1 with h1
        rw [h1, ih q h2]
  exact inj a b z
theorem NumOk.add {sts : List (List Int)} {kvs : List (List Key × V)} (h : NumOk sts kvs) (st : List Int) (n : Int) : NumOk (sts ++ [st]) (putK kvs (st.map Sum.inl) (.int n)) where
  len := by
    have := putK_le kvs (st.map Sum.inl) (.int n)
    have := h.len
    rw [List.length_append]
    show _ ≤ sts.length + 1
    omega
  has := fun s hs => by
    rw [valV_put]
    split
    · rfl
    · rename_i ne
      rcases List.mem_append.mp hs with q | q
      · exact h.has s q
      · rw [List.mem_singleton] at q
        exact absurd (by rw [q]) ne
  int := fun k v hk => by
    rw [valV_put] at hk
    split at hk
    · cases hk
      exact ⟨n, rfl⟩
    · exact h.int k v hk
theorem putK_keys {κ : Type} [DecidableEq κ] (kvs : List (κ × V)) (k : κ) (v : V) : ∀ p ∈ putK kvs k v, p = (k, v) ∨ (p ∈ kvs ∧ p.1 ≠ k) := by
  intro p hp
  unfold putK at hp
  split at hp
  · obtain ⟨q, hq, rfl⟩ := List.mem_map.mp hp
    by_cases e : q.1 = k
    · rw [if_pos e, e]; exact .inl rfl
    · rw [if_neg e]; exact .inr ⟨hq, e⟩
  · rename_i hn
    rcases List.mem_append.mp hp with q | q
    · refine .inr ⟨q, fun e => hn ?_⟩
      exact List.any_eq_true.mpr ⟨p, q, decide_eq_true e⟩
    · rw [List.mem_singleton] at q
      exact .inl q
section
variable {P : Program} {w : World} {K : PySem.W.Frag} {mg : Str → Option Value} {base : Heap}
/-- the states that are come to -/
structure StsOk (M : Mc) (sts : List (List Int)) : Prop where
  nd : sts.Nodup
  few : sts.length ≤ 60
  one : 1 ≤ sts.length
  ok : ∀ st ∈ sts, StOk M.boxes.length st
theorem ref_not_non (b : Addr) : (!decide (V.ref b = V.non)) = true := by rw [decide_eq_false (fun e => nomatch e)]; rfl
/-- between two turns of the while; of the for within it -/
def WI (M : Mc) (H : Hp) (v : V) (sl nn ml : Addr) (k : Nat) (σ : St) (H' : Hp) : Prop := ∃ sts svs mvs kvs o4 o5 o6, σ = [some v, some (.ref sl), some (.ref nn), some (.ref ml), o4, o5, o6] ∧ H' sl = some (.lst svs) ∧ TrL H' (sts.map D.ints) svs ∧ StsOk M sts ∧
  H' nn = some (.dT kvs) ∧ NumOk sts kvs ∧ H' ml = some (.lst mvs) ∧ mvs.length ≤ sts.length ∧ Go S0 H H' ∧ mvs.length = k
def FI (M : Mc) (H : Hp) (v : V) (sl nn ml gd : Addr) (mvs : List V) (i : Nat) (σ : St) (H' : Hp) : Prop := ∃ sts svs kvs gk o5 o6, σ = [some v, some (.ref sl), some (.ref nn), some (.ref ml), some (.ref gd), o5, o6] ∧ H' sl = some (.lst svs) ∧
  TrL H' (sts.map D.ints) svs ∧ StsOk M sts ∧ H' nn = some (.dT kvs) ∧ NumOk sts kvs ∧ H' ml = some (.lst mvs) ∧ mvs.length < sts.length ∧ Go S0 H H' ∧ H' gd = some (.dK gk) ∧ gk.length ≤ i ∧ ∀ p ∈ gk, ∃ n : Int, p.1 = Sum.inl n
def sp_states_of (C : Addr) : Sp := fun vs H Q E => ∃ (M : Mc) (v : V), vs = [v] ∧ Tr H M.d v ∧ M.Ok ∧ (∀ H', Go S0 H H' → E (.ref C) none H') ∧
  ∀ t sl mt H' sts svs mvs, Go S0 H H' → H' t = some (.tup [.ref sl, .ref mt]) → H' sl = some (.lst svs) → TrL H' (sts.map D.ints) svs → H' mt = some (.tup mvs) → mvs.length = sts.length → StsOk M sts → Q (.ref t) H'
theorem ok_states_of (T : Tx K mg) (TM : Tm K mg) : FnOk P w K mg base (L2.CX P w) 6 T.d_states_of.a T.d_states_of.fd P_states_of (sp_states_of TM.C) := by
  have G_first_state := ok_first_state (P := P) (w := w) (base := base) T
  have G_done_at := ok_done_at (P := P) (w := w) (base := base) T
  have G_tm := ok_tm (P := P) (w := w) (base := base) TM
  obtain ⟨tmost, hmost⟩ := T.m_most
  refine T.d_states_of.F.okX sc_states_of (fun vs H Q E h => ?_) (fun cdv A outer s H vs Q E hr h => ?_)
  · obtain ⟨M, v, rfl, _⟩ := h
    rfl
  obtain ⟨M, v, rfl, hM, ok, qE, q⟩ := h
  have hu := hu_of hr
  refine ⟨_, (pss_cons (ps_set (i := 1) sc_states_of.nd rfl (Or.inl rfl) (pe_lst (pa_cons (pe_call G_first_state (hr.mono (by omega)) rfl T.d_first_state.m T.d_first_state.F.kp (b_first_state T.d_first_state) .nil pass0 (pa_cons (pv 0) pa_nil)) pa_nil)))
  (pss_cons (ps_set (i := 2) sc_states_of.nd rfl (Or.inl rfl) (pe_disp1 (Nat.lt_of_succ_lt hu) (pe_ix (xl K) (pv 1) pe_int (fun _ _ => rfl)) pe_int))
  (pss_cons (ps_set (i := 3) sc_states_of.nd rfl (Or.inl rfl) (pe_lst pa_nil))
  (pss_cons (ps_while (passes_of rfl) (pt_cmpR op_lt (pe_callB (clen K) (by rfl) T.z_len (by decide +kernel) (pa_cons (pv 3) pa_nil)) (pe_callB (clen K) (by rfl) T.z_len (by decide +kernel) (pa_cons (pv 1) pa_nil)) (nomark _))
  (pss_cons (ps_set (i := 4) sc_states_of.nd rfl (Or.inl rfl) pe_dnewK)
  (pss_cons (ps_for (passes_of rfl) rfl (pi_range1 rfl T.z_range (pa_cons (pe_callB (clen K) (by rfl) T.z_len (by decide +kernel) (pa_cons (pe_ix (xt K) (pv 0) pe_int (fun _ _ => rfl)) pa_nil)) pa_nil)) (pg_name (i := 5) sc_states_of.nd rfl (by first | exact Or.inl rfl | exact Or.inr rfl))
  (pss_cons (ps_set (i := 6) sc_states_of.nd rfl (Or.inl rfl) (pe_call G_done_at (hr.mono (by omega)) rfl T.d_done_at.m T.d_done_at.F.kp (b_done_at T.d_done_at) .nil pass0 (pa_cons (pv 0) (pa_cons (pe_ix (xl K) (pv 1) (pe_callB (clen K) (by rfl) T.z_len (by decide +kernel) (pa_cons (pv 3) pa_nil)) (fun _ _ => rfl)) (pa_cons (pv 5) pa_nil)))))
  (pss_cons (ps_if (PW.pt (pw_and (pt_cmpR op_notN (pv 6) pe_non (nomark _)) (pw_and1 (pt_cmp (pc_dnotin hu (pv 6) (pv 2))))))
  (pss_cons (ps_if (pt_cmpR op_eq (pe_callB (clen K) (by rfl) T.z_len (by decide +kernel) (pa_cons (pv 1) pa_nil)) (pe_glob (v := .int 60) rfl hmost ⟨_, rfl⟩) (nomark _))
  (pss_one (ps_raise rfl (takes_of rfl rfl rfl rfl) (pmk_tm2 TM G_tm (hr.mono (by omega)) rfl)))
  pss_nil)
  (pss_cons (ps_dput hu (pv 2) (pv 6) (pe_callB (clen K) (by rfl) T.z_len (by decide +kernel) (pa_cons (pv 1) pa_nil)) rfl)
  (pss_one (ps_expr (pbm K PySem.F.plainAttrs_list PySem.F.slot_list_append PySem.F.type_list_append mt_append (pv 1) (pa_cons (pv 6) pa_nil))))))
  pss_nil)
  (pss_one (ps_if (pt_cmpR op_notN (pv 6) pe_non (nomark _))
  (pss_one (ps_dput hu (pv 4) (pe_dget hu (pv 2) (pv 6) (fun _ _ => rfl)) pe_bl rfl))
  pss_nil)))))
  (pss_one (ps_expr (pbm K PySem.F.plainAttrs_list PySem.F.slot_list_append PySem.F.type_list_append mt_append (pv 3) (pa_cons (pe_callTy (ctup K) (by rfl) T.z_tuple (by decide +kernel) (pa_cons (pe_callB (call_sortedDI rfl) (by rfl) T.z_sorted (by decide +kernel) (pa_cons (pv 4) pa_nil)) pa_nil)) pa_nil)))))))
  (pss_one (ps_ret (pe_tup (pa_cons (pv 1) (pa_cons (pe_callTy (ctup K) (by rfl) T.z_tuple (by decide +kernel) (pa_cons (pv 3) pa_nil)) pa_nil))))))))), ?_⟩
  refine ⟨_, rfl, M, _, rfl, hM, ok, fun v0 H1 g1 t0 => ?_⟩
  obtain ⟨b0, us, rfl, hb0, hts⟩ := t0.tup_of
  cases hts.ints_of
  refine ⟨(by show 1 ≤ sizeLine; decide), fun sl hsl => ?_⟩
  have g2 := g1.trans (Go.new hsl (.lst [.ref b0]))
  have hS2 : upd H1 sl (.lst [.ref b0]) sl = some (.lst [.ref b0]) := upd_same
  have hb2 : upd H1 sl (.lst [.ref b0]) b0 = some (.tup ((M.boxes.map (·.ft)).map V.int)) := by rw [upd_ne (ne_of_none hb0 hsl)]; exact hb0
  have fS : H sl = none := g1.free hsl
  generalize upd H1 sl (.lst [.ref b0]) = H2 at g2 hS2 hb2
  refine fun nn hnn => ?_
  have fN : H nn = none := g2.free hnn
  have sn : sl ≠ nn := ne_of_none hS2 hnn
  have g3 := g2.trans (Go.new hnn (.dT []))
  refine ⟨_, rfl, _, _, _, _, rfl, rfl, SqL.of (by rw [upd_ne sn]; exact hS2), rfl, b0, (M.boxes.map (·.ft)).map Sum.inl, rfl, upd_same, by rw [keyMap, upd_ne (ne_of_none hb2 hnn)]; exact hb2, ?_⟩
  rw [upd_upd]
  have g3 : Go S0 H (upd H2 nn (.dT [((M.boxes.map (·.ft)).map Sum.inl, V.int 0)])) := g2.set fN _
  have hS3 : upd H2 nn (.dT [((M.boxes.map (·.ft)).map Sum.inl, V.int 0)]) sl = some (.lst [.ref b0]) := by rw [upd_ne sn]; exact hS2
  have hN3 : upd H2 nn (.dT [((M.boxes.map (·.ft)).map Sum.inl, V.int 0)]) nn = some (.dT [((M.boxes.map (·.ft)).map Sum.inl, V.int 0)]) := upd_same
  have hb3 : upd H2 nn (.dT [((M.boxes.map (·.ft)).map Sum.inl, V.int 0)]) b0 = some (.tup ((M.boxes.map (·.ft)).map V.int)) := by rw [upd_ne (ne_of_none hb2 hnn)]; exact hb2
  generalize upd H2 nn (.dT [((M.boxes.map (·.ft)).map Sum.inl, V.int 0)]) = H3 at g3 hS3 hN3 hb3
  refine ⟨Nat.zero_le _, fun ml hml => ?_⟩
  have fM : H ml = none := g3.free hml
  have sm : sl ≠ ml := ne_of_none hS3 hml
  have nm : nn ≠ ml := ne_of_none hN3 hml
  have inv0 : StsOk M [M.boxes.map (·.ft)] := ⟨by simp, by show 1 ≤ 60; decide, Nat.le_refl 1, fun st hst => by
    rw [List.mem_singleton] at hst
    subst hst
    refine ⟨by rw [List.length_map], fun i hi => ?_⟩
    obtain ⟨b, hb, rfl⟩ := List.mem_map.mp hi
    obtain ⟨_, _, h1, h2⟩ := ok.box b hb
    exact ⟨h1, h2⟩⟩
  have num0 : NumOk [M.boxes.map (·.ft)] [((M.boxes.map (·.ft)).map Sum.inl, V.int 0)] := ⟨Nat.le_refl _, fun st hst => by
    rw [List.mem_singleton] at hst
    rw [hst, valV_pos rfl]
    rfl, fun k v hk => by
    by_cases e : (M.boxes.map (·.ft)).map Sum.inl = k
    · rw [valV_pos e] at hk
      cases hk
      exact ⟨0, rfl⟩
    · rw [valV_neg e, valV_nil] at hk
      cases hk⟩
  refine ⟨fun m σ H' => ∃ k, WI M H v sl nn ml k σ H' ∧ m = 60 - k, ⟨_, 0, ⟨[M.boxes.map (·.ft)], [.ref b0], [], _, _, _, _, rfl, by rw [upd_ne sm]; exact hS3, ?_, inv0, by rw [upd_ne nm]; exact hN3, num0, upd_same, Nat.zero_le _, g3.trans (Go.new hml _), rfl⟩, rfl⟩, ?_⟩
  · exact trl_cons (tr_tup (by rw [upd_ne (ne_of_none hb3 hml)]; exact hb3) trl_ints) trl_nil
  rintro m σ H4 ⟨k, ⟨sts, svs, mvs, kvs, o4, o5, o6, rfl, hS, tS, so, hN, no, hML, hmlen, g4, rfl⟩, rfl⟩
  have hsl4 := tS.length
  rw [List.length_map] at hsl4
  have few := so.few
  refine ⟨_, rfl, ml, _, rfl, .inl (SqL.of hML), _, rfl, sl, _, rfl, .inl (SqL.of hS), _, _, rfl, rfl, _, rfl, ?_⟩
  refine ite2 (fun c => ?_) (fun c => ?_)
  · have c' : (mvs.length : Int) < svs.length := of_decide_eq_true c
    refine ⟨WI M H v sl nn ml (mvs.length + 1), fun σ' H' e => ⟨60 - (mvs.length + 1), by omega, _, e, rfl⟩, ?_⟩
    refine fun gd hgd => ?_
    have fG : H gd = none := g4.free hgd
    have sg : sl ≠ gd := ne_of_none hS hgd
    have ng : nn ≠ gd := ne_of_none hN hgd
    have mg' : ml ≠ gd := ne_of_none hML hgd
    obtain ⟨a, v1, v2, v3, v4, rfl, ha, h1, h2, h3, h4⟩ := hM.four
    obtain ⟨dl, ds, rfl, hdl, htd⟩ := h3.tup_of
    have hdlen := htd.length
    rw [List.length_map] at hdlen
    have dfew := ok.deeds
    have g5 := g4.trans (Go.new (S := S0) hgd (.dK []))
    refine ⟨_, rfl, _, _, _, _, rfl, rfl, SqT.of (g5.tk _ _ ha), rfl, _, _, rfl, .inr (SqT.of (g5.tk _ _ hdl)), _, rfl, by omega, by omega, ?_⟩
    rw [Int.toNat_natCast]
    refine for_range (lo := 0) (n := ds.length) (FI M H (.ref a) sl nn ml gd mvs)
      ⟨sts, svs, kvs, [], _, _, rfl, by rw [upd_ne sg]; exact hS, tS.go (Tk.new hgd _), so, by rw [upd_ne ng]; exact hN, no, by rw [upd_ne mg']; exact hML, by omega, g5, upd_same, Nat.le_refl _, fun p hp => by cases hp⟩ ?_ ?_
    · rintro i σ' H5 hi ⟨sts, svs, kvs, gk, o5, o6, rfl, hS, tS, so, hN, no, hML, hmlen, g6, hG, hgl, hgk⟩
      rw [Int.zero_add]
      have few := so.few
      have hsl5 := tS.length
      rw [List.length_map] at hsl5
      have sg : sl ≠ gd := ne_of hS hG (fun z => nomatch z)
      have ng : nn ≠ gd := ne_of hN hG (fun z => nomatch z)
      have mg' : ml ≠ gd := ne_of hML hG (fun z => nomatch z)
      have sn : sl ≠ nn := ne_of hS hN (fun z => nomatch z)
      have mn : ml ≠ nn := ne_of hML hN (fun z => nomatch z)
      have em : svs[mvs.length]? = some svs[mvs.length] := List.getElem?_eq_getElem (by omega)
      obtain ⟨d, ed, tst⟩ := tS.get em
      obtain ⟨st0, est, rfl⟩ := map_get ed
      have sok := so.ok st0 (List.mem_of_getElem? est)
      refine ⟨_, rfl, _, rfl, _, rfl, ml, _, rfl, .inl (SqL.of hML), _, _, _, _, rfl, rfl, SqL.of hS, atI_nat em, _, rfl, M, _, _, st0, i, rfl, hM.go g6.tk, tst, ok, sok, by omega, fun H6 g7 => ?_, fun v' H6 st' g7 sok' t' => ?_⟩
      · refine ⟨_, rfl, rfl, _, rfl, ifF (by decide +kernel) (ifF rfl ?_)⟩
        refine ⟨_, rfl, rfl, _, rfl, ifF (by decide +kernel) ?_⟩
        exact ⟨sts, svs, kvs, gk, _, _, rfl, g7.old _ _ id hS, tS.go g7.tk, so, g7.old _ _ id hN, no, g7.old _ _ id hML, hmlen, g6.trans g7, g7.old _ _ id hG, Nat.le_succ_of_le hgl, hgk⟩
      · obtain ⟨b, us, rfl, hb, hus⟩ := t'.tup_of
        cases hus.ints_of
        have hS6 := g7.old _ _ id hS
        have hN6 := g7.old _ _ id hN
        have hML6 := g7.old _ _ id hML
        have hG6 := g7.old _ _ id hG
        have g8 := g6.trans g7
        have tail : ∀ sts svs kvs H7, H7 sl = some (.lst svs) → TrL H7 (sts.map D.ints) svs → StsOk M sts → H7 nn = some (.dT kvs) → NumOk sts kvs → H7 ml = some (.lst mvs) → mvs.length < sts.length → Go S0 H H7 → H7 gd = some (.dK gk) → (valV kvs (st'.map Sum.inl)).isSome = true →
            ∃ n : Int, valV kvs (st'.map Sum.inl) = some (.int n) ∧ FI M H (.ref a) sl nn ml gd mvs (i + 1) [some (.ref a), some (.ref sl), some (.ref nn), some (.ref ml), some (.ref gd), some (.int i), some (.ref b)] (upd H7 gd (.dK (putK gk (Sum.inl n) (.bl true)))) := by
          intro sts svs kvs H7 k1 k2 k3 k4 k5 k6 k7 k8 k9 k10
          obtain ⟨x, hx⟩ := Option.isSome_iff_exists.mp k10
          obtain ⟨n, rfl⟩ := k5.int _ _ hx
          refine ⟨n, hx, sts, svs, kvs, _, _, _, rfl, by rw [upd_ne sg]; exact k1, k2.go (Tk.putK k9 _), k3, by rw [upd_ne ng]; exact k4, k5, by rw [upd_ne mg']; exact k6, k7, k8.set fG _, upd_same, ?_, fun p hp => ?_⟩
          · have := putK_le gk (Sum.inl n) (.bl true)
            omega
          · rcases putK_keys gk (Sum.inl n) (.bl true) p hp with e | ⟨e, _⟩
            · exact ⟨n, by rw [e]⟩
            · exact hgk p e
        refine ⟨_, rfl, rfl, _, rfl, ifT (ref_not_non b) ?_⟩
        refine ⟨_, rfl, _, rfl, nn, _, rfl, DGet.t (k := st'.map Sum.inl) hN6 (by rw [keyMap]; exact hb), _, rfl, ?_⟩
        cases ev : valV kvs (st'.map Sum.inl) with
        | some x =>
          refine ifF rfl ?_
          refine ⟨_, rfl, rfl, _, rfl, ifT (ref_not_non b) ?_⟩
          obtain ⟨n, hx, fin⟩ := tail sts svs kvs H6 hS6 (tS.go g7.tk) so hN6 no hML6 hmlen g8 hG6 (by rw [ev]; rfl)
          have dg := DGet.t (k := st'.map Sum.inl) hN6 (by rw [keyMap]; exact hb)
          rw [hx] at dg
          exact ⟨_, rfl, _, rfl, _, rfl, nn, _, rfl, dg, gd, _, rfl, DPut.k (k := Sum.inl n) hG6 (lt_line (by omega)), fin⟩
        | none =>
          refine ifT rfl ?_
          refine ⟨_, rfl, sl, _, rfl, .inl (SqL.of hS6), rfl, _, rfl, ?_⟩
          refine ite2 (fun c2 => ?_) (fun c2 => ?_)
          · exact qE _ g8
          · have c3 : svs.length ≠ 60 := fun e => c2 (by rw [e]; decide)
            have hm : st' ∉ sts := fun z => by
              have := no.has st' z
              rw [ev] at this
              cases this
            refine ⟨_, rfl, sl, _, rfl, .inl (SqL.of hS6), _, rfl, _, rfl, nn, _, rfl, DPut.t (k := st'.map Sum.inl) hN6 (by rw [keyMap]; exact hb) (lt_line (by have := no.len; omega)), ?_⟩
            have hS7 : upd H6 nn (.dT (putK kvs (st'.map Sum.inl) (.int svs.length))) sl = some (.lst svs) := by rw [upd_ne sn]; exact hS6
            refine ⟨_, rfl, .inl ⟨rfl, _, SqL.of hS7⟩, _, rfl, sl, _, _, rfl, rfl, hS7, lt_line (by omega), ?_⟩
            refine ⟨_, rfl, rfl, _, rfl, ifT (ref_not_non b) ?_⟩
            have tk1 : Tk H6 (upd H6 nn (.dT (putK kvs (st'.map Sum.inl) (.int svs.length)))) := Tk.putT hN6 _
            have tk2 := tk1.trans (Tk.put hS7 (.lst (svs ++ [V.ref b])))
            have hN8 : upd (upd H6 nn (.dT (putK kvs (st'.map Sum.inl) (.int svs.length)))) sl (.lst (svs ++ [V.ref b])) nn = some (.dT (putK kvs (st'.map Sum.inl) (.int svs.length))) := by rw [upd_ne (Ne.symm sn), upd_same]
            obtain ⟨n, hx, fin⟩ := tail (sts ++ [st']) (svs ++ [V.ref b]) _ _ upd_same (by rw [List.map_append]; exact (tS.go (g7.tk.trans tk2)).snoc (tr_tup (tk2 _ _ hb) trl_ints))
              ⟨List.nodup_append.mpr ⟨so.nd, by simp, fun x hx y hy => by rw [List.mem_singleton] at hy; rw [hy]; exact fun e => hm (e ▸ hx)⟩, by rw [List.length_append]; show sts.length + 1 ≤ 60; omega, by rw [List.length_append]; show 1 ≤ sts.length + 1; omega, fun s hs => by
                rcases List.mem_append.mp hs with z | z
                · exact so.ok s z
                · rw [List.mem_singleton] at z
                  rw [z]
                  exact sok'⟩
              hN8 (no.add st' _) (by rw [upd_ne (Ne.symm sm), upd_ne mn]; exact hML6) (by rw [List.length_append]; omega) ((g8.set fN _).set fS _) (by rw [upd_ne (Ne.symm sg), upd_ne (Ne.symm ng)]; exact hG6) ((no.add st' _).has st' (by simp))
            have hb8 := tk2 _ _ hb
            have dg := DGet.t (k := st'.map Sum.inl) hN8 (by rw [keyMap]; exact hb8)
            rw [hx] at dg
            refine ⟨_, rfl, _, rfl, _, rfl, nn, _, rfl, dg, gd, _, rfl, DPut.k (k := Sum.inl n) (by rw [upd_ne (Ne.symm sg), upd_ne (Ne.symm ng)]; exact hG6) (lt_line (by omega)), fin⟩
    · rintro σ' H5 ⟨sts, svs, kvs, gk, o5, o6, rfl, hS, tS, so, hN, no, hML, hmlen, g6, hG, hgl, hgk⟩
      have few := so.few
      have mg' : ml ≠ gd := ne_of hML hG (fun z => nomatch z)
      obtain ⟨ks, hks⟩ : ∃ ks : List Int, gk.map (·.1) = ks.map Sum.inl := by
        clear hG hgl
        induction gk with
        | nil => exact ⟨[], rfl⟩
        | cons p r ih =>
          obtain ⟨n, hn⟩ := hgk p List.mem_cons_self
          obtain ⟨ks, e⟩ := ih fun q hq => hgk q (List.mem_cons_of_mem _ hq)
          exact ⟨n :: ks, by rw [List.map_cons, List.map_cons, hn, e]⟩
      have kl : ks.length = gk.length := by rw [← List.length_map (f := (Sum.inl : Int → Key)), ← hks, List.length_map]
      refine ⟨_, rfl, .inl ⟨rfl, _, SqL.of hML⟩, _, rfl, gd, gk, ks, rfl, .inl hG, hks, by omega, fun ys p _ _ hp => ?_⟩
      refine ⟨p, _, rfl, .inl ⟨SqL.of upd_same, fun t ht => ?_⟩⟩
      have gg : Go S0 H5 (upd (upd H5 p (.lst (ys.map V.int))) t (.tup (ys.map V.int))) := (Go.new hp _).trans (Go.new ht _)
      generalize upd (upd H5 p (.lst (ys.map V.int))) t (.tup (ys.map V.int)) = H6 at gg
      have hML6 := gg.old _ _ id hML
      refine ⟨ml, _, _, rfl, rfl, hML6, lt_line (by omega), ?_⟩
      exact ⟨sts, svs, mvs ++ [V.ref t], kvs, _, _, _, rfl, by rw [upd_ne sm]; exact gg.old _ _ id hS, tS.go (gg.tk.trans (Tk.put hML6 _)), so, by rw [upd_ne nm]; exact gg.old _ _ id hN, no, upd_same, by rw [List.length_append]; exact hmlen, (g6.trans gg).set fM _, by rw [List.length_append]; rfl⟩
  · have c' : ¬ (mvs.length : Int) < svs.length := of_decide_eq_false (Bool.eq_false_iff.mpr c)
    refine ⟨_, rfl, _, rfl, ml, _, rfl, .inl ⟨SqL.of hML, fun mt hmt => ?_⟩⟩
    have gm := Go.new (S := S0) hmt (.tup mvs)
    refine ⟨(by show 2 ≤ sizeLine; decide), fun t ht => ?_⟩
    have gt := gm.trans (Go.new (S := S0) ht (.tup [.ref sl, .ref mt]))
    exact q t sl mt _ sts svs mvs (g4.trans gt) upd_same (gt.old _ _ id hS) (tS.go gt.tk) (by rw [upd_ne (ne_of_none upd_same ht), upd_same]) (by omega) so
end
end Kn
/-! ## machines: parts_by, world_of -/
namespace Kn
open PySem L2
/-- the numbers below i whose key is k -/
def cls (ks : List (List Int)) (i : Nat) (k : List Int) : List Int := (ixs i).filter fun j => decide (ks[j.toNat]? = some k)
theorem cls_succ {ks : List (List Int)} {i : Nat} {k : List Int} : cls ks (i + 1) k = cls ks i k ++ (if ks[i]? = some k then [(i : Int)] else []) := by
  unfold cls
  rw [ixs_succ, List.filter_append]
  congr 1
  rw [List.filter_cons, Int.toNat_natCast]
  by_cases h : ks[i]? = some k
  · rw [if_pos h, decide_eq_true h]; rfl
  · rw [if_neg h, decide_eq_false h]; rfl
theorem mem_cls {ks : List (List Int)} {i : Nat} {k : List Int} {x : Int} : x ∈ cls ks i k ↔ (0 ≤ x ∧ x < i) ∧ ks[x.toNat]? = some k := by
  unfold cls
  rw [List.mem_filter, mem_ixs, decide_eq_true_eq]
/-- the parts of numbers with alike keys -/
structure PartsOk (ks : List (List Int)) (ps : List (List Int)) : Prop where
  len : ps.length ≤ ks.length
  are : ∀ p ∈ ps, ∃ k ∈ ks, p = cls ks ks.length k
  all : ∀ k ∈ ks, cls ks ks.length k ∈ ps
/-- what stands in the dict of parts behind i keys -/
structure PInv (H : Hp) (ks : List (List Int)) (i : Nat) (kvs : List (List Key × V)) : Prop where
  len : kvs.length ≤ i
  ent : ∀ p ∈ kvs, ∃ k b, p.1 = k.map Sum.inl ∧ p.2 = .ref b ∧ H b = some (.tup ((cls ks i k).map V.int)) ∧ cls ks i k ≠ []
  has : ∀ j : Nat, j < i → ∀ k, ks[j]? = some k → (valV kvs (k.map Sum.inl)).isSome = true
theorem valV_mem {κ : Type} [DecidableEq κ] {kvs : List (κ × V)} {k : κ} {v : V} (h : valV kvs k = some v) : (k, v) ∈ kvs := by
  unfold valV at h
  obtain ⟨p, hp, rfl⟩ := Option.map_eq_some_iff.mp h
  have e := List.find?_some hp
  have e' : p.1 = k := by simpa using e
  rw [← e']
  exact List.mem_of_find?_eq_some hp
theorem valV_isSome {κ : Type} [DecidableEq κ] {kvs : List (κ × V)} {p : κ × V} (h : p ∈ kvs) : ∃ v, valV kvs p.1 = some v := by
  have z := valV_any p.1 kvs
  have y : (kvs.any fun kv => decide (kv.1 = p.1)) = true := List.any_eq_true.mpr ⟨p, h, decide_eq_true rfl⟩
  rw [y] at z
  exact Option.isSome_iff_exists.mp z.symm
theorem perm_map_inv {α β : Type} {f : α → β} {es l : List β} (p : es.Perm l) : ∀ ps : List α, l = ps.map f → ∃ qs : List α, es = qs.map f ∧ qs.Perm ps := by
  induction p with
  | nil =>
    intro ps h
    cases ps with
    | nil => exact ⟨[], rfl, .refl _⟩
    | cons _ _ => cases h
  | cons x _ ih =>
    intro ps h
    cases ps with
    | nil => cases h
    | cons a r =>
      rw [List.map_cons] at h
      injection h with h1 h2
      obtain ⟨qs, e, q⟩ := ih r h2
      exact ⟨a :: qs, by rw [List.map_cons, h1, e], q.cons a⟩
  | swap x y l =>
    intro ps h
    match ps, h with
    | a :: b :: r, h =>
      rw [List.map_cons, List.map_cons] at h
      injection h with h1 h2
      injection h2 with h2 h3
      exact ⟨b :: a :: r, by rw [List.map_cons, List.map_cons, h1, h2, h3], .swap _ _ _⟩
  | trans _ _ ih1 ih2 =>
    intro ps h
    obtain ⟨qs, e, q⟩ := ih2 ps h
    obtain ⟨rs, e', q'⟩ := ih1 qs e
    exact ⟨rs, e', q'.trans q⟩
section
variable {P : Program} {w : World} {K : PySem.W.Frag} {mg : Str → Option Value} {base : Heap}
def sp_parts_by : Sp := fun vs H Q _ => ∃ (l : Addr) (kv : List V) (ks : List (List Int)), vs = [.ref l] ∧ H l = some (.lst kv) ∧ TrL H (ks.map D.ints) kv ∧ ks.length ≤ 1000 ∧
  ∀ v' H' ps, Go S0 H H' → Tr H' (.tup (ps.map D.ints)) v' → PartsOk ks ps → Q v' H'
theorem ok_parts_by (T : Tx K mg) : FnOk P w K mg base CX0 1 T.d_parts_by.a T.d_parts_by.fd P_parts_by sp_parts_by := by
  refine T.d_parts_by.F.ok sc_parts_by (fun vs H Q E h => ?_) (fun cdv A outer s H vs Q E hr h => ?_)
  · obtain ⟨l, kv, ks, rfl, _⟩ := h
    rfl
  obtain ⟨l, kv, ks, rfl, hl, ht, hn, q⟩ := h
  have hu := hu_of hr
  refine ⟨_, (pss_cons (ps_set (i := 1) sc_parts_by.nd rfl (Or.inr rfl) pe_dnewT)
  (pss_cons (ps_for PassesOwn.never rfl (pi_range1 rfl T.z_range (pa_cons (pe_callB (clen K) (by rfl) T.z_len (by decide +kernel) (pa_cons (pv 0) pa_nil)) pa_nil)) (pg_name (i := 2) sc_parts_by.nd rfl (by first | exact Or.inl rfl | exact Or.inr rfl))
  (pss_one (ps_dput hu (pv 1) (pe_ix (xl K) (pv 0) (pv 2) (fun _ _ => rfl)) (pe_op (ocat K) (pe_dget2 hu (pv 1) (pe_ix (xl K) (pv 0) (pv 2) (fun _ _ => rfl)) (pe_tup pa_nil) ⟨rfl, rfl, rfl, rfl⟩) (pe_tup (pa_cons (pv 2) pa_nil))) rfl)))
  (pss_one (ps_ret (pe_callTy (ctup K) (by rfl) T.z_tuple (by decide +kernel) (pa_cons (pe_callB (cr_sortTI K hr.units) (by rfl) T.z_sorted (by decide +kernel) (pa_cons (pe_lock (pe_lc (own := [("one", 3)]) (by rfl) sc_parts_by.nd (pi_keys (pv 1)) (blkOk_by (N := N_parts_by) (sc := defScope s_parts_by) (by decide +kernel)) (fun _ _ _ _ _ => (pg_name (i := 3) sc_parts_by.nd rfl (by first | exact Or.inl rfl | exact Or.inr rfl))) (fun _ _ _ _ _ => pts_nil) (fun _ _ _ _ _ => (pe_dget hu (pv 1) (pv 3) (fun _ _ => rfl))))) pa_nil)) pa_nil)))))), ?_⟩
  have hlen := ht.length
  rw [List.length_map] at hlen
  refine fun d hd => ?_
  have g1 := Go.new (S := S0) hd (.dT [])
  refine ⟨_, rfl, l, _, rfl, .inl (SqL.of (g1.old _ _ id hl)), _, rfl, by omega, by omega, ?_⟩
  rw [Int.toNat_natCast, ← hlen]
  refine for_range (lo := 0) (n := ks.length) (fun i σ H' => (∃ o2, σ = [some (.ref l), some (.ref d), o2, none]) ∧ Go S0 H H' ∧ ∃ kvs, H' d = some (.dT kvs) ∧ PInv H' ks i kvs)
    ⟨⟨_, rfl⟩, g1, [], upd_same, Nat.le_refl _, fun p hp => (by cases hp), fun j hj => absurd hj (Nat.not_lt_zero j)⟩ ?_ ?_
  · rintro i σ H' hi ⟨⟨o2, rfl⟩, g, kvs, hD, inv⟩
    rw [Int.zero_add]
    have ek : ks[i]? = some ks[i] := List.getElem?_eq_getElem hi
    obtain ⟨x, hx, tx⟩ := ht.get' (i := i) (d := D.ints ks[i]) (by rw [List.getElem?_map, ek]; rfl)
    obtain ⟨kb, us, rfl, hkb, hus⟩ := tx.tup_of
    cases hus.ints_of
    have hl' := g.old _ _ id hl
    have hkb' := g.tk _ _ hkb
    refine ⟨_, rfl, d, rfl, .inr ⟨_, .inl hD⟩, _, rfl, _, rfl, _, _, _, _, rfl, rfl, SqL.of hl', atI_nat hx, Nat.zero_le _, fun e0 he0 => ?_⟩
    have ge := Go.new (S := S0) he0 (.tup [])
    have hD1 := ge.old _ _ id hD
    refine ⟨_, DGet.t (k := ks[i].map Sum.inl) hD1 (by rw [keyMap]; exact ge.tk _ _ hkb'), ?_⟩
    have he1 : upd H' e0 (.tup []) e0 = some (.tup []) := upd_same
    generalize upd H' e0 (.tup []) = H1 at ge hD1 he1
    refine ⟨_, rfl, (by show 1 ≤ sizeLine; decide), fun e2 he2 => ?_⟩
    have ge2 := ge.trans (Go.new (S := S0) he2 (.tup [.int i]))
    have he3 : upd H1 e2 (.tup [.int i]) e2 = some (.tup [.int (i : Int)]) := upd_same
    have he1' : upd H1 e2 (.tup [.int i]) e0 = some (.tup []) := by rw [upd_ne (ne_of_none he1 he2)]; exact he1
    generalize upd H1 e2 (.tup [.int i]) = H2 at ge2 he3 he1'
    have hD2 := ge2.old _ _ id hD
    -- what is stored: a tuple with one number more
    have fin : ∀ (b : Addr) (H3 : Hp), Go S0 H' H3 → H3 b = some (.tup ((cls ks (i + 1) ks[i]).map V.int)) → PInv (upd H3 d (.dT (putK kvs (ks[i].map Sum.inl) (.ref b)))) ks (i + 1) (putK kvs (ks[i].map Sum.inl) (.ref b)) := fun b H3 g3 hb => by
      have hD3 := g3.old _ _ id hD
      have tk3 := Tk.putT hD3 (.dT (putK kvs (ks[i].map Sum.inl) (.ref b)))
      refine ⟨?_, fun p hp => ?_, fun j hj k hk => ?_⟩
      · have := putK_le kvs (ks[i].map Sum.inl) (.ref b)
        have := inv.len
        omega
      · rcases putK_keys kvs _ _ p hp with e | ⟨e, ne⟩
        · refine ⟨ks[i], b, by rw [e], by rw [e], tk3 _ _ hb, ?_⟩
          rw [cls_succ, if_pos ek]
          simp
        · obtain ⟨k, c, h1, h2, h3, h4⟩ := inv.ent p e
          have nk : ¬ ks[i]? = some k := fun z => by
            rw [ek] at z
            cases z
            exact ne h1
          refine ⟨k, c, h1, h2, ?_, ?_⟩
          · rw [cls_succ, if_neg nk, List.append_nil]
            exact tk3 _ _ (g3.tk _ _ h3)
          · rw [cls_succ, if_neg nk, List.append_nil]
            exact h4
      · rw [valV_put]
        split
        · rfl
        · rename_i ne
          by_cases hji : j = i
          · subst hji
            rw [ek] at hk
            cases hk
            exact absurd rfl ne
          · exact inv.has j (by omega) k hk
    have lt1 : kvs.length < sizeLine := lt_line (by have := inv.len; omega)
    have put : ∀ (b : Addr) (H3 : Hp), Go S0 H' H3 → H3 b = some (.tup ((cls ks (i + 1) ks[i]).map V.int)) →
        ∃ a H4, V.ref d = .ref a ∧ DPut H3 a (.ref kb) (.ref b) H4 ∧ (∃ o2, [some (V.ref l), some (V.ref d), some (V.int i), none] = [some (.ref l), some (.ref d), o2, none]) ∧ Go S0 H H4 ∧ ∃ kvs, H4 d = some (.dT kvs) ∧ PInv H4 ks (i + 1) kvs := fun b H3 g3 hb =>
      ⟨d, _, rfl, DPut.t (k := ks[i].map Sum.inl) (g3.old _ _ id hD) (by rw [keyMap]; exact g3.tk _ _ hkb') lt1, ⟨_, rfl⟩, (g.trans g3).set hd _, _, upd_same, fin b H3 g3 hb⟩
    cases ev : valV kvs (ks[i].map Sum.inl) with
    | some y =>
      obtain ⟨k, c, h1, h2, h3, h4⟩ := inv.ent _ (valV_mem ev)
      have ekk : k = ks[i] := (inl_inj h1).symm
      subst ekk
      have h2' : y = .ref c := h2
      subst h2'
      have hc2 := ge2.tk _ _ h3
      refine ⟨c, e2, _, _, rfl, rfl, SqT.of hc2, SqT.of he3, ?_, fun z => absurd (List.map_eq_nil_iff.mp z) h4, fun _ z => by (cases z), fun _ _ p hp => ?_⟩
      · rw [List.length_map]
        have : (cls ks i ks[i]).length ≤ i := by
          unfold cls
          have := List.length_filter_le (fun j : Int => decide (ks[j.toNat]? = some ks[i])) (ixs i)
          rw [ixs_length] at this
          exact this
        exact Nat.le_of_lt (lt_line (by show _ + 1 ≤ 100000; omega))
      · have g3 := ge2.trans (Go.new (S := S0) hp (.tup ((cls ks i ks[i]).map V.int ++ [.int i])))
        refine ⟨_, rfl, _, rfl, _, rfl, _, _, _, _, rfl, rfl, SqL.of (g3.old _ _ id hl'), atI_nat hx, put p _ g3 ?_⟩
        rw [upd_same, cls_succ, if_pos ek, List.map_append]
        rfl
    | none =>
      have h0 : cls ks i ks[i] = [] := by
        refine List.eq_nil_iff_forall_not_mem.mpr fun x hx => ?_
        obtain ⟨⟨h1, h2⟩, h3⟩ := mem_cls.mp hx
        have := inv.has x.toNat (by omega) _ h3
        rw [ev] at this
        cases this
      refine ⟨e0, e2, _, _, rfl, rfl, SqT.of he1', SqT.of he3, (by show 0 + 1 ≤ sizeLine; decide), fun _ => ?_, fun z => absurd rfl z, fun z => absurd rfl z⟩
      refine ⟨_, rfl, _, rfl, _, rfl, _, _, _, _, rfl, rfl, SqL.of (ge2.old _ _ id hl'), atI_nat hx, put e2 _ ge2 ?_⟩
      rw [he3, cls_succ, if_pos ek, h0]
      rfl
  · rintro σ H' ⟨⟨o2, rfl⟩, g, kvs, hD, inv⟩
    refine ⟨d, _, hD, True.intro, fun od => ?_⟩
    have hF : upd H' d (.frz od (.dT kvs)) d = some (.frz od (.dT kvs)) := upd_same
    have tkF : Tk H' (upd H' d (.frz od (.dT kvs))) := Tk.putT hD _
    generalize hHF : upd H' d (.frz od (.dT kvs)) = HF at hF tkF
    refine ⟨_, rfl, d, od, rfl, .inr ⟨kvs, hF, fun L0 hL0 => ?_⟩⟩
    refine lcW walk_keysT S0 (fun i acc H'' => ∃ ps, ps.length = i ∧ TrL H'' (ps.map D.ints) acc ∧ ∀ (j : Nat) p, ps[j]? = some p → ∃ e k, kvs[j]? = some e ∧ e.1 = k.map Sum.inl ∧ p = cls ks ks.length k) (fun H3 g3 => g3.old _ _ id hF) hL0 (by have := inv.len; omega) ⟨[], rfl, trl_nil, fun j p hp => by simp at hp⟩ ?_ ?_
    · rintro i acc x H3 H4 Kt Kf hi hD3 g3 ⟨ps, hps, tps, hall⟩ ⟨rfl, k, y, b, ek, rfl, hb⟩ kt kf
      obtain ⟨k2, c, h1, h2, h3, h4⟩ := inv.ent _ (List.mem_of_getElem? ek)
      have hk2 : k = k2.map Sum.inl := h1
      subst hk2
      obtain ⟨y2, hy2⟩ := valV_isSome (List.mem_of_getElem? ek)
      obtain ⟨k3, c3, e1, e2, e3, e4⟩ := inv.ent _ (valV_mem hy2)
      have ekk : k2 = k3 := inl_inj e1
      subst ekk
      have e2' : y2 = .ref c3 := e2
      subst e2'
      have dg : DGet H4 d (.ref b) (some (.ref c3)) := by
        refine .inr ⟨kvs, k2.map Sum.inl, b, .inr ⟨od, g3.old _ _ id hF⟩, rfl, hb, ?_⟩
        exact hy2.symm
      refine ⟨rfl, _, rfl, _, rfl, d, _, rfl, dg, kt _ _ hD3 g3 ⟨ps ++ [cls ks ks.length k2], by rw [List.length_append, hps]; rfl, ?_, fun j p hp => ?_⟩⟩
      · rw [List.map_append]
        exact (tps.go (Tk.put hD3 _)).snoc (tr_tup ((Tk.put hD3 _) _ _ (g3.tk _ _ (tkF _ _ e3))) trl_ints)
      · by_cases hji : j < ps.length
        · rw [List.getElem?_append_left hji] at hp
          exact hall j p hp
        · rw [List.getElem?_append_right (by omega)] at hp
          have hj0 : j - ps.length = 0 := by
            have := (List.getElem?_eq_some_iff.mp hp).1
            simp at this
            omega
          rw [hj0] at hp
          cases hp
          have hj : j = i := by omega
          subst hj
          exact ⟨_, k2, ek, rfl, rfl⟩
    · rintro acc H3 hD3 hle g3 ⟨ps, hps, tps, hall⟩
      refine ⟨g3.old _ _ id hF, ?_⟩
      have dL : d ≠ L0 := ne_of_none hF hL0
      have g4 : Go S0 H (upd H3 d (.dT kvs)) := by
        refine ⟨fun b o _ hb => ?_, fun b xs hb => ?_⟩
        · have nb : b ≠ d := ne_of_none hb hd
          rw [upd_ne nb]
          refine g3.old b o id ?_
          rw [← hHF, upd_ne nb]
          exact g.old b o id hb
        · have nb : b ≠ d := ne_of_none hb hd
          rw [upd_ne nb]
          exact g3.tk b xs (tkF _ _ (g.tk b xs hb))
      have tk5 : Tk H3 (upd H3 d (.dT kvs)) := fun b xs hb => by
        rw [upd_ne (fun e => by rw [e, g3.old _ _ id hF] at hb; cases hb)]
        exact hb
      have hL5 : upd H3 d (.dT kvs) L0 = some (.lst acc) := by rw [upd_ne (Ne.symm dL)]; exact hD3
      generalize upd H3 d (.dT kvs) = H5 at g4 tk5 hL5
      have hps2 := hps
      refine ⟨L0, acc, ps, rfl, SqL.of hL5, tps.go tk5, fun p hp => ?_, by have := inv.len; omega, fun ys s py hs => ?_⟩
      · obtain ⟨j, hj, rfl⟩ := List.mem_iff_getElem.mp hp
        obtain ⟨e, k, h1, h2, h3⟩ := hall j _ (List.getElem?_eq_getElem hj)
        obtain ⟨k', c, e1, e2, e3, e4⟩ := inv.ent e (List.mem_of_getElem? h1)
        have : k = k' := inl_inj (h2.symm.trans e1)
        subst this
        rw [h3]
        exact e4
      · have gs := Go.new (S := S0) hs (.lst ys)
        refine ⟨s, _, rfl, .inl ⟨SqL.of upd_same, fun t ht => ?_⟩⟩
        have gt := gs.trans (Go.new (S := S0) ht (.tup ys))
        obtain ⟨es, pe, te⟩ := TrL.perm py (tps.go tk5)
        obtain ⟨qs, rfl, pq⟩ : ∃ qs : List (List Int), es = qs.map D.ints ∧ qs.Perm ps := perm_map_inv pe ps rfl
        refine q _ _ qs (g4.trans gt) (tr_tup upd_same (te.go gt.tk)) ⟨?_, fun p hp => ?_, fun k hk => ?_⟩
        · rw [pq.length_eq, hps]; exact inv.len
        · obtain ⟨j, hj, rfl⟩ := List.mem_iff_getElem.mp (pq.mem_iff.mp hp)
          obtain ⟨e, k, h1, h2, h3⟩ := hall j _ (List.getElem?_eq_getElem hj)
          obtain ⟨k', c, e1, e2, e3, e4⟩ := inv.ent e (List.mem_of_getElem? h1)
          have : k = k' := inl_inj (h2.symm.trans e1)
          subst this
          refine ⟨k, ?_, h3⟩
          obtain ⟨x, hx⟩ := List.exists_mem_of_ne_nil _ e4
          exact List.mem_of_getElem? (mem_cls.mp hx).2
        · refine pq.mem_iff.mpr ?_
          obtain ⟨j, hj, rfl⟩ := List.mem_iff_getElem.mp hk
          obtain ⟨y, hy⟩ := Option.isSome_iff_exists.mp (inv.has j hj _ (List.getElem?_eq_getElem hj))
          obtain ⟨m, hm, em⟩ := List.mem_iff_getElem.mp (valV_mem hy)
          have hm' : m < ps.length := by omega
          obtain ⟨e, k, h1, h2, h3⟩ := hall m _ (List.getElem?_eq_getElem hm')
          rw [List.getElem?_eq_getElem hm, em] at h1
          cases h1
          have : ks[j] = k := inl_inj h2
          rw [this, ← h3]
          exact List.getElem_mem hm'
end
end Kn
/-! ## machines: world_of -/
namespace Kn
open PySem L2
/-- the numbers of a state that a hand sees -/
def keyAt (M : Mc) (seen : List Str) (st : List Int) : List Int := seen.map fun x => st.getD (M.names.idxOf x) 0
/-- the world of the states -/
structure WdOf (M : Mc) (sts : List (List Int)) (W : Wd) : Prop where
  n : W.n = sts.length
  facts : W.facts.length ≤ 100
  slen : W.sights.length = M.hands.length
  sights : ∀ (i : Nat) h, M.hands[i]? = some h → ∃ ps, W.sights[i]? = some (h.1, ps) ∧ PartsOk (sts.map (keyAt M h.2)) ps
/-- the states' dicts -/
def Lots (M : Mc) (sts : List (List Int)) (n : Nat) (H : Hp) (lv : List V) : Prop := ∀ (j : Nat) st, j < n → sts[j]? = some st → ∃ p kvs, lv[j]? = some (.ref p) ∧ H p = some (.dK kvs) ∧ Vd M.names st kvs ∧ Vs M.names kvs
theorem Lots.go {M : Mc} {sts : List (List Int)} {n : Nat} {H H' : Hp} {lv : List V} (h : Lots M sts n H lv) (g : Go S0 H H') : Lots M sts n H' lv := fun j st hj e => by
  obtain ⟨p, kvs, h1, h2, h3⟩ := h j st hj e
  exact ⟨p, kvs, h1, g.old _ _ id h2, h3⟩
theorem idx_get {l : List Str} {x : Str} (h : x ∈ l) : l[l.idxOf x]? = some x := by
  have hlt := List.idxOf_lt_length_iff.mpr h
  rw [List.getElem?_eq_getElem hlt, List.getElem_idxOf]
section
variable {P : Program} {w : World} {K : PySem.W.Frag} {mg : Str → Option Value} {base : Heap}
def sp_world_of (C : Addr) : Sp := fun vs H Q E => ∃ (M : Mc) (v : V), vs = [v] ∧ Tr H M.d v ∧ M.Ok ∧ (∀ H', Go S0 H H' → E (.ref C) none H') ∧
  ∀ t wv sl H' sts svs W, Go S0 H H' → H' t = some (.tup [wv, .ref sl]) → Tr H' W.d wv → H' sl = some (.lst svs) → TrL H' (sts.map D.ints) svs → StsOk M sts → WdOf M sts W → Q (.ref t) H'
theorem ok_world_of (T : Tx K mg) (TM : Tm K mg) : FnOk P w K mg base (L2.CX P w) 7 T.d_world_of.a T.d_world_of.fd P_world_of (sp_world_of TM.C) := by
  have G_states_of := ok_states_of (P := P) (w := w) (base := base) T TM
  have G_values_of := ok_values_of (P := P) (w := w) (base := base) T
  have G_parts_by := ok_parts_by (P := P) (w := w) (base := base) T
  have G_reckoned := ok_reckoned (P := P) (w := w) (base := base) T 3
  refine T.d_world_of.F.okX sc_world_of (fun vs H Q E h => ?_) (fun cdv A outer s H vs Q E hr h => ?_)
  · obtain ⟨M, v, rfl, _⟩ := h
    rfl
  obtain ⟨M, v, rfl, hM, ok, qE, q⟩ := h
  have hu := hu_of hr
  refine ⟨_, (pss_cons (ps_asg (pe_call G_states_of (hr.mono (by omega)) rfl T.d_states_of.m T.d_states_of.F.kp (b_states_of T.d_states_of) .nil (passes_call (takes_of rfl rfl rfl rfl) (fun _ _ _ _ h => h)) (pa_cons (pv 0) pa_nil)) (pgt K (n := 2) rfl (pgs_cons (pg_name (i := 1) sc_world_of.nd rfl (by first | exact Or.inl rfl | exact Or.inr rfl)) (pgs_cons (pg_name (i := 2) sc_world_of.nd rfl (by first | exact Or.inl rfl | exact Or.inr rfl)) pgs_nil))))
  (pss_cons (ps_set (i := 3) sc_world_of.nd rfl (Or.inr rfl) (pe_ix (xt K) (pv 0) pe_int (fun _ _ => rfl)))
  (pss_cons (ps_set (i := 4) sc_world_of.nd rfl (Or.inr rfl) (pe_lc (own := [("state", 5)]) (by rfl) sc_world_of.nd (pil K (pv 1)) (blkOk_by (N := N_world_of) (sc := defScope s_world_of) (by decide +kernel)) (fun _ _ _ _ _ => (pg_name (i := 5) sc_world_of.nd rfl (by first | exact Or.inl rfl | exact Or.inr rfl))) (fun _ _ _ _ _ => pts_nil) (fun _ _ _ _ _ => (pe_call G_values_of (hr.mono (by omega)) rfl T.d_values_of.m T.d_values_of.F.kp (b_values_of T.d_values_of) .nil pass0 (pa_cons (pv 3) (pa_cons (pv 5) pa_nil))))))
  (pss_cons (ps_set (i := 6) sc_world_of.nd rfl (Or.inl rfl) (pe_lst pa_nil))
  (pss_cons (ps_for (passes_of rfl) rfl (pit K (pe_ix (xt K) (pv 0) pe_int (fun _ _ => rfl))) (pgt K (n := 2) rfl (pgs_cons (pg_name (i := 7) sc_world_of.nd rfl (by first | exact Or.inl rfl | exact Or.inr rfl)) (pgs_cons (pg_name (i := 8) sc_world_of.nd rfl (by first | exact Or.inl rfl | exact Or.inr rfl)) pgs_nil)))
  (pss_one (ps_expr (pbm K PySem.F.plainAttrs_list PySem.F.slot_list_append PySem.F.type_list_append mt_append (pv 6) (pa_cons (pe_tup (pa_cons (pv 7) (pa_cons (pe_callTy (ctup K) (by rfl) T.z_tuple (by decide +kernel) (pa_cons (pe_lc (own := [("k", 9)]) (by rfl) sc_world_of.nd (pi_range1 rfl T.z_range (pa_cons (pe_callB (clen K) (by rfl) T.z_len (by decide +kernel) (pa_cons (pv 4) pa_nil)) pa_nil)) (blkOk_by (N := N_world_of) (sc := defScope s_world_of) (by decide +kernel)) (fun _ _ _ _ _ => (pg_name (i := 9) sc_world_of.nd rfl (by first | exact Or.inl rfl | exact Or.inr rfl))) (fun _ _ _ _ _ => (pts_one (pt_cmpR op_ne (pe_call G_reckoned (hr.mono (by omega)) rfl T.d_reckoned.m T.d_reckoned.F.kp (b_reckoned T.d_reckoned) .nil pass0 (pa_cons (pv 8) (pa_cons (pe_ix (xl K) (pv 4) (pv 9) (fun _ _ => rfl)) pa_nil))) pe_int (nomark _)))) (fun _ _ _ _ _ => (pv 9))) pa_nil)) pa_nil))) pa_nil)))))
  (pss_cons (ps_set (i := 10) sc_world_of.nd rfl (Or.inl rfl) (pe_lst pa_nil))
  (pss_cons (ps_for (passes_of rfl) rfl (pit K (pe_ix (xt K) (pv 0) pe_int (fun _ _ => rfl))) (pgt K (n := 2) rfl (pgs_cons (pg_name (i := 11) sc_world_of.nd rfl (by first | exact Or.inl rfl | exact Or.inr rfl)) (pgs_cons (pg_name (i := 12) sc_world_of.nd rfl (by first | exact Or.inl rfl | exact Or.inr rfl)) pgs_nil)))
  (pss_one (ps_expr (pbm K PySem.F.plainAttrs_list PySem.F.slot_list_append PySem.F.type_list_append mt_append (pv 10) (pa_cons (pe_tup (pa_cons (pv 11) (pa_cons (pe_call G_parts_by (hr.mono (by omega)) rfl T.d_parts_by.m T.d_parts_by.F.kp (b_parts_by T.d_parts_by) .nil pass0 (pa_cons (pe_lc (own := [("lot", 13)]) (by rfl) sc_world_of.nd (pil K (pv 4)) (blkOk_by (N := N_world_of) (sc := defScope s_world_of) (by decide +kernel)) (fun _ _ _ _ _ => (pg_name (i := 13) sc_world_of.nd rfl (by first | exact Or.inl rfl | exact Or.inr rfl))) (fun _ _ _ _ _ => pts_nil) (fun _ _ _ _ _ => (pe_callTy (ctup K) (by rfl) T.z_tuple (by decide +kernel) (pa_cons (pe_lc (own := [("name", 7)]) (by rfl) sc_world_of.nd (pit K (pv 12)) (blkOk_by (by kernel_rfl)) (fun _ _ _ _ _ => (pg_name (i := 7) sc_world_of.nd rfl (by first | exact Or.inl rfl | exact Or.inr rfl))) (fun _ _ _ _ _ => pts_nil) (fun _ _ _ _ _ => (pe_dget hu (pv 13) (pv 7) (fun _ _ => rfl)))) pa_nil)))) pa_nil)) pa_nil))) pa_nil)))))
  (pss_one (ps_ret (pe_tup (pa_cons (pe_tup (pa_cons (pe_callTy (ctup K) (by rfl) T.z_tuple (by decide +kernel) (pa_cons (pv 6) pa_nil)) (pa_cons (pv 2) (pa_cons (pe_callTy (ctup K) (by rfl) T.z_tuple (by decide +kernel) (pa_cons (pv 10) pa_nil)) pa_nil)))) (pa_cons (pv 1) pa_nil)))))))))))), ?_⟩
  refine ⟨_, rfl, M, _, rfl, hM, ok, qE, fun t0 sl mt H1 sts svs mvs g1 ht0 hsl tS hmt hml so => ?_⟩
  obtain ⟨a, v1, v2, v3, v4, rfl, ha, h1, h2, h3, h4⟩ := hM.four
  have hslen := tS.length
  rw [List.length_map] at hslen
  have few := so.few
  refine ⟨t0, _, rfl, SqT.of ht0, rfl, _, _, rfl, _, _, rfl, rfl, ?_⟩
  refine ⟨_, rfl, _, _, _, _, rfl, rfl, SqT.of (g1.tk _ _ ha), rfl, ?_⟩
  refine ⟨_, rfl, sl, rfl, ⟨_, SqL.of hsl⟩, fun L hL => ?_⟩
  refine lcL (xs := svs) S0 (fun i acc H' => acc.length = i ∧ Lots M sts i H' acc) hsl id hL (by omega) ⟨rfl, fun j st hj => absurd hj (Nat.not_lt_zero j)⟩ ?_ ?_
  · rintro i z acc H2 Kt Kf hz hD g2 ⟨hal, hlots⟩ kt kf
    obtain ⟨d, ed, tz⟩ := tS.get hz
    obtain ⟨st, est, rfl⟩ := map_get ed
    refine ⟨rfl, _, rfl, _, rfl, M, _, _, st, rfl, h1.go (g1.tk.trans g2.tk), tz.go g2.tk, ok, so.ok st (List.mem_of_getElem? est), fun p H3 kvs g3 hp vd vs => ?_⟩
    have hD3 := g3.old _ _ id hD
    refine kt _ _ hD3 (g2.trans g3) ⟨by rw [List.length_append, hal]; rfl, fun j st' hj e => ?_⟩
    by_cases hji : j = i
    · subst hji
      rw [est] at e
      cases e
      refine ⟨p, kvs, ?_, ?_, vd, vs⟩
      · rw [List.getElem?_append_right (by omega), hal, Nat.sub_self]
        rfl
      · rw [upd_ne (ne_of hp hD3 (fun z => nomatch z))]
        exact hp
    · obtain ⟨p', kvs', e1, e2, e3⟩ := hlots j st' (by omega) e
      refine ⟨p', kvs', ?_, ?_, e3⟩
      · rw [List.getElem?_append_left (by omega)]
        exact e1
      · have e2' := g3.old _ _ id e2
        rw [upd_ne (ne_of e2' hD3 (fun z => nomatch z))]
        exact e2'
  intro lv H2 hL2 hle g2 ⟨hll, hlots⟩
  have g02 := g1.trans g2
  have hln : lv.length = sts.length := by omega
  rw [← hll] at hlots
  refine ⟨Nat.zero_le _, fun fl hfl => ?_⟩
  have g03 := g02.trans (Go.new (S := S0) hfl (.lst []))
  obtain ⟨fa, fvs, rfl, hfa, tF⟩ := h4.tup_of
  obtain ⟨ga, gvs, rfl, hga, tG⟩ := h2.tup_of
  have hflen := tF.length
  have hglen := tG.length
  rw [List.length_map] at hflen hglen
  have ffew := ok.facts
  have gfew := ok.hands
  refine ⟨_, rfl, _, _, _, _, rfl, rfl, SqT.of (g03.tk _ _ ha), rfl, fa, rfl, ⟨_, SqT.of (g03.tk _ _ hfa)⟩, ?_⟩
  refine for_tup (xs := fvs) (fun i σ H' => (∃ o7 o8, σ = [some (.ref a), some (.ref sl), some (.ref mt), some v1, some (.ref L), none, some (.ref fl), o7, o8, none, none, none, none, none]) ∧ Go S0 H2 H' ∧ ∃ fs ws, H' fl = some (.lst ws) ∧ TrL H' (fs.map factD) ws ∧ fs.length = i)
    ⟨⟨_, _, rfl⟩, Go.new hfl _, [], [], upd_same, trl_nil, rfl⟩ (fun i σ H' _ ⟨_, g, _⟩ => SqT.of ((g02.trans g).tk _ _ hfa)) ?_ ?_
  · rintro i z σ H3 hz ⟨⟨o7, o8, rfl⟩, g, fs, ws, hws, tw, hfi⟩
    have hi : i < fvs.length := (List.getElem?_eq_some_iff.mp hz).1
    obtain ⟨d, ed, tz⟩ := tF.get hz
    obtain ⟨f, ef, rfl⟩ := map_get ed
    obtain ⟨c, x1, x2, rfl, hc, t1, t2⟩ := Tr.two (d := .str f.1) (e := f.2) tz
    cases t1.str_of
    have gg := g02.trans g
    have rk := ok.fact f (List.mem_of_getElem? ef)
    have hL3 := g.old _ _ id hL2
    refine ⟨_, _, rfl, SqT.of (gg.tk _ _ hc), rfl, _, _, rfl, _, _, rfl, rfl, ?_⟩
    refine ⟨_, rfl, .inl ⟨rfl, _, SqL.of hws⟩, _, rfl, _, rfl, L, _, rfl, .inl (SqL.of hL3), _, rfl, by omega, by omega, fun D0 hD0 => ?_⟩
    rw [Int.toNat_natCast]
    refine lcR S0 (fun i acc H' => ∃ ns : List Int, acc = ns.map V.int ∧ ns.length ≤ i) hD0 (by omega) ⟨[], rfl, Nat.le_refl _⟩ ?_ ?_
    · rintro j acc H4 Kt Kf hj hD4 g4 ⟨ns, rfl, hnl⟩ kt kf
      have hjs : j < sts.length := by omega
      obtain ⟨p, kvs, e1, e2, e3, e4⟩ := hlots j sts[j] hj (List.getElem?_eq_getElem hjs)
      have gh := g.trans g4
      refine ⟨rfl, _, rfl, _, rfl, _, rfl, _, _, _, _, rfl, rfl, SqL.of (gh.old _ _ id hL2), atI_nat e1, _, p, M.names, kvs, f.2, 2, rfl, by omega, by omega, rk, t2.go (gg.trans g4).tk, gh.old _ _ id e2, e4, fun n H5 g5 lo hi => ?_⟩
      have hD5 := g5.old _ _ id hD4
      refine ⟨rfl, _, rfl, ?_⟩
      refine ite2 (fun _ => ?_) (fun _ => ?_)
      · refine ⟨_, rfl, kt _ _ hD5 (g4.trans g5) ⟨ns ++ [(j : Int)], by rw [List.map_append]; rfl, by rw [List.length_append]; exact Nat.succ_le_succ hnl⟩⟩
      · exact kf _ hD5 (g4.trans g5) ⟨ns, rfl, Nat.le_succ_of_le hnl⟩
    · rintro acc H4 hD4 hle4 g4 ⟨ns, rfl, hnl⟩
      refine ⟨D0, _, rfl, .inl ⟨SqL.of hD4, fun t ht => ?_⟩⟩
      have g5 := g4.trans (Go.new (S := S0) ht (.tup (ns.map V.int)))
      have ht5 : upd H4 t (.tup (ns.map V.int)) t = some (.tup (ns.map V.int)) := upd_same
      generalize upd H4 t (.tup (ns.map V.int)) = H5 at g5 ht5
      refine ⟨(by show 2 ≤ sizeLine; decide), fun u hu' => ?_⟩
      have g6 := g5.trans (Go.new (S := S0) hu' (.tup [.str f.1, .ref t]))
      have hws6 := g6.old _ _ id hws
      refine ⟨fl, _, _, rfl, rfl, hws6, lt_line (by have := tw.length; rw [List.length_map] at this; omega), ?_⟩
      refine ⟨⟨_, _, rfl⟩, (g.trans g6).set hfl _, fs ++ [(f.1, ns)], _, upd_same, ?_, by rw [List.length_append, hfi]; rfl⟩
      rw [List.map_append]
      have tk7 := Tk.put hws6 (.lst (ws ++ [V.ref u]))
      refine (tw.go (g6.tk.trans tk7)).snoc (tr2 (d := .str f.1) (e := D.ints ns) (tk7 _ _ upd_same) tr_str (tr_tup (tk7 _ _ ?_) trl_ints))
      rw [upd_ne (ne_of_none ht5 hu')]
      exact ht5
  rintro σ H3 ⟨⟨o7, o8, rfl⟩, g, fs, ws, hws, tw, hfi⟩
  have gg := g02.trans g
  refine ⟨Nat.zero_le _, fun gl hgl => ?_⟩
  have gn := Go.new (S := S0) hgl (.lst [])
  refine ⟨_, rfl, _, _, _, _, rfl, rfl, SqT.of ((gg.trans gn).tk _ _ ha), rfl, ga, rfl, ⟨_, SqT.of ((gg.trans gn).tk _ _ hga)⟩, ?_⟩
  refine for_tup (xs := gvs) (fun i σ H' => (∃ o11 o12, σ = [some (.ref a), some (.ref sl), some (.ref mt), some v1, some (.ref L), none, some (.ref fl), o7, o8, none, some (.ref gl), o11, o12, none]) ∧ Go S0 H3 H' ∧ ∃ ss us, H' gl = some (.lst us) ∧ TrL H' (ss.map sightD) us ∧ ss.length = i ∧
      ∀ (j : Nat) h, j < i → M.hands[j]? = some h → ∃ ps, ss[j]? = some (h.1, ps) ∧ PartsOk (sts.map (keyAt M h.2)) ps)
    ⟨⟨_, _, rfl⟩, gn, [], [], upd_same, trl_nil, rfl, fun j h hj => absurd hj (Nat.not_lt_zero j)⟩ (fun i σ H' _ ⟨_, g', _⟩ => SqT.of ((gg.trans g').tk _ _ hga)) ?_ ?_
  · rintro i z σ H4 hz ⟨⟨o11, o12, rfl⟩, g4, ss, us, hus, tu, hsi, hss⟩
    have hi : i < gvs.length := (List.getElem?_eq_some_iff.mp hz).1
    obtain ⟨d, ed, tz⟩ := tG.get hz
    obtain ⟨h, eh, rfl⟩ := map_get ed
    obtain ⟨c, x1, x2, rfl, hc, t1, t2⟩ := Tr.two (d := .str h.1) (e := .tup (h.2.map D.str)) tz
    cases t1.str_of
    obtain ⟨e, es, rfl, he, te⟩ := t2.tup_of
    cases te.strs_of
    have g04 := gg.trans g4
    obtain ⟨hseen, hnames⟩ := ok.seen h (List.mem_of_getElem? eh)
    have hL4 := (g.trans g4).old _ _ id hL2
    refine ⟨_, _, rfl, SqT.of (g04.tk _ _ hc), rfl, _, _, rfl, _, _, rfl, rfl, ?_⟩
    refine ⟨_, rfl, .inl ⟨rfl, _, SqL.of hus⟩, _, rfl, _, rfl, L, rfl, ⟨_, SqL.of hL4⟩, fun D0 hD0 => ?_⟩
    refine lcL (xs := lv) S0 (fun j acc H' => TrL H' (((sts.take j).map (keyAt M h.2)).map D.ints) acc) hL4 id hD0 (by omega) trl_nil ?_ ?_
    · rintro j z acc H5 Kt Kf hz5 hD5 g5 r kt kf
      have hj : j < lv.length := (List.getElem?_eq_some_iff.mp hz5).1
      have hjs : j < sts.length := by omega
      have est : sts[j]? = some sts[j] := List.getElem?_eq_getElem hjs
      obtain ⟨p, kvs, e1, e2, e3, e4⟩ := hlots j sts[j] hj est
      rw [hz5] at e1
      cases e1
      have hp5 := ((g.trans g4).trans g5).old _ _ id e2
      have g05 := g04.trans g5
      refine ⟨rfl, _, rfl, e, rfl, ⟨_, SqT.of (g05.tk _ _ he)⟩, fun D1 hD1 => ?_⟩
      refine lcT (xs := h.2.map V.str) S0 (fun m acc H' => acc = ((h.2.take m).map fun x => sts[j].getD (M.names.idxOf x) 0).map V.int) (g05.tk _ _ he) hD1 (by rw [List.length_map]; omega) rfl ?_ ?_
      · rintro m z acc H6 Kt Kf hz6 hD6 g6 rfl kt kf
        obtain ⟨x, ex, rfl⟩ := map_get hz6
        have hx := idx_get (hnames x (List.mem_of_getElem? ex))
        have hsl5 : M.names.idxOf x < sts[j].length := by
          rw [(so.ok sts[j] (List.getElem_mem hjs)).1]
          have := (List.getElem?_eq_some_iff.mp hx).1
          unfold Mc.names at this ⊢
          rw [List.length_map] at this
          exact this
        have ev := e3 (M.names.idxOf x) x _ hx (List.getElem?_eq_getElem hsl5)
        have dg := DGet.k (k := Sum.inr x) (g6.old _ _ id hp5)
        rw [ev] at dg
        refine ⟨rfl, _, rfl, _, rfl, p, _, rfl, dg, kt _ _ hD6 g6 ?_⟩
        rw [take_map_succ ex, List.map_append]
        congr 1
        show [V.int _] = [V.int _]
        rw [List.getD_eq_getElem?_getD, List.getElem?_eq_getElem hsl5]
        rfl
      · rintro acc H6 hD6 hle6 g6 rfl
        rw [List.length_map, List.take_length] at hD6
        refine ⟨D1, _, rfl, .inl ⟨SqL.of hD6, fun t ht => ?_⟩⟩
        have g7 := g6.trans (Go.new (S := S0) ht (.tup ((h.2.map fun x => sts[j].getD (M.names.idxOf x) 0).map V.int)))
        have hD7 := g7.old _ _ id hD5
        refine kt _ _ hD7 (g5.trans g7) ?_
        rw [take_map_succ est, List.map_append]
        have tk8 := Tk.put hD7 (.lst (acc ++ [V.ref t]))
        exact (r.go (g7.tk.trans tk8)).snoc (tr_tup (tk8 _ _ upd_same) trl_ints)
    · rintro acc H5 hD5 hle5 g5 r
      rw [hln, List.take_length] at r
      refine ⟨D0, acc, sts.map (keyAt M h.2), rfl, hD5, r, by rw [List.length_map]; omega, fun v' H6 ps g6 t6 po => ?_⟩
      refine ⟨(by show 2 ≤ sizeLine; decide), fun u hu' => ?_⟩
      have g7 := (g5.trans g6).trans (Go.new (S := S0) hu' (.tup [.str h.1, v']))
      have hus7 := g7.old _ _ id hus
      refine ⟨gl, _, _, rfl, rfl, hus7, lt_line (by have := tu.length; rw [List.length_map] at this; omega), ?_⟩
      refine ⟨⟨_, _, rfl⟩, (g4.trans g7).set hgl _, ss ++ [(h.1, ps)], _, upd_same, ?_, by rw [List.length_append, hsi]; rfl, fun j h' hj e' => ?_⟩
      · rw [List.map_append]
        have tk8 := Tk.put hus7 (.lst (us ++ [V.ref u]))
        exact (tu.go (g7.tk.trans tk8)).snoc (tr2 (d := .str h.1) (e := .tup (ps.map D.ints)) (tk8 _ _ upd_same) tr_str (t6.go ((Tk.new hu' _).trans tk8)))
      · by_cases hji : j = i
        · subst hji
          rw [eh] at e'
          cases e'
          refine ⟨ps, ?_, po⟩
          rw [List.getElem?_append_right (by omega), hsi, Nat.sub_self]
          rfl
        · obtain ⟨ps', e1, e2⟩ := hss j h' (by omega) e'
          refine ⟨ps', ?_, e2⟩
          rw [List.getElem?_append_left (by omega)]
          exact e1
  rintro σ H4 ⟨⟨o11, o12, rfl⟩, g4, ss, us, hus, tu, hsi, hss⟩
  have hws4 := g4.old _ _ id hws
  refine ⟨_, rfl, fl, _, rfl, .inl ⟨SqL.of hws4, fun f1 hf1 => ?_⟩⟩
  have n1 := Go.new (S := S0) hf1 (.tup ws)
  refine ⟨_, rfl, _, rfl, gl, _, rfl, .inl ⟨SqL.of (n1.old _ _ id hus), fun s1 hs1 => ?_⟩⟩
  have n2 := n1.trans (Go.new (S := S0) hs1 (.tup us))
  have e1 : upd (upd H4 f1 (.tup ws)) s1 (.tup us) f1 = some (.tup ws) := by rw [upd_ne (ne_of_none upd_same hs1), upd_same]
  have e2 : upd (upd H4 f1 (.tup ws)) s1 (.tup us) s1 = some (.tup us) := upd_same
  generalize upd (upd H4 f1 (.tup ws)) s1 (.tup us) = H5 at n2 e1 e2
  refine ⟨(by show 3 ≤ sizeLine; decide), fun w1 hw1 => ?_⟩
  have n3 := n2.trans (Go.new (S := S0) hw1 (.tup [.ref f1, .ref mt, .ref s1]))
  have e3 : upd H5 w1 (.tup [.ref f1, .ref mt, .ref s1]) w1 = some (.tup [.ref f1, .ref mt, .ref s1]) := upd_same
  have e1' : upd H5 w1 (.tup [.ref f1, .ref mt, .ref s1]) f1 = some (.tup ws) := by rw [upd_ne (ne_of_none e1 hw1)]; exact e1
  have e2' : upd H5 w1 (.tup [.ref f1, .ref mt, .ref s1]) s1 = some (.tup us) := by rw [upd_ne (ne_of_none e2 hw1)]; exact e2
  generalize upd H5 w1 (.tup [.ref f1, .ref mt, .ref s1]) = H6 at n3 e1' e2' e3
  refine ⟨_, rfl, (by show 2 ≤ sizeLine; decide), fun t ht => ?_⟩
  have nt := Go.new (S := S0) ht (.tup [.ref w1, .ref sl])
  have n4 := n3.trans nt
  have gs := (g2.trans g).trans (g4.trans n4)
  have anys : ∀ {n : Nat} {xs : List V} {H : Hp}, xs.length = n → TrL H (List.replicate n .any) xs := by
    intro n
    induction n with
    | zero =>
      intro xs H h
      cases xs with
      | nil => exact trl_nil
      | cons _ _ => simp at h
    | succ n ih =>
      intro xs H h
      cases xs with
      | nil => simp at h
      | cons x r => exact trl_cons tr_any (ih (by simpa using h))
  refine q t (.ref w1) sl _ sts svs ⟨sts.length, fs, ss⟩ (g1.trans gs) upd_same ?_ (gs.old _ _ id hsl) (tS.go gs.tk) so ⟨rfl, by show fs.length ≤ 100; omega, by show ss.length = M.hands.length; omega, fun i h eh => hss i h (by have := (List.getElem?_eq_some_iff.mp eh).1; omega) eh⟩
  exact tr3 (d := .tup (fs.map factD)) (e := .tup (List.replicate sts.length .any)) (f := .tup (ss.map sightD)) (nt.tk _ _ e3) (tr_tup (nt.tk _ _ e1') (tw.go (g4.tk.trans n4.tk))) (tr_tup (gs.tk _ _ hmt) (anys hml)) (tr_tup (nt.tk _ _ e2') (tu.go n4.tk))
end
end Kn
/-! ## draws: cell_at, by, next, number -/
namespace Kn
open PySem L2
section
variable {P : Program} {w : World} {K : PySem.W.Frag} {mg : Str → Option Value} {base : Heap}
theorem fmod_in (a : Int) {b : Int} (h : 0 < b) : 0 ≤ a.fmod b ∧ a.fmod b < b := ⟨Int.fmod_nonneg_of_pos a h, Int.fmod_lt_of_pos a h⟩
def sp_cell_at (K : PySem.W.Frag) : Sp := fun vs H Q _ => ∃ (sa : Addr) (k : Int) (ns : List Int), vs = [.ref sa, .int k] ∧ SqL K H sa (ns.map V.int) ∧ ns.length ≤ 63 ∧ ∀ i : Int, (ns = [] → i = 0) → Q (.int i) H
theorem ok_cell_at (T : Tx K mg) : FnOk P w K mg base CX0 1 T.d_cell_at.a T.d_cell_at.fd P_cell_at (sp_cell_at K) := by
  refine T.d_cell_at.F.ok sc_cell_at (fun vs H Q E h => ?_) (fun cdv A outer s H vs Q E hr h => ?_)
  · obtain ⟨sa, k, ns, rfl, _⟩ := h
    rfl
  obtain ⟨sa, k, ns, rfl, hs, hn, q⟩ := h
  refine ⟨_, (pss_cons (ps_if (pt_cmpR op_gt (pe_callB (clen K) (by rfl) T.z_len (by decide +kernel) (pa_cons (pv 0) pa_nil)) pe_int (nomark _))
  (pss_one (ps_ret (pe_ix (xl K) (pv 0) (pe_op op_modN (pv 1) (pe_callB (clen K) (by rfl) T.z_len (by decide +kernel) (pa_cons (pv 0) pa_nil))) (fun _ _ => rfl))))
  pss_nil)
  (pss_one (ps_ret pe_int))), ?_⟩
  refine ⟨_, rfl, sa, _, rfl, .inl hs, _, _, rfl, rfl, _, rfl, ?_⟩
  rw [List.length_map]
  refine ite2 (fun c => ?_) (fun c => ?_)
  · have c' : (ns.length : Int) > 0 := of_decide_eq_true c
    have m := fmod_in k c'
    refine ⟨_, rfl, _, rfl, _, rfl, sa, _, rfl, .inl hs, _, _, rfl, rfl, ?_⟩
    rw [List.length_map]
    refine ⟨(by show (ns.length : Int) ≠ 0; omega), ?_⟩
    have hi : (k.fmod ns.length).toNat < ns.length := by omega
    have e : (ns.map V.int)[(k.fmod ns.length).toNat]? = some (V.int ns[(k.fmod ns.length).toNat]) := by rw [List.getElem?_map, List.getElem?_eq_getElem hi]; rfl
    exact ⟨sa, _, _, _, rfl, rfl, hs, at_of (by omega) e, q _ (fun z => by rw [z] at hi; simp at hi)⟩
  · exact q 0 fun _ => rfl

def sp_by (K : PySem.W.Frag) : Sp := fun vs H Q _ => ∃ (sa : Addr) (k m : Int) (ns : List Int), vs = [.ref sa, .int k, .int m] ∧ SqL K H sa (ns.map V.int) ∧ ns.length ≤ 63 ∧ 0 ≤ k ∧ k ≤ 1000000 ∧ 1 ≤ m ∧ ∀ i : Int, 0 ≤ i → i < m → Q (.int i) H
theorem ok_by (T : Tx K mg) : FnOk P w K mg base CX0 2 T.d_by.a T.d_by.fd P_by (sp_by K) := by
  have G_cell_at := ok_cell_at (P := P) (w := w) (base := base) T
  refine T.d_by.F.ok sc_by (fun vs H Q E h => ?_) (fun cdv A outer s H vs Q E hr h => ?_)
  · obtain ⟨sa, k, m, ns, rfl, _⟩ := h
    rfl
  obtain ⟨sa, k, m, ns, rfl, hs, hn, k0, k1, m1, q⟩ := h
  refine ⟨_, (pss_cons (ps_set (i := 3) sc_by.nd rfl (Or.inl rfl) (pe_call G_cell_at (hr.mono (by omega)) rfl T.d_cell_at.m T.d_cell_at.F.kp (b_cell_at T.d_cell_at) .nil pass0 (pa_cons (pv 0) (pa_cons (pv 1) pa_nil))))
  (pss_cons (ps_set (i := 4) sc_by.nd rfl (Or.inl rfl) pe_int)
  (pss_cons (ps_if (pt_cmpR op_ge (pv 3) (pe_op op_pow pe_int pe_int) (nomark _))
  (pss_one (ps_set (i := 4) sc_by.nd rfl (Or.inl rfl) (pe_op op_shr (pv 3) (pe_op op_mul pe_int (pe_op op_fdivN (pv 1) (pe_callB (clen K) (by rfl) T.z_len (by decide +kernel) (pa_cons (pv 0) pa_nil)))))))
  pss_nil)
  (pss_cons (ps_if (pt_cmpR op_gt (pv 4) pe_int (nomark _))
  (pss_one (ps_ret (pe_op op_modN (pv 4) (pv 2))))
  pss_nil)
  (pss_cons (ps_set (i := 5) sc_by.nd rfl (Or.inl rfl) (pe_op op_add (pe_op op_add (pe_op op_modN (pv 3) pe_int) (pe_op op_mul (pe_op op_mul pe_int (pv 1)) (pv 1))) pe_int))
  (pss_one (ps_ret (pe_op op_modN (pe_op op_modN (pe_op op_mul (pe_op op_modN (pe_op op_mul (pv 5) pe_int) pe_int) pe_int) pe_int) (pv 2))))))))), ?_⟩
  refine ⟨_, rfl, _, rfl, sa, k, ns, rfl, hs, hn, fun cell hc => ?_⟩
  have last : ∀ (pt : Int), (pt > 0 → Q (.int (pt.fmod m)) H) := fun pt _ => q _ (fmod_in pt (by omega)).1 (fmod_in pt (by omega)).2
  have rest : ∀ pt : Int, ∃ x : V, (some (some (V.int pt)) : Option (Option V)) = some (some x) ∧ True := fun pt => ⟨_, rfl, trivial⟩
  have kk : (31 * k) * k ≤ 31000000 * 1000000 := Int.mul_le_mul (by omega) (by omega) (by omega) (by omega)
  have kn : 0 ≤ (31 * k) * k := Int.mul_nonneg (by omega) (by omega)
  have ms := fmod_in cell (b := 1000003) (by decide)
  have fin : ∀ s5 : Int, 0 ≤ s5 → s5 < 2 ^ 60 → (-(2 ^ 64) < s5 ∧ s5 < 2 ^ 64) ∧ (-(2 ^ 64) < (s5 * 48271).fmod 999983 ∧ (s5 * 48271).fmod 999983 < 2 ^ 64) := fun s5 h0 h1 => by
    have z := fmod_in (s5 * 48271) (b := 999983) (by decide)
    omega
  obtain ⟨f1, f2⟩ := fin (cell.fmod 1000003 + (31 * k) * k + 1) (by omega) (by omega)
  have big : (10 : Int) ^ (18 : Int).toNat = 1000000000000000000 := by decide
  refine ⟨_, rfl, _, _, rfl, rfl, ⟨by decide, by decide, by decide⟩, _, _, rfl, rfl, _, rfl, ?_⟩
  refine ite2 (fun c => ?_) (fun c => ?_)
  · have c' : cell ≥ (10 : Int) ^ (18 : Int).toNat := of_decide_eq_true c
    have ne : ns ≠ [] := fun z => by
      have := hc z
      omega
    have nl : 0 < ns.length := List.length_pos_iff.mpr ne
    have fd := Int.fdiv_nonneg k0 (show (0 : Int) ≤ (ns.length : Int) by omega)
    refine ⟨_, rfl, _, rfl, _, rfl, sa, _, rfl, .inl hs, ?_⟩
    rw [List.length_map]
    refine ⟨_, _, rfl, rfl, ⟨(by show (ns.length : Int) ≠ 0; omega), (by show (ns.length : Int).natAbs < 1073741824; omega)⟩, _, _, rfl, rfl, .inl ⟨by decide, by decide⟩, _, _, rfl, rfl, (by show 0 ≤ 20 * k.fdiv ns.length; omega), ?_⟩
    refine ⟨_, rfl, _, _, rfl, rfl, _, rfl, ?_⟩
    refine ite2 (fun c2 => ?_) (fun c2 => ?_)
    · exact ⟨_, rfl, _, rfl, _, _, rfl, rfl, (by show m ≠ 0; omega), q _ (fmod_in _ (by omega)).1 (fmod_in _ (by omega)).2⟩
    · refine ⟨_, rfl, _, _, rfl, rfl, (by show (1000003 : Int) ≠ 0; decide), _, rfl, _, _, rfl, rfl, .inl ⟨by decide, by decide⟩, _, rfl, _, _, rfl, rfl, .inl ⟨(by show -(2 ^ 64) < 31 * k; omega), (by show 31 * k < 2 ^ 64; omega)⟩, _, _, rfl, rfl, _, _, rfl, rfl, ?_⟩
      exact ⟨_, rfl, _, _, rfl, rfl, .inl f1, _, _, rfl, rfl, (by show (999983 : Int) ≠ 0; decide), _, _, rfl, rfl, .inl f2, _, _, rfl, rfl, (by show (524287 : Int) ≠ 0; decide), _, rfl, _, _, rfl, rfl, (by show m ≠ 0; omega), q _ (fmod_in _ (by omega)).1 (fmod_in _ (by omega)).2⟩
  · refine ⟨_, rfl, _, _, rfl, rfl, _, rfl, ifF (by decide) ?_⟩
    refine ⟨_, rfl, _, _, rfl, rfl, (by show (1000003 : Int) ≠ 0; decide), _, rfl, _, _, rfl, rfl, .inl ⟨by decide, by decide⟩, _, rfl, _, _, rfl, rfl, .inl ⟨(by show -(2 ^ 64) < 31 * k; omega), (by show 31 * k < 2 ^ 64; omega)⟩, _, _, rfl, rfl, _, _, rfl, rfl, ?_⟩
    exact ⟨_, rfl, _, _, rfl, rfl, .inl f1, _, _, rfl, rfl, (by show (999983 : Int) ≠ 0; decide), _, _, rfl, rfl, .inl f2, _, _, rfl, rfl, (by show (524287 : Int) ≠ 0; decide), _, rfl, _, _, rfl, rfl, (by show m ≠ 0; omega), q _ (fmod_in _ (by omega)).1 (fmod_in _ (by omega)).2⟩

def sp_next (K : PySem.W.Frag) : Sp := fun vs H Q _ => ∃ (tp sa : Addr) (ns : List Int) (k m : Int), vs = [.ref tp, .int m] ∧ Tape K tp sa ns k H ∧ k + 1 ≤ 1000000 ∧ 1 ≤ m ∧ ∀ (i : Int) H', 0 ≤ i → i < m → Go (St1 tp) H H' → Tape K tp sa ns (k + 1) H' → Q (.int i) H'
theorem ok_next (T : Tx K mg) : FnOk P w K mg base CX0 3 T.d_next.a T.d_next.fd P_next (sp_next K) := by
  have G_by := ok_by (P := P) (w := w) (base := base) T
  refine T.d_next.F.ok sc_next (fun vs H Q E h => ?_) (fun cdv A outer s H vs Q E hr h => ?_)
  · obtain ⟨tp, sa, ns, k, m, rfl, _⟩ := h
    rfl
  obtain ⟨tp, sa, ns, k, m, rfl, t, hk, hm, q⟩ := h
  refine ⟨_, (pss_cons (ps_asg (pe_op op_add (pe_ix (xl K) (pv 0) pe_int (fun _ _ => rfl)) pe_int) (pg_sub (pv 0) pe_int set_list))
  (pss_one (ps_ret (pe_call G_by (hr.mono (by omega)) rfl T.d_by.m T.d_by.F.kp (b_by T.d_by) .nil pass0 (pa_cons (pe_ix (xl K) (pv 0) pe_int (fun _ _ => rfl)) (pa_cons (pe_ix (xl K) (pv 0) pe_int (fun _ _ => rfl)) (pa_cons (pv 1) pa_nil))))))), ?_⟩
  have t1 := t.next
  have g1 : Go (St1 tp) H (upd H tp (.lst [.ref sa, .int (k + 1)])) := Go.put (S := St1 tp) rfl t.lst _
  refine ⟨_, rfl, tp, _, _, _, rfl, rfl, SqL.of t.lst, rfl, _, _, rfl, rfl, ?_⟩
  refine ⟨_, rfl, tp, _, _, 1, rfl, rfl, t.lst, rfl, ?_⟩
  refine ⟨_, rfl, _, _, _, _, rfl, rfl, SqL.of t1.lst, rfl, _, rfl, _, _, _, _, rfl, rfl, SqL.of t1.lst, rfl, _, rfl, ?_⟩
  exact ⟨sa, k + 1, m, ns, rfl, t1.scr _ Go.refl, t1.small, t1.pos, hk, hm, fun i h0 h1 => q i _ h0 h1 g1 t1⟩

/-- what a def that draws hands back -/
abbrev TQ (K : PySem.W.Frag) (tp sa : Addr) (ns : List Int) (k c : Int) (H : Hp) (Q : VK) (R : V → Hp → Prop) : Prop := ∀ v H' k', Go (St1 tp) H H' → Tape K tp sa ns k' H' → k' ≤ k + c → R v H' → Q v H'
def sp_number (K : PySem.W.Frag) : Sp := fun vs H Q _ => ∃ (tp sa : Addr) (ns : List Int) (k : Int), vs = [.ref tp] ∧ Tape K tp sa ns k H ∧ k + 2 ≤ 1000000 ∧ TQ K tp sa ns k 2 H Q fun v _ => ∃ n : Int, v = .int n ∧ Small n
theorem ok_number (T : Tx K mg) : FnOk P w K mg base CX0 4 T.d_number.a T.d_number.fd P_number (sp_number K) := by
  have G_next := ok_next (P := P) (w := w) (base := base) T
  refine T.d_number.F.ok sc_number (fun vs H Q E h => ?_) (fun cdv A outer s H vs Q E hr h => ?_)
  · obtain ⟨tp, sa, ns, k, rfl, _⟩ := h
    rfl
  obtain ⟨tp, sa, ns, k, rfl, t, hk, q⟩ := h
  refine ⟨_, (pss_cons (ps_set (i := 1) sc_number.nd rfl (Or.inl rfl) (pe_call G_next (hr.mono (by omega)) rfl T.d_next.m T.d_next.F.kp (b_next T.d_next) .nil pass0 (pa_cons (pv 0) (pa_cons pe_int pa_nil))))
  (pss_cons (ps_if (pt_cmpR op_lt (pv 1) pe_int (nomark _))
  (pss_one (ps_ret (pe_ix (xl K) (pe_lst (pa_cons pe_int (pa_cons pe_int (pa_cons pe_int (pa_cons pe_int (pa_cons (pe_un un_neg pe_int) (pa_cons (pe_un un_neg pe_int) (pa_cons pe_int (pa_cons pe_int pa_nil))))))))) (pv 1) (fun _ _ => rfl))))
  pss_nil)
  (pss_one (ps_ret (pe_ix (xl K) (pe_lst (pa_cons pe_int (pa_cons (pe_un un_neg pe_int) (pa_cons pe_int (pa_cons (pe_un un_neg pe_int) (pa_cons pe_int pa_nil)))))) (pe_call G_next (hr.mono (by omega)) rfl T.d_next.m T.d_next.F.kp (b_next T.d_next) .nil pass0 (pa_cons (pv 0) (pa_cons pe_int pa_nil))) (fun _ _ => rfl)))))), ?_⟩
  refine ⟨_, rfl, tp, sa, ns, k, 9, rfl, t, by omega, by omega, fun wy H1 w0 w1 g1 t1 => ?_⟩
  refine ⟨_, rfl, _, _, rfl, rfl, _, rfl, ?_⟩
  have pick : ∀ (xs : List Int) (j : Int), (∀ x ∈ xs, Small x) → 0 ≤ j → j < xs.length → ∃ n, atI (xs.map V.int) j = some (V.int n) ∧ Small n := fun xs j hx h0 h1 => by
    have hj : j.toNat < xs.length := by omega
    refine ⟨xs[j.toNat], at_of (j := j.toNat) (by omega) ?_, hx _ (List.getElem_mem hj)⟩
    rw [List.getElem?_map, List.getElem?_eq_getElem hj]
    rfl
  have tn : ∀ {H1 : Hp} {k : Int} {l : Addr} {o : HO}, Tape K tp sa ns k H1 → H1 l = none → Tape K tp sa ns k (upd H1 l o) := fun t h => t.go (Go.new h _)
  refine ite2 (fun c => ?_) (fun c => ?_)
  · have c' : wy < 8 := of_decide_eq_true c
    refine ⟨_, rfl, _, rfl, (by show 8 ≤ sizeLine; decide), fun l hl => ?_⟩
    obtain ⟨n, e, sm⟩ := pick [0, 1, 2, 3, -1, -2, 0, 1] wy (by unfold Small; decide) w0 (by show wy < 8; exact c')
    exact ⟨_, rfl, l, _, _, _, rfl, rfl, SqL.of upd_same, e, q _ _ _ (g1.trans (Go.new hl _)) (tn t1 hl) (by omega) ⟨n, rfl, sm⟩⟩
  · refine ⟨_, rfl, _, rfl, (by show 5 ≤ sizeLine; decide), fun l hl => ?_⟩
    have gl := Go.new (S := St1 tp) hl (.lst [.int 999, .int (-999), .int 10, .int (-10), .int 998])
    refine ⟨_, rfl, tp, sa, ns, k + 1, 5, rfl, tn t1 hl, by omega, by omega, fun j H2 j0 j1 g2 t2 => ?_⟩
    have ltp : l ≠ tp := fun e => by rw [e, t1.lst] at hl; cases hl
    obtain ⟨n, e, sm⟩ := pick [999, -999, 10, -10, 998] j (by unfold Small; decide) j0 (by show j < 5; exact j1)
    exact ⟨l, _, _, _, rfl, rfl, SqL.of (g2.old _ _ ltp upd_same), e, q _ _ _ ((g1.trans gl).trans g2) t2 (by omega) ⟨n, rfl, sm⟩⟩
end
end Kn
/-! ## draws: sum, names, box, some_names, deed -/
namespace Kn
open PySem L2
/-! ### lists of names beside the tape -/
def Nm (tp : Addr) (H : Hp) (l : Addr) (names : List Str) : Prop := H l = some (.lst (names.map V.str)) ∧ l ≠ tp ∧ ∀ x ∈ names, PySem.PyData.strOk x = true
theorem Nm.go {tp l : Addr} {H H' : Hp} {names : List Str} (h : Nm tp H l names) (g : Go (St1 tp) H H') : Nm tp H' l names := ⟨g.old _ _ h.2.1 h.1, h.2⟩
theorem Tape.re {K : PySem.W.Frag} {tp sa : Addr} {ns : List Int} {k k' : Int} {H H' : Hp} (t : Tape K tp sa ns k H) (g : Go (St1 tp) H H') (e : H' tp = some (.lst [.ref sa, .int k'])) (h : 0 ≤ k') : Tape K tp sa ns k' H' :=
  ⟨e, fun H2 g2 => t.scr H2 (g.trans g2), t.small, h⟩
theorem Tape.ne {K : PySem.W.Frag} {tp sa : Addr} {ns : List Int} {k : Int} {H : Hp} (t : Tape K tp sa ns k H) {l : Addr} (h : H l = none) : l ≠ tp := fun e => by rw [e, t.lst] at h; cases h
theorem or3 {a b : Bool} {X X1 Y U : Prop} (e : X1 → X) (hu : (if b = true then X1 else Y) → U) (hx : X1) (hy : a = false → b = false → Y) : if a = true then X else U := by
  cases a with
  | true => exact ifT rfl (e hx)
  | false =>
    refine ifF rfl (hu ?_)
    cases b with
    | true => exact ifT rfl hx
    | false => exact ifF rfl (hy rfl rfl)
def cS : Nat → Int
  | 0 => 4
  | 1 => 16
  | _ => 64
theorem cS_next {d : Nat} (h : d + 1 ≤ 2) : 4 ≤ cS d ∧ 1 + 3 * cS d ≤ cS (d + 1) := by
  have e : d = 0 ∨ d = 1 := by omega
  rcases e with rfl | rfl <;> exact ⟨by decide, by decide⟩
theorem cS_ge (d : Nat) : 4 ≤ cS d ∧ cS d ≤ 64 := by
  unfold cS
  split <;> decide
theorem dp_strs {K : PySem.W.Frag} {H : Hp} : ∀ ns : List Str, DpAll K H (ns.map V.str) (ns.map PyData.str)
  | [] => .nil
  | n :: r => .cons (.str n) (dp_strs r)
theorem shaped_strs (ns : List Str) (ok : ∀ x ∈ ns, PySem.PyData.strOk x = true) : SeqAt.shaped (.list (ns.map PyData.str)) = true := by
  have h : ∀ ns : List Str, PyData.depthAll (ns.map PyData.str) = 0 := by
    intro ns
    induction ns with
    | nil => rfl
    | cons n r ih => rw [List.map_cons, PyData.depthAll, ih]; rfl
  have c : ∀ ns : List Str, (∀ x ∈ ns, PySem.PyData.strOk x = true) → PyData.canLayAll0 (ns.map PyData.str) = true := by
    intro ns
    induction ns with
    | nil => intro _; rfl
    | cons n r ih =>
      intro o
      rw [List.map_cons, PyData.canLayAll0, ih (fun x hx => o x (List.mem_cons_of_mem _ hx)), PyData.canLay0, o n (List.mem_cons_self ..)]
      rfl
  unfold SeqAt.shaped
  rw [Bool.and_eq_true, decide_eq_true_eq]
  refine ⟨?_, ?_⟩
  · rw [PyData.canLay0]
    exact c ns ok
  · rw [PyData.depth, h]
    decide
section
variable {P : Program} {w : World} {K : PySem.W.Frag} {mg : Str → Option Value} {base : Heap}
def opW : List Str := ["add", "sub", "times", "less", "same", "pick"]
theorem op_pick {wy : Int} (h0 : 4 ≤ wy) (h1 : wy < 10) : ∃ (o : Str) (m : Nat), (o, m) ∈ opsK ∧ atI (opW.map V.str) (wy - 4) = some (V.str o) ∧ (2 + (if decide (V.str o = V.str "pick") = true then 1 else 0) : Int) = m ∧ (m = 2 ∨ m = 3) := by
  have e : wy = 4 ∨ wy = 5 ∨ wy = 6 ∨ wy = 7 ∨ wy = 8 ∨ wy = 9 := by omega
  rcases e with rfl | rfl | rfl | rfl | rfl | rfl
  · exact ⟨"add", 2, by unfold opsK; simp, by decide +kernel, by decide +kernel, .inl rfl⟩
  · exact ⟨"sub", 2, by unfold opsK; simp, by decide +kernel, by decide +kernel, .inl rfl⟩
  · exact ⟨"times", 2, by unfold opsK; simp, by decide +kernel, by decide +kernel, .inl rfl⟩
  · exact ⟨"less", 2, by unfold opsK; simp, by decide +kernel, by decide +kernel, .inl rfl⟩
  · exact ⟨"same", 2, by unfold opsK; simp, by decide +kernel, by decide +kernel, .inl rfl⟩
  · exact ⟨"pick", 3, by unfold opsK; simp, by decide +kernel, by decide +kernel, .inr rfl⟩
def sp_sum (K : PySem.W.Frag) (n : Nat) : Sp := fun vs H Q _ => ∃ (tp sa : Addr) (ns : List Int) (k : Int) (ln : Addr) (names : List Str) (d : Nat), vs = [.ref tp, .ref ln, .int d] ∧ d + 1 ≤ n ∧ d ≤ 2 ∧ Tape K tp sa ns k H ∧ k + cS d ≤ 1000000 ∧ Nm tp H ln names ∧
  TQ K tp sa ns k (cS d) H Q fun v H' => ∃ dd, RkD names d dd ∧ Tr H' dd v
theorem sum_step (T : Tx K mg) {n : Nat} (G_sum : FnOk P w K mg base CX0 (4 + n) T.d_sum.a T.d_sum.fd P_sum (sp_sum K n)) : FnOk P w K mg base CX0 (4 + n + 1) T.d_sum.a T.d_sum.fd P_sum (sp_sum K (n + 1)) := by
  have G_next := ok_next (P := P) (w := w) (base := base) T
  have G_number := ok_number (P := P) (w := w) (base := base) T
  refine T.d_sum.F.ok sc_sum (fun vs H Q E h => ?_) (fun cdv A outer s H vs Q E hr h => ?_)
  · obtain ⟨tp, sa, ns, k, ln, names, d, rfl, _⟩ := h
    rfl
  obtain ⟨tp, sa, ns, k, ln, names, d, rfl, hd, hd2, t, hk, nm, q⟩ := h
  refine ⟨_, (pss_cons (ps_set (i := 3) sc_sum.nd rfl (Or.inl rfl) (pe_call G_next (hr.mono (by omega)) rfl T.d_next.m T.d_next.F.kp (b_next T.d_next) .nil pass0 (pa_cons (pv 0) (pa_cons pe_int pa_nil))))
  (pss_cons (ps_if (PW.pt (pw_or (pt_cmpR op_eq (pv 2) pe_int (nomark _)) (pw_or1 (pt_cmpR op_lt (pv 3) pe_int (nomark _)))))
  (pss_cons (ps_if (PW.pt (pw_and (pt_cmpR (oneD' K hr.units) (pv 1) (pe_lst pa_nil) (nomark _)) (pw_and1 (pt_cmpR op_gt (pe_op op_modN (pv 3) pe_int) pe_int (nomark _)))))
  (pss_one (ps_ret (pe_tup (pa_cons pe_str (pa_cons (pe_ix (xl K) (pv 1) (pe_call G_next (hr.mono (by omega)) rfl T.d_next.m T.d_next.F.kp (b_next T.d_next) .nil pass0 (pa_cons (pv 0) (pa_cons (pe_callB (clen K) (by rfl) T.z_len (by decide +kernel) (pa_cons (pv 1) pa_nil)) pa_nil))) (fun _ _ => rfl)) pa_nil)))))
  pss_nil)
  (pss_one (ps_ret (pe_tup (pa_cons pe_str (pa_cons (pe_call G_number (hr.mono (by omega)) rfl T.d_number.m T.d_number.F.kp (b_number T.d_number) .nil pass0 (pa_cons (pv 0) pa_nil)) pa_nil))))))
  pss_nil)
  (pss_cons (ps_set (i := 4) sc_sum.nd rfl (Or.inl rfl) (pe_ix (xl K) (pe_lst (pa_cons pe_str (pa_cons pe_str (pa_cons pe_str (pa_cons pe_str (pa_cons pe_str (pa_cons pe_str pa_nil))))))) (pe_op op_sub (pv 3) pe_int) (fun _ _ => rfl)))
  (pss_cons (ps_set (i := 5) sc_sum.nd rfl (Or.inl rfl) (pe_op op_add pe_int (pe_callTy call_int1 (by rfl) T.z_int (by decide +kernel) (pa_cons (pe_cmpR op_eq (pv 4) pe_str (nomark _)) pa_nil))))
  (pss_one (ps_ret (pe_op (ocat K) (pe_tup (pa_cons (pv 4) pa_nil)) (pe_callTy (ctup K) (by rfl) T.z_tuple (by decide +kernel) (pa_cons (pe_lc (own := [("_law_k", 6)]) (by rfl) sc_sum.nd (pi_range1 rfl T.z_range (pa_cons (pv 5) pa_nil)) (blkOk_by (N := N_sum) (sc := defScope s_sum) (by decide +kernel)) (fun _ _ _ _ _ => (pg_name (i := 6) sc_sum.nd rfl (by first | exact Or.inl rfl | exact Or.inr rfl))) (fun _ _ _ _ _ => pts_nil) (fun _ _ _ _ _ => (pe_call G_sum hr rfl T.d_sum.m T.d_sum.F.kp (b_sum T.d_sum) .nil pass0 (pa_cons (pv 0) (pa_cons (pv 1) (pa_cons (pe_op op_sub (pv 2) pe_int) pa_nil)))))) pa_nil))))))))), ?_⟩
  have cg := cS_ge d
  have k0 := t.pos
  refine ⟨_, rfl, tp, sa, ns, k, 10, rfl, t, by omega, by omega, fun wy H1 w0 w1 g1 t1 => ⟨_, rfl, rfl, _, rfl, ?_⟩⟩
  have nm1 := nm.go g1
  refine or3 (b := decide (wy < 4)) (fun q => ifT rfl q) (fun q => ⟨_, rfl, _, _, rfl, rfl, _, rfl, q⟩) ?_ (fun c1 c2 => ?_)
  · -- a leaf
    refine ⟨_, rfl, Nat.zero_le _, fun e he => ?_⟩
    have ge := Go.new (S := St1 tp) he (.lst [])
    have t2 : Tape K tp sa ns (k + 1) (upd H1 e (.lst [])) := t1.go (Go.new he _)
    have nm2 := nm1.go ge
    have he2 : upd H1 e (.lst []) e = some (.lst []) := upd_same
    generalize upd H1 e (.lst []) = H2 at ge t2 nm2 he2
    have g2 := g1.trans ge
    have fin : ∀ (m : Int) H3 k', Small m → Go (St1 tp) H2 H3 → Tape K tp sa ns k' H3 → k' ≤ k + 1 + 2 → ∀ p, H3 p = none → Q (.ref p) (upd H3 p (.tup [.str "num", .int m])) := fun m H3 k' sm g3 t3 hk' p hp =>
      q _ _ k' ((g2.trans g3).trans (Go.new hp _)) (t3.go (Go.new hp _)) (by omega) ⟨_, .num sm, tr2 upd_same tr_str tr_int⟩
    have two : (2 : Nat) ≤ sizeLine := by decide
    refine ⟨.list (names.map PyData.str), .list [], .lst (SqL.of nm2.1) (dp_strs names), .lst (SqL.of he2) .nil, shaped_strs names nm2.2.2, rfl, _, rfl, ?_⟩
    cases names with
    | nil =>
      refine ifF rfl (ifF rfl ?_)
      exact ⟨_, rfl, tp, sa, ns, k + 1, rfl, t2, by omega, fun v H3 k' g3 t3 hk' ⟨m, e, sm⟩ => by subst e; exact ⟨two, fun p hp => fin m H3 k' sm g3 t3 hk' p hp⟩⟩
    | cons x xr =>
      refine ifT rfl ?_
      refine ⟨_, rfl, _, _, rfl, rfl, (by show (4 : Int) ≠ 0; decide), _, _, rfl, rfl, _, rfl, ?_⟩
      refine ite2 (fun _ => ?_) (fun _ => ?_)
      · refine ⟨_, rfl, _, rfl, _, rfl, ln, _, rfl, .inl (SqL.of nm2.1), tp, sa, ns, k + 1, _, rfl, t2, by omega, (by rw [List.length_map, List.length_cons]; omega), fun i H3 i0 i1 g3 t3 => ?_⟩
        rw [List.length_map] at i1
        have hi : i.toNat < (x :: xr).length := by omega
        have nm3 := nm2.go g3
        refine ⟨ln, _, _, V.str (x :: xr)[i.toNat], rfl, rfl, SqL.of nm3.1, at_of (j := i.toNat) (by omega) (by rw [List.getElem?_map, List.getElem?_eq_getElem hi]; rfl), two, fun p hp => ?_⟩
        exact q _ _ _ ((g2.trans g3).trans (Go.new hp _)) (t3.go (Go.new hp _)) (by omega) ⟨_, .box (List.getElem_mem hi), tr2 upd_same tr_str tr_str⟩
      · exact ⟨_, rfl, tp, sa, ns, k + 1, rfl, t2, by omega, fun v H3 k' g3 t3 hk' ⟨m, e, sm⟩ => by subst e; exact ⟨two, fun p hp => fin m H3 k' sm g3 t3 hk' p hp⟩⟩
  · -- a node
    replace c1 := of_decide_eq_false c1
    replace c2 := of_decide_eq_false c2
    obtain ⟨d', rfl⟩ : ∃ d', d = d' + 1 := by
      cases d with
      | zero => exact absurd rfl c1
      | succ d' => exact ⟨d', rfl⟩
    obtain ⟨cn, cn2⟩ := cS_next hd2
    obtain ⟨o, m, hom, hat, hm, hm3⟩ := op_pick (wy := wy) (by omega) w1
    refine ⟨(by show 6 ≤ sizeLine; decide), fun l hl => ?_⟩
    have gl := Go.new (S := St1 tp) hl (.lst [.str "add", .str "sub", .str "times", .str "less", .str "same", .str "pick"])
    have t2 : Tape K tp sa ns (k + 1) (upd H1 l (.lst [.str "add", .str "sub", .str "times", .str "less", .str "same", .str "pick"])) := t1.go (Go.new hl _)
    have hl2 : upd H1 l (.lst [.str "add", .str "sub", .str "times", .str "less", .str "same", .str "pick"]) l = some (.lst (opW.map V.str)) := upd_same
    have nm2 := nm1.go gl
    have g2 := g1.trans gl
    generalize upd H1 l (.lst [.str "add", .str "sub", .str "times", .str "less", .str "same", .str "pick"]) = H2 at t2 hl2 nm2 g2 ⊢
    refine ⟨_, rfl, _, _, rfl, rfl, l, opW.map V.str, _, _, rfl, rfl, SqL.of hl2, hat, ?_⟩
    refine ⟨_, rfl, rfl, .inr ⟨_, rfl, _, _, rfl, rfl, ?_⟩⟩
    refine ⟨_, rfl, (by show 1 ≤ sizeLine; decide), fun p1 hp1 => ?_⟩
    have g3 := g2.trans (Go.new (S := St1 tp) hp1 (.tup [.str o]))
    have hp1' : upd H2 p1 (.tup [.str o]) p1 = some (.tup [.str o]) := upd_same
    have t3 : Tape K tp sa ns (k + 1) (upd H2 p1 (.tup [.str o])) := t2.go (Go.new hp1 _)
    have nm3 : Nm tp (upd H2 p1 (.tup [.str o])) ln names := nm2.go (Go.new hp1 _)
    generalize upd H2 p1 (.tup [.str o]) = H3 at g3 hp1' t3 nm3 ⊢
    refine ⟨_, rfl, m, congrArg (fun i => [V.int i]) hm, by omega, by omega, fun D0 hD0 => ?_⟩
    rw [Int.toNat_natCast]
    have Dt := t3.ne hD0
    refine lcR (St1 tp) (fun i acc H' => ∃ ds k', ds.length = i ∧ TrL H' ds acc ∧ (∀ d ∈ ds, RkD names d' d) ∧ H' tp = some (.lst [.ref sa, .int k']) ∧ 0 ≤ k' ∧ k' ≤ k + 1 + i * cS d') hD0 (by omega)
      ⟨[], k + 1, rfl, trl_nil, (fun d hd => by cases hd), by rw [upd_ne (Ne.symm Dt)]; exact t3.lst, t3.pos, by omega⟩ ?_ ?_
    · rintro i acc H4 Kt Kf hi hD4 g4 ⟨ds, k', hdl, tds, hds, etp, k0', hk'⟩ kt kf
      have t4 := t3.re g4 etp k0'
      have im : (i : Int) * cS d' + cS d' ≤ 3 * cS d' := by
        have e : (i : Int) * cS d' + cS d' = ((i : Int) + 1) * cS d' := by rw [Int.add_mul, Int.one_mul]
        rw [e]
        exact Int.mul_le_mul_of_nonneg_right (by omega) (by omega)
      refine ⟨rfl, _, rfl, _, rfl, _, rfl, _, _, rfl, rfl, tp, sa, ns, k', ln, names, d', congrArg (fun i => [V.ref tp, V.ref ln, V.int i]) (show ((d' + 1 : Nat) : Int) - 1 = (d' : Int) by omega), by omega, by omega, t4, by omega, nm3.go g4, fun v H5 k5 g5 t5 hk5 ⟨dd, rk, tr⟩ => ?_⟩
      have hD5 := g5.old _ _ Dt hD4
      refine kt _ _ hD5 (g4.trans g5) ⟨ds ++ [dd], k5, by rw [List.length_append, hdl]; rfl, (tds.go (g5.tk.trans (Tk.put hD5 _))).snoc (tr.go (Tk.put hD5 _)), fun d hd => ?_, by rw [upd_ne (Ne.symm Dt)]; exact t5.lst, t5.pos, ?_⟩
      · rcases List.mem_append.mp hd with z | z
        · exact hds d z
        · rw [List.mem_singleton] at z
          rw [z]
          exact rk
      · have e : ((i + 1 : Nat) : Int) * cS d' = (i : Int) * cS d' + cS d' := by rw [Int.natCast_add, Int.add_mul]; omega
        rw [e]
        omega
    · rintro acc H4 hD4 hle g4 ⟨ds, k', hdl, tds, hds, etp, k0', hk'⟩
      have hal := tds.length
      refine ⟨D0, _, rfl, .inl ⟨SqL.of hD4, fun u hu' => ?_⟩⟩
      have g5 := g4.trans (Go.new (S := St1 tp) hu' (.tup acc))
      have hu5 : upd H4 u (.tup acc) u = some (.tup acc) := upd_same
      have et5 : upd H4 u (.tup acc) tp = some (.lst [.ref sa, .int k']) := by rw [upd_ne (fun e => by rw [← e, etp] at hu'; cases hu')]; exact etp
      have td5 : TrL (upd H4 u (.tup acc)) ds acc := tds.go (Tk.new hu' _)
      generalize upd H4 u (.tup acc) = H5 at g5 hu5 et5 td5
      have mm : (m : Int) * cS d' ≤ 3 * cS d' := Int.mul_le_mul_of_nonneg_right (by omega) (by omega)
      refine ⟨p1, u, _, _, rfl, rfl, SqT.of (g5.tk _ _ hp1'), SqT.of hu5, Nat.le_of_lt (lt_line (by show 1 + acc.length ≤ 100000; omega)), (fun z => by cases z), (fun _ z => by
        have e0 : acc.length = 0 := by rw [z]; rfl
        omega), fun _ _ p hp => ?_⟩
      have g6 := g5.trans (Go.new (S := St1 tp) hp (.tup ([V.str o] ++ acc)))
      refine q _ _ k' (g3.trans g6) (t3.re g6 (by rw [upd_ne (fun e => by rw [← e, et5] at hp; cases hp)]; exact et5) k0') (by omega) ⟨.tup (.str o :: ds), .op (by rw [hdl]; exact hom) hds, ?_⟩
      exact tr_tup upd_same (trl_cons tr_str (td5.go (Tk.new hp _)))
theorem sum_none {k : Nat} (T : Tx K mg) : FnOk P w K mg base CX0 k T.d_sum.a T.d_sum.fd P_sum (sp_sum K 0) := by
  have no : ∀ vs H Q E, ¬ sp_sum K 0 vs H Q E := fun vs H Q E h => by
    obtain ⟨tp, sa, ns, k, ln, names, d, _, hd, _⟩ := h
    omega
  exact ⟨fun vs H Q E h => absurd h (no vs H Q E), fun A outer s H args us vs Q E _ _ _ _ h => absurd h (no vs H Q E)⟩
theorem ok_sum (T : Tx K mg) : ∀ n : Nat, FnOk P w K mg base CX0 (4 + n) T.d_sum.a T.d_sum.fd P_sum (sp_sum K n)
  | 0 => sum_none T
  | n + 1 => sum_step T (ok_sum T n)
end
end Kn
/-! ## draws: names, box, some_names, deed -/
namespace Kn
open PySem L2
def poolN : List Str := ["a", "ab", "abc", "box", "add", "lay", "b", "num", "abcdefgh"]
def stepN : List Nat := [1, 2, 4, 5]
def nmAt (s t k : Nat) : Str := poolN.getD ((s + t * k) % 9) ""
def nmsN (s t m : Nat) : List Str := (List.range m).map (nmAt s t)
theorem nmsN_nodup : ∀ s < 9, ∀ t ∈ stepN, ∀ m < 5, (nmsN s t m).Nodup := by decide +kernel
theorem nmsN_ok : ∀ s < 9, ∀ t ∈ stepN, ∀ m < 5, ∀ x ∈ nmsN s t m, PyData.strOk x = true := by decide +kernel
theorem nmAt_at (s t k : Nat) : atI (poolN.map V.str) (((s : Int) + (t : Int) * (k : Int)).fmod 9) = some (V.str (nmAt s t k)) := by
  have e : ((s : Int) + (t : Int) * (k : Int)).fmod 9 = (((s + t * k) % 9 : Nat) : Int) := by
    rw [Int.fmod_eq_emod_of_nonneg _ (by decide)]
    push_cast
    rfl
  have h9 : (s + t * k) % 9 < poolN.length := by
    show (s + t * k) % 9 < 9
    exact Nat.mod_lt _ (by decide)
  rw [e]
  refine at_of (j := (s + t * k) % 9) rfl ?_
  unfold nmAt
  rw [List.getElem?_map, List.getD_eq_getElem?_getD, List.getElem?_eq_getElem h9]
  rfl
section
variable {P : Program} {w : World} {K : PySem.W.Frag} {mg : Str → Option Value} {base : Heap}
def sp_names (K : PySem.W.Frag) : Sp := fun vs H Q _ => ∃ (tp sa : Addr) (ns : List Int) (k : Int) (m : Nat), vs = [.ref tp, .int m] ∧ 1 ≤ m ∧ m ≤ 4 ∧ Tape K tp sa ns k H ∧ k + 2 ≤ 1000000 ∧
  TQ K tp sa ns k 2 H Q fun v H' => ∃ ln names, v = .ref ln ∧ Nm tp H' ln names ∧ names.Nodup ∧ names.length = m
theorem ok_names (T : Tx K mg) : FnOk P w K mg base CX0 4 T.d_names.a T.d_names.fd P_names (sp_names K) := by
  have G_next := ok_next (P := P) (w := w) (base := base) T
  refine T.d_names.F.ok sc_names (fun vs H Q E h => ?_) (fun cdv A outer s H vs Q E hr h => ?_)
  · obtain ⟨tp, sa, ns, k, m, rfl, _⟩ := h
    rfl
  obtain ⟨tp, sa, ns, k, m, rfl, hm1, hm4, t, hk, q⟩ := h
  refine ⟨_, (pss_cons (ps_set (i := 2) sc_names.nd rfl (Or.inr rfl) (pe_lst (pa_cons pe_str (pa_cons pe_str (pa_cons pe_str (pa_cons pe_str (pa_cons pe_str (pa_cons pe_str (pa_cons pe_str (pa_cons pe_str (pa_cons pe_str pa_nil)))))))))))
  (pss_cons (ps_set (i := 3) sc_names.nd rfl (Or.inr rfl) (pe_call G_next (hr.mono (by omega)) rfl T.d_next.m T.d_next.F.kp (b_next T.d_next) .nil pass0 (pa_cons (pv 0) (pa_cons pe_int pa_nil))))
  (pss_cons (ps_set (i := 4) sc_names.nd rfl (Or.inr rfl) (pe_ix (xl K) (pe_lst (pa_cons pe_int (pa_cons pe_int (pa_cons pe_int (pa_cons pe_int pa_nil))))) (pe_call G_next (hr.mono (by omega)) rfl T.d_next.m T.d_next.F.kp (b_next T.d_next) .nil pass0 (pa_cons (pv 0) (pa_cons pe_int pa_nil))) (fun _ _ => rfl)))
  (pss_one (ps_ret (pe_lc (own := [("_law_k", 5)]) (by rfl) sc_names.nd (pi_range1 rfl T.z_range (pa_cons (pv 1) pa_nil)) (blkOk_by (N := N_names) (sc := defScope s_names) (by decide +kernel)) (fun _ _ _ _ _ => (pg_name (i := 5) sc_names.nd rfl (by first | exact Or.inl rfl | exact Or.inr rfl))) (fun _ _ _ _ _ => pts_nil) (fun _ _ _ _ _ => (pe_ix (xl K) (pv 2) (pe_op op_modN (pe_op op_add (pv 3) (pe_op op_mul (pv 4) (pv 5))) pe_int) (fun _ _ => rfl))))))))), ?_⟩
  refine ⟨(by show 9 ≤ sizeLine; decide), fun lp hlp => ?_⟩
  have g1 := Go.new (S := St1 tp) hlp (.lst (poolN.map V.str))
  have t1 : Tape K tp sa ns k (upd H lp (.lst (poolN.map V.str))) := t.go (Go.new hlp _)
  have hp1 : upd H lp (.lst (poolN.map V.str)) lp = some (.lst (poolN.map V.str)) := upd_same
  have lpt := t.ne hlp
  refine ⟨_, rfl, tp, sa, ns, k, 9, rfl, t1, by omega, by omega, fun s H2 s0 s1 g2 t2 => ?_⟩
  refine ⟨(by show 4 ≤ sizeLine; decide), fun ls hls => ?_⟩
  have g3 := (g1.trans g2).trans (Go.new (S := St1 tp) hls (.lst [.int 1, .int 2, .int 4, .int 5]))
  have t3 : Tape K tp sa ns (k + 1) (upd H2 ls (.lst [.int 1, .int 2, .int 4, .int 5])) := t2.go (Go.new hls _)
  have hs1 : upd H2 ls (.lst [.int 1, .int 2, .int 4, .int 5]) ls = some (.lst [.int 1, .int 2, .int 4, .int 5]) := upd_same
  have lst := t2.ne hls
  refine ⟨_, rfl, tp, sa, ns, k + 1, 4, rfl, t3, by omega, by omega, fun j H4 j0 j1 g4 t4 => ?_⟩
  have g5 := g3.trans g4
  have pick : ∃ st : Nat, st ∈ stepN ∧ atI [V.int 1, .int 2, .int 4, .int 5] j = some (V.int st) := by
    have e : j = 0 ∨ j = 1 ∨ j = 2 ∨ j = 3 := by omega
    rcases e with rfl | rfl | rfl | rfl
    · exact ⟨1, by decide, rfl⟩
    · exact ⟨2, by decide, rfl⟩
    · exact ⟨4, by decide, rfl⟩
    · exact ⟨5, by decide, rfl⟩
  obtain ⟨st, hst, est⟩ := pick
  obtain ⟨sn, rfl⟩ : ∃ sn : Nat, s = sn := ⟨s.toNat, by omega⟩
  refine ⟨ls, _, j, _, rfl, rfl, SqL.of (g4.old _ _ lst hs1), est, ?_⟩
  refine ⟨_, rfl, m, rfl, by omega, by omega, fun D0 hD0 => ?_⟩
  have Dt := t4.ne hD0
  have hp4 : H4 lp = some (.lst (poolN.map V.str)) := g4.old _ _ lpt (by rw [upd_ne (fun e => by rw [← e, g2.old _ _ lpt hp1] at hls; cases hls)]; exact g2.old _ _ lpt hp1)
  refine lcR S0 (fun i acc H' => acc = (nmsN sn st i).map V.str) hD0 (by omega) rfl ?_ ?_
  · rintro i acc H5 Kt Kf hi hD5 g5 rfl kt kf
    refine ⟨rfl, _, rfl, _, rfl, _, rfl, _, rfl, _, _, rfl, rfl, .inl ⟨(by show -(2 ^ 64) < (st : Int); omega), (by
      show (st : Int) < 2 ^ 64
      have : st = 1 ∨ st = 2 ∨ st = 4 ∨ st = 5 := by simpa [stepN] using hst
      omega)⟩, _, _, rfl, rfl, _, _, rfl, rfl, (by show (9 : Int) ≠ 0; decide), lp, _, _, _, rfl, rfl, SqL.of (g5.old _ _ (fun h => h) hp4), nmAt_at sn st i, kt _ _ hD5 g5 ?_⟩
    unfold nmsN
    rw [List.range_succ, List.map_append, List.map_append]
    rfl
  · rintro acc H5 hD5 hle g6 rfl
    have g7 : Go (St1 tp) H4 H5 := g6.wk
    exact q _ _ (k + 1 + 1) (g5.trans g7) (t4.go g6) (by omega) ⟨D0, nmsN sn st m, rfl, ⟨hD5, Dt, nmsN_ok sn (by omega) st hst m (by omega)⟩, nmsN_nodup sn (by omega) st hst m (by omega), by unfold nmsN; rw [List.length_map, List.length_range]⟩
def sp_box (K : PySem.W.Frag) : Sp := fun vs H Q _ => ∃ (tp sa : Addr) (ns : List Int) (k : Int) (x : Str), vs = [.ref tp, .str x] ∧ Tape K tp sa ns k H ∧ k + 4 ≤ 1000000 ∧
  TQ K tp sa ns k 4 H Q fun v H' => ∃ b : Bx, b.nm = x ∧ b.Ok ∧ Tr H' b.d v
theorem ok_box (T : Tx K mg) : FnOk P w K mg base CX0 4 T.d_box.a T.d_box.fd P_box (sp_box K) := by
  have G_next := ok_next (P := P) (w := w) (base := base) T
  refine T.d_box.F.ok sc_box (fun vs H Q E h => ?_) (fun cdv A outer s H vs Q E hr h => ?_)
  · obtain ⟨tp, sa, ns, k, x, rfl, _⟩ := h
    rfl
  obtain ⟨tp, sa, ns, k, x, rfl, t, hk, q⟩ := h
  refine ⟨_, (pss_cons (ps_if (pt_cmpR op_eq (pe_call G_next (hr.mono (by omega)) rfl T.d_next.m T.d_next.F.kp (b_next T.d_next) .nil pass0 (pa_cons (pv 0) (pa_cons pe_int pa_nil))) pe_int (nomark _))
  (pss_one (ps_ret (pe_tup (pa_cons (pv 1) (pa_cons (pe_un un_neg pe_int) (pa_cons pe_int (pa_cons (pe_ix (xl K) (pe_lst (pa_cons pe_int (pa_cons (pe_un un_neg pe_int) (pa_cons pe_int (pa_cons pe_int pa_nil))))) (pe_call G_next (hr.mono (by omega)) rfl T.d_next.m T.d_next.F.kp (b_next T.d_next) .nil pass0 (pa_cons (pv 0) (pa_cons pe_int pa_nil))) (fun _ _ => rfl)) pa_nil)))))))
  pss_nil)
  (pss_cons (ps_set (i := 2) sc_box.nd rfl (Or.inl rfl) (pe_un un_neg (pe_call G_next (hr.mono (by omega)) rfl T.d_next.m T.d_next.F.kp (b_next T.d_next) .nil pass0 (pa_cons (pv 0) (pa_cons pe_int pa_nil)))))
  (pss_cons (ps_set (i := 3) sc_box.nd rfl (Or.inl rfl) (pe_op op_add (pv 2) (pe_call G_next (hr.mono (by omega)) rfl T.d_next.m T.d_next.F.kp (b_next T.d_next) .nil pass0 (pa_cons (pv 0) (pa_cons pe_int pa_nil)))))
  (pss_one (ps_ret (pe_tup (pa_cons (pv 1) (pa_cons (pv 2) (pa_cons (pv 3) (pa_cons (pe_op op_add (pv 2) (pe_call G_next (hr.mono (by omega)) rfl T.d_next.m T.d_next.F.kp (b_next T.d_next) .nil pass0 (pa_cons (pv 0) (pa_cons (pe_op op_add (pe_op op_sub (pv 3) (pv 2)) pe_int) pa_nil)))) pa_nil)))))))))), ?_⟩
  have fin : ∀ {H1 : Hp} {k' : Int} (g : Go (St1 tp) H H1) (t : Tape K tp sa ns k' H1) (h : k' ≤ k + 4) (lo hi ft : Int), -999 ≤ lo → lo ≤ 999 → -999 ≤ hi → hi ≤ 999 → -999 ≤ ft → ft ≤ 999 →
      4 ≤ sizeLine ∧ ∀ p, H1 p = none → Q (.ref p) (upd H1 p (.tup [.str x, .int lo, .int hi, .int ft])) := fun g t h lo hi ft a b c d e f =>
    ⟨by decide, fun p hp => q _ _ _ (g.trans (Go.new hp _)) (t.go (Go.new hp _)) h ⟨⟨x, lo, hi, ft⟩, rfl, ⟨⟨a, b⟩, ⟨c, d⟩, e, f⟩, tr4 upd_same tr_str tr_int tr_int tr_int⟩⟩
  refine ⟨_, rfl, tp, sa, ns, k, 9, rfl, t, by omega, by omega, fun c H1 c0 c1 g1 t1 => ?_⟩
  refine ⟨rfl, _, rfl, ?_⟩
  refine ite2 (fun _ => ?_) (fun _ => ?_)
  · refine ⟨_, rfl, _, rfl, _, rfl, (by show 4 ≤ sizeLine; decide), fun l hl => ?_⟩
    have g2 := g1.trans (Go.new (S := St1 tp) hl (.lst [.int 999, .int (-999), .int 0, .int 1]))
    have hl2 : upd H1 l (.lst [.int 999, .int (-999), .int 0, .int 1]) l = some (.lst [.int 999, .int (-999), .int 0, .int 1]) := upd_same
    refine ⟨_, rfl, tp, sa, ns, k + 1, 4, rfl, t1.go (Go.new hl _), by omega, by omega, fun j H3 j0 j1 g3 t3 => ?_⟩
    have pick : ∃ n : Int, -999 ≤ n ∧ n ≤ 999 ∧ atI [V.int 999, .int (-999), .int 0, .int 1] j = some (V.int n) := by
      have e : j = 0 ∨ j = 1 ∨ j = 2 ∨ j = 3 := by omega
      rcases e with rfl | rfl | rfl | rfl
      · exact ⟨999, by decide, by decide, rfl⟩
      · exact ⟨-999, by decide, by decide, rfl⟩
      · exact ⟨0, by decide, by decide, rfl⟩
      · exact ⟨1, by decide, by decide, rfl⟩
    obtain ⟨n, n0, n1, en⟩ := pick
    exact ⟨l, _, _, _, rfl, rfl, SqL.of (g3.old _ _ (t1.ne hl) hl2), en, fin (g2.trans g3) t3 (by omega) (-999) 999 n (by decide) (by decide) (by decide) (by decide) n0 n1⟩
  · refine ⟨_, rfl, tp, sa, ns, k + 1, 3, rfl, t1, by omega, by omega, fun a H2 a0 a1 g2 t2 => ?_⟩
    refine ⟨_, rfl, _, rfl, _, rfl, tp, sa, ns, k + 1 + 1, 4, rfl, t2, by omega, by omega, fun b H3 b0 b1 g3 t3 => ?_⟩
    refine ⟨_, _, rfl, rfl, ?_⟩
    refine ⟨_, rfl, _, rfl, _, rfl, _, rfl, _, rfl, _, rfl, _, rfl, _, _, rfl, rfl, _, _, rfl, rfl, tp, sa, ns, k + 1 + 1 + 1, -a + b - -a + 1, rfl, t3, by omega, by omega, fun c H4 c0 c1 g4 t4 => ?_⟩
    refine ⟨_, _, rfl, rfl, ?_⟩
    exact fin (((g1.trans g2).trans g3).trans g4) t4 (by omega) (-a) (-a + b) (-a + c) (by omega) (by omega) (by omega) (by omega) (by omega) (by omega)
theorem csorted_strs {ys : List Str} {xs names : List Str} (h : ys.Perm xs) (hx : ∀ x ∈ xs, x ∈ names) : ∀ x ∈ ys, x ∈ names := fun x hy => hx x (h.mem_iff.mp hy)
def sp_some_names (K : PySem.W.Frag) : Sp := fun vs H Q _ => ∃ (tp sa : Addr) (ns : List Int) (k : Int) (ln : Addr) (names : List Str), vs = [.ref tp, .ref ln] ∧ Tape K tp sa ns k H ∧ names.length ≤ 4 ∧ k + 4 ≤ 1000000 ∧ Nm tp H ln names ∧
  TQ K tp sa ns k 4 H Q fun v H' => ∃ xs : List Str, Tr H' (.tup (xs.map D.str)) v ∧ xs.length ≤ 4 ∧ ∀ x ∈ xs, x ∈ names
theorem ok_some_names (T : Tx K mg) : FnOk P w K mg base CX0 4 T.d_some_names.a T.d_some_names.fd P_some_names (sp_some_names K) := by
  have G_next := ok_next (P := P) (w := w) (base := base) T
  refine T.d_some_names.F.ok sc_some_names (fun vs H Q E h => ?_) (fun cdv A outer s H vs Q E hr h => ?_)
  · obtain ⟨tp, sa, ns, k, ln, names, rfl, _⟩ := h
    rfl
  obtain ⟨tp, sa, ns, k, ln, names, rfl, t, hn, hk, nm, q⟩ := h
  refine ⟨_, (pss_one (ps_ret (pe_callTy (ctup K) (by rfl) T.z_tuple (by decide +kernel) (pa_cons (pe_callB (csortS K) (by rfl) T.z_sorted (by decide +kernel) (pa_cons (pe_lc (own := [("_law_name", 2)]) (by rfl) sc_some_names.nd (pil K (pv 1)) (blkOk_by (N := N_some_names) (sc := defScope s_some_names) (by decide +kernel)) (fun _ _ _ _ _ => (pg_name (i := 2) sc_some_names.nd rfl (by first | exact Or.inl rfl | exact Or.inr rfl))) (fun _ _ _ _ _ => (pts_one (pt_cmpR op_eq (pe_call G_next (hr.mono (by omega)) rfl T.d_next.m T.d_next.F.kp (b_next T.d_next) .nil pass0 (pa_cons (pv 0) (pa_cons pe_int pa_nil))) pe_int (nomark _)))) (fun _ _ _ _ _ => (pv 2))) pa_nil)) pa_nil)))), ?_⟩
  have k0 := t.pos
  refine ⟨_, rfl, _, rfl, ⟨_, SqL.of nm.1⟩, fun D0 hD0 => ?_⟩
  have Dt := t.ne hD0
  refine lcL (St1 tp) (fun i acc H' => ∃ (xs : List Str) (k' : Int), acc = xs.map V.str ∧ xs.length ≤ i ∧ (∀ x ∈ xs, x ∈ names) ∧ H' tp = some (.lst [.ref sa, .int k']) ∧ 0 ≤ k' ∧ k' ≤ k + i) nm.1 nm.2.1 hD0 (by rw [List.length_map]; omega)
    ⟨[], k, rfl, Nat.le_refl _, (fun x h => by cases h), by rw [upd_ne (Ne.symm Dt)]; exact t.lst, t.pos, by omega⟩ ?_ ?_
  · rintro i y acc H4 Kt Kf hy hD4 g4 ⟨xs, k', rfl, hl, hx, etp, k0', hk'⟩ kt kf
    obtain ⟨x, ex, rfl⟩ := map_get hy
    have hi : i < names.length := (List.getElem?_eq_some_iff.mp ex).1
    have t4 := t.re g4 etp k0'
    refine ⟨rfl, _, rfl, tp, sa, ns, k', 2, rfl, t4, by omega, by omega, fun c H5 c0 c1 g5 t5 => ?_⟩
    have hD5 := g5.old _ _ Dt hD4
    refine ⟨rfl, _, rfl, ?_⟩
    refine ite2 (fun _ => ?_) (fun _ => ?_)
    · refine ⟨_, rfl, kt _ _ hD5 (g4.trans g5) ⟨xs ++ [x], k' + 1, by rw [List.map_append]; rfl, by rw [List.length_append]; exact Nat.succ_le_succ hl, fun z hz => ?_, by rw [upd_ne (Ne.symm Dt)]; exact t5.lst, t5.pos, by omega⟩⟩
      rcases List.mem_append.mp hz with h | h
      · exact hx z h
      · rw [List.mem_singleton] at h
        rw [h]
        exact List.mem_of_getElem? ex
    · exact kf _ hD5 (g4.trans g5) ⟨xs, k' + 1, rfl, by omega, hx, t5.lst, t5.pos, by omega⟩
  · rintro acc H4 hD4 hle g4 ⟨xs, k', rfl, hl, hx, etp, k0', hk'⟩
    rw [List.length_map] at hl hk'
    refine ⟨D0, xs, rfl, SqL.of hD4, by omega, fun ys p hp hs hpn => ?_⟩
    have g5 := g4.trans (Go.new (S := St1 tp) hpn (.lst (ys.map V.str)))
    have hp5 : upd H4 p (.lst (ys.map V.str)) p = some (.lst (ys.map V.str)) := upd_same
    have et5 : upd H4 p (.lst (ys.map V.str)) tp = some (.lst [.ref sa, .int k']) := by rw [upd_ne (fun e => by rw [← e, etp] at hpn; cases hpn)]; exact etp
    generalize upd H4 p (.lst (ys.map V.str)) = H5 at g5 hp5 et5 ⊢
    refine ⟨p, _, rfl, .inl ⟨SqL.of hp5, fun u hu' => ?_⟩⟩
    have g6 := g5.trans (Go.new (S := St1 tp) hu' (.tup (ys.map V.str)))
    exact q _ _ k' g6 (t.re g6 (by rw [upd_ne (fun e => by rw [← e, et5] at hu'; cases hu')]; exact et5) k0') (by omega) ⟨ys, tr_tup upd_same trl_strs, by rw [hp.length_eq]; omega, fun x hy => hx x (hp.mem_iff.mp hy)⟩
end
end Kn
/-! ## draws: deed -/
namespace Kn
open PySem L2
theorem TrL.take {H : Hp} : ∀ {ds : List D} {vs : List V} (i : Nat), TrL H ds vs → TrL H (ds.take i) (vs.take i)
  | ds, vs, 0, _ => by rw [List.take_zero, List.take_zero]; exact trl_nil
  | [], vs, i + 1, h => by cases h.nil_of; exact trl_nil
  | d :: ds, vs, i + 1, h => by
    obtain ⟨v, r, rfl, a, t⟩ := h.cons_of
    exact trl_cons a (TrL.take i t)
theorem TrL.drop {H : Hp} : ∀ {ds : List D} {vs : List V} (i : Nat), TrL H ds vs → TrL H (ds.drop i) (vs.drop i)
  | ds, vs, 0, h => h
  | [], vs, i + 1, h => by cases h.nil_of; exact trl_nil
  | d :: ds, vs, i + 1, h => by
    obtain ⟨v, r, rfl, a, t⟩ := h.cons_of
    exact TrL.drop i t
theorem TrL.ins {H : Hp} {ds : List D} {vs : List V} {d : D} {v : V} (i : Nat) (h : TrL H ds vs) (hv : Tr H d v) : TrL H (ds.take i ++ [d] ++ ds.drop i) (vs.take i ++ [v] ++ vs.drop i) :=
  ((h.take i).snoc hv).app (h.drop i)
theorem map_ins {α β : Type} (f : α → β) (l : List α) (i : Nat) (x : α) : (l.take i ++ [x] ++ l.drop i).map f = (l.map f).take i ++ [f x] ++ (l.map f).drop i := by
  rw [List.map_append, List.map_append, List.map_take, List.map_drop]
  rfl
theorem mem_ins {α : Type} {l : List α} {i : Nat} {x y : α} (h : y ∈ l.take i ++ [x] ++ l.drop i) : y = x ∨ y ∈ l := by
  rcases List.mem_append.mp h with h | h
  · rcases List.mem_append.mp h with h | h
    · exact .inr (List.mem_of_mem_take h)
    · exact .inl (List.mem_singleton.mp h)
  · exact .inr (List.mem_of_mem_drop h)
theorem len_ins {α : Type} (l : List α) (i : Nat) (x : α) : (l.take i ++ [x] ++ l.drop i).length = l.length + 1 := by
  have e := congrArg List.length (List.take_append_drop i l)
  rw [List.length_append] at e
  rw [List.length_append, List.length_append, List.length_singleton]
  omega
section
variable {P : Program} {w : World} {K : PySem.W.Frag} {mg : Str → Option Value} {base : Heap}
def DdOk (names : List Str) (d : D × List (Str × D)) : Prop := RkD names 2 d.1 ∧ d.2.length ≤ 100 ∧ ∀ l ∈ d.2, RkD names 2 l.2
def sp_deed (K : PySem.W.Frag) : Sp := fun vs H Q _ => ∃ (tp sa : Addr) (ns : List Int) (k : Int) (ln : Addr) (names : List Str), vs = [.ref tp, .ref ln] ∧ Tape K tp sa ns k H ∧ names.length ≤ 4 ∧ k + 400 ≤ 1000000 ∧ Nm tp H ln names ∧
  TQ K tp sa ns k 400 H Q fun v H' => ∃ d, Tr H' (deedD d) v ∧ DdOk names d
theorem ok_deed (T : Tx K mg) : FnOk P w K mg base CX0 8 T.d_deed.a T.d_deed.fd P_deed (sp_deed K) := by
  have G_next := ok_next (P := P) (w := w) (base := base) T
  have G_sum := ok_sum (P := P) (w := w) (base := base) T 3
  refine T.d_deed.F.ok sc_deed (fun vs H Q E h => ?_) (fun cdv A outer s H vs Q E hr h => ?_)
  · obtain ⟨tp, sa, ns, k, ln, names, rfl, _⟩ := h
    rfl
  obtain ⟨tp, sa, ns, k, ln, names, rfl, t, hn, hk, nm, q⟩ := h
  refine ⟨_, (pss_cons (ps_set (i := 2) sc_deed.nd rfl (Or.inl rfl) (pe_lst pa_nil))
  (pss_cons (ps_for PassesOwn.never rfl (pil K (pv 1)) (pg_name (i := 3) sc_deed.nd rfl (by first | exact Or.inl rfl | exact Or.inr rfl))
  (pss_one (ps_if (pt_cmpR op_eq (pe_call G_next (hr.mono (by omega)) rfl T.d_next.m T.d_next.F.kp (b_next T.d_next) .nil pass0 (pa_cons (pv 0) (pa_cons pe_int pa_nil))) pe_int (nomark _))
  (pss_one (ps_expr (pbm K PySem.F.plainAttrs_list PySem.F.slot_list_insert PySem.F.type_list_insert mt_insert (pv 2) (pa_cons (pe_call G_next (hr.mono (by omega)) rfl T.d_next.m T.d_next.F.kp (b_next T.d_next) .nil pass0 (pa_cons (pv 0) (pa_cons (pe_op op_add (pe_callB (clen K) (by rfl) T.z_len (by decide +kernel) (pa_cons (pv 2) pa_nil)) pe_int) pa_nil))) (pa_cons (pe_tup (pa_cons (pv 3) (pa_cons (pe_call G_sum (hr.mono (by omega)) rfl T.d_sum.m T.d_sum.F.kp (b_sum T.d_sum) .nil pass0 (pa_cons (pv 0) (pa_cons (pv 1) (pa_cons pe_int pa_nil)))) pa_nil))) pa_nil)))))
  pss_nil)))
  (pss_one (ps_ret (pe_tup (pa_cons (pe_call G_sum (hr.mono (by omega)) rfl T.d_sum.m T.d_sum.F.kp (b_sum T.d_sum) .nil pass0 (pa_cons (pv 0) (pa_cons (pv 1) (pa_cons pe_int pa_nil)))) (pa_cons (pe_callTy (ctup K) (by rfl) T.z_tuple (by decide +kernel) (pa_cons (pv 2) pa_nil)) pa_nil))))))), ?_⟩
  have k0 := t.pos
  refine ⟨Nat.zero_le _, fun lp hlp => ?_⟩
  have Lt := t.ne hlp
  have cS2 : cS 2 = 64 := rfl
  refine ⟨_, rfl, ln, rfl, ⟨_, SqL.of (nm.go (Go.new hlp (.lst []))).1⟩, ?_⟩
  refine for_list (xs := names.map V.str) (fun i σ H' => (∃ o3, σ = [some (.ref tp), some (.ref ln), some (.ref lp), o3]) ∧ Go (St1 tp) H H' ∧ ∃ (ls : List (Str × D)) (ws : List V) (k' : Int), H' lp = some (.lst ws) ∧ TrL H' (ls.map layD) ws ∧ ls.length ≤ i ∧ (∀ l ∈ ls, RkD names 2 l.2) ∧ Tape K tp sa ns k' H' ∧ k' ≤ k + i * 66)
    ⟨⟨_, rfl⟩, Go.new hlp _, [], [], k, upd_same, trl_nil, Nat.le_refl _, (fun l h => by cases h), t.go (Go.new hlp _), by omega⟩ (fun i σ H' _ ⟨_, g, _⟩ => SqL.of (nm.go g).1) ?_ ?_
  · rintro i z σ H3 hz ⟨⟨o3, rfl⟩, g, ls, ws, k', hws, tw, hli, hls, t3, hk'⟩
    obtain ⟨x, ex, rfl⟩ := map_get hz
    have hi : i < names.length := (List.getElem?_eq_some_iff.mp ex).1
    refine ⟨_, rfl, tp, sa, ns, k', 2, rfl, t3, by omega, by omega, fun c H4 c0 c1 g4 t4 => ?_⟩
    have hws4 := g4.old _ _ Lt hws
    refine ⟨rfl, _, rfl, ?_⟩
    refine ite2 (fun _ => ?_) (fun _ => ?_)
    · have wl := tw.length
      rw [List.length_map] at wl
      refine ⟨_, rfl, .inl ⟨rfl, _, SqL.of hws4⟩, _, rfl, _, rfl, lp, _, rfl, .inl (SqL.of hws4), _, _, rfl, rfl, ?_⟩
      refine ⟨tp, sa, ns, k' + 1, _, rfl, t4, by omega, (by show 1 ≤ (ws.length : Int) + 1; omega), fun j H5 j0 j1 g5 t5 => ?_⟩
      refine ⟨_, rfl, _, rfl, _, rfl, tp, sa, ns, k' + 1 + 1, ln, names, 2, rfl, by omega, by omega, t5, by omega, nm.go ((g.trans g4).trans g5), fun v H6 k6 g6 t6 hk6 ⟨dd, rk, tr⟩ => ?_⟩
      refine ⟨(by show 2 ≤ sizeLine; decide), fun p hp => ?_⟩
      have g7 := ((g4.trans g5).trans g6).trans (Go.new (S := St1 tp) hp (.tup [.str x, v]))
      have hws7 := g7.old _ _ Lt hws
      have tr7 : Tr (upd H6 p (.tup [.str x, v])) (layD (x, dd)) (.ref p) := tr2 upd_same tr_str (tr.go (Tk.new hp _))
      have t7 : Tape K tp sa ns k6 (upd H6 p (.tup [.str x, v])) := t6.go (Go.new hp _)
      generalize upd H6 p (.tup [.str x, v]) = H7 at g7 hws7 tr7 t7 ⊢
      refine ⟨lp, ws, j, _, rfl, rfl, hws7, lt_line (by omega), j0, by omega, ?_⟩
      have tk8 := Tk.put hws7 (.lst (ws.take j.toNat ++ [V.ref p] ++ ws.drop j.toNat))
      refine ⟨⟨_, rfl⟩, (g.trans g7).set hlp _, ls.take j.toNat ++ [(x, dd)] ++ ls.drop j.toNat, _, k6, upd_same, ?_, ?_, ?_, t.re ((g.trans g7).set hlp _) (by rw [upd_ne (Ne.symm Lt)]; exact t7.lst) t7.pos, by omega⟩
      · rw [map_ins]
        exact ((tw.go g7.tk).ins j.toNat tr7).go tk8
      · rw [len_ins]
        omega
      · intro l hl
        rcases mem_ins hl with rfl | h
        · exact rk
        · exact hls l h
    · exact ⟨⟨_, rfl⟩, g.trans g4, ls, ws, k' + 1, hws4, tw.go g4.tk, Nat.le_succ_of_le hli, hls, t4, by omega⟩
  · rintro σ H3 ⟨⟨o3, rfl⟩, g, ls, ws, k', hws, tw, hli, hls, t3, hk'⟩
    rw [List.length_map] at hli hk'
    refine ⟨_, rfl, _, rfl, tp, sa, ns, k', ln, names, 2, rfl, by omega, by omega, t3, by omega, nm.go g, fun v H6 k6 g6 t6 hk6 ⟨dd, rk, tr⟩ => ?_⟩
    have hws6 := g6.old _ _ Lt hws
    refine ⟨_, rfl, lp, _, rfl, .inl ⟨SqL.of hws6, fun u hu' => ?_⟩⟩
    have g7 := g6.trans (Go.new (S := St1 tp) hu' (.tup ws))
    have hu7 : upd H6 u (.tup ws) u = some (.tup ws) := upd_same
    have tr7 := tr.go (Tk.new hu' (.tup ws))
    have t7 : Tape K tp sa ns k6 (upd H6 u (.tup ws)) := t6.go (Go.new hu' _)
    generalize upd H6 u (.tup ws) = H7 at g7 hu7 tr7 t7 ⊢
    refine ⟨(by show 2 ≤ sizeLine; decide), fun p hp => ?_⟩
    exact q _ _ k6 ((g.trans g7).trans (Go.new hp _)) (t7.go (Go.new hp _)) (by omega) ⟨(dd, ls), tr2 upd_same (tr7.go (Tk.new hp _)) (tr_tup (Tk.new hp _ _ _ hu7) ((tw.go g7.tk).go (Tk.new hp _))), rk, by show ls.length ≤ 100; omega, hls⟩
end
end Kn
/-! ## draws: machine -/
namespace Kn
open PySem L2
theorem ite_join {c : Bool} {A : Prop} {N : Hp → Prop} {H9 : Hp} (R : Hp → Prop) (r : R H9) (ha : (∀ H', R H' → N H') → A) (hN : ∀ H', R H' → N H') : if c = true then A else N H9 := by
  cases c with
  | true => exact ifT rfl (ha hN)
  | false => exact ifF rfl (hN _ r)
def numD : D := .tup [.str "num", .int 1]
def bump (x : Str) : D × List (Str × D) := (numD, [(x, .tup [.str "add", .tup [.str "box", .str x], numD])])
theorem bump_ok {names : List Str} {x : Str} (h : x ∈ names) : DdOk names (bump x) := by
  have sm : RkD names 2 numD := .num ⟨by decide, by decide⟩
  have sm1 : RkD names 1 numD := .num ⟨by decide, by decide⟩
  refine ⟨sm, by show 1 ≤ 100; decide, fun l hl => ?_⟩
  cases List.mem_singleton.mp hl
  refine RkD.op (o := "add") (ds := [.tup [.str "box", .str x], numD]) (by unfold opsK; simp) fun d hd => ?_
  rcases List.mem_cons.mp hd with rfl | hd
  · exact .box h
  · rw [List.mem_singleton.mp hd]
    exact sm1
section
variable {P : Program} {w : World} {K : PySem.W.Frag} {mg : Str → Option Value} {base : Heap}
structure MkOk (bs : List Bx) (ds : List (D × List (Str × D))) (fs : List (Str × D)) : Prop where
  len1 : 1 ≤ bs.length
  len4 : bs.length ≤ 4
  nodup : (bs.map (·.nm)).Nodup
  txt : ∀ x ∈ bs.map (·.nm), PyData.strOk x = true
  box : ∀ b ∈ bs, b.Ok
  dlen : ds.length ≤ 6
  deed : ∀ d ∈ ds, DdOk (bs.map (·.nm)) d
  flen : fs.length ≤ 5
  fact : ∀ f ∈ fs, RkD (bs.map (·.nm)) 2 f.2
def sp_machine (K : PySem.W.Frag) : Sp := fun vs H Q _ => ∃ (tp sa : Addr) (ns : List Int) (k : Int), vs = [.ref tp] ∧ Tape K tp sa ns k H ∧ k + 2400 ≤ 1000000 ∧
  TQ K tp sa ns k 2400 H Q fun v H' => ∃ a bv hv dv fv bs ds fs, v = .ref a ∧ H' a = some (.tup [bv, hv, dv, fv]) ∧ Tr H' (.tup (bs.map Bx.d)) bv ∧ Tr H' (.tup (ds.map deedD)) dv ∧ Tr H' (.tup (fs.map layD)) fv ∧ MkOk bs ds fs
theorem ok_machine (T : Tx K mg) : FnOk P w K mg base CX0 9 T.d_machine.a T.d_machine.fd P_machine (sp_machine K) := by
  have G_next := ok_next (P := P) (w := w) (base := base) T
  have G_names := ok_names (P := P) (w := w) (base := base) T
  have G_box := ok_box (P := P) (w := w) (base := base) T
  have G_some_names := ok_some_names (P := P) (w := w) (base := base) T
  have G_deed := ok_deed (P := P) (w := w) (base := base) T
  have G_sum := ok_sum (P := P) (w := w) (base := base) T 3
  refine T.d_machine.F.ok sc_machine (fun vs H Q E h => ?_) (fun cdv A outer s H vs Q E hr h => ?_)
  · obtain ⟨tp, sa, ns, k, rfl, _⟩ := h
    rfl
  obtain ⟨tp, sa, ns, k, rfl, t, hk, q⟩ := h
  refine ⟨_, (pss_cons (ps_set (i := 1) sc_machine.nd rfl (Or.inr rfl) (pe_call G_names (hr.mono (by omega)) rfl T.d_names.m T.d_names.F.kp (b_names T.d_names) .nil pass0 (pa_cons (pv 0) (pa_cons (pe_op op_add pe_int (pe_call G_next (hr.mono (by omega)) rfl T.d_next.m T.d_next.F.kp (b_next T.d_next) .nil pass0 (pa_cons (pv 0) (pa_cons pe_int pa_nil)))) pa_nil))))
  (pss_cons (ps_set (i := 2) sc_machine.nd rfl (Or.inl rfl) (pe_callTy (ctup K) (by rfl) T.z_tuple (by decide +kernel) (pa_cons (pe_lc (own := [("_law_name", 3)]) (by rfl) sc_machine.nd (pil K (pv 1)) (blkOk_by (N := N_machine) (sc := defScope s_machine) (by decide +kernel)) (fun _ _ _ _ _ => (pg_name (i := 3) sc_machine.nd rfl (by first | exact Or.inl rfl | exact Or.inr rfl))) (fun _ _ _ _ _ => pts_nil) (fun _ _ _ _ _ => (pe_call G_box (hr.mono (by omega)) rfl T.d_box.m T.d_box.F.kp (b_box T.d_box) .nil pass0 (pa_cons (pv 0) (pa_cons (pv 3) pa_nil))))) pa_nil)))
  (pss_cons (ps_setLc (i := 4) (own := [("_law_hand", 5)]) rfl sc_machine.nd rfl rfl (sw_true rfl rfl rfl (by decide +kernel)) (pil K (pe_lst (pa_cons pe_str (pa_cons pe_str (pa_cons pe_str (pa_cons pe_str pa_nil)))))) (blkOk_by (N := N_machine) (sc := defScope s_machine) (by decide +kernel)) (fun _ _ _ _ _ => (pg_name (i := 5) sc_machine.nd rfl (by first | exact Or.inl rfl | exact Or.inr rfl))) (fun _ _ _ _ _ => (pts_one (pt_cmpR op_gt (pe_call G_next (hr.mono (by omega)) rfl T.d_next.m T.d_next.F.kp (b_next T.d_next) .nil pass0 (pa_cons (pv 0) (pa_cons pe_int pa_nil))) pe_int (nomark _)))) (fun _ _ _ _ _ => (pe_tup (pa_cons (pv 5) (pa_cons (pe_call G_some_names (hr.mono (by omega)) rfl T.d_some_names.m T.d_some_names.F.kp (b_some_names T.d_some_names) .nil pass0 (pa_cons (pv 0) (pa_cons (pv 1) pa_nil))) pa_nil)))))
  (pss_cons (ps_setLc (i := 6) (own := [("_law_k", 7)]) rfl sc_machine.nd rfl rfl (sw_true rfl rfl rfl (by decide +kernel)) (pi_range1 rfl T.z_range (pa_cons (pe_call G_next (hr.mono (by omega)) rfl T.d_next.m T.d_next.F.kp (b_next T.d_next) .nil pass0 (pa_cons (pv 0) (pa_cons pe_int pa_nil))) pa_nil)) (blkOk_by (N := N_machine) (sc := defScope s_machine) (by decide +kernel)) (fun _ _ _ _ _ => (pg_name (i := 7) sc_machine.nd rfl (by first | exact Or.inl rfl | exact Or.inr rfl))) (fun _ _ _ _ _ => pts_nil) (fun _ _ _ _ _ => (pe_call G_deed (hr.mono (by omega)) rfl T.d_deed.m T.d_deed.F.kp (b_deed T.d_deed) .nil pass0 (pa_cons (pv 0) (pa_cons (pv 1) pa_nil)))))
  (pss_cons (ps_if (pt_cmpR op_eq (pe_call G_next (hr.mono (by omega)) rfl T.d_next.m T.d_next.F.kp (b_next T.d_next) .nil pass0 (pa_cons (pv 0) (pa_cons pe_int pa_nil))) pe_int (nomark _))
  (pss_one (ps_expr (pbm K PySem.F.plainAttrs_list PySem.F.slot_list_append PySem.F.type_list_append mt_append (pv 6) (pa_cons (pe_tup (pa_cons (pe_tup (pa_cons pe_str (pa_cons pe_int pa_nil))) (pa_cons (pe_tup (pa_cons (pe_tup (pa_cons (pe_ix (xl K) (pv 1) pe_int (fun _ _ => rfl)) (pa_cons (pe_tup (pa_cons pe_str (pa_cons (pe_tup (pa_cons pe_str (pa_cons (pe_ix (xl K) (pv 1) pe_int (fun _ _ => rfl)) pa_nil))) (pa_cons (pe_tup (pa_cons pe_str (pa_cons pe_int pa_nil))) pa_nil)))) pa_nil))) pa_nil)) pa_nil))) pa_nil))))
  pss_nil)
  (pss_cons (ps_setLc (i := 8) (own := [("_law_name", 3)]) rfl sc_machine.nd rfl rfl (sw_true rfl rfl rfl (by decide +kernel)) (pil K (pe_lst (pa_cons pe_str (pa_cons pe_str (pa_cons pe_str (pa_cons pe_str (pa_cons pe_str pa_nil))))))) (blkOk_by (N := N_machine) (sc := defScope s_machine) (by decide +kernel)) (fun _ _ _ _ _ => (pg_name (i := 3) sc_machine.nd rfl (by first | exact Or.inl rfl | exact Or.inr rfl))) (fun _ _ _ _ _ => (pts_one (pt_cmpR op_gt (pe_call G_next (hr.mono (by omega)) rfl T.d_next.m T.d_next.F.kp (b_next T.d_next) .nil pass0 (pa_cons (pv 0) (pa_cons pe_int pa_nil))) pe_int (nomark _)))) (fun _ _ _ _ _ => (pe_tup (pa_cons (pv 3) (pa_cons (pe_call G_sum (hr.mono (by omega)) rfl T.d_sum.m T.d_sum.F.kp (b_sum T.d_sum) .nil pass0 (pa_cons (pv 0) (pa_cons (pv 1) (pa_cons pe_int pa_nil)))) pa_nil)))))
  (pss_one (ps_ret (pe_tup (pa_cons (pv 2) (pa_cons (pe_callTy (ctup K) (by rfl) T.z_tuple (by decide +kernel) (pa_cons (pv 4) pa_nil)) (pa_cons (pe_callTy (ctup K) (by rfl) T.z_tuple (by decide +kernel) (pa_cons (pv 6) pa_nil)) (pa_cons (pe_callTy (ctup K) (by rfl) T.z_tuple (by decide +kernel) (pa_cons (pv 8) pa_nil)) pa_nil))))))))))))), ?_⟩
  have k0 := t.pos
  have cS2 : cS 2 = 64 := rfl
  refine ⟨_, rfl, _, rfl, tp, sa, ns, k, 4, rfl, t, by omega, by omega, fun m0 H1 m00 m01 g1 t1 => ?_⟩
  obtain ⟨m, rfl⟩ : ∃ m : Nat, m0 = m := ⟨m0.toNat, by omega⟩
  refine ⟨_, _, rfl, rfl, tp, sa, ns, k + 1, m + 1, congrArg (fun i => [V.ref tp, V.int i]) (show (1 : Int) + (m : Int) = ((m + 1 : Nat) : Int) by omega), by omega, by omega, t1, by omega, fun v H2 k2 g2 t2 hk2 ⟨ln, names, e, nm2, nd, nl⟩ => ?_⟩
  subst e
  have g02 := g1.trans g2
  have tk2 := t2.pos
  -- boxes
  refine ⟨_, rfl, _, rfl, ⟨_, SqL.of nm2.1⟩, fun D0 hD0 => ?_⟩
  have Dt := t2.ne hD0
  refine lcL (St1 tp) (fun i acc H' => ∃ (bs : List Bx) (k' : Int), TrL H' (bs.map Bx.d) acc ∧ bs.map (·.nm) = names.take i ∧ (∀ b ∈ bs, b.Ok) ∧ H' tp = some (.lst [.ref sa, .int k']) ∧ 0 ≤ k' ∧ k' ≤ k2 + i * 4) nm2.1 nm2.2.1 hD0 (by rw [List.length_map]; omega)
    ⟨[], k2, trl_nil, rfl, (fun x h => by cases h), by rw [upd_ne (Ne.symm Dt)]; exact t2.lst, t2.pos, by omega⟩ ?_ ?_
  · rintro i y acc H4 Kt Kf hy hD4 g4 ⟨bs, k', tb, hb, hbk, etp, k0', hk'⟩ kt kf
    obtain ⟨x, ex, rfl⟩ := map_get hy
    have hi : i < names.length := (List.getElem?_eq_some_iff.mp ex).1
    have t4 := t2.re g4 etp k0'
    refine ⟨rfl, _, rfl, _, rfl, tp, sa, ns, k', x, rfl, t4, by omega, fun v H5 k5 g5 t5 hk5 ⟨b, hbn, hok, tr⟩ => ?_⟩
    have hD5 := g5.old _ _ Dt hD4
    refine kt _ _ hD5 (g4.trans g5) ⟨bs ++ [b], k5, ?_, ?_, fun z hz => ?_, by rw [upd_ne (Ne.symm Dt)]; exact t5.lst, t5.pos, by omega⟩
    · rw [List.map_append]
      exact (tb.go (g5.tk.trans (Tk.put hD5 _))).snoc (tr.go (Tk.put hD5 _))
    · rw [List.map_append, hb, List.take_succ, ex]
      show names.take i ++ [b.nm] = names.take i ++ [x]
      rw [hbn]
    · rcases List.mem_append.mp hz with h | h
      · exact hbk z h
      · rw [List.mem_singleton] at h
        rw [h]
        exact hok
  rintro acc H3 hD3 hle g3 ⟨bs, k3, tb, hb, hbk, etp, k0', hk3⟩
  rw [List.length_map] at hk3 hb hle
  rw [List.take_length] at hb
  have bl : bs.length = names.length := by rw [← hb, List.length_map]
  refine ⟨D0, _, rfl, .inl ⟨SqL.of hD3, fun ba hba => ?_⟩⟩
  have g4 := g3.trans (Go.new (S := St1 tp) hba (.tup acc))
  have hba4 : upd H3 ba (.tup acc) ba = some (.tup acc) := upd_same
  have t4 : Tape K tp sa ns k3 (upd H3 ba (.tup acc)) := (t2.re g3 etp k0').go (Go.new hba _)
  have tb4 : Tr (upd H3 ba (.tup acc)) (.tup (bs.map Bx.d)) (.ref ba) := tr_tup upd_same (tb.go (Tk.new hba _))
  generalize upd H3 ba (.tup acc) = H4 at g4 hba4 t4 tb4 ⊢
  have nm4 := nm2.go g4
  have k4 := t4.pos
  -- hands
  refine ⟨(by show 4 ≤ sizeLine; decide), fun hw hhw => ?_⟩
  have g5 := g4.trans (Go.new (S := St1 tp) hhw (.lst [.str "a", .str "ab", .str "abc", .str "b"]))
  have hw5 : upd H4 hw (.lst [.str "a", .str "ab", .str "abc", .str "b"]) hw = some (.lst [.str "a", .str "ab", .str "abc", .str "b"]) := upd_same
  have t5 : Tape K tp sa ns k3 (upd H4 hw (.lst [.str "a", .str "ab", .str "abc", .str "b"])) := t4.go (Go.new hhw _)
  have tb5 := tb4.go (Tk.new hhw (.lst [.str "a", .str "ab", .str "abc", .str "b"]))
  have hwt := t4.ne hhw
  generalize upd H4 hw (.lst [.str "a", .str "ab", .str "abc", .str "b"]) = H5 at g5 hw5 t5 tb5 ⊢
  have nm5 := nm2.go g5
  refine ⟨hw, rfl, ⟨_, SqL.of hw5⟩, fun D1 hD1 => ?_⟩
  have Dt1 := t5.ne hD1
  refine lcL (St1 tp) (fun i acc H' => ∃ (k' : Int), H' tp = some (.lst [.ref sa, .int k']) ∧ 0 ≤ k' ∧ k' ≤ k3 + i * 5) hw5 hwt hD1 (by show 4 ≤ 100000; decide)
    ⟨k3, by rw [upd_ne (Ne.symm Dt1)]; exact t5.lst, t5.pos, by omega⟩ ?_ ?_
  · rintro i y acc H6 Kt Kf hy hD6 g6 ⟨k', etp, k0', hk'⟩ kt kf
    have hi : i < 4 := (List.getElem?_eq_some_iff.mp hy).1
    have t6 := t5.re g6 etp k0'
    refine ⟨rfl, _, rfl, tp, sa, ns, k', 4, rfl, t6, by omega, by omega, fun c H7 c0 c1 g7 t7 => ?_⟩
    have hD7 := g7.old _ _ Dt1 hD6
    refine ⟨_, _, rfl, rfl, _, rfl, ?_⟩
    refine ite2 (fun _ => ?_) (fun _ => ?_)
    · refine ⟨_, rfl, _, rfl, _, rfl, tp, sa, ns, k' + 1, ln, names, rfl, t7, by omega, by omega, nm5.go (g6.trans g7), fun v H8 k8 g8 t8 hk8 _ => ?_⟩
      have hD8 := g8.old _ _ Dt1 hD7
      refine ⟨(by show 2 ≤ sizeLine; decide), fun p hp => ?_⟩
      have g9 := g8.trans (Go.new (S := St1 tp) hp (.tup [y, v]))
      have hD9 := g9.old _ _ Dt1 hD7
      have t9 : Tape K tp sa ns k8 (upd H8 p (.tup [y, v])) := t8.go (Go.new hp _)
      exact kt _ _ hD9 ((g6.trans g7).trans g9) ⟨k8, by rw [upd_ne (Ne.symm Dt1)]; exact t9.lst, t9.pos, by omega⟩
    · exact kf _ hD7 (g6.trans g7) ⟨k' + 1, t7.lst, t7.pos, by omega⟩
  rintro hacc H6 hD6 hle6 g6 ⟨k6, etp6, k06, hk6⟩
  have t6 := t5.re g6 etp6 k06
  have hk6' : k6 ≤ k3 + 20 := by
    have e : (([V.str "a", V.str "ab", V.str "abc", V.str "b"] : List V).length : Int) = 4 := rfl
    rw [e] at hk6
    omega
  have tb6 := tb5.go g6.tk
  have nm6 := nm5.go g6
  have g06 := (g02.trans g5).trans g6
  -- deeds
  refine ⟨_, rfl, tp, sa, ns, k6, 6, rfl, t6, by omega, by omega, fun md H7 md0 md1 g7 t7 => ?_⟩
  refine ⟨md, rfl, by omega, by omega, fun D2 hD2 => ?_⟩
  have Dt2 := t7.ne hD2
  refine lcR (n := md.toNat) (St1 tp) (fun i acc H' => ∃ (ds : List (D × List (Str × D))) (k' : Int), TrL H' (ds.map deedD) acc ∧ ds.length = i ∧ (∀ d ∈ ds, DdOk names d) ∧ H' tp = some (.lst [.ref sa, .int k']) ∧ 0 ≤ k' ∧ k' ≤ k6 + 1 + i * 400) hD2 (by omega)
    ⟨[], k6 + 1, trl_nil, rfl, (fun x h => by cases h), by rw [upd_ne (Ne.symm Dt2)]; exact t7.lst, t7.pos, by omega⟩ ?_ ?_
  · rintro i acc H8 Kt Kf hi hD8 g8 ⟨ds, k', td, hdl, hdk, etp, k0', hk'⟩ kt kf
    have t8 := t7.re g8 etp k0'
    refine ⟨rfl, _, rfl, _, rfl, tp, sa, ns, k', ln, names, rfl, t8, by omega, by omega, nm6.go (g7.trans g8), fun v H9 k9 g9 t9 hk9 ⟨d, tr, dok⟩ => ?_⟩
    have hD9 := g9.old _ _ Dt2 hD8
    refine kt _ _ hD9 (g8.trans g9) ⟨ds ++ [d], k9, ?_, ?_, fun z hz => ?_, by rw [upd_ne (Ne.symm Dt2)]; exact t9.lst, t9.pos, by omega⟩
    · rw [List.map_append]
      exact (td.go (g9.tk.trans (Tk.put hD9 _))).snoc (tr.go (Tk.put hD9 _))
    · rw [List.length_append, hdl]
      rfl
    · rcases List.mem_append.mp hz with h | h
      · exact hdk z h
      · rw [List.mem_singleton] at h
        rw [h]
        exact dok
  rintro dacc H8 hD8 hle8 g8 ⟨ds, k8, td, hdl, hdk, etp8, k08, hk8⟩
  have t8 := t7.re g8 etp8 k08
  have dal := td.length
  rw [List.length_map] at dal
  have g68 := g7.trans g8
  have tb8 := tb6.go g68.tk
  have nm8 := nm6.go g68
  have hD1_8 := g68.old _ _ Dt1 hD6
  have D12 : D1 ≠ D2 := fun e => by rw [← e, g7.old _ _ Dt1 hD6] at hD2; cases hD2
  have g08 := g06.trans g68
  refine ⟨_, rfl, tp, sa, ns, k8, 2, rfl, t8, by omega, by omega, fun c H9 c0 c1 g9 t9 => ?_⟩
  refine ⟨rfl, _, rfl, ?_⟩
  have hD9 := g9.old _ _ Dt2 hD8
  refine ite_join (H9 := H9) (fun H' => Go (St1 tp) H7 H' ∧ ∃ (ds : List (D × List (Str × D))) (dacc : List V) (k' : Int), H' D2 = some (.lst dacc) ∧ TrL H' (ds.map deedD) dacc ∧ ds.length ≤ 6 ∧ (∀ d ∈ ds, DdOk names d) ∧ Tape K tp sa ns k' H' ∧ k' ≤ k8 + 1)
    ⟨g8.trans g9, ds, dacc, k8 + 1, hD9, td.go g9.tk, by omega, hdk, t9, by omega⟩ (fun j => ?_) ?_
  · have nm9 := nm8.go g9
    have n0 : 0 < names.length := by omega
    have at0 : atI (names.map V.str) 0 = some (V.str names[0]) := at_of (j := 0) rfl (by rw [List.getElem?_map, List.getElem?_eq_getElem n0]; rfl)
    have two : 2 ≤ sizeLine := by decide
    refine ⟨_, rfl, .inl ⟨rfl, _, SqL.of hD9⟩, two, fun p1 hp1 => ?_⟩
    have ga := Go.new (S := St1 tp) hp1 (.tup [.str "num", .int 1])
    have u1 : Tr (upd H9 p1 (.tup [.str "num", .int 1])) numD (.ref p1) := tr2 upd_same tr_str tr_int
    have ta : Tape K tp sa ns (k8 + 1) (upd H9 p1 (.tup [.str "num", .int 1])) := t9.go (Go.new hp1 _)
    generalize upd H9 p1 (.tup [.str "num", .int 1]) = Ha at ga u1 ta ⊢
    refine ⟨_, rfl, ln, _, _, _, rfl, rfl, SqL.of (nm9.go ga).1, at0, ?_⟩
    refine ⟨_, rfl, ln, _, _, _, rfl, rfl, SqL.of (nm9.go ga).1, at0, two, fun p2 hp2 => ?_⟩
    have gb := ga.trans (Go.new (S := St1 tp) hp2 (.tup [.str "box", .str names[0]]))
    have tr2' : Tr (upd Ha p2 (.tup [.str "box", .str names[0]])) (.tup [.str "box", .str names[0]]) (.ref p2) := tr2 upd_same tr_str tr_str
    have tr1b := u1.go (Tk.new hp2 (.tup [.str "box", .str names[0]]))
    have tb : Tape K tp sa ns (k8 + 1) (upd Ha p2 (.tup [.str "box", .str names[0]])) := ta.go (Go.new hp2 _)
    generalize upd Ha p2 (.tup [.str "box", .str names[0]]) = Hb at gb tr2' tr1b tb ⊢
    refine ⟨two, fun p3 hp3 => ?_⟩
    have gc := gb.trans (Go.new (S := St1 tp) hp3 (.tup [.str "num", .int 1]))
    have tr3' : Tr (upd Hb p3 (.tup [.str "num", .int 1])) numD (.ref p3) := tr2 upd_same tr_str tr_int
    have tr1c := tr1b.go (Tk.new hp3 (.tup [.str "num", .int 1]))
    have tr2c := tr2'.go (Tk.new hp3 (.tup [.str "num", .int 1]))
    have tc : Tape K tp sa ns (k8 + 1) (upd Hb p3 (.tup [.str "num", .int 1])) := tb.go (Go.new hp3 _)
    generalize upd Hb p3 (.tup [.str "num", .int 1]) = Hc at gc tr3' tr1c tr2c tc ⊢
    refine ⟨(by show 3 ≤ sizeLine; decide), fun p4 hp4 => ?_⟩
    have gd := gc.trans (Go.new (S := St1 tp) hp4 (.tup [.str "add", .ref p2, .ref p3]))
    have tr4' : Tr (upd Hc p4 (.tup [.str "add", .ref p2, .ref p3])) (.tup [.str "add", .tup [.str "box", .str names[0]], numD]) (.ref p4) := tr3 upd_same tr_str (tr2c.go (Tk.new hp4 _)) (tr3'.go (Tk.new hp4 _))
    have tr1d := tr1c.go (Tk.new hp4 (.tup [.str "add", .ref p2, .ref p3]))
    have td' : Tape K tp sa ns (k8 + 1) (upd Hc p4 (.tup [.str "add", .ref p2, .ref p3])) := tc.go (Go.new hp4 _)
    generalize upd Hc p4 (.tup [.str "add", .ref p2, .ref p3]) = Hd at gd tr4' tr1d td' ⊢
    refine ⟨two, fun p5 hp5 => ?_⟩
    have ge := gd.trans (Go.new (S := St1 tp) hp5 (.tup [.str names[0], .ref p4]))
    have tr5' : Tr (upd Hd p5 (.tup [.str names[0], .ref p4])) (layD (names[0], .tup [.str "add", .tup [.str "box", .str names[0]], numD])) (.ref p5) := tr2 upd_same tr_str (tr4'.go (Tk.new hp5 _))
    have tr1e := tr1d.go (Tk.new hp5 (.tup [.str names[0], .ref p4]))
    have te : Tape K tp sa ns (k8 + 1) (upd Hd p5 (.tup [.str names[0], .ref p4])) := td'.go (Go.new hp5 _)
    generalize upd Hd p5 (.tup [.str names[0], .ref p4]) = He at ge tr5' tr1e te ⊢
    refine ⟨(by show 1 ≤ sizeLine; decide), fun p6 hp6 => ?_⟩
    have gf := ge.trans (Go.new (S := St1 tp) hp6 (.tup [.ref p5]))
    have tr6' : Tr (upd He p6 (.tup [.ref p5])) (.tup ([(names[0], D.tup [.str "add", .tup [.str "box", .str names[0]], numD])].map layD)) (.ref p6) := tr1 upd_same (tr5'.go (Tk.new hp6 _))
    have tr1f := tr1e.go (Tk.new hp6 (.tup [.ref p5]))
    have tf : Tape K tp sa ns (k8 + 1) (upd He p6 (.tup [.ref p5])) := te.go (Go.new hp6 _)
    generalize upd He p6 (.tup [.ref p5]) = Hf at gf tr6' tr1f tf ⊢
    refine ⟨two, fun p7 hp7 => ?_⟩
    have gg := gf.trans (Go.new (S := St1 tp) hp7 (.tup [.ref p1, .ref p6]))
    have tr7' : Tr (upd Hf p7 (.tup [.ref p1, .ref p6])) (deedD (bump names[0])) (.ref p7) := tr2 upd_same (tr1f.go (Tk.new hp7 _)) (tr6'.go (Tk.new hp7 _))
    have tg : Tape K tp sa ns (k8 + 1) (upd Hf p7 (.tup [.ref p1, .ref p6])) := tf.go (Go.new hp7 _)
    generalize upd Hf p7 (.tup [.ref p1, .ref p6]) = Hg at gg tr7' tg ⊢
    have hDg := gg.old _ _ Dt2 hD9
    refine ⟨D2, _, _, rfl, rfl, hDg, lt_line (by omega), ?_⟩
    have tkz := Tk.put hDg (.lst (dacc ++ [V.ref p7]))
    have gz : Go (St1 tp) H7 (upd Hg D2 (.lst (dacc ++ [V.ref p7]))) := ((g8.trans g9).trans gg).set hD2 _
    refine j _ ⟨gz, ds ++ [bump names[0]], _, k8 + 1, upd_same, ?_, ?_, fun z hz => ?_, t7.re gz (by rw [upd_ne (Ne.symm Dt2)]; exact tg.lst) tg.pos, by omega⟩
    · rw [List.map_append]
      exact ((td.go (g9.tk.trans gg.tk)).go tkz).snoc (tr7'.go tkz)
    · rw [List.length_append]
      show ds.length + 1 ≤ 6
      omega
    · rcases List.mem_append.mp hz with h | h
      · exact hdk z h
      · rw [List.mem_singleton.mp h]
        exact bump_ok (List.getElem_mem n0)
  clear td hdk hD9 hD8 etp8 hdl dal
  rintro H9 ⟨g9, ds, dacc, k9, hD9, td, dl, hdk, t9, hk9⟩
  have k09 := t9.pos
  -- facts
  refine ⟨(by show 5 ≤ sizeLine; decide), fun fw hfw => ?_⟩
  have ga := g9.trans (Go.new (S := St1 tp) hfw (.lst [.str "p", .str "pp", .str "pq", .str "q", .str "qa"]))
  have fw1 : upd H9 fw (.lst [.str "p", .str "pp", .str "pq", .str "q", .str "qa"]) fw = some (.lst ([("p" : Str), "pp", "pq", "q", "qa"].map V.str)) := upd_same
  have ta : Tape K tp sa ns k9 (upd H9 fw (.lst [.str "p", .str "pp", .str "pq", .str "q", .str "qa"])) := t9.go (Go.new hfw _)
  have hDa := (Go.new (S := St1 tp) hfw (.lst [.str "p", .str "pp", .str "pq", .str "q", .str "qa"])).old _ _ Dt2 hD9
  have tda := td.go (Tk.new hfw (.lst [.str "p", .str "pp", .str "pq", .str "q", .str "qa"]))
  have fwt := t9.ne hfw
  generalize upd H9 fw (.lst [.str "p", .str "pp", .str "pq", .str "q", .str "qa"]) = Ha at ga fw1 ta hDa tda ⊢
  have g0a := (g06.trans g7).trans ga
  have tba := tb6.go (g7.trans ga).tk
  have nma := nm6.go (g7.trans ga)
  have hD1a := (g7.trans ga).old _ _ Dt1 hD6
  refine ⟨fw, rfl, ⟨_, SqL.of fw1⟩, fun D3 hD3 => ?_⟩
  have Dt3 := ta.ne hD3
  refine lcL (xs := ([("p" : Str), "pp", "pq", "q", "qa"].map V.str)) (St1 tp) (fun i acc H' => ∃ (fs : List (Str × D)) (k' : Int), TrL H' (fs.map layD) acc ∧ fs.length ≤ i ∧ (∀ f ∈ fs, RkD names 2 f.2) ∧ H' tp = some (.lst [.ref sa, .int k']) ∧ 0 ≤ k' ∧ k' ≤ k9 + i * 65) fw1 fwt hD3 (by show 5 ≤ 100000; decide)
    ⟨[], k9, trl_nil, Nat.le_refl _, (fun x h => by cases h), by rw [upd_ne (Ne.symm Dt3)]; exact ta.lst, ta.pos, by omega⟩ ?_ ?_
  · rintro i y acc Hb Kt Kf hy hDb gb ⟨fs, k', tf, hfl, hfk, etp, k0', hk'⟩ kt kf
    obtain ⟨x, ex, rfl⟩ := map_get hy
    have hi : i < 5 := (List.getElem?_eq_some_iff.mp ex).1
    have tb := ta.re gb etp k0'
    refine ⟨rfl, _, rfl, tp, sa, ns, k', 4, rfl, tb, by omega, by omega, fun c Hc c0 c1 gc tc => ?_⟩
    have hDc := gc.old _ _ Dt3 hDb
    refine ⟨_, _, rfl, rfl, _, rfl, ?_⟩
    refine ite2 (fun _ => ?_) (fun _ => ?_)
    · refine ⟨_, rfl, _, rfl, _, rfl, tp, sa, ns, k' + 1, ln, names, 2, rfl, by omega, by omega, tc, by omega, nma.go (gb.trans gc), fun v Hd kd gd td' hkd ⟨dd, rk, tr⟩ => ?_⟩
      have hDd := gd.old _ _ Dt3 hDc
      refine ⟨(by show 2 ≤ sizeLine; decide), fun p hp => ?_⟩
      have ge := (gc.trans gd).trans (Go.new (S := St1 tp) hp (.tup [.str x, v]))
      have hDe := ge.old _ _ Dt3 hDb
      have tre : Tr (upd Hd p (.tup [.str x, v])) (layD (x, dd)) (.ref p) := tr2 upd_same tr_str (tr.go (Tk.new hp _))
      have te : Tape K tp sa ns kd (upd Hd p (.tup [.str x, v])) := td'.go (Go.new hp _)
      generalize upd Hd p (.tup [.str x, v]) = He at ge hDe tre te ⊢
      refine kt _ _ hDe (gb.trans ge) ⟨fs ++ [(x, dd)], kd, ?_, ?_, fun z hz => ?_, by rw [upd_ne (Ne.symm Dt3)]; exact te.lst, te.pos, by omega⟩
      · rw [List.map_append]
        exact (tf.go (ge.tk.trans (Tk.put hDe _))).snoc (tre.go (Tk.put hDe _))
      · rw [List.length_append]
        exact Nat.succ_le_succ hfl
      · rcases List.mem_append.mp hz with h | h
        · exact hfk z h
        · rw [List.mem_singleton.mp h]
          exact rk
    · exact kf _ hDc (gb.trans gc) ⟨fs, k' + 1, tf.go gc.tk, Nat.le_succ_of_le hfl, hfk, tc.lst, tc.pos, by omega⟩
  rintro facc Hb hDb hleb gb ⟨fs, kb, tf, hfl, hfk, etpb, k0b, hkb⟩
  have e5 : (([("p" : Str), "pp", "pq", "q", "qa"].map V.str).length : Int) = 5 := rfl
  rw [e5] at hkb
  have hfl : fs.length ≤ 5 := hfl
  have tb := ta.re gb etpb k0b
  have hD1b := gb.old _ _ Dt1 hD1a
  have hD2b := gb.old _ _ Dt2 hDa
  refine ⟨_, rfl, _, rfl, D1, _, rfl, .inl ⟨SqL.of hD1b, fun q1 hq1 => ?_⟩⟩
  have gc := gb.trans (Go.new (S := St1 tp) hq1 (.tup hacc))
  refine ⟨_, rfl, D2, _, rfl, .inl ⟨SqL.of (gc.old _ _ Dt2 hDa), fun q2 hq2 => ?_⟩⟩
  have gd := gc.trans (Go.new (S := St1 tp) hq2 (.tup dacc))
  have tdd : Tr (upd (upd Hb q1 (.tup hacc)) q2 (.tup dacc)) (.tup (ds.map deedD)) (.ref q2) := tr_tup upd_same (tda.go gd.tk)
  have hDd : upd (upd Hb q1 (.tup hacc)) q2 (.tup dacc) D3 = some (.lst facc) := (Go.new (S := St1 tp) hq2 _).old _ _ Dt3 ((Go.new (S := St1 tp) hq1 _).old _ _ Dt3 hDb)
  have td2 : Tape K tp sa ns kb (upd (upd Hb q1 (.tup hacc)) q2 (.tup dacc)) := (tb.go (Go.new hq1 _)).go (Go.new hq2 _)
  have tfd := (tf.go (Tk.new hq1 (.tup hacc))).go (Tk.new hq2 (.tup dacc))
  generalize upd (upd Hb q1 (.tup hacc)) q2 (.tup dacc) = Hd at gd tdd hDd td2 tfd ⊢
  refine ⟨_, rfl, D3, _, rfl, .inl ⟨SqL.of hDd, fun q3 hq3 => ?_⟩⟩
  have ge := gd.trans (Go.new (S := St1 tp) hq3 (.tup facc))
  have tfe : Tr (upd Hd q3 (.tup facc)) (.tup (fs.map layD)) (.ref q3) := tr_tup upd_same (tfd.go (Tk.new hq3 _))
  have tde := tdd.go (Tk.new hq3 (.tup facc))
  have te : Tape K tp sa ns kb (upd Hd q3 (.tup facc)) := td2.go (Go.new hq3 _)
  generalize upd Hd q3 (.tup facc) = He at ge tfe tde te ⊢
  refine ⟨(by show 4 ≤ sizeLine; decide), fun u hu' => ?_⟩
  have tk := Tk.new hu' (.tup [.ref ba, .ref q1, .ref q2, .ref q3])
  exact q _ _ kb ((g0a.trans ge).trans (Go.new hu' _)) (te.go (Go.new hu' _)) (by omega)
    ⟨u, _, _, _, _, bs, ds, fs, rfl, upd_same, (tba.go ge.tk).go tk, tde.go tk, tfe.go tk, by omega, by omega, by rw [hb]; exact nd, by rw [hb]; exact nm2.2.2, hbk, dl, by rw [hb]; exact hdk, hfl, by rw [hb]; exact hfk⟩
end
end Kn
/-! ## told, knows, fact_right -/
namespace Kn
open PySem L2
section
variable {P : Program} {w : World} {K : PySem.W.Frag} {mg : Str → Option Value} {base : Heap}
def sp_told : Sp := fun vs H Q _ => ∃ (M : Mc) (v : V), vs = [v] ∧ Tr H M.d v ∧ M.Ok ∧ (∀ H', Go S0 H H' → Q .non H') ∧
  ∀ t wv sl H' sts svs W, Go S0 H H' → H' t = some (.tup [wv, .ref sl]) → Tr H' W.d wv → H' sl = some (.lst svs) → TrL H' (sts.map D.ints) svs → StsOk M sts → WdOf M sts W → Q (.ref t) H'
theorem ok_told (T : Tx K mg) (TM : Tm K mg) : FnOk P w K mg base CX0 8 T.d_told.a T.d_told.fd P_told sp_told := by
  have G_world_of := ok_world_of (P := P) (w := w) (base := base) T TM
  refine T.d_told.F.ok sc_told (fun vs H Q E h => ?_) (fun cdv A outer s H vs Q E hr h => ?_)
  · obtain ⟨M, v, rfl, _⟩ := h
    rfl
  obtain ⟨M, v, rfl, hM, ok, qn, q⟩ := h
  refine ⟨_, (pss_cons (ps_set (i := 1) sc_told.nd rfl (Or.inl rfl) pe_non)
    (pss_cons (ps_try_only (tb := fun W => tAsg (tCallS (sp_world_of TM.C) (WE W) (tCons (tVar 0) tNil)) (gName 1)) (ts := fun _ _ _ => tAsg (tC .non) (gName 1)) (Wout := fun _ _ _ _ => False) rfl rfl ⟨rfl, by decide, Or.inl TM.gC⟩ takes0
        (fun W pn xe tk _ => pss_one (ps_set (i := 1) sc_told.nd rfl (Or.inl rfl) (pe_callS G_world_of hr rfl T.d_world_of.m T.d_world_of.F.kp (b_world_of T.d_world_of) (fun σ => passAt tk σ) (by exact (pa_cons (pv 0) pa_nil)))))
        (fun _ _ _ _ _ _ _ => pss_one (ps_set (i := 1) sc_told.nd rfl (Or.inl rfl) pe_non)))
    (pss_one (ps_ret (pv 1))))), ?_⟩
  refine ⟨_, rfl, M, v, rfl, hM, ok, fun H' g => ⟨true, TM.te, fun _ a ha => ?_, fun q => nomatch q⟩, fun t wv sl H' sts svs W g h1 h2 h3 h4 h5 h6 => ?_⟩
  · exact ⟨_, rfl, qn H' g⟩
  · exact ⟨_, rfl, q t wv sl H' sts svs W g h1 h2 h3 h4 h5 h6⟩
def sp_knows : Sp := fun vs H Q _ => ∃ (W : Wd) (v sv : V) (s : Sn) (h : Str), vs = [v, .str h, sv] ∧ Tr H W.d v ∧ Tr H s.d sv ∧ W.Ok ∧ s.deep ≤ 4 ∧ Ret H Q fun v' H' => Tr H' (D.ints (W.holds (.ev h s))) v'
theorem ok_knows (T : Tx K mg) : FnOk P w K mg base CX0 10 T.d_knows.a T.d_knows.fd P_knows sp_knows := by
  have G_holds := ok_holds (P := P) (w := w) (base := base) T
  refine T.d_knows.F.ok sc_knows (fun vs H Q E h => ?_) (fun cdv A outer s H vs Q E hr h => ?_)
  · obtain ⟨W, v, sv, s, h, rfl, _⟩ := h
    rfl
  obtain ⟨W, v, sv, s, h, rfl, hW, hs, ok, hd, q⟩ := h
  refine ⟨_, (pss_one (ps_ret (pe_call G_holds (hr.mono (by omega)) rfl T.d_holds.m T.d_holds.F.kp (b_holds T.d_holds) .nil pass0 (pa_cons (pv 0) (pa_cons (pe_tup (pa_cons pe_str (pa_cons (pe_tup (pa_cons pe_str (pa_cons (pe_tup (pa_cons (pv 1) pa_nil)) pa_nil))) (pa_cons (pv 2) pa_nil)))) pa_nil))))), ?_⟩
  refine ⟨_, rfl, _, rfl, (by show 1 ≤ sizeLine; decide), fun p1 hp1 => ?_⟩
  have g1 := Go.new (S := S0) hp1 (.tup [.str h])
  have u1 : upd H p1 (.tup [.str h]) p1 = some (.tup [.str h]) := upd_same
  have t1 : Tr (upd H p1 (.tup [.str h])) (.tup [.str h]) (.ref p1) := tr1 upd_same tr_str
  generalize upd H p1 (.tup [.str h]) = H1 at g1 u1 t1 ⊢
  refine ⟨(by show 2 ≤ sizeLine; decide), fun p2 hp2 => ?_⟩
  have g2 := g1.trans (Go.new (S := S0) hp2 (.tup [.str "one", .ref p1]))
  have t2 : Tr (upd H1 p2 (.tup [.str "one", .ref p1])) (oneD h) (.ref p2) := tr2 upd_same tr_str (t1.go (Tk.new hp2 _))
  generalize upd H1 p2 (.tup [.str "one", .ref p1]) = H2 at g2 t2 ⊢
  refine ⟨_, rfl, (by show 3 ≤ sizeLine; decide), fun p3 hp3 => ?_⟩
  have n3 := Go.new (S := S0) hp3 (.tup [.str "every", .ref p2, sv])
  have g3 := g2.trans n3
  refine ⟨W, v, .ref p3, .ev h s, rfl, hW.go g3.tk, tr3 upd_same tr_str (t2.go n3.tk) (hs.go g3.tk), ok, by show s.deep + 1 ≤ 5; omega, fun v' H' g t => q _ _ (g3.trans g) t⟩
end
end Kn
/-! ## fact_right -/
namespace Kn
open PySem L2
/-- what the law asks of a world's hands -/
structure Sees (W : Wd) : Prop where
  a : ∀ s k, k ∈ W.holds (.ev "a" s) → k ∈ W.holds (.ev "ab" s) ∧ k ∈ W.holds s
  b : ∀ s, W.holds (.ev "b" s) = W.holds s
  c : ∀ s, (W.holds (.ev "c" s)).length = 0 ∨ (W.holds (.ev "c" s)).length = W.n
  d : ∀ s, (W.holds (.or s (.neg s))).length = W.n
theorem shaped_ints (ns : List Int) : SeqAt.shaped (.tuple (ns.map PyData.int)) = true := by
  have h : ∀ ns : List Int, PyData.depthAll (ns.map PyData.int) = 0 := by
    intro ns
    induction ns with
    | nil => rfl
    | cons n r ih => rw [List.map_cons, PyData.depthAll, ih]; rfl
  have c : ∀ ns : List Int, PyData.canLayAll0 (ns.map PyData.int) = true := by
    intro ns
    induction ns with
    | nil => rfl
    | cons n r ih =>
      rw [List.map_cons, PyData.canLayAll0, ih, PyData.canLay0]
      rfl
  unfold SeqAt.shaped
  rw [Bool.and_eq_true, decide_eq_true_eq]
  refine ⟨?_, ?_⟩
  · rw [PyData.canLay0]
    exact c ns
  · rw [PyData.depth, h]
    decide
theorem eqv_ints (ns : List Int) : PyData.eqv (.tuple (ns.map PyData.int)) (.tuple (ns.map PyData.int)) = true := SeqAt.eqv_refl _ (SeqAt.canLay_of_shaped (shaped_ints ns))
/-- a tuple of whole numbers -/
theorem Tr.ints {H : Hp} {ns : List Int} {v : V} (t : Tr H (D.ints ns) v) : ∃ a, v = .ref a ∧ H a = some (.tup (ns.map V.int)) := by
  obtain ⟨a, vs, rfl, ha, h⟩ := t.tup_of
  cases h.ints_of
  exact ⟨a, rfl, ha⟩
section
variable {P : Program} {w : World} {K : PySem.W.Frag} {mg : Str → Option Value} {base : Heap}
def sp_fact_right : Sp := fun vs H Q _ => ∃ (W : Wd) (v fv : V) (x : Str), vs = [v, .int W.n, fv] ∧ Tr H W.d v ∧ Tr H (Sn.fact x).d fv ∧ W.Ok ∧ Sees W ∧ ∀ H', Go S0 H H' → Q (.bl true) H'
theorem ok_fact_right (T : Tx K mg) : FnOk P w K mg base CX0 11 T.d_fact_right.a T.d_fact_right.fd P_fact_right sp_fact_right := by
  have G_holds := ok_holds (P := P) (w := w) (base := base) T
  have G_knows := ok_knows (P := P) (w := w) (base := base) T
  refine T.d_fact_right.F.ok sc_fact_right (fun vs H Q E h => ?_) (fun cdv A outer s H vs Q E hr h => ?_)
  · obtain ⟨W, v, fv, x, rfl, _⟩ := h
    rfl
  obtain ⟨W, v, fv, x, rfl, hW, hf, ok, S, q⟩ := h
  refine ⟨_, (pss_cons (ps_for PassesOwn.never rfl (pil K (pe_lst (pa_cons (pv 2) (pa_cons (pe_tup (pa_cons pe_str (pa_cons (pv 2) pa_nil))) pa_nil)))) (pg_name (i := 3) sc_fact_right.nd rfl (by first | exact Or.inl rfl | exact Or.inr rfl))
  (pss_cons (ps_set (i := 4) sc_fact_right.nd rfl (Or.inr rfl) (pe_call G_holds (hr.mono (by omega)) rfl T.d_holds.m T.d_holds.F.kp (b_holds T.d_holds) .nil pass0 (pa_cons (pv 0) (pa_cons (pv 3) pa_nil))))
  (pss_cons (ps_set (i := 5) sc_fact_right.nd rfl (Or.inr rfl) (pe_call G_knows (hr.mono (by omega)) rfl T.d_knows.m T.d_knows.F.kp (b_knows T.d_knows) .nil pass0 (pa_cons (pv 0) (pa_cons pe_str (pa_cons (pv 3) pa_nil)))))
  (pss_cons (ps_if (pt_cmpR (oneD' K hr.units) (pe_lc (own := [("_law_k", 6)]) (by rfl) sc_fact_right.nd (pit K (pe_call G_knows (hr.mono (by omega)) rfl T.d_knows.m T.d_knows.F.kp (b_knows T.d_knows) .nil pass0 (pa_cons (pv 0) (pa_cons pe_str (pa_cons (pv 3) pa_nil))))) (blkOk_by (N := N_fact_right) (sc := defScope s_fact_right) (by decide +kernel)) (fun _ _ _ _ _ => (pg_name (i := 6) sc_fact_right.nd rfl (by first | exact Or.inl rfl | exact Or.inr rfl))) (fun _ _ _ _ _ => (pts_one (PW.pt (pw_or (pt_cmpR (onin K) (pv 6) (pv 5) (by rfl)) (pw_or1 (pt_cmpR (onin K) (pv 6) (pv 4) (by rfl))))))) (fun _ _ _ _ _ => (pv 6))) (pe_lst pa_nil) (nomark _))
  (pss_one (ps_ret pe_bl))
  pss_nil)
  (pss_one (ps_if (PW.pt (pw_or (pt_cmpR (oneD' K hr.units) (pe_call G_knows (hr.mono (by omega)) rfl T.d_knows.m T.d_knows.F.kp (b_knows T.d_knows) .nil pass0 (pa_cons (pv 0) (pa_cons pe_str (pa_cons (pv 3) pa_nil)))) (pv 4) (nomark _)) (pw_or1 (pt_cmpR (onin K) (pe_callB (clen K) (by rfl) T.z_len (by decide +kernel) (pa_cons (pe_call G_knows (hr.mono (by omega)) rfl T.d_knows.m T.d_knows.F.kp (b_knows T.d_knows) .nil pass0 (pa_cons (pv 0) (pa_cons pe_str (pa_cons (pv 3) pa_nil)))) pa_nil)) (pe_tup (pa_cons pe_int (pa_cons (pv 1) pa_nil))) (by rfl)))))
  (pss_one (ps_ret pe_bl))
  pss_nil))))))
  (pss_one (ps_ret (pe_cmpR op_eq (pe_callB (clen K) (by rfl) T.z_len (by decide +kernel) (pa_cons (pe_call G_holds (hr.mono (by omega)) rfl T.d_holds.m T.d_holds.F.kp (b_holds T.d_holds) .nil pass0 (pa_cons (pv 0) (pa_cons (pe_tup (pa_cons pe_str (pa_cons (pv 2) (pa_cons (pe_tup (pa_cons pe_str (pa_cons (pv 2) pa_nil))) pa_nil)))) pa_nil))) pa_nil)) (pv 1) (nomark _))))), ?_⟩
  have hn := ok.n
  refine ⟨_, rfl, _, rfl, (by show 2 ≤ sizeLine; decide), fun p1 hp1 => ?_⟩
  have g1 := Go.new (S := S0) hp1 (.tup [.str "not", fv])
  have hf1 := hf.go (Tk.new hp1 (.tup [.str "not", fv]))
  have t1 : Tr (upd H p1 (.tup [.str "not", fv])) (Sn.neg (.fact x)).d (.ref p1) := tr2 upd_same tr_str hf1
  generalize upd H p1 (.tup [.str "not", fv]) = H1 at g1 hf1 t1 ⊢
  refine ⟨(by show 2 ≤ sizeLine; decide), fun l hl => ?_⟩
  have g2 := g1.trans (Go.new (S := S0) hl (.lst [fv, .ref p1]))
  have hf2 := hf1.go (Tk.new hl (.lst [fv, .ref p1]))
  have t2 := t1.go (Tk.new hl (.lst [fv, .ref p1]))
  have hl2 : upd H1 l (.lst [fv, .ref p1]) l = some (.lst [fv, .ref p1]) := upd_same
  generalize upd H1 l (.lst [fv, .ref p1]) = H2 at g2 hf2 t2 hl2 ⊢
  refine ⟨l, rfl, ⟨_, SqL.of hl2⟩, ?_⟩
  have sz : ∀ (i : Nat) (z : V), ([fv, V.ref p1] : List V)[i]? = some z → ∃ s : Sn, Tr H2 s.d z ∧ s.deep ≤ 2 := fun i z e => by
    cases i with
    | zero => cases e; exact ⟨_, hf2, by show 1 ≤ 2; decide⟩
    | succ i =>
      cases i with
      | zero => cases e; exact ⟨_, t2, by show 2 ≤ 2; decide⟩
      | succ i => simp at e
  refine for_list (xs := [fv, .ref p1]) (fun i σ H' => (∃ o3 o4 o5 o6, σ = [some v, some (.int W.n), some fv, o3, o4, o5, o6]) ∧ Go S0 H2 H') ⟨⟨_, _, _, _, rfl⟩, Go.refl⟩ (fun i σ H' _ ⟨_, g⟩ => SqL.of (g.old _ _ id hl2)) ?_ ?_
  · rintro i z σ H3 hz ⟨⟨o3, o4, o5, o6, rfl⟩, g⟩
    obtain ⟨s, ts, sd⟩ := sz i z hz
    refine ⟨_, rfl, _, rfl, W, v, z, s, rfl, hW.go (g2.trans g).tk, ts.go g.tk, ok, by omega, fun v1 H4 g4 r1 => ?_⟩
    obtain ⟨a1, rfl, h1⟩ := r1.ints
    have g24 := g2.trans (g.trans g4)
    refine ⟨_, rfl, _, rfl, W, v, z, s, "ab", rfl, hW.go g24.tk, ts.go (g.trans g4).tk, ok, by omega, fun v2 H5 g5 r2 => ?_⟩
    obtain ⟨a2, rfl, h2⟩ := r2.ints
    have g25 := g24.trans g5
    refine ⟨_, rfl, _, rfl, W, v, z, s, "a", rfl, hW.go g25.tk, ts.go ((g.trans g4).trans g5).tk, ok, by omega, fun v3 H6 g6 r3 => ?_⟩
    obtain ⟨a3, rfl, h3⟩ := r3.ints
    have h1' := (g5.trans g6).tk _ _ h1
    have h2' := g6.tk _ _ h2
    have hlen : (W.holds (.ev "a" s)).length ≤ 1000 := by
      have := W.jd_length (.ev "a" s)
      unfold Wd.holds tps
      exact Nat.le_trans (List.length_filter_le _ _) (by rw [ixs_length]; omega)
    refine ⟨a3, rfl, ⟨_, SqT.of h3⟩, fun D0 hD0 => ?_⟩
    refine lcT (xs := (W.holds (.ev "a" s)).map V.int) S0 (fun i acc H' => acc = []) h3 hD0 (by rw [List.length_map]; omega) rfl ?_ ?_
    · rintro j y acc H7 Kt Kf hy hD7 g7 rfl kt kf
      obtain ⟨k, ek, rfl⟩ := map_get hy
      obtain ⟨m1, m2⟩ := S.a s k (List.mem_of_getElem? ek)
      refine ⟨rfl, ?_⟩
      refine ⟨_, rfl, _, rfl, a2, _, rfl, .inr (SqT.of (g7.tk _ _ h2')), rfl, flat_ints _, _, rfl, ?_⟩
      rw [if_pos rfl, inV_int, List.contains_iff_mem.mpr m1]
      refine ifF rfl ?_
      refine ⟨_, rfl, _, rfl, a1, _, rfl, .inr (SqT.of (g7.tk _ _ h1')), rfl, flat_ints _, _, rfl, ?_⟩
      rw [if_pos rfl, inV_int, List.contains_iff_mem.mpr m2]
      exact ifF rfl (kf _ hD7 g7 rfl)
    rintro acc H7 hD7 hle g7 rfl
    refine ⟨Nat.zero_le _, fun e he => ?_⟩
    have g8 := g7.trans (Go.new (S := S0) he (.lst []))
    have hD8 := (Go.new (S := S0) he (.lst [])).old _ _ id hD7
    have he8 : upd H7 e (.lst []) e = some (.lst []) := upd_same
    generalize upd H7 e (.lst []) = H8 at g8 hD8 he8 ⊢
    refine ⟨.list [], .list [], .lst (SqL.of hD8) .nil, .lst (SqL.of he8) .nil, rfl, rfl, _, rfl, ifF rfl ?_⟩
    have g28 := g25.trans (g6.trans g8)
    have gs := ((g.trans g4).trans g5).trans (g6.trans g8)
    refine ⟨_, rfl, _, rfl, W, v, z, s, "b", rfl, hW.go g28.tk, ts.go gs.tk, ok, by omega, fun v4 H9 g9 r4 => ?_⟩
    obtain ⟨a4, rfl, h4⟩ := r4.ints
    rw [S.b s] at h4
    refine ⟨_, rfl, .tuple ((W.holds s).map .int), .tuple ((W.holds s).map .int), .tup (SqT.of h4) (dp_ints _), .tup (SqT.of ((g8.trans g9).tk _ _ h1')) (dp_ints _), shaped_ints _, shaped_ints _, _, rfl, ?_⟩
    rw [eqv_ints]
    refine ifF rfl ?_
    refine ⟨_, rfl, _, rfl, W, v, z, s, "c", rfl, hW.go (g28.trans g9).tk, ts.go (gs.trans g9).tk, ok, by omega, fun v5 H10 g10 r5 => ?_⟩
    obtain ⟨a5, rfl, h5⟩ := r5.ints
    refine ⟨a5, _, rfl, .inr (SqT.of h5), ?_⟩
    rw [List.length_map]
    refine ⟨_, rfl, (by show 2 ≤ sizeLine; decide), fun u hu' => ?_⟩
    refine ⟨u, _, rfl, .inr (SqT.of upd_same), rfl, rfl, _, rfl, ?_⟩
    rw [if_pos rfl]
    have ein : inV (.int ((W.holds (.ev "c" s)).length : Int)) [.int 0, .int W.n] = true := by
      show inV _ ([(0 : Int), (W.n : Int)].map V.int) = true
      rw [inV_int, List.contains_iff_mem]
      rcases S.c s with e | e
      · rw [e]
        exact List.mem_cons_self ..
      · rw [e]
        exact List.mem_cons_of_mem _ (List.mem_cons_self ..)
    rw [ein]
    refine ifF rfl ?_
    exact ⟨⟨_, _, _, _, rfl⟩, ((gs.trans g9).trans g10).trans (Go.new hu' _)⟩
  · rintro σ H3 ⟨⟨o3, o4, o5, o6, rfl⟩, g⟩
    have hf3 := hf2.go g.tk
    refine ⟨_, rfl, _, rfl, _, rfl, (by show 2 ≤ sizeLine; decide), fun u hu' => ?_⟩
    have ga := (g2.trans g).trans (Go.new (S := S0) hu' (.tup [.str "not", fv]))
    have ta : Tr (upd H3 u (.tup [.str "not", fv])) (Sn.neg (.fact x)).d (.ref u) := tr2 upd_same tr_str (hf3.go (Tk.new hu' _))
    have hfa := hf3.go (Tk.new hu' (.tup [.str "not", fv]))
    generalize upd H3 u (.tup [.str "not", fv]) = Ha at ga ta hfa ⊢
    refine ⟨(by show 3 ≤ sizeLine; decide), fun u2 hu2 => ?_⟩
    have gb := ga.trans (Go.new (S := S0) hu2 (.tup [.str "or", fv, .ref u]))
    have tb : Tr (upd Ha u2 (.tup [.str "or", fv, .ref u])) (Sn.or (.fact x) (.neg (.fact x))).d (.ref u2) := tr3 upd_same tr_str (hfa.go (Tk.new hu2 _)) (ta.go (Tk.new hu2 _))
    generalize upd Ha u2 (.tup [.str "or", fv, .ref u]) = Hb at gb tb ⊢
    refine ⟨W, v, _, _, rfl, hW.go gb.tk, tb, ok, (by show 3 ≤ 5; decide), fun v' Hc gc tc => ?_⟩
    obtain ⟨a, rfl, ha⟩ := tc.ints
    refine ⟨a, _, rfl, .inr (SqT.of ha), ?_⟩
    rw [List.length_map, S.d]
    refine ⟨_, rfl, rfl, ?_⟩
    have := q _ (gb.trans gc)
    simpa using this
end
end Kn
/-! ## the plain law: what the hands know -/
namespace Kn
open PySem L2
section
variable {W : Wd} {M : Mc} {sts : List (List Int)}
theorem mem_tps {bs : List Bool} {k : Int} : k ∈ tps bs ↔ (0 ≤ k ∧ k < bs.length) ∧ bs.getD k.toNat false = true := by
  unfold tps
  rw [List.mem_filter, mem_ixs]
theorem mem_holds {s : Sn} {k : Int} : k ∈ W.holds s ↔ (0 ≤ k ∧ k < W.n) ∧ (W.jd s).getD k.toNat false = true := by
  unfold Wd.holds
  rw [mem_tps, W.jd_length]
theorem getD_ixs {n : Nat} {f : Int → Bool} {k : Int} (h0 : 0 ≤ k) (h1 : k < n) : ((ixs n).map f).getD k.toNat false = f k := by
  have e : (k.toNat : Int) = k := by omega
  rw [List.getD_eq_getElem?_getD, List.getElem?_map, ixs_get (show k.toNat < n by omega), e]
  rfl
theorem mem_led {h : Str} {k o : Int} : o ∈ W.led h k ↔ (0 ≤ o ∧ o < W.n) ∧ o ∈ W.part h k := by
  unfold Wd.led
  rw [List.mem_filter, mem_ixs, List.contains_iff_mem]
theorem mem_ev {h : Str} {s : Sn} {k : Int} : k ∈ W.holds (.ev h s) ↔ (0 ≤ k ∧ k < W.n) ∧ ∀ o ∈ W.led h k, o ∈ W.holds s := by
  rw [mem_holds]
  refine and_congr_right fun ⟨h0, h1⟩ => ?_
  rw [Wd.jd, getD_ixs h0 h1]
  unfold Wd.st
  rw [if_neg Bool.false_ne_true, List.all_map, List.all_eq_true]
  refine forall_congr' fun o => forall_congr' fun ho => ?_
  rw [mem_holds]
  have := (mem_led.mp ho).1
  exact ⟨fun h => ⟨this, h⟩, fun h => h.2⟩
theorem holds_ext {s t : Sn} (h : ∀ k, k ∈ W.holds s ↔ k ∈ W.holds t) : W.holds s = W.holds t := by
  unfold Wd.holds tps
  rw [W.jd_length, W.jd_length]
  refine List.filter_congr fun k hk => ?_
  have a := mem_ixs.mp hk
  have := h k
  rw [mem_holds, mem_holds] at this
  rw [Bool.eq_iff_iff]
  exact ⟨fun q => (this.mp ⟨a, q⟩).2, fun q => (this.mpr ⟨a, q⟩).2⟩
theorem holds_all {s : Sn} (h : ∀ k : Int, 0 ≤ k → k < W.n → k ∈ W.holds s) : (W.holds s).length = W.n := by
  have e : W.holds s = ixs W.n := by
    unfold Wd.holds tps
    rw [W.jd_length, List.filter_eq_self]
    intro k hk
    obtain ⟨h0, h1⟩ := mem_ixs.mp hk
    exact (mem_holds.mp (h k h0 h1)).2
  rw [e, ixs_length]
theorem holds_excl (s : Sn) : (W.holds (.or s (.neg s))).length = W.n := by
  refine holds_all fun k h0 h1 => mem_holds.mpr ⟨⟨h0, h1⟩, ?_⟩
  have hl := W.jd_length s
  have hk : k.toNat < (W.jd s).length := by omega
  rw [Wd.jd, Wd.jd, List.getD_eq_getElem?_getD, List.getElem?_zipWith, List.getElem?_map, List.getElem?_eq_getElem hk]
  show ((W.jd s)[k.toNat] || !(W.jd s)[k.toNat]) = true
  cases (W.jd s)[k.toNat] <;> rfl
/-- two points that a hand can't tell -/
abbrev Alike (M : Mc) (sts : List (List Int)) (seen : List Str) (k o : Int) : Prop := keyAt M seen (sts.getD k.toNat []) = keyAt M seen (sts.getD o.toNat [])
theorem headD_all {α : Type} {l : List (List α)} {x : List α} (hn : x ∈ l) (ha : ∀ y ∈ l, y = x) : l.headD [] = x := by
  cases l with
  | nil => cases hn
  | cons y r => exact ha y (List.mem_cons_self ..)
theorem part_is (wd : WdOf M sts W) (nd : (M.hands.map (·.1)).Nodup) {h : Str × List Str} (hh : h ∈ M.hands) {k : Int} (h0 : 0 ≤ k) (h1 : k < W.n) :
    W.part h.1 k = cls (sts.map (keyAt M h.2)) sts.length (keyAt M h.2 (sts.getD k.toNat [])) := by
  have hn := wd.n
  obtain ⟨i, hi, eh⟩ := List.mem_iff_getElem.mp hh
  have eh' : M.hands[i]? = some h := by rw [List.getElem?_eq_getElem hi, eh]
  obtain ⟨ps, es, pk⟩ := wd.sights i h eh'
  have hk : k.toNat < sts.length := by omega
  have ek : sts.getD k.toNat [] = sts[k.toNat] := by rw [List.getD_eq_getElem?_getD, List.getElem?_eq_getElem hk]; rfl
  have f : W.sights.find? (fun s => decide (s.1 = h.1)) = some (h.1, ps) := by
    refine find_first es (decide_eq_true rfl) fun j hj b hb => decide_eq_false fun e => ?_
    have hj' : j < M.hands.length := by omega
    obtain ⟨ps', e1, _⟩ := wd.sights j _ (List.getElem?_eq_getElem hj')
    rw [hb] at e1
    cases e1
    have a : (M.hands.map (·.1))[j]'(by rw [List.length_map]; exact hj') = (M.hands.map (·.1))[i]'(by rw [List.length_map]; exact hi) := by
      rw [List.getElem_map, List.getElem_map, eh]
      exact e
    have := (List.getElem_inj nd).mp a
    omega
  unfold Wd.part
  rw [f, ek]
  show ((ps.filter fun p => p.contains k).headD []) = _
  have len : (sts.map (keyAt M h.2)).length = sts.length := List.length_map ..
  have kk : (sts.map (keyAt M h.2))[k.toNat]? = some (keyAt M h.2 sts[k.toNat]) := by rw [List.getElem?_map, List.getElem?_eq_getElem hk]; rfl
  refine headD_all ?_ fun y hy => ?_
  · rw [List.mem_filter, List.contains_iff_mem]
    refine ⟨?_, mem_cls.mpr ⟨⟨h0, by omega⟩, kk⟩⟩
    have := pk.all _ (List.mem_of_getElem? kk)
    rw [len] at this
    exact this
  · rw [List.mem_filter, List.contains_iff_mem] at hy
    obtain ⟨key, hkey, e⟩ := pk.are y hy.1
    have m := hy.2
    rw [e] at m
    have := (mem_cls.mp m).2
    rw [kk] at this
    cases this
    rw [e, len]
theorem led_is (wd : WdOf M sts W) (nd : (M.hands.map (·.1)).Nodup) {h : Str × List Str} (hh : h ∈ M.hands) {k o : Int} (h0 : 0 ≤ k) (h1 : k < W.n) :
    o ∈ W.led h.1 k ↔ (0 ≤ o ∧ o < W.n) ∧ Alike M sts h.2 o k := by
  have hn := wd.n
  rw [mem_led, part_is wd nd hh h0 h1, mem_cls]
  refine and_congr_right fun ⟨o0, o1⟩ => ?_
  have ho : o.toNat < sts.length := by omega
  have eo : sts.getD o.toNat [] = sts[o.toNat] := by rw [List.getD_eq_getElem?_getD, List.getElem?_eq_getElem ho]; rfl
  unfold Alike
  rw [List.getElem?_map, List.getElem?_eq_getElem ho, eo]
  constructor
  · intro ⟨_, e⟩
    exact Option.some.inj e
  · intro e
    exact ⟨⟨o0, by omega⟩, congrArg some e⟩
/-- at points that a hand can't tell it knows the same -/
theorem knows_alike (wd : WdOf M sts W) (nd : (M.hands.map (·.1)).Nodup) {h : Str × List Str} (hh : h ∈ M.hands) {s : Sn} {k o : Int} (h0 : 0 ≤ k) (h1 : k < W.n) (o0 : 0 ≤ o) (o1 : o < W.n) (al : Alike M sts h.2 k o) :
    k ∈ W.holds (.ev h.1 s) ↔ o ∈ W.holds (.ev h.1 s) := by
  rw [mem_ev, mem_ev]
  have e : ∀ x, x ∈ W.led h.1 k ↔ x ∈ W.led h.1 o := fun x => by
    rw [led_is wd nd hh h0 h1, led_is wd nd hh o0 o1]
    refine and_congr_right fun _ => ?_
    unfold Alike at al ⊢
    rw [al]
  constructor
  · intro ⟨_, q⟩
    exact ⟨⟨o0, o1⟩, fun x hx => q x ((e x).mpr hx)⟩
  · intro ⟨_, q⟩
    exact ⟨⟨h0, h1⟩, fun x hx => q x ((e x).mp hx)⟩
theorem alike_sub {a b : List Str} (sub : ∀ x ∈ a, x ∈ b) {k o : Int} (h : Alike M sts b k o) : Alike M sts a k o := by
  unfold Alike keyAt at h ⊢
  rw [List.map_inj_left] at h ⊢
  exact fun x hx => h x (sub x hx)
theorem alike_all (so : StsOk M sts) (nd : M.names.Nodup) {b : List Str} (all : ∀ x ∈ M.names, x ∈ b) {k o : Int} (h0 : 0 ≤ k) (h1 : k < sts.length) (o0 : 0 ≤ o) (o1 : o < sts.length) (h : Alike M sts b k o) : k = o := by
  have hk : k.toNat < sts.length := by omega
  have ho : o.toNat < sts.length := by omega
  unfold Alike keyAt at h
  rw [List.map_inj_left] at h
  rw [List.getD_eq_getElem?_getD, List.getElem?_eq_getElem hk, List.getD_eq_getElem?_getD, List.getElem?_eq_getElem ho] at h
  have lk := (so.ok _ (List.getElem_mem hk)).1
  have lo := (so.ok _ (List.getElem_mem ho)).1
  have ln : M.names.length = M.boxes.length := List.length_map ..
  have e : sts[k.toNat] = sts[o.toNat] := by
    refine List.ext_getElem (by rw [lk, lo]) fun i hi1 hi2 => ?_
    have hin : i < M.names.length := by omega
    have q := h _ (all _ (List.getElem_mem hin))
    have ix : M.names.idxOf M.names[i] = i := List.Nodup.idxOf_getElem nd i hin
    rw [ix] at q
    change (sts[k.toNat]).getD i 0 = (sts[o.toNat]).getD i 0 at q
    rw [List.getD_eq_getElem?_getD, List.getElem?_eq_getElem hi1, List.getD_eq_getElem?_getD, List.getElem?_eq_getElem hi2] at q
    exact q
  have := (List.getElem_inj so.nd).mp e
  omega
theorem sees_of (wd : WdOf M sts W) (so : StsOk M sts) (nn : M.names.Nodup) {sa sb sc : List Str} (hh : M.hands = [(("a" : Str), sa), (("ab" : Str), sb), (("b" : Str), sc), (("c" : Str), ([] : List Str))]) (sub : ∀ x ∈ sa, x ∈ sb) (all : ∀ x ∈ M.names, x ∈ sc) : Sees W := by
  have hn := wd.n
  have nd : (M.hands.map (·.1)).Nodup := by
    rw [hh]
    show [("a" : Str), "ab", "b", "c"].Nodup
    decide +kernel
  have ma : (("a" : Str), sa) ∈ M.hands := by rw [hh]; simp
  have mb : (("ab" : Str), sb) ∈ M.hands := by rw [hh]; simp
  have mc : (("b" : Str), sc) ∈ M.hands := by rw [hh]; simp
  have md : (("c" : Str), ([] : List Str)) ∈ M.hands := by rw [hh]; simp
  refine ⟨fun s k hk => ?_, fun s => ?_, fun s => ?_, holds_excl⟩
  · obtain ⟨⟨h0, h1⟩, q⟩ := mem_ev.mp hk
    refine ⟨mem_ev.mpr ⟨⟨h0, h1⟩, fun o ho => ?_⟩, ?_⟩
    · obtain ⟨oo, al⟩ := (led_is wd nd mb h0 h1).mp ho
      exact q o ((led_is wd nd ma h0 h1).mpr ⟨oo, alike_sub sub al⟩)
    · exact q k ((led_is wd nd ma h0 h1).mpr ⟨⟨h0, h1⟩, rfl⟩)
  · refine holds_ext fun k => ⟨fun hk => ?_, fun hk => ?_⟩
    · obtain ⟨⟨h0, h1⟩, q⟩ := mem_ev.mp hk
      exact q k ((led_is wd nd mc h0 h1).mpr ⟨⟨h0, h1⟩, rfl⟩)
    · obtain ⟨⟨h0, h1⟩, q⟩ := mem_holds.mp hk
      refine mem_ev.mpr ⟨⟨h0, h1⟩, fun o ho => ?_⟩
      obtain ⟨⟨o0, o1⟩, al⟩ := (led_is wd nd mc h0 h1).mp ho
      rw [alike_all so nn all o0 (by omega) h0 (by omega) al]
      exact hk
  · cases e : W.holds (.ev "c" s) with
    | nil => exact .inl rfl
    | cons k r =>
      rw [← e]
      have hk : k ∈ W.holds (.ev "c" s) := by rw [e]; exact List.mem_cons_self ..
      obtain ⟨⟨h0, h1⟩, q⟩ := mem_ev.mp hk
      exact .inr (holds_all fun o o0 o1 => (knows_alike wd nd md h0 h1 o0 o1 rfl).mp hk)
theorem wd_ok (wd : WdOf M sts W) (so : StsOk M sts) (hl : M.hands.length ≤ 100) : W.Ok := by
  have hn := wd.n
  have few := so.few
  have at' : ∀ s ∈ W.sights, ∃ h : Str × List Str, s.1 = h.1 ∧ PartsOk (sts.map (keyAt M h.2)) s.2 := fun s hs => by
    obtain ⟨i, hi, e⟩ := List.mem_iff_getElem.mp hs
    have hi' : i < M.hands.length := by rw [← wd.slen]; exact hi
    obtain ⟨ps, e1, pk⟩ := wd.sights i _ (List.getElem?_eq_getElem hi')
    rw [List.getElem?_eq_getElem hi, e] at e1
    cases e1
    exact ⟨_, rfl, pk⟩
  refine ⟨by omega, Nat.le_trans wd.facts (by decide), by rw [wd.slen]; omega, fun s hs => ?_, fun s hs k h0 h1 => ?_⟩
  · obtain ⟨h, _, pk⟩ := at' s hs
    have := pk.len
    rw [List.length_map] at this
    omega
  · obtain ⟨h, _, pk⟩ := at' s hs
    have hk : k.toNat < sts.length := by omega
    have kk : (sts.map (keyAt M h.2))[k.toNat]? = some (keyAt M h.2 sts[k.toNat]) := by rw [List.getElem?_map, List.getElem?_eq_getElem hk]; rfl
    refine ⟨_, pk.all _ (List.mem_of_getElem? kk), ?_⟩
    rw [List.contains_iff_mem, mem_cls, List.length_map]
    exact ⟨⟨h0, by omega⟩, kk⟩
end
end Kn
/-! ## law -/
namespace Kn
open PySem L2
theorem sql_scr {K : PySem.W.Frag} {H : Hp} {sa tp : Addr} {xs : List V} {o : HO} (h : SqL K H sa xs) (n : H tp = none) : ∀ H', Go (St1 tp) (upd H tp o) H' → SqL K H' sa xs := fun H' g => by
  have old : ∀ u, H sa = some u → H' sa = some u := fun u e => g.old _ _ (fun z => by rw [z, n] at e; cases e) (by rw [upd_ne (fun z => by rw [z, n] at e; cases e)]; exact e)
  rcases h with h | h
  · rcases h with h | ⟨u, h⟩
    · exact .inl (.inl (old _ h))
    · exact .inl (.inr ⟨u, old _ h⟩)
  · exact .inr h
theorem cat_join {K : PySem.W.Frag} {H : Hp} {a b : Addr} {xs ys : List V} {Q : VK} (ha : H a = some (.tup xs)) (hb : H b = some (.tup ys)) (hl : xs.length + ys.length ≤ 1000) (q : ∀ p H', Go S0 H H' → H' p = some (.tup (xs ++ ys)) → Q (.ref p) H') : rCatA K (.ref a) (.ref b) H Q := by
  refine ⟨a, b, xs, ys, rfl, rfl, SqT.of ha, SqT.of hb, Nat.le_trans hl (by decide), fun e => ?_, fun _ e => ?_, fun _ _ p hp => q _ _ (Go.new hp _) upd_same⟩
  · subst e
    exact q _ _ Go.refl hb
  · subst e
    refine q _ _ Go.refl ?_
    rw [List.append_nil]
    exact ha
/-- what stands in the dict of the keys met -/
structure MetOk (key : Nat → List Int) (b : Nat → Bool) (i : Nat) (kvs : List (List Key × V)) : Prop where
  len : kvs.length ≤ i
  are : ∀ p ∈ kvs, ∃ j, j < i ∧ p.1 = (key j).map Sum.inl ∧ p.2 = V.bl (b j)
abbrev deepS : Sn := .sm "ab" (.ev "a" (.fact "z"))
section
variable {P : Program} {w : World} {K : PySem.W.Frag} {mg : Str → Option Value} {base : Heap}
def sp_law (K : PySem.W.Frag) : Sp := fun vs H Q _ => ∃ (sa : Addr) (ns : List Int), vs = [.ref sa] ∧ SqL K H sa (ns.map V.int) ∧ ns.length ≤ 63 ∧ ∀ H', Q (.bl true) H'
theorem ok_law (T : Tx K mg) (TM : Tm K mg) : FnOk P w K mg base CX0 12 T.d_law.a T.d_law.fd P_law (sp_law K) := by
  have G_machine := ok_machine (P := P) (w := w) (base := base) T
  have G_some_names := ok_some_names (P := P) (w := w) (base := base) T
  have G_sum := ok_sum (P := P) (w := w) (base := base) T 3
  have G_told := ok_told (P := P) (w := w) (base := base) T TM
  have G_knows := ok_knows (P := P) (w := w) (base := base) T
  have G_fact_right := ok_fact_right (P := P) (w := w) (base := base) T
  refine T.d_law.F.ok sc_law (fun vs H Q E h => ?_) (fun cdv A outer s H vs Q E hr h => ?_)
  · obtain ⟨sa, ns, rfl, _⟩ := h
    rfl
  obtain ⟨sa, ns, rfl, hS, h63, q⟩ := h
  have hu1 := hu_of hr
  refine ⟨_, (pss_cons (ps_set (i := 1) sc_law.nd rfl (Or.inl rfl) (pe_lst (pa_cons (pv 0) (pa_cons pe_int pa_nil))))
  (pss_cons (ps_asg (pe_call G_machine (hr.mono (by omega)) rfl T.d_machine.m T.d_machine.F.kp (b_machine T.d_machine) .nil pass0 (pa_cons (pv 1) pa_nil)) (pgt K (n := 4) rfl (pgs_cons (pg_name (i := 2) sc_law.nd rfl (by first | exact Or.inl rfl | exact Or.inr rfl)) (pgs_cons (pg_name (i := 3) sc_law.nd rfl (by first | exact Or.inl rfl | exact Or.inr rfl)) (pgs_cons (pg_name (i := 4) sc_law.nd rfl (by first | exact Or.inl rfl | exact Or.inr rfl)) (pgs_cons (pg_name (i := 5) sc_law.nd rfl (by first | exact Or.inl rfl | exact Or.inr rfl)) pgs_nil))))))
  (pss_cons (ps_set (i := 6) sc_law.nd rfl (Or.inr rfl) (pe_lc (own := [("_law_box_here", 7)]) (by rfl) sc_law.nd (pit K (pv 2)) (blkOk_by (N := N_law) (sc := defScope s_law) (by decide +kernel)) (fun _ _ _ _ _ => (pg_name (i := 7) sc_law.nd rfl (by first | exact Or.inl rfl | exact Or.inr rfl))) (fun _ _ _ _ _ => pts_nil) (fun _ _ _ _ _ => (pe_ix (xt K) (pv 7) pe_int (fun _ _ => rfl)))))
  (pss_cons (ps_set (i := 8) sc_law.nd rfl (Or.inl rfl) (pe_call G_some_names (hr.mono (by omega)) rfl T.d_some_names.m T.d_some_names.F.kp (b_some_names T.d_some_names) .nil pass0 (pa_cons (pv 1) (pa_cons (pv 6) pa_nil))))
  (pss_cons (ps_set (i := 9) sc_law.nd rfl (Or.inl rfl) (pe_callTy (ctup K) (by rfl) T.z_tuple (by decide +kernel) (pa_cons (pe_callB (cr_sortX w rfl) (by rfl) T.z_sorted (by decide +kernel) (pa_cons (pe_callTy (cr_setX K w rfl) (by rfl) T.z_set (by decide +kernel) (pa_cons (pe_op (ocat K) (pv 8) (pe_call G_some_names (hr.mono (by omega)) rfl T.d_some_names.m T.d_some_names.F.kp (b_some_names T.d_some_names) .nil pass0 (pa_cons (pv 1) (pa_cons (pv 6) pa_nil)))) pa_nil)) pa_nil)) pa_nil)))
  (pss_cons (ps_set (i := 3) sc_law.nd rfl (Or.inl rfl) (pe_tup (pa_cons (pe_tup (pa_cons pe_str (pa_cons (pv 8) pa_nil))) (pa_cons (pe_tup (pa_cons pe_str (pa_cons (pv 9) pa_nil))) (pa_cons (pe_tup (pa_cons pe_str (pa_cons (pe_callTy (ctup K) (by rfl) T.z_tuple (by decide +kernel) (pa_cons (pe_callB (csortS K) (by rfl) T.z_sorted (by decide +kernel) (pa_cons (pv 6) pa_nil)) pa_nil)) pa_nil))) (pa_cons (pe_tup (pa_cons pe_str (pa_cons (pe_tup pa_nil) pa_nil))) pa_nil))))))
  (pss_cons (ps_set (i := 5) sc_law.nd rfl (Or.inl rfl) (pe_op (ocat K) (pv 5) (pe_tup (pa_cons (pe_tup (pa_cons pe_str (pa_cons (pe_call G_sum (hr.mono (by omega)) rfl T.d_sum.m T.d_sum.F.kp (b_sum T.d_sum) .nil pass0 (pa_cons (pv 1) (pa_cons (pv 6) (pa_cons pe_int pa_nil)))) pa_nil))) pa_nil))))
  (pss_cons (ps_set (i := 10) sc_law.nd rfl (Or.inl rfl) (pe_call G_told (hr.mono (by omega)) rfl T.d_told.m T.d_told.F.kp (b_told T.d_told) .nil pass0 (pa_cons (pe_tup (pa_cons (pv 2) (pa_cons (pv 3) (pa_cons (pv 4) (pa_cons (pv 5) pa_nil))))) pa_nil)))
  (pss_cons (ps_if (pt_cmpR op_isN (pv 10) pe_non (nomark _))
  (pss_one (ps_ret pe_bl))
  pss_nil)
  (pss_cons (ps_asg (pv 10) (pgt K (n := 2) rfl (pgs_cons (pg_name (i := 11) sc_law.nd rfl (by first | exact Or.inl rfl | exact Or.inr rfl)) (pgs_cons (pg_name (i := 12) sc_law.nd rfl (by first | exact Or.inl rfl | exact Or.inr rfl)) pgs_nil))))
  (pss_cons (ps_set (i := 13) sc_law.nd rfl (Or.inr rfl) (pe_callB (clen K) (by rfl) T.z_len (by decide +kernel) (pa_cons (pv 12) pa_nil)))
  (pss_cons (ps_if (pt_not (pt_val (pe_callB (call' K rfl) (by rfl) T.z_all (by decide +kernel) (pa_cons (pe_lc (own := [("_law_name", 14), ("_law_one", 15)]) (by rfl) sc_law.nd (pit K (pv 5)) (blkOk_by (N := N_law) (sc := defScope s_law) (by decide +kernel)) (fun _ _ _ _ _ => (pgt K (n := 2) rfl (pgs_cons (pg_name (i := 14) sc_law.nd rfl (by first | exact Or.inl rfl | exact Or.inr rfl)) (pgs_cons (pg_name (i := 15) sc_law.nd rfl (by first | exact Or.inl rfl | exact Or.inr rfl)) pgs_nil)))) (fun _ _ _ _ _ => pts_nil) (fun _ _ _ _ _ => (pe_call G_fact_right (hr.mono (by omega)) rfl T.d_fact_right.m T.d_fact_right.F.kp (b_fact_right T.d_fact_right) .nil pass0 (pa_cons (pv 11) (pa_cons (pv 13) (pa_cons (pe_tup (pa_cons pe_str (pa_cons (pv 14) pa_nil))) pa_nil)))))) pa_nil))))
  (pss_one (ps_ret pe_bl))
  pss_nil)
  (pss_cons (ps_set (i := 16) sc_law.nd rfl (Or.inl rfl) (pe_tup (pa_cons pe_str (pa_cons (pe_tup (pa_cons pe_str (pa_cons (pe_tup (pa_cons pe_str pa_nil)) pa_nil))) (pa_cons (pe_tup (pa_cons pe_str (pa_cons (pe_tup (pa_cons pe_str (pa_cons (pe_tup (pa_cons pe_str pa_nil)) pa_nil))) (pa_cons (pe_tup (pa_cons pe_str (pa_cons pe_str pa_nil))) pa_nil)))) pa_nil)))))
  (pss_cons (ps_for PassesOwn.never rfl (pit K (pv 3)) (pgt K (n := 2) rfl (pgs_cons (pg_name (i := 17) sc_law.nd rfl (by first | exact Or.inl rfl | exact Or.inr rfl)) (pgs_cons (pg_name (i := 18) sc_law.nd rfl (by first | exact Or.inl rfl | exact Or.inr rfl)) pgs_nil)))
  (pss_cons (ps_set (i := 19) sc_law.nd rfl (Or.inl rfl) (pe_call G_knows (hr.mono (by omega)) rfl T.d_knows.m T.d_knows.F.kp (b_knows T.d_knows) .nil pass0 (pa_cons (pv 11) (pa_cons (pv 17) (pa_cons (pv 16) pa_nil)))))
  (pss_cons (ps_set (i := 20) sc_law.nd rfl (Or.inl rfl) pe_dnewT)
  (pss_one (ps_for PassesOwn.never rfl (pi_range1 rfl T.z_range (pa_cons (pv 13) pa_nil)) (pg_name (i := 21) sc_law.nd rfl (by first | exact Or.inl rfl | exact Or.inr rfl))
  (pss_cons (ps_set (i := 22) sc_law.nd rfl (Or.inl rfl) (pe_callTy (ctup K) (by rfl) T.z_tuple (by decide +kernel) (pa_cons (pe_lc (own := [("_law_name", 14)]) (by rfl) sc_law.nd (pit K (pv 18)) (blkOk_by (N := N_law) (sc := defScope s_law) (by decide +kernel)) (fun _ _ _ _ _ => (pg_name (i := 14) sc_law.nd rfl (by first | exact Or.inl rfl | exact Or.inr rfl))) (fun _ _ _ _ _ => pts_nil) (fun _ _ _ _ _ => (pe_ix (xt K) (pe_ix (xl K) (pv 12) (pv 21) (fun _ _ => rfl)) (pbm K PySem.F.plainAttrs_list PySem.F.slot_list_index PySem.F.type_list_index (mindex K) (pv 6) (pa_cons (pv 14) pa_nil)) (fun _ _ => rfl)))) pa_nil)))
  (pss_one (ps_if (pt_cmpR op_ne (pe_dsetdT hu1 (pv 20) (pv 22) (pe_cmpR (oin K) (pv 21) (pv 19) (by rfl)) ⟨rfl, rfl, rfl, rfl⟩) (pe_cmpR (oin K) (pv 21) (pv 19) (by rfl)) (nomark _))
  (pss_one (ps_ret pe_bl))
  pss_nil))))))))
  (pss_one (ps_ret pe_bl)))))))))))))))), ?_⟩
  rw [show L2.start N_law [V.ref sa] = [some (.ref sa), none, none, none, none, none, none, none, none, none, none, none, none, none, none, none, none, none, none, none, none, none, none] from rfl]
  have two : 2 ≤ sizeLine := by decide
  have cS2 : cS 2 = 64 := rfl
  refine ⟨_, rfl, two, fun tp htp => ?_⟩
  have t1 : Tape K tp sa ns 0 (upd H tp (.lst [.ref sa, .int 0])) := ⟨upd_same, sql_scr hS htp, h63, Int.le_refl 0⟩
  generalize upd H tp (.lst [.ref sa, .int 0]) = H1 at t1 ⊢
  refine ⟨_, rfl, tp, sa, ns, 0, rfl, t1, by omega, fun v H2 k2 g2 t2 hk2 ⟨a, bv, hv, dv, fv, bs, ds, fs, e, ha, tbs, tds, tfs, mk⟩ => ?_⟩
  subst e
  obtain ⟨ba, bvs, rfl, hb, ht⟩ := tbs.tup_of
  have hl := ht.length
  rw [List.length_map] at hl
  have len4 := mk.len4
  have k20 := t2.pos
  refine ⟨a, _, rfl, SqT.of ha, rfl, _, _, rfl, _, _, rfl, _, _, rfl, _, _, rfl, rfl, ?_⟩
  refine ⟨_, rfl, ba, rfl, ⟨_, SqT.of hb⟩, fun ln hln => ?_⟩
  refine lcT (xs := bvs) S0 (fun i acc H' => acc = ((bs.take i).map (·.nm)).map V.str) hb hln (by omega) rfl ?_ ?_
  · rintro i z acc H3 Kt Kf hz hD g3 rfl kt kf
    obtain ⟨d, hd, td⟩ := ht.get hz
    obtain ⟨bx, ebx, rfl⟩ := map_get hd
    obtain ⟨c, x1, x2, x3, x4, rfl, hc, u1, u2, u3, u4⟩ := Tr.four (d := .str bx.nm) (e := .int bx.lo) (f := .int bx.hi) (g := .int bx.ft) td
    cases u1.str_of
    refine ⟨rfl, ?_⟩
    refine ⟨_, rfl, _, _, _, _, rfl, rfl, SqT.of (g3.tk _ _ hc), rfl, kt _ _ hD g3 ?_⟩
    rw [take_map_succ ebx, List.map_append]
    rfl
  rintro acc H3 hln3 hle g3 rfl
  rw [show bs.take bvs.length = bs by rw [← hl]; exact List.take_length ..] at hln3
  have lt := t2.ne hln
  have t3 := t2.go g3
  have nm3 : Nm tp H3 ln (bs.map (·.nm)) := ⟨hln3, lt, mk.txt⟩
  have nl : (bs.map (·.nm)).length = bs.length := List.length_map ..
  have tb3 := tbs.go g3.tk
  have td3 := tds.go g3.tk
  have tf3 := tfs.go g3.tk
  have fS := mk.fact
  have dS := mk.deed
  have nodup := mk.nodup
  generalize enm : bs.map (·.nm) = names at nm3 nl fS dS nodup ⊢
  refine ⟨_, rfl, _, rfl, tp, sa, ns, k2, ln, names, rfl, t3, by omega, by omega, nm3, fun v4 H4 k4 g4 t4 hk4 ⟨xs, tx, xl4, xin⟩ => ?_⟩
  obtain ⟨xa, xvs, rfl, hxa, htx⟩ := tx.tup_of
  cases htx.strs_of
  have nm4 := nm3.go g4
  refine ⟨_, rfl, _, rfl, _, rfl, tp, sa, ns, k4, ln, names, rfl, t4, by omega, by omega, nm4, fun v5 H5 k5 g5 t5 hk5 ⟨ys, ty, yl4, yin⟩ => ?_⟩
  obtain ⟨ya, yvs, rfl, hya, hty⟩ := ty.tup_of
  cases hty.strs_of
  have hxa5 := g5.tk _ _ hxa
  refine cat_join hxa5 hya (by rw [List.length_map, List.length_map]; omega) fun ca H6 g6 hca => ?_
  rw [← List.map_append] at hca
  refine ⟨ca, xs ++ ys, rfl, hca, by rw [List.length_append]; omega, fun sq l hsq hll hmem => ?_⟩
  have g7 := g6.trans (Go.new (S := S0) hsq (SetX w sq l))
  have hs7 : upd H6 sq (SetX w sq l) sq = some (SetX w sq l) := upd_same
  generalize upd H6 sq (SetX w sq l) = H7 at g7 hs7 ⊢
  refine ⟨sq, l, rfl, hs7, (by rw [List.length_append] at hll; omega), fun sl zs hsl hzm hzl => ?_⟩
  have g8 := g7.trans (Go.new (S := S0) hsl (.lst (zs.map V.str)))
  have hs8 : upd H7 sl (.lst (zs.map V.str)) sl = some (.lst (zs.map V.str)) := upd_same
  generalize upd H7 sl (.lst (zs.map V.str)) = H8 at g8 hs8 ⊢
  refine ⟨sl, _, rfl, .inl ⟨SqL.of hs8, fun za hza => ?_⟩⟩
  have g9 := g8.trans (Go.new (S := S0) hza (.tup (zs.map V.str)))
  have hza9 : upd H8 za (.tup (zs.map V.str)) za = some (.tup (zs.map V.str)) := upd_same
  generalize upd H8 za (.tup (zs.map V.str)) = H9 at g9 hza9 ⊢
  have zmem : ∀ x, x ∈ zs ↔ x ∈ xs ∨ x ∈ ys := fun x => by rw [hzm, hmem, List.mem_append]
  have zl : zs.length ≤ 8 := by rw [List.length_append] at hll; omega
  have t9 := t5.go g9
  have gg : Go (St1 tp) H3 H9 := (g4.trans g5).trans g9.wk
  have tb9 := tb3.go gg.tk
  have td9 := td3.go gg.tk
  have tf9 := tf3.go gg.tk
  have nm9 := nm3.go gg
  have tx9 : Tr H9 (.tup (xs.map D.str)) (.ref xa) := tr_tup ((g5.trans g9.wk).tk _ _ hxa) trl_strs
  have tz9 : Tr H9 (.tup (zs.map D.str)) (.ref za) := tr_tup hza9 trl_strs
  clear gg g9 hza9 hs8 hs7 g8 g7 g6 hca hmem hll hzm hzl hsq hsl hza hxa hxa5 hya htx hty g4 g5 tx ty tb3 td3 tf3 nm3 nm4 t3 t4 hln3
  -- the hands
  refine ⟨_, rfl, two, fun p1 hp1 => ?_⟩
  have ga := Go.new (S := S0) hp1 (.tup [.str "a", .ref xa])
  have s1 : Tr (upd H9 p1 (.tup [.str "a", .ref xa])) (seenD ("a", xs)) (.ref p1) := tr2 upd_same tr_str (tx9.go (Tk.new hp1 _))
  generalize upd H9 p1 (.tup [.str "a", .ref xa]) = Ha at ga s1 ⊢
  refine ⟨_, rfl, two, fun p2 hp2 => ?_⟩
  have nb := Go.new (S := S0) hp2 (.tup [.str "ab", .ref za])
  have gb := ga.trans nb
  have s2 : Tr (upd Ha p2 (.tup [.str "ab", .ref za])) (seenD ("ab", zs)) (.ref p2) := tr2 upd_same tr_str (tz9.go gb.tk)
  have s1b := s1.go nb.tk
  generalize upd Ha p2 (.tup [.str "ab", .ref za]) = Hb at gb s1b s2 ⊢
  refine ⟨_, rfl, ln, names, rfl, SqL.of (nm9.go gb.wk).1, by omega, fun bn lb hpm _ hlb => ?_⟩
  have nc := Go.new (S := S0) hlb (.lst (bn.map V.str))
  have hlb' : upd Hb lb (.lst (bn.map V.str)) lb = some (.lst (bn.map V.str)) := upd_same
  have gc := gb.trans nc
  have s1c := s1b.go nc.tk
  have s2c := s2.go nc.tk
  generalize upd Hb lb (.lst (bn.map V.str)) = Hc at gc hlb' s1c s2c ⊢
  refine ⟨lb, _, rfl, .inl ⟨SqL.of hlb', fun ub hub => ?_⟩⟩
  have nd := Go.new (S := S0) hub (.tup (bn.map V.str))
  have gd := gc.trans nd
  have tbn : Tr (upd Hc ub (.tup (bn.map V.str))) (.tup (bn.map D.str)) (.ref ub) := tr_tup upd_same trl_strs
  have s1d := s1c.go nd.tk
  have s2d := s2c.go nd.tk
  generalize upd Hc ub (.tup (bn.map V.str)) = Hd at gd tbn s1d s2d ⊢
  refine ⟨two, fun p3 hp3 => ?_⟩
  have ne := Go.new (S := S0) hp3 (.tup [.str "b", .ref ub])
  have ge := gd.trans ne
  have s3 : Tr (upd Hd p3 (.tup [.str "b", .ref ub])) (seenD ("b", bn)) (.ref p3) := tr2 upd_same tr_str (tbn.go (Tk.new hp3 _))
  have s1e := s1d.go ne.tk
  have s2e := s2d.go ne.tk
  generalize upd Hd p3 (.tup [.str "b", .ref ub]) = He at ge s3 s1e s2e ⊢
  refine ⟨Nat.zero_le _, fun p4 hp4 => ?_⟩
  have nf := Go.new (S := S0) hp4 (.tup [])
  have gf := ge.trans nf
  have t0f : Tr (upd He p4 (.tup [])) (.tup (([] : List Str).map D.str)) (.ref p4) := tr_tup upd_same trl_nil
  have s1f := s1e.go nf.tk
  have s2f := s2e.go nf.tk
  have s3f := s3.go nf.tk
  generalize upd He p4 (.tup []) = Hf at gf t0f s1f s2f s3f ⊢
  refine ⟨two, fun p5 hp5 => ?_⟩
  have ng := Go.new (S := S0) hp5 (.tup [.str "c", .ref p4])
  have gg := gf.trans ng
  have s4 : Tr (upd Hf p5 (.tup [.str "c", .ref p4])) (seenD ("c", [])) (.ref p5) := tr2 upd_same tr_str (t0f.go (Tk.new hp5 _))
  have s1g := s1f.go ng.tk
  have s2g := s2f.go ng.tk
  have s3g := s3f.go ng.tk
  generalize upd Hf p5 (.tup [.str "c", .ref p4]) = Hg at gg s4 s1g s2g s3g ⊢
  refine ⟨(by show 4 ≤ sizeLine; decide), fun ph hph => ?_⟩
  have nh := Go.new (S := S0) hph (.tup [.ref p1, .ref p2, .ref p3, .ref p5])
  have gh := gg.trans nh
  have thd : Tr (upd Hg ph (.tup [.ref p1, .ref p2, .ref p3, .ref p5])) (.tup ([(("a" : Str), xs), (("ab" : Str), zs), (("b" : Str), bn), (("c" : Str), ([] : List Str))].map seenD)) (.ref ph) :=
    tr4 upd_same (s1g.go nh.tk) (s2g.go nh.tk) (s3g.go nh.tk) (s4.go nh.tk)
  generalize upd Hg ph (.tup [.ref p1, .ref p2, .ref p3, .ref p5]) = Hh at gh thd ⊢
  have th := t9.go gh
  have nmh := nm9.go gh.wk
  have tbh := tb9.go gh.tk
  have tdh := td9.go gh.tk
  have tfh := tf9.go gh.tk
  clear s1 s1b s1c s1d s1e s1f s1g s2 s2c s2d s2e s2f s2g s3 s3f s3g s4 ga gb gc gd ge gf gg nb nc nd ne nf ng nh tbn t0f gh tb9 td9 tf9 nm9 t9 tx9 tz9 hp1 hp2 hp3 hp4 hp5 hph hlb hub hlb'
  -- the facts
  obtain ⟨fa, fvs, rfl, hfa, tfv⟩ := tfh.tup_of
  have fll := tfv.length
  rw [List.length_map] at fll
  have flen := mk.flen
  refine ⟨_, rfl, _, rfl, _, rfl, tp, sa, ns, k5, ln, names, 2, rfl, by omega, by omega, th, by omega, nmh, fun vz Hi ki gi ti hki ⟨dz, rz, tz⟩ => ?_⟩
  refine ⟨two, fun pz hpz => ?_⟩
  have nj := Go.new (S := S0) hpz (.tup [.str "z", vz])
  have tzj : Tr (upd Hi pz (.tup [.str "z", vz])) (layD ("z", dz)) (.ref pz) := tr2 upd_same tr_str (tz.go (Tk.new hpz _))
  have gj : Go (St1 tp) Hh (upd Hi pz (.tup [.str "z", vz])) := gi.trans nj.wk
  generalize upd Hi pz (.tup [.str "z", vz]) = Hj at gj tzj ⊢
  refine ⟨(by show 1 ≤ sizeLine; decide), fun py hpy => ?_⟩
  have nk := Go.new (S := S0) hpy (.tup [.ref pz])
  have gk : Go (St1 tp) Hh (upd Hj py (.tup [.ref pz])) := gj.trans nk.wk
  have hpy' : upd Hj py (.tup [.ref pz]) py = some (.tup [.ref pz]) := upd_same
  have tzk := tzj.go nk.tk
  generalize upd Hj py (.tup [.ref pz]) = Hk at gk hpy' tzk ⊢
  have tfk : TrL Hk ((fs ++ [(("z" : Str), dz)]).map layD) (fvs ++ [.ref pz]) := by
    rw [List.map_append]
    exact (tfv.go gk.tk).snoc tzk
  refine cat_join (gk.tk _ _ hfa) hpy' (by show fvs.length + 1 ≤ 1000; omega) fun pf Hl gl hpf => ?_
  have tfl : Tr Hl (.tup ((fs ++ [(("z" : Str), dz)]).map layD)) (.ref pf) := tr_tup hpf (tfk.go gl.tk)
  have gL : Go (St1 tp) Hh Hl := gk.trans gl.wk
  refine ⟨_, rfl, _, rfl, _, rfl, _, rfl, (by show 4 ≤ sizeLine; decide), fun pm hpm' => ?_⟩
  have nm' := Go.new (S := S0) hpm' (.tup [.ref ba, .ref ph, dv, .ref pf])
  have tkm := gL.tk.trans nm'.tk
  have tM : Tr (upd Hl pm (.tup [.ref ba, .ref ph, dv, .ref pf])) (Mc.d ⟨bs, [(("a" : Str), xs), (("ab" : Str), zs), (("b" : Str), bn), (("c" : Str), ([] : List Str))], ds, fs ++ [(("z" : Str), dz)]⟩) (.ref pm) :=
    tr4 upd_same (tbh.go tkm) (thd.go tkm) (tdh.go tkm) (tfl.go nm'.tk)
  have nmm : Nm tp (upd Hl pm (.tup [.ref ba, .ref ph, dv, .ref pf])) ln names := nmh.go (gL.trans nm'.wk)
  have thm := thd.go tkm
  have tfm := tfl.go nm'.tk
  generalize upd Hl pm (.tup [.ref ba, .ref ph, dv, .ref pf]) = Hm at tM nmm thm tfm ⊢
  have bnl := hpm.length_eq
  have okM : Mc.Ok ⟨bs, [(("a" : Str), xs), (("ab" : Str), zs), (("b" : Str), bn), (("c" : Str), ([] : List Str))], ds, fs ++ [(("z" : Str), dz)]⟩ := by
    refine ⟨by show bs.length ≤ 10; omega, by show (bs.map (·.nm)).Nodup; rw [enm]; exact nodup, mk.box, by show 4 ≤ 100; decide, fun h hh => ?_, Nat.le_trans mk.dlen (by decide), fun d hd => ?_, by show (fs ++ [_]).length ≤ 100; rw [List.length_append]; show fs.length + 1 ≤ 100; omega, fun f hf => ?_⟩
    · show h.2.length ≤ 100 ∧ ∀ x ∈ h.2, x ∈ bs.map (·.nm)
      rw [enm]
      rcases List.mem_cons.mp hh with rfl | hh
      · exact ⟨by show xs.length ≤ 100; omega, xin⟩
      rcases List.mem_cons.mp hh with rfl | hh
      · exact ⟨by show zs.length ≤ 100; omega, fun x hx => ((zmem x).mp hx).elim (xin x) (yin x)⟩
      rcases List.mem_cons.mp hh with rfl | hh
      · exact ⟨by show bn.length ≤ 100; omega, fun x hx => hpm.mem_iff.mp hx⟩
      rw [List.mem_singleton.mp hh]
      exact ⟨Nat.zero_le _, fun x hx => by cases hx⟩
    · show RkD (bs.map (·.nm)) 2 d.1 ∧ _
      have := dS d hd
      rw [← enm] at this
      exact this
    · show RkD (bs.map (·.nm)) 2 f.2
      rw [enm]
      rcases List.mem_append.mp hf with h | h
      · exact fS f h
      · rw [List.mem_singleton.mp h]
        exact rz
  refine ⟨_, .ref pm, rfl, tM, okM, fun H' g => ?_, fun t wv sl H' sts svs W g ht' tW hsl tS so wd => ?_⟩
  · exact ⟨_, rfl, rfl, _, rfl, ifT rfl (q _)⟩
  -- told
  have S : Sees W := sees_of wd so okM.nodup rfl (fun x hx => (zmem x).mpr (.inl hx)) (fun x hx => hpm.mem_iff.mpr (by rw [← enm]; exact hx))
  have okW : W.Ok := wd_ok wd so okM.hands
  have nmW := nmm.go g.wk
  have thW := thm.go g.tk
  have tfW := tfm.go g.tk
  have Wn := wd.n
  have Sl := tS.length
  rw [List.length_map] at Sl
  have few := so.few
  have seenM := okM.seen
  have sok := so.ok
  have mnl : bs.length ≤ 4 := len4
  have hnd := okM.nodup
  clear tM okM tbh tdh tfh thd thm tfm tfl nmm nmh gL tkm hpm' tzk tz gk gi th ti hpz hpy hfa tfv fS dS mk rz
  generalize eM : Mc.mk bs [(("a" : Str), xs), (("ab" : Str), zs), (("b" : Str), bn), (("c" : Str), ([] : List Str))] ds (fs ++ [(("z" : Str), dz)]) = M at so wd seenM hnd
  have eN : M.names = names := by rw [← eM]; exact enm
  have eH : M.hands = [(("a" : Str), xs), (("ab" : Str), zs), (("b" : Str), bn), (("c" : Str), ([] : List Str))] := by rw [← eM]
  have mbl : M.names.length = M.boxes.length := List.length_map ..
  have hnm : (M.hands.map (·.1)).Nodup := by
    rw [eH]
    show [("a" : Str), "ab", "b", "c"].Nodup
    decide +kernel
  clear eM
  refine ⟨_, rfl, rfl, _, rfl, ifF (decide_eq_false (fun e => nomatch e)) ?_⟩
  refine ⟨_, rfl, t, _, rfl, SqT.of ht', rfl, _, _, rfl, _, _, rfl, rfl, ?_⟩
  refine ⟨_, rfl, sl, _, rfl, .inl (SqL.of hsl), ?_⟩
  rw [show svs.length = W.n by omega]
  obtain ⟨pa, pvs, e, hpa, tpv⟩ := tfW.tup_of
  cases e
  have pl := tpv.length
  rw [List.length_map, List.length_append] at pl
  have pl' : pvs.length ≤ 6 := by
    have e : ([((("z" : Str), dz) : Str × D)] : List (Str × D)).length = 1 := rfl
    omega
  refine ⟨_, rfl, pf, rfl, ⟨_, SqT.of hpa⟩, fun D0 hD0 => ?_⟩
  simp only [List.set_cons_succ, List.set_cons_zero]
  refine lcT (xs := pvs) S0 (fun i acc H' => acc = (List.replicate i true).map V.bl) hpa hD0 (by omega) rfl ?_ ?_
  · rintro i z acc H7 Kt Kf hz hD7 g7 rfl kt kf
    obtain ⟨d, hd, td⟩ := tpv.get hz
    obtain ⟨f, ef, rfl⟩ := map_get hd
    obtain ⟨c, x1, x2, rfl, hc, u1, u2⟩ := Tr.two (d := .str f.1) (e := f.2) td
    cases u1.str_of
    refine ⟨c, _, rfl, SqT.of (g7.tk _ _ hc), rfl, _, _, rfl, _, _, rfl, rfl, rfl, ?_⟩
    refine ⟨_, rfl, _, rfl, _, rfl, two, fun pq hpq => ?_⟩
    have n8 := Go.new (S := S0) hpq (.tup [.str "fact", .str f.1])
    refine ⟨W, wv, .ref pq, f.1, rfl, tW.go (g7.trans n8).tk, tr2 upd_same tr_str tr_str, okW, S, fun H8 g8 => kt _ _ ((n8.trans g8).old _ _ id hD7) (g7.trans (n8.trans g8)) ?_⟩
    rw [List.replicate_succ', List.map_append]
    rfl
  rintro acc H7 hD7 hle7 g7 rfl
  refine ⟨D0, _, rfl, SqL.of hD7, _, rfl, ?_⟩
  rw [show (List.replicate pvs.length true).all id = true by simp]
  refine ifF rfl ?_
  -- the deep sentence
  refine ⟨(by show 1 ≤ sizeLine; decide), fun d1 hd1 => ?_⟩
  have na := Go.new (S := S0) hd1 (.tup [.str "ab"])
  have w1 : Tr (upd H7 d1 (.tup [.str "ab"])) (.tup [.str "ab"]) (.ref d1) := tr1 upd_same tr_str
  generalize upd H7 d1 (.tup [.str "ab"]) = Ha at na w1 ⊢
  refine ⟨two, fun d2 hd2 => ?_⟩
  have nb := Go.new (S := S0) hd2 (.tup [.str "one", .ref d1])
  have w2 : Tr (upd Ha d2 (.tup [.str "one", .ref d1])) (oneD "ab") (.ref d2) := tr2 upd_same tr_str (w1.go nb.tk)
  have gb := na.trans nb
  generalize upd Ha d2 (.tup [.str "one", .ref d1]) = Hb at gb w2 ⊢
  refine ⟨(by show 1 ≤ sizeLine; decide), fun d3 hd3 => ?_⟩
  have nc := Go.new (S := S0) hd3 (.tup [.str "a"])
  have w3 : Tr (upd Hb d3 (.tup [.str "a"])) (.tup [.str "a"]) (.ref d3) := tr1 upd_same tr_str
  have w2c := w2.go nc.tk
  have gc := gb.trans nc
  generalize upd Hb d3 (.tup [.str "a"]) = Hc at gc w2c w3 ⊢
  refine ⟨two, fun d4 hd4 => ?_⟩
  have nd := Go.new (S := S0) hd4 (.tup [.str "one", .ref d3])
  have w4 : Tr (upd Hc d4 (.tup [.str "one", .ref d3])) (oneD "a") (.ref d4) := tr2 upd_same tr_str (w3.go nd.tk)
  have w2d := w2c.go nd.tk
  have gd := gc.trans nd
  generalize upd Hc d4 (.tup [.str "one", .ref d3]) = Hd at gd w2d w4 ⊢
  refine ⟨two, fun d5 hd5 => ?_⟩
  have ne := Go.new (S := S0) hd5 (.tup [.str "fact", .str "z"])
  have w5 : Tr (upd Hd d5 (.tup [.str "fact", .str "z"])) (Sn.fact "z").d (.ref d5) := tr2 upd_same tr_str tr_str
  have w2e := w2d.go ne.tk
  have w4e := w4.go ne.tk
  have ge := gd.trans ne
  generalize upd Hd d5 (.tup [.str "fact", .str "z"]) = He at ge w2e w4e w5 ⊢
  refine ⟨(by show 3 ≤ sizeLine; decide), fun d6 hd6 => ?_⟩
  have nf := Go.new (S := S0) hd6 (.tup [.str "every", .ref d4, .ref d5])
  have w6 : Tr (upd He d6 (.tup [.str "every", .ref d4, .ref d5])) (Sn.ev "a" (.fact "z")).d (.ref d6) := tr3 upd_same tr_str (w4e.go nf.tk) (w5.go nf.tk)
  have w2f := w2e.go nf.tk
  have gf := ge.trans nf
  generalize upd He d6 (.tup [.str "every", .ref d4, .ref d5]) = Hf at gf w2f w6 ⊢
  refine ⟨(by show 3 ≤ sizeLine; decide), fun d7 hd7 => ?_⟩
  have ng := Go.new (S := S0) hd7 (.tup [.str "some", .ref d2, .ref d6])
  have w7 : Tr (upd Hf d7 (.tup [.str "some", .ref d2, .ref d6])) (Sn.sm "ab" (.ev "a" (.fact "z"))).d (.ref d7) := tr3 upd_same tr_str (w2f.go ng.tk) (w6.go ng.tk)
  have gg := gf.trans ng
  generalize upd Hf d7 (.tup [.str "some", .ref d2, .ref d6]) = Hg at gg w7 ⊢
  have gG := g7.trans gg
  have tWg := tW.go gG.tk
  have nmg := nmW.go gG.wk
  have hslg := gG.old _ _ id hsl
  have tSg := tS.go gG.tk
  obtain ⟨ha, hvs, e, hha, thv⟩ := (thW.go gG.tk).tup_of
  cases e
  clear w1 w2 w2c w2d w2e w2f w3 w4 w4e w5 w6 na nb nc nd ne nf ng gb gc gd ge gf gg hd1 hd2 hd3 hd4 hd5 hd6 hd7 g7 hle7 hD7 hD0 hpa tpv pl pl' thW nmW tfW tW
  refine ⟨_, rfl, _, rfl, ⟨_, SqT.of hha⟩, ?_⟩
  refine for_tup (xs := hvs) (fun i σ H' => (∃ o14 o15 o17 o18 o19 o20 o21 o22, σ = [some (.ref sa), some (.ref tp), some (.ref ba), some (.ref ph), some dv, some (.ref pf), some (.ref ln), none, some (.ref xa), some (.ref za), some (.ref t), some wv, some (.ref sl), some (.int W.n), o14, o15, some (.ref d7), o17, o18, o19, o20, o21, o22]) ∧ Go S0 Hg H')
    ⟨⟨_, _, _, _, _, _, _, _, rfl⟩, Go.refl⟩ (fun i σ H' _ ⟨_, g⟩ => SqT.of (g.tk _ _ hha)) ?_ ?_
  · rintro i z σ Hi hz ⟨⟨o14, o15, o17, o18, o19, o20, o21, o22, rfl⟩, g⟩
    obtain ⟨d, ed, td⟩ := thv.get hz
    obtain ⟨h, eh, rfl⟩ := map_get ed
    obtain ⟨c, x1, x2, rfl, hc, u1, u2⟩ := Tr.two (d := .str h.1) (e := .tup (h.2.map D.str)) td
    cases u1.str_of
    obtain ⟨se, ses, rfl, hse, tse⟩ := u2.tup_of
    cases tse.strs_of
    have hh : h ∈ M.hands := by rw [eH]; exact List.mem_of_getElem? eh
    refine ⟨c, _, rfl, SqT.of (g.tk _ _ hc), rfl, _, _, rfl, _, _, rfl, rfl, ?_⟩
    refine ⟨_, rfl, _, rfl, _, rfl, W, wv, .ref d7, deepS, h.1, rfl, tWg.go g.tk, w7.go g.tk, okW, (by show 3 ≤ 4; decide), fun vk Hk gk tk => ?_⟩
    obtain ⟨ka, rfl, hka⟩ := tk.ints
    refine fun md hmd => ?_
    have n1 := Go.new (S := S0) hmd (.dT [])
    refine ⟨_, rfl, _, rfl, by omega, by omega, ?_⟩
    rw [Int.toNat_natCast]
    refine for_range (lo := 0) (n := W.n) (fun j σ H' => (∃ o14 o21 o22, σ = [some (.ref sa), some (.ref tp), some (.ref ba), some (.ref ph), some dv, some (.ref pf), some (.ref ln), none, some (.ref xa), some (.ref za), some (.ref t), some wv, some (.ref sl), some (.int W.n), o14, o15, some (.ref d7), some (.str h.1), some (.ref se), some (.ref ka), some (.ref md), o21, o22]) ∧ Go S0 Hk H' ∧
        ∃ kvs, H' md = some (.dT kvs) ∧ MetOk (fun j => keyAt M h.2 (sts.getD j [])) (fun j => (W.holds (.ev h.1 deepS)).contains (j : Int)) j kvs)
      ⟨⟨_, _, _, rfl⟩, n1, [], upd_same, Nat.le_refl _, fun p hp => (by cases hp)⟩ ?_ ?_
    · rintro j σ Hj hj ⟨⟨p14, p21, p22, rfl⟩, g2, kvs, hD, inv⟩
      rw [Int.zero_add]
      have hjs : j < sts.length := by omega
      have est : sts[j]? = some sts[j] := List.getElem?_eq_getElem hjs
      have egd : sts.getD j [] = sts[j] := by rw [List.getD_eq_getElem?_getD, est]; rfl
      obtain ⟨x, hx, tx⟩ := tSg.get' (i := j) (d := D.ints sts[j]) (by rw [List.getElem?_map, est]; rfl)
      obtain ⟨stb, rfl, hstb⟩ := tx.ints
      have gJ := (g.trans gk).trans g2
      have slen := (so.ok _ (List.getElem_mem hjs)).1
      refine ⟨_, rfl, se, rfl, ⟨_, SqT.of (gJ.tk _ _ hse)⟩, fun D1 hD1 => ?_⟩
      simp only [List.set_cons_succ, List.set_cons_zero]
      refine lcT (xs := h.2.map V.str) S0 (fun m acc H' => acc = ((h.2.take m).map fun x => sts[j].getD (M.names.idxOf x) 0).map V.int) (gJ.tk _ _ hse) hD1 (by rw [List.length_map]; have := (seenM h hh).1; omega) rfl ?_ ?_
      · rintro m z acc H6 Kt Kf hz6 hD6 g6 rfl kt kf
        obtain ⟨x, ex, rfl⟩ := map_get hz6
        have hxn : x ∈ M.names := (seenM h hh).2 x (List.mem_of_getElem? ex)
        have hxi := idx_get hxn
        have hil : M.names.idxOf x < sts[j].length := by
          have := (List.getElem?_eq_some_iff.mp hxi).1
          rw [slen, ← mbl]
          exact this
        have nm6 := (nmg.go (gJ.trans g6).wk).1
        rw [← eN] at nm6
        have hsl6 := (gJ.trans g6).old _ _ id hslg
        refine ⟨rfl, _, rfl, _, rfl, sl, _, _, _, rfl, rfl, SqL.of hsl6, atI_nat hx, ?_⟩
        refine ⟨_, rfl, .inl ⟨rfl, _, SqL.of nm6⟩, _, rfl, ln, _, _, M.names.idxOf x, .str x, rfl, rfl, SqL.of nm6, rfl, flat_strs _, by rw [List.getElem?_map, hxi]; rfl, (by show (x == x) = true; exact beq_self_eq_true x), fun m' z' hm' hz' => ?_, ?_⟩
        · obtain ⟨y, ey, rfl⟩ := map_get hz'
          show (y == x) = false
          rw [beq_eq_false_iff_ne]
          rintro rfl
          obtain ⟨l1, e1⟩ := List.getElem?_eq_some_iff.mp ey
          obtain ⟨l2, e2⟩ := List.getElem?_eq_some_iff.mp hxi
          have := (List.getElem_inj hnd).mp (e1.trans e2.symm)
          omega
        · refine ⟨stb, _, _, _, rfl, rfl, SqT.of ((gJ.trans g6).tk _ _ hstb), atI_nat (by rw [List.getElem?_map, List.getElem?_eq_getElem hil]; rfl), kt _ _ hD6 g6 ?_⟩
          rw [take_map_succ ex, List.map_append]
          congr 1
          show [V.int _] = [V.int _]
          rw [List.getD_eq_getElem?_getD, List.getElem?_eq_getElem hil]
          rfl
      · rintro acc H6 hD6 hle6 g6 rfl
        rw [List.length_map, List.take_length] at hD6
        refine ⟨D1, _, rfl, .inl ⟨SqL.of hD6, fun t1 ht1 => ?_⟩⟩
        have g7 := g6.trans (Go.new (S := S0) ht1 (.tup ((h.2.map fun x => sts[j].getD (M.names.idxOf x) 0).map V.int)))
        have ht7 : upd H6 t1 (.tup ((h.2.map fun x => sts[j].getD (M.names.idxOf x) 0).map V.int)) t1 = some (.tup ((keyAt M h.2 sts[j]).map V.int)) := upd_same
        generalize upd H6 t1 (.tup ((h.2.map fun x => sts[j].getD (M.names.idxOf x) 0).map V.int)) = H7 at g7 ht7 ⊢
        have hD7 := g7.old _ _ id hD
        have hka7 := (g2.trans g7).tk _ _ hka
        refine ⟨_, rfl, md, rfl, .inr ⟨_, .inl hD7⟩, _, rfl, _, rfl, _, rfl, ka, _, rfl, .inr (SqT.of hka7), rfl, flat_ints _, ?_⟩
        rw [if_neg Bool.false_ne_true, inV_int]
        have ilen := inv.len
        refine ⟨kvs, (keyAt M h.2 sts[j]).map Sum.inl, t1, hD7, rfl, by rw [keyMap]; exact ht7, lt_line (by omega), fun v hv => ?_, fun hv => ?_⟩
        · obtain ⟨j', hj', e1, e2⟩ := inv.are _ (valV_mem hv)
          have ek := inl_inj e1
          have eb : (W.holds (.ev h.1 deepS)).contains (j' : Int) = (W.holds (.ev h.1 deepS)).contains (j : Int) := by
            have al : Alike M sts h.2 (j' : Int) (j : Int) := by
              unfold Alike
              rw [Int.toNat_natCast, Int.toNat_natCast, egd]
              exact ek.symm
            have := knows_alike wd hnm hh (s := deepS) (k := (j' : Int)) (o := (j : Int)) (by omega) (by omega) (by omega) (by omega) al
            rw [Bool.eq_iff_iff, List.contains_iff_mem, List.contains_iff_mem]
            exact this
          have e2' : v = V.bl ((W.holds (.ev h.1 deepS)).contains (j' : Int)) := e2
          rw [e2', eb]
          refine ⟨_, rfl, _, rfl, ka, _, rfl, .inr (SqT.of hka7), rfl, flat_ints _, ?_⟩
          rw [if_neg Bool.false_ne_true, inV_int]
          refine ⟨rfl, _, rfl, ?_⟩
          rw [decide_eq_true rfl]
          exact ifF rfl ⟨⟨_, _, _, rfl⟩, g2.trans g7, kvs, hD7, Nat.le_succ_of_le inv.len, fun p hp => (inv.are p hp).elim fun a b => ⟨a, by omega, b.2⟩⟩
        · have g8 := (g2.trans g7).trans (Go.refl)
          have hka8 := (Tk.putT hD7 (.dT (putK kvs ((keyAt M h.2 sts[j]).map Sum.inl) (V.bl ((W.holds (.ev h.1 deepS)).contains (j : Int)))))) _ _ hka7
          refine ⟨_, rfl, _, rfl, ka, _, rfl, .inr (SqT.of hka8), rfl, flat_ints _, ?_⟩
          rw [if_neg Bool.false_ne_true, inV_int]
          refine ⟨rfl, _, rfl, ?_⟩
          rw [decide_eq_true rfl]
          refine ifF rfl ⟨⟨_, _, _, rfl⟩, (g2.trans g7).set hmd _, _, upd_same, ?_, fun p hp => ?_⟩
          · have := putK_le kvs ((keyAt M h.2 sts[j]).map Sum.inl) (V.bl ((W.holds (.ev h.1 deepS)).contains (j : Int)))
            omega
          · rcases putK_keys kvs _ _ p hp with e | ⟨e, _⟩
            · subst e
              exact ⟨j, Nat.lt_succ_self j, by rw [egd], rfl⟩
            · obtain ⟨a, b1, b2⟩ := inv.are p e
              exact ⟨a, by omega, b2⟩
    · rintro σ Hz ⟨⟨p14, p21, p22, rfl⟩, g2, _⟩
      exact ⟨⟨_, _, _, _, _, _, _, _, rfl⟩, (g.trans gk).trans g2⟩
  · rintro σ Hz ⟨⟨o14, o15, o17, o18, o19, o20, o21, o22, rfl⟩, g⟩
    exact q _
end
end Kn
/-! ## the program's top -/
namespace Kn
open PySem L2
section
variable {K : PySem.W.Frag} {h : Heap} {mg : Str → Option Value}
def df_mk (X : K.In h) (G : h.Ns mainGlobals mg) {x : Str} {st : Stmt} {f : Addr} {od an : Option Addr} {sl : Array (Option Value)} {oc kV dc pm cd ct : Value} (a : PySem.W.nsIn K mainGlobals x = some (some (.ref f)))
    (l : K.lookup f = some ⟨oc, od, .func (PySem.W.fnOf x x (defArgs st) (defBody st) (defScope st) .none kV dc pm an cd ct), sl⟩) (c : PySem.W.codeIn K cd x = true) (k : PySem.W.keepIn K (.ref f) = true) : Df K mg x st :=
  ⟨f, PySem.W.mg_of X G a, _, fun_mk (st := st) l c k⟩
/-- an error of the class at S is what «except S» names -/
theorem exm_self {S : Addr} (h1 : PySem.W.subIn K (.ref S) (.type "BaseException") = some true) (h2 : PySem.W.isClsIn K S = true) (h3 : PySem.W.typeIn K (.ref S) = some (.type "type")) (h4 : PySem.W.subIn K (.ref S) (.ref S) = some true) :
    PySem.W.exmOne K (.ref S) (.ref S) = some true := by
  have e1 : (PySem.W.subIn K (.ref S) (.type "BaseException") == some true) = true := by rw [h1] <;> rfl
  have e2 : ((PySem.W.clsIn K S).isSome && PySem.W.typeIn K (.ref S) == some (.type "type")) = true := by
    have h2' : (PySem.W.clsIn K S).isSome = true := h2
    rw [h2', h3] <;> rfl
  show (if (PySem.W.subIn K (.ref S) (.type "BaseException") == some true) = true then (if ((PySem.W.clsIn K S).isSome && PySem.W.typeIn K (.ref S) == some (.type "type")) = true then PySem.W.subIn K (.ref S) (.ref S) else none) else none) = some true
  rw [if_pos e1, if_pos e2]
  exact h4
def tm_mk (X : K.In h) (G : h.Ns mainGlobals mg) {C W f : Addr} {nm q : Str} {N : Addr} {bs : List Value} {sn : List Str} {sub : List Value} {ab : Bool} {col : Option Bool} {dd : Option Addr} {m0 m1 m2 m3 m5 : Option Value}
    {od an : Option Addr} {sl : Array (Option Value)} {oc kV dc pm cd ct : Value}
    (aC : PySem.W.nsIn K mainGlobals "TooMany" = some (some (.ref C))) (aW : PySem.W.nsIn K mainGlobals "WorldError" = some (some (.ref W)))
    (xL : K.lookup C = some (excClassObj nm q C N bs [.ref W, .type "ValueError", .type "Exception", .type "BaseException", .type "object"] true sn sub ab col dd m0 m1 m2 m3 m5 "ValueError.__new__"))
    (sa : PySem.W.findIn K (.ref C) "__setattr__" = some (some (.builtin "object.__setattr__"))) (eC : PySem.W.subIn K (.ref C) (.type "BaseException") = some true) (yC : PySem.W.typeIn K (.ref C) = some (.type "type")) (kC : PySem.W.keepIn K (.ref C) = true)
    (iC : PySem.W.findIn K (.ref C) "__init__" = some (some (.ref f))) (tI : PySem.W.typeIn K (.ref f) = some (.type "function"))
    (gW : PySem.W.specialIn K (.ref W) "__getattribute__" = some (some (.builtin "type.__getattribute__"))) (rW : PySem.W.readsIn K W (.type "type") = true)
    (vW : PySem.W.findCls K (.ref W) (.type "type") "__init__" = some (.val (.builtin "ValueError.__init__"))) (hC : PySem.W.isClsIn K C = true) (sC : PySem.W.subIn K (.ref C) (.ref C) = some true)
    (lI : K.lookup f = some ⟨oc, od, .func (PySem.W.fnOf "__init__" "TooMany.__init__" (defArgs s_tm) (defBody s_tm) (defScope s_tm) .none kV dc pm an cd ct), sl⟩) (cI : PySem.W.codeIn K cd "TooMany.__init__" = true) (kI : PySem.W.keepIn K (.ref f) = true) : Tm K mg :=
  { C := C, W := W, fI := f, fd := _, gC := PySem.W.mg_of X G aC, gW := PySem.W.mg_of X G aW, oex := ⟨⟨nm, q, N, bs, _, sn, sub, ab, col, dd, m0, m1, m2, m3, m5, xL, rfl⟩, sa, eC, yC, kC⟩, iC := iC, tI := tI, gaW := gW, rdW := rW, vW := vW,
    te := exm_self eC hC yC sC, F := fun_mk (st := s_tm) lI cI kI }
theorem most_mk (X : K.In h) (G : h.Ns mainGlobals mg) {t : Tok} (a : PySem.W.nsIn K mainGlobals "MOST_POINTS" = some (some (.int 60 t))) : ∃ t, mg "MOST_POINTS" = some (.int 60 t) := ⟨t, PySem.W.mg_of X G a⟩
theorem binds_law (d : Df K mg "law" s_law) (s : Shared) (u : Value) : BindsTo s d.fd ⟨[u], []⟩ [("_law_script", u)] := by
  obtain ⟨a, m, fd, ⟨⟨oc, od, kV, doc, pm, an, cdv, ct, osl, e, l, c⟩, k⟩⟩ := d
  subst e
  exact .of_eq rfl
theorem end_mk {P : Program} {w : World} {fa : Addr} (X : K.In h) (G : h.Ns mainGlobals mg) (hfa : mg "law" = some (.ref fa)) (T : Tx K mg) (TM : Tm K mg) :
    ∃ fd : FuncData, (∀ (s : Shared) (v : Value), BindsTo s fd ⟨[v], []⟩ [("_law_script", v)]) ∧ ∀ base : Heap, K.In base → base.Ns mainGlobals mg → FnOk P w K mg base CX0 12 fa fd ["_law_script"] (sp_law K) := by
  have e := hfa.symm.trans T.d_law.m
  have e' : fa = T.d_law.a := by
    injection e with e
    injection e
  subst e'
  exact ⟨T.d_law.fd, binds_law T.d_law, fun base _ _ => ok_law T TM⟩
end
theorem walk {l : PySem.W.OpenLaw} {q : Program} {loose : List Str} {XP : (Str → Option Value) → Heap → Prop} {YP : World → Heap → Prop} {d : DefRec} {K : Params → PySem.W.Frag} (hn : l.most = some 63) (hdf : d.params.defaults = [])
    (hY : ∀ (w : World) (h : Heap), YP w h → (K w.params).In h)
    (F : ∀ (w : World) (mg : Str → Option Value) (fa : Addr) (h : Heap), (K w.params).In h → h.Ns mainGlobals mg → mg d.name = some (.ref fa) →
      ∃ fd : FuncData, (∀ (s : Shared) (u : Value), BindsTo s fd ⟨[u], []⟩ [("_law_script", u)]) ∧ ∀ base : Heap, (K w.params).In base → base.Ns mainGlobals mg → FnOk l.prog w (K w.params) mg base CX0 12 fa fd ["_law_script"] (sp_law (K w.params))) :
    PySem.W.WalkO q loose XP YP l.row.toRowW d [] (fun f vs => PySem.call f vs) :=
  L2.walk_of (n := 63) (k := 12) (x := "_law_script") (CX := fun _ => CX0) (sp := fun w => sp_law (K w.params)) hn (by decide) hdf ⟨rfl, by decide, by decide⟩ hY F (fun _ _ a ns hl _ hS => ⟨a, ns, rfl, hS, hl, fun _ => rfl⟩) fun _ _ _ _ _ z => z
end Kn
open PySem PySem.W PyProof.Rows
set_option maxRecDepth 100000 in
set_option maxHeartbeats 0 in
theorem PySem.Challenge.cw_worldsay_k78_whole_who_sees_more_holds : PySem.Challenge.rw_worldsay_k78_whole_who_sees_more.Holds := by
  w_on; o_law; k_head; (case hw => w_witness2)
  k_fill
  refine Kn.walk (l := PySem.Challenge.rw_worldsay_k78_whole_who_sees_more) rfl rfl (fun w h Y => PySem.W.kIn_of Y) ?F
  case F =>
    intro w mg fa h KX G hmg
    refine' Kn.end_mk KX G hmg
      ⟨(Kn.df_mk (x := "reckoned") (st := Kn.s_reckoned) KX G ?a0 ?l0 ?c0 ?k0),
        (Kn.df_mk (x := "first_state") (st := Kn.s_first_state) KX G ?a1 ?l1 ?c1 ?k1),
        (Kn.df_mk (x := "values_of") (st := Kn.s_values_of) KX G ?a2 ?l2 ?c2 ?k2),
        (Kn.df_mk (x := "laid") (st := Kn.s_laid) KX G ?a3 ?l3 ?c3 ?k3),
        (Kn.df_mk (x := "done_at") (st := Kn.s_done_at) KX G ?a4 ?l4 ?c4 ?k4),
        (Kn.df_mk (x := "states_of") (st := Kn.s_states_of) KX G ?a5 ?l5 ?c5 ?k5),
        (Kn.df_mk (x := "parts_by") (st := Kn.s_parts_by) KX G ?a6 ?l6 ?c6 ?k6),
        (Kn.df_mk (x := "world_of") (st := Kn.s_world_of) KX G ?a7 ?l7 ?c7 ?k7),
        (Kn.df_mk (x := "many_points") (st := Kn.s_many_points) KX G ?a8 ?l8 ?c8 ?k8),
        (Kn.df_mk (x := "points_of") (st := Kn.s_points_of) KX G ?a9 ?l9 ?c9 ?k9),
        (Kn.df_mk (x := "part_of") (st := Kn.s_part_of) KX G ?a10 ?l10 ?c10 ?k10),
        (Kn.df_mk (x := "led") (st := Kn.s_led) KX G ?a11 ?l11 ?c11 ?k11),
        (Kn.df_mk (x := "true_points") (st := Kn.s_true_points) KX G ?a12 ?l12 ?c12 ?k12),
        (Kn.df_mk (x := "stepped") (st := Kn.s_stepped) KX G ?a13 ?l13 ?c13 ?k13),
        (Kn.df_mk (x := "judged") (st := Kn.s_judged) KX G ?a14 ?l14 ?c14 ?k14),
        (Kn.df_mk (x := "holds") (st := Kn.s_holds) KX G ?a15 ?l15 ?c15 ?k15),
        (Kn.df_mk (x := "_law_cell_at") (st := Kn.s_cell_at) KX G ?a16 ?l16 ?c16 ?k16),
        (Kn.df_mk (x := "_law_by") (st := Kn.s_by) KX G ?a17 ?l17 ?c17 ?k17),
        (Kn.df_mk (x := "_law_next") (st := Kn.s_next) KX G ?a18 ?l18 ?c18 ?k18),
        (Kn.df_mk (x := "_law_number") (st := Kn.s_number) KX G ?a19 ?l19 ?c19 ?k19),
        (Kn.df_mk (x := "_law_sum") (st := Kn.s_sum) KX G ?a20 ?l20 ?c20 ?k20),
        (Kn.df_mk (x := "_law_names") (st := Kn.s_names) KX G ?a21 ?l21 ?c21 ?k21),
        (Kn.df_mk (x := "_law_box") (st := Kn.s_box) KX G ?a22 ?l22 ?c22 ?k22),
        (Kn.df_mk (x := "_law_some_names") (st := Kn.s_some_names) KX G ?a23 ?l23 ?c23 ?k23),
        (Kn.df_mk (x := "_law_deed") (st := Kn.s_deed) KX G ?a24 ?l24 ?c24 ?k24),
        (Kn.df_mk (x := "_law_machine") (st := Kn.s_machine) KX G ?a25 ?l25 ?c25 ?k25),
        (Kn.df_mk (x := "_law_told") (st := Kn.s_told) KX G ?a26 ?l26 ?c26 ?k26),
        (Kn.df_mk (x := "_law_knows") (st := Kn.s_knows) KX G ?a27 ?l27 ?c27 ?k27),
        (Kn.df_mk (x := "_law_fact_right") (st := Kn.s_fact_right) KX G ?a28 ?l28 ?c28 ?k28),
        (Kn.df_mk (x := "law") (st := Kn.s_law) KX G ?a29 ?l29 ?c29 ?k29),
        (PySem.W.mg_none_of KX G ?z0),
        (PySem.W.mg_none_of KX G ?z1),
        (PySem.W.mg_none_of KX G ?z2),
        (PySem.W.mg_none_of KX G ?z3),
        (PySem.W.mg_none_of KX G ?z4),
        (PySem.W.mg_none_of KX G ?z5),
        (PySem.W.mg_none_of KX G ?z6),
        (PySem.W.mg_none_of KX G ?z7),
        (PySem.W.mg_none_of KX G ?z8),
        (PySem.W.mg_none_of KX G ?z9),
        (PySem.W.mg_none_of KX G ?z10),
        (PySem.W.mg_none_of KX G ?z11),
        (Kn.most_mk KX G ?aM)⟩
      (Kn.tm_mk KX G ?tC ?tW ?xL ?sa ?eC ?yC ?kC ?iC ?tI ?gW ?rW ?vW ?hC ?sC ?lI ?cI ?kI)
    (case a0 => k_is); (case l0 => k_is); (case c0 => k_is); (case k0 => k_is)
    (case a1 => k_is); (case l1 => k_is); (case c1 => k_is); (case k1 => k_is)
    (case a2 => k_is); (case l2 => k_is); (case c2 => k_is); (case k2 => k_is)
    (case a3 => k_is); (case l3 => k_is); (case c3 => k_is); (case k3 => k_is)
    (case a4 => k_is); (case l4 => k_is); (case c4 => k_is); (case k4 => k_is)
    (case a5 => k_is); (case l5 => k_is); (case c5 => k_is); (case k5 => k_is)
    (case a6 => k_is); (case l6 => k_is); (case c6 => k_is); (case k6 => k_is)
    (case a7 => k_is); (case l7 => k_is); (case c7 => k_is); (case k7 => k_is)
    (case a8 => k_is); (case l8 => k_is); (case c8 => k_is); (case k8 => k_is)
    (case a9 => k_is); (case l9 => k_is); (case c9 => k_is); (case k9 => k_is)
    (case a10 => k_is); (case l10 => k_is); (case c10 => k_is); (case k10 => k_is)
    (case a11 => k_is); (case l11 => k_is); (case c11 => k_is); (case k11 => k_is)
    (case a12 => k_is); (case l12 => k_is); (case c12 => k_is); (case k12 => k_is)
    (case a13 => k_is); (case l13 => k_is); (case c13 => k_is); (case k13 => k_is)
    (case a14 => k_is); (case l14 => k_is); (case c14 => k_is); (case k14 => k_is)
    (case a15 => k_is); (case l15 => k_is); (case c15 => k_is); (case k15 => k_is)
    (case a16 => k_is); (case l16 => k_is); (case c16 => k_is); (case k16 => k_is)
    (case a17 => k_is); (case l17 => k_is); (case c17 => k_is); (case k17 => k_is)
    (case a18 => k_is); (case l18 => k_is); (case c18 => k_is); (case k18 => k_is)
    (case a19 => k_is); (case l19 => k_is); (case c19 => k_is); (case k19 => k_is)
    (case a20 => k_is); (case l20 => k_is); (case c20 => k_is); (case k20 => k_is)
    (case a21 => k_is); (case l21 => k_is); (case c21 => k_is); (case k21 => k_is)
    (case a22 => k_is); (case l22 => k_is); (case c22 => k_is); (case k22 => k_is)
    (case a23 => k_is); (case l23 => k_is); (case c23 => k_is); (case k23 => k_is)
    (case a24 => k_is); (case l24 => k_is); (case c24 => k_is); (case k24 => k_is)
    (case a25 => k_is); (case l25 => k_is); (case c25 => k_is); (case k25 => k_is)
    (case a26 => k_is); (case l26 => k_is); (case c26 => k_is); (case k26 => k_is)
    (case a27 => k_is); (case l27 => k_is); (case c27 => k_is); (case k27 => k_is)
    (case a28 => k_is); (case l28 => k_is); (case c28 => k_is); (case k28 => k_is)
    (case a29 => k_is); (case l29 => k_is); (case c29 => k_is); (case k29 => k_is)
    (case z0 => k_is)
    (case z1 => k_is)
    (case z2 => k_is)
    (case z3 => k_is)
    (case z4 => k_is)
    (case z5 => k_is)
    (case z6 => k_is)
    (case z7 => k_is)
    (case z8 => k_is)
    (case z9 => k_is)
    (case z10 => k_is)
    (case z11 => k_is)
    (case aM => k_is)
    (case tC => k_is)
    (case tW => k_is)
    (case xL => k_is)
    (case sa => k_is)
    (case eC => k_is)
    (case yC => k_is)
    (case kC => k_is)
    (case iC => k_is)
    (case tI => k_is)
    (case gW => k_is)
    (case rW => k_is)
    (case vW => k_is)
    (case hC => k_is)
    (case sC => first | rfl | k_is)
    (case lI => k_is)
    (case cI => k_is)
    (case kI => k_is)
#print axioms PySem.Challenge.cw_worldsay_k78_whole_who_sees_more_holds
