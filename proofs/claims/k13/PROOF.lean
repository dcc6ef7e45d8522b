import PyProof.Rows.All
import Wide.All
import OpenK.AllK
import Wide.FinOn
import HandS.ForMost
import HandS.Zip
import HandS.TupAny
import HandS.IsInst
import HandS.Deep
import HandS.Walk
import HandS.Wide
import HandS.Style
import HandS.More
import KE.GoesEnum
import HandS.SetFor
import KE.KSortedM
import HandS.Conv
import PySem.Challenge.RW_keyswithin_k13_whole_layings_are_houses
set_option Elab.async false
set_option linter.all false
set_option maxRecDepth 100000
set_option maxHeartbeats 4000000
namespace KL
open PySem PySem.Spec PyProof.Rows L2

/-! ### the weakest reading of a piece of syntax -/
def WE (X : Cx) (e : Expr) : TE := fun σ H Q => ∃ t, PE X e t ∧ t σ H Q
def WT (X : Cx) (e : Expr) : TT := fun σ H Q => ∃ t, PT X e t ∧ t σ H Q
def WTs (X : Cx) (es : List Expr) : TT := fun σ H Q => ∃ t, PTs X es t ∧ t σ H Q
def WA (X : Cx) (es : List Expr) : TA := fun σ H Q => ∃ t, PA X es t ∧ t σ H Q
def WS (X : Cx) (st : Stmt) : TS := fun D σ H => ∃ t, PS X st t ∧ t D σ H
def WSs (X : Cx) (st : List Stmt) : TS := fun D σ H => ∃ t, PSs X st t ∧ t D σ H
def WG (X : Cx) (tg : Expr) : TG := fun v σ H Q => ∃ t, PG X tg t ∧ t v σ H Q
def WGs (X : Cx) (tgs : List Expr) : TGs := fun vs σ H Q => ∃ t, PGs X tgs t ∧ t vs σ H Q
def WI (X : Cx) (tg iter : Expr) : TI := fun σ H R => ∃ t, PI X tg iter t ∧ t σ H R
section
variable {X : Cx}
theorem pe_we {e : Expr} : PE X e (WE X e) := ⟨fun pins s σ H Q I h => let ⟨t, ht, q⟩ := h; ht.run pins s σ H Q I q⟩
theorem pt_wt {e : Expr} : PT X e (WT X e) := ⟨fun pins s σ H Q I h => let ⟨t, ht, q⟩ := h; ht.run pins s σ H Q I q⟩
theorem pts_wt {es : List Expr} : PTs X es (WTs X es) := ⟨fun pins s σ H Q I h => let ⟨t, ht, q⟩ := h; ht.run pins s σ H Q I q⟩
theorem pa_wa {es : List Expr} : PA X es (WA X es) := ⟨fun pos pins s σ H Q I h => let ⟨t, ht, q⟩ := h; ht.run pos pins s σ H Q I q⟩
theorem ps_ws {st : Stmt} : PS X st (WS X st) := ⟨fun pins s σ H D I h => let ⟨t, ht, q⟩ := h; ht.run pins s σ H D I q⟩
theorem pss_ws {st : List Stmt} : PSs X st (WSs X st) := ⟨fun pins s σ H D I h => let ⟨t, ht, q⟩ := h; ht.run pins s σ H D I q⟩
theorem pg_wg {tg : Expr} : PG X tg (WG X tg) := ⟨fun pins s σ H v u Q I r h => let ⟨t, ht, q⟩ := h; ht.run pins s σ H v u Q I r q⟩
theorem pgs_wg {tgs : List Expr} : PGs X tgs (WGs X tgs) := ⟨fun pins s σ H v u Q I r h => let ⟨t, ht, q⟩ := h; ht.run pins s σ H v u Q I r q⟩
theorem pi_wi {tg iter : Expr} : PI X tg iter (WI X tg iter) := ⟨fun pins s σ H R I h => let ⟨t, ht, q⟩ := h; ht.run pins s σ H R I q⟩
end

/-! ### data of tuples and flat things -/
mutual
inductive TD (K : PySem.W.Frag) (H : Hp) : V → PyData → Prop
  | non : TD K H .non .none
  | bl (b : Bool) : TD K H (.bl b) (.bool b)
  | int (i : Int) : TD K H (.int i) (.int i)
  | str (x : Str) : TD K H (.str x) (.str x)
  | tup {a : Addr} {xs : List V} {ds : List PyData} : SqT K H a xs → TDs K H xs ds → TD K H (.ref a) (.tuple ds)
inductive TDs (K : PySem.W.Frag) (H : Hp) : List V → List PyData → Prop
  | nil : TDs K H [] []
  | cons {v : V} {vs : List V} {d : PyData} {ds : List PyData} : TD K H v d → TDs K H vs ds → TDs K H (v :: vs) (d :: ds)
end
def Tk (K : PySem.W.Frag) (H H' : Hp) : Prop := ∀ a xs, SqT K H a xs → SqT K H' a xs
mutual
theorem TD.mono {K : PySem.W.Frag} {H H' : Hp} (hT : Tk K H H') : ∀ {v : V} {d : PyData}, TD K H v d → TD K H' v d
  | _, _, .non => .non
  | _, _, .bl b => .bl b
  | _, _, .int i => .int i
  | _, _, .str x => .str x
  | _, _, .tup h hs => .tup (hT _ _ h) (TDs.mono hT hs)
theorem TDs.mono {K : PySem.W.Frag} {H H' : Hp} (hT : Tk K H H') : ∀ {vs : List V} {ds : List PyData}, TDs K H vs ds → TDs K H' vs ds
  | _, _, .nil => .nil
  | _, _, .cons h hs => .cons (TD.mono hT h) (TDs.mono hT hs)
end
mutual
theorem TD.dp {K : PySem.W.Frag} {H : Hp} : ∀ {v : V} {d : PyData}, TD K H v d → Dp K H v d
  | _, _, .non => .non
  | _, _, .bl b => .bl b
  | _, _, .int i => .int i
  | _, _, .str x => .str x
  | _, _, .tup h hs => .tup h (TDs.dp hs)
theorem TDs.dp {K : PySem.W.Frag} {H : Hp} : ∀ {vs : List V} {ds : List PyData}, TDs K H vs ds → DpAll K H vs ds
  | _, _, .nil => .nil
  | _, _, .cons h hs => .cons (TD.dp h) (TDs.dp hs)
end
section
variable {K : PySem.W.Frag} {H H' H1 : Hp}
theorem Tk.refl : Tk K H H := fun _ _ h => h
theorem Tk.trans (a : Tk K H H') (b : Tk K H' H1) : Tk K H H1 := fun c x h => b c x (a c x h)
theorem tk_same (e : Same H H') : Tk K H H' := fun a xs h => by
  rcases h with (h | ⟨o, h⟩) | h
  · exact .inl (.inl (e _ _ h))
  · exact .inl (.inr ⟨o, e _ _ h⟩)
  · exact .inr h
/-- what no tuple is -/
def NoT : HO → Prop
  | .tup _ => False
  | .frz _ _ => False
  | _ => True
theorem tk_upd {a : Addr} {u o : HO} (h : H a = some u) (n : NoT u) : Tk K H (upd H a o) := fun b xs q => by
  rcases q with (q | ⟨o', q⟩) | q
  · exact .inl (.inl (by rw [upd_ne (ne_of q h (by intro z; subst z; exact n))]; exact q))
  · exact .inl (.inr ⟨o', by rw [upd_ne (ne_of q h (by intro z; subst z; exact n))]; exact q⟩)
  · exact .inr q
theorem TDs.length : ∀ {vs : List V} {ds : List PyData}, TDs K H vs ds → vs.length = ds.length
  | _, _, .nil => rfl
  | _, _, .cons _ hs => by rw [List.length_cons, List.length_cons, TDs.length hs]
theorem TDs.get : ∀ {vs : List V} {ds : List PyData} {i : Nat} {d : PyData}, TDs K H vs ds → ds[i]? = some d → ∃ v, vs[i]? = some v ∧ TD K H v d
  | _, _, _, _, .nil, e => by simp at e
  | _, _, 0, _, .cons h _, e => by simp at e; subst e; exact ⟨_, rfl, h⟩
  | _, _, i + 1, d, .cons _ hs, e => by
    obtain ⟨v, h1, h2⟩ := TDs.get (i := i) (d := d) hs (by simpa using e)
    exact ⟨v, by simpa using h1, h2⟩
theorem TDs.append : ∀ {xs ys : List V} {ds es : List PyData}, TDs K H xs ds → TDs K H ys es → TDs K H (xs ++ ys) (ds ++ es)
  | _, _, _, _, .nil, s => s
  | _, _, _, _, .cons h t, s => .cons h (TDs.append t s)
theorem TDs.take : ∀ {vs : List V} {ds : List PyData} (n : Nat), TDs K H vs ds → TDs K H (vs.take n) (ds.take n)
  | _, _, 0, _ => .nil
  | _, _, _ + 1, .nil => .nil
  | _, _, n + 1, .cons r t => .cons r (TDs.take n t)
theorem TDs.drop : ∀ {vs : List V} {ds : List PyData} (n : Nat), TDs K H vs ds → TDs K H (vs.drop n) (ds.drop n)
  | _, _, 0, r => r
  | _, _, _ + 1, .nil => .nil
  | _, _, n + 1, .cons _ t => TDs.drop n t
theorem TDs.set {v : V} {d : PyData} (r : TD K H v d) : ∀ {vs : List V} {ds : List PyData} (i : Nat), TDs K H vs ds → TDs K H (vs.set i v) (ds.set i d)
  | _, _, _, .nil => .nil
  | _, _, 0, .cons _ t => .cons r t
  | _, _, i + 1, .cons q t => .cons q (TDs.set r i t)
theorem TD.inj_int {v : V} {i : Int} (h : TD K H v (.int i)) : v = .int i := by cases h; rfl
theorem TD.inj_bl {v : V} {b : Bool} (h : TD K H v (.bool b)) : v = .bl b := by cases h; rfl
theorem TD.inj_str {v : V} {x : Str} (h : TD K H v (.str x)) : v = .str x := by cases h; rfl
theorem TD.inj_non {v : V} (h : TD K H v .none) : v = .non := by cases h; rfl
theorem TD.inj_tup {v : V} {ds : List PyData} (h : TD K H v (.tuple ds)) : ∃ a xs, v = .ref a ∧ SqT K H a xs ∧ TDs K H xs ds := by
  cases h with
  | tup h hs => exact ⟨_, _, rfl, h, hs⟩
theorem TDs.ints : ∀ {vs : List V} {ns : List Int}, TDs K H vs (ns.map PyData.int) → vs = ns.map V.int
  | _, [], h => by cases h; rfl
  | _, n :: ns, h => by
    cases h with
    | cons h hs => rw [h.inj_int, TDs.ints hs]; rfl
theorem TDs.strs : ∀ {vs : List V} {ns : List Str}, TDs K H vs (ns.map PyData.str) → vs = ns.map V.str
  | _, [], h => by cases h; rfl
  | _, n :: ns, h => by
    cases h with
    | cons h hs => rw [h.inj_str, TDs.strs hs]; rfl
theorem TDs.bls : ∀ {vs : List V} {ns : List Bool}, TDs K H vs (ns.map PyData.bool) → vs = ns.map V.bl
  | _, [], h => by cases h; rfl
  | _, n :: ns, h => by
    cases h with
    | cons h hs => rw [h.inj_bl, TDs.bls hs]; rfl
theorem tds_ints : ∀ {ns : List Int}, TDs K H (ns.map V.int) (ns.map PyData.int)
  | [] => .nil
  | _ :: _ => .cons (.int _) tds_ints
theorem same_new {p : Addr} {o : HO} (h : H p = none) : Same H (upd H p o) := fun b x e => by
  rw [upd_ne (ne_of_none e h)]
  exact e
theorem same_mut {p : Addr} {o : HO} (e : Same H H') (h : H p = none) : Same H (upd H' p o) := fun b x q => by
  rw [upd_ne (ne_of_none q h)]
  exact e _ _ q
end

/-! ### what is known of a slot -/
inductive SV where
  | un
  | d (x : PyData)
  | l (xs : List PyData)
  | m (xs : List PyData)
  | q (kvs : List (Key × PyData))
  | g (b l : Addr)
/-- a bag of drawn numbers stands at b: a list of the list at l and a count -/
def BagNs (ns : List Int) : Prop := ns.length = 400 ∧ ∀ n ∈ ns, 0 ≤ n
def BagAt (H : Hp) (b l : Addr) : Prop := b ≠ l ∧ ∃ (c : Int) (ns : List Int), 0 ≤ c ∧ H b = some (.lst [.ref l, .int c]) ∧ H l = some (.lst (ns.map V.int)) ∧ BagNs ns
def SV.sc : SV → Option Addr
  | .g _ x => some x
  | _ => none
def SV.own : SV → Bool
  | .m _ => true
  | .q _ => true
  | .g _ _ => true
  | _ => false
def SV.lk : SV → Bool
  | .m _ => true
  | .q _ => true
  | .l _ => true
  | .g _ _ => true
  | _ => false
def SV.ali : SV → Bool
  | .l _ => true
  | .g _ _ => true
  | _ => false
def QOk (K : PySem.W.Frag) (H : Hp) (vs : List (Key × V)) (kvs : List (Key × PyData)) : Prop := Paired (fun (p : Key × V) (q : Key × PyData) => p.1 = q.1 ∧ TD K H p.2 q.2) vs kvs
def SlotOk (K : PySem.W.Frag) (H : Hp) : SV → Option V → Prop
  | .un, _ => True
  | .d x, o => ∃ v, o = some v ∧ TD K H v x
  | .l xs, o => ∃ a vs, o = some (.ref a) ∧ H a = some (.lst vs) ∧ TDs K H vs xs
  | .m xs, o => ∃ a vs, o = some (.ref a) ∧ H a = some (.lst vs) ∧ TDs K H vs xs
  | .q kvs, o => ∃ a vs, o = some (.ref a) ∧ H a = some (.dK vs) ∧ QOk K H vs kvs
  | .g b l, o => o = some (.ref b) ∧ BagAt H b l
/-- a value, come by a heap H0 that led to H -/
def VOk (K : PySem.W.Frag) (H0 H : Hp) : SV → V → Prop
  | .un, _ => True
  | .d x, v => TD K H v x
  | .l xs, v => ∃ a vs, v = .ref a ∧ H a = some (.lst vs) ∧ TDs K H vs xs
  | .m xs, v => ∃ a vs, v = .ref a ∧ H0 a = none ∧ H a = some (.lst vs) ∧ TDs K H vs xs
  | .q kvs, v => ∃ a vs, v = .ref a ∧ H0 a = none ∧ H a = some (.dK vs) ∧ QOk K H vs kvs
  | .g _ _, _ => False
structure Rs (K : PySem.W.Frag) (B : Hp) (ρ : List SV) (σ : L2.St) (H : Hp) : Prop where
  ex : Same B H
  len : σ.length = ρ.length
  at_ : ∀ (i : Nat) (s : SV), ρ[i]? = some s → ∃ o : Option V, σ[i]? = some o ∧ SlotOk K H s o
  fr : ∀ (i : Nat) (s : SV) (a : Addr), ρ[i]? = some s → s.own = true → σ[i]? = some (some (.ref a)) → B a = none
  apart : ∀ (i j : Nat) (s s' : SV) (a : Addr), i ≠ j → ρ[i]? = some s → ρ[j]? = some s' → s.own = true → s'.lk = true → σ[i]? = some (some (.ref a)) → σ[j]? ≠ some (some (.ref a))
  sec : ∀ (i j : Nat) (s s' : SV) (a l : Addr), ρ[i]? = some s → ρ[j]? = some s' → s.own = true → s'.sc = some l → σ[i]? = some (some (.ref a)) → a ≠ l
section
variable {K : PySem.W.Frag} {B B' H H' H0 : Hp} {ρ : List SV} {σ : L2.St}
theorem QOk.mono {vs : List (Key × V)} {kvs : List (Key × PyData)} (t : Tk K H H') (h : QOk K H vs kvs) : QOk K H' vs kvs := Paired.mapP h fun _ _ z => ⟨z.1, z.2.mono t⟩
theorem BagAt.ex {b l : Addr} (e : Same H H') (h : BagAt H b l) : BagAt H' b l := by
  obtain ⟨n, c, ns, h0, h1, h2, h3⟩ := h
  exact ⟨n, c, ns, h0, e _ _ h1, e _ _ h2, h3⟩
theorem BagAt.upd {a b l : Addr} {o : HO} (h : BagAt H b l) (h1 : b ≠ a) (h2 : l ≠ a) : BagAt (L2.upd H a o) b l := by
  obtain ⟨n, c, ns, h0, e1, e2, e3⟩ := h
  exact ⟨n, c, ns, h0, by rw [upd_ne h1]; exact e1, by rw [upd_ne h2]; exact e2, e3⟩
theorem SlotOk.ex {s : SV} {o : Option V} (e : Same H H') (h : SlotOk K H s o) : SlotOk K H' s o := by
  cases s with
  | un => trivial
  | d x => obtain ⟨v, a, b⟩ := h; exact ⟨v, a, b.mono (tk_same e)⟩
  | l xs => obtain ⟨a, vs, h1, h2, h3⟩ := h; exact ⟨a, vs, h1, e _ _ h2, h3.mono (tk_same e)⟩
  | m xs => obtain ⟨a, vs, h1, h2, h3⟩ := h; exact ⟨a, vs, h1, e _ _ h2, h3.mono (tk_same e)⟩
  | q xs => obtain ⟨a, vs, h1, h2, h3⟩ := h; exact ⟨a, vs, h1, e _ _ h2, h3.mono (tk_same e)⟩
  | g b l => exact ⟨h.1, h.2.ex e⟩
theorem VOk.ex {s : SV} {v : V} (e : Same H H') (h : VOk K H0 H s v) : VOk K H0 H' s v := by
  cases s with
  | un => trivial
  | d x => exact TD.mono (tk_same e) h
  | l xs => obtain ⟨a, vs, h1, h2, h3⟩ := h; exact ⟨a, vs, h1, e _ _ h2, h3.mono (tk_same e)⟩
  | m xs => obtain ⟨a, vs, h1, h0, h2, h3⟩ := h; exact ⟨a, vs, h1, h0, e _ _ h2, h3.mono (tk_same e)⟩
  | q xs => obtain ⟨a, vs, h1, h0, h2, h3⟩ := h; exact ⟨a, vs, h1, h0, e _ _ h2, h3.mono (tk_same e)⟩
  | g b l => exact h
theorem VOk.back {s : SV} {v : V} (e : Same H0 H') (h : VOk K H' H s v) : VOk K H0 H s v := by
  cases s with
  | un => trivial
  | d x => exact h
  | l xs => exact h
  | m xs => obtain ⟨a, vs, h1, h0, h2, h3⟩ := h; exact ⟨a, vs, h1, e.free h0, h2, h3⟩
  | q xs => obtain ⟨a, vs, h1, h0, h2, h3⟩ := h; exact ⟨a, vs, h1, e.free h0, h2, h3⟩
  | g b l => exact h
theorem SlotOk.lkH {s : SV} {o : Option V} {a : Addr} (h : SlotOk K H s o) (k : s.lk = true) (e : o = some (.ref a)) : ∃ u, H a = some u ∧ NoT u := by
  cases s with
  | un => cases k
  | d x => cases k
  | l xs => obtain ⟨a', vs, h1, h2, _⟩ := h; rw [e] at h1; cases h1; exact ⟨_, h2, trivial⟩
  | m xs => obtain ⟨a', vs, h1, h2, _⟩ := h; rw [e] at h1; cases h1; exact ⟨_, h2, trivial⟩
  | q xs => obtain ⟨a', vs, h1, h2, _⟩ := h; rw [e] at h1; cases h1; exact ⟨_, h2, trivial⟩
  | g b l => obtain ⟨h1, _, c, ns, _, h2, _⟩ := h; rw [e] at h1; cases h1; exact ⟨_, h2, trivial⟩
theorem own_lk {s : SV} (h : s.own = true) : s.lk = true := by cases s <;> first | rfl | cases h
theorem Rs.mono (R : Rs K B ρ σ H) (e : Same H H') : Rs K B ρ σ H' :=
  ⟨R.ex.trans e, R.len, fun i s h => let ⟨o, a, b⟩ := R.at_ i s h; ⟨o, a, b.ex e⟩, R.fr, R.apart, R.sec⟩
theorem Rs.base (R : Rs K B' ρ σ H) (e : Same B B') : Rs K B ρ σ H :=
  ⟨e.trans R.ex, R.len, R.at_, fun i s a h1 h2 h3 => e.free (R.fr i s a h1 h2 h3), R.apart, R.sec⟩
theorem get_set_self {α : Type} {l : List α} {i : Nat} {x y : α} (h : (l.set i x)[i]? = some y) : y = x ∧ i < l.length := by
  by_cases hi : i < l.length
  · rw [List.getElem?_set_self hi] at h
    exact ⟨(Option.some.inj h).symm, hi⟩
  · rw [List.getElem?_eq_none (by simpa using hi)] at h
    cases h
theorem Rs.set {i : Nat} {r : SV} {v : V} (R : Rs K B ρ σ H) (e : Same H H') (hv : VOk K H H' r v) (hl : r.ali = false) : Rs K B (ρ.set i r) (σ.set i (some v)) H' := by
  have hs : SlotOk K H' r (some v) := by
    cases r with
    | un => trivial
    | d x => exact ⟨v, rfl, hv⟩
    | l xs => cases hl
    | m xs => obtain ⟨a, vs, h1, _, h2, h3⟩ := hv; exact ⟨a, vs, by rw [h1], h2, h3⟩
    | q xs => obtain ⟨a, vs, h1, _, h2, h3⟩ := hv; exact ⟨a, vs, by rw [h1], h2, h3⟩
    | g b l => cases hl
  have hn : ∀ a, r.lk = true → v = .ref a → H a = none := fun a k z => by
    cases r with
    | un => cases k
    | d x => cases k
    | l xs => cases hl
    | m xs => obtain ⟨a', vs, h1, h0, _⟩ := hv; rw [z] at h1; cases h1; exact h0
    | q xs => obtain ⟨a', vs, h1, h0, _⟩ := hv; rw [z] at h1; cases h1; exact h0
    | g b l => cases hl
  have hsc : r.sc = none := by cases r <;> first | rfl | cases hl
  refine ⟨R.ex.trans e, by rw [List.length_set, List.length_set]; exact R.len, fun j s h => ?_, fun j s a h1 h2 h3 => ?_, fun j k s s' a hjk h1 h2 h3 h4 h5 h6 => ?_, fun j k s s' a l h1 h2 h3 h4 h5 => ?_⟩
  · by_cases hj : i = j
    · subst hj
      obtain ⟨e1, e2⟩ := get_set_self h
      subst e1
      exact ⟨some v, List.getElem?_set_self (by rw [R.len]; exact e2), hs⟩
    · rw [List.getElem?_set_ne hj] at h
      obtain ⟨o, a, b⟩ := R.at_ j s h
      exact ⟨o, by rw [List.getElem?_set_ne hj]; exact a, b.ex e⟩
  · by_cases hj : i = j
    · subst hj
      obtain ⟨e1, e2⟩ := get_set_self h1
      subst e1
      obtain ⟨e3, _⟩ := get_set_self h3
      exact R.ex.free (hn a (own_lk h2) (Option.some.inj e3).symm)
    · rw [List.getElem?_set_ne hj] at h1 h3
      exact R.fr j s a h1 h2 h3
  · by_cases hj : i = j
    · subst hj
      obtain ⟨e1, e2⟩ := get_set_self h1
      subst e1
      obtain ⟨e3, _⟩ := get_set_self h5
      rw [List.getElem?_set_ne hjk] at h2 h6
      obtain ⟨o, a1, b1⟩ := R.at_ k s' h2
      rw [h6] at a1
      obtain ⟨u, hu, _⟩ := b1.lkH h4 (Option.some.inj a1).symm
      rw [hn a (own_lk h3) (Option.some.inj e3).symm] at hu
      cases hu
    · rw [List.getElem?_set_ne hj] at h1 h5
      by_cases hk : i = k
      · subst hk
        obtain ⟨e1, e2⟩ := get_set_self h2
        subst e1
        obtain ⟨e3, _⟩ := get_set_self h6
        obtain ⟨o, a1, b1⟩ := R.at_ j s h1
        rw [h5] at a1
        obtain ⟨u, hu, _⟩ := b1.lkH (own_lk h3) (Option.some.inj a1).symm
        rw [hn a h4 (Option.some.inj e3).symm] at hu
        cases hu
      · rw [List.getElem?_set_ne hk] at h2 h6
        exact R.apart j k s s' a hjk h1 h2 h3 h4 h5 h6
  · by_cases hk : i = k
    · subst hk
      obtain ⟨e1, _⟩ := get_set_self h2
      subst e1
      rw [hsc] at h4
      cases h4
    · rw [List.getElem?_set_ne hk] at h2
      by_cases hj : i = j
      · subst hj
        obtain ⟨e1, _⟩ := get_set_self h1
        subst e1
        obtain ⟨e3, _⟩ := get_set_self h5
        have ha := hn a (own_lk h3) (Option.some.inj e3).symm
        obtain ⟨o, _, b1⟩ := R.at_ k s' h2
        cases s' with
        | g b' l' =>
          cases h4
          obtain ⟨_, _, c, ns, _, _, q, _⟩ := b1
          intro z
          rw [z, q] at ha
          cases ha
        | _ => cases h4
      · rw [List.getElem?_set_ne hj] at h1 h5
        exact R.sec j k s s' a l h1 h2 h3 h4 h5
/-- knowing less -/
def SV.le (s s' : SV) : Prop := s' = s ∨ s' = .un ∨ ∃ xs, s = .m xs ∧ s' = .l xs
theorem SV.le_own {s s' : SV} (h : SV.le s s') (k : s'.own = true) : s = s' := by
  rcases h with rfl | rfl | ⟨xs, rfl, rfl⟩
  · rfl
  · cases k
  · cases k
theorem SV.le_lk {s s' : SV} (h : SV.le s s') (k : s'.lk = true) : s.lk = true := by
  rcases h with rfl | rfl | ⟨xs, rfl, rfl⟩
  · exact k
  · cases k
  · rfl
theorem SlotOk.le {s s' : SV} {o : Option V} (h : SlotOk K H s o) (k : SV.le s s') : SlotOk K H s' o := by
  rcases k with rfl | rfl | ⟨xs, rfl, rfl⟩
  · exact h
  · trivial
  · exact h
def Wk (ρ ρ' : List SV) : Prop := ρ.length = ρ'.length ∧ ∀ (i : Nat) (s' : SV), ρ'[i]? = some s' → ∃ s, ρ[i]? = some s ∧ SV.le s s'
theorem Wk.refl {ρ : List SV} : Wk ρ ρ := ⟨rfl, fun i s h => ⟨s, h, .inl rfl⟩⟩
theorem Wk.nil : Wk [] [] := .refl
theorem Wk.cons {s s' : SV} {ρ ρ' : List SV} (h : SV.le s s') (t : Wk ρ ρ') : Wk (s :: ρ) (s' :: ρ') := ⟨by rw [List.length_cons, List.length_cons, t.1], fun i x e => by
  cases i with
  | zero => simp at e; subst e; exact ⟨s, rfl, h⟩
  | succ i => simpa using t.2 i x (by simpa using e)⟩
theorem Rs.wk {ρ' : List SV} (R : Rs K B ρ σ H) (w : Wk ρ ρ') : Rs K B ρ' σ H := by
  refine ⟨R.ex, R.len.trans w.1, fun i s h => ?_, fun i s a h1 h2 h3 => ?_, fun i j s s' a hij h1 h2 h3 h4 h5 => ?_, fun i j s s' a l h1 h2 h3 h4 h5 => ?_⟩
  · obtain ⟨s0, e, k⟩ := w.2 i s h
    obtain ⟨o, a, b⟩ := R.at_ i s0 e
    exact ⟨o, a, b.le k⟩
  · obtain ⟨s0, e, k⟩ := w.2 i s h1
    have q := SV.le_own k h2
    subst q
    exact R.fr i _ a e h2 h3
  · obtain ⟨s0, e, k⟩ := w.2 i s h1
    have q := SV.le_own k h3
    subst q
    obtain ⟨s1, e1, k1⟩ := w.2 j s' h2
    exact R.apart i j _ s1 a hij e e1 h3 (SV.le_lk k1 h4) h5
  · obtain ⟨s0, e, k⟩ := w.2 i s h1
    have q := SV.le_own k h3
    subst q
    obtain ⟨s1, e1, k1⟩ := w.2 j s' h2
    have q1 : s1.sc = some l := by
      rcases k1 with z | z | ⟨xs, _, z⟩
      · rw [← z]; exact h4
      · rw [z] at h4; cases h4
      · rw [z] at h4; cases h4
    exact R.sec i j _ s1 a l e e1 h3 q1 h5
/-- an own list is changed -/
theorem Rs.put {i : Nat} {xs xs' : List PyData} {vs vs' : List V} {a : Addr} (R : Rs K B ρ σ H) (hi : ρ[i]? = some (.m xs)) (ha : σ[i]? = some (some (.ref a))) (hH : H a = some (.lst vs)) (t : TDs K H vs' xs') : Rs K B (ρ.set i (.m xs')) σ (upd H a (.lst vs')) := by
  have k : Tk K H (upd H a (.lst vs')) := tk_upd hH trivial
  have hB : B a = none := R.fr i _ a hi rfl ha
  have il : i < ρ.length := (List.getElem?_eq_some_iff.mp hi).1
  refine ⟨same_mut R.ex hB, by rw [List.length_set]; exact R.len, fun j s h => ?_, fun j s b h1 h2 h3 => ?_, fun j l s s' b hjl h1 h2 h3 h4 h5 => ?_, fun j l s s' b z h1 h2 h3 h4 h5 => ?_⟩
  · by_cases hj : i = j
    · subst hj
      obtain ⟨e1, _⟩ := get_set_self h
      subst e1
      exact ⟨_, ha, a, vs', rfl, upd_same, t.mono k⟩
    · rw [List.getElem?_set_ne hj] at h
      obtain ⟨o, e, b⟩ := R.at_ j s h
      refine ⟨o, e, ?_⟩
      have na : ∀ b', s.lk = true → o = some (.ref b') → b' ≠ a := fun b' k1 e1 z => by
        subst z
        subst e1
        exact R.apart i j _ s _ hj hi h rfl k1 ha e
      cases s with
      | un => trivial
      | d x => obtain ⟨v, q1, q2⟩ := b; exact ⟨v, q1, q2.mono k⟩
      | l ys => obtain ⟨c, ws, q1, q2, q3⟩ := b; exact ⟨c, ws, q1, by rw [upd_ne (na c rfl q1)]; exact q2, q3.mono k⟩
      | m ys => obtain ⟨c, ws, q1, q2, q3⟩ := b; exact ⟨c, ws, q1, by rw [upd_ne (na c rfl q1)]; exact q2, q3.mono k⟩
      | q ys => obtain ⟨c, ws, q1, q2, q3⟩ := b; exact ⟨c, ws, q1, by rw [upd_ne (na c rfl q1)]; exact q2, q3.mono k⟩
      | g y z => obtain ⟨q1, q2⟩ := b; exact ⟨q1, q2.upd (na y rfl q1) (R.sec i j _ _ a z hi h rfl rfl ha).symm⟩
  · by_cases hj : i = j
    · subst hj
      rw [ha] at h3
      cases h3
      exact hB
    · rw [List.getElem?_set_ne hj] at h1
      exact R.fr j s b h1 h2 h3
  · have fix : ∀ (n : Nat) (s : SV), (ρ.set i (.m xs'))[n]? = some s → ∃ s0 : SV, ρ[n]? = some s0 ∧ s0.own = s.own ∧ s0.lk = s.lk := fun n s h => by
      by_cases hn : i = n
      · subst hn
        obtain ⟨e1, _⟩ := get_set_self h
        subst e1
        exact ⟨_, hi, rfl, rfl⟩
      · rw [List.getElem?_set_ne hn] at h
        exact ⟨s, h, rfl, rfl⟩
    obtain ⟨s0, e0, o0, _⟩ := fix j s h1
    obtain ⟨s1, e1, _, l1⟩ := fix l s' h2
    exact R.apart j l s0 s1 b hjl e0 e1 (by rw [o0]; exact h3) (by rw [l1]; exact h4) h5
  · have f1 : ∃ s0 : SV, ρ[j]? = some s0 ∧ s0.own = s.own := by
      by_cases hn : i = j
      · subst hn
        obtain ⟨e1, _⟩ := get_set_self h1
        subst e1
        exact ⟨_, hi, rfl⟩
      · rw [List.getElem?_set_ne hn] at h1
        exact ⟨s, h1, rfl⟩
    have f2 : ρ[l]? = some s' := by
      by_cases hn : i = l
      · subst hn
        obtain ⟨e1, _⟩ := get_set_self h2
        subst e1
        cases h4
      · rw [List.getElem?_set_ne hn] at h2
        exact h2
    obtain ⟨s0, e0, o0⟩ := f1
    exact R.sec j l s0 s' b z e0 f2 (by rw [o0]; exact h3) h4 h5
/-- an own dict is changed -/
theorem Rs.putQ {i : Nat} {xs xs' : List (Key × PyData)} {vs vs' : List (Key × V)} {a : Addr} (R : Rs K B ρ σ H) (hi : ρ[i]? = some (.q xs)) (ha : σ[i]? = some (some (.ref a))) (hH : H a = some (.dK vs)) (t : QOk K H vs' xs') : Rs K B (ρ.set i (.q xs')) σ (upd H a (.dK vs')) := by
  have k : Tk K H (upd H a (.dK vs')) := tk_upd hH trivial
  have hB : B a = none := R.fr i _ a hi rfl ha
  refine ⟨same_mut R.ex hB, by rw [List.length_set]; exact R.len, fun j s h => ?_, fun j s b h1 h2 h3 => ?_, fun j l s s' b hjl h1 h2 h3 h4 h5 => ?_, fun j l s s' b z h1 h2 h3 h4 h5 => ?_⟩
  · by_cases hj : i = j
    · subst hj
      obtain ⟨e1, _⟩ := get_set_self h
      subst e1
      exact ⟨_, ha, a, vs', rfl, upd_same, t.mono k⟩
    · rw [List.getElem?_set_ne hj] at h
      obtain ⟨o, e, b⟩ := R.at_ j s h
      refine ⟨o, e, ?_⟩
      have na : ∀ b', s.lk = true → o = some (.ref b') → b' ≠ a := fun b' k1 e1 z => by
        subst z
        subst e1
        exact R.apart i j _ s _ hj hi h rfl k1 ha e
      cases s with
      | un => trivial
      | d x => obtain ⟨v, q1, q2⟩ := b; exact ⟨v, q1, q2.mono k⟩
      | l ys => obtain ⟨c, ws, q1, q2, q3⟩ := b; exact ⟨c, ws, q1, by rw [upd_ne (na c rfl q1)]; exact q2, q3.mono k⟩
      | m ys => obtain ⟨c, ws, q1, q2, q3⟩ := b; exact ⟨c, ws, q1, by rw [upd_ne (na c rfl q1)]; exact q2, q3.mono k⟩
      | q ys => obtain ⟨c, ws, q1, q2, q3⟩ := b; exact ⟨c, ws, q1, by rw [upd_ne (na c rfl q1)]; exact q2, q3.mono k⟩
      | g y z => obtain ⟨q1, q2⟩ := b; exact ⟨q1, q2.upd (na y rfl q1) (R.sec i j _ _ a z hi h rfl rfl ha).symm⟩
  · by_cases hj : i = j
    · subst hj
      rw [ha] at h3
      cases h3
      exact hB
    · rw [List.getElem?_set_ne hj] at h1
      exact R.fr j s b h1 h2 h3
  · have fix : ∀ (n : Nat) (s : SV), (ρ.set i (.q xs'))[n]? = some s → ∃ s0 : SV, ρ[n]? = some s0 ∧ s0.own = s.own ∧ s0.lk = s.lk := fun n s h => by
      by_cases hn : i = n
      · subst hn
        obtain ⟨e1, _⟩ := get_set_self h
        subst e1
        exact ⟨_, hi, rfl, rfl⟩
      · rw [List.getElem?_set_ne hn] at h
        exact ⟨s, h, rfl, rfl⟩
    obtain ⟨s0, e0, o0, _⟩ := fix j s h1
    obtain ⟨s1, e1, _, l1⟩ := fix l s' h2
    exact R.apart j l s0 s1 b hjl e0 e1 (by rw [o0]; exact h3) (by rw [l1]; exact h4) h5
  · have f1 : ∃ s0 : SV, ρ[j]? = some s0 ∧ s0.own = s.own := by
      by_cases hn : i = j
      · subst hn
        obtain ⟨e1, _⟩ := get_set_self h1
        subst e1
        exact ⟨_, hi, rfl⟩
      · rw [List.getElem?_set_ne hn] at h1
        exact ⟨s, h1, rfl⟩
    have f2 : ρ[l]? = some s' := by
      by_cases hn : i = l
      · subst hn
        obtain ⟨e1, _⟩ := get_set_self h2
        subst e1
        cases h4
      · rw [List.getElem?_set_ne hn] at h2
        exact h2
    obtain ⟨s0, e0, o0⟩ := f1
    exact R.sec j l s0 s' b z e0 f2 (by rw [o0]; exact h3) h4 h5
end
end KL

namespace KL
open PySem PySem.Spec PyProof.Rows L2

/-- the built-in names that the text leaves alone -/
structure Bt (mg : Str → Option Value) : Prop where
  len : mg "len" = none
  list : mg "list" = none
  tuple : mg "tuple" = none
  isinstance : mg "isinstance" = none
  all : mg "all" = none
  int : mg "int" = none
  bool : mg "bool" = none
  str : mg "str" = none
  range : mg "range" = none
  enumerate : mg "enumerate" = none
  zip : mg "zip" = none
  sorted : mg "sorted" = none
  dict : mg "dict" = none
  set : mg "set" = none
  min : mg "min" = none
  max : mg "max" = none
  abs : mg "abs" = none

/-! ### expressions -/
def JE (X : Cx) (B : Hp) (ρ : List SV) (e : Expr) (r : SV) : Prop := ∀ (σ : L2.St) (H : Hp) (Q : VK), Rs X.K B ρ σ H → (∀ v H', Same H H' → VOk X.K H H' r v → Q v H') → WE X e σ H Q
def JT (X : Cx) (B : Hp) (ρ : List SV) (e : Expr) (b : Bool) : Prop := ∀ (σ : L2.St) (H : Hp) (Q : Bool → Hp → Prop), Rs X.K B ρ σ H → (∀ H', Same H H' → Q b H') → WT X e σ H Q
def JTs (X : Cx) (B : Hp) (ρ : List SV) (es : List Expr) (b : Bool) : Prop := ∀ (σ : L2.St) (H : Hp) (Q : Bool → Hp → Prop), Rs X.K B ρ σ H → (∀ H', Same H H' → Q b H') → WTs X es σ H Q
def AOk (K : PySem.W.Frag) (H : Hp) : SV → V → Prop
  | .m _, _ => False
  | r, v => VOk K H H r v
def AOks (K : PySem.W.Frag) (H : Hp) : List SV → List V → Prop := Paired (AOk K H)
def JA (X : Cx) (B : Hp) (ρ : List SV) (es : List Expr) (rs : List SV) : Prop := ∀ (σ : L2.St) (H : Hp) (Q : List V → Hp → Prop), Rs X.K B ρ σ H → (∀ vs H', Same H H' → AOks X.K H' rs vs → Q vs H') → WA X es σ H Q

section
variable {X : Cx} {B : Hp} {ρ : List SV} {a b c e : Expr} {es rest : List Expr} {pos p apos : Pos} {ra rb r : SV}
theorem je_ml {xs : List PyData} (h : JE X B ρ e (.m xs)) : JE X B ρ e (.l xs) := fun σ H Q R k => h σ H Q R fun v H' s ⟨a, vs, h1, _, h2, h3⟩ => k v H' s ⟨a, vs, h1, h2, h3⟩
theorem je_un (h : JE X B ρ e r) : JE X B ρ e .un := fun σ H Q R k => h σ H Q R fun v H' s _ => k v H' s trivial
theorem je_eq {r' : SV} (h : JE X B ρ e r) (q : r = r') : JE X B ρ e r' := q ▸ h
theorem jt_eq {x y : Bool} (h : JT X B ρ e x) (q : x = y) : JT X B ρ e y := q ▸ h
theorem je_var {x : PyData} (i : Nat) {n : Str} (h : ρ[i]? = some (.d x) := by rfl) (hN : X.N[i]? = some n := by rfl) (hv : Vis X.env.scope n := by first | exact Or.inl rfl | exact Or.inr (Or.inl rfl) | exact Or.inr (Or.inr rfl))
    (hd : (n == ("__debug__" : Str)) = false := by decide) (hcd : (n == ("__classdict__" : Str)) = false := by decide) : JE X B ρ (.Name n pos) (.d x) := fun σ H Q R k => by
  obtain ⟨o, e, v, rfl, t⟩ := R.at_ i _ h
  exact ⟨_, pe_var hN hv hd hcd, v, e, k v H (Same.refl H) t⟩
theorem je_varL {xs : List PyData} (i : Nat) {n : Str} (h : ρ[i]? = some (.m xs) ∨ ρ[i]? = some (.l xs) := by first | exact Or.inl rfl | exact Or.inr rfl) (hN : X.N[i]? = some n := by rfl) (hv : Vis X.env.scope n := by first | exact Or.inl rfl | exact Or.inr (Or.inl rfl) | exact Or.inr (Or.inr rfl))
    (hd : (n == ("__debug__" : Str)) = false := by decide) (hcd : (n == ("__classdict__" : Str)) = false := by decide) : JE X B ρ (.Name n pos) (.l xs) := fun σ H Q R k => by
  rcases h with h | h
  · obtain ⟨o, e, a, vs, rfl, h2, t⟩ := R.at_ i _ h
    exact ⟨_, pe_var hN hv hd hcd, _, e, k _ H (Same.refl H) ⟨a, vs, rfl, h2, t⟩⟩
  · obtain ⟨o, e, a, vs, rfl, h2, t⟩ := R.at_ i _ h
    exact ⟨_, pe_var hN hv hd hcd, _, e, k _ H (Same.refl H) ⟨a, vs, rfl, h2, t⟩⟩
theorem je_int {i : Int} {j} : JE X B ρ (.Constant (.int i) j pos) (.d (.int i)) := fun σ H Q R k => ⟨_, pe_int, k _ H (Same.refl H) (.int i)⟩
theorem je_bl {i : Bool} {j} : JE X B ρ (.Constant (.bool i) j pos) (.d (.bool i)) := fun σ H Q R k => ⟨_, pe_bl, k _ H (Same.refl H) (.bl i)⟩
theorem je_non {j} : JE X B ρ (.Constant .none j pos) (.d .none) := fun σ H Q R k => ⟨_, pe_non, k _ H (Same.refl H) .non⟩
theorem je_str {x : Str} {j} : JE X B ρ (.Constant (.str x) j pos) (.d (.str x)) := fun σ H Q R k => ⟨_, pe_str, k _ H (Same.refl H) (.str x)⟩
theorem je_gstr {n x : Str} {t : Tok} (hm : X.mg n = some (.str x t)) (hg : Gl X n := by rfl) (hd : (n == ("__debug__" : Str)) = false := by decide) : JE X B ρ (.Name n pos) (.d (.str x)) := fun σ H Q R k =>
  ⟨_, pe_glob (v := .str x) hg hm ⟨t, rfl⟩ hd, k _ H (Same.refl H) (.str x)⟩
theorem je_gint {n : Str} {x : Int} {t : Tok} (hm : X.mg n = some (.int x t)) (hg : Gl X n := by rfl) (hd : (n == ("__debug__" : Str)) = false := by decide) : JE X B ρ (.Name n pos) (.d (.int x)) := fun σ H Q R k =>
  ⟨_, pe_glob (v := .int x) hg hm ⟨t, rfl⟩ hd, k _ H (Same.refl H) (.int x)⟩
/-- two in a row -/
theorem bin_go (ha : JE X B ρ a ra) (hb : JE X B ρ b rb) {R : V → V → Hp → Prop} {σ : L2.St} {H : Hp} (R0 : Rs X.K B ρ σ H)
    (k : ∀ x y H1 H2, Same H H1 → Same H1 H2 → VOk X.K H H2 ra x → VOk X.K H1 H2 rb y → R x y H2) : WE X a σ H fun x H1 => WE X b σ H1 fun y H2 => R x y H2 :=
  ha σ H _ R0 fun x H1 s1 h1 => hb σ H1 _ (R0.mono s1) fun y H2 s2 h2 => k x y H1 H2 s1 s2 (h1.ex s2) h2
/-- an operator on two values -/
theorem je_op {op : Operator} {r2 : R2} (ho : OpR X (binaryOp op) r2) (ha : JE X B ρ a ra) (hb : JE X B ρ b rb)
    (hr : ∀ (H H1 H2 : Hp) (x y : V) (Q : VK), VOk X.K H H2 ra x → VOk X.K H1 H2 rb y → Same H H1 → Same H1 H2 → (∀ v H3, Same H2 H3 → VOk X.K H H3 r v → Q v H3) → r2 x y H2 Q) : JE X B ρ (.BinOp a op b pos) r := fun σ H Q R k =>
  ⟨_, pe_op ho pe_we pe_we, bin_go ha hb R fun x y H1 H2 s1 s2 h1 h2 => hr H H1 H2 x y Q h1 h2 s1 s2 fun v H3 s3 h3 => k v H3 ((s1.trans s2).trans s3) h3⟩
section
variable {i j : Int}
theorem je_add (ha : JE X B ρ a (.d (.int i))) (hb : JE X B ρ b (.d (.int j))) : JE X B ρ (.BinOp a .Add b pos) (.d (.int (i + j))) := je_op op_add ha hb fun H H1 H2 x y Q h1 h2 s1 s2 k => ⟨i, j, TD.inj_int h1, TD.inj_int h2, k _ _ (Same.refl _) (.int _)⟩
theorem je_sub (ha : JE X B ρ a (.d (.int i))) (hb : JE X B ρ b (.d (.int j))) : JE X B ρ (.BinOp a .Sub b pos) (.d (.int (i - j))) := je_op op_sub ha hb fun H H1 H2 x y Q h1 h2 s1 s2 k => ⟨i, j, TD.inj_int h1, TD.inj_int h2, k _ _ (Same.refl _) (.int _)⟩
theorem je_mul (ha : JE X B ρ a (.d (.int i))) (hb : JE X B ρ b (.d (.int j))) (hc : CMul i j) : JE X B ρ (.BinOp a .Mult b pos) (.d (.int (i * j))) := je_op op_mul ha hb fun H H1 H2 x y Q h1 h2 s1 s2 k => ⟨i, j, TD.inj_int h1, TD.inj_int h2, hc, k _ _ (Same.refl _) (.int _)⟩
theorem je_mulW (ha : JE X B ρ a (.d (.int i))) (hb : JE X B ρ b (.d (.int j))) (hc : CMulW i j) : JE X B ρ (.BinOp a .Mult b pos) (.d (.int (i * j))) := je_op op_mulW ha hb fun H H1 H2 x y Q h1 h2 s1 s2 k => ⟨i, j, TD.inj_int h1, TD.inj_int h2, hc, k _ _ (Same.refl _) (.int _)⟩
theorem je_mod (ha : JE X B ρ a (.d (.int i))) (hb : JE X B ρ b (.d (.int j))) (hc : 0 < j) : JE X B ρ (.BinOp a .Mod b pos) (.d (.int (i % j))) := je_op op_mod ha hb fun H H1 H2 x y Q h1 h2 s1 s2 k => ⟨i, j, TD.inj_int h1, TD.inj_int h2, hc, k _ _ (Same.refl _) (.int _)⟩
theorem je_fdiv (ha : JE X B ρ a (.d (.int i))) (hb : JE X B ρ b (.d (.int j))) (hc : CDiv i j) : JE X B ρ (.BinOp a .FloorDiv b pos) (.d (.int (i / j))) := je_op op_fdiv ha hb fun H H1 H2 x y Q h1 h2 s1 s2 k => ⟨i, j, TD.inj_int h1, TD.inj_int h2, hc, k _ _ (Same.refl _) (.int _)⟩
theorem je_fdivW (ha : JE X B ρ a (.d (.int i))) (hb : JE X B ρ b (.d (.int j))) (hc : CDivW i j) : JE X B ρ (.BinOp a .FloorDiv b pos) (.d (.int (i / j))) := je_op op_fdivW ha hb fun H H1 H2 x y Q h1 h2 s1 s2 k => ⟨i, j, TD.inj_int h1, TD.inj_int h2, hc, k _ _ (Same.refl _) (.int _)⟩
theorem je_pow (ha : JE X B ρ a (.d (.int i))) (hb : JE X B ρ b (.d (.int j))) (hc : CPow i j) : JE X B ρ (.BinOp a .Pow b pos) (.d (.int (i ^ j.toNat))) := je_op op_pow ha hb fun H H1 H2 x y Q h1 h2 s1 s2 k => ⟨i, j, TD.inj_int h1, TD.inj_int h2, hc, k _ _ (Same.refl _) (.int _)⟩
theorem je_neg (ha : JE X B ρ a (.d (.int i))) : JE X B ρ (.UnaryOp .USub a pos) (.d (.int (-i))) := fun σ H Q R k =>
  ⟨_, pe_un un_neg pe_we, ha σ H _ R fun x H1 s1 h1 => ⟨i, TD.inj_int h1, k _ H1 s1 (.int _)⟩⟩
end
theorem je_adds {x y : Str} (ha : JE X B ρ a (.d (.str x))) (hb : JE X B ρ b (.d (.str y))) (hc : x.length + y.length ≤ 1000) : JE X B ρ (.BinOp a .Add b pos) (.d (.str (x ++ y))) := je_op op_add_str ha hb fun H H1 H2 u v Q h1 h2 s1 s2 k =>
  ⟨x, y, TD.inj_str h1, TD.inj_str h2, Nat.le_trans hc (by decide), k _ _ (Same.refl _) (.str _)⟩
theorem sz1000 {n : Nat} (h : n ≤ 1000) : n ≤ sizeLine := Nat.le_trans h (by decide)
/-- list + list -/
theorem je_catL {xs ys : List PyData} (ha : JE X B ρ a (.l xs)) (hb : JE X B ρ b (.l ys)) (hc : xs.length + ys.length ≤ 1000) : JE X B ρ (.BinOp a .Add b pos) (.m (xs ++ ys)) := je_op op_cat ha hb fun H H1 H2 u v Q h1 h2 s1 s2 k => by
  obtain ⟨p, vs, e1, e2, t1⟩ := h1
  obtain ⟨q, ws, f1, f2, t2⟩ := h2
  refine ⟨p, q, vs, ws, e1, f1, e2, f2, by rw [t1.length, t2.length]; exact sz1000 hc, fun n hn => k _ _ (same_new hn) ⟨n, _, rfl, (s1.trans s2).free hn, upd_same, (t1.append t2).mono (tk_same (same_new hn))⟩⟩
/-- tuple + tuple -/
theorem je_catT {xs ys : List PyData} (ha : JE X B ρ a (.d (.tuple xs))) (hb : JE X B ρ b (.d (.tuple ys))) (hc : xs.length + ys.length ≤ 1000) : JE X B ρ (.BinOp a .Add b pos) (.d (.tuple (xs ++ ys))) := je_op op_catA ha hb fun H H1 H2 u v Q h1 h2 s1 s2 k => by
  obtain ⟨p, vs, e1, e2, t1⟩ := TD.inj_tup h1
  obtain ⟨q, ws, f1, f2, t2⟩ := TD.inj_tup h2
  refine ⟨p, q, vs, ws, e1, f1, e2, f2, by rw [t1.length, t2.length]; exact sz1000 hc, fun z => ?_, fun _ z => ?_, fun _ _ n hn => ?_⟩
  · subst z
    cases t1
    exact k _ _ (Same.refl _) (.tup f2 t2)
  · subst z
    cases t2
    rw [List.append_nil] at k
    exact k _ _ (Same.refl _) (.tup e2 t1)
  · exact k _ _ (same_new hn) (.tup (SqT.of upd_same) ((t1.append t2).mono (tk_same (same_new hn))))
/-- [x] * n and the like -/
theorem je_repL {xs : List PyData} {n : Int} (ha : JE X B ρ a (.l xs)) (hb : JE X B ρ b (.d (.int n))) (h0 : 0 ≤ n) (h1 : n ≤ 1000) (hc : xs.length ≤ 1) : JE X B ρ (.BinOp a .Mult b pos) (.m (List.replicate n.toNat xs).flatten) := je_op op_rep ha hb fun H H1 H2 u v Q h1' h2 s1 s2 k => by
  obtain ⟨p, vs, e1, e2, t1⟩ := h1'
  have hl := t1.length
  refine ⟨p, n, vs, e1, TD.inj_int h2, e2, by omega, by omega, Nat.le_trans (Nat.mul_le_mul (by omega : vs.length ≤ 1) (by omega : n.toNat ≤ 1000)) (by decide), ?_⟩
  have rep : ∀ m : Nat, TDs X.K H2 (List.replicate m vs).flatten (List.replicate m xs).flatten := fun m => by
    induction m with
    | zero => exact .nil
    | succ m ih => rw [List.replicate_succ, List.replicate_succ, List.flatten_cons, List.flatten_cons]; exact t1.append ih
  intro n' hn
  exact k _ _ (same_new hn) ⟨n', _, rfl, (s1.trans s2).free hn, upd_same, (rep _).mono (tk_same (same_new hn))⟩

/-! ### comparisons, tests -/
theorem je_cmp {op : CmpOp} {r2 : R2} {k : Bool} (ho : OpR X (compareOp op) r2) (ha : JE X B ρ a ra) (hb : JE X B ρ b rb) (hm : behindInMarks op b = false)
    (hc : ∀ (H H1 H2 : Hp) (x y : V) (Q : VK), VOk X.K H H2 ra x → VOk X.K H1 H2 rb y → Q (.bl k) H2 → r2 x y H2 Q) : JE X B ρ (.Compare a [op] [b] pos) (.d (.bool k)) := fun σ H Q R q =>
  ⟨_, pe_cmpR ho pe_we pe_we hm, bin_go ha hb R fun x y H1 H2 s1 s2 h1 h2 => hc H H1 H2 x y Q h1 h2 (q _ _ (s1.trans s2) (.bl _))⟩
theorem jt_cmp {op : CmpOp} {r2 : R2} {k : Bool} (ho : OpR X (compareOp op) r2) (ha : JE X B ρ a ra) (hb : JE X B ρ b rb) (hm : behindInMarks op b = false)
    (hc : ∀ (H H1 H2 : Hp) (x y : V) (Q : VK), VOk X.K H H2 ra x → VOk X.K H1 H2 rb y → Q (.bl k) H2 → r2 x y H2 Q) : JT X B ρ (.Compare a [op] [b] pos) k := fun σ H Q R q =>
  ⟨_, pt_cmpR ho pe_we pe_we hm, bin_go ha hb R fun x y H1 H2 s1 s2 h1 h2 => hc H H1 H2 x y _ h1 h2 ⟨k, rfl, q _ (s1.trans s2)⟩⟩
/-- what a comparison needs: a rule of the operator and what it answers -/
structure JC (X : Cx) (op : CmpOp) (ra rb : SV) (k : Bool) : Prop where
  ex : ∃ r2 : R2, OpR X (compareOp op) r2 ∧ ∀ (H H1 H2 : Hp) (x y : V) (Q : VK), VOk X.K H H2 ra x → VOk X.K H1 H2 rb y → Q (.bl k) H2 → r2 x y H2 Q
theorem je_c {op : CmpOp} {k : Bool} (h : JC X op ra rb k) (ha : JE X B ρ a ra) (hb : JE X B ρ b rb) (hm : behindInMarks op b = false := by first | exact nomark _ | rfl) : JE X B ρ (.Compare a [op] [b] pos) (.d (.bool k)) :=
  let ⟨_, ho, hc⟩ := h.ex; je_cmp ho ha hb hm hc
theorem jt_c {op : CmpOp} {k : Bool} (h : JC X op ra rb k) (ha : JE X B ρ a ra) (hb : JE X B ρ b rb) (hm : behindInMarks op b = false := by first | exact nomark _ | rfl) : JT X B ρ (.Compare a [op] [b] pos) k :=
  let ⟨_, ho, hc⟩ := h.ex; jt_cmp ho ha hb hm hc
section
variable {i j : Int}
theorem jc_lt : JC X .Lt (.d (.int i)) (.d (.int j)) (decide (i < j)) := ⟨_, op_lt, fun H H1 H2 x y Q h1 h2 q => ⟨i, j, TD.inj_int h1, TD.inj_int h2, q⟩⟩
theorem jc_le : JC X .LtE (.d (.int i)) (.d (.int j)) (decide (i ≤ j)) := ⟨_, op_le, fun H H1 H2 x y Q h1 h2 q => ⟨i, j, TD.inj_int h1, TD.inj_int h2, q⟩⟩
theorem jc_gt : JC X .Gt (.d (.int i)) (.d (.int j)) (decide (j < i)) := ⟨_, op_gt, fun H H1 H2 x y Q h1 h2 q => ⟨i, j, TD.inj_int h1, TD.inj_int h2, q⟩⟩
theorem jc_ge : JC X .GtE (.d (.int i)) (.d (.int j)) (decide (j ≤ i)) := ⟨_, op_ge, fun H H1 H2 x y Q h1 h2 q => ⟨i, j, TD.inj_int h1, TD.inj_int h2, q⟩⟩
theorem jc_eq : JC X .Eq (.d (.int i)) (.d (.int j)) (decide (i = j)) := ⟨_, op_eq, fun H H1 H2 x y Q h1 h2 q => by
  rw [TD.inj_int h1, TD.inj_int h2]
  refine ⟨rfl, ?_⟩
  have e : decide (V.int i = V.int j) = decide (i = j) := by by_cases h : i = j <;> simp [h]
  rw [e]; exact q⟩
theorem jc_ne : JC X .NotEq (.d (.int i)) (.d (.int j)) (!decide (i = j)) := ⟨_, op_ne, fun H H1 H2 x y Q h1 h2 q => by
  rw [TD.inj_int h1, TD.inj_int h2]
  refine ⟨rfl, ?_⟩
  have e : decide (V.int i = V.int j) = decide (i = j) := by by_cases h : i = j <;> simp [h]
  rw [e]; exact q⟩
theorem jc_eqS {x y : Str} : JC X .Eq (.d (.str x)) (.d (.str y)) (decide (x = y)) := ⟨_, op_eq, fun H H1 H2 u v Q h1 h2 q => by
  rw [TD.inj_str h1, TD.inj_str h2]
  refine ⟨rfl, ?_⟩
  have e : decide (V.str x = V.str y) = decide (x = y) := by by_cases h : x = y <;> simp [h]
  rw [e]; exact q⟩
theorem jc_neS {x y : Str} : JC X .NotEq (.d (.str x)) (.d (.str y)) (!decide (x = y)) := ⟨_, op_ne, fun H H1 H2 u v Q h1 h2 q => by
  rw [TD.inj_str h1, TD.inj_str h2]
  refine ⟨rfl, ?_⟩
  have e : decide (V.str x = V.str y) = decide (x = y) := by by_cases h : x = y <;> simp [h]
  rw [e]; exact q⟩
theorem jc_ltS {x y : Str} : JC X .Lt (.d (.str x)) (.d (.str y)) (decide (x.cps.toList < y.cps.toList)) := ⟨_, op_lt_str, fun H H1 H2 u v Q h1 h2 q => ⟨x, y, TD.inj_str h1, TD.inj_str h2, q⟩⟩
theorem jc_inSign {n : Nat} {z : Str} : JC X .In (.d (.str ⟨#[n]⟩)) (.d (.str z)) (decide (n ∈ z.cps.toList)) := ⟨_, op_in_sign, fun H H1 H2 u v Q h1 h2 q => ⟨n, z, TD.inj_str h1, TD.inj_str h2, q⟩⟩
end
theorem inV_int {i : Int} : ∀ ns : List Int, inV (.int i) (ns.map V.int) = decide (i ∈ ns)
  | [] => rfl
  | n :: ns => by
    have ih := inV_int (i := i) ns
    unfold inV at ih ⊢
    rw [List.map_cons, List.any_cons, ih]
    show ((n == i) || _) = _
    by_cases h : i = n
    · subst h; simp
    · have h' : ¬ n = i := fun z => h z.symm
      simp [h, h']
theorem inV_str {i : Str} : ∀ ns : List Str, inV (.str i) (ns.map V.str) = decide (i ∈ ns)
  | [] => rfl
  | n :: ns => by
    have ih := inV_str (i := i) ns
    unfold inV at ih ⊢
    rw [List.map_cons, List.any_cons, ih]
    show ((n == i) || _) = _
    by_cases h : i = n
    · subst h; simp
    · have h' : ¬ n = i := fun z => h z.symm
      simp [h, h']
theorem flat_ints (ns : List Int) : (ns.map V.int).all flatV = true := by simp [List.all_map, Function.comp_def, flatV]
theorem flat_strs (ns : List Str) : (ns.map V.str).all flatV = true := by simp [List.all_map, Function.comp_def, flatV]
/-- ints or texts in a sequence -/
theorem in_go {K : PySem.W.Frag} {H : Hp} {v : V} {ys vs : List V} {p : Addr} {neg k : Bool} {Q : VK} (hs : SqL K H p vs ∨ SqT K H p vs) (fv : flatV v = true) (fs : vs.all flatV = true) (e : inV v vs = k) (q : Q (.bl (if neg then !k else k)) H) : rIn K neg v (.ref p) H Q :=
  ⟨p, vs, rfl, hs, fv, fs, by rw [e]; exact q⟩
section
variable {i : Int} {ns : List Int} {x : Str} {zs : List Str}
theorem jc_inT : JC X .In (.d (.int i)) (.d (.tuple (ns.map PyData.int))) (decide (i ∈ ns)) := ⟨_, op_in_seq, fun H H1 H2 u v Q h1 h2 q => by
  obtain ⟨p, vs, rfl, hs, t⟩ := TD.inj_tup h2
  rw [TD.inj_int h1]
  have e := t.ints; subst e
  exact in_go (ys := []) (neg := false) (.inr hs) rfl (flat_ints _) (inV_int ns) q⟩
theorem jc_niT : JC X .NotIn (.d (.int i)) (.d (.tuple (ns.map PyData.int))) (!decide (i ∈ ns)) := ⟨_, op_notIn_seq, fun H H1 H2 u v Q h1 h2 q => by
  obtain ⟨p, vs, rfl, hs, t⟩ := TD.inj_tup h2
  rw [TD.inj_int h1]
  have e := t.ints; subst e
  exact in_go (ys := []) (neg := true) (.inr hs) rfl (flat_ints _) (inV_int ns) q⟩
theorem jc_inL : JC X .In (.d (.int i)) (.l (ns.map PyData.int)) (decide (i ∈ ns)) := ⟨_, op_in_seq, fun H H1 H2 u v Q h1 h2 q => by
  obtain ⟨p, vs, rfl, hs, t⟩ := h2
  rw [TD.inj_int h1]
  have e := t.ints; subst e
  exact in_go (ys := []) (neg := false) (.inl (SqL.of hs)) rfl (flat_ints _) (inV_int ns) q⟩
theorem jc_niL : JC X .NotIn (.d (.int i)) (.l (ns.map PyData.int)) (!decide (i ∈ ns)) := ⟨_, op_notIn_seq, fun H H1 H2 u v Q h1 h2 q => by
  obtain ⟨p, vs, rfl, hs, t⟩ := h2
  rw [TD.inj_int h1]
  have e := t.ints; subst e
  exact in_go (ys := []) (neg := true) (.inl (SqL.of hs)) rfl (flat_ints _) (inV_int ns) q⟩
theorem jc_inTS : JC X .In (.d (.str x)) (.d (.tuple (zs.map PyData.str))) (decide (x ∈ zs)) := ⟨_, op_in_seq, fun H H1 H2 u v Q h1 h2 q => by
  obtain ⟨p, vs, rfl, hs, t⟩ := TD.inj_tup h2
  rw [TD.inj_str h1]
  have e := t.strs; subst e
  exact in_go (ys := []) (neg := false) (.inr hs) rfl (flat_strs _) (inV_str zs) q⟩
theorem jc_niTS : JC X .NotIn (.d (.str x)) (.d (.tuple (zs.map PyData.str))) (!decide (x ∈ zs)) := ⟨_, op_notIn_seq, fun H H1 H2 u v Q h1 h2 q => by
  obtain ⟨p, vs, rfl, hs, t⟩ := TD.inj_tup h2
  rw [TD.inj_str h1]
  have e := t.strs; subst e
  exact in_go (ys := []) (neg := true) (.inr hs) rfl (flat_strs _) (inV_str zs) q⟩
theorem jc_inLS : JC X .In (.d (.str x)) (.l (zs.map PyData.str)) (decide (x ∈ zs)) := ⟨_, op_in_seq, fun H H1 H2 u v Q h1 h2 q => by
  obtain ⟨p, vs, rfl, hs, t⟩ := h2
  rw [TD.inj_str h1]
  have e := t.strs; subst e
  exact in_go (ys := []) (neg := false) (.inl (SqL.of hs)) rfl (flat_strs _) (inV_str zs) q⟩
theorem jc_niLS : JC X .NotIn (.d (.str x)) (.l (zs.map PyData.str)) (!decide (x ∈ zs)) := ⟨_, op_notIn_seq, fun H H1 H2 u v Q h1 h2 q => by
  obtain ⟨p, vs, rfl, hs, t⟩ := h2
  rw [TD.inj_str h1]
  have e := t.strs; subst e
  exact in_go (ys := []) (neg := true) (.inl (SqL.of hs)) rfl (flat_strs _) (inV_str zs) q⟩
end
/-! data at any depth -/
def dOf : SV → Option PyData
  | .d x => some x
  | .l xs => some (.list xs)
  | _ => none
theorem dp_of {K : PySem.W.Frag} {H H' : Hp} {r : SV} {v : V} {x : PyData} (h : VOk K H H' r v) (e : dOf r = some x) : Dp K H' v x := by
  cases r with
  | un => cases e
  | d y => cases e; exact TD.dp h
  | l ys =>
    cases e
    obtain ⟨a, vs, rfl, h2, t⟩ := h
    exact .lst (SqL.of h2) t.dp
  | m ys => cases e
  | q ys => cases e
  | g _ l => cases e
theorem jc_eqD {x y : PyData} (hu : X.A.units + 64 < cLine) (ea : dOf ra = some x) (eb : dOf rb = some y) (sx : SeqAt.shaped x = true) (sy : SeqAt.shaped y = true) : JC X .Eq ra rb (PyData.eqv x y) := ⟨_, op_eqD hu, fun H H1 H2 u v Q h1 h2 q => ⟨x, y, dp_of h1 ea, dp_of h2 eb, sx, sy, q⟩⟩
theorem jc_neD {x y : PyData} (hu : X.A.units + 64 < cLine) (ea : dOf ra = some x) (eb : dOf rb = some y) (sx : SeqAt.shaped x = true) (sy : SeqAt.shaped y = true) : JC X .NotEq ra rb (!PyData.eqv x y) := ⟨_, op_neD hu, fun H H1 H2 u v Q h1 h2 q => ⟨x, y, dp_of h1 ea, dp_of h2 eb, sx, sy, q⟩⟩
theorem jc_niD {x : PyData} {ys : List PyData} (hu : X.A.units + 65 < cLine) (sx : SeqAt.shaped x = true) (sy : SeqAt.shaped (.list ys) = true) : JC X .NotIn (.d x) (.l ys) (!ys.any fun z => PyData.eqv z x) :=
  ⟨_, op_notInD hu, fun H H1 H2 u v Q h1 h2 q => ⟨x, ys, TD.dp h1, dp_of h2 rfl, sx, sy, q⟩⟩

/-- an expression as a test -/
theorem jt_val {k : Bool} (h : JE X B ρ e (.d (.bool k))) (he : ∀ whole, isTrue e X.env whole = (do let v ← whole; standAt e.pos; holding [v] (truthy v)) := by intro _; rfl) : JT X B ρ e k := fun σ H Q R q =>
  ⟨_, pt_val pe_we he, h σ H _ R fun v H' s t => ⟨k, TD.inj_bl t, q H' s⟩⟩
theorem jt_not {k : Bool} (h : JT X B ρ e k) : JT X B ρ (.UnaryOp .Not e pos) (!k) := fun σ H Q R q => ⟨_, pt_not pt_wt, h σ H _ R fun H' s => q H' s⟩
theorem je_not {k : Bool} (h : JE X B ρ e (.d (.bool k))) : JE X B ρ (.UnaryOp .Not e pos) (.d (.bool (!k))) := fun σ H Q R q => ⟨_, pe_not pe_we, h σ H _ R fun v H' s t => ⟨k, TD.inj_bl t, q _ H' s (.bl _)⟩⟩
theorem je_one {op : BoolOp} (h : JE X B ρ a r) : JE X B ρ (.BoolOp op [a] pos) r := fun σ H Q R k => ⟨_, pe_one pe_we, h σ H Q R k⟩
theorem je_and {x y : Bool} (h1 : JE X B ρ a (.d (.bool x))) (h2 : x = true → JE X B ρ (.BoolOp .And (b :: rest) pos) (.d (.bool y))) : JE X B ρ (.BoolOp .And (a :: b :: rest) pos) (.d (.bool (x && y))) := fun σ H Q R q =>
  ⟨_, pe_and pe_we pe_we, h1 σ H _ R fun v H1 s1 t1 => ⟨x, TD.inj_bl t1, by
    cases x with
    | true => exact h2 rfl σ H1 Q (R.mono s1) fun v H2 s2 t2 => q v H2 (s1.trans s2) (by rw [Bool.true_and]; exact t2)
    | false => exact q _ H1 s1 (.bl _)⟩⟩
theorem je_or {x y : Bool} (h1 : JE X B ρ a (.d (.bool x))) (h2 : x = false → JE X B ρ (.BoolOp .Or (b :: rest) pos) (.d (.bool y))) : JE X B ρ (.BoolOp .Or (a :: b :: rest) pos) (.d (.bool (x || y))) := fun σ H Q R q =>
  ⟨_, pe_or pe_we pe_we, h1 σ H _ R fun v H1 s1 t1 => ⟨x, TD.inj_bl t1, by
    cases x with
    | false => exact h2 rfl σ H1 Q (R.mono s1) fun v H2 s2 t2 => q v H2 (s1.trans s2) (by rw [Bool.false_or]; exact t2)
    | true => exact q _ H1 s1 (.bl _)⟩⟩
/-- tests joined by and, or (whatever the whole is) -/
def JW (X : Cx) (B : Hp) (ρ : List SV) (e : Expr) (b : Bool) : Prop := ∀ (σ : L2.St) (H : Hp) (Q : Bool → Hp → Prop), Rs X.K B ρ σ H → (∀ H', Same H H' → Q b H') → ∃ t, PW X e t ∧ t σ H Q
theorem pw_ww {e : Expr} : PW X e (fun σ H Q => ∃ t, PW X e t ∧ t σ H Q) := ⟨fun wh pins s σ H Q I h => let ⟨t, ht, q⟩ := h; ht.run wh pins s σ H Q I q⟩
theorem jw_t {k : Bool} (h : JW X B ρ e k) : JT X B ρ e k := fun σ H Q R q => let ⟨t, a, b⟩ := h σ H Q R q; ⟨t, a.pt, b⟩
theorem jw_and1 {k : Bool} (h : JT X B ρ a k) : JW X B ρ (.BoolOp .And [a] pos) k := fun σ H Q R q => ⟨_, pw_and1 pt_wt, h σ H Q R q⟩
theorem jw_or1 {k : Bool} (h : JT X B ρ a k) : JW X B ρ (.BoolOp .Or [a] pos) k := fun σ H Q R q => ⟨_, pw_or1 pt_wt, h σ H Q R q⟩
theorem jw_and {x y : Bool} (h1 : JT X B ρ a x) (h2 : x = true → JW X B ρ (.BoolOp .And (b :: rest) pos) y) : JW X B ρ (.BoolOp .And (a :: b :: rest) pos) (x && y) := fun σ H Q R q =>
  ⟨_, pw_and pt_wt pw_ww, h1 σ H _ R fun H1 s1 => by
    cases x with
    | true => exact h2 rfl σ H1 Q (R.mono s1) fun H2 s2 => by rw [Bool.true_and] at q; exact q H2 (s1.trans s2)
    | false => exact q H1 s1⟩
theorem jw_or {x y : Bool} (h1 : JT X B ρ a x) (h2 : x = false → JW X B ρ (.BoolOp .Or (b :: rest) pos) y) : JW X B ρ (.BoolOp .Or (a :: b :: rest) pos) (x || y) := fun σ H Q R q =>
  ⟨_, pw_or pt_wt pw_ww, h1 σ H _ R fun H1 s1 => by
    cases x with
    | false => exact h2 rfl σ H1 Q (R.mono s1) fun H2 s2 => by rw [Bool.false_or] at q; exact q H2 (s1.trans s2)
    | true => exact q H1 s1⟩
theorem je_if {k : Bool} (h : JT X B ρ c k) (h1 : k = true → JE X B ρ a r) (h2 : k = false → JE X B ρ b r) : JE X B ρ (.IfExp c a b pos) r := fun σ H Q R q =>
  ⟨_, pe_ifExp pt_wt pe_we pe_we, h σ H _ R fun H1 s1 => by
    cases k with
    | true => exact h1 rfl σ H1 Q (R.mono s1) fun v H2 s2 t => q v H2 (s1.trans s2) (t.back s1)
    | false => exact h2 rfl σ H1 Q (R.mono s1) fun v H2 s2 t => q v H2 (s1.trans s2) (t.back s1)⟩
/-- a <= b <= c of ints -/
theorem chain_go {i j k : Int} {σ : L2.St} {H : Hp} (ha : JE X B ρ a (.d (.int i))) (hb : JE X B ρ b (.d (.int j))) (hc : JE X B ρ c (.d (.int k))) (R : Rs X.K B ρ σ H) (Q : VK) (q : ∀ H', Same H H' → Q (.bl (decide (i ≤ j) && decide (j ≤ k))) H') :
    tChain (rI0 fun i j => .bl (decide (i ≤ j))) (rI0 fun i j => .bl (decide (i ≤ j))) (WE X a) (WE X b) (WE X c) σ H Q :=
  bin_go ha hb R fun x y H1 H2 s1 s2 h1 h2 => ⟨i, j, TD.inj_int h1, TD.inj_int h2, decide (i ≤ j), rfl, by
    by_cases h : i ≤ j
    · rw [decide_eq_true h, if_pos rfl]
      exact hc σ H2 _ (R.mono (s1.trans s2)) fun v H3 s3 t => ⟨j, k, TD.inj_int h2, TD.inj_int t, by rw [decide_eq_true h, Bool.true_and] at q; exact q H3 ((s1.trans s2).trans s3)⟩
    · rw [decide_eq_false h, if_neg Bool.false_ne_true]
      rw [decide_eq_false h, Bool.false_and] at q
      exact q H2 (s1.trans s2)⟩
theorem je_chain {i j k : Int} (ha : JE X B ρ a (.d (.int i))) (hb : JE X B ρ b (.d (.int j))) (hc : JE X B ρ c (.d (.int k))) (hm : lastMarks [.LtE, .LtE] [b, c] = false := by with_unfolding_all rfl) :
    JE X B ρ (.Compare a [.LtE, .LtE] [b, c] pos) (.d (.bool (decide (i ≤ j) && decide (j ≤ k)))) := fun σ H Q R q => ⟨_, pe_chain op_le op_le pe_we pe_we pe_we hm, chain_go ha hb hc R Q fun H' s => q _ H' s (.bl _)⟩
theorem jt_chain {i j k : Int} (ha : JE X B ρ a (.d (.int i))) (hb : JE X B ρ b (.d (.int j))) (hc : JE X B ρ c (.d (.int k))) (hm : lastMarks [.LtE, .LtE] [b, c] = false := by with_unfolding_all rfl) :
    JT X B ρ (.Compare a [.LtE, .LtE] [b, c] pos) (decide (i ≤ j) && decide (j ≤ k)) := fun σ H Q R q => ⟨_, pt_chain op_le op_le pe_we pe_we pe_we hm, chain_go ha hb hc R _ fun H' s => ⟨_, rfl, q H' s⟩⟩

/-! ### arguments, displays -/
theorem AOk.ex {K : PySem.W.Frag} {H H' : Hp} {r : SV} {v : V} (s : Same H H') (h : AOk K H r v) : AOk K H' r v := by
  cases r with
  | un => trivial
  | d x => exact TD.mono (tk_same s) h
  | l xs => obtain ⟨a, vs, h1, h2, h3⟩ := h; exact ⟨a, vs, h1, s _ _ h2, h3.mono (tk_same s)⟩
  | m xs => exact h
  | q xs => obtain ⟨a, vs, h1, h0, h2, h3⟩ := h; rw [h2] at h0; cases h0
  | g _ l => exact h
/-- what may be handed on -/
def argOk : SV → Bool
  | .d _ => true
  | .l _ => true
  | .un => true
  | _ => false
theorem VOk.arg {K : PySem.W.Frag} {H H' : Hp} {r : SV} {v : V} (h : VOk K H H' r v) (k : argOk r = true) : AOk K H' r v := by
  cases r with
  | un => trivial
  | d x => exact h
  | l xs => exact h
  | m xs => cases k
  | q xs => cases k
  | g _ l => cases k
theorem ja_nil : JA X B ρ [] [] := fun σ H Q R k => ⟨_, pa_nil, k [] H (Same.refl H) .nil⟩
theorem ja_cons {rs : List SV} (h : JE X B ρ e r) (hs : JA X B ρ es rs) (k : argOk r = true := by rfl) (hst : starEach (e :: es) X.env = (false, eval e X.env) :: starEach es X.env := by rfl) : JA X B ρ (e :: es) (r :: rs) := fun σ H Q R q =>
  ⟨_, pa_cons pe_we pa_wa hst, h σ H _ R fun v H1 s1 t1 => hs σ H1 _ (R.mono s1) fun vs H2 s2 t2 => q (v :: vs) H2 (s1.trans s2) (.cons ((t1.arg k).ex s2) t2)⟩
theorem AOks.datas {K : PySem.W.Frag} {H : Hp} : ∀ {ds : List PyData} {vs : List V}, AOks K H (ds.map SV.d) vs → TDs K H vs ds
  | [], _, .nil => .nil
  | d :: ds, _, .cons h hs => .cons h (AOks.datas hs)
theorem je_tup {ds : List PyData} {x1} (h : JA X B ρ es (ds.map SV.d)) (hl : ds.length ≤ 1000 := by exact Nat.le_of_ble_eq_true rfl) : JE X B ρ (.Tuple es x1 pos) (.d (.tuple ds)) := fun σ H Q R q =>
  ⟨_, pe_tup pa_wa, h σ H _ R fun vs H1 s1 t => ⟨by rw [(AOks.datas t).length]; exact sz1000 hl, fun p hp => q _ _ (s1.trans (same_new hp)) (.tup (SqT.of upd_same) ((AOks.datas t).mono (tk_same (same_new hp))))⟩⟩
theorem je_lst {ds : List PyData} (h : JA X B ρ es (ds.map SV.d)) (hl : ds.length ≤ 1000 := by exact Nat.le_of_ble_eq_true rfl) : JE X B ρ (.List es pos) (.m ds) := fun σ H Q R q =>
  ⟨_, pe_lst pa_wa, h σ H _ R fun vs H1 s1 t => ⟨by rw [(AOks.datas t).length]; exact sz1000 hl, fun p hp => q _ _ (s1.trans (same_new hp)) ⟨p, vs, rfl, s1.free hp, upd_same, (AOks.datas t).mono (tk_same (same_new hp))⟩⟩⟩

/-! ### subscripts -/
theorem atI_td {K : PySem.W.Frag} {H : Hp} {vs : List V} {ds : List PyData} {i : Int} {d : PyData} (t : TDs K H vs ds) (h : atI ds i = some d) : ∃ v, atI vs i = some v ∧ TD K H v d := by
  unfold atI at h ⊢
  rw [t.length]
  cases e : ixN ds.length i with
  | none => rw [e] at h; cases h
  | some j =>
    rw [e] at h
    obtain ⟨v, h1, h2⟩ := t.get (i := j) (d := d) h
    exact ⟨v, h1, h2⟩
theorem je_ixT {ds : List PyData} {i : Int} {d : PyData} (ha : JE X B ρ a (.d (.tuple ds))) (hb : JE X B ρ b (.d (.int i))) (h : atI ds i = some d) (hs : PlainIx b := by intro _ _; rfl) : JE X B ρ (.Subscript a b pos) (.d d) := fun σ H Q R k =>
  ⟨_, pe_ix ix_tup pe_we pe_we hs, bin_go ha hb R fun x y H1 H2 s1 s2 h1 h2 => by
    obtain ⟨p, vs, rfl, hq, t⟩ := TD.inj_tup h1
    obtain ⟨v, e, tv⟩ := atI_td t h
    exact ⟨p, vs, i, v, rfl, TD.inj_int h2, hq, e, k v H2 (s1.trans s2) tv⟩⟩
theorem je_ixL {ds : List PyData} {i : Int} {d : PyData} (ha : JE X B ρ a (.l ds)) (hb : JE X B ρ b (.d (.int i))) (h : atI ds i = some d) (hs : PlainIx b := by intro _ _; rfl) : JE X B ρ (.Subscript a b pos) (.d d) := fun σ H Q R k =>
  ⟨_, pe_ix ix_list pe_we pe_we hs, bin_go ha hb R fun x y H1 H2 s1 s2 h1 h2 => by
    obtain ⟨p, vs, rfl, hq, t⟩ := h1
    obtain ⟨v, e, tv⟩ := atI_td t h
    exact ⟨p, vs, i, v, rfl, TD.inj_int h2, SqL.of hq, e, k v H2 (s1.trans s2) tv⟩⟩
theorem je_ixS {z : Str} {i : Int} {n : Nat} (ha : JE X B ρ a (.d (.str z))) (hb : JE X B ρ b (.d (.int i))) (hl : z.length ≤ 1000) (h : atI z.cps.toList i = some n) (hs : PlainIx b := by intro _ _; rfl) : JE X B ρ (.Subscript a b pos) (.d (.str ⟨#[n]⟩)) := fun σ H Q R k =>
  ⟨_, pe_ix ix_str pe_we pe_we hs, bin_go ha hb R fun x y H1 H2 s1 s2 h1 h2 => ⟨z, i, n, TD.inj_str h1, TD.inj_int h2, sz1000 hl, h, k _ H2 (s1.trans s2) (.str _)⟩⟩
/-- the items of a slice -/
def cutD (xs : List PyData) (lo hi : Option Int) : List PyData := (xs.drop (HT.sIx xs.length 0 lo)).take (HT.sIx xs.length xs.length hi - HT.sIx xs.length 0 lo)
def JO (X : Cx) (B : Hp) (ρ : List SV) (e : Option Expr) (o : Option Int) : Prop := ∀ (σ : L2.St) (H : Hp) (Q : Option Int → Hp → Prop), Rs X.K B ρ σ H → (∀ H', Same H H' → Q o H') → ∃ t, PO X e t ∧ t σ H Q
theorem po_wo {e : Option Expr} : PO X e (fun σ H Q => ∃ t, PO X e t ∧ t σ H Q) := ⟨fun pins s σ H Q I h => let ⟨t, ht, q⟩ := h; ht.run pins s σ H Q I q⟩
theorem jo_none : JO X B ρ none none := fun σ H Q R q => ⟨_, po_none, q H (Same.refl H)⟩
theorem jo_some {i : Int} (h : JE X B ρ e (.d (.int i))) : JO X B ρ (some e) (some i) := fun σ H Q R q => ⟨_, po_some pe_we, h σ H _ R fun v H' s t => ⟨i, TD.inj_int t, q H' s⟩⟩
theorem je_slT {ds : List PyData} {lo hi : Option Expr} {l u : Option Int} {p2 : Pos} (ha : JE X B ρ a (.d (.tuple ds))) (hl : JO X B ρ lo l) (hu : JO X B ρ hi u) : JE X B ρ (.Subscript a (.Slice lo hi none p2) pos) (.d (.tuple (cutD ds l u))) := fun σ H Q R k =>
  ⟨_, pe_slice sl_tupA pe_we po_wo po_wo, ha σ H _ R fun v H1 s1 t1 => hl σ H1 _ (R.mono s1) fun H2 s2 => hu σ H2 _ (R.mono (s1.trans s2)) fun H3 s3 => by
    obtain ⟨p, vs, rfl, hq, t⟩ := TD.inj_tup t1
    have k23 := s2.trans s3
    have hq' := tk_same k23 _ _ hq
    have t' := t.mono (tk_same k23)
    have s := (s1.trans s2).trans s3
    have cut : TDs X.K H3 (cutV vs l u) (cutD ds l u) := by
      unfold cutV cutD
      rw [t.length]
      exact (t'.drop _).take _
    refine ⟨p, vs, rfl, hq', fun z => ?_, fun _ n hn => k _ _ (s.trans (same_new hn)) (.tup (SqT.of upd_same) (cut.mono (tk_same (same_new hn))))⟩
    have e : cutD ds l u = ds := by
      rw [t.length] at z
      unfold cutD
      rw [z.1, z.2, List.drop_zero, Nat.sub_zero, List.take_length]
    rw [e] at k
    exact k _ H3 s (.tup hq' t')⟩

/-! ### built-in calls -/
theorem boot_abs : bootBuiltins "abs" = some (.builtin "abs") := by decide +kernel
theorem je_cb {n : Str} {id : String} {rule : List V → Hp → VK → Prop} {rs : List SV} (hc : CallR X (.builtin id) rule) (hm : X.mg n = none) (hv : bootBuiltins n = some (.builtin id)) (ha : JA X B ρ (e :: es) rs) (hg : Gl X n)
    (hr : ∀ (H H1 : Hp) (vs : List V) (Q : VK), Same H H1 → AOks X.K H1 rs vs → (∀ v H2, Same H1 H2 → VOk X.K H H2 r v → Q v H2) → rule vs H1 Q) (hn : n ≠ "__name__" := by decide) (hdb : (n == ("__debug__" : Str)) = false := by decide)
    (he : starEach (e :: es) X.env = (false, eval e X.env) :: starEach es X.env := by rfl) (hpl : (backTo pos (starEach es X.env)).any (·.1) = false := by rfl) : JE X B ρ (.Call (.Name n p) (e :: es) [] pos) r := fun σ H Q R k =>
  ⟨_, pe_callB hc hg hm hv pa_wa hn hdb he hpl, ha σ H _ R fun vs H1 s1 t => hr H H1 vs Q s1 t fun v H2 s2 t2 => k v H2 (s1.trans s2) t2⟩
theorem je_ct {n : Str} {T : String} {rule : List V → Hp → VK → Prop} {rs : List SV} (hc : CallR X (.type T) rule) (hm : X.mg n = none) (hv : bootBuiltins n = some (.type T)) (ha : JA X B ρ (e :: es) rs) (hg : Gl X n)
    (hr : ∀ (H H1 : Hp) (vs : List V) (Q : VK), Same H H1 → AOks X.K H1 rs vs → (∀ v H2, Same H1 H2 → VOk X.K H H2 r v → Q v H2) → rule vs H1 Q) (hn : n ≠ "__name__" := by decide) (hdb : (n == ("__debug__" : Str)) = false := by decide)
    (he : starEach (e :: es) X.env = (false, eval e X.env) :: starEach es X.env := by rfl) (hpl : (backTo pos (starEach es X.env)).any (·.1) = false := by rfl) : JE X B ρ (.Call (.Name n p) (e :: es) [] pos) r := fun σ H Q R k =>
  ⟨_, pe_callTy hc hg hm hv pa_wa hn hdb he hpl, ha σ H _ R fun vs H1 s1 t => hr H H1 vs Q s1 t fun v H2 s2 t2 => k v H2 (s1.trans s2) t2⟩
theorem AOks.one {K : PySem.W.Frag} {H : Hp} {r : SV} {vs : List V} (h : AOks K H [r] vs) : ∃ v, vs = [v] ∧ AOk K H r v := by
  cases h with
  | cons h t => cases t; exact ⟨_, rfl, h⟩
theorem AOks.two {K : PySem.W.Frag} {H : Hp} {r1 r2 : SV} {vs : List V} (h : AOks K H [r1, r2] vs) : ∃ v w, vs = [v, w] ∧ AOk K H r1 v ∧ AOk K H r2 w := by
  cases h with
  | cons h t =>
    cases t with
    | cons h2 t => cases t; exact ⟨_, _, rfl, h, h2⟩
theorem AOks.three {K : PySem.W.Frag} {H : Hp} {r1 r2 r3 : SV} {vs : List V} (h : AOks K H [r1, r2, r3] vs) : ∃ v w u, vs = [v, w, u] ∧ AOk K H r1 v ∧ AOk K H r2 w ∧ AOk K H r3 u := by
  cases h with
  | cons h t =>
    obtain ⟨v, w, rfl, h2, h3⟩ := AOks.two t
    exact ⟨_, _, _, rfl, h, h2, h3⟩
theorem je_lenT {ds : List PyData} (T : Bt X.mg) (ha : JE X B ρ e (.d (.tuple ds))) (hg : Gl X "len" := by rfl) (he : starEach [e] X.env = [(false, eval e X.env)] := by rfl) : JE X B ρ (.Call (.Name "len" p) [e] [] pos) (.d (.int (ds.length : Nat))) :=
  je_cb call_len_seq T.len PySem.boot_len (ja_cons ha ja_nil rfl he) hg (fun H H1 vs Q s t k => by
    obtain ⟨v, rfl, tv⟩ := t.one
    obtain ⟨p, ws, rfl, hq, t⟩ := TD.inj_tup tv
    exact ⟨p, ws, rfl, .inr hq, by rw [t.length]; exact k _ H1 (Same.refl _) (.int _)⟩) (he := he)
theorem je_lenL {ds : List PyData} (T : Bt X.mg) (ha : JE X B ρ e (.l ds)) (hg : Gl X "len" := by rfl) (he : starEach [e] X.env = [(false, eval e X.env)] := by rfl) : JE X B ρ (.Call (.Name "len" p) [e] [] pos) (.d (.int (ds.length : Nat))) :=
  je_cb call_len_seq T.len PySem.boot_len (ja_cons ha ja_nil rfl he) hg (fun H H1 vs Q s t k => by
    obtain ⟨v, rfl, tv⟩ := t.one
    obtain ⟨p, ws, rfl, hq, t⟩ := tv
    exact ⟨p, ws, rfl, .inl (SqL.of hq), by rw [t.length]; exact k _ H1 (Same.refl _) (.int _)⟩) (he := he)
theorem je_lenS {z : Str} (T : Bt X.mg) (ha : JE X B ρ e (.d (.str z))) (hl : z.length ≤ 1000) (hg : Gl X "len" := by rfl) (he : starEach [e] X.env = [(false, eval e X.env)] := by rfl) : JE X B ρ (.Call (.Name "len" p) [e] [] pos) (.d (.int (z.length : Nat))) :=
  je_cb call_len_str T.len PySem.boot_len (ja_cons ha ja_nil rfl he) hg (fun H H1 vs Q s t k => by
    obtain ⟨v, rfl, tv⟩ := t.one
    exact ⟨z, by rw [TD.inj_str tv], sz1000 hl, k _ H1 (Same.refl _) (.int _)⟩) (he := he)
theorem je_listT {ds : List PyData} (T : Bt X.mg) (ha : JE X B ρ e (.d (.tuple ds))) (hg : Gl X "list" := by rfl) (he : starEach [e] X.env = [(false, eval e X.env)] := by rfl) : JE X B ρ (.Call (.Name "list" p) [e] [] pos) (.m ds) :=
  je_ct call_list_of T.list boot_list (ja_cons ha ja_nil rfl he) hg (fun H H1 vs Q s t k => by
    obtain ⟨v, rfl, tv⟩ := t.one
    obtain ⟨p, ws, rfl, hq, t⟩ := TD.inj_tup tv
    exact ⟨p, ws, rfl, .inr hq, fun l hl => k _ _ (same_new hl) ⟨l, ws, rfl, s.free hl, upd_same, t.mono (tk_same (same_new hl))⟩⟩) (he := he)
theorem je_listL {ds : List PyData} (T : Bt X.mg) (ha : JE X B ρ e (.l ds)) (hg : Gl X "list" := by rfl) (he : starEach [e] X.env = [(false, eval e X.env)] := by rfl) : JE X B ρ (.Call (.Name "list" p) [e] [] pos) (.m ds) :=
  je_ct call_list_of T.list boot_list (ja_cons ha ja_nil rfl he) hg (fun H H1 vs Q s t k => by
    obtain ⟨v, rfl, tv⟩ := t.one
    obtain ⟨p, ws, rfl, hq, t⟩ := tv
    exact ⟨p, ws, rfl, .inl (SqL.of hq), fun l hl => k _ _ (same_new hl) ⟨l, ws, rfl, s.free hl, upd_same, t.mono (tk_same (same_new hl))⟩⟩) (he := he)
theorem je_tupleL {ds : List PyData} (T : Bt X.mg) (ha : JE X B ρ e (.l ds)) (hg : Gl X "tuple" := by rfl) (he : starEach [e] X.env = [(false, eval e X.env)] := by rfl) : JE X B ρ (.Call (.Name "tuple" p) [e] [] pos) (.d (.tuple ds)) :=
  je_ct call_tuple_of T.tuple boot_tuple (ja_cons ha ja_nil rfl he) hg (fun H H1 vs Q s t k => by
    obtain ⟨v, rfl, tv⟩ := t.one
    obtain ⟨p, ws, rfl, hq, t⟩ := tv
    exact ⟨p, ws, rfl, .inl ⟨SqL.of hq, fun l hl => k _ _ (same_new hl) (.tup (SqT.of upd_same) (t.mono (tk_same (same_new hl))))⟩⟩) (he := he)
theorem je_all {bs : List Bool} (T : Bt X.mg) (ha : JE X B ρ e (.l (bs.map PyData.bool))) (hc : X.calm = true := by rfl) (hg : Gl X "all" := by rfl) (he : starEach [e] X.env = [(false, eval e X.env)] := by rfl) : JE X B ρ (.Call (.Name "all" p) [e] [] pos) (.d (.bool (bs.all id))) :=
  je_cb (cr_all hc) T.all boot_all (ja_cons ha ja_nil rfl he) hg (fun H H1 vs Q s t k => by
    obtain ⟨v, rfl, tv⟩ := t.one
    obtain ⟨p, ws, rfl, hq, t⟩ := tv
    exact ⟨p, bs, rfl, by rw [← t.bls]; exact SqL.of hq, k _ H1 (Same.refl _) (.bl _)⟩) (he := he)
theorem boot_any' : bootBuiltins "any" = some (.builtin "any") := by decide +kernel
theorem je_any {bs : List Bool} (hm : X.mg "any" = none) (ha : JE X B ρ e (.l (bs.map PyData.bool))) (hc : X.calm = true := by rfl) (hg : Gl X "any" := by rfl) (he : starEach [e] X.env = [(false, eval e X.env)] := by rfl) : JE X B ρ (.Call (.Name "any" p) [e] [] pos) (.d (.bool (bs.any id))) :=
  je_cb (cr_any hc) hm boot_any' (ja_cons ha ja_nil rfl he) hg (fun H H1 vs Q s t k => by
    obtain ⟨v, rfl, tv⟩ := t.one
    obtain ⟨p, ws, rfl, hq, t⟩ := tv
    exact ⟨p, bs, rfl, by rw [← t.bls]; exact SqL.of hq, k _ H1 (Same.refl _) (.bl _)⟩) (he := he)
/-- sorted of ints: some list with those members, in order -/
theorem je_sorted {ns : List Int} {ms : List Int} (T : Bt X.mg) (ha : JE X B ρ e (.l (ns.map PyData.int))) (hl : ns.length < 64) (hu : ∀ ms' : List Int, ms'.Perm ns → ms'.Pairwise (· ≤ ·) → ms' = ms) (hg : Gl X "sorted" := by rfl) (he : starEach [e] X.env = [(false, eval e X.env)] := by rfl) :
    JE X B ρ (.Call (.Name "sorted" p) [e] [] pos) (.m (ms.map PyData.int)) :=
  je_cb cr_sorted T.sorted boot_sorted (ja_cons ha ja_nil rfl he) hg (fun H H1 vs Q s t k => by
    obtain ⟨v, rfl, tv⟩ := t.one
    obtain ⟨p, ws, rfl, hq, t⟩ := tv
    refine ⟨p, ns, rfl, by rw [← t.ints]; exact SqL.of hq, hl, fun ms' q hp hs hn => ?_⟩
    have e := hu ms' hp hs
    subst e
    exact k _ _ (same_new hn) ⟨q, _, rfl, s.free hn, upd_same, tds_ints⟩) (he := he)
theorem je_sortedT {ns : List Int} {ms : List Int} (T : Bt X.mg) (ha : JE X B ρ e (.d (.tuple (ns.map PyData.int)))) (hl : ns.length < 64) (hu : ∀ ms' : List Int, ms'.Perm ns → ms'.Pairwise (· ≤ ·) → ms' = ms) (hg : Gl X "sorted" := by rfl) (he : starEach [e] X.env = [(false, eval e X.env)] := by rfl) :
    True := trivial
theorem je_min2 {i j : Int} (T : Bt X.mg) (ha : JE X B ρ a (.d (.int i))) (hb : JE X B ρ b (.d (.int j))) (hc : X.calm = true := by rfl) (hg : Gl X "min" := by rfl) (he : starEach [a, b] X.env = (false, eval a X.env) :: starEach [b] X.env := by rfl) (he2 : starEach [b] X.env = [(false, eval b X.env)] := by rfl)
    (hpl : (backTo pos (starEach [b] X.env)).any (·.1) = false := by rfl) : JE X B ρ (.Call (.Name "min" p) [a, b] [] pos) (.d (.int (if j < i then j else i))) :=
  je_cb (call_min2 hc) T.min boot_min (ja_cons ha (ja_cons hb ja_nil rfl he2) rfl he) hg (fun H H1 vs Q s t k => by
    obtain ⟨v, w, rfl, tv, tw⟩ := t.two
    exact ⟨i, j, by rw [TD.inj_int tv, TD.inj_int tw], k _ H1 (Same.refl _) (.int _)⟩) (he := he) (hpl := hpl)
theorem je_max2 {i j : Int} (T : Bt X.mg) (ha : JE X B ρ a (.d (.int i))) (hb : JE X B ρ b (.d (.int j))) (hc : X.calm = true := by rfl) (hg : Gl X "max" := by rfl) (he : starEach [a, b] X.env = (false, eval a X.env) :: starEach [b] X.env := by rfl) (he2 : starEach [b] X.env = [(false, eval b X.env)] := by rfl)
    (hpl : (backTo pos (starEach [b] X.env)).any (·.1) = false := by rfl) : JE X B ρ (.Call (.Name "max" p) [a, b] [] pos) (.d (.int (if j > i then j else i))) :=
  je_cb (call_max2 hc) T.max boot_max (ja_cons ha (ja_cons hb ja_nil rfl he2) rfl he) hg (fun H H1 vs Q s t k => by
    obtain ⟨v, w, rfl, tv, tw⟩ := t.two
    exact ⟨i, j, by rw [TD.inj_int tv, TD.inj_int tw], k _ H1 (Same.refl _) (.int _)⟩) (he := he) (hpl := hpl)
theorem je_abs {i : Int} (T : Bt X.mg) (ha : JE X B ρ e (.d (.int i))) (hg : Gl X "abs" := by rfl) (he : starEach [e] X.env = [(false, eval e X.env)] := by rfl) : JE X B ρ (.Call (.Name "abs" p) [e] [] pos) (.d (.int (if i < 0 then -i else i))) :=
  je_cb call_abs T.abs boot_abs (ja_cons ha ja_nil rfl he) hg (fun H H1 vs Q s t k => by
    obtain ⟨v, rfl, tv⟩ := t.one
    exact ⟨i, by rw [TD.inj_int tv], k _ H1 (Same.refl _) (.int _)⟩) (he := he)
theorem je_intB {k : Bool} (T : Bt X.mg) (ha : JE X B ρ e (.d (.bool k))) (hg : Gl X "int" := by rfl) (he : starEach [e] X.env = [(false, eval e X.env)] := by rfl) : JE X B ρ (.Call (.Name "int" p) [e] [] pos) (.d (.int (if k then 1 else 0))) :=
  je_ct call_int1 T.int boot_int (ja_cons ha ja_nil rfl he) hg (fun H H1 vs Q s t q => by
    obtain ⟨v, rfl, tv⟩ := t.one
    exact .inr ⟨k, by rw [TD.inj_bl tv], q _ H1 (Same.refl _) (.int _)⟩) (he := he)
/-! isinstance against a built-in class -/
def tyOf : PyData → String
  | .none => "NoneType"
  | .bool _ => "bool"
  | .int _ => "int"
  | .str _ => "str"
  | .list _ => "list"
  | .tuple _ => "tuple"
  | .dict _ => "dict"
theorem tyx_of {K : PySem.W.Frag} {H : Hp} {v : V} {d : PyData} (h : TD K H v d) : TyX K H v (.type (tyOf d)) := by
  cases h with
  | non => exact .base .non
  | bl b => exact .base (.bl b)
  | int i => exact .base (.int i)
  | str x => exact .base (.str x)
  | tup h hs =>
    rcases h with (h | ⟨o, h⟩) | ⟨o, its, n, hk, hc, _⟩
    · exact .base (.tup h)
    · exact .fTuple h
    · exact .kTuple hk hc
theorem je_isi {d : PyData} {n : Str} {C : String} {k : Bool} {p2 : Pos} (T : Bt X.mg) (ha : JE X B ρ e (.d d)) (hm : X.mg n = none) (hv : bootBuiltins n = some (.type C)) (hk : kitB (tyOf d) C = some k) (hgn : Gl X n := by rfl) (hg : Gl X "isinstance" := by rfl)
    (hn : n ≠ "__name__" := by decide) (hdb : (n == ("__debug__" : Str)) = false := by decide)
    (he : starEach [e, .Name n p2] X.env = (false, eval e X.env) :: starEach [.Name n p2] X.env := by rfl) (he2 : starEach [.Name n p2] X.env = [(false, eval (.Name n p2) X.env)] := by rfl) (hpl : (backTo pos (starEach [.Name n p2] X.env)).any (·.1) = false := by rfl) :
    JE X B ρ (.Call (.Name "isinstance" p) [e, .Name n p2] [] pos) (.d (.bool k)) := fun σ H Q R q =>
  ⟨_, pe_callB call_isi hg T.isinstance boot_isinstance (pa_cons pe_we (pa_cons (pe_bltn (v := .ty C) hgn hm hv rfl hn hdb) pa_nil he2) he) (by decide) (by decide) he hpl, ha σ H _ R fun v H1 s1 t =>
    ⟨v, .ty C, .type (tyOf d), .type C, k, rfl, .ty C, tyx_of t, kit_ty hk, q _ H1 s1 (.bl k)⟩⟩
theorem je_isiL {ds : List PyData} {n : Str} {C : String} {k : Bool} {p2 : Pos} (T : Bt X.mg) (ha : JE X B ρ e (.l ds)) (hm : X.mg n = none) (hv : bootBuiltins n = some (.type C)) (hk : kitB "list" C = some k) (hgn : Gl X n := by rfl) (hg : Gl X "isinstance" := by rfl)
    (hn : n ≠ "__name__" := by decide) (hdb : (n == ("__debug__" : Str)) = false := by decide)
    (he : starEach [e, .Name n p2] X.env = (false, eval e X.env) :: starEach [.Name n p2] X.env := by rfl) (he2 : starEach [.Name n p2] X.env = [(false, eval (.Name n p2) X.env)] := by rfl) (hpl : (backTo pos (starEach [.Name n p2] X.env)).any (·.1) = false := by rfl) :
    JE X B ρ (.Call (.Name "isinstance" p) [e, .Name n p2] [] pos) (.d (.bool k)) := fun σ H Q R q =>
  ⟨_, pe_callB call_isi hg T.isinstance boot_isinstance (pa_cons pe_we (pa_cons (pe_bltn (v := .ty C) hgn hm hv rfl hn hdb) pa_nil he2) he) (by decide) (by decide) he hpl, ha σ H _ R fun v H1 s1 t => by
    obtain ⟨a, vs, rfl, h2, _⟩ := t
    exact ⟨_, .ty C, .type "list", .type C, k, rfl, .ty C, .base (.lst h2), kit_ty hk, q _ H1 s1 (.bl k)⟩⟩
end
end KL

namespace KL
open PySem PySem.Spec PyProof.Rows L2

/-! ### enumerate over a tuple -/
abbrev eobj (a : Addr) : Obj := { cls := .type "enumerate", data := .fields #[.none, .bool false, .ref a, rawInt 0, .none, .none] }
theorem meets_enum1 {v : Value} {o : Obj} {G : Heap → Prop} (B : Begins v o G) :
    Meets (Builtin.«enumerate.__new__» ⟨[.type "enumerate", v], []⟩) (fun _ R s => G s.heap ∧ R (.ok (.ret (.ref (s.heap.push o).objs.size))) { s with heap := (s.heap.push o).push (eobj s.heap.objs.size) }) :=
  .of_wp fun prog w A R s h => by
    obtain ⟨hp, g, d, tk, os⟩ := s
    obtain ⟨z1, h⟩ := h
    have subE := sub_enumerate
    have nx : ∀ {A2 : Around} {E2 : Value → Shared → Prop} {Q2 : Value → Shared → Prop}, Q2 (.ref hp.objs.size) ⟨hp.push o, g, d, tk, os⟩ → wpAny (model prog w) A2 (pyIter v) Q2 E2 ⟨hp, g, d, tk, os⟩ := fun q => B.iter prog w _ _ ⟨hp, g, d, tk, os⟩ _ z1 q
    wp_walk using nx
    refine wpAny_stack_any fun st2 => wpAny_pure ?_
    split
    · rename_i c2 _ _ _ _ _
      cases (c2 == Value.type "enumerate") <;> (wp_walk using nx; exact ⟨_, rfl, h⟩)
    · (wp_walk using nx; exact ⟨_, rfl, h⟩)
theorem enum_tup {prog : Program} {w : World} {A : Around} {E : Value → Shared → Prop} {s : Shared} {l : Addr} {items : Array Value} {Q : Value → Shared → Prop} (hT : s.heap.IsTuple l items)
    (h : ∀ h', IsEnum h' (s.heap.objs.size + 1) s.heap.objs.size 0 .none → h'.IsTupleIter s.heap.objs.size l 0 → (∀ b o, s.heap.get? b = some o → h'.get? b = some o) → Q (.ref (s.heap.objs.size + 1)) { s with heap := h' }) :
    wpAny (model prog w) A (call (.type "enumerate") [.ref l]) Q E s := by
  have B := begins_tuple l items
  refine callType_new F.called_enumerate (by decide) (F.typeCall_enumerate_1 _) (F.newCall_enumerate_1 _) (fun ob => F.args_object_init_2 ob _) F.entry_enumerate_new (meets_enum1 B) ⟨hT, ?_⟩
  have hz : (s.heap.push { cls := .type "tuple_iterator", data := .fields #[.ref l, .int 0 0] }).objs.size = s.heap.objs.size + 1 := Heap.size_push ..
  have he : IsEnum ((s.heap.push { cls := .type "tuple_iterator", data := .fields #[.ref l, .int 0 0] }).push (eobj s.heap.objs.size)) (s.heap.objs.size + 1) s.heap.objs.size 0 .none := by
    have q := Heap.get?_push_size (s.heap.push { cls := .type "tuple_iterator", data := .fields #[.ref l, .int 0 0] }) (o := eobj s.heap.objs.size) rfl
    rw [hz] at q
    exact q
  show _ ∧ _
  rw [hz]
  exact ⟨⟨_, he, rfl⟩, h _ he ⟨_, Heap.get?_push_of_some _ (Heap.get?_push_size _ rfl), rfl, rfl⟩ fun b o x => Heap.get?_push_of_some _ (Heap.get?_push_of_some _ x)⟩
/-- the tuple at a, each item in a new pair behind its number -/
def IteT (K : PySem.W.Frag) (a : Addr) : It where
  go := fun i H => ∃ (xs : List V) (x : V), SqT K H a xs ∧ xs[i]? = some x
  yld := fun i H v H' => ∃ T x, v = .ref T ∧ H T = none ∧ H' = upd H T (.tup [.int (i : Nat), x]) ∧ ∀ xs, SqT K H a xs → xs[i]? = some x
  stop := fun i H => ∃ xs : List V, SqT K H a xs ∧ xs.length ≤ i
theorem turn_enumT {P : Program} {w : World} {K : PySem.W.Frag} {elts : List Expr} {kk : Nat} {tpos : Pos} (a e it : Addr) :
    Turn P w K (.Tuple elts kk tpos) (IteT K a) [e, it] e (fun i h => (∃ old, IsEnum h e it ((i : Nat) : Int) old) ∧ h.IsTupleIter it a i ∧ e ≠ it) := by
  have two : ∀ {b : Addr}, b ∈ [e, it] → b = e ∨ b = it := fun {b} hb => by simpa using hb
  refine ⟨by simp, fun i h st b hb => ?_, fun i h h' st k => ?_, ?_, ?_, ?_⟩
  · obtain ⟨⟨old, he⟩, ⟨o, ho, hc, hd⟩, _⟩ := st
    rcases two hb with rfl | rfl
    · exact ⟨_, he, fun v q => nomatch q⟩
    · exact ⟨o, ho, fun v q => by rw [hd] at q; cases q⟩
  · obtain ⟨⟨old, he⟩, hi, hne⟩ := st
    exact ⟨⟨old, k e (by simp) _ he⟩, hi.at fun o q => k it (by simp) o q, hne⟩
  · intro X hP hw hK hc i pins s σ H E I hf st hg
    subst hP
    subst hw
    subst hK
    obtain ⟨⟨old, he⟩, hit, hne⟩ := st
    obtain ⟨xs, x, hq, hx⟩ := hg
    obtain ⟨its, rv, ht, _⟩ := I.tuple hq
    obtain ⟨u, hu, ru⟩ := rv.get hx
    have hi : i < its.toArray.size := by
      have q := (List.getElem?_eq_some_iff.mp hu).1
      simpa using q
    have hte : s.heap.IsTuple a its.toArray := ht
    have hat : a ≠ it := fun z => by
      obtain ⟨o, ho, hc1, _⟩ := hte
      obtain ⟨o', ho', hc2, _⟩ := hit
      rw [z, ho'] at ho
      cases ho
      rw [hc2] at hc1
      injection hc1 with q
      exact absurd q (by decide)
    have hae : e ≠ a := fun z => by
      obtain ⟨o, ho, hc1, _⟩ := hte
      have he' : s.heap.get? e = some _ := he
      rw [z, ho] at he'
      cases he'
      injection hc1 with q
      exact absurd q (by decide)
    have hel : e < s.heap.objs.size := Heap.lt_size he
    have hil : it < s.heap.objs.size := by
      obtain ⟨_, q, _⟩ := id hit
      exact Heap.lt_size q
    refine wpAny_pyNext_enum_itemD (Draws.tuple (A := X.A.in1) (I.ok.hd hc) it a hat its.toArray) he ⟨hit, hte⟩ hi hne (by simp [hne, hae]) fun y h' tk hy ho hst hT _ hk => ?_
    have ey : y = u := by
      have q : its[i]? = some y := by simpa using hy
      rw [hu] at q
      exact (Option.some.inj q).symm
    subst ey
    refine ⟨_, rfl, wpAny_letOwnedTupleGo_enum (s := { s with heap := h', toks := tk + 1 }) ho fun h2 he2 sb => ?_⟩
    have hT2 : h2.get? s.heap.objs.size = some { cls := .type "tuple", data := .seq #[.int i tk, y] } := (sb.2 _ (Nat.ne_of_gt hel)).trans hT
    have new : ObjOk X.prog X.w (upd H s.heap.objs.size (.tup [.int (i : Nat), x])) h2 s.heap.objs.size (.tup [.int (i : Nat), x]) := ⟨by show 2 ≤ sizeLine; decide, [.int i tk, y], .cons ⟨_, rfl⟩ (.cons ru .nil), ⟨_, hT2, rfl, _, rfl⟩⟩
    have I1 : Inv X pins σ (upd H s.heap.objs.size (.tup [.int (i : Nat), x])) { s with heap := h2, toks := tk + 1 } := I.turnedNew (ch := [e, it]) (fun b ob hb q => (sb.2 b fun z => hb (by simp [z])).trans (hk b ob (fun z => hb (by simp [z])) (fun z => hb (by simp [z])) q)) hf (Nat.le_refl _) new
    have e1 : ((i + 1 : Nat) : Int) = (i : Int) + 1 := by omega
    refine ⟨.ref s.heap.objs.size, _, I1, rfl, ⟨_, x, rfl, I.hok.fresh (Nat.le_refl _), rfl, fun ys hy => by rw [I.tuple_inj hy hq]; exact hx⟩, ⟨⟨y, by rw [e1]; exact he2⟩, hst.1.at fun o q => (sb.2 it (Ne.symm hne)).trans q, hne⟩, fun b hb => ?_⟩
    have lt : b < s.heap.objs.size := by
      rcases two hb with z | z <;> rw [z]
      · exact hel
      · exact hil
    rw [upd_ne (Nat.ne_of_lt lt)]
    exact (hf b hb).1
  · intro X hP hw hK hc i pins s σ H E I hf st hg
    subst hP
    subst hw
    subst hK
    obtain ⟨⟨old, he⟩, hit, hne⟩ := st
    obtain ⟨xs, hq, hx⟩ := hg
    obtain ⟨its, rv, ht, _⟩ := I.tuple hq
    have hte : s.heap.IsTuple a its.toArray := ht
    have hat : a ≠ it := fun z => by
      obtain ⟨o, ho, hc1, _⟩ := hte
      obtain ⟨o', ho', hc2, _⟩ := hit
      rw [z, ho'] at ho
      cases ho
      rw [hc2] at hc1
      injection hc1 with q
      exact absurd q (by decide)
    have hl := rv.length
    have D := Draws.tuple (prog := X.prog) (w := X.w) (A := X.A.in1) (I.ok.hd hc) it a hat its.toArray
    obtain ⟨f0, f1, f2, f3, f4, f5⟩ := hf it (by simp)
    have hT : s.TypeIs (.ref e) "enumerate" := ⟨_, he, rfl⟩
    unfold pyNext
    refine wpAny_bind (wpAny_attempt (wpAny_callSpecial?_slot (name := Str.ofString "__next__") hT F.slot_enumerate_next (wpAny_call_entry F.slot_enumerate_next hT F.entry_enumerate_next ?_ (F.args_enumerate_next_1 _))))
    show wpAny _ _ (field (.ref e) 2 >>= _) _ _ _
    refine wpAny_bind (wpAny_field he rfl (x := .ref it) rfl (wpAny_bind (wpAny_nextOf_tuple_end (A := X.A.in1) (I.ok.hd hc) hit hte (by simp; omega) fun h2 x hb hx2 => ?_)))
    obtain ⟨o, ho, hc2⟩ := hx2
    refine wpAny_bind (wpAny_isInstance (T := "StopIteration") (b := true) ⟨o, ho, hc2⟩ isSubtype_stop (wpAny_pure ⟨rfl, I.turned (t' := s.toks) (fun b o hb2 q => hb b o hb2 q) f0 f1 f3 f4 f5⟩))
  · intro A i s Q E st h
    obtain ⟨⟨_, he⟩, _⟩ := st
    exact wpAny_pyIter_enum he h
def iEnumT (K : PySem.W.Frag) (ta : TA) : TI := fun σ H R => ta σ H fun vs H1 => ∃ a xs, vs = [.ref a] ∧ SqT K H1 a xs ∧ R (IteT K a) H1
theorem pi_enumT {X : Cx} {e : Expr} {ta : TA} {p pos tpos : Pos} {elts : List Expr} {kk : Nat} (hg : Gl X "enumerate") (hm : X.mg "enumerate" = none) (ha : PA X [e] ta) (hs : starEach [e] X.env = [(false, eval e X.env)]) :
    PI X (.Tuple elts kk tpos) (.Call (.Name "enumerate" p) [e] [] pos) (iEnumT X.K ta) := by
  refine ⟨fun pins s σ H R I h => Call_ (ld_blt I hg hm boot_enumerate (PyProof.Rows.callWith_type1 (thn (ha.run pos pins s σ H _ I h) fun us s1 ⟨vs, H1, I1, r1, q1⟩ => ?_) hs rfl))⟩
  obtain ⟨a, xs, ex, hq, q⟩ := q1
  subst ex
  obtain ⟨u, rfl, ru⟩ := vals1 r1
  cases ru
  obtain ⟨its, rv, ht, _⟩ := I1.tuple hq
  refine enum_tup (show s1.heap.IsTuple a its.toArray from ht) fun h' he hit hk => wpAny_pyIter_enum he ?_
  refine ⟨s1.heap.objs.size + 1, [s1.heap.objs.size + 1, s1.heap.objs.size], _, _, H1, rfl, I1.kept (h' := h') (t' := s1.toks) hk, turn_enumT a (s1.heap.objs.size + 1) s1.heap.objs.size, ⟨⟨.none, he⟩, hit, Nat.succ_ne_self _⟩, fun b hb => ?_, q⟩
  have hle : s1.heap.objs.size ≤ b := by
    have z : b = s1.heap.objs.size + 1 ∨ b = s1.heap.objs.size := by simpa using hb
    rcases z with z | z
    · rw [z]; exact Nat.le_add_right _ _
    · rw [z]; exact Nat.le_refl _
  exact I1.fpOk hle (I1.hok.fresh hle)
end KL

namespace KL
open PySem PySem.Spec PyProof.Rows L2

/-! ### the heap without the own slots -/
open Classical in
noncomputable def hid (ρ : List SV) (σ : L2.St) (H : Hp) : Hp := fun b => if (∃ (i : Nat) (s : SV), ρ[i]? = some s ∧ s.own = true ∧ σ[i]? = some (some (.ref b))) then none else H b
section
variable {K : PySem.W.Frag} {B B' H H' H0 : Hp} {ρ : List SV} {σ : L2.St}
theorem hid_same : Same (hid ρ σ H) H := fun b o h => by
  unfold hid at h
  split at h
  · cases h
  · exact h
theorem hid_none {i : Nat} {s : SV} {b : Addr} (h1 : ρ[i]? = some s) (h2 : s.own = true) (h3 : σ[i]? = some (some (.ref b))) : hid ρ σ H b = none := by
  unfold hid
  rw [if_pos ⟨i, s, h1, h2, h3⟩]
theorem Rs.ownH (R : Rs K B ρ σ H) {i : Nat} {s : SV} {b : Addr} (h1 : ρ[i]? = some s) (h2 : s.own = true) (h3 : σ[i]? = some (some (.ref b))) : ∃ u, H b = some u ∧ NoT u := by
  obtain ⟨o, a, k⟩ := R.at_ i s h1
  rw [h3] at a
  exact k.lkH (own_lk h2) (Option.some.inj a).symm
theorem Rs.same_hid (R : Rs K B ρ σ H) : Same B (hid ρ σ H) := fun b o h => by
  unfold hid
  split
  · rename_i z
    obtain ⟨i, s, h1, h2, h3⟩ := z
    rw [R.fr i s b h1 h2 h3] at h
    cases h
  · exact R.ex _ _ h
theorem Rs.hid (R : Rs K B ρ σ H) : Rs K (hid ρ σ H) ρ σ H := ⟨hid_same, R.len, R.at_, fun i s a h1 h2 h3 => hid_none h1 h2 h3, R.apart, R.sec⟩
theorem Rs.tk_hid (R : Rs K B ρ σ H) : Tk K H (KL.hid ρ σ H) := fun a xs h => by
  have get : ∀ {u : HO}, ¬ NoT u → H a = some u → KL.hid ρ σ H a = some u := fun {u} n e => by
    unfold KL.hid
    split
    · rename_i z
      obtain ⟨i, s, h1, h2, h3⟩ := z
      obtain ⟨u', e', n'⟩ := R.ownH h1 h2 h3
      rw [e] at e'
      cases e'
      exact absurd n' n
    · exact e
  rcases h with (h | ⟨o, h⟩) | h
  · exact .inl (.inl (get (fun z => z) h))
  · exact .inl (.inr ⟨o, get (fun z => z) h⟩)
  · exact .inr h
theorem Rs.un (R : Rs K B ρ σ H) (i : Nat) (o : Option V) : Rs K B (ρ.set i .un) (σ.set i o) H := by
  have fix : ∀ (j : Nat) (s : SV), (ρ.set i .un)[j]? = some s → s = .un ∨ (i ≠ j ∧ ρ[j]? = some s) := fun j s h => by
    by_cases hj : i = j
    · subst hj
      exact .inl (get_set_self h).1
    · rw [List.getElem?_set_ne hj] at h
      exact .inr ⟨hj, h⟩
  refine ⟨R.ex, by rw [List.length_set, List.length_set]; exact R.len, fun j s h => ?_, fun j s a h1 h2 h3 => ?_, fun j k s s' a hjk h1 h2 h3 h4 h5 => ?_, fun j k s s' a l h1 h2 h3 h4 h5 => ?_⟩
  · by_cases hj : i = j
    · subst hj
      obtain ⟨e1, e2⟩ := get_set_self h
      subst e1
      exact ⟨o, List.getElem?_set_self (by rw [R.len]; exact e2), trivial⟩
    · rw [List.getElem?_set_ne hj] at h
      obtain ⟨o', a, b⟩ := R.at_ j s h
      exact ⟨o', by rw [List.getElem?_set_ne hj]; exact a, b⟩
  · rcases fix j s h1 with z | ⟨z, h1⟩
    · subst z; cases h2
    · rw [List.getElem?_set_ne z] at h3
      exact R.fr j s a h1 h2 h3
  · rcases fix j s h1 with z | ⟨z, h1⟩
    · subst z; cases h3
    · rcases fix k s' h2 with z' | ⟨z', h2⟩
      · subst z'; cases h4
      · rw [List.getElem?_set_ne z] at h5
        rw [List.getElem?_set_ne z']
        exact R.apart j k s s' a hjk h1 h2 h3 h4 h5
  · rcases fix j s h1 with z | ⟨z, h1⟩
    · subst z; cases h3
    · rcases fix k s' h2 with z' | ⟨z', h2⟩
      · subst z'; cases h4
      · rw [List.getElem?_set_ne z] at h5
        exact R.sec j k s s' a l h1 h2 h3 h4 h5
def wipeR (ρ : List SV) : List Nat → List SV
  | [] => ρ
  | v :: vs => (wipeR ρ vs).set v .un
theorem Rs.wipe (R : Rs K B ρ σ H) : ∀ vs : List Nat, Rs K B (wipeR ρ vs) (L2.wipe σ vs) H
  | [] => R
  | v :: vs => (Rs.wipe R vs).un v none
theorem wipe_out {i : Nat} : ∀ {vs : List Nat}, i ∉ vs → (L2.wipe σ vs)[i]? = σ[i]?
  | [], _ => rfl
  | v :: vs, h => by
    show ((L2.wipe σ vs).set v none)[i]? = _
    rw [List.getElem?_set_ne (fun e => h (by simp [e])), wipe_out fun z => h (List.mem_cons_of_mem _ z)]
theorem wipe_in {i : Nat} : ∀ {vs : List Nat}, i ∈ vs → i < σ.length → (L2.wipe σ vs)[i]? = some none
  | v :: vs, h, hl => by
    show ((L2.wipe σ vs).set v none)[i]? = _
    by_cases e : v = i
    · subst e
      exact List.getElem?_set_self (by rw [wipe_length]; exact hl)
    · rw [List.getElem?_set_ne e]
      refine wipe_in ?_ hl
      rcases List.mem_cons.mp h with z | z
      · exact absurd z.symm e
      · exact z
theorem wipe_eq {σ' : L2.St} {vs : List Nat} (hl : σ'.length = σ.length) (h : ∀ i, i ∉ vs → σ'[i]? = σ[i]?) : L2.wipe σ' vs = L2.wipe σ vs := by
  refine List.ext_getElem? fun i => ?_
  by_cases hi : i ∈ vs
  · by_cases hn : i < σ.length
    · rw [wipe_in hi hn, wipe_in hi (by rw [hl]; exact hn)]
    · rw [List.getElem?_eq_none (by rw [wipe_length]; omega), List.getElem?_eq_none (by rw [wipe_length]; omega)]
  · rw [wipe_out hi, wipe_out hi, h i hi]
end

/-! ### what is walked -/
def YD (K : PySem.W.Frag) (ds : List PyData) : Nat → Hp → V → Hp → Prop := fun i H x H' => Same H H' ∧ ∃ d, ds[i]? = some d ∧ TD K H' x d
def JI (X : Cx) (B : Hp) (ρ : List SV) (tg iter : Expr) (ds : List PyData) : Prop := ∀ (σ : L2.St) (H : Hp) (R : It → Hp → Prop), Rs X.K B ρ σ H →
  (∀ (J : It) (H' : Hp) (G : Hp → Prop), Same H H' → (∀ H1, Same (hid ρ σ H') H1 → G H1) → Walk J ds.length G (YD X.K ds) → R J H') → WI X tg iter σ H R
def JIc (X : Cx) (B : Hp) (ρ : List SV) (tg iter : Expr) (ds : List PyData) : Prop := ∀ (σ : L2.St) (H : Hp) (R : It → Hp → Prop), Rs X.K B ρ σ H →
  (∀ (J : It) (H' : Hp) (G : Hp → Prop), Same H H' → (∀ H1, Same H' H1 → G H1) → Walk J ds.length G (YD X.K ds) → R J H') → WI X tg iter σ H R
section
variable {X : Cx} {B : Hp} {ρ : List SV} {a b c e tg iter : Expr} {es rest : List Expr} {pos p tpos : Pos} {ds es' : List PyData} {elts : List Expr} {kk : Nat}
theorem JI.toC (h : JI X B ρ tg iter ds) : JIc X B ρ tg iter ds := fun σ H R R0 k => h σ H R R0 fun J H' G s g w => k J H' G s (fun H1 s1 => g H1 (hid_same.trans s1)) w
theorem get_lt {α : Type} {l : List α} {i : Nat} (h : i < l.length) : ∃ x, l[i]? = some x := ⟨l[i], by simp [h]⟩
theorem walkT {K : PySem.W.Frag} {a : Addr} {xs : List V} (e : xs.length = ds.length) : Walk (Itt K a) ds.length (fun H => SqT K H a xs ∧ TDs K H xs ds) (YD K ds) := by
  rw [← e]
  refine walk_tup.mono (fun H h => h.1) fun i H x H' hi g y => ?_
  obtain ⟨e1, hx⟩ := y
  subst e1
  obtain ⟨d, hd⟩ := get_lt (l := ds) (i := i) (by omega)
  obtain ⟨v, hv, t⟩ := g.2.get hd
  rw [hx] at hv
  cases hv
  exact ⟨Same.refl _, d, hd, t⟩
theorem walkL {K : PySem.W.Frag} {a : Addr} {xs : List V} (e : xs.length = ds.length) : Walk (Itl K a) ds.length (fun H => H a = some (.lst xs) ∧ TDs K H xs ds) (YD K ds) := by
  rw [← e]
  refine walk_list.mono (fun H h => SqL.of h.1) fun i H x H' hi g y => ?_
  obtain ⟨e1, hx⟩ := y
  subst e1
  obtain ⟨d, hd⟩ := get_lt (l := ds) (i := i) (by omega)
  obtain ⟨v, hv, t⟩ := g.2.get hd
  rw [hx] at hv
  cases hv
  exact ⟨Same.refl _, d, hd, t⟩
theorem ji_tup (h : JE X B ρ e (.d (.tuple ds))) : JI X B ρ tg e ds := fun σ H R R0 k => ⟨_, pi_tup pe_we, h σ H _ R0 fun v H1 s t => by
  obtain ⟨a, xs, rfl, hq, t⟩ := TD.inj_tup t
  have tk := (R0.mono s).tk_hid
  exact ⟨a, rfl, ⟨xs, hq⟩, k _ H1 _ s (fun H2 s2 => ⟨tk_same s2 _ _ (tk _ _ hq), (t.mono tk).mono (tk_same s2)⟩) (walkT t.length)⟩⟩
theorem ji_listM (h : JE X B ρ e (.m ds)) : JI X B ρ tg e ds := fun σ H R R0 k => ⟨_, pi_list pe_we, h σ H _ R0 fun v H1 s t => by
  obtain ⟨a, xs, rfl, h0, hq, t⟩ := t
  have R1 := R0.mono s
  have ha : hid ρ σ H1 a = some (.lst xs) := by
    unfold hid
    split
    · rename_i z
      obtain ⟨i, s', h1, h2, h3⟩ := z
      obtain ⟨u, e, _⟩ := R0.ownH h1 h2 h3
      rw [h0] at e
      cases e
    · exact hq
  exact ⟨a, rfl, ⟨xs, SqL.of hq⟩, k _ H1 _ s (fun H2 s2 => ⟨s2 _ _ ha, (t.mono R1.tk_hid).mono (tk_same s2)⟩) (walkL t.length)⟩⟩
/-- a list that is only read, by its slot -/
theorem ji_listV (i : Nat) {n : Str} (h : ρ[i]? = some (.l ds) := by rfl) (hN : X.N[i]? = some n := by rfl) (hv : Vis X.env.scope n := by first | exact Or.inl rfl | exact Or.inr (Or.inl rfl) | exact Or.inr (Or.inr rfl))
    (hd : (n == ("__debug__" : Str)) = false := by decide) (hcd : (n == ("__classdict__" : Str)) = false := by decide) : JI X B ρ tg (.Name n pos) ds := fun σ H R R0 k => ⟨_, pi_list (pe_var hN hv hd hcd), by
  obtain ⟨o, e, a, xs, rfl, hq, t⟩ := R0.at_ i _ h
  have ha : hid ρ σ H a = some (.lst xs) := by
    unfold hid
    split
    · rename_i z
      obtain ⟨j, s', h1, h2, h3⟩ := z
      by_cases hj : j = i
      · subst hj
        rw [h] at h1
        cases h1
        cases h2
      · exact absurd e (R0.apart j i s' _ a hj h1 h h2 rfl h3)
    · exact hq
  exact ⟨_, e, a, rfl, ⟨xs, SqL.of hq⟩, k _ H _ (Same.refl H) (fun H2 s2 => ⟨s2 _ _ ha, (t.mono R0.tk_hid).mono (tk_same s2)⟩) (walkL t.length)⟩⟩
/-- any list, for a comprehension -/
theorem ji_listC (h : JE X B ρ e (.l ds)) : JIc X B ρ tg e ds := fun σ H R R0 k => ⟨_, pi_list pe_we, h σ H _ R0 fun v H1 s t => by
  obtain ⟨a, xs, rfl, hq, t⟩ := t
  exact ⟨a, rfl, ⟨xs, SqL.of hq⟩, k _ H1 _ s (fun H2 s2 => ⟨s2 _ _ hq, t.mono (tk_same s2)⟩) (walkL t.length)⟩⟩
def rangeD (lo : Int) (n : Nat) : List PyData := (List.range n).map fun k => .int (lo + (k : Nat))
theorem rangeD_len {lo : Int} {n : Nat} : (rangeD lo n).length = n := by unfold rangeD; rw [List.length_map, List.length_range]
theorem walkR {K : PySem.W.Frag} {lo : Int} {n : Nat} : Walk (Itr lo n) (rangeD lo n).length (fun _ => True) (YD K (rangeD lo n)) := by
  rw [rangeD_len]
  refine walk_range.mono (fun H h => h) fun i H x H' hi g y => ?_
  obtain ⟨e1, e2⟩ := y
  subst e1
  subst e2
  exact ⟨Same.refl _, .int (lo + (i : Nat)), by unfold rangeD; rw [List.getElem?_map, List.getElem?_range hi]; rfl, .int _⟩
theorem ji_range1 {n : Int} (T : Bt X.mg) (h : JE X B ρ a (.d (.int n))) (h0 : n ≤ 100000) (h1 : -100000 ≤ n) (hg : Gl X "range" := by rfl) (hs : starEach [a] X.env = [(false, eval a X.env)] := by rfl) : JI X B ρ tg (.Call (.Name "range" p) [a] [] pos) (rangeD 0 n.toNat) := fun σ H R R0 k =>
  ⟨_, pi_range1 hg T.range (pa_cons pe_we pa_nil hs) hs, h σ H _ R0 fun v H1 s t => ⟨n, by rw [TD.inj_int t], by omega, by omega, k _ H1 _ s (fun _ _ => trivial) walkR⟩⟩
theorem ji_range2 {lo hi : Int} (T : Bt X.mg) (h : JE X B ρ a (.d (.int lo))) (h2 : JE X B ρ b (.d (.int hi))) (h0 : -100000 ≤ lo ∧ lo ≤ 100000 ∧ -100000 ≤ hi ∧ hi ≤ 100000) (hg : Gl X "range" := by rfl) (hs : starEach [a, b] X.env = [(false, eval a X.env), (false, eval b X.env)] := by rfl) (hs2 : starEach [b] X.env = [(false, eval b X.env)] := by rfl) :
    JI X B ρ tg (.Call (.Name "range" p) [a, b] [] pos) (rangeD lo (hi - lo).toNat) := fun σ H R R0 k =>
  ⟨_, pi_range2 hg T.range (pa_cons pe_we (pa_cons pe_we pa_nil hs2) (by rw [hs, hs2])) hs hs2, h σ H _ R0 fun v H1 s t => h2 σ H1 _ (R0.mono s) fun v2 H2 s2 t2 => ⟨lo, hi, by rw [TD.inj_int t, TD.inj_int t2], ⟨by omega, by omega, by omega, by omega⟩, k _ H2 _ (s.trans s2) (fun _ _ => trivial) walkR⟩⟩
def enumD : Nat → List PyData → List PyData
  | _, [] => []
  | k, d :: ds => .tuple [.int (k : Nat), d] :: enumD (k + 1) ds
theorem enumD_len : ∀ {ds : List PyData} {k : Nat}, (enumD k ds).length = ds.length
  | [], _ => rfl
  | _ :: _, _ => by unfold enumD; rw [List.length_cons, List.length_cons, enumD_len]
theorem enumD_get : ∀ {ds : List PyData} {k i : Nat} {d : PyData}, ds[i]? = some d → (enumD k ds)[i]? = some (.tuple [.int ((k + i : Nat) : Int), d])
  | [], _, _, _, h => by simp at h
  | x :: xs, k, 0, d, h => by
    have e : x = d := by simpa using h
    subst e
    rfl
  | x :: xs, k, i + 1, d, h => by
    have q := enumD_get (ds := xs) (k := k + 1) (i := i) (d := d) (by simpa using h)
    show (enumD (k + 1) xs)[i]? = _
    rw [q, show k + 1 + i = k + (i + 1) by omega]
theorem yd_pair {K : PySem.W.Frag} {H : Hp} {T : Addr} {x y : V} {d1 d2 : PyData} (hT : H T = none) (h1 : TD K H x d1) (h2 : TD K H y d2) : TD K (upd H T (.tup [x, y])) (.ref T) (.tuple [d1, d2]) :=
  .tup (SqT.of upd_same) (.cons (h1.mono (tk_same (same_new hT))) (.cons (h2.mono (tk_same (same_new hT))) .nil))
theorem ji_enumT (T : Bt X.mg) (h : JE X B ρ a (.d (.tuple ds))) (hg : Gl X "enumerate" := by rfl) (hs : starEach [a] X.env = [(false, eval a X.env)] := by rfl) : JI X B ρ (.Tuple elts kk tpos) (.Call (.Name "enumerate" p) [a] [] pos) (enumD 0 ds) := fun σ H R R0 k =>
  ⟨_, pi_enumT hg T.enumerate (pa_cons pe_we pa_nil hs) hs, h σ H _ R0 fun v H1 s t => by
    obtain ⟨a, xs, rfl, hq, t⟩ := TD.inj_tup t
    have tk := (R0.mono s).tk_hid
    refine ⟨a, xs, rfl, hq, k _ H1 (fun H => SqT X.K H a xs ∧ TDs X.K H xs ds) s (fun H2 s2 => ⟨tk_same s2 _ _ (tk _ _ hq), (t.mono tk).mono (tk_same s2)⟩) ?_⟩
    rw [enumD_len, ← t.length]
    refine ⟨fun i H hi g => ⟨xs, xs[i], g.1, by simp [hi]⟩, fun H g => ⟨xs, g.1, Nat.le_refl _⟩, fun i H v H' hi g y => ?_⟩
    obtain ⟨T', x, rfl, hT, rfl, hx⟩ := y
    obtain ⟨d, hd⟩ := get_lt (l := ds) (i := i) (by rw [← t.length]; exact hi)
    obtain ⟨v, hv, tv⟩ := g.2.get hd
    rw [hx xs g.1] at hv
    cases hv
    exact ⟨same_new hT, _, enumD_get hd, by rw [Nat.zero_add]; exact yd_pair hT (.int _) tv⟩⟩
theorem ji_enumLC (T : Bt X.mg) (h : JE X B ρ a (.l ds)) (hg : Gl X "enumerate" := by rfl) (hs : starEach [a] X.env = [(false, eval a X.env)] := by rfl) : JIc X B ρ (.Tuple elts kk tpos) (.Call (.Name "enumerate" p) [a] [] pos) (enumD 0 ds) := fun σ H R R0 k =>
  ⟨_, pi_enum hg T.enumerate (pa_cons pe_we pa_nil hs) hs, h σ H _ R0 fun v H1 s t => by
    obtain ⟨a, xs, rfl, hq, t⟩ := t
    refine ⟨a, xs, rfl, SqL.of hq, k _ H1 (fun H => H a = some (.lst xs) ∧ TDs X.K H xs ds) s (fun H2 s2 => ⟨s2 _ _ hq, t.mono (tk_same s2)⟩) ?_⟩
    rw [enumD_len, ← t.length]
    refine walk_enum.mono (fun H g => SqL.of g.1) fun i H v H' hi g y => ?_
    obtain ⟨T', x, y, rfl, hT, rfl, hx, hy⟩ := y
    cases hx
    obtain ⟨d, hd⟩ := get_lt (l := ds) (i := i) (by rw [← t.length]; exact hi)
    obtain ⟨v, hv, tv⟩ := g.2.get hd
    have hy' : xs[i]? = some y := hy
    rw [hy'] at hv
    cases hv
    exact ⟨same_new hT, _, enumD_get hd, by rw [Nat.zero_add]; exact yd_pair hT (.int _) tv⟩⟩
/-- a list that is only read, numbered -/
theorem ji_enumLV (T : Bt X.mg) (i : Nat) {n : Str} {np : Pos} (h : ρ[i]? = some (.l ds) := by rfl) (hN : X.N[i]? = some n := by rfl) (hv : Vis X.env.scope n := by first | exact Or.inl rfl | exact Or.inr (Or.inl rfl) | exact Or.inr (Or.inr rfl))
    (hd : (n == ("__debug__" : Str)) = false := by decide) (hcd : (n == ("__classdict__" : Str)) = false := by decide) (hg : Gl X "enumerate" := by rfl) (hs : starEach [.Name n np] X.env = [(false, eval (.Name n np) X.env)] := by rfl) :
    JI X B ρ (.Tuple elts kk tpos) (.Call (.Name "enumerate" p) [.Name n np] [] pos) (enumD 0 ds) := fun σ H R R0 k => ⟨_, pi_enum hg T.enumerate (pa_cons (pe_var hN hv hd hcd) pa_nil hs) hs, by
  obtain ⟨o, e, a, xs, rfl, hq, t⟩ := R0.at_ i _ h
  have ha : hid ρ σ H a = some (.lst xs) := by
    unfold hid
    split
    · rename_i z
      obtain ⟨j, s', h1, h2, h3⟩ := z
      by_cases hj : j = i
      · subst hj
        rw [h] at h1
        cases h1
        cases h2
      · exact absurd e (R0.apart j i s' _ a hj h1 h h2 rfl h3)
    · exact hq
  refine ⟨_, e, a, xs, rfl, SqL.of hq, k _ H (fun H => H a = some (.lst xs) ∧ TDs X.K H xs ds) (Same.refl H) (fun H2 s2 => ⟨s2 _ _ ha, (t.mono R0.tk_hid).mono (tk_same s2)⟩) ?_⟩
  rw [enumD_len, ← t.length]
  refine walk_enum.mono (fun H g => SqL.of g.1) fun i H v H' hi g y => ?_
  obtain ⟨T', x, y, rfl, hT, rfl, hx, hy⟩ := y
  cases hx
  obtain ⟨d, hd⟩ := get_lt (l := ds) (i := i) (by rw [← t.length]; exact hi)
  obtain ⟨v, hv, tv⟩ := g.2.get hd
  have hy' : xs[i]? = some y := hy
  rw [hy'] at hv
  cases hv
  exact ⟨same_new hT, _, enumD_get hd, by rw [Nat.zero_add]; exact yd_pair hT (.int _) tv⟩⟩
def zipD (ds es : List PyData) : List PyData := List.zipWith (fun x y => .tuple [x, y]) ds es
theorem ji_zipT (T : Bt X.mg) (h : JE X B ρ a (.d (.tuple ds))) (h2 : JE X B ρ b (.d (.tuple es'))) (hg : Gl X "zip" := by rfl) (hs : starEach [a, b] X.env = (false, eval a X.env) :: starEach [b] X.env := by rfl) (hs2 : starEach [b] X.env = [(false, eval b X.env)] := by rfl) (hpl : (backTo pos (starEach [b] X.env)).any (·.1) = false := by rfl) :
    JI X B ρ (.Tuple elts kk tpos) (.Call (.Name "zip" p) [a, b] [] pos) (zipD ds es') := fun σ H R R0 k =>
  ⟨_, RZ.pi_zipA hg T.zip (pa_cons pe_we (pa_cons pe_we pa_nil hs2) hs) hs hpl, h σ H _ R0 fun v H1 s1 t1 => h2 σ H1 _ (R0.mono s1) fun v2 H2 s2 t2 => by
    obtain ⟨a1, xs, rfl, hq1, t1⟩ := TD.inj_tup (TD.mono (tk_same s2) t1)
    obtain ⟨a2, ys, rfl, hq2, t2⟩ := TD.inj_tup t2
    have tk := (R0.mono (s1.trans s2)).tk_hid
    refine ⟨a1, a2, xs, ys, rfl, .inr ⟨hq1, hq2, k _ H2 (fun H => (SqT X.K H a1 xs ∧ TDs X.K H xs ds) ∧ (SqT X.K H a2 ys ∧ TDs X.K H ys es')) (s1.trans s2)
      (fun H3 s3 => ⟨⟨tk_same s3 _ _ (tk _ _ hq1), (t1.mono tk).mono (tk_same s3)⟩, ⟨tk_same s3 _ _ (tk _ _ hq2), (t2.mono tk).mono (tk_same s3)⟩⟩) ?_⟩⟩
    have l1 := t1.length
    have l2 := t2.length
    have hl : (zipD ds es').length = min xs.length ys.length := by unfold zipD; rw [List.length_zipWith, l1, l2]
    rw [hl]
    refine ⟨fun i H hi g => ?_, fun H g => ⟨xs, ys, g.1.1, g.2.1, by omega⟩, fun i H v H' hi g y => ?_⟩
    · have i1 : i < xs.length := by omega
      have i2 : i < ys.length := by omega
      exact ⟨xs, ys, xs[i], ys[i], g.1.1, g.2.1, by simp [i1], by simp [i2]⟩
    · obtain ⟨T', x, y, rfl, hT, rfl, hx, hy⟩ := y
      obtain ⟨d, hd⟩ := get_lt (l := ds) (i := i) (by omega)
      obtain ⟨d', hd'⟩ := get_lt (l := es') (i := i) (by omega)
      obtain ⟨v, hv, tv⟩ := g.1.2.get hd
      rw [hx xs g.1.1] at hv
      cases hv
      obtain ⟨v', hv', tv'⟩ := g.2.2.get hd'
      rw [hy ys g.2.1] at hv'
      cases hv'
      exact ⟨same_new hT, .tuple [d, d'], by unfold zipD; rw [List.getElem?_zipWith, hd, hd'], yd_pair hT tv tv'⟩⟩
theorem ji_str {z : Str} (h : JE X B ρ e (.d (.str z))) : JI X B ρ tg e (z.cps.toList.map fun c => .str ⟨#[c]⟩) := fun σ H R R0 k => ⟨_, pi_str pe_we, h σ H _ R0 fun v H1 s t => by
  refine ⟨z, TD.inj_str t, k _ H1 (fun _ => True) s (fun _ _ => trivial) ?_⟩
  rw [List.length_map, Array.length_toList]
  refine walk_str.mono (fun _ h => h) fun i H x H' hi g y => ?_
  obtain ⟨rfl, c, hc, rfl⟩ := y
  exact ⟨Same.refl _, .str ⟨#[c]⟩, by rw [List.getElem?_map, Array.getElem?_toList, hc]; rfl, .str _⟩⟩

/-! ### targets -/
def JG (X : Cx) (tg : Expr) (d : PyData) (ρ ρ' : List SV) (W : Nat → Prop) : Prop := ∀ (B : Hp) (σ : L2.St) (H : Hp) (v : V) (Q : L2.St → Hp → Prop), Rs X.K B ρ σ H → TD X.K H v d →
  (∀ σ', Rs X.K B ρ' σ' H → σ'.length = σ.length → (∀ i, ¬ W i → σ'[i]? = σ[i]?) → Q σ' H) → WG X tg v σ H Q
def JGs (X : Cx) (tgs : List Expr) (ds : List PyData) (ρ ρ' : List SV) (W : Nat → Prop) : Prop := ∀ (B : Hp) (σ : L2.St) (H : Hp) (vs : List V) (Q : L2.St → Hp → Prop), Rs X.K B ρ σ H → TDs X.K H vs ds →
  (∀ σ', Rs X.K B ρ' σ' H → σ'.length = σ.length → (∀ i, ¬ W i → σ'[i]? = σ[i]?) → Q σ' H) → WGs X tgs vs σ H Q
theorem jg_name {d : PyData} {n : Str} {W : Nat → Prop} (i : Nat) (nd : X.N.Nodup) (hi : X.N[i]? = some n := by rfl) (hw : W i := by first | trivial | decide) (hx : Loc X.env.scope n := by first | exact Or.inl rfl | exact Or.inr rfl)
    (hf : X.fn n = true ∨ X.env.scope.names.lookup n = some .local := by first | exact .inl rfl | exact .inr rfl) : JG X (.Name n pos) d ρ (ρ.set i (.d d)) W := fun B σ H v Q R t k =>
  ⟨_, pg_name nd hi hx hf, k _ (R.set (Same.refl H) t rfl) (by rw [List.length_set]) fun j hj => by rw [List.getElem?_set_ne (fun e => hj (by rw [← e]; exact hw))]⟩
theorem jgs_nil {W : Nat → Prop} : JGs X [] [] ρ ρ W := fun B σ H vs Q R t k => by
  cases t
  exact ⟨_, pgs_nil, rfl, k σ R rfl fun _ _ => rfl⟩
theorem jgs_cons {d : PyData} {W : Nat → Prop} {ρ1 ρ2 : List SV} (h : JG X e d ρ ρ1 W) (hs : JGs X es ds ρ1 ρ2 W) (ha : (assignEach (e :: es) X.env).map (·.2) = assign e X.env :: (assignEach es X.env).map (·.2) := by rfl) : JGs X (e :: es) (d :: ds) ρ ρ2 W := fun B σ H vs Q R t k => by
  cases t with
  | cons t ts => exact ⟨_, pgs_cons pg_wg pgs_wg ha, _, _, rfl, h B σ H _ _ R t fun σ1 R1 l1 u1 => hs B σ1 H _ _ R1 ts fun σ2 R2 l2 u2 => k σ2 R2 (l2.trans l1) fun i hi => (u2 i hi).trans (u1 i hi)⟩
theorem jg_tup {W : Nat → Prop} {ρ' : List SV} {n : Nat} (h : JGs X es ds ρ ρ' W) (hc : X.calm = true) (hl : ds.length = n := by rfl) (hn : (assignEach es X.env).length = n := by rfl) (hst : (assignEach es X.env).findIdx? (·.1) = none := by rfl) : JG X (.Tuple es kk pos) (.tuple ds) ρ ρ' W := fun B σ H v Q R t k => by
  obtain ⟨a, xs, rfl, hq, ts⟩ := TD.inj_tup t
  exact ⟨_, pg_tup hc pgs_wg hn hst, a, xs, rfl, hq, ts.length.trans hl, h B σ H _ _ R ts k⟩

/-! ### comprehensions -/
def aG (X : Cx) (scope : Scope) (tg : Expr) : TG := fun v σ H Q => ∀ (s : Shared) (H' : Hp) (C : Addr) (cl : List (Str × Addr)) (fp : List Addr), WG (X.blk s H' scope (compEnvC scope cl C X.env) fp) tg v σ H Q
def aT (X : Cx) (scope : Scope) (ifs : List Expr) : TT := fun σ H Q => ∀ (s : Shared) (H' : Hp) (C : Addr) (cl : List (Str × Addr)) (fp : List Addr), WTs (X.blk s H' scope (compEnvC scope cl C X.env) fp) ifs σ H Q
def aE (X : Cx) (scope : Scope) (elt : Expr) : TE := fun σ H Q => ∀ (s : Shared) (H' : Hp) (C : Addr) (cl : List (Str × Addr)) (fp : List Addr), WE (X.blk s H' scope (compEnvC scope cl C X.env) fp) elt σ H Q
theorem jts_nil : JTs X B ρ [] true := fun σ H Q R k => ⟨_, pts_nil, k H (Same.refl H)⟩
theorem jts_one {k : Bool} (h : JT X B ρ e k) : JTs X B ρ [e] k := fun σ H Q R q => ⟨_, pts_one pt_wt, h σ H Q R q⟩
theorem lc_in {α : Type} {xs : List α} {g : α → PyData} {pb : α → Bool} {f : α → PyData} {own : List (Str × Nat)} {ρ1 : α → List SV} {elt : Expr} {ifs : List Expr} {scope : Scope} {J : It} {G : Hp → Prop} {H1 : Hp} {σ : L2.St} {Qd : V → Hp → Prop} (w : Walk J xs.length G (YD X.K (xs.map g))) (hG : ∀ H2, Same H1 H2 → G H2) (hl : xs.length ≤ 1000)
    (hg : ∀ (s : Shared) (H : Hp) (C : Addr) (cl : List (Str × Addr)) (fp : List Addr), ∀ x ∈ xs, JG (X.blk s H scope (compEnvC scope cl C X.env) fp) tg (g x) (wipeR ρ (own.map (·.2))) (ρ1 x) (fun i => i ∈ own.map (·.2)))
    (ht : ∀ (s : Shared) (H : Hp) (C : Addr) (cl : List (Str × Addr)) (fp : List Addr), ∀ x ∈ xs, JTs (X.blk s H scope (compEnvC scope cl C X.env) fp) B (ρ1 x) ifs (pb x))
    (he : ∀ (s : Shared) (H : Hp) (C : Addr) (cl : List (Str × Addr)) (fp : List Addr), ∀ x ∈ xs, pb x = true → JE (X.blk s H scope (compEnvC scope cl C X.env) fp) B (ρ1 x) elt (.d (f x)))
    (R1 : Rs X.K B ρ σ H1) (k : ∀ v H', Same H1 H' → VOk X.K H1 H' (.m ((xs.filter pb).map f)) v → Qd v H') (Dl : Addr) (hD : H1 Dl = none) :
    ∃ W : Nat → Nat → Hp → Prop, (∃ m, W 0 m (upd H1 Dl (.lst []))) ∧ ∀ i m H, W i m H → (J.stop i H ∧ Qd (.ref Dl) H) ∨ (J.go i H ∧ ∃ Nx : Hp → Prop, (∀ H', Nx H' → ∃ m', m' < m ∧ W (i + 1) m' H') ∧ ∀ x H', J.yld i H x H' → aG X scope tg x (L2.wipe σ (own.map (·.2))) H' fun σ2 H2 => L2.wipe σ2 (own.map (·.2)) = L2.wipe σ (own.map (·.2)) ∧ aT X scope ifs σ2 H2 fun b H3 =>
      if b = true then aE X scope elt σ2 H3 fun y H4 => ∃ acc, H4 Dl = some (.lst acc) ∧ acc.length < sizeLine ∧ Nx (upd H4 Dl (.lst (acc ++ [y]))) else Nx H3) := by
  refine lc_it w (g := aG X scope tg) (tt := aT X scope ifs) (te := aE X scope elt) (vs := own.map (·.2)) (σ := σ) (Qd := fun H' => Qd (.ref Dl) H') (fun i H' => Same H1 H' ∧ ∃ acc, H' Dl = some (.lst acc) ∧ TDs X.K H' acc (((xs.take i).filter pb).map f)) ⟨same_new hD, [], upd_same, .nil⟩ (fun i H' _ p => hG H' p.1) (fun i v H' H2 hlt p y => ?_) fun H' p => ?_
  · obtain ⟨p1, acc, p2, p3⟩ := p
    obtain ⟨s2, d, hd, tv⟩ := y
    have hx : xs[i]? = some xs[i] := List.getElem?_eq_getElem hlt
    have hm : xs[i] ∈ xs := List.getElem_mem hlt
    rw [List.getElem?_map, hx] at hd
    cases hd
    have hr : Rs X.K B (wipeR ρ (own.map (·.2))) (L2.wipe σ (own.map (·.2))) H2 := (R1.mono (p1.trans s2)).wipe _
    intro s H' C cl fp
    refine hg s H' C cl fp xs[i] hm B _ H2 v _ hr tv fun σ2 R2 l2 u2 => ⟨?_, ?_⟩
    · have q := wipe_eq (vs := own.map (·.2)) l2 u2
      rw [q]
      exact wipe_eq (by rw [wipe_length]) fun j hj => wipe_out hj
    · intro s H' C cl fp
      refine ht s H' C cl fp xs[i] hm σ2 H2 _ R2 fun H3 s3 => ?_
      have tk : xs.take (i + 1) = xs.take i ++ [xs[i]] := by rw [List.take_add_one, hx]; rfl
      have s13 := (p1.trans s2).trans s3
      cases hp : pb xs[i] with
      | false =>
        rw [if_neg Bool.false_ne_true]
        refine ⟨s13, acc, (s2.trans s3) _ _ p2, ?_⟩
        rw [tk, List.filter_append, List.filter_cons, if_neg (by rw [hp]; decide), List.filter_nil, List.append_nil]
        exact p3.mono (tk_same (s2.trans s3))
      | true =>
        rw [if_pos rfl]
        intro s H' C cl fp
        refine he s H' C cl fp xs[i] hm hp σ2 H3 _ (R2.mono s3) fun y H4 s4 ty => ?_
        have s24 := (s2.trans s3).trans s4
        refine ⟨acc, s24 _ _ p2, ?_, same_mut (s13.trans s4) hD, acc ++ [y], upd_same, ?_⟩
        · have l1 := p3.length
          rw [l1, List.length_map]
          have l2 := List.length_filter_le pb (xs.take i)
          rw [List.length_take] at l2
          exact Nat.lt_of_le_of_lt (Nat.le_trans l2 (by omega)) (by decide : 1000 < sizeLine)
        · rw [tk, List.filter_append, List.filter_cons, if_pos hp, List.filter_nil, List.map_append]
          have tku : Tk X.K H4 (upd H4 Dl (.lst (acc ++ [y]))) := tk_upd (s24 _ _ p2) trivial
          exact ((p3.mono (tk_same s24)).mono tku).append (.cons (TD.mono tku ty) .nil)
  · obtain ⟨p1, acc, p2, p3⟩ := p
    rw [List.take_length] at p3
    exact k _ _ p1 ⟨Dl, acc, rfl, hD, p2, p3⟩
theorem lc_go {α : Type} {xs : List α} {g : α → PyData} {pb : α → Bool} {f : α → PyData} {own : List (Str × Nat)} {ρ1 : α → List SV} {elt : Expr} {ifs : List Expr} {scope : Scope} (hi : JIc X B ρ tg iter (xs.map g)) (hl : xs.length ≤ 1000)
    (hg : ∀ (s : Shared) (H : Hp) (C : Addr) (cl : List (Str × Addr)) (fp : List Addr), ∀ x ∈ xs, JG (X.blk s H scope (compEnvC scope cl C X.env) fp) tg (g x) (wipeR ρ (own.map (·.2))) (ρ1 x) (fun i => i ∈ own.map (·.2)))
    (ht : ∀ (s : Shared) (H : Hp) (C : Addr) (cl : List (Str × Addr)) (fp : List Addr), ∀ x ∈ xs, JTs (X.blk s H scope (compEnvC scope cl C X.env) fp) B (ρ1 x) ifs (pb x))
    (he : ∀ (s : Shared) (H : Hp) (C : Addr) (cl : List (Str × Addr)) (fp : List Addr), ∀ x ∈ xs, pb x = true → JE (X.blk s H scope (compEnvC scope cl C X.env) fp) B (ρ1 x) elt (.d (f x)))
    {σ : L2.St} {H : Hp} {Q : VK} (R0 : Rs X.K B ρ σ H) (k : ∀ v H', Same H H' → VOk X.K H H' (.m ((xs.filter pb).map f)) v → Q v H') :
    tLc (WI X tg iter) (aG X scope tg)
      (aT X scope ifs)
      (aE X scope elt) (own.map (·.2)) σ H Q := by
  refine hi σ H _ R0 fun J H1 G s1 hG w Dl hD => ?_
  rw [List.length_map] at w
  exact lc_in w hG hl hg ht he (R0.mono s1) (fun v H' s t => k v H' (s1.trans s) (t.back s1)) Dl hD
theorem pg_all {tg : Expr} {scope : Scope} {s : Shared} {H : Hp} {C : Addr} {cl : List (Str × Addr)} {fp : List Addr} : PG (X.blk s H scope (compEnvC scope cl C X.env) fp) tg
    (aG X scope tg) := ⟨fun pins s' σ H' v u Q I r h => pg_wg.run pins s' σ H' v u Q I r (h s H C cl fp)⟩
theorem pts_all {ifs : List Expr} {scope : Scope} {s : Shared} {H : Hp} {C : Addr} {cl : List (Str × Addr)} {fp : List Addr} : PTs (X.blk s H scope (compEnvC scope cl C X.env) fp) ifs
    (aT X scope ifs) := ⟨fun pins s' σ H' Q I h => pts_wt.run pins s' σ H' Q I (h s H C cl fp)⟩
theorem pe_all {elt : Expr} {scope : Scope} {s : Shared} {H : Hp} {C : Addr} {cl : List (Str × Addr)} {fp : List Addr} : PE (X.blk s H scope (compEnvC scope cl C X.env) fp) elt
    (aE X scope elt) := ⟨fun pins s' σ H' Q I h => pe_we.run pins s' σ H' Q I (h s H C cl fp)⟩
theorem je_lc {α : Type} {xs : List α} {g : α → PyData} {pb : α → Bool} {f : α → PyData} {own : List (Str × Nat)} {ρ1 : α → List SV} {elt : Expr} {ifs : List Expr} {scope : Scope} (nd : X.N.Nodup) (hi : JIc X B ρ tg iter (xs.map g)) (hl : xs.length ≤ 1000) (ok : BlkOk X.N X.env.scope scope own)
    (hg : ∀ (s : Shared) (H : Hp) (C : Addr) (cl : List (Str × Addr)) (fp : List Addr), ∀ x ∈ xs, JG (X.blk s H scope (compEnvC scope cl C X.env) fp) tg (g x) (wipeR ρ (own.map (·.2))) (ρ1 x) (fun i => i ∈ own.map (·.2)))
    (ht : ∀ (s : Shared) (H : Hp) (C : Addr) (cl : List (Str × Addr)) (fp : List Addr), ∀ x ∈ xs, JTs (X.blk s H scope (compEnvC scope cl C X.env) fp) B (ρ1 x) ifs (pb x))
    (he : ∀ (s : Shared) (H : Hp) (C : Addr) (cl : List (Str × Addr)) (fp : List Addr), ∀ x ∈ xs, pb x = true → JE (X.blk s H scope (compEnvC scope cl C X.env) fp) B (ρ1 x) elt (.d (f x)))
    (hc : X.calm = true := by rfl) (hs : ∀ x, foldedSetIterable iter X.env x = pure x := by intro _; rfl) : JE X B ρ (.ListComp elt [⟨tg, iter, ifs, 0⟩] scope pos) (.m ((xs.filter pb).map f)) := fun σ H Q R k =>
  ⟨_, pe_lc hc nd pi_wi ok (fun _ _ _ _ _ => pg_all) (fun _ _ _ _ _ => pts_all) (fun _ _ _ _ _ => pe_all) hs, lc_go hi hl hg ht he R k⟩
/-- .. without a test -/
theorem je_lc1 {α : Type} {xs : List α} {g : α → PyData} {f : α → PyData} {own : List (Str × Nat)} {ρ1 : α → List SV} {elt : Expr} {scope : Scope} (nd : X.N.Nodup) (hi : JIc X B ρ tg iter (xs.map g)) (hl : xs.length ≤ 1000) (ok : BlkOk X.N X.env.scope scope own)
    (hg : ∀ (s : Shared) (H : Hp) (C : Addr) (cl : List (Str × Addr)) (fp : List Addr), ∀ x ∈ xs, JG (X.blk s H scope (compEnvC scope cl C X.env) fp) tg (g x) (wipeR ρ (own.map (·.2))) (ρ1 x) (fun i => i ∈ own.map (·.2)))
    (he : ∀ (s : Shared) (H : Hp) (C : Addr) (cl : List (Str × Addr)) (fp : List Addr), ∀ x ∈ xs, JE (X.blk s H scope (compEnvC scope cl C X.env) fp) B (ρ1 x) elt (.d (f x)))
    (hc : X.calm = true := by rfl) (hs : ∀ x, foldedSetIterable iter X.env x = pure x := by intro _; rfl) : JE X B ρ (.ListComp elt [⟨tg, iter, [], 0⟩] scope pos) (.m (xs.map f)) := by
  have q := je_lc (pos := pos) (pb := fun _ => true) (ifs := []) nd hi hl ok hg (fun _ _ _ _ _ _ _ => jts_nil) (fun s H C cl fp x hx _ => he s H C cl fp x hx) hc hs
  rw [List.filter_eq_self.mpr (fun _ _ => rfl)] at q
  exact q
end
end KL

namespace KL
open PySem PySem.Spec PyProof.Rows L2

/-! ### defs -/
/-- what a pure def promises: by Rel from what its arguments are to what it hands back -/
def spP (K : PySem.W.Frag) (Rel : List SV → SV → Prop) : Sp := fun vs H Q _ => ∃ rs r, Rel rs r ∧ AOks K H rs vs ∧ ∀ v H', Same H H' → VOk K H H' r v → Q v H'
/-- the def n stands behind the top and keeps its promise -/
structure FnD (P : Program) (w : World) (K : PySem.W.Frag) (mg : Str → Option Value) (base : Heap) (n : Str) (k : Nat) (Rel : List SV → SV → Prop) : Prop where
  ex : ∃ (f : Addr) (fd : FuncData) (ps : List Str), FnOk P w K mg base CX0 k f fd ps (spP K Rel) ∧ mg n = some (.ref f) ∧ PySem.W.keepIn K (.ref f) = true ∧ Binds K fd ps []
theorem FnD.mono {P : Program} {w : World} {K : PySem.W.Frag} {mg : Str → Option Value} {base : Heap} {n : Str} {j k : Nat} {Rel : List SV → SV → Prop} (F : FnD P w K mg base n j Rel) (h : j ≤ k) : FnD P w K mg base n k Rel :=
  let ⟨f, fd, ps, a, b, c, d⟩ := F.ex; ⟨f, fd, ps, a.mono h, b, c, d⟩
section
variable {X : Cx} {B : Hp} {ρ : List SV} {a b c e : Expr} {es rest : List Expr} {pos p apos : Pos} {ra rb r : SV}
theorem je_call {n : Str} {k : Nat} {Rel : List SV → SV → Prop} {rs : List SV} (F : FnD X.prog X.w X.K X.mg X.base n k Rel) (hr : Room k X.A) (ha : JA X B ρ (e :: es) rs) (hp : Rel rs r) (hg : Gl X n := by rfl) (hdb : (n == ("__debug__" : Str)) = false := by decide)
    (he : starEach (e :: es) X.env = (false, eval e X.env) :: starEach es X.env := by rfl) (hpl : (backTo pos (starEach es X.env)).any (·.1) = false := by rfl) : JE X B ρ (.Call (.Name n p) (e :: es) [] pos) r := fun σ H Q R k => by
  obtain ⟨f, fd, ps, F1, hm, hk, hb⟩ := F.ex
  refine ⟨_, pe_call F1 hr hg hm hk hb .nil pass0 pa_wa hdb he hpl, ha σ H _ R fun vs H1 s1 t => ?_⟩
  show spP X.K Rel (vs ++ []) H1 Q E0
  rw [List.append_nil]
  exact ⟨rs, r, hp, t, fun v H2 s2 t2 => k v H2 (s1.trans s2) (t2.back s1)⟩
end

/-! ### statements -/
def GS (X : Cx) (B : Hp) (ρ : List SV) (st : List Stmt) (D : Ends) : Prop := ∀ (σ : L2.St) (H : Hp), Rs X.K B ρ σ H → WSs X st D σ H
/-- what is wanted of a return -/
def RetD (K : PySem.W.Frag) (B : Hp) (r : SV) (D : Ends) : Prop := ∀ v H', Same B H' → VOk K B H' r v → D.rt v H'
theorem RetD.base {K : PySem.W.Frag} {B B' : Hp} {r : SV} {D : Ends} (h : RetD K B r D) (s : Same B B') : RetD K B' r D := fun v H' s' t => h v H' (s.trans s') (t.back s)
structure Good (X : Cx) : Prop where
  pass : PassesOwn (model X.prog X.w) X.A X.env X.xe
  calm : X.calm = true
  nd : X.N.Nodup
section
variable {X : Cx} {B : Hp} {ρ : List SV} {a b c e : Expr} {es : List Expr} {pos p apos : Pos} {ra rb r : SV} {st : Stmt} {rest body orelse : List Stmt} {D : Ends}
theorem gs_nil (h : ∀ σ H, Rs X.K B ρ σ H → D.nx σ H) : GS X B ρ [] D := fun σ H R => ⟨_, pss_nil, h σ H R⟩
theorem gs_cons (h : ∀ σ H, Rs X.K B ρ σ H → WS X st { D with nx := fun σ' H' => WSs X rest D σ' H' } σ H) : GS X B ρ (st :: rest) D := fun σ H R => ⟨_, pss_cons ps_ws pss_ws, h σ H R⟩
theorem gs_wk {ρ' : List SV} (w : Wk ρ ρ') (h : GS X B ρ' rest D) : GS X B ρ rest D := fun σ H R => h σ H (R.wk w)
/-- x = e -/
theorem gs_set {n : Str} {pos' : Pos} (i : Nat) (nd : X.N.Nodup) (he : JE X B ρ e r) (k : GS X B (ρ.set i r) rest D) (hl : r.ali = false := by rfl) (hi : X.N[i]? = some n := by rfl) (hx : Loc X.env.scope n := by first | exact Or.inl rfl | exact Or.inr rfl)
    (hs : swapsWith e (some (.Name n pos')) pos.line X.env = pure false := by rfl) (hf : X.fn n = true ∨ X.env.scope.names.lookup n = some .local := by first | exact .inl rfl | exact .inr rfl) : GS X B ρ (.Assign [.Name n pos'] e pos :: rest) D :=
  gs_cons fun σ H R => ⟨_, ps_set nd hi hx pe_we hs hf, he σ H _ R fun v H1 s t => k _ H1 (R.set s t hl)⟩
/-- x = [..] -/
theorem gs_setLc {α : Type} {xs : List α} {g : α → PyData} {pb : α → Bool} {f : α → PyData} {own : List (Str × Nat)} {ρ1 : α → List SV} {elt tg iter : Expr} {ifs : List Expr} {scope : Scope} {n : Str} {py spos : Pos} (i : Nat) (nd : X.N.Nodup) (hi : JIc X B ρ tg iter (xs.map g)) (hl : xs.length ≤ 1000) (ok : BlkOk X.N X.env.scope scope own)
    (hg : ∀ (s : Shared) (H : Hp) (C : Addr) (cl : List (Str × Addr)) (fp : List Addr), ∀ x ∈ xs, JG (X.blk s H scope (compEnvC scope cl C X.env) fp) tg (g x) (wipeR ρ (own.map (·.2))) (ρ1 x) (fun i => i ∈ own.map (·.2)))
    (ht : ∀ (s : Shared) (H : Hp) (C : Addr) (cl : List (Str × Addr)) (fp : List Addr), ∀ x ∈ xs, JTs (X.blk s H scope (compEnvC scope cl C X.env) fp) B (ρ1 x) ifs (pb x))
    (he : ∀ (s : Shared) (H : Hp) (C : Addr) (cl : List (Str × Addr)) (fp : List Addr), ∀ x ∈ xs, pb x = true → JE (X.blk s H scope (compEnvC scope cl C X.env) fp) B (ρ1 x) elt (.d (f x)))
    (k : GS X B (ρ.set i (.m ((xs.filter pb).map f))) rest D) (hsw : swapsWith (.ListComp elt [⟨tg, iter, ifs, 0⟩] scope pos) (some (.Name n py)) spos.line X.env = pure true) (hn : X.N[i]? = some n := by rfl) (hy : X.env.scope.names.lookup n = some .local := by rfl)
    (hc : X.calm = true := by rfl) (hs : ∀ x, foldedSetIterable iter X.env x = pure x := by intro _; rfl) : GS X B ρ (.Assign [.Name n py] (.ListComp elt [⟨tg, iter, ifs, 0⟩] scope pos) spos :: rest) D :=
  gs_cons fun σ H R => ⟨_, ps_setLc hc nd hn hy hsw pi_wi ok (fun _ _ _ _ _ => pg_all) (fun _ _ _ _ _ => pts_all) (fun _ _ _ _ _ => pe_all) hs, lc_go hi hl hg ht he R fun v H1 s t => k _ H1 (R.set s t rfl)⟩
/-- a, b = e, e' with plain local names -/
theorem gs_par2 {x y : Str} {px py pt : Pos} {kt k2 pt2} (i j : Nat) (nd : X.N.Nodup) (h1 : JE X B ρ a ra) (h2 : JE X B ρ b rb) (k : GS X B ((ρ.set i ra).set j rb) rest D) (l1 : ra.ali = false := by rfl) (l2 : rb.ali = false := by rfl) (hc : X.calm = true := by rfl)
    (hi : X.N[i]? = some x := by rfl) (hj : X.N[j]? = some y := by rfl) (hij : i ≠ j := by decide) (hx : X.env.scope.names.lookup x = some .local := by rfl) (hy : X.env.scope.names.lookup y = some .local := by rfl)
    (hsa : starEach [a, b] X.env = (false, eval a X.env) :: starEach [b] X.env := by rfl) (hsb : starEach [b] X.env = (false, eval b X.env) :: starEach [] X.env := by rfl)
    (hw : swappedStores [.Tuple [.Name x px, .Name y py] kt pt] (.Tuple [a, b] k2 pt2) X.env = pure (some [x, y]) := by rfl)
    (hs : swapsWithSole [.Tuple [.Name x px, .Name y py] kt pt] (.Tuple [a, b] k2 pt2) pos.line X.env = pure false := by rfl) : GS X B ρ (.Assign [.Tuple [.Name x px, .Name y py] kt pt] (.Tuple [a, b] k2 pt2) pos :: rest) D :=
  gs_cons fun σ H R => ⟨_, ps_par hc nd hi hj hij hx hy (pa_cons pe_we (pa_cons pe_we pa_nil hsb) hsa) hw hs, h1 σ H _ R fun v H1 s1 t1 => h2 σ H1 _ (R.mono s1) fun u H2 s2 t2 => ⟨v, u, rfl, k _ H2 ((R.set s1 t1 l1).set s2 t2 l2)⟩⟩
/-- a, b, c = .. by a tuple that is made -/
theorem gs_asg3 {x y z : Str} {px py pz pt : Pos} {kt k2 pt2} {rc : SV} (i j l : Nat) (nd : X.N.Nodup) (h1 : JE X B ρ a ra) (h2 : JE X B ρ b rb) (h3 : JE X B ρ c rc) (k : GS X B (((ρ.set i ra).set j rb).set l rc) rest D) (l1 : ra.ali = false := by rfl) (l2 : rb.ali = false := by rfl) (l3 : rc.ali = false := by rfl) (hc : X.calm = true := by rfl)
    (hi : X.N[i]? = some x := by rfl) (hj : X.N[j]? = some y := by rfl) (hl : X.N[l]? = some z := by rfl) (hx : Loc X.env.scope x := by first | exact Or.inl rfl | exact Or.inr rfl) (hy : Loc X.env.scope y := by first | exact Or.inl rfl | exact Or.inr rfl) (hz : Loc X.env.scope z := by first | exact Or.inl rfl | exact Or.inr rfl)
    (fx : X.fn x = true ∨ X.env.scope.names.lookup x = some .local := by first | exact .inl rfl | exact .inr rfl) (fy : X.fn y = true ∨ X.env.scope.names.lookup y = some .local := by first | exact .inl rfl | exact .inr rfl) (fz : X.fn z = true ∨ X.env.scope.names.lookup z = some .local := by first | exact .inl rfl | exact .inr rfl)
    (hsa : starEach [a, b, c] X.env = (false, eval a X.env) :: starEach [b, c] X.env := by rfl) (hsb : starEach [b, c] X.env = (false, eval b X.env) :: starEach [c] X.env := by rfl) (hsc : starEach [c] X.env = (false, eval c X.env) :: starEach [] X.env := by rfl)
    (hs : swapsWithSole [.Tuple [.Name x px, .Name y py, .Name z pz] kt pt] (.Tuple [a, b, c] k2 pt2) pos.line X.env = pure false := by rfl) (hw : swappedStores [.Tuple [.Name x px, .Name y py, .Name z pz] kt pt] (.Tuple [a, b, c] k2 pt2) X.env = pure none := by rfl)
    : GS X B ρ (.Assign [.Tuple [.Name x px, .Name y py, .Name z pz] kt pt] (.Tuple [a, b, c] k2 pt2) pos :: rest) D :=
  gs_cons fun σ H R => ⟨_, ps_asg (pe_tup (pa_cons pe_we (pa_cons pe_we (pa_cons pe_we pa_nil hsc) hsb) hsa)) (pg_tup hc (pgs_cons (pg_name nd hi hx fx) (pgs_cons (pg_name nd hj hy fy) (pgs_cons (pg_name nd hl hz fz) pgs_nil)))) hs hw,
    h1 σ H _ R fun v H1 s1 t1 => h2 σ H1 _ (R.mono s1) fun u H2 s2 t2 => h3 σ H2 _ (R.mono (s1.trans s2)) fun q H3 s3 t3 => ⟨by show 3 ≤ sizeLine; decide, fun t ht => ⟨t, _, rfl, SqT.of upd_same, rfl, _, _, rfl, _, _, rfl, _, _, rfl, rfl,
      k _ _ ((((R.set s1 t1 l1).set s2 t2 l2).set s3 t3 l3).mono (same_new ht))⟩⟩⟩
/-- names from a tuple -/
theorem gs_asgT {tgs : List Expr} {kk : Nat} {tpos : Pos} {d : PyData} {ρ' : List SV} {tg : Expr} (he : JE X B ρ e (.d d)) (hg : JG X tg d ρ ρ' (fun _ => True)) (k : GS X B ρ' rest D) (hs : swapsWithSole [tg] e pos.line X.env = pure false := by rfl) (hw : swappedStores [tg] e X.env = pure none := by rfl)
    (h1 : (assignEach [tg] X.env).map (·.2) = [assign tg X.env] := by rfl) : GS X B ρ (.Assign [tg] e pos :: rest) D :=
  gs_cons fun σ H R => ⟨_, ps_asg pe_we pg_wg hs hw h1, he σ H _ R fun v H1 s t => hg B σ H1 v _ (R.mono s) t fun σ' R' _ _ => k σ' H1 R'⟩
/-- an expression alone -/
theorem gs_expr (he : JE X B ρ e r) (k : GS X B ρ rest D) (hs : swapsWith e none pos.line X.env = pure false := by rfl) : GS X B ρ (.Expr e pos :: rest) D :=
  gs_cons fun σ H R => ⟨_, ps_expr pe_we hs, he σ H _ R fun v H1 s _ => k σ H1 (R.mono s)⟩
/-- x.append(e) of an own list -/
theorem gs_append {xs : List PyData} {x : PyData} {n : Str} {npos epos : Pos} (i : Nat) (he : JE X B ρ e (.d x)) (hl : xs.length ≤ 1000) (k : GS X B (ρ.set i (.m (xs ++ [x]))) rest D) (hi : ρ[i]? = some (.m xs) := by rfl) (hN : X.N[i]? = some n := by rfl) (hv : Vis X.env.scope n := by first | exact Or.inl rfl | exact Or.inr (Or.inl rfl) | exact Or.inr (Or.inr rfl))
    (hd : (n == ("__debug__" : Str)) = false := by decide) (hcd : (n == ("__classdict__" : Str)) = false := by decide) (hst : starEach [e] X.env = (false, eval e X.env) :: starEach [] X.env := by rfl)
    (hbase : attributeBase (.Name n npos) "append" X.env (eval (.Name n npos) X.env) = eval (.Name n npos) X.env := by rfl)
    (hfew : ((backTo pos (starEach [e] X.env)).all (fun x => !x.1) && (backToKw pos (keywordEach [] X.env)).all (fun x => x.1.isSome) && decide ([e].length + ([] : List Keyword).length + (if ([] : List Keyword).isEmpty then 0 else 1) < 30)) = true := by rfl)
    (hline : (apos.endLine == pos.line) = true := by rfl) (hplain : (backTo pos (starEach [] X.env)).any (·.1) = false := by rfl) (hs : swapsWith (.Call (.Attribute (.Name n npos) "append" apos) [e] [] pos) none epos.line X.env = pure false := by rfl) :
    GS X B ρ (.Expr (.Call (.Attribute (.Name n npos) "append" apos) [e] [] pos) epos :: rest) D :=
  gs_cons fun σ H R => ⟨_, ps_expr (pe_bm PySem.F.plainAttrs_list PySem.F.slot_list_append PySem.F.type_list_append mt_append (pe_var hN hv hd hcd) (pa_cons pe_we pa_nil hst) hbase hfew hline hst hplain) hs, by
    obtain ⟨o, eo, l, vs, rfl, hH, t⟩ := R.at_ i _ hi
    refine ⟨_, eo, .inl ⟨rfl, _, SqL.of hH⟩, he σ H _ R fun v H1 s1 tv => ⟨l, vs, v, rfl, rfl, s1 _ _ hH, ?_, ?_⟩⟩
    · rw [t.length]
      exact Nat.lt_of_le_of_lt hl (by decide : 1000 < sizeLine)
    · exact k σ _ ((R.mono s1).put hi eo (s1 _ _ hH) ((t.mono (tk_same s1)).append (.cons tv .nil)))⟩
/-- return -/
theorem gs_ret (he : JE X B ρ e r) (k : RetD X.K B r D) : GS X B ρ (.Return (some e) pos :: rest) D :=
  gs_cons fun σ H R => ⟨_, ps_ret pe_we, he σ H _ R fun v H1 s t => k v H1 (R.ex.trans s) (t.back R.ex)⟩
/-- return of an own list -/
theorem gs_retOwn {xs : List PyData} {n : Str} {npos : Pos} (i : Nat) (k : RetD X.K B (.m xs) D) (hi : ρ[i]? = some (.m xs) := by rfl) (hN : X.N[i]? = some n := by rfl) (hv : Vis X.env.scope n := by first | exact Or.inl rfl | exact Or.inr (Or.inl rfl) | exact Or.inr (Or.inr rfl))
    (hd : (n == ("__debug__" : Str)) = false := by decide) (hcd : (n == ("__classdict__" : Str)) = false := by decide) : GS X B ρ (.Return (some (.Name n npos)) pos :: rest) D :=
  gs_cons fun σ H R => ⟨_, ps_ret (pe_var hN hv hd hcd), by
    obtain ⟨o, eo, l, vs, rfl, hH, t⟩ := R.at_ i _ hi
    exact ⟨_, eo, k _ H R.ex ⟨l, vs, rfl, R.fr i _ l hi rfl eo, hH, t⟩⟩⟩
/-- if -/
theorem gs_if {k : Bool} (hc : JT X B ρ c k) (h1 : k = true → GS X B ρ body { D with nx := fun σ H => WSs X rest D σ H }) (h2 : k = false → GS X B ρ orelse { D with nx := fun σ H => WSs X rest D σ H }) : GS X B ρ (.If c body orelse pos :: rest) D :=
  gs_cons fun σ H R => ⟨_, ps_if pt_wt pss_ws pss_ws, hc σ H _ R fun H1 s => by
    cases k with
    | true => exact h1 rfl σ H1 (R.mono s)
    | false => exact h2 rfl σ H1 (R.mono s)⟩
/-- if c: (leaves) -/
theorem gs_no (hc : JT X B ρ c false) (k : GS X B ρ rest D) : GS X B ρ (.If c body [] pos :: rest) D :=
  gs_if hc (fun z => by cases z) fun _ => gs_nil k
theorem gs_if0 {k : Bool} (hc : JT X B ρ c k) (h1 : k = true → GS X B ρ body { D with nx := fun σ H => WSs X rest D σ H }) (h2 : k = false → GS X B ρ rest D) : GS X B ρ (.If c body [] pos :: rest) D :=
  gs_if hc h1 fun z => gs_nil (h2 z)
theorem Ends.ret_nx {K : PySem.W.Frag} {r : SV} {N : L2.St → Hp → Prop} (h : RetD K B r D) : RetD K B r { D with nx := N } := h
/-- for -/
theorem gs_for {α : Type} {tg iter : Expr} (xs : List α) (g : α → PyData) (hX : Good X) (hi : JI X B ρ tg iter (xs.map g)) (ρf : Nat → List SV) (h0 : Wk ρ (ρf 0))
    (hs : ∀ B', Same B B' → ∀ (i : Nat) (x : α), xs[i]? = some x → ∃ ρ1, JG X tg (g x) (ρf i) ρ1 (fun _ => True) ∧ ∀ N : L2.St → Hp → Prop, (∀ σ H, Rs X.K B' (ρf (i + 1)) σ H → N σ H) → ∀ bk : L2.St → Hp → Prop, GS X B' ρ1 body { D with nx := N, ct := N, bk := bk })
    (hd : GS X B (ρf xs.length) rest D) (hf : ∀ x, foldedSetIterable iter X.env x = pure x := by intro _; rfl) : GS X B ρ (.For tg iter body [] pos :: rest) D :=
  gs_cons fun σ H R => ⟨_, ps_for hX.pass hX.calm pi_wi pg_wg pss_ws hf, hi σ H _ R fun J H1 G s1 hG w => by
    have R1 := R.mono s1
    have sB : Same B (hid ρ σ H1) := R1.same_hid
    rw [List.length_map] at w
    refine for_it w (fun i σ' H' => Rs X.K (hid ρ σ H1) (ρf i) σ' H') (R1.hid.wk h0) (fun i σ' H' _ R' => hG H' R'.ex) (fun i v σ' H2 H3 hlt R' y => ?_) fun σ' H' R' => hd σ' H' (R'.base sB)
    obtain ⟨s3, d, hd, tv⟩ := y
    have hx : xs[i]? = some xs[i] := List.getElem?_eq_getElem hlt
    rw [List.getElem?_map, hx] at hd
    cases hd
    obtain ⟨ρ1, hg, hb⟩ := hs _ sB i xs[i] hx
    exact hg _ σ' H3 v _ (R'.mono s3) tv fun σ2 R2 _ _ => hb _ (fun _ _ z => z) _ σ2 H3 R2⟩
/-- while: states by ι, a measure -/
theorem gs_while {ι : Type} (μ : ι → Nat) (ρf : ι → List SV) (x0 : ι) (hX : Good X) (h0 : Wk ρ (ρf x0)) (Inv : ι → Prop) (i0 : Inv x0)
    (hs : ∀ x, Inv x → ∃ k : Bool, JT X B (ρf x) c k ∧ (k = true → ∀ N : L2.St → Hp → Prop, (∀ y, Inv y → μ y < μ x → ∀ σ H, Rs X.K B (ρf y) σ H → N σ H) → ∀ bk : L2.St → Hp → Prop, GS X B (ρf x) body { D with nx := N, ct := N, bk := bk }) ∧ (k = false → GS X B (ρf x) rest D)) :
    GS X B ρ (.While c body [] pos :: rest) D :=
  gs_cons fun σ H R => ⟨_, ps_while hX.pass pt_wt pss_ws, fun m σ' H' => ∃ x, μ x = m ∧ Inv x ∧ Rs X.K B (ρf x) σ' H', ⟨_, x0, rfl, i0, R.wk h0⟩, by
    rintro m σ' H' ⟨x, rfl, ix, R'⟩
    obtain ⟨k, hc, h1, h2⟩ := hs x ix
    refine hc σ' H' _ R' fun H1 s => ?_
    cases k with
    | false =>
      rw [if_neg Bool.false_ne_true]
      exact h2 rfl σ' H1 (R'.mono s)
    | true =>
      rw [if_pos rfl]
      exact ⟨fun σ2 H2 => ∃ m', m' < μ x ∧ ∃ y, μ y = m' ∧ Inv y ∧ Rs X.K B (ρf y) σ2 H2, fun σ2 H2 z => z, h1 rfl _ (fun y iy hl σ2 H2 R2 => ⟨_, hl, y, rfl, iy, R2⟩) _ σ' H1 (R'.mono s)⟩⟩
end

/-! ### dicts -/
def valQ (kvs : List (Key × PyData)) (k : Key) : Option PyData := (kvs.find? fun kv => decide (kv.1 = k)).map (·.2)
theorem QOk.val {K : PySem.W.Frag} {H : Hp} {k : Key} : ∀ {vs : List (Key × V)} {kvs : List (Key × PyData)}, QOk K H vs kvs → (∀ d, valQ kvs k = some d → ∃ v, valV vs k = some v ∧ TD K H v d) ∧ (valV vs k).isSome = (valQ kvs k).isSome := by
  intro vs kvs h
  unfold QOk at h
  induction h with
  | nil => exact ⟨fun d z => by simp [valQ] at z, rfl⟩
  | @cons p q ps qs r t ih =>
    by_cases e : q.1 = k
    · rw [valV_pos (r.1.trans e)]
      have z : valQ (q :: qs) k = some q.2 := by simp [valQ, List.find?_cons, e]
      rw [z]
      exact ⟨fun d hd => ⟨p.2, rfl, by cases hd; exact r.2⟩, rfl⟩
    · rw [valV_neg (fun z => e (r.1.symm.trans z))]
      have z : valQ (q :: qs) k = valQ qs k := by simp [valQ, List.find?_cons, e]
      rw [z]
      exact ih
theorem QOk.length {K : PySem.W.Frag} {H : Hp} {vs : List (Key × V)} {kvs : List (Key × PyData)} (h : QOk K H vs kvs) : vs.length = kvs.length := Paired.length h
theorem QOk.append {K : PySem.W.Frag} {H : Hp} {vs : List (Key × V)} {kvs : List (Key × PyData)} {k : Key} {v : V} {d : PyData} (h : QOk K H vs kvs) (t : TD K H v d) : QOk K H (vs ++ [(k, v)]) (kvs ++ [(k, d)]) := by
  unfold QOk at h ⊢
  induction h with
  | nil => exact .cons ⟨rfl, t⟩ .nil
  | cons r _ ih => exact .cons r ih
theorem putK_new {vs : List (Key × V)} {k : Key} {v : V} (h : valV vs k = none) : putK vs k v = vs ++ [(k, v)] := by
  unfold putK
  rw [if_neg]
  intro z
  obtain ⟨kv, hm, e⟩ := List.any_eq_true.mp z
  unfold valV at h
  cases q : vs.find? (fun kv => decide (kv.1 = k)) with
  | none => exact absurd e (by simpa using List.find?_eq_none.mp q kv hm)
  | some y => rw [q] at h; cases h
section
variable {X : Cx} {B : Hp} {ρ : List SV} {a b c e : Expr} {pos p : Pos} {rest : List Stmt} {D : Ends} {kvs : List (Key × PyData)}
theorem je_dnew : JE X B ρ (.Dict [] [] pos) (.q []) := fun σ H Q R k => ⟨_, pe_dnewK, fun q hq => k _ _ (same_new hq) ⟨q, [], rfl, hq, upd_same, .nil⟩⟩
theorem jt_dni {z : Int} {n : Str} {np : Pos} (hu : X.A.units + 1 < cLine) (h : JE X B ρ e (.d (.int z))) (i : Nat) (hi : ρ[i]? = some (.q kvs) := by rfl) (hN : X.N[i]? = some n := by rfl) (hv : Vis X.env.scope n := by first | exact Or.inl rfl | exact Or.inr (Or.inl rfl) | exact Or.inr (Or.inr rfl))
    (hd : (n == ("__debug__" : Str)) = false := by decide) (hcd : (n == ("__classdict__" : Str)) = false := by decide) (hb : behindInMarks .NotIn (.Name n np) = false := by rfl) : JT X B ρ (.Compare e [.NotIn] [.Name n np] pos) (!(valQ kvs (.inl z)).isSome) := fun σ H Q R k =>
  ⟨_, pt_cmp (pc_dnotin hu pe_we (pe_var hN hv hd hcd)) hb, h σ H _ R fun v H1 s t => by
    obtain ⟨o, eo, l, vs, rfl, hH, q⟩ := (R.mono s).at_ i _ hi
    refine ⟨_, eo, l, valV vs (.inl z), rfl, ?_, _, rfl, ?_⟩
    · rw [TD.inj_int t]
      exact DGet.k (k := Sum.inl z) hH
    · rw [q.val.2]
      exact k H1 s⟩
theorem je_dget {z : Int} {d : PyData} {n : Str} {np : Pos} (hu : X.A.units + 1 < cLine) (h : JE X B ρ e (.d (.int z))) (i : Nat) (hz : valQ kvs (.inl z) = some d) (hs : NoSl e) (hi : ρ[i]? = some (.q kvs) := by rfl) (hN : X.N[i]? = some n := by rfl) (hv : Vis X.env.scope n := by first | exact Or.inl rfl | exact Or.inr (Or.inl rfl) | exact Or.inr (Or.inr rfl))
    (hd : (n == ("__debug__" : Str)) = false := by decide) (hcd : (n == ("__classdict__" : Str)) = false := by decide) : JE X B ρ (.Subscript (.Name n np) e pos) (.d d) := fun σ H Q R k =>
  ⟨_, L2.pe_dget hu (pe_var hN hv hd hcd) pe_we hs, by
    obtain ⟨o, eo, l, vs, rfl, hH, q⟩ := R.at_ i _ hi
    refine ⟨_, eo, h σ H _ R fun v H1 s t => ?_⟩
    obtain ⟨v', hv', tv⟩ := q.val.1 d hz
    refine ⟨l, v', rfl, ?_, k _ H1 s (TD.mono (tk_same s) tv)⟩
    rw [TD.inj_int t, ← hv']
    exact DGet.k (k := Sum.inl z) (s _ _ hH)⟩
theorem gs_dput {z : Int} {d : PyData} {n : Str} {np pos' : Pos} (hu : X.A.units + 1 < cLine) (i : Nat) (h : JE X B ρ e (.d (.int z))) (hv' : JE X B ρ a (.d d)) (hnew : valQ kvs (.inl z) = none) (hl : kvs.length ≤ 1000) (k : GS X B (ρ.set i (.q (kvs ++ [(.inl z, d)]))) rest D) (hi : ρ[i]? = some (.q kvs) := by rfl) (hN : X.N[i]? = some n := by rfl)
    (hv : Vis X.env.scope n := by first | exact Or.inl rfl | exact Or.inr (Or.inl rfl) | exact Or.inr (Or.inr rfl)) (hd : (n == ("__debug__" : Str)) = false := by decide) (hcd : (n == ("__classdict__" : Str)) = false := by decide)
    (hs : swapsWith a (some (.Subscript (.Name n np) e pos')) pos.line X.env = pure false := by rfl) : GS X B ρ (.Assign [.Subscript (.Name n np) e pos'] a pos :: rest) D :=
  gs_cons fun σ H R => ⟨_, ps_dput hu (pe_var hN hv hd hcd) pe_we pe_we hs, hv' σ H _ R fun v H1 s1 t1 => by
    obtain ⟨o, eo, l, vs, rfl, hH, q⟩ := (R.mono s1).at_ i _ hi
    refine ⟨_, eo, h σ H1 _ (R.mono s1) fun y H2 s2 t2 => ⟨l, upd H2 l (.dK (putK vs (.inl z) v)), rfl, ?_, ?_⟩⟩
    · rw [TD.inj_int t2]
      exact DPut.k (k := Sum.inl z) (s2 _ _ hH) (by rw [q.length]; exact Nat.lt_of_le_of_lt hl (by decide : 1000 < sizeLine))
    · have e0 : valV vs (.inl z) = none := by
        have q2 := q.val (k := .inl z) |>.2
        rw [hnew] at q2
        cases hh : valV vs (.inl z) with
        | none => rfl
        | some y => rw [hh] at q2; cases q2
      rw [putK_new e0]
      exact k σ _ ((R.mono (s1.trans s2)).putQ hi eo (s2 _ _ hH) ((q.mono (tk_same s2)).append (TD.mono (tk_same s2) t1)))⟩
/-- dict of a list of pairs with different int keys -/
def pairD (kv : Int × PyData) : PyData := .tuple [.int kv.1, kv.2]
def keyD (kv : Int × PyData) : Key × PyData := (.inl kv.1, kv.2)
theorem pairs_go {K : PySem.W.Frag} {H : Hp} : ∀ {kvs : List (Int × PyData)} {vs : List V}, TDs K H vs (kvs.map pairD) → ∃ (ps : List Addr) (ws : List (Key × V)), vs = ps.map V.ref ∧ Paired (fun p kv => SqT K H p [kV kv.1, kv.2]) ps ws ∧ QOk K H ws (kvs.map keyD)
  | [], _, .nil => ⟨[], [], rfl, .nil, .nil⟩
  | kv :: kvs, _, .cons h hs => by
    obtain ⟨ps, ws, rfl, a, b⟩ := pairs_go hs
    obtain ⟨p, xs, rfl, hq, t⟩ := TD.inj_tup h
    cases t with
    | cons t1 t =>
      cases t with
      | cons t2 t =>
        cases t
        rw [TD.inj_int t1] at hq
        exact ⟨p :: ps, (.inl kv.1, _) :: ws, rfl, .cons hq a, .cons ⟨rfl, t2⟩ b⟩
theorem merge_new : ∀ {more acc : List (Key × V)}, ((acc ++ more).map (·.1)).Nodup → mergeK acc more = acc ++ more
  | [], acc, _ => by rw [List.append_nil]; rfl
  | kv :: more, acc, h => by
    have e : valV acc kv.1 = none := by
      unfold valV
      cases q : acc.find? (fun x => decide (x.1 = kv.1)) with
      | none => rfl
      | some y =>
        have hm := List.mem_of_find?_eq_some q
        have he := List.find?_some q
        rw [List.map_append, List.map_cons] at h
        have hd := (List.nodup_append.mp h).2.2
        exact absurd (of_decide_eq_true he) (hd y.1 (List.mem_map_of_mem hm) kv.1 List.mem_cons_self)
    show mergeK (putK acc kv.1 kv.2) more = _
    rw [putK_new e, merge_new (by rw [List.append_assoc]; exact h), List.append_assoc]
    rfl
theorem QOk.keys {K : PySem.W.Frag} {H : Hp} {ws : List (Key × V)} {kvs : List (Key × PyData)} (h : QOk K H ws kvs) : ws.map (·.1) = kvs.map (·.1) := by
  unfold QOk at h
  induction h with
  | nil => rfl
  | cons r _ ih => rw [List.map_cons, List.map_cons, ih, r.1]
theorem je_dictP {kvs : List (Int × PyData)} (T : Bt X.mg) (h : JE X B ρ e (.l (kvs.map pairD))) (hn : (kvs.map (·.1)).Nodup) (hc : X.calm = true := by rfl) (hg : Gl X "dict" := by rfl) (he : starEach [e] X.env = [(false, eval e X.env)] := by rfl) : JE X B ρ (.Call (.Name "dict" p) [e] [] pos) (.q (kvs.map keyD)) :=
  je_ct (call_dictP hc) T.dict boot_dict (ja_cons h ja_nil rfl he) hg (fun H H1 vs Q s t k => by
    obtain ⟨v, rfl, a, ws, rfl, hq, t⟩ := t.one
    obtain ⟨ps, kws, rfl, a1, a2⟩ := pairs_go t
    refine ⟨a, ps, kws, rfl, SqL.of hq, a1, fun q hq => ?_⟩
    have e : mergeK [] kws = kws := merge_new (by
      rw [List.nil_append, a2.keys, List.map_map]
      have e2 : ((fun x : Key × PyData => x.1) ∘ keyD) = (fun x : Int × PyData => (Sum.inl x.1 : Key)) := rfl
      rw [e2, show (fun x : Int × PyData => (Sum.inl x.1 : Key)) = (fun i : Int => (Sum.inl i : Key)) ∘ (fun x : Int × PyData => x.1) from rfl, ← List.map_map]
      exact List.Pairwise.map _ (fun x y hne z => hne (Sum.inl.inj z)) hn)
    rw [e]
    exact k _ _ (same_new hq) ⟨q, kws, rfl, s.free hq, upd_same, a2.mono (tk_same (same_new hq))⟩) (he := he)
end

/-! ### a def of the text keeps its promise -/
def rho0 (N : List Str) (rs : List SV) : List SV := rs ++ List.replicate (N.length - rs.length) .un
theorem rs_start {K : PySem.W.Frag} {H : Hp} {N : List Str} : ∀ {rs : List SV} {vs : List V}, AOks K H rs vs → Rs K H (rho0 N rs) (L2.start N vs) H := by
  intro rs vs h
  have hl : rs.length = vs.length := Paired.length h
  have get : ∀ {rs : List SV} {vs : List V} {i : Nat} {s : SV}, AOks K H rs vs → rs[i]? = some s → ∃ v, vs[i]? = some v ∧ AOk K H s v := by
    intro rs vs i s h
    unfold AOks at h
    induction h generalizing i with
    | nil => intro e; simp at e
    | cons r _ ih =>
      intro e
      cases i with
      | zero => simp at e; subst e; exact ⟨_, rfl, r⟩
      | succ i => simpa using ih (by simpa using e)
  have slot : ∀ (i : Nat) (s : SV), (rho0 N rs)[i]? = some s → (∃ o, (L2.start N vs)[i]? = some o ∧ SlotOk K H s o) ∧ s.own = false := by
    intro i s e
    unfold rho0 at e
    by_cases hi : i < rs.length
    · rw [List.getElem?_append_left hi] at e
      obtain ⟨v, hv, ok⟩ := get h e
      have hv2 : (L2.start N vs)[i]? = some (some v) := by
        unfold L2.start
        rw [List.getElem?_append_left (by rw [List.length_map]; omega), List.getElem?_map, hv]
        rfl
      cases s with
      | un => exact ⟨⟨_, hv2, trivial⟩, rfl⟩
      | d x => exact ⟨⟨_, hv2, v, rfl, ok⟩, rfl⟩
      | l xs => obtain ⟨a, ws, rfl, h2, t⟩ := ok; exact ⟨⟨_, hv2, a, ws, rfl, h2, t⟩, rfl⟩
      | m xs => exact ok.elim
      | q xs => obtain ⟨a, ws, rfl, h0, h2, t⟩ := ok; rw [h2] at h0; cases h0
      | g _ l => exact ok.elim
    · rw [List.getElem?_append_right (by omega), List.getElem?_replicate] at e
      split at e
      · rename_i hlt
        cases e
        refine ⟨⟨none, ?_, trivial⟩, rfl⟩
        unfold L2.start
        rw [List.getElem?_append_right (by rw [List.length_map]; omega), List.getElem?_replicate, List.length_map, ← hl, if_pos hlt]
      · cases e
  refine ⟨Same.refl H, ?_, fun i s e => (slot i s e).1, fun i s a e k => ?_, fun i j s s' a _ e _ k => ?_, fun i j s s' a l e _ k => ?_⟩
  · unfold L2.start rho0
    rw [List.length_append, List.length_append, List.length_map, List.length_replicate, List.length_replicate, hl]
  · rw [(slot i s e).2] at k; cases k
  · rw [(slot i s e).2] at k; cases k
  · rw [(slot i s e).2] at k; cases k
section
variable {P : Program} {w : World} {K : PySem.W.Frag} {mg : Str → Option Value} {base : Heap}
/-- the context of a def's body -/
abbrev CxD (P : Program) (w : World) (K : PySem.W.Frag) (mg : Str → Option Value) (base : Heap) (N : List Str) (q : Str) (st : Stmt) (f : Addr) (cd : Value) (A : Around) (outer : List Env) (s : Shared) (H : Hp) (E : XK) : Cx := (cxOf CX0 P w K mg base N q (defScope st) f cd A outer s H E).nox
/-- a def of the text: where it stands -/
structure At (K : PySem.W.Frag) (mg : Str → Option Value) (n : Str) (st : Stmt) (ps : List Str) : Prop where
  ex : ∃ (f : Addr) (fd : FuncData), Fun K n n st f fd ∧ mg n = some (.ref f) ∧ Binds K fd ps []
theorem fnD {n : Str} {st : Stmt} {N ps : List Str} {k : Nat} {Rel : List SV → SV → Prop} (F : At K mg n st ps) (S : FnScope N ps (defScope st)) (len : ∀ rs r, Rel rs r → rs.length = ps.length)
    (body : ∀ (X : Cx) (B : Hp) (rs : List SV) (r : SV) (D : Ends), (∃ f cd A outer s H E, X = CxD P w K mg base N n st f cd A outer s H E) → Good X → Room k X.A → Rel rs r → RetD K B r D → (∀ σ H', Same B H' → r = .d .none → D.nx σ H') → GS X B (rho0 N rs) (defBody st) D) :
    FnD P w K mg base n (k + 1) Rel := by
  obtain ⟨f, fd, F1, hm, hb⟩ := F.ex
  refine ⟨f, fd, ps, F1.ok S (fun vs H Q E h => ?_) (fun cdv A outer s H vs Q E hr h => ?_), hm, F1.kp, hb⟩
  · obtain ⟨rs, r, h1, h2, _⟩ := h
    rw [← len rs r h1]
    exact (Paired.length h2).symm
  · obtain ⟨rs, r, h1, h2, q⟩ := h
    exact body (CxD P w K mg base N n st f cdv A outer s H E) H rs r { nx := fun _ H' => Q .non H', rt := Q } ⟨f, cdv, A, outer, s, H, E, rfl⟩ ⟨PassesOwn.never, rfl, S.nd⟩ hr h1 (fun v H' s' t => q v H' s' t) (fun σ H' s' e => q _ H' s' (by rw [e]; exact .non)) (L2.start N vs) H (rs_start h2)
end
end KL

namespace KL
open PySem PySem.Spec PyProof.Rows L2

/-! ### numbers, colours, boxes, houses as data -/
abbrev nI (n : Nat) : PyData := .int (n : Int)
abbrev NI (ns : List Nat) : List PyData := ns.map nI
abbrev SS (zs : List Str) : List PyData := zs.map PyData.str
abbrev Box := List Str × List Str
abbrev House := List Box × List Str
abbrev eBox (b : Box) : PyData := .tuple [.tuple (SS b.1), .tuple (SS b.2)]
abbrev eBoxes (bs : List Box) : PyData := .tuple (bs.map eBox)
abbrev eHouse (h : House) : PyData := .tuple [eBoxes h.1, .tuple (SS h.2)]
theorem ni_ints (ns : List Nat) : NI ns = (ns.map fun n : Nat => (n : Int)).map PyData.int := by rw [List.map_map]; rfl
theorem mem_cast {n : Nat} {ns : List Nat} : ((n : Int) ∈ ns.map fun n : Nat => (n : Int)) ↔ n ∈ ns := by
  constructor
  · intro h
    obtain ⟨m, hm, e⟩ := List.mem_map.mp h
    have : m = n := by omega
    exact this ▸ hm
  · exact fun h => List.mem_map.mpr ⟨n, h, rfl⟩
theorem dec_cast {n : Nat} {ns : List Nat} : decide ((n : Int) ∈ ns.map fun n : Nat => (n : Int)) = decide (n ∈ ns) := by
  by_cases h : n ∈ ns
  · rw [decide_eq_true h, decide_eq_true (mem_cast.mpr h)]
  · rw [decide_eq_false h, decide_eq_false fun z => h (mem_cast.mp z)]
theorem atI_nat' {ds : List PyData} {j : Nat} {d : PyData} (h : ds[j]? = some d) : atI ds ((j : Nat) : Int) = some d := atI_nat h
section
variable {X : Cx} {B : Hp} {ρ : List SV} {a b c e : Expr} {es rest : List Expr} {pos p apos : Pos} {ra rb r : SV} {n : Nat} {ns : List Nat}
theorem jc_inTN : JC X .In (.d (nI n)) (.d (.tuple (NI ns))) (decide (n ∈ ns)) := by rw [ni_ints, ← dec_cast]; exact jc_inT
theorem jc_niTN : JC X .NotIn (.d (nI n)) (.d (.tuple (NI ns))) (!decide (n ∈ ns)) := by rw [ni_ints, ← dec_cast]; exact jc_niT
theorem jc_inLN : JC X .In (.d (nI n)) (.l (NI ns)) (decide (n ∈ ns)) := by rw [ni_ints, ← dec_cast]; exact jc_inL
theorem jc_niLN : JC X .NotIn (.d (nI n)) (.l (NI ns)) (!decide (n ∈ ns)) := by rw [ni_ints, ← dec_cast]; exact jc_niL
theorem je_allF {α : Type} {xs : List α} {f : α → Bool} (T : Bt X.mg) (ha : JE X B ρ e (.m (xs.map fun x => PyData.bool (f x)))) (hc : X.calm = true := by rfl) (hg : Gl X "all" := by rfl) (he : starEach [e] X.env = [(false, eval e X.env)] := by rfl) : JE X B ρ (.Call (.Name "all" p) [e] [] pos) (.d (.bool (xs.all f))) := by
  have q := je_all (pos := pos) (p := p) (bs := xs.map f) T (by rw [List.map_map]; exact je_ml ha) hc hg he
  rw [List.all_map] at q
  exact q
theorem je_anyF {α : Type} {xs : List α} {f : α → Bool} (hm : X.mg "any" = none) (ha : JE X B ρ e (.m (xs.map fun x => PyData.bool (f x)))) (hc : X.calm = true := by rfl) (hg : Gl X "any" := by rfl) (he : starEach [e] X.env = [(false, eval e X.env)] := by rfl) : JE X B ρ (.Call (.Name "any" p) [e] [] pos) (.d (.bool (xs.any f))) := by
  have q := je_any (pos := pos) (p := p) (bs := xs.map f) hm (by rw [List.map_map]; exact je_ml ha) hc hg he
  rw [List.any_map] at q
  exact q
theorem je_tupleM {ds : List PyData} (T : Bt X.mg) (ha : JE X B ρ e (.m ds)) (hg : Gl X "tuple" := by rfl) (he : starEach [e] X.env = [(false, eval e X.env)] := by rfl) : JE X B ρ (.Call (.Name "tuple" p) [e] [] pos) (.d (.tuple ds)) := je_tupleL T (je_ml ha) hg he
/-- the tail of a tuple -/
theorem cut_tail (xs : List PyData) : cutD xs (some 1) none = xs.tail := by
  unfold cutD
  rw [show HT.sIx xs.length 0 (some 1) = min 1 xs.length from HT.sIx_nat xs.length 0 1, HT.sIx_none]
  cases xs with
  | nil => rfl
  | cons x r =>
    rw [show min 1 (x :: r).length = 1 by rw [List.length_cons]; omega]
    show List.take ((x :: r).length - 1) r = r
    rw [List.length_cons, Nat.add_sub_cancel]
    exact List.take_length
theorem zip_map {α : Type} (g : α → PyData) : ∀ xs ys : List α, zipD (xs.map g) (ys.map g) = (xs.zip ys).map fun q => .tuple [g q.1, g q.2]
  | [], _ => rfl
  | _ :: _, [] => rfl
  | x :: xs, y :: ys => by
    have ih := zip_map g xs ys
    unfold zipD at ih ⊢
    rw [List.map_cons, List.map_cons, List.zipWith_cons_cons, ih, List.zip_cons_cons, List.map_cons]
theorem enum_map {α : Type} (g : α → PyData) : ∀ (xs : List α) (k : Nat), enumD k (xs.map g) = (xs.zipIdx k).map fun q => .tuple [nI q.2, g q.1]
  | [], _ => rfl
  | x :: xs, k => by
    rw [List.map_cons, List.zipIdx_cons, List.map_cons]
    show PyData.tuple [.int (k : Int), g x] :: enumD (k + 1) (xs.map g) = _
    rw [enum_map g xs (k + 1)]
theorem range_map (n : Nat) : rangeD 0 n = (List.range n).map nI := by
  unfold rangeD
  exact List.map_congr_left fun k _ => by rw [Int.zero_add]
end
/-! equality of data -/
theorem eqvAll_ints : ∀ ns ms : List Nat, PyData.eqvAll (NI ns) (NI ms) = decide (ns = ms)
  | [], [] => by simp [PyData.eqvAll]
  | [], _ :: _ => by simp [PyData.eqvAll]
  | _ :: _, [] => by simp [PyData.eqvAll]
  | n :: ns, m :: ms => by
    have ih := eqvAll_ints ns ms
    show (((n : Int) == (m : Int)) && PyData.eqvAll (NI ns) (NI ms)) = _
    rw [ih]
    by_cases h : n = m
    · subst h
      by_cases h2 : ns = ms
      · subst h2; simp
      · simp [h2]
    · have h' : ((n : Int) == (m : Int)) = false := beq_eq_false_iff_ne.mpr (by omega)
      rw [h', Bool.false_and]
      exact (decide_eq_false (by simp [h])).symm
abbrev tNI (ns : List Nat) : PyData := .tuple (NI ns)
theorem eqv_tni (ns ms : List Nat) : PyData.eqv (tNI ns) (tNI ms) = decide (ns = ms) := by
  show PyData.eqvAll (NI ns) (NI ms) = _
  exact eqvAll_ints ns ms
theorem eqvAll_tni : ∀ ns ms : List (List Nat), PyData.eqvAll (ns.map tNI) (ms.map tNI) = decide (ns = ms)
  | [], [] => by simp [PyData.eqvAll]
  | [], _ :: _ => by simp [PyData.eqvAll]
  | _ :: _, [] => by simp [PyData.eqvAll]
  | n :: ns, m :: ms => by
    have ih := eqvAll_tni ns ms
    show (PyData.eqv (tNI n) (tNI m) && PyData.eqvAll (ns.map tNI) (ms.map tNI)) = _
    rw [ih, eqv_tni]
    by_cases h : n = m
    · subst h
      by_cases h2 : ns = ms
      · subst h2; simp
      · simp [h2]
    · simp [h]
theorem lay_ints : ∀ ns : List Nat, PyData.canLayAll0 (NI ns) = true
  | [] => rfl
  | n :: ns => by
    show (true && PyData.canLayAll0 (NI ns)) = true
    rw [lay_ints ns]
    rfl
theorem depth_ints : ∀ ns : List Nat, PyData.depthAll (NI ns) = 0
  | [] => by simp [PyData.depthAll]
  | n :: ns => by
    have ih := depth_ints ns
    simp only [NI, List.map_cons, PyData.depthAll, PyData.depth] at ih ⊢
    rw [ih]
    rfl
theorem shp_tni (ns : List Nat) : SeqAt.shaped (tNI ns) = true := by
  show (PyData.canLayAll0 (NI ns) && decide (PyData.depth (tNI ns) ≤ 64)) = true
  rw [lay_ints, Bool.true_and]
  refine decide_eq_true ?_
  simp only [tNI, PyData.depth]
  rw [depth_ints]
  decide
theorem shp_lni (ns : List Nat) : SeqAt.shaped (.list (NI ns)) = true := by
  show (PyData.canLayAll0 (NI ns) && decide (PyData.depth (.list (NI ns)) ≤ 64)) = true
  rw [lay_ints, Bool.true_and]
  refine decide_eq_true ?_
  simp only [PyData.depth]
  rw [depth_ints]
  decide
theorem lay_tni : ∀ ns : List (List Nat), PyData.canLayAll0 (ns.map tNI) = true
  | [] => rfl
  | n :: ns => by
    show (PyData.canLayAll0 (NI n) && PyData.canLayAll0 (ns.map tNI)) = true
    rw [lay_tni ns, lay_ints]
    rfl
theorem depth_tni : ∀ ns : List (List Nat), PyData.depthAll (ns.map tNI) ≤ 1
  | [] => by simp [PyData.depthAll]
  | n :: ns => by
    have ih := depth_tni ns
    have h2 := depth_ints n
    simp only [List.map_cons, PyData.depthAll, tNI, PyData.depth] at ih ⊢
    omega
theorem shp_ltni (ns : List (List Nat)) : SeqAt.shaped (.list (ns.map tNI)) = true := by
  show (PyData.canLayAll0 (ns.map tNI) && decide (PyData.depth (.list (ns.map tNI)) ≤ 64)) = true
  rw [lay_tni, Bool.true_and]
  refine decide_eq_true ?_
  have h := depth_tni ns
  simp only [PyData.depth]
  omega
section
variable {X : Cx} {ns ms : List Nat} {xs ys : List (List Nat)}
theorem jc_eqT (hu : X.A.units + 64 < cLine) : JC X .Eq (.d (tNI ns)) (.d (tNI ms)) (decide (ns = ms)) := by rw [← eqv_tni]; exact jc_eqD hu rfl rfl (shp_tni ns) (shp_tni ms)
theorem jc_neT (hu : X.A.units + 64 < cLine) : JC X .NotEq (.d (tNI ns)) (.d (tNI ms)) (!decide (ns = ms)) := by rw [← eqv_tni]; exact jc_neD hu rfl rfl (shp_tni ns) (shp_tni ms)
theorem jc_neLN (hu : X.A.units + 64 < cLine) : JC X .NotEq (.l (NI ns)) (.l (NI ms)) (!decide (ns = ms)) := by
  rw [← eqvAll_ints]
  exact jc_neD hu rfl rfl (shp_lni ns) (shp_lni ms)
theorem jc_neLT (hu : X.A.units + 64 < cLine) : JC X .NotEq (.l (xs.map tNI)) (.l (ys.map tNI)) (!decide (xs = ys)) := by
  rw [← eqvAll_tni]
  exact jc_neD hu rfl rfl (shp_ltni xs) (shp_ltni ys)
theorem jc_niLT (hu : X.A.units + 65 < cLine) : JC X .NotIn (.d (tNI ns)) (.l (xs.map tNI)) (!decide (ns ∈ xs)) := by
  have e : ((xs.map tNI).any fun z => PyData.eqv z (tNI ns)) = decide (ns ∈ xs) := by
    induction xs with
    | nil => rfl
    | cons x xs ih =>
      rw [List.map_cons, List.any_cons, ih, eqv_tni]
      by_cases h : x = ns
      · subst h; simp
      · have h' : ¬ ns = x := fun z => h z.symm
        simp [h, h']
  rw [← e]
  exact jc_niD hu (shp_tni ns) (shp_ltni xs)
end
end KL

namespace KL
open PySem PySem.Spec PyProof.Rows L2

theorem kb_ii : kitB "int" "int" = some true := by decide +kernel
theorem kb_ib : kitB "int" "bool" = some false := by decide +kernel
theorem kb_ss : kitB "str" "str" = some true := by decide +kernel
theorem kb_tt : kitB "tuple" "tuple" = some true := by decide +kernel
theorem kb_ll : kitB "list" "list" = some true := by decide +kernel
section
variable {X : Cx} {B : Hp} {ρ : List SV} {e : Expr} {p pos : Pos}
theorem je_isiI {i : Int} {p2 : Pos} (T : Bt X.mg) (ha : JE X B ρ e (.d (.int i))) (hgn : Gl X "int" := by rfl) (hg : Gl X "isinstance" := by rfl) (he : starEach [e, .Name "int" p2] X.env = (false, eval e X.env) :: starEach [.Name "int" p2] X.env := by rfl) (he2 : starEach [.Name "int" p2] X.env = [(false, eval (.Name "int" p2) X.env)] := by rfl) (hpl : (backTo pos (starEach [.Name "int" p2] X.env)).any (·.1) = false := by rfl) : JE X B ρ (.Call (.Name "isinstance" p) [e, .Name "int" p2] [] pos) (.d (.bool true)) := je_isi T ha T.int boot_int kb_ii hgn hg (by decide) (by decide) he he2 hpl
theorem je_isiB {i : Int} {p2 : Pos} (T : Bt X.mg) (ha : JE X B ρ e (.d (.int i))) (hgn : Gl X "bool" := by rfl) (hg : Gl X "isinstance" := by rfl) (he : starEach [e, .Name "bool" p2] X.env = (false, eval e X.env) :: starEach [.Name "bool" p2] X.env := by rfl) (he2 : starEach [.Name "bool" p2] X.env = [(false, eval (.Name "bool" p2) X.env)] := by rfl) (hpl : (backTo pos (starEach [.Name "bool" p2] X.env)).any (·.1) = false := by rfl) : JE X B ρ (.Call (.Name "isinstance" p) [e, .Name "bool" p2] [] pos) (.d (.bool false)) := je_isi T ha T.bool boot_bool kb_ib hgn hg (by decide) (by decide) he he2 hpl
theorem je_isiS {z : Str} {p2 : Pos} (T : Bt X.mg) (ha : JE X B ρ e (.d (.str z))) (hgn : Gl X "str" := by rfl) (hg : Gl X "isinstance" := by rfl) (he : starEach [e, .Name "str" p2] X.env = (false, eval e X.env) :: starEach [.Name "str" p2] X.env := by rfl) (he2 : starEach [.Name "str" p2] X.env = [(false, eval (.Name "str" p2) X.env)] := by rfl) (hpl : (backTo pos (starEach [.Name "str" p2] X.env)).any (·.1) = false := by rfl) : JE X B ρ (.Call (.Name "isinstance" p) [e, .Name "str" p2] [] pos) (.d (.bool true)) := je_isi T ha T.str boot_str kb_ss hgn hg (by decide) (by decide) he he2 hpl
theorem je_isiT {ds : List PyData} {p2 : Pos} (T : Bt X.mg) (ha : JE X B ρ e (.d (.tuple ds))) (hgn : Gl X "tuple" := by rfl) (hg : Gl X "isinstance" := by rfl) (he : starEach [e, .Name "tuple" p2] X.env = (false, eval e X.env) :: starEach [.Name "tuple" p2] X.env := by rfl) (he2 : starEach [.Name "tuple" p2] X.env = [(false, eval (.Name "tuple" p2) X.env)] := by rfl) (hpl : (backTo pos (starEach [.Name "tuple" p2] X.env)).any (·.1) = false := by rfl) : JE X B ρ (.Call (.Name "isinstance" p) [e, .Name "tuple" p2] [] pos) (.d (.bool true)) := je_isi T ha T.tuple boot_tuple kb_tt hgn hg (by decide) (by decide) he he2 hpl
theorem je_isiLs {ds : List PyData} {p2 : Pos} (T : Bt X.mg) (ha : JE X B ρ e (.l ds)) (hgn : Gl X "list" := by rfl) (hg : Gl X "isinstance" := by rfl) (he : starEach [e, .Name "list" p2] X.env = (false, eval e X.env) :: starEach [.Name "list" p2] X.env := by rfl) (he2 : starEach [.Name "list" p2] X.env = [(false, eval (.Name "list" p2) X.env)] := by rfl) (hpl : (backTo pos (starEach [.Name "list" p2] X.env)).any (·.1) = false := by rfl) : JE X B ρ (.Call (.Name "isinstance" p) [e, .Name "list" p2] [] pos) (.d (.bool true)) := je_isiL T ha T.list boot_list kb_ll hgn hg (by decide) (by decide) he he2 hpl
end
section
variable {X : Cx} {B : Hp} {ρ : List SV} {tg iter : Expr} {ds ds' : List PyData}
theorem jic_eq (h : JIc X B ρ tg iter ds) (e : ds = ds') : JIc X B ρ tg iter ds' := e ▸ h
theorem ji_eq (h : JI X B ρ tg iter ds) (e : ds = ds') : JI X B ρ tg iter ds' := e ▸ h
theorem zip_tail {α : Type} (g : α → PyData) (zs : List α) : zipD (zs.map g) (cutD (zs.map g) (some 1) none) = (zs.zip zs.tail).map fun q => .tuple [g q.1, g q.2] := by
  rw [cut_tail, ← List.map_tail, zip_map]
end

/-! ### what may be a house -/
def smallS : Str := "abcdefghijklmnopqrstuvwxyz"
def colOk (z : Str) : Bool := decide (1 ≤ z.length) && decide (z.length ≤ 8) && z.cps.toList.all fun c => decide (c ∈ smallS.cps.toList)
def ltS (x y : Str) : Bool := decide (x.cps.toList < y.cps.toList)
def colsOk (zs : List Str) (most : Nat) : Bool := decide (zs.length ≤ most) && zs.all colOk && (zs.zip zs.tail).all fun q => ltS q.1 q.2
def boxOk (b : Box) : Bool := colsOk b.1 3 && colsOk b.2 6
def houseOk (h : House) : Bool := decide (1 ≤ h.1.length) && decide (h.1.length ≤ 30) && h.1.all boxOk && colsOk h.2 6
theorem colsOk_iff {zs : List Str} {m : Nat} : colsOk zs m = true ↔ zs.length ≤ m ∧ (∀ z ∈ zs, colOk z = true) ∧ ((zs.zip zs.tail).all fun q => ltS q.1 q.2) = true := by
  unfold colsOk
  simp only [Bool.and_eq_true, decide_eq_true_eq, List.all_eq_true, and_assoc]
theorem houseOk_iff {h : House} : houseOk h = true ↔ 1 ≤ h.1.length ∧ h.1.length ≤ 30 ∧ (∀ b ∈ h.1, boxOk b = true) ∧ colsOk h.2 6 = true := by
  unfold houseOk
  simp only [Bool.and_eq_true, decide_eq_true_eq, List.all_eq_true, and_assoc]

/-! ### what opens, as plain functions -/
def gdB (bs : List Box) (n : Nat) : Box := bs.getD n ([], [])
theorem gdB_get {bs : List Box} {n : Nat} {b : Box} (h : bs[n]? = some b) : gdB bs n = b := by
  unfold gdB
  rw [List.getD_eq_getElem?_getD, h]
  rfl
def canOpen (bs : List Box) (ks : List Str) (op : List Nat) (n : Nat) : Bool := !decide (n ∈ op) && (gdB bs n).1.all fun c => decide (c ∈ ks)
def openable (bs : List Box) (ks : List Str) (op : List Nat) : List Nat := (List.range bs.length).filter (canOpen bs ks op)
def keysAfter (bs : List Box) (ks : List Str) (s : List Nat) : List Str := s.foldl (fun k n => k ++ (gdB bs n).2) ks
def roundsGo (bs : List Box) : Nat → List Str → List Nat → List (List Nat)
  | 0, _, _ => []
  | f + 1, ks, op => if openable bs ks op = [] then [] else openable bs ks op :: roundsGo bs f (keysAfter bs ks (openable bs ks op)) (op ++ openable bs ks op)
def roundsM (bs : List Box) (ks : List Str) (op : List Nat) : List (List Nat) := roundsGo bs (bs.length + 1) ks op
def notInM (n : Nat) (op : List Nat) : List Nat := (List.range n).filter fun k => !decide (k ∈ op)
def shutM (h : House) (br : List Nat) : List Nat := notInM h.1.length (br ++ (roundsM h.1 (keysAfter h.1 h.2 br) br).flatten)
/-- the boxes that are not opened yet -/
def left (bs : List Box) (op : List Nat) : Nat := (notInM bs.length op).length
theorem left_le (bs : List Box) (op : List Nat) : left bs op ≤ bs.length := by
  have h := List.length_filter_le (fun k => !decide (k ∈ op)) (List.range bs.length)
  rw [List.length_range] at h
  exact h
theorem filter_split {α : Type} (p q : α → Bool) : ∀ l : List α, (l.filter p).length = (l.filter fun x => p x && q x).length + (l.filter fun x => p x && !q x).length
  | [] => rfl
  | x :: l => by
    have ih := filter_split p q l
    rw [List.filter_cons, List.filter_cons, List.filter_cons]
    cases hp : p x <;> cases hq : q x <;> simp only [Bool.true_and, Bool.false_and, Bool.not_true, Bool.not_false, if_true, if_false, List.length_cons, Bool.false_eq_true] <;> omega
theorem mem_openable {bs : List Box} {ks : List Str} {op : List Nat} {n : Nat} : n ∈ openable bs ks op ↔ n < bs.length ∧ canOpen bs ks op n = true := by
  unfold openable
  rw [List.mem_filter, List.mem_range]
theorem left_step (bs : List Box) (ks : List Str) (op : List Nat) : left bs (op ++ openable bs ks op) + (openable bs ks op).length = left bs op := by
  have h := filter_split (fun k => !decide (k ∈ op)) (fun n => (gdB bs n).1.all fun c => decide (c ∈ ks)) (List.range bs.length)
  unfold left notInM
  rw [h]
  have e1 : (List.range bs.length).filter (fun x => !decide (x ∈ op) && (gdB bs x).1.all fun c => decide (c ∈ ks)) = openable bs ks op := rfl
  rw [e1]
  have e2 : (List.range bs.length).filter (fun k => !decide (k ∈ op ++ openable bs ks op)) = (List.range bs.length).filter (fun x => !decide (x ∈ op) && !((gdB bs x).1.all fun c => decide (c ∈ ks))) := by
    refine List.filter_congr fun k hk => ?_
    have hk' := List.mem_range.mp hk
    by_cases h1 : k ∈ op
    · simp [h1]
    · have : (k ∈ op ++ openable bs ks op) ↔ ((gdB bs k).1.all fun c => decide (c ∈ ks)) = true := by
        rw [List.mem_append, mem_openable]
        unfold canOpen
        simp [h1, hk']
      by_cases h2 : ((gdB bs k).1.all fun c => decide (c ∈ ks)) = true
      · rw [decide_eq_true (this.mpr h2), h2, decide_eq_false h1]; rfl
      · rw [decide_eq_false (fun z => h2 (this.mp z)), Bool.eq_false_iff.mpr h2, decide_eq_false h1]; rfl
  rw [e2, Nat.add_comm]
theorem keysAfter_len (bs : List Box) (hb : ∀ b ∈ bs, b.2.length ≤ 6) : ∀ (s : List Nat) (ks : List Str), (keysAfter bs ks s).length ≤ ks.length + 6 * s.length
  | [], ks => by simp [keysAfter]
  | n :: s, ks => by
    have ih := keysAfter_len bs hb s (ks ++ (gdB bs n).2)
    have h1 : (gdB bs n).2.length ≤ 6 := by
      unfold gdB
      rw [List.getD_eq_getElem?_getD]
      cases e : bs[n]? with
      | none => exact Nat.zero_le _
      | some b => exact hb b (List.mem_of_getElem? e)
    show (keysAfter bs (ks ++ (gdB bs n).2) s).length ≤ _
    rw [List.length_append] at ih
    rw [List.length_cons]
    omega
theorem keysAfter_snoc (bs : List Box) (ks : List Str) (s : List Nat) (n : Nat) : keysAfter bs ks (s ++ [n]) = keysAfter bs ks s ++ (gdB bs n).2 := by
  unfold keysAfter
  rw [List.foldl_append]
  rfl
theorem take_snoc {α : Type} {l : List α} {i : Nat} {x : α} (h : l[i]? = some x) : l.take (i + 1) = l.take i ++ [x] := by rw [List.take_add_one, h]; rfl
theorem range_filter_snoc (p : Nat → Bool) (i : Nat) : (List.range (i + 1)).filter p = (List.range i).filter p ++ (if p i = true then [i] else []) := by
  rw [List.range_succ, List.filter_append, List.filter_cons, List.filter_nil]
theorem zipIdx_get {α : Type} {l : List α} {i : Nat} {x : α × Nat} (h : l.zipIdx[i]? = some x) : x.2 = i ∧ l[i]? = some x.1 := by
  rw [List.getElem?_zipIdx] at h
  cases e : l[i]? with
  | none => rw [e] at h; cases h
  | some y =>
    rw [e] at h
    simp at h
    subst h
    exact ⟨rfl, rfl⟩
theorem roundsGo_stop {bs : List Box} {f : Nat} {ks : List Str} {op : List Nat} (h : openable bs ks op = []) : roundsGo bs f ks op = [] := by
  cases f with
  | zero => rfl
  | succ f => unfold roundsGo; rw [if_pos h]
theorem roundsGo_go {bs : List Box} {f : Nat} {ks : List Str} {op : List Nat} (h : ¬ openable bs ks op = []) : roundsGo bs (f + 1) ks op = openable bs ks op :: roundsGo bs f (keysAfter bs ks (openable bs ks op)) (op ++ openable bs ks op) := by
  rw [roundsGo, if_neg h]
/-- a bound on all that is opened -/
theorem roundsGo_len (bs : List Box) : ∀ (f : Nat) (ks : List Str) (op : List Nat), (roundsGo bs f ks op).flatten.length ≤ left bs op ∧ (roundsGo bs f ks op).length ≤ f
  | 0, _, _ => ⟨Nat.zero_le _, Nat.zero_le _⟩
  | f + 1, ks, op => by
    by_cases h : openable bs ks op = []
    · rw [roundsGo_stop h]; exact ⟨Nat.zero_le _, Nat.zero_le _⟩
    · rw [roundsGo_go h]
      have ih := roundsGo_len bs f (keysAfter bs ks (openable bs ks op)) (op ++ openable bs ks op)
      have st := left_step bs ks op
      rw [List.flatten_cons, List.length_append, List.length_cons]
      omega
/-! one-lock houses -/
def oneLock (h : House) : Bool := h.1.all fun b => decide (b.1.length ≤ 1)
def openedBy (h : House) (n : Nat) (some : List Nat) : List Nat := some.filter fun one => !decide (one ∈ shutM h [n])
def lotAt (h : House) (some : List Nat) (n : Nat) : List Nat := some.filter fun one => decide (n ∈ openedBy h one some)
def lotStep (h : House) (some : List Nat) (found : List (List Nat)) (n : Nat) : List (List Nat) :=
  if ((lotAt h some n).all fun one => decide (one ∈ openedBy h n some)) = true ∧ lotAt h some n ∉ found then found ++ [lotAt h some n] else found
def leastM (h : House) : List (List Nat) := (shutM h []).foldl (lotStep h (shutM h [])) []
def foldI {α β : Type} (f : β → α → β) (b : β) (l : List α) (i : Nat) : β := (l.take i).foldl f b
theorem foldI_snoc {α β : Type} (f : β → α → β) (b : β) {l : List α} {i : Nat} {x : α} (h : l[i]? = some x) : foldI f b l (i + 1) = f (foldI f b l i) x := by
  unfold foldI
  rw [take_snoc h, List.foldl_append]
  rfl
theorem foldI_all {α β : Type} (f : β → α → β) (b : β) (l : List α) : foldI f b l l.length = l.foldl f b := by
  unfold foldI
  rw [List.take_length]
theorem shut_len (h : House) (br : List Nat) : (shutM h br).length ≤ h.1.length := by
  have q := List.length_filter_le (fun k => !decide (k ∈ br ++ (roundsM h.1 (keysAfter h.1 h.2 br) br).flatten)) (List.range h.1.length)
  rw [List.length_range] at q
  exact q
theorem shut_lt {h : House} {br : List Nat} {n : Nat} (m : n ∈ shutM h br) : n < h.1.length := List.mem_range.mp (List.mem_filter.mp m).1
theorem leastM_len (h : House) : ∀ (l : List Nat) (s : List Nat) (f : List (List Nat)), (l.foldl (lotStep h s) f).length ≤ f.length + l.length
  | [], _, _ => Nat.le_refl _
  | n :: l, s, f => by
    have ih := leastM_len h l s (lotStep h s f n)
    have e : (lotStep h s f n).length ≤ f.length + 1 := by
      unfold lotStep
      split
      · rw [List.length_append, List.length_singleton]; exact Nat.le_refl _
      · omega
    rw [List.foldl_cons, List.length_cons]
    omega
/-! layings -/
def exM (l : List Nat) (i j : Nat) : List Nat := (l.set i (l.getD j 0)).set j (l.getD i 0)
def layOk (l : List Nat) : Bool := decide (1 ≤ l.length) && decide (l.length ≤ 30) && l.all (fun n => decide (n < l.length)) && decide l.Nodup
theorem layOk_iff {l : List Nat} : layOk l = true ↔ 1 ≤ l.length ∧ l.length ≤ 30 ∧ (∀ n ∈ l, n < l.length) ∧ l.Nodup := by
  unfold layOk
  simp only [Bool.and_eq_true, decide_eq_true_eq, List.all_eq_true, and_assoc]
/-- from here on, round to what is seen -/
def orb (l : List Nat) : Nat → List Nat → Nat → List Nat
  | 0, _, _ => []
  | f + 1, seen, here => if here ∈ seen then [] else here :: orb l f (seen ++ [here]) (l.getD here 0)
def rowStep (l : List Nat) (st : List (List Nat) × List Nat) (box : Nat) : List (List Nat) × List Nat :=
  if orb l (l.length + 1) st.2 box = [] then st else (st.1 ++ [orb l (l.length + 1) st.2 box], st.2 ++ orb l (l.length + 1) st.2 box)
def rowsM (l : List Nat) : List (List Nat) := ((List.range l.length).foldl (rowStep l) ([], [])).1
end KL

namespace KL
open PySem PySem.Spec PyProof.Rows L2

/-! ### sorted of a tuple of ints -/
section
variable {prog : Program} {w : World} {A : Around} {E : Value → Shared → Prop} {s : Shared}
theorem collect_tup {l : Addr} {vs : List Value} {Q : List Value → Shared → Prop} (hl : s.heap.IsTuple l vs.toArray) (hz : vs.length ≤ sizeLine) (h : Q vs { s with heap := (s.heap.push (seqObj "list" #[] 0)).update s.heap.objs.size (Obj.mapSeq (· ++ vs.toArray)) }) : wpAny (model prog w) A (collect (.ref l)) Q E s := by
  obtain ⟨ob, hob, hcl, n, hda⟩ := id hl
  unfold collect
  refine wpAny_bind (wpAny_runValue (codeAny_builtin entry_proto_collect' ?_))
  show wpAny _ _ (do again (.builtin "list.__iadd__" ⟨[← newList [], .ref l], []⟩)) _ _ s
  refine wpAny_bind (wpAny_newList (wpAny_pure ⟨Code.quiet_builtin _ (by decide +kernel), codeAny_builtin entry_list_iadd' ?_⟩))
  show wpAny _ _ (Builtin.List.listExtendWith (.ref s.heap.objs.size) (.ref l) (.ref s.heap.objs.size)) _ _ { s with heap := s.heap.push (seqObj "list" #[] 0) }
  unfold Builtin.List.listExtendWith
  have hob2 : (s.heap.push (seqObj "list" #[] 0)).get? l = some ob := Heap.get?_push_of_some _ hob
  have tt : (Value.type "tuple" == Value.type "tuple") = true := by rfl
  have tl : (Value.type "tuple" == Value.type "list") = false := by rfl
  refine wpAny_bind (wpAny_typeOf (T := "tuple") ⟨ob, hob2, hcl⟩ ?_)
  rw [if_pos (by rw [tt, tl]; simp)]
  refine wpAny_bind (listItems_at hob2 hda (wpAny_bind (listItems_at (xs := #[]) (n := 0) (Heap.get?_push_size _ rfl) rfl ?_)))
  rw [if_neg (by simp)]
  refine wpAny_bind (listUpdate_at (xs := #[]) (n := 0) (Heap.get?_push_size _ rfl) rfl (wpAny_pure ?_) (Nat.zero_le _) (by show (#[] ++ vs.toArray).size ≤ sizeLine + 1; simp only [Array.size_append, List.size_toArray, List.length_nil]; omega))
  show wpAny (model prog w) A (load s.heap.objs.size >>= fun o => (match o.data with | .seq xs _ => pure xs.toList | _ => unsupported "internal:collect")) Q E { s with heap := (s.heap.push (seqObj "list" #[] 0)).update s.heap.objs.size (Obj.mapSeq (· ++ vs.toArray)) }
  refine wpAny_bind (wpAny_load (get?_update_seq (Heap.get?_push_size _ rfl) _) ?_)
  show wpAny _ _ (pure ((#[] : Array Value) ++ vs.toArray).toList) Q E _
  have e : ((#[] : Array Value) ++ vs.toArray).toList = vs := by simp
  rw [e]
  exact wpAny_pure h
theorem sorted_intsT {l : Addr} {vs : List Value} {ns : List Int} {Q : Value → Shared → Prop} (hl : s.heap.IsTuple l vs.toArray) (hI : IntsAre vs ns) (h64 : vs.length < 64)
    (h : ∀ (out : Array Value) (ns' : List Int), IntsAre out.toList ns' → ns'.Perm ns → ns'.Pairwise (· ≤ ·) → Q (.ref (s.heap.objs.size + 1)) { s with heap := sortedAll s.heap vs out }) : wpAny (model prog w) A (call (.builtin "sorted") [.ref l]) Q E s := by
  refine Calls.call_function_entry kind_sorted plain_sorted entry_sorted (args_sorted1 _) ?_
  unfold Builtin.«sorted»
  refine wpAny_bind (m := checkCount "sorted" 1 1 _) (wpAny_pure (wpAny_bind (collect_tup hl (small64 h64) (wpAny_bind (wpAny_newList ?_)))))
  have hz : ((s.heap.push (seqObj "list" #[] 0)).update s.heap.objs.size (Obj.mapSeq (· ++ vs.toArray))).objs.size = s.heap.objs.size + 1 := by rw [Heap.size_update, size_push']
  have hO : (((s.heap.push (seqObj "list" #[] 0)).update s.heap.objs.size (Obj.mapSeq (· ++ vs.toArray))).push (seqObj "list" vs.toArray 0)).get? (s.heap.objs.size + 1) = some (seqObj "list" vs.toArray 0) := by rw [← hz]; exact Heap.get?_push_size _ rfl
  show wpAny _ _ _ _ _ { s with heap := ((s.heap.push (seqObj "list" #[] 0)).update s.heap.objs.size (Obj.mapSeq (· ++ vs.toArray))).push (seqObj "list" vs.toArray 0) }
  rw [hz]
  exact wpAny_bind (wpAny_holding (wpAny_call_entry slot_list_sort ⟨_, hO, rfl⟩ entry_list_sort (list_sort_tree hO hI h64 fun out ns' a1 a2 a3 => ⟨_, rfl, wpAny_pure ⟨_, rfl, h out ns' a1 a2 a3⟩⟩) (args_list_sort _)))
end
section
variable {X : Cx} {B : Hp} {ρ : List SV} {e : Expr} {p p2 q pos : Pos}
def rSortT (K : PySem.W.Frag) : List V → Hp → VK → Prop := fun vs H Q => ∃ (a : Addr) (ns : List Int), vs = [V.ref a] ∧ SqT K H a (ns.map V.int) ∧ ns.length < 64 ∧ ∀ (ns' : List Int) p, ns'.Perm ns → ns'.Pairwise (· ≤ ·) → H p = none → Q (.ref p) (upd H p (.lst (ns'.map V.int)))
theorem cr_sortTup : CallR X (.builtin "sorted") (rSortT X.K) := by
  intro pins s σ H vs us Q I r h
  obtain ⟨a, ns, rfl, hs, h64, k⟩ := h
  obtain ⟨its, rv, hl, _⟩ := I.tuple hs
  rw [Vals.ref1 r]
  have hi := rv.ints
  refine sorted_intsT (show s.heap.IsTuple a its.toArray from hl) hi (by rw [hi.length]; exact h64) fun out ns' h1 h2 h3 => ?_
  obtain ⟨ep, he'⟩ := sortedAll_at s.heap its out
  have hlen : (ns'.map V.int).length ≤ sizeLine := by
    rw [List.length_map, h2.length_eq]
    exact small64 h64
  exact ⟨.ref _, upd H (s.heap.objs.size + 1) (.lst (ns'.map V.int)), I.laid (t' := s.toks) (fun _ _ => sortedAll_old) (Nat.le_succ _) ⟨hlen, out.toList, ep, vals_of_ints h1, he'⟩, rfl, k ns' _ h2 h3 (I.hok.fresh (Nat.le_succ _))⟩
/-- the numbers in order -/
def sortN (ns : List Nat) : List Nat := ns.mergeSort fun a b => decide (a ≤ b)
theorem sortN_perm (ns : List Nat) : (sortN ns).Perm ns := List.mergeSort_perm ns _
theorem sortN_up (ns : List Nat) : (sortN ns).Pairwise (· ≤ ·) := by
  have h := List.pairwise_mergeSort (le := fun a b : Nat => decide (a ≤ b)) (fun a b c h1 h2 => decide_eq_true (Nat.le_trans (of_decide_eq_true h1) (of_decide_eq_true h2))) (fun a b => by simp only [Bool.or_eq_true, decide_eq_true_eq]; omega) ns
  exact h.imp fun h => of_decide_eq_true h
theorem sortN_only {ns : List Nat} {ms : List Int} (hp : ms.Perm (ns.map fun n : Nat => (n : Int))) (hs : ms.Pairwise (· ≤ ·)) : ms = (sortN ns).map fun n : Nat => (n : Int) := by
  refine PySem.W.ksm_same (hp.trans ((sortN_perm ns).symm.map _)) hs ?_
  exact List.Pairwise.map _ (fun a b h => by omega) (sortN_up ns)
theorem sortN_id {ns : List Nat} (h : ns.Pairwise (· < ·)) : sortN ns = ns := List.Perm.eq_of_pairwise (le := fun a b : Nat => a ≤ b) (fun a b _ _ h1 h2 => Nat.le_antisymm h1 h2) (sortN_up ns) (h.imp Nat.le_of_lt) (sortN_perm ns)
theorem je_sortedN {ns : List Nat} (T : Bt X.mg) (ha : JE X B ρ e (.l (NI ns))) (hl : ns.length < 64) (hg : Gl X "sorted" := by rfl) (he : starEach [e] X.env = [(false, eval e X.env)] := by rfl) : JE X B ρ (.Call (.Name "sorted" p) [e] [] pos) (.m (NI (sortN ns))) := by
  rw [ni_ints (sortN ns)]
  rw [ni_ints] at ha
  exact je_sorted T ha (by rw [List.length_map]; exact hl) (fun ms' h1 h2 => sortN_only h1 h2) hg he
theorem je_sortedTN {ns : List Nat} (T : Bt X.mg) (ha : JE X B ρ e (.d (tNI ns))) (hl : ns.length < 64) (hg : Gl X "sorted" := by rfl) (he : starEach [e] X.env = [(false, eval e X.env)] := by rfl) : JE X B ρ (.Call (.Name "sorted" p) [e] [] pos) (.m (NI (sortN ns))) :=
  je_cb cr_sortTup T.sorted boot_sorted (ja_cons ha ja_nil rfl he) hg (fun H H1 vs Q s t k => by
    obtain ⟨v, rfl, tv⟩ := t.one
    obtain ⟨a, ws, rfl, hq, t⟩ := TD.inj_tup tv
    rw [ni_ints] at t
    have e := t.ints
    subst e
    refine ⟨a, _, rfl, hq, by rw [List.length_map]; exact hl, fun ms' q hp hs hn => ?_⟩
    rw [sortN_only hp hs, ni_ints] at *
    exact k _ _ (same_new hn) ⟨q, _, rfl, s.free hn, upd_same, tds_ints⟩) (he := he)

/-! ### len(set(t)) of a tuple of different ints -/
theorem nodup_same_len {α : Type} [DecidableEq α] : ∀ {l m : List α}, l.Nodup → (∀ x ∈ l, x ∈ m) → l.length ≤ m.length
  | [], _, _, _ => Nat.zero_le _
  | x :: l, m, h, hs => by
    obtain ⟨h1, h2⟩ := List.nodup_cons.mp h
    have ih := nodup_same_len (l := l) (m := m.erase x) h2 fun y hy => (List.mem_erase_of_ne (fun e => h1 (by rw [← e]; exact hy))).mpr (hs y (List.mem_cons_of_mem _ hy))
    have hx : x ∈ m := hs x List.mem_cons_self
    rw [List.length_erase_of_mem hx] at ih
    have hpos : 0 < m.length := List.length_pos_of_mem hx
    rw [List.length_cons]
    omega
def tLenSetT (K : PySem.W.Frag) (ta : TE) : TE := fun σ H Q => ta σ H fun x H1 => ∃ (l : Addr) (ns : List Int), x = .ref l ∧ SqT K H1 l (ns.map V.int) ∧ ns.Nodup ∧ ns.length ≤ 1000 ∧ Q (.int (ns.length : Nat)) H1
theorem pe_lenSetT {a : Expr} {ta : TE} (hg : Gl X "len") (hm : X.mg "len" = none) (hg2 : Gl X "set") (hm2 : X.mg "set" = none) (ha : PE X a ta) (hc : X.calm = true) (na : starEach [a] X.env = (false, eval a X.env) :: starEach [] X.env) : PE X (.Call (.Name "len" p) [.Call (.Name "set" p2) [a] [] q] [] pos) (tLenSetT X.K ta) := by
  refine ⟨fun pins s σ H Q I h => Call_ (ld_blt I hg hm boot_len (PyProof.Rows.callWith_builtin1 (PyProof.Rows.args_cons (Call_ (ld_blt I hg2 hm2 boot_set ?_)) rfl) rfl rfl))⟩
  refine PyProof.Rows.callWith_type1 (PyProof.Rows.args_cons (thn (ha.run pins s σ H _ I h) fun v s1 ⟨x, H1, I1, r1, q1⟩ => PyProof.Rows.args_nil ?_) na) na rfl
  obtain ⟨l, ns, rfl, hq, hnd, hl, q1⟩ := q1
  cases r1
  obtain ⟨its, r, pl, hz⟩ := I1.tuple hq
  refine L2.call_set_tupI ns (I1.ok.hd hc) (show s1.heap.IsTuple l its.toArray from pl) (by simpa using RZ.intsAre_vals r) (by unfold scanBound; omega) fun h' tk c hS hcl hk => PyProof.Rows.args_nil ?_
  obtain ⟨o, es, ep, t, ho, hex, hd, _, hnk, hS2, _, hf, hn, _, _⟩ := hS
  have I2 : Inv X pins σ H1 { s1 with heap := h', toks := tk } := I1.kept fun b o e => hk b o e
  have e1 : ns.length ≤ (es.toList.map keyOf).length := nodup_same_len hnd fun x hx => (hS2 x).mp (decide_eq_true hx)
  rw [List.length_map] at e1
  have e0 : es.toList.length = es.size := Array.length_toList
  have e2 : c = ns.length := by omega
  subst e2
  exact call_len_set ho hex hd hf (by rw [hn] <;> omega) ⟨.int ns.length, H1, I2.tok _, ⟨_, by rw [hn]⟩, q1⟩
theorem je_lenSet {a : Expr} {ns : List Nat} (T : Bt X.mg) (ha : JE X B ρ a (.d (tNI ns))) (hnd : ns.Nodup) (hl : ns.length ≤ 1000) (hc : X.calm = true := by rfl) (hg : Gl X "len" := by rfl) (hg2 : Gl X "set" := by rfl) (na : starEach [a] X.env = (false, eval a X.env) :: starEach [] X.env := by rfl) :
    JE X B ρ (.Call (.Name "len" p) [.Call (.Name "set" p2) [a] [] q] [] pos) (.d (nI ns.length)) := fun σ H Q R k => ⟨_, pe_lenSetT hg T.len hg2 T.set pe_we hc na, ha σ H _ R fun v H1 s t => by
  obtain ⟨l, ws, rfl, hq, t⟩ := TD.inj_tup t
  rw [ni_ints] at t
  have e := t.ints
  subst e
  refine ⟨l, _, rfl, hq, ?_, by rw [List.length_map]; exact hl, by rw [List.length_map]; exact k _ H1 s (.int _)⟩
  exact List.Pairwise.map _ (fun x y hne z => hne (by omega)) hnd⟩
end
end KL

namespace KL
open PySem PySem.Spec PyProof.Rows L2

section
variable {X : Cx} {B : Hp} {ρ : List SV} {a b c e : Expr} {es : List Expr} {pos p apos : Pos} {ra rb r : SV} {st : Stmt} {rest body orelse : List Stmt} {D : Ends}
/-- a, b = .. by a tuple that is made -/
theorem gs_asg2 {x y : Str} {px py pt : Pos} {kt k2 pt2} (i j : Nat) (nd : X.N.Nodup) (h1 : JE X B ρ a ra) (h2 : JE X B ρ b rb) (k : GS X B ((ρ.set i ra).set j rb) rest D) (l1 : ra.ali = false := by rfl) (l2 : rb.ali = false := by rfl) (hc : X.calm = true := by rfl)
    (hi : X.N[i]? = some x := by rfl) (hj : X.N[j]? = some y := by rfl) (hx : Loc X.env.scope x := by first | exact Or.inl rfl | exact Or.inr rfl) (hy : Loc X.env.scope y := by first | exact Or.inl rfl | exact Or.inr rfl)
    (fx : X.fn x = true ∨ X.env.scope.names.lookup x = some .local := by first | exact .inl rfl | exact .inr rfl) (fy : X.fn y = true ∨ X.env.scope.names.lookup y = some .local := by first | exact .inl rfl | exact .inr rfl)
    (hsa : starEach [a, b] X.env = (false, eval a X.env) :: starEach [b] X.env := by rfl) (hsb : starEach [b] X.env = (false, eval b X.env) :: starEach [] X.env := by rfl)
    (hs : swapsWithSole [.Tuple [.Name x px, .Name y py] kt pt] (.Tuple [a, b] k2 pt2) pos.line X.env = pure false := by rfl) (hw : swappedStores [.Tuple [.Name x px, .Name y py] kt pt] (.Tuple [a, b] k2 pt2) X.env = pure none := by rfl)
    : GS X B ρ (.Assign [.Tuple [.Name x px, .Name y py] kt pt] (.Tuple [a, b] k2 pt2) pos :: rest) D :=
  gs_cons fun σ H R => ⟨_, ps_asg (pe_tup (pa_cons pe_we (pa_cons pe_we pa_nil hsb) hsa)) (pg_tup hc (pgs_cons (pg_name nd hi hx fx) (pgs_cons (pg_name nd hj hy fy) pgs_nil))) hs hw,
    h1 σ H _ R fun v H1 s1 t1 => h2 σ H1 _ (R.mono s1) fun u H2 s2 t2 => ⟨by show 2 ≤ sizeLine; decide, fun t ht => ⟨t, _, rfl, SqT.of upd_same, rfl, _, _, rfl, _, _, rfl, rfl, k _ _ (((R.set s1 t1 l1).set s2 t2 l2).mono (same_new ht))⟩⟩⟩
end
theorem valQ_map {F : Nat → PyData} : ∀ {l : List Nat} {x : Nat}, x ∈ l → valQ ((l.map fun n : Nat => ((n : Int), F n)).map keyD) (.inl (x : Int)) = some (F x)
  | y :: l, x, h => by
    by_cases e : y = x
    · subst e
      simp [valQ, keyD, List.find?_cons]
    · have hl : x ∈ l := by
        rcases List.mem_cons.mp h with z | z
        · exact absurd z.symm e
        · exact z
      have ih := valQ_map (F := F) hl
      have ne : ¬ ((Sum.inl (y : Int) : Key) = Sum.inl (x : Int)) := fun z => e (by have := Sum.inl.inj z; omega)
      rw [List.map_cons, List.map_cons]
      unfold valQ at ih ⊢
      rw [List.find?_cons]
      have d : decide ((keyD ((y : Int), F y)).1 = (Sum.inl (x : Int) : Key)) = false := decide_eq_false ne
      rw [d]
      exact ih
theorem cast_nodup {l : List Nat} (h : l.Nodup) : (l.map fun n : Nat => (n : Int)).Nodup := List.Pairwise.map _ (fun x y hne z => hne (by omega)) h
theorem shut_nodup (h : House) (br : List Nat) : (shutM h br).Nodup := List.Nodup.sublist List.filter_sublist List.nodup_range
theorem shut_up (h : House) (br : List Nat) : (shutM h br).Pairwise (· < ·) := List.Pairwise.sublist List.filter_sublist List.pairwise_lt_range
/-- a box that is broken is open -/
theorem shut_self (h : House) (n : Nat) : n ∉ shutM h [n] := fun z => by
  have q := (List.mem_filter.mp z).2
  simp at q
theorem mem_openedBy {h : House} {n one : Nat} {s : List Nat} : one ∈ openedBy h n s ↔ one ∈ s ∧ one ∉ shutM h [n] := by
  unfold openedBy
  rw [List.mem_filter]
  simp
theorem mem_lotAt {h : House} {n one : Nat} {s : List Nat} : one ∈ lotAt h s n ↔ one ∈ s ∧ n ∈ openedBy h one s := by
  unfold lotAt
  rw [List.mem_filter]
  simp
theorem lot_self {h : House} {n : Nat} {s : List Nat} (hn : n ∈ s) : n ∈ lotAt h s n := mem_lotAt.mpr ⟨hn, mem_openedBy.mpr ⟨hn, shut_self h n⟩⟩
theorem lotStep_pos {h : House} {s : List Nat} {f : List (List Nat)} {n : Nat} (q : ((lotAt h s n).all fun one => decide (one ∈ openedBy h n s)) = true ∧ lotAt h s n ∉ f) : lotStep h s f n = f ++ [lotAt h s n] := if_pos q
theorem lotStep_neg {h : House} {s : List Nat} {f : List (List Nat)} {n : Nat} (q : ¬ (((lotAt h s n).all fun one => decide (one ∈ openedBy h n s)) = true ∧ lotAt h s n ∉ f)) : lotStep h s f n = f := if_neg q
theorem lotStep_or {h : House} {s : List Nat} {f : List (List Nat)} {n : Nat} : lotStep h s f n = f ∨ lotStep h s f n = f ++ [lotAt h s n] := by
  unfold lotStep
  split
  · exact .inr rfl
  · exact .inl rfl
theorem fold_lots {h : House} {s : List Nat} : ∀ {l : List Nat} {f : List (List Nat)} {x : List Nat}, x ∈ l.foldl (lotStep h s) f → x ∈ f ∨ ∃ n ∈ l, x = lotAt h s n
  | [], _, _, hx => .inl hx
  | n :: l, f, x, hx => by
    rcases fold_lots (l := l) (f := lotStep h s f n) hx with z | ⟨m, hm, e⟩
    · rcases lotStep_or (h := h) (s := s) (f := f) (n := n) with q | q
      · rw [q] at z; exact .inl z
      · rw [q] at z
        rcases List.mem_append.mp z with z | z
        · exact .inl z
        · exact .inr ⟨n, List.mem_cons_self, List.mem_singleton.mp z⟩
    · exact .inr ⟨m, List.mem_cons_of_mem _ hm, e⟩
theorem leastM_mem {h : House} {x : List Nat} (hx : x ∈ leastM h) : ∃ n ∈ shutM h [], x = lotAt h (shutM h []) n := by
  rcases fold_lots hx with z | z
  · cases z
  · exact z
theorem leastM_ne {h : House} {x : List Nat} (hx : x ∈ leastM h) : x ≠ [] := by
  obtain ⟨n, hn, rfl⟩ := leastM_mem hx
  intro z
  have q := lot_self (h := h) hn
  rw [z] at q
  cases q
theorem at0 {x : List Nat} (h : x ≠ []) : atI (NI x) 0 = some (nI (x.headD 0)) := by
  cases x with
  | nil => exact absurd rfl h
  | cons y l => exact atI_nat' (j := 0) rfl
end KL

namespace KL
open PySem PySem.Spec PyProof.Rows L2

section
variable {X : Cx} {B : Hp} {ρ : List SV} {a b c e : Expr} {es : List Expr} {pos p apos : Pos} {ra rb r : SV} {st : Stmt} {rest body orelse : List Stmt} {D : Ends}
theorem ixN_nat {n i : Nat} (h : i < n) : ixN n (i : Int) = some i := by
  unfold ixN
  rw [if_pos (by omega), if_pos (by omega)]
  rfl
/-- x[i], x[j] = x[j], x[i] of an own list -/
theorem gs_swap {n : Str} {np1 np2 np3 np4 p1 p2 p3 p4 pt : Pos} {kt k2 pt2} {xs : List PyData} {i j : Nat} {di dj : PyData} {a2 b2 : Expr} (k : Nat) (h1 : JE X B ρ a (.d (nI i))) (h2 : JE X B ρ b2 (.d (nI j))) (h1' : JE X B ρ a2 (.d (nI i))) (h3 : JE X B (ρ.set k (.m (xs.set i dj))) b (.d (nI j)))
    (hi : xs[i]? = some di) (hj : xs[j]? = some dj) (kk : GS X B (ρ.set k (.m ((xs.set i dj).set j di))) rest D) (hk : ρ[k]? = some (.m xs) := by rfl) (hN : X.N[k]? = some n := by rfl) (hv : Vis X.env.scope n := by first | exact Or.inl rfl | exact Or.inr (Or.inl rfl) | exact Or.inr (Or.inr rfl))
    (hd : (n == ("__debug__" : Str)) = false := by decide) (hcd : (n == ("__classdict__" : Str)) = false := by decide) (hc : X.calm = true := by rfl) (ia : PlainIx a2 := by intro _ _; rfl) (ib : PlainIx b2 := by intro _ _; rfl)
    (hsa : starEach [.Subscript (.Name n np3) b2 p3, .Subscript (.Name n np4) a2 p4] X.env = (false, eval (.Subscript (.Name n np3) b2 p3) X.env) :: starEach [.Subscript (.Name n np4) a2 p4] X.env := by rfl) (hsb : starEach [.Subscript (.Name n np4) a2 p4] X.env = (false, eval (.Subscript (.Name n np4) a2 p4) X.env) :: starEach [] X.env := by rfl)
    (g1 : ∀ v, assign (.Subscript (.Name n np1) a p1) X.env v = (do let ov ← holding [v] (eval (.Name n np1) X.env); let iv ← holding [v, ov] (eval a X.env); standAt p1; holding [v, ov, iv] (setItem ov iv v); release [v, ov, iv] []) := by intro _; rfl)
    (g2 : ∀ v, assign (.Subscript (.Name n np2) b p2) X.env v = (do let ov ← holding [v] (eval (.Name n np2) X.env); let iv ← holding [v, ov] (eval b X.env); standAt p2; holding [v, ov, iv] (setItem ov iv v); release [v, ov, iv] []) := by intro _; rfl)
    (e1 : (assignEach [.Subscript (.Name n np1) a p1, .Subscript (.Name n np2) b p2] X.env).map (·.2) = assign (.Subscript (.Name n np1) a p1) X.env :: (assignEach [.Subscript (.Name n np2) b p2] X.env).map (·.2) := by rfl)
    (e2 : (assignEach [.Subscript (.Name n np2) b p2] X.env).map (·.2) = assign (.Subscript (.Name n np2) b p2) X.env :: (assignEach [] X.env).map (·.2) := by rfl)
    (hs : swapsWithSole [.Tuple [.Subscript (.Name n np1) a p1, .Subscript (.Name n np2) b p2] kt pt] (.Tuple [.Subscript (.Name n np3) b2 p3, .Subscript (.Name n np4) a2 p4] k2 pt2) pos.line X.env = pure false := by rfl)
    (hw : swappedStores [.Tuple [.Subscript (.Name n np1) a p1, .Subscript (.Name n np2) b p2] kt pt] (.Tuple [.Subscript (.Name n np3) b2 p3, .Subscript (.Name n np4) a2 p4] k2 pt2) X.env = pure none := by rfl) :
    GS X B ρ (.Assign [.Tuple [.Subscript (.Name n np1) a p1, .Subscript (.Name n np2) b p2] kt pt] (.Tuple [.Subscript (.Name n np3) b2 p3, .Subscript (.Name n np4) a2 p4] k2 pt2) pos :: rest) D :=
  gs_cons fun σ H R => ⟨_, ps_asg (pe_tup (pa_cons (pe_ix ix_list (pe_var hN hv hd hcd) pe_we ib) (pa_cons (pe_ix ix_list (pe_var hN hv hd hcd) pe_we ia) pa_nil hsb) hsa)) (pg_tup hc (pgs_cons (pg_sub (pe_var hN hv hd hcd) pe_we set_list g1) (pgs_cons (pg_sub (pe_var hN hv hd hcd) pe_we set_list g2) pgs_nil e2) e1) (by rfl) (by rfl)) hs hw, by
    obtain ⟨o, eo, l, vs, rfl, hH, t⟩ := R.at_ k _ hk
    have il : i < xs.length := (List.getElem?_eq_some_iff.mp hi).1
    have jl : j < xs.length := (List.getElem?_eq_some_iff.mp hj).1
    have tl := t.length
    obtain ⟨vi, hvi, tvi⟩ := t.get hi
    obtain ⟨vj, hvj, tvj⟩ := t.get hj
    refine ⟨_, eo, h2 σ H _ R fun y1 H1 s1 t1 => ⟨l, vs, (j : Int), vj, rfl, TD.inj_int t1, SqL.of (s1 _ _ hH), atI_nat hvj, ⟨_, eo, h1' σ H1 _ (R.mono s1) fun y2 H2 s2 t2 => ⟨l, vs, (i : Int), vi, rfl, TD.inj_int t2, SqL.of (s2 _ _ (s1 _ _ hH)), atI_nat hvi, ?_⟩⟩⟩⟩
    have s12 := s1.trans s2
    refine ⟨by show 2 ≤ sizeLine; decide, fun q hq => ⟨q, [vj, vi], rfl, SqT.of upd_same, rfl, vj, [vi], rfl, ?_⟩⟩
    have s3 := s12.trans (same_new (o := .tup [vj, vi]) hq)
    have R3 := R.mono s3
    refine ⟨_, eo, h1 σ _ _ R3 fun y3 H4 s4 t4 => ⟨l, vs, (i : Int), i, rfl, TD.inj_int t4, (s3.trans s4) _ _ hH, ixN_nat (by omega), ?_⟩⟩
    have s34 := s3.trans s4
    have tk34 := tk_same (K := X.K) s34
    have R4 := (R.mono s34).put hk eo (s34 _ _ hH) ((t.mono tk34).set (TD.mono tk34 tvj) i)
    refine ⟨vi, [], rfl, _, eo, h3 σ _ _ R4 fun y4 H5 s5 t5 => ⟨l, vs.set i vj, (j : Int), j, rfl, TD.inj_int t5, s5 _ _ upd_same, ixN_nat (by rw [List.length_set]; omega), ?_⟩⟩
    have hk4 : (ρ.set k (.m (xs.set i dj)))[k]? = some (.m (xs.set i dj)) := List.getElem?_set_self (List.getElem?_eq_some_iff.mp hk).1
    have tk5 : Tk X.K H H5 := (tk34.trans (tk_upd (s34 _ _ hH) trivial)).trans (tk_same s5)
    have R5 := (R4.mono s5).put hk4 eo (s5 _ _ upd_same) (((t.mono tk5).set (TD.mono tk5 tvj) i).set (TD.mono tk5 tvi) j)
    rw [List.set_set] at R5
    exact ⟨rfl, kk σ _ R5⟩⟩
end

/-! ### rounds of a laying -/
def seenQ (s : List Nat) : List (Key × PyData) := s.map fun n : Nat => ((Sum.inl (n : Int) : Key), PyData.bool true)
theorem seenQ_val {n : Nat} : ∀ s : List Nat, valQ (seenQ s) (.inl (n : Int)) = if n ∈ s then some (.bool true) else none
  | [] => rfl
  | m :: s => by
    have ih := seenQ_val (n := n) s
    unfold valQ seenQ at ih ⊢
    rw [List.map_cons, List.find?_cons]
    by_cases e : m = n
    · subst e
      simp
    · have ne : ¬ ((Sum.inl (m : Int) : Key) = Sum.inl (n : Int)) := fun z => e (by have := Sum.inl.inj z; omega)
      have d : decide ((Sum.inl (m : Int) : Key) = Sum.inl (n : Int)) = false := decide_eq_false ne
      rw [d]
      refine ih.trans ?_
      have e' : ¬ n = m := fun z => e z.symm
      simp only [List.mem_cons, e', false_or]
theorem seenQ_snoc (s : List Nat) (n : Nat) : seenQ s ++ [(.inl (n : Int), .bool true)] = seenQ (s ++ [n]) := by
  unfold seenQ
  rw [List.map_append]
  rfl
theorem seenQ_not {n : Nat} (s : List Nat) : (!(valQ (seenQ s) (.inl (n : Int))).isSome) = !decide (n ∈ s) := by
  rw [seenQ_val]
  by_cases h : n ∈ s
  · rw [if_pos h, decide_eq_true h]; rfl
  · rw [if_neg h, decide_eq_false h]; rfl
theorem getD_mem {l : List Nat} {i : Nat} (h : i < l.length) : l[i]? = some (l.getD i 0) := by
  rw [List.getD_eq_getElem?_getD, List.getElem?_eq_getElem h]
  rfl
theorem getD_lt {l : List Nat} (hl : ∀ n ∈ l, n < l.length) {i : Nat} (h : i < l.length) : l.getD i 0 < l.length := hl _ (List.mem_of_getElem? (getD_mem h))
/-- what an orbit adds is new and below -/
theorem orb_ok {l : List Nat} (hl : ∀ n ∈ l, n < l.length) : ∀ (f : Nat) (seen : List Nat) (here : Nat), here < l.length → seen.Nodup → (∀ x ∈ seen, x < l.length) → (seen ++ orb l f seen here).Nodup ∧ ∀ x ∈ seen ++ orb l f seen here, x < l.length
  | 0, seen, here, _, h1, h2 => by
    unfold orb
    rw [List.append_nil]
    exact ⟨h1, h2⟩
  | f + 1, seen, here, hh, h1, h2 => by
    unfold orb
    split
    · rw [List.append_nil]; exact ⟨h1, h2⟩
    · rename_i hn
      have nd : (seen ++ [here]).Nodup := List.nodup_append.mpr ⟨h1, by simp, fun a ha b hb e => hn (by rw [List.mem_singleton] at hb; rw [← hb, ← e]; exact ha)⟩
      have lt : ∀ x ∈ seen ++ [here], x < l.length := fun x hx => by
        rcases List.mem_append.mp hx with z | z
        · exact h2 x z
        · rw [List.mem_singleton.mp z]; exact hh
      have ih := orb_ok hl f (seen ++ [here]) (l.getD here 0) (getD_lt hl hh) nd lt
      have e : seen ++ here :: orb l f (seen ++ [here]) (l.getD here 0) = (seen ++ [here]) ++ orb l f (seen ++ [here]) (l.getD here 0) := by rw [List.append_assoc]; rfl
      rw [e]
      exact ih
def RowInv (l : List Nat) (st : List (List Nat) × List Nat) : Prop := st.2.Nodup ∧ ∀ x ∈ st.2, x < l.length
theorem rowStep_inv {l : List Nat} (hl : ∀ n ∈ l, n < l.length) {st : List (List Nat) × List Nat} {b : Nat} (hb : b < l.length) (h : RowInv l st) : RowInv l (rowStep l st b) ∧ (rowStep l st b).1.length ≤ st.1.length + 1 := by
  unfold rowStep
  split
  · exact ⟨h, Nat.le_succ _⟩
  · exact ⟨orb_ok hl _ _ _ hb h.1 h.2, by rw [List.length_append]; exact Nat.le_refl _⟩
theorem rows_inv {l : List Nat} (hl : ∀ n ∈ l, n < l.length) : ∀ (bs : List Nat) (st : List (List Nat) × List Nat), (∀ b ∈ bs, b < l.length) → RowInv l st → RowInv l (bs.foldl (rowStep l) st) ∧ (bs.foldl (rowStep l) st).1.length ≤ st.1.length + bs.length
  | [], st, _, h => ⟨h, Nat.le_refl _⟩
  | b :: bs, st, hb, h => by
    have q := rowStep_inv hl (hb b List.mem_cons_self) h
    have ih := rows_inv hl bs (rowStep l st b) (fun x hx => hb x (List.mem_cons_of_mem _ hx)) q.1
    refine ⟨ih.1, ?_⟩
    have q2 := ih.2
    rw [List.foldl_cons, List.length_cons]
    omega
theorem ndec_false {p : Prop} [Decidable p] (h : (!decide p) = false) : p := by
  cases q : decide p with
  | true => exact of_decide_eq_true q
  | false => rw [q] at h; cases h
theorem ndec_true {p : Prop} [Decidable p] (h : (!decide p) = true) : ¬ p := by
  cases q : decide p with
  | true => rw [q] at h; cases h
  | false => exact of_decide_eq_false q
theorem exM_len (l : List Nat) (i j : Nat) : (exM l i j).length = l.length := by
  unfold exM
  rw [List.length_set, List.length_set]
end KL

namespace KL
open PySem PySem.Spec PyProof.Rows L2

theorem Rs.bag {K : PySem.W.Frag} {B H H' : Hp} {ρ : List SV} {σ : L2.St} {i : Nat} {b l : Addr} (R : Rs K B ρ σ H) (hi : ρ[i]? = some (.g b l)) (k : ∀ a o, a ≠ b → H a = some o → H' a = some o) (h : BagAt H' b l) : Rs K B ρ σ H' ∧ Tk K H H' := by
  obtain ⟨o, eo, q⟩ := R.at_ i _ hi
  obtain ⟨rfl, q2⟩ := q
  have hb : ∃ u, H b = some u ∧ NoT u := by
    obtain ⟨_, c, ns, _, e, _⟩ := q2
    exact ⟨_, e, trivial⟩
  have tk : Tk K H H' := fun a xs t => by
    obtain ⟨u, hu, nu⟩ := hb
    rcases t with (t | ⟨o, t⟩) | t
    · exact .inl (.inl (k _ _ (fun z => by rw [z, hu] at t; cases t; exact nu) t))
    · exact .inl (.inr ⟨o, k _ _ (fun z => by rw [z, hu] at t; cases t; exact nu) t⟩)
    · exact .inr t
  refine ⟨⟨fun a o e => k _ _ (fun z => ?_) (R.ex _ _ e), R.len, fun j s hj => ?_, R.fr, R.apart, R.sec⟩, tk⟩
  · have q := R.fr i _ b hi rfl eo
    rw [z, q] at e
    cases e
  · by_cases hij : i = j
    · subst hij
      rw [hi] at hj
      cases hj
      exact ⟨_, eo, rfl, h⟩
    · obtain ⟨o, e, c⟩ := R.at_ j s hj
      refine ⟨o, e, ?_⟩
      have na : ∀ a', s.lk = true → o = some (.ref a') → a' ≠ b := fun a' k1 e1 z => by
        subst z
        subst e1
        exact R.apart i j _ s _ hij hi hj rfl k1 eo e
      cases s with
      | un => trivial
      | d x => obtain ⟨v, q1, q2⟩ := c; exact ⟨v, q1, q2.mono tk⟩
      | l ys => obtain ⟨c, ws, q1, q2, q3⟩ := c; exact ⟨c, ws, q1, k _ _ (na c rfl q1) q2, q3.mono tk⟩
      | m ys => obtain ⟨c, ws, q1, q2, q3⟩ := c; exact ⟨c, ws, q1, k _ _ (na c rfl q1) q2, q3.mono tk⟩
      | q ys => obtain ⟨c, ws, q1, q2, q3⟩ := c; exact ⟨c, ws, q1, k _ _ (na c rfl q1) q2, q3.mono tk⟩
      | g b' l' =>
        obtain ⟨q1, n, c, ns, h0, h1, h2, h3⟩ := c
        exact ⟨q1, n, c, ns, h0, k _ _ (na b' rfl q1) h1, k _ _ (fun z => R.sec i j _ _ b l' hi hj rfl rfl eo z.symm) h2, h3⟩

/-! ### expressions that draw from a bag: some value with the property -/
def JM (X : Cx) (B : Hp) (ρ : List SV) (e : Expr) (P : PyData → Prop) : Prop := ∀ (σ : L2.St) (H : Hp) (Q : VK), Rs X.K B ρ σ H → (∀ v H' d, Rs X.K B ρ σ H' → Tk X.K H H' → P d → TD X.K H' v d → Q v H') → WE X e σ H Q
def IntP (S : Int → Prop) : PyData → Prop := fun d => ∃ i, S i ∧ d = .int i
/-- what a def promises that draws from a bag -/
def spG (K : PySem.W.Frag) (pre : Nat → Prop) (Po : Nat → PyData → Prop) : Sp := fun vs H Q _ => ∃ (b l : Addr) (m : Nat), vs = [.ref b, .int (m : Nat)] ∧ pre m ∧ BagAt H b l ∧ ∀ v H' d, (∀ a o, a ≠ b → H a = some o → H' a = some o) → BagAt H' b l → Po m d → TD K H' v d → Q v H'
structure FnG (P : Program) (w : World) (K : PySem.W.Frag) (mg : Str → Option Value) (base : Heap) (n : Str) (k : Nat) (pre : Nat → Prop) (Po : Nat → PyData → Prop) : Prop where
  ex : ∃ (f : Addr) (fd : FuncData) (ps : List Str), FnOk P w K mg base CX0 k f fd ps (spG K pre Po) ∧ mg n = some (.ref f) ∧ PySem.W.keepIn K (.ref f) = true ∧ Binds K fd ps []
section
variable {X : Cx} {B : Hp} {ρ : List SV} {a b c e : Expr} {es : List Expr} {pos p apos : Pos} {ra rb r : SV} {st : Stmt} {rest body orelse : List Stmt} {D : Ends} {P P' : PyData → Prop} {S S' : Int → Prop}
theorem jm_pure {d : PyData} (h : JE X B ρ e (.d d)) : JM X B ρ e (fun x => x = d) := fun σ H Q R k => h σ H Q R fun v H' s t => k v H' d (R.mono s) (tk_same s) rfl t
theorem jm_imp (h : JM X B ρ e P) (i : ∀ d, P d → P' d) : JM X B ρ e P' := fun σ H Q R k => h σ H Q R fun v H' d R' tk p t => k v H' d R' tk (i d p) t
theorem jm_int {i : Int} (h : JE X B ρ e (.d (.int i))) : JM X B ρ e (IntP fun j => j = i) := jm_imp (jm_pure h) fun d z => ⟨i, rfl, z⟩
theorem jm_add (ha : JM X B ρ a (IntP S)) (hb : JM X B ρ b (IntP S')) : JM X B ρ (.BinOp a .Add b pos) (IntP fun k => ∃ i j, S i ∧ S' j ∧ k = i + j) := fun σ H Q R k =>
  ⟨_, pe_op op_add pe_we pe_we, ha σ H _ R fun v H1 d R1 tk1 p1 t1 => hb σ H1 _ R1 fun u H2 d2 R2 tk2 p2 t2 => by
    obtain ⟨i, si, rfl⟩ := p1
    obtain ⟨j, sj, rfl⟩ := p2
    exact ⟨i, j, t1.inj_int, t2.inj_int, k _ H2 _ R2 (tk1.trans tk2) ⟨_, ⟨i, j, si, sj, rfl⟩, rfl⟩ (.int _)⟩⟩
theorem jm_ixT {ds : List PyData} (ha : JE X B ρ a (.d (.tuple ds))) (hb : JM X B ρ b (IntP S)) (h : ∀ i, S i → ∃ d, atI ds i = some d ∧ P d) (hs : PlainIx b := by intro _ _; rfl) : JM X B ρ (.Subscript a b pos) P := fun σ H Q R k =>
  ⟨_, pe_ix ix_tup pe_we pe_we hs, ha σ H _ R fun v H1 s t => hb σ H1 _ (R.mono s) fun u H2 d R2 tk p t2 => by
    obtain ⟨i, si, rfl⟩ := p
    obtain ⟨d, hd, pd⟩ := h i si
    obtain ⟨q, vs, rfl, hq, ts⟩ := TD.inj_tup (TD.mono tk t)
    obtain ⟨x, e, tx⟩ := atI_td ts hd
    exact ⟨q, vs, i, x, rfl, t2.inj_int, hq, e, k x H2 d R2 ((tk_same s).trans tk) pd tx⟩⟩
theorem jm_tup2 {x : PyData} {x1} (ha : JE X B ρ a (.d x)) (hb : JM X B ρ b P) (hsa : starEach [a, b] X.env = (false, eval a X.env) :: starEach [b] X.env := by rfl) (hsb : starEach [b] X.env = (false, eval b X.env) :: starEach [] X.env := by rfl) : JM X B ρ (.Tuple [a, b] x1 pos) (fun d => ∃ y, P y ∧ d = .tuple [x, y]) := fun σ H Q R k =>
  ⟨_, pe_tup (pa_cons pe_we (pa_cons pe_we pa_nil hsb) hsa), ha σ H _ R fun v H1 s t => hb σ H1 _ (R.mono s) fun u H2 d R2 tk p t2 => ⟨by show 2 ≤ sizeLine; decide, fun q hq =>
    k _ _ _ (R2.mono (same_new hq)) (((tk_same s).trans tk).trans (tk_same (same_new hq))) ⟨d, p, rfl⟩ (.tup (SqT.of upd_same) (.cons ((TD.mono tk t).mono (tk_same (same_new hq))) (.cons (t2.mono (tk_same (same_new hq))) .nil)))⟩⟩
theorem jm_call {n bn : Str} {bp : Pos} {k m : Nat} {pre : Nat → Prop} {Po : Nat → PyData → Prop} {bb bl : Addr} (F : FnG X.prog X.w X.K X.mg X.base n k pre Po) (hr : Room k X.A) (i : Nat) (he : JE X B ρ e (.d (nI m))) (hp : pre m) (hi : ρ[i]? = some (.g bb bl) := by rfl) (hN : X.N[i]? = some bn := by rfl) (hv : Vis X.env.scope bn := by first | exact Or.inl rfl | exact Or.inr (Or.inl rfl) | exact Or.inr (Or.inr rfl))
    (hd : (bn == ("__debug__" : Str)) = false := by decide) (hcd : (bn == ("__classdict__" : Str)) = false := by decide) (hg : Gl X n := by rfl) (hdb : (n == ("__debug__" : Str)) = false := by decide)
    (hs1 : starEach [.Name bn bp, e] X.env = (false, eval (.Name bn bp) X.env) :: starEach [e] X.env := by rfl) (hs2 : starEach [e] X.env = (false, eval e X.env) :: starEach [] X.env := by rfl) (hpl : (backTo pos (starEach [e] X.env)).any (·.1) = false := by rfl) : JM X B ρ (.Call (.Name n p) [.Name bn bp, e] [] pos) (Po m) := fun σ H Q R q => by
  obtain ⟨f, fd, ps, F1, hm, hk, hb⟩ := F.ex
  obtain ⟨o, eo, rfl, hbag⟩ := R.at_ i _ hi
  refine ⟨_, pe_call F1 hr hg hm hk hb .nil pass0 (pa_cons (pe_var hN hv hd hcd) (pa_cons pe_we pa_nil hs2) hs1) hdb hs1 hpl, _, eo, he σ H _ R fun v H1 s t => ?_⟩
  show spG X.K pre Po ([V.ref bb, v] ++ []) H1 Q E0
  rw [List.append_nil, TD.inj_int t]
  refine ⟨bb, bl, m, rfl, hp, hbag.ex s, fun u H2 d k2 b2 po td => ?_⟩
  obtain ⟨R2, tk2⟩ := (R.mono s).bag hi k2 b2
  exact q u H2 d R2 ((tk_same s).trans tk2) po td
/-- x = e, e draws -/
theorem gs_setM {n : Str} {pos' : Pos} (i : Nat) (nd : X.N.Nodup) (he : JM X B ρ e P) (k : ∀ d, P d → GS X B (ρ.set i (.d d)) rest D) (hi : X.N[i]? = some n := by rfl) (hx : Loc X.env.scope n := by first | exact Or.inl rfl | exact Or.inr rfl)
    (hs : swapsWith e (some (.Name n pos')) pos.line X.env = pure false := by rfl) (hf : X.fn n = true ∨ X.env.scope.names.lookup n = some .local := by first | exact .inl rfl | exact .inr rfl) : GS X B ρ (.Assign [.Name n pos'] e pos :: rest) D :=
  gs_cons fun σ H R => ⟨_, ps_set nd hi hx pe_we hs hf, he σ H _ R fun v H1 d R1 _ p t => k d p _ H1 (R1.set (r := .d d) (Same.refl H1) t rfl)⟩
/-- x.insert(e, y) of an own list, e draws -/
theorem gs_insertM {xs : List PyData} {x : PyData} {n : Str} {npos epos : Pos} (i : Nat) (h1 : JM X B ρ a (IntP S)) (hS : ∀ j, S j → 0 ≤ j ∧ j < 2 ^ 63) (h2 : JE X B ρ b (.d x)) (hl : xs.length ≤ 1000) (k : ∀ j : Int, S j → GS X B (ρ.set i (.m (xs.take j.toNat ++ [x] ++ xs.drop j.toNat))) rest D) (hi : ρ[i]? = some (.m xs) := by rfl) (hN : X.N[i]? = some n := by rfl) (hv : Vis X.env.scope n := by first | exact Or.inl rfl | exact Or.inr (Or.inl rfl) | exact Or.inr (Or.inr rfl))
    (hd : (n == ("__debug__" : Str)) = false := by decide) (hcd : (n == ("__classdict__" : Str)) = false := by decide) (hst : starEach [a, b] X.env = (false, eval a X.env) :: starEach [b] X.env := by rfl) (hst2 : starEach [b] X.env = (false, eval b X.env) :: starEach [] X.env := by rfl)
    (hbase : attributeBase (.Name n npos) "insert" X.env (eval (.Name n npos) X.env) = eval (.Name n npos) X.env := by rfl)
    (hfew : ((backTo pos (starEach [a, b] X.env)).all (fun x => !x.1) && (backToKw pos (keywordEach [] X.env)).all (fun x => x.1.isSome) && decide ([a, b].length + ([] : List Keyword).length + (if ([] : List Keyword).isEmpty then 0 else 1) < 30)) = true := by rfl)
    (hline : (apos.endLine == pos.line) = true := by rfl) (hplain : (backTo pos (starEach [b] X.env)).any (·.1) = false := by rfl) (hs : swapsWith (.Call (.Attribute (.Name n npos) "insert" apos) [a, b] [] pos) none epos.line X.env = pure false := by rfl) :
    GS X B ρ (.Expr (.Call (.Attribute (.Name n npos) "insert" apos) [a, b] [] pos) epos :: rest) D :=
  gs_cons fun σ H R => ⟨_, ps_expr (pe_bm PySem.F.plainAttrs_list PySem.F.slot_list_insert PySem.F.type_list_insert mt_insert (pe_var hN hv hd hcd) (pa_cons pe_we (pa_cons pe_we pa_nil hst2) hst) hbase hfew hline hst hplain) hs, by
    obtain ⟨o, eo, l, vs, rfl, hH, t⟩ := R.at_ i _ hi
    refine ⟨_, eo, .inl ⟨rfl, _, SqL.of hH⟩, h1 σ H _ R fun u H1 d R1 tk p t1 => h2 σ H1 _ R1 fun v H2 s2 t2 => ?_⟩
    obtain ⟨j, sj, rfl⟩ := p
    obtain ⟨o1, eo1, l1, vs1, e1, hH1, tt⟩ := R1.at_ i _ hi
    rw [eo] at eo1
    cases eo1
    cases e1
    obtain ⟨j0, j1⟩ := hS j sj
    refine ⟨l, vs1, j, v, rfl, by rw [TD.inj_int t1], s2 _ _ hH1, ?_, j0, j1, ?_⟩
    · rw [tt.length]
      exact Nat.lt_of_le_of_lt hl (by decide : 1000 < sizeLine)
    · have tt2 := tt.mono (tk_same s2)
      exact k j sj σ _ ((R1.mono s2).put hi eo (s2 _ _ hH1) (((tt2.take _).append (.cons t2 .nil)).append (tt2.drop _)))⟩
end

/-! ### a def that draws from a bag keeps its promise -/
open Classical in
noncomputable def del (b : Addr) (H : Hp) : Hp := fun a => if a = b then none else H a
theorem del_same {b : Addr} {H : Hp} : Same (del b H) H := fun a o h => by
  unfold del at h
  split at h
  · cases h
  · exact h
theorem del_self {b : Addr} {H : Hp} : del b H b = none := by
  unfold del
  rw [if_pos rfl]
theorem del_other {a b : Addr} {H : Hp} {o : HO} (h : a ≠ b) (e : H a = some o) : del b H a = some o := by
  unfold del
  rw [if_neg h]
  exact e
def BagRet (K : PySem.W.Frag) (B : Hp) (b l : Addr) (Pd : PyData → Prop) (D : Ends) : Prop := ∀ v H' d, Same B H' → BagAt H' b l → Pd d → TD K H' v d → D.rt v H'
section
variable {P : Program} {w : World} {K : PySem.W.Frag} {mg : Str → Option Value} {base : Heap}
theorem rs_bag {K : PySem.W.Frag} {H : Hp} {b l : Addr} {m : Nat} {u : Nat} (h : BagAt H b l) : Rs K (del b H) (.g b l :: .d (nI m) :: List.replicate u .un) (some (.ref b) :: some (.int (m : Int)) :: List.replicate u none) H := by
  have get : ∀ (i : Nat) (s : SV), (.g b l :: .d (nI m) :: List.replicate u .un : List SV)[i]? = some s → (i = 0 ∧ s = .g b l) ∨ (i = 1 ∧ s = .d (nI m)) ∨ (s = .un ∧ ∃ o, (some (.ref b) :: some (.int (m : Int)) :: List.replicate u none : L2.St)[i]? = some o) := fun i s e => by
    cases i with
    | zero => exact .inl ⟨rfl, (Option.some.inj e).symm⟩
    | succ i =>
      cases i with
      | zero => exact .inr (.inl ⟨rfl, (Option.some.inj e).symm⟩)
      | succ i =>
        have e' : (List.replicate u SV.un)[i]? = some s := e
        rw [List.getElem?_replicate] at e'
        split at e'
        · rename_i hlt
          cases e'
          exact .inr (.inr ⟨rfl, none, by show (List.replicate u (none : Option V))[i]? = _; rw [List.getElem?_replicate, if_pos hlt]⟩)
        · cases e'
  refine ⟨del_same, by simp, fun i s e => ?_, fun i s a e k z => ?_, fun i j s s' a hij e e' k k' z => ?_, fun i j s s' a l' e e' k k' z => ?_⟩
  · rcases get i s e with ⟨rfl, rfl⟩ | ⟨rfl, rfl⟩ | ⟨rfl, o, eo⟩
    · exact ⟨_, rfl, rfl, h⟩
    · exact ⟨_, rfl, _, rfl, .int _⟩
    · exact ⟨o, eo, trivial⟩
  · rcases get i s e with ⟨rfl, rfl⟩ | ⟨rfl, rfl⟩ | ⟨rfl, o, eo⟩
    · have q : (some (some (.ref b)) : Option (Option V)) = some (some (.ref a)) := z
      cases q
      exact del_self
    · cases k
    · cases k
  · rcases get i s e with ⟨rfl, rfl⟩ | ⟨rfl, rfl⟩ | ⟨rfl, o, eo⟩
    · rcases get j s' e' with ⟨rfl, rfl⟩ | ⟨rfl, rfl⟩ | ⟨rfl, o, eo⟩
      · exact absurd rfl hij
      · cases k'
      · cases k'
    · cases k
    · cases k
  · rcases get i s e with ⟨rfl, rfl⟩ | ⟨rfl, rfl⟩ | ⟨rfl, o, eo⟩
    · have q : (some (some (.ref b)) : Option (Option V)) = some (some (.ref a)) := z
      cases q
      rcases get j s' e' with ⟨rfl, rfl⟩ | ⟨rfl, rfl⟩ | ⟨rfl, o, eo⟩
      · cases k'
        exact h.1
      · cases k'
      · cases k'
    · cases k
    · cases k
theorem fnG {n x1 x2 : Str} {st : Stmt} {N : List Str} {k u : Nat} {pre : Nat → Prop} {Po : Nat → PyData → Prop} (F : At K mg n st [x1, x2]) (S : FnScope N [x1, x2] (defScope st)) (hu : N.length = u + 2)
    (body : ∀ (X : Cx) (B : Hp) (b l : Addr) (m : Nat) (D : Ends), (∃ f cd A outer s H E, X = CxD P w K mg base N n st f cd A outer s H E) → Good X → Room k X.A → pre m → BagRet K B b l (Po m) D → GS X B (.g b l :: .d (nI m) :: List.replicate u .un) (defBody st) D) :
    FnG P w K mg base n (k + 1) pre Po := by
  obtain ⟨f, fd, F1, hm, hb⟩ := F.ex
  refine ⟨f, fd, [x1, x2], F1.ok S (fun vs H Q E h => ?_) (fun cdv A outer s H vs Q E hr h => ?_), hm, F1.kp, hb⟩
  · obtain ⟨b, l, m, rfl, _⟩ := h
    rfl
  · obtain ⟨b, l, m, rfl, hp, hbag, q⟩ := h
    have es : L2.start N [V.ref b, V.int (m : Int)] = some (.ref b) :: some (.int (m : Int)) :: List.replicate u none := by
      unfold L2.start
      rw [hu]
      rfl
    rw [es]
    exact body (CxD P w K mg base N n st f cdv A outer s H E) (del b H) b l m { nx := fun _ H' => Q .non H', rt := Q } ⟨f, cdv, A, outer, s, H, E, rfl⟩ ⟨PassesOwn.never, rfl, S.nd⟩ hr hp (fun v H' d s' b' pd td => q v H' d (fun a o ha e => s' _ _ (del_other ha e)) b' pd td) _ H (rs_bag hbag)
end
section
variable {X : Cx} {B : Hp} {ρ : List SV} {e : Expr} {pos : Pos} {rest : List Stmt} {D : Ends} {Pd P : PyData → Prop} {b l : Addr}
theorem gs_retB (he : JM X B ρ e P) (k : BagRet X.K B b l Pd D) (i : ∀ d, P d → Pd d) (hi : ρ[0]? = some (.g b l) := by rfl) : GS X B ρ (.Return (some e) pos :: rest) D :=
  gs_cons fun σ H R => ⟨_, ps_ret pe_we, he σ H _ R fun v H1 d R1 _ p t => by
    obtain ⟨o, _, _, hb⟩ := R1.at_ 0 _ hi
    exact k v H1 d R1.ex hb (i d p) t⟩
end
end KL

namespace KL
open PySem PySem.Spec PyProof.Rows L2

theorem tds_rg {K : PySem.W.Frag} {H : Hp} (a b : Int) : TDs K H (rgV a b) (rangeD a (b - a).toNat) := by
  unfold rgV rangeD
  generalize List.range (b - a).toNat = l
  induction l with
  | nil => exact .nil
  | cons x l ih => exact .cons (.int _) ih
theorem range2_map (a n : Nat) : rangeD (a : Int) n = NI (List.range' a n) := by
  unfold rangeD NI
  rw [List.range'_eq_map_range, List.map_map]
  exact List.map_congr_left fun k _ => congrArg PyData.int (by simp)
section
variable {X : Cx} {B : Hp} {ρ : List SV} {a b c e : Expr} {es : List Expr} {pos p p2 q apos : Pos} {ra rb r : SV} {st : Stmt} {rest body orelse : List Stmt} {D : Ends}
theorem je_tupRg1 {n : Nat} (T : Bt X.mg) (h : JE X B ρ a (.d (nI n))) (hn : n ≤ 1000) (hc : X.calm = true := by rfl) (hg : Gl X "tuple" := by rfl) (hg2 : Gl X "range" := by rfl) (na : starEach [a] X.env = (false, eval a X.env) :: starEach [] X.env := by rfl)
    (na2 : starEach [.Call (.Name "range" p2) [a] [] q] X.env = (false, eval (.Call (.Name "range" p2) [a] [] q) X.env) :: starEach [] X.env := by rfl) : JE X B ρ (.Call (.Name "tuple" p) [.Call (.Name "range" p2) [a] [] q] [] pos) (.d (tNI (List.range n))) := fun σ H Q R k =>
  ⟨_, pe_tupRg hc hg T.tuple (prg_1 hg2 T.range pe_we na) na2, h σ H _ R fun v H1 s t => ⟨(n : Int), TD.inj_int t, .of_le (Int.le_refl _) (by omega) (by decide) (by omega), fun q hq => k _ _ (s.trans (same_new hq)) (.tup (SqT.of upd_same) (by
    have z := tds_rg (K := X.K) (H := upd H1 q (.tup (rgV 0 n))) 0 (n : Int)
    rw [Int.sub_zero, Int.toNat_natCast, KL.range_map] at z
    exact z))⟩⟩
theorem je_tupRg2 {m n : Nat} (T : Bt X.mg) (h1 : JE X B ρ a (.d (nI m))) (h2 : JE X B ρ b (.d (nI n))) (hm : m ≤ 1000) (hn : n ≤ 1000) (hc : X.calm = true := by rfl) (hg : Gl X "tuple" := by rfl) (hg2 : Gl X "range" := by rfl) (na : starEach [a, b] X.env = (false, eval a X.env) :: starEach [b] X.env := by rfl)
    (nb : starEach [b] X.env = (false, eval b X.env) :: starEach [] X.env := by rfl) (hp : (backTo q (starEach [b] X.env)).any (·.1) = false := by rfl)
    (na2 : starEach [.Call (.Name "range" p2) [a, b] [] q] X.env = (false, eval (.Call (.Name "range" p2) [a, b] [] q) X.env) :: starEach [] X.env := by rfl) : JE X B ρ (.Call (.Name "tuple" p) [.Call (.Name "range" p2) [a, b] [] q] [] pos) (.d (tNI (List.range' m (n - m)))) := fun σ H Q R k =>
  ⟨_, pe_tupRg hc hg T.tuple (prg_2 hg2 T.range pe_we pe_we na nb hp) na2, h1 σ H _ R fun v H1 s1 t1 => h2 σ H1 _ (R.mono s1) fun u H2 s2 t2 => ⟨(m : Int), (n : Int), TD.inj_int t1, TD.inj_int t2, .of_le (by omega) (by omega) (by omega) (by omega), fun q hq => k _ _ ((s1.trans s2).trans (same_new hq)) (.tup (SqT.of upd_same) (by
    have z := tds_rg (K := X.K) (H := upd H2 q (.tup (rgV m n))) (m : Int) (n : Int)
    rw [show ((n : Int) - (m : Int)).toNat = n - m by omega, range2_map] at z
    exact z))⟩⟩
theorem je_listRg2 {m n : Nat} (T : Bt X.mg) (h1 : JE X B ρ a (.d (nI m))) (h2 : JE X B ρ b (.d (nI n))) (hm : m ≤ 1000) (hn : n ≤ 1000) (hc : X.calm = true := by rfl) (hg : Gl X "list" := by rfl) (hg2 : Gl X "range" := by rfl) (na : starEach [a, b] X.env = (false, eval a X.env) :: starEach [b] X.env := by rfl)
    (nb : starEach [b] X.env = (false, eval b X.env) :: starEach [] X.env := by rfl) (hp : (backTo q (starEach [b] X.env)).any (·.1) = false := by rfl)
    (na2 : starEach [.Call (.Name "range" p2) [a, b] [] q] X.env = (false, eval (.Call (.Name "range" p2) [a, b] [] q) X.env) :: starEach [] X.env := by rfl) : JE X B ρ (.Call (.Name "list" p) [.Call (.Name "range" p2) [a, b] [] q] [] pos) (.m (NI (List.range' m (n - m)))) := fun σ H Q R k =>
  ⟨_, pe_listRg hc hg T.list (prg_2 hg2 T.range pe_we pe_we na nb hp) na2, h1 σ H _ R fun v H1 s1 t1 => h2 σ H1 _ (R.mono s1) fun u H2 s2 t2 => ⟨(m : Int), (n : Int), TD.inj_int t1, TD.inj_int t2, .of_le (by omega) (by omega) (by omega) (by omega), fun q hq => k _ _ ((s1.trans s2).trans (same_new hq)) ⟨q, _, rfl, (s1.trans s2).free hq, upd_same, by
    have z := tds_rg (K := X.K) (H := upd H2 q (.lst (rgV m n))) (m : Int) (n : Int)
    rw [show ((n : Int) - (m : Int)).toNat = n - m by omega, range2_map] at z
    exact z⟩⟩⟩
/-- for, over states of which one is had -/
theorem gs_forZ {α ζ : Type} {tg iter : Expr} (xs : List α) (g : α → PyData) (hX : Good X) (hi : JI X B ρ tg iter (xs.map g)) (Z : Nat → ζ → Prop) (ρf : Nat → ζ → List SV) (z0 : ζ) (hz : Z 0 z0) (h0 : Wk ρ (ρf 0 z0))
    (hs : ∀ B', Same B B' → ∀ (i : Nat) (x : α) (z : ζ), xs[i]? = some x → Z i z → ∃ ρ1, JG X tg (g x) (ρf i z) ρ1 (fun _ => True) ∧ ∀ N : L2.St → Hp → Prop, (∀ z', Z (i + 1) z' → ∀ σ H, Rs X.K B' (ρf (i + 1) z') σ H → N σ H) → ∀ bk : L2.St → Hp → Prop, GS X B' ρ1 body { D with nx := N, ct := N, bk := bk })
    (hd : ∀ z, Z xs.length z → GS X B (ρf xs.length z) rest D) (hf : ∀ x, foldedSetIterable iter X.env x = pure x := by intro _; rfl) : GS X B ρ (.For tg iter body [] pos :: rest) D :=
  gs_cons fun σ H R => ⟨_, ps_for hX.pass hX.calm pi_wi pg_wg pss_ws hf, hi σ H _ R fun J H1 G s1 hG w => by
    have R1 := R.mono s1
    have sB : Same B (hid ρ σ H1) := R1.same_hid
    rw [List.length_map] at w
    refine for_it w (fun i σ' H' => ∃ z, Z i z ∧ Rs X.K (hid ρ σ H1) (ρf i z) σ' H') ⟨z0, hz, R1.hid.wk h0⟩ (fun i σ' H' _ R' => let ⟨_, _, R2⟩ := R'; hG H' R2.ex) (fun i v σ' H2 H3 hlt R' y => ?_) fun σ' H' R' => let ⟨z, hz, R2⟩ := R'; hd z hz σ' H' (R2.base sB)
    obtain ⟨z, hz, R'⟩ := R'
    obtain ⟨s3, d, hd, tv⟩ := y
    have hx : xs[i]? = some xs[i] := List.getElem?_eq_getElem hlt
    rw [List.getElem?_map, hx] at hd
    cases hd
    obtain ⟨ρ1, hg, hb⟩ := hs _ sB i xs[i] z hx hz
    exact hg _ σ' H3 v _ (R'.mono s3) tv fun σ2 R2 _ _ => hb _ (fun z' hz' _ _ r => ⟨z', hz', r⟩) _ σ2 H3 R2⟩
end
/-! names of boxes -/
def lettersS : Str := "abcdefghijklmnopqrstuvwxyz"
def sgn (n : Nat) : Str := ⟨#[97 + n]⟩
def nmS (n : Nat) : Str := (("l" : Str) ++ sgn (n / 26)) ++ sgn (n % 26)
theorem letters_all : ((List.range 30).all fun n => decide (atI lettersS.cps.toList ((n : Int) / 26) = some (97 + n / 26)) && decide (atI lettersS.cps.toList ((n : Int) % 26) = some (97 + n % 26))) = true := by decide +kernel
theorem letters_at {n : Nat} (h : n < 30) : atI lettersS.cps.toList ((n : Int) / 26) = some (97 + n / 26) ∧ atI lettersS.cps.toList ((n : Int) % 26) = some (97 + n % 26) := by
  have q := List.all_eq_true.mp letters_all n (List.mem_range.mpr h)
  rw [Bool.and_eq_true, decide_eq_true_eq, decide_eq_true_eq] at q
  exact q
def hOf (l : List Nat) : House := (l.zipIdx.map fun q => ([nmS q.2], [nmS q.1]), [])
end KL

namespace KL
open PySem PySem.Spec PyProof.Rows L2
section
variable {X : Cx} {B : Hp} {ρ : List SV} {a b c e tg iter elt : Expr} {es : List Expr} {pos p lp : Pos} {ra rb r : SV} {st : Stmt} {rest body orelse : List Stmt} {D : Ends}
/-- tuple([f x for x in e]), e draws a tuple -/
theorem jm_tupLc {α : Type} {g f : α → PyData} {Ok : List α → Prop} {own : List (Str × Nat)} {ρ1 : α → List SV} {scope : Scope} (T : Bt X.mg) (nd : X.N.Nodup) (h : JM X B ρ iter (fun d => ∃ xs, Ok xs ∧ xs.length ≤ 1000 ∧ d = .tuple (xs.map g))) (ok : BlkOk X.N X.env.scope scope own)
    (hg : ∀ (s : Shared) (H : Hp) (C : Addr) (cl : List (Str × Addr)) (fp : List Addr) (x : α), JG (X.blk s H scope (compEnvC scope cl C X.env) fp) tg (g x) (wipeR ρ (own.map (·.2))) (ρ1 x) (fun i => i ∈ own.map (·.2)))
    (he : ∀ (s : Shared) (H : Hp) (C : Addr) (cl : List (Str × Addr)) (fp : List Addr) (x : α), JE (X.blk s H scope (compEnvC scope cl C X.env) fp) B (ρ1 x) elt (.d (f x)))
    (hc : X.calm = true := by rfl) (hs : ∀ x, foldedSetIterable iter X.env x = pure x := by intro _; rfl) (hgl : Gl X "tuple" := by rfl)
    (hst : starEach [.ListComp elt [⟨tg, iter, [], 0⟩] scope lp] X.env = [(false, eval (.ListComp elt [⟨tg, iter, [], 0⟩] scope lp) X.env)] := by rfl) :
    JM X B ρ (.Call (.Name "tuple" p) [.ListComp elt [⟨tg, iter, [], 0⟩] scope lp] [] pos) (fun d => ∃ xs, Ok xs ∧ d = .tuple (xs.map f)) := fun σ H Q R k =>
  ⟨_, pe_callTy call_tuple_of hgl T.tuple boot_tuple (pa_cons (pe_lc hc nd (pi_tup pe_we) ok (fun _ _ _ _ _ => pg_all) (fun _ _ _ _ _ => pts_all) (fun _ _ _ _ _ => pe_all) hs) pa_nil hst) (by decide) (by decide) hst, by
    refine h σ H _ R fun v H1 d R1 tk1 p1 t1 => ?_
    obtain ⟨xs, okx, hl, rfl⟩ := p1
    obtain ⟨q, vs, rfl, hq, ts⟩ := TD.inj_tup t1
    have w : Walk (Itt X.K q) xs.length (fun H => SqT X.K H q vs ∧ TDs X.K H vs (xs.map g)) (YD X.K (xs.map g)) := by
      have z := walkT (K := X.K) (a := q) ts.length
      rw [List.length_map] at z
      exact z
    refine ⟨q, rfl, ⟨vs, hq⟩, fun Dl hD => ?_⟩
    refine lc_in (Qd := fun x H1 => ∃ p ys, [x] = [V.ref p] ∧ ((SqL X.K H1 p ys ∧ ∀ (l : Addr), H1 l = none → Q (V.ref l) (upd H1 l (HO.tup ys))) ∨ SqT X.K H1 p ys ∧ Q (V.ref p) H1)) (pb := fun _ => true) (f := f) w (fun H2 s2 => ⟨tk_same s2 _ _ hq, ts.mono (tk_same s2)⟩) hl (fun s H C cl fp x _ => hg s H C cl fp x) (fun _ _ _ _ _ _ _ => jts_nil) (fun s H C cl fp x _ _ => he s H C cl fp x) R1 (fun u H2 s2 t2 => ?_) Dl hD
    obtain ⟨p2, ws, rfl, h0, hq2, t⟩ := t2
    rw [List.filter_eq_self.mpr (fun _ _ => rfl)] at t
    exact ⟨p2, ws, rfl, .inl ⟨SqL.of hq2, fun l hl => k _ _ _ ((R1.mono s2).mono (same_new hl)) ((tk1.trans (tk_same s2)).trans (tk_same (same_new hl))) ⟨xs, okx, rfl⟩ (.tup (SqT.of upd_same) (t.mono (tk_same (same_new hl))))⟩⟩⟩
end
end KL

namespace KM
open PySem PySem.Spec PyProof.Rows L2 KL

/-! ### permutations, step by step -/
def it (p : Nat → Nat) : Nat → Nat → Nat
  | 0, x => x
  | k + 1, x => p (it p k x)
structure Pm (n : Nat) (p : Nat → Nat) : Prop where
  lt : ∀ x, x < n → p x < n
  inj : ∀ x y, x < n → y < n → p x = p y → x = y
def Rc (p : Nat → Nat) (x y : Nat) : Prop := ∃ k, it p k x = y
section
variable {n : Nat} {p p' : Nat → Nat} {x y z i j : Nat}
theorem it_lt (h : Pm n p) (hx : x < n) : ∀ k, it p k x < n
  | 0 => hx
  | k + 1 => h.lt _ (it_lt h hx k)
theorem it_add (a : Nat) : ∀ b, it p (a + b) x = it p b (it p a x)
  | 0 => rfl
  | b + 1 => congrArg p (it_add a b)
theorem it_inj (h : Pm n p) (hx : x < n) (hy : y < n) : ∀ k, it p k x = it p k y → x = y
  | 0, e => e
  | k + 1, e => it_inj h hx hy k (h.inj _ _ (it_lt h hx k) (it_lt h hy k) e)
theorem Rc.refl : Rc p x x := ⟨0, rfl⟩
theorem Rc.trans (a : Rc p x y) (b : Rc p y z) : Rc p x z := by
  obtain ⟨k, rfl⟩ := a
  obtain ⟨m, rfl⟩ := b
  exact ⟨k + m, it_add k m⟩
theorem Rc.step : Rc p x (p x) := ⟨1, rfl⟩
theorem Rc.lt (h : Pm n p) (a : Rc p x y) (hx : x < n) : y < n := by
  obtain ⟨k, rfl⟩ := a
  exact it_lt h hx k
theorem period (h : Pm n p) (hx : x < n) : ∃ m, 1 ≤ m ∧ it p m x = x := by
  refine Classical.byContradiction fun no => ?_
  have inj : ∀ a b, a < b → it p a x ≠ it p b x := fun a b ab e => by
    refine no ⟨b - a, by omega, ?_⟩
    have q : it p (b - a + a) x = it p b x := by rw [Nat.sub_add_cancel (by omega)]
    rw [it_add, ← e] at q
    exact it_inj h (it_lt h hx _) hx a q
  have nd : ((List.range (n + 1)).map fun k => it p k x).Nodup := List.Pairwise.map _ (fun a b ab => inj a b ab) List.pairwise_lt_range
  have q := nodup_same_len nd (m := List.range n) (fun y hy => by
    obtain ⟨k, _, rfl⟩ := List.mem_map.mp hy
    exact List.mem_range.mpr (it_lt h hx k))
  rw [List.length_map, List.length_range, List.length_range] at q
  omega
theorem it_mul {m : Nat} (h : it p m x = x) : ∀ k, it p (m * k) x = x
  | 0 => rfl
  | k + 1 => by rw [Nat.mul_succ, it_add, it_mul h k, h]
theorem Rc.symm (h : Pm n p) (hx : x < n) (a : Rc p x y) : Rc p y x := by
  obtain ⟨k, rfl⟩ := a
  obtain ⟨m, m1, e⟩ := period h hx
  refine ⟨m * k - k, ?_⟩
  rw [← it_add, Nat.add_sub_cancel' (Nat.le_mul_of_pos_left k m1)]
  exact it_mul e k
/-- a least one -/
theorem least (P : Nat → Prop) : ∀ {k : Nat}, P k → ∃ m, P m ∧ (∀ j, j < m → ¬ P j) ∧ m ≤ k := by
  intro k
  induction k using Nat.strongRecOn with
  | _ k ih =>
    intro h
    by_cases q : ∃ j, j < k ∧ P j
    · obtain ⟨j, jk, pj⟩ := q
      obtain ⟨m, a, b, c⟩ := ih j jk pj
      exact ⟨m, a, b, by omega⟩
    · exact ⟨k, h, fun j hj pj => q ⟨j, hj, pj⟩, Nat.le_refl _⟩
/-- two places exchanged -/
structure Ex (n : Nat) (p p' : Nat → Nat) (i j : Nat) : Prop where
  hp : Pm n p
  hp' : Pm n p'
  ne : i ≠ j
  li : i < n
  lj : j < n
  ei : p' i = p j
  ej : p' j = p i
  eo : ∀ x, x ≠ i → x ≠ j → p' x = p x
theorem Ex.symm (h : Ex n p p' i j) : Ex n p' p i j := ⟨h.hp', h.hp, h.ne, h.li, h.lj, h.ej.symm, h.ei.symm, fun x a b => (h.eo x a b).symm⟩
theorem Ex.cut (h : Ex n p p' i j) (r : Rc p i j) : ¬ Rc p' i j := by
  obtain ⟨b, hb, lb, _⟩ := least (fun k => it p k j = i) (k := (r.symm h.hp h.li).choose) (r.symm h.hp h.li).choose_spec
  have b0 : b ≠ 0 := fun z => by
    subst z
    exact h.ne hb.symm
  have nj : ∀ t, 1 ≤ t → t ≤ b → it p t j ≠ j := fun t t1 tb e => by
    by_cases tb' : t = b
    · subst tb'
      exact h.ne (hb.symm.trans e)
    · refine lb (b - t) (by omega) ?_
      have q : it p (t + (b - t)) j = i := by rw [Nat.add_sub_cancel' tb]; exact hb
      rw [it_add, e] at q
      exact q
  have st : ∀ k, ∃ t, t ≤ b ∧ 1 ≤ t ∧ it p' k i = it p t j := fun k => by
    induction k with
    | zero => exact ⟨b, Nat.le_refl _, by omega, hb.symm⟩
    | succ k ih =>
      obtain ⟨t, tb, t1, e⟩ := ih
      by_cases z : t = b
      · subst z
        refine ⟨1, by omega, Nat.le_refl _, ?_⟩
        show p' (it p' k i) = p j
        rw [e, hb, h.ei]
      · refine ⟨t + 1, by omega, by omega, ?_⟩
        show p' (it p' k i) = p (it p t j)
        rw [e]
        exact h.eo _ (fun q => lb t (by omega) q) (nj t t1 tb)
  rintro ⟨k, e⟩
  obtain ⟨t, tb, t1, e2⟩ := st k
  exact nj t t1 tb (e2.symm.trans e)
theorem Ex.join (h : Ex n p p' i j) (r : ¬ Rc p i j) : Rc p' i j := by
  obtain ⟨m, ⟨hm1, hm⟩, lm, _⟩ := least (fun k => 1 ≤ k ∧ it p k j = j) (period h.hp h.lj).choose_spec
  have ni : ∀ t, it p t j ≠ i := fun t e => r (Rc.symm h.hp h.lj ⟨t, e⟩)
  have st : ∀ t, 1 ≤ t → t ≤ m → Rc p' i (it p t j) := fun t t1 => by
    induction t with
    | zero => omega
    | succ t ih =>
      intro tm
      by_cases z : t = 0
      · subst z
        have q : Rc p' i (p' i) := Rc.step
        rw [h.ei] at q
        exact q
      · have q := (ih (by omega) (by omega)).trans Rc.step
        rw [h.eo _ (ni t) (fun e => lm t (by omega) ⟨by omega, e⟩)] at q
        exact q
  have q := st m hm1 (Nat.le_refl _)
  rw [hm] at q
  exact q
/-- what is joined -/
theorem Ex.sub (h : Ex n p p' i j) (r : Rc p' i j) (hx : x < n) (a : Rc p x y) : Rc p' x y := by
  obtain ⟨k, rfl⟩ := a
  induction k with
  | zero => exact Rc.refl
  | succ k ih =>
    refine ih.trans ?_
    show Rc p' _ (p (it p k x))
    by_cases zi : it p k x = i
    · rw [zi, ← h.ej]
      exact r.trans Rc.step
    · by_cases zj : it p k x = j
      · rw [zj, ← h.ei]
        exact (r.symm h.hp' h.li).trans Rc.step
      · rw [← h.eo _ zi zj]
        exact Rc.step
theorem Ex.back (h : Ex n p p' i j) (hx : x < n) (a : Rc p' x y) : Rc p x y ∨ ((Rc p x i ∨ Rc p x j) ∧ (Rc p y i ∨ Rc p y j)) := by
  obtain ⟨k, rfl⟩ := a
  induction k with
  | zero => exact .inl Rc.refl
  | succ k ih =>
    have hk : it p' k x < n := it_lt h.hp' hx k
    have ji : Rc p (p j) j := Rc.symm h.hp h.lj Rc.step
    have ii : Rc p (p i) i := Rc.symm h.hp h.li Rc.step
    show Rc p x (p' (it p' k x)) ∨ (_ ∧ (Rc p (p' (it p' k x)) i ∨ Rc p (p' (it p' k x)) j))
    by_cases zi : it p' k x = i
    · rw [zi] at ih ⊢
      rw [h.ei]
      refine .inr ⟨?_, .inr ji⟩
      rcases ih with q | q
      · exact .inl q
      · exact q.1
    · by_cases zj : it p' k x = j
      · rw [zj] at ih ⊢
        rw [h.ej]
        refine .inr ⟨?_, .inl ii⟩
        rcases ih with q | q
        · exact .inr q
        · exact q.1
      · rw [h.eo _ zi zj]
        rcases ih with q | q
        · exact .inl (q.trans Rc.step)
        · refine .inr ⟨q.1, ?_⟩
          have s : Rc p (p (it p' k x)) (it p' k x) := Rc.symm h.hp hk Rc.step
          rcases q.2 with q | q
          · exact .inl (s.trans q)
          · exact .inr (s.trans q)
/-! ### the least of each round -/
open Classical in
noncomputable def isMin (p : Nat → Nat) (x : Nat) : Bool := decide (∀ y, y < x → ¬ Rc p y x)
open Classical in
theorem isMin_iff : isMin p x = true ↔ ∀ y, y < x → ¬ Rc p y x := by
  unfold isMin
  exact @decide_eq_true_iff _ _
theorem min_of (h : Pm n p) (hx : x < n) : ∃ m, m ≤ x ∧ isMin p m = true ∧ Rc p m x := by
  obtain ⟨m, a, b, c⟩ := least (fun y => Rc p y x) (k := x) Rc.refl
  exact ⟨m, c, isMin_iff.mpr fun y hy r => b y hy (r.trans a), a⟩
theorem count_one {q q' : Nat → Bool} {c : Nat} (hc : q c = true) (h : ∀ x, q' x = (q x && !decide (x = c))) : ∀ m, c < m → ((List.range m).filter q).length = ((List.range m).filter q').length + 1
  | 0, h0 => by omega
  | m + 1, h0 => by
    rw [range_filter_snoc, range_filter_snoc, List.length_append, List.length_append, h m]
    by_cases z : c = m
    · subst z
      have same : (List.range c).filter q = (List.range c).filter q' := List.filter_congr fun x hx => by
        have := List.mem_range.mp hx
        rw [h x, decide_eq_false (by omega : ¬ x = c), Bool.not_false, Bool.and_true]
      rw [same, if_pos hc, decide_eq_true rfl, Bool.not_true, Bool.and_false, if_neg Bool.false_ne_true]
      rfl
    · have ih := count_one hc h m (by omega)
      rw [ih, decide_eq_false (fun e => z e.symm), Bool.not_false, Bool.and_true]
      omega
noncomputable def cyc (p : Nat → Nat) (n : Nat) : Nat := ((List.range n).filter (isMin p)).length
theorem Ex.less (h : Ex n p p' i j) (r : ¬ Rc p i j) : cyc p n = cyc p' n + 1 := by
  have r' := h.join r
  obtain ⟨a, ai, am, ar⟩ := min_of h.hp h.li
  obtain ⟨b, bj, bm, br⟩ := min_of h.hp h.lj
  have la : a < n := Nat.lt_of_le_of_lt ai h.li
  have lb : b < n := Nat.lt_of_le_of_lt bj h.lj
  have nab : ¬ Rc p a b := fun q => r ((ar.symm h.hp la).trans (q.trans br))
  have nba : ¬ Rc p b a := fun q => nab (q.symm h.hp lb)
  have ab : a ≠ b := fun e => nab (e ▸ Rc.refl)
  have aj' : Rc p' a b := (h.sub r' la ar).trans (r'.trans ((h.sub r' lb br).symm h.hp' lb))
  have ba' : Rc p' b a := aj'.symm h.hp' la
  -- the least of a round that meets i or j
  have who : ∀ x, x < n → isMin p x = true → (Rc p x i ∨ Rc p x j) → x = a ∨ x = b := fun x hx hm q => by
    rw [isMin_iff] at hm
    rw [isMin_iff] at am bm
    rcases q with q | q
    · have s1 : Rc p a x := ar.trans (q.symm h.hp hx)
      have s2 : Rc p x a := s1.symm h.hp la
      rcases Nat.lt_trichotomy x a with z | z | z
      · exact absurd s2 (am _ z)
      · exact .inl z
      · exact absurd s1 (hm _ z)
    · have s1 : Rc p b x := br.trans (q.symm h.hp hx)
      have s2 : Rc p x b := s1.symm h.hp lb
      rcases Nat.lt_trichotomy x b with z | z | z
      · exact absurd s2 (bm _ z)
      · exact .inr z
      · exact absurd s1 (hm _ z)
  have key : ∀ x, x < n → isMin p' x = (isMin p x && !decide (x = max a b)) := fun x hx => by
    rw [Bool.eq_iff_iff, Bool.and_eq_true, isMin_iff, isMin_iff, Bool.not_eq_true', decide_eq_false_iff_not]
    refine ⟨fun q => ⟨fun y hy ry => q y hy (h.sub r' (Nat.lt_trans hy hx) ry), fun e => ?_⟩, fun q y hy ry => ?_⟩
    · subst e
      rcases Nat.lt_or_ge a b with z | z
      · rw [Nat.max_eq_right (Nat.le_of_lt z)] at q
        exact q a z aj'
      · rw [Nat.max_eq_left z] at q
        exact q b (by omega) ba'
    · have ly : y < n := Nat.lt_trans hy hx
      rcases h.back ly ry with s | ⟨s1, s2⟩
      · exact q.1 y hy s
      · obtain ⟨m, my, mm, mr⟩ := min_of h.hp ly
        have hm : m = a ∨ m = b := who m (by omega) mm (s1.imp (fun s => mr.trans s) fun s => mr.trans s)
        have hx' : x = a ∨ x = b := who x hx (isMin_iff.mpr q.1) s2
        have := q.2
        omega
  have e : (List.range n).filter (isMin p') = (List.range n).filter (fun x => isMin p x && !decide (x = max a b)) := List.filter_congr fun x hx => key x (List.mem_range.mp hx)
  unfold cyc
  rw [e]
  refine count_one (c := max a b) ?_ (fun _ => rfl) n (by omega)
  rcases Nat.lt_or_ge a b with z | z
  · rw [Nat.max_eq_right (Nat.le_of_lt z)]; exact bm
  · rw [Nat.max_eq_left z]; exact am
theorem Ex.one (h : Ex n p p' i j) : cyc p n = cyc p' n + 1 ∨ cyc p' n = cyc p n + 1 := by
  by_cases r : Rc p i j
  · exact .inr (h.symm.less (h.cut r))
  · exact .inl (h.less r)
end
end KM

namespace KM
open PySem PySem.Spec PyProof.Rows L2 KL

/-! ### what the rounds open -/
theorem mem_keysAfter {bs : List Box} {c : Str} : ∀ {s : List Nat} {ks : List Str}, c ∈ keysAfter bs ks s ↔ c ∈ ks ∨ ∃ n ∈ s, c ∈ (gdB bs n).2
  | [], ks => ⟨fun h => .inl h, fun h => h.elim id fun ⟨_, z, _⟩ => by cases z⟩
  | n :: s, ks => by
    show c ∈ keysAfter bs (ks ++ (gdB bs n).2) s ↔ _
    rw [mem_keysAfter (s := s), List.mem_append]
    constructor
    · rintro ((h | h) | ⟨m, h1, h2⟩)
      · exact .inl h
      · exact .inr ⟨n, List.mem_cons_self, h⟩
      · exact .inr ⟨m, List.mem_cons_of_mem _ h1, h2⟩
    · rintro (h | ⟨m, h1, h2⟩)
      · exact .inl (.inl h)
      · rcases List.mem_cons.mp h1 with z | z
        · subst z; exact .inl (.inr h2)
        · exact .inr ⟨m, z, h2⟩
theorem keysAfter_app (bs : List Box) (ks : List Str) (s t : List Nat) : keysAfter bs ks (s ++ t) = keysAfter bs (keysAfter bs ks s) t := by
  unfold keysAfter
  rw [List.foldl_append]
theorem go_end (bs : List Box) : ∀ (f : Nat) (ks : List Str) (op : List Nat), left bs op < f → openable bs (keysAfter bs ks (roundsGo bs f ks op).flatten) (op ++ (roundsGo bs f ks op).flatten) = []
  | 0, _, _, h => by omega
  | f + 1, ks, op, h => by
    by_cases z : openable bs ks op = []
    · rw [roundsGo_stop z, List.flatten_nil, List.append_nil]
      exact z
    · rw [roundsGo_go z, List.flatten_cons, keysAfter_app, ← List.append_assoc]
      refine go_end bs f _ _ ?_
      have st := left_step bs ks op
      have pos : 1 ≤ (openable bs ks op).length := by
        cases hq : openable bs ks op with
        | nil => exact absurd hq z
        | cons _ _ => exact Nat.succ_le_succ (Nat.zero_le _)
      omega
theorem go_sub {bs : List Box} (P : Nat → Prop) (KP : Str → Prop) (hk : ∀ n, n < bs.length → P n → ∀ c ∈ (gdB bs n).2, KP c) (ho : ∀ n, n < bs.length → (∀ c ∈ (gdB bs n).1, KP c) → P n) : ∀ (f : Nat) (ks : List Str) (op : List Nat), (∀ c ∈ ks, KP c) → ∀ x ∈ (roundsGo bs f ks op).flatten, P x
  | 0, _, _, _, x, hx => by cases hx
  | f + 1, ks, op, h, x, hx => by
    by_cases z : openable bs ks op = []
    · rw [roundsGo_stop z] at hx
      cases hx
    · rw [roundsGo_go z, List.flatten_cons] at hx
      have hop : ∀ y ∈ openable bs ks op, y < bs.length ∧ P y := fun y hy => by
        obtain ⟨l, c⟩ := mem_openable.mp hy
        refine ⟨l, ho y l fun c' hc => h c' ?_⟩
        unfold canOpen at c
        rw [Bool.and_eq_true, List.all_eq_true] at c
        exact of_decide_eq_true (c.2 c' hc)
      rcases List.mem_append.mp hx with q | q
      · exact (hop x q).2
      · refine go_sub P KP hk ho f _ _ (fun c hc => ?_) x q
        rcases mem_keysAfter.mp hc with q | ⟨m, hm, q⟩
        · exact h c q
        · exact hk m (hop m hm).1 (hop m hm).2 c q
theorem mem_notInM {n x : Nat} {op : List Nat} : x ∈ notInM n op ↔ x < n ∧ x ∉ op := by
  unfold notInM
  rw [List.mem_filter, List.mem_range, Bool.not_eq_true', decide_eq_false_iff_not]
/-! ### the house of a laying -/
theorem nm_all : ((List.range 30).all fun i => (List.range 30).all fun j => !decide (nmS i = nmS j) || decide (i = j)) = true := by decide +kernel
theorem nm_inj {i j : Nat} (hi : i < 30) (hj : j < 30) (e : nmS i = nmS j) : i = j := by
  have q := List.all_eq_true.mp (List.all_eq_true.mp nm_all i (List.mem_range.mpr hi)) j (List.mem_range.mpr hj)
  rw [decide_eq_true e] at q
  exact of_decide_eq_true (by simpa using q)
theorem nm_ok_all : ((List.range 30).all fun i => colOk (nmS i)) = true := by decide +kernel
theorem nm_ok {i : Nat} (hi : i < 30) : colOk (nmS i) = true := List.all_eq_true.mp nm_ok_all i (List.mem_range.mpr hi)
def pf (l : List Nat) (x : Nat) : Nat := l.getD x 0
section
variable {l : List Nat}
theorem hOf_len : (hOf l).1.length = l.length := by
  show (l.zipIdx.map _).length = _
  rw [List.length_map, List.length_zipIdx]
theorem hOf_get {n : Nat} (h : n < l.length) : (hOf l).1[n]? = some ([nmS n], [nmS (pf l n)]) := by
  show (l.zipIdx.map _)[n]? = _
  rw [List.getElem?_map, List.getElem?_zipIdx, getD_mem h, Nat.zero_add]
  rfl
theorem hOf_gd {n : Nat} (h : n < l.length) : gdB (hOf l).1 n = ([nmS n], [nmS (pf l n)]) := gdB_get (hOf_get h)
theorem pf_lt (hl : layOk l = true) {x : Nat} (h : x < l.length) : pf l x < l.length := getD_lt (layOk_iff.mp hl).2.2.1 h
theorem pm_of (hl : layOk l = true) : Pm l.length (pf l) := ⟨fun x h => pf_lt hl h, fun x y hx hy e => by
  have nd := (layOk_iff.mp hl).2.2.2
  have e1 : l[x]? = some (pf l x) := getD_mem hx
  have e2 : l[y]? = some (pf l y) := getD_mem hy
  rw [e, ← e2] at e1
  exact (List.getElem?_inj hx nd).mp e1⟩
theorem colsOk_one {i m : Nat} (hi : i < 30) (hm : 1 ≤ m) : colsOk [nmS i] m = true := colsOk_iff.mpr ⟨hm, fun z hz => by rw [List.mem_singleton.mp hz]; exact nm_ok hi, rfl⟩
theorem hOf_ok (hl : layOk l = true) : houseOk (hOf l) = true := by
  obtain ⟨l1, l30, llt, _⟩ := layOk_iff.mp hl
  refine houseOk_iff.mpr ⟨by rw [hOf_len]; exact l1, by rw [hOf_len]; exact l30, fun b hb => ?_, rfl⟩
  obtain ⟨n, hn⟩ := List.mem_iff_getElem?.mp hb
  have il : n < l.length := by
    have := (List.getElem?_eq_some_iff.mp hn).1
    rwa [hOf_len] at this
  rw [hOf_get il] at hn
  cases hn
  have := pf_lt hl il
  unfold boxOk
  rw [Bool.and_eq_true]
  exact ⟨colsOk_one (by omega) (by decide), colsOk_one (by omega) (by decide)⟩
theorem hOf_one : oneLock (hOf l) = true := by
  refine List.all_eq_true.mpr fun b hb => ?_
  obtain ⟨q, _, rfl⟩ := List.mem_map.mp hb
  rfl
theorem hOf_none : openable (hOf l).1 [] [] = [] := by
  refine List.filter_eq_nil_iff.mpr fun n hn => ?_
  rw [List.mem_range, hOf_len] at hn
  unfold canOpen
  rw [hOf_gd hn]
  simp
theorem hOf_rounds : roundsM (hOf l).1 (hOf l).2 [] = [] := roundsGo_stop hOf_none
theorem hOf_shut0 : shutM (hOf l) [] = List.range l.length := by
  have e : roundsM (hOf l).1 (keysAfter (hOf l).1 (hOf l).2 []) [] = [] := hOf_rounds
  unfold shutM
  rw [e, hOf_len]
  exact List.filter_eq_self.mpr fun _ _ => rfl
theorem hOf_shut (hl : layOk l = true) {b x : Nat} (hb : b < l.length) : x ∈ shutM (hOf l) [b] ↔ x < l.length ∧ ¬ Rc (pf l) b x := by
  obtain ⟨l1, l30, llt, _⟩ := layOk_iff.mp hl
  have pm := pm_of hl
  unfold shutM
  rw [mem_notInM, hOf_len]
  refine and_congr_right fun hx => not_congr ?_
  have ks : keysAfter (hOf l).1 (hOf l).2 [b] = [nmS (pf l b)] := by
    show [] ++ (gdB (hOf l).1 b).2 = _
    rw [hOf_gd hb]
    rfl
  rw [ks]
  have clo := go_end (hOf l).1 ((hOf l).1.length + 1) [nmS (pf l b)] [b] (Nat.lt_succ_of_le (left_le _ _))
  have sub := go_sub (bs := (hOf l).1) (fun n => Rc (pf l) b n) (fun c => ∃ y, y < l.length ∧ Rc (pf l) b y ∧ c = nmS y) (fun n hn r c hc => by
    rw [hOf_len] at hn
    rw [hOf_gd hn] at hc
    exact ⟨pf l n, pf_lt hl hn, r.trans Rc.step, List.mem_singleton.mp hc⟩) (fun n hn hc => by
    rw [hOf_len] at hn
    rw [hOf_gd hn] at hc
    obtain ⟨y, hy, r, e⟩ := hc _ (List.mem_singleton.mpr rfl)
    rw [nm_inj (by omega) (by omega) e]
    exact r) ((hOf l).1.length + 1) [nmS (pf l b)] [b] (fun c hc => ⟨pf l b, pf_lt hl hb, Rc.step, List.mem_singleton.mp hc⟩)
  unfold roundsM
  generalize (roundsGo (hOf l).1 ((hOf l).1.length + 1) [nmS (pf l b)] [b]).flatten = fl at clo sub ⊢
  have inn : ∀ y, y < l.length → y ∈ [b] ++ fl → pf l y ∈ [b] ++ fl := fun y hy my => by
    refine Classical.byContradiction fun no => ?_
    have hp := pf_lt hl hy
    have q : pf l y ∈ openable (hOf l).1 (keysAfter (hOf l).1 [nmS (pf l b)] fl) ([b] ++ fl) := by
      refine mem_openable.mpr ⟨by rw [hOf_len]; exact hp, ?_⟩
      unfold canOpen
      rw [hOf_gd hp, Bool.and_eq_true, Bool.not_eq_true', decide_eq_false_iff_not]
      refine ⟨no, ?_⟩
      rw [List.all_eq_true]
      intro c hc
      rw [List.mem_singleton.mp hc]
      refine decide_eq_true (mem_keysAfter.mpr ?_)
      rcases List.mem_append.mp my with z | z
      · rw [List.mem_singleton.mp z]
        exact .inl (List.mem_singleton.mpr rfl)
      · exact .inr ⟨y, z, by rw [hOf_gd hy]; exact List.mem_singleton.mpr rfl⟩
    rw [clo] at q
    cases q
  constructor
  · intro h
    rcases List.mem_append.mp h with z | z
    · rw [List.mem_singleton.mp z]; exact Rc.refl
    · exact sub x z
  · rintro ⟨k, rfl⟩
    have : ∀ k, it (pf l) k b ∈ [b] ++ fl := fun k => by
      induction k with
      | zero => exact List.mem_append_left _ (List.mem_singleton.mpr rfl)
      | succ k ih => exact inn _ (it_lt pm hb k) ih
    exact this k
end
end KM

namespace KM
open PySem PySem.Spec PyProof.Rows L2 KL

section
variable {l : List Nat}
open Classical in
noncomputable def cls (l : List Nat) (b : Nat) : List Nat := (List.range l.length).filter fun x => decide (Rc (pf l) b x)
open Classical in
theorem mem_cls {b x : Nat} : x ∈ cls l b ↔ x < l.length ∧ Rc (pf l) b x := by
  unfold cls
  rw [List.mem_filter, List.mem_range, decide_eq_true_iff]
theorem cls_up {b : Nat} : (cls l b).Pairwise (· < ·) := List.Pairwise.sublist List.filter_sublist List.pairwise_lt_range
theorem cls_nodup {b : Nat} : (cls l b).Nodup := List.Nodup.sublist List.filter_sublist List.nodup_range
noncomputable def mins (l : List Nat) : List Nat := (List.range l.length).filter (isMin (pf l))
/-- two cuts of a range that have the same members -/
theorem filter_ext {n : Nat} {p q : Nat → Bool} (h : ∀ x, x ∈ (List.range n).filter p ↔ x ∈ (List.range n).filter q) : (List.range n).filter p = (List.range n).filter q := List.filter_congr fun x hx => by
  have z := h x
  rw [List.mem_filter, List.mem_filter] at z
  rw [Bool.eq_iff_iff]
  exact ⟨fun a => (z.mp ⟨hx, a⟩).2, fun a => (z.mpr ⟨hx, a⟩).2⟩
theorem mem_opened (hl : layOk l = true) {b x : Nat} (hb : b < l.length) : x ∈ openedBy (hOf l) b (List.range l.length) ↔ x < l.length ∧ Rc (pf l) b x := by
  rw [mem_openedBy, List.mem_range, hOf_shut hl hb]
  constructor
  · rintro ⟨h1, h2⟩
    exact ⟨h1, Classical.byContradiction fun no => h2 ⟨h1, no⟩⟩
  · rintro ⟨h1, h2⟩
    exact ⟨h1, fun z => z.2 h2⟩
theorem lot_hOf (hl : layOk l = true) {k : Nat} (hk : k < l.length) : lotAt (hOf l) (List.range l.length) k = cls l k := by
  refine filter_ext fun x => ?_
  have e : x ∈ lotAt (hOf l) (List.range l.length) k ↔ x ∈ cls l k := by
    rw [mem_lotAt, List.mem_range, mem_cls]
    constructor
    · rintro ⟨h1, h2⟩
      exact ⟨h1, ((mem_opened hl h1).mp h2).2.symm (pm_of hl) h1⟩
    · rintro ⟨h1, h2⟩
      exact ⟨h1, (mem_opened hl h1).mpr ⟨hk, h2.symm (pm_of hl) hk⟩⟩
  exact e
theorem range_snoc (k : Nat) : List.range (k + 1) = List.range k ++ [k] := List.range_succ
theorem least_go (hl : layOk l = true) : ∀ k, k ≤ l.length → (List.range k).foldl (lotStep (hOf l) (List.range l.length)) [] = ((List.range k).filter (isMin (pf l))).map (cls l)
  | 0, _ => rfl
  | k + 1, hk => by
    have kl : k < l.length := hk
    rw [range_filter_snoc, range_snoc, List.foldl_append, least_go hl k (by omega)]
    show lotStep _ _ _ k = _
    have all : ((lotAt (hOf l) (List.range l.length) k).all fun one => decide (one ∈ openedBy (hOf l) k (List.range l.length))) = true := by
      rw [lot_hOf hl kl, List.all_eq_true]
      intro x hx
      exact decide_eq_true ((mem_opened hl kl).mpr (mem_cls.mp hx))
    cases hm : isMin (pf l) k with
    | true =>
      rw [if_pos rfl, lotStep_pos ⟨all, ?_⟩, lot_hOf hl kl, List.map_append]
      · rfl
      · rw [lot_hOf hl kl]
        intro z
        obtain ⟨b, hb, e⟩ := List.mem_map.mp z
        have bk := List.mem_range.mp (List.mem_filter.mp hb).1
        have q : k ∈ cls l b := by
          rw [e]
          exact mem_cls.mpr ⟨kl, Rc.refl⟩
        exact isMin_iff.mp hm b bk (mem_cls.mp q).2
    | false =>
      rw [if_neg Bool.false_ne_true, List.append_nil, lotStep_neg]
      rintro ⟨_, no⟩
      refine no ?_
      rw [lot_hOf hl kl]
      obtain ⟨m, mk, mm, mr⟩ := min_of (pm_of hl) kl
      have ml : m < l.length := Nat.lt_of_le_of_lt mk kl
      have ne : m ≠ k := fun e => by rw [e, hm] at mm; cases mm
      refine List.mem_map.mpr ⟨m, List.mem_filter.mpr ⟨List.mem_range.mpr (by omega), mm⟩, filter_ext fun x => ?_⟩
      have e : x ∈ cls l m ↔ x ∈ cls l k := by
        rw [mem_cls, mem_cls]
        exact and_congr_right fun _ => ⟨fun r => (mr.symm (pm_of hl) ml).trans r, fun r => mr.trans r⟩
      exact e
theorem least_hOf (hl : layOk l = true) : leastM (hOf l) = (mins l).map (cls l) := by
  unfold leastM
  rw [hOf_shut0]
  exact least_go hl _ (Nat.le_refl _)
theorem cls_head (hl : layOk l = true) {b : Nat} (hb : b ∈ mins l) : (cls l b).headD 0 = b := by
  obtain ⟨h1, h2⟩ := List.mem_filter.mp hb
  have bl := List.mem_range.mp h1
  have m : b ∈ cls l b := mem_cls.mpr ⟨bl, Rc.refl⟩
  have up := cls_up (l := l) (b := b)
  have ge : ∀ x ∈ cls l b, b ≤ x := fun x hx => by
    obtain ⟨_, r⟩ := mem_cls.mp hx
    exact Nat.le_of_not_lt fun lt => isMin_iff.mp h2 x lt (r.symm (pm_of hl) bl)
  cases hc : cls l b with
  | nil => rw [hc] at m; cases m
  | cons c t =>
    rw [hc] at m up ge
    show c = b
    have g := ge c List.mem_cons_self
    rcases List.mem_cons.mp m with z | z
    · exact z.symm
    · have := List.rel_of_pairwise_cons up z
      omega
theorem mins_up : (mins l).Pairwise (· < ·) := List.Pairwise.sublist List.filter_sublist List.pairwise_lt_range
theorem fewest_hOf (hl : layOk l = true) : sortN ((leastM (hOf l)).map fun x : List Nat => x.headD 0) = mins l := by
  rw [least_hOf hl, List.map_map]
  have e : (mins l).map ((fun x : List Nat => x.headD 0) ∘ cls l) = mins l := (List.map_congr_left fun b hb => cls_head hl hb).trans (List.map_id' _)
  rw [e]
  exact sortN_id mins_up
/-! ### the rows of a laying -/
theorem orb_go {b m : Nat} (hb : it (pf l) m b = b) (h1 : 1 ≤ m) (hm : ∀ k, 1 ≤ k → k < m → it (pf l) k b ≠ b) (pm : Pm l.length (pf l)) (bl : b < l.length) {seen : List Nat} (hs : ∀ k, it (pf l) k b ∉ seen) : ∀ (d k f : Nat), k + d = m → d < f →
    orb l f (seen ++ (List.range k).map fun a => it (pf l) a b) (it (pf l) k b) = (List.range' k d).map fun a => it (pf l) a b
  | d, k, 0, _, h => by omega
  | 0, k, f + 1, e, _ => by
    have e2 : k = m := by omega
    subst e2
    unfold orb
    rw [if_pos]
    · rfl
    · rw [hb]
      exact List.mem_append_right _ (List.mem_map.mpr ⟨0, List.mem_range.mpr h1, rfl⟩)
  | d + 1, k, f + 1, e, h => by
    unfold orb
    rw [if_neg]
    · have ih := orb_go hb h1 hm pm bl hs d (k + 1) f (by omega) (by omega)
      rw [range_snoc, List.map_append, ← List.append_assoc] at ih
      have ih' : orb l f (seen ++ ((List.range k).map fun a => it (pf l) a b) ++ [it (pf l) k b]) (l.getD (it (pf l) k b) 0) = (List.range' (k + 1) d).map fun a => it (pf l) a b := ih
      rw [ih']
      rfl
    · intro z
      rcases List.mem_append.mp z with z | z
      · exact hs k z
      · obtain ⟨a, ha, ea⟩ := List.mem_map.mp z
        have ak := List.mem_range.mp ha
        refine hm (k - a) (by omega) (by omega) ?_
        have q : it (pf l) (k - a + a) b = it (pf l) k b := by rw [Nat.sub_add_cancel (by omega)]
        rw [it_add, ← ea] at q
        have q2 : it (pf l) (k - a) (it (pf l) a b) = it (pf l) a (it (pf l) (k - a) b) := by
          rw [← it_add, ← it_add, Nat.add_comm]
        refine it_inj pm (it_lt pm bl _) bl a ?_
        exact q
theorem orb_row (hl : layOk l = true) {b : Nat} (bl : b < l.length) {seen : List Nat} (hs : ∀ x, Rc (pf l) b x → x ∉ seen) : ∃ t, orb l (l.length + 1) seen b = b :: t ∧ (b :: t).Nodup ∧ ∀ x, x ∈ b :: t ↔ Rc (pf l) b x := by
  have pm := pm_of hl
  obtain ⟨m, ⟨m1, hm⟩, lm, _⟩ := least (fun k => 1 ≤ k ∧ it (pf l) k b = b) (period pm bl).choose_spec
  have nd : ((List.range' 0 m).map fun a => it (pf l) a b).Nodup := by
    rw [← List.range_eq_range']
    have ne : ∀ a c, a < c → c < m → it (pf l) a b ≠ it (pf l) c b := fun a c ac cm e => by
      refine lm (c - a) (by omega) ⟨by omega, ?_⟩
      have q : it (pf l) (c - a + a) b = it (pf l) c b := by rw [Nat.sub_add_cancel (by omega)]
      rw [it_add, ← e] at q
      exact it_inj pm (it_lt pm bl _) bl a q
    refine List.pairwise_map.mpr (List.Pairwise.imp_of_mem (R := (· < ·)) (fun {a c} ha hc r => ?_) List.pairwise_lt_range)
    exact ne a c r (List.mem_range.mp hc)
  have ml : m ≤ l.length := by
    have q := nodup_same_len nd (m := List.range l.length) (fun y hy => by
      obtain ⟨k, _, rfl⟩ := List.mem_map.mp hy
      exact List.mem_range.mpr (it_lt pm bl k))
    rw [List.length_map, List.length_range', List.length_range] at q
    exact q
  have g := orb_go hm m1 (fun k k1 km e => lm k km ⟨k1, e⟩) pm bl (fun k => hs _ ⟨k, rfl⟩) m 0 (l.length + 1) (by omega) (by omega)
  have g' : orb l (l.length + 1) seen b = (List.range' 0 m).map fun a => it (pf l) a b := by
    have e : seen ++ (List.range 0).map (fun a => it (pf l) a b) = seen := List.append_nil _
    rw [e] at g
    exact g
  have mem : ∀ x, x ∈ (List.range' 0 m).map (fun a => it (pf l) a b) ↔ Rc (pf l) b x := fun x => by
    rw [← List.range_eq_range', List.mem_map]
    constructor
    · rintro ⟨k, _, rfl⟩
      exact ⟨k, rfl⟩
    · rintro ⟨k, rfl⟩
      refine ⟨k % m, List.mem_range.mpr (Nat.mod_lt _ m1), ?_⟩
      have q : it (pf l) (m * (k / m) + k % m) b = it (pf l) k b := by rw [Nat.div_add_mod]
      rw [it_add, it_mul hm] at q
      exact q
  obtain ⟨m', rfl⟩ : ∃ m', m = m' + 1 := ⟨m - 1, by omega⟩
  exact ⟨_, g', nd, mem⟩
structure RowsOk (l : List Nat) (k : Nat) (st : List (List Nat) × List Nat) : Prop where
  sorted : st.1.map sortN = ((List.range k).filter (isMin (pf l))).map (cls l)
  heads : st.1.map (fun x : List Nat => x.headD 0) = (List.range k).filter (isMin (pf l))
  seen : ∀ x, x ∈ st.2 ↔ ∃ b, b < k ∧ Rc (pf l) b x
  rows : ∀ r ∈ st.1, r ≠ [] ∧ r.Nodup ∧ ∃ b, b < l.length ∧ ∀ x, x ∈ r ↔ Rc (pf l) b x
theorem rows_go (hl : layOk l = true) : ∀ k, k ≤ l.length → RowsOk l k ((List.range k).foldl (rowStep l) ([], []))
  | 0, _ => ⟨rfl, rfl, fun x => ⟨fun h => (by cases h), fun ⟨b, h, _⟩ => by omega⟩, fun r h => by cases h⟩
  | k + 1, hk => by
    have kl : k < l.length := hk
    have ih := rows_go hl k (by omega)
    rw [range_snoc, List.foldl_append]
    generalize (List.range k).foldl (rowStep l) ([], []) = st at ih ⊢
    obtain ⟨i1, i2, i3, i4⟩ := ih
    show RowsOk l (k + 1) (rowStep l st k)
    by_cases z : k ∈ st.2
    · have e : orb l (l.length + 1) st.2 k = [] := by
        unfold orb
        rw [if_pos z]
      unfold rowStep
      rw [if_pos e]
      obtain ⟨b, bk, br⟩ := (i3 k).mp z
      have nm : ¬ isMin (pf l) k = true := fun q => isMin_iff.mp q b bk br
      refine ⟨?_, ?_, fun x => ?_, i4⟩
      · rw [range_filter_snoc, if_neg nm, List.append_nil]; exact i1
      · rw [range_filter_snoc, if_neg nm, List.append_nil]; exact i2
      · rw [i3]
        constructor
        · rintro ⟨c, ck, cr⟩
          exact ⟨c, by omega, cr⟩
        · rintro ⟨c, ck, cr⟩
          by_cases q : c = k
          · subst q
            exact ⟨b, bk, br.trans cr⟩
          · exact ⟨c, by omega, cr⟩
    · have mn : isMin (pf l) k = true := isMin_iff.mpr fun y yk r => z ((i3 k).mpr ⟨y, yk, r⟩)
      obtain ⟨t, e, nd, mem⟩ := orb_row hl kl (seen := st.2) (fun x r hx => by
        obtain ⟨b, bk, br⟩ := (i3 x).mp hx
        exact z ((i3 k).mpr ⟨b, bk, br.trans (r.symm (pm_of hl) kl)⟩))
      unfold rowStep
      rw [e, if_neg (by intro q; cases q)]
      refine ⟨?_, ?_, fun x => ?_, fun r hr => ?_⟩
      · rw [range_filter_snoc, if_pos mn, List.map_append, List.map_append]
        have so : sortN (k :: t) = cls l k := by
          refine List.Perm.eq_of_pairwise (le := fun a b : Nat => a ≤ b) (fun a b _ _ h1 h2 => Nat.le_antisymm h1 h2) (sortN_up _) (cls_up.imp Nat.le_of_lt) ((sortN_perm _).trans ?_)
          refine (List.perm_ext_iff_of_nodup nd cls_nodup).mpr fun x => ?_
          rw [mem, mem_cls]
          exact ⟨fun r => ⟨r.lt (pm_of hl) kl, r⟩, fun r => r.2⟩
        show st.1.map sortN ++ [sortN (k :: t)] = _
        rw [i1, so]
        rfl
      · rw [range_filter_snoc, if_pos mn, List.map_append]
        show _ ++ [k] = _
        rw [i2]
      · rw [List.mem_append, i3, mem]
        constructor
        · rintro (⟨c, ck, cr⟩ | r)
          · exact ⟨c, by omega, cr⟩
          · exact ⟨k, by omega, r⟩
        · rintro ⟨c, ck, cr⟩
          by_cases q : c = k
          · subst q
            exact .inr cr
          · exact .inl ⟨c, by omega, cr⟩
      · rcases List.mem_append.mp hr with q | q
        · exact i4 r q
        · rw [List.mem_singleton.mp q]
          exact ⟨List.cons_ne_nil _ _, nd, k, kl, mem⟩
theorem rows_ok (hl : layOk l = true) : RowsOk l l.length ((List.range l.length).foldl (rowStep l) ([], [])) := rows_go hl _ (Nat.le_refl _)
theorem rows_sorted (hl : layOk l = true) : (rowsM l).map sortN = leastM (hOf l) := (rows_ok hl).sorted.trans (least_hOf hl).symm
theorem rows_heads (hl : layOk l = true) : (rowsM l).map (fun x : List Nat => x.headD 0) = sortN ((leastM (hOf l)).map fun x : List Nat => x.headD 0) := (rows_ok hl).heads.trans (fewest_hOf hl).symm
theorem rows_ne (hl : layOk l = true) {r : List Nat} (h : r ∈ rowsM l) : r ≠ [] := ((rows_ok hl).rows r h).1
theorem rows_nodup (hl : layOk l = true) {r : List Nat} (h : r ∈ rowsM l) : r.Nodup := ((rows_ok hl).rows r h).2.1
theorem rows_lt (hl : layOk l = true) {r : List Nat} (h : r ∈ rowsM l) {x : Nat} (hx : x ∈ r) : x < l.length := by
  obtain ⟨_, _, b, bl, m⟩ := (rows_ok hl).rows r h
  exact ((m x).mp hx).lt (pm_of hl) bl
theorem rows_len (hl : layOk l = true) {r : List Nat} (h : r ∈ rowsM l) : r.length ≤ l.length := by
  have q := nodup_same_len (rows_nodup hl h) (m := List.range l.length) (fun x hx => List.mem_range.mpr (rows_lt hl h hx))
  rwa [List.length_range] at q
theorem rows_shut (hl : layOk l = true) {r : List Nat} (h : r ∈ rowsM l) {b : Nat} (hb : b ∈ r) : shutM (hOf l) [b] = notInM l.length r := by
  obtain ⟨_, _, c, cl, m⟩ := (rows_ok hl).rows r h
  have rb := (m b).mp hb
  have bl := rb.lt (pm_of hl) cl
  have e : (hOf l).1.length = l.length := hOf_len
  have q : ∀ x, x ∈ shutM (hOf l) [b] ↔ x ∈ notInM l.length r := fun x => by
    rw [hOf_shut hl bl, mem_notInM, m]
    exact and_congr_right fun _ => not_congr ⟨fun s => rb.trans s, fun s => (rb.symm (pm_of hl) cl).trans s⟩
  unfold shutM at q ⊢
  rw [e] at q ⊢
  exact filter_ext q
/-! ### an exchange -/
theorem ex_get {i j x : Nat} (hi : i < l.length) (hj : j < l.length) : pf (exM l i j) x = if x = j then pf l i else if x = i then pf l j else pf l x := by
  unfold pf exM
  rw [List.getD_eq_getElem?_getD, List.getD_eq_getElem?_getD (l := l), List.getElem?_set, List.getElem?_set, List.length_set]
  by_cases h1 : j = x
  · subst h1
    rw [if_pos rfl, if_pos hj, if_pos (show j = j from rfl)]
    rfl
  · rw [if_neg h1, if_neg (show ¬ x = j from fun e => h1 e.symm)]
    by_cases h2 : i = x
    · subst h2
      rw [if_pos rfl, if_pos hi, if_pos (show i = i from rfl)]
      rfl
    · rw [if_neg h2, if_neg (show ¬ x = i from fun e => h2 e.symm), List.getD_eq_getElem?_getD]
theorem ex_ok (hl : layOk l = true) {i j : Nat} (hi : i < l.length) (hj : j < l.length) : layOk (exM l i j) = true := by
  obtain ⟨l1, l30, llt, nd⟩ := layOk_iff.mp hl
  have pm : (exM l i j).Perm l := by
    have q := List.set_set_perm hi hj
    unfold exM
    have e1 : l.getD j 0 = l[j] := by rw [List.getD_eq_getElem?_getD, List.getElem?_eq_getElem hj]; rfl
    have e2 : l.getD i 0 = l[i] := by rw [List.getD_eq_getElem?_getD, List.getElem?_eq_getElem hi]; rfl
    rw [e1, e2]
    exact q
  refine layOk_iff.mpr ⟨by rw [exM_len]; exact l1, by rw [exM_len]; exact l30, fun n hn => ?_, pm.nodup_iff.mpr nd⟩
  rw [exM_len]
  exact llt n (pm.mem_iff.mp hn)
theorem ex_of (hl : layOk l = true) {i j : Nat} (hi : i < l.length) (hj : j < l.length) (ne : i ≠ j) : Ex l.length (pf l) (pf (exM l i j)) i j := by
  have h2 := pm_of (ex_ok hl hi hj)
  rw [exM_len] at h2
  refine ⟨pm_of hl, h2, ne, hi, hj, ?_, ?_, fun x xi xj => ?_⟩
  · rw [ex_get hi hj, if_neg ne, if_pos rfl]
  · rw [ex_get hi hj, if_pos rfl]
  · rw [ex_get hi hj, if_neg xj, if_neg xi]
theorem fewest_len (hl : layOk l = true) : (leastM (hOf l)).length = cyc (pf l) l.length := by
  rw [least_hOf hl, List.length_map]
  rfl
theorem rows_count (hl : layOk l = true) : (rowsM l).length = cyc (pf l) l.length := by
  have q := congrArg List.length (rows_sorted hl)
  rw [List.length_map, fewest_len hl] at q
  exact q
theorem ex_one (hl : layOk l = true) {i j : Nat} (hi : i < l.length) (hj : j < l.length) (ne : i ≠ j) : (leastM (hOf (exM l i j))).length = (rowsM l).length + 1 ∨ (rowsM l).length = (leastM (hOf (exM l i j))).length + 1 := by
  have q := (ex_of hl hi hj ne).one
  have e := fewest_len (ex_ok hl hi hj)
  rw [exM_len] at e
  rw [e, rows_count hl]
  omega
end
end KM

namespace K13
open PySem PySem.Spec PyProof.Rows L2 KL
def top (i : Nat) : Stmt := PySem.Challenge.pw_keyswithin_k13_whole_layings_are_houses.main.body.getD i (.Pass ⟨0, 0, 0, 0⟩)
abbrev cToomanyInit : Stmt := inClass (top 7) 0
theorem sc_cToomanyInit : FnScope ["self", "most"] ["self", "most"] (defScope cToomanyInit) := ⟨rfl, rfl, rfl, by decide +kernel, rfl, by decide +kernel, by decide +kernel⟩
abbrev sIsWithin : Stmt := top 10
abbrev nIsWithin : List Str := ["thing", "low", "high"]
theorem scIsWithin : FnScope ["thing", "low", "high"] ["thing", "low", "high"] (defScope sIsWithin) := ⟨rfl, rfl, rfl, by decide +kernel, rfl, by decide +kernel, by decide +kernel⟩
abbrev sIsColour : Stmt := top 11
abbrev nIsColour : List Str := ["thing", "sign"]
theorem scIsColour : FnScope ["thing", "sign"] ["thing"] (defScope sIsColour) := ⟨rfl, rfl, rfl, by decide +kernel, rfl, by decide +kernel, by decide +kernel⟩
abbrev sAreColours : Stmt := top 12
abbrev nAreColours : List Str := ["thing", "most", "one", "other"]
theorem scAreColours : FnScope ["thing", "most", "one", "other"] ["thing", "most"] (defScope sAreColours) := ⟨rfl, rfl, rfl, by decide +kernel, rfl, by decide +kernel, by decide +kernel⟩
abbrev sIsBox : Stmt := top 13
abbrev nIsBox : List Str := ["thing"]
theorem scIsBox : FnScope ["thing"] ["thing"] (defScope sIsBox) := ⟨rfl, rfl, rfl, by decide +kernel, rfl, by decide +kernel, by decide +kernel⟩
abbrev sIsHouse : Stmt := top 14
abbrev nIsHouse : List Str := ["thing", "box"]
theorem scIsHouse : FnScope ["thing", "box"] ["thing"] (defScope sIsHouse) := ⟨rfl, rfl, rfl, by decide +kernel, rfl, by decide +kernel, by decide +kernel⟩
abbrev sNeedHouse : Stmt := top 15
abbrev nNeedHouse : List Str := ["house"]
theorem scNeedHouse : FnScope ["house"] ["house"] (defScope sNeedHouse) := ⟨rfl, rfl, rfl, by decide +kernel, rfl, by decide +kernel, by decide +kernel⟩
abbrev sAreBoxes : Stmt := top 16
abbrev nAreBoxes : List Str := ["house", "thing", "one", "other"]
theorem scAreBoxes : FnScope ["house", "thing", "one", "other"] ["house", "thing"] (defScope sAreBoxes) := ⟨rfl, rfl, rfl, by decide +kernel, rfl, by decide +kernel, by decide +kernel⟩
abbrev sNeedBoxes : Stmt := top 17
abbrev nNeedBoxes : List Str := ["house", "thing"]
theorem scNeedBoxes : FnScope ["house", "thing"] ["house", "thing"] (defScope sNeedBoxes) := ⟨rfl, rfl, rfl, by decide +kernel, rfl, by decide +kernel, by decide +kernel⟩
abbrev sAllRounds : Stmt := top 18
abbrev nAllRounds : List Str := ["boxes", "keys", "opened", "found", "going", "some", "number", "locks", "inside", "colour"]
theorem scAllRounds : FnScope ["boxes", "keys", "opened", "found", "going", "some", "number", "locks", "inside", "colour"] ["boxes", "keys", "opened"] (defScope sAllRounds) := ⟨rfl, rfl, rfl, by decide +kernel, rfl, by decide +kernel, by decide +kernel⟩
abbrev sNotIn : Stmt := top 19
abbrev nNotIn : List Str := ["house", "opened", "number"]
theorem scNotIn : FnScope ["house", "opened", "number"] ["house", "opened"] (defScope sNotIn) := ⟨rfl, rfl, rfl, by decide +kernel, rfl, by decide +kernel, by decide +kernel⟩
abbrev sShutWhere : Stmt := top 20
abbrev nShutWhere : List Str := ["house", "broken", "keys", "number", "opened", "some"]
theorem scShutWhere : FnScope ["house", "broken", "keys", "number", "opened", "some"] ["house", "broken"] (defScope sShutWhere) := ⟨rfl, rfl, rfl, by decide +kernel, rfl, by decide +kernel, by decide +kernel⟩
abbrev sRounds : Stmt := top 21
abbrev nRounds : List Str := ["house"]
theorem scRounds : FnScope ["house"] ["house"] (defScope sRounds) := ⟨rfl, rfl, rfl, by decide +kernel, rfl, by decide +kernel, by decide +kernel⟩
abbrev sShut : Stmt := top 22
abbrev nShut : List Str := ["house"]
theorem scShut : FnScope ["house"] ["house"] (defScope sShut) := ⟨rfl, rfl, rfl, by decide +kernel, rfl, by decide +kernel, by decide +kernel⟩
abbrev sShutWith : Stmt := top 25
abbrev nShutWith : List Str := ["house", "broken"]
theorem scShutWith : FnScope ["house", "broken"] ["house", "broken"] (defScope sShutWith) := ⟨rfl, rfl, rfl, by decide +kernel, rfl, by decide +kernel, by decide +kernel⟩
abbrev sHasOneLock : Stmt := top 26
abbrev nHasOneLock : List Str := ["house", "locks", "inside"]
theorem scHasOneLock : FnScope ["house", "locks", "inside"] ["house"] (defScope sHasOneLock) := ⟨rfl, rfl, rfl, by decide +kernel, rfl, by decide +kernel, by decide +kernel⟩
abbrev sOpenedBy : Stmt := top 27
abbrev nOpenedBy : List Str := ["house", "number", "some", "still", "one"]
theorem scOpenedBy : FnScope ["house", "number", "some", "still", "one"] ["house", "number", "some"] (defScope sOpenedBy) := ⟨rfl, rfl, rfl, by decide +kernel, rfl, by decide +kernel, by decide +kernel⟩
abbrev sLeastLots : Stmt := top 28
abbrev nLeastLots : List Str := ["house", "some", "found", "opens", "number", "lot", "one"]
theorem scLeastLots : FnScope ["house", "some", "found", "opens", "number", "lot", "one"] ["house"] (defScope sLeastLots) := ⟨rfl, rfl, rfl, by decide +kernel, rfl, by decide +kernel, by decide +kernel⟩
abbrev sKeptLots : Stmt := top 29
abbrev nKeptLots : List Str := ["house"]
theorem scKeptLots : FnScope ["house"] ["house"] (defScope sKeptLots) := ⟨rfl, rfl, rfl, by decide +kernel, rfl, by decide +kernel, by decide +kernel⟩
abbrev sLotsOf : Stmt := top 30
abbrev nLotsOf : List Str := ["some", "many", "found", "place", "lot"]
theorem scLotsOf : FnScope ["some", "many", "found", "place", "lot"] ["some", "many"] (defScope sLotsOf) := ⟨rfl, rfl, rfl, by decide +kernel, rfl, by decide +kernel, by decide +kernel⟩
abbrev sFewest : Stmt := top 31
abbrev nFewest : List Str := ["house", "some", "many", "lot"]
theorem scFewest : FnScope ["house", "some", "many", "lot"] ["house"] (defScope sFewest) := ⟨rfl, rfl, rfl, by decide +kernel, rfl, by decide +kernel, by decide +kernel⟩
abbrev sIsLaying : Stmt := top 33
abbrev nIsLaying : List Str := ["thing", "one"]
theorem scIsLaying : FnScope ["thing", "one"] ["thing"] (defScope sIsLaying) := ⟨rfl, rfl, rfl, by decide +kernel, rfl, by decide +kernel, by decide +kernel⟩
abbrev sNeedLaying : Stmt := top 34
abbrev nNeedLaying : List Str := ["laying"]
theorem scNeedLaying : FnScope ["laying"] ["laying"] (defScope sNeedLaying) := ⟨rfl, rfl, rfl, by decide +kernel, rfl, by decide +kernel, by decide +kernel⟩
abbrev sAllRoundsOf : Stmt := top 35
abbrev nAllRoundsOf : List Str := ["laying", "found", "seen", "box", "some", "here"]
theorem scAllRoundsOf : FnScope ["laying", "found", "seen", "box", "some", "here"] ["laying"] (defScope sAllRoundsOf) := ⟨rfl, rfl, rfl, by decide +kernel, rfl, by decide +kernel, by decide +kernel⟩
abbrev sRoundsOf : Stmt := top 36
abbrev nRoundsOf : List Str := ["laying"]
theorem scRoundsOf : FnScope ["laying"] ["laying"] (defScope sRoundsOf) := ⟨rfl, rfl, rfl, by decide +kernel, rfl, by decide +kernel, by decide +kernel⟩
abbrev sIsExchange : Stmt := top 38
abbrev nIsExchange : List Str := ["laying", "thing", "one"]
theorem scIsExchange : FnScope ["laying", "thing", "one"] ["laying", "thing"] (defScope sIsExchange) := ⟨rfl, rfl, rfl, by decide +kernel, rfl, by decide +kernel, by decide +kernel⟩
abbrev sExchanged : Stmt := top 39
abbrev nExchanged : List Str := ["laying", "pair", "found"]
theorem scExchanged : FnScope ["laying", "pair", "found"] ["laying", "pair"] (defScope sExchanged) := ⟨rfl, rfl, rfl, by decide +kernel, rfl, by decide +kernel, by decide +kernel⟩
abbrev sBehind : Stmt := top 40
abbrev nBehind : List Str := ["laying", "row", "pair"]
theorem scBehind : FnScope ["laying", "row", "pair"] ["laying", "row"] (defScope sBehind) := ⟨rfl, rfl, rfl, by decide +kernel, rfl, by decide +kernel, by decide +kernel⟩
abbrev sLawCellAt : Stmt := top 42
abbrev nLawCellAt : List Str := ["script", "k"]
theorem scLawCellAt : FnScope ["script", "k"] ["script", "k"] (defScope sLawCellAt) := ⟨rfl, rfl, rfl, by decide +kernel, rfl, by decide +kernel, by decide +kernel⟩
abbrev sLawDraws : Stmt := top 43
abbrev nLawDraws : List Str := ["cell", "many", "size", "found", "rest", "stirred", "k"]
theorem scLawDraws : FnScope ["cell", "many", "size", "found", "rest", "stirred", "k"] ["cell", "many", "size"] (defScope sLawDraws) := ⟨rfl, rfl, rfl, by decide +kernel, rfl, by decide +kernel, by decide +kernel⟩
abbrev sLawBag : Stmt := top 44
abbrev nLawBag : List Str := ["script", "k"]
theorem scLawBag : FnScope ["script", "k"] ["script", "k"] (defScope sLawBag) := ⟨rfl, rfl, rfl, by decide +kernel, rfl, by decide +kernel, by decide +kernel⟩
abbrev sLawBags : Stmt := top 45
abbrev nLawBags : List Str := ["script", "limit", "k"]
theorem scLawBags : FnScope ["script", "limit", "k"] ["script", "limit"] (defScope sLawBags) := ⟨rfl, rfl, rfl, by decide +kernel, rfl, by decide +kernel, by decide +kernel⟩
abbrev sLawTake : Stmt := top 46
abbrev nLawTake : List Str := ["bag", "many"]
theorem scLawTake : FnScope ["bag", "many"] ["bag", "many"] (defScope sLawTake) := ⟨rfl, rfl, rfl, by decide +kernel, rfl, by decide +kernel, by decide +kernel⟩
abbrev sLawMixed : Stmt := top 47
abbrev nLawMixed : List Str := ["bag", "many", "found", "one"]
theorem scLawMixed : FnScope ["bag", "many", "found", "one"] ["bag", "many"] (defScope sLawMixed) := ⟨rfl, rfl, rfl, by decide +kernel, rfl, by decide +kernel, by decide +kernel⟩
abbrev sLawLaid : Stmt := top 48
abbrev nLawLaid : List Str := ["bag", "many", "one"]
theorem scLawLaid : FnScope ["bag", "many", "one"] ["bag", "many"] (defScope sLawLaid) := ⟨rfl, rfl, rfl, by decide +kernel, rfl, by decide +kernel, by decide +kernel⟩
abbrev sLawAsHouse : Stmt := top 49
abbrev nLawAsHouse : List Str := ["laying", "letters", "names", "number", "box", "key"]
theorem scLawAsHouse : FnScope ["laying", "letters", "names", "number", "box", "key"] ["laying"] (defScope sLawAsHouse) := ⟨rfl, rfl, rfl, by decide +kernel, rfl, by decide +kernel, by decide +kernel⟩
abbrev sLaw : Stmt := top 50
abbrev nLaw : List Str := ["script", "bag", "many", "laying", "house", "rows", "row", "box", "one", "pair", "other"]
theorem scLaw : FnScope ["script", "bag", "many", "laying", "house", "rows", "row", "box", "one", "pair", "other"] ["script"] (defScope sLaw) := ⟨rfl, rfl, rfl, by decide +kernel, rfl, by decide +kernel, by decide +kernel⟩
section
variable {P : Program} {w : World} {K : PySem.W.Frag} {mg : Str → Option Value} {base : Heap}
def rIsWithin (rs : List SV) (r : SV) : Prop := ∃ i lo hi : Int, rs = [.d (.int i), .d (.int lo), .d (.int hi)] ∧ r = .d (.bool (decide (lo ≤ i) && decide (i ≤ hi)))
theorem fn_is_within (T : Bt mg) (F : At K mg "is_within" sIsWithin ["thing", "low", "high"]) : FnD P w K mg base "is_within" 1 rIsWithin := by
  refine fnD F scIsWithin (fun rs r h => ?_) (fun X B rs r D hX G hr h hD hN => ?_)
  · obtain ⟨i, lo, hi, rfl, rfl⟩ := h; rfl
  · obtain ⟨f, cd, A, outer, s, H, E, rfl⟩ := hX
    obtain ⟨i, lo, hi, rfl, rfl⟩ := h
    exact gs_ret (je_eq (je_and (je_isiI T (je_var 0)) fun _ => je_and (je_not (je_isiB T (je_var 0))) fun _ => je_one (je_chain (je_var 1) (je_var 0) (je_var 2))) (by simp)) hD
def rIsColour (rs : List SV) (r : SV) : Prop := ∃ z : Str, rs = [.d (.str z)] ∧ colOk z = true ∧ r = .d (.bool true)
theorem fn_is_colour (T : Bt mg) {t : Tok} (hS : mg "SMALL" = some (.str smallS t)) (F : At K mg "is_colour" sIsColour ["thing"]) : FnD P w K mg base "is_colour" 1 rIsColour := by
  refine fnD F scIsColour (fun rs r h => ?_) (fun X B rs r D hX G hr h hD hN => ?_)
  · obtain ⟨z, rfl, _⟩ := h; rfl
  · obtain ⟨f, cd, A, outer, s, H, E, rfl⟩ := hX
    obtain ⟨z, rfl, hz, rfl⟩ := h
    unfold colOk at hz
    simp only [Bool.and_eq_true, decide_eq_true_eq] at hz
    have hl : z.cps.toList.length ≤ 1000 := by
      have q : z.length ≤ 8 := hz.1.2
      have e : z.cps.toList.length = z.length := Array.length_toList
      omega
    exact gs_ret (je_eq (je_and (je_isiS T (je_var 0)) fun _ => je_and (je_chain je_int (je_lenS T (je_var 0) (by omega)) je_int) fun _ => je_one
      (je_allF T (je_lc1 (xs := z.cps.toList) (own := [("sign", 1)]) G.nd (ji_str (je_var 0)).toC hl (blkOk_by (N := nIsColour) (sc := defScope sIsColour) (by decide +kernel)) (fun _ _ _ _ _ x _ => jg_name 1 G.nd) (fun _ _ _ _ _ x _ => je_c jc_inSign (je_var 1) (je_gstr hS))))) (by
        rw [hz.2]
        have q1 : decide ((1 : Int) ≤ (z.length : Nat)) = true := decide_eq_true (by omega)
        have q2 : decide (((z.length : Nat) : Int) ≤ 8) = true := decide_eq_true (by omega)
        rw [q1, q2]
        rfl)) hD
def rAreColours (rs : List SV) (r : SV) : Prop := ∃ (zs : List Str) (m : Nat), rs = [.d (.tuple (SS zs)), .d (.int m)] ∧ m ≤ 100 ∧ colsOk zs m = true ∧ r = .d (.bool true)
theorem fn_are_colours (T : Bt mg) (F1 : FnD P w K mg base "is_colour" 1 rIsColour) (F : At K mg "are_colours" sAreColours ["thing", "most"]) : FnD P w K mg base "are_colours" 2 rAreColours := by
  refine fnD F scAreColours (fun rs r h => ?_) (fun X B rs r D hX G hr h hD hN => ?_)
  · obtain ⟨zs, m, rfl, _⟩ := h; rfl
  · obtain ⟨f, cd, A, outer, s, H, E, rfl⟩ := hX
    obtain ⟨zs, m, rfl, hm, hz, rfl⟩ := h
    obtain ⟨h1, h2, h3⟩ := colsOk_iff.mp hz
    have hl : zs.length ≤ 1000 := by omega
    refine gs_no (jt_eq (jw_t (jw_or (jt_not (jt_val (je_isiT T (je_var 0)))) fun _ => jw_or (jt_c jc_gt (je_lenT T (je_var 0)) (je_var 1)) fun _ => jw_or1 (jt_not (jt_val
      (je_allF (f := fun _ => true) T (je_lc1 (xs := zs) (own := [("one", 2)]) G.nd (ji_tup (je_var 0)).toC hl (blkOk_by (N := nAreColours) (sc := defScope sAreColours) (by decide +kernel)) (fun _ _ _ _ _ x _ => jg_name 2 G.nd) (fun _ _ _ _ _ x hx => je_call F1 hr (ja_cons (je_var 2) ja_nil) ⟨x, rfl, h2 x hx, rfl⟩))))))) ?_) ?_
    · rw [SS, List.length_map]
      have q : decide ((m : Int) < (zs.length : Nat)) = false := decide_eq_false (by omega)
      rw [q]
      simp
    · exact gs_ret (je_eq (je_allF T (je_lc1 (xs := zs.zip zs.tail) (own := [("one", 2), ("other", 3)]) G.nd (jic_eq (ji_zipT T (je_var 0) (je_slT (je_var 0) (jo_some je_int) jo_none)).toC (zip_tail _ _)) (by rw [List.length_zip]; omega) (blkOk_by (N := nAreColours) (sc := defScope sAreColours) (by decide +kernel))
        (fun _ _ _ _ _ x _ => jg_tup (jgs_cons (jg_name 2 G.nd) (jgs_cons (jg_name 3 G.nd) jgs_nil)) rfl) (fun _ _ _ _ _ x _ => je_c jc_ltS (je_var 2) (je_var 3)))) (congrArg (fun b => SV.d (.bool b)) h3)) hD
def rIsBox (rs : List SV) (r : SV) : Prop := ∃ b : Box, rs = [.d (eBox b)] ∧ boxOk b = true ∧ r = .d (.bool true)
theorem fn_is_box (T : Bt mg) (F1 : FnD P w K mg base "are_colours" 2 rAreColours) (F : At K mg "is_box" sIsBox ["thing"]) : FnD P w K mg base "is_box" 3 rIsBox := by
  refine fnD F scIsBox (fun rs r h => ?_) (fun X B rs r D hX G hr h hD hN => ?_)
  · obtain ⟨b, rfl, _⟩ := h; rfl
  · obtain ⟨f, cd, A, outer, s, H, E, rfl⟩ := hX
    obtain ⟨b, rfl, hb, rfl⟩ := h
    unfold boxOk at hb
    rw [Bool.and_eq_true] at hb
    exact gs_no (jt_eq (jw_t (jw_or (jt_not (jt_val (je_isiT T (je_var 0)))) fun _ => jw_or1 (jt_c jc_ne (je_lenT T (je_var 0)) je_int))) (by rfl))
      (gs_ret (je_eq (je_and (je_call F1 hr (ja_cons (je_ixT (je_var 0) je_int rfl) (ja_cons je_int ja_nil)) ⟨b.1, 3, rfl, by decide, hb.1, rfl⟩) fun _ => je_one (je_call F1 hr (ja_cons (je_ixT (je_var 0) je_int rfl) (ja_cons je_int ja_nil)) ⟨b.2, 6, rfl, by decide, hb.2, rfl⟩)) rfl) hD)
def rIsHouse (rs : List SV) (r : SV) : Prop := ∃ h : House, rs = [.d (eHouse h)] ∧ houseOk h = true ∧ r = .d (.bool true)
theorem fn_is_house (T : Bt mg) (F1 : FnD P w K mg base "are_colours" 2 rAreColours) (F2 : FnD P w K mg base "is_box" 3 rIsBox) (F : At K mg "is_house" sIsHouse ["thing"]) : FnD P w K mg base "is_house" 4 rIsHouse := by
  refine fnD F scIsHouse (fun rs r h => ?_) (fun X B rs r D hX G hr h hD hN => ?_)
  · obtain ⟨b, rfl, _⟩ := h; rfl
  · obtain ⟨f, cd, A, outer, s, H, E, rfl⟩ := hX
    obtain ⟨h, rfl, hh, rfl⟩ := h
    obtain ⟨h1, h2, h3, h4⟩ := houseOk_iff.mp hh
    refine gs_no (jt_eq (jw_t (jw_or (jt_not (jt_val (je_isiT T (je_var 0)))) fun _ => jw_or (jt_c jc_ne (je_lenT T (je_var 0)) je_int) fun _ => jw_or1 (jt_not (jt_val (je_isiT T (je_ixT (je_var 0) je_int rfl)))))) (by rfl)) ?_
    refine gs_no (jt_eq (jw_t (jw_or (jt_not (jt_chain je_int (je_lenT T (je_ixT (je_var 0) je_int rfl)) je_int)) fun _ => jw_or1 (jt_not (jt_val
      (je_allF (f := fun _ => true) T (je_lc1 (xs := h.1) (own := [("box", 1)]) G.nd (ji_tup (je_ixT (je_var 0) je_int rfl)).toC (by omega) (blkOk_by (N := nIsHouse) (sc := defScope sIsHouse) (by decide +kernel)) (fun _ _ _ _ _ x _ => jg_name 1 G.nd) (fun _ _ _ _ _ x hx => je_call F2 hr (ja_cons (je_var 1) ja_nil) ⟨x, rfl, h3 x hx, rfl⟩))))))) ?_) ?_
    · rw [List.length_map]
      have q1 : decide ((1 : Int) ≤ (h.1.length : Nat)) = true := decide_eq_true (by omega)
      have q2 : decide (((h.1.length : Nat) : Int) ≤ 30) = true := decide_eq_true (by omega)
      rw [q1, q2]
      simp
    · exact gs_ret (je_call F1 (hr.mono (by decide)) (ja_cons (je_ixT (je_var 0) je_int rfl) (ja_cons je_int ja_nil)) ⟨h.2, 6, rfl, by decide, h4, rfl⟩) hD
def rNeedHouse (rs : List SV) (r : SV) : Prop := ∃ h : House, rs = [.d (eHouse h)] ∧ houseOk h = true ∧ r = .d .none
theorem fn_need_house (T : Bt mg) (F1 : FnD P w K mg base "is_house" 4 rIsHouse) (F : At K mg "need_house" sNeedHouse ["house"]) : FnD P w K mg base "need_house" 5 rNeedHouse := by
  refine fnD F scNeedHouse (fun rs r h => ?_) (fun X B rs r D hX G hr h hD hN => ?_)
  · obtain ⟨b, rfl, _⟩ := h; rfl
  · obtain ⟨f, cd, A, outer, s, H, E, rfl⟩ := hX
    obtain ⟨h, rfl, hh, rfl⟩ := h
    exact gs_no (jt_not (jt_val (je_call F1 hr (ja_cons (je_var 0) ja_nil) ⟨h, rfl, hh, rfl⟩))) (gs_nil fun σ H R => hN σ H R.ex rfl)
/-- boxes of a house, rising -/
def boxesOk (n : Nat) (br : List Nat) : Prop := br.length ≤ 60 ∧ (∀ x ∈ br, x < n) ∧ ((br.zip br.tail).all fun q => decide (q.1 < q.2)) = true
def rAreBoxes (rs : List SV) (r : SV) : Prop := ∃ (h : House) (br : List Nat), rs = [.d (eHouse h), .d (tNI br)] ∧ boxesOk h.1.length br ∧ r = .d (.bool true)
theorem fn_are_boxes (T : Bt mg) (F1 : FnD P w K mg base "is_within" 1 rIsWithin) (F : At K mg "are_boxes" sAreBoxes ["house", "thing"]) : FnD P w K mg base "are_boxes" 2 rAreBoxes := by
  refine fnD F scAreBoxes (fun rs r h => ?_) (fun X B rs r D hX G hr h hD hN => ?_)
  · obtain ⟨_, _, rfl, _⟩ := h; rfl
  · obtain ⟨f, cd, A, outer, s, H, E, rfl⟩ := hX
    obtain ⟨h, br, rfl, ⟨h0, h1, h2⟩, rfl⟩ := h
    have hl : br.length ≤ 1000 := by omega
    refine gs_no (jt_eq (jw_t (jw_or (jt_not (jt_val (je_isiT T (je_var 1)))) fun _ => jw_or1 (jt_not (jt_val
      (je_allF (f := fun _ => true) T (je_lc1 (xs := br) (own := [("one", 2)]) G.nd (ji_tup (je_var 1)).toC hl (blkOk_by (N := nAreBoxes) (sc := defScope sAreBoxes) (by decide +kernel)) (fun _ _ _ _ _ x _ => jg_name 2 G.nd) (fun _ _ _ _ _ x hx => je_eq (je_call F1 hr (ja_cons (je_var 2) (ja_cons je_int (ja_cons (je_sub (je_lenT T (je_ixT (je_var 0) je_int rfl)) je_int) ja_nil))) ⟨_, _, _, rfl, rfl⟩) ?_))))))) ?_) ?_
    · have q := h1 x hx
      rw [List.length_map]
      have q1 : decide ((0 : Int) ≤ (x : Nat)) = true := decide_eq_true (by omega)
      have q2 : decide (((x : Nat) : Int) ≤ (h.1.length : Nat) - 1) = true := decide_eq_true (by omega)
      rw [q1, q2]
      rfl
    · simp
    · refine gs_ret (je_eq (je_allF T (je_lc1 (xs := br.zip br.tail) (own := [("one", 2), ("other", 3)]) G.nd (jic_eq (ji_zipT T (je_var 1) (je_slT (je_var 1) (jo_some je_int) jo_none)).toC (zip_tail _ _)) (by rw [List.length_zip]; omega) (blkOk_by (N := nAreBoxes) (sc := defScope sAreBoxes) (by decide +kernel))
        (fun _ _ _ _ _ x _ => jg_tup (jgs_cons (jg_name 2 G.nd) (jgs_cons (jg_name 3 G.nd) jgs_nil)) rfl) (fun _ _ _ _ _ x _ => je_c jc_lt (je_var 2) (je_var 3)))) ?_) hD
      rw [← h2]
      refine congrArg (fun b => SV.d (.bool b)) (congrArg _ (funext fun q => ?_))
      by_cases hq : q.1 < q.2
      · rw [decide_eq_true hq]; exact decide_eq_true (by omega)
      · rw [decide_eq_false hq]; exact decide_eq_false (by omega)
def rNeedBoxes (rs : List SV) (r : SV) : Prop := ∃ (h : House) (br : List Nat), rs = [.d (eHouse h), .d (tNI br)] ∧ boxesOk h.1.length br ∧ r = .d .none
theorem fn_need_boxes (T : Bt mg) (F1 : FnD P w K mg base "are_boxes" 2 rAreBoxes) (F : At K mg "need_boxes" sNeedBoxes ["house", "thing"]) : FnD P w K mg base "need_boxes" 3 rNeedBoxes := by
  refine fnD F scNeedBoxes (fun rs r h => ?_) (fun X B rs r D hX G hr h hD hN => ?_)
  · obtain ⟨_, _, rfl, _⟩ := h; rfl
  · obtain ⟨f, cd, A, outer, s, H, E, rfl⟩ := hX
    obtain ⟨h, br, rfl, h1, rfl⟩ := h
    exact gs_no (jt_not (jt_val (je_call F1 hr (ja_cons (je_var 0) (ja_cons (je_var 1) ja_nil)) ⟨h, br, rfl, h1, rfl⟩))) (gs_nil fun σ H R => hN σ H R.ex rfl)
end
end K13

namespace K13
open PySem PySem.Spec PyProof.Rows L2 KL
local macro_rules | `(tactic| walk_at "wk") => `(tactic| (repeat (first | exact Wk.nil | refine Wk.cons (Or.inl rfl) ?_ | refine Wk.cons (Or.inr (Or.inl rfl)) ?_ | refine Wk.cons (Or.inr (Or.inr ⟨_, rfl, rfl⟩)) ?_ | refine Wk.cons (Or.inl (by first | (simp only [NI, SS, List.map_append, List.map_cons, List.map_nil, *]; done) | (simp [NI, SS, *]; done))) ?_)))
section
variable {P : Program} {w : World} {K : PySem.W.Frag} {mg : Str → Option Value} {base : Heap}
def bsOk (bs : List Box) : Prop := bs.length ≤ 30 ∧ ∀ b ∈ bs, b.1.length ≤ 100 ∧ b.2.length ≤ 6
def rAllRounds (rs : List SV) (r : SV) : Prop := ∃ (bs : List Box) (ks : List Str) (op : List Nat) (kS oS : SV), rs = [.d (eBoxes bs), kS, oS] ∧ (kS = .d (.tuple (SS ks)) ∨ kS = .l (SS ks)) ∧ (oS = .d (tNI op) ∨ oS = .l (NI op)) ∧
  bsOk bs ∧ ks.length ≤ 400 ∧ op.length ≤ 60 ∧ r = .m ((roundsM bs ks op).map tNI)
structure ARs where
  f : Nat
  ks : List Str
  op : List Nat
  fd : List (List Nat)
  go : Bool
theorem fn_all_rounds (T : Bt mg) (F : At K mg "all_rounds" sAllRounds ["boxes", "keys", "opened"]) : FnD P w K mg base "all_rounds" 1 rAllRounds := by
  refine fnD F scAllRounds (fun rs r h => ?_) (fun X B rs r D hX G hr h hD hN => ?_)
  · obtain ⟨_, _, _, _, _, rfl, _⟩ := h; rfl
  · obtain ⟨f, cd, A, outer, s, H, E, rfl⟩ := hX
    obtain ⟨bs, ks, op, kS, oS, rfl, hk, ho, ⟨hb, hbb⟩, lk, lo, rfl⟩ := h
    have tl := roundsGo_len bs (bs.length + 1) ks op
    refine gs_asg3 (ra := .m (SS ks)) (rb := .m (NI op)) 1 2 3 G.nd ?_ ?_ (je_lst (ds := []) ja_nil) ?_
    · rcases hk with rfl | rfl
      · exact je_listT T (je_var 1)
      · exact je_listL T (je_varL 1)
    · rcases ho with rfl | rfl
      · exact je_listT T (je_var 2)
      · exact je_listL T (je_varL 2)
    refine gs_set 4 G.nd je_bl ?_
    refine gs_while (ι := ARs) (fun x => if x.go then x.f + 1 else 0) (fun x => [.d (eBoxes bs), .m (SS x.ks), .m (NI x.op), .m (x.fd.map tNI), .d (.bool x.go), .un, .un, .un, .un, .un]) ⟨bs.length + 1, ks, op, [], true⟩ G (by walk_at "wk")
      (fun x => (x.go = true → left bs x.op < x.f ∧ x.fd ++ roundsGo bs x.f x.ks x.op = roundsM bs ks op) ∧ (x.go = false → x.fd = roundsM bs ks op) ∧ x.ks.length + 6 * left bs x.op ≤ 580 ∧ x.op.length + left bs x.op ≤ 90)
      ⟨fun _ => ⟨Nat.lt_succ_of_le (left_le bs op), rfl⟩, fun z => (by cases z), (by have := left_le bs op; show ks.length + 6 * left bs op ≤ 580; omega), (by have := left_le bs op; show op.length + left bs op ≤ 90; omega)⟩ ?_
    rintro ⟨f, ks', op', fd, go⟩ ⟨i1, i2, i3, i4⟩
    dsimp only at i1 i2 i3 i4 ⊢
    refine ⟨go, jt_val (je_var 4), fun hg N hNx bk => ?_, fun hg => ?_⟩
    · subst hg
      obtain ⟨j1, j2⟩ := i1 rfl
      have hfd : fd.length ≤ 31 := by
        have q := congrArg List.length j2
        rw [List.length_append] at q
        have q2 := tl.2
        unfold roundsM at q
        omega
      have st := left_step bs ks' op'
      have hsl : (openable bs ks' op').length ≤ 30 := by have := left_le bs op'; omega
      refine gs_set 5 G.nd (je_lst (ds := []) ja_nil) ?_
      refine gs_for bs.zipIdx (fun q => .tuple [nI q.2, eBox q.1]) G (ji_eq (ji_enumT T (je_var 0)) (enum_map eBox bs 0)) (fun i => [.d (eBoxes bs), .m (SS ks'), .m (NI op'), .m (fd.map tNI), .d (.bool true), .m (NI ((List.range i).filter (canOpen bs ks' op'))), .un, .un, .un, .un]) (by walk_at "wk") ?_ ?_
      · intro B' sB i q hq
        obtain ⟨eq2, eq1⟩ := KL.zipIdx_get hq
        have hm : q.1 ∈ bs := List.mem_of_getElem? eq1
        have il : i < bs.length := (List.getElem?_eq_some_iff.mp eq1).1
        refine ⟨_, jg_tup (jgs_cons (jg_name 6 G.nd) (jgs_cons (jg_tup (jgs_cons (jg_name 7 G.nd) (jgs_cons (jg_name 8 G.nd) jgs_nil)) rfl) jgs_nil)) rfl, fun N hN2 bk => ?_⟩
        have ec : canOpen bs ks' op' i = (!decide (q.2 ∈ op') && q.1.1.all fun c => decide (c ∈ ks')) := by
          unfold canOpen
          rw [gdB_get eq1, eq2]
        dsimp only at hN2
        rw [range_filter_snoc] at hN2
        refine gs_if0 (jw_t (jw_and (jt_c jc_niLN (je_var 6) (je_varL 2)) fun _ => jw_and1 (jt_val (je_allF T (je_lc1 (xs := q.1.1) (own := [("colour", 9)]) G.nd (ji_tup (je_var 7)).toC (by have := hbb q.1 hm; omega) (blkOk_by (N := nAllRounds) (sc := defScope sAllRounds) (by decide +kernel)) (fun _ _ _ _ _ x _ => jg_name 9 G.nd) (fun _ _ _ _ _ x _ => je_c jc_inLS (je_var 9) (je_varL 1))))))) (fun hc => ?_) (fun hc => ?_)
        · rw [ec, hc, if_pos rfl] at hN2
          refine gs_append 5 (je_var 6) ?_ (gs_nil (gs_nil fun σ H R => hN2 σ H (R.wk ?_)))
          · rw [List.length_map]
            have q3 := List.length_filter_le (canOpen bs ks' op') (List.range i)
            rw [List.length_range] at q3
            omega
          · walk_at "wk"
        · rw [ec, hc, if_neg Bool.false_ne_true, List.append_nil] at hN2
          exact gs_nil fun σ H R => hN2 σ H (R.wk (by walk_at "wk"))
      · rw [List.length_zipIdx]
        have hsd : (List.range bs.length).filter (canOpen bs ks' op') = openable bs ks' op' := rfl
        rw [hsd]
        have hsm : ∀ n, n ∈ openable bs ks' op' → n < bs.length := fun n hn => (mem_openable.mp hn).1
        generalize hs : openable bs ks' op' = sm at *
        refine gs_wk (ρ' := [.d (eBoxes bs), .m (SS ks'), .m (NI op'), .m (fd.map tNI), .d (.bool true), .l (NI sm), .un, .un, .un, .un]) (by walk_at "wk") ?_
        refine gs_for sm nI G (ji_listV 5) (fun i => [.d (eBoxes bs), .m (SS (keysAfter bs ks' (sm.take i))), .m (NI op'), .m (fd.map tNI), .d (.bool true), .l (NI sm), .un, .un, .un, .un]) (by walk_at "wk") ?_ ?_
        · intro B' sB i n hn
          obtain ⟨b, hbn⟩ := get_lt (l := bs) (i := n) (hsm n (List.mem_of_getElem? hn))
          have hlen := keysAfter_len bs (fun b hb => (hbb b hb).2) (sm.take i) ks'
          have h6 := (hbb b (List.mem_of_getElem? hbn)).2
          rw [List.length_take] at hlen
          refine ⟨_, jg_name 6 G.nd, fun N hN2 bk => ?_⟩
          dsimp only at hN2
          rw [take_snoc hn, keysAfter_snoc, gdB_get hbn, SS, List.map_append] at hN2
          refine gs_set 1 G.nd (je_catL (je_varL 1) (je_ml (je_listT T (je_ixT (je_ixT (je_var 0) (je_var 6) (atI_nat' (by rw [List.getElem?_map, hbn]; rfl))) je_int rfl))) ?_) (gs_nil fun σ H R => hN2 σ H (R.wk (by walk_at "wk")))
          rw [List.length_map, List.length_map]
          omega
        · rw [List.take_length]
          refine gs_set 2 G.nd (je_catL (je_varL 2) (je_varL 5) (by rw [List.length_map, List.length_map]; omega)) ?_
          refine gs_set 4 G.nd (je_c (jc_neLN (ms := []) hr.units) (je_varL 5) (je_ml (je_lst (ds := []) ja_nil))) ?_
          obtain ⟨f', rfl⟩ : ∃ f', f = f' + 1 := ⟨f - 1, by omega⟩
          refine gs_if0 (jt_val (je_var 4)) (fun hg => ?_) (fun hg => ?_)
          · have hne : ¬ sm = [] := by simpa using hg
            have hpos : 1 ≤ sm.length := by
              cases sm with
              | nil => exact absurd rfl hne
              | cons _ _ => exact Nat.succ_le_succ (Nat.zero_le _)
            have hlen := keysAfter_len bs (fun b hb => (hbb b hb).2) sm ks'
            rw [roundsGo_go (by rw [hs]; exact hne), hs] at j2
            refine gs_append (xs := fd.map tNI) 3 (je_tupleL T (je_varL 5)) (by rw [List.length_map]; omega) (gs_nil (gs_nil fun σ H R => hNx ⟨f', keysAfter bs ks' sm, op' ++ sm, fd ++ [sm], true⟩ ⟨fun _ => ⟨?_, ?_⟩, fun z => (by cases z), ?_, ?_⟩ ?_ σ H (R.wk ?_)))
            · show left bs (op' ++ sm) < f'
              omega
            · show (fd ++ [sm]) ++ roundsGo bs f' (keysAfter bs ks' sm) (op' ++ sm) = _
              rw [List.append_assoc]
              exact j2
            · show (keysAfter bs ks' sm).length + 6 * left bs (op' ++ sm) ≤ 580
              omega
            · show (op' ++ sm).length + left bs (op' ++ sm) ≤ 90
              rw [List.length_append]
              omega
            · show (if true = true then f' + 1 else 0) < (if true = true then f' + 1 + 1 else 0)
              rw [if_pos rfl, if_pos rfl]
              omega
            · dsimp only
              walk_at "wk"
          · have he : sm = [] := by simpa using hg
            rw [roundsGo_stop (by rw [hs]; exact he), List.append_nil] at j2
            have hlen := keysAfter_len bs (fun b hb => (hbb b hb).2) sm ks'
            refine gs_nil fun σ H R => hNx ⟨0, keysAfter bs ks' sm, op' ++ sm, fd, false⟩ ⟨fun z => (by cases z), fun _ => j2, ?_, ?_⟩ ?_ σ H (R.wk ?_)
            · show (keysAfter bs ks' sm).length + 6 * left bs (op' ++ sm) ≤ 580
              omega
            · show (op' ++ sm).length + left bs (op' ++ sm) ≤ 90
              rw [List.length_append]
              omega
            · show (if false = true then 0 + 1 else 0) < (if true = true then f' + 1 + 1 else 0)
              rw [if_pos rfl, if_neg Bool.false_ne_true]
              omega
            · dsimp only
              walk_at "wk"
    · subst hg
      exact gs_retOwn (xs := fd.map tNI) 3 (by rw [i2 rfl]; exact hD)
end
end K13

namespace K13
open PySem PySem.Spec PyProof.Rows L2 KL
local macro_rules | `(tactic| walk_at "wk") => `(tactic| (repeat (first | exact Wk.nil | refine Wk.cons (Or.inl rfl) ?_ | refine Wk.cons (Or.inr (Or.inl rfl)) ?_ | refine Wk.cons (Or.inr (Or.inr ⟨_, rfl, rfl⟩)) ?_ | refine Wk.cons (Or.inl (by first | (simp only [NI, SS, List.map_append, List.map_cons, List.map_nil, *]; done) | (simp [NI, SS, *]; done))) ?_)))
section
variable {P : Program} {w : World} {K : PySem.W.Frag} {mg : Str → Option Value} {base : Heap}
theorem bsOk_of {h : House} (hh : houseOk h = true) : bsOk h.1 := by
  obtain ⟨_, h2, h3, _⟩ := houseOk_iff.mp hh
  refine ⟨h2, fun b hb => ?_⟩
  have q := h3 b hb
  unfold boxOk at q
  rw [Bool.and_eq_true] at q
  have q1 := (colsOk_iff.mp q.1).1
  have q2 := (colsOk_iff.mp q.2).1
  omega
def rNotIn (rs : List SV) (r : SV) : Prop := ∃ (h : House) (op : List Nat), rs = [.d (eHouse h), .l (NI op)] ∧ h.1.length ≤ 30 ∧ r = .d (tNI (notInM h.1.length op))
theorem fn_not_in (T : Bt mg) (F : At K mg "not_in" sNotIn ["house", "opened"]) : FnD P w K mg base "not_in" 1 rNotIn := by
  refine fnD F scNotIn (fun rs r h => ?_) (fun X B rs r D hX G hr h hD hN => ?_)
  · obtain ⟨_, _, rfl, _⟩ := h; rfl
  · obtain ⟨f, cd, A, outer, s, H, E, rfl⟩ := hX
    obtain ⟨h, op, rfl, hl, rfl⟩ := h
    refine gs_ret (je_tupleM T (je_lc (xs := List.range h.1.length) (g := nI) (pb := fun k => !decide (k ∈ op)) (f := nI) (own := [("number", 2)]) G.nd (jic_eq (ji_range1 T (je_lenT T (je_ixT (je_var 0) je_int rfl)) ?_ ?_).toC ?_) (by rw [List.length_range]; omega) (blkOk_by (N := nNotIn) (sc := defScope sNotIn) (by decide +kernel)) (fun _ _ _ _ _ x _ => jg_name 2 G.nd) (fun _ _ _ _ _ x _ => jts_one (jt_c jc_niLN (je_var 2) (je_varL 1))) (fun _ _ _ _ _ x _ _ => je_var 2))) hD
    · rw [List.length_map]; omega
    · omega
    · rw [Int.toNat_natCast, List.length_map, KL.range_map]
def rShutWhere (rs : List SV) (r : SV) : Prop := ∃ (h : House) (br : List Nat), rs = [.d (eHouse h), .d (tNI br)] ∧ houseOk h = true ∧ br.length ≤ 60 ∧ (∀ x ∈ br, x < h.1.length) ∧ r = .d (tNI (shutM h br))
theorem fn_shut_where (T : Bt mg) (F1 : FnD P w K mg base "all_rounds" 1 rAllRounds) (F2 : FnD P w K mg base "not_in" 1 rNotIn) (F : At K mg "shut_where" sShutWhere ["house", "broken"]) : FnD P w K mg base "shut_where" 2 rShutWhere := by
  refine fnD F scShutWhere (fun rs r h => ?_) (fun X B rs r D hX G hr h hD hN => ?_)
  · obtain ⟨_, _, rfl, _⟩ := h; rfl
  · obtain ⟨f, cd, A, outer, s, H, E, rfl⟩ := hX
    obtain ⟨h, br, rfl, hh, h60, hlt, rfl⟩ := h
    obtain ⟨hb, hbb⟩ := bsOk_of hh
    have h6 := (colsOk_iff.mp (houseOk_iff.mp hh).2.2.2).1
    have kl : ∀ i, (keysAfter h.1 h.2 (br.take i)).length ≤ 366 := fun i => by
      have q := keysAfter_len h.1 (fun b hb => (hbb b hb).2) (br.take i) h.2
      rw [List.length_take] at q
      omega
    refine gs_set 2 G.nd (je_listT T (je_ixT (je_var 0) je_int rfl)) ?_
    refine gs_for br nI G (ji_tup (je_var 1)) (fun i => [.d (eHouse h), .d (tNI br), .m (SS (keysAfter h.1 h.2 (br.take i))), .un, .un, .un]) (by walk_at "wk") ?_ ?_
    · intro B' sB i n hn
      obtain ⟨b, hbn⟩ := get_lt (l := h.1) (i := n) (hlt n (List.mem_of_getElem? hn))
      have h6' := (hbb b (List.mem_of_getElem? hbn)).2
      have kli := kl i
      refine ⟨_, jg_name 3 G.nd, fun N hN2 bk => ?_⟩
      dsimp only at hN2
      rw [take_snoc hn, keysAfter_snoc, gdB_get hbn, SS, List.map_append] at hN2
      refine gs_set 2 G.nd (je_catL (je_varL 2) (je_ml (je_listT T (je_ixT (je_ixT (je_ixT (je_var 0) je_int rfl) (je_var 3) (atI_nat' (by rw [List.getElem?_map, hbn]; rfl))) je_int rfl))) ?_) (gs_nil fun σ H R => hN2 σ H (R.wk (by walk_at "wk")))
      rw [List.length_map, List.length_map]
      omega
    · have kla := kl br.length
      rw [List.take_length] at kla ⊢
      have rl := roundsGo_len h.1 (h.1.length + 1) (keysAfter h.1 h.2 br) br
      have ll := left_le h.1 br
      refine gs_set 4 G.nd (je_listT T (je_var 1)) ?_
      refine gs_for (roundsM h.1 (keysAfter h.1 h.2 br) br) tNI G (ji_listM (je_call F1 (hr.mono (by decide)) (ja_cons (je_ixT (je_var 0) je_int rfl) (ja_cons (je_varL 2) (ja_cons (je_var 1) ja_nil)))
        ⟨h.1, keysAfter h.1 h.2 br, br, _, _, rfl, .inr rfl, .inl rfl, ⟨hb, hbb⟩, by omega, h60, rfl⟩)) (fun i => [.d (eHouse h), .d (tNI br), .m (SS (keysAfter h.1 h.2 br)), .un, .m (NI (br ++ ((roundsM h.1 (keysAfter h.1 h.2 br) br).take i).flatten)), .un]) ?_ ?_ ?_
      · rw [List.take_zero, List.flatten_nil, List.append_nil]
        walk_at "wk"
      · intro B' sB i x hx
        refine ⟨_, jg_name 5 G.nd, fun N hN2 bk => ?_⟩
        dsimp only at hN2
        have fl : ((roundsM h.1 (keysAfter h.1 h.2 br) br).take (i + 1)).flatten.length ≤ left h.1 br := by
          refine Nat.le_trans ?_ rl.1
          have q : (roundsM h.1 (keysAfter h.1 h.2 br) br) = (roundsM h.1 (keysAfter h.1 h.2 br) br).take (i + 1) ++ (roundsM h.1 (keysAfter h.1 h.2 br) br).drop (i + 1) := (List.take_append_drop _ _).symm
          unfold roundsM at q ⊢
          rw [congrArg List.flatten q, List.flatten_append, List.length_append]
          exact Nat.le_add_right _ _
        rw [take_snoc hx, List.flatten_append, List.flatten_cons, List.flatten_nil, List.append_nil] at hN2 fl
        rw [List.length_append] at fl
        refine gs_set 4 G.nd (je_catL (je_varL 4) (je_ml (je_listT T (je_var 5))) ?_) (gs_nil fun σ H R => hN2 σ H (R.wk ?_))
        · rw [List.length_map, List.length_map, List.length_append]
          omega
        · walk_at "wk"
      · rw [List.take_length]
        exact gs_ret (je_call F2 (hr.mono (by decide)) (ja_cons (je_var 0) (ja_cons (je_varL 4) ja_nil)) ⟨h, _, rfl, hb, rfl⟩) hD
def rRounds (rs : List SV) (r : SV) : Prop := ∃ h : House, rs = [.d (eHouse h)] ∧ houseOk h = true ∧ r = .m ((roundsM h.1 h.2 []).map tNI)
theorem fn_rounds (T : Bt mg) (F1 : FnD P w K mg base "need_house" 5 rNeedHouse) (F2 : FnD P w K mg base "all_rounds" 1 rAllRounds) (F : At K mg "rounds" sRounds ["house"]) : FnD P w K mg base "rounds" 6 rRounds := by
  refine fnD F scRounds (fun rs r h => ?_) (fun X B rs r D hX G hr h hD hN => ?_)
  · obtain ⟨_, rfl, _⟩ := h; rfl
  · obtain ⟨f, cd, A, outer, s, H, E, rfl⟩ := hX
    obtain ⟨h, rfl, hh, rfl⟩ := h
    have h6 := (colsOk_iff.mp (houseOk_iff.mp hh).2.2.2).1
    exact gs_expr (je_call F1 hr (ja_cons (je_var 0) ja_nil) ⟨h, rfl, hh, rfl⟩) (gs_ret (je_call F2 (hr.mono (by decide)) (ja_cons (je_ixT (je_var 0) je_int rfl) (ja_cons (je_ixT (je_var 0) je_int rfl) (ja_cons (je_tup (ds := []) ja_nil) ja_nil)))
      ⟨h.1, h.2, [], _, _, rfl, .inl rfl, .inl rfl, bsOk_of hh, by omega, by decide, rfl⟩) hD)
def rShut (rs : List SV) (r : SV) : Prop := ∃ h : House, rs = [.d (eHouse h)] ∧ houseOk h = true ∧ r = .d (tNI (shutM h []))
theorem fn_shut (T : Bt mg) (F1 : FnD P w K mg base "need_house" 5 rNeedHouse) (F2 : FnD P w K mg base "shut_where" 2 rShutWhere) (F : At K mg "shut" sShut ["house"]) : FnD P w K mg base "shut" 6 rShut := by
  refine fnD F scShut (fun rs r h => ?_) (fun X B rs r D hX G hr h hD hN => ?_)
  · obtain ⟨_, rfl, _⟩ := h; rfl
  · obtain ⟨f, cd, A, outer, s, H, E, rfl⟩ := hX
    obtain ⟨h, rfl, hh, rfl⟩ := h
    exact gs_expr (je_call F1 hr (ja_cons (je_var 0) ja_nil) ⟨h, rfl, hh, rfl⟩) (gs_ret (je_call F2 (hr.mono (by decide)) (ja_cons (je_var 0) (ja_cons (je_tup (ds := []) ja_nil) ja_nil)) ⟨h, [], rfl, hh, by decide, fun x hx => (by cases hx), rfl⟩) hD)
def rShutWith (rs : List SV) (r : SV) : Prop := ∃ (h : House) (br : List Nat), rs = [.d (eHouse h), .d (tNI br)] ∧ houseOk h = true ∧ boxesOk h.1.length br ∧ r = .d (tNI (shutM h br))
theorem fn_shut_with (T : Bt mg) (F1 : FnD P w K mg base "need_house" 5 rNeedHouse) (F3 : FnD P w K mg base "need_boxes" 3 rNeedBoxes) (F2 : FnD P w K mg base "shut_where" 2 rShutWhere) (F : At K mg "shut_with" sShutWith ["house", "broken"]) : FnD P w K mg base "shut_with" 6 rShutWith := by
  refine fnD F scShutWith (fun rs r h => ?_) (fun X B rs r D hX G hr h hD hN => ?_)
  · obtain ⟨_, _, rfl, _⟩ := h; rfl
  · obtain ⟨f, cd, A, outer, s, H, E, rfl⟩ := hX
    obtain ⟨h, br, rfl, hh, hb, rfl⟩ := h
    exact gs_expr (je_call F1 hr (ja_cons (je_var 0) ja_nil) ⟨h, rfl, hh, rfl⟩) (gs_expr (je_call F3 (hr.mono (by decide)) (ja_cons (je_var 0) (ja_cons (je_var 1) ja_nil)) ⟨h, br, rfl, hb, rfl⟩)
      (gs_ret (je_call F2 (hr.mono (by decide)) (ja_cons (je_var 0) (ja_cons (je_var 1) ja_nil)) ⟨h, br, rfl, hh, hb.1, hb.2.1, rfl⟩) hD))
def rHasOneLock (rs : List SV) (r : SV) : Prop := ∃ h : House, rs = [.d (eHouse h)] ∧ h.1.length ≤ 30 ∧ r = .d (.bool (oneLock h))
theorem fn_has_one_lock (T : Bt mg) (F : At K mg "has_one_lock" sHasOneLock ["house"]) : FnD P w K mg base "has_one_lock" 1 rHasOneLock := by
  refine fnD F scHasOneLock (fun rs r h => ?_) (fun X B rs r D hX G hr h hD hN => ?_)
  · obtain ⟨_, rfl, _⟩ := h; rfl
  · obtain ⟨f, cd, A, outer, s, H, E, rfl⟩ := hX
    obtain ⟨h, rfl, hh, rfl⟩ := h
    refine gs_ret (je_allF T (je_lc1 (xs := h.1) (own := [("locks", 1), ("inside", 2)]) G.nd (ji_tup (je_ixT (je_var 0) je_int rfl)).toC (by omega) (blkOk_by (N := nHasOneLock) (sc := defScope sHasOneLock) (by decide +kernel)) (fun _ _ _ _ _ x _ => jg_tup (jgs_cons (jg_name 1 G.nd) (jgs_cons (jg_name 2 G.nd) jgs_nil)) rfl) (fun _ _ _ _ _ x _ => je_eq (je_c jc_le (je_lenT T (je_var 1)) je_int) (congrArg (fun b => SV.d (.bool b)) ?_)))) hD
    rw [List.length_map]
    by_cases q : x.1.length ≤ 1
    · rw [decide_eq_true q]; exact decide_eq_true (by omega)
    · rw [decide_eq_false q]; exact decide_eq_false (by omega)
def rOpenedBy (rs : List SV) (r : SV) : Prop := ∃ (h : House) (n : Nat) (sm : List Nat), rs = [.d (eHouse h), .d (nI n), .d (tNI sm)] ∧ houseOk h = true ∧ n < h.1.length ∧ sm.length ≤ 60 ∧ r = .d (tNI (openedBy h n sm))
theorem fn_opened_by (T : Bt mg) (F1 : FnD P w K mg base "shut_where" 2 rShutWhere) (F : At K mg "opened_by" sOpenedBy ["house", "number", "some"]) : FnD P w K mg base "opened_by" 3 rOpenedBy := by
  refine fnD F scOpenedBy (fun rs r h => ?_) (fun X B rs r D hX G hr h hD hN => ?_)
  · obtain ⟨_, _, _, rfl, _⟩ := h; rfl
  · obtain ⟨f, cd, A, outer, s, H, E, rfl⟩ := hX
    obtain ⟨h, n, sm, rfl, hh, hn, hl, rfl⟩ := h
    refine gs_set 3 G.nd (je_call F1 hr (ja_cons (je_var 0) (ja_cons (je_tup (ds := [nI n]) (ja_cons (je_var 1) ja_nil)) ja_nil)) ⟨h, [n], rfl, hh, Nat.le_of_ble_eq_true rfl, fun x hx => by rw [List.mem_singleton.mp hx]; exact hn, rfl⟩) ?_
    exact gs_ret (je_tupleM T (je_lc (xs := sm) (g := nI) (pb := fun k => !decide (k ∈ shutM h [n])) (f := nI) (own := [("one", 4)]) G.nd (ji_tup (je_var 2)).toC (by omega) (blkOk_by (N := nOpenedBy) (sc := defScope sOpenedBy) (by decide +kernel)) (fun _ _ _ _ _ x _ => jg_name 4 G.nd) (fun _ _ _ _ _ x _ => jts_one (jt_c jc_niTN (je_var 4) (je_var 3))) (fun _ _ _ _ _ x _ _ => je_var 4))) hD
def rLeastLots (rs : List SV) (r : SV) : Prop := ∃ h : House, rs = [.d (eHouse h)] ∧ houseOk h = true ∧ r = .m ((leastM h).map tNI)
theorem fn_least_lots (T : Bt mg) (F1 : FnD P w K mg base "shut_where" 2 rShutWhere) (F2 : FnD P w K mg base "opened_by" 3 rOpenedBy) (F : At K mg "least_lots" sLeastLots ["house"]) : FnD P w K mg base "least_lots" 4 rLeastLots := by
  refine fnD F scLeastLots (fun rs r h => ?_) (fun X B rs r D hX G hr h hD hN => ?_)
  · obtain ⟨_, rfl, _⟩ := h; rfl
  · obtain ⟨f, cd, A, outer, s, H, E, rfl⟩ := hX
    obtain ⟨h, rfl, hh, rfl⟩ := h
    have hb := (bsOk_of hh).1
    have sl := shut_len h []
    have slt : ∀ {n : Nat}, n ∈ shutM h [] → n < h.1.length := fun m => shut_lt m
    have snd := shut_nodup h []
    have edf : leastM h = (shutM h []).foldl (lotStep h (shutM h [])) [] := rfl
    rw [edf] at hD
    have flen : ∀ i, (foldI (lotStep h (shutM h [])) [] (shutM h []) i).length ≤ 30 := fun i => by
      have q := leastM_len h ((shutM h []).take i) (shutM h []) []
      rw [List.length_take] at q
      show (((shutM h []).take i).foldl (lotStep h (shutM h [])) []).length ≤ 30
      simp only [List.length_nil] at q
      omega
    refine gs_asg2 (ra := .d (tNI (shutM h []))) (rb := .m []) 1 2 G.nd (je_call F1 (hr.mono (by decide)) (ja_cons (je_var 0) (ja_cons (je_tup (ds := []) ja_nil) ja_nil)) ⟨h, [], rfl, hh, by decide, fun x hx => (by cases hx), rfl⟩) (je_lst (ds := []) ja_nil) ?_
    generalize hsm : shutM h [] = sm at *
    have nsl : ∀ e : Expr, (∀ ov iv, subscripted e false ov iv = operate [ov, iv] (getItem ov iv)) → NoSl e := fun _ z => z
    refine gs_set (r := .q ((sm.map fun n : Nat => ((n : Int), tNI (openedBy h n sm))).map keyD)) 3 G.nd (je_dictP T (je_ml (je_eq (je_lc1 (xs := sm) (g := nI) (f := fun n => .tuple [nI n, tNI (openedBy h n sm)]) (own := [("number", 4)]) G.nd (ji_tup (je_var 1)).toC (by omega) (blkOk_by (N := nLeastLots) (sc := defScope sLeastLots) (by decide +kernel)) (fun _ _ _ _ _ x _ => jg_name 4 G.nd)
      (fun _ _ _ _ _ x hx => je_tup (ds := [nI x, tNI (openedBy h x sm)]) (ja_cons (je_var 4) (ja_cons (je_call F2 hr (ja_cons (je_var 0) (ja_cons (je_var 4) (ja_cons (je_var 1) ja_nil))) ⟨h, x, sm, rfl, hh, slt hx, by omega, rfl⟩) ja_nil)))) (by rw [List.map_map]; rfl))) (by rw [List.map_map]; exact cast_nodup snd)) ?_
    refine gs_for sm nI G (ji_tup (je_var 1)) (fun i => [.d (eHouse h), .d (tNI sm), .m ((foldI (lotStep h sm) [] sm i).map tNI), .q ((sm.map fun n : Nat => ((n : Int), tNI (openedBy h n sm))).map keyD), .un, .un, .un]) (by walk_at "wk") ?_ ?_
    · intro B' sB i n hn
      have hnm : n ∈ sm := List.mem_of_getElem? hn
      refine ⟨_, jg_name 4 G.nd, fun N hN2 bk => ?_⟩
      dsimp only at hN2
      rw [foldI_snoc _ _ hn] at hN2
      refine gs_set 5 G.nd (je_tupleM T (je_lc (xs := sm) (g := nI) (pb := fun one => decide (n ∈ openedBy h one sm)) (f := nI) (own := [("one", 6)]) G.nd (ji_tup (je_var 1)).toC (by omega) (blkOk_by (N := nLeastLots) (sc := defScope sLeastLots) (by decide +kernel)) (fun _ _ _ _ _ x _ => jg_name 6 G.nd)
        (fun _ _ _ _ _ x hx => jts_one (jt_c jc_inTN (je_var 4) (je_dget (hu_of hr) (je_var 6) 3 (valQ_map hx) (fun _ _ => rfl)))) (fun _ _ _ _ _ x _ _ => je_var 6))) ?_
      have el : (sm.filter fun one => decide (n ∈ openedBy h one sm)) = lotAt h sm n := rfl
      rw [el]
      have hlot := List.length_filter_le (fun one => decide (n ∈ openedBy h one sm)) sm
      rw [el] at hlot
      refine gs_if0 (jw_t (jw_and (jt_val (je_allF T (je_lc1 (xs := lotAt h sm n) (g := nI) (own := [("one", 6)]) G.nd (ji_tup (je_var 5)).toC (by omega) (blkOk_by (N := nLeastLots) (sc := defScope sLeastLots) (by decide +kernel)) (fun _ _ _ _ _ x _ => jg_name 6 G.nd)
        (fun _ _ _ _ _ x hx => je_c jc_inTN (je_var 6) (je_dget (hu_of hr) (je_var 4) 3 (valQ_map hnm) (fun _ _ => rfl)))))) fun _ => jw_and1 (jt_c (jc_niLT (by have := hr.un; omega)) (je_var 5) (je_varL 2)))) (fun hc => ?_) (fun hc => ?_)
      · have fl := flen i
        have es : lotStep h sm (foldI (lotStep h sm) [] sm i) n = foldI (lotStep h sm) [] sm i ++ [lotAt h sm n] := by
          rw [Bool.and_eq_true] at hc
          exact lotStep_pos ⟨hc.1, by simpa using hc.2⟩
        rw [es] at hN2
        exact gs_append (xs := (foldI (lotStep h sm) [] sm i).map tNI) 2 (je_var 5) (by rw [List.length_map]; omega) (gs_nil (gs_nil fun σ H R => hN2 σ H (R.wk (by walk_at "wk"))))
      · have es : lotStep h sm (foldI (lotStep h sm) [] sm i) n = foldI (lotStep h sm) [] sm i := by
          refine lotStep_neg fun z => ?_
          rw [Bool.and_eq_false_iff] at hc
          rcases hc with q | q
          · rw [z.1] at q; cases q
          · simp at q; exact z.2 q
        rw [es] at hN2
        exact gs_nil fun σ H R => hN2 σ H (R.wk (by walk_at "wk"))
    · rw [foldI_all]
      exact gs_retOwn 2 hD
def rKeptLots (rs : List SV) (r : SV) : Prop := ∃ h : House, rs = [.d (eHouse h)] ∧ houseOk h = true ∧ oneLock h = true ∧ r = .m ((leastM h).map tNI)
theorem fn_kept_lots (T : Bt mg) (F1 : FnD P w K mg base "need_house" 5 rNeedHouse) (F2 : FnD P w K mg base "has_one_lock" 1 rHasOneLock) (F3 : FnD P w K mg base "least_lots" 4 rLeastLots) (F : At K mg "kept_lots" sKeptLots ["house"]) : FnD P w K mg base "kept_lots" 6 rKeptLots := by
  refine fnD F scKeptLots (fun rs r h => ?_) (fun X B rs r D hX G hr h hD hN => ?_)
  · obtain ⟨_, rfl, _⟩ := h; rfl
  · obtain ⟨f, cd, A, outer, s, H, E, rfl⟩ := hX
    obtain ⟨h, rfl, hh, ho, rfl⟩ := h
    exact gs_expr (je_call F1 hr (ja_cons (je_var 0) ja_nil) ⟨h, rfl, hh, rfl⟩) (gs_no (jt_eq (jt_not (jt_val (je_call F2 (hr.mono (by decide)) (ja_cons (je_var 0) ja_nil) ⟨h, rfl, (bsOk_of hh).1, rfl⟩))) (by rw [ho]; rfl))
      (gs_ret (je_call F3 (hr.mono (by decide)) (ja_cons (je_var 0) ja_nil) ⟨h, rfl, hh, rfl⟩) hD))
def rFewest (rs : List SV) (r : SV) : Prop := ∃ h : House, rs = [.d (eHouse h)] ∧ houseOk h = true ∧ oneLock h = true ∧ r = .d (tNI (sortN ((leastM h).map fun x : List Nat => x.headD 0)))
theorem fn_fewest (T : Bt mg) (F1 : FnD P w K mg base "need_house" 5 rNeedHouse) (F2 : FnD P w K mg base "has_one_lock" 1 rHasOneLock) (F3 : FnD P w K mg base "least_lots" 4 rLeastLots) (F : At K mg "fewest" sFewest ["house"]) : FnD P w K mg base "fewest" 6 rFewest := by
  refine fnD F scFewest (fun rs r h => ?_) (fun X B rs r D hX G hr h hD hN => ?_)
  · obtain ⟨_, rfl, _⟩ := h; rfl
  · obtain ⟨f, cd, A, outer, s, H, E, rfl⟩ := hX
    obtain ⟨h, rfl, hh, ho, rfl⟩ := h
    have hb := (bsOk_of hh).1
    have ll := leastM_len h (shutM h []) (shutM h []) []
    have sl := shut_len h []
    have e : ((shutM h []).foldl (lotStep h (shutM h [])) []).length = (leastM h).length := rfl
    rw [e] at ll
    simp only [List.length_nil] at ll
    refine gs_expr (je_call F1 hr (ja_cons (je_var 0) ja_nil) ⟨h, rfl, hh, rfl⟩) (gs_if0 (jt_eq (jt_val (je_call F2 (hr.mono (by decide)) (ja_cons (je_var 0) ja_nil) ⟨h, rfl, hb, rfl⟩)) ho) (fun _ => gs_ret (je_tupleM T (je_sortedN (ns := (leastM h).map fun x : List Nat => x.headD 0) T (je_ml (je_eq
      (je_lc1 (xs := leastM h) (g := tNI) (f := fun x : List Nat => nI (x.headD 0)) (own := [("lot", 3)]) G.nd (ji_listM (je_call F3 (hr.mono (by decide)) (ja_cons (je_var 0) ja_nil) ⟨h, rfl, hh, rfl⟩)).toC (by omega) (blkOk_by (N := nFewest) (sc := defScope sFewest) (by decide +kernel)) (fun _ _ _ _ _ x _ => jg_name 3 G.nd)
        (fun _ _ _ _ _ x hx => je_ixT (je_var 3) je_int (at0 (leastM_ne hx)))) (by rw [NI, List.map_map]; rfl))) (by rw [List.length_map]; omega))) hD) (fun z => by cases z))
end
end K13

namespace K13
open PySem PySem.Spec PyProof.Rows L2 KL
local macro_rules | `(tactic| walk_at "wk") => `(tactic| (repeat (first | exact Wk.nil | refine Wk.cons (Or.inl rfl) ?_ | refine Wk.cons (Or.inr (Or.inl rfl)) ?_ | refine Wk.cons (Or.inr (Or.inr ⟨_, rfl, rfl⟩)) ?_ | refine Wk.cons (Or.inl (by first | (simp only [NI, SS, List.map_append, List.map_cons, List.map_nil, *]; done) | (simp [NI, SS, *]; done))) ?_)))
section
variable {P : Program} {w : World} {K : PySem.W.Frag} {mg : Str → Option Value} {base : Heap}
def rIsLaying (rs : List SV) (r : SV) : Prop := ∃ l : List Nat, rs = [.d (tNI l)] ∧ layOk l = true ∧ r = .d (.bool true)
theorem fn_is_laying (T : Bt mg) (F1 : FnD P w K mg base "is_within" 1 rIsWithin) (F : At K mg "is_laying" sIsLaying ["thing"]) : FnD P w K mg base "is_laying" 2 rIsLaying := by
  refine fnD F scIsLaying (fun rs r h => ?_) (fun X B rs r D hX G hr h hD hN => ?_)
  · obtain ⟨_, rfl, _⟩ := h; rfl
  · obtain ⟨f, cd, A, outer, s, H, E, rfl⟩ := hX
    obtain ⟨l, rfl, hl, rfl⟩ := h
    obtain ⟨h1, h2, h3, h4⟩ := layOk_iff.mp hl
    refine gs_no (jt_eq (jw_t (jw_or (jt_not (jt_val (je_isiT T (je_var 0)))) fun _ => jw_or1 (jt_not (jt_chain je_int (je_lenT T (je_var 0)) je_int)))) ?_) ?_
    · rw [List.length_map]
      have q1 : decide ((1 : Int) ≤ (l.length : Nat)) = true := decide_eq_true (by omega)
      have q2 : decide (((l.length : Nat) : Int) ≤ 30) = true := decide_eq_true (by omega)
      rw [q1, q2]
      rfl
    · refine gs_ret (je_eq (je_and (je_allF (f := fun _ => true) T (je_lc1 (xs := l) (own := [("one", 1)]) G.nd (ji_tup (je_var 0)).toC (by omega) (blkOk_by (N := nIsLaying) (sc := defScope sIsLaying) (by decide +kernel)) (fun _ _ _ _ _ x _ => jg_name 1 G.nd) (fun _ _ _ _ _ x hx => je_eq (je_call F1 hr (ja_cons (je_var 1) (ja_cons je_int (ja_cons (je_sub (je_lenT T (je_var 0)) je_int) ja_nil))) ⟨_, _, _, rfl, rfl⟩) ?_)))
        fun _ => je_one (je_c jc_eq (je_lenSet T (je_var 0) h4 (by omega)) (je_lenT T (je_var 0)))) ?_) hD
      · have q := h3 x hx
        rw [List.length_map]
        have q1 : decide ((0 : Int) ≤ (x : Nat)) = true := decide_eq_true (by omega)
        have q2 : decide (((x : Nat) : Int) ≤ (l.length : Nat) - 1) = true := decide_eq_true (by omega)
        rw [q1, q2]
        rfl
      · rw [List.length_map]
        simp
def rNeedLaying (rs : List SV) (r : SV) : Prop := ∃ l : List Nat, rs = [.d (tNI l)] ∧ layOk l = true ∧ r = .d .none
theorem fn_need_laying (T : Bt mg) (F1 : FnD P w K mg base "is_laying" 2 rIsLaying) (F : At K mg "need_laying" sNeedLaying ["laying"]) : FnD P w K mg base "need_laying" 3 rNeedLaying := by
  refine fnD F scNeedLaying (fun rs r h => ?_) (fun X B rs r D hX G hr h hD hN => ?_)
  · obtain ⟨b, rfl, _⟩ := h; rfl
  · obtain ⟨f, cd, A, outer, s, H, E, rfl⟩ := hX
    obtain ⟨l, rfl, hl, rfl⟩ := h
    exact gs_no (jt_not (jt_val (je_call F1 hr (ja_cons (je_var 0) ja_nil) ⟨l, rfl, hl, rfl⟩))) (gs_nil fun σ H R => hN σ H R.ex rfl)
def rAllRoundsOf (rs : List SV) (r : SV) : Prop := ∃ l : List Nat, rs = [.d (tNI l)] ∧ layOk l = true ∧ r = .m ((rowsM l).map tNI)
structure ORs where
  f : Nat
  sm : List Nat
  here : Nat
theorem fn_all_rounds_of (T : Bt mg) (F : At K mg "all_rounds_of" sAllRoundsOf ["laying"]) : FnD P w K mg base "all_rounds_of" 1 rAllRoundsOf := by
  refine fnD F scAllRoundsOf (fun rs r h => ?_) (fun X B rs r D hX G hr h hD hN => ?_)
  · obtain ⟨_, rfl, _⟩ := h; rfl
  · obtain ⟨f, cd, A, outer, s, H, E, rfl⟩ := hX
    obtain ⟨l, rfl, hl, rfl⟩ := h
    obtain ⟨h1, h2, h3, h4⟩ := layOk_iff.mp hl
    have inv : ∀ i, RowInv l (foldI (rowStep l) ([], []) (List.range l.length) i) ∧ (foldI (rowStep l) ([], []) (List.range l.length) i).1.length ≤ l.length := fun i => by
      have q := rows_inv h3 ((List.range l.length).take i) ([], []) (fun b hb => List.mem_range.mp (List.mem_of_mem_take hb)) ⟨List.nodup_nil, fun x hx => (by cases hx)⟩
      refine ⟨q.1, Nat.le_trans q.2 ?_⟩
      rw [List.length_take, List.length_range]
      show 0 + _ ≤ _
      omega
    refine gs_par2 1 2 G.nd (je_lst (ds := []) ja_nil) je_dnew ?_
    refine gs_for (List.range l.length) nI G (ji_eq (ji_range1 T (je_lenT T (je_var 0)) (by rw [List.length_map]; omega) (by omega)) (by rw [Int.toNat_natCast, List.length_map, KL.range_map])) (fun i => [.d (tNI l), .m ((foldI (rowStep l) ([], []) (List.range l.length) i).1.map tNI), .q (KL.seenQ (foldI (rowStep l) ([], []) (List.range l.length) i).2), .un, .un, .un]) (by walk_at "wk") ?_ ?_
    · intro B' sB i b hb
      have hbl : b < l.length := List.mem_range.mp (List.mem_of_getElem? hb)
      refine ⟨_, jg_name 3 G.nd, fun N hN2 bk => ?_⟩
      dsimp only at hN2
      rw [foldI_snoc _ _ hb] at hN2
      obtain ⟨⟨i1, i2⟩, i3⟩ := inv i
      generalize foldI (rowStep l) ([], []) (List.range l.length) i = st at *
      obtain ⟨fd, seen⟩ := st
      dsimp only at i1 i2 i3 hN2
      refine gs_par2 4 5 G.nd (je_lst (ds := []) ja_nil) (je_var 3) ?_
      refine gs_while (ι := ORs) (fun x => x.f) (fun x => [.d (tNI l), .m (fd.map tNI), .q (KL.seenQ (seen ++ x.sm)), .d (nI b), .m (NI x.sm), .d (nI x.here)]) ⟨l.length + 1, [], b⟩ G (by rw [List.append_nil]; walk_at "wk")
        (fun x => x.here < l.length ∧ (seen ++ x.sm).Nodup ∧ (∀ y ∈ seen ++ x.sm, y < l.length) ∧ x.sm ++ orb l x.f (seen ++ x.sm) x.here = orb l (l.length + 1) seen b ∧ l.length < x.f + (seen ++ x.sm).length)
        ⟨hbl, by rw [List.append_nil]; exact i1, by rw [List.append_nil]; exact i2, by rw [List.append_nil, List.nil_append], by show l.length < l.length + 1 + _; omega⟩ ?_
      rintro ⟨f', sm, here⟩ ⟨j1, j2, j3, j4, j5⟩
      dsimp only at j1 j2 j3 j4 j5 ⊢
      have jl : (seen ++ sm).length ≤ l.length := by
        have q := nodup_same_len (m := List.range l.length) j2 fun x hx => List.mem_range.mpr (j3 x hx)
        rw [List.length_range] at q
        exact q
      have jl2 := jl
      rw [List.length_append] at jl2
      refine ⟨_, jt_eq (jt_dni (hu_of hr) (je_var 5) 2) (seenQ_not _), fun hk N hNx bk => ?_, fun hk => ?_⟩
      · have hnm : here ∉ seen ++ sm := ndec_true hk
        obtain ⟨f2, rfl⟩ : ∃ f2, f' = f2 + 1 := ⟨f' - 1, by omega⟩
        have eo : orb l (f2 + 1) (seen ++ sm) here = here :: orb l f2 (seen ++ sm ++ [here]) (l.getD here 0) := by
          rw [orb, if_neg hnm]
        refine gs_dput (kvs := KL.seenQ (seen ++ sm)) (hu_of hr) 2 (je_var 5) je_bl (by rw [seenQ_val, if_neg hnm]) (by unfold KL.seenQ; rw [List.length_map]; omega) ?_
        refine gs_append (xs := NI sm) 4 (je_var 5) (by rw [List.length_map]; omega) ?_
        refine gs_set 5 G.nd (je_ixT (je_var 0) (je_var 5) (atI_nat' (by rw [List.getElem?_map, getD_mem j1]; rfl))) ?_
        refine gs_nil fun σ H R => hNx ⟨f2, sm ++ [here], l.getD here 0⟩ ⟨getD_lt h3 j1, ?_, ?_, ?_, ?_⟩ (Nat.lt_succ_self _) σ H (R.wk ?_)
        · show (seen ++ (sm ++ [here])).Nodup
          rw [← List.append_assoc]
          exact List.nodup_append.mpr ⟨j2, by simp, fun a ha b hb e => hnm (by rw [List.mem_singleton] at hb; rw [← hb, ← e]; exact ha)⟩
        · show ∀ y ∈ seen ++ (sm ++ [here]), y < l.length
          intro y hy
          rw [← List.append_assoc] at hy
          rcases List.mem_append.mp hy with z | z
          · exact j3 y z
          · rw [List.mem_singleton.mp z]; exact j1
        · show (sm ++ [here]) ++ orb l f2 (seen ++ (sm ++ [here])) (l.getD here 0) = _
          rw [← List.append_assoc seen, List.append_assoc, ← j4, eo]
          rfl
        · show l.length < f2 + (seen ++ (sm ++ [here])).length
          rw [← List.append_assoc, List.length_append, List.length_singleton]
          omega
        · dsimp only
          rw [seenQ_snoc, List.append_assoc]
          walk_at "wk"
      · have hm : here ∈ seen ++ sm := ndec_false hk
        have eo : orb l f' (seen ++ sm) here = [] := by
          cases f' with
          | zero => rfl
          | succ f2 => rw [orb, if_pos hm]
        rw [eo, List.append_nil] at j4
        refine gs_if0 (jt_c (jc_neLN (ms := []) (by have := hr.un; omega)) (je_varL 4) (je_ml (je_lst (ds := []) ja_nil))) (fun hc => ?_) (fun hc => ?_)
        · have hne : ¬ sm = [] := by simpa using hc
          have es : rowStep l (fd, seen) b = (fd ++ [sm], seen ++ sm) := by
            unfold rowStep
            dsimp only
            rw [← j4, if_neg hne]
          rw [es] at hN2
          exact gs_append (xs := fd.map tNI) 1 (je_tupleL T (je_varL 4)) (by rw [List.length_map]; omega) (gs_nil (gs_nil fun σ H R => hN2 σ H (R.wk (by walk_at "wk"))))
        · have he : sm = [] := by simpa using hc
          have es : rowStep l (fd, seen) b = (fd, seen) := by
            unfold rowStep
            dsimp only
            rw [← j4, if_pos he]
          rw [es] at hN2
          refine gs_nil fun σ H R => hN2 σ H (R.wk ?_)
          rw [he, List.append_nil]
          walk_at "wk"
    · rw [foldI_all]
      exact gs_retOwn 1 hD
def rRoundsOf (rs : List SV) (r : SV) : Prop := ∃ l : List Nat, rs = [.d (tNI l)] ∧ layOk l = true ∧ r = .m ((rowsM l).map tNI)
theorem fn_rounds_of (T : Bt mg) (F1 : FnD P w K mg base "need_laying" 3 rNeedLaying) (F2 : FnD P w K mg base "all_rounds_of" 1 rAllRoundsOf) (F : At K mg "rounds_of" sRoundsOf ["laying"]) : FnD P w K mg base "rounds_of" 4 rRoundsOf := by
  refine fnD F scRoundsOf (fun rs r h => ?_) (fun X B rs r D hX G hr h hD hN => ?_)
  · obtain ⟨_, rfl, _⟩ := h; rfl
  · obtain ⟨f, cd, A, outer, s, H, E, rfl⟩ := hX
    obtain ⟨l, rfl, hl, rfl⟩ := h
    exact gs_expr (je_call F1 hr (ja_cons (je_var 0) ja_nil) ⟨l, rfl, hl, rfl⟩) (gs_ret (je_call F2 (hr.mono (by decide)) (ja_cons (je_var 0) ja_nil) ⟨l, rfl, hl, rfl⟩) hD)
def rIsExchange (rs : List SV) (r : SV) : Prop := ∃ (l : List Nat) (i j : Nat), rs = [.d (tNI l), .d (tNI [i, j])] ∧ l.length ≤ 30 ∧ i < j ∧ j < l.length ∧ r = .d (.bool true)
theorem fn_is_exchange (T : Bt mg) (F1 : FnD P w K mg base "is_within" 1 rIsWithin) (F : At K mg "is_exchange" sIsExchange ["laying", "thing"]) : FnD P w K mg base "is_exchange" 2 rIsExchange := by
  refine fnD F scIsExchange (fun rs r h => ?_) (fun X B rs r D hX G hr h hD hN => ?_)
  · obtain ⟨_, _, _, rfl, _⟩ := h; rfl
  · obtain ⟨f, cd, A, outer, s, H, E, rfl⟩ := hX
    obtain ⟨l, i, j, rfl, h0, h1, h2, rfl⟩ := h
    refine gs_no (jt_eq (jw_t (jw_or (jt_not (jt_val (je_isiT T (je_var 1)))) fun _ => jw_or1 (jt_c jc_ne (je_lenT T (je_var 1)) je_int))) (by rfl)) ?_
    refine gs_ret (je_eq (je_and (je_allF (f := fun _ => true) T (je_lc1 (xs := [i, j]) (g := nI) (own := [("one", 2)]) G.nd (ji_tup (je_var 1)).toC (Nat.le_of_ble_eq_true rfl) (blkOk_by (N := nIsExchange) (sc := defScope sIsExchange) (by decide +kernel)) (fun _ _ _ _ _ x _ => jg_name 2 G.nd) (fun _ _ _ _ _ x hx => je_eq (je_call F1 hr (ja_cons (je_var 2) (ja_cons je_int (ja_cons (je_sub (je_lenT T (je_var 0)) je_int) ja_nil))) ⟨_, _, _, rfl, rfl⟩) ?_)))
      fun _ => je_one (je_c jc_lt (je_ixT (je_var 1) je_int rfl) (je_ixT (je_var 1) je_int rfl))) ?_) hD
    · have q : x < l.length := by
        rcases List.mem_cons.mp hx with z | z
        · omega
        · rw [List.mem_singleton.mp z]; exact h2
      rw [List.length_map]
      have q1 : decide ((0 : Int) ≤ (x : Nat)) = true := decide_eq_true (by omega)
      have q2 : decide (((x : Nat) : Int) ≤ (l.length : Nat) - 1) = true := decide_eq_true (by omega)
      rw [q1, q2]
      rfl
    · have q : decide (((i : Nat) : Int) < (j : Nat)) = true := decide_eq_true (by omega)
      rw [q]
      rfl
def rExchanged (rs : List SV) (r : SV) : Prop := ∃ (l : List Nat) (i j : Nat), rs = [.d (tNI l), .d (tNI [i, j])] ∧ i < l.length ∧ j < l.length ∧ l.length ≤ 60 ∧ r = .d (tNI (exM l i j))
theorem fn_exchanged (T : Bt mg) (F : At K mg "exchanged" sExchanged ["laying", "pair"]) : FnD P w K mg base "exchanged" 1 rExchanged := by
  refine fnD F scExchanged (fun rs r h => ?_) (fun X B rs r D hX G hr h hD hN => ?_)
  · obtain ⟨_, _, _, rfl, _⟩ := h; rfl
  · obtain ⟨f, cd, A, outer, s, H, E, rfl⟩ := hX
    obtain ⟨l, i, j, rfl, h1, h2, h3, rfl⟩ := h
    refine gs_set 2 G.nd (je_listT T (je_var 0)) ?_
    refine gs_swap (xs := NI l) (i := i) (j := j) (di := nI (l.getD i 0)) (dj := nI (l.getD j 0)) 2 (je_ixT (je_var 1) je_int rfl) (je_ixT (je_var 1) je_int rfl) (je_ixT (je_var 1) je_int rfl) (je_ixT (je_var 1) je_int rfl) (by rw [List.getElem?_map, getD_mem h1]; rfl) (by rw [List.getElem?_map, getD_mem h2]; rfl) ?_
    refine gs_ret (je_eq (je_tupleL T (je_varL 2)) ?_) hD
    unfold exM
    rw [tNI, NI, NI, List.map_set, List.map_set]
def rBehind (rs : List SV) (r : SV) : Prop := ∃ (l : List Nat) (prs : List (Nat × Nat)), rs = [.d (tNI l), .l (prs.map fun q => tNI [q.1, q.2])] ∧ layOk l = true ∧ prs.length ≤ 60 ∧ (∀ q ∈ prs, q.1 < q.2 ∧ q.2 < l.length) ∧ r = .d (tNI (prs.foldl (fun l q => exM l q.1 q.2) l))
theorem exs_len (l : List Nat) : ∀ prs : List (Nat × Nat), (prs.foldl (fun l q => exM l q.1 q.2) l).length = l.length
  | [] => rfl
  | q :: prs => by
    rw [List.foldl_cons, exs_len (exM l q.1 q.2) prs, exM_len]
theorem fn_behind (T : Bt mg) (F1 : FnD P w K mg base "need_laying" 3 rNeedLaying) (F2 : FnD P w K mg base "is_exchange" 2 rIsExchange) (F3 : FnD P w K mg base "exchanged" 1 rExchanged) (F : At K mg "behind" sBehind ["laying", "row"]) : FnD P w K mg base "behind" 4 rBehind := by
  refine fnD F scBehind (fun rs r h => ?_) (fun X B rs r D hX G hr h hD hN => ?_)
  · obtain ⟨_, _, rfl, _⟩ := h; rfl
  · obtain ⟨f, cd, A, outer, s, H, E, rfl⟩ := hX
    obtain ⟨l, prs, rfl, hl, h60, hp, rfl⟩ := h
    obtain ⟨h1, h2, h3, h4⟩ := layOk_iff.mp hl
    refine gs_expr (je_call F1 hr (ja_cons (je_var 0) ja_nil) ⟨l, rfl, hl, rfl⟩) ?_
    refine gs_no (jt_eq (jw_t (jw_or (jt_not (jt_val (je_isiLs T (je_varL 1)))) fun _ => jw_or (jt_c jc_gt (je_lenL T (je_varL 1)) je_int) fun _ => jw_or1 (jt_not (jt_val
      (je_allF (f := fun _ => true) T (je_lc1 (xs := prs) (g := fun q => tNI [q.1, q.2]) (own := [("pair", 2)]) G.nd (ji_listC (je_varL 1)) (by omega) (blkOk_by (N := nBehind) (sc := defScope sBehind) (by decide +kernel)) (fun _ _ _ _ _ x _ => jg_name 2 G.nd) (fun _ _ _ _ _ x hx => je_call F2 (hr.mono (by decide)) (ja_cons (je_var 0) (ja_cons (je_var 2) ja_nil)) ⟨l, x.1, x.2, rfl, h2, (hp x hx).1, (hp x hx).2, rfl⟩))))))) ?_) ?_
    · rw [List.length_map]
      have q : decide ((60 : Int) < (prs.length : Nat)) = false := decide_eq_false (by omega)
      rw [q]
      simp
    · refine gs_for prs (fun q => tNI [q.1, q.2]) G (ji_listV 1) (fun i => [.d (tNI (foldI (fun l q => exM l q.1 q.2) l prs i)), .l (prs.map fun q => tNI [q.1, q.2]), .un]) (by walk_at "wk") ?_ ?_
      · intro B' sB i x hx
        have hq := hp x (List.mem_of_getElem? hx)
        refine ⟨_, jg_name 2 G.nd, fun N hN2 bk => ?_⟩
        dsimp only at hN2
        rw [foldI_snoc _ _ hx] at hN2
        have hlen : (foldI (fun (l : List Nat) (q : Nat × Nat) => exM l q.1 q.2) l prs i).length = l.length := exs_len l (prs.take i)
        exact gs_set 0 G.nd (je_call F3 (hr.mono (by decide)) (ja_cons (je_var 0) (ja_cons (je_var 2) ja_nil)) ⟨_, x.1, x.2, rfl, by rw [hlen]; omega, by rw [hlen]; exact hq.2, by rw [hlen]; omega, rfl⟩) (gs_nil fun σ H R => hN2 σ H (R.wk (by walk_at "wk")))
      · rw [foldI_all]
        exact gs_ret (je_var 0) hD
end
end K13

namespace K13
open PySem PySem.Spec PyProof.Rows L2 KL
local macro_rules | `(tactic| walk_at "wk") => `(tactic| (repeat (first | exact Wk.nil | refine Wk.cons (Or.inl rfl) ?_ | refine Wk.cons (Or.inr (Or.inl rfl)) ?_ | refine Wk.cons (Or.inr (Or.inr ⟨_, rfl, rfl⟩)) ?_ | refine Wk.cons (Or.inl (by first | (simp only [NI, SS, List.map_append, List.map_cons, List.map_nil, *]; done) | (simp [NI, SS, *]; done))) ?_)))
/-! ### the law's own drawing -/
def stP : Int := 2305843009213693951
structure DrS where
  found : List Int
  rest : Int
  st : Int
def drStep (size : Int) (x : DrS) (k : Nat) : DrS :=
  if 2 < k ∧ 0 < x.rest then ⟨x.found ++ [x.rest % size], x.rest / size, (x.st * x.st + 48271 * x.st + k + 1) % stP⟩
  else if 2 < k then ⟨x.found ++ [(x.st * x.st + 48271 * x.st + k + 1) % stP / 4096 % size], x.rest, (x.st * x.st + 48271 * x.st + k + 1) % stP⟩
  else ⟨x.found, x.rest, (x.st * x.st + 48271 * x.st + k + 1) % stP⟩
def drStart (cell : Int) : DrS := ⟨[], cell * (if decide (10 ^ 18 ≤ cell) then 1 else 0), cell % stP⟩
def drawsM (cell : Int) (many : Nat) (size : Int) : List Int := ((List.range (many + 3)).foldl (drStep size) (drStart cell)).found
structure DrInv (size : Int) (n : Nat) (x : DrS) : Prop where
  lo : 0 ≤ x.st
  hi : x.st < stP
  len : x.found.length = n - 3
  pos : ∀ y ∈ x.found, 0 ≤ y
theorem drStep_inv {size : Int} (hs : 0 < size) {n : Nat} {x : DrS} (h : DrInv size n x) : DrInv size (n + 1) (drStep size x n) := by
  have e1 := Int.emod_nonneg (x.st * x.st + 48271 * x.st + n + 1) (b := stP) (by decide)
  have e2 := Int.emod_lt_of_pos (x.st * x.st + 48271 * x.st + n + 1) (b := stP) (by decide)
  have hl := h.len
  unfold drStep
  split
  · rename_i q
    refine ⟨e1, e2, ?_, fun y hy => ?_⟩
    · show (x.found ++ [_]).length = _
      rw [List.length_append, List.length_singleton]
      omega
    · rcases List.mem_append.mp hy with z | z
      · exact h.pos y z
      · rw [List.mem_singleton.mp z]
        exact Int.emod_nonneg _ (by omega)
  · split
    · rename_i q
      refine ⟨e1, e2, ?_, fun y hy => ?_⟩
      · show (x.found ++ [_]).length = _
        rw [List.length_append, List.length_singleton]
        omega
      · rcases List.mem_append.mp hy with z | z
        · exact h.pos y z
        · rw [List.mem_singleton.mp z]
          exact Int.emod_nonneg _ (by omega)
    · rename_i q
      exact ⟨e1, e2, by show x.found.length = _; omega, h.pos⟩
theorem drStart_inv (cell size : Int) : DrInv size 0 (drStart cell) := ⟨Int.emod_nonneg _ (by decide), Int.emod_lt_of_pos _ (by decide), rfl, fun y hy => (by cases hy)⟩
theorem dr_inv (cell : Int) {size : Int} (hs : 0 < size) : ∀ n : Nat, DrInv size n ((List.range n).foldl (drStep size) (drStart cell))
  | 0 => drStart_inv cell size
  | n + 1 => by
    rw [List.range_succ, List.foldl_append]
    exact drStep_inv hs (dr_inv cell hs n)
theorem foldI_range {β : Type} (f : β → Nat → β) (b : β) {n i : Nat} (h : i ≤ n) : foldI f b (List.range n) i = (List.range i).foldl f b := by
  unfold foldI
  rw [List.take_range, Nat.min_eq_left h]
section
variable {P : Program} {w : World} {K : PySem.W.Frag} {mg : Str → Option Value} {base : Heap}
def rDraws (rs : List SV) (r : SV) : Prop := ∃ cell : Int, rs = [.d (.int cell), .d (.int 400), .d (.int 1000)] ∧ r = .m ((drawsM cell 400 1000).map PyData.int)
theorem fn_draws (T : Bt mg) (F : At K mg "_law_draws" sLawDraws ["cell", "many", "size"]) : FnD P w K mg base "_law_draws" 1 rDraws := by
  refine fnD F scLawDraws (fun rs r h => ?_) (fun X B rs r D hX G hr h hD hN => ?_)
  · obtain ⟨_, rfl, _⟩ := h; rfl
  · obtain ⟨f, cd, A, outer, s, H, E, rfl⟩ := hX
    obtain ⟨cell, rfl, rfl⟩ := h
    refine gs_set 3 G.nd (je_lst (ds := []) ja_nil) ?_
    refine gs_set 4 G.nd (je_mul (je_var 0) (je_intB T (je_c jc_ge (je_var 0) (je_pow je_int je_int ⟨by decide, by decide, by decide⟩))) ?_) ?_
    · exact .inr (by split <;> exact ⟨by decide, by decide⟩)
    refine gs_set 5 G.nd (je_mod (je_var 0) je_int (by decide)) ?_
    refine gs_for (List.range 403) nI G (ji_eq (ji_range1 (n := 400 + 3) T (je_add (je_var 1) je_int) (by decide) (by decide)) (by rw [show ((400 : Int) + 3).toNat = 403 by decide]; exact KL.range_map 403)) (fun i => [.d (.int cell), .d (.int 400), .d (.int 1000), .m ((foldI (drStep 1000) (drStart cell) (List.range 403) i).found.map PyData.int), .d (.int (foldI (drStep 1000) (drStart cell) (List.range 403) i).rest), .d (.int (foldI (drStep 1000) (drStart cell) (List.range 403) i).st), .un]) (by walk_at "wk") ?_ ?_
    · intro B' sB i n hn
      have hn2 : n = i ∧ i < 403 := by
        have il := (List.getElem?_eq_some_iff.mp hn).1
        rw [List.length_range] at il
        rw [List.getElem?_range il] at hn
        exact ⟨(Option.some.inj hn).symm, il⟩
      obtain ⟨rfl, il⟩ := hn2
      refine ⟨_, jg_name 6 G.nd, fun N hN2 bk => ?_⟩
      dsimp only at hN2
      rw [foldI_snoc _ _ hn] at hN2
      have inv := dr_inv cell (size := 1000) (by decide) n
      rw [← foldI_range (drStep 1000) (drStart cell) (n := 403) (Nat.le_of_lt il)] at inv
      generalize foldI (drStep 1000) (drStart cell) (List.range 403) n = x at *
      obtain ⟨fd, rst, st⟩ := x
      obtain ⟨lo, hi, hlen, hpos⟩ := inv
      dsimp only at lo hi hlen hpos hN2 ⊢
      have hP : stP = 2305843009213693951 := rfl
      have s1 : CMul st st := .inl ⟨by omega, by omega⟩
      have s2 : CMul 48271 st := .inl ⟨by decide, by decide⟩
      have e63 : (2 : Int) ^ 64 = 18446744073709551616 := by decide
      refine gs_set 5 G.nd (je_mod (je_add (je_add (je_add (je_mul (je_var 5) (je_var 5) s1) (je_mul je_int (je_var 5) s2)) (je_var 6)) je_int) je_int (by decide)) ?_
      refine gs_if (jw_t (jw_and (jt_c jc_gt (je_var 6) je_int) fun _ => jw_and1 (jt_c jc_gt (je_var 4) je_int))) (fun hc => ?_) (fun hc => ?_)
      · rw [Bool.and_eq_true, decide_eq_true_eq, decide_eq_true_eq] at hc
        have es : drStep 1000 ⟨fd, rst, st⟩ n = ⟨fd ++ [rst % 1000], rst / 1000, (st * st + 48271 * st + n + 1) % stP⟩ := if_pos ⟨by omega, hc.2⟩
        rw [es] at hN2
        refine gs_append (xs := fd.map PyData.int) 3 (je_mod (je_var 4) (je_var 2) (by decide)) (by rw [List.length_map]; omega) ?_
        refine gs_set 4 G.nd (je_fdiv (je_var 4) (je_var 2) ⟨by decide, by decide⟩) (gs_nil (gs_nil fun σ H R => hN2 σ H (R.wk ?_)))
        dsimp only
        rw [List.map_append]
        walk_at "wk"
      · rw [Bool.and_eq_false_iff] at hc
        have hc' : ¬ (2 < n ∧ 0 < rst) := fun z => by
          rcases hc with q | q
          · have := of_decide_eq_false q; omega
          · have := of_decide_eq_false q; omega
        refine gs_if0 (jt_c jc_gt (je_var 6) je_int) (fun hd => ?_) (fun hd => ?_)
        · rw [decide_eq_true_eq] at hd
          have es : drStep 1000 ⟨fd, rst, st⟩ n = ⟨fd ++ [(st * st + 48271 * st + n + 1) % stP / 4096 % 1000], rst, (st * st + 48271 * st + n + 1) % stP⟩ := by
            unfold drStep
            rw [if_neg hc', if_pos (by omega)]
          rw [es] at hN2
          refine gs_append (xs := fd.map PyData.int) 3 (je_mod (je_fdiv (je_var 5) je_int ⟨by decide, by decide⟩) (je_var 2) (by decide)) (by rw [List.length_map]; omega) (gs_nil (gs_nil (gs_nil fun σ H R => hN2 σ H (R.wk ?_))))
          dsimp only
          rw [List.map_append]
          walk_at "wk"
        · rw [decide_eq_false_iff_not] at hd
          have es : drStep 1000 ⟨fd, rst, st⟩ n = ⟨fd, rst, (st * st + 48271 * st + n + 1) % stP⟩ := by
            unfold drStep
            rw [if_neg hc', if_neg (by omega)]
          rw [es] at hN2
          exact gs_nil (gs_nil fun σ H R => hN2 σ H (R.wk (by walk_at "wk")))
    · rw [List.length_range, foldI_range _ _ (Nat.le_refl _)]
      exact gs_retOwn 3 hD
/-- the law's reader: some int -/
def spCellAt (K : PySem.W.Frag) : Sp := fun vs H Q _ => ∃ (a : Addr) (ns : List Int) (k : Nat), vs = [.ref a, .int (k : Nat)] ∧ SqL K H a (ns.map V.int) ∧ ∀ x : Int, Q (.int x) H
/-- a def with a promise of its own -/
structure FnS (P : Program) (w : World) (K : PySem.W.Frag) (mg : Str → Option Value) (base : Heap) (n : Str) (k : Nat) (sp : Sp) : Prop where
  ex : ∃ (f : Addr) (fd : FuncData) (ps : List Str), FnOk P w K mg base CX0 k f fd ps sp ∧ mg n = some (.ref f) ∧ PySem.W.keepIn K (.ref f) = true ∧ Binds K fd ps []
theorem fn_cell_at (T : Bt mg) (F : At K mg "_law_cell_at" sLawCellAt ["script", "k"]) : FnS P w K mg base "_law_cell_at" 1 (spCellAt K) := by
  obtain ⟨f, fd, F1, hm, hb⟩ := F.ex
  refine ⟨f, fd, _, F1.ok scLawCellAt (fun vs H Q E h => ?_) (fun cdv A outer s H vs Q E hr h => ?_), hm, F1.kp, hb⟩
  · obtain ⟨a, ns, k, rfl, _⟩ := h; rfl
  · obtain ⟨a, ns, k, rfl, hs, q⟩ := h
    refine ⟨_, pss_cons (ps_if (pt_cmpR op_lt (pv 1) (pe_callB call_len_seq (by rfl) T.len PySem.boot_len (pa_cons (pv 0) pa_nil)) (nomark _)) (pss_one (ps_ret (pe_ix ix_list (pv 0) (pv 1) (fun _ _ => rfl)))) pss_nil) (pss_one (ps_ret pe_int)), ?_⟩
    refine ⟨_, rfl, _, rfl, a, _, rfl, .inl hs, _, _, rfl, rfl, _, rfl, ?_⟩
    refine ite2 (fun hk => ?_) (fun hk => ?_)
    · have hk2 := of_decide_eq_true hk
      rw [List.length_map] at hk2
      have hk3 : k < ns.length := by omega
      exact ⟨_, rfl, _, rfl, a, _, _, .int ns[k], rfl, rfl, hs, atI_nat (by rw [List.getElem?_map, List.getElem?_eq_getElem hk3]; rfl), q _⟩
    · exact q 0
/-- a new bag -/
def NewBag (H H' : Hp) (b l : Addr) : Prop := Same H H' ∧ H b = none ∧ H l = none ∧ BagAt H' b l
def spBag (K : PySem.W.Frag) : Sp := fun vs H Q _ => ∃ (a : Addr) (ns : List Int) (k : Nat), vs = [.ref a, .int (k : Nat)] ∧ SqL K H a (ns.map V.int) ∧ ∀ b l H', NewBag H H' b l → Q (.ref b) H'
theorem draws_ns (cell : Int) : BagNs (drawsM cell 400 1000) := by
  have inv := dr_inv cell (size := 1000) (by decide) (400 + 3)
  exact ⟨inv.len, inv.pos⟩
theorem tds_intV {H : Hp} {vs : List V} {ns : List Int} (t : TDs K H vs (ns.map PyData.int)) : vs = ns.map V.int := t.ints
theorem fn_bag (T : Bt mg) (F1 : FnS P w K mg base "_law_cell_at" 1 (spCellAt K)) (F2 : FnD P w K mg base "_law_draws" 1 rDraws) (F : At K mg "_law_bag" sLawBag ["script", "k"]) : FnS P w K mg base "_law_bag" 2 (spBag K) := by
  obtain ⟨f, fd, F0, hm, hb⟩ := F.ex
  obtain ⟨f1, fd1, ps1, g1, m1, k1, b1⟩ := F1.ex
  obtain ⟨f2, fd2, ps2, g2, m2, k2, b2⟩ := F2.ex
  refine ⟨f, fd, _, F0.ok scLawBag (fun vs H Q E h => ?_) (fun cdv A outer s H vs Q E hr h => ?_), hm, F0.kp, hb⟩
  · obtain ⟨a, ns, k, rfl, _⟩ := h; rfl
  · obtain ⟨a, ns, k, rfl, hs, q⟩ := h
    refine ⟨_, pss_one (ps_ret (pe_lst (pa_cons (pe_call g2 hr rfl m2 k2 b2 .nil pass0 (pa_cons (pe_call g1 hr rfl m1 k1 b1 .nil pass0 (pa_cons (pv 0) (pa_cons (pv 1) pa_nil))) (pa_cons pe_int (pa_cons pe_int pa_nil)))) (pa_cons pe_int pa_nil)))), ?_⟩
    refine ⟨_, rfl, _, rfl, a, ns, k, rfl, hs, fun x => ?_⟩
    refine ⟨[.d (.int x), .d (.int 400), .d (.int 1000)], _, ⟨x, rfl, rfl⟩, .cons (.int x) (.cons (.int 400) (.cons (.int 1000) .nil)), fun v H1 s1 t1 => ?_⟩
    obtain ⟨l, vs, rfl, hl0, hl, t⟩ := t1
    refine ⟨by show 2 ≤ sizeLine; decide, fun b hb => q b l _ ⟨s1.trans (same_new hb), s1.free hb, hl0, ?_, 0, drawsM x 400 1000, Int.le_refl _, upd_same, ?_, draws_ns x⟩⟩
    · exact (ne_of_none hl hb).symm
    · rw [upd_ne (ne_of_none hl hb), ← t.ints]
      exact hl
def BagsAt (H : Hp) (bls : List (Addr × Addr)) : Prop := (∀ x ∈ bls, BagAt H x.1 x.2) ∧ (bls.map (·.1)).Nodup ∧ ∀ x ∈ bls, ∀ y ∈ bls, x.1 ≠ y.2
def spBags (K : PySem.W.Frag) : Sp := fun vs H Q _ => ∃ (a : Addr) (ns : List Int), vs = [.ref a, .int 8] ∧ SqL K H a (ns.map V.int) ∧ ∀ p bls H', Same H H' → H' p = some (.lst (bls.map fun x : Addr × Addr => V.ref x.1)) → BagsAt H' bls → (∀ x ∈ bls, x.1 ≠ p) → Q (.ref p) H'
theorem BagsAt.ex {H H' : Hp} {bls : List (Addr × Addr)} (s : Same H H') (h : BagsAt H bls) : BagsAt H' bls := ⟨fun x hx => (h.1 x hx).ex s, h.2⟩
theorem BagAt.there {H : Hp} {b l : Addr} (h : BagAt H b l) : H b ≠ none ∧ H l ≠ none := by
  obtain ⟨_, c, ns, _, e1, e2, _⟩ := h
  exact ⟨fun z => (by rw [z] at e1; cases e1), fun z => (by rw [z] at e2; cases e2)⟩
theorem BagsAt.snoc {H H' : Hp} {bls : List (Addr × Addr)} {b l : Addr} (h : BagsAt H bls) (n : NewBag H H' b l) : BagsAt H' (bls ++ [(b, l)]) := by
  obtain ⟨s, hb, hl, hbag⟩ := n
  obtain ⟨h1, h2, h3⟩ := h.ex s
  have old : ∀ x ∈ bls, x.1 ≠ b ∧ x.2 ≠ b ∧ x.1 ≠ l := fun x hx => by
    have q := BagAt.there (H := H) (h.1 x hx)
    exact ⟨fun z => q.1 (by rw [z]; exact hb), fun z => q.2 (by rw [z]; exact hb), fun z => q.1 (by rw [z]; exact hl)⟩
  refine ⟨fun x hx => ?_, ?_, fun x hx y hy => ?_⟩
  · rcases List.mem_append.mp hx with z | z
    · exact h1 x z
    · rw [List.mem_singleton.mp z]; exact hbag
  · rw [List.map_append]
    refine List.nodup_append.mpr ⟨h2, by simp, fun a ha c hc e => ?_⟩
    obtain ⟨x, hx, ex⟩ := List.mem_map.mp ha
    rw [List.map_cons, List.map_nil, List.mem_singleton] at hc
    exact (old x hx).1 (by rw [ex, e, hc])
  · rcases List.mem_append.mp hx with z | z
    · rcases List.mem_append.mp hy with z' | z'
      · exact h3 x z y z'
      · rw [List.mem_singleton.mp z']; exact (old x z).2.2
    · rcases List.mem_append.mp hy with z' | z'
      · rw [List.mem_singleton.mp z]; exact (old y z').2.1.symm
      · rw [List.mem_singleton.mp z, List.mem_singleton.mp z']; exact hbag.1
theorem fn_bags (T : Bt mg) (F1 : FnS P w K mg base "_law_bag" 2 (spBag K)) (F : At K mg "_law_bags" sLawBags ["script", "limit"]) : FnS P w K mg base "_law_bags" 3 (spBags K) := by
  obtain ⟨f, fd, F0, hm, hb⟩ := F.ex
  obtain ⟨f1, fd1, ps1, g1, m1, k1, b1⟩ := F1.ex
  refine ⟨f, fd, _, F0.ok scLawBags (fun vs H Q E h => ?_) (fun cdv A outer s H vs Q E hr h => ?_), hm, F0.kp, hb⟩
  · obtain ⟨a, ns, rfl, _⟩ := h; rfl
  · obtain ⟨a, ns, rfl, hs, q⟩ := h
    refine ⟨_, pss_one (ps_ret (pe_lc (own := [("k", 2)]) (g := gName 2) (tt := tYes) rfl scLawBags.nd (pi_range1 rfl T.range (pa_cons (pe_callB (call_max2 rfl) (by rfl) T.max boot_max (pa_cons pe_int (pa_cons (pe_callB (call_min2 rfl) (by rfl) T.min boot_min (pa_cons (pv 1) (pa_cons (pe_callB call_len_seq (by rfl) T.len PySem.boot_len (pa_cons (pv 0) pa_nil)) pa_nil))) pa_nil))) pa_nil))
      (blkOk_by (N := nLawBags) (sc := defScope sLawBags) (by decide +kernel)) (fun _ _ _ _ _ => pg_name (i := 2) scLawBags.nd rfl (Or.inl rfl)) (fun _ _ _ _ _ => pts_nil) (fun _ _ _ _ _ => pe_call g1 hr rfl m1 k1 b1 .nil pass0 (pa_cons (pv 0) (pa_cons (pv 2) pa_nil))))), ?_⟩
    refine ⟨_, rfl, _, rfl, a, _, rfl, .inl hs, 8, _, rfl, 1, _, rfl, ?_⟩
    have bd : ∀ n : Int, 0 ≤ n → ∃ m : Nat, (if (if n < 8 then n else 8) > 1 then (if n < 8 then n else 8) else 1) = (m : Int) ∧ m ≤ 8 := fun n hn => by
      by_cases c1 : n < 8
      · rw [if_pos c1]
        by_cases c2 : n > 1
        · rw [if_pos c2]; exact ⟨n.toNat, by omega, by omega⟩
        · rw [if_neg c2]; exact ⟨1, rfl, by decide⟩
      · rw [if_neg c1, if_pos (by decide)]
        exact ⟨8, rfl, by decide⟩
    obtain ⟨m, em, hm8⟩ := bd (((ns.map V.int).length : Nat) : Int) (by omega)
    refine ⟨(m : Int), by rw [em], by omega, by omega, fun Dl hD => ?_⟩
    rw [Int.toNat_natCast]
    refine lc_range (lo := 0) (n := m) (fun i H' => Same H H' ∧ ∃ bls, H' Dl = some (.lst (bls.map fun x : Addr × Addr => V.ref x.1)) ∧ bls.length = i ∧ BagsAt H' bls ∧ ∀ x ∈ bls, x.1 ≠ Dl)
      ⟨same_new hD, [], upd_same, rfl, ⟨fun x hx => (by cases hx), List.nodup_nil, fun x hx => (by cases hx)⟩, fun x hx => (by cases hx)⟩ (fun i H' hi p => ?_) (fun H' p => ?_)
    · obtain ⟨p1, bls, p2, p3, p4, p5⟩ := p
      refine ⟨rfl, ?_⟩
      simp only [tYes, ↓reduceIte]
      refine ⟨_, rfl, _, rfl, a, ns, i, by rw [Int.zero_add]; rfl, ?_, fun b l H2 nb => ?_⟩
      · exact p1.seq hs
      · refine ⟨bls.map fun x : Addr × Addr => V.ref x.1, nb.1 _ _ p2, ?_, ?_⟩
        · rw [List.length_map, p3]
          exact Nat.lt_of_lt_of_le (by omega : i < 1000) (by decide)
        · have hDb : b ≠ Dl := fun z => by rw [← z, nb.2.1] at p2; cases p2
          have hDl : l ≠ Dl := fun z => by rw [← z, nb.2.2.1] at p2; cases p2
          have bs := p4.snoc nb
          have hall : ∀ x ∈ bls ++ [(b, l)], x.1 ≠ Dl := fun x hx => by
            rcases List.mem_append.mp hx with z | z
            · exact p5 x z
            · rw [List.mem_singleton.mp z]; exact hDb
          have hall2 : ∀ x ∈ bls ++ [(b, l)], x.2 ≠ Dl := fun x hx z => by
            obtain ⟨_, c, ms, _, e1, e2, e3⟩ := bs.1 x hx
            rw [z, nb.1 _ _ p2] at e2
            injection e2 with e2
            injection e2 with e2
            cases bls with
            | nil =>
              have q := congrArg List.length e2
              rw [List.length_map, List.length_map, e3.1] at q
              cases q
            | cons y r =>
              cases ms with
              | nil => cases e2
              | cons n ms => cases e2
          refine ⟨same_mut (p1.trans nb.1) hD, bls ++ [(b, l)], ?_, by rw [List.length_append, List.length_singleton, p3], ⟨fun x hx => (bs.1 x hx).upd (hall x hx) (hall2 x hx), bs.2⟩, hall⟩
          rw [upd_same, List.map_append]
          rfl
    · obtain ⟨p1, bls, p2, _, p4, p5⟩ := p
      exact q Dl bls H' p1 p2 p4 p5
def preTake (m : Nat) : Prop := 1 ≤ m ∧ m ≤ 1000
def poTake (m : Nat) (d : PyData) : Prop := ∃ r : Nat, r < m ∧ d = nI r
theorem fn_take (T : Bt mg) (F : At K mg "_law_take" sLawTake ["bag", "many"]) : FnG P w K mg base "_law_take" 1 preTake poTake := by
  refine fnG (u := 0) F scLawTake rfl (fun X B b l m D hX G hr hp hD σ H R => ?_)
  obtain ⟨f, cd, A, outer, s, H0, E, rfl⟩ := hX
  obtain ⟨o, e0, rfl, n, c, ns, hc, hb, hl, hns⟩ := R.at_ 0 _ rfl
  obtain ⟨o, e1, v, rfl, tv⟩ := R.at_ 1 _ rfl
  have ev := tv.inj_int
  subst ev
  refine ⟨_, pss_cons (ps_asg (pe_op op_add (pe_ix ix_list (pv 0) pe_int (fun _ _ => rfl)) pe_int) (pg_sub (pv 0) pe_int set_list)) (pss_one (ps_ret (pe_op op_mod (pe_ix ix_list (pe_ix ix_list (pv 0) pe_int (fun _ _ => rfl)) (pe_op op_mod (pe_ix ix_list (pv 0) pe_int (fun _ _ => rfl)) (pe_callB call_len_seq (by rfl) T.len PySem.boot_len (pa_cons (pe_ix ix_list (pv 0) pe_int (fun _ _ => rfl)) pa_nil))) (fun _ _ => rfl)) (pv 1)))), ?_⟩
  refine ⟨_, e0, b, _, _, _, rfl, rfl, SqL.of hb, rfl, c, 1, rfl, rfl, _, e0, b, _, _, 1, rfl, rfl, hb, rfl, ?_⟩
  have hb2 : (upd H b (.lst ([V.ref l, V.int c].set 1 (.int (c + 1))))) b = some (.lst [V.ref l, V.int (c + 1)]) := upd_same
  have hl2 : (upd H b (.lst ([V.ref l, V.int c].set 1 (.int (c + 1))))) l = some (.lst (ns.map V.int)) := by
    rw [upd_ne (Ne.symm n)]
    exact hl
  have hb' : BagAt (upd H b (.lst ([V.ref l, V.int c].set 1 (.int (c + 1))))) b l := ⟨n, c + 1, ns, by omega, hb2, hl2, hns⟩
  have ky : ∀ a o, a ≠ b → H a = some o → (upd H b (.lst ([V.ref l, V.int c].set 1 (.int (c + 1))))) a = some o := fun a o ha e => by
    rw [upd_ne ha]
    exact e
  obtain ⟨R2, _⟩ := R.bag (i := 0) rfl ky hb'
  generalize upd H b (.lst ([V.ref l, V.int c].set 1 (.int (c + 1)))) = H2 at *
  have z1 : (0 : Int) < ((ns.map V.int).length : Nat) := by rw [List.length_map, hns.1]; decide
  have z2 : 0 ≤ (c + 1) % ((ns.map V.int).length : Nat) := Int.emod_nonneg _ (by omega)
  have z3 : (c + 1) % ((ns.map V.int).length : Nat) < ((ns.map V.int).length : Nat) := Int.emod_lt_of_pos _ z1
  obtain ⟨j, ej⟩ : ∃ j : Nat, (c + 1) % ((ns.map V.int).length : Nat) = (j : Int) := ⟨((c + 1) % ((ns.map V.int).length : Nat)).toNat, by omega⟩
  rw [List.length_map] at ej z3
  have jl : j < ns.length := by omega
  have hm : (0 : Int) < (m : Nat) := by have := hp.1; omega
  refine ⟨_, e0, b, _, _, _, rfl, rfl, SqL.of hb2, rfl, _, e0, b, _, _, _, rfl, rfl, SqL.of hb2, rfl, _, e0, b, _, _, _, rfl, rfl, SqL.of hb2, rfl, l, _, rfl, .inl (SqL.of hl2), c + 1, _, rfl, rfl, z1, l, _, _, .int ns[j], rfl, rfl, SqL.of hl2, ?_, _, e1, ns[j], (m : Int), rfl, rfl, hm, ?_⟩
  · rw [List.length_map, ej]
    exact atI_nat (by rw [List.getElem?_map, List.getElem?_eq_getElem jl]; rfl)
  · have r0 := Int.emod_nonneg ns[j] (b := (m : Int)) (by omega)
    have r1 := Int.emod_lt_of_pos ns[j] hm
    refine hD _ _ (.int (ns[j] % (m : Int))) R2.ex hb' ⟨(ns[j] % (m : Int)).toNat, by omega, ?_⟩ (.int _)
    show PyData.int _ = PyData.int _
    congr 1
    omega
end
end K13

namespace K13
open PySem PySem.Spec PyProof.Rows L2 KL
local macro_rules | `(tactic| walk_at "wk") => `(tactic| (repeat (first | exact Wk.nil | refine Wk.cons (Or.inl rfl) ?_ | refine Wk.cons (Or.inr (Or.inl rfl)) ?_ | refine Wk.cons (Or.inr (Or.inr ⟨_, rfl, rfl⟩)) ?_ | refine Wk.cons (Or.inl (by first | (simp only [NI, SS, List.map_append, List.map_cons, List.map_nil, *]; done) | (simp [NI, SS, *]; done))) ?_)))
/-! ### a laying out of a bag -/
section
variable {P : Program} {w : World} {K : PySem.W.Frag} {mg : Str → Option Value} {base : Heap}
def pre30 (m : Nat) : Prop := 1 ≤ m ∧ m ≤ 30
def poMixed (m : Nat) (d : PyData) : Prop := ∃ ms : List Nat, ms.Perm (List.range' 1 m) ∧ d = tNI ms
theorem fn_mixed (T : Bt mg) (F1 : FnG P w K mg base "_law_take" 1 preTake poTake) (F : At K mg "_law_mixed" sLawMixed ["bag", "many"]) : FnG P w K mg base "_law_mixed" 2 pre30 poMixed := by
  refine fnG (u := 2) F scLawMixed rfl (fun X B b l m D hX G hr hp hD => ?_)
  obtain ⟨f, cd, A, outer, s, H0, E, rfl⟩ := hX
  obtain ⟨m1, m30⟩ := hp
  refine gs_set 2 G.nd (je_lst (ds := []) ja_nil) ?_
  refine gs_forZ (List.range' 1 m) nI G (ji_eq (ji_range2 T je_int (je_add (je_var 1) je_int) (by omega)) (by rw [show ((m : Int) + 1 - 1).toNat = m by omega]; exact range2_map 1 m)) (fun i ms => ms.Perm (List.range' 1 i)) (fun i ms => [.g b l, .d (nI m), .m (NI ms), .un]) [] (.refl _) (by walk_at "wk") ?_ ?_
  · intro B' sB i x ms hx hz
    have il : i < m := by
      have q := (List.getElem?_eq_some_iff.mp hx).1
      rw [List.length_range'] at q
      exact q
    have ex : x = i + 1 := by
      rw [List.getElem?_range' (by omega)] at hx
      have q := Option.some.inj hx
      omega
    subst ex
    have hl := hz.length_eq
    rw [List.length_range'] at hl
    refine ⟨_, jg_name 3 G.nd, fun N hN2 bk => ?_⟩
    refine gs_insertM (xs := NI ms) (S := fun j => 0 ≤ j ∧ j < (i + 1 : Nat)) 2 (jm_imp (jm_call F1 hr 0 (je_var 3) ⟨by omega, by omega⟩) (fun d z => ?_)) (fun j hj => ⟨hj.1, by omega⟩) (je_var 3) (by rw [List.length_map]; omega) (fun j hj => gs_nil fun σ H R => hN2 (ms.take j.toNat ++ [i + 1] ++ ms.drop j.toNat) ?_ σ H (R.wk ?_))
    · obtain ⟨r, hr, rfl⟩ := z
      exact ⟨(r : Int), ⟨by omega, by omega⟩, rfl⟩
    · have q1 : (ms.take j.toNat ++ [i + 1] ++ ms.drop j.toNat).Perm ((i + 1) :: ms) := by
        have q2 := List.perm_middle (a := i + 1) (l₁ := ms.take j.toNat) (l₂ := ms.drop j.toNat)
        rw [List.take_append_drop] at q2
        rw [List.append_assoc]
        exact q2
      refine q1.trans ?_
      rw [List.range'_concat, show 1 + 1 * i = i + 1 by omega]
      exact (List.Perm.cons _ hz).trans (List.perm_append_singleton _ _).symm
    · have eq : NI (ms.take j.toNat ++ [i + 1] ++ ms.drop j.toNat) = (NI ms).take j.toNat ++ [nI (i + 1)] ++ (NI ms).drop j.toNat := by
        rw [NI, List.map_append, List.map_append, List.map_take, List.map_drop]
        rfl
      rw [eq]
      walk_at "wk"
  · intro ms hz
    rw [List.length_range'] at hz
    exact gs_retB (jm_pure (je_tupleL T (je_varL 2))) hD (fun d e => ⟨ms, hz, e⟩)
def poLaid (m : Nat) (d : PyData) : Prop := ∃ l : List Nat, layOk l = true ∧ l.length = m ∧ d = tNI l
theorem layOk_mixed {m : Nat} (h1 : 1 ≤ m) (h30 : m ≤ 30) {ms : List Nat} (h : ms.Perm (List.range' 1 m)) : layOk (ms.map (· - 1)) = true ∧ (ms.map (· - 1)).length = m := by
  have q : (ms.map (· - 1)).Perm (List.range m) := by
    refine (h.map _).trans ?_
    rw [List.range'_eq_map_range, List.map_map]
    have e : (List.range m).map ((· - 1) ∘ fun x => 1 + x) = List.range m := by
      refine Eq.trans (List.map_congr_left fun k _ => ?_) (List.map_id _)
      show 1 + k - 1 = id k
      show 1 + k - 1 = k
      omega
    rw [e]
  have l := q.length_eq
  rw [List.length_range] at l
  refine ⟨layOk_iff.mpr ⟨by omega, by omega, fun n hn => ?_, q.nodup_iff.mpr List.nodup_range⟩, l⟩
  rw [l]
  exact List.mem_range.mp (q.mem_iff.mp hn)
theorem fn_laid (T : Bt mg) (F1 : FnG P w K mg base "_law_mixed" 2 pre30 poMixed) (F : At K mg "_law_laid" sLawLaid ["bag", "many"]) : FnG P w K mg base "_law_laid" 3 pre30 poLaid := by
  refine fnG (u := 1) F scLawLaid rfl (fun X B b l m D hX G hr hp hD => ?_)
  obtain ⟨f, cd, A, outer, s, H0, E, rfl⟩ := hX
  obtain ⟨m1, m30⟩ := hp
  refine gs_retB (jm_tupLc (g := nI) (f := fun n : Nat => .int ((n : Int) - 1)) (Ok := fun ms => ms.Perm (List.range' 1 m)) (own := [("one", 2)]) T G.nd (jm_imp (jm_call F1 hr 0 (je_var 1) ⟨m1, m30⟩) (fun d z => ?_)) (blkOk_by (N := nLawLaid) (sc := defScope sLawLaid) (by decide +kernel)) (fun _ _ _ _ _ x => jg_name 2 G.nd) (fun _ _ _ _ _ x => je_sub (je_var 2) je_int)) hD (fun d z => ?_)
  · obtain ⟨ms, hm, rfl⟩ := z
    have q := hm.length_eq
    rw [List.length_range'] at q
    exact ⟨ms, hm, by omega, rfl⟩
  · obtain ⟨ms, hm, rfl⟩ := z
    obtain ⟨q1, q2⟩ := layOk_mixed m1 m30 hm
    refine ⟨ms.map (· - 1), q1, q2, ?_⟩
    rw [tNI, NI, List.map_map]
    congr 1
    refine List.map_congr_left fun n hn => ?_
    have := List.mem_range'_1.mp (hm.mem_iff.mp hn)
    show PyData.int _ = PyData.int ((n - 1 : Nat) : Int)
    congr 1
    omega
/-! ### its house -/
theorem nm_at {n : Nat} (h : n < 30) : atI ((List.range 30).map fun n => PyData.str (nmS n)) (n : Int) = some (.str (nmS n)) := atI_nat' (by rw [List.getElem?_map, List.getElem?_range h]; rfl)
def oneS (n : Nat) : Str := ⟨#[n]⟩
def nmL (n : Nat) : Str := (("l" : Str) ++ oneS (97 + n / 26)) ++ oneS (97 + n % 26)
theorem nmL_eq (n : Nat) : nmL n = nmS n := rfl
theorem nm_len {u : Str} (h : u.length ≤ 2) (n : Nat) : u.length + (oneS n).length ≤ 1000 := by
  have e : (oneS n).length = 1 := rfl
  omega
theorem nm_len1 : ("l" : Str).length ≤ 2 := by decide
theorem nm_len2 (n : Nat) : (("l" : Str) ++ oneS n).length ≤ 2 := by
  rw [Str.length_append]
  exact Nat.le_of_eq rfl
theorem let_len : lettersS.length ≤ 1000 := by decide
theorem zipIdx_get2 {l : List Nat} {x : Nat × Nat} (hx : x ∈ l.zipIdx) : l[x.2]? = some x.1 := List.mem_zipIdx_iff_getElem?.mp hx
def rAsHouse (rs : List SV) (r : SV) : Prop := ∃ l : List Nat, rs = [.d (tNI l)] ∧ layOk l = true ∧ r = .d (eHouse (hOf l))
theorem fn_as_house (T : Bt mg) (F : At K mg "_law_as_house" sLawAsHouse ["laying"]) : FnD P w K mg base "_law_as_house" 1 rAsHouse := by
  refine fnD F scLawAsHouse (fun rs r h => ?_) (fun X B rs r D hX G hr h hD hN => ?_)
  · obtain ⟨_, rfl, _⟩ := h; rfl
  · obtain ⟨f, cd, A, outer, s, H, E, rfl⟩ := hX
    obtain ⟨l, rfl, hl, rfl⟩ := h
    obtain ⟨l1, l30, llt, _⟩ := layOk_iff.mp hl
    refine gs_set (r := .d (.str lettersS)) 1 G.nd je_str ?_
    refine gs_set (r := .m ((List.range 30).map fun n => PyData.str (nmS n))) 2 G.nd (je_lc1 (xs := List.range 30) (g := nI) (f := fun n => PyData.str (nmL n)) (own := [("number", 3)]) G.nd (jic_eq (ji_range1 (n := 30) T je_int (by decide) (by decide)).toC (KL.range_map 30)) (by decide) (blkOk_by (N := nLawAsHouse) (sc := defScope sLawAsHouse) (by decide +kernel)) (fun _ _ _ _ _ x _ => jg_name 3 G.nd)
      (fun _ _ _ _ _ x hx => ?_)) ?_
    · have h1 : x < 30 := List.mem_range.mp hx
      refine je_adds (y := oneS (97 + x % 26)) (je_adds (x := "l") (y := oneS (97 + x / 26)) je_str (je_ixS (z := lettersS) (i := (x : Int) / 26) (je_var 1) (je_fdiv (je_var 3) je_int ⟨by decide, by decide⟩) let_len (letters_at h1).1) (nm_len nm_len1 _)) (je_ixS (z := lettersS) (i := (x : Int) % 26) (je_var 1) (je_mod (je_var 3) je_int (by decide)) let_len (letters_at h1).2) (nm_len (nm_len2 _) _)
    have hnm : ∀ n : Nat, n < 30 → atI ((List.range 30).map fun n => PyData.str (nmS n)) (n : Int) = some (.str (nmS n)) := fun n h => nm_at h
    generalize (List.range 30).map (fun n => PyData.str (nmS n)) = NM at hnm ⊢
    generalize lettersS = LT
    refine gs_ret (r := .d (eHouse (hOf l))) ?_ hD
    refine je_tup (ds := [eBoxes (hOf l).1, .tuple []]) (ja_cons ?_ (ja_cons (je_tup (ds := []) ja_nil) ja_nil))
    have ee : (hOf l).1.map eBox = l.zipIdx.map fun q => PyData.tuple [.tuple [.str (nmS q.2)], .tuple [.str (nmS q.1)]] := by
      unfold hOf
      rw [List.map_map]
      rfl
    refine je_tupleM T ?_
    rw [ee]
    refine je_lc1 (own := [("box", 4), ("key", 5)]) (g := fun q : Nat × Nat => PyData.tuple [nI q.2, nI q.1]) G.nd (jic_eq (ji_enumT T (je_var 0)).toC (enum_map nI l 0)) (by rw [List.length_zipIdx]; omega) (blkOk_by (N := nLawAsHouse) (sc := defScope sLawAsHouse) (by decide +kernel)) (fun _ _ _ _ _ x _ => jg_tup (jgs_cons (jg_name 4 G.nd) (jgs_cons (jg_name 5 G.nd) jgs_nil)) rfl) (fun _ _ _ _ _ x hx => ?_)
    have h1 : x.2 < 30 := by
      have q := (List.mem_zipIdx' hx).1
      omega
    have h2 : x.1 < 30 := by
      have q := List.mem_zipIdx' hx
      have q2 : x.1 < l.length := llt _ (List.mem_of_getElem? (zipIdx_get2 hx))
      omega
    refine je_tup (ds := [.tuple [.str (nmS x.2)], .tuple [.str (nmS x.1)]]) (ja_cons ?_ (ja_cons ?_ ja_nil))
    · exact je_tup (ds := [.str (nmS x.2)]) (ja_cons (je_ixL (je_varL (xs := NM) 2) (je_var (x := nI x.2) 4) (hnm _ h1)) ja_nil)
    · exact je_tup (ds := [.str (nmS x.1)]) (ja_cons (je_ixL (je_varL (xs := NM) 2) (je_var (x := nI x.1) 5) (hnm _ h2)) ja_nil)
end
end K13

namespace K13
open PySem PySem.Spec PyProof.Rows L2 KL KM
local macro_rules | `(tactic| walk_at "wk") => `(tactic| (repeat (first | exact Wk.nil | refine Wk.cons (Or.inl rfl) ?_ | refine Wk.cons (Or.inr (Or.inl rfl)) ?_ | refine Wk.cons (Or.inr (Or.inr ⟨_, rfl, rfl⟩)) ?_ | refine Wk.cons (Or.inl (by first | (simp only [NI, SS, List.map_append, List.map_cons, List.map_nil, *]; done) | (simp [NI, SS, *]; done))) ?_)))
/-! ### the law -/
section
variable {P : Program} {w : World} {K : PySem.W.Frag} {mg : Str → Option Value} {base : Heap}
def spLaw (K : PySem.W.Frag) : Sp := fun vs H Q _ => ∃ (a : Addr) (ns : List Int), vs = [.ref a] ∧ SqL K H a (ns.map V.int) ∧ ns.length ≤ 63 ∧ ∀ H', Q (.bl true) H'
structure Fns (P : Program) (w : World) (K : PySem.W.Frag) (mg : Str → Option Value) (base : Heap) : Prop where
  take : FnG P w K mg base "_law_take" 1 preTake poTake
  laid : FnG P w K mg base "_law_laid" 3 pre30 poLaid
  asHouse : FnD P w K mg base "_law_as_house" 1 rAsHouse
  roundsOf : FnD P w K mg base "rounds_of" 4 rRoundsOf
  isHouse : FnD P w K mg base "is_house" 4 rIsHouse
  shut : FnD P w K mg base "shut" 6 rShut
  rounds : FnD P w K mg base "rounds" 6 rRounds
  fewest : FnD P w K mg base "fewest" 6 rFewest
  keptLots : FnD P w K mg base "kept_lots" 6 rKeptLots
  shutWith : FnD P w K mg base "shut_with" 6 rShutWith
  behind : FnD P w K mg base "behind" 4 rBehind
/-- the state while a bag is asked -/
def rhoL (b l : Addr) (many laying house rows : SV) : List SV := [.un, .g b l, many, laying, house, rows, .un, .un, .un, .un, .un]
theorem one_bag (T : Bt mg) (FS : Fns P w K mg base) (X : Cx) (hX : ∃ f cd A outer s H E, X = CxD P w K mg base nLaw "law" sLaw f cd A outer s H E) (G : Good X) (hr : Room 6 X.A) {B : Hp} {b l : Addr} {D : Ends} {tg it : Expr} {body : List Stmt} {p1 : Pos} {r2 : List Stmt}
    (hb : defBody sLaw = .For tg it body [] p1 :: r2) (hD : ∀ (σ : L2.St) (H : Hp), σ.length = 11 → Same B H → BagAt H b l → D.nx σ H) : GS X B [.un, .g b l, .un, .un, .un, .un, .un, .un, .un, .un, .un] body D := by
  obtain ⟨f, cd, A, outer, s, H, E, rfl⟩ := hX
  cases hb
  have end_ : ∀ {ρ : List SV} (σ : L2.St) (H : Hp), ρ.length = 11 → ρ[1]? = some (.g b l) → Rs K B ρ σ H → D.nx σ H := fun {ρ} σ H hl hg R => by
    obtain ⟨o, _, _, hb⟩ := R.at_ 1 _ hg
    exact hD σ H (by rw [R.len]; exact hl) R.ex hb
  have hu := hr.units
  refine gs_setM 2 G.nd (jm_add (jm_int je_int) (jm_imp (P' := IntP fun j => ∃ r : Nat, r < 30 ∧ j = r) (jm_call (m := 30) FS.take (hr.mono (by decide)) 1 je_int ⟨by decide, by decide⟩) (fun d ⟨r, h1, e⟩ => ⟨r, ⟨r, h1, rfl⟩, e⟩))) (fun d hd => ?_)
  obtain ⟨_, ⟨i, j, rfl, ⟨r, r30, rfl⟩, rfl⟩, rfl⟩ := hd
  obtain ⟨n, en⟩ : ∃ n : Nat, n = r + 1 := ⟨_, rfl⟩
  have en2 : PyData.int (1 + (r : Int)) = nI n := by
    show PyData.int _ = PyData.int _
    congr 1
    omega
  rw [en2]
  refine gs_setM 3 G.nd (jm_call (m := n) FS.laid (hr.mono (by decide)) 1 (je_var 2) ⟨by omega, by omega⟩) (fun d hd => ?_)
  obtain ⟨la, hl, el, rfl⟩ := hd
  subst el
  obtain ⟨l1, l30, _, _⟩ := layOk_iff.mp hl
  have hok := hOf_ok hl
  have rl : (rowsM la).length ≤ 1000 := by
    have q := List.length_filter_le (isMin (pf la)) (List.range la.length)
    rw [List.length_range] at q
    have e := rows_count hl
    unfold cyc at e
    omega
  have rlen : ∀ x ∈ rowsM la, x.length ≤ 30 := fun x hx => Nat.le_trans (rows_len hl hx) l30
  have hlen : (hOf la).1.length = la.length := hOf_len
  refine gs_par2 (ra := .d (eHouse (hOf la))) (rb := .m ((rowsM la).map tNI)) 4 5 G.nd (je_call FS.asHouse (hr.mono (by decide)) (ja_cons (je_var 3) ja_nil) ⟨la, rfl, hl, rfl⟩) (je_call FS.roundsOf (hr.mono (by decide)) (ja_cons (je_var 3) ja_nil) ⟨la, rfl, hl, rfl⟩) ?_
  refine gs_no (jt_eq (jw_t (jw_or (jt_not (jt_val (je_call FS.isHouse (hr.mono (by decide)) (ja_cons (je_var 4) ja_nil) ⟨_, rfl, hok, rfl⟩))) fun _ => jw_or (jt_c (jc_neT hu) (je_call FS.shut hr (ja_cons (je_var 4) ja_nil) ⟨_, rfl, hok, rfl⟩) (je_tupRg1 T (je_var 2) (by omega))) fun _ =>
    jw_or1 (jt_c (jc_neLT (ys := []) hu) (je_ml (je_call FS.rounds hr (ja_cons (je_var 4) ja_nil) ⟨_, rfl, hok, rfl⟩)) (je_ml (je_lst (ds := []) ja_nil))))) (by rw [hOf_shut0, hOf_rounds]; simp)) ?_
  refine gs_no (jt_eq (jw_t (jw_or (jt_c (jc_neT (ms := (rowsM la).map fun x : List Nat => x.headD 0) hu) (je_call FS.fewest hr (ja_cons (je_var 4) ja_nil) ⟨_, rfl, hok, hOf_one, rfl⟩) (je_tupleM T (je_eq (je_lc1 (xs := rowsM la) (g := tNI) (f := fun x : List Nat => nI (x.headD 0)) (own := [("row", 6)]) G.nd (ji_listC (je_varL 5)) rl (blkOk_by (N := nLaw) (sc := defScope sLaw) (by decide +kernel))
      (fun _ _ _ _ _ x _ => jg_name 6 G.nd) (fun _ _ _ _ _ x hx => je_ixT (je_var 6) je_int (at0 (rows_ne hl hx)))) (by rw [NI, List.map_map]; rfl)))) fun _ =>
    jw_or1 (jt_c (jc_neLT (ys := (rowsM la).map sortN) hu) (je_ml (je_call FS.keptLots hr (ja_cons (je_var 4) ja_nil) ⟨_, rfl, hok, hOf_one, rfl⟩)) (je_ml (je_eq (je_lc1 (xs := rowsM la) (g := tNI) (f := fun x : List Nat => tNI (sortN x)) (own := [("row", 6)]) G.nd (ji_listC (je_varL 5)) rl (blkOk_by (N := nLaw) (sc := defScope sLaw) (by decide +kernel))
      (fun _ _ _ _ _ x _ => jg_name 6 G.nd) (fun _ _ _ _ _ x hx => je_tupleM T (je_sortedTN T (je_var 6) (by have := rlen x hx; omega)))) (by rw [List.map_map]; rfl)))))) (by rw [rows_heads hl, rows_sorted hl]; simp)) ?_
  refine gs_wk (ρ' := rhoL b l (.d (nI la.length)) (.d (tNI la)) (.d (eHouse (hOf la))) (.l ((rowsM la).map tNI))) (by unfold rhoL; walk_at "wk") ?_
  refine gs_for (rowsM la) tNI G (ji_listV 5) (fun _ => rhoL b l (.d (nI la.length)) (.d (tNI la)) (.d (eHouse (hOf la))) (.l ((rowsM la).map tNI))) (by unfold rhoL; walk_at "wk") ?_ ?_
  · intro B' sB i x hx
    have xm : x ∈ rowsM la := List.mem_of_getElem? hx
    have xl := rlen x xm
    have xp : 1 ≤ x.length := by
      cases x with
      | nil => exact absurd rfl (rows_ne hl xm)
      | cons _ _ => exact Nat.succ_le_succ (Nat.zero_le _)
    refine ⟨_, jg_name 6 G.nd, fun N hN2 bk => ?_⟩
    refine gs_setM (P := fun d => ∃ y ∈ x, d = nI y) 7 G.nd (jm_ixT (ds := NI x) (je_var 6) (jm_imp (P' := IntP fun j => ∃ r : Nat, r < x.length ∧ j = r) (jm_call (m := (NI x).length) FS.take (hr.mono (by decide)) 1 (je_lenT T (je_var 6)) ⟨by rw [List.length_map]; exact xp, by rw [List.length_map]; omega⟩)
      (fun d ⟨r, h1, e⟩ => ⟨r, ⟨r, by rw [List.length_map] at h1; exact h1, rfl⟩, e⟩)) (fun j hj => ?_)) (fun d hd => ?_)
    · obtain ⟨r, hr, rfl⟩ := hj
      exact ⟨nI x[r], atI_nat' (by rw [List.getElem?_map, List.getElem?_eq_getElem hr]; rfl), x[r], List.getElem_mem hr, rfl⟩
    · obtain ⟨y, hy, rfl⟩ := hd
      have yl : y < (hOf la).1.length := by rw [hlen]; exact rows_lt hl xm hy
      refine gs_no (jt_eq (jt_c (jc_neT (ms := (List.range la.length).filter fun k => !decide (k ∈ x)) hu) (je_call FS.shutWith hr (ja_cons (je_var 4) (ja_cons (je_tup (ds := [nI y]) (ja_cons (je_var 7) ja_nil)) ja_nil)) ⟨hOf la, [y], rfl, hok, ⟨Nat.le_of_ble_eq_true rfl, fun z hz => by rw [List.mem_singleton.mp hz]; exact yl, rfl⟩, rfl⟩)
        (je_tupleM T (je_lc (xs := List.range la.length) (g := nI) (pb := fun k => !decide (k ∈ x)) (f := nI) (own := [("one", 8)]) G.nd (jic_eq (ji_range1 T (je_var 2) (by omega) (by omega)).toC (by rw [Int.toNat_natCast, KL.range_map])) (by rw [List.length_range]; omega) (blkOk_by (N := nLaw) (sc := defScope sLaw) (by decide +kernel))
          (fun _ _ _ _ _ x _ => jg_name 8 G.nd) (fun _ _ _ _ _ x _ => jts_one (jt_c jc_niTN (je_var 8) (je_var 6))) (fun _ _ _ _ _ x _ _ => je_var 8)))) ?_) (gs_nil fun σ H R => hN2 σ H (R.wk (by unfold rhoL; walk_at "wk")))
      rw [rows_shut hl xm hy]
      unfold notInM
      simp
  · refine gs_if0 (jt_c jc_gt (je_var 2) je_int) (fun hc => ?_) (fun hc => gs_nil fun σ H R => end_ σ H rfl rfl R)
    have n1 : 1 < la.length := by
      have := of_decide_eq_true hc
      omega
    refine gs_setM (P := fun d => ∃ i : Nat, i < la.length - 1 ∧ d = nI i) 8 G.nd (jm_call (m := la.length - 1) FS.take (hr.mono (by decide)) 1 (je_eq (je_sub (je_var 2) je_int) (congrArg (fun z : Int => SV.d (.int z)) (by omega))) ⟨by omega, by omega⟩) (fun d hd => ?_)
    obtain ⟨i, il, rfl⟩ := hd
    refine gs_setM 9 G.nd (jm_tup2 (je_var 8) (jm_add (jm_int (je_add (je_var 8) je_int)) (jm_imp (P' := IntP fun j => ∃ r : Nat, r < la.length - 1 - i ∧ j = r) (jm_call (m := la.length - 1 - i) FS.take (hr.mono (by decide)) 1 (je_eq (je_sub (je_sub (je_var 2) je_int) (je_var 8)) (congrArg (fun z : Int => SV.d (.int z)) (by omega))) ⟨by omega, by omega⟩) (fun d ⟨r, h1, e⟩ => ⟨r, ⟨r, h1, rfl⟩, e⟩)))) (fun d hd => ?_)
    obtain ⟨_, ⟨_, ⟨_, _, rfl, ⟨r, hrl, rfl⟩, rfl⟩, rfl⟩, rfl⟩ := hd
    obtain ⟨j, ej⟩ : ∃ j : Nat, j = i + 1 + r := ⟨_, rfl⟩
    have ej2 : PyData.tuple [nI i, .int ((i : Int) + 1 + (r : Int))] = tNI [i, j] := by
      rw [show ((i : Int) + 1 + (r : Int)) = ((j : Nat) : Int) by omega]
      rfl
    rw [ej2]
    have jl : j < la.length := by omega
    have ok' := ex_ok hl (i := i) (j := j) (by omega) jl
    refine gs_set (r := .d (eHouse (hOf (exM la i j)))) 10 G.nd (je_call FS.asHouse (hr.mono (by decide)) (ja_cons (je_call (r := .d (tNI (exM la i j))) FS.behind (hr.mono (by decide)) (ja_cons (je_var 3) (ja_cons (je_ml (je_lst (ds := [tNI [i, j]]) (ja_cons (je_var 9) ja_nil))) ja_nil)) ⟨la, [(i, j)], rfl, hl, Nat.le_of_ble_eq_true rfl, fun q hq => ?_, rfl⟩) ja_nil) ⟨_, rfl, ok', rfl⟩) ?_
    · rw [List.mem_singleton.mp hq]
      exact ⟨by omega, jl⟩
    · refine gs_no (jt_eq (jt_c jc_ne (je_abs T (je_sub (je_lenT T (je_call FS.fewest hr (ja_cons (je_var 10) ja_nil) ⟨_, rfl, hOf_ok ok', hOf_one, rfl⟩)) (je_lenL T (je_varL 5)))) je_int) ?_) (gs_nil (gs_nil fun σ H R => end_ σ H rfl rfl R))
      rw [List.length_map, List.length_map, (sortN_perm _).length_eq, List.length_map]
      have q := ex_one hl (i := i) (j := j) (by omega) jl (by omega)
      rw [Bool.not_eq_false', decide_eq_true_eq]
      split <;> omega
/-- a bag's cells, where nothing but another's has changed -/
theorem bag_keep {H H' : Hp} {b b2 l2 : Addr} (k : Same (del b H) H') (h : BagAt H b2 l2) (n1 : b2 ≠ b) (n2 : l2 ≠ b) : BagAt H' b2 l2 := by
  obtain ⟨n, c, ns, h0, h1, h2, h3⟩ := h
  exact ⟨n, c, ns, h0, k _ _ (del_other n1 h1), k _ _ (del_other n2 h2), h3⟩
theorem rs_law {K : PySem.W.Frag} {H : Hp} {b l : Addr} {s0 : Option V} {os : List (Option V)} (hl : os.length = 9) (h : BagAt H b l) : Rs K (del b H) [.un, .g b l, .un, .un, .un, .un, .un, .un, .un, .un, .un] (s0 :: some (.ref b) :: os) H := by
  have get : ∀ (i : Nat) (s : SV), ([.un, .g b l, .un, .un, .un, .un, .un, .un, .un, .un, .un] : List SV)[i]? = some s → (i = 1 ∧ s = .g b l) ∨ (s = .un ∧ i < 11) := fun i s e => by
    have il := (List.getElem?_eq_some_iff.mp e).1
    have il' : i < 11 := il
    by_cases h1 : i = 1
    · subst h1
      exact .inl ⟨rfl, (Option.some.inj e).symm⟩
    · refine .inr ⟨?_, il'⟩
      obtain h | h | h | h | h | h | h | h | h | h | h : i = 0 ∨ i = 1 ∨ i = 2 ∨ i = 3 ∨ i = 4 ∨ i = 5 ∨ i = 6 ∨ i = 7 ∨ i = 8 ∨ i = 9 ∨ i = 10 := by omega
      all_goals (subst h; first | exact absurd rfl h1 | exact (Option.some.inj e).symm)
  have hlen : (s0 :: some (V.ref b) :: os).length = 11 := by rw [List.length_cons, List.length_cons, hl]
  refine ⟨del_same, hlen, fun i s e => ?_, fun i s a e k z => ?_, fun i j s s' a hij e e' k k' z => ?_, fun i j s s' a l' e e' k k' z => ?_⟩
  · rcases get i s e with ⟨rfl, rfl⟩ | ⟨rfl, hi⟩
    · exact ⟨_, rfl, rfl, h⟩
    · exact ⟨(s0 :: some (V.ref b) :: os)[i]'(by rw [hlen]; exact hi), List.getElem?_eq_getElem _, trivial⟩
  · rcases get i s e with ⟨rfl, rfl⟩ | ⟨rfl, _⟩
    · have q : (some (some (.ref b)) : Option (Option V)) = some (some (.ref a)) := z
      cases q
      exact del_self
    · cases k
  · rcases get i s e with ⟨rfl, rfl⟩ | ⟨rfl, _⟩
    · rcases get j s' e' with ⟨rfl, rfl⟩ | ⟨rfl, _⟩
      · exact absurd rfl hij
      · cases k'
    · cases k
  · rcases get i s e with ⟨rfl, rfl⟩ | ⟨rfl, _⟩
    · have q : (some (some (.ref b)) : Option (Option V)) = some (some (.ref a)) := z
      cases q
      rcases get j s' e' with ⟨rfl, rfl⟩ | ⟨rfl, _⟩
      · cases k'
        exact h.1
      · cases k'
    · cases k
theorem ok_law (T : Bt mg) (FS : Fns P w K mg base) (FB : FnS P w K mg base "_law_bags" 3 (spBags K)) {f : Addr} {fd : FuncData} (F : Fun K "law" "law" sLaw f fd) : FnOk P w K mg base CX0 7 f fd ["script"] (spLaw K) := by
  obtain ⟨f1, fd1, ps1, g1, m1, k1, b1⟩ := FB.ex
  refine F.ok scLaw (fun vs H Q E h => ?_) (fun cdv A outer s H vs Q E hr h => ?_)
  · obtain ⟨a, ns, rfl, _⟩ := h; rfl
  · obtain ⟨a, ns, rfl, hs, hlen, k⟩ := h
    refine ⟨_, pss_cons (ps_for PassesOwn.never rfl (pi_list (pe_call g1 (hr.mono (by decide)) rfl m1 k1 b1 .nil pass0 (pa_cons (pv 0) (pa_cons pe_int pa_nil)))) (pg_name (i := 1) scLaw.nd rfl (Or.inl rfl)) pss_ws) (pss_one (ps_ret pe_bl)), ?_⟩
    refine ⟨_, rfl, a, ns, rfl, hs, fun p bls H1 s1 hp hb hne => ⟨p, rfl, ⟨_, SqL.of hp⟩, ?_⟩⟩
    refine for_list (K := K) (a := p) (xs := bls.map fun x : Addr × Addr => V.ref x.1) (fun i σ H' => σ.length = 11 ∧ H' p = some (.lst (bls.map fun x : Addr × Addr => V.ref x.1)) ∧ ∀ j x, i ≤ j → bls[j]? = some x → BagAt H' x.1 x.2)
      ⟨rfl, hp, fun j x _ hx => hb.1 x (List.mem_of_getElem? hx)⟩ (fun i σ H' _ h => SqL.of h.2.1) ?_ (fun σ H' h => k H')
    rintro i y σ H' hi ⟨hl, hp', hbs⟩
    rw [List.getElem?_map] at hi
    cases hx : bls[i]? with
    | none => rw [hx] at hi; cases hi
    | some x =>
      rw [hx] at hi
      cases hi
      obtain ⟨b, l⟩ := x
      have hbag := hbs i (b, l) (Nat.le_refl _) hx
      obtain ⟨s0, s1', os, rfl, ho⟩ : ∃ s0 s1' os, σ = s0 :: s1' :: os ∧ os.length = 9 := by
        match σ, hl with
        | s0 :: s1' :: os, hl => exact ⟨s0, s1', os, rfl, by simpa using hl⟩
      refine one_bag T FS _ ⟨f, cdv, A, outer, s, H, E, rfl⟩ ⟨PassesOwn.never, rfl, scLaw.nd⟩ hr (b := b) (l := l) rfl ?_ (s0 :: some (.ref b) :: os) H' (rs_law ho hbag)
      intro σ H2 hl2 s2 _
      refine ⟨hl2, s2 _ _ (del_other (hne _ (List.mem_of_getElem? hx)).symm hp'), fun j x hj hxj => ?_⟩
      refine bag_keep s2 (hbs j x (by omega) hxj) (fun e => ?_) (fun e => ?_)
      · have e1 : (bls.map (·.1))[j]? = some b := by rw [List.getElem?_map, hxj, ← e]; rfl
        have e2 : (bls.map (·.1))[i]? = some b := by rw [List.getElem?_map, hx]; rfl
        have il : i < (bls.map (·.1)).length := (List.getElem?_eq_some_iff.mp e2).1
        have := (List.getElem?_inj il hb.2.1).mp (e2.trans e1.symm)
        omega
      · exact hb.2.2 _ (List.mem_of_getElem? hx) _ (List.mem_of_getElem? hxj) e.symm
end
end K13

namespace K13
open PySem PySem.Spec PyProof.Rows L2 KL KM
theorem all_mk {l : PySem.W.OpenLaw} {w : World} {K : PySem.W.Frag} {h : Heap} {mg : Str → Option Value} {fa : Addr} {tk : Tok} {f1 f2 f3 f4 f5 f6 f7 f8 f9 f10 f11 f12 f13 f14 f15 f16 f17 f18 f19 f20 f21 f22 f23 f24 f25 f26 f27 f28 f29 f30 f31 f32 f33 f34 f35 : Addr} (X : K.In h) (G : h.Ns mainGlobals mg) (hfa : mg "law" = some (.ref fa))
    {od1 an1 od2 an2 od3 an3 od4 an4 od5 an5 od6 an6 od7 an7 od8 an8 od9 an9 od10 an10 od11 an11 od12 an12 od13 an13 od14 an14 od15 an15 od16 an16 od17 an17 od18 an18 od19 an19 od20 an20 od21 an21 od22 an22 od23 an23 od24 an24 od25 an25 od26 an26 od27 an27 od28 an28 od29 an29 od30 an30 od31 an31 od32 an32 od33 an33 od34 an34 od35 an35 : Option Addr} {sl1 sl2 sl3 sl4 sl5 sl6 sl7 sl8 sl9 sl10 sl11 sl12 sl13 sl14 sl15 sl16 sl17 sl18 sl19 sl20 sl21 sl22 sl23 sl24 sl25 sl26 sl27 sl28 sl29 sl30 sl31 sl32 sl33 sl34 sl35 : Array (Option Value)} {oc1 kV1 dc1 pm1 cd1 ct1 oc2 kV2 dc2 pm2 cd2 ct2 oc3 kV3 dc3 pm3 cd3 ct3 oc4 kV4 dc4 pm4 cd4 ct4 oc5 kV5 dc5 pm5 cd5 ct5 oc6 kV6 dc6 pm6 cd6 ct6 oc7 kV7 dc7 pm7 cd7 ct7 oc8 kV8 dc8 pm8 cd8 ct8 oc9 kV9 dc9 pm9 cd9 ct9 oc10 kV10 dc10 pm10 cd10 ct10 oc11 kV11 dc11 pm11 cd11 ct11 oc12 kV12 dc12 pm12 cd12 ct12 oc13 kV13 dc13 pm13 cd13 ct13 oc14 kV14 dc14 pm14 cd14 ct14 oc15 kV15 dc15 pm15 cd15 ct15 oc16 kV16 dc16 pm16 cd16 ct16 oc17 kV17 dc17 pm17 cd17 ct17 oc18 kV18 dc18 pm18 cd18 ct18 oc19 kV19 dc19 pm19 cd19 ct19 oc20 kV20 dc20 pm20 cd20 ct20 oc21 kV21 dc21 pm21 cd21 ct21 oc22 kV22 dc22 pm22 cd22 ct22 oc23 kV23 dc23 pm23 cd23 ct23 oc24 kV24 dc24 pm24 cd24 ct24 oc25 kV25 dc25 pm25 cd25 ct25 oc26 kV26 dc26 pm26 cd26 ct26 oc27 kV27 dc27 pm27 cd27 ct27 oc28 kV28 dc28 pm28 cd28 ct28 oc29 kV29 dc29 pm29 cd29 ct29 oc30 kV30 dc30 pm30 cd30 ct30 oc31 kV31 dc31 pm31 cd31 ct31 oc32 kV32 dc32 pm32 cd32 ct32 oc33 kV33 dc33 pm33 cd33 ct33 oc34 kV34 dc34 pm34 cd34 ct34 oc35 kV35 dc35 pm35 cd35 ct35 : Value}
    (a1 : PySem.W.nsIn K mainGlobals "is_within" = some (some (.ref f1))) (l1 : K.lookup f1 = some ⟨oc1, od1, .func (PySem.W.fnOf "is_within" "is_within" (defArgs sIsWithin) (defBody sIsWithin) (defScope sIsWithin) .none kV1 dc1 pm1 an1 cd1 ct1), sl1⟩) (c1 : PySem.W.codeIn K cd1 "is_within" = true) (k1 : PySem.W.keepIn K (.ref f1) = true)
    (a2 : PySem.W.nsIn K mainGlobals "is_colour" = some (some (.ref f2))) (l2 : K.lookup f2 = some ⟨oc2, od2, .func (PySem.W.fnOf "is_colour" "is_colour" (defArgs sIsColour) (defBody sIsColour) (defScope sIsColour) .none kV2 dc2 pm2 an2 cd2 ct2), sl2⟩) (c2 : PySem.W.codeIn K cd2 "is_colour" = true) (k2 : PySem.W.keepIn K (.ref f2) = true)
    (a3 : PySem.W.nsIn K mainGlobals "are_colours" = some (some (.ref f3))) (l3 : K.lookup f3 = some ⟨oc3, od3, .func (PySem.W.fnOf "are_colours" "are_colours" (defArgs sAreColours) (defBody sAreColours) (defScope sAreColours) .none kV3 dc3 pm3 an3 cd3 ct3), sl3⟩) (c3 : PySem.W.codeIn K cd3 "are_colours" = true) (k3 : PySem.W.keepIn K (.ref f3) = true)
    (a4 : PySem.W.nsIn K mainGlobals "is_box" = some (some (.ref f4))) (l4 : K.lookup f4 = some ⟨oc4, od4, .func (PySem.W.fnOf "is_box" "is_box" (defArgs sIsBox) (defBody sIsBox) (defScope sIsBox) .none kV4 dc4 pm4 an4 cd4 ct4), sl4⟩) (c4 : PySem.W.codeIn K cd4 "is_box" = true) (k4 : PySem.W.keepIn K (.ref f4) = true)
    (a5 : PySem.W.nsIn K mainGlobals "is_house" = some (some (.ref f5))) (l5 : K.lookup f5 = some ⟨oc5, od5, .func (PySem.W.fnOf "is_house" "is_house" (defArgs sIsHouse) (defBody sIsHouse) (defScope sIsHouse) .none kV5 dc5 pm5 an5 cd5 ct5), sl5⟩) (c5 : PySem.W.codeIn K cd5 "is_house" = true) (k5 : PySem.W.keepIn K (.ref f5) = true)
    (a6 : PySem.W.nsIn K mainGlobals "need_house" = some (some (.ref f6))) (l6 : K.lookup f6 = some ⟨oc6, od6, .func (PySem.W.fnOf "need_house" "need_house" (defArgs sNeedHouse) (defBody sNeedHouse) (defScope sNeedHouse) .none kV6 dc6 pm6 an6 cd6 ct6), sl6⟩) (c6 : PySem.W.codeIn K cd6 "need_house" = true) (k6 : PySem.W.keepIn K (.ref f6) = true)
    (a7 : PySem.W.nsIn K mainGlobals "are_boxes" = some (some (.ref f7))) (l7 : K.lookup f7 = some ⟨oc7, od7, .func (PySem.W.fnOf "are_boxes" "are_boxes" (defArgs sAreBoxes) (defBody sAreBoxes) (defScope sAreBoxes) .none kV7 dc7 pm7 an7 cd7 ct7), sl7⟩) (c7 : PySem.W.codeIn K cd7 "are_boxes" = true) (k7 : PySem.W.keepIn K (.ref f7) = true)
    (a8 : PySem.W.nsIn K mainGlobals "need_boxes" = some (some (.ref f8))) (l8 : K.lookup f8 = some ⟨oc8, od8, .func (PySem.W.fnOf "need_boxes" "need_boxes" (defArgs sNeedBoxes) (defBody sNeedBoxes) (defScope sNeedBoxes) .none kV8 dc8 pm8 an8 cd8 ct8), sl8⟩) (c8 : PySem.W.codeIn K cd8 "need_boxes" = true) (k8 : PySem.W.keepIn K (.ref f8) = true)
    (a9 : PySem.W.nsIn K mainGlobals "all_rounds" = some (some (.ref f9))) (l9 : K.lookup f9 = some ⟨oc9, od9, .func (PySem.W.fnOf "all_rounds" "all_rounds" (defArgs sAllRounds) (defBody sAllRounds) (defScope sAllRounds) .none kV9 dc9 pm9 an9 cd9 ct9), sl9⟩) (c9 : PySem.W.codeIn K cd9 "all_rounds" = true) (k9 : PySem.W.keepIn K (.ref f9) = true)
    (a10 : PySem.W.nsIn K mainGlobals "not_in" = some (some (.ref f10))) (l10 : K.lookup f10 = some ⟨oc10, od10, .func (PySem.W.fnOf "not_in" "not_in" (defArgs sNotIn) (defBody sNotIn) (defScope sNotIn) .none kV10 dc10 pm10 an10 cd10 ct10), sl10⟩) (c10 : PySem.W.codeIn K cd10 "not_in" = true) (k10 : PySem.W.keepIn K (.ref f10) = true)
    (a11 : PySem.W.nsIn K mainGlobals "shut_where" = some (some (.ref f11))) (l11 : K.lookup f11 = some ⟨oc11, od11, .func (PySem.W.fnOf "shut_where" "shut_where" (defArgs sShutWhere) (defBody sShutWhere) (defScope sShutWhere) .none kV11 dc11 pm11 an11 cd11 ct11), sl11⟩) (c11 : PySem.W.codeIn K cd11 "shut_where" = true) (k11 : PySem.W.keepIn K (.ref f11) = true)
    (a12 : PySem.W.nsIn K mainGlobals "rounds" = some (some (.ref f12))) (l12 : K.lookup f12 = some ⟨oc12, od12, .func (PySem.W.fnOf "rounds" "rounds" (defArgs sRounds) (defBody sRounds) (defScope sRounds) .none kV12 dc12 pm12 an12 cd12 ct12), sl12⟩) (c12 : PySem.W.codeIn K cd12 "rounds" = true) (k12 : PySem.W.keepIn K (.ref f12) = true)
    (a13 : PySem.W.nsIn K mainGlobals "shut" = some (some (.ref f13))) (l13 : K.lookup f13 = some ⟨oc13, od13, .func (PySem.W.fnOf "shut" "shut" (defArgs sShut) (defBody sShut) (defScope sShut) .none kV13 dc13 pm13 an13 cd13 ct13), sl13⟩) (c13 : PySem.W.codeIn K cd13 "shut" = true) (k13 : PySem.W.keepIn K (.ref f13) = true)
    (a14 : PySem.W.nsIn K mainGlobals "shut_with" = some (some (.ref f14))) (l14 : K.lookup f14 = some ⟨oc14, od14, .func (PySem.W.fnOf "shut_with" "shut_with" (defArgs sShutWith) (defBody sShutWith) (defScope sShutWith) .none kV14 dc14 pm14 an14 cd14 ct14), sl14⟩) (c14 : PySem.W.codeIn K cd14 "shut_with" = true) (k14 : PySem.W.keepIn K (.ref f14) = true)
    (a15 : PySem.W.nsIn K mainGlobals "has_one_lock" = some (some (.ref f15))) (l15 : K.lookup f15 = some ⟨oc15, od15, .func (PySem.W.fnOf "has_one_lock" "has_one_lock" (defArgs sHasOneLock) (defBody sHasOneLock) (defScope sHasOneLock) .none kV15 dc15 pm15 an15 cd15 ct15), sl15⟩) (c15 : PySem.W.codeIn K cd15 "has_one_lock" = true) (k15 : PySem.W.keepIn K (.ref f15) = true)
    (a16 : PySem.W.nsIn K mainGlobals "opened_by" = some (some (.ref f16))) (l16 : K.lookup f16 = some ⟨oc16, od16, .func (PySem.W.fnOf "opened_by" "opened_by" (defArgs sOpenedBy) (defBody sOpenedBy) (defScope sOpenedBy) .none kV16 dc16 pm16 an16 cd16 ct16), sl16⟩) (c16 : PySem.W.codeIn K cd16 "opened_by" = true) (k16 : PySem.W.keepIn K (.ref f16) = true)
    (a17 : PySem.W.nsIn K mainGlobals "least_lots" = some (some (.ref f17))) (l17 : K.lookup f17 = some ⟨oc17, od17, .func (PySem.W.fnOf "least_lots" "least_lots" (defArgs sLeastLots) (defBody sLeastLots) (defScope sLeastLots) .none kV17 dc17 pm17 an17 cd17 ct17), sl17⟩) (c17 : PySem.W.codeIn K cd17 "least_lots" = true) (k17 : PySem.W.keepIn K (.ref f17) = true)
    (a18 : PySem.W.nsIn K mainGlobals "kept_lots" = some (some (.ref f18))) (l18 : K.lookup f18 = some ⟨oc18, od18, .func (PySem.W.fnOf "kept_lots" "kept_lots" (defArgs sKeptLots) (defBody sKeptLots) (defScope sKeptLots) .none kV18 dc18 pm18 an18 cd18 ct18), sl18⟩) (c18 : PySem.W.codeIn K cd18 "kept_lots" = true) (k18 : PySem.W.keepIn K (.ref f18) = true)
    (a19 : PySem.W.nsIn K mainGlobals "fewest" = some (some (.ref f19))) (l19 : K.lookup f19 = some ⟨oc19, od19, .func (PySem.W.fnOf "fewest" "fewest" (defArgs sFewest) (defBody sFewest) (defScope sFewest) .none kV19 dc19 pm19 an19 cd19 ct19), sl19⟩) (c19 : PySem.W.codeIn K cd19 "fewest" = true) (k19 : PySem.W.keepIn K (.ref f19) = true)
    (a20 : PySem.W.nsIn K mainGlobals "is_laying" = some (some (.ref f20))) (l20 : K.lookup f20 = some ⟨oc20, od20, .func (PySem.W.fnOf "is_laying" "is_laying" (defArgs sIsLaying) (defBody sIsLaying) (defScope sIsLaying) .none kV20 dc20 pm20 an20 cd20 ct20), sl20⟩) (c20 : PySem.W.codeIn K cd20 "is_laying" = true) (k20 : PySem.W.keepIn K (.ref f20) = true)
    (a21 : PySem.W.nsIn K mainGlobals "need_laying" = some (some (.ref f21))) (l21 : K.lookup f21 = some ⟨oc21, od21, .func (PySem.W.fnOf "need_laying" "need_laying" (defArgs sNeedLaying) (defBody sNeedLaying) (defScope sNeedLaying) .none kV21 dc21 pm21 an21 cd21 ct21), sl21⟩) (c21 : PySem.W.codeIn K cd21 "need_laying" = true) (k21 : PySem.W.keepIn K (.ref f21) = true)
    (a22 : PySem.W.nsIn K mainGlobals "all_rounds_of" = some (some (.ref f22))) (l22 : K.lookup f22 = some ⟨oc22, od22, .func (PySem.W.fnOf "all_rounds_of" "all_rounds_of" (defArgs sAllRoundsOf) (defBody sAllRoundsOf) (defScope sAllRoundsOf) .none kV22 dc22 pm22 an22 cd22 ct22), sl22⟩) (c22 : PySem.W.codeIn K cd22 "all_rounds_of" = true) (k22 : PySem.W.keepIn K (.ref f22) = true)
    (a23 : PySem.W.nsIn K mainGlobals "rounds_of" = some (some (.ref f23))) (l23 : K.lookup f23 = some ⟨oc23, od23, .func (PySem.W.fnOf "rounds_of" "rounds_of" (defArgs sRoundsOf) (defBody sRoundsOf) (defScope sRoundsOf) .none kV23 dc23 pm23 an23 cd23 ct23), sl23⟩) (c23 : PySem.W.codeIn K cd23 "rounds_of" = true) (k23 : PySem.W.keepIn K (.ref f23) = true)
    (a24 : PySem.W.nsIn K mainGlobals "is_exchange" = some (some (.ref f24))) (l24 : K.lookup f24 = some ⟨oc24, od24, .func (PySem.W.fnOf "is_exchange" "is_exchange" (defArgs sIsExchange) (defBody sIsExchange) (defScope sIsExchange) .none kV24 dc24 pm24 an24 cd24 ct24), sl24⟩) (c24 : PySem.W.codeIn K cd24 "is_exchange" = true) (k24 : PySem.W.keepIn K (.ref f24) = true)
    (a25 : PySem.W.nsIn K mainGlobals "exchanged" = some (some (.ref f25))) (l25 : K.lookup f25 = some ⟨oc25, od25, .func (PySem.W.fnOf "exchanged" "exchanged" (defArgs sExchanged) (defBody sExchanged) (defScope sExchanged) .none kV25 dc25 pm25 an25 cd25 ct25), sl25⟩) (c25 : PySem.W.codeIn K cd25 "exchanged" = true) (k25 : PySem.W.keepIn K (.ref f25) = true)
    (a26 : PySem.W.nsIn K mainGlobals "behind" = some (some (.ref f26))) (l26 : K.lookup f26 = some ⟨oc26, od26, .func (PySem.W.fnOf "behind" "behind" (defArgs sBehind) (defBody sBehind) (defScope sBehind) .none kV26 dc26 pm26 an26 cd26 ct26), sl26⟩) (c26 : PySem.W.codeIn K cd26 "behind" = true) (k26 : PySem.W.keepIn K (.ref f26) = true)
    (a27 : PySem.W.nsIn K mainGlobals "_law_draws" = some (some (.ref f27))) (l27 : K.lookup f27 = some ⟨oc27, od27, .func (PySem.W.fnOf "_law_draws" "_law_draws" (defArgs sLawDraws) (defBody sLawDraws) (defScope sLawDraws) .none kV27 dc27 pm27 an27 cd27 ct27), sl27⟩) (c27 : PySem.W.codeIn K cd27 "_law_draws" = true) (k27 : PySem.W.keepIn K (.ref f27) = true)
    (a28 : PySem.W.nsIn K mainGlobals "_law_cell_at" = some (some (.ref f28))) (l28 : K.lookup f28 = some ⟨oc28, od28, .func (PySem.W.fnOf "_law_cell_at" "_law_cell_at" (defArgs sLawCellAt) (defBody sLawCellAt) (defScope sLawCellAt) .none kV28 dc28 pm28 an28 cd28 ct28), sl28⟩) (c28 : PySem.W.codeIn K cd28 "_law_cell_at" = true) (k28 : PySem.W.keepIn K (.ref f28) = true)
    (a29 : PySem.W.nsIn K mainGlobals "_law_bag" = some (some (.ref f29))) (l29 : K.lookup f29 = some ⟨oc29, od29, .func (PySem.W.fnOf "_law_bag" "_law_bag" (defArgs sLawBag) (defBody sLawBag) (defScope sLawBag) .none kV29 dc29 pm29 an29 cd29 ct29), sl29⟩) (c29 : PySem.W.codeIn K cd29 "_law_bag" = true) (k29 : PySem.W.keepIn K (.ref f29) = true)
    (a30 : PySem.W.nsIn K mainGlobals "_law_bags" = some (some (.ref f30))) (l30 : K.lookup f30 = some ⟨oc30, od30, .func (PySem.W.fnOf "_law_bags" "_law_bags" (defArgs sLawBags) (defBody sLawBags) (defScope sLawBags) .none kV30 dc30 pm30 an30 cd30 ct30), sl30⟩) (c30 : PySem.W.codeIn K cd30 "_law_bags" = true) (k30 : PySem.W.keepIn K (.ref f30) = true)
    (a31 : PySem.W.nsIn K mainGlobals "_law_take" = some (some (.ref f31))) (l31 : K.lookup f31 = some ⟨oc31, od31, .func (PySem.W.fnOf "_law_take" "_law_take" (defArgs sLawTake) (defBody sLawTake) (defScope sLawTake) .none kV31 dc31 pm31 an31 cd31 ct31), sl31⟩) (c31 : PySem.W.codeIn K cd31 "_law_take" = true) (k31 : PySem.W.keepIn K (.ref f31) = true)
    (a32 : PySem.W.nsIn K mainGlobals "_law_mixed" = some (some (.ref f32))) (l32 : K.lookup f32 = some ⟨oc32, od32, .func (PySem.W.fnOf "_law_mixed" "_law_mixed" (defArgs sLawMixed) (defBody sLawMixed) (defScope sLawMixed) .none kV32 dc32 pm32 an32 cd32 ct32), sl32⟩) (c32 : PySem.W.codeIn K cd32 "_law_mixed" = true) (k32 : PySem.W.keepIn K (.ref f32) = true)
    (a33 : PySem.W.nsIn K mainGlobals "_law_laid" = some (some (.ref f33))) (l33 : K.lookup f33 = some ⟨oc33, od33, .func (PySem.W.fnOf "_law_laid" "_law_laid" (defArgs sLawLaid) (defBody sLawLaid) (defScope sLawLaid) .none kV33 dc33 pm33 an33 cd33 ct33), sl33⟩) (c33 : PySem.W.codeIn K cd33 "_law_laid" = true) (k33 : PySem.W.keepIn K (.ref f33) = true)
    (a34 : PySem.W.nsIn K mainGlobals "_law_as_house" = some (some (.ref f34))) (l34 : K.lookup f34 = some ⟨oc34, od34, .func (PySem.W.fnOf "_law_as_house" "_law_as_house" (defArgs sLawAsHouse) (defBody sLawAsHouse) (defScope sLawAsHouse) .none kV34 dc34 pm34 an34 cd34 ct34), sl34⟩) (c34 : PySem.W.codeIn K cd34 "_law_as_house" = true) (k34 : PySem.W.keepIn K (.ref f34) = true)
    (a35 : PySem.W.nsIn K mainGlobals "law" = some (some (.ref f35))) (l35 : K.lookup f35 = some ⟨oc35, od35, .func (PySem.W.fnOf "law" "law" (defArgs sLaw) (defBody sLaw) (defScope sLaw) .none kV35 dc35 pm35 an35 cd35 ct35), sl35⟩) (c35 : PySem.W.codeIn K cd35 "law" = true) (k35 : PySem.W.keepIn K (.ref f35) = true)
    (aS : PySem.W.nsIn K mainGlobals "SMALL" = some (some (.str "abcdefghijklmnopqrstuvwxyz" tk)))
    (z_len : PySem.W.nsIn K mainGlobals "len" = some none)
    (z_list : PySem.W.nsIn K mainGlobals "list" = some none)
    (z_tuple : PySem.W.nsIn K mainGlobals "tuple" = some none)
    (z_isinstance : PySem.W.nsIn K mainGlobals "isinstance" = some none)
    (z_all : PySem.W.nsIn K mainGlobals "all" = some none)
    (z_int : PySem.W.nsIn K mainGlobals "int" = some none)
    (z_bool : PySem.W.nsIn K mainGlobals "bool" = some none)
    (z_str : PySem.W.nsIn K mainGlobals "str" = some none)
    (z_range : PySem.W.nsIn K mainGlobals "range" = some none)
    (z_enumerate : PySem.W.nsIn K mainGlobals "enumerate" = some none)
    (z_zip : PySem.W.nsIn K mainGlobals "zip" = some none)
    (z_sorted : PySem.W.nsIn K mainGlobals "sorted" = some none)
    (z_dict : PySem.W.nsIn K mainGlobals "dict" = some none)
    (z_set : PySem.W.nsIn K mainGlobals "set" = some none)
    (z_min : PySem.W.nsIn K mainGlobals "min" = some none)
    (z_max : PySem.W.nsIn K mainGlobals "max" = some none)
    (z_abs : PySem.W.nsIn K mainGlobals "abs" = some none)
    : ∃ fd : FuncData, (∀ (s : Shared) (v : Value), BindsTo s fd ⟨[v], []⟩ [("script", v)]) ∧ ∀ base : Heap, K.In base → base.Ns mainGlobals mg → FnOk l.prog w K mg base CX0 7 fa fd ["script"] (spLaw K) := by
  have e := hfa.symm.trans (PySem.W.mg_of X G a35)
  cases e
  have T : Bt mg := ⟨PySem.W.mg_none_of X G z_len, PySem.W.mg_none_of X G z_list, PySem.W.mg_none_of X G z_tuple, PySem.W.mg_none_of X G z_isinstance, PySem.W.mg_none_of X G z_all, PySem.W.mg_none_of X G z_int, PySem.W.mg_none_of X G z_bool, PySem.W.mg_none_of X G z_str, PySem.W.mg_none_of X G z_range, PySem.W.mg_none_of X G z_enumerate, PySem.W.mg_none_of X G z_zip, PySem.W.mg_none_of X G z_sorted, PySem.W.mg_none_of X G z_dict, PySem.W.mg_none_of X G z_set, PySem.W.mg_none_of X G z_min, PySem.W.mg_none_of X G z_max, PySem.W.mg_none_of X G z_abs⟩
  have A_is_within : At K mg "is_within" sIsWithin ["thing", "low", "high"] := ⟨_, _, fun_mk (st := sIsWithin) l1 c1 k1, PySem.W.mg_of X G a1, (fun_mk (st := sIsWithin) l1 c1 k1).binds (ps := ["thing", "low", "high"]) fun _ _ _ _ _ _ us hl => match us, hl with | [_, _, _], _ => rfl⟩
  have A_is_colour : At K mg "is_colour" sIsColour ["thing"] := ⟨_, _, fun_mk (st := sIsColour) l2 c2 k2, PySem.W.mg_of X G a2, (fun_mk (st := sIsColour) l2 c2 k2).binds (ps := ["thing"]) fun _ _ _ _ _ _ us hl => match us, hl with | [_], _ => rfl⟩
  have A_are_colours : At K mg "are_colours" sAreColours ["thing", "most"] := ⟨_, _, fun_mk (st := sAreColours) l3 c3 k3, PySem.W.mg_of X G a3, (fun_mk (st := sAreColours) l3 c3 k3).binds (ps := ["thing", "most"]) fun _ _ _ _ _ _ us hl => match us, hl with | [_, _], _ => rfl⟩
  have A_is_box : At K mg "is_box" sIsBox ["thing"] := ⟨_, _, fun_mk (st := sIsBox) l4 c4 k4, PySem.W.mg_of X G a4, (fun_mk (st := sIsBox) l4 c4 k4).binds (ps := ["thing"]) fun _ _ _ _ _ _ us hl => match us, hl with | [_], _ => rfl⟩
  have A_is_house : At K mg "is_house" sIsHouse ["thing"] := ⟨_, _, fun_mk (st := sIsHouse) l5 c5 k5, PySem.W.mg_of X G a5, (fun_mk (st := sIsHouse) l5 c5 k5).binds (ps := ["thing"]) fun _ _ _ _ _ _ us hl => match us, hl with | [_], _ => rfl⟩
  have A_need_house : At K mg "need_house" sNeedHouse ["house"] := ⟨_, _, fun_mk (st := sNeedHouse) l6 c6 k6, PySem.W.mg_of X G a6, (fun_mk (st := sNeedHouse) l6 c6 k6).binds (ps := ["house"]) fun _ _ _ _ _ _ us hl => match us, hl with | [_], _ => rfl⟩
  have A_are_boxes : At K mg "are_boxes" sAreBoxes ["house", "thing"] := ⟨_, _, fun_mk (st := sAreBoxes) l7 c7 k7, PySem.W.mg_of X G a7, (fun_mk (st := sAreBoxes) l7 c7 k7).binds (ps := ["house", "thing"]) fun _ _ _ _ _ _ us hl => match us, hl with | [_, _], _ => rfl⟩
  have A_need_boxes : At K mg "need_boxes" sNeedBoxes ["house", "thing"] := ⟨_, _, fun_mk (st := sNeedBoxes) l8 c8 k8, PySem.W.mg_of X G a8, (fun_mk (st := sNeedBoxes) l8 c8 k8).binds (ps := ["house", "thing"]) fun _ _ _ _ _ _ us hl => match us, hl with | [_, _], _ => rfl⟩
  have A_all_rounds : At K mg "all_rounds" sAllRounds ["boxes", "keys", "opened"] := ⟨_, _, fun_mk (st := sAllRounds) l9 c9 k9, PySem.W.mg_of X G a9, (fun_mk (st := sAllRounds) l9 c9 k9).binds (ps := ["boxes", "keys", "opened"]) fun _ _ _ _ _ _ us hl => match us, hl with | [_, _, _], _ => rfl⟩
  have A_not_in : At K mg "not_in" sNotIn ["house", "opened"] := ⟨_, _, fun_mk (st := sNotIn) l10 c10 k10, PySem.W.mg_of X G a10, (fun_mk (st := sNotIn) l10 c10 k10).binds (ps := ["house", "opened"]) fun _ _ _ _ _ _ us hl => match us, hl with | [_, _], _ => rfl⟩
  have A_shut_where : At K mg "shut_where" sShutWhere ["house", "broken"] := ⟨_, _, fun_mk (st := sShutWhere) l11 c11 k11, PySem.W.mg_of X G a11, (fun_mk (st := sShutWhere) l11 c11 k11).binds (ps := ["house", "broken"]) fun _ _ _ _ _ _ us hl => match us, hl with | [_, _], _ => rfl⟩
  have A_rounds : At K mg "rounds" sRounds ["house"] := ⟨_, _, fun_mk (st := sRounds) l12 c12 k12, PySem.W.mg_of X G a12, (fun_mk (st := sRounds) l12 c12 k12).binds (ps := ["house"]) fun _ _ _ _ _ _ us hl => match us, hl with | [_], _ => rfl⟩
  have A_shut : At K mg "shut" sShut ["house"] := ⟨_, _, fun_mk (st := sShut) l13 c13 k13, PySem.W.mg_of X G a13, (fun_mk (st := sShut) l13 c13 k13).binds (ps := ["house"]) fun _ _ _ _ _ _ us hl => match us, hl with | [_], _ => rfl⟩
  have A_shut_with : At K mg "shut_with" sShutWith ["house", "broken"] := ⟨_, _, fun_mk (st := sShutWith) l14 c14 k14, PySem.W.mg_of X G a14, (fun_mk (st := sShutWith) l14 c14 k14).binds (ps := ["house", "broken"]) fun _ _ _ _ _ _ us hl => match us, hl with | [_, _], _ => rfl⟩
  have A_has_one_lock : At K mg "has_one_lock" sHasOneLock ["house"] := ⟨_, _, fun_mk (st := sHasOneLock) l15 c15 k15, PySem.W.mg_of X G a15, (fun_mk (st := sHasOneLock) l15 c15 k15).binds (ps := ["house"]) fun _ _ _ _ _ _ us hl => match us, hl with | [_], _ => rfl⟩
  have A_opened_by : At K mg "opened_by" sOpenedBy ["house", "number", "some"] := ⟨_, _, fun_mk (st := sOpenedBy) l16 c16 k16, PySem.W.mg_of X G a16, (fun_mk (st := sOpenedBy) l16 c16 k16).binds (ps := ["house", "number", "some"]) fun _ _ _ _ _ _ us hl => match us, hl with | [_, _, _], _ => rfl⟩
  have A_least_lots : At K mg "least_lots" sLeastLots ["house"] := ⟨_, _, fun_mk (st := sLeastLots) l17 c17 k17, PySem.W.mg_of X G a17, (fun_mk (st := sLeastLots) l17 c17 k17).binds (ps := ["house"]) fun _ _ _ _ _ _ us hl => match us, hl with | [_], _ => rfl⟩
  have A_kept_lots : At K mg "kept_lots" sKeptLots ["house"] := ⟨_, _, fun_mk (st := sKeptLots) l18 c18 k18, PySem.W.mg_of X G a18, (fun_mk (st := sKeptLots) l18 c18 k18).binds (ps := ["house"]) fun _ _ _ _ _ _ us hl => match us, hl with | [_], _ => rfl⟩
  have A_fewest : At K mg "fewest" sFewest ["house"] := ⟨_, _, fun_mk (st := sFewest) l19 c19 k19, PySem.W.mg_of X G a19, (fun_mk (st := sFewest) l19 c19 k19).binds (ps := ["house"]) fun _ _ _ _ _ _ us hl => match us, hl with | [_], _ => rfl⟩
  have A_is_laying : At K mg "is_laying" sIsLaying ["thing"] := ⟨_, _, fun_mk (st := sIsLaying) l20 c20 k20, PySem.W.mg_of X G a20, (fun_mk (st := sIsLaying) l20 c20 k20).binds (ps := ["thing"]) fun _ _ _ _ _ _ us hl => match us, hl with | [_], _ => rfl⟩
  have A_need_laying : At K mg "need_laying" sNeedLaying ["laying"] := ⟨_, _, fun_mk (st := sNeedLaying) l21 c21 k21, PySem.W.mg_of X G a21, (fun_mk (st := sNeedLaying) l21 c21 k21).binds (ps := ["laying"]) fun _ _ _ _ _ _ us hl => match us, hl with | [_], _ => rfl⟩
  have A_all_rounds_of : At K mg "all_rounds_of" sAllRoundsOf ["laying"] := ⟨_, _, fun_mk (st := sAllRoundsOf) l22 c22 k22, PySem.W.mg_of X G a22, (fun_mk (st := sAllRoundsOf) l22 c22 k22).binds (ps := ["laying"]) fun _ _ _ _ _ _ us hl => match us, hl with | [_], _ => rfl⟩
  have A_rounds_of : At K mg "rounds_of" sRoundsOf ["laying"] := ⟨_, _, fun_mk (st := sRoundsOf) l23 c23 k23, PySem.W.mg_of X G a23, (fun_mk (st := sRoundsOf) l23 c23 k23).binds (ps := ["laying"]) fun _ _ _ _ _ _ us hl => match us, hl with | [_], _ => rfl⟩
  have A_is_exchange : At K mg "is_exchange" sIsExchange ["laying", "thing"] := ⟨_, _, fun_mk (st := sIsExchange) l24 c24 k24, PySem.W.mg_of X G a24, (fun_mk (st := sIsExchange) l24 c24 k24).binds (ps := ["laying", "thing"]) fun _ _ _ _ _ _ us hl => match us, hl with | [_, _], _ => rfl⟩
  have A_exchanged : At K mg "exchanged" sExchanged ["laying", "pair"] := ⟨_, _, fun_mk (st := sExchanged) l25 c25 k25, PySem.W.mg_of X G a25, (fun_mk (st := sExchanged) l25 c25 k25).binds (ps := ["laying", "pair"]) fun _ _ _ _ _ _ us hl => match us, hl with | [_, _], _ => rfl⟩
  have A_behind : At K mg "behind" sBehind ["laying", "row"] := ⟨_, _, fun_mk (st := sBehind) l26 c26 k26, PySem.W.mg_of X G a26, (fun_mk (st := sBehind) l26 c26 k26).binds (ps := ["laying", "row"]) fun _ _ _ _ _ _ us hl => match us, hl with | [_, _], _ => rfl⟩
  have A_law_draws : At K mg "_law_draws" sLawDraws ["cell", "many", "size"] := ⟨_, _, fun_mk (st := sLawDraws) l27 c27 k27, PySem.W.mg_of X G a27, (fun_mk (st := sLawDraws) l27 c27 k27).binds (ps := ["cell", "many", "size"]) fun _ _ _ _ _ _ us hl => match us, hl with | [_, _, _], _ => rfl⟩
  have A_law_cell_at : At K mg "_law_cell_at" sLawCellAt ["script", "k"] := ⟨_, _, fun_mk (st := sLawCellAt) l28 c28 k28, PySem.W.mg_of X G a28, (fun_mk (st := sLawCellAt) l28 c28 k28).binds (ps := ["script", "k"]) fun _ _ _ _ _ _ us hl => match us, hl with | [_, _], _ => rfl⟩
  have A_law_bag : At K mg "_law_bag" sLawBag ["script", "k"] := ⟨_, _, fun_mk (st := sLawBag) l29 c29 k29, PySem.W.mg_of X G a29, (fun_mk (st := sLawBag) l29 c29 k29).binds (ps := ["script", "k"]) fun _ _ _ _ _ _ us hl => match us, hl with | [_, _], _ => rfl⟩
  have A_law_bags : At K mg "_law_bags" sLawBags ["script", "limit"] := ⟨_, _, fun_mk (st := sLawBags) l30 c30 k30, PySem.W.mg_of X G a30, (fun_mk (st := sLawBags) l30 c30 k30).binds (ps := ["script", "limit"]) fun _ _ _ _ _ _ us hl => match us, hl with | [_, _], _ => rfl⟩
  have A_law_take : At K mg "_law_take" sLawTake ["bag", "many"] := ⟨_, _, fun_mk (st := sLawTake) l31 c31 k31, PySem.W.mg_of X G a31, (fun_mk (st := sLawTake) l31 c31 k31).binds (ps := ["bag", "many"]) fun _ _ _ _ _ _ us hl => match us, hl with | [_, _], _ => rfl⟩
  have A_law_mixed : At K mg "_law_mixed" sLawMixed ["bag", "many"] := ⟨_, _, fun_mk (st := sLawMixed) l32 c32 k32, PySem.W.mg_of X G a32, (fun_mk (st := sLawMixed) l32 c32 k32).binds (ps := ["bag", "many"]) fun _ _ _ _ _ _ us hl => match us, hl with | [_, _], _ => rfl⟩
  have A_law_laid : At K mg "_law_laid" sLawLaid ["bag", "many"] := ⟨_, _, fun_mk (st := sLawLaid) l33 c33 k33, PySem.W.mg_of X G a33, (fun_mk (st := sLawLaid) l33 c33 k33).binds (ps := ["bag", "many"]) fun _ _ _ _ _ _ us hl => match us, hl with | [_, _], _ => rfl⟩
  have A_law_as_house : At K mg "_law_as_house" sLawAsHouse ["laying"] := ⟨_, _, fun_mk (st := sLawAsHouse) l34 c34 k34, PySem.W.mg_of X G a34, (fun_mk (st := sLawAsHouse) l34 c34 k34).binds (ps := ["laying"]) fun _ _ _ _ _ _ us hl => match us, hl with | [_], _ => rfl⟩
  refine ⟨PySem.W.fnOf "law" "law" (defArgs sLaw) (defBody sLaw) (defScope sLaw) .none kV35 dc35 pm35 an35 cd35 ct35, fun s v => .of_eq rfl, fun base _ _ => ?_⟩
  have F1 := fn_is_within (P := l.prog) (w := w) (base := base) T A_is_within
  have F2 := fn_is_colour (P := l.prog) (w := w) (base := base) T (PySem.W.mg_of X G aS) A_is_colour
  have F3 := fn_are_colours T F2 A_are_colours
  have F4 := fn_is_box T F3 A_is_box
  have F5 := fn_is_house T F3 F4 A_is_house
  have F6 := fn_need_house T F5 A_need_house
  have F7 := fn_are_boxes T F1 A_are_boxes
  have F8 := fn_need_boxes T F7 A_need_boxes
  have F9 := fn_all_rounds (P := l.prog) (w := w) (base := base) T A_all_rounds
  have F10 := fn_not_in (P := l.prog) (w := w) (base := base) T A_not_in
  have F11 := fn_shut_where T F9 F10 A_shut_where
  have F12 := fn_rounds T F6 F9 A_rounds
  have F13 := fn_shut T F6 F11 A_shut
  have F14 := fn_shut_with T F6 F8 F11 A_shut_with
  have F15 := fn_has_one_lock (P := l.prog) (w := w) (base := base) T A_has_one_lock
  have F16 := fn_opened_by T F11 A_opened_by
  have F17 := fn_least_lots T F11 F16 A_least_lots
  have F18 := fn_kept_lots T F6 F15 F17 A_kept_lots
  have F19 := fn_fewest T F6 F15 F17 A_fewest
  have F20 := fn_is_laying T F1 A_is_laying
  have F21 := fn_need_laying T F20 A_need_laying
  have F22 := fn_all_rounds_of (P := l.prog) (w := w) (base := base) T A_all_rounds_of
  have F23 := fn_rounds_of T F21 F22 A_rounds_of
  have F24 := fn_is_exchange T F1 A_is_exchange
  have F25 := fn_exchanged (P := l.prog) (w := w) (base := base) T A_exchanged
  have F26 := fn_behind T F21 F24 F25 A_behind
  have F27 := fn_draws (P := l.prog) (w := w) (base := base) T A_law_draws
  have F28 := fn_cell_at (P := l.prog) (w := w) (base := base) T A_law_cell_at
  have F29 := fn_bag T F28 F27 A_law_bag
  have F30 := fn_bags T F29 A_law_bags
  have F31 := fn_take (P := l.prog) (w := w) (base := base) T A_law_take
  have F32 := fn_mixed T F31 A_law_mixed
  have F33 := fn_laid T F32 A_law_laid
  have F34 := fn_as_house (P := l.prog) (w := w) (base := base) T A_law_as_house
  exact ok_law T ⟨F31, F33, F34, F23, F5, F13, F12, F19, F18, F14, F26⟩ F30 (fun_mk (st := sLaw) l35 c35 k35)
theorem walk {l : PySem.W.OpenLaw} {q : Program} {loose : List Str} {XP : (Str → Option Value) → Heap → Prop} {YP : World → Heap → Prop} {d : DefRec} {K : Params → PySem.W.Frag} (hn : l.most = some 63) (hdf : d.params.defaults = [])
    (hY : ∀ (w : World) (h : Heap), YP w h → (K w.params).In h)
    (F : ∀ (w : World) (mg : Str → Option Value) (fa : Addr) (h : Heap), (K w.params).In h → h.Ns mainGlobals mg → mg d.name = some (.ref fa) →
      ∃ fd : FuncData, (∀ (s : Shared) (u : Value), BindsTo s fd ⟨[u], []⟩ [("script", u)]) ∧ ∀ base : Heap, (K w.params).In base → base.Ns mainGlobals mg → FnOk l.prog w (K w.params) mg base CX0 7 fa fd ["script"] (spLaw (K w.params))) :
    PySem.W.WalkO q loose XP YP l.row.toRowW d [] (fun f vs => PySem.call f vs) :=
  L2.walk_of (n := 63) (k := 7) (x := "script") (CX := fun _ => CX0) (sp := fun w => spLaw (K w.params)) hn (by decide) hdf ⟨rfl, by decide, by decide⟩ hY F (fun _ _ a ns hl _ hS => ⟨a, ns, rfl, hS, hl, fun _ => rfl⟩) fun _ _ _ _ _ z => z
end K13

open PySem PySem.W PyProof.Rows in
set_option maxRecDepth 100000 in
set_option maxHeartbeats 0 in
theorem PySem.Challenge.cw_keyswithin_k13_whole_layings_are_houses_holds : PySem.Challenge.rw_keyswithin_k13_whole_layings_are_houses.Holds := by
  w_on; o_law; k_head; (case hw => w_witness2)
  k_fill
  refine K13.walk (l := PySem.Challenge.rw_keyswithin_k13_whole_layings_are_houses) rfl rfl (fun w h Y => PySem.W.kIn_of Y) ?F
  case F =>
    intro w mg fa h KX G hmg
    refine' K13.all_mk KX G hmg ?a1 ?l1 ?c1 ?k1 ?a2 ?l2 ?c2 ?k2 ?a3 ?l3 ?c3 ?k3 ?a4 ?l4 ?c4 ?k4 ?a5 ?l5 ?c5 ?k5 ?a6 ?l6 ?c6 ?k6 ?a7 ?l7 ?c7 ?k7 ?a8 ?l8 ?c8 ?k8 ?a9 ?l9 ?c9 ?k9 ?a10 ?l10 ?c10 ?k10 ?a11 ?l11 ?c11 ?k11 ?a12 ?l12 ?c12 ?k12 ?a13 ?l13 ?c13 ?k13 ?a14 ?l14 ?c14 ?k14 ?a15 ?l15 ?c15 ?k15 ?a16 ?l16 ?c16 ?k16 ?a17 ?l17 ?c17 ?k17 ?a18 ?l18 ?c18 ?k18 ?a19 ?l19 ?c19 ?k19 ?a20 ?l20 ?c20 ?k20 ?a21 ?l21 ?c21 ?k21 ?a22 ?l22 ?c22 ?k22 ?a23 ?l23 ?c23 ?k23 ?a24 ?l24 ?c24 ?k24 ?a25 ?l25 ?c25 ?k25 ?a26 ?l26 ?c26 ?k26 ?a27 ?l27 ?c27 ?k27 ?a28 ?l28 ?c28 ?k28 ?a29 ?l29 ?c29 ?k29 ?a30 ?l30 ?c30 ?k30 ?a31 ?l31 ?c31 ?k31 ?a32 ?l32 ?c32 ?k32 ?a33 ?l33 ?c33 ?k33 ?a34 ?l34 ?c34 ?k34 ?a35 ?l35 ?c35 ?k35 ?aS ?z_len ?z_list ?z_tuple ?z_isinstance ?z_all ?z_int ?z_bool ?z_str ?z_range ?z_enumerate ?z_zip ?z_sorted ?z_dict ?z_set ?z_min ?z_max ?z_abs
    (case a1 => k_is)
    (case l1 => k_is)
    (case c1 => k_is)
    (case k1 => k_is)
    (case a2 => k_is)
    (case l2 => k_is)
    (case c2 => k_is)
    (case k2 => k_is)
    (case a3 => k_is)
    (case l3 => k_is)
    (case c3 => k_is)
    (case k3 => k_is)
    (case a4 => k_is)
    (case l4 => k_is)
    (case c4 => k_is)
    (case k4 => k_is)
    (case a5 => k_is)
    (case l5 => k_is)
    (case c5 => k_is)
    (case k5 => k_is)
    (case a6 => k_is)
    (case l6 => k_is)
    (case c6 => k_is)
    (case k6 => k_is)
    (case a7 => k_is)
    (case l7 => k_is)
    (case c7 => k_is)
    (case k7 => k_is)
    (case a8 => k_is)
    (case l8 => k_is)
    (case c8 => k_is)
    (case k8 => k_is)
    (case a9 => k_is)
    (case l9 => k_is)
    (case c9 => k_is)
    (case k9 => k_is)
    (case a10 => k_is)
    (case l10 => k_is)
    (case c10 => k_is)
    (case k10 => k_is)
    (case a11 => k_is)
    (case l11 => k_is)
    (case c11 => k_is)
    (case k11 => k_is)
    (case a12 => k_is)
    (case l12 => k_is)
    (case c12 => k_is)
    (case k12 => k_is)
    (case a13 => k_is)
    (case l13 => k_is)
    (case c13 => k_is)
    (case k13 => k_is)
    (case a14 => k_is)
    (case l14 => k_is)
    (case c14 => k_is)
    (case k14 => k_is)
    (case a15 => k_is)
    (case l15 => k_is)
    (case c15 => k_is)
    (case k15 => k_is)
    (case a16 => k_is)
    (case l16 => k_is)
    (case c16 => k_is)
    (case k16 => k_is)
    (case a17 => k_is)
    (case l17 => k_is)
    (case c17 => k_is)
    (case k17 => k_is)
    (case a18 => k_is)
    (case l18 => k_is)
    (case c18 => k_is)
    (case k18 => k_is)
    (case a19 => k_is)
    (case l19 => k_is)
    (case c19 => k_is)
    (case k19 => k_is)
    (case a20 => k_is)
    (case l20 => k_is)
    (case c20 => k_is)
    (case k20 => k_is)
    (case a21 => k_is)
    (case l21 => k_is)
    (case c21 => k_is)
    (case k21 => k_is)
    (case a22 => k_is)
    (case l22 => k_is)
    (case c22 => k_is)
    (case k22 => k_is)
    (case a23 => k_is)
    (case l23 => k_is)
    (case c23 => k_is)
    (case k23 => k_is)
    (case a24 => k_is)
    (case l24 => k_is)
    (case c24 => k_is)
    (case k24 => k_is)
    (case a25 => k_is)
    (case l25 => k_is)
    (case c25 => k_is)
    (case k25 => k_is)
    (case a26 => k_is)
    (case l26 => k_is)
    (case c26 => k_is)
    (case k26 => k_is)
    (case a27 => k_is)
    (case l27 => k_is)
    (case c27 => k_is)
    (case k27 => k_is)
    (case a28 => k_is)
    (case l28 => k_is)
    (case c28 => k_is)
    (case k28 => k_is)
    (case a29 => k_is)
    (case l29 => k_is)
    (case c29 => k_is)
    (case k29 => k_is)
    (case a30 => k_is)
    (case l30 => k_is)
    (case c30 => k_is)
    (case k30 => k_is)
    (case a31 => k_is)
    (case l31 => k_is)
    (case c31 => k_is)
    (case k31 => k_is)
    (case a32 => k_is)
    (case l32 => k_is)
    (case c32 => k_is)
    (case k32 => k_is)
    (case a33 => k_is)
    (case l33 => k_is)
    (case c33 => k_is)
    (case k33 => k_is)
    (case a34 => k_is)
    (case l34 => k_is)
    (case c34 => k_is)
    (case k34 => k_is)
    (case a35 => k_is)
    (case l35 => k_is)
    (case c35 => k_is)
    (case k35 => k_is)
    (case aS => k_is)
    (case z_len => k_is)
    (case z_list => k_is)
    (case z_tuple => k_is)
    (case z_isinstance => k_is)
    (case z_all => k_is)
    (case z_int => k_is)
    (case z_bool => k_is)
    (case z_str => k_is)
    (case z_range => k_is)
    (case z_enumerate => k_is)
    (case z_zip => k_is)
    (case z_sorted => k_is)
    (case z_dict => k_is)
    (case z_set => k_is)
    (case z_min => k_is)
    (case z_max => k_is)
    (case z_abs => k_is)
