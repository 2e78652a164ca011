import PyProof.Rows.All
import Wide.All
import OpenK.AllK
import Wide.FinOn
import HandS.ForMost
import HandS.Exc
import HandS.HeadHook1
import HandS.Wide
import HandS.TupAny
import HandS.Walk
import PyProof.StrOps2
import HandS.ExcOwn
import HandS.WordsExc
import HandS.Defaults
import HandS.Style
import KE.GoesNew
import KE.GoesEnum
import HandS.Comp
import HandS.IsInst
import HandS.FStr
import HandS.Text
import HandS.RaiseMore
import HandS.Deep
import HandS.Zip
import KE.GoesMore
import HandS.Head0
import HandS.Head1
import HandS.Head2
import HandS.HeadEnd
import HandS.HeadHook2
import KE.KIntText
import PyProof.StrLawsRepr
import PyProof.Rows.StrIntSpec
import KE.KxField
import HandS.Star
import KE.KDictZip
import KE.KItemsList
import HandS.Conv
import PySem.Challenge.RW_growshrink_k58_reports
import KE.KStateDown
set_option Elab.async false
set_option linter.all false
set_option autoImplicit false
set_option maxRecDepth 100000
set_option maxHeartbeats 2000000
/-! M1: the middle layer: data, store, what represents what, outcomes. -/
namespace MM
open PySem PySem.Spec PyProof.Rows L2

/-- data: tuples, frozen lists and dicts by value; a mutable thing by its place in the store -/
inductive D where
  | non | bl (b : Bool) | int (i : Int) | str (x : Str)
  | tup (xs : List D) | lst (xs : List D) | dct (kvs : List (Str × D))
  | loc (n : Nat) | fn (x : Str)
  deriving Inhabited

/-- a mutable object -/
inductive MO where
  | lst (xs : List D) | dct (kvs : List (Str × D)) | dtt (kvs : List (List Key × D)) | ins (c : Str) (fs : List (Str × D))
  deriving Inhabited

abbrev Sto := List MO
abbrev Env := List (Option D)

/-- a witness: what is frozen, and where the store's things stand -/
structure Mw where
  Z : Hp
  r : List Addr

def Ext (m m' : Mw) : Prop := (∀ a o, m.Z a = some o → m'.Z a = some o) ∧ ∃ t, m'.r = m.r ++ t
theorem Ext.refl (m : Mw) : Ext m m := ⟨fun _ _ h => h, [], by simp⟩
theorem Ext.trans {a b c : Mw} (h : Ext a b) (g : Ext b c) : Ext a c := by
  obtain ⟨h1, t, h2⟩ := h
  obtain ⟨g1, u, g2⟩ := g
  exact ⟨fun x o e => g1 x o (h1 x o e), t ++ u, by rw [g2, h2, List.append_assoc]⟩
theorem Ext.at {m m' : Mw} (h : Ext m m') {n : Nat} {a : Addr} (e : m.r[n]? = some a) : m'.r[n]? = some a := by
  obtain ⟨_, t, h2⟩ := h
  rw [h2, List.getElem?_append_left (List.getElem?_eq_some_iff.mp e).1]
  exact e

section
variable (K : PySem.W.Frag) (m : Mw)
mutual
inductive RV : V → D → Prop
  | non : RV .non .non
  | bl (b : Bool) : RV (.bl b) (.bl b)
  | int (i : Int) : RV (.int i) (.int i)
  | str (x : Str) : RV (.str x) (.str x)
  | tup {a : Addr} {xs : List V} {ds : List D} : SqT K m.Z a xs → RVs xs ds → RV (.ref a) (.tup ds)
  | lst {a : Addr} {xs : List V} {ds : List D} : SqL K m.Z a xs → RVs xs ds → RV (.ref a) (.lst ds)
  | dct {a : Addr} {kvs : List (Key × V)} {ks : List (Str × D)} : m.Z a = some (.dK kvs) → RKs kvs ks → RV (.ref a) (.dct ks)
  | loc {a : Addr} {n : Nat} : m.r[n]? = some a → RV (.ref a) (.loc n)
  | fn (x : Str) : RV (.ref (He.ga K x)) (.fn x)
inductive RVs : List V → List D → Prop
  | nil : RVs [] []
  | cons {v : V} {d : D} {vs : List V} {ds : List D} : RV v d → RVs vs ds → RVs (v :: vs) (d :: ds)
inductive RKs : List (Key × V) → List (Str × D) → Prop
  | nil : RKs [] []
  | cons {x : Str} {v : V} {d : D} {vs : List (Key × V)} {ds : List (Str × D)} : RV v d → RKs vs ds → RKs ((.inr x, v) :: vs) ((x, d) :: ds)
end
end

section
variable {K : PySem.W.Frag} {m m' : Mw}
theorem rd_mono {H H' : Hp} (h : ∀ a o, H a = some o → H' a = some o) {a : Addr} {u : HO} (q : Rd H a u) : Rd H' a u := by
  rcases q with q | ⟨o, q⟩
  · exact .inl (h _ _ q)
  · exact .inr ⟨o, h _ _ q⟩
theorem sqT_mono {H H' : Hp} (h : ∀ a o, H a = some o → H' a = some o) {a : Addr} {xs : List V} (q : SqT K H a xs) : SqT K H' a xs := by
  rcases q with q | q
  · exact .inl (rd_mono h q)
  · exact .inr q
theorem sqL_mono {H H' : Hp} (h : ∀ a o, H a = some o → H' a = some o) {a : Addr} {xs : List V} (q : SqL K H a xs) : SqL K H' a xs := by
  rcases q with q | q
  · exact .inl (rd_mono h q)
  · exact .inr q
mutual
theorem RV.mono (e : Ext m m') : ∀ {v : V} {d : D}, RV K m v d → RV K m' v d
  | _, _, .non => .non
  | _, _, .bl b => .bl b
  | _, _, .int i => .int i
  | _, _, .str x => .str x
  | _, _, .tup h r => .tup (sqT_mono e.1 h) (RVs.mono e r)
  | _, _, .lst h r => .lst (sqL_mono e.1 h) (RVs.mono e r)
  | _, _, .dct h r => .dct (e.1 _ _ h) (RKs.mono e r)
  | _, _, .loc h => .loc (e.at h)
  | _, _, .fn x => .fn x
theorem RVs.mono (e : Ext m m') : ∀ {v : List V} {d : List D}, RVs K m v d → RVs K m' v d
  | _, _, .nil => .nil
  | _, _, .cons h r => .cons (RV.mono e h) (RVs.mono e r)
theorem RKs.mono (e : Ext m m') : ∀ {v : List (Key × V)} {d : List (Str × D)}, RKs K m v d → RKs K m' v d
  | _, _, .nil => .nil
  | _, _, .cons h r => .cons (RV.mono e h) (RKs.mono e r)
end
theorem RVs.length : ∀ {v : List V} {d : List D}, RVs K m v d → v.length = d.length
  | _, _, .nil => rfl
  | _, _, .cons _ r => by simp [RVs.length r]
theorem RVs.append : ∀ {v w : List V} {d e : List D}, RVs K m v d → RVs K m w e → RVs K m (v ++ w) (d ++ e)
  | _, _, _, _, .nil, s => s
  | _, _, _, _, .cons h r, s => .cons h (RVs.append r s)
theorem RVs.get : ∀ {v : List V} {d : List D} {i : Nat} {x : D}, RVs K m v d → d[i]? = some x → ∃ u, v[i]? = some u ∧ RV K m u x
  | _, _, _, _, .nil, e => by simp at e
  | _, _, 0, _, .cons h _, e => by simp at e; subst e; exact ⟨_, rfl, h⟩
  | _, _, i + 1, x, .cons _ r, e => by
    obtain ⟨u, h1, h2⟩ := RVs.get (i := i) (x := x) r (by simpa using e)
    exact ⟨u, by simpa using h1, h2⟩
theorem RVs.getV : ∀ {v : List V} {d : List D} {i : Nat} {u : V}, RVs K m v d → v[i]? = some u → ∃ x, d[i]? = some x ∧ RV K m u x
  | _, _, _, _, .nil, e => by simp at e
  | _, _, 0, _, .cons h _, e => by simp at e; subst e; exact ⟨_, rfl, h⟩
  | _, _, i + 1, u, .cons _ r, e => by
    obtain ⟨x, h1, h2⟩ := RVs.getV (i := i) (u := u) r (by simpa using e)
    exact ⟨x, by simpa using h1, h2⟩
theorem RVs.take : ∀ {v : List V} {d : List D} (n : Nat), RVs K m v d → RVs K m (v.take n) (d.take n)
  | _, _, 0, _ => .nil
  | _, _, _ + 1, .nil => .nil
  | _, _, n + 1, .cons h r => .cons h (RVs.take n r)
theorem RVs.drop : ∀ {v : List V} {d : List D} (n : Nat), RVs K m v d → RVs K m (v.drop n) (d.drop n)
  | _, _, 0, r => r
  | _, _, _ + 1, .nil => .nil
  | _, _, n + 1, .cons h r => RVs.drop n r
theorem RVs.set {u : V} {x : D} (q : RV K m u x) : ∀ {v : List V} {d : List D} (n : Nat), RVs K m v d → RVs K m (v.set n u) (d.set n x)
  | _, _, _, .nil => .nil
  | _, _, 0, .cons _ r => .cons q r
  | _, _, n + 1, .cons h r => .cons h (RVs.set q n r)
theorem RVs.reverse {v : List V} {d : List D} (h : RVs K m v d) : RVs K m v.reverse d.reverse := by
  induction d generalizing v with
  | nil => cases h; exact .nil
  | cons x ds ih =>
    cases h with
    | cons a r =>
      rw [List.reverse_cons, List.reverse_cons]
      exact (ih r).append (.cons a .nil)
end

/-! ### the slots, the store -/
def RelE (K : PySem.W.Frag) (m : Mw) (σ : L2.St) (env : Env) : Prop :=
  σ.length = env.length ∧ ∀ (i : Nat) (d : D), env[i]? = some (some d) → ∃ v : V, σ[i]? = some (some v) ∧ RV K m v d
def RFs (K : PySem.W.Frag) (m : Mw) : List (Str × V) → List (Str × D) → Prop := Paired fun p q => p.1 = q.1 ∧ RV K m p.2 q.2
def RTs (K : PySem.W.Frag) (m : Mw) : List (List Key × V) → List (List Key × D) → Prop := Paired fun p q => p.1 = q.1 ∧ RV K m p.2 q.2
def RO (K : PySem.W.Frag) (m : Mw) (H : Hp) (a : Addr) : MO → Prop
  | .lst ds => ∃ xs, H a = some (.lst xs) ∧ RVs K m xs ds
  | .dct ks => ∃ kvs, H a = some (.dK kvs) ∧ RKs K m kvs ks
  | .dtt ks => ∃ kvs, H a = some (.dT kvs) ∧ RTs K m kvs ks
  | .ins c fs => ∃ dx gs, H a = some (.ins (He.ga K c) dx gs) ∧ m.Z dx = some (.own a) ∧ RFs K m gs fs
structure RelS (K : PySem.W.Frag) (m : Mw) (st : Sto) (H : Hp) : Prop where
  sub : ∀ a o, m.Z a = some o → H a = some o
  len : m.r.length = st.length
  nd : m.r.Nodup
  off : ∀ a ∈ m.r, m.Z a = none
  obj : ∀ (n : Nat) (a : Addr) (mo : MO), m.r[n]? = some a → st[n]? = some mo → RO K m H a mo

section
variable {K : PySem.W.Frag} {m m' : Mw} {H H' : Hp} {st : Sto} {σ : L2.St} {env : Env}
theorem RelE.mono (e : Ext m m') (h : RelE K m σ env) : RelE K m' σ env :=
  ⟨h.1, fun i d q => let ⟨v, a, b⟩ := h.2 i d q; ⟨v, a, b.mono e⟩⟩
theorem RelE.set {v : V} {d : D} (h : RelE K m σ env) (i : Nat) (r : RV K m v d) : RelE K m (σ.set i (some v)) (env.set i (some d)) := by
  refine ⟨by simp [h.1], fun j x q => ?_⟩
  by_cases e : i = j
  · subst e
    by_cases hl : i < env.length
    · rw [List.getElem?_set_self hl] at q
      cases q
      exact ⟨v, by rw [List.getElem?_set_self (by rw [h.1]; exact hl)], r⟩
    · rw [List.getElem?_eq_none (by simp; omega)] at q; cases q
  · rw [List.getElem?_set_ne e] at q
    obtain ⟨u, a, b⟩ := h.2 j x q
    exact ⟨u, by rw [List.getElem?_set_ne e]; exact a, b⟩
theorem RFs.mono (e : Ext m m') {a : List (Str × V)} {b : List (Str × D)} (h : RFs K m a b) : RFs K m' a b := Paired.mapP h fun _ _ q => ⟨q.1, q.2.mono e⟩
theorem RTs.mono (e : Ext m m') {a : List (List Key × V)} {b : List (List Key × D)} (h : RTs K m a b) : RTs K m' a b := Paired.mapP h fun _ _ q => ⟨q.1, q.2.mono e⟩
theorem RO.mono (e : Ext m m') {a : Addr} {mo : MO} (h : RO K m H a mo) : RO K m' H a mo := by
  cases mo with
  | lst ds => obtain ⟨xs, p, q⟩ := h; exact ⟨xs, p, q.mono e⟩
  | dct ks => obtain ⟨xs, p, q⟩ := h; exact ⟨xs, p, q.mono e⟩
  | dtt ks => obtain ⟨xs, p, q⟩ := h; exact ⟨xs, p, RTs.mono e q⟩
  | ins c fs => obtain ⟨dx, gs, p, z, q⟩ := h; exact ⟨dx, gs, p, e.1 _ _ z, RFs.mono e q⟩
theorem RO.same {a : Addr} {mo : MO} (h : RO K m H a mo) (e : H' a = H a) : RO K m H' a mo := by
  cases mo with
  | lst ds => obtain ⟨xs, p, q⟩ := h; exact ⟨xs, e.trans p, q⟩
  | dct ks => obtain ⟨xs, p, q⟩ := h; exact ⟨xs, e.trans p, q⟩
  | dtt ks => obtain ⟨xs, p, q⟩ := h; exact ⟨xs, e.trans p, q⟩
  | ins c fs => obtain ⟨dx, gs, p, z, q⟩ := h; exact ⟨dx, gs, e.trans p, z, q⟩
theorem RO.some {a : Addr} {mo : MO} (h : RO K m H a mo) : ∃ o, H a = some o := by
  cases mo with
  | lst ds => obtain ⟨xs, p, q⟩ := h; exact ⟨_, p⟩
  | dct ks => obtain ⟨xs, p, q⟩ := h; exact ⟨_, p⟩
  | dtt ks => obtain ⟨xs, p, q⟩ := h; exact ⟨_, p⟩
  | ins c fs => obtain ⟨dx, gs, p, z, q⟩ := h; exact ⟨_, p⟩
theorem RelS.there (h : RelS K m st H) {n : Nat} {a : Addr} (e : m.r[n]? = some a) : ∃ mo, st[n]? = some mo ∧ RO K m H a mo := by
  have hl : n < st.length := by rw [← h.len]; exact (List.getElem?_eq_some_iff.mp e).1
  exact ⟨st[n], by simp [hl], h.obj n a _ e (by simp [hl])⟩
theorem RelS.at (h : RelS K m st H) {n : Nat} {mo : MO} (e : st[n]? = some mo) : ∃ a, m.r[n]? = some a ∧ RO K m H a mo := by
  have hl : n < m.r.length := by rw [h.len]; exact (List.getElem?_eq_some_iff.mp e).1
  exact ⟨m.r[n], by simp [hl], h.obj n _ _ (by simp [hl]) e⟩
theorem RelS.tr (h : RelS K m st H) {a : Addr} (ha : a ∈ m.r) : ∃ o, H a = some o := by
  obtain ⟨n, hn, e⟩ := List.getElem_of_mem ha
  obtain ⟨mo, _, q⟩ := h.there (n := n) (a := a) (by simp [hn, e])
  exact q.some
/-- the heap may change where neither the frozen part nor the store looks -/
theorem RelS.heap (h : RelS K m st H) (e1 : ∀ a o, m.Z a = some o → H' a = some o) (e2 : ∀ a ∈ m.r, H' a = H a) : RelS K m st H' :=
  ⟨e1, h.len, h.nd, h.off, fun n a mo e q => (h.obj n a mo e q).same (e2 a (List.mem_of_getElem? e))⟩
theorem RelS.free (h : RelS K m st H) {p : Addr} (hp : H p = none) : m.Z p = none ∧ p ∉ m.r := by
  refine ⟨?_, fun hm => ?_⟩
  · cases q : m.Z p with
    | none => rfl
    | some o => rw [h.sub p o q] at hp; cases hp
  · obtain ⟨o, q⟩ := h.tr hm
    rw [q] at hp; cases hp
/-- something private is made or changed -/
theorem RelS.priv (h : RelS K m st H) {p : Addr} (hz : m.Z p = none) (hr : p ∉ m.r) (o : HO) : RelS K m st (upd H p o) :=
  h.heap (fun a u q => by rw [upd_ne (fun e => by rw [e, hz] at q; cases q)]; exact h.sub a u q) fun a ha => upd_ne fun e => hr (e ▸ ha)
/-- a private thing is frozen -/
def Mw.frz (m : Mw) (p : Addr) (o : HO) : Mw := ⟨upd m.Z p o, m.r⟩
theorem Ext.frz {p : Addr} {o : HO} (hz : m.Z p = none) : Ext m (m.frz p o) :=
  ⟨fun a u q => by
    show upd m.Z p o a = _
    rw [upd_ne (fun e => by rw [e, hz] at q; cases q)]; exact q, [], by simp [Mw.frz]⟩
theorem RelS.frz (h : RelS K m st H) {p : Addr} {o : HO} (hz : m.Z p = none) (hr : p ∉ m.r) (e : H p = some o) : RelS K (m.frz p o) st H := by
  refine ⟨fun a u q => ?_, h.len, h.nd, fun a ha => ?_, fun n a mo q1 q2 => (h.obj n a mo q1 q2).mono (Ext.frz hz)⟩
  · by_cases ea : a = p
    · subst ea
      have q' : upd m.Z a o a = some u := q
      rw [upd_same] at q'
      cases q'
      exact e
    · have q' : upd m.Z p o a = some u := q
      rw [upd_ne ea] at q'
      exact h.sub a u q'
  · show upd m.Z p o a = none
    have ne : a ≠ p := fun e => hr (by rw [← e]; exact ha)
    rw [upd_ne ne]
    exact h.off a ha
/-- a new thing, frozen at once -/
theorem RelS.newFrz' (h : RelS K m st H) {p : Addr} (o : HO) (hp : H p = none) : Ext m (m.frz p o) ∧ RelS K (m.frz p o) st (upd H p o) := by
  obtain ⟨hz, hr⟩ := h.free hp
  exact ⟨Ext.frz hz, (h.priv hz hr o).frz hz hr upd_same⟩
theorem frz_at {p : Addr} {o : HO} : (m.frz p o).Z p = some o := upd_same
/-- a private thing joins the store -/
def Mw.add (m : Mw) (p : Addr) : Mw := ⟨m.Z, m.r ++ [p]⟩
theorem Ext.add {p : Addr} : Ext m (m.add p) := ⟨fun _ _ q => q, [p], rfl⟩
theorem add_at {p : Addr} : (m.add p).r[m.r.length]? = some p := by simp [Mw.add]
theorem RelS.add (h : RelS K m st H) {p : Addr} {mo : MO} (hz : m.Z p = none) (hr : p ∉ m.r) (ho : RO K (m.add p) H p mo) : RelS K (m.add p) (st ++ [mo]) H := by
  refine ⟨h.sub, by simp [Mw.add, h.len], ?_, fun a ha => ?_, fun n a x q1 q2 => ?_⟩
  · show (m.r ++ [p]).Nodup
    rw [List.nodup_append]
    exact ⟨h.nd, by simp, fun a ha b hb => by simp at hb; subst hb; exact fun e => hr (e ▸ ha)⟩
  · rcases List.mem_append.mp (show a ∈ m.r ++ [p] from ha) with ha | ha
    · exact h.off a ha
    · simp at ha; subst ha; exact hz
  · have q1' : (m.r ++ [p])[n]? = some a := q1
    by_cases hn : n < m.r.length
    · rw [List.getElem?_append_left hn] at q1'
      rw [List.getElem?_append_left (by rw [← h.len]; exact hn)] at q2
      exact (h.obj n a x q1' q2).mono Ext.add
    · have en : n = m.r.length := by
        have := (List.getElem?_eq_some_iff.mp q1').1
        simp at this
        omega
      subst en
      rw [List.getElem?_append_right (Nat.le_refl _)] at q1'
      rw [h.len, List.getElem?_append_right (Nat.le_refl _)] at q2
      simp at q1' q2
      subst q1' q2
      exact ho
/-- the n-th thing is written -/
theorem RelS.write (h : RelS K m st H) {n : Nat} {a : Addr} {mo : MO} {o : HO} (e : m.r[n]? = some a) (ho : RO K m (upd H a o) a mo) : RelS K m (st.set n mo) (upd H a o) := by
  have hz := h.off a (List.mem_of_getElem? e)
  refine ⟨fun b u q => ?_, by simp [h.len], h.nd, h.off, fun j b x q1 q2 => ?_⟩
  · rw [upd_ne (fun ee => by rw [ee, hz] at q; cases q)]; exact h.sub b u q
  · by_cases hj : n = j
    · subst hj
      rw [e] at q1
      cases q1
      have hl : n < st.length := by rw [← h.len]; exact (List.getElem?_eq_some_iff.mp e).1
      rw [List.getElem?_set_self hl] at q2
      cases q2
      exact ho
    · rw [List.getElem?_set_ne hj] at q2
      have hb : b ≠ a := fun ee => by
        subst ee
        obtain ⟨l1, e1⟩ := List.getElem?_eq_some_iff.mp e
        obtain ⟨l2, e2⟩ := List.getElem?_eq_some_iff.mp q1
        exact hj ((List.getElem_inj h.nd).mp (e1.trans e2.symm))
      exact (h.obj j b x q1 q2).same (upd_ne hb)
end

/-! ### what lies below: no place of the store from n on -/
mutual
def below (n : Nat) : D → Bool
  | .tup xs => belows n xs
  | .lst xs => belows n xs
  | .dct ks => belowk n ks
  | .loc k => decide (k < n)
  | .non => true
  | .bl _ => true
  | .int _ => true
  | .str _ => true
  | .fn _ => true
def belows (n : Nat) : List D → Bool
  | [] => true
  | d :: ds => below n d && belows n ds
def belowk (n : Nat) : List (Str × D) → Bool
  | [] => true
  | p :: ds => below n p.2 && belowk n ds
end
def belowM (n : Nat) : MO → Bool
  | .lst xs => belows n xs
  | .dct ks => belowk n ks
  | .dtt ks => ks.all fun p => below n p.2
  | .ins _ fs => belowk n fs
section
variable {K : PySem.W.Frag} {m : Mw}
mutual
theorem RV.low : ∀ {v : V} {d : D}, RV K m v d → below m.r.length d = true
  | _, _, .non => by simp [below]
  | _, _, .bl b => by simp [below]
  | _, _, .int i => by simp [below]
  | _, _, .str x => by simp [below]
  | _, _, .tup h r => by simp only [below]; exact RVs.low r
  | _, _, .lst h r => by simp only [below]; exact RVs.low r
  | _, _, .dct h r => by simp only [below]; exact RKs.low r
  | _, _, .loc h => by simp only [below]; exact decide_eq_true (List.getElem?_eq_some_iff.mp h).1
  | _, _, .fn x => by simp [below]
theorem RVs.low : ∀ {v : List V} {d : List D}, RVs K m v d → belows m.r.length d = true
  | _, _, .nil => by simp [belows]
  | _, _, .cons h r => by simp only [belows, RV.low h, RVs.low r, Bool.and_self]
theorem RKs.low : ∀ {v : List (Key × V)} {d : List (Str × D)}, RKs K m v d → belowk m.r.length d = true
  | _, _, .nil => by simp [belowk]
  | _, _, .cons h r => by simp only [belowk, RV.low h, RKs.low r, Bool.and_self]
end
def Mw.cut (m : Mw) (r : List Addr) : Mw := ⟨m.Z, r⟩
theorem cut_at {r t : List Addr} (e : m.r = r ++ t) {n : Nat} {a : Addr} (h : m.r[n]? = some a) (hn : n < r.length) : r[n]? = some a := by
  rw [e, List.getElem?_append_left hn] at h
  exact h
mutual
theorem RV.cut {r t : List Addr} (e : m.r = r ++ t) : ∀ {v : V} {d : D}, RV K m v d → below r.length d = true → RV K (m.cut r) v d
  | _, _, .non, _ => .non
  | _, _, .bl b, _ => .bl b
  | _, _, .int i, _ => .int i
  | _, _, .str x, _ => .str x
  | _, _, .tup h q, b => .tup h (RVs.cut e q (by simpa only [below] using b))
  | _, _, .lst h q, b => .lst h (RVs.cut e q (by simpa only [below] using b))
  | _, _, .dct h q, b => .dct h (RKs.cut e q (by simpa only [below] using b))
  | _, _, .loc h, b => .loc (cut_at e h (by simpa only [below, decide_eq_true_eq] using b))
  | _, _, .fn x, _ => .fn x
theorem RVs.cut {r t : List Addr} (e : m.r = r ++ t) : ∀ {v : List V} {d : List D}, RVs K m v d → belows r.length d = true → RVs K (m.cut r) v d
  | _, _, .nil, _ => .nil
  | _, _, .cons h q, b => by
    simp only [belows, Bool.and_eq_true] at b
    exact .cons (RV.cut e h b.1) (RVs.cut e q b.2)
theorem RKs.cut {r t : List Addr} (e : m.r = r ++ t) : ∀ {v : List (Key × V)} {d : List (Str × D)}, RKs K m v d → belowk r.length d = true → RKs K (m.cut r) v d
  | _, _, .nil, _ => .nil
  | _, _, .cons h q, b => by
    simp only [belowk, Bool.and_eq_true] at b
    exact .cons (RV.cut e h b.1) (RKs.cut e q b.2)
end
theorem RFs.low {a : List (Str × V)} {b : List (Str × D)} (h : RFs K m a b) : belowk m.r.length b = true := by
  induction h with
  | nil => simp [belowk]
  | cons q r ih => simp only [belowk, q.2.low, Bool.true_and]; exact ih
theorem RFs.cut {r t : List Addr} (e : m.r = r ++ t) {a : List (Str × V)} {b : List (Str × D)} (h : RFs K m a b) (hb : belowk r.length b = true) : RFs K (m.cut r) a b := by
  induction h with
  | nil => exact .nil
  | cons q _ ih =>
    simp only [belowk, Bool.and_eq_true] at hb
    exact .cons ⟨q.1, q.2.cut e hb.1⟩ (ih hb.2)
theorem RTs.low {a : List (List Key × V)} {b : List (List Key × D)} (h : RTs K m a b) : (b.all fun p => below m.r.length p.2) = true := by
  induction h with
  | nil => rfl
  | cons q r ih => simp only [List.all_cons, q.2.low, Bool.true_and]; exact ih
theorem RTs.cut {r t : List Addr} (e : m.r = r ++ t) {a : List (List Key × V)} {b : List (List Key × D)} (h : RTs K m a b) (hb : (b.all fun p => below r.length p.2) = true) : RTs K (m.cut r) a b := by
  induction h with
  | nil => exact .nil
  | cons q _ ih =>
    simp only [List.all_cons, Bool.and_eq_true] at hb
    exact .cons ⟨q.1, q.2.cut e hb.1⟩ (ih hb.2)
theorem RO.low {H : Hp} {a : Addr} {mo : MO} (h : RO K m H a mo) : belowM m.r.length mo = true := by
  cases mo with
  | lst ds => obtain ⟨xs, p, q⟩ := h; exact q.low
  | dct ks => obtain ⟨xs, p, q⟩ := h; exact q.low
  | dtt ks => obtain ⟨xs, p, q⟩ := h; exact RTs.low q
  | ins c fs => obtain ⟨dx, gs, p, z, q⟩ := h; exact RFs.low q
theorem RO.cut {H : Hp} {a : Addr} {mo : MO} {r t : List Addr} (e : m.r = r ++ t) (h : RO K m H a mo) (b : belowM r.length mo = true) : RO K (m.cut r) H a mo := by
  cases mo with
  | lst ds => obtain ⟨xs, p, q⟩ := h; exact ⟨xs, p, q.cut e b⟩
  | dct ks => obtain ⟨xs, p, q⟩ := h; exact ⟨xs, p, q.cut e b⟩
  | dtt ks => obtain ⟨xs, p, q⟩ := h; exact ⟨xs, p, RTs.cut e q b⟩
  | ins c fs => obtain ⟨dx, gs, p, z, q⟩ := h; exact ⟨dx, gs, p, z, RFs.cut e q b⟩
end
/-- what a def or a block leaves of the store: the things that were there; what changed of them points to nothing new -/
def okCut (st st' : Sto) : Prop := st.length ≤ st'.length ∧ ∀ n, n < st.length → st'[n]? = st[n]? ∨ ∃ mo, st'[n]? = some mo ∧ belowM st.length mo = true
theorem RelS.cut {K : PySem.W.Frag} {m m' : Mw} {st st' : Sto} {H H' : Hp} (h : RelS K m st H) (e : Ext m m') (h' : RelS K m' st' H') (ok : okCut st st') : RelS K (m'.cut m.r) (st'.take st.length) H' := by
  obtain ⟨e1, t, e2⟩ := e
  refine ⟨h'.sub, ?_, h.nd, fun a ha => h'.off a (by rw [e2]; exact List.mem_append_left _ ha), fun n a mo q1 q2 => ?_⟩
  · have := ok.1
    simp [Mw.cut, h.len, this]
  · have hn : n < st.length := by rw [← h.len]; exact (List.getElem?_eq_some_iff.mp q1).1
    rw [List.getElem?_take_of_lt hn] at q2
    have q1' : m'.r[n]? = some a := by
      rw [e2, List.getElem?_append_left (by rw [h.len]; exact hn)]
      exact q1
    have ro := h'.obj n a mo q1' q2
    refine ro.cut e2 ?_
    rcases ok.2 n hn with q | ⟨mo', q, b⟩
    · rw [q2] at q
      exact (h.obj n a mo q1 q.symm).low
    · rw [q2] at q
      cases q
      rw [h.len]
      exact b

/-- from one state to a later one: what is frozen stays, the store's things stay, what nobody tracks is left alone -/
structure Ex (m : Mw) (H : Hp) (m' : Mw) (H' : Hp) : Prop where
  ext : Ext m m'
  priv : ∀ p o, H p = some o → m.Z p = none → p ∉ m.r → H' p = some o ∧ m'.Z p = none ∧ p ∉ m'.r
theorem Ex.refl (m : Mw) (H : Hp) : Ex m H m H := ⟨Ext.refl m, fun _ _ e z r => ⟨e, z, r⟩⟩
theorem Ex.trans {a b c : Mw} {H H1 H2 : Hp} (x : Ex a H b H1) (y : Ex b H1 c H2) : Ex a H c H2 :=
  ⟨x.ext.trans y.ext, fun p o e z r => let ⟨e1, z1, r1⟩ := x.priv p o e z r; y.priv p o e1 z1 r1⟩
theorem Ex.frz {m : Mw} {H : Hp} {p : Addr} {o : HO} (hz : m.Z p = none) (hp : H p = none) : Ex m H (m.frz p o) (upd H p o) :=
  ⟨Ext.frz hz, fun q u e z r => by
    have ne : q ≠ p := fun e' => by rw [e', hp] at e; cases e
    exact ⟨by rw [upd_ne ne]; exact e, by show upd m.Z p o q = none; rw [upd_ne ne]; exact z, r⟩⟩
theorem Ex.new {m : Mw} {H : Hp} {p : Addr} {o : HO} (hp : H p = none) : Ex m H (m.add p) (upd H p o) :=
  ⟨Ext.add, fun q u e z r => by
    have ne : q ≠ p := fun e' => by rw [e', hp] at e; cases e
    exact ⟨by rw [upd_ne ne]; exact e, z, fun hm => by
      rcases List.mem_append.mp (show q ∈ m.r ++ [p] from hm) with h | h
      · exact r h
      · exact ne (by simpa using h)⟩⟩
theorem RelS.newFrz {K : PySem.W.Frag} {m : Mw} {st : Sto} {H : Hp} (h : RelS K m st H) {p : Addr} (o : HO) (hp : H p = none) : Ex m H (m.frz p o) (upd H p o) ∧ RelS K (m.frz p o) st (upd H p o) :=
  ⟨Ex.frz (h.free hp).1 hp, (h.newFrz' o hp).2⟩
theorem Ex.write {m : Mw} {H : Hp} {a : Addr} {o : HO} (ha : a ∈ m.r) : Ex m H m (upd H a o) :=
  ⟨Ext.refl m, fun q u e z r => ⟨by rw [upd_ne (fun e' => r (by rw [e']; exact ha))]; exact e, z, r⟩⟩

/-! ### outcomes -/
inductive Xc where
  | own (c : Str) (fs : List (Str × D)) | blt (c : String)
inductive Rs (α : Type) where
  | ok (a : α) (st : Sto) | er (x : Xc) (env : Env) (st : Sto) | no
def Rs.bind {α β : Type} (r : Rs α) (f : α → Sto → Rs β) : Rs β :=
  match r with
  | .ok a st => f a st
  | .er x env st => .er x env st
  | .no => .no
@[simp] theorem Rs.bind_ok {α β : Type} (a : α) (st : Sto) (f : α → Sto → Rs β) : (Rs.ok a st).bind f = f a st := rfl
@[simp] theorem Rs.bind_er {α β : Type} (x : Xc) (env : Env) (st : Sto) (f : α → Sto → Rs β) : (Rs.er x env st).bind f = .er x env st := rfl
@[simp] theorem Rs.bind_no {α β : Type} (f : α → Sto → Rs β) : (Rs.no : Rs α).bind f = .no := rfl
def RX (K : PySem.W.Frag) (m : Mw) (H : Hp) : Xc → Value → Option Addr → Prop
  | .own c fs, cls, d => cls = .ref (He.ga K c) ∧ (fs = [] ∨ ∃ dd gs, d = some dd ∧ H dd = some (.xd gs) ∧ RFs K m gs fs)
  | .blt c, cls, _ => cls = .type c
/-- an outcome is met: what is wanted of a value, of an exception -/
def Fin {α : Type} (K : PySem.W.Frag) (W : WX) (m : Mw) (H₀ : Hp) (r : Rs α) (P : α → Mw → Sto → Hp → Prop) : Prop :=
  match r with
  | .ok a st => ∀ m' H, Ex m H₀ m' H → RelS K m' st H → P a m' st H
  | .er x env st => ∀ m' H σ c d, Ex m H₀ m' H → RelS K m' st H → RelE K m' σ env → RX K m' H x c d → W c d σ H
  | .no => False
section
variable {α β : Type} {K : PySem.W.Frag} {W : WX} {m m' : Mw} {H₀ H₁ : Hp} {r : Rs α} {P P' : α → Mw → Sto → Hp → Prop}
theorem Fin.from (h : Fin K W m H₀ r P) (e : Ex m H₀ m' H₁) : Fin K W m' H₁ r P := by
  cases r with
  | ok a st => exact fun m'' H e' s => h m'' H (e.trans e') s
  | er x env st => exact fun m'' H σ c d e' s => h m'' H σ c d (e.trans e') s
  | no => exact h
theorem Fin.imp (h : Fin K W m H₀ r P) (k : ∀ a m' st H, Ex m H₀ m' H → RelS K m' st H → P a m' st H → P' a m' st H) : Fin K W m H₀ r P' := by
  cases r with
  | ok a st => exact fun m'' H e' s => k a m'' st H e' s (h m'' H e' s)
  | er x env st => exact h
  | no => exact h
theorem Fin.bind {f : α → Sto → Rs β} {Q : β → Mw → Sto → Hp → Prop} (h : Fin K W m H₀ (r.bind f) Q) : Fin K W m H₀ r fun a m' st H => Fin K W m' H (f a st) Q := by
  cases r with
  | ok a st => exact fun m'' H e' s => Fin.from (r := f a st) h e'
  | er x env st => exact h
  | no => exact h
end

/-! ### the readings that functions of slots and store make -/
abbrev FE := Env → Sto → Rs D
def tE (K : PySem.W.Frag) (W : WX) (f : FE) : TE := fun σ H Q => ∃ m env st, RelE K m σ env ∧ RelS K m st H ∧ Fin K W m H (f env st) fun d m' _ H' => ∀ v, RV K m' v d → Q v H'
def tT (K : PySem.W.Frag) (W : WX) (f : Env → Sto → Rs Bool) : TT := fun σ H Q => ∃ m env st, RelE K m σ env ∧ RelS K m st H ∧ Fin K W m H (f env st) fun d _ _ H' => Q d H'
def tA (K : PySem.W.Frag) (W : WX) (f : Env → Sto → Rs (List D)) : TA := fun σ H Q => ∃ m env st, RelE K m σ env ∧ RelS K m st H ∧ Fin K W m H (f env st) fun d m' _ H' => ∀ v, RVs K m' v d → Q v H'
theorem pe_wk {X : Cx} {e : Expr} {t u : TE} (h : PE X e t) (k : ∀ σ H Q, u σ H Q → t σ H Q) : PE X e u := ⟨fun pins s σ H Q I q => h.run pins s σ H Q I (k σ H Q q)⟩
theorem pt_wk {X : Cx} {e : Expr} {t u : TT} (h : PT X e t) (k : ∀ σ H Q, u σ H Q → t σ H Q) : PT X e u := ⟨fun pins s σ H Q I q => h.run pins s σ H Q I (k σ H Q q)⟩
theorem pa_wk {X : Cx} {e : List Expr} {t u : TA} (h : PA X e t) (k : ∀ σ H Q, u σ H Q → t σ H Q) : PA X e u := ⟨fun pos pins s σ H Q I q => h.run pos pins s σ H Q I (k σ H Q q)⟩
theorem ps_wk {X : Cx} {e : Stmt} {t u : TS} (h : PS X e t) (k : ∀ D σ H, u D σ H → t D σ H) : PS X e u := ⟨fun pins s σ H D I q => h.run pins s σ H D I (k D σ H q)⟩
theorem pss_wk {X : Cx} {e : List Stmt} {t u : TS} (h : PSs X e t) (k : ∀ D σ H, u D σ H → t D σ H) : PSs X e u := ⟨fun pins s σ H D I q => h.run pins s σ H D I (k D σ H q)⟩
end MM
set_option Elab.async false
set_option linter.all false
set_option autoImplicit false
set_option maxRecDepth 100000
set_option maxHeartbeats 2000000
/-! M2: expressions. -/
namespace MM
open PySem PySem.Spec PyProof.Rows L2

/-! ### values of operations: from data and the store, no change of the store -/
abbrev F1 := Sto → D → Option D
abbrev F2 := Sto → D → D → Option D
abbrev FL := Sto → List D → Option D
def Rs.val {α : Type} (o : Option α) (st : Sto) : Rs α := match o with
  | some d => .ok d st
  | none => .no
@[simp] theorem Rs.val_some {α : Type} (d : α) (st : Sto) : Rs.val (some d) st = .ok d st := rfl
@[simp] theorem Rs.val_none {α : Type} (st : Sto) : (Rs.val (none : Option α) st) = .no := rfl
/-- what is wanted of a value, wherever it stands -/
def Want (K : PySem.W.Frag) (m : Mw) (H : Hp) (st : Sto) (o : Option D) (Q : VK) : Prop := ∃ d, o = some d ∧ ∀ m' H' v, Ex m H m' H' → RelS K m' st H' → RV K m' v d → Q v H'
def r1 (K : PySem.W.Frag) (g : F1) : V → Hp → VK → Prop := fun x H Q => ∃ m st a, RelS K m st H ∧ RV K m x a ∧ Want K m H st (g st a) Q
def r2 (K : PySem.W.Frag) (g : F2) : R2 := fun x y H Q => ∃ m st a b, RelS K m st H ∧ RV K m x a ∧ RV K m y b ∧ Want K m H st (g st a b) Q
def rL (K : PySem.W.Frag) (g : FL) : List V → Hp → VK → Prop := fun xs H Q => ∃ m st as, RelS K m st H ∧ RVs K m xs as ∧ Want K m H st (g st as) Q
def rM (K : PySem.W.Frag) (g : F1 × (Sto → D → List D → Option D)) : V → List V → Hp → VK → Prop := fun x xs H Q => ∃ m st a as, RelS K m st H ∧ RV K m x a ∧ RVs K m xs as ∧ Want K m H st (g.2 st a as) Q

section
variable {K : PySem.W.Frag} {W : WX} {m : Mw} {st : Sto} {H : Hp} {Q : VK} {d : D}
theorem Want.of_fin {o : Option D} (h : Fin K W m H (Rs.val o st) fun d m' _ H' => ∀ v, RV K m' v d → Q v H') : Want K m H st o Q := by
  cases o with
  | none => exact h.elim
  | some d => exact ⟨d, rfl, fun m' H' v e s r => h m' H' e s v r⟩
theorem Want.get (h : Want K m H st (some d) Q) : ∀ m' H' v, Ex m H m' H' → RelS K m' st H' → RV K m' v d → Q v H' := by
  obtain ⟨d', e, h⟩ := h
  cases e
  exact h
theorem Want.none (h : Want K m H st none Q) : False := by
  obtain ⟨d', e, h⟩ := h
  cases e
/-- a scalar is the answer -/
theorem Want.sc (h : Want K m H st (some d) Q) (hS : RelS K m st H) {v : V} (r : RV K m v d) : Q v H := h.get m H v (Ex.refl m H) hS r
/-- a new tuple, list is the answer -/
theorem Want.tup {ds : List D} {xs : List V} (h : Want K m H st (some (.tup ds)) Q) (hS : RelS K m st H) (r : RVs K m xs ds) {p : Addr} (hp : H p = Option.none) : Q (.ref p) (upd H p (.tup xs)) := by
  obtain ⟨e, s⟩ := hS.newFrz (.tup xs) hp
  exact h.get _ _ _ e s (.tup (.inl (.inl frz_at)) (r.mono e.ext))
theorem Want.lst {ds : List D} {xs : List V} (h : Want K m H st (some (.lst ds)) Q) (hS : RelS K m st H) (r : RVs K m xs ds) {p : Addr} (hp : H p = Option.none) : Q (.ref p) (upd H p (.lst xs)) := by
  obtain ⟨e, s⟩ := hS.newFrz (.lst xs) hp
  exact h.get _ _ _ e s (.lst (.inl (.inl frz_at)) (r.mono e.ext))
end

/-! ### functions of slots and store -/
def eV (i : Nat) : FE := fun env st => match env[i]? with
  | some (some d) => .ok d st
  | _ => .no
def eC (d : D) : FE := fun _ st => .ok d st
def e1 (g : F1) (a : FE) : FE := fun env st => (a env st).bind fun x s1 => Rs.val (g s1 x) s1
def e2 (g : F2) (a b : FE) : FE := fun env st => (a env st).bind fun x s1 => (b env s1).bind fun y s2 => Rs.val (g s2 x y) s2
abbrev FA := Env → Sto → Rs (List D)
def aN : FA := fun _ st => .ok [] st
def aC (a : FE) (r : FA) : FA := fun env st => (a env st).bind fun x s1 => (r env s1).bind fun xs s2 => .ok (x :: xs) s2
def eL (g : FL) (a : FA) : FE := fun env st => (a env st).bind fun xs s1 => Rs.val (g s1 xs) s1
abbrev FT := Env → Sto → Rs Bool
/-- a value that is a bool, as a test -/
def tV (a : FE) : FT := fun env st => (a env st).bind fun x s1 => match x with
  | .bl b => .ok b s1
  | _ => .no
def tAn (a b : FT) : FT := fun env st => (a env st).bind fun x s1 => if x = true then b env s1 else .ok false s1
def tOr' (a b : FT) : FT := fun env st => (a env st).bind fun x s1 => if x = true then .ok true s1 else b env s1
def tNo (a : FT) : FT := fun env st => (a env st).bind fun x s1 => .ok (!x) s1
def eAn (a b : FE) : FE := fun env st => (a env st).bind fun x s1 => match x with
  | .bl true => b env s1
  | .bl false => .ok (.bl false) s1
  | _ => .no
def eOr (a b : FE) : FE := fun env st => (a env st).bind fun x s1 => match x with
  | .bl false => b env s1
  | .bl true => .ok (.bl true) s1
  | _ => .no
def eNo (a : FE) : FE := fun env st => (a env st).bind fun x s1 => match x with
  | .bl b => .ok (.bl (!b)) s1
  | _ => .no
def eIf (t : FT) (a b : FE) : FE := fun env st => (t env st).bind fun x s1 => if x = true then a env s1 else b env s1
def eTup (a : FA) : FE := fun env st => (a env st).bind fun xs s1 => if xs.length ≤ 100000 then .ok (.tup xs) s1 else .no
def eLst (a : FA) : FE := fun env st => (a env st).bind fun xs s1 => if xs.length ≤ 100000 then .ok (.lst xs) s1 else .no
/-- a list that will be changed -/
def eNew (a : FA) : FE := fun env st => (a env st).bind fun xs s1 => if xs.length ≤ 100000 then .ok (.loc s1.length) (s1 ++ [.lst xs]) else .no

abbrev ME (X : Cx) (W : WX) (e : Expr) (f : FE) : Prop := PE X e (tE X.K W f)
abbrev MT (X : Cx) (W : WX) (e : Expr) (f : FT) : Prop := PT X e (tT X.K W f)
abbrev MW (X : Cx) (W : WX) (e : Expr) (f : FT) : Prop := PW X e (tT X.K W f)
abbrev MA (X : Cx) (W : WX) (es : List Expr) (f : FA) : Prop := PA X es (tA X.K W f)
theorem sz5 {n : Nat} (h : n ≤ 100000) : n ≤ sizeLine := Nat.le_trans h (by decide)

section
variable {X : Cx} {W : WX} {a b c e : Expr} {es : List Expr} {fa fb fc : FE} {ta tb : FT} {ga : FA} {pos : Pos}
theorem me_v (i : Nat) {x : Str} {pos : Pos} (hN : X.N[i]? = some x := by rfl) (hv : Vis X.env.scope x := by first | exact Or.inl rfl | exact Or.inr (Or.inl rfl) | exact Or.inr (Or.inr rfl)) (hd : (x == ("__debug__" : Str)) = false := by decide)
    (hcd : (x == ("__classdict__" : Str)) = false := by decide) : ME X W (.Name x pos) (eV i) := by
  refine pe_wk (pe_var hN hv hd hcd) ?_
  rintro σ H Q ⟨m, env, st, hE, hS, h⟩
  unfold eV at h
  split at h
  · rename_i d hd
    obtain ⟨v, h1, h2⟩ := hE.2 i d hd
    exact ⟨v, h1, h m H (Ex.refl m _) hS v h2⟩
  · exact h.elim
theorem me_c {d : D} {v : V} (h : PE X e (tC v)) (hr : ∀ m, RV X.K m v d) : ME X W e (eC d) := by
  refine pe_wk h ?_
  rintro σ H Q ⟨m, env, st, hE, hS, h⟩
  exact h m H (Ex.refl m _) hS v (hr m)
theorem me_int {i j} : ME X W (.Constant (.int i) j pos) (eC (.int i)) := me_c pe_int fun _ => .int i
theorem me_bl {i j} : ME X W (.Constant (.bool i) j pos) (eC (.bl i)) := me_c pe_bl fun _ => .bl i
theorem me_non {j} : ME X W (.Constant .none j pos) (eC .non) := me_c pe_non fun _ => .non
theorem me_str {x j} : ME X W (.Constant (.str x) j pos) (eC (.str x)) := me_c pe_str fun _ => .str x
/-- a constant of the module -/
structure ConOk (X : Cx) (x : Str) (d : D) : Prop where
  ex : ∃ u v, X.mg x = some u ∧ RelV v u ∧ ∀ m, RV X.K m v d
theorem me_g {x : Str} {d : D} (h : ConOk X x d) (hg : Gl X x := by rfl) (hd : (x == ("__debug__" : Str)) = false := by decide) : ME X W (.Name x pos) (eC d) := by
  obtain ⟨u, v, h1, h2, h3⟩ := h.ex
  exact me_c (pe_glob hg h1 h2 hd) h3

theorem to_op {g : F2} : ∀ σ H Q, tE X.K W (e2 g fa fb) σ H Q → tOp (r2 X.K g) (tE X.K W fa) (tE X.K W fb) σ H Q := by
  rintro σ H Q ⟨m, env, st, hE, hS, h⟩
  refine ⟨m, env, st, hE, hS, h.bind.imp fun x m1 st1 H1 x1 s1 h1 v rv => ?_⟩
  refine ⟨m1, env, st1, hE.mono x1.ext, s1, h1.bind.imp fun y m2 st2 H2 x2 s2 h2 u ru => ?_⟩
  exact ⟨m2, st2, x, y, s2, rv.mono x2.ext, ru, .of_fin h2⟩
theorem me_op {op : Operator} {g : F2} (ho : OpR X (binaryOp op) (r2 X.K g)) (ha : ME X W a fa) (hb : ME X W b fb) : ME X W (.BinOp a op b pos) (e2 g fa fb) := pe_wk (pe_op ho ha hb) to_op
theorem me_cmp {op : CmpOp} {g : F2} (ho : OpR X (compareOp op) (r2 X.K g)) (ha : ME X W a fa) (hb : ME X W b fb) (hm : behindInMarks op b = false := by first | exact nomark _ | rfl) : ME X W (.Compare a [op] [b] pos) (e2 g fa fb) := pe_wk (pe_cmpR ho ha hb hm) to_op
theorem to_test {f : FE} {t : TE} (h : ∀ σ H Q, tE X.K W f σ H Q → t σ H Q) : ∀ σ H Q, tT X.K W (tV f) σ H Q → tTest t σ H Q := by
  rintro σ H Q ⟨m, env, st, hE, hS, q⟩
  refine h σ H _ ⟨m, env, st, hE, hS, q.bind.imp fun x m1 st1 H1 x1 s1 h1 v rv => ?_⟩
  cases x with
  | bl c =>
    cases rv
    exact ⟨c, rfl, h1 m1 H1 (Ex.refl m1 _) s1⟩
  | _ => exact h1.elim
theorem mt_cmp {op : CmpOp} {g : F2} (ho : OpR X (compareOp op) (r2 X.K g)) (ha : ME X W a fa) (hb : ME X W b fb) (hm : behindInMarks op b = false := by first | exact nomark _ | rfl) : MT X W (.Compare a [op] [b] pos) (tV (e2 g fa fb)) :=
  pt_wk (pt_cmpR ho ha hb hm) (to_test to_op)
theorem mt_v (ha : ME X W e fa) (he : ∀ whole, isTrue e X.env whole = (do let v ← whole; standAt e.pos; holding [v] (truthy v)) := by intro _; rfl) : MT X W e (tV fa) := pt_wk (pt_val ha he) (to_test fun _ _ _ h => h)
theorem me_un {op : UnaryOp} {g : F1} (ho : UnR X (unaryOp op) (r1 X.K g)) (ha : ME X W a fa) : ME X W (.UnaryOp op a pos) (e1 g fa) := by
  refine pe_wk (pe_un ho ha) ?_
  rintro σ H Q ⟨m, env, st, hE, hS, h⟩
  refine ⟨m, env, st, hE, hS, h.bind.imp fun x m1 st1 H1 x1 s1 h1 v rv => ?_⟩
  exact ⟨m1, st1, x, s1, rv, .of_fin h1⟩
theorem to_if {A B : Prop} {b : Bool} (h1 : b = true → A) (h2 : b = false → B) : if b = true then A else B := by
  cases b with
  | true => exact h1 rfl
  | false => exact h2 rfl
/-! tests -/
theorem mt_and1 (ha : MT X W a ta) : MW X W (.BoolOp .And [a] pos) ta := pw_and1 ha
theorem mt_or1 (ha : MT X W a ta) : MW X W (.BoolOp .Or [a] pos) ta := pw_or1 ha
theorem pw_wk {t u : TT} (h : PW X e t) (k : ∀ σ H Q, u σ H Q → t σ H Q) : PW X e u := ⟨fun wh pins s σ H Q I q => h.run wh pins s σ H Q I (k σ H Q q)⟩
theorem mt_and {rest : List Expr} (ha : MT X W a ta) (hb : MW X W (.BoolOp .And (b :: rest) pos) tb) : MW X W (.BoolOp .And (a :: b :: rest) pos) (tAn ta tb) := by
  refine pw_wk (pw_and ha hb) ?_
  rintro σ H Q ⟨m, env, st, hE, hS, h⟩
  refine ⟨m, env, st, hE, hS, h.bind.imp fun x m1 st1 H1 x1 s1 h1 => ?_⟩
  cases x with
  | true => exact ⟨m1, env, st1, hE.mono x1.ext, s1, h1⟩
  | false => exact h1 m1 H1 (Ex.refl m1 _) s1
theorem mt_or {rest : List Expr} (ha : MT X W a ta) (hb : MW X W (.BoolOp .Or (b :: rest) pos) tb) : MW X W (.BoolOp .Or (a :: b :: rest) pos) (tOr' ta tb) := by
  refine pw_wk (pw_or ha hb) ?_
  rintro σ H Q ⟨m, env, st, hE, hS, h⟩
  refine ⟨m, env, st, hE, hS, h.bind.imp fun x m1 st1 H1 x1 s1 h1 => ?_⟩
  cases x with
  | false => exact ⟨m1, env, st1, hE.mono x1.ext, s1, h1⟩
  | true => exact h1 m1 H1 (Ex.refl m1 _) s1
theorem mt_w (h : MW X W e ta) : MT X W e ta := h.pt
theorem mt_not (ha : MT X W a ta) : MT X W (.UnaryOp .Not a pos) (tNo ta) := by
  refine pt_wk (pt_not ha) ?_
  rintro σ H Q ⟨m, env, st, hE, hS, h⟩
  exact ⟨m, env, st, hE, hS, h.bind.imp fun x m1 st1 H1 x1 s1 h1 => h1 m1 H1 (Ex.refl m1 _) s1⟩
/-! the same as values -/
theorem me_one {op} (h : ME X W a fa) : ME X W (.BoolOp op [a] pos) fa := pe_one h
theorem me_and {rest : List Expr} (ha : ME X W a fa) (hb : ME X W (.BoolOp .And (b :: rest) pos) fb) : ME X W (.BoolOp .And (a :: b :: rest) pos) (eAn fa fb) := by
  refine pe_wk (pe_and ha hb) ?_
  rintro σ H Q ⟨m, env, st, hE, hS, h⟩
  refine ⟨m, env, st, hE, hS, h.bind.imp fun x m1 st1 H1 x1 s1 h1 v rv => ?_⟩
  cases x with
  | bl c =>
    cases rv
    refine ⟨c, rfl, ?_⟩
    cases c with
    | true => exact ⟨m1, env, st1, hE.mono x1.ext, s1, h1⟩
    | false => exact h1 m1 H1 (Ex.refl m1 _) s1 _ (.bl false)
  | _ => exact h1.elim
theorem me_or {rest : List Expr} (ha : ME X W a fa) (hb : ME X W (.BoolOp .Or (b :: rest) pos) fb) : ME X W (.BoolOp .Or (a :: b :: rest) pos) (eOr fa fb) := by
  refine pe_wk (pe_or ha hb) ?_
  rintro σ H Q ⟨m, env, st, hE, hS, h⟩
  refine ⟨m, env, st, hE, hS, h.bind.imp fun x m1 st1 H1 x1 s1 h1 v rv => ?_⟩
  cases x with
  | bl c =>
    cases rv
    refine ⟨c, rfl, ?_⟩
    cases c with
    | false => exact ⟨m1, env, st1, hE.mono x1.ext, s1, h1⟩
    | true => exact h1 m1 H1 (Ex.refl m1 _) s1 _ (.bl true)
  | _ => exact h1.elim
theorem me_not (ha : ME X W a fa) : ME X W (.UnaryOp .Not a pos) (eNo fa) := by
  refine pe_wk (pe_not ha) ?_
  rintro σ H Q ⟨m, env, st, hE, hS, h⟩
  refine ⟨m, env, st, hE, hS, h.bind.imp fun x m1 st1 H1 x1 s1 h1 v rv => ?_⟩
  cases x with
  | bl c =>
    cases rv
    exact ⟨c, rfl, h1 m1 H1 (Ex.refl m1 _) s1 _ (.bl _)⟩
  | _ => exact h1.elim
theorem me_if (ht : MT X W c ta) (ha : ME X W a fa) (hb : ME X W b fb) : ME X W (.IfExp c a b pos) (eIf ta fa fb) := by
  refine pe_wk (pe_ifExp ht ha hb) ?_
  rintro σ H Q ⟨m, env, st, hE, hS, h⟩
  refine ⟨m, env, st, hE, hS, h.bind.imp fun x m1 st1 H1 x1 s1 h1 => ?_⟩
  cases x with
  | true => exact ⟨m1, env, st1, hE.mono x1.ext, s1, h1⟩
  | false => exact ⟨m1, env, st1, hE.mono x1.ext, s1, h1⟩
/-! arguments, displays -/
theorem ma_nil : MA X W [] aN := by
  refine pa_wk pa_nil ?_
  rintro σ H Q ⟨m, env, st, hE, hS, h⟩
  exact h m H (Ex.refl m _) hS _ .nil
theorem ma_cons (ha : ME X W e fa) (hr : MA X W es ga) (hs : starEach (e :: es) X.env = (false, eval e X.env) :: starEach es X.env := by rfl) : MA X W (e :: es) (aC fa ga) := by
  refine pa_wk (pa_cons ha hr hs) ?_
  rintro σ H Q ⟨m, env, st, hE, hS, h⟩
  refine ⟨m, env, st, hE, hS, h.bind.imp fun x m1 st1 H1 x1 s1 h1 v rv => ?_⟩
  refine ⟨m1, env, st1, hE.mono x1.ext, s1, h1.bind.imp fun xs m2 st2 H2 x2 s2 h2 vs rvs => ?_⟩
  exact h2 m2 H2 (Ex.refl m2 _) s2 _ (.cons (rv.mono x2.ext) rvs)
theorem me_tup {x1} (h : MA X W es ga) : ME X W (.Tuple es x1 pos) (eTup ga) := by
  refine pe_wk (pe_tup h) ?_
  rintro σ H Q ⟨m, env, st, hE, hS, h⟩
  refine ⟨m, env, st, hE, hS, h.bind.imp fun xs m1 st1 H1 x1 s1 h1 vs rvs => ?_⟩
  by_cases hl : xs.length ≤ 100000
  · rw [if_pos hl] at h1
    refine ⟨sz5 (by rw [rvs.length]; exact hl), fun p hp => ?_⟩
    obtain ⟨x2, s2⟩ := s1.newFrz (.tup vs) hp
    exact h1 _ _ x2 s2 _ (.tup (.inl (.inl frz_at)) (rvs.mono x2.ext))
  · rw [if_neg hl] at h1
    exact h1.elim
theorem me_lst (h : MA X W es ga) : ME X W (.List es pos) (eLst ga) := by
  refine pe_wk (pe_lst h) ?_
  rintro σ H Q ⟨m, env, st, hE, hS, h⟩
  refine ⟨m, env, st, hE, hS, h.bind.imp fun xs m1 st1 H1 x1 s1 h1 vs rvs => ?_⟩
  by_cases hl : xs.length ≤ 100000
  · rw [if_pos hl] at h1
    refine ⟨sz5 (by rw [rvs.length]; exact hl), fun p hp => ?_⟩
    obtain ⟨x2, s2⟩ := s1.newFrz (.lst vs) hp
    exact h1 _ _ x2 s2 _ (.lst (.inl (.inl frz_at)) (rvs.mono x2.ext))
  · rw [if_neg hl] at h1
    exact h1.elim
theorem me_new (h : MA X W es ga) : ME X W (.List es pos) (eNew ga) := by
  refine pe_wk (pe_lst h) ?_
  rintro σ H Q ⟨m, env, st, hE, hS, h⟩
  refine ⟨m, env, st, hE, hS, h.bind.imp fun xs m1 st1 H1 x1 s1 h1 vs rvs => ?_⟩
  by_cases hl : xs.length ≤ 100000
  · rw [if_pos hl] at h1
    refine ⟨sz5 (by rw [rvs.length]; exact hl), fun p hp => ?_⟩
    obtain ⟨hz, hr⟩ := s1.free hp
    have s2 := (s1.priv hz hr (.lst vs)).add (mo := .lst xs) hz hr ⟨vs, upd_same, rvs.mono Ext.add⟩
    exact h1 _ _ (Ex.new hp) s2 _ (.loc (by rw [← s1.len]; exact add_at))
  · rw [if_neg hl] at h1
    exact h1.elim
/-! subscripts -/
theorem me_ix {g : F2} (hr : IxR X (r2 X.K g)) (ha : ME X W a fa) (hb : ME X W b fb) (hs : PlainIx b := by exact fun _ _ => rfl) : ME X W (.Subscript a b pos) (e2 g fa fb) := pe_wk (pe_ix hr ha hb hs) to_op
/-! calls of built-ins by name -/
theorem to_cb {g : FL} {t : TA} (h : ∀ σ H Q, tA X.K W ga σ H Q → t σ H Q) : ∀ σ H Q, tE X.K W (eL g ga) σ H Q → tCB (rL X.K g) t σ H Q := by
  rintro σ H Q ⟨m, env, st, hE, hS, q⟩
  refine h σ H _ ⟨m, env, st, hE, hS, q.bind.imp fun xs m1 st1 H1 x1 s1 h1 vs rvs => ?_⟩
  exact ⟨m1, st1, xs, s1, rvs, .of_fin h1⟩
variable {id : String} {x : Str} {p : Pos}
theorem me_cb {g : FL} (hc : CallR X (.builtin id) (rL X.K g)) (hm : X.mg x = none) (hv : bootBuiltins x = some (.builtin id)) (ha : MA X W (e :: es) ga) (hg : Gl X x := by rfl) (hn : x ≠ "__name__" := by decide) (hdb : (x == ("__debug__" : Str)) = false := by decide)
    (he : starEach (e :: es) X.env = (false, eval e X.env) :: starEach es X.env := by rfl) (hpl : (backTo pos (starEach es X.env)).any (·.1) = false := by rfl) : ME X W (.Call (.Name x p) (e :: es) [] pos) (eL g ga) :=
  pe_wk (pe_callB hc hg hm hv ha hn hdb he hpl) (to_cb fun _ _ _ h => h)
theorem me_ct {g : FL} (hc : CallR X (.type id) (rL X.K g)) (hm : X.mg x = none) (hv : bootBuiltins x = some (.type id)) (ha : MA X W (e :: es) ga) (hg : Gl X x := by rfl) (hn : x ≠ "__name__" := by decide) (hdb : (x == ("__debug__" : Str)) = false := by decide)
    (he : starEach (e :: es) X.env = (false, eval e X.env) :: starEach es X.env := by rfl) (hpl : (backTo pos (starEach es X.env)).any (·.1) = false := by rfl) : ME X W (.Call (.Name x p) (e :: es) [] pos) (eL g ga) :=
  pe_wk (pe_callTy hc hg hm hv ha hn hdb he hpl) (to_cb fun _ _ _ h => h)
/-! slices -/
abbrev FO := Env → Sto → Rs (Option Int)
def oN : FO := fun _ st => .ok none st
def oS (a : FE) : FO := fun env st => (a env st).bind fun x s1 => match x with
  | .int i => .ok (some i) s1
  | _ => .no
def tO (K : PySem.W.Frag) (W : WX) (f : FO) : TO := fun σ H Q => ∃ m env st, RelE K m σ env ∧ RelS K m st H ∧ Fin K W m H (f env st) fun d _ _ H' => Q d H'
abbrev MO' (X : Cx) (W : WX) (e : Option Expr) (f : FO) : Prop := PO X e (tO X.K W f)
theorem po_wk {e : Option Expr} {t u : TO} (h : PO X e t) (k : ∀ σ H Q, u σ H Q → t σ H Q) : PO X e u := ⟨fun pins s σ H Q I q => h.run pins s σ H Q I (k σ H Q q)⟩
theorem mo_n : MO' X W none oN := by
  refine po_wk po_none ?_
  rintro σ H Q ⟨m, env, st, hE, hS, h⟩
  exact h m H (Ex.refl m _) hS
theorem mo_s (ha : ME X W a fa) : MO' X W (some a) (oS fa) := by
  refine po_wk (po_some ha) ?_
  rintro σ H Q ⟨m, env, st, hE, hS, h⟩
  refine ⟨m, env, st, hE, hS, h.bind.imp fun x m1 st1 H1 x1 s1 h1 v rv => ?_⟩
  cases x with
  | int i =>
    cases rv
    exact ⟨i, rfl, h1 m1 H1 (Ex.refl m1 _) s1⟩
  | _ => exact h1.elim
abbrev FS := Sto → D → Option Int → Option Int → Option D
def rS (K : PySem.W.Frag) (g : FS) : V → Option Int → Option Int → Hp → VK → Prop := fun x lo hi H Q => ∃ m st a, RelS K m st H ∧ RV K m x a ∧ Want K m H st (g st a lo hi) Q
def eSl (g : FS) (a : FE) (l u : FO) : FE := fun env st => (a env st).bind fun x s1 => (l env s1).bind fun lo s2 => (u env s2).bind fun hi s3 => Rs.val (g s3 x lo hi) s3
theorem me_sl {g : FS} {lo hi : Option Expr} {fl fu : FO} {p2 : Pos} (hr : SlR X (rS X.K g)) (ha : ME X W a fa) (hl : MO' X W lo fl) (hu : MO' X W hi fu) : ME X W (.Subscript a (.Slice lo hi none p2) pos) (eSl g fa fl fu) := by
  refine pe_wk (pe_slice hr ha hl hu) ?_
  rintro σ H Q ⟨m, env, st, hE, hS, h⟩
  refine ⟨m, env, st, hE, hS, h.bind.imp fun x m1 st1 H1 x1 s1 h1 v rv => ?_⟩
  refine ⟨m1, env, st1, hE.mono x1.ext, s1, h1.bind.imp fun l m2 st2 H2 x2 s2 h2 => ?_⟩
  refine ⟨m2, env, st2, (hE.mono x1.ext).mono x2.ext, s2, h2.bind.imp fun u m3 st3 H3 x3 s3 h3 => ?_⟩
  exact ⟨m3, st3, x, s3, (rv.mono x2.ext).mono x3.ext, .of_fin h3⟩
end
end MM
set_option Elab.async false
set_option linter.all false
set_option autoImplicit false
set_option maxRecDepth 100000
set_option maxHeartbeats 2000000
/-! M3: operations on data. -/
namespace MM
noncomputable section
open PySem PySem.Spec PyProof.Rows L2

/-- the line of numbers: all that we multiply or divide by stays within -/
theorem BB_ex : ∃ t : Int, t = 2 ^ 3000 := ⟨_, rfl⟩
noncomputable def BB : Int := Classical.choose BB_ex
theorem BB_eq : BB = 2 ^ 3000 := Classical.choose_spec BB_ex
theorem BB_ge : (10 : Int) ^ 450 ≤ BB := by rw [BB_eq]; decide +kernel
theorem BB_pos : 0 < BB := by rw [BB_eq]; decide +kernel
theorem nat_BB {i : Int} (h1 : -BB < i) (h2 : i < BB) : i.natAbs < 2 ^ 3000 := by
  have e : BB = ((2 ^ 3000 : Nat) : Int) := by rw [BB_eq]; exact (Int.natCast_pow 2 3000).symm
  rw [e] at h1 h2
  omega
/-- a sequence's items -/
def sq (st : Sto) : D → Option (List D)
  | .tup xs => some xs
  | .lst xs => some xs
  | .loc n => match st[n]? with
    | some (.lst xs) => some xs
    | _ => none
  | _ => none
/-- a list's items -/
def sqL (st : Sto) : D → Option (List D)
  | .lst xs => some xs
  | .loc n => match st[n]? with
    | some (.lst xs) => some xs
    | _ => none
  | _ => none
section
variable {K : PySem.W.Frag} {m : Mw} {st : Sto} {H : Hp} {v : V} {d : D} {ds : List D}
theorem sqL_ok (hS : RelS K m st H) (r : RV K m v d) (h : sqL st d = some ds) : ∃ a xs, v = .ref a ∧ SqL K H a xs ∧ RVs K m xs ds := by
  cases d with
  | lst zs =>
    cases h
    cases r with
    | lst h1 h2 => exact ⟨_, _, rfl, sqL_mono hS.sub h1, h2⟩
  | loc n =>
    cases r with
    | loc e =>
      obtain ⟨mo, h1, h2⟩ := hS.there e
      simp only [sqL, h1] at h
      cases mo with
      | lst zs =>
        cases h
        obtain ⟨xs, h3, h4⟩ := h2
        exact ⟨_, _, rfl, .inl (.inl h3), h4⟩
      | _ => cases h
  | _ => cases h
theorem sq_ok (hS : RelS K m st H) (r : RV K m v d) (h : sq st d = some ds) : ∃ a xs, v = .ref a ∧ (SqL K H a xs ∨ SqT K H a xs) ∧ RVs K m xs ds := by
  cases d with
  | tup zs =>
    cases h
    cases r with
    | tup h1 h2 => exact ⟨_, _, rfl, .inr (sqT_mono hS.sub h1), h2⟩
  | lst zs =>
    obtain ⟨a, xs, h1, h2, h3⟩ := sqL_ok hS r (show sqL st (.lst zs) = some ds from h)
    exact ⟨a, xs, h1, .inl h2, h3⟩
  | loc n =>
    obtain ⟨a, xs, h1, h2, h3⟩ := sqL_ok hS r (show sqL st (.loc n) = some ds from h)
    exact ⟨a, xs, h1, .inl h2, h3⟩
  | _ => cases h
end

/-! ### ints -/
def fI2 (g : Int → Int → Option D) : F2 := fun _ a b => match a, b with
  | .int i, .int j => g i j
  | _, _ => none
section
variable {X : Cx}
theorem op_I2 {f : Value → Value → Sem Value} {g : Int → Int → Option D} {C : Int → Int → Prop} {h : Int → Int → V} (o : OpR X f (rI C h)) (hg : ∀ i j d, g i j = some d → C i j ∧ ∀ m, RV X.K m (h i j) d) : OpR X f (r2 X.K (fI2 g)) := by
  rintro pins s σ H x y v u Q I rx ry ⟨m, st, a, b, hS, ra, rb, hw⟩
  cases a with
  | int i =>
    cases b with
    | int j =>
      cases ra
      cases rb
      obtain ⟨d, e, q⟩ := hw
      obtain ⟨hc, hr⟩ := hg i j d e
      exact o pins s σ H _ _ v u Q I rx ry ⟨i, j, rfl, rfl, hc, q m H _ (Ex.refl m _) hS (hr m)⟩
    | _ => exact hw.none.elim
  | _ => exact hw.none.elim
theorem op_I20 {f : Value → Value → Sem Value} {g : Int → Int → Option D} {h : Int → Int → V} (o : OpR X f (rI0 h)) (hg : ∀ i j d, g i j = some d → ∀ m, RV X.K m (h i j) d) : OpR X f (r2 X.K (fI2 g)) := by
  rintro pins s σ H x y v u Q I rx ry ⟨m, st, a, b, hS, ra, rb, hw⟩
  cases a with
  | int i =>
    cases b with
    | int j =>
      cases ra
      cases rb
      obtain ⟨d, e, q⟩ := hw
      exact o pins s σ H _ _ v u Q I rx ry ⟨i, j, rfl, rfl, q m H _ (Ex.refl m _) hS (hg i j d e m)⟩
    | _ => exact hw.none.elim
  | _ => exact hw.none.elim
/-- two rules for one operation: the first where it answers -/
def fOr (g h : F2) : F2 := fun st a b => match g st a b with
  | some d => some d
  | none => h st a b
theorem op_or {f : Value → Value → Sem Value} {g h : F2} (o1 : OpR X f (r2 X.K g)) (o2 : OpR X f (r2 X.K h)) : OpR X f (r2 X.K (fOr g h)) := by
  rintro pins s σ H x y v u Q I rx ry ⟨m, st, a, b, hS, ra, rb, hw⟩
  unfold fOr at hw
  cases e : g st a b with
  | some d =>
    rw [e] at hw
    exact o1 pins s σ H x y v u Q I rx ry ⟨m, st, a, b, hS, ra, rb, by rw [e]; exact hw⟩
  | none =>
    rw [e] at hw
    exact o2 pins s σ H x y v u Q I rx ry ⟨m, st, a, b, hS, ra, rb, hw⟩
def fAddI : F2 := fI2 fun i j => some (.int (i + j))
theorem o_addI : OpR X (binaryOp .Add) (r2 X.K fAddI) := op_I20 op_add fun i j d e m => by cases e; exact .int _
def fSub : F2 := fI2 fun i j => some (.int (i - j))
theorem o_sub : OpR X (binaryOp .Sub) (r2 X.K fSub) := op_I20 op_sub fun i j d e m => by cases e; exact .int _
def fMulI : F2 := fI2 fun i j => if -BB < i ∧ i < BB ∧ -BB < j ∧ j < BB then some (.int (i * j)) else none
theorem o_mulI : OpR X (binaryOp .Mult) (r2 X.K fMulI) := op_I2 op_mulW fun i j d e => by
  split at e
  · rename_i h
    cases e
    exact ⟨wide_mul (nat_BB h.1 h.2.1) (nat_BB h.2.2.1 h.2.2.2) (by decide) (by decide) (by decide), fun m => .int _⟩
  · cases e
def fDiv : F2 := fI2 fun i j => if 0 < j ∧ j < BB then some (.int (i / j)) else none
theorem o_div : OpR X (binaryOp .FloorDiv) (r2 X.K fDiv) := op_I2 op_fdivW fun i j d e => by
  split at e
  · rename_i h
    cases e
    exact ⟨wide_div h.1 (nat_BB (by have := BB_pos; omega) h.2) (by decide) (by decide), fun m => .int _⟩
  · cases e
def fMod : F2 := fI2 fun i j => if 0 < j then some (.int (i % j)) else none
theorem o_mod : OpR X (binaryOp .Mod) (r2 X.K fMod) := op_I2 op_mod fun i j d e => by
  split at e
  · rename_i h
    cases e
    exact ⟨h, fun m => .int _⟩
  · cases e
/-- n ** k, k small -/
def fPow : F2 := fI2 fun i j => if -BB < i ∧ i < BB ∧ 0 ≤ j ∧ j ≤ 1000 then some (.int (i ^ j.toNat)) else none
theorem o_pow : OpR X (binaryOp .Pow) (r2 X.K fPow) := by
  rintro pins s σ H x y v u Q I rx ry ⟨m, st, a, b, hS, ra, rb, hw⟩
  cases a with
  | int i =>
    cases b with
    | int j =>
      cases ra
      cases rb
      obtain ⟨d, e, q⟩ := hw
      have e' : (if -BB < i ∧ i < BB ∧ 0 ≤ j ∧ j ≤ 1000 then some (D.int (i ^ j.toNat)) else none) = some d := e
      split at e'
      · rename_i h
        cases e'
        obtain ⟨t, rfl⟩ := rx
        obtain ⟨t', rfl⟩ := ry
        have hb : Builtin.Int.intBits i ≤ 3000 := intBits_le (nat_BB h.1 h.2.1)
        refine pow_int h.2.2.1 ?_ ⟨.int _, H, I.tok _, ⟨_, rfl⟩, q m H _ (Ex.refl m _) hS (.int _)⟩
        have h1 : (Builtin.Int.intBits i : Int) * j ≤ 3000 * 1000 := Int.mul_le_mul (by omega) (by omega) h.2.2.1 (by omega)
        exact Int.le_trans h1 (by decide)
      · cases e'
    | _ => exact hw.none.elim
  | _ => exact hw.none.elim
def fLt : F2 := fI2 fun i j => some (.bl (decide (i < j)))
def fLe : F2 := fI2 fun i j => some (.bl (decide (i ≤ j)))
def fGt : F2 := fI2 fun i j => some (.bl (decide (j < i)))
def fGe : F2 := fI2 fun i j => some (.bl (decide (j ≤ i)))
theorem o_lt : OpR X (compareOp .Lt) (r2 X.K fLt) := op_I20 op_lt fun i j d e m => by cases e; exact .bl _
theorem o_le : OpR X (compareOp .LtE) (r2 X.K fLe) := op_I20 op_le fun i j d e m => by cases e; exact .bl _
theorem o_gt : OpR X (compareOp .Gt) (r2 X.K fGt) := op_I20 op_gt fun i j d e m => by cases e; exact .bl _
theorem o_ge : OpR X (compareOp .GtE) (r2 X.K fGe) := op_I20 op_ge fun i j d e m => by cases e; exact .bl _
def fNeg : F1 := fun _ a => match a with
  | .int i => some (.int (-i))
  | _ => none
theorem u_neg : UnR X (unaryOp .USub) (r1 X.K fNeg) := by
  rintro pins s σ H x v Q I rx ⟨m, st, a, hS, ra, hw⟩
  cases a with
  | int i =>
    cases ra
    exact un_neg pins s σ H _ v Q I rx ⟨i, rfl, hw.sc hS (.int _)⟩
  | _ => exact hw.none.elim
/-! ### texts and tuples -/
def fAddS : F2 := fun _ a b => match a, b with
  | .str x, .str y => if x.length + y.length ≤ 100000 then some (.str (x ++ y)) else none
  | _, _ => none
theorem o_addS : OpR X (binaryOp .Add) (r2 X.K fAddS) := by
  rintro pins s σ H x y v u Q I rx ry ⟨m, st, a, b, hS, ra, rb, hw⟩
  cases a with
  | str z =>
    cases b with
    | str w' =>
      cases ra
      cases rb
      obtain ⟨d, e, q⟩ := hw
      have e' : (if z.length + w'.length ≤ 100000 then some (D.str (z ++ w')) else none) = some d := e
      split at e'
      · rename_i h
        cases e'
        exact op_add_str pins s σ H _ _ v u Q I rx ry ⟨z, w', rfl, rfl, sz5 h, q m H _ (Ex.refl m _) hS (.str _)⟩
      · cases e'
    | _ => exact hw.none.elim
  | _ => exact hw.none.elim
def fAddT : F2 := fun _ a b => match a, b with
  | .tup x, .tup y => if x.length + y.length ≤ 100000 then some (.tup (x ++ y)) else none
  | _, _ => none
theorem o_addT : OpR X (binaryOp .Add) (r2 X.K fAddT) := by
  rintro pins s σ H x y v u Q I rx ry ⟨m, st, a, b, hS, ra, rb, hw⟩
  cases a with
  | tup z =>
    cases b with
    | tup w' =>
      cases ra with
      | @tup p xs _ h1 h2 =>
        cases rb with
        | @tup p' xs' _ h1' h2' =>
          obtain ⟨d, e, q⟩ := hw
          have e' : (if z.length + w'.length ≤ 100000 then some (D.tup (z ++ w')) else none) = some d := e
          split at e'
          · rename_i h
            cases e'
            have r := h2.append h2'
            have ha := sqT_mono hS.sub h1
            have hb := sqT_mono hS.sub h1'
            refine op_catA pins s σ H _ _ v u Q I rx ry ⟨p, p', xs, xs', rfl, rfl, ha, hb, sz5 (by rw [h2.length, h2'.length]; exact h), fun e1 => ?_, fun _ e2 => ?_, fun _ _ p2 hp => ?_⟩
            · subst e1
              exact q m H _ (Ex.refl m _) hS (.tup h1' r)
            · subst e2
              rw [List.append_nil] at r
              exact q m H _ (Ex.refl m _) hS (.tup h1 r)
            · obtain ⟨ex, s2⟩ := hS.newFrz (.tup (xs ++ xs')) hp
              exact q _ _ _ ex s2 (.tup (.inl (.inl frz_at)) (r.mono ex.ext))
          · cases e'
    | _ => exact hw.none.elim
  | _ => exact hw.none.elim
/-- + of ints, texts, tuples -/
def fAdd : F2 := fOr fAddI (fOr fAddS fAddT)
theorem o_add : OpR X (binaryOp .Add) (r2 X.K fAdd) := op_or o_addI (op_or o_addS o_addT)
/-- a text times an int -/
def rep (x : Str) (n : Nat) : Str := ⟨(List.replicate n x.cps.toList).flatten.toArray⟩
def fMulS : F2 := fun _ a b => match a, b with
  | .str x, .int n => if -100000 ≤ n ∧ n ≤ 100000 ∧ x.length ≤ 100 then some (.str (rep x n.toNat)) else none
  | _, _ => none
theorem foldl_app (x : Array Nat) : ∀ (n : Nat) (acc : Array Nat), ((List.replicate n x).foldl (· ++ ·) acc).toList = acc.toList ++ (List.replicate n x.toList).flatten
  | 0, acc => by simp
  | n + 1, acc => by
    rw [List.replicate_succ, List.foldl_cons, foldl_app x n, List.replicate_succ, List.flatten_cons, Array.toList_append, List.append_assoc]
theorem rep_eq (x : Str) (n : Nat) : (⟨(List.replicate n x.cps).foldl (· ++ ·) #[]⟩ : Str) = rep x n := by
  have h := foldl_app x.cps n #[]
  unfold rep
  rw [← Array.toArray_toList (xs := (List.replicate n x.cps).foldl (· ++ ·) #[]), h]
  simp
theorem rep_len (x : Str) (n : Nat) : (rep x n).length = n * x.length := by
  show ((List.replicate n x.cps.toList).flatten.toArray).size = n * x.cps.size
  simp
theorem o_mulS : OpR X (binaryOp .Mult) (r2 X.K fMulS) := by
  rintro pins s σ H x y v u Q I rx ry ⟨m, st, a, b, hS, ra, rb, hw⟩
  cases a with
  | str z =>
    cases b with
    | int n =>
      cases ra
      cases rb
      obtain ⟨d, e, q⟩ := hw
      have e' : (if -100000 ≤ n ∧ n ≤ 100000 ∧ z.length ≤ 100 then some (D.str (rep z n.toNat)) else none) = some d := e
      split at e'
      · rename_i h
        cases e'
        obtain ⟨t, rfl⟩ := rx
        obtain ⟨t', rfl⟩ := ry
        have hl : z.length * n.toNat ≤ 10000000 := by
          have h1 : n.toNat ≤ 100000 := by omega
          have := Nat.mul_le_mul h.2.2 h1
          omega
        refine PySem.P.mul_str (by rw [decide_eq_false (by omega), decide_eq_false (by omega)]; rfl) (fun h1 _ => ?_) (fun h1 _ => ?_) ?_
        · have h2 : (2 ^ 63 - 1) / n ≥ (2 ^ 63 - 1) / 100000 := by
            rw [ge_iff_le, Int.le_ediv_iff_mul_le (by omega)]
            have h3 : (2 ^ 63 - 1) / 100000 * n ≤ (2 ^ 63 - 1) / 100000 * (100000 : Int) := Int.mul_le_mul_of_nonneg_left (by omega) (by decide)
            exact Int.le_trans h3 (by decide)
          have h4 : ((2 : Int) ^ 63 - 1) / 100000 ≥ 1000 := by decide
          omega
        · exact decide_eq_false (Nat.not_lt.mpr (Nat.le_trans hl (by decide)))
        · by_cases h1 : n < 1
          · rw [if_pos h1]
            have e0 : n.toNat = 0 := by omega
            refine ⟨by decide, ⟨.str _, H, I.tok _, ⟨_, rfl⟩, ?_⟩⟩
            rw [e0] at q
            exact q m H _ (Ex.refl m _) hS (.str _)
          · rw [if_neg h1]
            by_cases h2 : (n == 1 || z.length == 0) = true
            · rw [if_pos h2]
              refine ⟨.str _, H, I, ⟨_, rfl⟩, ?_⟩
              have ez : rep z n.toNat = z := by
                unfold rep
                rcases Bool.or_eq_true_iff.mp h2 with h3 | h3
                · have e1 : n.toNat = 1 := by have := beq_iff_eq.mp h3; omega
                  rw [e1]
                  simp
                · have e1 : z.cps = #[] := Array.eq_empty_of_size_eq_zero (beq_iff_eq.mp h3)
                  have : z = ⟨#[]⟩ := by cases z; simp at e1; rw [e1]
                  rw [this]
                  simp
              rw [ez] at q
              exact q m H _ (Ex.refl m _) hS (.str _)
            · rw [if_neg h2, rep_eq]
              refine ⟨?_, ⟨.str _, H, I.tok _, ⟨_, rfl⟩, q m H _ (Ex.refl m _) hS (.str _)⟩⟩
              rw [rep_len, Nat.mul_comm]
              exact Nat.le_trans hl (by decide)
      · cases e'
    | _ => exact hw.none.elim
  | _ => exact hw.none.elim
/-- times: ints; a text and an int -/
def fMul : F2 := fOr fMulI fMulS
theorem o_mul : OpR X (binaryOp .Mult) (r2 X.K fMul) := op_or o_mulI o_mulS
end
end
end MM
set_option Elab.async false
set_option linter.all false
set_option autoImplicit false
set_option maxRecDepth 100000
set_option maxHeartbeats 2000000
/-! M4: statements, defs, calls. -/
namespace MM
open PySem PySem.Spec PyProof.Rows L2
open Classical

inductive Fl where
  | nx | bk | ct | rt (d : D)
abbrev SE := Env → Sto → Rs (Fl × Env)
def tS (K : PySem.W.Frag) (W : WX) (c : SE) : TS := fun D σ H => ∃ m env st, RelE K m σ env ∧ RelS K m st H ∧ Fin K W m H (c env st) fun p m' _ H' => match p.1 with
  | .nx => ∀ σ', RelE K m' σ' p.2 → D.nx σ' H'
  | .bk => ∀ σ', RelE K m' σ' p.2 → D.bk σ' H'
  | .ct => ∀ σ', RelE K m' σ' p.2 → D.ct σ' H'
  | .rt d => ∀ v, RV K m' v d → D.rt v H'
abbrev MS (X : Cx) (W : WX) (s : Stmt) (c : SE) : Prop := PS X s (tS X.K W c)
abbrev MSs (X : Cx) (W : WX) (s : List Stmt) (c : SE) : Prop := PSs X s (tS X.K W c)

def sNx : SE := fun env st => .ok (.nx, env) st
def sSeq (a b : SE) : SE := fun env st => (a env st).bind fun p s1 => match p.1 with
  | .nx => b p.2 s1
  | _ => .ok p s1
def sRet (a : FE) : SE := fun env st => (a env st).bind fun d s1 => .ok (.rt d, env) s1
def sRetN : SE := fun env st => .ok (.rt .non, env) st
def sIf (t : FT) (a b : SE) : SE := fun env st => (t env st).bind fun x s1 => if x = true then a env s1 else b env s1
def sDrop (a : FE) : SE := fun env st => (a env st).bind fun _ s1 => .ok (.nx, env) s1
/-- a target: the slots and the store behind it -/
abbrev GE := D → Env → Sto → Rs Env
def gN (i : Nat) : GE := fun d env st => .ok (env.set i (some d)) st
def sSet (g : GE) (a : FE) : SE := fun env st => (a env st).bind fun d s1 => (g d env s1).bind fun env' s2 => .ok (.nx, env') s2
def tG (K : PySem.W.Frag) (W : WX) (g : GE) : TG := fun v σ H Q => ∃ m env st d, RelE K m σ env ∧ RelS K m st H ∧ RV K m v d ∧ Fin K W m H (g d env st) fun env' m' _ H' => ∀ σ', RelE K m' σ' env' → Q σ' H'
abbrev MG (X : Cx) (W : WX) (e : Expr) (g : GE) : Prop := PG X e (tG X.K W g)
theorem pg_wk {X : Cx} {e : Expr} {t u : TG} (h : PG X e t) (k : ∀ v σ H Q, u v σ H Q → t v σ H Q) : PG X e u := ⟨fun pins s σ H v u Q I r q => h.run pins s σ H v u Q I r (k v σ H Q q)⟩
abbrev GEs := List D → Env → Sto → Rs Env
def gsN : GEs := fun ds env st => match ds with
  | [] => .ok env st
  | _ => .no
def gsC (g : GE) (r : GEs) : GEs := fun ds env st => match ds with
  | d :: ds => (g d env st).bind fun env' s1 => r ds env' s1
  | [] => .no
def tGs (K : PySem.W.Frag) (W : WX) (g : GEs) : TGs := fun vs σ H Q => ∃ m env st ds, RelE K m σ env ∧ RelS K m st H ∧ RVs K m vs ds ∧ Fin K W m H (g ds env st) fun env' m' _ H' => ∀ σ', RelE K m' σ' env' → Q σ' H'
abbrev MGs (X : Cx) (W : WX) (e : List Expr) (g : GEs) : Prop := PGs X e (tGs X.K W g)
theorem pgs_wk {X : Cx} {e : List Expr} {t u : TGs} (h : PGs X e t) (k : ∀ v σ H Q, u v σ H Q → t v σ H Q) : PGs X e u := ⟨fun pins s σ H v u Q I r q => h.run pins s σ H v u Q I r (k v σ H Q q)⟩
/-- a, b, .. = a tuple of n -/
def gT (n : Nat) (g : GEs) : GE := fun d env st => match d with
  | .tup xs => if xs.length = n then g xs env st else .no
  | _ => .no
section
variable {X : Cx} {W : WX} {e : Expr} {es : List Expr} {fa : FE} {st : Stmt} {rest : List Stmt} {a b : SE} {t : FT} {pos : Pos}
theorem ms_nil : MSs X W [] sNx := by
  refine pss_wk pss_nil ?_
  rintro D σ H ⟨m, env, st, hE, hS, h⟩
  exact h m H (Ex.refl m _) hS σ hE
theorem to_seq {a b : SE} : ∀ D σ H, tS X.K W (sSeq a b) D σ H → tSeq (tS X.K W a) (tS X.K W b) D σ H := by
  rintro D σ H ⟨m, env, st, hE, hS, h⟩
  refine ⟨m, env, st, hE, hS, h.bind.imp fun p m1 st1 H1 x1 s1 h1 => ?_⟩
  obtain ⟨f, env1⟩ := p
  cases f with
  | nx => exact fun σ' hE' => ⟨m1, env1, st1, hE', s1, h1⟩
  | bk => exact h1 m1 H1 (Ex.refl m1 _) s1
  | ct => exact h1 m1 H1 (Ex.refl m1 _) s1
  | rt d => exact h1 m1 H1 (Ex.refl m1 _) s1
theorem ms_cons (h1 : MS X W st a) (h2 : MSs X W rest b) : MSs X W (st :: rest) (sSeq a b) := pss_wk (pss_cons h1 h2) to_seq
theorem ms_one (h1 : MS X W st a) : MSs X W [st] a := pss_one h1
theorem ms_ret (h : ME X W e fa) : MS X W (.Return (some e) pos) (sRet fa) := by
  refine ps_wk (ps_ret h) ?_
  rintro D σ H ⟨m, env, st, hE, hS, h⟩
  exact ⟨m, env, st, hE, hS, h.bind.imp fun d m1 st1 H1 x1 s1 h1 v rv => h1 m1 H1 (Ex.refl m1 _) s1 v rv⟩
theorem ms_retN : MS X W (.Return none pos) sRetN := by
  refine ps_wk ps_retN ?_
  rintro D σ H ⟨m, env, st, hE, hS, h⟩
  exact h m H (Ex.refl m _) hS .non .non
theorem ms_if {c : Expr} {x y : List Stmt} (ht : MT X W c t) (ha : MSs X W x a) (hb : MSs X W y b) : MS X W (.If c x y pos) (sIf t a b) := by
  refine ps_wk (ps_if ht ha hb) ?_
  rintro D σ H ⟨m, env, st, hE, hS, h⟩
  refine ⟨m, env, st, hE, hS, h.bind.imp fun c m1 st1 H1 x1 s1 h1 => ?_⟩
  cases c with
  | true => exact ⟨m1, env, st1, hE.mono x1.ext, s1, h1⟩
  | false => exact ⟨m1, env, st1, hE.mono x1.ext, s1, h1⟩
theorem ms_drop (h : ME X W e fa) (hs : swapsWith e none pos.line X.env = pure false := by rfl) : MS X W (.Expr e pos) (sDrop fa) := by
  refine ps_wk (ps_expr h hs) ?_
  rintro D σ H ⟨m, env, st, hE, hS, h⟩
  exact ⟨m, env, st, hE, hS, h.bind.imp fun d m1 st1 H1 x1 s1 h1 v rv => h1 m1 H1 (Ex.refl m1 _) s1 σ (hE.mono x1.ext)⟩
theorem ms_pass : MS X W (.Pass pos) sNx := by
  refine ps_wk ps_pass ?_
  rintro D σ H ⟨m, env, st, hE, hS, h⟩
  exact h m H (Ex.refl m _) hS σ hE
def sBk : SE := fun env st => .ok (.bk, env) st
theorem ms_break : MS X W (.Break pos) sBk := by
  refine ps_wk ps_break ?_
  rintro D σ H ⟨m, env, st, hE, hS, h⟩
  exact h m H (Ex.refl m _) hS σ hE
/-- never reached -/
def sNo : SE := fun _ _ => .no
theorem ms_no : MS X W st sNo := by
  refine ps_wk ps_never ?_
  rintro D σ H ⟨m, env, st, hE, hS, h⟩
  exact h.elim
/-! targets -/
theorem mg_n (i : Nat) {x : Str} (hN : X.N.Nodup) (hi : X.N[i]? = some x := by rfl) (hx : Loc X.env.scope x := by first | exact Or.inl rfl | exact Or.inr rfl) (hf : X.fn x = true ∨ X.env.scope.names.lookup x = some .local := by first | exact .inl rfl | exact .inr rfl) : MG X W (.Name x pos) (gN i) := by
  refine pg_wk (pg_name hN hi hx hf) ?_
  rintro v σ H Q ⟨m, env, st, d, hE, hS, rv, h⟩
  exact h m H (Ex.refl m _) hS _ (hE.set i rv)
theorem mgs_n : MGs X W [] gsN := by
  refine pgs_wk pgs_nil ?_
  rintro v σ H Q ⟨m, env, st, d, hE, hS, rv, h⟩
  cases rv with
  | nil => exact ⟨rfl, h m H (Ex.refl m _) hS σ hE⟩
  | cons _ _ => exact h.elim
theorem mgs_c {g : GE} {r : GEs} (h1 : MG X W e g) (h2 : MGs X W es r) (hs : (assignEach (e :: es) X.env).map (·.2) = assign e X.env :: (assignEach es X.env).map (·.2) := by rfl) : MGs X W (e :: es) (gsC g r) := by
  refine pgs_wk (pgs_cons h1 h2 hs) ?_
  rintro v σ H Q ⟨m, env, st, d, hE, hS, rv, h⟩
  cases rv with
  | nil => exact h.elim
  | @cons v0 d0 vs ds r0 rs =>
    refine ⟨v0, vs, rfl, m, env, st, d0, hE, hS, r0, Fin.imp (Fin.bind h) fun env1 m1 st1 H1 x1 s1 h1 σ1 hE1 => ?_⟩
    exact ⟨m1, env1, st1, ds, hE1, s1, rs.mono x1.ext, h1⟩
theorem mg_t {k n : Nat} {g : GEs} (hc : X.calm = true) (h : MGs X W es g) (hn : (assignEach es X.env).length = n := by rfl) (hst : (assignEach es X.env).findIdx? (·.1) = none := by rfl) : MG X W (.Tuple es k pos) (gT n g) := by
  refine pg_wk (pg_tup hc h hn hst) ?_
  rintro v σ H Q ⟨m, env, st, d, hE, hS, rv, h⟩
  cases d with
  | tup ds =>
    cases rv with
    | @tup a xs _ h1 h2 =>
      unfold gT at h
      dsimp only at h
      by_cases hl : ds.length = n
      · rw [if_pos hl] at h
        exact ⟨a, xs, rfl, sqT_mono hS.sub h1, by rw [h2.length]; exact hl, m, env, st, ds, hE, hS, h2, h⟩
      · rw [if_neg hl] at h
        exact h.elim
  | _ => exact h.elim
theorem ms_set {tg : Expr} {g : GE} (he : ME X W e fa) (hg : MG X W tg g) (hs : swapsWithSole [tg] e pos.line X.env = pure false := by rfl) (hw : swappedStores [tg] e X.env = pure none := by rfl)
    (h1 : (assignEach [tg] X.env).map (·.2) = [assign tg X.env] := by rfl) : MS X W (.Assign [tg] e pos) (sSet g fa) := by
  refine ps_wk (ps_asg he hg hs hw h1) ?_
  rintro D σ H ⟨m, env, st, hE, hS, h⟩
  refine ⟨m, env, st, hE, hS, h.bind.imp fun d m1 st1 H1 x1 s1 h1 v rv => ?_⟩
  exact ⟨m1, env, st1, d, hE.mono x1.ext, s1, rv, Fin.imp (Fin.bind h1) fun env2 m2 st2 H2 x2 s2 h2 σ2 hE2 => h2 m2 H2 (Ex.refl m2 _) s2 σ2 hE2⟩
/-- a, b = x, y and a, b, c = x, y, z of plain local names -/
def sPar (ix : List Nat) (a : FA) : SE := fun env st => (a env st).bind fun ds s1 => if ds.length = ix.length then .ok (.nx, (ix.zip ds).foldl (fun en p => en.set p.1 (some p.2)) env) s1 else .no
theorem ms_par2 {i j : Nat} {x y : Str} {e1 e2 : Expr} {ga : FA} {px py pt : Pos} {kt k2 pt2} (hc : X.calm = true) (hN : X.N.Nodup) (ha : MA X W [e1, e2] ga) (hi : X.N[i]? = some x := by rfl) (hj : X.N[j]? = some y := by rfl) (hij : i ≠ j := by decide)
    (hx : X.env.scope.names.lookup x = some .local := by rfl) (hy : X.env.scope.names.lookup y = some .local := by rfl)
    (hw : swappedStores [.Tuple [.Name x px, .Name y py] kt pt] (.Tuple [e1, e2] k2 pt2) X.env = pure (some [x, y]) := by rfl) (hs : swapsWithSole [.Tuple [.Name x px, .Name y py] kt pt] (.Tuple [e1, e2] k2 pt2) pos.line X.env = pure false := by rfl) :
    MS X W (.Assign [.Tuple [.Name x px, .Name y py] kt pt] (.Tuple [e1, e2] k2 pt2) pos) (sPar [i, j] ga) := by
  refine ps_wk (ps_par hc hN hi hj hij hx hy ha hw hs) ?_
  rintro D σ H ⟨m, env, st, hE, hS, h⟩
  refine ⟨m, env, st, hE, hS, h.bind.imp fun ds m1 st1 H1 x1 s1 h1 vs rv => ?_⟩
  match ds, rv, h1 with
  | [d1, d2], .cons r1 (.cons r2 .nil), h1 => exact ⟨_, _, rfl, h1 m1 H1 (Ex.refl m1 _) s1 _ (((hE.mono x1.ext).set i r1).set j r2)⟩
  | [], _, h1 => exact h1.elim
  | [_], _, h1 => exact h1.elim
  | _ :: _ :: _ :: _, _, h1 => exact (show False from by simp [Fin] at h1).elim
theorem ms_par3 {i j l : Nat} {x y z : Str} {e1 e2 e3 : Expr} {ga : FA} {px py pz pt : Pos} {kt k2 pt2} (hc : X.calm = true) (hN : X.N.Nodup) (ha : MA X W [e1, e2, e3] ga) (hi : X.N[i]? = some x := by rfl) (hj : X.N[j]? = some y := by rfl) (hl : X.N[l]? = some z := by rfl)
    (hij : i ≠ j := by decide) (hil : i ≠ l := by decide) (hjl : j ≠ l := by decide) (hx : X.env.scope.names.lookup x = some .local := by rfl) (hy : X.env.scope.names.lookup y = some .local := by rfl) (hz : X.env.scope.names.lookup z = some .local := by rfl)
    (hw : swappedStores [.Tuple [.Name x px, .Name y py, .Name z pz] kt pt] (.Tuple [e1, e2, e3] k2 pt2) X.env = pure (some [x, y, z]) := by rfl) (hs : swapsWithSole [.Tuple [.Name x px, .Name y py, .Name z pz] kt pt] (.Tuple [e1, e2, e3] k2 pt2) pos.line X.env = pure false := by rfl) :
    MS X W (.Assign [.Tuple [.Name x px, .Name y py, .Name z pz] kt pt] (.Tuple [e1, e2, e3] k2 pt2) pos) (sPar [i, j, l] ga) := by
  refine ps_wk (ps_par3 hc hN hi hj hl hij hil hjl hx hy hz ha hw hs) ?_
  rintro D σ H ⟨m, env, st, hE, hS, h⟩
  refine ⟨m, env, st, hE, hS, h.bind.imp fun ds m1 st1 H1 x1 s1 h1 vs rv => ?_⟩
  match ds, rv, h1 with
  | [d1, d2, d3], .cons r1 (.cons r2 (.cons r3 .nil)), h1 => exact ⟨_, _, _, rfl, h1 m1 H1 (Ex.refl m1 _) s1 _ ((((hE.mono x1.ext).set i r1).set j r2).set l r3)⟩
  | [], _, h1 => exact h1.elim
  | [_], _, h1 => exact h1.elim
  | [_, _], _, h1 => exact (show False from by simp [Fin] at h1).elim
  | _ :: _ :: _ :: _ :: _, _, h1 => exact (show False from by simp [Fin] at h1).elim
end

/-! ### defs -/
abbrev MFun := List D → Sto → Rs D
def Rs.at {α : Type} (env : Env) : Rs α → Rs α
  | .ok a st => .ok a st
  | .er x _ st => .er x env st
  | .no => .no
def spM (K : PySem.W.Frag) (F : MFun) : Sp := fun vs H Q E => ∃ m st ds, RelS K m st H ∧ RVs K m vs ds ∧ Fin K (fun c d _ H => E c d H) m H (F ds st) fun d m' _ H' => ∀ v, RV K m' v d → Q v H'
/-- a def keeps a function of data (its guards known: nothing is being shown) -/
structure FnG (P : Program) (w : World) (K : PySem.W.Frag) (mg : Str → Option Value) (base : Heap) (k : Nat) (f : Addr) (fd : FuncData) (ps : List Str) (F : MFun) : Prop where
  len : ∀ ds st, ds.length ≠ ps.length → F ds st = .no
  run : ∀ (A : Around) (outer : List PySem.Env) (s : Shared) (H : Hp) (args : Args) (us : List Value) (vs : List V) (Q : VK) (E : XK), Room k A → A.guards = some [] → Env0 P w K mg base A outer s H → BindsTo s fd args (ps.zip us) → Vals vs us →
    spM K F vs H Q E → codeAny (model P w) A (.call (.ref f) args) (CR (L2.CX P w) outer P w H s Q E) s
theorem FnG.mono {P : Program} {w : World} {K : PySem.W.Frag} {mg : Str → Option Value} {base : Heap} {j k : Nat} {f : Addr} {fd : FuncData} {ps : List Str} {F : MFun} (h : FnG P w K mg base j f fd ps F) (l : j ≤ k) : FnG P w K mg base k f fd ps F :=
  ⟨h.len, fun A outer s H args us vs Q E r => h.run A outer s H args us vs Q E (r.mono l)⟩
theorem FnG.slen {P : Program} {w : World} {K : PySem.W.Frag} {mg : Str → Option Value} {base : Heap} {k : Nat} {f : Addr} {fd : FuncData} {ps : List Str} {F : MFun} (h : FnG P w K mg base k f fd ps F) {vs : List V} {H : Hp} {Q : VK} {E : XK} (q : spM K F vs H Q E) : vs.length = ps.length := by
  obtain ⟨m, st, ds, _, r, q⟩ := q
  rw [r.length]
  refine Classical.byContradiction fun n => ?_
  rw [h.len ds st n] at q
  exact q
/-- what goes out of a def: places made in it are frozen -/
def frz (n : Nat) (st : Sto) (d : D) : Option D :=
  if below n d = true then some d else match d with
  | .loc k => match st[k]? with
    | some (.lst ds) => if belows n ds = true then some (.lst ds) else none
    | _ => none
  | _ => none
def lowX (n : Nat) : Xc → Prop
  | .own _ fs => belowk n fs = true
  | .blt _ => True
/-- the store is cut to what it was -/
noncomputable def cutR (st : Sto) : Rs D → Rs D
  | .ok d st' => if okCut st st' then (match frz st.length st' d with
    | some d' => .ok d' (st'.take st.length)
    | none => .no) else .no
  | .er x _ st' => if okCut st st' ∧ lowX st.length x then .er x [] (st'.take st.length) else .no
  | .no => .no
def outF (r : Rs (Fl × Env)) : Rs D := match r with
  | .ok (.rt d, _) st => .ok d st
  | .ok (.nx, _) st => .ok .non st
  | .ok _ _ => .no
  | .er x _ st => .er x [] st
  | .no => .no
/-- a def of np parameters and n slots; it may hand out what it made -/
def fnK (np n : Nat) (c : SE) : MFun := fun ds st => if ds.length = np then outF (c (ds.map some ++ List.replicate (n - ds.length) none) st) else .no
/-- .. what it made is let go -/
noncomputable def fnC (np n : Nat) (c : SE) : MFun := fun ds st => if ds.length = np then cutR st (outF (c (ds.map some ++ List.replicate (n - ds.length) none) st)) else .no

section
variable {K : PySem.W.Frag} {m m' : Mw} {st st' : Sto} {H H' : Hp} {E : XK} {W : WX}
theorem start_rel {N : List Str} {vs : List V} {ds : List D} (r : RVs K m vs ds) : RelE K m (L2.start N vs) (ds.map some ++ List.replicate (N.length - ds.length) none) := by
  refine ⟨by simp [L2.start, r.length], fun i d e => ?_⟩
  by_cases hi : i < ds.length
  · rw [List.getElem?_append_left (by simpa using hi), List.getElem?_map] at e
    cases h : ds[i]? with
    | none => rw [h] at e; cases e
    | some x =>
      rw [h] at e
      cases e
      obtain ⟨v, h1, h2⟩ := r.get h
      refine ⟨v, ?_, h2⟩
      unfold L2.start
      rw [List.getElem?_append_left (by simp [r.length, hi]), List.getElem?_map, h1]
      rfl
  · rw [List.getElem?_append_right (by simp; omega)] at e
    have := List.mem_of_getElem? e
    simp at this
theorem cut_ext {r : List Addr} (e : ∃ t, m'.r = r ++ t) (h : ∀ a o, m.Z a = some o → m'.Z a = some o) (hr : m.r = r) : Ext m (m'.cut r) := ⟨h, [], by simp [Mw.cut, hr]⟩
theorem rx_cut {x : Xc} {c : Value} {d : Option Addr} {r t : List Addr} (e : m'.r = r ++ t) (h : RX K m' H x c d) (l : lowX r.length x) : RX K (m'.cut r) H x c d := by
  cases x with
  | blt n => exact h
  | own n fs =>
    obtain ⟨h1, h2⟩ := h
    refine ⟨h1, ?_⟩
    rcases h2 with h2 | ⟨dd, gs, h2, h3, h4⟩
    · exact .inl h2
    · exact .inr ⟨dd, gs, h2, h3, RFs.cut e h4 l⟩
/-- from the cut outcome to the outcome -/
theorem cut_ex {t : List Addr} (ex : Ex m H m' H') (e2 : m'.r = m.r ++ t) : Ex m H (m'.cut m.r) H' :=
  ⟨⟨ex.ext.1, [], by simp [Mw.cut]⟩, fun p o e z r => let ⟨q1, q2, _⟩ := ex.priv p o e z r; ⟨q1, q2, r⟩⟩
theorem Fin.uncut {r : Rs D} {Q : VK} (hS : RelS K m st H) (h : Fin K (fun c d _ H => E c d H) m H (cutR st r) fun d m' _ H' => ∀ v, RV K m' v d → Q v H') : Fin K (fun c d _ H => E c d H) m H r fun d m' _ H' => ∀ v, RV K m' v d → Q v H' := by
  cases r with
  | no => exact h
  | er x env st' =>
    intro m' H' σ c d ex s' hE rx
    simp only [cutR] at h
    by_cases ok : okCut st st' ∧ lowX st.length x
    · rw [if_pos ok] at h
      obtain ⟨t, e2⟩ := ex.ext.2
      have hl : st.length = m.r.length := hS.len.symm
      exact h (m'.cut m.r) H' [] c d (cut_ex ex e2) (hS.cut ex.ext s' ok.1) ⟨rfl, fun i d e => by simp at e⟩ (rx_cut e2 rx (by rw [← hl]; exact ok.2))
    · rw [if_neg ok] at h
      exact h.elim
  | ok d st' =>
    intro m' H' ex s' v rv
    simp only [cutR] at h
    by_cases ok : okCut st st'
    · rw [if_pos ok] at h
      obtain ⟨t, e2⟩ := ex.ext.2
      have hl : st.length = m.r.length := hS.len.symm
      have hc := hS.cut ex.ext s' ok
      have ex2 := cut_ex ex e2
      unfold frz at h
      by_cases hb : below st.length d = true
      · rw [if_pos hb] at h
        exact h (m'.cut m.r) H' ex2 hc v (rv.cut e2 (by rw [← hl]; exact hb))
      · rw [if_neg hb] at h
        cases d with
        | loc k =>
          cases rv with
          | @loc a _ e =>
            obtain ⟨mo, h1, h2⟩ := s'.there e
            simp only [h1] at h
            cases mo with
            | lst ds =>
              dsimp only at h
              by_cases hd : belows st.length ds = true
              · rw [if_pos hd] at h
                obtain ⟨xs, h3, h4⟩ := h2
                have hk : ¬ k < st.length := fun l => hb (by simp only [below]; exact decide_eq_true l)
                have hz : (m'.cut m.r).Z a = none := s'.off a (List.mem_of_getElem? e)
                have hr : a ∉ (m'.cut m.r).r := fun hm => by
                  have hm' : a ∈ m.r := hm
                  obtain ⟨n, hn, en⟩ := List.getElem_of_mem hm'
                  have q1 : m'.r[n]? = some a := by rw [e2, List.getElem?_append_left hn]; simp [hn, en]
                  obtain ⟨l1, e1'⟩ := List.getElem?_eq_some_iff.mp e
                  obtain ⟨l2, e2'⟩ := List.getElem?_eq_some_iff.mp q1
                  have : k = n := (List.getElem_inj s'.nd).mp (e1'.trans e2'.symm)
                  omega
                have hp : ∀ p o, H p = some o → m.Z p = none → p ∉ m.r → p ≠ a := fun p o e0 z0 r0 ee => by
                  obtain ⟨_, _, q3⟩ := ex.priv p o e0 z0 r0
                  exact q3 (by rw [ee]; exact List.mem_of_getElem? e)
                refine h ((m'.cut m.r).frz a (.lst xs)) H' ⟨ex2.ext.trans (Ext.frz hz), fun p o e0 z0 r0 => ?_⟩ (hc.frz hz hr h3) _ (.lst (.inl (.inl frz_at)) ?_)
                · obtain ⟨q1, q2, q3⟩ := ex2.priv p o e0 z0 r0
                  exact ⟨q1, by show upd _ a _ p = none; rw [upd_ne (hp p o e0 z0 r0)]; exact q2, q3⟩
                · exact (h4.cut e2 (by rw [← hl]; exact hd)).mono (Ext.frz hz)
              · rw [if_neg hd] at h
                exact h.elim
            | _ => exact h.elim
        | _ => exact h.elim
    · rw [if_neg ok] at h
      exact h.elim
end

/-! ### the rule for a def -/
section
variable {P : Program} {w : World} {K : PySem.W.Frag} {mg : Str → Option Value} {base : Heap}
theorem outF_fin {m : Mw} {H : Hp} {E : XK} {Q : VK} {r : Rs (Fl × Env)} (h : Fin K (fun c d _ H => E c d H) m H (outF r) fun d m' _ H' => ∀ v, RV K m' v d → Q v H') :
    Fin K (fun c d _ H => E c d H) m H r fun p m' _ H' => match p.1 with
      | .nx => ∀ σ', RelE K m' σ' p.2 → Q .non H'
      | .bk => ∀ σ', RelE K m' σ' p.2 → False
      | .ct => ∀ σ', RelE K m' σ' p.2 → False
      | .rt d => ∀ v, RV K m' v d → Q v H' := by
  cases r with
  | no => exact h
  | er x env st => exact fun m' H' σ c d ex s' _ rx => h m' H' [] c d ex s' ⟨rfl, fun i d e => by simp at e⟩ rx
  | ok p st =>
    obtain ⟨f, env⟩ := p
    cases f with
    | nx => exact fun m' H' ex s' σ' _ => h m' H' ex s' .non .non
    | bk => exact h.elim
    | ct => exact h.elim
    | rt d => exact fun m' H' ex s' v rv => h m' H' ex s' v rv
/-- the two ways a def ends: its made things kept, or let go -/
structure Ends' (C : SE) (np n : Nat) (F : MFun) : Prop where
  bad : ∀ ds st, ds.length ≠ np → F ds st = .no
  fin : ∀ {m : Mw} {st : Sto} {H : Hp} {E : XK} {Q : VK} (ds : List D), RelS K m st H → Fin K (fun c d _ H => E c d H) m H (F ds st) (fun d m' _ H' => ∀ v, RV K m' v d → Q v H') →
    Fin K (fun c d _ H => E c d H) m H (outF (C (ds.map some ++ List.replicate (n - ds.length) none) st)) fun d m' _ H' => ∀ v, RV K m' v d → Q v H'
theorem ends_k {C : SE} {np n : Nat} : Ends' (K := K) C np n (fnK np n C) where
  bad := fun ds st h => if_neg h
  fin := fun {m st H E Q} ds hS h => by
    unfold fnK at h
    by_cases hl : ds.length = np
    · rw [if_pos hl] at h
      exact h
    · rw [if_neg hl] at h
      exact h.elim
theorem ends_c {C : SE} {np n : Nat} : Ends' (K := K) C np n (fnC np n C) where
  bad := fun ds st h => if_neg h
  fin := fun {m st H E Q} ds hS h => by
    unfold fnC at h
    by_cases hl : ds.length = np
    · rw [if_pos hl] at h
      exact h.uncut hS
    · rw [if_neg hl] at h
      exact h.elim
/-- THE RULE -/
theorem fnG_of {k : Nat} {x qual : Str} {params : Arguments} {body : List Stmt} {scope : Scope} {dvs : List V} {kws : List (Str × V)} {f : Addr} {fd : FuncData} {N ps : List Str} {C : SE} {F : MFun}
    (D : FunD K x qual params body scope dvs kws f fd) (S : FnScope N ps scope) (en : Ends' (K := K) C ps.length N.length F)
    (hbody : ∀ (cdv : Value) (A : Around) (outer : List PySem.Env) (s : Shared) (H : Hp) (E : XK), Room k (A.deeper (envOfC qual scope s.heap.objs.size f cdv)) → A.guards = some [] →
      MSs (cxOf (L2.CX P w) P w K mg base N qual scope f cdv A outer s H E) (fun c d _ H => E c d H) body C) : FnG P w K mg base (k + 1) f fd ps F := by
  obtain ⟨oc, od, dV, kV, doc, pm, an, cdv, ct, osl, rfl, lk, hcd, _, _⟩ := D.ex
  refine ⟨en.bad, fun A outer s H args us vs Q E hr hG e0 hb r hsp => ?_⟩
  have hvl : vs.length = ps.length := by
    obtain ⟨m, st, ds, _, rr, q⟩ := id hsp
    rw [rr.length]
    exact Classical.byContradiction fun n => by rw [en.bad ds st n] at q; exact q
  obtain ⟨m, st, ds, hS, rr, hq⟩ := hsp
  have keepB : ∀ b o, base.get? b = some o → s.heap.get? b = some o := fun b o e => (e0.bs b o e).1
  have KX : K.In s.heap := e0.mod.kin.keeps keepB
  have lim : s.heap.NoLimit := e0.mod.nolimit.keeps keepB
  have hkind : ∀ y ∈ ps.zip us, scope.names.lookup y.1 = some .local ∨ (scope.names.lookup y.1 = some .cell ∧ ((cellsFrom (s.heap.objs.size + 1) scope.names []).lookup y.1).isSome = true) := by
    rintro ⟨n, v⟩ hy
    exact (S.par n (List.of_mem_zip hy).1).imp id fun q => ⟨q, PySem.W.cellsFrom_some _ _ _ (.inl q)⟩
  refine codeAny_call_function hr.depth (KX _ _ lk) rfl S.co S.gen rfl (PySem.W.codeRec_of KX hcd) (hb _ _ _ _ ?_)
  refine wpAny_newFunctionEnv_cells S.kind hkind fun env he s1 xx => ?_
  subst he
  refine ⟨lim.keeps xx.toInCall.keep, codeAny_func ?_⟩
  have I := inv_start (CX := L2.CX P w) (E := E) S hr.hd e0 hvl r xx
  have hb2 := hbody cdv A outer s H E (hr.deeper _) hG
  have hst : tS K (fun c d _ H => E c d H) C { nx := fun _ H' => Q .non H', rt := Q } (L2.start N vs) H :=
    ⟨m, _, st, start_rel (N := N) rr, hS, outF_fin (en.fin ds hS hq)⟩
  refine wpAny_mono (hb2.run [] s1 (L2.start N vs) H _ I hst) (fun fl s' hs => ?_) fun e s' hs => hs
  cases fl with
  | ret u =>
    obtain ⟨v, σ', H', J, rv, q⟩ := hs
    exact ⟨v, H', J.os, J.bare, J.base, J.hok, rv, q⟩
  | next =>
    obtain ⟨σ', H', J, q⟩ := hs
    exact ⟨V.non, H', J.os, J.bare, J.base, J.hok, rfl, q⟩
  | brk =>
    obtain ⟨_, _, _, q⟩ := hs
    exact False.elim q
  | cont =>
    obtain ⟨_, _, _, q⟩ := hs
    exact False.elim q
end

/-! ### calls -/
def eCall (F : MFun) (a : FA) : FE := fun env st => (a env st).bind fun ds s1 => (F ds s1).at env
section
variable {X : Cx} {W : WX} {k : Nat} {f : Addr} {fd : FuncData} {ps : List Str} {F : MFun} {x : Str} {p pos apos : Pos} {e o : Expr} {es : List Expr} {ga : FA} {fa : FE}
theorem sp_at {K : PySem.W.Frag} {m : Mw} {env : Env} {st : Sto} {σ : L2.St} {H : Hp} {ds : List D} {vs : List V} {Q : VK} (hE : RelE K m σ env) (hS : RelS K m st H) (rv : RVs K m vs ds)
    (h : Fin K W m H ((F ds st).at env) fun d m' _ H' => ∀ v, RV K m' v d → Q v H') : spM K F vs H Q (WE W σ) := by
  refine ⟨m, st, ds, hS, rv, ?_⟩
  cases q : F ds st with
  | no => rw [q] at h; exact h
  | ok d st' => rw [q] at h; exact h
  | er x en st' =>
    rw [q] at h
    exact fun m' H' σ' c d ex s' _ rx => h m' H' σ c d ex s' (hE.mono ex.ext) rx
theorem run_g {pins : List (Addr × Obj)} {σ : L2.St} {H : Hp} {s : Shared} {Q : VK} {us ds : List Value} {vs dvs : List V} (G : FnG X.prog X.w X.K X.mg X.base k f fd ps F) (hr : Room k X.A) (hG : X.A.guards = some []) (tk : Takes X W) (hb : Binds X.K fd ps ds) (hd : Vals dvs ds)
    (I : Inv X pins σ H s) (r : Vals vs us) (h : spM X.K F (vs ++ dvs) H Q (WE W σ)) : wpAny (model X.prog X.w) X.A (call (.ref f) us) (EP X pins σ Q) X.xe s := by
  have r2 : Vals (vs ++ dvs) (us ++ ds) := r.append hd
  have hl : (us ++ ds).length = ps.length := by rw [← r2.length]; exact G.slen h
  refine wpAny_call (codeAny_mono (G.run X.A X.stack s H ⟨us, []⟩ (us ++ ds) (vs ++ dvs) Q (WE W σ) hr hG I.env0 (hb s us I.kIn hl) r2 h) fun r s' hq => ?_)
  cases r with
  | error e => exact passAt tk σ pins H s e s' I hq
  | ok fl =>
    cases fl with
    | ret u => exact I.after hq
    | next => exact hq.elim
    | brk => exact hq.elim
    | cont => exact hq.elim
/-- what is known of a global def -/
structure DefOk (X : Cx) (k : Nat) (x : Str) (F : MFun) : Prop where
  ex : ∃ f fd ps, FnG X.prog X.w X.K X.mg X.base k f fd ps F ∧ X.mg x = some (.ref f) ∧ PySem.W.keepIn X.K (.ref f) = true ∧ Binds X.K fd ps []
theorem me_call (G : DefOk X k x F) (hr : Room k X.A) (hG : X.A.guards = some []) (tk : Takes X W) (ha : MA X W (e :: es) ga) (hg : Gl X x := by rfl) (hdb : (x == ("__debug__" : Str)) = false := by decide)
    (he : starEach (e :: es) X.env = (false, eval e X.env) :: starEach es X.env := by rfl) (hpl : (backTo pos (starEach es X.env)).any (·.1) = false := by rfl) : ME X W (.Call (.Name x p) (e :: es) [] pos) (eCall F ga) := by
  obtain ⟨f, fd, ps, G, hm, hk, hb⟩ := G.ex
  refine ⟨fun pins s σ H Q I h => ?_⟩
  obtain ⟨m, env, st, hE, hS, h⟩ := h
  refine wpAny_Call_Name_kw (ld_glob I hg hm ?_ hdb)
  refine PySem.W.callWith_K (h₀ := X.base) I.ok.mod.kin hk (thn (ha.run pos pins s σ H (fun vs H1 => spM X.K F (vs ++ []) H1 Q (WE W σ)) I ⟨m, env, st, hE, hS, h.bind.imp fun ds m1 st1 H1 x1 s1 h1 vs rv => ?_⟩) fun us s1 ⟨vs, H1, I1, r, q⟩ => ⟨I1.kIn, ?_⟩) he hpl
  · show spM X.K F (vs ++ []) H1 Q (WE W σ)
    rw [List.append_nil]
    exact sp_at (hE.mono x1.ext) s1 rv h1
  · exact run_g G hr hG tk hb .nil I1 r q
theorem me_call0 (G : DefOk X k x F) (hr : Room k X.A) (hG : X.A.guards = some []) (tk : Takes X W) (hg : Gl X x := by rfl) (hdb : (x == ("__debug__" : Str)) = false := by decide) : ME X W (.Call (.Name x p) [] [] pos) (eCall F aN) := by
  obtain ⟨f, fd, ps, G, hm, hk, hb⟩ := G.ex
  refine ⟨fun pins s σ H Q I h => ?_⟩
  obtain ⟨m, env, st, hE, hS, h⟩ := h
  refine wpAny_Call_Name_kw (ld_glob I hg hm ?_ hdb)
  exact PySem.W.callWith_K0 I.kIn hk (run_g (us := []) (vs := []) G hr hG tk hb .nil I .nil (sp_at hE hS .nil h))
end
end MM
set_option Elab.async false
set_option linter.all false
set_option autoImplicit false
set_option maxRecDepth 100000
set_option maxHeartbeats 2000000
/-! M5: the end of a law. -/
namespace MM
open PySem PySem.Spec PyProof.Rows L2

/-- a law by a function of data: it answers True for every list of ints -/
theorem law_at {P : Program} {w : World} {K : PySem.W.Frag} {mg mb : Str → Option Value} {k : Nat} {fa a : Addr} {fd : FuncData} {x : Str} {F : MFun} {s₁ : Shared} {vs : List Value} {ns : List Int}
    (h1 : K.In s₁.heap) (h2 : s₁.heap.Ns mainGlobals mg) (h3 : s₁.heap.Ns builtinsNs mb) (h4 : ∀ y : Str, y ≠ "__name__" → mb y = bootBuiltins y)
    (h5 : s₁.heap.NoLimit) (h6 : s₁.gens = #[]) (h7 : s₁.heap.get? a = some { cls := .type "list", data := .seq vs.toArray }) (h8 : IntsAre vs ns)
    (h9 : ns.length ≤ sizeLine) (room : Room k callerA)
    (G : ∀ base : Heap, K.In base → base.Ns mainGlobals mg → FnG P w K mg base k fa fd [x] F)
    (bd : ∀ (s : Shared) (u : Value), BindsTo s fd ⟨[u], []⟩ [(x, u)])
    (yes : ∃ st', F [.lst (ns.map D.int)] [] = .ok (.bl true) st') :
    codeAny (model P w) callerA (.call (.ref fa) ⟨[.ref a], []⟩)
      (fun r s' => r = .ok (.ret (.bool true)) ∧ OldK s₁.heap s'.heap ∧ s'.os = s₁.os ∧ AllBare s'.gens) s₁ := by
  have rvs : Vals (ns.map V.int) vs := vals_ints h8
  have hlen := h8.length
  obtain ⟨st', hF⟩ := yes
  -- the abstract heap H in which the script alone may be tracked, locked
  have go : ∀ H : Hp, (∀ b u, H b = some u → b = a ∧ K.lookup a = none ∧ u = .frz { cls := .type "list", data := .seq vs.toArray } (.lst (ns.map V.int))) → SqL K H a (ns.map V.int) →
      codeAny (model P w) callerA (.call (.ref fa) ⟨[.ref a], []⟩)
        (fun r s' => r = .ok (.ret (.bool true)) ∧ OldK s₁.heap s'.heap ∧ s'.os = s₁.os ∧ AllBare s'.gens) s₁ := by
    intro H only hS
    have ok : HOk P w H s₁.heap := by
      intro b u e
      obtain ⟨rfl, _, rfl⟩ := only b u e
      exact ⟨h7, by rw [List.length_map]; exact h9, vs, _, rvs, h7⟩
    have nota : ∀ {b : Addr} {o : Obj}, s₁.heap.get? b = some o → (∀ o', s₁.heap.get? a = some o' → b = a → False) → H b = none := by
      intro b o e ne
      cases q : H b with
      | none => rfl
      | some u => exact (ne _ h7 (only b u q).1).elim
    have dictOff : ∀ {b : Addr} {o : Obj} {es : Array DictEntry} {ep : Nat}, s₁.heap.get? b = some o → o.data = .dict es ep → H b = none := by
      intro b o es ep e d
      refine nota e fun o' e' eb => ?_
      subst eb
      rw [h7] at e
      cases e
      cases d
    have toHid : ∀ {b : Addr} {mm : Str → Option Value}, s₁.heap.Ns b mm → (hidT s₁.heap H).Ns b mm := by
      rintro b mm ⟨o, es, ep, e, d, r⟩
      exact ⟨o, es, ep, hidT_get e (dictOff e d), d, r⟩
    have kin : K.In (hidT s₁.heap H) := by
      intro b o e
      refine hidT_get (h1 b o e) ?_
      cases q : H b with
      | none => rfl
      | some u =>
        obtain ⟨rfl, nk, _⟩ := only b u q
        rw [nk] at e
        cases e
    obtain ⟨mc, c1, c2⟩ := h5
    have md : Mod K mg (hidT s₁.heap H) := ⟨kin, toHid h2, ⟨mb, toHid h3, h4⟩, mc, toHid c1, c2⟩
    have env0 : Env0 P w K mg (hidT s₁.heap H) callerA [] s₁ H :=
      ⟨rfl, md, fun b o e => of_hidT e, Nat.le_of_eq (hidT_size _ _), trivial, (fun b hb => absurd (show b ∈ ([] : List Addr) from hb) (by simp)), ok, .of_eq h6⟩
    have start : spM K F [.ref a] H (fun v _ => v = .bl true) fun _ _ _ => False := by
      refine ⟨⟨H, []⟩, [], [.lst (ns.map D.int)], ⟨fun _ _ q => q, rfl, List.nodup_nil, (fun _ z => by cases z), (fun n _ _ z => by simp at z)⟩, .cons (.lst hS ?_) .nil, ?_⟩
      · clear hF rvs h8 hlen h9 hS only
        induction ns with
        | nil => exact .nil
        | cons z zs ih => exact .cons (.int z) ih
      · rw [hF]
        intro m' H' _ _ v rv
        cases rv
        rfl
    refine codeAny_mono ((G _ kin (toHid h2)).run callerA [] s₁ H ⟨[.ref a], []⟩ [.ref a] [.ref a] _ _ room rfl env0 (bd s₁ (.ref a)) (.cons rfl .nil) start) ?_
    intro r s' q
    match r, q with
    | .error e, q =>
      obtain ⟨_, _, _, _, _, _, _, _, _, _, _, _, z⟩ := q
      exact z.elim
    | .ok (.ret u), q =>
      obtain ⟨v, H', eos, bare, un, ok', rv, ev⟩ := q
      have ev' : v = .bl true := ev
      subst ev'
      obtain rfl : u = Value.bool true := rv
      refine ⟨rfl, OldK.of_keep fun b o e => ?_, eos, bare⟩
      cases q : H b with
      | none => exact un.keep b o e q (fun z => absurd (show b ∈ ([] : List Addr) from z) (by simp)) (by simp)
      | some u =>
        obtain ⟨rfl, _, rfl⟩ := only b u q
        obtain ⟨e2, _⟩ := ok' b _ (un.frzs b _ _ q)
        rw [h7] at e
        cases e
        exact e2
    | .ok .next, q => exact q.elim
    | .ok .brk, q => exact q.elim
    | .ok .cont, q => exact q.elim
  cases hk : K.lookup a with
  | some o =>
    have e := h1 a o hk
    rw [h7] at e
    cases e
    exact go (fun _ => none) (fun b u z => nomatch (show (none : Option HO) = some u from z)) (.inr ⟨_, vs.toArray, _, hk, rfl, rfl, rfl, by rw [List.size_toArray, hlen]; exact h9, by simpa using rvs⟩)
  | none =>
    refine go (fun b => if b = a then some (.frz { cls := .type "list", data := .seq vs.toArray } (.lst (ns.map V.int))) else none) (fun b u z => ?_) (.inl (.inr ⟨_, if_pos rfl⟩))
    by_cases hb : b = a
    · exact ⟨hb, hk, (Option.some.inj ((if_pos hb).symm.trans z)).symm⟩
    · exact nomatch (show (none : Option HO) = some u from (if_neg hb).symm.trans z)

/-- what the head leaves, from a law's function -/
theorem law_end {l : PySem.W.OpenLaw} {n k : Nat} {q : Program} {loose : List Str} {XP : (Str → Option Value) → Heap → Prop} {YP : World → Heap → Prop} {d : DefRec} {x : Str}
    (hn : l.most = some n) (hn2 : n ≤ sizeLine) (hdf : d.params.defaults = []) (room : Room k callerA)
    (all : ∀ (w : World) (mg : Str → Option Value) (fa : Addr) (h : Heap), YP w h → h.Ns mainGlobals mg → mg d.name = some (.ref fa) →
      ∃ (K : PySem.W.Frag) (fd : FuncData) (F : MFun), K.In h ∧ (∀ (s : Shared) (u : Value), BindsTo s fd ⟨[u], []⟩ [(x, u)]) ∧
        (∀ ns : List Int, ns.length ≤ n → ∃ st', F [.lst (ns.map D.int)] [] = .ok (.bl true) st') ∧
        ∀ base : Heap, K.In base → base.Ns mainGlobals mg → FnG l.prog w K mg base k fa fd [x] F) :
    PySem.W.WalkO q loose XP YP l.row.toRowW d [] (fun f vs => PySem.call f vs) := by
  refine Att.attach_call hn hdf fun w s₀ s₁ mg mb fa o pm cd doc a vs ns G Y ho hd hcd hmg hobj hints hlen hg => ?_
  obtain ⟨K, fd, F, kin, bd, yes, ok⟩ := all w mg fa _ Y G.T.g hmg
  exact law_at kin G.T.g G.T.b G.T.builtins G.T.nolimit hg hobj hints (Nat.le_trans hlen hn2) room ok bd (yes ns hlen)
end MM
set_option Elab.async false
set_option linter.all false
set_option autoImplicit false
set_option maxRecDepth 100000
set_option maxHeartbeats 2000000
/-! M6: what is walked: sequences, ranges, enumerate, zip; for and comprehensions. -/
namespace MM
open PySem PySem.Spec PyProof.Rows L2

/-! ### sources: a list or a tuple that stands still -/
def SqB (K : PySem.W.Frag) (b : Bool) (H : Hp) (a : Addr) (xs : List V) : Prop := match b with
  | true => SqT K H a xs
  | false => SqL K H a xs
def ItB (b : Bool) (h : Heap) (it a : Addr) (i : Nat) : Prop := match b with
  | true => h.IsTupleIter it a i
  | false => h.IsListIter it a i
def objB (b : Bool) (a : Addr) : Obj := match b with
  | true => { cls := .type "tuple_iterator", data := .fields #[.ref a, .int 0 0] }
  | false => { cls := .type "list_iterator", data := .fields #[.ref a, .int 0 0] }
def SrcB (b : Bool) (h : Heap) (a : Addr) (its : Array Value) : Prop := match b with
  | true => h.IsTuple a its
  | false => h.IsList a its
section
variable {X : Cx} {pins : List (Addr × Obj)} {σ : L2.St} {H : Hp} {s : Shared} {b : Bool} {a it : Addr} {xs : List V}
theorem ItB.at {h h' : Heap} {i : Nat} (q : ItB b h it a i) (k : ∀ o, h.get? it = some o → h'.get? it = some o) : ItB b h' it a i := by
  cases b with
  | true => exact Heap.IsTupleIter.at q k
  | false => exact Heap.IsListIter.at q k
theorem ItB.obj {h : Heap} {i : Nat} (q : ItB b h it a i) : ∃ o, h.get? it = some o ∧ ∀ v, o.data ≠ .cell v := by
  cases b with
  | true => obtain ⟨o, e, _, d⟩ := q; exact ⟨o, e, fun v z => by rw [d] at z; cases z⟩
  | false => obtain ⟨o, e, _, d⟩ := q; exact ⟨o, e, fun v z => by rw [d] at z; cases z⟩
theorem ItB.begin {h : Heap} (e : h.get? it = some (objB b a)) : ItB b h it a 0 := by
  cases b with
  | true => exact ⟨_, e, rfl, rfl⟩
  | false => exact ⟨_, e, rfl, rfl⟩
theorem SqB.src (I : Inv X pins σ H s) (q : SqB X.K b H a xs) : ∃ its : Array Value, Vals xs its.toList ∧ SrcB b s.heap a its := by
  cases b with
  | true =>
    obtain ⟨its, r, p, _⟩ := I.tuple q
    exact ⟨its.toArray, by simpa using r, p⟩
  | false =>
    obtain ⟨its, r, p, _⟩ := I.list q
    exact ⟨its.toArray, by simpa using r, p.isList⟩
theorem SqB.mono {K : PySem.W.Frag} {H H' : Hp} (k : ∀ c o, H c = some o → H' c = some o) (q : SqB K b H a xs) : SqB K b H' a xs := by
  cases b with
  | true => exact sqT_mono k q
  | false => exact sqL_mono k q
/-- what such an iterator draws -/
theorem drawB {P : Program} {w : World} {A : Around} (hh : A.handled = none) (hne : a ≠ it) (its : Array Value) :
    Draws P w A it [it, a] its.size (fun i v => its[i]? = some v) (fun i h => ItB b h it a i ∧ SrcB b h a its) := by
  cases b with
  | true => exact Draws.tuple hh it a hne its
  | false => exact Draws.list hh it a hne its
theorem beginB (its : Array Value) : Begins (.ref a) (objB b a) fun h => SrcB b h a its := by
  cases b with
  | true => exact begins_tuple a its
  | false => exact begins_list a its
theorem SqB.lt (I : Inv X pins σ H s) (q : SqB X.K b H a xs) : a < s.heap.objs.size := by
  obtain ⟨its, _, p⟩ := q.src I
  cases b with
  | true => obtain ⟨o, e, _⟩ := p; exact Heap.lt_size e
  | false => obtain ⟨o, e, _⟩ := p; exact Heap.lt_size e
end

/-! ### iterators that hand out new tuples -/
/-- n turns over what Src holds still; the i-th tuple is told by Yl -/
def itT (n : Nat) (Src : Hp → Prop) (Yl : Nat → Hp → List V → Prop) : It where
  go := fun i H => i < n ∧ Src H
  yld := fun i H v H' => ∃ T ys, v = .ref T ∧ H T = none ∧ H' = upd H T (.tup ys) ∧ Yl i H ys
  stop := fun i H => i = n ∧ Src H
/-- from the library's walk to the layer's turn -/
theorem turn_of {P : Program} {w : World} {K : PySem.W.Frag} {elts : List Expr} {kk : Nat} {tpos : Pos} {n : Nat} {Src : Hp → Prop} {Yl : Nat → Hp → List V → Prop} {fp : List Addr} {it : Addr} {tn : Nat → Heap → Prop} (hm : it ∈ fp)
    (hobj : ∀ i h, tn i h → ∀ b ∈ fp, ∃ o, h.get? b = some o ∧ ∀ v, o.data ≠ .cell v)
    (hkeep : ∀ i h h', tn i h → (∀ b ∈ fp, ∀ o, h.get? b = some o → h'.get? b = some o) → tn i h')
    (hw : ∀ (X : Cx), X.prog = P → X.w = w → X.K = K → X.A.handled = none → ∀ (i : Nat) (pins : List (Addr × Obj)) (s : Shared) (σ : L2.St) (H : Hp), Inv X pins σ H s → tn i s.heap → Src H →
      ∃ (wr fpG : List Addr) (St : Nat → Heap → Prop) (Pt : Nat → Array Value → Prop), GoesN P w X.A (.Tuple elts kk tpos) it fpG wr n (fun i h₀ v h => ∃ T vals, v = .ref T ∧ h₀.objs.size ≤ T ∧ Pt i vals ∧ h.IsTuple T vals) St ∧
        (∀ b ∈ wr, b ∈ fp) ∧ St i s.heap ∧ (∀ h, St (i + 1) h → tn (i + 1) h) ∧ ∀ vals, i < n → Pt i vals → ∃ ys, ys.length ≤ 100000 ∧ Vals ys vals.toList ∧ Yl i H ys)
    (hself : ∀ (A : Around) (i : Nat) (s : Shared) (Q : Value → Shared → Prop) (E : Value → Shared → Prop), tn i s.heap → Q (.ref it) s → wpAny (model P w) A (pyIter (.ref it)) Q E s) :
    Turn P w K (.Tuple elts kk tpos) (itT n Src Yl) fp it tn where
  mem := hm
  obj := hobj
  keep := hkeep
  item := by
    intro X hP hw' hK hc i pins s σ H E I hf st hg
    obtain ⟨hi, hS⟩ := hg
    obtain ⟨wr, fpG, St, Pt, G, hsub, st0, hnext, hvals⟩ := hw X hP hw' hK (I.ok.hd hc) i pins s σ H I st hS
    subst hP hw' hK
    have G2 := G.goes i s (fun v s₂ => ∃ x H', Inv X pins σ H' s₂ ∧ RelV x v ∧ (itT n Src Yl).yld i H x H' ∧ tn (i + 1) s₂.heap ∧ ∀ b ∈ fp, H' b = none) E hi st0 fun v h' tk hY st' hk htk => ?_
    · exact wpAny_mono G2 (fun r s1 q => q) fun _ _ z => z
    · obtain ⟨T, vals, rfl, hT, hp, hIs⟩ := hY
      obtain ⟨ys, hl, rv, hyl⟩ := hvals vals hi hp
      have hn : H T = none := I.hok.fresh hT
      have new : ObjOk X.prog X.w (upd H T (.tup ys)) h' T (.tup ys) := ⟨sz5 hl, vals.toList, rv, by rw [Array.toArray_toList]; exact hIs⟩
      have I1 : Inv X pins σ (upd H T (.tup ys)) { s with heap := h', toks := tk } := I.turnedNew (ch := wr) (fun b o hb e => hk b o hb e) (fun b hb => hf b (hsub b hb)) hT new
      refine ⟨.ref T, _, I1, rfl, ⟨T, ys, rfl, hn, rfl, hyl⟩, hnext _ st', fun b hb => ?_⟩
      obtain ⟨o, e, _⟩ := hobj i _ st b hb
      rw [upd_ne (Nat.ne_of_lt (Nat.lt_of_lt_of_le (Heap.lt_size e) hT))]
      exact (hf b hb).1
  done := by
    intro X hP hw' hK hc i pins s σ H E I hf st hg
    obtain ⟨hi, hS⟩ := hg
    obtain ⟨wr, fpG, St, Pt, G, hsub, st0, hnext, hvals⟩ := hw X hP hw' hK (I.ok.hd hc) i pins s σ H I st hS
    subst hP hw' hK
    subst hi
    have nit : ∀ b u, H b = some u → b ∉ wr := fun b u e z => by
      have q := (hf b (hsub b z)).1
      rw [q] at e; cases e
    refine G.stops s (fun s1 => Inv X pins σ H s1) E st0 fun h' tk hk htk => ?_
    refine I.step (g' := s.gens) (d' := s.drawn) (ch := wr) (fun b hb => ⟨(hf b (hsub b hb)).2.2.2.1, (hf b (hsub b hb)).2.1, (hf b (hsub b hb)).2.2.2.2.1, (hf b (hsub b hb)).2.2.2.2.2⟩)
      (fun b o _ _ hc e _ => hk b o hc e) (fun b o _ _ hc e _ => ⟨o.slots, hk b o hc e⟩) (fun _ _ _ _ z => z) (fun b o hc e => ⟨o, hk b o hc e⟩) (fun _ _ z => z) (fun _ _ _ z => z) (fun b ps e => ⟨#[], by rw [e]; simp⟩)
      (fun mm hmm => ?_) (fun b u e => ?_) I.bare
    · obtain ⟨o, es, ep, ho, r⟩ := hmm
      exact ⟨o, es, ep, hk _ o (fun z => (hf _ (hsub _ z)).2.1 rfl) ho, r⟩
    · refine (I.hok b u e).stay (fun c v hc q => hk c v ?_ q) (fun _ q => q) fun _ _ q => q
      rcases hc with z | z
      · rw [z]; exact nit b u e
      · exact nit c _ z
  self := hself

/-! ### enumerate -/
section
open PySem.F
set_option maxHeartbeats 1000000 in
theorem enum1_makes {v : Value} {o : Obj} {Hs : Heap → Prop} (B : Begins v o Hs) :
    Meets (Builtin.«enumerate.__new__» ⟨[.type "enumerate", v], []⟩) (fun _ R s => Hs s.heap ∧
      R (.ok (.ret (.ref (s.heap.push o).objs.size))) { s with heap := (s.heap.push o).push { cls := .type "enumerate", data := .fields #[.none, .bool false, .ref s.heap.objs.size, rawInt 0, .none, .none] } }) :=
  .of_wp fun prog w A R s h => by
    obtain ⟨hp, g, d, tk, os⟩ := s
    obtain ⟨ha, hr⟩ := h
    have hsub := sub_enumerate
    have go : ∀ {A' : Around} {E : Value → Shared → Prop} {Q : Value → Shared → Prop}, Q (.ref hp.objs.size) ⟨hp.push o, g, d, tk, os⟩ → wpAny (model prog w) A' (pyIter v) Q E ⟨hp, g, d, tk, os⟩ :=
      fun {A' E Q} q => B.iter prog w A' E ⟨hp, g, d, tk, os⟩ Q ha q
    wp_walk using go
    refine wpAny_stack_any fun st => wpAny_pure ?_
    split
    · rename_i c _ _ _ _ _
      by_cases hc : (c == Value.type "enumerate") = true
      · rw [hc]
        wp_walk using go
        exact ⟨_, rfl, hr⟩
      · rw [Bool.not_eq_true] at hc
        rw [hc]
        wp_walk using go
        exact ⟨_, rfl, hr⟩
    · wp_walk using go
      exact ⟨_, rfl, hr⟩
theorem enum1_begins {prog : Program} {w : World} {A : Around} {E : Value → Shared → Prop} {s : Shared} {v : Value} {o : Obj} {Hs : Heap → Prop} {Q : Value → Shared → Prop} (B : Begins v o Hs) (h1 : Hs s.heap)
    (h : ∀ h', IsEnum h' (s.heap.objs.size + 1) s.heap.objs.size 0 .none → h'.get? s.heap.objs.size = some o → h'.objs.size = s.heap.objs.size + 2 →
      (∀ b u, s.heap.get? b = some u → h'.get? b = some u) → Q (.ref (s.heap.objs.size + 1)) { s with heap := h' }) :
    wpAny (model prog w) A (call (.type "enumerate") [v]) Q E s := by
  refine callType_new F.called_enumerate (by decide) (F.typeCall_enumerate_1 _) (F.newCall_enumerate_1 _) (fun obj => F.args_object_init_2 obj _) F.entry_enumerate_new (enum1_makes B) ⟨h1, ?_⟩
  have z1 : (s.heap.push o).objs.size = s.heap.objs.size + 1 := Heap.size_push ..
  have he : ((s.heap.push o).push { cls := .type "enumerate", data := .fields #[.none, .bool false, .ref s.heap.objs.size, rawInt 0, .none, .none] }).get? (s.heap.objs.size + 1) = some { cls := .type "enumerate", data := .fields #[.none, .bool false, .ref s.heap.objs.size, rawInt 0, .none, .none] } := by
    rw [← z1]
    exact Heap.get?_push_size _ rfl
  show _ ∧ _
  rw [z1]
  exact ⟨⟨_, he, rfl⟩, h _ he (Heap.get?_push_of_some _ (Heap.get?_push_size _ B.free)) (by rw [Heap.size_push, z1]) fun b u x => Heap.get?_push_of_some _ (Heap.get?_push_of_some _ x)⟩
end
section
variable {P : Program} {w : World} {K : PySem.W.Frag} {elts : List Expr} {kk : Nat} {tpos : Pos} {a b c e it : Addr} {ba bb bc : Bool} {xs ys zs : List V}
def z2L (xs ys : List V) (i : Nat) : List V := [xs.getD i .non, ys.getD i .non]
def enL (k : Int) (xs : List V) (i : Nat) : List V := [.int (k + i), xs.getD i .non]
theorem vals_getD {its : Array Value} (r : Vals xs its.toList) {i : Nat} {v : Value} (h : its[i]? = some v) : RelV (xs.getD i .non) v := by
  obtain ⟨h1, h2⟩ := Array.getElem?_eq_some_iff.mp h
  have hl := r.length
  have hx : i < xs.length := by rw [hl]; simpa using h1
  obtain ⟨u, q1, q2⟩ := r.get (i := i) (x := xs[i]) (by simp [hx])
  rw [List.getD_eq_getElem?_getD, List.getElem?_eq_getElem hx]
  have : its.toList[i]? = some v := by simpa using h
  rw [this] at q1
  cases q1
  exact q2
/-- what a source holds: a sequence of n at a -/
structure SrcG (K : PySem.W.Frag) (b : Bool) (a : Addr) (n : Nat) (G : Hp → List V → Prop) : Prop where
  sq : ∀ H xs, G H xs → SqB K b H a xs
  len : ∀ H xs, G H xs → xs.length = n
variable {n1 n2 : Nat} {G1 G2 : Hp → List V → Prop}
def yEn (k : Int) (G : Hp → List V → Prop) (i : Nat) (H : Hp) (ys : List V) : Prop := ∃ xs, G H xs ∧ ys = enL k xs i
def yZ2 (G1 G2 : Hp → List V → Prop) (i : Nat) (H : Hp) (ys : List V) : Prop := ∃ xs zs, G1 H xs ∧ G2 H zs ∧ ys = z2L xs zs i
theorem turn_en (g : SrcG K ba a n1 G1) (k : Int) : Turn P w K (.Tuple elts kk tpos) (itT n1 (fun H => ∃ xs, G1 H xs) (yEn k G1)) [e, it] e (fun i h => (∃ old, IsEnum h e it (k + (i : Int)) old) ∧ ItB ba h it a i ∧ e ≠ it ∧ e ≠ a ∧ a ≠ it) := by
  refine turn_of (by simp) (fun i h st b hb => ?_) (fun i h h' st k' => ?_) (fun X hP hw hK hh i pins s σ H I st hS => ?_) (fun A i s Q E st q => ?_)
  · obtain ⟨⟨old, he⟩, hi, _⟩ := st
    rcases (show b = e ∨ b = it by simpa using hb) with z | z
    · rw [z]; exact ⟨_, he, fun v q => nomatch q⟩
    · rw [z]; exact hi.obj
  · obtain ⟨⟨old, he⟩, hi, r⟩ := st
    exact ⟨⟨old, k' e (by simp) _ he⟩, hi.at fun o q => k' it (by simp) o q, r⟩
  · subst hP hw hK
    obtain ⟨⟨old, he⟩, hi, ne1, ne2, n3⟩ := st
    obtain ⟨xs, hG⟩ := hS
    obtain ⟨its, rv, sr⟩ := (g.sq _ _ hG).src I
    have hz : its.size = n1 := by rw [← g.len _ _ hG, rv.length]; simp
    have G := GoesN.enumFrom (prog := X.prog) (w := X.w) (A := X.A) (elts := elts) (x1 := kk) (pos := tpos) k (drawB (P := X.prog) (w := X.w) (A := X.A.in1) (b := ba) hh n3 its) e ne1 (by simp [ne1, ne2]) (by simp)
    rw [hz] at G
    refine ⟨[e, it], _, _, fun i vals => ∃ t x, its[i]? = some x ∧ vals = #[.int (k + (i : Int)) t, x], G.mono ?_, fun b hb => hb, ⟨⟨old, he⟩, hi, sr⟩, fun h st => ⟨st.1, st.2.1, ne1, ne2, n3⟩, fun vals _ hp => ?_⟩
    · rintro i h0 v h hlt ⟨T, t, x, ev, hT, hx, hI⟩
      exact ⟨T, _, ev, hT, ⟨t, x, hx, rfl⟩, hI⟩
    · obtain ⟨t, x, hx, rfl⟩ := hp
      exact ⟨enL k xs i, by simp [enL], .cons ⟨t, rfl⟩ (.cons (vals_getD rv hx) .nil), xs, hG, rfl⟩
  · obtain ⟨⟨_, he⟩, _⟩ := st
    exact wpAny_pyIter_enum he q
/-! ### zip -/
theorem turn_z2 (g1 : SrcG K ba a n1 G1) (g2 : SrcG K bb b n2 G2) {z TI TO i1 i2 : Addr} (S : ZipSep2 z TI TO i1 i2 [i1, a] [i2, b]) (ne1 : a ≠ i1) (ne2 : b ≠ i2) :
    Turn P w K (.Tuple elts kk tpos) (itT (min n1 n2) (fun H => (∃ xs, G1 H xs) ∧ ∃ ys, G2 H ys) (yZ2 G1 G2)) [z, TI, TO, i1, i2] z
      (fun i h => IsZip h z TI TO .none ∧ IsTupOf2 h TI (.ref i1) (.ref i2) ∧ (∃ a1 a2, IsTupOf2 h TO a1 a2) ∧ ItB ba h i1 a i ∧ ItB bb h i2 b i) := by
  refine turn_of (by simp) (fun i h st b hb => ?_) (fun i h h' st k' => ?_) (fun X hP hw hK hh i pins s σ H I st hS => ?_) (fun A i s Q E st q => ?_)
  · obtain ⟨h1, h2, ⟨_, _, h3⟩, h4, h5⟩ := st
    rcases (show b = z ∨ b = TI ∨ b = TO ∨ b = i1 ∨ b = i2 by simpa using hb) with q | q | q | q | q
    · rw [q]; exact ⟨_, h1, fun v q => nomatch q⟩
    · rw [q]; exact ⟨_, h2, fun v q => nomatch q⟩
    · rw [q]; exact ⟨_, h3, fun v q => nomatch q⟩
    · rw [q]; exact h4.obj
    · rw [q]; exact h5.obj
  · obtain ⟨h1, h2, ⟨x1, x2, h3⟩, h4, h5⟩ := st
    exact ⟨k' z (by simp) _ h1, k' TI (by simp) _ h2, ⟨x1, x2, k' TO (by simp) _ h3⟩, h4.at fun o q => k' i1 (by simp) o q, h5.at fun o q => k' i2 (by simp) o q⟩
  · subst hP hw hK
    obtain ⟨h1, h2, h3, h4, h5⟩ := st
    obtain ⟨⟨xs, hG1⟩, ys, hG2⟩ := hS
    obtain ⟨its, rv, sr⟩ := (g1.sq _ _ hG1).src I
    obtain ⟨jts, rw', sr'⟩ := (g2.sq _ _ hG2).src I
    have hz : its.size = n1 := by rw [← g1.len _ _ hG1, rv.length]; simp
    have hz' : jts.size = n2 := by rw [← g2.len _ _ hG2, rw'.length]; simp
    have G := GoesN.zip2 (prog := X.prog) (w := X.w) (A := X.A) (elts := elts) (x1 := kk) (pos := tpos) S (drawB (P := X.prog) (w := X.w) (A := X.A.in1) (b := ba) hh ne1 its) (drawB (P := X.prog) (w := X.w) (A := X.A.in1) (b := bb) hh ne2 jts)
    rw [hz, hz'] at G
    refine ⟨_, _, _, fun i vals => ∃ x y, its[i]? = some x ∧ jts[i]? = some y ∧ vals = #[x, y], G.mono ?_, fun b hb => ?_, ⟨h1, h2, h3, ⟨h4, sr⟩, h5, sr'⟩, fun h st => ⟨st.1, st.2.1, st.2.2.1, st.2.2.2.1.1, st.2.2.2.2.1⟩, fun vals _ hp => ?_⟩
    · rintro i h0 v h hlt ⟨T, x, y, ev, hT, hx, hy, hI⟩
      exact ⟨T, _, ev, hT, ⟨x, y, hx, hy, rfl⟩, hI⟩
    · have : b = z ∨ b = TO ∨ b = i1 ∨ b = i2 := by simpa using hb
      rcases this with q | q | q | q <;> simp [q]
    · obtain ⟨x, y, hx, hy, rfl⟩ := hp
      exact ⟨z2L xs ys i, by simp [z2L], .cons (vals_getD rv hx) (.cons (vals_getD rw' hy) .nil), xs, ys, hG1, hG2, rfl⟩
  · exact wpAny_pyIter_zip st.1 q
end

/-! ### what a function of slots and store walks -/
structure Its where
  ds : List D
  gd : Sto → Prop
abbrev FI := Env → Sto → Rs Its
/-- J walks these data: while gd holds of the store it goes on, what it gives is the i-th datum; nothing else changes -/
def WalkM (K : PySem.W.Frag) (m : Mw) (p : Its) (J : It) : Prop :=
  Walk J p.ds.length (fun H => ∃ m1 st1, Ext m m1 ∧ RelS K m1 st1 H ∧ p.gd st1) fun i H v H' =>
    ∀ m1 st1, Ext m m1 → RelS K m1 st1 H → p.gd st1 → ∀ d, p.ds[i]? = some d → ∃ m2, Ex m1 H m2 H' ∧ RelS K m2 st1 H' ∧ RV K m2 v d
def tI (K : PySem.W.Frag) (W : WX) (f : FI) : TI := fun σ H R => ∃ m env st, RelE K m σ env ∧ RelS K m st H ∧ Fin K W m H (f env st) fun p m' st' H' => p.gd st' → ∀ J, WalkM K m' p J → R J H'
abbrev MI (X : Cx) (W : WX) (tg iter : Expr) (f : FI) : Prop := PI X tg iter (tI X.K W f)
theorem pi_wk {X : Cx} {tg iter : Expr} {t u : TI} (h : PI X tg iter t) (k : ∀ σ H Q, u σ H Q → t σ H Q) : PI X tg iter u := ⟨fun pins s σ H Q I q => h.run pins s σ H Q I (k σ H Q q)⟩
/-- a range -/
def rngD (lo : Int) (n : Nat) : List D := (List.range n).map fun (i : Nat) => D.int (lo + (i : Int))
def iR1 (a : FA) : FI := fun env st => (a env st).bind fun xs s1 => match xs with
  | [.int n] => if -(2 ^ 62) ≤ n ∧ n < 2 ^ 62 then .ok ⟨rngD 0 n.toNat, fun _ => True⟩ s1 else .no
  | _ => .no
def iR2 (a : FA) : FI := fun env st => (a env st).bind fun xs s1 => match xs with
  | [.int i, .int j] => if -(2 ^ 62) ≤ i ∧ i < 2 ^ 62 ∧ -(2 ^ 62) ≤ j ∧ j < 2 ^ 62 then .ok ⟨rngD i (j - i).toNat, fun _ => True⟩ s1 else .no
  | _ => .no
section
variable {X : Cx} {W : WX} {a b tg : Expr} {ga : FA} {fa fb : FE} {p pos : Pos}
theorem walk_rng {K : PySem.W.Frag} {m : Mw} {lo : Int} {n : Nat} : WalkM K m ⟨rngD lo n, fun _ => True⟩ (Itr lo n) := by
  refine ⟨fun i H hi _ => ?_, fun H _ => ?_, fun i H v H' hi _ y => ?_⟩
  · show i < n
    simpa [rngD] using hi
  · simp [Itr, rngD]
  · obtain ⟨rfl, rfl⟩ := y
    refine fun m1 st1 e s _ d hd => ⟨m1, Ex.refl m1 _, s, ?_⟩
    have hi' : i < n := by simpa [rngD] using hi
    simp [rngD, hi'] at hd
    subst hd
    exact .int _
theorem mi_r1 (hm : X.mg "range" = none) (ha : MA X W [a] ga) (hg : Gl X "range" := by rfl) (hs : starEach [a] X.env = [(false, eval a X.env)] := by rfl) : MI X W tg (.Call (.Name "range" p) [a] [] pos) (iR1 ga) := by
  refine pi_wk (pi_range1 hg hm ha hs) ?_
  rintro σ H Q ⟨m, env, st, hE, hS, h⟩
  refine ⟨m, env, st, hE, hS, h.bind.imp fun xs m1 st1 H1 x1 s1 h1 vs rv => ?_⟩
  match xs, rv, h1 with
  | [.int n], .cons (.int _) .nil, h1 =>
    dsimp only at h1
    by_cases hn : -(2 ^ 62) ≤ n ∧ n < 2 ^ 62
    · rw [if_pos hn] at h1
      exact ⟨n, rfl, hn.1, hn.2, h1 m1 H1 (Ex.refl m1 _) s1 trivial _ walk_rng⟩
    · rw [if_neg hn] at h1
      exact h1.elim
  | [], _, h1 => exact h1.elim
  | [.non], _, h1 | [.bl _], _, h1 | [.str _], _, h1 | [.tup _], _, h1 | [.lst _], _, h1 | [.dct _], _, h1 | [.loc _], _, h1 | [.fn _], _, h1 => exact h1.elim
  | _ :: _ :: _, _, h1 => exact (show False from by simp [Fin] at h1).elim
theorem mi_r2 (hm : X.mg "range" = none) (ha : MA X W [a, b] ga) (hg : Gl X "range" := by rfl) (hs : starEach [a, b] X.env = [(false, eval a X.env), (false, eval b X.env)] := by rfl) (hs2 : starEach [b] X.env = [(false, eval b X.env)] := by rfl) :
    MI X W tg (.Call (.Name "range" p) [a, b] [] pos) (iR2 ga) := by
  refine pi_wk (pi_range2 hg hm ha hs hs2) ?_
  rintro σ H Q ⟨m, env, st, hE, hS, h⟩
  refine ⟨m, env, st, hE, hS, h.bind.imp fun xs m1 st1 H1 x1 s1 h1 vs rv => ?_⟩
  cases rv with
  | nil => exact h1.elim
  | @cons v1 d1 vs1 ds1 r1 rs =>
    cases rs with
    | nil => cases d1 <;> exact h1.elim
    | @cons v2 d2 vs2 ds2 r2 rs =>
      cases rs with
      | cons _ _ => cases d1 <;> cases d2 <;> exact h1.elim
      | nil =>
        cases r1 with
        | int i =>
          cases r2 with
          | int j =>
            dsimp only at h1
            by_cases hn : -(2 ^ 62) ≤ i ∧ i < 2 ^ 62 ∧ -(2 ^ 62) ≤ j ∧ j < 2 ^ 62
            · rw [if_pos hn] at h1
              exact ⟨i, j, rfl, hn, h1 m1 H1 (Ex.refl m1 _) s1 trivial _ walk_rng⟩
            · rw [if_neg hn] at h1
              exact h1.elim
          | _ => exact h1.elim
        | _ => exact h1.elim
/-! a sequence that is a name's value, a call's .. : a tuple, a frozen list, a list of the store -/
def iS (a : FE) : FI := fun env st => (a env st).bind fun d s1 => match d with
  | .tup xs => .ok ⟨xs, fun _ => True⟩ s1
  | .lst xs => .ok ⟨xs, fun _ => True⟩ s1
  | .loc n => match s1[n]? with
    | some (.lst xs) => .ok ⟨xs, fun s => s[n]? = some (.lst xs)⟩ s1
    | _ => .no
  | _ => .no
theorem walk_itt {K : PySem.W.Frag} {m : Mw} {c : Addr} {xs : List V} {ds : List D} (h : SqT K m.Z c xs) (r : RVs K m xs ds) : WalkM K m ⟨ds, fun _ => True⟩ (Itt K c) := by
  have at_ : ∀ {m1 : Mw} {st1 : Sto} {H : Hp}, Ext m m1 → RelS K m1 st1 H → SqT K H c xs := fun e s => sqT_mono s.sub (sqT_mono e.1 h)
  refine ⟨fun i H hi ⟨m1, st1, e, s, _⟩ => ?_, fun H ⟨m1, st1, e, s, _⟩ => ⟨xs, at_ e s, by rw [r.length]; exact Nat.le_refl _⟩, fun i H v H' hi ⟨m1, st1, e, s, _⟩ y => ?_⟩
  · have hx : i < xs.length := by rw [r.length]; exact hi
    exact ⟨xs, xs[i], at_ e s, by simp [hx]⟩
  · obtain ⟨rfl, y⟩ := y
    have hv := y xs (at_ e s)
    refine fun m2 st2 e2 s2 _ d hd => ⟨m2, Ex.refl m2 _, s2, ?_⟩
    obtain ⟨u, h1, h2⟩ := r.get hd
    rw [hv] at h1
    cases h1
    exact h2.mono e2
theorem walk_itl {K : PySem.W.Frag} {m : Mw} {c : Addr} {xs : List V} {ds : List D} (h : SqL K m.Z c xs) (r : RVs K m xs ds) : WalkM K m ⟨ds, fun _ => True⟩ (Itl K c) := by
  have at_ : ∀ {m1 : Mw} {st1 : Sto} {H : Hp}, Ext m m1 → RelS K m1 st1 H → SqL K H c xs := fun e s => sqL_mono s.sub (sqL_mono e.1 h)
  refine ⟨fun i H hi ⟨m1, st1, e, s, _⟩ => ?_, fun H ⟨m1, st1, e, s, _⟩ => ⟨xs, at_ e s, by rw [r.length]; exact Nat.le_refl _⟩, fun i H v H' hi ⟨m1, st1, e, s, _⟩ y => ?_⟩
  · have hx : i < xs.length := by rw [r.length]; exact hi
    exact ⟨xs, xs[i], at_ e s, by simp [hx]⟩
  · obtain ⟨rfl, y⟩ := y
    have hv := y xs (at_ e s)
    refine fun m2 st2 e2 s2 _ d hd => ⟨m2, Ex.refl m2 _, s2, ?_⟩
    obtain ⟨u, h1, h2⟩ := r.get hd
    rw [hv] at h1
    cases h1
    exact h2.mono e2
theorem walk_loc {K : PySem.W.Frag} {m : Mw} {c : Addr} {n : Nat} {ds : List D} (h : m.r[n]? = some c) : WalkM K m ⟨ds, fun s => s[n]? = some (.lst ds)⟩ (Itl K c) := by
  have at_ : ∀ {m1 : Mw} {st1 : Sto} {H : Hp}, Ext m m1 → RelS K m1 st1 H → st1[n]? = some (.lst ds) → ∃ xs, H c = some (.lst xs) ∧ RVs K m1 xs ds := fun e s g => s.obj n c _ (e.at h) g
  refine ⟨fun i H hi ⟨m1, st1, e, s, g⟩ => ?_, fun H ⟨m1, st1, e, s, g⟩ => ?_, fun i H v H' hi ⟨m1, st1, e, s, g⟩ y => ?_⟩
  · obtain ⟨xs, h1, h2⟩ := at_ e s g
    have hx : i < xs.length := by rw [h2.length]; exact hi
    exact ⟨xs, xs[i], .inl (.inl h1), by simp [hx]⟩
  · obtain ⟨xs, h1, h2⟩ := at_ e s g
    exact ⟨xs, .inl (.inl h1), by rw [h2.length]; exact Nat.le_refl _⟩
  · obtain ⟨rfl, y⟩ := y
    refine fun m2 st2 e2 s2 g2 d hd => ⟨m2, Ex.refl m2 _, s2, ?_⟩
    obtain ⟨xs, h1, h2⟩ := at_ e2 s2 g2
    obtain ⟨u, h3, h4⟩ := h2.get hd
    rw [y xs (.inl (.inl h1))] at h3
    cases h3
    exact h4
theorem mi_s (ha : ME X W a fa) : MI X W tg a (iS fa) := by
  refine ⟨fun pins s σ H R I h => ?_⟩
  obtain ⟨m, env, st, hE, hS, h⟩ := h
  refine thn (ha.run pins s σ H (fun v H1 => ∃ m1 st1 d, RelS X.K m1 st1 H1 ∧ RV X.K m1 v d ∧ Fin X.K W m1 H1 (match d with
    | .tup xs => .ok ⟨xs, fun _ => True⟩ st1
    | .lst xs => .ok ⟨xs, fun _ => True⟩ st1
    | .loc n => match st1[n]? with
      | some (.lst xs) => .ok ⟨xs, fun s => s[n]? = some (.lst xs)⟩ st1
      | _ => .no
    | _ => .no) fun (p : Its) m' st' H' => p.gd st' → ∀ J, WalkM X.K m' p J → R J H') I ⟨m, env, st, hE, hS, h.bind.imp fun d m1 st1 H1 x1 s1 h1 v rv => ⟨m1, st1, d, s1, rv, h1⟩⟩) fun u s1 hv => ?_
  obtain ⟨v, H1, I1, ru, m1, st1, d, s1', rv, hq⟩ := hv
  cases d with
  | tup ds =>
    cases rv with
    | @tup c xs _ h1 h2 =>
      cases ru
      obtain ⟨its, rr, p', hz⟩ := I1.tuple (sqT_mono s1'.sub h1)
      refine wpAny_pyIter_tuple (show s1.heap.IsTuple c its.toArray from p') ⟨s1.heap.objs.size, [s1.heap.objs.size], _, _, H1, rfl, I1.kept (t' := s1.toks) fun b o e => Heap.get?_push_of_some _ e, turn_tuple c _, ⟨_, Heap.get?_push_size _ rfl, rfl, rfl⟩, fun b hb => ?_, hq m1 H1 (Ex.refl m1 _) s1' trivial _ (walk_itt h1 h2)⟩
      obtain rfl : b = s1.heap.objs.size := by simpa using hb
      exact I1.fpOk (Nat.le_refl _) (I1.hok.fresh (Nat.le_refl _))
  | lst ds =>
    cases rv with
    | @lst c xs _ h1 h2 =>
      cases ru
      obtain ⟨its, rr, p', hz⟩ := I1.list (sqL_mono s1'.sub h1)
      refine wpAny_pyIter_list p'.isList ⟨s1.heap.objs.size, [s1.heap.objs.size], _, _, H1, rfl, I1.kept (t' := s1.toks) fun b o e => Heap.get?_push_of_some _ e, turn_list c _, ⟨_, Heap.get?_push_size _ rfl, rfl, rfl⟩, fun b hb => ?_, hq m1 H1 (Ex.refl m1 _) s1' trivial _ (walk_itl h1 h2)⟩
      obtain rfl : b = s1.heap.objs.size := by simpa using hb
      exact I1.fpOk (Nat.le_refl _) (I1.hok.fresh (Nat.le_refl _))
  | loc n =>
    cases rv with
    | @loc c _ h1 =>
      cases ru
      obtain ⟨mo, g1, g2⟩ := s1'.there h1
      simp only [g1] at hq
      cases mo with
      | lst ds =>
        obtain ⟨xs, g3, g4⟩ := g2
        obtain ⟨its, rr, p', hz⟩ := I1.list (.inl (.inl g3))
        refine wpAny_pyIter_list p'.isList ⟨s1.heap.objs.size, [s1.heap.objs.size], _, _, H1, rfl, I1.kept (t' := s1.toks) fun b o e => Heap.get?_push_of_some _ e, turn_list c _, ⟨_, Heap.get?_push_size _ rfl, rfl, rfl⟩, fun b hb => ?_, hq m1 H1 (Ex.refl m1 _) s1' g1 _ (walk_loc h1)⟩
        obtain rfl : b = s1.heap.objs.size := by simpa using hb
        exact I1.fpOk (Nat.le_refl _) (I1.hok.fresh (Nat.le_refl _))
      | _ => exact hq.elim
  | _ => exact hq.elim
end

/-! ### for -/
open Classical in
noncomputable def loopM (g : GE) (b : SE) (gd : Sto → Prop) : List D → SE
  | [], env, st => if gd st then .ok (.nx, env) st else .no
  | d :: ds, env, st => if gd st then (g d env st).bind fun en s1 => (b en s1).bind fun p s2 => match p.1 with
    | .nx => loopM g b gd ds p.2 s2
    | .ct => loopM g b gd ds p.2 s2
    | .bk => .ok (.nx, p.2) s2
    | .rt d => .ok (.rt d, p.2) s2
    else .no
noncomputable def sFor (it : FI) (g : GE) (b : SE) : SE := fun env st => (it env st).bind fun p s1 => loopM g b p.gd p.ds env s1
section
variable {X : Cx} {W : WX} {tg iter : Expr} {body : List Stmt} {it : FI} {g : GE} {b : SE} {pos : Pos}
theorem loop_gd {g : GE} {b : SE} {gd : Sto → Prop} {ds : List D} {env : Env} {st : Sto} (h : loopM g b gd ds env st ≠ .no) : gd st := by
  refine Classical.byContradiction fun n => h ?_
  cases ds <;> simp [loopM, n]
theorem Fin.yes {α : Type} {K : PySem.W.Frag} {W : WX} {m : Mw} {H : Hp} {r : Rs α} {P : α → Mw → Sto → Hp → Prop} (h : Fin K W m H r P) : r ≠ .no := fun e => by rw [e] at h; exact h
theorem ms_for (hp : PassesOwn (model X.prog X.w) X.A X.env X.xe) (hc : X.calm = true) (hi : MI X W tg iter it) (hg : MG X W tg g) (hb : MSs X W body b) (hs : ∀ x, foldedSetIterable iter X.env x = pure x := by intro _; rfl) :
    MS X W (.For tg iter body [] pos) (sFor it g b) := by
  refine ps_wk (ps_for hp hc hi hg hb hs) ?_
  rintro D σ H ⟨m, env, st, hE, hS, h⟩
  refine ⟨m, env, st, hE, hS, h.bind.imp fun p m1 st1 H1 x1 s1 h1 hgd J hJ => ?_⟩
  refine for_it hJ (fun i σ2 H2 => ∃ m2 env2 st2, Ext m1 m2 ∧ RelE X.K m2 σ2 env2 ∧ RelS X.K m2 st2 H2 ∧ Fin X.K W m2 H2 (loopM g b p.gd (p.ds.drop i) env2 st2) fun q m' _ H' => match q.1 with
      | .nx => ∀ σ', RelE X.K m' σ' q.2 → D.nx σ' H'
      | .bk => ∀ σ', RelE X.K m' σ' q.2 → D.bk σ' H'
      | .ct => ∀ σ', RelE X.K m' σ' q.2 → D.ct σ' H'
      | .rt d => ∀ v, RV X.K m' v d → D.rt v H') ⟨m1, env, st1, Ext.refl m1, hE.mono x1.ext, s1, by rw [List.drop_zero]; exact h1⟩ ?_ ?_ ?_
  · rintro i σ2 H2 _ ⟨m2, env2, st2, e2, _, s2, h2⟩
    exact ⟨m2, st2, e2, s2, loop_gd h2.yes⟩
  · rintro i v σ2 H2 H3 hi' ⟨m2, env2, st2, e2, hE2, s2, h2⟩ hY
    have hgd2 := loop_gd h2.yes
    have hd : p.ds.drop i = p.ds[i] :: p.ds.drop (i + 1) := List.drop_eq_getElem_cons hi'
    rw [hd] at h2
    simp only [loopM, if_pos hgd2] at h2
    obtain ⟨m3, x3, s3, rv⟩ := hY m2 st2 e2 s2 hgd2 p.ds[i] (by simp [hi'])
    refine ⟨m3, env2, st2, p.ds[i], hE2.mono x3.ext, s3, rv, (h2.from x3).bind.imp fun en m4 st4 H4 x4 s4 h4 σ4 hE4 => ?_⟩
    refine ⟨m4, en, st4, hE4, s4, h4.bind.imp fun q m5 st5 H5 x5 s5 h5 => ?_⟩
    have e5 : Ext m1 m5 := ((e2.trans x3.ext).trans x4.ext).trans x5.ext
    obtain ⟨f, env5⟩ := q
    cases f with
    | nx => exact fun σ' hE' => ⟨m5, env5, st5, e5, hE', s5, h5⟩
    | ct => exact fun σ' hE' => ⟨m5, env5, st5, e5, hE', s5, h5⟩
    | bk => exact h5 m5 H5 (Ex.refl m5 _) s5
    | rt d => exact h5 m5 H5 (Ex.refl m5 _) s5
  · rintro σ2 H2 ⟨m2, env2, st2, e2, hE2, s2, h2⟩
    have hgd2 := loop_gd h2.yes
    rw [List.drop_length] at h2
    simp only [loopM, if_pos hgd2] at h2
    exact h2 m2 H2 (Ex.refl m2 _) s2 σ2 hE2
end

end MM
set_option Elab.async false
set_option linter.all false
set_option autoImplicit false
set_option maxRecDepth 100000
set_option maxHeartbeats 2000000
/-! M7: comprehensions; enumerate and zip as sources. -/
namespace MM
open PySem PySem.Spec PyProof.Rows L2
def W0 : WX := fun _ _ _ _ => False
def Rs.nox {α : Type} : Rs α → Rs α
  | .ok a st => .ok a st
  | _ => .no
def wipeE (env : Env) : List Nat → Env
  | [] => env
  | i :: is => (wipeE env is).set i none
open Classical in
noncomputable def lcM (env0 : Env) (g : GE) (t : FT) (e : FE) (gd : Sto → Prop) : List D → List D → Sto → Rs (List D)
  | [], acc, st => if gd st then .ok acc st else .no
  | d :: ds, acc, st => if gd st ∧ acc.length < 100000 then (g d env0 st).nox.bind fun en s1 => (t en s1).nox.bind fun b s2 =>
      if b = true then (e en s2).nox.bind fun y s3 => lcM env0 g t e gd ds (acc ++ [y]) s3 else lcM env0 g t e gd ds acc s2
    else .no
noncomputable def lcR (it : FI) (g : GE) (t : FT) (e : FE) (vs : List Nat) : FA := fun env st => (it env st).bind fun p s1 => lcM (wipeE env vs) g t e p.gd p.ds [] s1
noncomputable def eLc (it : FI) (g : GE) (t : FT) (e : FE) (vs : List Nat) : FE := fun env st => (lcR it g t e vs env st).bind fun ds s1 => .ok (.lst ds) s1
/-- a list that will be changed -/
noncomputable def eLcN (it : FI) (g : GE) (t : FT) (e : FE) (vs : List Nat) : FE := fun env st => (lcR it g t e vs env st).bind fun ds s1 => .ok (.loc s1.length) (s1 ++ [.lst ds])
def tY : FT := fun _ st => .ok true st
/-- the reading of a target within a comprehension -/
def tGc (K : PySem.W.Frag) (vs : List Nat) (g : GE) : TG := fun v σ H Q => ∃ m env st d, RelE K m σ env ∧ RelS K m st H ∧ RV K m v d ∧ Fin K W0 m H (g d env st) fun env' m' _ H' => ∀ σ', RelE K m' σ' env' → wipe σ' vs = wipe σ vs → Q σ' H'
abbrev MGc (X : Cx) (vs : List Nat) (e : Expr) (g : GE) : Prop := PG X e (tGc X.K vs g)
def tGsc (K : PySem.W.Frag) (vs : List Nat) (g : GEs) : TGs := fun v σ H Q => ∃ m env st d, RelE K m σ env ∧ RelS K m st H ∧ RVs K m v d ∧ Fin K W0 m H (g d env st) fun env' m' _ H' => ∀ σ', RelE K m' σ' env' → wipe σ' vs = wipe σ vs → Q σ' H'
abbrev MGsc (X : Cx) (vs : List Nat) (e : List Expr) (g : GEs) : Prop := PGs X e (tGsc X.K vs g)
section
variable {K : PySem.W.Frag} {W : WX} {m m' m1 : Mw} {H H' H1 : Hp} {st : Sto} {σ : L2.St} {env : Env}
theorem wipe_get (σ : L2.St) (j : Nat) : ∀ vs : List Nat, (wipe σ vs)[j]? = if j ∈ vs then (σ[j]?).map (fun _ => none) else σ[j]?
  | [] => by simp [wipe]
  | v :: vs => by
    have ih := wipe_get σ j vs
    show ((wipe σ vs).set v none)[j]? = _
    by_cases e : v = j
    · subst e
      rw [List.getElem?_set, if_pos rfl]
      by_cases h : v < σ.length
      · simp [wipe_length, h]
      · simp [wipe_length, h]
    · have e' : ¬ j = v := fun z => e z.symm
      rw [List.getElem?_set_ne e, ih]
      simp [e']
theorem wipe_set {i : Nat} {x : Option V} {vs : List Nat} (hi : i ∈ vs) : wipe (σ.set i x) vs = wipe σ vs := by
  refine List.ext_getElem? fun j => ?_
  rw [wipe_get, wipe_get]
  by_cases hj : j ∈ vs
  · rw [if_pos hj, if_pos hj, List.getElem?_set]
    by_cases e : i = j
    · subst e
      by_cases hl : i < σ.length <;> simp [hl]
    · simp [e]
  · rw [if_neg hj, if_neg hj, List.getElem?_set_ne (fun e : i = j => hj (by rw [← e]; exact hi))]
theorem wipe_wipe {vs : List Nat} : wipe (wipe σ vs) vs = wipe σ vs := by
  refine List.ext_getElem? fun j => ?_
  rw [wipe_get, wipe_get]
  by_cases hj : j ∈ vs
  · simp only [if_pos hj, Option.map_map]
    rfl
  · simp [hj]
theorem wipe_rel (hE : RelE K m σ env) : ∀ vs : List Nat, RelE K m (wipe σ vs) (wipeE env vs)
  | [] => hE
  | v :: vs => by
    have ih := wipe_rel hE vs
    refine ⟨by simp [wipe, wipeE, ih.1], fun i d q => ?_⟩
    show ∃ u, ((wipe σ vs).set v none)[i]? = some (some u) ∧ _
    have q' : ((wipeE env vs).set v none)[i]? = some (some d) := q
    by_cases e : v = i
    · subst e
      by_cases hl : v < (wipeE env vs).length
      · rw [List.getElem?_set_self hl] at q'
        cases q'
      · rw [List.getElem?_eq_none (by simp; omega)] at q'
        cases q'
    · rw [List.getElem?_set_ne e] at q'
      obtain ⟨u, h1, h2⟩ := ih.2 i d q'
      exact ⟨u, by rw [List.getElem?_set_ne e]; exact h1, h2⟩
theorem Fin.nox {α : Type} {r : Rs α} {P : α → Mw → Sto → Hp → Prop} (h : Fin K W m H r.nox P) : Fin K W0 m H r P := by
  cases r with
  | ok a st => exact h
  | er x env st => exact h.elim
  | no => exact h
/-- what follows stays told from the base -/
theorem Fin.bindAt {α β : Type} {r : Rs α} {f : α → Sto → Rs β} {P : β → Mw → Sto → Hp → Prop} (h : Fin K W m H (r.nox.bind f) P) : Fin K W0 m1 H1 r fun a _ st' _ => Fin K W m H (f a st') P := by
  cases r with
  | ok a st => exact fun _ _ _ _ => h
  | er x env st => exact h.elim
  | no => exact h
theorem Fin.bind0 {α β : Type} {r : Rs α} {f : α → Sto → Rs β} {P : β → Mw → Sto → Hp → Prop} (h : Fin K W m H (r.bind f) P) : Fin K W m H r fun a _ st' _ => Fin K W m H (f a st') P := by
  cases r with
  | ok a st => exact fun _ _ _ _ => h
  | er x env st => exact h
  | no => exact h
theorem Ex.upd' {p : Addr} {o : HO} (y : Ex m H m' H') (n : H p = none) : Ex m H m' (upd H' p o) :=
  ⟨y.ext, fun q u e z r => by
    obtain ⟨h1, h2, h3⟩ := y.priv q u e z r
    exact ⟨by rw [upd_ne (fun ee => by rw [ee, n] at e; cases e)]; exact h1, h2, h3⟩⟩
theorem Ex.lateF {p : Addr} {o : HO} (x : Ex m H m1 H1) (n : H1 p = none) (y : Ex m1 H1 m' H') (hz : m'.Z p = none) : Ex m H (m'.frz p o) H' :=
  ⟨(x.trans y).ext.trans (Ext.frz hz), fun q u e z r => by
    obtain ⟨a1, a2, a3⟩ := x.priv q u e z r
    obtain ⟨h1, h2, h3⟩ := y.priv q u a1 a2 a3
    exact ⟨h1, by show upd m'.Z p o q = none; rw [upd_ne (fun ee => by rw [ee, n] at a1; cases a1)]; exact h2, h3⟩⟩
theorem Ex.lateA {p : Addr} (x : Ex m H m1 H1) (n : H1 p = none) (y : Ex m1 H1 m' H') : Ex m H (m'.add p) H' :=
  ⟨(x.trans y).ext.trans Ext.add, fun q u e z r => by
    obtain ⟨a1, a2, a3⟩ := x.priv q u e z r
    obtain ⟨h1, h2, h3⟩ := y.priv q u a1 a2 a3
    refine ⟨h1, h2, ?_⟩
    show q ∉ m'.r ++ [p]
    simp only [List.mem_append, List.mem_singleton, not_or]
    exact ⟨h3, fun ee => by rw [ee, n] at a1; cases a1⟩⟩
theorem lc_gd {env0 : Env} {g : GE} {t : FT} {e : FE} {gd : Sto → Prop} {ds acc : List D} (h : lcM env0 g t e gd ds acc st ≠ .no) : gd st := by
  refine Classical.byContradiction fun n => h ?_
  cases ds <;> simp [lcM, n]
/-- the reading of a comprehension -/
theorem to_lc {it : FI} {g : GE} {t : FT} {e : FE} {vs : List Nat} {Q : VK} (hE : RelE K m σ env) (hS : RelS K m st H)
    (h : Fin K W m H (lcR it g t e vs env st) fun ds m' st' H' => ∀ m1 H1 p xs, Ex m H m1 H1 → H1 p = none → Ex m1 H1 m' H' → H' p = some (.lst xs) → RVs K m' xs ds → m'.Z p = none → p ∉ m'.r → Q (.ref p) H') :
    tLc (tI K W it) (tGc K vs g) (tT K W0 t) (tE K W0 e) vs σ H Q := by
  refine ⟨m, env, st, hE, hS, h.bind.imp fun p m1 st1 H1 x1 s1 h1 hgd J hJ D hD => ?_⟩
  obtain ⟨hz, hr⟩ := s1.free hD
  refine lc_it hJ (fun i H2 => ∃ m2 st2 acc xs, Ex m1 H1 m2 H2 ∧ RelS K m2 st2 H2 ∧ m2.Z D = none ∧ D ∉ m2.r ∧ H2 D = some (.lst xs) ∧ RVs K m2 xs acc ∧
      Fin K W m1 H1 (lcM (wipeE env vs) g t e p.gd (p.ds.drop i) acc st2) fun ds m' st' H' => ∀ m1 H1 p xs, Ex m H m1 H1 → H1 p = none → Ex m1 H1 m' H' → H' p = some (.lst xs) → RVs K m' xs ds → m'.Z p = none → p ∉ m'.r → Q (.ref p) H') ?_ ?_ ?_ ?_
  · refine ⟨m1, st1, [], [], (Ex.refl m1 H1).upd' hD, s1.priv hz hr _, hz, hr, upd_same, .nil, ?_⟩
    rw [List.drop_zero]
    exact h1
  · rintro i H2 _ ⟨m2, st2, acc, xs, e2, s2, _, _, _, _, h2⟩
    exact ⟨m2, st2, e2.ext, s2, lc_gd h2.yes⟩
  · rintro i v H2 H3 hi' ⟨m2, st2, acc, xs, e2, s2, z2, r2, d2, rv2, h2⟩ hY
    have hgd2 := lc_gd h2.yes
    have hd : p.ds.drop i = p.ds[i] :: p.ds.drop (i + 1) := List.drop_eq_getElem_cons hi'
    rw [hd] at h2
    have hlen : acc.length < 100000 := by
      refine Classical.byContradiction fun n => h2.yes ?_
      simp [lcM, n]
    simp only [lcM, if_pos (And.intro hgd2 hlen)] at h2
    obtain ⟨m3, x3, s3, rv3⟩ := hY m2 st2 e2.ext s2 hgd2 p.ds[i] (by simp [hi'])
    obtain ⟨d3, z3, r3⟩ := x3.priv D _ d2 z2 r2
    have hE3 : RelE K m3 (wipe σ vs) (wipeE env vs) := (((wipe_rel hE vs).mono x1.ext).mono e2.ext).mono x3.ext
    refine ⟨m3, wipeE env vs, st2, p.ds[i], hE3, s3, rv3, (Fin.bindAt (m1 := m3) (H1 := H3) h2).imp fun en m4 st4 H4 x4 s4 h4 σ4 hE4 hw4 => ⟨by rw [hw4, wipe_wipe], ?_⟩⟩
    obtain ⟨d4, z4, r4⟩ := x4.priv D _ d3 z3 r3
    refine ⟨m4, en, st4, hE4, s4, (Fin.bindAt (m1 := m4) (H1 := H4) h4).imp fun b m5 st5 H5 x5 s5 h5 => ?_⟩
    obtain ⟨d5, z5, r5⟩ := x5.priv D _ d4 z4 r4
    have X5 : Ex m1 H1 m5 H5 := ((e2.trans x3).trans x4).trans x5
    cases b with
    | false => exact ⟨m5, st5, acc, xs, X5, s5, z5, r5, d5, rv2.mono ((x3.trans x4).trans x5).ext, h5⟩
    | true =>
      simp only [if_true] at h5 ⊢
      refine ⟨m5, en, st5, hE4.mono x5.ext, s5, (Fin.bindAt (m1 := m5) (H1 := H5) h5).imp fun y m6 st6 H6 x6 s6 h6 u ru => ?_⟩
      obtain ⟨d6, z6, r6⟩ := x6.priv D _ d5 z5 r5
      have rv6 := rv2.mono (((x3.trans x4).trans x5).trans x6).ext
      refine ⟨xs, d6, ?_, m6, st6, acc ++ [y], xs ++ [u], (X5.trans x6).upd' hD, s6.priv z6 r6 _, z6, r6, upd_same, rv6.append (.cons ru .nil), h6⟩
      rw [rv2.length]
      exact Nat.lt_of_lt_of_le hlen (by decide)
  · rintro H2 ⟨m2, st2, acc, xs, e2, s2, z2, r2, d2, rv2, h2⟩
    have hgd2 := lc_gd h2.yes
    rw [List.drop_length] at h2
    simp only [lcM, if_pos hgd2] at h2
    exact h2 m2 H2 (e2) s2 m1 H1 D xs x1 hD e2 d2 rv2 z2 r2
theorem to_lcF {it : FI} {g : GE} {t : FT} {e : FE} {vs : List Nat} {Q : VK} (q : tE K W (eLc it g t e vs) σ H Q) : tLc (tI K W it) (tGc K vs g) (tT K W0 t) (tE K W0 e) vs σ H Q := by
  obtain ⟨m, env, st, hE, hS, h⟩ := q
  refine to_lc hE hS (h.bind0.imp fun ds m' st' H' x s h1 m1 H1 p xs x1 n1 x2 hp rv hz hr => ?_)
  exact h1 (m'.frz p (.lst xs)) H' (Ex.lateF x1 n1 x2 hz) (s.frz hz hr hp) (.ref p) (.lst (.inl (.inl frz_at)) (rv.mono (Ext.frz hz)))
theorem to_lcN {it : FI} {g : GE} {t : FT} {e : FE} {vs : List Nat} {Q : VK} (q : tE K W (eLcN it g t e vs) σ H Q) : tLc (tI K W it) (tGc K vs g) (tT K W0 t) (tE K W0 e) vs σ H Q := by
  obtain ⟨m, env, st, hE, hS, h⟩ := q
  refine to_lc hE hS (h.bind0.imp fun ds m' st' H' x s h1 m1 H1 p xs x1 n1 x2 hp rv hz hr => ?_)
  refine h1 (m'.add p) H' (Ex.lateA x1 n1 x2) (s.add (mo := .lst ds) hz hr ⟨xs, hp, rv.mono Ext.add⟩) (.ref p) ?_
  rw [← s.len]
  exact .loc add_at
end
section
variable {X : Cx} {W : WX} {vs : List Nat} {e : Expr} {es : List Expr} {pos : Pos}
theorem mgc_n (i : Nat) {x : Str} (hN : X.N.Nodup) (hi : X.N[i]? = some x := by rfl) (hx : Loc X.env.scope x := by first | exact Or.inl rfl | exact Or.inr rfl) (hf : X.fn x = true ∨ X.env.scope.names.lookup x = some .local := by first | exact .inl rfl | exact .inr rfl) (hv : i ∈ vs := by decide) : MGc X vs (.Name x pos) (gN i) := by
  refine pg_wk (pg_name hN hi hx hf) ?_
  rintro v σ H Q ⟨m, env, st, d, hE, hS, rv, h⟩
  exact h m H (Ex.refl m _) hS _ (hE.set i rv) (wipe_set hv)
theorem mgsc_n : MGsc X vs [] gsN := by
  refine pgs_wk pgs_nil ?_
  rintro v σ H Q ⟨m, env, st, d, hE, hS, rv, h⟩
  cases rv with
  | nil => exact ⟨rfl, h m H (Ex.refl m _) hS σ hE rfl⟩
  | cons _ _ => exact h.elim
theorem mgsc_c {g : GE} {r : GEs} (h1 : MGc X vs e g) (h2 : MGsc X vs es r) (hs : (assignEach (e :: es) X.env).map (·.2) = assign e X.env :: (assignEach es X.env).map (·.2) := by rfl) : MGsc X vs (e :: es) (gsC g r) := by
  refine pgs_wk (pgs_cons h1 h2 hs) ?_
  rintro v σ H Q ⟨m, env, st, d, hE, hS, rv, h⟩
  cases rv with
  | nil => exact h.elim
  | @cons v0 d0 vs ds r0 rs =>
    refine ⟨v0, vs, rfl, m, env, st, d0, hE, hS, r0, Fin.imp (Fin.bind h) fun env1 m1 st1 H1 x1 s1 h1 σ1 hE1 hw => ?_⟩
    exact ⟨m1, env1, st1, ds, hE1, s1, rs.mono x1.ext, h1.imp fun _ _ _ _ _ _ h2 σ' q1 q2 => h2 σ' q1 (q2.trans hw)⟩
theorem mgc_t {k n : Nat} {g : GEs} (hc : X.calm = true) (h : MGsc X vs es g) (hn : (assignEach es X.env).length = n := by rfl) (hst : (assignEach es X.env).findIdx? (·.1) = none := by rfl) : MGc X vs (.Tuple es k pos) (gT n g) := by
  refine pg_wk (pg_tup hc h hn hst) ?_
  rintro v σ H Q ⟨m, env, st, d, hE, hS, rv, h⟩
  cases d with
  | tup ds =>
    cases rv with
    | @tup a xs _ h1 h2 =>
      unfold gT at h
      dsimp only at h
      by_cases hl : ds.length = n
      · rw [if_pos hl] at h
        exact ⟨a, xs, rfl, sqT_mono hS.sub h1, by rw [h2.length]; exact hl, m, env, st, ds, hE, hS, h2, h⟩
      · rw [if_neg hl] at h
        exact h.elim
  | _ => exact h.elim
abbrev CT (X : Cx) (W : WX) (ifs : List Expr) (t : FT) : Prop := PTs X ifs (tT X.K W t)
theorem ct_nil : CT X W [] tY := by
  refine ⟨fun pins s σ H Q I h => ?_⟩
  obtain ⟨m, env, st, hE, hS, h⟩ := h
  exact (pts_nil (X := X)).run pins s σ H Q I (h m H (Ex.refl m _) hS)
variable {elt tg iter : Expr} {ifs : List Expr} {scope : Scope} {own : List (Str × Nat)} {it : FI} {g : GE} {t : FT} {f : FE}
theorem me_lc (hc : X.calm = true) (hN : X.N.Nodup) (hi : MI X W tg iter it) (ok : BlkOk X.N X.env.scope scope own)
    (hg : ∀ (s : Shared) (H : Hp) (C : Addr) (cl : List (Str × Addr)) (fp : List Addr), MGc (X.blk s H scope (compEnvC scope cl C X.env) fp) (own.map (·.2)) tg g)
    (ht : ∀ (s : Shared) (H : Hp) (C : Addr) (cl : List (Str × Addr)) (fp : List Addr), CT (X.blk s H scope (compEnvC scope cl C X.env) fp) W0 ifs t)
    (he : ∀ (s : Shared) (H : Hp) (C : Addr) (cl : List (Str × Addr)) (fp : List Addr), ME (X.blk s H scope (compEnvC scope cl C X.env) fp) W0 elt f) (hs : ∀ x, foldedSetIterable iter X.env x = pure x := by intro _; rfl) :
    ME X W (.ListComp elt [⟨tg, iter, ifs, 0⟩] scope pos) (eLc it g t f (own.map (·.2))) := pe_wk (pe_lc hc hN hi ok hg ht he hs) fun _ _ _ => to_lcF
theorem me_lcN (hc : X.calm = true) (hN : X.N.Nodup) (hi : MI X W tg iter it) (ok : BlkOk X.N X.env.scope scope own)
    (hg : ∀ (s : Shared) (H : Hp) (C : Addr) (cl : List (Str × Addr)) (fp : List Addr), MGc (X.blk s H scope (compEnvC scope cl C X.env) fp) (own.map (·.2)) tg g)
    (ht : ∀ (s : Shared) (H : Hp) (C : Addr) (cl : List (Str × Addr)) (fp : List Addr), CT (X.blk s H scope (compEnvC scope cl C X.env) fp) W0 ifs t)
    (he : ∀ (s : Shared) (H : Hp) (C : Addr) (cl : List (Str × Addr)) (fp : List Addr), ME (X.blk s H scope (compEnvC scope cl C X.env) fp) W0 elt f) (hs : ∀ x, foldedSetIterable iter X.env x = pure x := by intro _; rfl) :
    ME X W (.ListComp elt [⟨tg, iter, ifs, 0⟩] scope pos) (eLcN it g t f (own.map (·.2))) := pe_wk (pe_lc hc hN hi ok hg ht he hs) fun _ _ _ => to_lcN
theorem to_set {K : PySem.W.Frag} {te : TE} {fe : FE} {i : Nat} (k : ∀ σ H Q, tE K W fe σ H Q → te σ H Q) : ∀ D σ H, tS K W (sSet (gN i) fe) D σ H → tAsg te (gName i) D σ H := by
  rintro D σ H ⟨m, env, st, hE, hS, h⟩
  refine k _ _ _ ⟨m, env, st, hE, hS, h.bind.imp fun d m1 st1 H1 x1 s1 h1 v rv => ?_⟩
  exact h1 m1 H1 (Ex.refl m1 _) s1 _ ((hE.mono x1.ext).set i rv)
theorem ms_setLc {i : Nat} {y : Str} {py spos : Pos} (hc : X.calm = true) (hN : X.N.Nodup) (hi : MI X W tg iter it) (ok : BlkOk X.N X.env.scope scope own)
    (hg : ∀ (s : Shared) (H : Hp) (C : Addr) (cl : List (Str × Addr)) (fp : List Addr), MGc (X.blk s H scope (compEnvC scope cl C X.env) fp) (own.map (·.2)) tg g)
    (ht : ∀ (s : Shared) (H : Hp) (C : Addr) (cl : List (Str × Addr)) (fp : List Addr), CT (X.blk s H scope (compEnvC scope cl C X.env) fp) W0 ifs t)
    (he : ∀ (s : Shared) (H : Hp) (C : Addr) (cl : List (Str × Addr)) (fp : List Addr), ME (X.blk s H scope (compEnvC scope cl C X.env) fp) W0 elt f) (hy : X.N[i]? = some y := by rfl) (hyl : X.env.scope.names.lookup y = some .local := by rfl)
    (hsw : swapsWith (.ListComp elt [⟨tg, iter, ifs, 0⟩] scope pos) (some (.Name y py)) spos.line X.env = pure true := by rfl) (hs : ∀ x, foldedSetIterable iter X.env x = pure x := by intro _; rfl) :
    MS X W (.Assign [.Name y py] (.ListComp elt [⟨tg, iter, ifs, 0⟩] scope pos) spos) (sSet (gN i) (eLc it g t f (own.map (·.2)))) := ps_wk (ps_setLc hc hN hy hyl hsw hi ok hg ht he hs) (to_set fun _ _ _ => to_lcF)
theorem ms_setLcN {i : Nat} {y : Str} {py spos : Pos} (hc : X.calm = true) (hN : X.N.Nodup) (hi : MI X W tg iter it) (ok : BlkOk X.N X.env.scope scope own)
    (hg : ∀ (s : Shared) (H : Hp) (C : Addr) (cl : List (Str × Addr)) (fp : List Addr), MGc (X.blk s H scope (compEnvC scope cl C X.env) fp) (own.map (·.2)) tg g)
    (ht : ∀ (s : Shared) (H : Hp) (C : Addr) (cl : List (Str × Addr)) (fp : List Addr), CT (X.blk s H scope (compEnvC scope cl C X.env) fp) W0 ifs t)
    (he : ∀ (s : Shared) (H : Hp) (C : Addr) (cl : List (Str × Addr)) (fp : List Addr), ME (X.blk s H scope (compEnvC scope cl C X.env) fp) W0 elt f) (hy : X.N[i]? = some y := by rfl) (hyl : X.env.scope.names.lookup y = some .local := by rfl)
    (hsw : swapsWith (.ListComp elt [⟨tg, iter, ifs, 0⟩] scope pos) (some (.Name y py)) spos.line X.env = pure true := by rfl) (hs : ∀ x, foldedSetIterable iter X.env x = pure x := by intro _; rfl) :
    MS X W (.Assign [.Name y py] (.ListComp elt [⟨tg, iter, ifs, 0⟩] scope pos) spos) (sSet (gN i) (eLcN it g t f (own.map (·.2)))) := ps_wk (ps_setLc hc hN hy hyl hsw hi ok hg ht he hs) (to_set fun _ _ _ => to_lcN)
end
end MM
set_option Elab.async false
set_option linter.all false
set_option autoImplicit false
set_option maxRecDepth 100000
set_option maxHeartbeats 2000000
/-! M8: data as such (==, repr), built-in functions, methods of lists and texts, subscripts. -/
namespace MM
noncomputable section
open PySem PySem.Spec PyProof.Rows L2

/-! ### data -/
mutual
def dp (f : Nat → Option PyData) : D → Option PyData
  | .non => some .none
  | .bl b => some (.bool b)
  | .int i => some (.int i)
  | .str x => some (.str x)
  | .tup xs => (dps f xs).map .tuple
  | .lst xs => (dps f xs).map .list
  | .loc n => f n
  | _ => none
def dps (f : Nat → Option PyData) : List D → Option (List PyData)
  | [] => some []
  | x :: xs => (dp f x).bind fun p => (dps f xs).map (p :: ·)
end
def dlo (st : Sto) : Nat → Nat → Option PyData
  | 0 => fun _ => none
  | k + 1 => fun n => match st[n]? with
    | some (.lst xs) => (dps (dlo st k) xs).map .list
    | _ => none
def dpS (st : Sto) : D → Option PyData := dp (dlo st 3)
section
variable {K : PySem.W.Frag} {m : Mw} {st : Sto} {H : Hp}
mutual
theorem dp_ok {f : Nat → Option PyData} (hz : ∀ a o, m.Z a = some o → H a = some o) (hf : ∀ n a p, m.r[n]? = some a → f n = some p → Dp K H (.ref a) p) : ∀ (d : D) (v : V) (p : PyData), RV K m v d → dp f d = some p → Dp K H v p
  | .non, _, _, r, e => by
    cases r
    simp only [dp] at e
    cases e
    exact .non
  | .bl b, _, _, r, e => by
    cases r
    simp only [dp] at e
    cases e
    exact .bl b
  | .int b, _, _, r, e => by
    cases r
    simp only [dp] at e
    cases e
    exact .int b
  | .str b, _, _, r, e => by
    cases r
    simp only [dp] at e
    cases e
    exact .str b
  | .tup ds, _, _, r, e => by
    cases r with
    | tup h1 h2 =>
      simp only [dp] at e
      cases h : dps f ds with
      | none => rw [h] at e; cases e
      | some ps =>
        rw [h] at e
        cases e
        exact .tup (sqT_mono hz h1) (dps_ok hz hf ds _ ps h2 h)
  | .lst ds, _, _, r, e => by
    cases r with
    | lst h1 h2 =>
      simp only [dp] at e
      cases h : dps f ds with
      | none => rw [h] at e; cases e
      | some ps =>
        rw [h] at e
        cases e
        exact .lst (sqL_mono hz h1) (dps_ok hz hf ds _ ps h2 h)
  | .loc n, _, _, r, e => by
    cases r with
    | loc h1 =>
      simp only [dp] at e
      exact hf n _ _ h1 e
  | .dct _, _, _, r, e => by simp only [dp] at e; cases e
  | .fn _, _, _, r, e => by simp only [dp] at e; cases e
theorem dps_ok {f : Nat → Option PyData} (hz : ∀ a o, m.Z a = some o → H a = some o) (hf : ∀ n a p, m.r[n]? = some a → f n = some p → Dp K H (.ref a) p) : ∀ (ds : List D) (vs : List V) (ps : List PyData), RVs K m vs ds → dps f ds = some ps → DpAll K H vs ps
  | [], _, _, r, e => by
    cases r
    simp only [dps] at e
    cases e
    exact .nil
  | d :: ds, _, _, r, e => by
    cases r with
    | cons r1 r2 =>
      simp only [dps] at e
      cases h : dp f d with
      | none => rw [h] at e; cases e
      | some p =>
        rw [h] at e
        cases h' : dps f ds with
        | none => rw [h'] at e; cases e
        | some ps =>
          rw [h'] at e
          cases e
          exact .cons (dp_ok hz hf d _ p r1 h) (dps_ok hz hf ds _ ps r2 h')
end
theorem dlo_ok (hS : RelS K m st H) : ∀ (k n : Nat) (a : Addr) (p : PyData), m.r[n]? = some a → dlo st k n = some p → Dp K H (.ref a) p
  | 0, _, _, _, _, e => by cases e
  | k + 1, n, a, p, hr, e => by
    simp only [dlo] at e
    obtain ⟨mo, h1, h2⟩ := hS.there hr
    rw [h1] at e
    cases mo with
    | lst ds =>
      dsimp only at e
      cases h : dps (dlo st k) ds with
      | none => rw [h] at e; cases e
      | some ps =>
        rw [h] at e
        cases e
        obtain ⟨xs, h3, h4⟩ := h2
        exact .lst (.inl (.inl h3)) (dps_ok hS.sub (dlo_ok hS k) ds xs ps h4 h)
    | _ => cases e
theorem dpS_ok (hS : RelS K m st H) {v : V} {d : D} {p : PyData} (r : RV K m v d) (e : dpS st d = some p) : Dp K H v p := dp_ok hS.sub (dlo_ok hS 3) d v p r e
end
section
variable {X : Cx}
def fEqD : F2 := fun st a b => match dpS st a, dpS st b with
  | some p, some q => if SeqAt.shaped p = true ∧ SeqAt.shaped q = true then some (.bl (PyData.eqv p q)) else none
  | _, _ => none
def fNeD : F2 := fun st a b => match dpS st a, dpS st b with
  | some p, some q => if SeqAt.shaped p = true ∧ SeqAt.shaped q = true then some (.bl (!PyData.eqv p q)) else none
  | _, _ => none
theorem o_eqD (hu : X.A.units + 64 < cLine) : OpR X (compareOp .Eq) (r2 X.K fEqD) := by
  intro pins s σ H x y v u Q I rx ry ⟨m, st, a, b, hS, ra, rb, hW⟩
  unfold fEqD at hW
  split at hW
  · rename_i p q hp hq
    by_cases hs : SeqAt.shaped p = true ∧ SeqAt.shaped q = true
    · rw [if_pos hs] at hW
      exact op_eqD hu pins s σ H x y v u Q I rx ry ⟨p, q, dpS_ok hS ra hp, dpS_ok hS rb hq, hs.1, hs.2, hW.sc hS (.bl _)⟩
    · rw [if_neg hs] at hW
      exact hW.none.elim
  · exact hW.none.elim
theorem o_neD (hu : X.A.units + 64 < cLine) : OpR X (compareOp .NotEq) (r2 X.K fNeD) := by
  intro pins s σ H x y v u Q I rx ry ⟨m, st, a, b, hS, ra, rb, hW⟩
  unfold fNeD at hW
  split at hW
  · rename_i p q hp hq
    by_cases hs : SeqAt.shaped p = true ∧ SeqAt.shaped q = true
    · rw [if_pos hs] at hW
      exact op_neD hu pins s σ H x y v u Q I rx ry ⟨p, q, dpS_ok hS ra hp, dpS_ok hS rb hq, hs.1, hs.2, hW.sc hS (.bl _)⟩
    · rw [if_neg hs] at hW
      exact hW.none.elim
  · exact hW.none.elim
/-- == of two texts, of data -/
def fEq : F2 := fun st a b => match a, b with
  | .str x, .str y => some (.bl (x == y))
  | a, b => fEqD st a b
def fNe : F2 := fun st a b => match a, b with
  | .str x, .str y => some (.bl (!(x == y)))
  | a, b => fNeD st a b
theorem o_eq (hu : X.A.units + 64 < cLine) : OpR X (compareOp .Eq) (r2 X.K fEq) := by
  intro pins s σ H x y v u Q I rx ry ⟨m, st, a, b, hS, ra, rb, hW⟩
  unfold fEq at hW
  split at hW
  · cases ra
    cases rb
    refine op_eq pins s σ H _ _ v u Q I rx ry ⟨rfl, ?_⟩
    rw [dec_str]
    exact hW.sc hS (.bl _)
  · exact o_eqD hu pins s σ H x y v u Q I rx ry ⟨m, st, _, _, hS, ra, rb, hW⟩
theorem o_ne (hu : X.A.units + 64 < cLine) : OpR X (compareOp .NotEq) (r2 X.K fNe) := by
  intro pins s σ H x y v u Q I rx ry ⟨m, st, a, b, hS, ra, rb, hW⟩
  unfold fNe at hW
  split at hW
  · cases ra
    cases rb
    refine op_ne pins s σ H _ _ v u Q I rx ry ⟨rfl, ?_⟩
    rw [dec_str]
    exact hW.sc hS (.bl _)
  · exact o_neD hu pins s σ H x y v u Q I rx ry ⟨m, st, _, _, hS, ra, rb, hW⟩
/-! is None -/
def isN : D → Bool
  | .non => true
  | _ => false
def fIsN : F2 := fun _ a b => match b with
  | .non => some (.bl (isN a))
  | _ => none
def fNoN : F2 := fun _ a b => match b with
  | .non => some (.bl (!isN a))
  | _ => none
theorem isN_ok {K : PySem.W.Frag} {m : Mw} {v : V} {a : D} (r : RV K m v a) : decide (v = .non) = isN a := by
  cases r <;> first | rfl | (simp [isN])
theorem o_isN : OpR X (compareOp .Is) (r2 X.K fIsN) := by
  intro pins s σ H x y v u Q I rx ry ⟨m, st, a, b, hS, ra, rb, hW⟩
  cases b with
  | non =>
    cases rb
    exact op_isN pins s σ H x _ v u Q I rx ry ⟨rfl, by rw [isN_ok ra]; exact hW.sc hS (.bl _)⟩
  | _ => exact hW.none.elim
theorem o_noN : OpR X (compareOp .IsNot) (r2 X.K fNoN) := by
  intro pins s σ H x y v u Q I rx ry ⟨m, st, a, b, hS, ra, rb, hW⟩
  cases b with
  | non =>
    cases rb
    exact op_notN pins s σ H x _ v u Q I rx ry ⟨rfl, by rw [isN_ok ra]; exact hW.sc hS (.bl _)⟩
  | _ => exact hW.none.elim
end

/-! ### repr -/
/-- the line of numbers that are written out -/
theorem TB_ex : ∃ t : Int, t = 2 ^ 1900 := ⟨_, rfl⟩
noncomputable def TB : Int := Classical.choose TB_ex
theorem TB_eq : TB = 2 ^ 1900 := Classical.choose_spec TB_ex
theorem TB_log {i : Int} (h : -TB < i ∧ i < TB) : i.natAbs.log2 < 1920 := by
  have e : TB = ((2 ^ 1900 : Nat) : Int) := by rw [TB_eq]; exact (Int.natCast_pow 2 1900).symm
  obtain ⟨h1, h2⟩ := h
  rw [e] at h1 h2
  have h3 : i.natAbs < 2 ^ 1900 := by omega
  by_cases h0 : i.natAbs = 0
  · rw [h0]; decide
  · exact Nat.lt_trans ((Nat.log2_lt h0).mpr h3) (by decide)
def istr (i : Int) : Str := toString i
def fRepr : FL := fun st ds => match ds with
  | [.int i] => if -TB < i ∧ i < TB then some (.str (istr i)) else none
  | [.tup xs] => (dpS st (.tup xs)).bind fun p => if p.showable = true ∧ p.canLay0 = true ∧ p.depth ≤ 60 ∧ p.shown.length ≤ 1000000 then some (.str p.shown) else none
  | [.lst xs] => (dpS st (.lst xs)).bind fun p => if p.showable = true ∧ p.canLay0 = true ∧ p.depth ≤ 60 ∧ p.shown.length ≤ 1000000 then some (.str p.shown) else none
  | [.loc n] => (dpS st (.loc n)).bind fun p => if p.showable = true ∧ p.canLay0 = true ∧ p.depth ≤ 60 ∧ p.shown.length ≤ 1000000 then some (.str p.shown) else none
  | _ => none
section
variable {X : Cx}
theorem RVs.one {K : PySem.W.Frag} {m : Mw} {vs : List V} {d : D} (h : RVs K m vs [d]) : ∃ v, vs = [v] ∧ RV K m v d := by
  cases h with
  | cons h1 h2 => cases h2; exact ⟨_, rfl, h1⟩
theorem RVs.two {K : PySem.W.Frag} {m : Mw} {vs : List V} {d e : D} (h : RVs K m vs [d, e]) : ∃ v u, vs = [v, u] ∧ RV K m v d ∧ RV K m u e := by
  cases h with
  | cons h1 h2 =>
    obtain ⟨u, rfl, h3⟩ := h2.one
    exact ⟨_, _, rfl, h1, h3⟩
theorem repr_deep (hg : X.A.guards = some []) (hu : X.A.units + 64 < cLine) {pins : List (Addr × Obj)} {s : Shared} {σ : L2.St} {H : Hp} {us : List Value} {Q : VK} {m : Mw} {st : Sto} {d : D} {v : V} (I : Inv X pins σ H s) (rv : Vals [v] us) (hS : RelS X.K m st H) (rd : RV X.K m v d)
    (ha : ∃ a, v = .ref a) (hW : Want X.K m H st ((dpS st d).bind fun p => if p.showable = true ∧ p.canLay0 = true ∧ p.depth ≤ 60 ∧ p.shown.length ≤ 1000000 then some (.str p.shown) else none) Q) :
    wpAny (model X.prog X.w) X.A (call (.builtin "repr") us) (EP X pins σ Q) X.xe s := by
  obtain ⟨a, rfl⟩ := ha
  cases h : dpS st d with
  | none => rw [h] at hW; exact hW.none.elim
  | some p =>
    rw [h] at hW
    simp only [Option.bind_some] at hW
    by_cases hc : p.showable = true ∧ p.canLay0 = true ∧ p.depth ≤ 60 ∧ p.shown.length ≤ 1000000
    · rw [if_pos hc] at hW
      cases rv with
      | cons r1 r2 =>
        cases r2
        obtain ⟨as, R⟩ := Dp.reads I p _ _ (dpS_ok hS rd h) r1
        cases r1
        exact repr_of_reads' R hc.1 (PyData.noDict_hsm (PyData.hasDict_of_canLay p hc.2.1)) hg (by omega) (fun _ _ e => e) (fun h' u tk hk => ⟨.str _, H, I.kept hk, ⟨_, rfl⟩, hW.sc hS (.str _)⟩)
          (Nat.le_trans hc.2.2.2 (by decide))
    · rw [if_neg hc] at hW
      exact hW.none.elim
theorem c_repr (hg : X.A.guards = some []) (hu : X.A.units + 64 < cLine) : CallR X (.builtin "repr") (rL X.K fRepr) := by
  intro pins s σ H xs us Q I rv ⟨m, st, as, hS, ra, hW⟩
  match as, ra, hW with
  | [.int i], ra, hW =>
    obtain ⟨v, rfl, r⟩ := ra.one
    cases r
    by_cases hb : -TB < i ∧ i < TB
    · simp only [fRepr, if_pos hb] at hW
      exact SkE.call_repr_int pins s σ H _ us Q I rv ⟨i, rfl, TB_log hb, hW.sc hS (.str _)⟩
    · simp only [fRepr, if_neg hb] at hW
      exact hW.none.elim
  | [.tup zs], ra, hW =>
    obtain ⟨v, rfl, r⟩ := ra.one
    exact repr_deep hg hu I rv hS r (by cases r; exact ⟨_, rfl⟩) hW
  | [.lst zs], ra, hW =>
    obtain ⟨v, rfl, r⟩ := ra.one
    exact repr_deep hg hu I rv hS r (by cases r; exact ⟨_, rfl⟩) hW
  | [.loc n], ra, hW =>
    obtain ⟨v, rfl, r⟩ := ra.one
    exact repr_deep hg hu I rv hS r (by cases r; exact ⟨_, rfl⟩) hW
  | [], _, hW => exact hW.none.elim
  | [.non], _, hW | [.bl _], _, hW | [.str _], _, hW | [.dct _], _, hW | [.fn _], _, hW => exact hW.none.elim
  | _ :: _ :: _, _, hW => exact (show False from by simp [fRepr, Want] at hW).elim
end

/-! ### built-in functions -/
def intsD : List D → Option (List Int)
  | [] => some []
  | .int i :: r => (intsD r).map (i :: ·)
  | _ => none
def blsD : List D → Option (List Bool)
  | [] => some []
  | .bl i :: r => (blsD r).map (i :: ·)
  | _ => none
def strsD : List D → Option (List Str)
  | [] => some []
  | .str i :: r => (strsD r).map (i :: ·)
  | _ => none
section
variable {K : PySem.W.Frag} {m : Mw}
theorem ints_ok : ∀ {ds : List D} {ns : List Int} {vs : List V}, intsD ds = some ns → RVs K m vs ds → vs = ns.map V.int
  | [], _, _, e, r => by cases e; cases r; rfl
  | .int i :: ds, ns, _, e, r => by
    simp only [intsD] at e
    cases h : intsD ds with
    | none => rw [h] at e; cases e
    | some ms =>
      rw [h] at e
      cases e
      cases r with
      | cons r1 r2 =>
        cases r1
        rw [ints_ok h r2]
        rfl
theorem bls_ok : ∀ {ds : List D} {ns : List Bool} {vs : List V}, blsD ds = some ns → RVs K m vs ds → vs = ns.map V.bl
  | [], _, _, e, r => by cases e; cases r; rfl
  | .bl i :: ds, ns, _, e, r => by
    simp only [blsD] at e
    cases h : blsD ds with
    | none => rw [h] at e; cases e
    | some ms =>
      rw [h] at e
      cases e
      cases r with
      | cons r1 r2 =>
        cases r1
        rw [bls_ok h r2]
        rfl
theorem strs_ok : ∀ {ds : List D} {ns : List Str} {vs : List V}, strsD ds = some ns → RVs K m vs ds → vs = ns.map V.str
  | [], _, _, e, r => by cases e; cases r; rfl
  | .str i :: ds, ns, _, e, r => by
    simp only [strsD] at e
    cases h : strsD ds with
    | none => rw [h] at e; cases e
    | some ms =>
      rw [h] at e
      cases e
      cases r with
      | cons r1 r2 =>
        cases r1
        rw [strs_ok h r2]
        rfl
end
/-- of one argument -/
def f1 (g : F1) : FL := fun st ds => match ds with
  | [a] => g st a
  | _ => none
def f22 (g : F2) : FL := fun st ds => match ds with
  | [a, b] => g st a b
  | _ => none
section
variable {X : Cx} {f : Value}
theorem c_1 {g : F1} {r : List V → Hp → VK → Prop} (c : CallR X f r) (h : ∀ m st H v a Q, RelS X.K m st H → RV X.K m v a → Want X.K m H st (g st a) Q → r [v] H Q) : CallR X f (rL X.K (f1 g)) := by
  intro pins s σ H xs us Q I rv ⟨m, st, as, hS, ra, hW⟩
  match as, ra, hW with
  | [a], ra, hW =>
    obtain ⟨v, rfl, r1⟩ := ra.one
    exact c pins s σ H _ us Q I rv (h m st H v a Q hS r1 hW)
  | [], _, hW => exact hW.none.elim
  | _ :: _ :: _, _, hW => exact hW.none.elim
theorem c_2 {g : F2} {r : List V → Hp → VK → Prop} (c : CallR X f r) (h : ∀ m st H v u a b Q, RelS X.K m st H → RV X.K m v a → RV X.K m u b → Want X.K m H st (g st a b) Q → r [v, u] H Q) : CallR X f (rL X.K (f22 g)) := by
  intro pins s σ H xs us Q I rv ⟨m, st, as, hS, ra, hW⟩
  match as, ra, hW with
  | [a, b], ra, hW =>
    obtain ⟨v, u, rfl, r1, r2⟩ := ra.two
    exact c pins s σ H _ us Q I rv (h m st H v u a b Q hS r1 r2 hW)
  | [], _, hW => exact hW.none.elim
  | [_], _, hW => exact hW.none.elim
  | _ :: _ :: _ :: _, _, hW => exact hW.none.elim
/-- one or the other function, whichever says something -/
def lOr (g h : FL) : FL := fun st a => match g st a with
  | some d => some d
  | none => h st a
theorem c_or {g h : FL} (o1 : CallR X f (rL X.K g)) (o2 : CallR X f (rL X.K h)) : CallR X f (rL X.K (lOr g h)) := by
  intro pins s σ H xs us Q I rv ⟨m, st, as, hS, ra, hW⟩
  unfold lOr at hW
  cases e : g st as with
  | some d =>
    rw [e] at hW
    exact o1 pins s σ H xs us Q I rv ⟨m, st, as, hS, ra, by rw [e]; exact hW⟩
  | none =>
    rw [e] at hW
    exact o2 pins s σ H xs us Q I rv ⟨m, st, as, hS, ra, hW⟩
def gLen : F1 := fun st a => match a with
  | .str x => if x.length ≤ 1000000 then some (.int x.length) else none
  | _ => (sq st a).map fun xs => .int xs.length
theorem len_sq {K : PySem.W.Frag} {m : Mw} {st : Sto} {H : Hp} {v : V} {a : D} {Q : VK} (hS : RelS K m st H) (r : RV K m v a) (hW : Want K m H st ((sq st a).map fun xs => .int xs.length) Q) : ∃ n, LenV K v H n ∧ Q (.int n) H := by
  cases h : sq st a with
  | none => rw [h] at hW; exact hW.none.elim
  | some ds =>
    rw [h] at hW
    obtain ⟨p, xs, rfl, hq, rv⟩ := sq_ok hS r h
    refine ⟨xs.length, ?_, ?_⟩
    · rcases hq with hq | hq
      · exact .inl ⟨xs, hq, rfl⟩
      · exact .inr ⟨xs, hq, rfl⟩
    · rw [rv.length]
      exact hW.sc hS (.int _)
theorem c_len : CallR X (.builtin "len") (rL X.K (f1 gLen)) := c_1 call_len fun m st H v a Q hS r hW => by
  cases a with
  | str x =>
    cases r
    by_cases hl : x.length ≤ 1000000
    · simp only [gLen, if_pos hl] at hW
      exact ⟨_, _, rfl, ⟨Nat.le_trans hl (by decide), rfl⟩, hW.sc hS (.int _)⟩
    · simp only [gLen, if_neg hl] at hW
      exact hW.none.elim
  | tup xs =>
    obtain ⟨n, h1, h2⟩ := len_sq hS r hW
    exact ⟨v, n, rfl, h1, h2⟩
  | lst xs =>
    obtain ⟨n, h1, h2⟩ := len_sq hS r hW
    exact ⟨v, n, rfl, h1, h2⟩
  | loc xs =>
    obtain ⟨n, h1, h2⟩ := len_sq hS r hW
    exact ⟨v, n, rfl, h1, h2⟩
  | _ => exact hW.none.elim
def gAbs : F1 := fun _ a => match a with
  | .int i => some (.int (if i < 0 then -i else i))
  | _ => none
theorem c_abs : CallR X (.builtin "abs") (rL X.K (f1 gAbs)) := c_1 call_abs fun m st H v a Q hS r hW => by
  cases a with
  | int i => cases r; exact ⟨i, rfl, hW.sc hS (.int _)⟩
  | _ => exact hW.none.elim
def gMax : F2 := fI2 fun i j => some (.int (if j > i then j else i))
def gMin : F2 := fI2 fun i j => some (.int (if j < i then j else i))
theorem c_max2 (hc : X.calm = true) : CallR X (.builtin "max") (rL X.K (f22 gMax)) := c_2 (call_max2 hc) fun m st H v u a b Q hS r1 r2 hW => by
  cases a with
  | int i =>
    cases b with
    | int j => cases r1; cases r2; exact ⟨i, j, rfl, hW.sc hS (.int _)⟩
    | _ => exact hW.none.elim
  | _ => cases b <;> exact hW.none.elim
theorem c_min2 (hc : X.calm = true) : CallR X (.builtin "min") (rL X.K (f22 gMin)) := c_2 (call_min2 hc) fun m st H v u a b Q hS r1 r2 hW => by
  cases a with
  | int i =>
    cases b with
    | int j => cases r1; cases r2; exact ⟨i, j, rfl, hW.sc hS (.int _)⟩
    | _ => exact hW.none.elim
  | _ => cases b <;> exact hW.none.elim
def gInt : F1 := fun _ a => match a with
  | .int i => some (.int i)
  | .bl b => some (.int (if b = true then 1 else 0))
  | _ => none
theorem c_int : CallR X (.type "int") (rL X.K (f1 gInt)) := c_1 call_int1 fun m st H v a Q hS r hW => by
  cases a with
  | int i => cases r; exact .inl ⟨i, rfl, hW.sc hS (.int _)⟩
  | bl b => cases r; exact .inr ⟨b, rfl, hW.sc hS (.int _)⟩
  | _ => exact hW.none.elim
def gIntS : F1 := fun _ a => match a with
  | .str x => if x.length ≤ 640 then (PySem.intText? x).map .int else none
  | _ => none
theorem c_intS : CallR X (.type "int") (rL X.K (f1 gIntS)) := c_1 call_int_str fun m st H v a Q hS r hW => by
  cases a with
  | str x =>
    cases r
    by_cases hl : x.length ≤ 640
    · simp only [gIntS, if_pos hl] at hW
      cases h : PySem.intText? x with
      | none => rw [h] at hW; exact hW.none.elim
      | some n => rw [h] at hW; exact ⟨x, n, rfl, h, hl, hW.sc hS (.int _)⟩
    · simp only [gIntS, if_neg hl] at hW
      exact hW.none.elim
  | _ => exact hW.none.elim
theorem c_intA : CallR X (.type "int") (rL X.K (lOr (f1 gInt) (f1 gIntS))) := c_or c_int c_intS
def gStrI : F1 := fun _ a => match a with
  | .int i => if -TB < i ∧ i < TB then some (.str (istr i)) else none
  | _ => none
theorem c_strI : CallR X (.type "str") (rL X.K (f1 gStrI)) := c_1 call_str_int fun m st H v a Q hS r hW => by
  cases a with
  | int i =>
    cases r
    by_cases hb : -TB < i ∧ i < TB
    · simp only [gStrI, if_pos hb] at hW
      exact ⟨i, rfl, TB_log hb, hW.sc hS (.str _)⟩
    · simp only [gStrI, if_neg hb] at hW
      exact hW.none.elim
  | _ => exact hW.none.elim
def gTup : F1 := fun st a => match a with
  | .tup xs => some (.tup xs)
  | _ => (sqL st a).map .tup
theorem c_tup : CallR X (.type "tuple") (rL X.K (f1 gTup)) := c_1 call_tuple_of fun m st H v a Q hS r hW => by
  have key : (h : Want X.K m H st ((sqL st a).map .tup) Q) → ∃ p ys, [v] = [V.ref p] ∧ ((SqL X.K H p ys ∧ ∀ l, H l = none → Q (.ref l) (upd H l (.tup ys))) ∨ (SqT X.K H p ys ∧ Q (.ref p) H)) := fun hW => by
    cases h : sqL st a with
    | none => rw [h] at hW; exact hW.none.elim
    | some ds =>
      rw [h] at hW
      obtain ⟨p, xs, rfl, hq, rv⟩ := sqL_ok hS r h
      exact ⟨p, xs, rfl, .inl ⟨hq, fun l hl => hW.tup hS rv hl⟩⟩
  cases a with
  | tup ds =>
    cases r with
    | tup h1 h2 => exact ⟨_, _, rfl, .inr ⟨sqT_mono hS.sub h1, hW.sc hS (.tup h1 h2)⟩⟩
  | lst xs => exact key hW
  | loc xs => exact key hW
  | _ => exact hW.none.elim
def gLst : F1 := fun st a => (sq st a).map .lst
theorem c_lst : CallR X (.type "list") (rL X.K (f1 gLst)) := c_1 call_list_of fun m st H v a Q hS r hW => by
  unfold gLst at hW
  cases h : sq st a with
  | none => rw [h] at hW; exact hW.none.elim
  | some ds =>
    rw [h] at hW
    obtain ⟨p, xs, rfl, hq, rv⟩ := sq_ok hS r h
    exact ⟨p, xs, rfl, hq, fun l hl => hW.lst hS rv hl⟩
def gSum : F1 := fun st a => ((sqL st a).bind intsD).map fun ns => .int ns.sum
theorem c_sum (hc : X.calm = true) : CallR X (.builtin "sum") (rL X.K (f1 gSum)) := c_1 (cr_sum hc) fun m st H v a Q hS r hW => by
  unfold gSum at hW
  cases h : sqL st a with
  | none => rw [h] at hW; exact hW.none.elim
  | some ds =>
    rw [h] at hW
    simp only [Option.bind_some] at hW
    cases h' : intsD ds with
    | none => rw [h'] at hW; exact hW.none.elim
    | some ns =>
      rw [h'] at hW
      obtain ⟨p, xs, rfl, hq, rv⟩ := sqL_ok hS r h
      rw [ints_ok h' rv] at hq
      exact ⟨p, ns, rfl, hq, hW.sc hS (.int _)⟩
def gAll : F1 := fun st a => ((sqL st a).bind blsD).map fun ns => .bl (ns.all id)
theorem c_all (hc : X.calm = true) : CallR X (.builtin "all") (rL X.K (f1 gAll)) := c_1 (cr_all hc) fun m st H v a Q hS r hW => by
  unfold gAll at hW
  cases h : sqL st a with
  | none => rw [h] at hW; exact hW.none.elim
  | some ds =>
    rw [h] at hW
    simp only [Option.bind_some] at hW
    cases h' : blsD ds with
    | none => rw [h'] at hW; exact hW.none.elim
    | some ns =>
      rw [h'] at hW
      obtain ⟨p, xs, rfl, hq, rv⟩ := sqL_ok hS r h
      rw [bls_ok h' rv] at hq
      exact ⟨p, ns, rfl, hq, hW.sc hS (.bl _)⟩
def gMaxL : F1 := fun st a => ((sqL st a).bind intsD).bind fun ns => ns.max?.map .int
theorem c_maxL (hc : X.calm = true) : CallR X (.builtin "max") (rL X.K (f1 gMaxL)) := c_1 (cr_max hc) fun m st H v a Q hS r hW => by
  unfold gMaxL at hW
  cases h : sqL st a with
  | none => rw [h] at hW; exact hW.none.elim
  | some ds =>
    rw [h] at hW
    simp only [Option.bind_some] at hW
    cases h' : intsD ds with
    | none => rw [h'] at hW; exact hW.none.elim
    | some ns =>
      rw [h'] at hW
      simp only [Option.bind_some] at hW
      cases h2 : ns.max? with
      | none => rw [h2] at hW; exact hW.none.elim
      | some M =>
        rw [h2] at hW
        obtain ⟨p, xs, rfl, hq, rv⟩ := sqL_ok hS r h
        rw [ints_ok h' rv] at hq
        obtain ⟨k1, k2⟩ := List.max?_eq_some_iff.mp h2
        refine ⟨p, ns, rfl, hq, List.length_pos_of_mem k1, fun m' h1 h2 => ?_⟩
        have : m' = M := Int.le_antisymm (k2 _ h1) (h2 _ k1)
        rw [this]
        exact hW.sc hS (.int _)
end

/-! ### isinstance -/
def tyN (st : Sto) : D → Option String
  | .non => some "NoneType"
  | .bl _ => some "bool"
  | .int _ => some "int"
  | .str _ => some "str"
  | .tup _ => some "tuple"
  | _ => none
def gIsi (T : String) : F1 := fun st a => (tyN st a).bind fun t => (kitB t T).map .bl
section
variable {X : Cx} {W : WX} {e : Expr} {fa : FE} {x : Str} {T : String} {pf pt pos : Pos}
theorem tyN_ok {K : PySem.W.Frag} {m : Mw} {st : Sto} {H : Hp} {v : V} {a : D} {t : String} (hS : RelS K m st H) (r : RV K m v a) (h : tyN st a = some t) : TyX K H v (.type t) := by
  cases a with
  | non => cases r; cases h; exact .base .non
  | bl b => cases r; cases h; exact .base (.bl b)
  | int b => cases r; cases h; exact .base (.int b)
  | str b => cases r; cases h; exact .base (.str b)
  | tup ds =>
    cases h
    cases r with
    | tup h1 h2 =>
      rcases sqT_mono hS.sub h1 with (q | q) | q
      · exact .base (.tup q)
      · obtain ⟨o, q⟩ := q
        exact .fTuple q
      · obtain ⟨o, its, n, e, c, _⟩ := q
        exact .kTuple e c
  | _ => cases h
theorem me_isi (he : ME X W e fa) (hm1 : X.mg "isinstance" = none) (hm2 : X.mg x = none) (hg1 : Gl X "isinstance" := by rfl) (hg2 : Gl X x := by rfl) (hv : bootBuiltins x = some (.type T) := by rfl) (hn : x ≠ "__name__" := by decide) (hd : (x == ("__debug__" : Str)) = false := by decide)
    (hs : starEach [e, .Name x pt] X.env = (false, eval e X.env) :: starEach [.Name x pt] X.env := by rfl) (hs2 : starEach [.Name x pt] X.env = (false, eval (.Name x pt) X.env) :: starEach [] X.env := by rfl) (hpl : (backTo pos (starEach [.Name x pt] X.env)).any (·.1) = false := by rfl) :
    ME X W (.Call (.Name "isinstance" pf) [e, .Name x pt] [] pos) (e1 (gIsi T) fa) := by
  refine pe_wk (pe_callB call_isi hg1 hm1 (by rfl) (pa_cons he (pa_cons (pe_bltn (v := .ty T) hg2 hm2 hv rfl hn hd) pa_nil hs2) hs) (by decide) (by decide) hs hpl) ?_
  rintro σ H Q ⟨m, env, st, hE, hS, h⟩
  refine ⟨m, env, st, hE, hS, h.bind.imp fun d m1 st1 H1 x1 s1 h1 v rv => ?_⟩
  show rIsi X.K [v, .ty T] H1 Q
  have hW := Want.of_fin h1
  unfold gIsi at hW
  cases h2 : tyN st1 d with
  | none => rw [h2] at hW; exact hW.none.elim
  | some t =>
    rw [h2] at hW
    simp only [Option.bind_some] at hW
    cases h3 : kitB t T with
    | none => rw [h3] at hW; exact hW.none.elim
    | some b =>
      rw [h3] at hW
      exact ⟨v, .ty T, _, _, b, rfl, .ty T, tyN_ok s1 rv h2, kit_ty h3, hW.sc s1 (.bl b)⟩
end
end
end MM
set_option Elab.async false
set_option linter.all false
set_option autoImplicit false
set_option maxRecDepth 100000
set_option maxHeartbeats 2000000
/-! M9: methods, subscripts, stores of items, f-strings, enumerate and zip as sources. -/
namespace MM
noncomputable section
open PySem PySem.Spec PyProof.Rows L2

/-! ### subscripts -/
def gIx : F2 := fun st a b => match a, b with
  | .str x, .int i => if x.length ≤ 1000000 then (atI x.cps.toList i).map fun c => .str ⟨#[c]⟩ else none
  | _, .int i => (sq st a).bind fun xs => atI xs i
  | _, _ => none
section
variable {X : Cx}
theorem RVs.atI {K : PySem.W.Frag} {m : Mw} {vs : List V} {ds : List D} {i : Int} {d : D} (r : RVs K m vs ds) (h : L2.atI ds i = some d) : ∃ v, L2.atI vs i = some v ∧ RV K m v d := by
  unfold L2.atI at h ⊢
  rw [r.length]
  cases e : ixN ds.length i with
  | none => rw [e] at h; cases h
  | some j =>
    rw [e] at h
    exact r.get h
theorem x_ix : IxR X (r2 X.K gIx) := by
  intro value slice pins s σ H x y v u Q I rx ry ⟨m, st, a, b, hS, ra, rb, hW⟩ hs
  have key : ∀ i, b = .int i → Want X.K m H st ((sq st a).bind fun xs => atI xs i) Q → rIx X.K x y H Q := fun i hb hK => by
    subst hb
    cases rb
    cases h : sq st a with
    | none => rw [h] at hK; exact hK.none.elim
    | some ds =>
      rw [h] at hK
      simp only [Option.bind_some] at hK
      cases h2 : atI ds i with
      | none => rw [h2] at hK; exact hK.none.elim
      | some d =>
        rw [h2] at hK
        obtain ⟨p, xs, rfl, hq, rv⟩ := sq_ok hS ra h
        obtain ⟨w, h3, h4⟩ := rv.atI h2
        rcases hq with hq | hq
        · exact .inl ⟨p, xs, i, w, rfl, rfl, hq, h3, hK.sc hS h4⟩
        · exact .inr (.inl ⟨p, xs, i, w, rfl, rfl, hq, h3, hK.sc hS h4⟩)
  refine ix_seq value slice pins s σ H x y v u Q I rx ry ?_ hs
  cases b with
  | int i =>
    cases a with
    | str z =>
      cases ra
      cases rb
      by_cases hl : z.length ≤ 1000000
      · simp only [gIx, if_pos hl] at hW
        cases h2 : atI z.cps.toList i with
        | none => rw [h2] at hW; exact hW.none.elim
        | some c =>
          rw [h2] at hW
          exact .inr (.inr ⟨z, i, c, rfl, rfl, Nat.le_trans hl (by decide), h2, hW.sc hS (.str _)⟩)
      · simp only [gIx, if_neg hl] at hW
        exact hW.none.elim
    | _ => exact key i rfl hW
  | _ => cases a <;> exact hW.none.elim
end

/-! ### slices -/
def cutD (xs : List D) (lo hi : Option Int) : List D := (xs.drop (HT.sIx xs.length 0 lo)).take (HT.sIx xs.length xs.length hi - HT.sIx xs.length 0 lo)
def gSl : FS := fun st a lo hi => match a with
  | .tup xs => some (.tup (cutD xs lo hi))
  | .str x => if x.length ≤ 1000000 then some (.str (cutS x lo hi)) else none
  | _ => (sqL st a).map fun xs => .lst (cutD xs lo hi)
section
variable {X : Cx}
theorem RVs.cutD {K : PySem.W.Frag} {m : Mw} {vs : List V} {ds : List D} (lo hi : Option Int) (r : RVs K m vs ds) : RVs K m (cutV vs lo hi) (MM.cutD ds lo hi) := by
  unfold cutV MM.cutD
  rw [r.length]
  exact (r.drop _).take _
theorem cut_whole {α : Type} {xs : List α} {lo hi : Option Int} (h : HT.sIx xs.length 0 lo = 0 ∧ HT.sIx xs.length xs.length hi = xs.length) : (xs.drop (HT.sIx xs.length 0 lo)).take (HT.sIx xs.length xs.length hi - HT.sIx xs.length 0 lo) = xs := by
  rw [h.1, h.2]
  simp
theorem x_sl : SlR X (rS X.K gSl) := by
  intro pins s σ H x v vl vu lo hi sl Q I rx hs pl pu ⟨m, st, a, hS, ra, hW⟩
  have key : Want X.K m H st ((sqL st a).map fun xs => .lst (cutD xs lo hi)) Q → rSlL X.K x lo hi H Q := fun hW => by
    cases h : sqL st a with
    | none => rw [h] at hW; exact hW.none.elim
    | some ds =>
      rw [h] at hW
      obtain ⟨p, xs, rfl, hq, rv⟩ := sqL_ok hS ra h
      exact ⟨p, xs, rfl, hq, fun q hq => hW.lst hS (rv.cutD lo hi) hq⟩
  cases a with
  | tup ds =>
    cases ra with
    | @tup c xs _ h1 h2 =>
      refine sl_tupA pins s σ H _ v vl vu lo hi sl Q I rx hs pl pu ⟨c, xs, rfl, sqT_mono hS.sub h1, fun hw => ?_, fun hw p hp => hW.tup hS (h2.cutD lo hi) hp⟩
      refine hW.sc hS ?_
      have e : cutD ds lo hi = ds := cut_whole (by rw [← h2.length]; exact hw)
      rw [e]
      exact .tup h1 h2
  | str z =>
    cases ra
    by_cases hl : z.length ≤ 1000000
    · simp only [gSl, if_pos hl] at hW
      exact sl_str pins s σ H _ v vl vu lo hi sl Q I rx hs pl pu ⟨z, rfl, Nat.le_trans hl (by decide), hW.sc hS (.str _)⟩
    · simp only [gSl, if_neg hl] at hW
      exact hW.none.elim
  | lst ds => exact sl_list pins s σ H x v vl vu lo hi sl Q I rx hs pl pu (key hW)
  | loc n => exact sl_list pins s σ H x v vl vu lo hi sl Q I rx hs pl pu (key hW)
  | _ => exact hW.none.elim
end

/-! ### o[i] = v -/
def gI (o i : FE) : GE := fun d env st => (o env st).bind fun x s1 => (i env s1).bind fun y s2 => match x, y with
  | .loc n, .int k => match s2[n]? with
    | some (.lst xs) => match ixN xs.length k with
      | some j => .ok env (s2.set n (.lst (xs.set j d)))
      | none => .no
    | _ => .no
  | _, _ => .no
section
variable {X : Cx} {W : WX} {o i : Expr} {fo fi : FE} {pos : Pos}
theorem mg_i (ho : ME X W o fo) (hi : ME X W i fi)
    (ha : ∀ v, assign (.Subscript o i pos) X.env v = (do
      let ov ← holding [v] (eval o X.env)
      let iv ← holding [v, ov] (eval i X.env)
      standAt pos
      holding [v, ov, iv] (setItem ov iv v)
      release [v, ov, iv] []) := by intro _; rfl) : MG X W (.Subscript o i pos) (gI fo fi) := by
  refine pg_wk (pg_sub ho hi set_list ha) ?_
  rintro v σ H Q ⟨m, env, st, d, hE, hS, rv, h⟩
  refine ⟨m, env, st, hE, hS, h.bind.imp fun x m1 st1 H1 x1 s1 h1 ov ro => ?_⟩
  refine ⟨m1, env, st1, hE.mono x1.ext, s1, h1.bind.imp fun y m2 st2 H2 x2 s2 h2 iv ri => ?_⟩
  cases x with
  | loc n =>
    cases y with
    | int k =>
      dsimp only at h2
      cases e : st2[n]? with
      | none => rw [e] at h2; exact h2.elim
      | some mo =>
        rw [e] at h2
        cases mo with
        | lst xs =>
          dsimp only at h2
          cases e2 : ixN xs.length k with
          | none => rw [e2] at h2; exact h2.elim
          | some j =>
            rw [e2] at h2
            have ro2 := ro.mono x2.ext
            cases ro2 with
            | @loc p _ hp =>
              cases ri
              obtain ⟨mo', g1, g2⟩ := s2.there hp
              rw [e] at g1
              cases g1
              obtain ⟨vs, g3, g4⟩ := g2
              refine ⟨p, vs, k, j, rfl, rfl, g3, by rw [g4.length]; exact e2, ?_⟩
              have rv2 := ((rv.mono x1.ext).mono x2.ext)
              have s3 := s2.write (o := .lst (vs.set j v)) (mo := .lst (xs.set j d)) hp ⟨_, upd_same, g4.set rv2 j⟩
              exact h2 m2 _ (Ex.write (List.mem_of_getElem? hp)) s3 σ ((hE.mono x1.ext).mono x2.ext)
        | _ => exact h2.elim
    | _ => exact h2.elim
  | _ => cases y <;> exact h2.elim
end

/-! ### methods of lists -/
/-- a method that rewrites the list: o.m(e) -/
def eLm (g : Sto → List D → List D → Option (D × List D)) (o : FE) (a : FA) : FE := fun env st => (o env st).bind fun x s1 => match x with
  | .loc n => match s1[n]? with
    | some (.lst _) => (a env s1).bind fun as s2 => match s2[n]? with
      | some (.lst xs) => match g s2 xs as with
        | some (d, ys) => .ok d (s2.set n (.lst ys))
        | none => .no
      | _ => .no
    | _ => .no
  | _ => .no
def rLm (K : PySem.W.Frag) (g : Sto → List D → List D → Option (D × List D)) : V → List V → Hp → VK → Prop := fun x vs H Q => ∃ m st n xs as ys d, RelS K m st H ∧ RV K m x (.loc n) ∧ st[n]? = some (.lst xs) ∧ RVs K m vs as ∧ g st xs as = some (d, ys) ∧
  ∀ m' H' v, Ex m H m' H' → RelS K m' (st.set n (.lst ys)) H' → RV K m' v d → Q v H'
section
variable {X : Cx} {W : WX} {o e : Expr} {es : List Expr} {fo : FE} {fa : FA} {name : Str} {id : String} {apos cpos : Pos} {g : Sto → List D → List D → Option (D × List D)}
theorem to_lm {t : TA} (ht : ∀ σ H Q, tA X.K W fa σ H Q → t σ H Q) : ∀ σ H Q, tE X.K W (eLm g fo fa) σ H Q → tBM X.K "list" (rLm X.K g) (tE X.K W fo) t σ H Q := by
  rintro σ H Q ⟨m, env, st, hE, hS, h⟩
  refine ⟨m, env, st, hE, hS, h.bind.imp fun x m1 st1 H1 x1 s1 h1 v rv => ?_⟩
  cases x with
  | loc n =>
    dsimp only at h1
    cases e : st1[n]? with
    | none => rw [e] at h1; exact h1.elim
    | some mo =>
      rw [e] at h1
      cases mo with
      | lst zs =>
        dsimp only at h1
        cases rv with
        | @loc p _ hp =>
          refine ⟨?_, ht _ _ _ ⟨m1, env, st1, hE.mono x1.ext, s1, h1.bind.imp fun as m2 st2 H2 x2 s2 h2 vs rvs => ?_⟩⟩
          · obtain ⟨mo', g1, g2⟩ := s1.there hp
            rw [e] at g1
            cases g1
            obtain ⟨xs, g3, _⟩ := g2
            exact .inl ⟨rfl, xs, .inl (.inl g3)⟩
          · cases e2 : st2[n]? with
            | none => rw [e2] at h2; exact h2.elim
            | some mo =>
              rw [e2] at h2
              cases mo with
              | lst xs =>
                dsimp only at h2
                cases e3 : g st2 xs as with
                | none => rw [e3] at h2; exact h2.elim
                | some q =>
                  obtain ⟨d, ys⟩ := q
                  rw [e3] at h2
                  exact ⟨m2, st2, n, xs, as, ys, d, s2, .loc (x2.ext.at hp), e2, rvs, e3, fun m' H' v e s r => h2 m' H' e s v r⟩
              | _ => exact h2.elim
      | _ => exact h1.elim
  | _ => exact h1.elim
theorem me_lm (slot : Slot "list" name id) (hty : typeOf (.builtin id) = pure (.type "method_descriptor")) (hm : MtR X id (rLm X.K g)) (ho : ME X W o fo) (ha : MA X W (e :: es) fa)
    (hbase : attributeBase o name X.env (eval o X.env) = eval o X.env := by rfl)
    (hfew : ((backTo cpos (starEach (e :: es) X.env)).all (fun x => !x.1) && (backToKw cpos (keywordEach [] X.env)).all (fun x => x.1.isSome)
      && decide ((e :: es).length + ([] : List Keyword).length + (if ([] : List Keyword).isEmpty then 0 else 1) < 30)) = true := by rfl)
    (hline : (apos.endLine == cpos.line) = true := by rfl) (hs : starEach (e :: es) X.env = (false, eval e X.env) :: starEach es X.env := by rfl) (hplain : (backTo cpos (starEach es X.env)).any (·.1) = false := by rfl) :
    ME X W (.Call (.Attribute o name apos) (e :: es) [] cpos) (eLm g fo fa) := pe_wk (pe_bm F.plainAttrs_list slot hty hm ho ha hbase hfew hline hs hplain) (to_lm fun _ _ _ h => h)
def gApp : Sto → List D → List D → Option (D × List D) := fun _ xs as => match as with
  | [d] => if xs.length < 1000000 then some (.non, xs ++ [d]) else none
  | _ => none
theorem m_app : MtR X "list.append" (rLm X.K gApp) := by
  intro pins s σ H x vs v us Q I rx rv ⟨m, st, n, xs, as, ys, d, hS, rx', e, ra, hg, k⟩
  match as, ra, hg with
  | [a], ra, hg =>
    obtain ⟨w, rfl, ra1⟩ := ra.one
    by_cases hl : xs.length < 1000000
    · simp only [gApp, if_pos hl] at hg
      cases hg
      cases rx' with
      | @loc p _ hp =>
        obtain ⟨mo', g1, g2⟩ := hS.there hp
        rw [e] at g1
        cases g1
        obtain ⟨zs, g3, g4⟩ := g2
        refine mt_append pins s σ H _ _ v us Q I rx rv ⟨p, zs, w, rfl, rfl, g3, ?_, ?_⟩
        · rw [g4.length]; exact Nat.lt_of_lt_of_le hl (by decide)
        · exact k m _ _ (Ex.write (List.mem_of_getElem? hp)) (hS.write (o := .lst (zs ++ [w])) (mo := .lst (xs ++ [a])) hp ⟨_, upd_same, g4.append (.cons ra1 .nil)⟩) .non
    · simp only [gApp, if_neg hl] at hg
      cases hg
  | [], _, hg => cases hg
  | _ :: _ :: _, _, hg => cases hg
theorem me_app (ho : ME X W o fo) (ha : MA X W [e] fa)
    (hbase : attributeBase o "append" X.env (eval o X.env) = eval o X.env := by rfl)
    (hfew : ((backTo cpos (starEach [e] X.env)).all (fun x => !x.1) && (backToKw cpos (keywordEach [] X.env)).all (fun x => x.1.isSome)
      && decide ([e].length + ([] : List Keyword).length + (if ([] : List Keyword).isEmpty then 0 else 1) < 30)) = true := by rfl)
    (hline : (apos.endLine == cpos.line) = true := by rfl) (hs : starEach [e] X.env = (false, eval e X.env) :: starEach [] X.env := by rfl) (hplain : (backTo cpos (starEach [] X.env)).any (·.1) = false := by rfl) :
    ME X W (.Call (.Attribute o "append" apos) [e] [] cpos) (eLm gApp fo fa) := me_lm F.slot_list_append F.type_list_append m_app ho ha hbase hfew hline hs hplain
/-! extend -/
theorem extend_slots (l : Addr) (items : Array Value) (n : Nat) (b : Addr) (items2 : Array Value) (n2 : Nat) (sl : Array (Option Value)) (hc0 : ¬(!items.isEmpty && Builtin.List.listTooLong (items.size + items2.size)) = true) (hc1 : items.size ≤ sizeLine) (hs2 : items.size + items2.size ≤ sizeLine + 1) :
    Meets (Builtin.«list.extend» ⟨[.ref l, .ref b], []⟩) (fun _ R s => s.heap.get? l = some { cls := .type "list", dict := none, data := .seq items n, slots := #[] } ∧ s.heap.get? b = some { cls := .type "list", dict := none, data := .seq items2 n2, slots := sl } ∧ R (.ok (.ret Value.none)) { s with heap := s.heap.update l (Obj.mapSeq fun x => x ++ items2), toks := s.toks }) :=
  .of_wp fun prog w A R s h => by
    obtain ⟨hp, g, d, tk, os⟩ := s; obtain ⟨hl, hb, h⟩ := h; have f1 := AutoSeq1.idx_int; have f2 := AutoSeq1.sub_tuple_tuple; have f3 := AutoSeq1.sub_list_list; have f4 := AutoSeq1.sub_tuple_list; have f5 := AutoSeq1.sub_list_tuple;
    have hz' : (items ++ items2).size ≤ sizeLine + 1 := by rw [Array.size_append]; exact hs2
    wp_walk using (wpAny_updateSeq hl rfl (hz := hc1) (_hz' := hz')), AutoSeq1.wpAny_loadPart' hl, AutoSeq1.wpAny_loadPart' hb; exact ⟨_, rfl, h⟩
def rExtL (K : PySem.W.Frag) : V → List V → Hp → VK → Prop := fun x vs H Q => ∃ l b xs zs, x = .ref l ∧ vs = [.ref b] ∧ H l = some (.lst xs) ∧ SqL K H b zs ∧ xs.length + zs.length ≤ sizeLine ∧ Q .non (upd H l (.lst (xs ++ zs)))
theorem mt_extL : MtR X "list.extend" (rExtL X.K) := by
  intro pins s σ H x vs v us Q I rx rv h
  obtain ⟨l, b, xs, zs, rfl, rfl, hH, hB, hz, q⟩ := h
  cases rx
  obtain ⟨u, rfl, ru⟩ := rv.one
  cases ru
  obtain ⟨z, its, n, r, hl, e⟩ := I.lstM hH
  obtain ⟨its2, r2, ⟨⟨oc, od, odt, osl⟩, n2, e2, c2, d2, e3⟩, z2⟩ := I.list hB
  simp only at c2 d2 e3
  subst c2 d2 e3
  have hl2 := r2.length
  have hsz : its.toArray.size + its2.toArray.size ≤ sizeLine := by rw [List.size_toArray, List.size_toArray]; omega
  have hlong : ¬ (!its.toArray.isEmpty && Builtin.List.listTooLong (its.toArray.size + its2.toArray.size)) = true := by
    rw [notLongL hsz, Bool.and_false]
    exact Bool.false_ne_true
  refine call_meets F.slot_list_extend ⟨_, e, rfl⟩ F.entry_list_extend (F.args_list_extend_2 _ _)
    (extend_slots l its.toArray n b its2.toArray n2 osl hlong (by rw [List.size_toArray]; omega) (by omega)) ⟨e, e2, ?_⟩
  refine ⟨.non, _, I.lset (its' := its ++ its2) hH e (by simp) (r.append r2) ?_, rfl, q⟩
  rw [List.length_append]
  omega
def gExt : Sto → List D → List D → Option (D × List D) := fun st xs as => match as with
  | [a] => (sqL st a).bind fun zs => if xs.length + zs.length ≤ 1000000 then some (.non, xs ++ zs) else none
  | _ => none
theorem m_ext : MtR X "list.extend" (rLm X.K gExt) := by
  intro pins s σ H x vs v us Q I rx rv ⟨m, st, n, xs, as, ys, d, hS, rx', e, ra, hg, k⟩
  match as, ra, hg with
  | [a], ra, hg =>
    obtain ⟨w, rfl, ra1⟩ := ra.one
    simp only [gExt] at hg
    cases h : sqL st a with
    | none => rw [h] at hg; cases hg
    | some ds =>
      rw [h] at hg
      simp only [Option.bind_some] at hg
      by_cases hl : xs.length + ds.length ≤ 1000000
      · rw [if_pos hl] at hg
        cases hg
        obtain ⟨b, ws, rfl, hq, rw'⟩ := sqL_ok hS ra1 h
        cases rx' with
        | @loc p _ hp =>
          obtain ⟨mo', g1, g2⟩ := hS.there hp
          rw [e] at g1
          cases g1
          obtain ⟨zs, g3, g4⟩ := g2
          refine mt_extL pins s σ H _ _ v us Q I rx rv ⟨p, b, zs, ws, rfl, rfl, g3, hq, ?_, ?_⟩
          · rw [g4.length, rw'.length]; exact Nat.le_trans hl (by decide)
          · exact k m _ _ (Ex.write (List.mem_of_getElem? hp)) (hS.write (o := .lst (zs ++ ws)) (mo := .lst (xs ++ ds)) hp ⟨_, upd_same, g4.append rw'⟩) .non
      · rw [if_neg hl] at hg
        cases hg
  | [], _, hg => cases hg
  | _ :: _ :: _, _, hg => cases hg
theorem me_ext (ho : ME X W o fo) (ha : MA X W [e] fa)
    (hbase : attributeBase o "extend" X.env (eval o X.env) = eval o X.env := by rfl)
    (hfew : ((backTo cpos (starEach [e] X.env)).all (fun x => !x.1) && (backToKw cpos (keywordEach [] X.env)).all (fun x => x.1.isSome)
      && decide ([e].length + ([] : List Keyword).length + (if ([] : List Keyword).isEmpty then 0 else 1) < 30)) = true := by rfl)
    (hline : (apos.endLine == cpos.line) = true := by rfl) (hs : starEach [e] X.env = (false, eval e X.env) :: starEach [] X.env := by rfl) (hplain : (backTo cpos (starEach [] X.env)).any (·.1) = false := by rfl) :
    ME X W (.Call (.Attribute o "extend" apos) [e] [] cpos) (eLm gExt fo fa) := me_lm F.slot_list_extend F.type_list_extend m_ext ho ha hbase hfew hline hs hplain
end

/-! ### texts -/
/-- o.m(e) of a text and a datum -/
def eS1 (g : F2) (o a : FE) : FE := fun env st => (o env st).bind fun x s1 => match x with
  | .str z => (a env s1).bind fun y s2 => Rs.val (g s2 (.str z) y) s2
  | _ => .no
def rS1 (K : PySem.W.Frag) (g : F2) : V → List V → Hp → VK → Prop := fun x vs H Q => ∃ m st a y b, RelS K m st H ∧ x = .str a ∧ vs = [y] ∧ RV K m y b ∧ Want K m H st (g st (.str a) b) Q
section
variable {X : Cx} {W : WX} {o e : Expr} {fo fa : FE} {apos pos : Pos} {g : F2}
theorem to_s1 : ∀ σ H Q, tE X.K W (eS1 g fo fa) σ H Q → tM1 (rS1 X.K g) (tE X.K W fo) (tE X.K W fa) σ H Q := by
  rintro σ H Q ⟨m, env, st, hE, hS, h⟩
  refine ⟨m, env, st, hE, hS, h.bind.imp fun x m1 st1 H1 x1 s1 h1 v rv => ?_⟩
  cases x with
  | str z =>
    cases rv
    refine ⟨⟨z, rfl⟩, m1, env, st1, hE.mono x1.ext, s1, h1.bind.imp fun y m2 st2 H2 x2 s2 h2 w rw' => ?_⟩
    exact ⟨m2, st2, z, w, y, s2, rfl, rfl, rw', .of_fin h2⟩
  | _ => exact h1.elim
def gSplit : F2 := fun _ a b => match a, b with
  | .str x, .str y => if (y.length == 0) = false ∧ x.length ≤ 1000000 then some (.lst ((Txt.split x y).map .str)) else none
  | _, _ => none
theorem RVs.strs {K : PySem.W.Frag} {m : Mw} : ∀ xs : List Str, RVs K m (xs.map V.str) (xs.map D.str)
  | [] => .nil
  | x :: xs => .cons (.str x) (RVs.strs xs)
theorem m_split : MtR X "str.split" (rS1 X.K gSplit) := by
  intro pins s σ H x vs v us Q I rx rv ⟨m, st, a, y, b, hS, ex, ev, rb, hW⟩
  subst ex ev
  cases b with
  | str z =>
    cases rb
    by_cases hl : (z.length == 0) = false ∧ a.length ≤ 1000000
    · simp only [gSplit, if_pos hl] at hW
      exact mt_split pins s σ H _ _ v us Q I rx rv ⟨a, z, rfl, rfl, hl.1, Nat.le_trans (Nat.add_le_add_right hl.2 2) (by decide), fun p hp => hW.lst hS (RVs.strs _) hp⟩
    · simp only [gSplit, if_neg hl] at hW
      exact hW.none.elim
  | _ => exact hW.none.elim
def gJoin : F2 := fun st a b => match a with
  | .str x => ((sq st b).bind strsD).bind fun ys => if (ys.map (·.length)).sum + ys.length * x.length ≤ 16777216 then some (.str (Txt.join x ys)) else none
  | _ => none
theorem m_join : MtR X "str.join" (rS1 X.K gJoin) := by
  intro pins s σ H x vs v us Q I rx rv ⟨m, st, a, y, b, hS, ex, ev, rb, hW⟩
  subst ex ev
  simp only [gJoin] at hW
  cases h : sq st b with
  | none => rw [h] at hW; exact hW.none.elim
  | some ds =>
    rw [h] at hW
    simp only [Option.bind_some] at hW
    cases h2 : strsD ds with
    | none => rw [h2] at hW; exact hW.none.elim
    | some ys =>
      rw [h2] at hW
      simp only [Option.bind_some] at hW
      by_cases hl : (ys.map (·.length)).sum + ys.length * a.length ≤ 16777216
      · rw [if_pos hl] at hW
        obtain ⟨p, xs, rfl, hq, rv'⟩ := sq_ok hS rb h
        rw [strs_ok h2 rv'] at hq
        exact mt_join pins s σ H _ _ v us Q I rx rv ⟨a, p, ys, rfl, rfl, hq, hl, hW.sc hS (.str _)⟩
      · rw [if_neg hl] at hW
        exact hW.none.elim
theorem me_split (ho : ME X W o fo) (he : ME X W e fa) (hs : starEach [e] X.env = [(false, eval e X.env)] := by rfl) (hbase : attributeBase o "split" X.env (eval o X.env) = eval o X.env := by rfl) (hline : (apos.endLine == pos.line) = true := by rfl) :
    ME X W (.Call (.Attribute o "split" apos) [e] [] pos) (eS1 gSplit fo fa) := pe_wk (pe_m1 F.slot_str_split F.type_str_split m_split ho he hs hbase hline) to_s1
theorem me_join (ho : ME X W o fo) (he : ME X W e fa) (hs : starEach [e] X.env = [(false, eval e X.env)] := by rfl) (hbase : attributeBase o "join" X.env (eval o X.env) = eval o X.env := by rfl) (hline : (apos.endLine == pos.line) = true := by rfl) :
    ME X W (.Call (.Attribute o "join" apos) [e] [] pos) (eS1 gJoin fo fa) := pe_wk (pe_m1 F.slot_str_join F.type_str_join m_join ho he hs hbase hline) to_s1
end

/-! ### f-strings -/
/-- {x} -/
def gFmt : F1 := fun _ a => match a with
  | .int i => if -TB < i ∧ i < TB then some (.str (istr i)) else none
  | .str x => if x.length ≤ 1000000 then some (.str x) else none
  | _ => none
def jsM : List FE → Str → Env → Sto → Rs Str
  | [], acc, _, st => .ok acc st
  | f :: fs, acc, env, st => (f env st).bind fun d s1 => match d with
    | .str y => if (acc ++ y).length ≤ 1000000 then jsM fs (acc ++ y) env s1 else .no
    | _ => .no
def eFs (fs : List FE) : FE := fun env st => (jsM fs Str.empty env st).bind fun x s1 => .ok (.str x) s1
section
variable {X : Cx} {W : WX} {e v1 v2 : Expr} {es : List Expr} {fa : FE} {fs : List FE} {pos : Pos}
theorem me_fmt (h : ME X W e fa) : ME X W (.FormattedValue e (-1) none pos) (e1 gFmt fa) := by
  refine pe_wk (pe_fmt h) ?_
  rintro σ H Q ⟨m, env, st, hE, hS, h⟩
  refine ⟨m, env, st, hE, hS, h.bind.imp fun x m1 st1 H1 x1 s1 h1 v rv => ?_⟩
  have hW := Want.of_fin h1
  cases x with
  | int i =>
    cases rv
    by_cases hb : -TB < i ∧ i < TB
    · simp only [gFmt, if_pos hb] at hW
      exact .inr ⟨i, rfl, TB_log hb, hW.sc s1 (.str _)⟩
    · simp only [gFmt, if_neg hb] at hW
      exact hW.none.elim
  | str y =>
    cases rv
    by_cases hb : y.length ≤ 1000000
    · simp only [gFmt, if_pos hb] at hW
      exact .inl ⟨y, rfl, Nat.le_trans hb (by decide), hW.sc s1 (.str _)⟩
    · simp only [gFmt, if_neg hb] at hW
      exact hW.none.elim
  | _ => exact hW.none.elim
inductive MJ (X : Cx) (W : WX) : List Expr → List FE → Prop where
  | nil : MJ X W [] []
  | cons {e : Expr} {f : FE} {es : List Expr} {fs : List FE} (h : ME X W e f) (r : MJ X W es fs) : MJ X W (e :: es) (f :: fs)
theorem MJ.pj (h : MJ X W es fs) : PJ X es (fs.map (tE X.K W)) := by
  induction h with
  | nil => exact .nil
  | cons h _ ih => exact .cons h ih
theorem to_js : ∀ (fs : List FE) (acc : Str) (σ : L2.St) (H : Hp) (m : Mw) (env : Env) (st : Sto) (Q : Str → Hp → Prop), RelE X.K m σ env → RelS X.K m st H → Fin X.K W m H (jsM fs acc env st) (fun x _ _ H' => Q x H') → tJs (fs.map (tE X.K W)) acc σ H Q
  | [], acc, σ, H, m, env, st, Q, hE, hS, h => h m H (Ex.refl m _) hS
  | f :: fs, acc, σ, H, m, env, st, Q, hE, hS, h => by
    refine ⟨m, env, st, hE, hS, Fin.imp (Fin.bind h) fun d m1 st1 H1 x1 s1 h1 v rv => ?_⟩
    cases d with
    | str y =>
      cases rv
      dsimp only at h1
      by_cases hl : (acc ++ y).length ≤ 1000000
      · rw [if_pos hl] at h1
        exact ⟨y, rfl, Nat.le_trans hl (by decide), to_js fs (acc ++ y) σ H1 m1 env st1 Q (hE.mono x1.ext) s1 h1⟩
      · rw [if_neg hl] at h1
        exact h1.elim
    | _ => exact h1.elim
theorem me_fs (h : MJ X W (v1 :: v2 :: es) fs) : ME X W (.JoinedStr (v1 :: v2 :: es) pos) (eFs fs) := by
  refine pe_wk (pe_joined h.pj) ?_
  rintro σ H Q ⟨m, env, st, hE, hS, h⟩
  exact to_js fs _ σ H m env st _ hE hS (h.bind.imp fun x m1 st1 H1 x1 s1 h1 => h1 m1 H1 (Ex.refl m1 _) s1 _ (.str x))
end
end
end MM
set_option Elab.async false
set_option linter.all false
set_option autoImplicit false
set_option maxRecDepth 100000
set_option maxHeartbeats 2000000
/-! M10: enumerate, zip, texts as sources. -/
namespace MM
open PySem PySem.Spec PyProof.Rows L2

def srcD (st : Sto) : D → Option (List D × (Sto → Prop))
  | .tup xs => some (xs, fun _ => True)
  | .lst xs => some (xs, fun _ => True)
  | .loc n => match st[n]? with
    | some (.lst xs) => some (xs, fun s => s[n]? = some (.lst xs))
    | _ => none
  | _ => none
/-- what a source is known to hold while it is walked -/
structure SrcW (K : PySem.W.Frag) (m : Mw) (b : Bool) (a : Addr) (ds : List D) (gd : Sto → Prop) (G : Hp → List V → Prop) : Prop where
  g : SrcG K b a ds.length G
  has : ∀ m1 st1 H1, Ext m m1 → RelS K m1 st1 H1 → gd st1 → ∃ xs, G H1 xs
  rel : ∀ m1 st1 H1 xs, Ext m m1 → RelS K m1 st1 H1 → gd st1 → G H1 xs → RVs K m1 xs ds
section
variable {K : PySem.W.Frag} {m : Mw} {st : Sto} {H : Hp} {v : V} {d : D} {ds es : List D} {gd gd2 : Sto → Prop}
theorem src_ok (hS : RelS K m st H) (r : RV K m v d) (e : srcD st d = some (ds, gd)) : gd st ∧ ∃ b a G, v = .ref a ∧ SrcW K m b a ds gd G := by
  cases d with
  | tup xs =>
    cases e
    cases r with
    | @tup a vs _ h1 h2 =>
      refine ⟨trivial, true, a, fun H' ys => SqT K H' a ys ∧ ys = vs, rfl, ⟨fun H' ys q => q.1, fun H' ys q => by rw [q.2, h2.length]⟩, fun m1 st1 H1 x s _ => ⟨vs, sqT_mono (fun c o q => s.sub _ _ (x.1 _ _ q)) h1, rfl⟩, fun m1 st1 H1 ys x s _ q => ?_⟩
      rw [q.2]
      exact h2.mono x
  | lst xs =>
    cases e
    cases r with
    | @lst a vs _ h1 h2 =>
      refine ⟨trivial, false, a, fun H' ys => SqL K H' a ys ∧ ys = vs, rfl, ⟨fun H' ys q => q.1, fun H' ys q => by rw [q.2, h2.length]⟩, fun m1 st1 H1 x s _ => ⟨vs, sqL_mono (fun c o q => s.sub _ _ (x.1 _ _ q)) h1, rfl⟩, fun m1 st1 H1 ys x s _ q => ?_⟩
      rw [q.2]
      exact h2.mono x
  | loc n =>
    simp only [srcD] at e
    cases r with
    | @loc a _ h1 =>
      cases h : st[n]? with
      | none => rw [h] at e; cases e
      | some mo =>
        rw [h] at e
        cases mo with
        | lst xs =>
          cases e
          refine ⟨h, false, a, fun H' ys => H' a = some (.lst ys) ∧ ys.length = ds.length, rfl, ⟨fun H' ys q => .inl (.inl q.1), fun H' ys q => q.2⟩, fun m1 st1 H1 x s g => ?_, fun m1 st1 H1 ys x s g q => ?_⟩
          · obtain ⟨ys, h3, h4⟩ := s.obj n a _ (x.at h1) g
            exact ⟨ys, h3, h4.length⟩
          · obtain ⟨zs, h3, h4⟩ := s.obj n a _ (x.at h1) g
            rw [q.1] at h3
            cases h3
            exact h4
        | _ => cases e
  | _ => cases e
def enD (k : Int) : List D → List D
  | [] => []
  | x :: xs => .tup [.int k, x] :: enD (k + 1) xs
theorem enD_len : ∀ (xs : List D) (k : Int), (enD k xs).length = xs.length
  | [], _ => rfl
  | x :: xs, k => by simp [enD, enD_len xs]
theorem enD_get : ∀ {xs : List D} {k : Int} {i : Nat} {d : D}, (enD k xs)[i]? = some d → ∃ x, xs[i]? = some x ∧ d = .tup [.int (k + (i : Int)), x]
  | [], _, _, _, e => by cases e
  | x :: xs, k, 0, _, e => by
    simp only [enD, List.getElem?_cons_zero, Option.some.injEq] at e
    exact ⟨x, rfl, by rw [← e]; simp⟩
  | x :: xs, k, i + 1, _, e => by
    simp only [enD, List.getElem?_cons_succ] at e
    obtain ⟨y, h1, h2⟩ := enD_get e
    refine ⟨y, by simpa using h1, ?_⟩
    rw [h2]
    congr 3
    push_cast
    omega
theorem RVs.getD {vs : List V} {i : Nat} {x : D} (r : RVs K m vs ds) (h : ds[i]? = some x) : RV K m (vs.getD i .non) x := by
  obtain ⟨u, h1, h2⟩ := r.get h
  rw [List.getD_eq_getElem?_getD, h1]
  exact h2
theorem walk_en {b : Bool} {a : Addr} {G : Hp → List V → Prop} (w : SrcW K m b a ds gd G) (k : Int) : WalkM K m ⟨enD k ds, gd⟩ (itT ds.length (fun H => ∃ xs, G H xs) (yEn k G)) := by
  refine ⟨fun i H hi ⟨m1, st1, e, s, g⟩ => ⟨by rw [enD_len] at hi; exact hi, w.has m1 st1 H e s g⟩, fun H ⟨m1, st1, e, s, g⟩ => ⟨by rw [enD_len], w.has m1 st1 H e s g⟩, fun i H v H' hi _ y => ?_⟩
  obtain ⟨T, ys, rfl, hT, rfl, xs, hG, rfl⟩ := y
  intro m1 st1 e s g d hd
  obtain ⟨x, h1, rfl⟩ := enD_get hd
  obtain ⟨e2, s2⟩ := s.newFrz (.tup (enL k xs i)) hT
  exact ⟨_, e2, s2, .tup (.inl (.inl frz_at)) (.cons (.int _) (.cons (((w.rel m1 st1 H xs e s g hG).getD h1).mono e2.ext) .nil))⟩
def zpD (xs ys : List D) : List D := xs.zipWith (fun a b => .tup [a, b]) ys
theorem walk_z2 {b b2 : Bool} {a a2 : Addr} {G G2 : Hp → List V → Prop} (w : SrcW K m b a ds gd G) (w2 : SrcW K m b2 a2 es gd2 G2) : WalkM K m ⟨zpD ds es, fun s => gd s ∧ gd2 s⟩ (itT (min ds.length es.length) (fun H => (∃ xs, G H xs) ∧ ∃ xs, G2 H xs) (yZ2 G G2)) := by
  have hl : (zpD ds es).length = min ds.length es.length := by simp [zpD]
  refine ⟨fun i H hi ⟨m1, st1, e, s, g⟩ => ⟨by rw [← hl]; exact hi, w.has m1 st1 H e s g.1, w2.has m1 st1 H e s g.2⟩, fun H ⟨m1, st1, e, s, g⟩ => ⟨hl, w.has m1 st1 H e s g.1, w2.has m1 st1 H e s g.2⟩, fun i H v H' hi _ y => ?_⟩
  obtain ⟨T, ys, rfl, hT, rfl, xs, zs, hG, hG2, rfl⟩ := y
  intro m1 st1 e s g d hd
  simp only [zpD, List.getElem?_zipWith] at hd
  cases h1 : ds[i]? with
  | none => rw [h1] at hd; simp at hd
  | some x =>
    cases h2 : es[i]? with
    | none => rw [h1, h2] at hd; simp at hd
    | some y =>
      rw [h1, h2] at hd
      cases hd
      obtain ⟨e2, s2⟩ := s.newFrz (.tup (z2L xs zs i)) hT
      exact ⟨_, e2, s2, .tup (.inl (.inl frz_at)) (.cons (((w.rel m1 st1 H xs e s g.1 hG).getD h1).mono e2.ext) (.cons (((w2.rel m1 st1 H zs e s g.2 hG2).getD h2).mono e2.ext) .nil))⟩
end
def iEn1 (a : FA) : FI := fun env st => (a env st).bind fun as s1 => match as with
  | [x] => match srcD s1 x with
    | some (ds, gd) => .ok ⟨enD 0 ds, gd⟩ s1
    | none => .no
  | _ => .no
def iEn2 (a : FA) : FI := fun env st => (a env st).bind fun as s1 => match as with
  | [x, .int k] => match srcD s1 x with
    | some (ds, gd) => if -(2 ^ 62) ≤ k ∧ k < 2 ^ 62 then .ok ⟨enD k ds, gd⟩ s1 else .no
    | none => .no
  | _ => .no
def iZ2 (a : FA) : FI := fun env st => (a env st).bind fun as s1 => match as with
  | [x, y] => match srcD s1 x, srcD s1 y with
    | some (ds, gd), some (es, gd2) => .ok ⟨zpD ds es, fun s => gd s ∧ gd2 s⟩ s1
    | _, _ => .no
  | _ => .no
/-- a text, sign by sign -/
def iTx (a : FE) : FI := fun env st => (a env st).bind fun x s1 => match x with
  | .str z => .ok ⟨z.cps.toList.map fun c => .str ⟨#[c]⟩, fun _ => True⟩ s1
  | _ => .no
/-- what is wanted of an outcome at hand -/
def Got {α : Type} (K : PySem.W.Frag) (W : WX) (f : List D → Sto → Rs α) (P : Mw → α → Mw → Sto → Hp → Prop) (vs : List V) (H : Hp) : Prop := ∃ m st ds, RelS K m st H ∧ RVs K m vs ds ∧ Fin K W m H (f ds st) (P m)
section
variable {X : Cx} {W : WX} {e e2 : Expr} {fa : FE} {ga : FA} {p pos tpos : Pos} {elts : List Expr} {kk : Nat}
theorem en_begin {pins : List (Addr × Obj)} {s : Shared} {σ : L2.St} {H : Hp} {R : It → Hp → Prop} {m : Mw} {b : Bool} {a : Addr} {ds : List D} {gd : Sto → Prop} {G : Hp → List V → Prop} (I : Inv X pins σ H s) (w : SrcW X.K m b a ds gd G) (hG : ∃ xs, G H xs) (k : Int) {us : List Value}
    (hcall : ∀ {o : Obj} {Hs : Heap → Prop} {Q : Value → Shared → Prop}, Begins (.ref a) o Hs → Hs s.heap → (∀ h', IsEnum h' (s.heap.objs.size + 1) s.heap.objs.size k .none → h'.get? s.heap.objs.size = some o → h'.objs.size = s.heap.objs.size + 2 →
      (∀ b u, s.heap.get? b = some u → h'.get? b = some u) → Q (.ref (s.heap.objs.size + 1)) { s with heap := h' }) → wpAny (model X.prog X.w) X.A (call (.type "enumerate") us) Q X.xe s)
    (q : R (itT ds.length (fun H => ∃ xs, G H xs) (yEn k G)) H) :
    wpAny (model X.prog X.w) X.A (call (.type "enumerate") us) (fun v s1 => wpAny (model X.prog X.w) X.A (pyIter v) (PIE X pins σ (.Tuple elts kk tpos) R) X.xe s1) X.xe s := by
  obtain ⟨xs, hG⟩ := hG
  have sq := w.g.sq _ _ hG
  obtain ⟨its, rv, sr⟩ := sq.src I
  have la : a < s.heap.objs.size := sq.lt I
  refine hcall (beginB (b := b) its) sr fun h' he hit hsz hk => wpAny_pyIter_enum he ?_
  have I2 : Inv X pins σ H { s with heap := h' } := I.kept (t' := s.toks) hk
  refine ⟨s.heap.objs.size + 1, [s.heap.objs.size + 1, s.heap.objs.size], _, _, H, rfl, I2, turn_en w.g k, ⟨⟨.none, by simpa using he⟩, ItB.begin hit, Nat.succ_ne_self _, fun z => ?_, Nat.ne_of_lt la⟩, fun b hb => ?_, q⟩
  · exact absurd (z ▸ la) (by simp)
  · have e' : b = s.heap.objs.size + 1 ∨ b = s.heap.objs.size := by simpa using hb
    have hle : s.heap.objs.size ≤ b := by
      rcases e' with z | z
      · rw [z]; exact Nat.le_add_right _ _
      · rw [z]; exact Nat.le_refl _
    exact I.fpOk hle (I.hok.fresh hle)
theorem mi_en1 (hm : X.mg "enumerate" = none) (ha : MA X W [e] ga) (hg : Gl X "enumerate" := by rfl) (hs : starEach [e] X.env = [(false, eval e X.env)] := by rfl) : MI X W (.Tuple elts kk tpos) (.Call (.Name "enumerate" p) [e] [] pos) (iEn1 ga) := by
  refine ⟨fun pins s σ H R I h => ?_⟩
  obtain ⟨m, env, st, hE, hS, h⟩ := h
  refine Call_ (ld_blt I hg hm PyProof.Rows.boot_enumerate (PyProof.Rows.callWith_type1 (thn (ha.run pos pins s σ H (Got X.K W (fun as s1 => match as with
    | [x] => match srcD s1 x with
      | some (ds, gd) => Rs.ok ⟨enD 0 ds, gd⟩ s1
      | none => .no
    | _ => .no) fun m0 (q : Its) m' st' H' => q.gd st' → ∀ J, WalkM X.K m' q J → R J H') I ⟨m, env, st, hE, hS, h.bind.imp fun ds m1 st1 H1 x1 s1 h1 vs rv => ⟨m1, st1, ds, s1, rv, h1⟩⟩) fun us s1 hv => ?_) hs rfl))
  obtain ⟨vs, H1, I1, ru, m1, st1, ds, s1', rv, hq⟩ := hv
  match ds, rv, hq with
  | [x], rv, hq =>
    obtain ⟨w, rfl, r1⟩ := rv.one
    dsimp only at hq
    cases hsr : srcD st1 x with
    | none => rw [hsr] at hq; exact hq.elim
    | some p =>
      obtain ⟨ds, gd⟩ := p
      rw [hsr] at hq
      obtain ⟨g0, b, a, G, rfl, sw⟩ := src_ok s1' r1 hsr
      cases ru with
      | cons r rr =>
        cases rr
        cases r
        exact en_begin I1 sw (sw.has m1 st1 H1 (Ext.refl m1) s1' g0) 0 (fun B h1 h => enum1_begins B h1 h) (hq m1 H1 (Ex.refl m1 _) s1' g0 _ (walk_en sw 0))
  | [], _, hq => exact hq.elim
  | _ :: _ :: _, _, hq => exact hq.elim
theorem mi_en2 (hm : X.mg "enumerate" = none) (ha : MA X W [e, e2] ga) (hg : Gl X "enumerate" := by rfl) (hs : starEach [e, e2] X.env = (false, eval e X.env) :: starEach [e2] X.env := by rfl) (hpl : (backTo pos (starEach [e2] X.env)).any (·.1) = false := by rfl) :
    MI X W (.Tuple elts kk tpos) (.Call (.Name "enumerate" p) [e, e2] [] pos) (iEn2 ga) := by
  refine ⟨fun pins s σ H R I h => ?_⟩
  obtain ⟨m, env, st, hE, hS, h⟩ := h
  refine Call_ (ld_blt I hg hm PyProof.Rows.boot_enumerate (PyProof.Rows.callWith_type1 (thn (ha.run pos pins s σ H (Got X.K W (fun as s1 => match as with
    | [x, .int k] => match srcD s1 x with
      | some (ds, gd) => if -(2 ^ 62) ≤ k ∧ k < 2 ^ 62 then Rs.ok ⟨enD k ds, gd⟩ s1 else .no
      | none => .no
    | _ => .no) fun m0 (q : Its) m' st' H' => q.gd st' → ∀ J, WalkM X.K m' q J → R J H') I ⟨m, env, st, hE, hS, h.bind.imp fun ds m1 st1 H1 x1 s1 h1 vs rv => ⟨m1, st1, ds, s1, rv, h1⟩⟩) fun us s1 hv => ?_) hs hpl))
  obtain ⟨vs, H1, I1, ru, m1, st1, ds, s1', rv, hq⟩ := hv
  match ds, rv, hq with
  | [x, .int k], rv, hq =>
    obtain ⟨w, w2, rfl, r1, r2⟩ := rv.two
    cases r2
    dsimp only at hq
    cases hsr : srcD st1 x with
    | none => rw [hsr] at hq; exact hq.elim
    | some p =>
      obtain ⟨ds, gd⟩ := p
      rw [hsr] at hq
      dsimp only at hq
      by_cases hk : -(2 ^ 62) ≤ k ∧ k < 2 ^ 62
      · rw [if_pos hk] at hq
        obtain ⟨g0, b, a, G, rfl, sw⟩ := src_ok s1' r1 hsr
        cases ru with
        | cons r rr =>
          cases rr with
          | cons r' rr =>
            cases rr
            cases r
            obtain ⟨t, rfl⟩ := r'
            exact en_begin I1 sw (sw.has m1 st1 H1 (Ext.refl m1) s1' g0) k (fun B h1 h => enum_begins B h1 (by omega) (by omega) h) (hq m1 H1 (Ex.refl m1 _) s1' g0 _ (walk_en sw k))
      · rw [if_neg hk] at hq
        exact hq.elim
  | [], _, hq => exact hq.elim
  | [_], _, hq => exact hq.elim
  | [_, .non], _, hq | [_, .bl _], _, hq | [_, .str _], _, hq | [_, .tup _], _, hq | [_, .lst _], _, hq | [_, .dct _], _, hq | [_, .loc _], _, hq | [_, .fn _], _, hq => exact hq.elim
  | _ :: _ :: _ :: _, _, hq => exact (show False from by simp [Fin] at hq).elim
theorem mi_z2 (hm : X.mg "zip" = none) (ha : MA X W [e, e2] ga) (hg : Gl X "zip" := by rfl) (hs : starEach [e, e2] X.env = (false, eval e X.env) :: starEach [e2] X.env := by rfl) (hpl : (backTo pos (starEach [e2] X.env)).any (·.1) = false := by rfl) :
    MI X W (.Tuple elts kk tpos) (.Call (.Name "zip" p) [e, e2] [] pos) (iZ2 ga) := by
  refine ⟨fun pins s σ H R I h => ?_⟩
  obtain ⟨m, env, st, hE, hS, h⟩ := h
  refine Call_ (ld_blt I hg hm PyProof.Rows.boot_zip (PyProof.Rows.callWith_type1 (thn (ha.run pos pins s σ H (Got X.K W (fun as s1 => match as with
    | [x, y] => match srcD s1 x, srcD s1 y with
      | some (ds, gd), some (es, gd2) => Rs.ok ⟨zpD ds es, fun s => gd s ∧ gd2 s⟩ s1
      | _, _ => .no
    | _ => .no) fun m0 (q : Its) m' st' H' => q.gd st' → ∀ J, WalkM X.K m' q J → R J H') I ⟨m, env, st, hE, hS, h.bind.imp fun ds m1 st1 H1 x1 s1 h1 vs rv => ⟨m1, st1, ds, s1, rv, h1⟩⟩) fun us s1 hv => ?_) hs hpl))
  obtain ⟨vs, H1, I1, ru, m1, st1, ds, s1', rv, hq⟩ := hv
  match ds, rv, hq with
  | [x, y], rv, hq =>
    obtain ⟨w, w2, rfl, r1, r2⟩ := rv.two
    dsimp only at hq
    cases hsr : srcD st1 x with
    | none => rw [hsr] at hq; exact hq.elim
    | some p =>
      obtain ⟨ds, gd⟩ := p
      cases hsr2 : srcD st1 y with
      | none => rw [hsr, hsr2] at hq; exact hq.elim
      | some p2 =>
        obtain ⟨es, gd2⟩ := p2
        rw [hsr, hsr2] at hq
        obtain ⟨g0, b, a, G, rfl, sw⟩ := src_ok s1' r1 hsr
        obtain ⟨g02, b2, a2, G2, rfl, sw2⟩ := src_ok s1' r2 hsr2
        cases ru with
        | cons r rr =>
          cases rr with
          | cons r' rr =>
            cases rr
            cases r
            cases r'
            obtain ⟨xs, hG⟩ := sw.has m1 st1 H1 (Ext.refl m1) s1' g0
            obtain ⟨ys, hG2⟩ := sw2.has m1 st1 H1 (Ext.refl m1) s1' g02
            have sq := sw.g.sq _ _ hG
            have sq2 := sw2.g.sq _ _ hG2
            obtain ⟨its, rv1, sr⟩ := sq.src I1
            obtain ⟨jts, rv2, sr2⟩ := sq2.src I1
            have la : a < s1.heap.objs.size := sq.lt I1
            have lb : a2 < s1.heap.objs.size := sq2.lt I1
            refine zip_begins2 (beginB (b := b) its) (beginB (b := b2) jts) sr sr2 fun h' hz hTI hTO h1 h2 hsz hk => wpAny_pyIter_zip hz ?_
            have I2 : Inv X pins σ H1 { s1 with heap := h' } := I1.kept (t' := s1.toks) hk
            refine ⟨s1.heap.objs.size + 4, [s1.heap.objs.size + 4, s1.heap.objs.size + 2, s1.heap.objs.size + 3, s1.heap.objs.size, s1.heap.objs.size + 1], _, _, H1, rfl, I2, turn_z2 sw.g sw2.g (zip_sep2 (fp1 := [a]) (fp2 := [a2]) (by simpa using la) (by simpa using lb)) (Nat.ne_of_lt la) (Nat.ne_of_lt (Nat.lt_succ_of_lt lb)), ⟨hz, hTI, ⟨_, _, hTO⟩, ItB.begin h1, ItB.begin h2⟩, fun c hcm => ?_, hq m1 H1 (Ex.refl m1 _) s1' ⟨g0, g02⟩ _ (walk_z2 sw sw2)⟩
            have e' : c = s1.heap.objs.size + 4 ∨ c = s1.heap.objs.size + 2 ∨ c = s1.heap.objs.size + 3 ∨ c = s1.heap.objs.size ∨ c = s1.heap.objs.size + 1 := by simpa using hcm
            have hle : s1.heap.objs.size ≤ c := by
              rcases e' with z | z | z | z | z
              · rw [z]; exact Nat.le_add_right _ _
              · rw [z]; exact Nat.le_add_right _ _
              · rw [z]; exact Nat.le_add_right _ _
              · rw [z]; exact Nat.le_refl _
              · rw [z]; exact Nat.le_add_right _ _
            exact I1.fpOk hle (I1.hok.fresh hle)
  | [], _, hq => exact hq.elim
  | [_], _, hq => exact hq.elim
  | _ :: _ :: _ :: _, _, hq => exact hq.elim
theorem walk_tx {K : PySem.W.Frag} {m : Mw} {z : Str} : WalkM K m ⟨z.cps.toList.map fun c => .str ⟨#[c]⟩, fun _ => True⟩ (L2.Its z) := by
  refine ⟨fun i H hi _ => ?_, fun H _ => ?_, fun i H v H' hi _ y => ?_⟩
  · show i < z.cps.size
    simpa using hi
  · show z.cps.size ≤ _
    simp
  · obtain ⟨rfl, c, hc, rfl⟩ := y
    refine fun m1 st1 e s _ d hd => ⟨m1, Ex.refl m1 _, s, ?_⟩
    simp only [List.getElem?_map, Array.getElem?_toList, hc, Option.map_some, Option.some.injEq] at hd
    subst hd
    exact .str _
theorem mi_tx {tg : Expr} (ha : ME X W e fa) : MI X W tg e (iTx fa) := by
  refine pi_wk (pi_str ha) ?_
  rintro σ H Q ⟨m, env, st, hE, hS, h⟩
  refine ⟨m, env, st, hE, hS, h.bind.imp fun x m1 st1 H1 x1 s1 h1 v rv => ?_⟩
  cases x with
  | str z =>
    cases rv
    exact ⟨z, rfl, h1 m1 H1 (Ex.refl m1 _) s1 trivial _ walk_tx⟩
  | _ => exact h1.elim
end
end MM
set_option Elab.async false
set_option linter.all false
set_option autoImplicit false
set_option maxRecDepth 100000
set_option maxHeartbeats 2000000
/-! M11: the rules as the printer uses them. -/
namespace MM
open PySem PySem.Spec PyProof.Rows L2

/-- a global def of level j -/
structure DefG (P : Program) (w : World) (K : PySem.W.Frag) (mg : Str → Option Value) (base : Heap) (j : Nat) (x : Str) (np : Nat) (F : MFun) : Prop where
  ex : ∃ f fd ps, FnG P w K mg base j f fd ps F ∧ mg x = some (.ref f) ∧ PySem.W.keepIn K (.ref f) = true ∧ Binds K fd ps [] ∧ ps.length = np
section
variable {X : Cx} {W : WX} {j k np : Nat} {F : MFun} {x : Str} {p pos : Pos} {e : Expr} {es : List Expr} {ga : FA}
theorem DefG.mono {P : Program} {w : World} {K : PySem.W.Frag} {mg : Str → Option Value} {base : Heap} {i j : Nat} {x : Str} {np : Nat} {F : MFun} (h : DefG P w K mg base i x np F) (l : i ≤ j) : DefG P w K mg base j x np F := by
  obtain ⟨f, fd, ps, G, r⟩ := h.ex
  exact ⟨f, fd, ps, G.mono l, r⟩
theorem DefG.to (h : DefG X.prog X.w X.K X.mg X.base j x np F) (l : j ≤ k) : DefOk X k x F := by
  obtain ⟨f, fd, ps, G, a, b, c, _⟩ := h.ex
  exact ⟨f, fd, ps, G.mono l, a, b, c⟩
theorem g_call (G : DefG X.prog X.w X.K X.mg X.base j x np F) (hr : Room k X.A) (hG : X.A.guards = some []) (tk : Takes X W) (ha : MA X W (e :: es) ga) (l : j ≤ k := by decide) (hg : Gl X x := by rfl) (hdb : (x == ("__debug__" : Str)) = false := by decide)
    (he : starEach (e :: es) X.env = (false, eval e X.env) :: starEach es X.env := by rfl) (hpl : (backTo pos (starEach es X.env)).any (·.1) = false := by rfl) : ME X W (.Call (.Name x p) (e :: es) [] pos) (eCall F ga) :=
  me_call (G.to l) hr hG tk ha hg hdb he hpl
theorem g_call0 (G : DefG X.prog X.w X.K X.mg X.base j x np F) (hr : Room k X.A) (hG : X.A.guards = some []) (tk : Takes X W) (l : j ≤ k := by decide) (hg : Gl X x := by rfl) (hdb : (x == ("__debug__" : Str)) = false := by decide) : ME X W (.Call (.Name x p) [] [] pos) (eCall F aN) :=
  me_call0 (G.to l) hr hG tk hg hdb
end
/-- a constant of the module -/
structure ConG (K : PySem.W.Frag) (mg : Str → Option Value) (x : Str) (d : D) : Prop where
  ex : ∃ u v, mg x = some u ∧ RelV v u ∧ ∀ m, RV K m v d
theorem g_con {X : Cx} {W : WX} {x : Str} {d : D} {pos : Pos} (h : ConG X.K X.mg x d) (hg : Gl X x := by rfl) (hd : (x == ("__debug__" : Str)) = false := by decide) : ME X W (.Name x pos) (eC d) := me_g ⟨h.ex⟩ hg hd
section
variable {h : Heap} {K : PySem.W.Frag} {mg : Str → Option Value}
theorem con_int (X : K.In h) (G : h.Ns mainGlobals mg) {x : Str} {i : Int} (c : (He.Fa.int x i).ok K = true) : ConG K mg x (.int i) := by
  obtain ⟨t, e⟩ := He.int_ok X G c
  exact ⟨_, .int i, e, ⟨t, rfl⟩, fun m => .int i⟩
theorem con_str (X : K.In h) (G : h.Ns mainGlobals mg) {x z : Str} (c : (He.Fa.str x z).ok K = true) : ConG K mg x (.str z) := by
  obtain ⟨t, e⟩ := He.str_ok X G c
  exact ⟨_, .str z, e, ⟨t, rfl⟩, fun m => .str z⟩
end
section
variable {X : Cx} {W : WX} {e e2 : Expr} {es : List Expr} {ga : FA} {p pos : Pos}
theorem g_len (hm : X.mg "len" = none) (ha : MA X W [e] ga) (hs : starEach [e] X.env = (false, eval e X.env) :: starEach [] X.env := by rfl) (hg : Gl X "len" := by rfl) : ME X W (.Call (.Name "len" p) [e] [] pos) (eL (f1 gLen) ga) := me_cb c_len hm boot_len ha hg (by decide) (by decide) hs rfl
theorem g_abs (hm : X.mg "abs" = none) (ha : MA X W [e] ga) (hs : starEach [e] X.env = (false, eval e X.env) :: starEach [] X.env := by rfl) (hg : Gl X "abs" := by rfl) : ME X W (.Call (.Name "abs" p) [e] [] pos) (eL (f1 gAbs) ga) := me_cb c_abs hm boot_abs ha hg (by decide) (by decide) hs rfl
theorem g_int (hm : X.mg "int" = none) (ha : MA X W [e] ga) (hs : starEach [e] X.env = (false, eval e X.env) :: starEach [] X.env := by rfl) (hg : Gl X "int" := by rfl) : ME X W (.Call (.Name "int" p) [e] [] pos) (eL (lOr (f1 gInt) (f1 gIntS)) ga) := me_ct c_intA hm boot_int ha hg (by decide) (by decide) hs rfl
theorem g_str (hm : X.mg "str" = none) (ha : MA X W [e] ga) (hs : starEach [e] X.env = (false, eval e X.env) :: starEach [] X.env := by rfl) (hg : Gl X "str" := by rfl) : ME X W (.Call (.Name "str" p) [e] [] pos) (eL (f1 gStrI) ga) := me_ct c_strI hm boot_str ha hg (by decide) (by decide) hs rfl
theorem g_tuple (hm : X.mg "tuple" = none) (ha : MA X W [e] ga) (hs : starEach [e] X.env = (false, eval e X.env) :: starEach [] X.env := by rfl) (hg : Gl X "tuple" := by rfl) : ME X W (.Call (.Name "tuple" p) [e] [] pos) (eL (f1 gTup) ga) := me_ct c_tup hm boot_tuple ha hg (by decide) (by decide) hs rfl
theorem g_list (hm : X.mg "list" = none) (ha : MA X W [e] ga) (hs : starEach [e] X.env = (false, eval e X.env) :: starEach [] X.env := by rfl) (hg : Gl X "list" := by rfl) : ME X W (.Call (.Name "list" p) [e] [] pos) (eL (f1 gLst) ga) := me_ct c_lst hm boot_list ha hg (by decide) (by decide) hs rfl
theorem g_sum (hc : X.calm = true) (hm : X.mg "sum" = none) (ha : MA X W [e] ga) (hs : starEach [e] X.env = (false, eval e X.env) :: starEach [] X.env := by rfl) (hg : Gl X "sum" := by rfl) : ME X W (.Call (.Name "sum" p) [e] [] pos) (eL (f1 gSum) ga) := me_cb (c_sum hc) hm boot_sum ha hg (by decide) (by decide) hs rfl
theorem g_all (hc : X.calm = true) (hm : X.mg "all" = none) (ha : MA X W [e] ga) (hs : starEach [e] X.env = (false, eval e X.env) :: starEach [] X.env := by rfl) (hg : Gl X "all" := by rfl) : ME X W (.Call (.Name "all" p) [e] [] pos) (eL (f1 gAll) ga) := me_cb (c_all hc) hm boot_all ha hg (by decide) (by decide) hs rfl
theorem g_maxL (hc : X.calm = true) (hm : X.mg "max" = none) (ha : MA X W [e] ga) (hs : starEach [e] X.env = (false, eval e X.env) :: starEach [] X.env := by rfl) (hg : Gl X "max" := by rfl) : ME X W (.Call (.Name "max" p) [e] [] pos) (eL (f1 gMaxL) ga) := me_cb (c_maxL hc) hm boot_max ha hg (by decide) (by decide) hs rfl
theorem g_max (hc : X.calm = true) (hm : X.mg "max" = none) (ha : MA X W [e, e2] ga) (hs : starEach [e, e2] X.env = (false, eval e X.env) :: starEach [e2] X.env := by rfl) (hpl : (backTo pos (starEach [e2] X.env)).any (·.1) = false := by rfl) (hg : Gl X "max" := by rfl) : ME X W (.Call (.Name "max" p) [e, e2] [] pos) (eL (f22 gMax) ga) := me_cb (c_max2 hc) hm boot_max ha hg (by decide) (by decide) hs hpl
theorem g_min (hc : X.calm = true) (hm : X.mg "min" = none) (ha : MA X W [e, e2] ga) (hs : starEach [e, e2] X.env = (false, eval e X.env) :: starEach [e2] X.env := by rfl) (hpl : (backTo pos (starEach [e2] X.env)).any (·.1) = false := by rfl) (hg : Gl X "min" := by rfl) : ME X W (.Call (.Name "min" p) [e, e2] [] pos) (eL (f22 gMin) ga) := me_cb (c_min2 hc) hm boot_min ha hg (by decide) (by decide) hs hpl
theorem g_repr {k : Nat} (hr : Room k X.A) (hG : X.A.guards = some []) (hm : X.mg "repr" = none) (ha : MA X W [e] ga) (hs : starEach [e] X.env = (false, eval e X.env) :: starEach [] X.env := by rfl) (hg : Gl X "repr" := by rfl) : ME X W (.Call (.Name "repr" p) [e] [] pos) (eL fRepr ga) := me_cb (c_repr hG hr.units) hm (by decide +kernel) ha hg (by decide) (by decide) hs rfl
end
/-! calls with keywords: f(a, .., b = .., ..), the keywords in the order of the parameters -/
structure DefK (P : Program) (w : World) (K : PySem.W.Frag) (mg : Str → Option Value) (base : Heap) (j : Nat) (x : Str) (n : Nat) (ks : List Str) (F : MFun) : Prop where
  ex : ∃ f fd ps, FnG P w K mg base j f fd ps F ∧ mg x = some (.ref f) ∧ PySem.W.keepIn K (.ref f) = true ∧ ps.length = n + ks.length ∧
    ∀ (s : Shared) (us ws : List Value), us.length = n → ws.length = ks.length → BindsTo s fd ⟨us, ks.zip ws⟩ (ps.zip (us ++ ws))
theorem kw_of {K : PySem.W.Frag} {x qual : Str} {params : Arguments} {body : List Stmt} {scope : Scope} {kws : List (Str × V)} {f : Addr} {fd : FuncData} {ps ks : List Str} {n : Nat} (F : FunD K x qual params body scope [] kws f fd)
    (h : ∀ (kV doc pm : Value) (an : Option Addr) (cdv ct : Value) (us ws : List Value), us.length = n → ws.length = ks.length → bindArgs (PySem.W.fnOf x qual params body scope .none kV doc pm an cdv ct) ⟨us, ks.zip ws⟩ = pure (ps.zip (us ++ ws))) :
    ∀ (s : Shared) (us ws : List Value), us.length = n → ws.length = ks.length → BindsTo s fd ⟨us, ks.zip ws⟩ (ps.zip (us ++ ws)) := by
  obtain ⟨oc, od, dV, kV, doc, pm, an, cdv, ct, osl, rfl, lk, hcd, hD, hK⟩ := F.ex
  rcases hD with ⟨_, rfl⟩ | ⟨e, _⟩
  · exact fun s us ws h1 h2 => .of_eq (h kV doc pm an cdv ct us ws h1 h2)
  · exact absurd rfl e
def aApp (a b : FA) : FA := fun env st => (a env st).bind fun xs s1 => (b env s1).bind fun ys s2 => .ok (xs ++ ys) s2
/-- what is left of a call once its arguments stand: the count must be right -/
def eCallK (n nk : Nat) (F : MFun) (a b : FA) : FE := fun env st => (a env st).bind fun xs s1 => if xs.length = n then (b env s1).bind fun ys s2 => if ys.length = nk then (F (xs ++ ys) s2).at env else .no else .no
section
variable {X : Cx} {W : WX} {j k n : Nat} {ks : List Str} {F : MFun} {x : Str} {nm : Option Str} {p pos kpos : Pos} {e : Expr} {es : List Expr} {kws : List Keyword} {fa : FE} {ga gk : FA}
abbrev MK (X : Cx) (W : WX) (ks : List Keyword) (f : FA) : Prop := PK X ks (tA X.K W f)
theorem pk_wk {t u : TA} (h : PK X kws t) (k : ∀ σ H Q, u σ H Q → t σ H Q) : PK X kws u := ⟨fun pos pins s σ H Q I q => h.run pos pins s σ H Q I (k σ H Q q)⟩
theorem mk_nil : MK X W [] aN := by
  refine pk_wk pk_nil ?_
  rintro σ H Q ⟨m, env, st, hE, hS, h⟩
  exact h m H (Ex.refl m _) hS _ .nil
theorem mk_cons (ha : ME X W e fa) (hr : MK X W kws gk) : MK X W (⟨nm, e, kpos⟩ :: kws) (aC fa gk) := by
  refine pk_wk (pk_cons ha hr) ?_
  rintro σ H Q ⟨m, env, st, hE, hS, h⟩
  refine ⟨m, env, st, hE, hS, h.bind.imp fun x m1 st1 H1 x1 s1 h1 v rv => ?_⟩
  refine ⟨m1, env, st1, hE.mono x1.ext, s1, h1.bind.imp fun xs m2 st2 H2 x2 s2 h2 vs rvs => ?_⟩
  exact h2 m2 H2 (Ex.refl m2 _) s2 _ (.cons (rv.mono x2.ext) rvs)
theorem run_k {f : Addr} {fd : FuncData} {ps : List Str} {pins : List (Addr × Obj)} {σ : L2.St} {H : Hp} {s : Shared} {Q : VK} {us ws : List Value} {vs zs : List V} (G : FnG X.prog X.w X.K X.mg X.base k f fd ps F) (hr : Room k X.A) (hG : X.A.guards = some []) (tk : Takes X W)
    (hb : BindsTo s fd ⟨us, ks.zip ws⟩ (ps.zip (us ++ ws))) (I : Inv X pins σ H s) (r : Vals vs us) (rz : Vals zs ws) (h : spM X.K F (vs ++ zs) H Q (WE W σ)) : wpAny (model X.prog X.w) X.A (call (.ref f) us (ks.zip ws)) (EP X pins σ Q) X.xe s := by
  refine wpAny_call (codeAny_mono (G.run X.A X.stack s H ⟨us, ks.zip ws⟩ (us ++ ws) (vs ++ zs) Q (WE W σ) hr hG I.env0 hb (r.append rz) h) fun r s' hq => ?_)
  cases r with
  | error e => exact passAt tk σ pins H s e s' I hq
  | ok fl =>
    cases fl with
    | ret u => exact I.after hq
    | next => exact hq.elim
    | brk => exact hq.elim
    | cont => exact hq.elim
theorem g_callK (G : DefK X.prog X.w X.K X.mg X.base j x n ks F) (hr : Room k X.A) (hG : X.A.guards = some []) (tk : Takes X W) (ha : MA X W (e :: es) ga) (hkw : MK X W kws gk) (l : j ≤ k := by decide) (hg : Gl X x := by rfl) (hdb : (x == ("__debug__" : Str)) = false := by decide)
    (hall : (backToKw pos (keywordEach kws X.env)).all (·.1.isSome) = true := by rfl) (hks : (backToKw pos (keywordEach kws X.env)).filterMap (·.1) = ks := by rfl)
    (he : starEach (e :: es) X.env = (false, eval e X.env) :: starEach es X.env := by rfl) (hpl : ((backTo pos (starEach (e :: es) X.env)).any (·.1) || (backToKw pos (keywordEach kws X.env)).any (·.1.isNone)) = false := by rfl) :
    ME X W (.Call (.Name x p) (e :: es) kws pos) (eCallK n ks.length F ga gk) := by
  obtain ⟨f, fd, ps, G, hm, hk, hl, hb⟩ := G.ex
  refine ⟨fun pins s σ H Q I h => ?_⟩
  obtain ⟨m, env, st, hE, hS, h⟩ := h
  refine wpAny_Call_Name_kw (ld_glob I hg hm ?_ hdb)
  refine PySem.W.callWith_KW (h₀ := X.base) I.ok.mod.kin hk hall (thn (ha.run pos pins s σ H (fun vs H1 => vs.length = n ∧ tA X.K W gk σ H1 fun zs H2 => zs.length = ks.length ∧ spM X.K F (vs ++ zs) H2 Q (WE W σ)) I ⟨m, env, st, hE, hS, h.bind.imp fun xs m1 st1 H1 x1 s1 h1 vs rv => ?_⟩) fun us s1 ⟨vs, H1, I1, r, l1, q⟩ => ?_) hpl he
  · by_cases hn : xs.length = n
    · rw [if_pos hn] at h1
      refine ⟨by rw [rv.length]; exact hn, m1, env, st1, hE.mono x1.ext, s1, h1.bind.imp fun ys m2 st2 H2 x2 s2 h2 zs rz => ?_⟩
      by_cases hn2 : ys.length = ks.length
      · rw [if_pos hn2] at h2
        exact ⟨by rw [rz.length]; exact hn2, sp_at ((hE.mono x1.ext).mono x2.ext) s2 ((rv.mono x2.ext).append rz) h2⟩
      · rw [if_neg hn2] at h2
        exact h2.elim
    · rw [if_neg hn] at h1
      exact h1.elim
  · refine thn (hkw.run pos pins s1 σ H1 _ I1 q) fun ws s2 ⟨zs, H2, I2, rz, l2, q2⟩ => ⟨I2.kIn, ?_⟩
    rw [hks]
    exact run_k (G.mono l) hr hG tk (hb s2 us ws (by rw [← r.length]; exact l1) (by rw [← rz.length]; exact l2)) I2 r rz q2
theorem g_callK0 (G : DefK X.prog X.w X.K X.mg X.base j x 0 ks F) (hr : Room k X.A) (hG : X.A.guards = some []) (tk : Takes X W) (hkw : MK X W kws gk) (l : j ≤ k := by decide) (hg : Gl X x := by rfl) (hdb : (x == ("__debug__" : Str)) = false := by decide)
    (hall : (backToKw pos (keywordEach kws X.env)).all (·.1.isSome) = true := by rfl) (hks : (backToKw pos (keywordEach kws X.env)).filterMap (·.1) = ks := by rfl)
    (hpl : ((backTo pos (starEach [] X.env)).any (·.1) || (backToKw pos (keywordEach kws X.env)).any (·.1.isNone)) = false := by rfl) :
    ME X W (.Call (.Name x p) [] kws pos) (eCallK 0 ks.length F aN gk) := by
  obtain ⟨f, fd, ps, G, hm, hk, hl, hb⟩ := G.ex
  refine ⟨fun pins s σ H Q I h => ?_⟩
  obtain ⟨m, env, st, hE, hS, h⟩ := h
  refine wpAny_Call_Name_kw (ld_glob I hg hm ?_ hdb)
  have h : Fin X.K W m H ((gk env st).bind fun ys s2 => if ys.length = ks.length then (F ys s2).at env else .no) fun d m' _ H' => ∀ v, RV X.K m' v d → Q v H' := h
  refine PySem.W.callWith_KW0 (h₀ := X.base) I.ok.mod.kin hk hall (thn (hkw.run pos pins s σ H (fun zs H2 => zs.length = ks.length ∧ spM X.K F zs H2 Q (WE W σ)) I ⟨m, env, st, hE, hS, h.bind.imp fun ys m2 st2 H2 x2 s2 h2 zs rz => ?_⟩) fun ws s2 ⟨zs, H2, I2, rz, l2, q2⟩ => ⟨I2.kIn, ?_⟩) hpl
  · by_cases hn2 : ys.length = ks.length
    · rw [if_pos hn2] at h2
      exact ⟨by rw [rz.length]; exact hn2, sp_at (hE.mono x2.ext) s2 rz h2⟩
    · rw [if_neg hn2] at h2
      exact h2.elim
  · rw [hks]
    exact run_k (us := []) (vs := []) (G.mono l) hr hG tk (hb s2 [] ws rfl (by rw [← rz.length]; exact l2)) I2 .nil rz q2
end
end MM
set_option Elab.async false
set_option linter.all false
set_option autoImplicit false
set_option maxRecDepth 100000
set_option maxHeartbeats 2000000
/-! M12: chained comparisons, while, in, functions as values, starred displays. -/
namespace MM
open PySem PySem.Spec PyProof.Rows L2

/-! ### a op b op' c -/
def eCh (g g' : F2) (a b c : FE) : FE := fun env st => (a env st).bind fun x s1 => (b env s1).bind fun y s2 => match g s2 x y with
  | some (.bl true) => (c env s2).bind fun z s3 => Rs.val (g' s3 y z) s3
  | some (.bl false) => .ok (.bl false) s2
  | _ => .no
section
variable {X : Cx} {W : WX} {a b c : Expr} {fa fb fc : FE} {g g' : F2} {op op' : CmpOp} {pos : Pos}
theorem to_ch : ∀ σ H Q, tE X.K W (eCh g g' fa fb fc) σ H Q → tChain (r2 X.K g) (r2 X.K g') (tE X.K W fa) (tE X.K W fb) (tE X.K W fc) σ H Q := by
  rintro σ H Q ⟨m, env, st, hE, hS, h⟩
  refine ⟨m, env, st, hE, hS, h.bind.imp fun x m1 st1 H1 x1 s1 h1 v rv => ?_⟩
  refine ⟨m1, env, st1, hE.mono x1.ext, s1, h1.bind.imp fun y m2 st2 H2 x2 s2 h2 u ru => ?_⟩
  cases e : g st2 x y with
  | none => rw [e] at h2; exact h2.elim
  | some d =>
    rw [e] at h2
    cases d with
    | bl k =>
      refine ⟨m2, st2, x, y, s2, rv.mono x2.ext, ru, .bl k, e, fun m' H' w x' s' r => ?_⟩
      cases r
      refine ⟨k, rfl, ?_⟩
      cases k with
      | true =>
        refine ⟨m', env, st2, ((hE.mono x1.ext).mono x2.ext).mono x'.ext, s', (Fin.from h2 x').bind.imp fun z m3 st3 H3 x3 s3 h3 w rw' => ?_⟩
        exact ⟨m3, st3, y, z, s3, (ru.mono x'.ext).mono x3.ext, rw', .of_fin h3⟩
      | false => exact h2 m' H' x' s' _ (.bl false)
    | _ => exact h2.elim
theorem me_ch (ho : OpR X (compareOp op) (r2 X.K g)) (ho' : OpR X (compareOp op') (r2 X.K g')) (ha : ME X W a fa) (hb : ME X W b fb) (hc : ME X W c fc) (hm : lastMarks [op, op'] [b, c] = false := by with_unfolding_all rfl) :
    ME X W (.Compare a [op, op'] [b, c] pos) (eCh g g' fa fb fc) := pe_wk (pe_chain ho ho' ha hb hc hm) to_ch
theorem mt_ch (ho : OpR X (compareOp op) (r2 X.K g)) (ho' : OpR X (compareOp op') (r2 X.K g')) (ha : ME X W a fa) (hb : ME X W b fb) (hc : ME X W c fc) (hm : lastMarks [op, op'] [b, c] = false := by with_unfolding_all rfl) :
    MT X W (.Compare a [op, op'] [b, c] pos) (tV (eCh g g' fa fb fc)) := pt_wk (pt_chain ho ho' ha hb hc hm) (to_test to_ch)
end

/-! ### while -/
def whileM (t : FT) (b : SE) : Nat → Env → Sto → Rs (Fl × Env)
  | 0, _, _ => .no
  | n + 1, env, st => (t env st).bind fun c s1 => if c = true then (b env s1).bind fun p s2 => match p.1 with
      | .nx => whileM t b n p.2 s2
      | .ct => whileM t b n p.2 s2
      | .bk => .ok (.nx, p.2) s2
      | .rt d => .ok (.rt d, p.2) s2
    else .ok (.nx, env) s1
theorem whileM_mono {t : FT} {b : SE} : ∀ (n k : Nat) (env : Env) (st : Sto), whileM t b n env st ≠ .no → whileM t b (n + k) env st = whileM t b n env st
  | 0, _, _, _, h => (h rfl).elim
  | n + 1, k, env, st, h => by
    rw [show n + 1 + k = (n + k) + 1 by omega]
    simp only [whileM] at h ⊢
    cases e : t env st with
    | no => rfl
    | er x en s => rfl
    | ok c s1 =>
      rw [e] at h
      simp only [Rs.bind_ok] at h ⊢
      by_cases hc : c = true
      · rw [if_pos hc] at h
        rw [if_pos hc, if_pos hc]
        cases e2 : b env s1 with
        | no => rfl
        | er x en s => rfl
        | ok p s2 =>
          rw [e2] at h
          simp only [Rs.bind_ok] at h ⊢
          obtain ⟨f, en⟩ := p
          cases f with
          | nx => exact whileM_mono n k en s2 h
          | ct => exact whileM_mono n k en s2 h
          | bk => rfl
          | rt d => rfl
      · rw [if_neg hc, if_neg hc]
open Classical in
noncomputable def sWhile (t : FT) (b : SE) : SE := fun env st => if h : ∃ n, whileM t b n env st ≠ .no then whileM t b (Classical.choose h) env st else .no
theorem sWhile_of {t : FT} {b : SE} {n : Nat} {env : Env} {st : Sto} {r : Rs (Fl × Env)} (h : whileM t b n env st = r) (hr : r ≠ .no) : sWhile t b env st = r := by
  have ex : ∃ n, whileM t b n env st ≠ .no := ⟨n, by rw [h]; exact hr⟩
  unfold sWhile
  rw [dif_pos ex]
  have h1 := Classical.choose_spec ex
  have a1 := whileM_mono (Classical.choose ex) n env st h1
  have a2 := whileM_mono n (Classical.choose ex) env st (by rw [h]; exact hr)
  rw [Nat.add_comm] at a2
  rw [← a1, a2, h]
section
variable {X : Cx} {W : WX} {c : Expr} {body : List Stmt} {t : FT} {b : SE} {pos : Pos}
theorem ms_while (hp : PassesOwn (model X.prog X.w) X.A X.env X.xe) (hc : MT X W c t) (hb : MSs X W body b) : MS X W (.While c body [] pos) (sWhile t b) := by
  refine ps_wk (ps_while hp hc hb) ?_
  rintro D σ H ⟨m, env, st, hE, hS, h⟩
  have hne := h.yes
  unfold sWhile at h hne
  by_cases ex : ∃ n, whileM t b n env st ≠ .no
  · rw [dif_pos ex] at h
    generalize Classical.choose ex = n at h
    refine ⟨fun k σ' H' => ∃ m' env' st', RelE X.K m' σ' env' ∧ RelS X.K m' st' H' ∧ Fin X.K W m' H' (whileM t b k env' st') fun q m' _ H' => match q.1 with
      | .nx => ∀ σ', RelE X.K m' σ' q.2 → D.nx σ' H'
      | .bk => ∀ σ', RelE X.K m' σ' q.2 → D.bk σ' H'
      | .ct => ∀ σ', RelE X.K m' σ' q.2 → D.ct σ' H'
      | .rt d => ∀ v, RV X.K m' v d → D.rt v H', ⟨n, m, env, st, hE, hS, h⟩, ?_⟩
    rintro k σ1 H1 ⟨m1, env1, st1, hE1, hS1, h1⟩
    cases k with
    | zero => exact h1.elim
    | succ k =>
      simp only [whileM] at h1
      refine ⟨m1, env1, st1, hE1, hS1, Fin.imp (Fin.bind h1) fun d m2 st2 H2 x2 s2 h2 => ?_⟩
      cases d with
      | false => exact h2 m2 H2 (Ex.refl m2 _) s2 σ1 (hE1.mono x2.ext)
      | true =>
        simp only [if_true] at h2 ⊢
        refine ⟨fun σ' H' => ∃ m' env' st', RelE X.K m' σ' env' ∧ RelS X.K m' st' H' ∧ Fin X.K W m' H' (whileM t b k env' st') fun q m' _ H' => match q.1 with
          | .nx => ∀ σ', RelE X.K m' σ' q.2 → D.nx σ' H'
          | .bk => ∀ σ', RelE X.K m' σ' q.2 → D.bk σ' H'
          | .ct => ∀ σ', RelE X.K m' σ' q.2 → D.ct σ' H'
          | .rt d => ∀ v, RV X.K m' v d → D.rt v H', fun σ' H' q => ⟨k, Nat.lt_succ_self k, q⟩, m2, env1, st2, hE1.mono x2.ext, s2, Fin.imp (Fin.bind h2) fun p m3 st3 H3 x3 s3 h3 => ?_⟩
        obtain ⟨f, en⟩ := p
        cases f with
        | nx => exact fun σ' hE' => ⟨m3, en, st3, hE', s3, h3⟩
        | ct => exact fun σ' hE' => ⟨m3, en, st3, hE', s3, h3⟩
        | bk => exact h3 m3 H3 (Ex.refl m3 _) s3
        | rt d => exact h3 m3 H3 (Ex.refl m3 _) s3
  · rw [dif_neg ex] at hne
    exact (hne rfl).elim
end

/-! ### in -/
def flatD : D → Bool
  | .non | .bl _ | .int _ | .str _ => true
  | _ => false
/-- == of flat data, the kinds alike -/
def eqD : D → D → Option Bool
  | .int i, .int j => some (decide (i = j))
  | .str i, .str j => some (decide (i = j))
  | _, _ => none
def anyD (x : D) : List D → Option Bool
  | [] => some false
  | y :: ys => (eqD y x).bind fun b => (anyD x ys).map fun c => b || c
def fInG (neg : Bool) : F2 := fun st a b => if flatD a = true then (match a, b with
  | .str x, .str y => some (.bl (if neg then !(!(Builtin.Str.occurrences y x 0 y.length 1).isEmpty) else (!(Builtin.Str.occurrences y x 0 y.length 1).isEmpty)))
  | _, _ => (sq st b).bind fun xs => (anyD a xs).map fun c => .bl (if neg then !c else c)) else none
abbrev fIn : F2 := fInG false
abbrev fNi : F2 := fInG true
section
variable {X : Cx}
theorem anyD_ok {K : PySem.W.Frag} {m : Mw} {v : V} {a : D} (r : RV K m v a) : ∀ {ds : List D} {vs : List V} {c : Bool}, anyD a ds = some c → RVs K m vs ds → vs.all flatV = true ∧ inV v vs = c ∧ (ds ≠ [] → flatV v = true)
  | [], _, c, e, rr => by
    cases rr
    cases e
    exact ⟨rfl, rfl, fun h => (h rfl).elim⟩
  | d :: ds, _, c, e, rr => by
    cases rr with
    | @cons w _ ws _ r1 r2 =>
      simp only [anyD] at e
      cases h1 : eqD d a with
      | none => rw [h1] at e; cases e
      | some b =>
        rw [h1] at e
        simp only [Option.bind_some] at e
        cases h2 : anyD a ds with
        | none => rw [h2] at e; cases e
        | some c2 =>
          rw [h2] at e
          cases e
          obtain ⟨q1, q2, _⟩ := anyD_ok r h2 r2
          have key : flatV w = true ∧ flatV v = true ∧ eqV w v = b := by
            cases d with
            | int i =>
              cases a with
              | int j => cases h1; cases r1; cases r; exact ⟨rfl, rfl, by simp only [eqV]; exact Bool.beq_eq_decide_eq _ _⟩
              | _ => cases h1
            | str i =>
              cases a with
              | str j => cases h1; cases r1; cases r; exact ⟨rfl, rfl, by simp only [eqV]; exact Bool.beq_eq_decide_eq _ _⟩
              | _ => cases h1
            | _ => cases a <;> cases h1
          refine ⟨by simp [key.1]; simpa using q1, ?_, fun _ => key.2.1⟩
          unfold inV at q2 ⊢
          rw [List.any_cons, key.2.2, q2]
theorem in_seq {neg : Bool} {m : Mw} {st : Sto} {H : Hp} {v u : V} {a b : D} {Q : VK} (hS : RelS X.K m st H) (ra : RV X.K m v a) (rb : RV X.K m u b) (hf : flatV v = true)
    (hW : Want X.K m H st ((sq st b).bind fun xs => (anyD a xs).map fun c => D.bl (if neg then !c else c)) Q) : rIn X.K neg v u H Q := by
  cases h : sq st b with
  | none => rw [h] at hW; exact hW.none.elim
  | some ds =>
    rw [h] at hW
    simp only [Option.bind_some] at hW
    cases h2 : anyD a ds with
    | none => rw [h2] at hW; exact hW.none.elim
    | some c =>
      rw [h2] at hW
      obtain ⟨p, xs, rfl, hq, rv⟩ := sq_ok hS rb h
      obtain ⟨q1, q2, _⟩ := anyD_ok ra h2 rv
      refine ⟨p, xs, rfl, hq, hf, q1, ?_⟩
      rw [q2]
      exact hW.sc hS (.bl _)
theorem flat_ok {K : PySem.W.Frag} {m : Mw} {v : V} {a : D} (r : RV K m v a) (h : flatD a = true) : flatV v = true := by
  cases r <;> first | rfl | cases h
theorem in_any {neg : Bool} {m : Mw} {st : Sto} {H : Hp} {v u : V} {a b : D} {Q : VK} (hS : RelS X.K m st H) (ra : RV X.K m v a) (rb : RV X.K m u b) (hW : Want X.K m H st (fInG neg st a b) Q) :
    (∃ i j, v = .str i ∧ u = .str j ∧ Q (.bl (if neg then !(!(Builtin.Str.occurrences j i 0 j.length 1).isEmpty) else (!(Builtin.Str.occurrences j i 0 j.length 1).isEmpty))) H) ∨ rIn X.K neg v u H Q := by
  by_cases hf : flatD a = true
  · simp only [fInG, if_pos hf] at hW
    split at hW
    · cases ra
      cases rb
      exact .inl ⟨_, _, rfl, rfl, hW.sc hS (.bl _)⟩
    · exact .inr (in_seq hS ra rb (flat_ok ra hf) hW)
  · simp only [fInG, if_neg hf] at hW
    exact hW.none.elim
theorem o_in : OpR X (compareOp .In) (r2 X.K fIn) := by
  intro pins s σ H x y v u Q I rx ry ⟨m, st, a, b, hS, ra, rb, hW⟩
  rcases in_any hS ra rb hW with h | h
  · exact op_in_str pins s σ H x y v u Q I rx ry h
  · exact op_in_seq pins s σ H x y v u Q I rx ry h
theorem o_ni : OpR X (compareOp .NotIn) (r2 X.K fNi) := by
  intro pins s σ H x y v u Q I rx ry ⟨m, st, a, b, hS, ra, rb, hW⟩
  rcases in_any hS ra rb hW with h | h
  · exact L2.op_notin_str pins s σ H x y v u Q I rx ry h
  · exact op_notIn_seq pins s σ H x y v u Q I rx ry h
end

/-! ### functions as values -/
section
variable {X : Cx} {W : WX} {x : Str} {pos : Pos}
theorem me_fn (hm : X.mg x = some (.ref (He.ga X.K x))) (hg : Gl X x := by rfl) (hd : (x == ("__debug__" : Str)) = false := by decide) : ME X W (.Name x pos) (eC (.fn x)) :=
  me_c (pe_glob (v := .ref (He.ga X.K x)) hg hm rfl hd) fun m => .fn x
end
def eCallV (tbl : List (Str × MFun)) (i : Nat) (a : FA) : FE := fun env st => match env[i]? with
  | some (some (.fn x)) => match tbl.lookup x with
    | some F => (a env st).bind fun ds s1 => (F ds s1).at env
    | none => .no
  | _ => .no
/-- the defs that a slot may hold -/
def TblG (P : Program) (w : World) (K : PySem.W.Frag) (mg : Str → Option Value) (base : Heap) (j : Nat) (tbl : List (Str × MFun)) : Prop := ∀ p ∈ tbl, (∃ np, DefG P w K mg base j p.1 np p.2) ∧ mg p.1 = some (.ref (He.ga K p.1))
section
variable {X : Cx} {W : WX} {i j k : Nat} {x : Str} {p pos : Pos} {e : Expr} {es : List Expr} {ga : FA} {tbl : List (Str × MFun)}
theorem g_callV (T : TblG X.prog X.w X.K X.mg X.base j tbl) (hr : Room k X.A) (hG : X.A.guards = some []) (tk : Takes X W) (ha : MA X W (e :: es) ga) (l : j ≤ k := by decide) (hN : X.N[i]? = some x := by rfl)
    (hv : Vis X.env.scope x := by first | exact Or.inl rfl | exact Or.inr (Or.inl rfl) | exact Or.inr (Or.inr rfl)) (hdb : (x == ("__debug__" : Str)) = false := by decide) (hcd : (x == ("__classdict__" : Str)) = false := by decide)
    (he : starEach (e :: es) X.env = (false, eval e X.env) :: starEach es X.env := by rfl) (hpl : (backTo pos (starEach es X.env)).any (·.1) = false := by rfl) : ME X W (.Call (.Name x p) (e :: es) [] pos) (eCallV tbl i ga) := by
  refine ⟨fun pins s σ H Q I h => ?_⟩
  obtain ⟨m, env, st, hE, hS, h⟩ := h
  unfold eCallV at h
  split at h
  · rename_i y hy
    cases hF : tbl.lookup y with
    | none => rw [hF] at h; exact h.elim
    | some F =>
      rw [hF] at h
      obtain ⟨⟨np, D⟩, hmg⟩ := T (y, F) (PySem.mem_of_lookup hF)
      obtain ⟨f, fd, ps, G, hm, hk, hb, _⟩ := D.ex
      obtain ⟨v, h1, h2⟩ := hE.2 i _ hy
      cases h2
      have ef : f = He.ga X.K y := by
        have q := hm.symm.trans hmg
        cases q
        rfl
      subst ef
      refine wpAny_Call_Name_kw (thn ((pe_var (pos := p) hN hv hdb hcd).run pins s σ H (fun v H1 => v = .ref (He.ga X.K y) ∧ H1 = H) I ⟨.ref (He.ga X.K y), h1, rfl, rfl⟩) fun u s1 ⟨v, H1, I1, r1, q1⟩ => ?_)
      obtain ⟨ev, eH⟩ := q1
      subst ev
      rw [eH] at I1
      cases r1
      refine PySem.W.callWith_K (h₀ := X.base) I.ok.mod.kin hk (thn (ha.run pos pins s1 σ H (fun vs H1 => spM X.K F (vs ++ []) H1 Q (WE W σ)) I1 ⟨m, env, st, hE, hS, h.bind.imp fun ds m1 st1 H1 x1 s1 h1 vs rv => ?_⟩) fun us s2 ⟨vs, H2, I2, r, q⟩ => ⟨I2.kIn, ?_⟩) he hpl
      · show spM X.K F (vs ++ []) H1 Q (WE W σ)
        rw [List.append_nil]
        exact sp_at (hE.mono x1.ext) s1 rv h1
      · exact run_g (G.mono l) hr hG tk hb .nil I2 r q
  · exact h.elim
end
end MM
set_option Elab.async false
set_option linter.all false
set_option autoImplicit false
set_option maxRecDepth 100000
set_option maxHeartbeats 2000000
/-! M13: reckoning with mirrors. -/
namespace MM
open PySem PySem.Spec PyProof.Rows L2

def Ok {α : Type} (r : Rs α) (Q : α → Sto → Prop) : Prop := match r with
  | .ok a st => Q a st
  | _ => False
section
variable {α β : Type} {r : Rs α} {a : α} {st st' : Sto} {env : Env} {Q Q' : α → Sto → Prop}
@[simp] theorem Ok_ok : Ok (Rs.ok a st) Q ↔ Q a st := Iff.rfl
@[simp] theorem Ok_bind {f : α → Sto → Rs β} {R : β → Sto → Prop} : Ok (r.bind f) R ↔ Ok r fun a st => Ok (f a st) R := by
  cases r <;> exact Iff.rfl
@[simp] theorem Ok_at : Ok (r.at env) Q ↔ Ok r Q := by cases r <;> exact Iff.rfl
@[simp] theorem at_ok : (Rs.ok a st).at env = Rs.ok a st := rfl
theorem Ok.mono (h : Ok r Q) (k : ∀ a st, Q a st → Q' a st) : Ok r Q' := by
  cases r with
  | ok a st => exact k _ _ h
  | _ => exact h
theorem Ok.ex (h : Ok r Q) : ∃ a st, r = .ok a st ∧ Q a st := by
  cases r with
  | ok a st => exact ⟨a, st, rfl, h⟩
  | _ => exact h.elim
theorem Ok.of_eq (e : r = .ok a st) (h : Q a st) : Ok r Q := by rw [e]; exact h
@[simp] theorem Ok_val {o : Option α} : Ok (Rs.val o st) Q ↔ ∃ d, o = some d ∧ Q d st := by
  cases o with
  | none => exact ⟨fun h => h.elim, fun ⟨_, e, _⟩ => by cases e⟩
  | some d => exact ⟨fun h => ⟨d, rfl, h⟩, fun ⟨_, e, h⟩ => by cases e; exact h⟩
theorem Ok_if {c : Prop} [Decidable c] {x y : Rs α} : Ok (if c then x else y) Q ↔ if c then Ok x Q else Ok y Q := by
  by_cases h : c
  · rw [if_pos h, if_pos h]
  · rw [if_neg h, if_neg h]
end

/-! ### what the functions of slots and store are -/
section
variable {env : Env} {st : Sto} {i n : Nat} {d : D} {ds : List D} {a b c : FE} {ga gb : FA} {g g' : F2} {t u : FT} {x y z : SE}
@[simp] theorem u_eC : eC d env st = .ok d st := rfl
@[simp] theorem u_eV : eV i env st = match env[i]? with
  | some (some d) => .ok d st
  | _ => .no := rfl
@[simp] theorem u_e1 {g : F1} : e1 g a env st = (a env st).bind fun x s1 => Rs.val (g s1 x) s1 := rfl
@[simp] theorem u_e2 : e2 g a b env st = (a env st).bind fun x s1 => (b env s1).bind fun y s2 => Rs.val (g s2 x y) s2 := rfl
@[simp] theorem u_eL {g : FL} : eL g ga env st = (ga env st).bind fun xs s1 => Rs.val (g s1 xs) s1 := rfl
@[simp] theorem u_aN : aN env st = .ok [] st := rfl
@[simp] theorem u_aC : aC a ga env st = (a env st).bind fun x s1 => (ga env s1).bind fun xs s2 => .ok (x :: xs) s2 := rfl
@[simp] theorem u_tAn : tAn t u env st = (t env st).bind fun x s1 => if x = true then u env s1 else .ok false s1 := rfl
@[simp] theorem u_tOr : tOr' t u env st = (t env st).bind fun x s1 => if x = true then .ok true s1 else u env s1 := rfl
@[simp] theorem u_tNo : tNo t env st = (t env st).bind fun x s1 => .ok (!x) s1 := rfl
@[simp] theorem u_tY : tY env st = .ok true st := rfl
@[simp] theorem u_eIf : eIf t a b env st = (t env st).bind fun x s1 => if x = true then a env s1 else b env s1 := rfl
@[simp] theorem u_eTup : eTup ga env st = (ga env st).bind fun xs s1 => if xs.length ≤ 100000 then .ok (.tup xs) s1 else .no := rfl
@[simp] theorem u_eLst : eLst ga env st = (ga env st).bind fun xs s1 => if xs.length ≤ 100000 then .ok (.lst xs) s1 else .no := rfl
@[simp] theorem u_eNew : eNew ga env st = (ga env st).bind fun xs s1 => if xs.length ≤ 100000 then .ok (.loc s1.length) (s1 ++ [.lst xs]) else .no := rfl
@[simp] theorem u_eCall {F : MFun} : eCall F ga env st = (ga env st).bind fun ds s1 => (F ds s1).at env := rfl
@[simp] theorem u_eCallK {m : Nat} {F : MFun} : eCallK n m F ga gb env st = (ga env st).bind fun xs s1 => if xs.length = n then (gb env s1).bind fun ys s2 => if ys.length = m then (F (xs ++ ys) s2).at env else .no else .no := rfl
@[simp] theorem u_oN : oN env st = .ok none st := rfl
@[simp] theorem u_eSl {g : FS} {l h : FO} : eSl g a l h env st = (a env st).bind fun x s1 => (l env s1).bind fun lo s2 => (h env s2).bind fun hi s3 => Rs.val (g s3 x lo hi) s3 := rfl
@[simp] theorem u_gN : gN i d env st = .ok (env.set i (some d)) st := rfl
@[simp] theorem u_sSeq : sSeq x y env st = (x env st).bind fun p s1 => match p.1 with
  | .nx => y p.2 s1
  | _ => .ok p s1 := rfl
@[simp] theorem u_sRet : sRet a env st = (a env st).bind fun d s1 => .ok (.rt d, env) s1 := rfl
@[simp] theorem u_sNx : sNx env st = .ok (.nx, env) st := rfl
@[simp] theorem u_sIf : sIf t x y env st = (t env st).bind fun c s1 => if c = true then x env s1 else y env s1 := rfl
@[simp] theorem u_sSet {g : GE} : sSet g a env st = (a env st).bind fun d s1 => (g d env s1).bind fun en s2 => .ok (.nx, en) s2 := rfl
@[simp] theorem u_sDrop : sDrop a env st = (a env st).bind fun d s1 => .ok (.nx, env) s1 := rfl
@[simp] theorem u_sFor {it : FI} {g : GE} : sFor it g x env st = (it env st).bind fun p s1 => loopM g x p.gd p.ds env s1 := rfl
@[simp] theorem u_iR1 : iR1 ga env st = (ga env st).bind fun xs s1 => match xs with
  | [.int n] => if -(2 ^ 62) ≤ n ∧ n < 2 ^ 62 then .ok ⟨rngD 0 n.toNat, fun _ => True⟩ s1 else .no
  | _ => .no := rfl
@[simp] theorem u_eLm {g : Sto → List D → List D → Option (D × List D)} : eLm g a ga env st = (a env st).bind fun x s1 => match x with
  | .loc n => match s1[n]? with
    | some (.lst _) => (ga env s1).bind fun as s2 => match s2[n]? with
      | some (.lst xs) => match g s2 xs as with
        | some (d, ys) => .ok d (s2.set n (.lst ys))
        | none => .no
      | _ => .no
    | _ => .no
  | _ => .no := rfl
@[simp] theorem u_sPar {ix : List Nat} : sPar ix ga env st = (ga env st).bind fun ds s1 => if ds.length = ix.length then .ok (.nx, (ix.zip ds).foldl (fun en p => en.set p.1 (some p.2)) env) s1 else .no := rfl
end

/-! ### what the operations give -/
section
variable {st : Sto} {i j : Int} {x y : Str} {d : D} {xs ys : List D} {b c : Bool}
@[simp] theorem w_add : fAdd st (.int i) (.int j) = some (.int (i + j)) := rfl
theorem w_adds : fAdd st (.str x) (.str y) = some d ↔ x.length + y.length ≤ 100000 ∧ D.str (x ++ y) = d := by
  by_cases h : x.length + y.length ≤ 100000
  · simp [fAdd, fOr, fAddI, fI2, fAddS, h]
  · simp [fAdd, fOr, fAddI, fI2, fAddS, fAddT, h]
theorem w_addt : fAdd st (.tup xs) (.tup ys) = some d ↔ xs.length + ys.length ≤ 100000 ∧ D.tup (xs ++ ys) = d := by
  by_cases h : xs.length + ys.length ≤ 100000
  · simp [fAdd, fOr, fAddI, fI2, fAddS, fAddT, h]
  · simp [fAdd, fOr, fAddI, fI2, fAddS, fAddT, h]
theorem w_muls {n : Int} : fMul st (.str x) (.int n) = some d ↔ (-100000 ≤ n ∧ n ≤ 100000 ∧ x.length ≤ 100) ∧ D.str (rep x n.toNat) = d := by
  by_cases h : -100000 ≤ n ∧ n ≤ 100000 ∧ x.length ≤ 100
  · simp [fMul, fOr, fMulI, fI2, fMulS, h]
  · simp only [fMul, fOr, fMulI, fI2, fMulS, if_neg h]
    simp [h]
@[simp] theorem w_sub : fSub st (.int i) (.int j) = some (.int (i - j)) := rfl
@[simp] theorem w_neg : fNeg st (.int i) = some (.int (-i)) := rfl
theorem w_mul : fMul st (.int i) (.int j) = some d ↔ (-BB < i ∧ i < BB ∧ -BB < j ∧ j < BB) ∧ D.int (i * j) = d := by
  by_cases h : -BB < i ∧ i < BB ∧ -BB < j ∧ j < BB
  · have e : fMul st (.int i) (.int j) = some (.int (i * j)) := by simp [fMul, fOr, fMulI, fI2, h]
    rw [e]
    simp [h]
  · have e : fMul st (.int i) (.int j) = none := by simp only [fMul, fOr, fMulI, fI2, if_neg h]; rfl
    rw [e]
    simp [h]
theorem w_div : fDiv st (.int i) (.int j) = some d ↔ (0 < j ∧ j < BB) ∧ D.int (i / j) = d := by
  by_cases h : 0 < j ∧ j < BB <;> simp [fDiv, fI2, h]
theorem w_mod : fMod st (.int i) (.int j) = some d ↔ 0 < j ∧ D.int (i % j) = d := by
  by_cases h : 0 < j <;> simp [fMod, fI2, h]
theorem w_pow : fPow st (.int i) (.int j) = some d ↔ (-BB < i ∧ i < BB ∧ 0 ≤ j ∧ j ≤ 1000) ∧ D.int (i ^ j.toNat) = d := by
  by_cases h : -BB < i ∧ i < BB ∧ 0 ≤ j ∧ j ≤ 1000
  · simp [fPow, fI2, h]
  · simp only [fPow, fI2, if_neg h]
    simp [h]
@[simp] theorem w_lt : fLt st (.int i) (.int j) = some (.bl (decide (i < j))) := rfl
@[simp] theorem w_le : fLe st (.int i) (.int j) = some (.bl (decide (i ≤ j))) := rfl
@[simp] theorem w_gt : fGt st (.int i) (.int j) = some (.bl (decide (j < i))) := rfl
@[simp] theorem w_ge : fGe st (.int i) (.int j) = some (.bl (decide (j ≤ i))) := rfl
@[simp] theorem w_ixT : gIx st (.tup xs) (.int i) = atI xs i := rfl
@[simp] theorem w_ixL : gIx st (.lst xs) (.int i) = atI xs i := rfl
@[simp] theorem w_ixN {n : Nat} : gIx st (.loc n) (.int i) = (sq st (.loc n)).bind fun xs => atI xs i := rfl
@[simp] theorem w_len1 {a : D} : f1 gLen st [a] = gLen st a := rfl
@[simp] theorem w_lenT : gLen st (.tup xs) = some (.int xs.length) := rfl
@[simp] theorem w_lenL : gLen st (.lst xs) = some (.int xs.length) := rfl
@[simp] theorem w_lenN {n : Nat} : gLen st (.loc n) = (sq st (.loc n)).map fun xs => .int xs.length := rfl
@[simp] theorem w_abs : f1 gAbs st [.int i] = some (.int (if i < 0 then -i else i)) := rfl
@[simp] theorem w_max : f22 gMax st [.int i, .int j] = some (.int (if j > i then j else i)) := rfl
@[simp] theorem w_min : f22 gMin st [.int i, .int j] = some (.int (if j < i then j else i)) := rfl
@[simp] theorem w_intI : lOr (f1 gInt) (f1 gIntS) st [.int i] = some (.int i) := rfl
@[simp] theorem w_intB : lOr (f1 gInt) (f1 gIntS) st [.bl b] = some (.int (if b = true then 1 else 0)) := rfl
@[simp] theorem w_isN : fIsN st d .non = some (.bl (isN d)) := rfl
@[simp] theorem w_noN : fNoN st d .non = some (.bl (!isN d)) := rfl
@[simp] theorem w_tupT : f1 gTup st [.tup xs] = some (.tup xs) := rfl
@[simp] theorem w_tupL : f1 gTup st [.lst xs] = some (.tup xs) := rfl
@[simp] theorem w_tupN {n : Nat} : f1 gTup st [.loc n] = (sqL st (.loc n)).map .tup := rfl
/-- a datum that a test asks -/
@[simp] theorem u_tVb {env : Env} {a : FE} : tV a env st = (a env st).bind fun x s1 => match x with
  | .bl b => .ok b s1
  | _ => .no := rfl
end

section
variable {α : Type} {x y z u v : α} {xs : List α}
@[simp] theorem at_0 : atI (x :: xs) 0 = some x := by
  have h : ixN (x :: xs).length 0 = some 0 := by simp [ixN]
  unfold atI
  rw [h]
  rfl
@[simp] theorem at_1 : atI (x :: y :: xs) 1 = some y := by
  have h : ixN (x :: y :: xs).length 1 = some 1 := by simp [ixN]; omega
  unfold atI
  rw [h]
  rfl
@[simp] theorem at_2 : atI (x :: y :: z :: xs) 2 = some z := by
  have h : ixN (x :: y :: z :: xs).length 2 = some 2 := by simp [ixN]; omega
  unfold atI
  rw [h]
  rfl
theorem at_nat {n : Nat} {d : α} (h : xs[n]? = some d) : atI xs (n : Int) = some d := L2.atI_nat h
@[simp] theorem at_last : atI (xs ++ [x]) (-1) = some x := by
  have h : ixN (xs ++ [x]).length (-1) = some xs.length := by
    unfold ixN
    rw [if_neg (by decide), if_pos (by simp; omega)]
    simp
    omega
  unfold atI
  rw [h]
  simp
theorem at_in {i : Int} (h0 : 0 ≤ i) (h1 : i < xs.length) : ∃ d, d ∈ xs ∧ atI xs i = some d := by
  have e : ixN xs.length i = some i.toNat := by
    unfold ixN
    rw [if_pos h0, if_pos h1]
  have hl : i.toNat < xs.length := by omega
  refine ⟨xs[i.toNat], List.getElem_mem hl, ?_⟩
  unfold atI
  rw [e]
  simp [hl]
theorem set_at {n : Nat} {v : α} (h : xs[n]? = some v) (w : α) : (xs.set n w)[n]? = some w := by
  rw [List.getElem?_set_self (List.getElem?_eq_some_iff.mp h).1]
end
/-! ### ends of defs -/
theorem frz_of {n : Nat} {st : Sto} {d : D} (h : below n d = true) : frz n st d = some d := by unfold frz; rw [if_pos h]
@[simp] theorem belows_int (n : Nat) : ∀ ns : List Int, belows n (ns.map D.int) = true
  | [] => rfl
  | x :: xs => by
    show (below n (.int x) && belows n (xs.map D.int)) = true
    rw [belows_int n xs]
    rfl
theorem okCut_refl (st : Sto) : okCut st st := ⟨Nat.le_refl _, fun _ _ => .inl rfl⟩
def outV : Fl → Option D
  | .rt d => some d
  | .nx => some .non
  | _ => none
theorem fnC_ok {np n : Nat} {c : SE} {ds : List D} {st : Sto} {Q : D → Sto → Prop} (hl : ds.length = np)
    (h : Ok (c (ds.map some ++ List.replicate (n - ds.length) none) st) fun p st' => ∃ d, outV p.1 = some d ∧ okCut st st' ∧ ∃ d', frz st.length st' d = some d' ∧ Q d' (st'.take st.length)) : Ok (fnC np n c ds st) Q := by
  unfold fnC
  rw [if_pos hl]
  obtain ⟨p, st', e, d, e1, ok, d', e2, q⟩ := h.ex
  rw [e]
  obtain ⟨f, en⟩ := p
  cases f with
  | rt z =>
    cases e1
    show Ok (cutR st (.ok d st')) Q
    simp only [cutR, if_pos ok, e2]
    exact q
  | nx =>
    cases e1
    show Ok (cutR st (.ok .non st')) Q
    simp only [cutR, if_pos ok, e2]
    exact q
  | _ => cases e1
theorem fnK_ok {np n : Nat} {c : SE} {ds : List D} {st : Sto} {Q : D → Sto → Prop} (hl : ds.length = np)
    (h : Ok (c (ds.map some ++ List.replicate (n - ds.length) none) st) fun p st' => ∃ d, outV p.1 = some d ∧ Q d st') : Ok (fnK np n c ds st) Q := by
  unfold fnK
  rw [if_pos hl]
  obtain ⟨p, st', e, d, e1, q⟩ := h.ex
  rw [e]
  obtain ⟨f, en⟩ := p
  cases f with
  | rt z => cases e1; exact q
  | nx => cases e1; exact q
  | _ => cases e1
/-- a def that leaves the store as it is -/
theorem fnC_eq {np n : Nat} {c : SE} {ds : List D} {st : Sto} {d : D} {en : Env} (hl : ds.length = np) (h : c (ds.map some ++ List.replicate (n - ds.length) none) st = .ok (.rt d, en) st) (hb : below st.length d = true) : fnC np n c ds st = .ok d st := by
  unfold fnC
  rw [if_pos hl, h]
  show cutR st (.ok d st) = _
  simp only [cutR, if_pos (okCut_refl st), frz_of hb, List.take_length]

/-! ### loops -/
theorem loop_ok {g : GE} {b : SE} {gd : Sto → Prop} {Q : Fl × Env → Sto → Prop} (I : List D → Env → Sto → Prop) (hg : ∀ rest env st, I rest env st → gd st)
    (hs : ∀ d rest env st, I (d :: rest) env st → Ok (g d env st) fun en s1 => Ok (b en s1) fun p s2 => match p.1 with
      | .nx => I rest p.2 s2
      | .ct => I rest p.2 s2
      | .bk => Q (.nx, p.2) s2
      | .rt d => Q (.rt d, p.2) s2) (hd : ∀ env st, I [] env st → Q (.nx, env) st) : ∀ ds env st, I ds env st → Ok (loopM g b gd ds env st) Q
  | [], env, st, h => by
    simp only [loopM, if_pos (hg _ _ _ h)]
    exact hd _ _ h
  | d :: ds, env, st, h => by
    simp only [loopM, if_pos (hg _ _ _ h), Ok_bind]
    refine (hs _ _ _ _ h).mono fun en s1 h1 => h1.mono fun p s2 h2 => ?_
    obtain ⟨f, e⟩ := p
    cases f with
    | nx => exact loop_ok I hg hs hd ds e s2 h2
    | ct => exact loop_ok I hg hs hd ds e s2 h2
    | bk => exact h2
    | rt d => exact h2
/-- a loop over a range -/
theorem loop_rng {lo : Int} {n : Nat} {g : GE} {b : SE} {Q : Fl × Env → Sto → Prop} {env : Env} {st : Sto} (I : Nat → Env → Sto → Prop) (h0 : I 0 env st)
    (hs : ∀ i env st, i < n → I i env st → Ok (g (.int (lo + (i : Int))) env st) fun en s1 => Ok (b en s1) fun p s2 => match p.1 with
      | .nx => I (i + 1) p.2 s2
      | .ct => I (i + 1) p.2 s2
      | .bk => Q (.nx, p.2) s2
      | .rt d => Q (.rt d, p.2) s2) (hd : ∀ env st, I n env st → Q (.nx, env) st) : Ok (loopM g b (fun _ => True) (rngD lo n) env st) Q := by
  refine loop_ok (fun ds env st => ∃ i, i ≤ n ∧ ds = (rngD lo n).drop i ∧ I i env st) (fun _ _ _ _ => trivial) ?_ ?_ _ _ _ ⟨0, Nat.zero_le _, rfl, h0⟩
  · rintro d rest env st ⟨i, hi, e, h⟩
    have hlen : (rngD lo n).length = n := by simp [rngD]
    have hlt : i < n := by
      refine Classical.byContradiction fun hn => ?_
      rw [List.drop_eq_nil_of_le (by omega)] at e
      cases e
    have e2 : (rngD lo n).drop i = D.int (lo + (i : Int)) :: (rngD lo n).drop (i + 1) := by
      rw [List.drop_eq_getElem_cons (by omega)]
      simp [rngD]
    rw [e2] at e
    obtain ⟨rfl, rfl⟩ := List.cons.inj e
    refine (hs i env st hlt h).mono fun en s1 h1 => h1.mono fun p s2 h2 => ?_
    obtain ⟨f, en⟩ := p
    cases f with
    | nx => exact ⟨i + 1, hlt, rfl, h2⟩
    | ct => exact ⟨i + 1, hlt, rfl, h2⟩
    | bk => exact h2
    | rt d => exact h2
  · rintro env st ⟨i, hi, e, h⟩
    have hlen : (rngD lo n).length = n := by simp [rngD]
    have hge : i = n := by
      refine Classical.byContradiction fun hn => ?_
      have : ((rngD lo n).drop i).length = 0 := by rw [← e]; rfl
      simp at this
      omega
    rw [hge] at h
    exact hd _ _ h

/-! ### comprehensions whose parts leave the store as it is -/
theorem lcM_map {env0 : Env} {g : GE} {e : FE} {gd : Sto → Prop} {st : Sto} {f : D → D} (hg : gd st) : ∀ (ds acc : List D), (∀ d ∈ ds, ∃ en, g d env0 st = .ok en st ∧ e en st = .ok (f d) st) → acc.length + ds.length ≤ 100000 → lcM env0 g tY e gd ds acc st = .ok (acc ++ ds.map f) st
  | [], acc, _, _ => by simp [lcM, hg]
  | d :: ds, acc, h, hl => by
    obtain ⟨en, h1, h2⟩ := h d List.mem_cons_self
    have hl' : acc.length + (ds.length + 1) ≤ 100000 := by simpa using hl
    have ih := lcM_map (env0 := env0) (g := g) (e := e) hg ds (acc ++ [f d]) (fun x hx => h x (List.mem_cons_of_mem _ hx)) (by simp; omega)
    have hc : gd st ∧ acc.length < 100000 := ⟨hg, by omega⟩
    simp only [lcM, if_pos hc, h1, Rs.nox, Rs.bind_ok, tY, h2, if_true, ih]
    simp
theorem eLc_map {it : FI} {g : GE} {e : FE} {vs : List Nat} {env : Env} {st s1 : Sto} {p : Its} {f : D → D} (hi : it env st = .ok p s1) (hg : p.gd s1) (h : ∀ d ∈ p.ds, ∃ en, g d (wipeE env vs) s1 = .ok en s1 ∧ e en s1 = .ok (f d) s1) (hl : p.ds.length ≤ 100000) :
    eLc it g tY e vs env st = .ok (.lst (p.ds.map f)) s1 := by
  unfold eLc lcR
  rw [hi]
  simp only [Rs.bind_ok]
  rw [lcM_map hg p.ds [] h (by simpa using hl)]
  simp
end MM
set_option Elab.async false
set_option linter.all false
set_option autoImplicit false
set_option maxRecDepth 100000
set_option maxHeartbeats 2000000
/-! M14: texts, digits, what is written out. -/
namespace MM
open PySem PySem.Spec PyProof.Rows L2

/-! ### the length of what is written out -/
mutual
def cw : PyData → Nat
  | .none => 4
  | .bool _ => 5
  | .int _ => 1921
  | .str x => 10 * x.length + 2
  | .list xs => 2 + cws xs
  | .tuple xs => 3 + cws xs
  | .dict _ => 0
def cws : List PyData → Nat
  | [] => 0
  | x :: xs => cw x + 2 + cws xs
end
theorem slen (a b : Str) : (a ++ b).length = a.length + b.length := strLen_append a b
theorem textFrom_le : ∀ (ts : List Str) (k : Nat) (acc : Str), (textFrom k acc ts).length ≤ acc.length + (ts.map fun t => t.length + 2).sum
  | [], k, acc => by simp [textFrom]
  | t :: ts, k, acc => by
    have ih := textFrom_le ts (k + 1) (acc ++ (if k > 0 then ", " else "" : String) ++ t)
    have e : (acc ++ (if k > 0 then ", " else "" : String) ++ t).length ≤ acc.length + 2 + t.length := by
      rw [slen, slen]
      have : (((if k > 0 then ", " else "" : String) : Str)).length ≤ 2 := by split <;> decide
      omega
    show (textFrom (k + 1) _ ts).length ≤ _
    simp only [List.map_cons, List.sum_cons]
    omega
mutual
theorem shown_le : ∀ p : PyData, p.showable = true → p.canLay0 = true → p.shown.length ≤ cw p
  | .none, _, _ => by decide
  | .bool b, _, _ => by cases b <;> decide
  | .int i, h, _ => by
    have h' : i.natAbs.log2 < 1920 := by simpa [PyData.showable] using h
    exact PyProof.Rows.int_text_len_1921 h'
  | .str x, _, hd => by
    show (reprText x).length ≤ 10 * x.length + 2
    refine StrLaws.reprText_len x fun c hc => ?_
    have h1 : x.cps.all (· < 0x110000) = true := hd
    rw [Array.all_eq_true'] at h1
    have := h1 c (by simpa using hc)
    have : c < 0x110000 := by simpa using this
    omega
  | .list xs, h, hd => by
    have ih := shownAll_le xs (by simpa [PyData.showable] using h) (by simpa [PyData.canLay0] using hd)
    show (listText (PyData.shownAll xs)).length ≤ 2 + cws xs
    unfold listText
    have := textFrom_le (PyData.shownAll xs) 0 "["
    rw [slen]
    have e1 : (("[" : String) : Str).length = 1 := rfl
    have e2 : (("]" : String) : Str).length = 1 := rfl
    omega
  | .tuple xs, h, hd => by
    have ih := shownAll_le xs (by simpa [PyData.showable] using h) (by simpa [PyData.canLay0] using hd)
    show (tupleText (PyData.shownAll xs)).length ≤ 3 + cws xs
    unfold tupleText
    have h2 := StrLaws.join_length_le ", " (PyData.shownAll xs)
    have e0 : ((", " : String) : Str).length = 2 := rfl
    have e1 : (("(" : String) : Str).length = 1 := rfl
    have e2 : (((if (PyData.shownAll xs).length == 1 then ",)" else ")" : String)) : Str).length ≤ 2 := by split <;> decide
    have e3 : ∀ ts : List Str, (ts.map fun t => t.length + 2).sum = (ts.map (·.length)).sum + ts.length * 2 := fun ts => by
      induction ts with
      | nil => rfl
      | cons t ts ih => simp only [List.map_cons, List.sum_cons, List.length_cons, ih]; omega
    rw [e3] at ih
    rw [slen, slen]
    rw [e0] at h2
    omega
  | .dict _, _, hd => by simp [PyData.canLay0] at hd
theorem shownAll_le : ∀ ps : List PyData, PyData.showableAll ps = true → PyData.canLayAll0 ps = true → ((PyData.shownAll ps).map fun t => t.length + 2).sum ≤ cws ps
  | [], _, _ => Nat.le_refl _
  | p :: ps, h, hd => by
    have h' : p.showable = true ∧ PyData.showableAll ps = true := by simpa [PyData.showableAll] using h
    have hd' : p.canLay0 = true ∧ PyData.canLayAll0 ps = true := by simpa [PyData.canLayAll0] using hd
    have a := shown_le p h'.1 hd'.1
    have b := shownAll_le ps h'.2 hd'.2
    simp only [PyData.shownAll, List.map_cons, List.sum_cons, cws]
    omega
end

/-! ### the signs of numbers -/
theorem istr_tl (m : Nat) : (istr (m : Int)).cps.toList = (Nat.toDigits 10 m).map Char.toNat := PySem.W.KIN.signs_num m
theorem dig_all {n : Int} (h : 0 ≤ n) : ∀ c ∈ (istr n).cps.toList, 48 ≤ c ∧ c ≤ 57 := by
  obtain ⟨m, rfl⟩ := Int.eq_ofNat_of_zero_le h
  intro c hc
  have hc' : c ∈ (Nat.toDigits 10 m).map Char.toNat := by rw [← istr_tl]; exact hc
  obtain ⟨ch, hch, e⟩ := List.mem_map.mp hc'
  have r := digit_range (Nat.isDigit_of_mem_toDigits (by decide) (by decide) hch)
  rw [← e]
  exact r
theorem istr_len {n : Int} (h : 0 ≤ n) : (istr n).length = (Nat.toDigits 10 n.toNat).length := by
  obtain ⟨m, rfl⟩ := Int.eq_ofNat_of_zero_le h
  have e := congrArg List.length (istr_tl m)
  rw [List.length_map] at e
  exact e
theorem dig_len {n : Int} {k : Nat} (h : 0 ≤ n) (hk : 0 < k) (h2 : n < 10 ^ k) : 1 ≤ (istr n).length ∧ (istr n).length ≤ k := by
  rw [istr_len h]
  refine ⟨Nat.length_toDigits_pos, (Nat.length_toDigits_le_iff (by decide) hk).mpr ?_⟩
  have e : ((10 ^ k : Nat) : Int) = (10 : Int) ^ k := Int.natCast_pow 10 k
  rw [← e] at h2
  omega
theorem dig_read {n : Int} (h : 0 ≤ n) (h2 : n < 10 ^ 200) : PySem.intText? (istr n) = some n := by
  have hl := (dig_len h (by decide) h2)
  obtain ⟨m, rfl⟩ := Int.eq_ofNat_of_zero_le h
  have hne : (istr ((m : Nat) : Int)).cps.toList ≠ [] := fun e => by
    have q : (istr ((m : Nat) : Int)).length = 0 := by
      show (istr ((m : Nat) : Int)).cps.size = 0
      rw [← Array.length_toList, e]
      rfl
    have := hl.1
    omega
  have e := PySem.intText_digits (fun c hc => dig_all h c hc) hne (by have := hl.2; omega)
  rw [istr_tl, PySem.W.KIN.val_back] at e
  exact e
theorem toDigits_head : ∀ (n : Nat), 0 < n → ∃ c r, Nat.toDigits 10 n = c :: r ∧ c.toNat ≠ 48 := by
  intro n
  induction n using Nat.strongRecOn with
  | _ n ih =>
    intro h
    by_cases hn : n < 10
    · refine ⟨_, [], Nat.toDigits_of_lt_base hn, ?_⟩
      have : ∀ d : Nat, d < 10 → 0 < d → (Nat.digitChar d).toNat ≠ 48 := by decide
      exact this n hn h
    · have hm : n % 10 < 10 := Nat.mod_lt n (by decide)
      have t : Nat.toDigits 10 (n / 10) ++ Nat.toDigits 10 (n % 10) = Nat.toDigits 10 (10 * (n / 10) + n % 10) := Nat.toDigits_append_toDigits (by decide) (by omega) hm
      rw [Nat.div_add_mod] at t
      obtain ⟨c, r, e, hc⟩ := ih (n / 10) (by omega) (by omega)
      exact ⟨c, r ++ Nat.toDigits 10 (n % 10), by rw [← t, e]; rfl, hc⟩
theorem dig_head {n : Int} (h : 0 < n) : ∃ c r, (istr n).cps.toList = c :: r ∧ c ≠ 48 := by
  obtain ⟨m, rfl⟩ := Int.eq_ofNat_of_zero_le (Int.le_of_lt h)
  obtain ⟨c, r, e, hc⟩ := toDigits_head m (by omega)
  refine ⟨c.toNat, r.map Char.toNat, ?_, hc⟩
  rw [istr_tl, e]
  rfl
theorem istr_0 : istr 0 = "0" := by decide
theorem BB_TB : (10 : Int) ^ 450 ≤ TB := by rw [TB_eq]; decide +kernel

/-! ### texts -/
theorem str_assoc (x y z : Str) : (x ++ y) ++ z = x ++ (y ++ z) := by
  obtain ⟨a⟩ := x
  obtain ⟨b⟩ := y
  obtain ⟨c⟩ := z
  show Str.mk ((a ++ b) ++ c) = Str.mk (a ++ (b ++ c))
  rw [Array.append_assoc]
@[simp] theorem str_e (x : Str) : Str.empty ++ x = x := by
  obtain ⟨a⟩ := x
  show Str.mk (#[] ++ a) = Str.mk a
  simp
/-! ### texts of valid signs -/
abbrev okS (x : Str) : Prop := x.cps.all (· < 0x110000) = true
theorem okS_of {x : Str} (h : ∀ c ∈ x.cps.toList, c < 0x110000) : okS x := by
  unfold okS
  rw [Array.all_eq_true']
  intro c hc
  exact decide_eq_true (h c (by simpa using hc))
theorem okS.to {x : Str} (h : okS x) : ∀ c ∈ x.cps.toList, c < 0x110000 := by
  unfold okS at h
  rw [Array.all_eq_true'] at h
  intro c hc
  have := h c (by simpa using hc)
  simpa using this
theorem okS_app {x y : Str} (h : okS x) (g : okS y) : okS (x ++ y) := okS_of fun c hc => by
  have hc' : c ∈ x.cps.toList ++ y.cps.toList := by
    have e : (x ++ y).cps.toList = x.cps.toList ++ y.cps.toList := TL.tl_append x y
    rw [← e]; exact hc
  rcases List.mem_append.mp hc' with q | q
  · exact h.to c q
  · exact g.to c q
theorem okS_istr {n : Int} (h : 0 ≤ n) : okS (istr n) := okS_of fun c hc => by have := dig_all h c hc; omega
theorem okS_join {y : Str} (hy : okS y) : ∀ {xs : List Str}, (∀ x ∈ xs, okS x) → okS (Txt.join y xs)
  | xs, h => by
    rw [TL.join_eq]
    induction xs with
    | nil =>
      refine okS_of fun c hc => ?_
      cases (show c ∈ ([] : List Nat) from hc)
    | cons x xs ih =>
      cases xs with
      | nil => exact h x List.mem_cons_self
      | cons z zs =>
        show okS (x ++ y ++ Str.join y (z :: zs))
        exact okS_app (okS_app (h x List.mem_cons_self) hy) (ih fun w hw => h w (List.mem_cons_of_mem _ hw))
theorem join_len (y : Str) (xs : List Str) {B : Nat} (h : ∀ x ∈ xs, x.length ≤ B) : (xs.map (·.length)).sum + xs.length * y.length ≤ xs.length * (B + y.length) := by
  induction xs with
  | nil => simp
  | cons x xs ih =>
    have h1 := h x List.mem_cons_self
    have h2 := ih fun z hz => h z (List.mem_cons_of_mem _ hz)
    simp only [List.map_cons, List.sum_cons, List.length_cons, Nat.succ_mul] at h2 ⊢
    omega

/-! ### equality of data -/
section
variable {st : Sto} {x y : Str} {i j : Int} {d e : D} {p q : PyData} {b c : Bool}
theorem w_eq (hp : dpS st d = some p) (hq : dpS st e = some q) (h1 : SeqAt.shaped p = true) (h2 : SeqAt.shaped q = true) : fEq st d e = some (.bl (PyData.eqv p q)) := by
  unfold fEq
  split
  · cases hp
    cases hq
    simp only [PyData.eqv]
  · simp only [fEqD, hp, hq, h1, h2, and_self, if_true]
theorem w_ne (hp : dpS st d = some p) (hq : dpS st e = some q) (h1 : SeqAt.shaped p = true) (h2 : SeqAt.shaped q = true) : fNe st d e = some (.bl (!PyData.eqv p q)) := by
  unfold fNe
  split
  · cases hp
    cases hq
    simp only [PyData.eqv]
  · simp only [fNeD, hp, hq, h1, h2, and_self, if_true]
@[simp] theorem w_eqS : fEq st (.str x) (.str y) = some (.bl (x == y)) := rfl
@[simp] theorem w_neS : fNe st (.str x) (.str y) = some (.bl (!(x == y))) := rfl
@[simp] theorem w_eqi : fEq st (.int i) (.int j) = some (.bl (i == j)) := by
  rw [w_eq (p := .int i) (q := .int j) rfl rfl rfl rfl]
  simp only [PyData.eqv]
@[simp] theorem w_nei : fNe st (.int i) (.int j) = some (.bl (!(i == j))) := by
  rw [w_ne (p := .int i) (q := .int j) rfl rfl rfl rfl]
  simp only [PyData.eqv]
theorem shaped_str (h : okS x) : SeqAt.shaped (.str x) = true := by
  unfold SeqAt.shaped
  have : (PyData.str x).canLay0 = true := h
  rw [this]
  rfl
theorem w_eqs (hx : okS x) (hy : okS y) : fEq st (.str x) (.str y) = some (.bl (x == y)) := by
  rw [w_eq (p := .str x) (q := .str y) rfl rfl (shaped_str hx) (shaped_str hy)]
  simp only [PyData.eqv]
theorem w_nes (hx : okS x) (hy : okS y) : fNe st (.str x) (.str y) = some (.bl (!(x == y))) := by
  rw [w_ne (p := .str x) (q := .str y) rfl rfl (shaped_str hx) (shaped_str hy)]
  simp only [PyData.eqv]
/-- a tuple of ints -/
def tD (ns : List Int) : D := .tup (ns.map .int)
@[simp] theorem dps_int (f : Nat → Option PyData) : ∀ ns : List Int, dps f (ns.map D.int) = some (ns.map PyData.int)
  | [] => rfl
  | n :: ns => by simp [dps, dp, dps_int f ns]
@[simp] theorem dps_str (f : Nat → Option PyData) : ∀ ns : List Str, dps f (ns.map D.str) = some (ns.map PyData.str)
  | [] => rfl
  | n :: ns => by simp [dps, dp, dps_str f ns]
@[simp] theorem can_int : ∀ ns : List Int, PyData.canLayAll0 (ns.map PyData.int) = true
  | [] => rfl
  | n :: ns => by simp [PyData.canLayAll0, PyData.canLay0, can_int ns]
@[simp] theorem dep_int : ∀ ns : List Int, PyData.depthAll (ns.map PyData.int) = 0
  | [] => rfl
  | n :: ns => by simp [PyData.depthAll, PyData.depth, dep_int ns]
theorem shaped_ints (ns : List Int) : SeqAt.shaped (.tuple (ns.map .int)) = true := by
  simp [SeqAt.shaped, PyData.canLay0, PyData.depth]
end
end MM
set_option Elab.async false
set_option linter.all false
set_option autoImplicit false
set_option maxRecDepth 100000
set_option maxHeartbeats 2000000
/-! M15: starred displays, fields that are aligned right. -/
namespace MM
open PySem PySem.Spec PyProof.Rows L2 PySem.W
noncomputable section
/-! ### *e in a display -/
def aS (a : FE) (r : FA) : FA := fun env st => (a env st).bind fun x s1 => match sq s1 x with
  | some xs => (r env s1).bind fun ys s2 => .ok (xs ++ ys) s2
  | none => .no
section
variable {X : Cx} {W : WX} {e : Expr} {es : List Expr} {fa : FE} {ga : FA} {p : Pos}
theorem ma_star (ha : ME X W e fa) (hr : MA X W es ga) (hs : starEach (.Starred e p :: es) X.env = (true, eval e X.env) :: starEach es X.env := by rfl) : MA X W (.Starred e p :: es) (aS fa ga) := by
  refine pa_wk (StX.pa_star ha hr hs) ?_
  rintro σ H Q ⟨m, env, st, hE, hS, h⟩
  refine ⟨m, env, st, hE, hS, h.bind.imp fun x m1 st1 H1 x1 s1 h1 v rv => ?_⟩
  cases hq : sq st1 x with
  | none => rw [hq] at h1; exact h1.elim
  | some ds =>
    rw [hq] at h1
    obtain ⟨a, xs, rfl, hsq, rvs⟩ := sq_ok s1 rv hq
    refine ⟨a, xs, rfl, hsq.symm, m1, env, st1, hE.mono x1.ext, s1, h1.bind.imp fun ys m2 st2 H2 x2 s2 h2 us rus => ?_⟩
    exact h2 m2 H2 (Ex.refl m2 _) s2 _ ((rvs.mono x2.ext).append rus)
end

/-! ### {x:>w} -/
def padN (w : Nat) (x : Str) : Str := rep " " (w - x.length) ++ x
def wSpec (w : Nat) : Builtin.Float.FormatSpec := { fill := 32, align := 62, width := some w }
section
variable {prog : Program} {wd : World} {A : Around} {E : Value → Shared → Prop} {s : Shared}
open Builtin Builtin.Str Builtin.Int Builtin.Float PySem.W in
theorem int_pad {a : Int} {t u : Tok} {sp : PySem.Str} {f : FormatSpec} (hd : a.natAbs.log2 < 1920)
    (hp : parseFormatSpec sp.cps.toList "int" 62 = .ok f) (hne : (sp.length == 0) = false)
    (has : ((sp.cps.toList.drop 1).any (· ≥ 128) || (sp.cps.getD 0 0 ≥ 128 && !([60, 62, 61, 94] : List Nat).contains (sp.cps.getD 1 0))) = false)
    (f1 : f.type.getD (if sp.cps.back? == some 0 then 0 else 100) = 100) (f2 : f.precision = none) (f3 : f.noNeg0 = false) (f4 : f.alt = false) (f5 : f.width.getD 0 ≤ 100000) (f6 : f.grouping = none) (f7 : f.sign = none)
    (sz : (intSpecText f a).length ≤ sizeLine) :
    Meets («int.__format__» ⟨[.int a t, .str sp u], []⟩) (fun _ R s => ∀ t' k, R (.ok (.ret (.str (intSpecText f a) t'))) { s with toks := k }) :=
  .of_wp fun prog wd A R s h => by
    unfold «int.__format__»
    simp only [selfAndOne, noKeywords, Int.intOfSelf, asInt?, asStr?, List.isEmpty_nil, if_true, pure_bind, bind_pure, bind_assoc, hne, has, Bool.false_eq_true, if_false, show (Value.str sp u == Value.none) = false from rfl]
    refine wpAny_bind (wpAny_typeNameOf (T := "str") (typeIs_str _ _ _) (by decide) fun _ => ?_)
    first | refine wpAny_bind (wpAny_typeNameOfCut_int ?_) | refine wpAny_bind (wpAny_typeNameOf_int ?_)
    simp only [hp, f1]
    rw [if_pos (by decide)]
    show wpAny _ _ (if _ then _ else _) _ _ _
    rw [if_neg (by simp [f2])]
    show wpAny _ _ (if _ then _ else _) _ _ _
    rw [if_neg (by simp [f3])]
    show wpAny _ _ (if _ then _ else _) _ _ _
    rw [if_neg (by decide)]
    show wpAny _ _ (do let r ← Builtin.overDigitLimit? a; _) _ _ _
    rw [PySem.overDigitLimit_small hd]
    show wpAny _ _ (if _ then _ else _) _ _ _
    rw [if_neg (by have f5' : ¬ (f.width.getD 0 > 100000) := by omega
                   simpa using f5')]
    show wpAny _ _ (retStr _) _ _ _
    refine KXf.ret_text (T := intSpecText f a) ?_ ?_ fun t' k => ⟨_, rfl, h t' k⟩
    · simp only [f4, Bool.false_eq_true, if_false, show ((10 : Nat) == 10) = true by decide, if_true]
      conv => lhs; whnf
      simp only [intSpecText, intField', f6, f7, f4, Bool.false_eq_true, if_false, show ((10 : Nat) == 10) = true by decide, if_true]
      rfl
    · refine Nat.le_trans (Nat.le_of_eq ?_) sz
      simp only [f4, Bool.false_eq_true, if_false, show ((10 : Nat) == 10) = true by decide, if_true]
      conv => lhs; arg 1; whnf
      simp only [intSpecText, intField', f6, f7, f4, Bool.false_eq_true, if_false, show ((10 : Nat) == 10) = true by decide, if_true]
      rfl
open Builtin Builtin.Str in
theorem padded_eq (x : PySem.Str) (n : Nat) : padded x n 0 32 = rep " " n ++ x := by
  obtain ⟨c⟩ := x
  show (PySem.Str.mk (Array.replicate n 32 ++ c ++ Array.replicate 0 32)) = PySem.Str.mk (((List.replicate n [32]).flatten).toArray ++ c)
  congr 1
  have e : (List.replicate n [32]).flatten = List.replicate n 32 := by
    induction n with
    | zero => rfl
    | succ n ih => rw [List.replicate_succ, List.replicate_succ, List.flatten_cons, ih]; rfl
  rw [e]
  simp
theorem rep_0 (x : PySem.Str) : rep x 0 = PySem.Str.empty := rfl
open Builtin Builtin.Str Builtin.Int Builtin.Float PySem.W in
theorem str_pad {x : PySem.Str} {t u : Tok} {sp : PySem.Str} {w : Nat} (hp : ∀ n, parseFormatSpec sp.cps.toList n 60 = .ok (wSpec w)) (hne : (sp.length == 0) = false)
    (has : ((sp.cps.toList.drop 1).any (· ≥ 128) || (sp.cps.getD 0 0 ≥ 128 && !([60, 62, 61, 94] : List Nat).contains (sp.cps.getD 1 0))) = false) (hb : (sp.cps.back? == some 0) = false) (hw : w ≤ 1000) (hx : x.length ≤ 1000000) :
    Meets («str.__format__» ⟨[.str x t, .str sp u], []⟩) (fun _ R s => ∀ t' k, R (.ok (.ret (.str (padN w x) t'))) { s with toks := k }) :=
  .of_wp fun prog wd A R s h => by
    unfold «str.__format__»
    simp only [strOneArg, selfAndOne, textOf, noKeywords, asStr?, List.isEmpty_nil, if_true, pure_bind, bind_pure, bind_assoc, hne, has, Bool.false_eq_true, if_false]
    refine wpAny_bind (KXf.cut_str ?_)
    simp only [hp, wSpec, hb, Bool.and_false, Bool.false_eq_true, if_false]
    have ht : tooLong w = false := by
      unfold tooLong
      exact decide_eq_false (by have : sizeLine = 16777216 := sizeLine_eq; omega)
    have hs : strField x { align := 62, width := some w } "str" = .ok (if w ≤ x.length then none else some (padN w x)) := by
      unfold strField
      by_cases hl : w ≤ x.length
      · simp [hl]
        rfl
      · have e1 : strSub x 0 x.length = x := by
          obtain ⟨c⟩ := x
          show PySem.Str.mk (c.extract 0 c.size) = _
          simp
        simp [hl, e1, padded_eq, padN]
        rfl
    by_cases hl : w ≤ x.length
    · have e : w - x.length = 0 := by omega
      have e2 : padN w x = x := by unfold padN; rw [e, rep_0, str_e]
      rw [e2] at h
      rw [if_pos hl] at hs
      split
      · rename_i heq
        simp [ht, hs, bind, Except.bind, pure, Except.pure] at heq
      · rename_i heq
        simp [ht, hs, bind, Except.bind, pure, Except.pure] at heq
      · exact wpAny_bind (wpAny_rule (KXf.ret_same rfl fun t' k => ⟨_, rfl, h t' k⟩))
      · rename_i heq
        simp [ht, hs, bind, Except.bind, pure, Except.pure] at heq
    · rw [if_neg hl] at hs
      split
      · rename_i heq
        simp [ht, hs, bind, Except.bind, pure, Except.pure] at heq
      · rename_i heq
        simp [ht, hs, bind, Except.bind, pure, Except.pure] at heq
      · rename_i heq
        simp [ht, hs, bind, Except.bind, pure, Except.pure] at heq
      · rename_i heq
        simp [ht, hs, bind, Except.bind, pure, Except.pure] at heq
        subst heq
        refine KXf.ret_text rfl ?_ fun t' k => ⟨_, rfl, h t' k⟩
        have e : (padN w x).length ≤ 1001000 := by
          unfold padN
          rw [slen, rep_len]
          have : PySem.Str.length " " = 1 := rfl
          rw [this]
          omega
        exact Nat.le_trans e (by decide)
end
theorem intText_pad {w : Nat} {i : Int} (h : 0 ≤ i) : intSpecText (wSpec w) i = padN w (istr i) := by
  obtain ⟨m, rfl⟩ := Int.eq_ofNat_of_zero_le h
  have e1 : (istr (m : Int)).cps.toList = (Nat.toDigits 10 m).map Char.toNat := istr_tl m
  have e2 : (istr (m : Int)).length = (Nat.toDigits 10 m).length := istr_len (n := (m : Int)) (by omega)
  have hn : ¬ ((m : Int) < 0) := by omega
  have hne : ((Nat.toDigits 10 m).map Char.toNat).isEmpty = false := by
    have := @Nat.length_toDigits_pos 10 m
    cases hh : Nat.toDigits 10 m with
    | nil => rw [hh] at this; simp at this
    | cons c r => rfl
  have e3 : padN w (istr (m : Int)) = ⟨(List.replicate (w - (Nat.toDigits 10 m).length) 32 ++ (Nat.toDigits 10 m).map Char.toNat).toArray⟩ := by
    unfold padN
    rw [e2, ← padded_eq]
    show (PySem.Str.mk (Array.replicate (w - (Nat.toDigits 10 m).length) 32 ++ (istr (m : Int)).cps ++ Array.replicate 0 32)) = _
    congr 1
    apply Array.toList_inj.mp
    simp [e1]
  rw [e3]
  unfold intSpecText intField'
  simp [wSpec, hn, hne]
def gPad (w : Nat) : F1 := fun _ a => match a with
  | .int i => if 0 ≤ i ∧ i < TB then some (.str (padN w (istr i))) else none
  | .str x => if x.length ≤ 1000000 then some (.str (padN w x)) else none
  | _ => none
structure PadSp (sp : PySem.Str) (w : Nat) : Prop where
  pi : Builtin.Float.parseFormatSpec sp.cps.toList "int" 62 = .ok (wSpec w)
  ps : ∀ n, Builtin.Float.parseFormatSpec sp.cps.toList n 60 = .ok (wSpec w)
  ne : (sp.length == 0) = false
  as : ((sp.cps.toList.drop 1).any (· ≥ 128) || (sp.cps.getD 0 0 ≥ 128 && !([60, 62, 61, 94] : List Nat).contains (sp.cps.getD 1 0))) = false
  bk : (sp.cps.back? == some 0) = false
  sm : w ≤ 1000
  sz : sp.length ≤ 100
theorem pad2 : PadSp ">2" 2 := ⟨rfl, fun _ => rfl, rfl, by decide +kernel, by decide +kernel, by decide, by decide⟩
theorem pad20 : PadSp ">20" 20 := ⟨rfl, fun _ => rfl, rfl, by decide +kernel, by decide +kernel, by decide, by decide⟩
section
variable {X : Cx} {W : WX} {e : Expr} {fa : FE} {sp : PySem.Str} {w j : Nat} {p1 p2 pos : Pos}
def tPad (w : Nat) (te : TE) : TE := fun σ H Q => te σ H fun x H1 => (∃ i : Int, x = .int i ∧ (0 ≤ i ∧ i < TB) ∧ Q (.str (padN w (istr i))) H1) ∨ ∃ z : Str, x = .str z ∧ z.length ≤ 1000000 ∧ Q (.str (padN w z)) H1
theorem pe_pad {te : TE} (hs : PadSp sp w) (he : PE X e te) : PE X (.FormattedValue e (-1) (some (.JoinedStr [.Constant (.str sp) j p1] p2)) pos) (tPad w te) := by
  refine ⟨fun pins s σ H Q I h => ?_⟩
  refine wpAny_FormattedValue_spec (thn (he.run pins s σ H _ I h) fun v s1 ⟨x, H1, I1, r1, q⟩ => thn ((pe_joined1 (pe_str (x := sp) (j := j))).run pins s1 σ H1 (fun v' H' => v' = .str sp ∧ H' = H1) I1 ⟨rfl, rfl⟩) fun r s2 ⟨y, H2, I2, r2, ey, eH⟩ => ?_)
  subst ey eH
  obtain ⟨t2, rfl⟩ := r2
  refine ⟨sp, t2, rfl, ?_⟩
  have hz : sp.length ≤ sizeLine := Nat.le_trans hs.sz (by decide)
  rcases q with ⟨i, rfl, ⟨i0, i1⟩, q⟩ | ⟨z, rfl, hl, q⟩
  · obtain ⟨t, rfl⟩ := r1
    have hd := TB_log (i := i) ⟨by omega, i1⟩
    have e := intText_pad (w := w) i0
    refine KXf.field_int rfl hs.ne hz (fun u => int_pad hd hs.pi hs.ne hs.as ?_ rfl rfl rfl ?_ rfl rfl ?_) fun t' k => ?_
    · show (none : Option Nat).getD (if sp.cps.back? == some 0 then 0 else 100) = 100
      rw [hs.bk]
      rfl
    · show w ≤ 100000
      have := hs.sm
      omega
    · rw [e]
      have hle : (istr i).length ≤ 1921 := PyProof.Rows.int_text_len_1921 hd
      have hsm := hs.sm
      have e5 : (padN w (istr i)).length ≤ 1001000 := by
        unfold padN
        rw [slen, rep_len]
        have : PySem.Str.length " " = 1 := rfl
        rw [this]
        omega
      exact Nat.le_trans e5 (by decide)
    · rw [e]
      exact ⟨.str _, H2, I2.tok k, ⟨t', rfl⟩, q⟩
  · obtain ⟨t, rfl⟩ := r1
    exact KXf.field_str rfl rfl hs.ne hz (fun u => str_pad hs.ps hs.ne hs.as hs.bk hs.sm hl) fun t' k => ⟨.str _, H2, I2.tok k, ⟨t', rfl⟩, q⟩
theorem me_pad (hs : PadSp sp w) (ha : ME X W e fa) : ME X W (.FormattedValue e (-1) (some (.JoinedStr [.Constant (.str sp) j p1] p2)) pos) (e1 (gPad w) fa) := by
  refine pe_wk (pe_pad hs ha) ?_
  rintro σ H Q ⟨m, env, st, hE, hS, h⟩
  refine ⟨m, env, st, hE, hS, h.bind.imp fun x m1 st1 H1 x1 s1 h1 v rv => ?_⟩
  have hW := Want.of_fin h1
  cases x with
  | int i =>
    cases rv
    by_cases hb : 0 ≤ i ∧ i < TB
    · simp only [gPad, if_pos hb] at hW
      exact .inl ⟨i, rfl, hb, hW.sc s1 (.str _)⟩
    · simp only [gPad, if_neg hb] at hW
      exact hW.none.elim
  | str y =>
    cases rv
    by_cases hb : y.length ≤ 1000000
    · simp only [gPad, if_pos hb] at hW
      exact .inr ⟨y, rfl, hb, hW.sc s1 (.str _)⟩
    · simp only [gPad, if_neg hb] at hW
      exact hW.none.elim
  | _ => exact hW.none.elim
theorem me_pad2 (ha : ME X W e fa) : ME X W (.FormattedValue e (-1) (some (.JoinedStr [.Constant (.str ">2") j p1] p2)) pos) (e1 (gPad 2) fa) := me_pad pad2 ha
theorem me_pad20 (ha : ME X W e fa) : ME X W (.FormattedValue e (-1) (some (.JoinedStr [.Constant (.str ">20") j p1] p2)) pos) (e1 (gPad 20) fa) := me_pad pad20 ha
end
end
end MM
set_option Elab.async false
set_option linter.all false
set_option autoImplicit false
set_option maxRecDepth 100000
set_option maxHeartbeats 2000000
/-! M16: list(zip(..)): an iterator whose tuples are kept. -/
namespace MM
open PySem PySem.Spec PyProof.Rows L2

/-! ### a range, drawn -/
section
variable {prog : Program} {w : World} {A : Around}
theorem drawR (hh : A.handled = none) (it : Addr) (a c : Int) (n : Nat) :
    Draws prog w A it [it] n (fun i v => ∃ t, v = .int (a + (i : Int) * c) t) (fun i h => i ≤ n ∧ IsRangeIter h it (a + (i : Int) * c) ((n : Int) - i) c) where
  live := fun i h st => ⟨_, st.2⟩
  frame := fun i h h' st k => ⟨st.1, k it (by simp) _ st.2⟩
  item := fun i s Q E hi st hQ => by
    obtain ⟨_, hit⟩ := st
    have hT : s.TypeIs (.ref it) "range_iterator" := ⟨_, hit, rfl⟩
    unfold Builtin.SmallTypes.nextOf
    refine wpAny_bind (wpAny_callSpecial?_slot (name := Str.ofString "__next__") hT F.slot_range_iterator_next
      (call_meets F.slot_range_iterator_next hT F.entry_range_iterator_next (F.args_range_iterator_next_1 _) (AutoRange.range_iterator___next___range_iterator_1 it _ _ c (by omega)) ⟨hit, ?_⟩))
    refine wpAny_pure (hQ _ _ (s.toks + 1) ⟨s.toks, rfl⟩ ⟨hi, ?_⟩ ((Heap.SameBut.update ..).trans (Heap.SameBut.update ..)))
    have e1 : a + ((i + 1 : Nat) : Int) * c = a + (i : Int) * c + c := by push_cast; rw [Int.add_mul, Int.one_mul, Int.add_assoc]
    have e2 : (n : Int) - ((i + 1 : Nat) : Int) = (n : Int) - (i : Int) - 1 := by push_cast; omega
    rw [e1, e2]
    exact Heap.get?_update_self _ (Heap.get?_update_self _ hit rfl) rfl
  done := fun s Q E st hE => by
    obtain ⟨_, hit⟩ := st
    have hT : s.TypeIs (.ref it) "range_iterator" := ⟨_, hit, rfl⟩
    unfold Builtin.SmallTypes.nextOf
    refine wpAny_bind (wpAny_callSpecial?_slot (name := Str.ofString "__next__") hT F.slot_range_iterator_next
      (wpAny_call_entry F.slot_range_iterator_next hT F.entry_range_iterator_next ?_ (F.args_range_iterator_next_1 _)))
    show wpAny _ _ (field (.ref it) 0 >>= _) _ _ s
    refine wpAny_bind (wpAny_field hit rfl (x := rawInt _) rfl ?_)
    show wpAny _ _ (field (.ref it) 1 >>= _) _ _ s
    refine wpAny_bind (wpAny_field hit rfl (x := rawInt _) rfl ?_)
    show wpAny _ _ (field (.ref it) 2 >>= _) _ _ s
    refine wpAny_bind (wpAny_field hit rfl (x := rawInt c) rfl ?_)
    show wpAny _ _ (if (n : Int) - (n : Int) ≤ 0 then _ else _) _ _ s
    rw [if_pos (by omega)]
    refine wpAny_bind (wpAny_rule ?_)
    refine wpAny_bind ?_
    show wpAny _ _ (newExc (.type "StopIteration") [] >>= _) _ _ _
    refine wpAny_bind ?_
    simp only [newExc, newTuple]
    refine wpAny_bind (wpAny_newObj_type ?_ (by size_fits))
    refine wpAny_bind (m := firstArgMember _ _) (wpAny_of_eq (a := Value.none) (by first | rfl | (simp only [firstArgMember]; rfl)) ?_)
    refine wpAny_newObj_type ?_ (by size_fits)
    simp only [raiseNew]
    refine wpAny_bind (wpAny_handled ?_)
    first | rw [show A.in1.handled = none from hh] | rw [hh]
    refine wpAny_bind (wpAny_pure (wpAny_throw ?_))
    exact hE _ _ (((Heap.ExtBut.refl it s.heap).push _).push _) ⟨_, Heap.get?_push_size _ rfl, rfl⟩
theorem beginR {r : Addr} {a b c : Int} {t u v : Tok} (hs : Builtin.Range.small a b c = true) :
    Begins (.ref r) { cls := .type "range_iterator", data := .fields #[rawInt a, rawInt (Builtin.Range.rangeSize a b c), rawInt c] } fun h => IsRange h r a b c t u v where
  iter := fun prog w A E s Q hr h => wpAny_pyIter_range hr hs h
  keeps := fun h h' x k => k r _ x
  free := rfl
end

/-! ### an iterator whose tuples are kept while the list at S grows -/
structure Makes (prog : Program) (w : World) (A : Around) (z S : Addr) (n : Nat) (P : Nat → Array Value → Prop) (wr : List Addr) (St : Nat → Heap → Prop) : Prop where
  item : ∀ (i : Nat) (s : Shared) (Q : Option Value → Shared → Prop) (E : Value → Shared → Prop), i < n → St i s.heap → S < s.heap.objs.size →
    (∀ vals h' tk, P i vals → St (i + 1) h' → h'.get? s.heap.objs.size = some { cls := .type "tuple", data := .seq vals } → h'.objs.size = s.heap.objs.size + 1 →
      (∀ c o, c ∉ wr → s.heap.get? c = some o → h'.get? c = some o) → Q (some (.ref s.heap.objs.size)) { s with heap := h', toks := tk }) → wpAny (model prog w) A (pyNext (.ref z)) Q E s
  done : ∀ (s : Shared) (Q : Option Value → Shared → Prop) (E : Value → Shared → Prop), St n s.heap →
    (∀ h' tk, (∀ c o, c ∉ wr → s.heap.get? c = some o → h'.get? c = some o) → Q none { s with heap := h', toks := tk }) → wpAny (model prog w) A (pyNext (.ref z)) Q E s
  keep : ∀ (i : Nat) (h h' : Heap), St i h → (∀ b o, b ≠ S → h.get? b = some o → h'.get? b = some o) → St i h'
  low : ∀ b ∈ wr, b < S
  self : ∀ (A' : Around) (E : Value → Shared → Prop) (s : Shared) (Q : Value → Shared → Prop), St 0 s.heap → Q (.ref z) s → wpAny (model prog w) A' (pyIter (.ref z)) Q E s
/-- the tuples made, in their order -/
structure Tups (P : Nat → Array Value → Prop) (lo : Addr) (h : Heap) (as : List Addr) : Prop where
  rise : as.Pairwise (· < ·)
  above : ∀ a ∈ as, lo < a
  tups : ∀ (j : Nat) (a : Addr), as[j]? = some a → ∃ vals, P j vals ∧ h.get? a = some { cls := .type "tuple", data := .seq vals }
theorem Tups.there {P : Nat → Array Value → Prop} {lo : Addr} {h : Heap} {as : List Addr} (g : Tups P lo h as) {a : Addr} (ha : a ∈ as) : a < h.objs.size := by
  obtain ⟨j, hj⟩ := List.mem_iff_getElem?.mp ha
  obtain ⟨_, _, e⟩ := g.tups j a hj
  exact Heap.lt_size e
section
variable {prog : Program} {w : World} {A : Around} {s : Shared} {R : Result → Shared → Prop} {z S : Addr} {n : Nat} {P : Nat → Array Value → Prop} {wr : List Addr} {St : Nat → Heap → Prop}
theorem mk_loop (M : Makes prog w A.in1 z S n P wr St) (hn : n ≤ sizeLine) (res : Value) {h₁ : Heap}
    (hR : ∀ h' tk acc c as, (∀ b o, b ≠ S → b ∉ wr → h₁.get? b = some o → h'.get? b = some o) → h'.get? S = some { cls := .type "list", dict := none, data := .seq acc c, slots := #[] } → as.length = n → Tups P S h' as →
      acc.toList = as.map Value.ref → R (.ok (.ret res)) { s with heap := h', toks := tk }) :
    ∀ (k i : Nat) (h : Heap) (tk c : Nat) (acc : Array Value) (as : List Addr), n - i = k → i ≤ n → St i h → (∀ b o, b ≠ S → b ∉ wr → h₁.get? b = some o → h.get? b = some o) →
      h.get? S = some { cls := .type "list", dict := none, data := .seq acc c, slots := #[] } → acc.toList = as.map Value.ref → as.length = i → Tups P S h as →
      codeAny (model prog w) A (.builtin "list.extend.loop" ⟨[.ref S, .ref z, res], []⟩) R { s with heap := h, toks := tk } := by
  have hSw : S ∉ wr := fun q => Nat.lt_irrefl _ (M.low S q)
  have off : ∀ {b}, S < b → b ∉ wr := fun {b} q m => Nat.lt_asymm q (M.low b m)
  intro k
  induction k with
  | zero =>
    intro i h tk c acc as hk hi hst hkeep hS hacc hal hG
    have hin : i = n := by omega
    subst hin
    refine codeAny_builtin PySem.F.entry_extend_loop ?_
    rw [Around.under_plainId PySem.F.plain_extend_loop _]
    show wpAny _ A.in1 (pyNext (.ref z) >>= _) _ _ _
    refine wpAny_bind (M.done { s with heap := h, toks := tk } _ _ hst fun h' tk' he => ?_)
    refine wpAny_pure (hR h' tk' acc c as (fun b o h1 h2 e => he b o h2 (hkeep b o h1 h2 e)) (he S _ hSw hS) hal ⟨hG.rise, hG.above, fun j a hj => ?_⟩ hacc)
    obtain ⟨vals, e1, e2⟩ := hG.tups j a hj
    exact ⟨vals, e1, he a _ (off (hG.above a (List.mem_of_getElem? hj))) e2⟩
  | succ k ih =>
    intro i h tk c acc as hk hi hst hkeep hS hacc hal hG
    have hlt : i < n := by omega
    have hsz : acc.size = i := by rw [← Array.length_toList, hacc, List.length_map, hal]
    have hSl : S < h.objs.size := Heap.lt_size hS
    refine codeAny_builtin PySem.F.entry_extend_loop ?_
    rw [Around.under_plainId PySem.F.plain_extend_loop _]
    show wpAny _ A.in1 (pyNext (.ref z) >>= _) _ _ _
    refine wpAny_bind (M.item i { s with heap := h, toks := tk } _ _ hlt hst hSl fun vals h' tk' hp hst' ht hz hkp => ?_)
    dsimp only at ht hz hkp ⊢
    have hS' := hkp S _ hSw hS
    have up : ∀ b o, b ≠ S → h'.get? b = some o → (h'.update S (Obj.mapSeq (·.push (Value.ref h.objs.size)))).get? b = some o := fun b o hb e => (Heap.get?_update_other _ _ (Ne.symm hb)).trans e
    show wpAny _ A.in1 (updateSeq S (·.push (Value.ref h.objs.size)) >>= _) _ _ _
    refine wpAny_bind ?_
    refine wpAny_updateSeq hS' rfl (wpAny_pure ⟨plainId_quiet PySem.F.plain_extend_loop _, ih (i + 1) _ tk' _ (acc.push (Value.ref h.objs.size)) (as ++ [h.objs.size]) (by omega) hlt (M.keep _ _ _ hst' up)
      (fun b o h1 h2 e => up b o h1 (hkp b o h2 (hkeep b o h1 h2 e))) (Heap.get?_update_self _ hS' rfl) (by rw [Array.toList_push, hacc, List.map_append]; rfl) (by rw [List.length_append, hal]; rfl) ⟨?_, ?_, ?_⟩⟩) (by rw [hsz]; omega) (by show (acc.push (Value.ref h.objs.size)).size ≤ sizeLine + 1; rw [Array.size_push, hsz]; omega)
    · refine List.pairwise_append.mpr ⟨hG.rise, List.pairwise_singleton _ _, fun a ha b hb => ?_⟩
      rw [List.mem_singleton.mp hb]
      exact hG.there ha
    · intro a ha
      rcases List.mem_append.mp ha with ha | ha
      · exact hG.above a ha
      · rw [List.mem_singleton.mp ha]; exact hSl
    · intro j b hj
      rcases Nat.lt_trichotomy j as.length with h1 | h1 | h1
      · rw [List.getElem?_append_left h1] at hj
        obtain ⟨vals', e1, e2⟩ := hG.tups j b hj
        have hb := hG.above b (List.mem_of_getElem? hj)
        exact ⟨vals', e1, up b _ (Nat.ne_of_gt hb) (hkp b _ (off hb) e2)⟩
      · subst h1
        have hb : h.objs.size = b := by simpa using hj
        subst hb
        exact ⟨vals, by rw [hal]; exact hp, up _ _ (Nat.ne_of_gt hSl) ht⟩
      · have hnone : (as ++ [h.objs.size])[j]? = none := List.getElem?_eq_none (by rw [List.length_append, List.length_singleton]; omega)
        rw [hnone] at hj; cases hj
end
theorem zip_nolen : typeLookup (.type "zip") "__len__" = pure none := am_miss_of_fast (by decide +kernel)
theorem zip_nohint : typeLookup (.type "zip") "__length_hint__" = pure none := am_miss_of_fast (by decide +kernel)
section
variable {prog : Program} {w : World} {A : Around} {E : Value → Shared → Prop} {s : Shared} {z : Addr} {n : Nat} {P : Nat → Array Value → Prop} {wr : List Addr} {St : Nat → Heap → Prop}
theorem mk_init {R : Result → Shared → Prop} {S : Addr} (hT : ∀ i (s : Shared), St i s.heap → s.TypeIs (.ref z) "zip") (M : Makes prog w A.in1 z S n P wr St) (hn : n ≤ sizeLine) (hst : St 0 s.heap) (hzS : z < S) (hS : s.heap.get? S = some { cls := .type "list", data := .seq #[] })
    (hR : ∀ h' tk acc c as, (∀ b o, b ≠ S → b ∉ wr → s.heap.get? b = some o → h'.get? b = some o) → h'.get? S = some { cls := .type "list", dict := none, data := .seq acc c, slots := #[] } → as.length = n → Tups P S h' as →
      acc.toList = as.map Value.ref → R (.ok (.ret .none)) { s with heap := h', toks := tk }) :
    wpAny (model prog w) A.in1 (Builtin.«list.__init__» ⟨[.ref S, .ref z], []⟩)
      (fun fin s' => match fin with | .done f => R (.ok f) s' | .again c' => c'.quiet = true ∧ codeAny (model prog w) A c' R s') (fun e s' => R (.error e) s') s := by
  show wpAny _ _ (do let old ← Builtin.List.listItems (.ref S); Builtin.List.listUpdate (.ref S) (fun _ => #[]); letGo old.toList.reverse; Builtin.List.listExtendWith (.ref S) (.ref z) .none) _ _ s
  refine wpAny_bind ?_
  unfold Builtin.List.listItems
  refine wpAny_bind (wpAny_seqItems hS rfl (wpAny_pure ?_))
  show wpAny _ _ (updateSeq S (fun _ => #[]) >>= fun _ => letGo (#[] : Array Value).toList.reverse >>= fun _ => Builtin.List.listExtendWith (.ref S) (.ref z) .none) _ _ s
  refine wpAny_bind (wpAny_updateSeq hS rfl ?_)
  have hS₂ := Heap.get?_update_self (Obj.mapSeq (fun _ => (#[] : Array Value))) hS rfl
  have oth : ∀ b o, b ≠ S → s.heap.get? b = some o → (s.heap.update S (Obj.mapSeq (fun _ => (#[] : Array Value)))).get? b = some o :=
    fun b o hb e => (Heap.get?_update_other _ _ (Ne.symm hb)).trans e
  have st2 := M.keep 0 _ _ hst oth
  refine wpAny_bind (wpAny_letGo ?_)
  unfold Builtin.List.listExtendWith
  refine wpAny_bind (wpAny_typeOf (T := "zip") (hT 0 { s with heap := _ } st2) ?_)
  have h1 : Builtin.List.listSameRef (.ref S) (.ref z) = false := by simp [Builtin.List.listSameRef, Nat.ne_of_gt hzS]
  have h2 : (Value.type "zip" == Value.type "list") = false := by decide
  have h3 : (Value.type "zip" == Value.type "tuple") = false := by decide
  simp only [h1, h2, h3, Bool.or_false, Bool.false_eq_true, if_false]
  refine wpAny_bind (M.self _ _ { s with heap := _ } _ st2 ?_)
  refine wpAny_bind (wpAny_holding ?_)
  unfold Builtin.List.listLengthHint
  refine wpAny_bind (wpAny_specialOf (hT 0 { s with heap := _ } st2) zip_nolen ?_)
  show wpAny _ A.in1 (specialOf (Value.ref z) (Str.ofString "__length_hint__") >>= _) _ _ _
  refine wpAny_bind (wpAny_specialOf (hT 0 { s with heap := _ } st2) zip_nohint ?_)
  refine wpAny_pure ?_
  show wpAny _ A.in1 (rule "list.extend.makes-room" >>= fun _ => Builtin.List.listTouch (.ref S) >>= fun _ =>
    again (.builtin "list.extend.loop" ⟨[.ref S, .ref z, .none], []⟩)) _ _ _
  refine wpAny_bind (wpAny_rule ?_)
  refine wpAny_bind ?_
  show wpAny _ _ (updateSeq S (·.push .none) >>= fun _ => updateSeq S (·.pop)) _ _ _
  refine wpAny_bind (wpAny_updateSeq hS₂ rfl ?_)
  have hS₃ := Heap.get?_update_self (Obj.mapSeq (·.push Value.none)) hS₂ rfl
  refine wpAny_updateSeq (hz := by seq_fits) hS₃ rfl ?_
  have hS₄ := Heap.get?_update_self (Obj.mapSeq (·.pop)) hS₃ rfl
  have oth2 : ∀ b o, b ≠ S → s.heap.get? b = some o → (((s.heap.update S (Obj.mapSeq (fun _ => (#[] : Array Value)))).update S (Obj.mapSeq (·.push Value.none))).update S (Obj.mapSeq (·.pop))).get? b = some o :=
    fun b o hb e => (Heap.get?_update_other _ _ (Ne.symm hb)).trans ((Heap.get?_update_other _ _ (Ne.symm hb)).trans (oth b o hb e))
  refine wpAny_pure ⟨plainId_quiet PySem.F.plain_extend_loop _, ?_⟩
  exact mk_loop (s := s) (h₁ := s.heap) M hn .none hR n 0 _ _ _ #[] [] (Nat.sub_zero _) (Nat.zero_le _) (M.keep 0 _ _ hst oth2) (fun b o hb _ e => oth2 b o hb e) hS₄ rfl rfl
    ⟨List.Pairwise.nil, (fun _ ha => nomatch ha), (fun j a hj => by simp at hj)⟩
theorem mk_call {Q : Value → Shared → Prop} (hT : ∀ i (s : Shared), St i s.heap → s.TypeIs (.ref z) "zip") (M : Makes prog w A.in1.in1 z s.heap.objs.size n P wr St) (hn : n ≤ sizeLine) (hst : St 0 s.heap)
    (hQ : ∀ h' tk acc c as, (∀ b o, b ∉ wr → s.heap.get? b = some o → h'.get? b = some o) → h'.get? s.heap.objs.size = some { cls := .type "list", dict := none, data := .seq acc c, slots := #[] } → as.length = n → Tups P s.heap.objs.size h' as →
      acc.toList = as.map Value.ref → Q (.ref s.heap.objs.size) { s with heap := h', toks := tk }) :
    wpAny (model prog w) A (call (.type "list") [.ref z]) Q E s := by
  refine callType_codes (Q₁ := fun obj s₁ => obj = .ref s.heap.objs.size ∧ s₁ = { s with heap := s.heap.push { cls := .type "list", data := .seq #[] } }) PySem.F.called_list (PySem.F.typeCall_list_1 _) PySem.F.entry_list_init
    (code_list_new _ ⟨rfl, rfl⟩) fun obj s₁ h₁ => ?_
  obtain ⟨rfl, rfl⟩ := h₁
  have hS : (s.heap.push { cls := .type "list", data := .seq #[] }).get? s.heap.objs.size = some { cls := .type "list", data := .seq #[] } := Heap.get?_push_size _ rfl
  have hz : z < s.heap.objs.size := by obtain ⟨o, ho, _⟩ := hT 0 s hst; exact Heap.lt_size ho
  have st1 := M.keep 0 _ (s.heap.push { cls := .type "list", data := .seq #[] }) hst fun b o _ e => Heap.get?_push_of_some _ e
  refine ⟨⟨_, hS, rfl⟩, PySem.F.args_list_init_2 _ _, mk_init (A := A.in1) hT M hn st1 hz hS fun h' tk acc c as hk hS' hl hG hacc => ?_⟩
  exact ⟨rfl, hQ h' tk acc c as (fun b o hw e => hk b o (Nat.ne_of_lt (Heap.lt_size e)) hw (Heap.get?_push_of_some _ e)) hS' hl hG hacc⟩
end
end MM
set_option Elab.async false
set_option linter.all false
set_option autoImplicit false
set_option maxRecDepth 100000
set_option maxHeartbeats 2000000
/-! M17: zip over drawn iterators, its tuples kept (printed by mkzip.py). -/
namespace MM
open PySem PySem.Spec PyProof.Rows L2
theorem held_iter {prog : Program} {w : World} {A : Around} {E : Value → Shared → Prop} {s : Shared} {z TI TO T : Addr} {f : Bool} {Q : Value → Shared → Prop} (hz : IsZipHeld s.heap z TI TO T f) (h : Q (.ref z) s) : wpAny (model prog w) A (pyIter (.ref z)) Q E s := by
  have hTy : s.TypeIs (.ref z) "zip" := ⟨_, hz, rfl⟩
  refine wpAny_pyIter_slot hTy F.slot_zip_iter (wpAny_call_entry F.slot_zip_iter hTy F.entry_zip_iter ?_ (F.args_zip_iter_1 _))
  show wpAny _ _ (ret (.ref z)) _ _ s
  exact wpAny_pure ⟨_, rfl, "zip", _, hTy, F.slot_zip_next.lookup, h⟩

section
variable {prog : Program} {w : World} {A : Around} {E : Value → Shared → Prop} {s : Shared} {z TI TO T i1 i2 : Addr} {f : Bool} {oT : Obj} {fp1 fp2 : List Addr} {n1 n2 i : Nat} {P1 P2 : Nat → Value → Prop} {St1 St2 : Nat → Heap → Prop}
theorem held2_item {Q : Value → Shared → Prop} (S : ZipSep2 z TI TO i1 i2 fp1 fp2) (D1 : Draws prog w A i1 fp1 n1 P1 St1) (D2 : Draws prog w A i2 fp2 n2 P2 St2)
    (hz : IsZipHeld s.heap z TI TO T f) (hT : s.heap.get? T = some oT) (hTI : IsTupOf2 s.heap TI (.ref i1) (.ref i2)) (st1 : St1 i s.heap) (st2 : St2 i s.heap) (hlt1 : i < n1) (hlt2 : i < n2)
    (hQ : ∀ x1 x2 h' tk, P1 i x1 → P2 i x2 → IsZipHeld h' z TI TO T true → St1 (i + 1) h' → St2 (i + 1) h' → IsTupOf2 h' s.heap.objs.size x1 x2 → h'.objs.size = s.heap.objs.size + 1 →
      (∀ c o, c ≠ z → c ≠ i1 → c ≠ i2 → s.heap.get? c = some o → h'.get? c = some o) → Q (.ref s.heap.objs.size) { s with heap := h', toks := tk }) :
    wpAny (model prog w) A (Builtin.«zip.__next__» ⟨[.ref z], []⟩) (fun fin s' => ∃ v, fin = .done (.ret v) ∧ Q v s') E s := by
  obtain ⟨hp, g, d, tk0, os⟩ := s
  show wpAny _ _ (field (.ref z) 2 >>= _) _ _ _
  refine wpAny_bind (wpAny_field hz rfl (x := .bool false) rfl ?_)
  show wpAny _ _ (field (.ref z) 3 >>= _) _ _ _
  refine wpAny_bind (wpAny_field hz rfl (x := .ref TI) rfl ?_)
  refine wpAny_bind (wpAny_seqItems hTI rfl ?_)
  show wpAny _ _ (Builtin.SmallTypes.ownedTupleIsFree (.ref z) >>= _) _ _ _
  refine wpAny_bind (wpAny_tupleHeld_zip hz hT fun g0 hz0 hs0 => ?_)
  replace hs0 : Heap.SameBut z hp g0 := hs0
  simp only [Bool.false_eq_true, if_false]
  refine wpAny_bind ?_
  rw [← Array.forIn_toList]
  simp only [List.forIn_cons, List.forIn_nil]
  refine wpAny_bind (wpAny_bind (wpAny_holding ?_))
  show wpAny _ _ (Builtin.SmallTypes.nextOf (.ref i1) >>= _) _ _ ⟨g0, g, d, tk0, os⟩
  refine wpAny_bind (D1.item i _ _ _ hlt1 (D1.over st1 hs0 S.zf1) fun x1 p1 tk1 hx1 sn1 hp1 => wpAny_pure ?_)
  replace hp1 : Heap.SameBut i1 g0 p1 := hp1
  refine wpAny_pure ?_
  refine wpAny_bind (wpAny_bind (wpAny_holding ?_))
  show wpAny _ _ (Builtin.SmallTypes.nextOf (.ref i2) >>= _) _ _ ⟨p1, g, d, tk1, os⟩
  refine wpAny_bind (D2.item i _ _ _ hlt2 (D2.over (D2.over st2 hs0 S.zf2) hp1 S.sep1_2) fun x2 p2 tk2 hx2 sn2 hp2 => wpAny_pure ?_)
  replace hp2 : Heap.SameBut i2 p1 p2 := hp2
  refine wpAny_pure ?_
  refine wpAny_pure ?_
  show wpAny _ _ (newTuple [x1, x2] >>= _) _ _ _
  refine wpAny_bind (wpAny_newTuple ?_)
  have hsz : p2.objs.size = hp.objs.size := by rw [hp2.1, hp1.1, hs0.1]
  have hzz : IsZipHeld p2 z TI TO T true := (hp2.extBut _ _ S.zi2 (hp1.extBut _ _ S.zi1 hz0))
  have hkk : ∀ c o, c ≠ z → c ≠ i1 → c ≠ i2 → hp.get? c = some o → p2.get? c = some o := fun c o cz c1 c2 e => (hp2.extBut _ _ c2 (hp1.extBut _ _ c1 (hs0.extBut _ _ cz e)))
  have hj1 : St1 (i + 1) p2 := (D1.over sn1 hp2 S.sep2_1)
  have hj2 : St2 (i + 1) p2 := sn2
  refine wpAny_pure ⟨_, rfl, ?_⟩
  show Q (.ref p2.objs.size) _
  have hq : IsTupOf2 (p2.push { cls := .type "tuple", data := .seq #[x1, x2] }) p2.objs.size x1 x2 := Heap.get?_push_size _ rfl
  have hz4 : (p2.push { cls := .type "tuple", data := .seq #[x1, x2] }).objs.size = p2.objs.size + 1 := Heap.size_push ..
  rw [hsz] at hq hz4 ⊢
  exact hQ x1 x2 _ tk2 hx1 hx2 (Heap.get?_push_of_some _ hzz) (D1.frame _ _ _ hj1 fun b _ o e => Heap.get?_push_of_some _ e) (D2.frame _ _ _ hj2 fun b _ o e => Heap.get?_push_of_some _ e) hq hz4 fun c o cz c1 c2 e => Heap.get?_push_of_some _ (hkk c o cz c1 c2 e)
theorem held2_end {Q : PySem.Fin → Shared → Prop} (S : ZipSep2 z TI TO i1 i2 fp1 fp2) (D1 : Draws prog w A i1 fp1 n1 P1 St1) (D2 : Draws prog w A i2 fp2 n2 P2 St2)
    (hz : IsZipHeld s.heap z TI TO T f) (hT : s.heap.get? T = some oT) (hTI : IsTupOf2 s.heap TI (.ref i1) (.ref i2)) (st1 : St1 i s.heap) (st2 : St2 i s.heap) (hle1 : i ≤ n1) (hle2 : i ≤ n2) (hend : i = n1 ∨ i = n2)
    (hE : ∀ h' tk e, (∀ c o, c ≠ z → c ≠ i1 → c ≠ i2 → s.heap.get? c = some o → h'.get? c = some o) → (∃ o, h'.get? e = some o ∧ o.cls = .type "StopIteration") → E (.ref e) { s with heap := h', toks := tk }) :
    wpAny (model prog w) A (Builtin.«zip.__next__» ⟨[.ref z], []⟩) Q E s := by
  obtain ⟨hp, g, d, tk0, os⟩ := s
  show wpAny _ _ (field (.ref z) 2 >>= _) _ _ _
  refine wpAny_bind (wpAny_field hz rfl (x := .bool false) rfl ?_)
  show wpAny _ _ (field (.ref z) 3 >>= _) _ _ _
  refine wpAny_bind (wpAny_field hz rfl (x := .ref TI) rfl ?_)
  refine wpAny_bind (wpAny_seqItems hTI rfl ?_)
  show wpAny _ _ (Builtin.SmallTypes.ownedTupleIsFree (.ref z) >>= _) _ _ _
  refine wpAny_bind (wpAny_tupleHeld_zip hz hT fun g0 hz0 hs0 => ?_)
  replace hs0 : Heap.SameBut z hp g0 := hs0
  simp only [Bool.false_eq_true, if_false]
  refine wpAny_bind ?_
  rw [← Array.forIn_toList]
  simp only [List.forIn_cons, List.forIn_nil]
  refine wpAny_bind (wpAny_bind (wpAny_holding ?_))
  show wpAny _ _ (Builtin.SmallTypes.nextOf (.ref i1) >>= _) _ _ ⟨g0, g, d, tk0, os⟩
  by_cases hlt1 : i < n1
  case neg =>
    have hi1 : i = n1 := by omega
    refine wpAny_bind (D1.done ⟨g0, g, d, tk0, os⟩ _ _ (by rw [← hi1]; exact (D1.over st1 hs0 S.zf1)) fun q e hq he => ?_)
    replace hq : Heap.ExtBut i1 g0 q := hq
    exact hE q tk0 e (fun c o cz c1 c2 x => hq _ _ c1 (hs0.extBut _ _ cz x)) he
  refine wpAny_bind (D1.item i _ _ _ hlt1 (D1.over st1 hs0 S.zf1) fun x1 p1 tk1 hx1 sn1 hp1 => wpAny_pure ?_)
  replace hp1 : Heap.SameBut i1 g0 p1 := hp1
  refine wpAny_pure ?_
  refine wpAny_bind (wpAny_bind (wpAny_holding ?_))
  show wpAny _ _ (Builtin.SmallTypes.nextOf (.ref i2) >>= _) _ _ ⟨p1, g, d, tk1, os⟩
  have hi2 : i = n2 := by omega
  refine wpAny_bind (D2.done ⟨p1, g, d, tk1, os⟩ _ _ (by rw [← hi2]; exact (D2.over (D2.over st2 hs0 S.zf2) hp1 S.sep1_2)) fun q e hq he => ?_)
  replace hq : Heap.ExtBut i2 p1 q := hq
  exact hE q tk1 e (fun c o cz c1 c2 x => hq _ _ c2 (hp1.extBut _ _ c1 (hs0.extBut _ _ cz x))) he
def StZ2 (S z TI TO i1 i2 : Addr) (St1 St2 : Nat → Heap → Prop) (i : Nat) (h : Heap) : Prop :=
  ((i = 0 ∧ IsZip h z TI TO .none) ∨ ∃ T f oT, IsZipHeld h z TI TO T f ∧ h.get? T = some oT ∧ T ≠ S ∧ T ∉ [z, TO, i1, i2]) ∧ IsTupOf2 h TI (.ref i1) (.ref i2) ∧ (∃ a1 a2, IsTupOf2 h TO a1 a2) ∧ St1 i h ∧ St2 i h
theorem makes_zip2 {S : Addr} (D : ZipSep2 z TI TO i1 i2 fp1 fp2) (D1 : Draws prog w A.in1 i1 fp1 n1 P1 St1) (D2 : Draws prog w A.in1 i2 fp2 n2 P2 St2) (h0 : TI < S) (h1 : z < S) (h2 : TO < S) (hf1 : ∀ b ∈ fp1, b < S) (hf2 : ∀ b ∈ fp2, b < S) :
    Makes prog w A z S (min n1 n2) (fun i vals => ∃ x1 x2, P1 i x1 ∧ P2 i x2 ∧ vals = #[x1, x2]) [z, TO, i1, i2] (StZ2 S z TI TO i1 i2 St1 St2) where
  item := by
    intro i s Q E hi hst hS hQ
    obtain ⟨hz, hTI, ⟨a1, a2, hTO⟩, st1, st2⟩ := hst
    have hi1 : i < n1 := by omega
    have hi2 : i < n2 := by omega
    have lt : ∀ {c o}, s.heap.get? c = some o → c < s.heap.objs.size := fun e => Heap.lt_size e
    have l1 : i1 < s.heap.objs.size := by obtain ⟨_, e⟩ := D1.live _ _ st1; exact lt e
    have l2 : i2 < s.heap.objs.size := by obtain ⟨_, e⟩ := D2.live _ _ st2; exact lt e
    have new : s.heap.objs.size ∉ [z, TO, i1, i2] := by
      intro q
      have q2 : s.heap.objs.size = z ∨ s.heap.objs.size = TO ∨ s.heap.objs.size = i1 ∨ s.heap.objs.size = i2 := by simpa using q
      have b1 := lt hTO
      have b2 : z < s.heap.objs.size := by
        rcases hz with ⟨_, e⟩ | ⟨_, _, _, e, _⟩
        · exact lt e
        · exact lt e
      rcases q2 with e | e | e | e
      · exact Nat.ne_of_gt b2 e
      · exact Nat.ne_of_gt b1 e
      · exact Nat.ne_of_gt l1 e
      · exact Nat.ne_of_gt l2 e
    have hTz : s.TypeIs (.ref z) "zip" := by
      rcases hz with ⟨_, e⟩ | ⟨_, _, _, e, _⟩
      · exact ⟨_, e, rfl⟩
      · exact ⟨_, e, rfl⟩
    rcases hz with ⟨_, hz⟩ | ⟨T, f, oT, hz, hT, hTS, hTw⟩
    · refine wpAny_pyNext_zipD2_item D D1 D2 hz hTI hTO st1 st2 hi1 hi2 fun x1 x2 h' tk y1 y2 b1 b2 d1 d2 b5 b6 hk => ?_
      refine hQ _ h' tk ⟨x1, x2, y1, y2, rfl⟩ ⟨.inr ⟨s.heap.objs.size, false, _, b1, b5, Nat.ne_of_gt hS, new⟩, hk _ _ D.TIz D.TITO D.TIi1 D.TIi2 hTI, ⟨_, _, b2⟩, d1, d2⟩ b5 b6 fun c o hc e => hk c o (fun x => hc (by simp [x])) (fun x => hc (by simp [x])) (fun x => hc (by simp [x])) (fun x => hc (by simp [x])) e
    · have hn : ∀ {x}, x ∈ [z, TO, i1, i2] → T ≠ x := fun m e => hTw (e ▸ m)
      unfold pyNext
      refine wpAny_bind (wpAny_attempt (wpAny_callSpecial?_slot (name := Str.ofString "__next__") hTz F.slot_zip_next
        (wpAny_call_entry F.slot_zip_next hTz F.entry_zip_next (held2_item D D1 D2 hz hT hTI st1 st2 hi1 hi2 fun x1 x2 h' tk y1 y2 b1 d1 d2 b5 b6 hk => wpAny_pure ?_) (F.args_zip_next_1 _))))
      refine hQ _ h' tk ⟨x1, x2, y1, y2, rfl⟩ ⟨.inr ⟨T, true, oT, b1, hk _ _ (hn (by simp)) (hn (by simp)) (hn (by simp)) hT, hTS, hTw⟩, hk _ _ D.TIz D.TIi1 D.TIi2 hTI, ⟨a1, a2, hk _ _ D.TOz D.Ti1 D.Ti2 hTO⟩, d1, d2⟩ b5 b6 fun c o hc e => hk c o (fun x => hc (by simp [x])) (fun x => hc (by simp [x])) (fun x => hc (by simp [x])) e
  done := by
    intro s Q E hst hQ
    obtain ⟨hz, hTI, ⟨a1, a2, hTO⟩, st1, st2⟩ := hst
    rcases hz with ⟨_, hz⟩ | ⟨T, f, oT, hz, hT, hTS, hTw⟩
    · exact wpAny_pyNext_zipD2_end D D1 D2 hz hTI hTO st1 st2 (by omega) (by omega) (by omega) fun h' tk hk => hQ h' tk fun c o hc e => hk c o (fun x => hc (by simp [x])) (fun x => hc (by simp [x])) (fun x => hc (by simp [x])) (fun x => hc (by simp [x])) e
    · have hTz : s.TypeIs (.ref z) "zip" := ⟨_, hz, rfl⟩
      unfold pyNext
      refine wpAny_bind (wpAny_attempt (wpAny_callSpecial?_slot (name := Str.ofString "__next__") hTz F.slot_zip_next
        (wpAny_call_entry F.slot_zip_next hTz F.entry_zip_next (held2_end D D1 D2 hz hT hTI st1 st2 (by omega) (by omega) (by omega) fun h' tk e hk he => ?_) (F.args_zip_next_1 _))))
      obtain ⟨o, ho, hc⟩ := he
      refine wpAny_bind (wpAny_isInstance (T := "StopIteration") (b := true) ⟨o, ho, hc⟩ isSubtype_stop ?_)
      exact wpAny_pure (hQ _ _ fun c o hc e => hk c o (fun x => hc (by simp [x])) (fun x => hc (by simp [x])) (fun x => hc (by simp [x])) e)
  keep := by
    intro i h h' hst k
    obtain ⟨hz, hTI, ⟨a1, a2, hTO⟩, st1, st2⟩ := hst
    refine ⟨?_, k _ _ (Nat.ne_of_lt h0) hTI, ⟨a1, a2, k _ _ (Nat.ne_of_lt h2) hTO⟩, D1.frame _ _ _ st1 fun b hb o e => k b o (Nat.ne_of_lt (hf1 b hb)) e, D2.frame _ _ _ st2 fun b hb o e => k b o (Nat.ne_of_lt (hf2 b hb)) e⟩
    rcases hz with ⟨e0, hz⟩ | ⟨T, f, oT, hz, hT, hTS, hTw⟩
    · exact .inl ⟨e0, k _ _ (Nat.ne_of_lt h1) hz⟩
    · exact .inr ⟨T, f, oT, k _ _ (Nat.ne_of_lt h1) hz, k _ _ hTS hT, hTS, hTw⟩
  low := fun b hb => by
    have q2 : b = z ∨ b = TO ∨ b = i1 ∨ b = i2 := by simpa using hb
    rcases q2 with rfl | rfl | rfl | rfl
    · exact h1
    · exact h2
    · exact hf1 _ D.mem1
    · exact hf2 _ D.mem2
  self := fun A' E s Q hst q => by
    rcases hst.1 with ⟨_, hz⟩ | ⟨T, f, oT, hz, _⟩
    · exact wpAny_pyIter_zip hz q
    · exact held_iter hz q
end
section
variable {prog : Program} {w : World} {A : Around} {E : Value → Shared → Prop} {s : Shared} {z TI TO T i1 i2 i3 : Addr} {f : Bool} {oT : Obj} {fp1 fp2 fp3 : List Addr} {n1 n2 n3 i : Nat} {P1 P2 P3 : Nat → Value → Prop} {St1 St2 St3 : Nat → Heap → Prop}
theorem held3_item {Q : Value → Shared → Prop} (S : ZipSep3 z TI TO i1 i2 i3 fp1 fp2 fp3) (D1 : Draws prog w A i1 fp1 n1 P1 St1) (D2 : Draws prog w A i2 fp2 n2 P2 St2) (D3 : Draws prog w A i3 fp3 n3 P3 St3)
    (hz : IsZipHeld s.heap z TI TO T f) (hT : s.heap.get? T = some oT) (hTI : IsTupOf3 s.heap TI (.ref i1) (.ref i2) (.ref i3)) (st1 : St1 i s.heap) (st2 : St2 i s.heap) (st3 : St3 i s.heap) (hlt1 : i < n1) (hlt2 : i < n2) (hlt3 : i < n3)
    (hQ : ∀ x1 x2 x3 h' tk, P1 i x1 → P2 i x2 → P3 i x3 → IsZipHeld h' z TI TO T true → St1 (i + 1) h' → St2 (i + 1) h' → St3 (i + 1) h' → IsTupOf3 h' s.heap.objs.size x1 x2 x3 → h'.objs.size = s.heap.objs.size + 1 →
      (∀ c o, c ≠ z → c ≠ i1 → c ≠ i2 → c ≠ i3 → s.heap.get? c = some o → h'.get? c = some o) → Q (.ref s.heap.objs.size) { s with heap := h', toks := tk }) :
    wpAny (model prog w) A (Builtin.«zip.__next__» ⟨[.ref z], []⟩) (fun fin s' => ∃ v, fin = .done (.ret v) ∧ Q v s') E s := by
  obtain ⟨hp, g, d, tk0, os⟩ := s
  show wpAny _ _ (field (.ref z) 2 >>= _) _ _ _
  refine wpAny_bind (wpAny_field hz rfl (x := .bool false) rfl ?_)
  show wpAny _ _ (field (.ref z) 3 >>= _) _ _ _
  refine wpAny_bind (wpAny_field hz rfl (x := .ref TI) rfl ?_)
  refine wpAny_bind (wpAny_seqItems hTI rfl ?_)
  show wpAny _ _ (Builtin.SmallTypes.ownedTupleIsFree (.ref z) >>= _) _ _ _
  refine wpAny_bind (wpAny_tupleHeld_zip hz hT fun g0 hz0 hs0 => ?_)
  replace hs0 : Heap.SameBut z hp g0 := hs0
  simp only [Bool.false_eq_true, if_false]
  refine wpAny_bind ?_
  rw [← Array.forIn_toList]
  simp only [List.forIn_cons, List.forIn_nil]
  refine wpAny_bind (wpAny_bind (wpAny_holding ?_))
  show wpAny _ _ (Builtin.SmallTypes.nextOf (.ref i1) >>= _) _ _ ⟨g0, g, d, tk0, os⟩
  refine wpAny_bind (D1.item i _ _ _ hlt1 (D1.over st1 hs0 S.zf1) fun x1 p1 tk1 hx1 sn1 hp1 => wpAny_pure ?_)
  replace hp1 : Heap.SameBut i1 g0 p1 := hp1
  refine wpAny_pure ?_
  refine wpAny_bind (wpAny_bind (wpAny_holding ?_))
  show wpAny _ _ (Builtin.SmallTypes.nextOf (.ref i2) >>= _) _ _ ⟨p1, g, d, tk1, os⟩
  refine wpAny_bind (D2.item i _ _ _ hlt2 (D2.over (D2.over st2 hs0 S.zf2) hp1 S.sep1_2) fun x2 p2 tk2 hx2 sn2 hp2 => wpAny_pure ?_)
  replace hp2 : Heap.SameBut i2 p1 p2 := hp2
  refine wpAny_pure ?_
  refine wpAny_bind (wpAny_bind (wpAny_holding ?_))
  show wpAny _ _ (Builtin.SmallTypes.nextOf (.ref i3) >>= _) _ _ ⟨p2, g, d, tk2, os⟩
  refine wpAny_bind (D3.item i _ _ _ hlt3 (D3.over (D3.over (D3.over st3 hs0 S.zf3) hp1 S.sep1_3) hp2 S.sep2_3) fun x3 p3 tk3 hx3 sn3 hp3 => wpAny_pure ?_)
  replace hp3 : Heap.SameBut i3 p2 p3 := hp3
  refine wpAny_pure ?_
  refine wpAny_pure ?_
  show wpAny _ _ (newTuple [x1, x2, x3] >>= _) _ _ _
  refine wpAny_bind (wpAny_newTuple ?_)
  have hsz : p3.objs.size = hp.objs.size := by rw [hp3.1, hp2.1, hp1.1, hs0.1]
  have hzz : IsZipHeld p3 z TI TO T true := (hp3.extBut _ _ S.zi3 (hp2.extBut _ _ S.zi2 (hp1.extBut _ _ S.zi1 hz0)))
  have hkk : ∀ c o, c ≠ z → c ≠ i1 → c ≠ i2 → c ≠ i3 → hp.get? c = some o → p3.get? c = some o := fun c o cz c1 c2 c3 e => (hp3.extBut _ _ c3 (hp2.extBut _ _ c2 (hp1.extBut _ _ c1 (hs0.extBut _ _ cz e))))
  have hj1 : St1 (i + 1) p3 := (D1.over (D1.over sn1 hp2 S.sep2_1) hp3 S.sep3_1)
  have hj2 : St2 (i + 1) p3 := (D2.over sn2 hp3 S.sep3_2)
  have hj3 : St3 (i + 1) p3 := sn3
  refine wpAny_pure ⟨_, rfl, ?_⟩
  show Q (.ref p3.objs.size) _
  have hq : IsTupOf3 (p3.push { cls := .type "tuple", data := .seq #[x1, x2, x3] }) p3.objs.size x1 x2 x3 := Heap.get?_push_size _ rfl
  have hz4 : (p3.push { cls := .type "tuple", data := .seq #[x1, x2, x3] }).objs.size = p3.objs.size + 1 := Heap.size_push ..
  rw [hsz] at hq hz4 ⊢
  exact hQ x1 x2 x3 _ tk3 hx1 hx2 hx3 (Heap.get?_push_of_some _ hzz) (D1.frame _ _ _ hj1 fun b _ o e => Heap.get?_push_of_some _ e) (D2.frame _ _ _ hj2 fun b _ o e => Heap.get?_push_of_some _ e) (D3.frame _ _ _ hj3 fun b _ o e => Heap.get?_push_of_some _ e) hq hz4 fun c o cz c1 c2 c3 e => Heap.get?_push_of_some _ (hkk c o cz c1 c2 c3 e)
theorem held3_end {Q : PySem.Fin → Shared → Prop} (S : ZipSep3 z TI TO i1 i2 i3 fp1 fp2 fp3) (D1 : Draws prog w A i1 fp1 n1 P1 St1) (D2 : Draws prog w A i2 fp2 n2 P2 St2) (D3 : Draws prog w A i3 fp3 n3 P3 St3)
    (hz : IsZipHeld s.heap z TI TO T f) (hT : s.heap.get? T = some oT) (hTI : IsTupOf3 s.heap TI (.ref i1) (.ref i2) (.ref i3)) (st1 : St1 i s.heap) (st2 : St2 i s.heap) (st3 : St3 i s.heap) (hle1 : i ≤ n1) (hle2 : i ≤ n2) (hle3 : i ≤ n3) (hend : i = n1 ∨ i = n2 ∨ i = n3)
    (hE : ∀ h' tk e, (∀ c o, c ≠ z → c ≠ i1 → c ≠ i2 → c ≠ i3 → s.heap.get? c = some o → h'.get? c = some o) → (∃ o, h'.get? e = some o ∧ o.cls = .type "StopIteration") → E (.ref e) { s with heap := h', toks := tk }) :
    wpAny (model prog w) A (Builtin.«zip.__next__» ⟨[.ref z], []⟩) Q E s := by
  obtain ⟨hp, g, d, tk0, os⟩ := s
  show wpAny _ _ (field (.ref z) 2 >>= _) _ _ _
  refine wpAny_bind (wpAny_field hz rfl (x := .bool false) rfl ?_)
  show wpAny _ _ (field (.ref z) 3 >>= _) _ _ _
  refine wpAny_bind (wpAny_field hz rfl (x := .ref TI) rfl ?_)
  refine wpAny_bind (wpAny_seqItems hTI rfl ?_)
  show wpAny _ _ (Builtin.SmallTypes.ownedTupleIsFree (.ref z) >>= _) _ _ _
  refine wpAny_bind (wpAny_tupleHeld_zip hz hT fun g0 hz0 hs0 => ?_)
  replace hs0 : Heap.SameBut z hp g0 := hs0
  simp only [Bool.false_eq_true, if_false]
  refine wpAny_bind ?_
  rw [← Array.forIn_toList]
  simp only [List.forIn_cons, List.forIn_nil]
  refine wpAny_bind (wpAny_bind (wpAny_holding ?_))
  show wpAny _ _ (Builtin.SmallTypes.nextOf (.ref i1) >>= _) _ _ ⟨g0, g, d, tk0, os⟩
  by_cases hlt1 : i < n1
  case neg =>
    have hi1 : i = n1 := by omega
    refine wpAny_bind (D1.done ⟨g0, g, d, tk0, os⟩ _ _ (by rw [← hi1]; exact (D1.over st1 hs0 S.zf1)) fun q e hq he => ?_)
    replace hq : Heap.ExtBut i1 g0 q := hq
    exact hE q tk0 e (fun c o cz c1 c2 c3 x => hq _ _ c1 (hs0.extBut _ _ cz x)) he
  refine wpAny_bind (D1.item i _ _ _ hlt1 (D1.over st1 hs0 S.zf1) fun x1 p1 tk1 hx1 sn1 hp1 => wpAny_pure ?_)
  replace hp1 : Heap.SameBut i1 g0 p1 := hp1
  refine wpAny_pure ?_
  refine wpAny_bind (wpAny_bind (wpAny_holding ?_))
  show wpAny _ _ (Builtin.SmallTypes.nextOf (.ref i2) >>= _) _ _ ⟨p1, g, d, tk1, os⟩
  by_cases hlt2 : i < n2
  case neg =>
    have hi2 : i = n2 := by omega
    refine wpAny_bind (D2.done ⟨p1, g, d, tk1, os⟩ _ _ (by rw [← hi2]; exact (D2.over (D2.over st2 hs0 S.zf2) hp1 S.sep1_2)) fun q e hq he => ?_)
    replace hq : Heap.ExtBut i2 p1 q := hq
    exact hE q tk1 e (fun c o cz c1 c2 c3 x => hq _ _ c2 (hp1.extBut _ _ c1 (hs0.extBut _ _ cz x))) he
  refine wpAny_bind (D2.item i _ _ _ hlt2 (D2.over (D2.over st2 hs0 S.zf2) hp1 S.sep1_2) fun x2 p2 tk2 hx2 sn2 hp2 => wpAny_pure ?_)
  replace hp2 : Heap.SameBut i2 p1 p2 := hp2
  refine wpAny_pure ?_
  refine wpAny_bind (wpAny_bind (wpAny_holding ?_))
  show wpAny _ _ (Builtin.SmallTypes.nextOf (.ref i3) >>= _) _ _ ⟨p2, g, d, tk2, os⟩
  have hi3 : i = n3 := by omega
  refine wpAny_bind (D3.done ⟨p2, g, d, tk2, os⟩ _ _ (by rw [← hi3]; exact (D3.over (D3.over (D3.over st3 hs0 S.zf3) hp1 S.sep1_3) hp2 S.sep2_3)) fun q e hq he => ?_)
  replace hq : Heap.ExtBut i3 p2 q := hq
  exact hE q tk2 e (fun c o cz c1 c2 c3 x => hq _ _ c3 (hp2.extBut _ _ c2 (hp1.extBut _ _ c1 (hs0.extBut _ _ cz x)))) he
def StZ3 (S z TI TO i1 i2 i3 : Addr) (St1 St2 St3 : Nat → Heap → Prop) (i : Nat) (h : Heap) : Prop :=
  ((i = 0 ∧ IsZip h z TI TO .none) ∨ ∃ T f oT, IsZipHeld h z TI TO T f ∧ h.get? T = some oT ∧ T ≠ S ∧ T ∉ [z, TO, i1, i2, i3]) ∧ IsTupOf3 h TI (.ref i1) (.ref i2) (.ref i3) ∧ (∃ a1 a2 a3, IsTupOf3 h TO a1 a2 a3) ∧ St1 i h ∧ St2 i h ∧ St3 i h
theorem makes_zip3 {S : Addr} (D : ZipSep3 z TI TO i1 i2 i3 fp1 fp2 fp3) (D1 : Draws prog w A.in1 i1 fp1 n1 P1 St1) (D2 : Draws prog w A.in1 i2 fp2 n2 P2 St2) (D3 : Draws prog w A.in1 i3 fp3 n3 P3 St3) (h0 : TI < S) (h1 : z < S) (h2 : TO < S) (hf1 : ∀ b ∈ fp1, b < S) (hf2 : ∀ b ∈ fp2, b < S) (hf3 : ∀ b ∈ fp3, b < S) :
    Makes prog w A z S (min (min n1 n2) n3) (fun i vals => ∃ x1 x2 x3, P1 i x1 ∧ P2 i x2 ∧ P3 i x3 ∧ vals = #[x1, x2, x3]) [z, TO, i1, i2, i3] (StZ3 S z TI TO i1 i2 i3 St1 St2 St3) where
  item := by
    intro i s Q E hi hst hS hQ
    obtain ⟨hz, hTI, ⟨a1, a2, a3, hTO⟩, st1, st2, st3⟩ := hst
    have hi1 : i < n1 := by omega
    have hi2 : i < n2 := by omega
    have hi3 : i < n3 := by omega
    have lt : ∀ {c o}, s.heap.get? c = some o → c < s.heap.objs.size := fun e => Heap.lt_size e
    have l1 : i1 < s.heap.objs.size := by obtain ⟨_, e⟩ := D1.live _ _ st1; exact lt e
    have l2 : i2 < s.heap.objs.size := by obtain ⟨_, e⟩ := D2.live _ _ st2; exact lt e
    have l3 : i3 < s.heap.objs.size := by obtain ⟨_, e⟩ := D3.live _ _ st3; exact lt e
    have new : s.heap.objs.size ∉ [z, TO, i1, i2, i3] := by
      intro q
      have q2 : s.heap.objs.size = z ∨ s.heap.objs.size = TO ∨ s.heap.objs.size = i1 ∨ s.heap.objs.size = i2 ∨ s.heap.objs.size = i3 := by simpa using q
      have b1 := lt hTO
      have b2 : z < s.heap.objs.size := by
        rcases hz with ⟨_, e⟩ | ⟨_, _, _, e, _⟩
        · exact lt e
        · exact lt e
      rcases q2 with e | e | e | e | e
      · exact Nat.ne_of_gt b2 e
      · exact Nat.ne_of_gt b1 e
      · exact Nat.ne_of_gt l1 e
      · exact Nat.ne_of_gt l2 e
      · exact Nat.ne_of_gt l3 e
    have hTz : s.TypeIs (.ref z) "zip" := by
      rcases hz with ⟨_, e⟩ | ⟨_, _, _, e, _⟩
      · exact ⟨_, e, rfl⟩
      · exact ⟨_, e, rfl⟩
    rcases hz with ⟨_, hz⟩ | ⟨T, f, oT, hz, hT, hTS, hTw⟩
    · refine wpAny_pyNext_zipD3_item D D1 D2 D3 hz hTI hTO st1 st2 st3 hi1 hi2 hi3 fun x1 x2 x3 h' tk y1 y2 y3 b1 b2 d1 d2 d3 b5 b6 hk => ?_
      refine hQ _ h' tk ⟨x1, x2, x3, y1, y2, y3, rfl⟩ ⟨.inr ⟨s.heap.objs.size, false, _, b1, b5, Nat.ne_of_gt hS, new⟩, hk _ _ D.TIz D.TITO D.TIi1 D.TIi2 D.TIi3 hTI, ⟨_, _, _, b2⟩, d1, d2, d3⟩ b5 b6 fun c o hc e => hk c o (fun x => hc (by simp [x])) (fun x => hc (by simp [x])) (fun x => hc (by simp [x])) (fun x => hc (by simp [x])) (fun x => hc (by simp [x])) e
    · have hn : ∀ {x}, x ∈ [z, TO, i1, i2, i3] → T ≠ x := fun m e => hTw (e ▸ m)
      unfold pyNext
      refine wpAny_bind (wpAny_attempt (wpAny_callSpecial?_slot (name := Str.ofString "__next__") hTz F.slot_zip_next
        (wpAny_call_entry F.slot_zip_next hTz F.entry_zip_next (held3_item D D1 D2 D3 hz hT hTI st1 st2 st3 hi1 hi2 hi3 fun x1 x2 x3 h' tk y1 y2 y3 b1 d1 d2 d3 b5 b6 hk => wpAny_pure ?_) (F.args_zip_next_1 _))))
      refine hQ _ h' tk ⟨x1, x2, x3, y1, y2, y3, rfl⟩ ⟨.inr ⟨T, true, oT, b1, hk _ _ (hn (by simp)) (hn (by simp)) (hn (by simp)) (hn (by simp)) hT, hTS, hTw⟩, hk _ _ D.TIz D.TIi1 D.TIi2 D.TIi3 hTI, ⟨a1, a2, a3, hk _ _ D.TOz D.Ti1 D.Ti2 D.Ti3 hTO⟩, d1, d2, d3⟩ b5 b6 fun c o hc e => hk c o (fun x => hc (by simp [x])) (fun x => hc (by simp [x])) (fun x => hc (by simp [x])) (fun x => hc (by simp [x])) e
  done := by
    intro s Q E hst hQ
    obtain ⟨hz, hTI, ⟨a1, a2, a3, hTO⟩, st1, st2, st3⟩ := hst
    rcases hz with ⟨_, hz⟩ | ⟨T, f, oT, hz, hT, hTS, hTw⟩
    · exact wpAny_pyNext_zipD3_end D D1 D2 D3 hz hTI hTO st1 st2 st3 (by omega) (by omega) (by omega) (by omega) fun h' tk hk => hQ h' tk fun c o hc e => hk c o (fun x => hc (by simp [x])) (fun x => hc (by simp [x])) (fun x => hc (by simp [x])) (fun x => hc (by simp [x])) (fun x => hc (by simp [x])) e
    · have hTz : s.TypeIs (.ref z) "zip" := ⟨_, hz, rfl⟩
      unfold pyNext
      refine wpAny_bind (wpAny_attempt (wpAny_callSpecial?_slot (name := Str.ofString "__next__") hTz F.slot_zip_next
        (wpAny_call_entry F.slot_zip_next hTz F.entry_zip_next (held3_end D D1 D2 D3 hz hT hTI st1 st2 st3 (by omega) (by omega) (by omega) (by omega) fun h' tk e hk he => ?_) (F.args_zip_next_1 _))))
      obtain ⟨o, ho, hc⟩ := he
      refine wpAny_bind (wpAny_isInstance (T := "StopIteration") (b := true) ⟨o, ho, hc⟩ isSubtype_stop ?_)
      exact wpAny_pure (hQ _ _ fun c o hc e => hk c o (fun x => hc (by simp [x])) (fun x => hc (by simp [x])) (fun x => hc (by simp [x])) (fun x => hc (by simp [x])) e)
  keep := by
    intro i h h' hst k
    obtain ⟨hz, hTI, ⟨a1, a2, a3, hTO⟩, st1, st2, st3⟩ := hst
    refine ⟨?_, k _ _ (Nat.ne_of_lt h0) hTI, ⟨a1, a2, a3, k _ _ (Nat.ne_of_lt h2) hTO⟩, D1.frame _ _ _ st1 fun b hb o e => k b o (Nat.ne_of_lt (hf1 b hb)) e, D2.frame _ _ _ st2 fun b hb o e => k b o (Nat.ne_of_lt (hf2 b hb)) e, D3.frame _ _ _ st3 fun b hb o e => k b o (Nat.ne_of_lt (hf3 b hb)) e⟩
    rcases hz with ⟨e0, hz⟩ | ⟨T, f, oT, hz, hT, hTS, hTw⟩
    · exact .inl ⟨e0, k _ _ (Nat.ne_of_lt h1) hz⟩
    · exact .inr ⟨T, f, oT, k _ _ (Nat.ne_of_lt h1) hz, k _ _ hTS hT, hTS, hTw⟩
  low := fun b hb => by
    have q2 : b = z ∨ b = TO ∨ b = i1 ∨ b = i2 ∨ b = i3 := by simpa using hb
    rcases q2 with rfl | rfl | rfl | rfl | rfl
    · exact h1
    · exact h2
    · exact hf1 _ D.mem1
    · exact hf2 _ D.mem2
    · exact hf3 _ D.mem3
  self := fun A' E s Q hst q => by
    rcases hst.1 with ⟨_, hz⟩ | ⟨T, f, oT, hz, _⟩
    · exact wpAny_pyIter_zip hz q
    · exact held_iter hz q
end
end MM
set_option Elab.async false
set_option linter.all false
set_option autoImplicit false
set_option maxRecDepth 100000
set_option maxHeartbeats 2000000
/-! M18: list(zip(range(n), a, b)), list(zip(a, b)). -/
namespace MM
open PySem PySem.Spec PyProof.Rows L2

/-- tuples tracked at their addresses, one after the other -/
def putY : Hp → List (Addr × List V) → Hp
  | H, [] => H
  | H, p :: ps => putY (upd H p.1 (.tup p.2)) ps
theorem putY_off {b : Addr} : ∀ (ps : List (Addr × List V)) (H : Hp), b ∉ ps.map (·.1) → putY H ps b = H b
  | [], _, _ => rfl
  | p :: ps, H, h => by
    show putY (upd H p.1 (.tup p.2)) ps b = H b
    rw [putY_off ps _ (fun q => h (List.mem_cons_of_mem _ q)), upd_ne (fun q => h (by rw [q]; exact List.mem_cons_self))]
theorem putY_at {b : Addr} {ys : List V} : ∀ (ps : List (Addr × List V)) (H : Hp), (ps.map (·.1)).Nodup → (b, ys) ∈ ps → putY H ps b = some (.tup ys)
  | [], _, _, h => by cases h
  | p :: ps, H, hn, h => by
    have hn' := List.nodup_cons.mp hn
    rcases List.mem_cons.mp h with e | h
    · subst e
      show putY (upd H b (.tup ys)) ps b = some (.tup ys)
      rw [putY_off ps _ hn'.1, upd_same]
    · exact putY_at ps _ hn'.2 h
theorem putY_in {b : Addr} : ∀ (ps : List (Addr × List V)), b ∈ ps.map (·.1) → ∃ ys, (b, ys) ∈ ps
  | ps, h => by
    obtain ⟨p, h1, h2⟩ := List.mem_map.mp h
    exact ⟨p.2, by rw [← h2]; exact h1⟩
theorem putY_rel {K : PySem.W.Frag} {st : Sto} : ∀ (ps : List (Addr × List V)) (ds : List (List D)) (m : Mw) (H : Hp), RelS K m st H → (∀ p ∈ ps, H p.1 = none) → (ps.map (·.1)).Nodup → ps.length = ds.length →
    (∀ (j : Nat) (p : Addr × List V) (d : List D), ps[j]? = some p → ds[j]? = some d → RVs K m p.2 d) → ∃ m', Ex m H m' (putY H ps) ∧ RelS K m' st (putY H ps) ∧ RVs K m' (ps.map fun p => V.ref p.1) (ds.map D.tup)
  | [], [], m, H, s, _, _, _, _ => ⟨m, Ex.refl m _, s, .nil⟩
  | [], _ :: _, _, _, _, _, _, h, _ => by cases h
  | _ :: _, [], _, _, _, _, _, h, _ => by cases h
  | p :: ps, d :: ds, m, H, s, hf, hn, hl, hr => by
    have hn' := List.nodup_cons.mp hn
    obtain ⟨x1, s1⟩ := s.newFrz (.tup p.2) (hf p List.mem_cons_self)
    obtain ⟨m', x2, s2, r2⟩ := putY_rel ps ds _ _ s1 (fun q hq => by
      have hne : q.1 ≠ p.1 := fun z => hn'.1 (List.mem_map.mpr ⟨q, hq, z⟩)
      rw [upd_ne hne]; exact hf q (List.mem_cons_of_mem _ hq)) hn'.2 (Nat.succ.inj hl)
      (fun j q e h1 h2 => (hr (j + 1) q e (by simpa using h1) (by simpa using h2)).mono x1.ext)
    exact ⟨m', x1.trans x2, s2, .cons ((RV.tup (.inl (.inl frz_at)) ((hr 0 p d rfl rfl).mono x1.ext)).mono x2.ext) r2⟩
theorem vals_refsY : ∀ as : List Addr, Vals (as.map V.ref) (as.map Value.ref)
  | [] => .nil
  | _ :: as => .cons rfl (vals_refsY as)
def yls (yl : Nat → List V) (as : List Addr) : List (Addr × List V) := as.mapIdx fun j a => (a, yl j)
theorem yls_fst (yl : Nat → List V) (as : List Addr) : (yls yl as).map (·.1) = as := by
  apply List.ext_getElem?
  intro i
  simp only [yls, List.getElem?_map, List.getElem?_mapIdx, Option.map_map]
  cases as[i]? <;> rfl
theorem tups_laid {X : Cx} {pins : List (Addr × Obj)} {σ : L2.St} {H : Hp} {s s1 : Shared} {h' : Heap} {tk : Nat} {S : Addr} {P : Nat → Array Value → Prop} {acc : Array Value} {c : Nat} {as : List Addr} {yl : Nat → List V} (I : Inv X pins σ H s) (e1 : s1 = { s with heap := h', toks := tk })
    (hk : ∀ b o, s.heap.get? b = some o → h'.get? b = some o) (h0 : s.heap.objs.size ≤ S) (hS : h'.get? S = some { cls := .type "list", dict := none, data := .seq acc c, slots := #[] }) (hl : as.length ≤ sizeLine)
    (hG : Tups P S h' as) (hP : ∀ j vals, j < as.length → P j vals → (yl j).length ≤ sizeLine ∧ Vals (yl j) vals.toList) (hacc : acc.toList = as.map Value.ref) :
    H S = none ∧ (∀ a ∈ as, H a = none) ∧ S ∉ as ∧ as.Nodup ∧ Inv X pins σ (upd (putY H (yls yl as)) S (.lst (as.map V.ref))) s1 := by
  subst e1
  have hSn : S ∉ as := fun z => Nat.lt_irrefl _ (hG.above _ z)
  have nd : as.Nodup := List.Pairwise.imp (fun {a b} (h : a < b) => Nat.ne_of_lt h) hG.rise
  have new : ∀ t ∈ as, H t = none := fun t ht => I.hok.fresh (Nat.le_trans h0 (Nat.le_of_lt (hG.above t ht)))
  have newS : H S = none := I.hok.fresh h0
  have off : ∀ b, b ∉ as → b ≠ S → upd (putY H (yls yl as)) S (.lst (as.map V.ref)) b = H b := fun b h1 h2 => by rw [upd_ne h2, putY_off _ _ (by rw [yls_fst]; exact h1)]
  have low : ∀ b o, s.heap.get? b = some o → b ∉ as ∧ b ≠ S := fun b o e => ⟨fun z => absurd (Heap.lt_size e) (Nat.not_lt.mpr (Nat.le_trans h0 (Nat.le_of_lt (hG.above b z)))), Nat.ne_of_lt (Nat.lt_of_lt_of_le (Heap.lt_size e) h0)⟩
  have kp : ∀ b u, H b = some u → (upd (putY H (yls yl as)) S (.lst (as.map V.ref))) b = some u := fun b u e => by
    rw [off b (fun z => by rw [new b z] at e; cases e) (fun z => by rw [z, newS] at e; cases e)]
    exact e
  refine ⟨newS, new, hSn, nd, ?_⟩
  refine I.call' (ch := []) rfl ⟨fun b o q _ _ _ => hk b o q, fun b o q _ _ _ => ⟨o.slots, hk b o q⟩, fun b o q n _ => ?_, fun b o q _ => ⟨o, hk b o q⟩, fun b xs q => kp b _ q, fun b o u q => kp b _ q, fun b ps q => ⟨#[], by rw [kp b _ q]; simp⟩⟩ (fun b u q => ?_) I.bare fun b z => by simp at z
  · obtain ⟨z1, z2⟩ := low b o q
    rw [off b z1 z2]
    exact n
  · by_cases hb2 : b = S
    · subst hb2
      rw [upd_same] at q
      cases q
      refine ⟨by rw [List.length_map]; exact hl, acc.toList, c, by rw [hacc]; exact vals_refsY as, ?_⟩
      rw [Array.toArray_toList]
      exact hS
    · by_cases hb : b ∈ as
      · obtain ⟨j, hj⟩ := List.mem_iff_getElem?.mp hb
        obtain ⟨vals, f1, f2⟩ := hG.tups j b hj
        have hjl : j < as.length := (List.getElem?_eq_some_iff.mp hj).1
        have hm : (b, yl j) ∈ yls yl as := List.mem_of_getElem? (i := j) (by simp [yls, List.getElem?_mapIdx, hj])
        rw [upd_ne hb2, putY_at _ _ (by rw [yls_fst]; exact nd) hm] at q
        cases q
        obtain ⟨g1, g2⟩ := hP j vals hjl f1
        exact ⟨g1, vals.toList, g2, ⟨_, f2, rfl, _, by rw [Array.toArray_toList]⟩⟩
      · rw [off b hb hb2] at q
        exact (I.hok b u q).stay (fun d v _ y => hk d v y) (fun d y => kp d _ y) fun d xs y => kp d _ y
/-- the frozen list of these tuples -/
theorem lay_rel {K : PySem.W.Frag} {m : Mw} {st : Sto} {H : Hp} {as : List Addr} {S : Addr} {yl : Nat → List V} {ds : List (List D)} (s : RelS K m st H) (hS : H S = none) (hn : ∀ a ∈ as, H a = none) (hSn : S ∉ as) (nd : as.Nodup) (hl : as.length = ds.length)
    (hr : ∀ (j : Nat) (d : List D), ds[j]? = some d → RVs K m (yl j) d) : ∃ m', Ex m H m' (upd (putY H (yls yl as)) S (.lst (as.map V.ref))) ∧ RelS K m' st (upd (putY H (yls yl as)) S (.lst (as.map V.ref))) ∧ RV K m' (.ref S) (.lst (ds.map D.tup)) := by
  have hp : ∀ p ∈ yls yl as, H p.1 = none := fun p hp => hn _ (by rw [← yls_fst yl as]; exact List.mem_map_of_mem hp)
  obtain ⟨m1, x1, s1, r1⟩ := putY_rel (yls yl as) ds m H s hp (by rw [yls_fst]; exact nd) (by simp [yls, hl]) (fun j p d h1 h2 => by
    simp only [yls, List.getElem?_mapIdx] at h1
    cases h3 : as[j]? with
    | none => rw [h3] at h1; cases h1
    | some a => rw [h3] at h1; cases h1; exact hr j d h2)
  have e : (yls yl as).map (fun p => V.ref p.1) = as.map V.ref := by
    rw [show (fun p : Addr × List V => V.ref p.1) = V.ref ∘ (·.1) from rfl, ← List.map_map, yls_fst]
  rw [e] at r1
  obtain ⟨x2, s2⟩ := s1.newFrz (p := S) (.lst (as.map V.ref)) (by rw [putY_off _ _ (by rw [yls_fst]; exact hSn)]; exact hS)
  exact ⟨_, x1.trans x2, s2, .lst (.inl (.inl frz_at)) (r1.mono x2.ext)⟩
theorem sqB_ok {K : PySem.W.Frag} {m : Mw} {st : Sto} {H : Hp} {v : V} {d : D} {ds : List D} (hS : RelS K m st H) (r : RV K m v d) (h : sq st d = some ds) : ∃ b a xs, v = .ref a ∧ SqB K b H a xs ∧ RVs K m xs ds := by
  obtain ⟨a, xs, h1, h2, h3⟩ := sq_ok hS r h
  rcases h2 with h2 | h2
  · exact ⟨false, a, xs, h1, h2, h3⟩
  · exact ⟨true, a, xs, h1, h2, h3⟩

theorem nl1 {N M k j : Nat} (e : M = N + k) (h : j < k) : N + j < M := by omega
theorem nl0 {N M k : Nat} (e : M = N + k) (h : 0 < k) : N < M := by omega
theorem nl2 {N M k a : Nat} (e : M = N + k) (h : a < N) : a < M := by omega
theorem nl3 {N b j : Nat} (h : b < N) : b ≠ N + j := by omega
def zp3 (n : Nat) (ds es : List D) : List (List D) := (List.range (min (min n ds.length) es.length)).map fun (i : Nat) => [D.int (0 + (i : Int)), ds.getD i .non, es.getD i .non]
def zp2 (ds es : List D) : List (List D) := (List.range (min ds.length es.length)).map fun (i : Nat) => [ds.getD i .non, es.getD i .non]
def eLz2 (ga : FA) : FE := fun env st => (ga env st).bind fun as s2 => match as with
  | [x, y] => match sq s2 x, sq s2 y with
    | some ds, some es => if ds.length ≤ 100000 then .ok (.lst ((zp2 ds es).map D.tup)) s2 else .no
    | _, _ => .no
  | _ => .no
def eLz3 (f0 : FE) (ga : FA) : FE := fun env st => (f0 env st).bind fun d s1 => match d with
  | .int n => if 0 ≤ n ∧ n < 2 ^ 62 then (ga env s1).bind fun as s2 => match as with
    | [x, y] => match sq s2 x, sq s2 y with
      | some ds, some es => if ds.length ≤ 100000 then .ok (.lst ((zp3 n.toNat ds es).map D.tup)) s2 else .no
      | _, _ => .no
    | _ => .no
    else .no
  | _ => .no
theorem RVs.getD' {K : PySem.W.Frag} {m : Mw} {vs : List V} {ds : List D} {i : Nat} (r : RVs K m vs ds) (h : i < ds.length) : RV K m (vs.getD i .non) (ds.getD i .non) := by
  obtain ⟨u, h1, h2⟩ := r.get (i := i) (x := ds[i]) (by simp [h])
  rw [List.getD_eq_getElem?_getD, h1, List.getD_eq_getElem?_getD, List.getElem?_eq_getElem h]
  exact h2
section
variable {X : Cx} {W : WX} {e0 e1 e2 : Expr} {f0 : FE} {ga : FA} {p p2 p3 pos pos2 pos3 : Pos}
/-- the end that both share: a zip stands, its list is asked for -/
theorem me_lz2 (hc : X.calm = true) (hm : X.mg "list" = none) (hm2 : X.mg "zip" = none) (ha : MA X W [e1, e2] ga) (hg : Gl X "list" := by rfl) (hg2 : Gl X "zip" := by rfl)
    (hs : starEach [e1, e2] X.env = (false, eval e1 X.env) :: starEach [e2] X.env := by rfl) (hpl : (backTo pos2 (starEach [e2] X.env)).any (·.1) = false := by rfl)
    (na : starEach [.Call (.Name "zip" p2) [e1, e2] [] pos2] X.env = (false, eval (.Call (.Name "zip" p2) [e1, e2] [] pos2) X.env) :: starEach [] X.env := by rfl) :
    ME X W (.Call (.Name "list" p) [.Call (.Name "zip" p2) [e1, e2] [] pos2] [] pos) (eLz2 ga) := by
  refine ⟨fun pins s σ H Q I h => ?_⟩
  obtain ⟨m, env, st, hE, hS, h⟩ := h
  refine Call_ (ld_blt I hg hm PyProof.Rows.boot_list (PyProof.Rows.callWith_type1 (args_cons ?_ na) na))
  refine Call_ (ld_blt I hg2 hm2 PyProof.Rows.boot_zip (PyProof.Rows.callWith_type1 (thn (ha.run pos2 pins s σ H (Got X.K W (fun as s2 => match as with
    | [x, y] => match sq s2 x, sq s2 y with
      | some ds, some es => if ds.length ≤ 100000 then Rs.ok (.lst ((zp2 ds es).map D.tup)) s2 else .no
      | _, _ => .no
    | _ => .no) fun m' d m'' _ H' => ∀ v, RV X.K m'' v d → Q v H') I ⟨m, env, st, hE, hS, h.bind.imp fun ds m1 st1 H1 x1 s1 h1 vs rv => ⟨m1, st1, ds, s1, rv, h1⟩⟩) fun us s1 hv => ?_) hs hpl))
  obtain ⟨vs, H1, I1, ru, m1, st1, ds, s1', rv, hq⟩ := hv
  match ds, rv, hq with
  | [x, y], rv, hq =>
    obtain ⟨w, w2, rfl, r1, r2⟩ := rv.two
    dsimp only at hq
    cases hsr : sq st1 x with
    | none => rw [hsr] at hq; exact hq.elim
    | some ds =>
      cases hsr2 : sq st1 y with
      | none => rw [hsr, hsr2] at hq; exact hq.elim
      | some es =>
        rw [hsr, hsr2] at hq
        dsimp only at hq
        by_cases hl : ds.length ≤ 100000
        · rw [if_pos hl] at hq
          obtain ⟨b, a, xs, rfl, sq1, rv1⟩ := sqB_ok s1' r1 hsr
          obtain ⟨b2, a2, ys, rfl, sq2, rv2⟩ := sqB_ok s1' r2 hsr2
          cases ru with
          | cons r rr =>
            cases rr with
            | cons r' rr =>
              cases rr
              cases r
              cases r'
              obtain ⟨its, rw1, sr⟩ := sq1.src I1
              obtain ⟨jts, rw2, sr2⟩ := sq2.src I1
              have la : a < s1.heap.objs.size := sq1.lt I1
              have lb : a2 < s1.heap.objs.size := sq2.lt I1
              have z1 : its.size = ds.length := by rw [← rv1.length, rw1.length]; simp
              have z2 : jts.size = es.length := by rw [← rv2.length, rw2.length]; simp
              refine zip_begins2 (beginB (b := b) its) (beginB (b := b2) jts) sr sr2 fun h' hz hTI hTO h1 h2 hsz hk => args_nil ?_
              have D := zip_sep2 (fp1 := [a]) (fp2 := [a2]) (N := s1.heap.objs.size) (by simpa using la) (by simpa using lb)
              have n1 : a ≠ s1.heap.objs.size := Nat.ne_of_lt la
              have n2 : a2 ≠ s1.heap.objs.size + 1 := Nat.ne_of_lt (Nat.lt_succ_of_lt lb)
              have hh : X.A.handled = none := I1.ok.hd hc
              have szS : s1.heap.objs.size + 5 ≤ h'.objs.size := by rw [hsz]; exact Nat.le_refl _
              have M := makes_zip2 (S := h'.objs.size) D (drawB (P := X.prog) (w := X.w) (A := X.A.in1.in1.in1) (b := b) hh n1 its) (drawB (P := X.prog) (w := X.w) (A := X.A.in1.in1.in1) (b := b2) hh n2 jts) (nl1 hsz (by decide)) (nl1 hsz (by decide)) (nl1 hsz (by decide))
                (fun c hcm => by
                  have e' : c = s1.heap.objs.size ∨ c = a := by simpa using hcm
                  rcases e' with rfl | rfl
                  · exact nl0 hsz (by decide)
                  · exact nl2 hsz la)
                (fun c hcm => by
                  have e' : c = s1.heap.objs.size + 1 ∨ c = a2 := by simpa using hcm
                  rcases e' with rfl | rfl
                  · exact nl1 hsz (by decide)
                  · exact nl2 hsz lb)
              have hT : ∀ i (s' : Shared), StZ2 h'.objs.size (s1.heap.objs.size + 4) (s1.heap.objs.size + 2) (s1.heap.objs.size + 3) s1.heap.objs.size (s1.heap.objs.size + 1) (fun i h => ItB b h s1.heap.objs.size a i ∧ SrcB b h a its) (fun i h => ItB b2 h (s1.heap.objs.size + 1) a2 i ∧ SrcB b2 h a2 jts) i s'.heap → s'.TypeIs (.ref (s1.heap.objs.size + 4)) "zip" := fun i s' st => by
                rcases st.1 with ⟨_, e⟩ | ⟨_, _, _, e, _⟩
                · exact ⟨_, e, rfl⟩
                · exact ⟨_, e, rfl⟩
              have sk : ∀ {bb : Bool} {c : Addr} {k : Array Value}, SrcB bb s1.heap c k → SrcB bb h' c k := fun {bb c k} q => by
                cases bb with
                | true => exact Heap.IsTuple.at q fun o e => hk _ _ e
                | false => exact Heap.IsList.at q fun o e => hk _ _ e
              refine mk_call (s := { s1 with heap := h' }) hT M (by rw [z1, z2]; exact sz5 (Nat.le_trans (Nat.min_le_left _ _) hl)) ⟨.inl ⟨rfl, hz⟩, hTI, ⟨_, _, hTO⟩, ⟨ItB.begin h1, sk sr⟩, ItB.begin h2, sk sr2⟩ fun h2' tk acc c as hk2 hS2 hln hG hacc => ?_
              have hkk : ∀ b o, s1.heap.get? b = some o → h2'.get? b = some o := fun b o e => hk2 b o (fun q => by
                have q2 : b = s1.heap.objs.size + 4 ∨ b = s1.heap.objs.size + 3 ∨ b = s1.heap.objs.size ∨ b = s1.heap.objs.size + 1 := by simpa using q
                have h0 : b < s1.heap.objs.size := Heap.lt_size e
                rcases q2 with q2 | q2 | q2 | q2
                · exact nl3 h0 q2
                · exact nl3 h0 q2
                · exact nl3 (j := 0) h0 q2
                · exact nl3 h0 q2) (hk b o e)
              rw [z1, z2] at hln
              have hl2 : as.length ≤ 100000 := by rw [hln]; exact Nat.le_trans (Nat.min_le_left _ _) hl
              obtain ⟨f1, f2, f3, f4, J⟩ := tups_laid (yl := fun i => z2L xs ys i) (s1 := { s1 with heap := h2', toks := tk }) I1 rfl hkk (Nat.le_of_lt (nl0 hsz (by decide))) hS2 (sz5 hl2) hG (fun j vals hj hp => by
                obtain ⟨x1, x2, q1, q2, rfl⟩ := hp
                exact ⟨by simp [z2L, sizeLine], .cons (vals_getD rw1 q1) (.cons (vals_getD rw2 q2) .nil)⟩) hacc
              obtain ⟨m2, x2, s2, r2⟩ := lay_rel (yl := fun i => z2L xs ys i) (ds := zp2 ds es) s1' f1 f2 f3 f4 (by rw [hln]; simp [zp2]) (fun j d hd => by
                simp only [zp2, List.getElem?_map] at hd
                cases hj : (List.range (min ds.length es.length))[j]? with
                | none => rw [hj] at hd; cases hd
                | some k =>
                  rw [hj] at hd
                  cases hd
                  obtain ⟨hj1, hj2⟩ := List.getElem?_eq_some_iff.mp hj
                  simp at hj1 hj2
                  subst hj2
                  exact .cons (rv1.getD' (by omega)) (.cons (rv2.getD' (by omega)) .nil))
              exact ⟨.ref h'.objs.size, _, J, rfl, hq m2 _ x2 s2 _ r2⟩
        · rw [if_neg hl] at hq
          exact hq.elim
  | [], _, hq => exact hq.elim
  | [_], _, hq => exact hq.elim
  | _ :: _ :: _ :: _, _, hq => exact hq.elim
theorem me_lz3 (hc : X.calm = true) (hm : X.mg "list" = none) (hm2 : X.mg "zip" = none) (hm3 : X.mg "range" = none) (h0 : ME X W e0 f0) (ha : MA X W [e1, e2] ga) (hg : Gl X "list" := by rfl) (hg2 : Gl X "zip" := by rfl) (hg3 : Gl X "range" := by rfl)
    (n0 : starEach [e0] X.env = (false, eval e0 X.env) :: starEach [] X.env := by rfl)
    (hs : starEach [.Call (.Name "range" p3) [e0] [] pos3, e1, e2] X.env = (false, eval (.Call (.Name "range" p3) [e0] [] pos3) X.env) :: starEach [e1, e2] X.env := by rfl) (hpl : (backTo pos2 (starEach [e1, e2] X.env)).any (·.1) = false := by rfl)
    (na : starEach [.Call (.Name "zip" p2) [.Call (.Name "range" p3) [e0] [] pos3, e1, e2] [] pos2] X.env = (false, eval (.Call (.Name "zip" p2) [.Call (.Name "range" p3) [e0] [] pos3, e1, e2] [] pos2) X.env) :: starEach [] X.env := by rfl) :
    ME X W (.Call (.Name "list" p) [.Call (.Name "zip" p2) [.Call (.Name "range" p3) [e0] [] pos3, e1, e2] [] pos2] [] pos) (eLz3 f0 ga) := by
  refine ⟨fun pins s σ H Q I h => ?_⟩
  obtain ⟨m, env, st, hE, hS, h⟩ := h
  refine Call_ (ld_blt I hg hm PyProof.Rows.boot_list (PyProof.Rows.callWith_type1 (args_cons ?_ na) na))
  refine Call_ (ld_blt I hg2 hm2 PyProof.Rows.boot_zip (PyProof.Rows.callWith_type1 (args_cons ?_ hs) hs hpl))
  refine Call_ (ld_blt I hg3 hm3 boot_range (PyProof.Rows.callWith_type1 (one_arg (R := fun v H1 => ∃ m1 d st1, RelE X.K m1 σ env ∧ RelS X.K m1 st1 H1 ∧ RV X.K m1 v d ∧ Fin X.K W m1 H1 (match d with
  | .int n => if 0 ≤ n ∧ n < 2 ^ 62 then (ga env st1).bind fun as s2 => match as with
    | [x, y] => match sq s2 x, sq s2 y with
      | some ds, some es => if ds.length ≤ 100000 then .ok (.lst ((zp3 n.toNat ds es).map D.tup)) s2 else .no
      | _, _ => .no
    | _ => .no
    else .no
  | _ => .no : Rs D) fun d m'' _ H' => ∀ v, RV X.K m'' v d → Q v H') h0 I ⟨m, env, st, hE, hS, h.bind.imp fun d m1 st1 H1 x1 s1 h1 v rv => ⟨m1, d, st1, hE.mono x1.ext, s1, rv, h1⟩⟩ (fun v s0 x H0 I0 r q => ?_) n0) n0))
  obtain ⟨m0, d0, st0, hE0, hS0, rv0, hq0⟩ := q
  cases d0 with
  | int n =>
    dsimp only at hq0
    by_cases hn : 0 ≤ n ∧ n < 2 ^ 62
    · rw [if_pos hn] at hq0
      cases rv0
      obtain ⟨t0, rfl⟩ := r
      refine call_range_1 ?_
      generalize hoR : ({ cls := .type "range", data := .fields #[.int 0 s0.toks, .int n t0, .int 1 (s0.toks + 1)] } : Obj) = oR
      have hfR : oR.isFreed = false := by subst hoR; rfl
      have hcR : ∀ v, oR.data ≠ .cell v := by subst hoR; intro v z; cases z
      have I0' : Inv X pins σ H0 { s0 with heap := s0.heap.push oR, toks := s0.toks + 1 + 1 } := I0.kept fun b u e => Heap.get?_push_of_some _ e
      have IP : Inv X ((s0.heap.objs.size, oR) :: pins) σ H0 { s0 with heap := s0.heap.push oR, toks := s0.toks + 1 + 1 } := I0'.pins_of fun q hq => by
        rcases List.mem_cons.mp hq with rfl | hq
        · exact ⟨Heap.get?_push_size _ hfR, I0.hok.fresh (Nat.le_refl _), Nat.ne_of_gt I0.lt, I0.nofs (Nat.le_refl _), hcR⟩
        · exact I0'.pin q (List.mem_append_right _ hq)
      refine thn (ha.run pos2 ((s0.heap.objs.size, oR) :: pins) { s0 with heap := s0.heap.push oR, toks := s0.toks + 1 + 1 } σ H0 (Got X.K W (fun as s2 => match as with
    | [x, y] => match sq s2 x, sq s2 y with
      | some ds, some es => if ds.length ≤ 100000 then Rs.ok (.lst ((zp3 n.toNat ds es).map D.tup)) s2 else .no
      | _, _ => .no
    | _ => .no) fun m' d m'' _ H' => ∀ v, RV X.K m'' v d → Q v H') IP ⟨m0, env, st0, hE0, hS0, hq0.bind.imp fun ds m1 st1 H1 x1 s1 h1 vs rv => ⟨m1, st1, ds, s1, rv, h1⟩⟩) fun us s1 hv => ?_
      obtain ⟨vs, H1, I1p, ru, m1, st1, ds, s1', rv, hq⟩ := hv
      have hR : s1.heap.get? s0.heap.objs.size = some oR := (I1p.pin _ (List.mem_append_right _ List.mem_cons_self)).1
      have I1 : Inv X pins σ H1 s1 := I1p.pins_of fun q hq => I1p.pin q (List.mem_append_right _ (List.mem_cons_of_mem _ hq))
      have lR : s0.heap.objs.size < s1.heap.objs.size := Heap.lt_size hR
      generalize s0.heap.objs.size = rA at hR lR ⊢
      rw [← hoR] at hR
      have hsm : Builtin.Range.small 0 n 1 = true := small_one (by decide) (by decide) (by omega) (by omega)
      have hrs : Builtin.Range.rangeSize 0 n 1 = ((n.toNat : Nat) : Int) := by rw [rangeSize_one]; split <;> omega
      match ds, rv, hq with
      | [x, y], rv, hq =>
        obtain ⟨w, w2, rfl, r1, r2⟩ := rv.two
        dsimp only at hq
        cases hsr : sq st1 x with
        | none => rw [hsr] at hq; exact hq.elim
        | some ds =>
          cases hsr2 : sq st1 y with
          | none => rw [hsr, hsr2] at hq; exact hq.elim
          | some es =>
            rw [hsr, hsr2] at hq
            dsimp only at hq
            by_cases hl : ds.length ≤ 100000
            · rw [if_pos hl] at hq
              obtain ⟨b, a, xs, rfl, sq1, rv1⟩ := sqB_ok s1' r1 hsr
              obtain ⟨b2, a2, ys, rfl, sq2, rv2⟩ := sqB_ok s1' r2 hsr2
              cases ru with
              | cons r rr =>
                cases rr with
                | cons r' rr =>
                  cases rr
                  cases r
                  cases r'
                  obtain ⟨its, rw1, sr⟩ := sq1.src I1
                  obtain ⟨jts, rw2, sr2⟩ := sq2.src I1
                  have la : a < s1.heap.objs.size := sq1.lt I1
                  have lb : a2 < s1.heap.objs.size := sq2.lt I1
                  have z1 : its.size = ds.length := by rw [← rv1.length, rw1.length]; simp
                  have z2 : jts.size = es.length := by rw [← rv2.length, rw2.length]; simp
                  refine zip_begins3 (beginR (r := rA) hsm) (beginB (b := b) its) (beginB (b := b2) jts) hR sr sr2 fun h' hz hTI hTO hr h1 h2 hsz hk => args_nil ?_
                  have D := zip_sep3 (fp1 := []) (fp2 := [a]) (fp3 := [a2]) (N := s1.heap.objs.size) (fun b q => nomatch q) (by simpa using la) (by simpa using lb)
                  have n1 : a ≠ s1.heap.objs.size + 1 := Nat.ne_of_lt (Nat.lt_succ_of_lt la)
                  have n2 : a2 ≠ s1.heap.objs.size + 2 := nl3 lb
                  have hh : X.A.handled = none := I1.ok.hd hc
                  have M := makes_zip3 (S := h'.objs.size) D (drawR (prog := X.prog) (w := X.w) (A := X.A.in1.in1.in1) hh s1.heap.objs.size 0 1 n.toNat) (drawB (P := X.prog) (w := X.w) (A := X.A.in1.in1.in1) (b := b) hh n1 its) (drawB (P := X.prog) (w := X.w) (A := X.A.in1.in1.in1) (b := b2) hh n2 jts) (nl1 hsz (by decide)) (nl1 hsz (by decide)) (nl1 hsz (by decide))
                    (fun c hcm => by
                      obtain rfl : c = s1.heap.objs.size := by simpa using hcm
                      exact nl0 hsz (by decide))
                    (fun c hcm => by
                      have e' : c = s1.heap.objs.size + 1 ∨ c = a := by simpa using hcm
                      rcases e' with rfl | rfl
                      · exact nl1 hsz (by decide)
                      · exact nl2 hsz la)
                    (fun c hcm => by
                      have e' : c = s1.heap.objs.size + 2 ∨ c = a2 := by simpa using hcm
                      rcases e' with rfl | rfl
                      · exact nl1 hsz (by decide)
                      · exact nl2 hsz lb)
                  have hT : ∀ i (s' : Shared), StZ3 h'.objs.size (s1.heap.objs.size + 5) (s1.heap.objs.size + 3) (s1.heap.objs.size + 4) s1.heap.objs.size (s1.heap.objs.size + 1) (s1.heap.objs.size + 2) (fun i h => i ≤ n.toNat ∧ IsRangeIter h s1.heap.objs.size (0 + (i : Int) * 1) ((n.toNat : Int) - i) 1) (fun i h => ItB b h (s1.heap.objs.size + 1) a i ∧ SrcB b h a its) (fun i h => ItB b2 h (s1.heap.objs.size + 2) a2 i ∧ SrcB b2 h a2 jts) i s'.heap → s'.TypeIs (.ref (s1.heap.objs.size + 5)) "zip" := fun i s' st => by
                    rcases st.1 with ⟨_, e⟩ | ⟨_, _, _, e, _⟩
                    · exact ⟨_, e, rfl⟩
                    · exact ⟨_, e, rfl⟩
                  have sk : ∀ {bb : Bool} {c : Addr} {k : Array Value}, SrcB bb s1.heap c k → SrcB bb h' c k := fun {bb c k} q => by
                    cases bb with
                    | true => exact Heap.IsTuple.at q fun o e => hk _ _ e
                    | false => exact Heap.IsList.at q fun o e => hk _ _ e
                  have hri : IsRangeIter h' s1.heap.objs.size (0 + ((0 : Nat) : Int) * 1) ((n.toNat : Int) - ((0 : Nat) : Int)) 1 := by
                    have e1 : (0 : Int) + ((0 : Nat) : Int) * 1 = 0 := by simp
                    have e2 : (n.toNat : Int) - ((0 : Nat) : Int) = Builtin.Range.rangeSize 0 n 1 := by rw [hrs]; simp
                    rw [e1, e2]
                    exact hr
                  have mle : min (min n.toNat ds.length) es.length ≤ 100000 := Nat.le_trans (Nat.min_le_left _ _) (Nat.le_trans (Nat.min_le_right _ _) hl)
                  refine mk_call (s := { s1 with heap := h' }) hT M (by rw [z1, z2]; exact sz5 mle) ⟨.inl ⟨rfl, hz⟩, hTI, ⟨_, _, _, hTO⟩, ⟨Nat.zero_le _, hri⟩, ⟨ItB.begin h1, sk sr⟩, ItB.begin h2, sk sr2⟩ fun h2' tk acc c as hk2 hS2 hln hG hacc => ?_
                  have hkk : ∀ b o, s1.heap.get? b = some o → h2'.get? b = some o := fun b o e => hk2 b o (fun q => by
                    have q2 : b = s1.heap.objs.size + 5 ∨ b = s1.heap.objs.size + 4 ∨ b = s1.heap.objs.size ∨ b = s1.heap.objs.size + 1 ∨ b = s1.heap.objs.size + 2 := by simpa using q
                    have h0 : b < s1.heap.objs.size := Heap.lt_size e
                    rcases q2 with q2 | q2 | q2 | q2 | q2
                    · exact nl3 h0 q2
                    · exact nl3 h0 q2
                    · exact nl3 (j := 0) h0 q2
                    · exact nl3 h0 q2
                    · exact nl3 h0 q2) (hk b o e)
                  rw [z1, z2] at hln
                  have hl2 : as.length ≤ 100000 := by rw [hln]; exact mle
                  obtain ⟨f1, f2, f3, f4, J⟩ := tups_laid (yl := fun i => [V.int (0 + (i : Int)), xs.getD i .non, ys.getD i .non]) (s1 := { s1 with heap := h2', toks := tk }) I1 rfl hkk (Nat.le_of_lt (nl0 hsz (by decide))) hS2 (sz5 hl2) hG (fun j vals hj hp => by
                    obtain ⟨x0, x1, x2, ⟨t, rfl⟩, q1, q2, rfl⟩ := hp
                    exact ⟨by simp [sizeLine], .cons ⟨t, by simp⟩ (.cons (vals_getD rw1 q1) (.cons (vals_getD rw2 q2) .nil))⟩) hacc
                  obtain ⟨m2, x2, s2, r2⟩ := lay_rel (yl := fun i => [V.int (0 + (i : Int)), xs.getD i .non, ys.getD i .non]) (ds := zp3 n.toNat ds es) s1' f1 f2 f3 f4 (by rw [hln]; simp [zp3]) (fun j d hd => by
                    simp only [zp3, List.getElem?_map] at hd
                    cases hj : (List.range (min (min n.toNat ds.length) es.length))[j]? with
                    | none => rw [hj] at hd; cases hd
                    | some k =>
                      rw [hj] at hd
                      cases hd
                      obtain ⟨hj1, hj2⟩ := List.getElem?_eq_some_iff.mp hj
                      simp at hj1 hj2
                      subst hj2
                      exact .cons (.int _) (.cons (rv1.getD' (by omega)) (.cons (rv2.getD' (by omega)) .nil)))
                  exact ⟨.ref h'.objs.size, _, J, rfl, hq m2 _ x2 s2 _ r2⟩
            · rw [if_neg hl] at hq
              exact hq.elim
      | [], _, hq => exact hq.elim
      | [_], _, hq => exact hq.elim
      | _ :: _ :: _ :: _, _, hq => exact hq.elim
    · rw [if_neg hn] at hq0
      exact hq0.elim
  | _ => exact hq0.elim
end
end MM
set_option Elab.async false
set_option linter.all false
set_option autoImplicit false
set_option maxRecDepth 100000
set_option maxHeartbeats 0
namespace K58
open PySem PySem.Spec PyProof.Rows L2 MM
def top (i : Nat) : Stmt := PySem.Challenge.pw_growshrink_k58_reports.main.body.getD i (.Pass ⟨0, 0, 0, 0⟩)
abbrev FnP (K : PySem.W.Frag) (x : Str) (st : Stmt) (f : Addr) (fd : FuncData) : Prop := FunD K x x (defArgs st) (defBody st) (defScope st) [] [] f fd
abbrev s_report : Stmt := top 2
noncomputable def m_report : SE := sSeq (sSet (gT 3 (gsC (gN 1) (gsC (gN 2) (gsC (gN 3) gsN)))) (eV 0)) (sSeq (sSet (gN 4) (eLz3 (eL (f1 gLen) (aC (eV 1) aN)) (aC (eV 1) (aC (eTup (aC (eC (.str "-")) (aS (eV 2) aN))) aN)))) (sRet (eS1 gJoin (eC (.str "\n")) (eLc (iS (eV 4)) (gT 3 (gsC (gN 5) (gsC (gN 6) (gsC (gN 7) gsN)))) tY (eFs [e1 (gPad 2) (eV 5), e1 (gPad 20) (eV 6), e1 (gPad 20) (eV 7)]) [5, 6, 7]))))
noncomputable def F_report : MFun := fnC 1 8 m_report
abbrev s__law_well : Stmt := top 4
noncomputable def m__law_well : SE := sSeq (sSet (gN 2) (eIf (tV (e2 fLt (eV 1) (eL (f1 gLen) (aC (eV 0) aN)))) (e2 gIx (eV 0) (eV 1)) (e2 fAdd (e2 fMul (eC (.int 13)) (eV 1)) (eC (.int 4))))) (sSeq (sSet (gN 3) (e2 fMul (e2 fMod (eL (f1 gAbs) (aC (eV 2) aN)) (e2 fPow (e2 fPow (eC (.int 10)) (eC (.int 60))) (eC (.int 5)))) (eL (lOr (f1 gInt) (f1 gIntS)) (aC (e2 fGe (eL (f1 gAbs) (aC (eV 2) aN)) (e2 fPow (eC (.int 10)) (eC (.int 18)))) aN)))) (sRet (eNew (aC (eV 3) (aC (e2 fMod (e2 fAdd (e2 fAdd (e2 fMul (e2 fMod (eV 2) (eC (.int 2305843009213693951))) (eC (.int 69621))) (e2 fMul (e2 fMul (eC (.int 104729)) (eV 1)) (eV 1))) (eC (.int 31))) (eC (.int 2305843009213693921))) (aC (eC (.int 0)) aN))))))
noncomputable def F__law_well : MFun := fnK 2 4 m__law_well
abbrev s__law_draw : Stmt := top 5
noncomputable def m__law_draw : SE := sSeq (sIf (tV (e2 fGt (e2 gIx (eV 0) (eC (.int 0))) (eC (.int 0)))) (sSeq (sSet (gN 2) (e2 fMod (e2 gIx (eV 0) (eC (.int 0))) (eV 1))) (sSeq (sSet (gI (eV 0) (eC (.int 0))) (e2 fDiv (e2 gIx (eV 0) (eC (.int 0))) (eV 1))) (sRet (eV 2)))) sNx) (sSeq (sSet (gI (eV 0) (eC (.int 2))) (e2 fAdd (e2 gIx (eV 0) (eC (.int 2))) (eC (.int 1)))) (sSeq (sSet (gN 3) (e2 gIx (eLst (aC (eC (.int 2147483647)) (aC (eC (.int 2147483629)) (aC (eC (.int 2147483587)) (aC (eC (.int 2147483579)) (aC (eC (.int 2147483563)) aN)))))) (e2 fMod (e2 gIx (eV 0) (eC (.int 2))) (eC (.int 5))))) (sSeq (sSet (gN 4) (e2 fMod (e2 fPow (e2 fAdd (e2 fAdd (e2 gIx (eV 0) (eC (.int 1))) (e2 fMul (e2 fMul (eC (.int 65537)) (e2 gIx (eV 0) (eC (.int 2)))) (e2 gIx (eV 0) (eC (.int 2))))) (eC (.int 37))) (eC (.int 3))) (eV 3))) (sRet (e2 fMod (e2 fDiv (e2 fMod (e2 fMul (eV 4) (e2 fAdd (e2 fMod (eV 4) (eC (.int 10007))) (e2 fMul (eC (.int 97)) (e2 gIx (eV 0) (eC (.int 2)))))) (eC (.int 2305843009213693907))) (eC (.int 97))) (eV 1))))))
noncomputable def F__law_draw : MFun := fnC 2 5 m__law_draw
abbrev s__law_pick : Stmt := top 6
noncomputable def m__law_pick : SE := sRet (e2 gIx (eV 1) (eCall F__law_draw (aC (eV 0) (aC (eL (f1 gLen) (aC (eV 1) aN)) aN))))
noncomputable def F__law_pick : MFun := fnC 2 2 m__law_pick
abbrev s__law_plan : Stmt := top 7
noncomputable def m__law_plan : SE := sSeq (sPar [3, 4, 5] (aC (eNew (aC (e2 fAdd (eC (.int 1)) (eCall F__law_draw (aC (eV 0) (aC (eV 2) aN)))) aN)) (aC (eNew aN) (aC (e1 fNeg (eC (.int 1))) aN)))) (sSeq (sFor (iR1 (aC (eCall F__law_draw (aC (eV 0) (aC (eV 1) aN))) aN)) (gN 6) (sSeq (sSet (gN 7) (e2 gIx (eV 3) (e1 fNeg (eC (.int 1))))) (sSeq (sSet (gN 5) (eCall F__law_pick (aC (eV 0) (aC (eLst (aC (e2 fAdd (eV 5) (eC (.int 1))) (aC (eV 7) (aC (e2 fAdd (e2 fAdd (eV 5) (eC (.int 1))) (eCall F__law_draw (aC (eV 0) (aC (e2 fSub (eV 7) (eV 5)) aN)))) (aC (e2 fAdd (e2 fAdd (eV 5) (eC (.int 1))) (e2 fDiv (e2 fSub (e2 fSub (eV 7) (eV 5)) (eC (.int 1))) (eC (.int 3)))) aN))))) aN)))) (sSeq (sDrop (eLm gApp (eV 4) (aC (eV 5) aN))) (sDrop (eLm gApp (eV 3) (aC (e2 fAdd (e2 fAdd (eV 7) (eC (.int 1))) (eCall F__law_draw (aC (eV 0) (aC (eV 2) aN)))) aN))))))) (sRet (eTup (aC (eL (f1 gTup) (aC (eV 3) aN)) (aC (eL (f1 gTup) (aC (eV 4) aN)) (aC (eCall F__law_pick (aC (eV 0) (aC (eLst (aC (eC (.int 0)) (aC (eC (.int 0)) (aC (eC (.int 1)) (aC (eCall F__law_draw (aC (eV 0) (aC (eC (.int 9)) aN))) (aC (e2 fPow (eC (.int 10)) (eC (.int 12))) aN)))))) aN))) aN))))))
noncomputable def F__law_plan : MFun := fnC 3 8 m__law_plan
abbrev s__law_aligned : Stmt := top 8
noncomputable def m__law_aligned : SE := sRet (e2 fAdd (e2 fMul (eC (.str " ")) (e2 fSub (eV 1) (eL (f1 gLen) (aC (eV 0) aN)))) (eV 0))
noncomputable def F__law_aligned : MFun := fnC 2 2 m__law_aligned
abbrev s__law_due : Stmt := top 9
noncomputable def m__law_due : SE := sSeq (sSet (gN 1) (eNew aN)) (sSeq (sFor (iEn1 (aC (e2 gIx (eV 0) (eC (.int 0))) aN)) (gT 2 (gsC (gN 2) (gsC (gN 3) gsN))) (sSeq (sSet (gN 4) (eIf (tV (e2 fGt (eV 2) (eC (.int 0)))) (eL (f1 gStrI) (aC (e2 gIx (e2 gIx (eV 0) (eC (.int 1))) (e2 fSub (eV 2) (eC (.int 1)))) aN)) (eC (.str "-")))) (sDrop (eLm gApp (eV 1) (aC (e2 fAdd (e2 fAdd (eCall F__law_aligned (aC (eL (f1 gStrI) (aC (eV 2) aN)) (aC (eC (.int 2)) aN))) (eCall F__law_aligned (aC (eL (f1 gStrI) (aC (eV 3) aN)) (aC (eC (.int 20)) aN)))) (eCall F__law_aligned (aC (eV 4) (aC (eC (.int 20)) aN)))) aN))))) (sRet (eS1 gJoin (eC (.str "\n")) (eV 1))))
noncomputable def F__law_due : MFun := fnC 1 5 m__law_due
abbrev s_law : Stmt := top 10
noncomputable def m_law : SE := sSeq (sFor (iR1 (aC (eL (f22 gMax) (aC (eC (.int 1)) (aC (eL (f22 gMin) (aC (eC (.int 3)) (aC (eL (f1 gLen) (aC (eV 0) aN)) aN))) aN))) aN)) (gN 1) (sSeq (sSet (gN 2) (eCall F__law_well (aC (eV 0) (aC (eV 1) aN)))) (sFor (iR1 (aC (eC (.int 8)) aN)) (gN 3) (sSeq (sSet (gN 4) (eCall F__law_plan (aC (eV 2) (aC (eCall F__law_pick (aC (eV 2) (aC (eLst (aC (eC (.int 1)) (aC (eC (.int 6)) (aC (eC (.int 39)) aN)))) aN))) (aC (eCall F__law_pick (aC (eV 2) (aC (eLst (aC (eC (.int 1)) (aC (eC (.int 9)) (aC (e2 fPow (eC (.int 10)) (eC (.int 16))) aN)))) aN))) aN))))) (sIf (tV (e2 fNe (eL fRepr (aC (eLst (aC (eCall F_report (aC (eV 4) aN)) (aC (eCallK 0 1 F_report aN (aC (eV 4) aN)) aN))) aN)) (eL fRepr (aC (eLst (aC (eCall F__law_due (aC (eV 4) aN)) (aC (eCall F__law_due (aC (eV 4) aN)) aN))) aN)))) (sRet (eC (.bl false))) sNx))))) (sSeq (sSet (gN 5) (eL (f1 gTup) (aC (eLc (iR1 (aC (eC (.int 40)) aN)) (gN 6) tY (e2 fAdd (e2 fSub (e2 fPow (eC (.int 10)) (eC (.int 18))) (eC (.int 39))) (eV 6)) [6]) aN))) (sSeq (sSet (gN 4) (eTup (aC (eV 5) (aC (eSl gSl (eV 5) oN (oS (e1 fNeg (eC (.int 1))))) (aC (e2 fPow (eC (.int 10)) (eC (.int 12))) aN))))) (sRet (eAn (e2 fEq (eCall F_report (aC (eV 4) aN)) (eCall F__law_due (aC (eV 4) aN))) (e2 fEq (eCall F_report (aC (eTup (aC (eTup (aC (eC (.int 1)) aN)) (aC (eTup aN) (aC (eC (.int 0)) aN)))) aN)) (e2 fAdd (e2 fAdd (e2 fAdd (e2 fAdd (eC (.str " 0")) (e2 fMul (eC (.str " ")) (eC (.int 19)))) (eC (.str "1"))) (e2 fMul (eC (.str " ")) (eC (.int 19)))) (eC (.str "-"))))))))
noncomputable def F_law : MFun := fnC 1 7 m_law
section
variable {P : Program} {w : World} {K : PySem.W.Frag} {mg : Str → Option Value} {base : Heap} {f : Addr} {fd : FuncData}
theorem sc_report : FnScope ["policy", "capacities", "limits", "fixed", "rows", "level", "capacity", "limit"] ["policy"] (defScope s_report) := ⟨rfl, rfl, rfl, by decide +kernel, rfl, by decide +kernel, by decide +kernel⟩
theorem ok_report (F : FnP K "report" s_report f fd) (f_list : mg "list" = none) (f_zip : mg "zip" = none) (f_len : mg "len" = none) (f_range : mg "range" = none) (c_NOTHING : ConG K mg "NOTHING" (.str "-")) : FnG P w K mg base 1 f fd ["policy"] F_report := by
  refine fnG_of F sc_report ends_c fun cdv A outer s H E hr hG => ?_
  have tk := (takes_of rfl rfl rfl rfl : Takes (cxOf (L2.CX P w) P w K mg base ["policy", "capacities", "limits", "fixed", "rows", "level", "capacity", "limit"] "report" (defScope s_report) f cdv A outer s H E) (fun c d _ H => E c d H))
  exact ms_cons (ms_set (me_v 0) (mg_t rfl (mgs_c (mg_n 1 sc_report.nd) (mgs_c (mg_n 2 sc_report.nd) (mgs_c (mg_n 3 sc_report.nd) mgs_n))))) (ms_cons (ms_set (me_lz3 rfl f_list f_zip f_range (g_len f_len (ma_cons (me_v 1) ma_nil)) (ma_cons (me_v 1) (ma_cons (me_tup (ma_cons (g_con c_NOTHING) (ma_star (me_v 2) ma_nil))) ma_nil))) (mg_n 4 sc_report.nd)) (ms_one (ms_ret (me_join me_str (me_lc rfl sc_report.nd (mi_s (me_v 4)) (blkOk_by (own := [("level", 5), ("capacity", 6), ("limit", 7)]) (by rfl)) (fun _ _ _ _ _ => mgc_t rfl (mgsc_c (mgc_n 5 sc_report.nd) (mgsc_c (mgc_n 6 sc_report.nd) (mgsc_c (mgc_n 7 sc_report.nd) mgsc_n)))) (fun _ _ _ _ _ => ct_nil) (fun _ _ _ _ _ => me_fs (.cons (me_pad2 (me_v 5)) (.cons (me_pad20 (me_v 6)) (.cons (me_pad20 (me_v 7)) MJ.nil)))))))))
theorem sc__law_well : FnScope ["_law_script", "_law_k", "_law_cell", "_law_own"] ["_law_script", "_law_k"] (defScope s__law_well) := ⟨rfl, rfl, rfl, by decide +kernel, rfl, by decide +kernel, by decide +kernel⟩
theorem ok__law_well (F : FnP K "_law_well" s__law_well f fd) (f_len : mg "len" = none) (f_abs : mg "abs" = none) (f_int : mg "int" = none) : FnG P w K mg base 1 f fd ["_law_script", "_law_k"] F__law_well := by
  refine fnG_of F sc__law_well ends_k fun cdv A outer s H E hr hG => ?_
  have tk := (takes_of rfl rfl rfl rfl : Takes (cxOf (L2.CX P w) P w K mg base ["_law_script", "_law_k", "_law_cell", "_law_own"] "_law_well" (defScope s__law_well) f cdv A outer s H E) (fun c d _ H => E c d H))
  exact ms_cons (ms_set (me_if (mt_cmp o_lt (me_v 1) (g_len f_len (ma_cons (me_v 0) ma_nil))) (me_ix x_ix (me_v 0) (me_v 1)) (me_op o_add (me_op o_mul me_int (me_v 1)) me_int)) (mg_n 2 sc__law_well.nd)) (ms_cons (ms_set (me_op o_mul (me_op o_mod (g_abs f_abs (ma_cons (me_v 2) ma_nil)) (me_op o_pow (me_op o_pow me_int me_int) me_int)) (g_int f_int (ma_cons (me_cmp o_ge (g_abs f_abs (ma_cons (me_v 2) ma_nil)) (me_op o_pow me_int me_int)) ma_nil))) (mg_n 3 sc__law_well.nd)) (ms_one (ms_ret (me_new (ma_cons (me_v 3) (ma_cons (me_op o_mod (me_op o_add (me_op o_add (me_op o_mul (me_op o_mod (me_v 2) me_int) me_int) (me_op o_mul (me_op o_mul me_int (me_v 1)) (me_v 1))) me_int) me_int) (ma_cons me_int ma_nil)))))))
theorem sc__law_draw : FnScope ["_law_well_here", "_law_many", "_law_digit", "_law_prime", "_law_mixed"] ["_law_well_here", "_law_many"] (defScope s__law_draw) := ⟨rfl, rfl, rfl, by decide +kernel, rfl, by decide +kernel, by decide +kernel⟩
theorem ok__law_draw (F : FnP K "_law_draw" s__law_draw f fd) : FnG P w K mg base 1 f fd ["_law_well_here", "_law_many"] F__law_draw := by
  refine fnG_of F sc__law_draw ends_c fun cdv A outer s H E hr hG => ?_
  have tk := (takes_of rfl rfl rfl rfl : Takes (cxOf (L2.CX P w) P w K mg base ["_law_well_here", "_law_many", "_law_digit", "_law_prime", "_law_mixed"] "_law_draw" (defScope s__law_draw) f cdv A outer s H E) (fun c d _ H => E c d H))
  exact ms_cons (ms_if (mt_cmp o_gt (me_ix x_ix (me_v 0) me_int) me_int) (ms_cons (ms_set (me_op o_mod (me_ix x_ix (me_v 0) me_int) (me_v 1)) (mg_n 2 sc__law_draw.nd)) (ms_cons (ms_set (me_op o_div (me_ix x_ix (me_v 0) me_int) (me_v 1)) (mg_i (me_v 0) me_int)) (ms_one (ms_ret (me_v 2))))) ms_nil) (ms_cons (ms_set (me_op o_add (me_ix x_ix (me_v 0) me_int) me_int) (mg_i (me_v 0) me_int)) (ms_cons (ms_set (me_ix x_ix (me_lst (ma_cons me_int (ma_cons me_int (ma_cons me_int (ma_cons me_int (ma_cons me_int ma_nil)))))) (me_op o_mod (me_ix x_ix (me_v 0) me_int) me_int)) (mg_n 3 sc__law_draw.nd)) (ms_cons (ms_set (me_op o_mod (me_op o_pow (me_op o_add (me_op o_add (me_ix x_ix (me_v 0) me_int) (me_op o_mul (me_op o_mul me_int (me_ix x_ix (me_v 0) me_int)) (me_ix x_ix (me_v 0) me_int))) me_int) me_int) (me_v 3)) (mg_n 4 sc__law_draw.nd)) (ms_one (ms_ret (me_op o_mod (me_op o_div (me_op o_mod (me_op o_mul (me_v 4) (me_op o_add (me_op o_mod (me_v 4) me_int) (me_op o_mul me_int (me_ix x_ix (me_v 0) me_int)))) me_int) me_int) (me_v 1)))))))
theorem sc__law_pick : FnScope ["_law_well_here", "_law_some"] ["_law_well_here", "_law_some"] (defScope s__law_pick) := ⟨rfl, rfl, rfl, by decide +kernel, rfl, by decide +kernel, by decide +kernel⟩
theorem ok__law_pick (F : FnP K "_law_pick" s__law_pick f fd) (f_len : mg "len" = none) (d__law_draw : DefG P w K mg base 1 "_law_draw" 2 F__law_draw) : FnG P w K mg base 2 f fd ["_law_well_here", "_law_some"] F__law_pick := by
  refine fnG_of F sc__law_pick ends_c fun cdv A outer s H E hr hG => ?_
  have tk := (takes_of rfl rfl rfl rfl : Takes (cxOf (L2.CX P w) P w K mg base ["_law_well_here", "_law_some"] "_law_pick" (defScope s__law_pick) f cdv A outer s H E) (fun c d _ H => E c d H))
  exact ms_one (ms_ret (me_ix x_ix (me_v 1) (g_call d__law_draw hr hG tk (ma_cons (me_v 0) (ma_cons (g_len f_len (ma_cons (me_v 1) ma_nil)) ma_nil)))))
theorem sc__law_plan : FnScope ["_law_well_here", "_law_levels", "_law_wide", "_law_caps", "_law_floors", "_law_low", "_law_turn", "_law_high"] ["_law_well_here", "_law_levels", "_law_wide"] (defScope s__law_plan) := ⟨rfl, rfl, rfl, by decide +kernel, rfl, by decide +kernel, by decide +kernel⟩
theorem ok__law_plan (F : FnP K "_law_plan" s__law_plan f fd) (f_range : mg "range" = none) (f_tuple : mg "tuple" = none) (d__law_draw : DefG P w K mg base 1 "_law_draw" 2 F__law_draw) (d__law_pick : DefG P w K mg base 2 "_law_pick" 2 F__law_pick) : FnG P w K mg base 3 f fd ["_law_well_here", "_law_levels", "_law_wide"] F__law_plan := by
  refine fnG_of F sc__law_plan ends_c fun cdv A outer s H E hr hG => ?_
  have tk := (takes_of rfl rfl rfl rfl : Takes (cxOf (L2.CX P w) P w K mg base ["_law_well_here", "_law_levels", "_law_wide", "_law_caps", "_law_floors", "_law_low", "_law_turn", "_law_high"] "_law_plan" (defScope s__law_plan) f cdv A outer s H E) (fun c d _ H => E c d H))
  exact ms_cons (ms_par3 (i := 3) (j := 4) (l := 5) rfl sc__law_plan.nd (ma_cons (me_new (ma_cons (me_op o_add me_int (g_call d__law_draw hr hG tk (ma_cons (me_v 0) (ma_cons (me_v 2) ma_nil)))) ma_nil)) (ma_cons (me_new ma_nil) (ma_cons (me_un u_neg me_int) ma_nil)))) (ms_cons (ms_for (passes_of rfl) rfl (mi_r1 f_range (ma_cons (g_call d__law_draw hr hG tk (ma_cons (me_v 0) (ma_cons (me_v 1) ma_nil))) ma_nil)) (mg_n 6 sc__law_plan.nd) (ms_cons (ms_set (me_ix x_ix (me_v 3) (me_un u_neg me_int)) (mg_n 7 sc__law_plan.nd)) (ms_cons (ms_set (g_call d__law_pick hr hG tk (ma_cons (me_v 0) (ma_cons (me_lst (ma_cons (me_op o_add (me_v 5) me_int) (ma_cons (me_v 7) (ma_cons (me_op o_add (me_op o_add (me_v 5) me_int) (g_call d__law_draw hr hG tk (ma_cons (me_v 0) (ma_cons (me_op o_sub (me_v 7) (me_v 5)) ma_nil)))) (ma_cons (me_op o_add (me_op o_add (me_v 5) me_int) (me_op o_div (me_op o_sub (me_op o_sub (me_v 7) (me_v 5)) me_int) me_int)) ma_nil))))) ma_nil))) (mg_n 5 sc__law_plan.nd)) (ms_cons (ms_drop (me_app (me_v 4) (ma_cons (me_v 5) ma_nil))) (ms_one (ms_drop (me_app (me_v 3) (ma_cons (me_op o_add (me_op o_add (me_v 7) me_int) (g_call d__law_draw hr hG tk (ma_cons (me_v 0) (ma_cons (me_v 2) ma_nil)))) ma_nil)))))))) (ms_one (ms_ret (me_tup (ma_cons (g_tuple f_tuple (ma_cons (me_v 3) ma_nil)) (ma_cons (g_tuple f_tuple (ma_cons (me_v 4) ma_nil)) (ma_cons (g_call d__law_pick hr hG tk (ma_cons (me_v 0) (ma_cons (me_lst (ma_cons me_int (ma_cons me_int (ma_cons me_int (ma_cons (g_call d__law_draw hr hG tk (ma_cons (me_v 0) (ma_cons me_int ma_nil))) (ma_cons (me_op o_pow me_int me_int) ma_nil)))))) ma_nil))) ma_nil)))))))
theorem sc__law_aligned : FnScope ["_law_word", "_law_wide"] ["_law_word", "_law_wide"] (defScope s__law_aligned) := ⟨rfl, rfl, rfl, by decide +kernel, rfl, by decide +kernel, by decide +kernel⟩
theorem ok__law_aligned (F : FnP K "_law_aligned" s__law_aligned f fd) (f_len : mg "len" = none) : FnG P w K mg base 1 f fd ["_law_word", "_law_wide"] F__law_aligned := by
  refine fnG_of F sc__law_aligned ends_c fun cdv A outer s H E hr hG => ?_
  have tk := (takes_of rfl rfl rfl rfl : Takes (cxOf (L2.CX P w) P w K mg base ["_law_word", "_law_wide"] "_law_aligned" (defScope s__law_aligned) f cdv A outer s H E) (fun c d _ H => E c d H))
  exact ms_one (ms_ret (me_op o_add (me_op o_mul me_str (me_op o_sub (me_v 1) (g_len f_len (ma_cons (me_v 0) ma_nil)))) (me_v 0)))
theorem sc__law_due : FnScope ["_law_plan_here", "_law_rows", "_law_at", "_law_cap", "_law_low"] ["_law_plan_here"] (defScope s__law_due) := ⟨rfl, rfl, rfl, by decide +kernel, rfl, by decide +kernel, by decide +kernel⟩
theorem ok__law_due (F : FnP K "_law_due" s__law_due f fd) (f_enumerate : mg "enumerate" = none) (f_str : mg "str" = none) (d__law_aligned : DefG P w K mg base 1 "_law_aligned" 2 F__law_aligned) : FnG P w K mg base 2 f fd ["_law_plan_here"] F__law_due := by
  refine fnG_of F sc__law_due ends_c fun cdv A outer s H E hr hG => ?_
  have tk := (takes_of rfl rfl rfl rfl : Takes (cxOf (L2.CX P w) P w K mg base ["_law_plan_here", "_law_rows", "_law_at", "_law_cap", "_law_low"] "_law_due" (defScope s__law_due) f cdv A outer s H E) (fun c d _ H => E c d H))
  exact ms_cons (ms_set (me_new ma_nil) (mg_n 1 sc__law_due.nd)) (ms_cons (ms_for (passes_of rfl) rfl (mi_en1 f_enumerate (ma_cons (me_ix x_ix (me_v 0) me_int) ma_nil)) (mg_t rfl (mgs_c (mg_n 2 sc__law_due.nd) (mgs_c (mg_n 3 sc__law_due.nd) mgs_n))) (ms_cons (ms_set (me_if (mt_cmp o_gt (me_v 2) me_int) (g_str f_str (ma_cons (me_ix x_ix (me_ix x_ix (me_v 0) me_int) (me_op o_sub (me_v 2) me_int)) ma_nil)) me_str) (mg_n 4 sc__law_due.nd)) (ms_one (ms_drop (me_app (me_v 1) (ma_cons (me_op o_add (me_op o_add (g_call d__law_aligned hr hG tk (ma_cons (g_str f_str (ma_cons (me_v 2) ma_nil)) (ma_cons me_int ma_nil))) (g_call d__law_aligned hr hG tk (ma_cons (g_str f_str (ma_cons (me_v 3) ma_nil)) (ma_cons me_int ma_nil)))) (g_call d__law_aligned hr hG tk (ma_cons (me_v 4) (ma_cons me_int ma_nil)))) ma_nil)))))) (ms_one (ms_ret (me_join me_str (me_v 1)))))
theorem sc_law : FnScope ["_law_script", "_law_k", "_law_well_here", "_law_turn", "_law_plan_here", "_law_caps", "_law_at"] ["_law_script"] (defScope s_law) := ⟨rfl, rfl, rfl, by decide +kernel, rfl, by decide +kernel, by decide +kernel⟩
theorem ok_law (F : FnP K "law" s_law f fd) (f_range : mg "range" = none) (f_len : mg "len" = none) (f_min : mg "min" = none) (f_max : mg "max" = none) (f_repr : mg "repr" = none) (f_tuple : mg "tuple" = none) (d__law_well : DefG P w K mg base 1 "_law_well" 2 F__law_well) (d__law_plan : DefG P w K mg base 3 "_law_plan" 3 F__law_plan) (d__law_pick : DefG P w K mg base 2 "_law_pick" 2 F__law_pick) (d_report : DefG P w K mg base 1 "report" 1 F_report) (d__law_due : DefG P w K mg base 2 "_law_due" 1 F__law_due) (k_report_0 : DefK P w K mg base 1 "report" 0 ["policy"] F_report) : FnG P w K mg base 4 f fd ["_law_script"] F_law := by
  refine fnG_of F sc_law ends_c fun cdv A outer s H E hr hG => ?_
  have tk := (takes_of rfl rfl rfl rfl : Takes (cxOf (L2.CX P w) P w K mg base ["_law_script", "_law_k", "_law_well_here", "_law_turn", "_law_plan_here", "_law_caps", "_law_at"] "law" (defScope s_law) f cdv A outer s H E) (fun c d _ H => E c d H))
  exact ms_cons (ms_for (passes_of rfl) rfl (mi_r1 f_range (ma_cons (g_max rfl f_max (ma_cons me_int (ma_cons (g_min rfl f_min (ma_cons me_int (ma_cons (g_len f_len (ma_cons (me_v 0) ma_nil)) ma_nil))) ma_nil))) ma_nil)) (mg_n 1 sc_law.nd) (ms_cons (ms_set (g_call d__law_well hr hG tk (ma_cons (me_v 0) (ma_cons (me_v 1) ma_nil))) (mg_n 2 sc_law.nd)) (ms_one (ms_for (passes_of rfl) rfl (mi_r1 f_range (ma_cons me_int ma_nil)) (mg_n 3 sc_law.nd) (ms_cons (ms_set (g_call d__law_plan hr hG tk (ma_cons (me_v 2) (ma_cons (g_call d__law_pick hr hG tk (ma_cons (me_v 2) (ma_cons (me_lst (ma_cons me_int (ma_cons me_int (ma_cons me_int ma_nil)))) ma_nil))) (ma_cons (g_call d__law_pick hr hG tk (ma_cons (me_v 2) (ma_cons (me_lst (ma_cons me_int (ma_cons me_int (ma_cons (me_op o_pow me_int me_int) ma_nil)))) ma_nil))) ma_nil)))) (mg_n 4 sc_law.nd)) (ms_one (ms_if (mt_cmp (o_ne hr.units) (g_repr hr hG f_repr (ma_cons (me_lst (ma_cons (g_call d_report hr hG tk (ma_cons (me_v 4) ma_nil)) (ma_cons (g_callK0 k_report_0 hr hG tk (mk_cons (me_v 4) mk_nil)) ma_nil))) ma_nil)) (g_repr hr hG f_repr (ma_cons (me_lst (ma_cons (g_call d__law_due hr hG tk (ma_cons (me_v 4) ma_nil)) (ma_cons (g_call d__law_due hr hG tk (ma_cons (me_v 4) ma_nil)) ma_nil))) ma_nil))) (ms_one (ms_ret me_bl)) ms_nil))))))) (ms_cons (ms_set (g_tuple f_tuple (ma_cons (me_lc rfl sc_law.nd (mi_r1 f_range (ma_cons me_int ma_nil)) (blkOk_by (own := [("_law_at", 6)]) (by rfl)) (fun _ _ _ _ _ => mgc_n 6 sc_law.nd) (fun _ _ _ _ _ => ct_nil) (fun _ _ _ _ _ => me_op o_add (me_op o_sub (me_op o_pow me_int me_int) me_int) (me_v 6))) ma_nil)) (mg_n 5 sc_law.nd)) (ms_cons (ms_set (me_tup (ma_cons (me_v 5) (ma_cons (me_sl x_sl (me_v 5) mo_n (mo_s (me_un u_neg me_int))) (ma_cons (me_op o_pow me_int me_int) ma_nil)))) (mg_n 4 sc_law.nd)) (ms_one (ms_ret (me_and (me_cmp (o_eq hr.units) (g_call d_report hr hG tk (ma_cons (me_v 4) ma_nil)) (g_call d__law_due hr hG tk (ma_cons (me_v 4) ma_nil))) (me_one (me_cmp (o_eq hr.units) (g_call d_report hr hG tk (ma_cons (me_tup (ma_cons (me_tup (ma_cons me_int ma_nil)) (ma_cons (me_tup ma_nil) (ma_cons me_int ma_nil)))) ma_nil)) (me_op o_add (me_op o_add (me_op o_add (me_op o_add me_str (me_op o_mul me_str me_int)) me_str) (me_op o_mul me_str me_int)) me_str))))))))
end
end K58
set_option Elab.async false
set_option linter.all false
set_option autoImplicit false
set_option maxRecDepth 100000
set_option maxHeartbeats 2000000
namespace K58
open PySem PySem.Spec PyProof.Rows L2 MM
/-- a well of three ints, drawn from at most k times -/
def Wl (k : Int) (st : Sto) (n : Nat) : Prop := ∃ a b c : Int, st[n]? = some (.lst [.int a, .int b, .int c]) ∧ 0 ≤ a ∧ a < 10 ^ 300 ∧ 0 ≤ b ∧ b < 2 ^ 62 ∧ 0 ≤ c ∧ c ≤ k
def Sm (n : Nat) (st st' : Sto) : Prop := st'.length = st.length ∧ ∀ i, i ≠ n → st'[i]? = st[i]?
theorem Sm.cut {n : Nat} {st st' : Sto} (h : Sm n st st') (hb : ∃ mo, st'[n]? = some mo ∧ belowM st.length mo = true) : okCut st st' := by
  refine ⟨Nat.le_of_eq h.1.symm, fun i hi => ?_⟩
  by_cases e : i = n
  · subst e; exact .inr hb
  · exact .inl (h.2 i e)
theorem draw_ok {n : Nat} {k many : Int} {st : Sto} {Q : D → Sto → Prop} (w : Wl k st n) (hm : 0 < many) (hm2 : many < 10 ^ 300) (hk : k ≤ 10 ^ 50)
    (h : ∀ (r : Int) st', 0 ≤ r → r < many → Sm n st st' → Wl (k + 1) st' n → Q (.int r) st') : Ok (F__law_draw [.loc n, .int many] st) Q := by
  obtain ⟨a, b, c, e, a0, a1, b0, b1, c0, c1⟩ := w
  have es := set_at e
  refine fnC_ok rfl ?_
  have hB := BB_ge
  have fin : ∀ (a' c' r : Int), 0 ≤ a' → a' < 10 ^ 300 → 0 ≤ c' → c' ≤ k + 1 → 0 ≤ r → r < many → okCut st (st.set n (.lst [.int a', .int b, .int c'])) ∧
      ∃ d', frz st.length (st.set n (.lst [.int a', .int b, .int c'])) (.int r) = some d' ∧ Q d' ((st.set n (.lst [.int a', .int b, .int c'])).take st.length) := fun a' c' r h1 h2 h3 h4 h5 h6 => by
    have sm : Sm n st (st.set n (.lst [.int a', .int b, .int c'])) := ⟨List.length_set, fun i hi => List.getElem?_set_ne (fun z => hi z.symm)⟩
    refine ⟨sm.cut ⟨_, es _, rfl⟩, .int r, frz_of rfl, ?_⟩
    rw [List.take_of_length_le (Nat.le_of_eq sm.1)]
    exact h r _ h5 h6 sm ⟨a', b, c', es _, h1, h2, b0, b1, h3, h4⟩
  by_cases ha : 0 < a
  · simp [m__law_draw, sq, e, es, gI, ixN, w_mul, w_div, w_mod, w_pow, outV, ha, and_assoc]
    exact ⟨hm, by omega, fin _ _ _ (Int.ediv_nonneg a0 (by omega)) (by have := Int.ediv_le_self many a0; omega) c0 (by omega) (Int.emod_nonneg _ (by omega)) (Int.emod_lt_of_pos _ hm)⟩
  · obtain ⟨p, hp, hpe⟩ := at_in (xs := [D.int 2147483647, D.int 2147483629, D.int 2147483587, D.int 2147483579, D.int 2147483563]) (i := (c + 1) % 5) (by omega) (by simp; omega)
    have hp2 : ∃ q : Int, p = .int q ∧ 0 < q ∧ q < 2 ^ 62 := by
      simp only [List.mem_cons, List.not_mem_nil, or_false] at hp
      rcases hp with rfl | rfl | rfl | rfl | rfl <;> exact ⟨_, rfl, by decide, by decide⟩
    obtain ⟨q, rfl, q0, q1⟩ := hp2
    simp [m__law_draw, sq, e, es, gI, ixN, w_mul, w_div, w_mod, w_pow, outV, ha, hpe, and_assoc]
    have hc1 : 0 ≤ 65537 * (c + 1) * (c + 1) := Int.mul_nonneg (by omega) (by omega)
    have hc2 : 65537 * (c + 1) * (c + 1) ≤ (65537 * (10 ^ 50 + 1)) * (10 ^ 50 + 1) := Int.mul_le_mul (by omega) (by omega) (by omega) (by omega)
    generalize hz : 65537 * (c + 1) * (c + 1) = z at hc1 hc2 ⊢
    generalize hy : (b + z + 37) ^ 3 % q = y
    have y0 : 0 ≤ y := by rw [← hy]; exact Int.emod_nonneg _ (by omega)
    have y1 : y < q := by rw [← hy]; exact Int.emod_lt_of_pos _ q0
    repeat (first | exact fin _ _ _ a0 a1 (by omega) (by omega) (Int.emod_nonneg _ (by omega)) (Int.emod_lt_of_pos _ hm) | refine ⟨by first | omega | exact hm, ?_⟩)
/-- one of several -/
theorem pick_ok {n : Nat} {k : Int} {xs : List D} {st : Sto} {Q : D → Sto → Prop} (w : Wl k st n) (hx : 0 < xs.length) (hx2 : xs.length ≤ 100000) (hb : ∀ x ∈ xs, ∀ n, below n x = true) (hk : k ≤ 10 ^ 50)
    (h : ∀ x st', x ∈ xs → Sm n st st' → Wl (k + 1) st' n → Q x st') : Ok (F__law_pick [.loc n, .lst xs] st) Q := by
  refine fnC_ok rfl ?_
  simp [m__law_pick, outV]
  refine draw_ok w (by omega) (by omega) hk fun r st' h0 h1 sm w' => ?_
  obtain ⟨d, hd, e⟩ := at_in h0 h1
  refine ⟨d, e, sm.cut ?_, d, frz_of (hb d hd _), ?_⟩
  · obtain ⟨a, b, c, e, _⟩ := w'
    exact ⟨_, e, rfl⟩
  · rw [List.take_of_length_le (Nat.le_of_eq sm.1)]
    exact h d st' hd sm w'
theorem Sm.refl (n : Nat) (st : Sto) : Sm n st st := ⟨rfl, fun _ _ => rfl⟩
theorem Sm.trans {n : Nat} {a b c : Sto} (h : Sm n a b) (g : Sm n b c) : Sm n a c := ⟨g.1.trans h.1, fun i hi => (g.2 i hi).trans (h.2 i hi)⟩
theorem Wl.mono {n : Nat} {j k : Int} {st : Sto} (w : Wl j st n) (l : j ≤ k) : Wl k st n := by
  obtain ⟨a, b, c, e, a0, a1, b0, b1, c0, c1⟩ := w
  exact ⟨a, b, c, e, a0, a1, b0, b1, c0, by omega⟩
theorem Wl.lt {n : Nat} {k : Int} {st : Sto} (w : Wl k st n) : n < st.length := by
  obtain ⟨a, b, c, e, _⟩ := w
  exact (List.getElem?_eq_some_iff.mp e).1
theorem Wl.low {n m : Nat} {k : Int} {st : Sto} (w : Wl k st n) : ∃ mo, st[n]? = some mo ∧ belowM m mo = true := by
  obtain ⟨a, b, c, e, _⟩ := w
  exact ⟨_, e, rfl⟩
/-- things laid behind do not touch the well -/
theorem Wl.app {n : Nat} {k : Int} {st : Sto} (w : Wl k st n) (t : Sto) : Wl k (st ++ t) n := by
  obtain ⟨a, b, c, e, r⟩ := w
  exact ⟨a, b, c, by rw [List.getElem?_append_left (List.getElem?_eq_some_iff.mp e).1]; exact e, r⟩
/-! plans -/
def Asc : Int → List Int → Prop
  | _, [] => True
  | lo, x :: xs => lo ≤ x ∧ Asc (x + 1) xs
/-- the parts of a plan: capacities, floors -/
structure Plan (caps floors : List Int) (fixed : Int) : Prop where
  len : caps.length = floors.length + 1
  most : caps.length ≤ 40
  asc : Asc 1 caps
  top : ∀ x ∈ caps, x ≤ 10 ^ 18
  fasc : Asc 0 floors
  fle : ∀ (j : Nat) (f c : Int), floors[j]? = some f → caps[j]? = some c → f ≤ c
  fix0 : 0 ≤ fixed
  fix1 : fixed ≤ 10 ^ 12

def planD (caps floors : List Int) (fixed : Int) : D := .tup [tD caps, tD floors, .int fixed]
theorem Asc.app : ∀ {xs : List Int} {lo y : Int}, Asc lo xs → lo ≤ y → (∀ x ∈ xs, x < y) → Asc lo (xs ++ [y])
  | [], _, _, _, h, _ => ⟨h, trivial⟩
  | x :: xs, lo, y, h, hl, hx => ⟨h.1, Asc.app h.2 (by have := hx x List.mem_cons_self; omega) fun z hz => hx z (List.mem_cons_of_mem _ hz)⟩
structure PInv (n L : Nat) (k wide levels : Int) (st0 : Sto) (i : Nat) (env : MM.Env) (st : Sto) : Prop where
  ex : ∃ (pre floors : List Int) (hi low : Int) (x6 x7 : Option D), env = [some (.loc n), some (.int levels), some (.int wide), some (.loc L), some (.loc (L + 1)), some (.int low), x6, x7] ∧ st[L]? = some (.lst (pre.map .int ++ [.int hi])) ∧ st[L + 1]? = some (.lst (floors.map .int)) ∧
    pre.length = i ∧ floors.length = i ∧ Asc 1 (pre ++ [hi]) ∧ (∀ x ∈ pre, x ≤ hi) ∧ Asc 0 floors ∧ (∀ x ∈ floors, x ≤ low) ∧ -1 ≤ low ∧ low < hi ∧ 1 ≤ hi ∧ hi ≤ ((i : Int) + 1) * (wide + 1) ∧ ∀ (j : Nat) (f c : Int), floors[j]? = some f → (pre ++ [hi])[j]? = some c → f ≤ c
  len : st.length = L + 2
  oth : ∀ j, j ≠ n → j < L → st[j]? = st0[j]?
  wl : Wl (k + 2 + 3 * (i : Int)) st n
theorem plan_ok {n : Nat} {k levels wide : Int} {st : Sto} {Q : D → Sto → Prop} (w : Wl k st n) (hl : 0 < levels) (hl2 : levels ≤ 39) (hw : 0 < wide) (hw2 : wide ≤ 10 ^ 17) (hm : levels * (wide + 1) ≤ 10 ^ 18) (hk : k ≤ 10 ^ 40)
    (h : ∀ caps floors fixed st', Plan caps floors fixed → (caps.length : Int) ≤ levels → Sm n st st' → Wl (k + 200) st' n → Q (planD caps floors fixed) st') : Ok (F__law_plan [.loc n, .int levels, .int wide] st) Q := by
  refine fnC_ok rfl ?_
  simp [m__law_plan, outV]
  refine draw_ok w hw (by omega) (by omega) fun r st1 h0 h1 sm1 w1 => ?_
  simp
  refine draw_ok (w1.app _) hl (by omega) (by omega) fun t st2 t0 t1 sm2 w2 => ?_
  have ht : -4611686018427387904 ≤ t ∧ t < 4611686018427387904 := by omega
  have hn := w.lt
  have l1 := sm1.1
  have l2 : st2.length = st.length + 2 := by rw [sm2.1]; simp [l1]
  simp only [if_pos ht, Ok_ok, l1]
  refine loop_rng (PInv n st.length k wide levels st) ?_ ?_ ?_
  · refine ⟨⟨[], [], 1 + r, -1, none, none, ?_, ?_, ?_, rfl, rfl, ⟨by omega, trivial⟩, (fun _ z => by cases z), trivial, (fun _ z => by cases z), by omega, by omega, by omega, by simp; omega, fun j f c e => by simp at e⟩, l2, ?_, ?_⟩
    · simp [l1]
    · rw [sm2.2 _ (by omega), ← l1]; simp
    · rw [sm2.2 _ (by omega), ← l1]; simp
    · intro j hj hj2
      rw [sm2.2 j hj, List.getElem?_append_left (by omega), sm1.2 j hj]
    · exact w2.mono (by omega)
  · intro i env st3 hi P
    obtain ⟨⟨pre, floors, hi', low, x6, x7, rfl, eL, eF, lp, lf, a1, a2, a3, a4, a5, a6, a7, a8, a9⟩, ln, oth, wl⟩ := P
    have hB := BB_ge
    have hib : ((i : Int) + 1) * (wide + 1) ≤ levels * (wide + 1) := Int.mul_le_mul_of_nonneg_right (by omega) (by omega)
    simp [sq, eL, w_div, and_assoc]
    refine draw_ok wl (by omega) (by omega) (by omega) fun r3 st4 b0 b1 sm4 w4 => ?_
    simp [w_div, and_assoc]
    refine ⟨by omega, pick_ok w4 (by simp) (by simp) (fun x hx n => ?_) (by omega) fun x st5 hx sm5 w5 => ?_⟩
    · simp only [List.mem_cons, List.not_mem_nil, or_false] at hx
      rcases hx with rfl | rfl | rfl | rfl <;> rfl
    have hx' : ∃ low' : Int, x = .int low' ∧ low + 1 ≤ low' ∧ low' ≤ hi' := by
      simp only [List.mem_cons, List.not_mem_nil, or_false] at hx
      rcases hx with rfl | rfl | rfl | rfl <;> exact ⟨_, rfl, by omega, by omega⟩
    obtain ⟨low', rfl, c0, c1⟩ := hx'
    have sm35 := sm4.trans sm5
    have e1 : st5[st.length]? = some (.lst (pre.map .int ++ [.int hi'])) := by rw [sm35.2 _ (by omega)]; exact eL
    have e2 : st5[st.length + 1]? = some (.lst (floors.map .int)) := by rw [sm35.2 _ (by omega)]; exact eF
    have l5 : st5.length = st.length + 2 := by rw [sm35.1]; exact ln
    have e3 : (st5.set (st.length + 1) (.lst (floors.map .int ++ [.int low'])))[st.length]? = some (.lst (pre.map .int ++ [.int hi'])) := by rw [List.getElem?_set_ne (by omega)]; exact e1
    simp [e2, gApp, e3, show floors.length < 1000000 by omega]
    have w6 : Wl (k + 2 + 3 * (i : Int) + 1 + 1) (st5.set (st.length + 1) (.lst (floors.map .int ++ [.int low']))) n := by
      obtain ⟨a, b, c, e, rr⟩ := w5
      exact ⟨a, b, c, by rw [List.getElem?_set_ne (by omega)]; exact e, rr⟩
    refine draw_ok w6 hw (by omega) (by omega) fun r6 st7 d0 d1 sm7 w7 => ?_
    have e4 : st7[st.length]? = some (.lst (pre.map .int ++ [.int hi'])) := by rw [sm7.2 _ (by omega)]; exact e3
    have e5 : st7[st.length + 1]? = some (.lst (floors.map .int ++ [.int low'])) := by rw [sm7.2 _ (by omega)]; exact set_at e2 _
    have l7 : st7.length = st.length + 2 := by rw [sm7.1, List.length_set]; exact l5
    simp [e4, gApp, show pre.length + 1 < 1000000 by omega]
    refine ⟨⟨pre ++ [hi'], floors ++ [low'], hi' + 1 + r6, low', _, _, rfl, ?_, ?_, by simp [lp], by simp [lf], ?_, ?_, ?_, ?_, by omega, by omega, by omega, ?_, ?_⟩, ?_, ?_, ?_⟩
    · rw [set_at e4]; simp
    · rw [List.getElem?_set_ne (by omega), e5]; simp
    · exact Asc.app a1 (by omega) fun x hx => by
        rcases List.mem_append.mp hx with hx | hx
        · have := a2 x hx; omega
        · have : x = hi' := by simpa using hx
          omega
    · intro x hx
      rcases List.mem_append.mp hx with hx | hx
      · have := a2 x hx; omega
      · have : x = hi' := by simpa using hx
        omega
    · exact Asc.app a3 (by omega) fun x hx => by have := a4 x hx; omega
    · intro x hx
      rcases List.mem_append.mp hx with hx | hx
      · have := a4 x hx; omega
      · have : x = low' := by simpa using hx
        omega
    · have : ((i + 1 : Nat) + 1 : Int) * (wide + 1) = ((i : Int) + 1) * (wide + 1) + (wide + 1) := by
        push_cast
        rw [Int.add_mul ((i : Int) + 1) 1, Int.one_mul]
      omega
    · intro j f c hf hc
      by_cases hj : j < i
      · rw [List.getElem?_append_left (by omega)] at hf
        rw [List.getElem?_append_left (by simp; omega)] at hc
        exact a9 j f c hf hc
      · have hj2 : j = i := by
          obtain ⟨q, _⟩ := List.getElem?_eq_some_iff.mp hf
          simp at q
          omega
        subst hj2
        rw [← lf] at hf
        simp at hf
        rw [List.getElem?_append_left (by simp; omega), ← lp] at hc
        simp at hc
        omega
    · simp [l7]
    · intro j hj hj2
      rw [List.getElem?_set_ne (by omega), sm7.2 j hj, List.getElem?_set_ne (by omega), sm35.2 j hj]
      exact oth j hj hj2
    · obtain ⟨a, b, c, e, a0, a1, b0, b1, c0, c1⟩ := w7
      exact ⟨a, b, c, by rw [List.getElem?_set_ne (by omega)]; exact e, a0, a1, b0, b1, c0, by push_cast; omega⟩
  · intro env st3 P
    obtain ⟨⟨pre, floors, hi', low, x6, x7, rfl, eL, eF, lp, lf, a1, a2, a3, a4, a5, a6, a7, a8, a9⟩, ln, oth, wl⟩ := P
    have hib : ((t.toNat : Int) + 1) * (wide + 1) ≤ levels * (wide + 1) := Int.mul_le_mul_of_nonneg_right (by omega) (by omega)
    simp [sqL, eL, eF]
    refine draw_ok wl (by omega) (by omega) (by omega) fun r3 st4 b0 b1 sm4 w4 => ?_
    have hB := BB_ge
    simp [w_pow, and_assoc]
    refine ⟨by omega, by omega, pick_ok w4 (by simp) (by simp) (fun x hx n => ?_) (by omega) fun x st5 hx sm5 w5 => ?_⟩
    · simp only [List.mem_cons, List.not_mem_nil, or_false] at hx
      rcases hx with rfl | rfl | rfl | rfl | rfl <;> rfl
    have hx' : ∃ fx : Int, x = .int fx ∧ 0 ≤ fx ∧ fx ≤ 10 ^ 12 := by
      simp only [List.mem_cons, List.not_mem_nil, or_false] at hx
      rcases hx with rfl | rfl | rfl | rfl | rfl <;> exact ⟨_, rfl, by omega, by omega⟩
    obtain ⟨fx, rfl, f0, f1⟩ := hx'
    have sm35 := sm4.trans sm5
    have l5 : st5.length = st.length + 2 := by rw [sm35.1]; exact ln
    have oth5 : ∀ j, j ≠ n → j < st.length → st5[j]? = st[j]? := fun j hj hj2 => by rw [sm35.2 j hj]; exact oth j hj hj2
    have smf : Sm n st (st5.take st.length) := ⟨by simp; omega, fun j hj => by
      by_cases hj2 : j < st.length
      · rw [List.getElem?_take_of_lt hj2]; exact oth5 j hj hj2
      · rw [List.getElem?_eq_none (by simp; omega), List.getElem?_eq_none (by omega)]⟩
    have wf : Wl (k + 200) (st5.take st.length) n := by
      obtain ⟨a, b, c, e, a0, a1, b0, b1, c0, c1⟩ := w5
      exact ⟨a, b, c, by rw [List.getElem?_take_of_lt hn]; exact e, a0, a1, b0, b1, c0, by omega⟩
    refine ⟨⟨by omega, fun j hj => ?_⟩, planD (pre ++ [hi']) floors fx, ?_, h _ _ _ _ ⟨by simp [lp, lf], by simp; omega, a1, ?_, a3, a9, f0, f1⟩ (by simp; omega) smf wf⟩
    · by_cases hjn : j = n
      · subst hjn
        exact .inr w5.low
      · exact .inl (oth5 j hjn hj)
    · have e1 : (D.tup [D.tup (List.map D.int pre ++ [D.int hi']), D.tup (List.map D.int floors), D.int fx]) = planD (pre ++ [hi']) floors fx := by simp [planD, tD]
      rw [e1]
      refine frz_of ?_
      simp only [planD, tD, below, belows, belows_int, Bool.and_self]
    · intro x hx
      rcases List.mem_append.mp hx with hx | hx
      · have := a2 x hx; omega
      · have : x = hi' := by simpa using hx
        omega
end K58
set_option Elab.async false
set_option linter.all false
set_option autoImplicit false
set_option maxRecDepth 100000
set_option maxHeartbeats 2000000
namespace K58
open PySem PySem.Spec PyProof.Rows L2 MM
/-- one line: level, capacity, limit, each to the right -/
def rowT (j : Nat) (c : Int) (l : Str) : Str := (padN 2 (istr (j : Int)) ++ padN 20 (istr c)) ++ padN 20 l
def padT : D → Str
  | .int i => istr i
  | .str x => x
  | _ => Str.empty
def limD (floors : List Int) (j : Nat) : D := if j = 0 then .str "-" else .int (floors.getD (j - 1) 0)
def rowsF (floors : List Int) : Nat → List Int → List Str
  | _, [] => []
  | j, c :: cs => rowT j c (padT (limD floors j)) :: rowsF floors (j + 1) cs
theorem rowsF_len (floors : List Int) : ∀ (xs : List Int) (j : Nat), (rowsF floors j xs).length = xs.length
  | [], _ => rfl
  | x :: xs, j => by simp [rowsF, rowsF_len floors xs]
theorem rowsF_app (floors : List Int) : ∀ (xs ys : List Int) (j : Nat), rowsF floors j (xs ++ ys) = rowsF floors j xs ++ rowsF floors (j + xs.length) ys
  | [], ys, j => by simp [rowsF]
  | x :: xs, ys, j => by
    simp only [List.cons_append, rowsF, rowsF_app floors xs ys, List.length_cons]
    congr 3
    omega
theorem rowsF_get (floors : List Int) : ∀ (xs : List Int) (j i : Nat) (c : Int), xs[i]? = some c → (rowsF floors j xs)[i]? = some (rowT (j + i) c (padT (limD floors (j + i))))
  | [], _, _, _, h => by simp at h
  | x :: xs, j, 0, c, h => by simp at h; subst h; rfl
  | x :: xs, j, i + 1, c, h => by
    have := rowsF_get floors xs (j + 1) i c (by simpa using h)
    have e : j + 1 + i = j + (i + 1) := by omega
    rw [e] at this
    simpa [rowsF] using this
theorem padN_len (w : Nat) (x : Str) : (padN w x).length = (w - x.length) + x.length := by
  unfold padN
  rw [slen, rep_len]
  have : Str.length " " = 1 := rfl
  rw [this]
  omega
/-- a plan's numbers: digits at most 19 -/
theorem num_len {c : Int} (h0 : 0 ≤ c) (h1 : c ≤ 10 ^ 18) : (istr c).length ≤ 19 := (dig_len h0 (by decide) (by omega)).2
theorem num_TB {c : Int} (h0 : 0 ≤ c) (h1 : c ≤ 10 ^ 18) : 0 ≤ c ∧ c < TB := ⟨h0, by
  have := BB_TB
  have e : (10 : Int) ^ 18 < 10 ^ 450 := by decide +kernel
  exact Int.lt_of_le_of_lt h1 (Int.lt_of_lt_of_le e this)⟩
theorem lev_len {j : Nat} (h : j ≤ 40) : (istr (j : Int)).length ≤ 2 := (dig_len (by omega) (by decide) (by omega)).2
structure Fine (caps floors : List Int) : Prop where
  most : caps.length ≤ 40
  len : caps.length = floors.length + 1
  cap : ∀ c ∈ caps, 0 ≤ c ∧ c ≤ 10 ^ 18
  flo : ∀ c ∈ floors, 0 ≤ c ∧ c ≤ 10 ^ 18
variable {caps floors : List Int} {fixed : Int}
theorem lim_len (p : Fine caps floors) (j : Nat) : (padT (limD floors j)).length ≤ 19 := by
  unfold limD
  by_cases h : j = 0
  · rw [if_pos h]; decide
  · rw [if_neg h]
    show (istr (floors.getD (j - 1) 0)).length ≤ 19
    rw [List.getD_eq_getElem?_getD]
    cases e : floors[j - 1]? with
    | none => decide
    | some c => exact num_len (p.flo c (List.mem_of_getElem? e)).1 (p.flo c (List.mem_of_getElem? e)).2
theorem lim_ok (p : Fine caps floors) (j : Nat) : okS (padT (limD floors j)) := by
  unfold limD
  by_cases h : j = 0
  · rw [if_pos h]; decide +kernel
  · rw [if_neg h]
    show okS (istr (floors.getD (j - 1) 0))
    rw [List.getD_eq_getElem?_getD]
    cases e : floors[j - 1]? with
    | none => exact okS_istr (by decide)
    | some c => exact okS_istr (p.flo c (List.mem_of_getElem? e)).1
theorem okS_rep {x : Str} (h : okS x) : ∀ n, okS (rep x n) := fun n => okS_of fun c hc => by
  have hc' : c ∈ (List.replicate n x.cps.toList).flatten := by simpa [rep] using hc
  obtain ⟨l, h1, h2⟩ := List.mem_flatten.mp hc'
  rw [(List.mem_replicate.mp h1).2] at h2
  exact h.to c h2
theorem okS_pad {x : Str} (w : Nat) (h : okS x) : okS (padN w x) := okS_app (okS_rep (by decide +kernel) _) h
theorem row_len (p : Fine caps floors) {j : Nat} {c : Int} (hj : j ≤ 40) (hc : 0 ≤ c ∧ c ≤ 10 ^ 18) : (rowT j c (padT (limD floors j))).length ≤ 42 := by
  unfold rowT
  rw [slen, slen, padN_len, padN_len, padN_len]
  have := lim_len p j
  have := lev_len hj
  have := num_len hc.1 hc.2
  omega
theorem row_ok (p : Fine caps floors) {j : Nat} {c : Int} (hc : 0 ≤ c) : okS (rowT j c (padT (limD floors j))) := okS_app (okS_app (okS_pad _ (okS_istr (by omega))) (okS_pad _ (okS_istr hc))) (okS_pad _ (lim_ok p j))
theorem rowsF_mem (p : Fine caps floors) : ∀ x ∈ rowsF floors 0 caps, x.length ≤ 42 ∧ okS x := fun x hx => by
  obtain ⟨i, hi⟩ := List.mem_iff_getElem?.mp hx
  have hl : i < caps.length := by
    have := (List.getElem?_eq_some_iff.mp hi).1
    rw [rowsF_len] at this
    exact this
  have e := rowsF_get floors caps 0 i caps[i] (by simp [hl])
  rw [hi] at e
  cases e
  have hm := p.most
  have hc := p.cap caps[i] (List.getElem_mem hl)
  exact ⟨row_len p (by omega) hc, row_ok p hc.1⟩
def repT (caps floors : List Int) : Str := Txt.join "\n" (rowsF floors 0 caps)
theorem strD_map : ∀ xs : List Str, strsD (xs.map D.str) = some xs
  | [] => rfl
  | x :: xs => by simp [strsD, strD_map xs]
theorem rep_join (p : Fine caps floors) {st : Sto} {d : D} (h : sq st d = some ((rowsF floors 0 caps).map D.str)) : gJoin st (.str "\n") d = some (.str (repT caps floors)) := by
  simp only [MM.gJoin, h, Option.bind_some, strD_map]
  rw [if_pos ?_]
  · rfl
  · have h1 := join_len "\n" (rowsF floors 0 caps) (B := 42) fun x hx => (rowsF_mem p x hx).1
    have e : ("\n" : Str).length = 1 := rfl
    rw [rowsF_len] at h1
    rw [rowsF_len]
    have := p.most
    rw [e] at h1 ⊢
    omega
theorem rep_okS (p : Fine caps floors) : okS (repT caps floors) := okS_join (by decide +kernel) fun x hx => (rowsF_mem p x hx).2
theorem rep_len' (p : Fine caps floors) : (repT caps floors).length ≤ 2000 := by
  have h1 := join_len "\n" (rowsF floors 0 caps) (B := 42) fun x hx => (rowsF_mem p x hx).1
  have h2 := StrLaws.join_length_le "\n" (rowsF floors 0 caps)
  have e : ("\n" : Str).length = 1 := rfl
  have := p.most
  rw [e] at h1 h2
  rw [rowsF_len] at h1 h2
  show (Txt.join "\n" (rowsF floors 0 caps)).length ≤ 2000
  rw [TL.join_eq]
  omega
end K58
set_option Elab.async false
set_option linter.all false
set_option autoImplicit false
set_option maxRecDepth 100000
set_option maxHeartbeats 2000000
namespace K58
open PySem PySem.Spec PyProof.Rows L2 MM
variable {caps floors : List Int} {fixed : Int} {st : Sto}
def limsD (floors : List Int) : List D := .str "-" :: floors.map .int
def rowD : D → D
  | .tup [.int i, .int c, l] => .str ((padN 2 (istr i) ++ padN 20 (istr c)) ++ padN 20 (padT l))
  | d => d
def itD (floors : List Int) (i : Nat) (c : Int) : D := .tup [.int (0 + (i : Int)), .int c, limD floors i]
theorem lims_get {i : Nat} (h : i ≤ floors.length) : (limsD floors).getD i .non = limD floors i := by
  cases i with
  | zero => rfl
  | succ i =>
    have h' : i < floors.length := by omega
    simp [limsD, limD, h']
theorem zp_get (p : Fine caps floors) {i : Nat} : ((zp3 caps.length (caps.map .int) (limsD floors)).map D.tup)[i]? = caps[i]?.map fun c => itD floors i c := by
  have e : min (min caps.length (caps.map D.int).length) (limsD floors).length = caps.length := by
    have := p.len
    simp [limsD]
    omega
  by_cases h : i < caps.length
  · have e1 : (List.range caps.length)[i]? = some i := by rw [List.getElem?_range h]
    have e2 : (caps.map D.int).getD i .non = .int caps[i] := by simp [h]
    have e3 := lims_get (floors := floors) (i := i) (by have := p.len; omega)
    simp only [zp3, e, List.getElem?_map, e1, Option.map_some, e2, e3, List.getElem?_eq_getElem h, itD]
  · rw [List.getElem?_eq_none (by simp [zp3]; omega), List.getElem?_eq_none (by omega)]
    rfl
theorem zp_rows (p : Fine caps floors) : ((zp3 caps.length (caps.map .int) (limsD floors)).map D.tup).map rowD = (rowsF floors 0 caps).map D.str := by
  apply List.ext_getElem?
  intro i
  rw [List.getElem?_map, zp_get p, List.getElem?_map]
  cases h : caps[i]? with
  | none =>
    have : caps.length ≤ i := by simpa using h
    rw [List.getElem?_eq_none (by rw [rowsF_len]; exact this)]
    rfl
  | some c =>
    have e := rowsF_get floors caps 0 i c h
    rw [e]
    simp only [Option.map_some, itD, rowD, rowT, Nat.zero_add, Int.zero_add]
theorem pad_i {w : Nat} {c : Int} (h0 : 0 ≤ c) (h1 : c ≤ 10 ^ 18) : gPad w st (.int c) = some (.str (padN w (istr c))) := by
  simp only [gPad, if_pos (num_TB h0 h1)]
theorem pad_l (p : Fine caps floors) {w j : Nat} : gPad w st (limD floors j) = some (.str (padN w (padT (limD floors j)))) := by
  unfold limD
  by_cases h : j = 0
  · rw [if_pos h]
    have hd : Str.length "-" ≤ 1000000 := by decide
    simp only [gPad, if_pos hd, padT]
  · rw [if_neg h]
    rw [List.getD_eq_getElem?_getD]
    cases e : floors[j - 1]? with
    | none => exact pad_i (by decide) (by decide)
    | some c => exact pad_i (p.flo c (List.mem_of_getElem? e)).1 (p.flo c (List.mem_of_getElem? e)).2
section
variable {env : MM.Env} {s1 s2 : Sto}
theorem fs3 {a b c : FE} {x y z : Str} (ha : a env st = .ok (.str x) st) (hb : b env st = .ok (.str y) st) (hc : c env st = .ok (.str z) st) (hl : x.length + y.length + z.length ≤ 1000000) : eFs [a, b, c] env st = .ok (.str ((x ++ y) ++ z)) st := by
  have c1 : (Str.empty ++ x).length ≤ 1000000 := by rw [str_e]; omega
  have c2 : (Str.empty ++ x ++ y).length ≤ 1000000 := by rw [str_e, slen]; omega
  have c3 : (Str.empty ++ x ++ y ++ z).length ≤ 1000000 := by rw [str_e, slen, slen]; omega
  unfold eFs jsM
  rw [ha]
  simp only [Rs.bind_ok, if_pos c1]
  unfold jsM
  rw [hb]
  simp only [Rs.bind_ok, if_pos c2]
  unfold jsM
  rw [hc]
  simp only [Rs.bind_ok, if_pos c3]
  unfold jsM
  simp only [Rs.bind_ok]
  rw [str_e]
theorem tup_ok {ga : FA} {xs : List D} (h : ga env st = .ok xs s1) (hl : xs.length ≤ 100000) : eTup ga env st = .ok (.tup xs) s1 := by
  unfold eTup
  rw [h]
  simp only [Rs.bind_ok, if_pos hl]
theorem lz3_ok {f0 : FE} {ga : FA} {n : Int} {x y : D} {ds es : List D} (h0 : f0 env st = .ok (.int n) s1) (hn : 0 ≤ n ∧ n < 2 ^ 62) (ha : ga env s1 = .ok [x, y] s2) (hx : sq s2 x = some ds) (hy : sq s2 y = some es) (hl : ds.length ≤ 100000) :
    eLz3 f0 ga env st = .ok (.lst ((zp3 n.toNat ds es).map D.tup)) s2 := by
  unfold eLz3
  rw [h0]
  simp only [Rs.bind_ok, if_pos hn, ha, hx, hy, if_pos hl]
end
theorem zp_len (p : Fine caps floors) : ((zp3 caps.length (caps.map .int) (limsD floors)).map D.tup).length ≤ 100000 := by
  have e : ((zp3 caps.length (caps.map .int) (limsD floors)).map D.tup).length = min (min caps.length caps.length) (limsD floors).length := by
    unfold zp3
    rw [List.length_map, List.length_map, List.length_range, List.length_map]
  rw [e]
  have := p.most
  omega
theorem lims_len : (limsD floors).length = floors.length + 1 := by unfold limsD; rw [List.length_cons, List.length_map]
abbrev envR (caps floors : List Int) (fixed : Int) (x4 x5 x6 x7 : Option D) : MM.Env := [some (planD caps floors fixed), some (tD caps), some (tD floors), some (.int fixed), x4, x5, x6, x7]
theorem rep_e1 (p : Fine caps floors) : eLz3 (eL (f1 MM.gLen) (aC (eV 1) aN)) (aC (eV 1) (aC (eTup (aC (eC (.str "-")) (aS (eV 2) aN))) aN)) (envR caps floors fixed none none none none) st = .ok (.lst ((zp3 caps.length (caps.map .int) (limsD floors)).map D.tup)) st := by
  have hm := p.most
  have hlen := p.len
  have h2 : (caps.map D.int).length ≤ 100000 := by rw [List.length_map]; omega
  have h3 : (limsD floors).length ≤ 100000 := by rw [lims_len]; omega
  have e0 : (eL (f1 MM.gLen) (aC (eV 1) aN)) (envR caps floors fixed none none none none) st = .ok (.int (caps.length : Int)) st := by simp [tD]
  have et : eTup (aC (eC (.str "-")) (aS (eV 2) aN)) (envR caps floors fixed none none none none) st = .ok (.tup (limsD floors)) st := by
    refine tup_ok ?_ h3
    simp [aS, tD, sq, limsD]
  have ea : (aC (eV 1) (aC (eTup (aC (eC (.str "-")) (aS (eV 2) aN))) aN)) (envR caps floors fixed none none none none) st = .ok [tD caps, .tup (limsD floors)] st := by
    generalize eTup (aC (eC (.str "-")) (aS (eV 2) aN)) = g at et
    simp [et]
  have r := lz3_ok e0 (by omega) ea (ds := caps.map .int) (es := limsD floors) rfl rfl h2
  rw [Int.toNat_natCast] at r
  exact r
theorem rep_item (p : Fine caps floors) {i : Nat} {c : Int} (h : caps[i]? = some c) (x4 : Option D) : eFs [MM.e1 (gPad 2) (eV 5), MM.e1 (gPad 20) (eV 6), MM.e1 (gPad 20) (eV 7)] (envR caps floors fixed x4 (some (.int (0 + (i : Int)))) (some (.int c)) (some (limD floors i))) st = .ok (rowD (itD floors i c)) st := by
  have hm := p.most
  have hil : i < caps.length := (List.getElem?_eq_some_iff.mp h).1
  have hc := p.cap c (List.mem_of_getElem? h)
  have f1 := pad_i (st := st) (w := 2) (c := 0 + (i : Int)) (by omega) (by omega)
  have f2 := pad_i (st := st) (w := 20) hc.1 hc.2
  have f3 := pad_l (st := st) p (w := 20) (j := i)
  have l1 := num_len (c := 0 + (i : Int)) (by omega) (by omega)
  have l2 := num_len hc.1 hc.2
  have l3 := lim_len p i
  refine fs3 ?_ ?_ ?_ ?_
  · simp only [u_e1, u_eV, envR, List.getElem?_cons_zero, List.getElem?_cons_succ, Rs.bind_ok, f1, Rs.val_some]
  · simp only [u_e1, u_eV, envR, List.getElem?_cons_zero, List.getElem?_cons_succ, Rs.bind_ok, f2, Rs.val_some]
  · simp only [u_e1, u_eV, envR, List.getElem?_cons_zero, List.getElem?_cons_succ, Rs.bind_ok, f3, Rs.val_some]
  · rw [padN_len, padN_len, padN_len]
    omega
theorem rep_lc (p : Fine caps floors) : eLc (iS (eV 4)) (gT 3 (gsC (gN 5) (gsC (gN 6) (gsC (gN 7) gsN)))) tY (eFs [MM.e1 (gPad 2) (eV 5), MM.e1 (gPad 20) (eV 6), MM.e1 (gPad 20) (eV 7)]) [5, 6, 7] (envR caps floors fixed (some (.lst ((zp3 caps.length (caps.map .int) (limsD floors)).map D.tup))) none none none) st = .ok (.lst ((rowsF floors 0 caps).map D.str)) st := by
  rw [← zp_rows p]
  have hl := zp_len p
  have hg := @zp_get caps floors p
  generalize (zp3 caps.length (caps.map .int) (limsD floors)).map D.tup = L at *
  refine eLc_map (p := ⟨L, fun _ => True⟩) (f := rowD) rfl trivial (fun d hd => ?_) hl
  obtain ⟨i, hi⟩ := List.mem_iff_getElem?.mp hd
  rw [hg] at hi
  cases h : caps[i]? with
  | none => rw [h] at hi; cases hi
  | some c =>
    rw [h] at hi
    cases hi
    exact ⟨envR caps floors fixed (some (.lst L)) (some (.int (0 + (i : Int)))) (some (.int c)) (some (limD floors i)), rfl, rep_item p h _⟩
theorem rep_e9 : gT 3 (gsC (gN 1) (gsC (gN 2) (gsC (gN 3) gsN))) (planD caps floors fixed) [some (planD caps floors fixed), none, none, none, none, none, none, none] st = .ok (envR caps floors fixed none none none none) st := rfl
theorem rep_m {g1 g2 : FE} {L R : List D} {T : Str} (e1 : g1 (envR caps floors fixed none none none none) st = .ok (.lst L) st) (e2 : g2 (envR caps floors fixed (some (.lst L)) none none none) st = .ok (.lst R) st) (e3 : gJoin st (.str "\n") (.lst R) = some (.str T)) :
    (sSeq (sSet (gT 3 (gsC (gN 1) (gsC (gN 2) (gsC (gN 3) gsN)))) (eV 0)) (sSeq (sSet (gN 4) g1) (sRet (eS1 gJoin (eC (.str "\n")) g2)))) [some (planD caps floors fixed), none, none, none, none, none, none, none] st = .ok (.rt (.str T), envR caps floors fixed (some (.lst L)) none none none) st := by
  have e9 := @rep_e9 caps floors fixed st
  simp only [u_sSeq, u_sSet, u_sRet, u_eV, List.getElem?_cons_zero, Rs.bind_ok, e9, e1]
  simp only [u_gN, envR, List.set_cons_succ, List.set_cons_zero, Rs.bind_ok, u_sRet, eS1, u_eC]
  rw [show g2 _ st = _ from e2]
  simp only [Rs.bind_ok, e3, Rs.val_some]
theorem rep_go (p : Fine caps floors) : m_report [some (planD caps floors fixed), none, none, none, none, none, none, none] st = .ok (.rt (.str (repT caps floors)), envR caps floors fixed (some (.lst ((zp3 caps.length (caps.map .int) (limsD floors)).map D.tup))) none none none) st :=
  rep_m (rep_e1 p) (rep_lc p) (rep_join p rfl)
theorem report_ok (p : Fine caps floors) : F_report [planD caps floors fixed] st = .ok (.str (repT caps floors)) st :=
  fnC_eq rfl (rep_go p) rfl
end K58
set_option Elab.async false
set_option linter.all false
set_option autoImplicit false
set_option maxRecDepth 100000
set_option maxHeartbeats 2000000
namespace K58
open PySem PySem.Spec PyProof.Rows L2 MM
variable {caps floors : List Int} {fixed : Int} {st : Sto}
theorem aligned_ok {x : Str} {w : Nat} (hw : w ≤ 100) (hx : x.length ≤ 1000) : F__law_aligned [.str x, .int (w : Int)] st = .ok (.str (padN w x)) st := by
  refine fnC_eq (en := [some (.str x), some (.int (w : Int))]) rfl ?_ rfl
  have e1 : gLen st (.str x) = some (.int (x.length : Int)) := by
    have hl : x.length ≤ 1000000 := by omega
    simp only [gLen, if_pos hl]
  have e0 : Str.length " " = 1 := rfl
  have e2 : fMul st (.str " ") (.int ((w : Int) - (x.length : Int))) = some (.str (rep " " ((w : Int) - (x.length : Int)).toNat)) := w_muls.mpr ⟨⟨by omega, by omega, by rw [e0]; omega⟩, rfl⟩
  have e3 : ((w : Int) - (x.length : Int)).toNat = w - x.length := by omega
  rw [e3] at e2
  have e4 : fAdd st (.str (rep " " (w - x.length))) (.str x) = some (.str (padN w x)) := w_adds.mpr ⟨by rw [rep_len, e0]; omega, rfl⟩
  show m__law_aligned [some (.str x), some (.int (w : Int))] st = _
  unfold m__law_aligned
  simp only [u_sRet, u_e2, u_eC, u_eV, u_eL, u_aC, u_aN, List.getElem?_cons_zero, List.getElem?_cons_succ, Rs.bind_ok, w_len1, e1, Rs.val_some, w_sub, e2, e4]
theorem strI_ok {i : Int} (h0 : 0 ≤ i) (h1 : i ≤ 10 ^ 18) : f1 MM.gStrI st [.int i] = some (.str (istr i)) := by
  have hb := num_TB h0 h1
  show (if -TB < i ∧ i < TB then some _ else none) = _
  rw [if_pos ⟨by omega, hb.2⟩]
/-- the three texts of a line put together -/
theorem line_ok {env : MM.Env} {a b c : FE} {x y z : Str} (ha : a env st = .ok (.str x) st) (hb : b env st = .ok (.str y) st) (hc : c env st = .ok (.str z) st) (hl : x.length + y.length + z.length ≤ 1000) :
    (MM.e2 fAdd (MM.e2 fAdd a b) c) env st = .ok (.str ((x ++ y) ++ z)) st := by
  have h1 : fAdd st (.str x) (.str y) = some (.str (x ++ y)) := w_adds.mpr ⟨by omega, rfl⟩
  have h2 : fAdd st (.str (x ++ y)) (.str z) = some (.str ((x ++ y) ++ z)) := w_adds.mpr ⟨by rw [slen]; omega, rfl⟩
  simp only [u_e2, ha, hb, hc, Rs.bind_ok, h1, h2, Rs.val_some]
theorem lim_ok2 (p : Fine caps floors) {k : Nat} (hk : k < caps.length) {x1 x3 x4 : Option D} : eIf (tV (MM.e2 fGt (eV 2) (eC (.int 0)))) (eL (f1 MM.gStrI) (aC (MM.e2 MM.gIx (MM.e2 MM.gIx (eV 0) (eC (.int 1))) (MM.e2 fSub (eV 2) (eC (.int 1)))) aN)) (eC (.str "-")) [some (planD caps floors fixed), x1, some (.int (k : Int)), x3, x4] st = .ok (.str (padT (limD floors k))) st := by
  have hlen := p.len
  simp only [u_eIf, u_tVb, u_e2, u_eV, u_eC, List.getElem?_cons_zero, List.getElem?_cons_succ, Rs.bind_ok, w_gt, Rs.val_some]
  cases k with
  | zero => simp [limD, padT]
  | succ j =>
    have hj : j < floors.length := by omega
    have h1 : (decide ((0 : Int) < ((j + 1 : Nat) : Int))) = true := decide_eq_true (by omega)
    have h2 : ((j + 1 : Nat) : Int) - 1 = (j : Int) := by omega
    have h3 : atI (floors.map D.int) (j : Int) = some (.int floors[j]) := at_nat (by simp [hj])
    have hc := p.flo floors[j] (List.getElem_mem hj)
    have h4 := strI_ok (st := st) hc.1 hc.2
    have h5 : padT (limD floors (j + 1)) = istr floors[j] := by simp [limD, padT, hj]
    rw [h5]
    simp only [h1, if_true, u_eL, u_aC, u_aN, u_e2, u_eV, u_eC, List.getElem?_cons_zero, List.getElem?_cons_succ, Rs.bind_ok, planD, w_ixT, at_1, Rs.val_some, w_sub, h2, tD, h3, h4]
theorem enD_cons {k : Int} {c : D} {xs ds : List D} {d : D} (h : d :: ds = enD k (c :: xs)) : d = .tup [.int k, c] ∧ ds = enD (k + 1) xs := by
  obtain ⟨h1, h2⟩ := List.cons.inj (show d :: ds = D.tup [.int k, c] :: enD (k + 1) xs from h)
  exact ⟨h1, h2⟩
theorem line3_ok (p : Fine caps floors) {k : Nat} {c : Int} (hk : k ≤ 40) (hc : 0 ≤ c ∧ c ≤ 10 ^ 18) {x1 : Option D} :
    (MM.e2 fAdd (MM.e2 fAdd (eCall F__law_aligned (aC (eL (f1 MM.gStrI) (aC (eV 2) aN)) (aC (eC (.int 2)) aN))) (eCall F__law_aligned (aC (eL (f1 MM.gStrI) (aC (eV 3) aN)) (aC (eC (.int 20)) aN)))) (eCall F__law_aligned (aC (eV 4) (aC (eC (.int 20)) aN))))
      [some (planD caps floors fixed), x1, some (.int (k : Int)), some (.int c), some (.str (padT (limD floors k)))] st = .ok (.str (rowT k c (padT (limD floors k)))) st := by
  have l1 := num_len (c := (k : Int)) (by omega) (by omega)
  have l2 := num_len hc.1 hc.2
  have l3 := lim_len p k
  have a1 := aligned_ok (st := st) (x := istr (k : Int)) (w := 2) (by decide) (by omega)
  have a2 := aligned_ok (st := st) (x := istr c) (w := 20) (by decide) (by omega)
  have a3 := aligned_ok (st := st) (x := padT (limD floors k)) (w := 20) (by decide) (by omega)
  have s1 := strI_ok (st := st) (i := (k : Int)) (by omega) (by omega)
  have s2 := strI_ok (st := st) hc.1 hc.2
  have q2 : ((2 : Nat) : Int) = 2 := rfl
  have q20 : ((20 : Nat) : Int) = 20 := rfl
  rw [q2] at a1
  rw [q20] at a2 a3
  refine line_ok ?_ ?_ ?_ ?_
  · simp only [u_eCall, u_aC, u_aN, u_eL, u_eV, u_eC, List.getElem?_cons_zero, List.getElem?_cons_succ, Rs.bind_ok, s1, Rs.val_some, a1, at_ok]
  · simp only [u_eCall, u_aC, u_aN, u_eL, u_eV, u_eC, List.getElem?_cons_zero, List.getElem?_cons_succ, Rs.bind_ok, s2, Rs.val_some, a2, at_ok]
  · simp only [u_eCall, u_aC, u_aN, u_eL, u_eV, u_eC, List.getElem?_cons_zero, List.getElem?_cons_succ, Rs.bind_ok, Rs.val_some, a3, at_ok]
  · rw [padN_len, padN_len, padN_len]
    omega
theorem app_ok {env : MM.Env} {ga : FA} {R : List D} {x : D} (he : env[1]? = some (some (.loc st.length))) (ha : ga env (st ++ [.lst R]) = .ok [x] (st ++ [.lst R])) (hl : R.length ≤ 1000) : eLm gApp (eV 1) ga env (st ++ [.lst R]) = .ok .non (st ++ [.lst (R ++ [x])]) := by
  have e1 : (st ++ [MO.lst R])[st.length]? = some (.lst R) := by simp
  have e2 : R.length < 1000000 := by omega
  simp only [u_eLm, u_eV, he, Rs.bind_ok, e1, ha, gApp, if_pos e2]
  rw [List.set_append_right _ _ (Nat.le_refl _)]
  simp
def SInv (caps floors : List Int) (fixed : Int) (st : Sto) (ds : List D) (env : MM.Env) (st1 : Sto) : Prop :=
  ∃ (pre rest : List Int) (x2 x3 x4 : Option D), caps = pre ++ rest ∧ ds = enD (pre.length : Int) (rest.map .int) ∧ env = [some (planD caps floors fixed), some (.loc st.length), x2, x3, x4] ∧ st1 = st ++ [.lst ((rowsF floors 0 pre).map D.str)]
theorem due_turn (p : Fine caps floors) {d : D} {ds : List D} {env : MM.Env} {st1 : Sto} (h : SInv caps floors fixed st (d :: ds) env st1) :
    ∃ en en2 st2, gT 2 (gsC (gN 2) (gsC (gN 3) gsN)) d env st1 = .ok en st1 ∧ (sSeq (sSet (gN 4) (eIf (tV (MM.e2 fGt (eV 2) (eC (.int 0)))) (eL (f1 MM.gStrI) (aC (MM.e2 MM.gIx (MM.e2 MM.gIx (eV 0) (eC (.int 1))) (MM.e2 fSub (eV 2) (eC (.int 1)))) aN)) (eC (.str "-")))) (sDrop (eLm gApp (eV 1) (aC (MM.e2 fAdd (MM.e2 fAdd (eCall F__law_aligned (aC (eL (f1 MM.gStrI) (aC (eV 2) aN)) (aC (eC (.int 2)) aN))) (eCall F__law_aligned (aC (eL (f1 MM.gStrI) (aC (eV 3) aN)) (aC (eC (.int 20)) aN)))) (eCall F__law_aligned (aC (eV 4) (aC (eC (.int 20)) aN)))) aN)))) en st1 = .ok (.nx, en2) st2 ∧ SInv caps floors fixed st ds en2 st2 := by
  obtain ⟨pre, rest, x2, x3, x4, hc, hd, rfl, rfl⟩ := h
  cases rest with
  | nil => cases hd
  | cons c rest =>
    obtain ⟨rfl, rfl⟩ := enD_cons hd
    have hm := p.most
    have hk : pre.length < caps.length := by rw [hc]; simp
    have hcm := p.cap c (by rw [hc]; simp)
    have e1 := lim_ok2 (st := st ++ [.lst ((rowsF floors 0 pre).map D.str)]) (fixed := fixed) p hk (x1 := some (.loc st.length)) (x3 := some (.int c)) (x4 := x4)
    have e2 := line3_ok (st := st ++ [.lst ((rowsF floors 0 pre).map D.str)]) (fixed := fixed) p (k := pre.length) (c := c) (by omega) hcm (x1 := some (.loc st.length))
    refine ⟨[some (planD caps floors fixed), some (.loc st.length), some (.int (pre.length : Int)), some (.int c), x4], [some (planD caps floors fixed), some (.loc st.length), some (.int (pre.length : Int)), some (.int c), some (.str (padT (limD floors pre.length)))], st ++ [.lst ((rowsF floors 0 pre).map D.str ++ [.str (rowT pre.length c (padT (limD floors pre.length)))])], rfl, ?_, pre ++ [c], rest, _, _, _, by rw [hc]; simp, ?_, rfl, ?_⟩
    · have e3 := app_ok (st := st) (R := (rowsF floors 0 pre).map D.str) (env := [some (planD caps floors fixed), some (.loc st.length), some (.int (pre.length : Int)), some (.int c), some (.str (padT (limD floors pre.length)))])
        (ga := aC (MM.e2 fAdd (MM.e2 fAdd (eCall F__law_aligned (aC (eL (f1 MM.gStrI) (aC (eV 2) aN)) (aC (eC (.int 2)) aN))) (eCall F__law_aligned (aC (eL (f1 MM.gStrI) (aC (eV 3) aN)) (aC (eC (.int 20)) aN)))) (eCall F__law_aligned (aC (eV 4) (aC (eC (.int 20)) aN)))) aN)
        rfl (by rw [u_aC, e2]; rfl) (by rw [List.length_map, rowsF_len]; omega)
      simp only [u_sSeq, u_sSet, u_sDrop, e1, Rs.bind_ok, u_gN, List.set_cons_succ, List.set_cons_zero, e3]
    · have q : (((pre ++ [c]).length : Nat) : Int) = (pre.length : Int) + 1 := by simp
      rw [q]
    · rw [rowsF_app, List.map_append, Nat.zero_add]
      rfl
theorem due_ok (p : Fine caps floors) : F__law_due [planD caps floors fixed] st = .ok (.str (repT caps floors)) st := by
  have key : Ok (F__law_due [planD caps floors fixed] st) fun d st' => d = .str (repT caps floors) ∧ st' = st := by
    refine fnC_ok rfl ?_
    show Ok (m__law_due [some (planD caps floors fixed), none, none, none, none] st) _
    unfold m__law_due
    have e0 : (eNew aN) [some (planD caps floors fixed), none, none, none, none] st = .ok (.loc st.length) (st ++ [.lst []]) := rfl
    have ei : iEn1 (aC (MM.e2 MM.gIx (eV 0) (eC (.int 0))) aN) [some (planD caps floors fixed), some (.loc st.length), none, none, none] (st ++ [.lst []]) = .ok ⟨enD 0 (caps.map .int), fun _ => True⟩ (st ++ [.lst []]) := by
      simp only [iEn1, u_aC, u_aN, u_e2, u_eV, u_eC, List.getElem?_cons_zero, Rs.bind_ok, planD, w_ixT, at_0, Rs.val_some, tD, srcD]
    have hturn := @due_turn caps floors fixed st p
    generalize hb : (sSeq (sSet (gN 4) (eIf (tV (MM.e2 fGt (eV 2) (eC (.int 0)))) (eL (f1 MM.gStrI) (aC (MM.e2 MM.gIx (MM.e2 MM.gIx (eV 0) (eC (.int 1))) (MM.e2 fSub (eV 2) (eC (.int 1)))) aN)) (eC (.str "-")))) (sDrop (eLm gApp (eV 1) (aC (MM.e2 fAdd (MM.e2 fAdd (eCall F__law_aligned (aC (eL (f1 MM.gStrI) (aC (eV 2) aN)) (aC (eC (.int 2)) aN))) (eCall F__law_aligned (aC (eL (f1 MM.gStrI) (aC (eV 3) aN)) (aC (eC (.int 20)) aN)))) (eCall F__law_aligned (aC (eV 4) (aC (eC (.int 20)) aN)))) aN)))) = body at hturn
    simp only [u_sSeq, u_sSet, e0, Rs.bind_ok, u_gN, List.set_cons_succ, List.set_cons_zero, u_sFor, ei, Ok_bind]
    refine loop_ok (SInv caps floors fixed st) (fun _ _ _ _ => trivial) ?_ ?_ _ _ _ ⟨[], caps, none, none, none, rfl, rfl, rfl, rfl⟩
    · intro d rest env st1 h
      obtain ⟨en, en2, st2, h1, h2, h3⟩ := hturn h
      rw [h1]
      show Ok (body en st1) _
      rw [h2]
      exact h3
    · rintro env st1 ⟨pre, rest, x2, x3, x4, hc, hd, rfl, rfl⟩
      cases rest with
      | cons c r => cases hd
      | nil =>
        rw [List.append_nil] at hc
        subst hc
        have e1 : (st ++ [MO.lst ((rowsF floors 0 caps).map D.str)])[st.length]? = some (.lst ((rowsF floors 0 caps).map D.str)) := by simp
        have e3 := rep_join p (st := st ++ [.lst ((rowsF floors 0 caps).map D.str)]) (d := .loc st.length) (by simp only [sq, e1])
        simp only [u_sRet, eS1, u_eC, Rs.bind_ok, u_eV, List.getElem?_cons_zero, List.getElem?_cons_succ, e3, Rs.val_some, Ok_ok]
        refine ⟨.str (repT caps floors), rfl, ⟨by simp, fun i hi => .inl (by rw [List.getElem?_append_left hi])⟩, .str (repT caps floors), frz_of rfl, rfl, by simp⟩
  obtain ⟨d, st', e, rfl, rfl⟩ := key.ex
  exact e
end K58
set_option Elab.async false
set_option linter.all false
set_option autoImplicit false
set_option maxRecDepth 100000
set_option maxHeartbeats 2000000
namespace K58
open PySem PySem.Spec PyProof.Rows L2 MM
theorem well_ok {ns : List Int} {i : Nat} {st : Sto} {Q : D → Sto → Prop} (hi : i < 3) (h : ∀ w, Wl 0 (st ++ [w]) st.length → Q (.loc st.length) (st ++ [w])) : Ok (F__law_well [.lst (ns.map .int), .int (i : Int)] st) Q := by
  refine fnK_ok rfl ?_
  have hB := BB_ge
  have cell : ∃ c : Int, eIf (tV (MM.e2 fLt (eV 1) (eL (f1 MM.gLen) (aC (eV 0) aN)))) (MM.e2 gIx (eV 0) (eV 1)) (MM.e2 fAdd (MM.e2 fMul (eC (.int 13)) (eV 1)) (eC (.int 4))) [some (.lst (ns.map .int)), some (.int (i : Int)), none, none] st = .ok (.int c) st := by
    by_cases hl : (i : Int) < (ns.length : Int)
    · have hl2 : i < ns.length := by omega
      have e : atI (ns.map D.int) (i : Int) = some (.int ns[i]) := at_nat (by simp [hl2])
      exact ⟨ns[i], by simp [hl2, e]⟩
    · have hl2 : ¬ i < ns.length := by omega
      have e : fMul st (.int 13) (.int (i : Int)) = some (.int (13 * (i : Int))) := w_mul.mpr ⟨by omega, rfl⟩
      exact ⟨13 * (i : Int) + 4, by simp [hl2, e]⟩
  obtain ⟨c, hc⟩ := cell
  have p60 : fPow st (.int 10) (.int 60) = some (.int (10 ^ 60)) := w_pow.mpr ⟨by omega, rfl⟩
  have p300 : fPow st (.int (10 ^ 60)) (.int 5) = some (.int (10 ^ 300)) := w_pow.mpr ⟨by omega, congrArg D.int (by decide +kernel)⟩
  have p18 : fPow st (.int 10) (.int 18) = some (.int (10 ^ 18)) := w_pow.mpr ⟨by omega, rfl⟩
  have ab : ∀ x : Int, ∃ y : Int, f1 MM.gAbs st [.int x] = some (.int y) := fun x => ⟨_, rfl⟩
  obtain ⟨y, hy⟩ := ab c
  have m1 : fMod st (.int y) (.int (10 ^ 300)) = some (.int (y % 10 ^ 300)) := w_mod.mpr ⟨by omega, rfl⟩
  have y0 : 0 ≤ y % 10 ^ 300 := Int.emod_nonneg _ (by omega)
  have y1 : y % 10 ^ 300 < 10 ^ 300 := Int.emod_lt_of_pos _ (by omega)
  generalize y % 10 ^ 300 = z at *
  have tb : ∃ g : Int, (g = 0 ∨ g = 1) ∧ lOr (f1 MM.gInt) (f1 MM.gIntS) st [.bl (decide (10 ^ 18 ≤ y))] = some (.int g) := by
    refine ⟨_, ?_, rfl⟩
    by_cases hh : (10 ^ 18 : Int) ≤ y
    · right; rw [decide_eq_true hh]; rfl
    · left; rw [decide_eq_false hh]; rfl
  obtain ⟨g, hg, tb⟩ := tb
  have m2 : fMul st (.int z) (.int g) = some (.int (z * g)) := w_mul.mpr ⟨by omega, rfl⟩
  have zg : 0 ≤ z * g ∧ z * g < 10 ^ 300 := by
    rcases hg with rfl | rfl <;> simp <;> omega
  generalize z * g = zz at *
  have m3 : fMod st (.int c) (.int 2305843009213693951) = some (.int (c % 2305843009213693951)) := w_mod.mpr ⟨by omega, rfl⟩
  generalize hr : c % 2305843009213693951 = r at *
  have r0 : 0 ≤ r ∧ r < 2305843009213693951 := by omega
  have m4 : fMul st (.int r) (.int 69621) = some (.int (r * 69621)) := w_mul.mpr ⟨by omega, rfl⟩
  have m5 : fMul st (.int 104729) (.int (i : Int)) = some (.int (104729 * (i : Int))) := w_mul.mpr ⟨by omega, rfl⟩
  have m6 : fMul st (.int (104729 * (i : Int))) (.int (i : Int)) = some (.int (104729 * (i : Int) * (i : Int))) := w_mul.mpr ⟨by omega, rfl⟩
  generalize 104729 * (i : Int) * (i : Int) = ii at *
  have m7 : fMod st (.int (r * 69621 + ii + 31)) (.int 2305843009213693921) = some (.int ((r * 69621 + ii + 31) % 2305843009213693921)) := w_mod.mpr ⟨by omega, rfl⟩
  have q0 : 0 ≤ (r * 69621 + ii + 31) % 2305843009213693921 := Int.emod_nonneg _ (by omega)
  have q1 : (r * 69621 + ii + 31) % 2305843009213693921 < 2305843009213693921 := Int.emod_lt_of_pos _ (by omega)
  generalize (r * 69621 + ii + 31) % 2305843009213693921 = q at *
  have zg0 := zg.1
  have zg1 := zg.2
  clear hB
  generalize hP : (10 : Int) ^ 60 = P at p60 p300
  generalize hR : (10 : Int) ^ 300 = R at p300 m1
  generalize hE : (10 : Int) ^ 18 = E at p18 tb
  have body : m__law_well [some (.lst (ns.map .int)), some (.int (i : Int)), none, none] st = .ok (.rt (.loc st.length), [some (.lst (ns.map .int)), some (.int (i : Int)), some (.int c), some (.int zz)]) (st ++ [.lst [.int zz, .int q, .int 0]]) := by
    unfold m__law_well
    rw [u_sSeq, u_sSet, hc]
    simp only [Rs.bind_ok, u_gN, List.set]
    simp [p60, p300, p18, hy, m1, tb, m2, m3, m4, m5, m6, m7, -w_abs]
  show Ok (m__law_well [some (.lst (ns.map .int)), some (.int (i : Int)), none, none] st) _
  rw [body]
  exact ⟨_, rfl, h _ ⟨zz, q, 0, by simp, zg0, zg1, q0, by omega, by omega, by omega⟩⟩
theorem repr2_ok {T : Str} {st : Sto} (h1 : okS T) (h2 : T.length ≤ 2000) : ∃ R : Str, fRepr st [.lst [.str T, .str T]] = some (.str R) := by
  have hd : dpS st (.lst [.str T, .str T]) = some (.list [.str T, .str T]) := rfl
  have s1 : (PyData.list [.str T, .str T]).showable = true := rfl
  have c1 : (PyData.str T).canLay0 = true := h1
  have s2 : (PyData.list [.str T, .str T]).canLay0 = true := by
    show (PyData.canLay0 (.str T) && (PyData.canLay0 (.str T) && true)) = true
    rw [c1]
    rfl
  have s3 : (PyData.list [.str T, .str T]).depth ≤ 60 := by simp [PyData.depth, PyData.depthAll]
  have s4 := shown_le _ s1 s2
  have s5 : cw (PyData.list [.str T, .str T]) = 2 + ((10 * T.length + 2) + 2 + ((10 * T.length + 2) + 2 + 0)) := rfl
  refine ⟨(PyData.list [.str T, .str T]).shown, ?_⟩
  simp only [fRepr, hd, Option.bind_some]
  rw [if_pos ⟨s1, s2, s3, by omega⟩]
def fineP {caps floors : List Int} {fixed : Int} (p : Plan caps floors fixed) : Fine caps floors where
  most := p.most
  len := p.len
  cap := fun c hc => ⟨by
    have : ∀ (xs : List Int) (lo : Int), Asc lo xs → ∀ x ∈ xs, lo ≤ x := by
      intro xs
      induction xs with
      | nil => intro _ _ x hx; cases hx
      | cons y ys ih =>
        intro lo h x hx
        rcases List.mem_cons.mp hx with rfl | hx
        · exact h.1
        · have := ih _ h.2 x hx
          have := h.1
          omega
    have := this caps 1 p.asc c hc
    omega, p.top c hc⟩
  flo := fun c hc => by
    have asc : ∀ (xs : List Int) (lo : Int), Asc lo xs → ∀ x ∈ xs, lo ≤ x := by
      intro xs
      induction xs with
      | nil => intro _ _ x hx; cases hx
      | cons y ys ih =>
        intro lo h x hx
        rcases List.mem_cons.mp hx with rfl | hx
        · exact h.1
        · have := ih _ h.2 x hx
          have := h.1
          omega
    obtain ⟨j, hj⟩ := List.mem_iff_getElem?.mp hc
    have hl : j < caps.length := by
      have := (List.getElem?_eq_some_iff.mp hj).1
      have := p.len
      omega
    have h1 := p.fle j c caps[j] hj (by simp [hl])
    have h2 := p.top caps[j] (List.getElem_mem hl)
    exact ⟨asc floors 0 p.fasc c hc, by omega⟩
theorem asc_range (c : Int) : ∀ (n s : Nat) (lo : Int), lo ≤ c + (s : Int) → Asc lo ((List.range' s n).map fun (i : Nat) => c + (i : Int))
  | 0, _, _, _ => trivial
  | n + 1, s, lo, h => ⟨h, asc_range c n (s + 1) _ (by push_cast; omega)⟩
def bigCaps : List Int := (List.range 40).map fun (i : Nat) => (10 ^ 18 - 39) + (i : Int)
theorem big_mem {c : Int} (h : c ∈ bigCaps) : 0 ≤ c ∧ c ≤ 10 ^ 18 := by
  simp only [bigCaps, List.mem_map, List.mem_range] at h
  obtain ⟨i, hi, rfl⟩ := h
  omega
theorem big_fine : Fine bigCaps bigCaps.dropLast where
  most := by simp [bigCaps]
  len := by rw [List.length_dropLast]; simp [bigCaps]
  cap := fun c hc => big_mem hc
  flo := fun c hc => big_mem ((List.dropLast_sublist _).subset hc)
theorem one_fine : Fine [1] [] where
  most := by decide
  len := rfl
  cap := fun c hc => by simp at hc; omega
  flo := fun c hc => by cases hc
theorem one_text : repT [1] [] = (((Str.ofString " 0" ++ rep " " 19) ++ "1") ++ rep " " 19) ++ "-" := by decide +kernel
end K58
set_option Elab.async false
set_option linter.all false
set_option autoImplicit false
set_option maxRecDepth 100000
set_option maxHeartbeats 2000000
namespace K58
open PySem PySem.Spec PyProof.Rows L2 MM
structure IInv (L : Nat) (x0 x1 : Option D) (i : Nat) (env : MM.Env) (st : Sto) : Prop where
  ex : ∃ (x3 x4 x5 x6 : Option D), env = [x0, x1, some (.loc L), x3, x4, x5, x6]
  wl : Wl (300 * (i : Int)) st L
theorem cut_last {xs : List D} (hx : xs ≠ []) : MM.cutD xs none (some (-1)) = xs.dropLast := by
  have hl : 0 < xs.length := List.length_pos_iff.mpr hx
  unfold MM.cutD
  have e1 : HT.sIx xs.length 0 none = 0 := rfl
  have e2' : HT.sIx xs.length xs.length (some (-1)) = xs.length - 1 := by
    show (if (-1 : Int) < 0 then (-1 + (xs.length : Int)).toNat else min (-1 : Int).toNat xs.length) = _
    rw [if_pos (by decide)]
    omega
  rw [e1, e2', List.drop_zero, List.dropLast_eq_take]
  rfl
section
variable {env : MM.Env} {st : Sto}
theorem two_lst {a b : FE} {x y : D} (ha : a env st = .ok x st) (hb : b env st = .ok y st) : eLst (aC a (aC b aN)) env st = .ok (.lst [x, y]) st := by
  simp [ha, hb]
theorem rp_ok {e : FE} {d z : D} (h : e env st = .ok d st) (hr : fRepr st [d] = some z) : eL fRepr (aC e aN) env st = .ok z st := by
  simp [h, hr]
theorem ne_ok {a b : FE} {R : Str} (ha : a env st = .ok (.str R) st) (hb : b env st = .ok (.str R) st) : (tV (MM.e2 fNe a b)) env st = .ok false st := by
  simp [ha, hb]
theorem cl_ok {F : MFun} {a : FE} {x d : D} (ha : a env st = .ok x st) (h : F [x] st = .ok d st) : eCall F (aC a aN) env st = .ok d st := by
  simp [ha, h]
theorem clk_ok {F : MFun} {a : FE} {x d : D} (ha : a env st = .ok x st) (h : F [x] st = .ok d st) : eCallK 0 1 F aN (aC a aN) env st = .ok d st := by
  simp [ha, h]
theorem rep_both {caps floors : List Int} {fixed : Int} (p : Fine caps floors) (he : env[4]? = some (some (planD caps floors fixed))) :
    (tV (MM.e2 fNe (eL fRepr (aC (eLst (aC (eCall F_report (aC (eV 4) aN)) (aC (eCallK 0 1 F_report aN (aC (eV 4) aN)) aN))) aN)) (eL fRepr (aC (eLst (aC (eCall F__law_due (aC (eV 4) aN)) (aC (eCall F__law_due (aC (eV 4) aN)) aN))) aN)))) env st = .ok false st := by
  have r1 := report_ok (st := st) (fixed := fixed) p
  have r2 := due_ok (st := st) (fixed := fixed) p
  obtain ⟨R, hR⟩ := repr2_ok (st := st) (rep_okS p) (rep_len' p)
  have hv : (eV 4) env st = .ok (planD caps floors fixed) st := by rw [u_eV, he]
  exact ne_ok (rp_ok (two_lst (cl_ok hv r1) (clk_ok hv r1)) hR) (rp_ok (two_lst (cl_ok hv r2) (cl_ok hv r2)) hR)
end
theorem big_lc {env : MM.Env} {st : Sto} (hl : env.length = 7) : eLc (iR1 (aC (eC (.int 40)) aN)) (gN 6) tY (MM.e2 fAdd (MM.e2 fSub (MM.e2 fPow (eC (.int 10)) (eC (.int 18))) (eC (.int 39))) (eV 6)) [6] env st = .ok (.lst (bigCaps.map .int)) st := by
  have p18 : ∀ st, fPow st (.int 10) (.int 18) = some (.int (10 ^ 18)) := fun st => w_pow.mpr ⟨by have := BB_ge; omega, rfl⟩
  have e := eLc_map (it := iR1 (aC (eC (.int 40)) aN)) (g := gN 6) (e := MM.e2 fAdd (MM.e2 fSub (MM.e2 fPow (eC (.int 10)) (eC (.int 18))) (eC (.int 39))) (eV 6)) (vs := [6]) (env := env) (st := st) (s1 := st)
    (p := ⟨rngD 0 40, fun _ => True⟩) (f := fun d => match d with | .int j => .int ((10 ^ 18 - 39) + j) | d => d) (by simp) trivial (fun d hd => ?_) (by simp [rngD])
  · rw [e]
    congr 2
  · simp only [rngD, List.mem_map] at hd
    obtain ⟨j, hj, rfl⟩ := hd
    exact ⟨_, rfl, by simp [p18, wipeE, hl]⟩
theorem one_ok {env : MM.Env} {st : Sto} : (MM.e2 fEq (eCall F_report (aC (eTup (aC (eTup (aC (eC (.int 1)) aN)) (aC (eTup aN) (aC (eC (.int 0)) aN)))) aN)) (MM.e2 fAdd (MM.e2 fAdd (MM.e2 fAdd (MM.e2 fAdd (eC (.str " 0")) (MM.e2 fMul (eC (.str " ")) (eC (.int 19)))) (eC (.str "1"))) (MM.e2 fMul (eC (.str " ")) (eC (.int 19)))) (eC (.str "-")))) env st = .ok (.bl true) st := by
  have r := report_ok (st := st) (fixed := 0) one_fine
  have hp : planD [1] [] 0 = .tup [.tup [.int 1], .tup [], .int 0] := rfl
  rw [hp, one_text] at r
  have e0 : Str.length " " = 1 := rfl
  have a0 : (Str.ofString " 0").length = 2 := rfl
  have a1 : (Str.ofString "1").length = 1 := rfl
  have a2 : (Str.ofString "-").length = 1 := rfl
  have a3 : (rep " " 19).length = 19 := by decide
  have m : fMul st (.str " ") (.int 19) = some (.str (rep " " 19)) := w_muls.mpr ⟨⟨by decide, by decide, by decide⟩, rfl⟩
  have h1 : fAdd st (.str " 0") (.str (rep " " 19)) = some (.str (Str.ofString " 0" ++ rep " " 19)) := w_adds.mpr ⟨by decide, rfl⟩
  have h2 : fAdd st (.str (Str.ofString " 0" ++ rep " " 19)) (.str "1") = some (.str ((Str.ofString " 0" ++ rep " " 19) ++ "1")) := w_adds.mpr ⟨by decide, rfl⟩
  have h3 : fAdd st (.str ((Str.ofString " 0" ++ rep " " 19) ++ "1")) (.str (rep " " 19)) = some (.str (((Str.ofString " 0" ++ rep " " 19) ++ "1") ++ rep " " 19)) := w_adds.mpr ⟨by decide, rfl⟩
  have h4 : fAdd st (.str (((Str.ofString " 0" ++ rep " " 19) ++ "1") ++ rep " " 19)) (.str "-") = some (.str ((((Str.ofString " 0" ++ rep " " 19) ++ "1") ++ rep " " 19) ++ "-")) := w_adds.mpr ⟨by decide, rfl⟩
  generalize ((((Str.ofString " 0" ++ rep " " 19) ++ "1") ++ rep " " 19) ++ ("-" : Str)) = T at *
  have k1 : ([D.int 1]).length ≤ 100000 := by decide +revert
  have k2 : ([D.tup [D.int 1], D.tup [], D.int 0]).length ≤ 100000 := by decide +revert
  simp [r, m, h1, h2, h3, h4]
theorem last_ok {st : Sto} {x0 x1 x2 x3 x4 x6 : Option D} : (sSeq (sSet (gN 5) (eL (f1 MM.gTup) (aC (eLc (iR1 (aC (eC (.int 40)) aN)) (gN 6) tY (MM.e2 fAdd (MM.e2 fSub (MM.e2 fPow (eC (.int 10)) (eC (.int 18))) (eC (.int 39))) (eV 6)) [6]) aN))) (sSeq (sSet (gN 4) (eTup (aC (eV 5) (aC (eSl gSl (eV 5) oN (oS (MM.e1 fNeg (eC (.int 1))))) (aC (MM.e2 fPow (eC (.int 10)) (eC (.int 12))) aN))))) (sRet (eAn (MM.e2 fEq (eCall F_report (aC (eV 4) aN)) (eCall F__law_due (aC (eV 4) aN))) (MM.e2 fEq (eCall F_report (aC (eTup (aC (eTup (aC (eC (.int 1)) aN)) (aC (eTup aN) (aC (eC (.int 0)) aN)))) aN)) (MM.e2 fAdd (MM.e2 fAdd (MM.e2 fAdd (MM.e2 fAdd (eC (.str " 0")) (MM.e2 fMul (eC (.str " ")) (eC (.int 19)))) (eC (.str "1"))) (MM.e2 fMul (eC (.str " ")) (eC (.int 19)))) (eC (.str "-")))))))) [x0, x1, x2, x3, x4, none, x6] st = .ok (.rt (.bl true), [x0, x1, x2, x3, some (planD bigCaps bigCaps.dropLast (10 ^ 12)), some (tD bigCaps), x6]) st := by
  have ec := big_lc (env := [x0, x1, x2, x3, x4, none, x6]) (st := st) rfl
  have r1 := report_ok (st := st) (fixed := 10 ^ 12) big_fine
  have r2 := due_ok (st := st) (fixed := 10 ^ 12) big_fine
  have ho := @one_ok
  have sl : gSl st (.tup (bigCaps.map D.int)) none (some (-1)) = some (.tup (bigCaps.dropLast.map D.int)) := by
    show some (D.tup (MM.cutD (bigCaps.map D.int) none (some (-1)))) = _
    rw [cut_last (by simp [bigCaps]), List.map_dropLast]
  have p12 : fPow st (.int 10) (.int 12) = some (.int (10 ^ 12)) := w_pow.mpr ⟨by have := BB_ge; omega, rfl⟩
  generalize (MM.e2 fEq (eCall F_report (aC (eTup (aC (eTup (aC (eC (.int 1)) aN)) (aC (eTup aN) (aC (eC (.int 0)) aN)))) aN)) (MM.e2 fAdd (MM.e2 fAdd (MM.e2 fAdd (MM.e2 fAdd (eC (.str " 0")) (MM.e2 fMul (eC (.str " ")) (eC (.int 19)))) (eC (.str "1"))) (MM.e2 fMul (eC (.str " ")) (eC (.int 19)))) (eC (.str "-")))) = go at *
  generalize eLc (iR1 (aC (eC (.int 40)) aN)) (gN 6) tY (MM.e2 fAdd (MM.e2 fSub (MM.e2 fPow (eC (.int 10)) (eC (.int 18))) (eC (.int 39))) (eV 6)) [6] = gl at *
  generalize repT bigCaps bigCaps.dropLast = T at *
  generalize (10 : Int) ^ 12 = P at *
  unfold planD tD at *
  generalize bigCaps.dropLast.map D.int = B2 at *
  generalize bigCaps.map D.int = B1 at *
  simp [ec, eSl, oN, oS, sl, p12, r1, r2, ho, eAn]
theorem law_yes (ns : List Int) (hl : ns.length ≤ 63) : ∃ st', F_law [.lst (ns.map D.int)] [] = .ok (.bl true) st' := by
  have key : Ok (F_law [.lst (ns.map D.int)] []) fun d _ => d = .bl true := by
    refine fnC_ok rfl ?_
    have hB := BB_ge
    have rng : ∃ N : Nat, N ≤ 3 ∧ iR1 (aC (eL (f22 MM.gMax) (aC (eC (.int 1)) (aC (eL (f22 MM.gMin) (aC (eC (.int 3)) (aC (eL (f1 MM.gLen) (aC (eV 0) aN)) aN))) aN))) aN) [some (.lst (ns.map D.int)), none, none, none, none, none, none] [] = .ok ⟨rngD 0 N, fun _ => True⟩ [] := by
      refine ⟨(if (if (ns.length : Int) < 3 then (ns.length : Int) else 3) > 1 then (if (ns.length : Int) < 3 then (ns.length : Int) else 3) else 1).toNat, ?_, ?_⟩
      · by_cases h3 : (ns.length : Int) < 3
        · rw [if_pos h3]
          by_cases h1 : (ns.length : Int) > 1
          · rw [if_pos h1]; omega
          · rw [if_neg h1]; decide
        · rw [if_neg h3]
          decide
      · have hb : ∀ x : Int, x ≤ 3 → 0 ≤ x → -(2 ^ 62) ≤ x ∧ x < 2 ^ 62 := fun x h1 h2 => by omega
        simp only [u_iR1, u_aC, u_eL, u_eC, u_aN, u_eV, List.getElem?_cons_zero, Rs.bind_ok, w_len1, w_lenL, Rs.val_some, w_min, w_max, List.length_map]
        rw [if_pos (hb _ (by split <;> split <;> omega) (by split <;> split <;> omega))]
    obtain ⟨N, hN, rng⟩ := rng
    show Ok (m_law [some (.lst (ns.map D.int)), none, none, none, none, none, none] []) _
    unfold m_law
    have hlast := @last_ok
    generalize hB1 : (sSeq (sSet (gN 5) (eL (f1 MM.gTup) (aC (eLc (iR1 (aC (eC (.int 40)) aN)) (gN 6) tY (MM.e2 fAdd (MM.e2 fSub (MM.e2 fPow (eC (.int 10)) (eC (.int 18))) (eC (.int 39))) (eV 6)) [6]) aN))) (sSeq (sSet (gN 4) (eTup (aC (eV 5) (aC (eSl gSl (eV 5) oN (oS (MM.e1 fNeg (eC (.int 1))))) (aC (MM.e2 fPow (eC (.int 10)) (eC (.int 12))) aN))))) (sRet (eAn (MM.e2 fEq (eCall F_report (aC (eV 4) aN)) (eCall F__law_due (aC (eV 4) aN))) (MM.e2 fEq (eCall F_report (aC (eTup (aC (eTup (aC (eC (.int 1)) aN)) (aC (eTup aN) (aC (eC (.int 0)) aN)))) aN)) (MM.e2 fAdd (MM.e2 fAdd (MM.e2 fAdd (MM.e2 fAdd (eC (.str " 0")) (MM.e2 fMul (eC (.str " ")) (eC (.int 19)))) (eC (.str "1"))) (MM.e2 fMul (eC (.str " ")) (eC (.int 19)))) (eC (.str "-")))))))) = fin at *
    have hrep := @rep_both
    generalize (tV (MM.e2 fNe (eL fRepr (aC (eLst (aC (eCall F_report (aC (eV 4) aN)) (aC (eCallK 0 1 F_report aN (aC (eV 4) aN)) aN))) aN)) (eL fRepr (aC (eLst (aC (eCall F__law_due (aC (eV 4) aN)) (aC (eCall F__law_due (aC (eV 4) aN)) aN))) aN)))) = tst at *
    simp only [u_sSeq, u_sFor, Ok_bind, rng, Ok_ok]
    refine loop_rng (fun i env st => ∃ x1 x2 x3 x4 x6, env = [some (.lst (ns.map D.int)), x1, x2, x3, x4, none, x6]) ⟨none, none, none, none, none, rfl⟩ ?_ ?_
    · rintro i env st hi ⟨x1, x2, x3, x4, x6, rfl⟩
      simp
      refine well_ok (by omega) fun w hw => ?_
      try simp
      refine loop_rng (fun j env st2 => ∃ x3 x4, env = [some (.lst (ns.map D.int)), some (.int (i : Int)), some (.loc st.length), x3, x4, none, x6] ∧ Wl (300 * (j : Int)) st2 st.length) ⟨x3, x4, rfl, hw.mono (by omega)⟩ ?_ ?_
      · rintro j env st2 hj ⟨x3, x4, rfl, wl⟩
        have p16 : ∀ st, fPow st (.int 10) (.int 16) = some (.int (10 ^ 16)) := fun st => w_pow.mpr ⟨by omega, rfl⟩
        simp [p16]
        refine pick_ok wl (by simp) (by simp) (fun z hz m => ?_) (by omega) fun z st3 hz sm3 w3 => ?_
        · simp only [List.mem_cons, List.not_mem_nil, or_false] at hz
          rcases hz with rfl | rfl | rfl <;> rfl
        have hz2 : ∃ q : Int, z = .int q ∧ 0 < q ∧ q ≤ 39 := by
          simp only [List.mem_cons, List.not_mem_nil, or_false] at hz
          rcases hz with rfl | rfl | rfl <;> exact ⟨_, rfl, by omega, by omega⟩
        obtain ⟨lv, rfl, lv0, lv1⟩ := hz2
        try simp [p16]
        refine pick_ok w3 (by simp) (by simp) (fun z hz m => ?_) (by omega) fun z st4 hz sm4 w4 => ?_
        · simp only [List.mem_cons, List.not_mem_nil, or_false] at hz
          rcases hz with rfl | rfl | rfl <;> rfl
        have hz2 : ∃ q : Int, z = .int q ∧ 0 < q ∧ q ≤ 10 ^ 16 := by
          simp only [List.mem_cons, List.not_mem_nil, or_false] at hz
          rcases hz with rfl | rfl | rfl <;> exact ⟨_, rfl, by omega, by omega⟩
        obtain ⟨q, rfl, q0, q1⟩ := hz2
        have hm : lv * (q + 1) ≤ 39 * (q + 1) := Int.mul_le_mul_of_nonneg_right lv1 (by omega)
        try simp
        refine plan_ok w4 lv0 lv1 q0 (by omega) (by omega) (by omega) fun caps floors fixed st5 hp _ sm5 w5 => ?_
        have hr := hrep (env := [some (.lst (ns.map D.int)), some (.int (i : Int)), some (.loc st.length), some (.int (j : Int)), some (planD caps floors fixed), none, x6]) (st := st5) (fineP hp) rfl
        simp [hr]
        exact w5.mono (by push_cast; omega)
      · rintro env st2 ⟨x3, x4, rfl, wl⟩
        exact ⟨_, _, _, _, _, rfl⟩
    · rintro env st ⟨x1, x2, x3, x4, x6, rfl⟩
      simp only [hlast, Ok_ok]
      exact ⟨.bl true, rfl, ⟨Nat.zero_le _, fun i hi => absurd hi (Nat.not_lt_zero _)⟩, .bl true, frz_of rfl, rfl⟩
  obtain ⟨d, st', e, rfl⟩ := key.ex
  exact ⟨st', e⟩
end K58
set_option Elab.async false
set_option linter.all false
set_option maxRecDepth 100000
set_option maxHeartbeats 0
namespace K58
open PySem PySem.Spec PyProof.Rows L2 MM
def dd_report : He.DefD := ⟨("report", none), "report", "report", defArgs s_report, defBody s_report, defScope s_report, [], []⟩
def dd__law_well : He.DefD := ⟨("_law_well", none), "_law_well", "_law_well", defArgs s__law_well, defBody s__law_well, defScope s__law_well, [], []⟩
def dd__law_draw : He.DefD := ⟨("_law_draw", none), "_law_draw", "_law_draw", defArgs s__law_draw, defBody s__law_draw, defScope s__law_draw, [], []⟩
def dd__law_pick : He.DefD := ⟨("_law_pick", none), "_law_pick", "_law_pick", defArgs s__law_pick, defBody s__law_pick, defScope s__law_pick, [], []⟩
def dd__law_plan : He.DefD := ⟨("_law_plan", none), "_law_plan", "_law_plan", defArgs s__law_plan, defBody s__law_plan, defScope s__law_plan, [], []⟩
def dd__law_aligned : He.DefD := ⟨("_law_aligned", none), "_law_aligned", "_law_aligned", defArgs s__law_aligned, defBody s__law_aligned, defScope s__law_aligned, [], []⟩
def dd__law_due : He.DefD := ⟨("_law_due", none), "_law_due", "_law_due", defArgs s__law_due, defBody s__law_due, defScope s__law_due, [], []⟩
def dd_law : He.DefD := ⟨("law", none), "law", "law", defArgs s_law, defBody s_law, defScope s_law, [], []⟩
def fn : List He.DefD := [dd_report, dd__law_well, dd__law_draw, dd__law_pick, dd__law_plan, dd__law_aligned, dd__law_due, dd_law]
def fa : List He.Fa := [.glo "report", .glo "_law_well", .glo "_law_draw", .glo "_law_pick", .glo "_law_plan", .glo "_law_aligned", .glo "_law_due", .glo "law", .free "list", .free "zip", .free "len", .free "range", .free "abs", .free "int", .free "tuple", .free "enumerate", .free "str", .free "min", .free "max", .free "repr", .str "NOTHING" "-"]
abbrev R : PySem.W.OpenRow := PySem.W.OpenLaw.row PySem.Challenge.rw_growshrink_k58_reports
abbrev hk : PySem.W.Hook := He.hookD 4 fa fn
def ob (s : PySem.W.SharedT) : He.AlD := He.obsDG 4 fa fn (HandSHeadRun.getT s)
theorem ob_eq (s : PySem.W.SharedT) : ob s = hk.obs s.abs := He.obsDG_eq (HandSHeadRun.getT_eq s)
def names : List PySem.Str := (["NOTHING", "report", "_law_well", "_law_draw", "_law_pick", "_law_plan", "_law_aligned", "_law_due"] : List PySem.Str)
theorem run (w : World) : HandSHeadRun.RunEq R (PySem.W.view R.prog [10]) hk ob 1060 names w := by
  intro os
  kernel_rfl
theorem facts {P : Program} {w : World} {K : PySem.W.Frag} {h : Heap} {mg : Str → Option Value} {f : Addr} (X : K.In h) (G : h.Ns mainGlobals mg) (hfa : mg ("law" : Str) = some (.ref f)) (c : He.SaysD fa fn K) :
    ∃ fd : FuncData, (∀ (s : Shared) (v : Value), BindsTo s fd ⟨[v], []⟩ [("_law_script", v)]) ∧ ∀ base : Heap, K.In base → base.Ns mainGlobals mg → FnG P w K mg base 4 f fd ["_law_script"] F_law := by
  obtain ⟨e_report, H_report⟩ := c.def_ 0 (d := dd_report) rfl
  obtain ⟨e__law_well, H__law_well⟩ := c.def_ 1 (d := dd__law_well) rfl
  obtain ⟨e__law_draw, H__law_draw⟩ := c.def_ 2 (d := dd__law_draw) rfl
  obtain ⟨e__law_pick, H__law_pick⟩ := c.def_ 3 (d := dd__law_pick) rfl
  obtain ⟨e__law_plan, H__law_plan⟩ := c.def_ 4 (d := dd__law_plan) rfl
  obtain ⟨e__law_aligned, H__law_aligned⟩ := c.def_ 5 (d := dd__law_aligned) rfl
  obtain ⟨e__law_due, H__law_due⟩ := c.def_ 6 (d := dd__law_due) rfl
  obtain ⟨e_law, H_law⟩ := c.def_ 7 (d := dd_law) rfl
  have g_report := He.glo_ok X G (c.fact 0 (f := .glo "report") rfl)
  have g__law_well := He.glo_ok X G (c.fact 1 (f := .glo "_law_well") rfl)
  have g__law_draw := He.glo_ok X G (c.fact 2 (f := .glo "_law_draw") rfl)
  have g__law_pick := He.glo_ok X G (c.fact 3 (f := .glo "_law_pick") rfl)
  have g__law_plan := He.glo_ok X G (c.fact 4 (f := .glo "_law_plan") rfl)
  have g__law_aligned := He.glo_ok X G (c.fact 5 (f := .glo "_law_aligned") rfl)
  have g__law_due := He.glo_ok X G (c.fact 6 (f := .glo "_law_due") rfl)
  have g_law := He.glo_ok X G (c.fact 7 (f := .glo "law") rfl)
  have f_list := He.free_ok X G (c.fact 8 (f := .free "list") rfl)
  have f_zip := He.free_ok X G (c.fact 9 (f := .free "zip") rfl)
  have f_len := He.free_ok X G (c.fact 10 (f := .free "len") rfl)
  have f_range := He.free_ok X G (c.fact 11 (f := .free "range") rfl)
  have f_abs := He.free_ok X G (c.fact 12 (f := .free "abs") rfl)
  have f_int := He.free_ok X G (c.fact 13 (f := .free "int") rfl)
  have f_tuple := He.free_ok X G (c.fact 14 (f := .free "tuple") rfl)
  have f_enumerate := He.free_ok X G (c.fact 15 (f := .free "enumerate") rfl)
  have f_str := He.free_ok X G (c.fact 16 (f := .free "str") rfl)
  have f_min := He.free_ok X G (c.fact 17 (f := .free "min") rfl)
  have f_max := He.free_ok X G (c.fact 18 (f := .free "max") rfl)
  have f_repr := He.free_ok X G (c.fact 19 (f := .free "repr") rfl)
  have c_NOTHING := con_str X G (c.fact 20 (f := .str "NOTHING" "-") rfl)
  cases hfa.symm.trans g_law
  have b_report : Binds K e_report ["policy"] [] := H_report.bindsN fun _ _ _ _ _ _ us hl => match us, hl with | [_], _ => rfl
  have b__law_well : Binds K e__law_well ["_law_script", "_law_k"] [] := H__law_well.bindsN fun _ _ _ _ _ _ us hl => match us, hl with | [_, _], _ => rfl
  have b__law_draw : Binds K e__law_draw ["_law_well_here", "_law_many"] [] := H__law_draw.bindsN fun _ _ _ _ _ _ us hl => match us, hl with | [_, _], _ => rfl
  have b__law_pick : Binds K e__law_pick ["_law_well_here", "_law_some"] [] := H__law_pick.bindsN fun _ _ _ _ _ _ us hl => match us, hl with | [_, _], _ => rfl
  have b__law_plan : Binds K e__law_plan ["_law_well_here", "_law_levels", "_law_wide"] [] := H__law_plan.bindsN fun _ _ _ _ _ _ us hl => match us, hl with | [_, _, _], _ => rfl
  have b__law_aligned : Binds K e__law_aligned ["_law_word", "_law_wide"] [] := H__law_aligned.bindsN fun _ _ _ _ _ _ us hl => match us, hl with | [_, _], _ => rfl
  have b__law_due : Binds K e__law_due ["_law_plan_here"] [] := H__law_due.bindsN fun _ _ _ _ _ _ us hl => match us, hl with | [_], _ => rfl
  have b_law := FunD.bindsA (ps := ["_law_script"]) H_law fun _ _ _ _ _ _ us hl => match us, hl with | [_], _ => rfl
  refine ⟨e_law, fun s v => b_law s [v] rfl, fun base _ _ => ?_⟩
  have o_report := ok_report H_report f_list f_zip f_len f_range c_NOTHING (P := P) (w := w) (mg := mg) (base := base)
  have d_report : DefG P w K mg base 1 "report" 1 F_report := ⟨_, _, _, o_report, g_report, H_report.kp, b_report, rfl⟩
  have k_report_0 : DefK P w K mg base 1 "report" 0 ["policy"] F_report := ⟨_, _, _, o_report, g_report, H_report.kp, rfl, kw_of H_report fun _ _ _ _ _ _ us ws h1 h2 => match us, ws, h1, h2 with | [], [_], _, _ => rfl⟩
  have o__law_well := ok__law_well H__law_well f_len f_abs f_int (P := P) (w := w) (mg := mg) (base := base)
  have d__law_well : DefG P w K mg base 1 "_law_well" 2 F__law_well := ⟨_, _, _, o__law_well, g__law_well, H__law_well.kp, b__law_well, rfl⟩
  have o__law_draw := ok__law_draw H__law_draw (P := P) (w := w) (mg := mg) (base := base)
  have d__law_draw : DefG P w K mg base 1 "_law_draw" 2 F__law_draw := ⟨_, _, _, o__law_draw, g__law_draw, H__law_draw.kp, b__law_draw, rfl⟩
  have o__law_pick := ok__law_pick H__law_pick f_len d__law_draw (P := P) (w := w) (mg := mg) (base := base)
  have d__law_pick : DefG P w K mg base 2 "_law_pick" 2 F__law_pick := ⟨_, _, _, o__law_pick, g__law_pick, H__law_pick.kp, b__law_pick, rfl⟩
  have o__law_plan := ok__law_plan H__law_plan f_range f_tuple d__law_draw d__law_pick (P := P) (w := w) (mg := mg) (base := base)
  have d__law_plan : DefG P w K mg base 3 "_law_plan" 3 F__law_plan := ⟨_, _, _, o__law_plan, g__law_plan, H__law_plan.kp, b__law_plan, rfl⟩
  have o__law_aligned := ok__law_aligned H__law_aligned f_len (P := P) (w := w) (mg := mg) (base := base)
  have d__law_aligned : DefG P w K mg base 1 "_law_aligned" 2 F__law_aligned := ⟨_, _, _, o__law_aligned, g__law_aligned, H__law_aligned.kp, b__law_aligned, rfl⟩
  have o__law_due := ok__law_due H__law_due f_enumerate f_str d__law_aligned (P := P) (w := w) (mg := mg) (base := base)
  have d__law_due : DefG P w K mg base 2 "_law_due" 1 F__law_due := ⟨_, _, _, o__law_due, g__law_due, H__law_due.kp, b__law_due, rfl⟩
  exact ok_law H_law f_range f_len f_min f_max f_repr f_tuple d__law_well d__law_plan d__law_pick d_report d__law_due k_report_0
end K58
open PySem PySem.W PySem.Calls PyProof.Rows
theorem PySem.Challenge.cw_growshrink_k58_reports_holds : PySem.Challenge.rw_growshrink_k58_reports.Holds := by
  w_on; o_law
  refine HandSHeadRun.head_any (r := OpenLaw.row PySem.Challenge.rw_growshrink_k58_reports) (q := view (OpenLaw.row PySem.Challenge.rw_growshrink_k58_reports).prog [10]) (H := K58.hk) (ob := K58.ob) (M := 1060) (loose := K58.names) (d := HandSHeadRun.topDef (OpenLaw.row PySem.Challenge.rw_growshrink_k58_reports).prog 10) (kwd := []) K58.ob_eq
    (by kernel_rfl) (fun s => by kernel_rfl) K58.run (by kernel_rfl) (by kernel_rfl) (by kernel_rfl) (by rfl) (by first | assumption | decide +kernel) (by decide +kernel) ⟨rfl, rfl, rfl, rfl, rfl, by decide +kernel⟩ ?hw ?hc
  case hw => w_witness2
  case hc =>
    refine MM.law_end (l := PySem.Challenge.rw_growshrink_k58_reports) (n := 63) (k := 4) (x := "_law_script") rfl (by decide) (by kernel_rfl) ⟨rfl, by decide, by decide⟩ ?F
    intro w mg fa h Y G hmg0
    obtain ⟨K, KX, c⟩ := Y
    have hmg : mg ("law" : PySem.Str) = some (.ref fa) := by
      have e : (HandSHeadRun.topDef (OpenLaw.row PySem.Challenge.rw_growshrink_k58_reports).prog 10).name = ("law" : PySem.Str) := by kernel_rfl
      rw [← e]
      exact hmg0
    obtain ⟨fd, hb, hF⟩ := K58.facts (P := (PySem.Challenge.rw_growshrink_k58_reports).prog) (w := w) KX G hmg c
    exact ⟨K, fd, K58.F_law, KX, hb, fun ns hl => K58.law_yes ns hl, hF⟩

