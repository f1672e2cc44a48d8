import PyProof.Rows.All
import Wide.All
import OpenK.AllK
import Wide.FinOn
import HandS.ForMost
import HandS.Exc
import HandS.TryOnly
import HandS.ExcOwn
import HandS.WordsExc
import HandS.More
import HandS.Slots
import HandS.SlotsOwn
import HandS.Star
import HandS.Flow
import HandS.Style
import HandS.TupAny
import HandS.Zip
import HandS.IsInst
import HandS.Conv
import HandS.Defaults
import HandS.DictComp
import HandS.Deep
import HandS.Wide
import KE.SortData
import HandS.Small
import HandS.SetFor
import HandS.SetKeys
import HandS.TupSets
import HandS.Strs
import HandS.Words
import HandS.EndBits
import PySem.Challenge.RW_crosshomes_k01_households_and_homes
set_option Elab.async false
set_option linter.all false
set_option maxRecDepth 100000
/-! Sm0: plain data over the hand layer: values without a heap, a store of boxes, how both lie in the abstract heap. -/
namespace Sm
open PySem PySem.Spec PyProof.Rows L2

/-- data that never changes -/
inductive Dt where
  | non | bl (b : Bool) | int (i : Int) | str (s : Str)
  | tup (xs : List Dt) | lst (xs : List Dt) | dct (ks : List Key) (xs : List Dt) | obj (c : Nat) (xs : List Dt)
  /-- a list of the outside, read alone -/
  | scr (xs : List Dt)
/-- a value: data, or a box of the store -/
inductive Dv where
  | d (t : Dt) | loc (n : Nat)
/-- what a box holds -/
inductive Bo where
  | lst (xs : List Dv) | dct (ks : List Key) (xs : List Dv) | ins (c : Nat) (fs : List (Option Dv)) | dead
abbrev Sto := List Bo
abbrev Env := List (Option Dv)

/-- what stays the same through a law: the written part, where the classes stand -/
structure Gs where
  K : PySem.W.Frag
  cls : Nat → Addr
  exc : Nat → Value
  fld : Nat → Option Str
/-- where the boxes lie (each box its addresses; none: let go), and addresses that are out of reach meanwhile -/
structure Al where
  live : List (List Addr)
  hid : List Addr
def Al.all (A : Al) : List Addr := A.live.flatten ++ A.hid

/-- a tuple, a list, read and never changed -/
def TupA (K : PySem.W.Frag) (A : Al) (H : Hp) (a : Addr) (vs : List V) : Prop := (Rd H a (.tup vs) ∧ a ∉ A.all) ∨ ∀ H', SqT K H' a vs
def LstA (A : Al) (H : Hp) (a : Addr) (vs : List V) : Prop := H a = some (.lst vs) ∧ a ∉ A.all
def ScrA (K : PySem.W.Frag) (A : Al) (H : Hp) (a : Addr) (vs : List V) : Prop := (Rd H a (.lst vs) ∧ a ∉ A.all) ∨ ∀ H', SqL K H' a vs
def SlIs (ws : List (Option V)) (vs : List V) : Prop := ∀ (i : Nat) (v : V), vs[i]? = some v → ws[i]? = some (some v)

mutual
/-- data t lies as the value v -/
def RV (G : Gs) (A : Al) (H : Hp) : Dt → V → Prop
  | .non, v => v = .non
  | .bl b, v => v = .bl b
  | .int i, v => v = .int i
  | .str s, v => v = .str s
  | .tup xs, v => ∃ a vs, v = .ref a ∧ TupA G.K A H a vs ∧ RVs G A H xs vs
  | .lst xs, v => ∃ a vs, v = .ref a ∧ LstA A H a vs ∧ RVs G A H xs vs
  | .scr xs, v => ∃ a vs, v = .ref a ∧ ScrA G.K A H a vs ∧ RVs G A H xs vs
  | .dct ks xs, v => ∃ a kvs, v = .ref a ∧ a ∉ A.all ∧ Rd H a (.dK kvs) ∧ kvs.map (·.1) = ks ∧ RVs G A H xs (kvs.map (·.2))
  | .obj c xs, v => ∃ a dx ws vs, v = .ref a ∧ a ∉ A.all ∧ dx ∉ A.all ∧ (∃ u, H dx = some u) ∧ SlX.Slt H a (G.cls c) dx ws ∧ SlIs ws vs ∧ RVs G A H xs vs
def RVs (G : Gs) (A : Al) (H : Hp) : List Dt → List V → Prop
  | [], vs => vs = []
  | t :: ts, vs => ∃ v r, vs = v :: r ∧ RV G A H t v ∧ RVs G A H ts r
end
def RD (G : Gs) (A : Al) (H : Hp) : Dv → V → Prop
  | .d t, v => RV G A H t v
  | .loc n, v => ∃ l, A.live[n]? = some l ∧ ∀ a r, l = a :: r → v = .ref a
abbrev RDs (G : Gs) (A : Al) (H : Hp) : List Dv → List V → Prop := Paired (RD G A H)
def RF (G : Gs) (A : Al) (H : Hp) (fs : List (Option Dv)) (ws : List (Option V)) : Prop := ∀ (i : Nat) (d : Dv), fs[i]? = some (some d) → ∃ v, ws[i]? = some (some v) ∧ RD G A H d v
/-- the box o lies at the addresses l -/
def RB (G : Gs) (A : Al) (H : Hp) (l : List Addr) : Bo → Prop
  | .lst xs => ∃ a vs, l = [a] ∧ H a = some (.lst vs) ∧ RDs G A H xs vs
  | .dct ks xs => ∃ a kvs, l = [a] ∧ H a = some (.dK kvs) ∧ kvs.map (·.1) = ks ∧ RDs G A H xs (kvs.map (·.2))
  | .ins c fs => ∃ a dx ws, l = [a, dx] ∧ SlX.Slt H a (G.cls c) dx ws ∧ RF G A H fs ws
  | .dead => True
structure StR (G : Gs) (A : Al) (S : Sto) (H : Hp) : Prop where
  len : A.live.length = S.length
  nd : A.all.Nodup
  alive : ∀ a ∈ A.all, ∃ o, H a = some o
  box : ∀ (i : Nat) (l : List Addr) (o : Bo), A.live[i]? = some l → S[i]? = some o → RB G A H l o
structure EnvR (G : Gs) (A : Al) (H : Hp) (ρ : Env) (σ : L2.St) : Prop where
  len : ρ.length = σ.length
  at_ : ∀ (i : Nat) (d : Dv), ρ[i]? = some (some d) → ∃ v, σ[i]? = some (some v) ∧ RD G A H d v

/-- u still stands there; a dict may have been locked -/
def Fz (u : HO) (r : Option HO) : Prop := r = some u ∨ ((∃ kvs, u = .dK kvs) ∧ ∃ o, r = some (.frz o u))
/-- what may have happened: boxes changed, were made, were let go; all else stands -/
structure Ext (A : Al) (H : Hp) (A' : Al) (H' : Hp) : Prop where
  live : ∀ (i : Nat) (l : List Addr), A.live[i]? = some l → A'.live[i]? = some l ∨ A'.live[i]? = some []
  hid : ∀ a u, H a = some u → a ∉ A.live.flatten → (a ∈ A'.hid ↔ a ∈ A.hid)
  keep : ∀ a u, H a = some u → a ∉ A.live.flatten → Fz u (H' a) ∧ a ∉ A'.live.flatten
  keepH : ∀ a u, H a = some u → a ∉ A.live.flatten → a ∈ A.hid → H' a = some u

section
variable {G : Gs} {A A' A1 : Al} {H H' H1 : Hp} {S S' : Sto}
theorem mem_all {a : Addr} : a ∉ A.all ↔ a ∉ A.live.flatten ∧ a ∉ A.hid := by
  unfold Al.all
  rw [List.mem_append]
  exact ⟨fun h => ⟨fun z => h (.inl z), fun z => h (.inr z)⟩, fun h z => z.elim h.1 h.2⟩
theorem Fz.there {u : HO} {r : Option HO} (h : Fz u r) : ∃ v, r = some v := by
  rcases h with h | ⟨_, o, h⟩
  · exact ⟨_, h⟩
  · exact ⟨_, h⟩
theorem Fz.eq {u : HO} {r : Option HO} (h : Fz u r) (n : ¬ ∃ kvs, u = .dK kvs) : r = some u := by
  rcases h with h | ⟨z, _⟩
  · exact h
  · exact absurd z n
theorem Fz.step {u v : HO} {r : Option HO} (h : Fz u (some v)) (k : Fz v r) : Fz u r := by
  rcases h with h | ⟨z, o, h⟩
  · cases h
    exact k
  · cases h
    exact .inr ⟨z, o, k.eq fun ⟨_, z⟩ => by cases z⟩
theorem Ext.refl : Ext A H A H := ⟨fun _ _ h => .inl h, fun _ _ _ _ => Iff.rfl, fun _ _ h n => ⟨.inl h, n⟩, fun _ _ h _ _ => h⟩
theorem Ext.trans (x : Ext A H A1 H1) (y : Ext A1 H1 A' H') : Ext A H A' H' := by
  refine ⟨fun i l h => ?_, fun a u h n => ?_, fun a u h n => ?_, fun a u h n m => ?_⟩
  · rcases x.live i l h with h | h
    · exact y.live i l h
    · rcases y.live i [] h with h | h
      · exact .inr h
      · exact .inr h
  · obtain ⟨h1, n1⟩ := x.keep a u h n
    obtain ⟨v, hv⟩ := h1.there
    exact (y.hid a v hv n1).trans (x.hid a u h n)
  · obtain ⟨h1, n1⟩ := x.keep a u h n
    obtain ⟨v, hv⟩ := h1.there
    obtain ⟨h2, n2⟩ := y.keep a v hv n1
    rw [hv] at h1
    exact ⟨h1.step h2, n2⟩
  · have h1 := x.keepH a u h n m
    have n1 := (x.keep a u h n).2
    exact y.keepH a u h1 n1 ((x.hid a u h n).mpr m)
theorem Ext.all {a : Addr} {u : HO} (x : Ext A H A' H') (h : H a = some u) (n : a ∉ A.all) : Fz u (H' a) ∧ a ∉ A'.all := by
  obtain ⟨n1, n2⟩ := mem_all.mp n
  obtain ⟨h1, m1⟩ := x.keep a u h n1
  exact ⟨h1, mem_all.mpr ⟨m1, fun z => n2 ((x.hid a u h n1).mp z)⟩⟩
end

/-- plain: no lock -/
def Nf (u : HO) : Prop := ∀ o u', u ≠ .frz o u'
/-- may be locked -/
def Lk (u : HO) : Prop := ∃ kvs, u = .dK kvs
/-- what data leans on is kept -/
structure Kq (A : Al) (H : Hp) (A' : Al) (H' : Hp) : Prop where
  rd : ∀ a u, Nf u → a ∉ A.all → Rd H a u → Rd H' a u ∧ a ∉ A'.all
  ex : ∀ a u, Nf u → ¬ Lk u → a ∉ A.all → H a = some u → H' a = some u ∧ a ∉ A'.all
  there : ∀ a u, a ∉ A.all → H a = some u → (∃ u', H' a = some u') ∧ a ∉ A'.all
structure Kp (A : Al) (H : Hp) (A' : Al) (H' : Hp) : Prop extends Kq A H A' H' where
  live : ∀ (i : Nat) (l : List Addr), A.live[i]? = some l → A'.live[i]? = some l ∨ A'.live[i]? = some []
section
variable {G : Gs} {A A' A1 : Al} {H H' H1 : Hp} {S S' : Sto}
theorem nf_tup {xs : List V} : Nf (.tup xs) := fun _ _ z => by cases z
theorem nf_lst {xs : List V} : Nf (.lst xs) := fun _ _ z => by cases z
theorem nf_dK {xs : List (Key × V)} : Nf (.dK xs) := fun _ _ z => by cases z
theorem nf_ins {C dx : Addr} {xs : List (Str × V)} : Nf (.ins C dx xs) := fun _ _ z => by cases z
theorem nf_slo {a C dx : Addr} {xs : List (Option V)} : Nf (SlX.SlO a C dx xs) := fun _ _ z => by cases z
theorem nf_xd {xs : List (Str × V)} : Nf (.xd xs) := fun _ _ z => by cases z
theorem lk_ins {C dx : Addr} {xs : List (Str × V)} : ¬ Lk (.ins C dx xs) := fun z => by
  obtain ⟨_, z⟩ := z
  cases z
theorem lk_slo {a C dx : Addr} {xs : List (Option V)} : ¬ Lk (SlX.SlO a C dx xs) := fun z => by
  obtain ⟨_, z⟩ := z
  cases z
theorem lk_xd {xs : List (Str × V)} : ¬ Lk (.xd xs) := fun z => by
  obtain ⟨_, z⟩ := z
  cases z
theorem Ext.kp (x : Ext A H A' H') : Kp A H A' H' := by
  refine ⟨⟨fun a u nf n h => ?_, fun a u nf lk n h => ?_, fun a u n h => ⟨(x.all h n).1.there, (x.all h n).2⟩⟩, x.live⟩
  · rcases h with h | ⟨o, h⟩
    · obtain ⟨h1, n1⟩ := x.all h n
      rcases h1 with h1 | ⟨_, o, h1⟩
      · exact ⟨.inl h1, n1⟩
      · exact ⟨.inr ⟨o, h1⟩, n1⟩
    · obtain ⟨h1, n1⟩ := x.all h n
      exact ⟨.inr ⟨o, h1.eq fun ⟨_, z⟩ => by cases z⟩, n1⟩
  · obtain ⟨h1, n1⟩ := x.all h n
    exact ⟨h1.eq lk, n1⟩
theorem TupA.kp {K : PySem.W.Frag} {a : Addr} {vs : List V} (x : Kq A H A' H') (h : TupA K A H a vs) : TupA K A' H' a vs := by
  rcases h with ⟨h, n⟩ | h
  · exact .inl (x.rd a _ nf_tup n h)
  · exact .inr h
theorem lk_lst {xs : List V} : ¬ Lk (.lst xs) := fun z => by
  obtain ⟨_, z⟩ := z
  cases z
theorem LstA.kp {a : Addr} {vs : List V} (x : Kq A H A' H') (h : LstA A H a vs) : LstA A' H' a vs := x.ex a _ nf_lst lk_lst h.2 h.1
theorem ScrA.kp {K : PySem.W.Frag} {a : Addr} {vs : List V} (x : Kq A H A' H') (h : ScrA K A H a vs) : ScrA K A' H' a vs := by
  rcases h with ⟨h, n⟩ | h
  · exact .inl (x.rd a _ nf_lst n h)
  · exact .inr h
theorem ScrA.sq {K : PySem.W.Frag} {a : Addr} {vs : List V} (h : ScrA K A H a vs) : SqL K H a vs := by
  rcases h with ⟨h, _⟩ | h
  · exact .inl h
  · exact h H
theorem LstA.sq {K : PySem.W.Frag} {a : Addr} {vs : List V} (h : LstA A H a vs) : SqL K H a vs := .inl (.inl h.1)
theorem TupA.sq {K : PySem.W.Frag} {a : Addr} {vs : List V} (h : TupA K A H a vs) : SqT K H a vs := by
  rcases h with ⟨h, _⟩ | h
  · exact .inl h
  · exact h H
theorem slt_kp {a C dx : Addr} {ws : List (Option V)} (x : Kq A H A' H') (h : SlX.Slt H a C dx ws) (n : a ∉ A.all) (n2 : dx ∉ A.all) : SlX.Slt H' a C dx ws ∧ a ∉ A'.all := by
  rcases h with ⟨h, hw⟩ | ⟨h, h2⟩
  · obtain ⟨e, m⟩ := x.ex a _ nf_ins lk_ins n h
    exact ⟨.inl ⟨e, hw⟩, m⟩
  · obtain ⟨e, m⟩ := x.ex a _ nf_slo lk_slo n h
    obtain ⟨e2, m2⟩ := x.ex dx _ nf_xd lk_xd n2 h2
    exact ⟨.inr ⟨e, e2⟩, m⟩
mutual
theorem RV.kq (x : Kq A H A' H') : ∀ {t : Dt} {v : V}, RV G A H t v → RV G A' H' t v
  | .non, _, h => h
  | .bl _, _, h => h
  | .int _, _, h => h
  | .str _, _, h => h
  | .tup xs, v, h => by
    obtain ⟨a, vs, e, ht, hs⟩ := h
    exact ⟨a, vs, e, ht.kp x, RVs.kq x hs⟩
  | .lst xs, v, h => by
    obtain ⟨a, vs, e, ht, hs⟩ := h
    exact ⟨a, vs, e, ht.kp x, RVs.kq x hs⟩
  | .scr xs, v, h => by
    obtain ⟨a, vs, e, ht, hs⟩ := h
    exact ⟨a, vs, e, ht.kp x, RVs.kq x hs⟩
  | .dct ks xs, v, h => by
    obtain ⟨a, kvs, e, n, r, ek, hs⟩ := h
    obtain ⟨r1, n1⟩ := x.rd a _ nf_dK n r
    exact ⟨a, kvs, e, n1, r1, ek, RVs.kq x hs⟩
  | .obj c xs, v, h => by
    obtain ⟨a, dx, ws, vs, e, n, n2, ⟨u, hu⟩, hsl, hi, hs⟩ := h
    obtain ⟨h1, n1⟩ := slt_kp x hsl n n2
    obtain ⟨h3, n3⟩ := x.there dx u n2 hu
    exact ⟨a, dx, ws, vs, e, n1, n3, h3, h1, hi, RVs.kq x hs⟩
theorem RVs.kq (x : Kq A H A' H') : ∀ {t : List Dt} {v : List V}, RVs G A H t v → RVs G A' H' t v
  | [], _, h => h
  | t :: ts, vs, h => by
    obtain ⟨v, r, e, h1, h2⟩ := h
    exact ⟨v, r, e, RV.kq x h1, RVs.kq x h2⟩
end
theorem RV.kp {t : Dt} {v : V} (h : RV G A H t v) (x : Kp A H A' H') : RV G A' H' t v := RV.kq x.toKq h
theorem RVs.kp {t : List Dt} {v : List V} (h : RVs G A H t v) (x : Kp A H A' H') : RVs G A' H' t v := RVs.kq x.toKq h
theorem RD.kp (x : Kp A H A' H') {d : Dv} {v : V} (h : RD G A H d v) : RD G A' H' d v := by
  cases d with
  | d t => exact RV.kp (t := t) h x
  | loc n =>
    obtain ⟨l, e, f⟩ := h
    rcases x.live n l e with e | e
    · exact ⟨l, e, f⟩
    · exact ⟨[], e, fun a r z => by cases z⟩
theorem RDs.kp (x : Kp A H A' H') {ds : List Dv} {vs : List V} (h : RDs G A H ds vs) : RDs G A' H' ds vs := Paired.mapP h fun _ _ z => RD.kp x z
theorem EnvR.kp (x : Kp A H A' H') {ρ : Env} {σ : L2.St} (h : EnvR G A H ρ σ) : EnvR G A' H' ρ σ :=
  ⟨h.len, fun i d e => let ⟨v, e1, r⟩ := h.at_ i d e; ⟨v, e1, RD.kp x r⟩⟩
theorem RF.kp (x : Kp A H A' H') {fs : List (Option Dv)} {ws : List (Option V)} (h : RF G A H fs ws) : RF G A' H' fs ws :=
  fun i d e => let ⟨v, e1, r⟩ := h i d e; ⟨v, e1, RD.kp x r⟩
theorem RVs.paired : ∀ {ts : List Dt} {vs : List V}, RVs G A H ts vs ↔ Paired (RV G A H) ts vs
  | [], vs => ⟨fun h => by
      have e : vs = [] := h
      subst e
      exact .nil, fun h => by
      cases h
      exact (rfl : ([] : List V) = [])⟩
  | t :: ts, vs => ⟨fun h => by
      obtain ⟨v, r, e, h1, h2⟩ := h
      subst e
      exact .cons h1 (RVs.paired.mp h2), fun h => by
      cases h with
      | cons h1 h2 => exact ⟨_, _, rfl, h1, RVs.paired.mpr h2⟩⟩
theorem RVs.rds {ts : List Dt} {vs : List V} (h : RVs G A H ts vs) : RDs G A H (ts.map .d) vs := by
  have p := RVs.paired.mp h
  induction p with
  | nil => exact .nil
  | cons r _ ih => exact .cons r (ih (RVs.paired.mpr ‹_›))
theorem RVs.of_rds : ∀ {ts : List Dt} {vs : List V}, RDs G A H (ts.map .d) vs → RVs G A H ts vs
  | [], _, h => by
    cases h
    exact (rfl : ([] : List V) = [])
  | t :: ts, _, h => by
    cases h with
    | cons r q => exact ⟨_, _, rfl, r, RVs.of_rds q⟩
theorem RVs.length {ts : List Dt} {vs : List V} (h : RVs G A H ts vs) : ts.length = vs.length := (RVs.paired.mp h).length
theorem RVs.get : ∀ {ts : List Dt} {vs : List V} {i : Nat} {t : Dt}, RVs G A H ts vs → ts[i]? = some t → ∃ v, vs[i]? = some v ∧ RV G A H t v
  | [], _, i, t, _, e => by simp at e
  | t :: ts, _, 0, _, h, e => by
    obtain ⟨v, r, rfl, h1, h2⟩ := h
    simp at e
    subst e
    exact ⟨v, rfl, h1⟩
  | t :: ts, _, i + 1, _, h, e => by
    obtain ⟨v, r, rfl, h1, h2⟩ := h
    obtain ⟨u, e1, r1⟩ := RVs.get (i := i) h2 (by simpa using e)
    exact ⟨u, by simpa using e1, r1⟩
theorem RVs.get' : ∀ {ts : List Dt} {vs : List V} {i : Nat} {v : V}, RVs G A H ts vs → vs[i]? = some v → ∃ t, ts[i]? = some t ∧ RV G A H t v
  | [], vs, i, v, h, e => by
    have z : vs = [] := h
    subst z
    simp at e
  | t :: ts, _, 0, _, h, e => by
    obtain ⟨v, r, rfl, h1, h2⟩ := h
    simp at e
    subst e
    exact ⟨t, rfl, h1⟩
  | t :: ts, _, i + 1, _, h, e => by
    obtain ⟨v, r, rfl, h1, h2⟩ := h
    obtain ⟨u, e1, r1⟩ := RVs.get' (i := i) h2 (by simpa using e)
    exact ⟨u, by simpa using e1, r1⟩
theorem RVs.append : ∀ {ts us : List Dt} {vs ws : List V}, RVs G A H ts vs → RVs G A H us ws → RVs G A H (ts ++ us) (vs ++ ws)
  | [], _, _, _, h, h2 => by
    have z : _ = [] := h
    subst z
    exact h2
  | t :: ts, _, _, _, h, h2 => by
    obtain ⟨v, r, rfl, h1, h3⟩ := h
    exact ⟨v, r ++ _, rfl, h1, RVs.append h3 h2⟩
theorem RVs.take {ts : List Dt} {vs : List V} (n : Nat) (h : RVs G A H ts vs) : RVs G A H (ts.take n) (vs.take n) := by
  induction ts generalizing vs n with
  | nil =>
    have z : vs = [] := h
    subst z
    simp [RVs]
  | cons t ts ih =>
    obtain ⟨v, r, rfl, h1, h2⟩ := h
    cases n with
    | zero => exact (rfl : ([] : List V) = [])
    | succ n => exact ⟨v, r.take n, rfl, h1, ih n h2⟩
theorem RVs.drop {ts : List Dt} {vs : List V} (n : Nat) (h : RVs G A H ts vs) : RVs G A H (ts.drop n) (vs.drop n) := by
  induction ts generalizing vs n with
  | nil =>
    have z : vs = [] := h
    subst z
    simp [RVs]
  | cons t ts ih =>
    obtain ⟨v, r, rfl, h1, h2⟩ := h
    cases n with
    | zero => exact ⟨v, r, rfl, h1, h2⟩
    | succ n => exact ih n h2
theorem RDs.get {ds : List Dv} {vs : List V} {i : Nat} {d : Dv} (h : RDs G A H ds vs) (e : ds[i]? = some d) : ∃ v, vs[i]? = some v ∧ RD G A H d v := L2.paired_get h e
theorem RDs.get' : ∀ {ds : List Dv} {vs : List V} {i : Nat} {v : V}, RDs G A H ds vs → vs[i]? = some v → ∃ d, ds[i]? = some d ∧ RD G A H d v
  | _, _, _, _, .nil, e => by simp at e
  | _, _, 0, _, .cons r _, e => by
    simp at e
    subst e
    exact ⟨_, rfl, r⟩
  | _, _, i + 1, _, .cons _ t, e => by
    obtain ⟨d, e1, r1⟩ := RDs.get' (i := i) t (by simpa using e)
    exact ⟨d, by simpa using e1, r1⟩
theorem RDs.append : ∀ {ds es : List Dv} {vs ws : List V}, RDs G A H ds vs → RDs G A H es ws → RDs G A H (ds ++ es) (vs ++ ws)
  | _, _, _, _, .nil, h => h
  | _, _, _, _, .cons r t, h => .cons r (RDs.append t h)
theorem RDs.set : ∀ {ds : List Dv} {vs : List V} (i : Nat) {d : Dv} {v : V}, RDs G A H ds vs → RD G A H d v → RDs G A H (ds.set i d) (vs.set i v)
  | _, _, _, _, _, .nil, _ => .nil
  | _, _, 0, _, _, .cons _ t, r => .cons r t
  | _, _, i + 1, _, _, .cons q t, r => .cons q (RDs.set i t r)
theorem RDs.eraseIdx : ∀ {ds : List Dv} {vs : List V} (i : Nat), RDs G A H ds vs → RDs G A H (ds.eraseIdx i) (vs.eraseIdx i)
  | _, _, _, .nil => .nil
  | _, _, 0, .cons _ t => t
  | _, _, i + 1, .cons q t => .cons q (RDs.eraseIdx i t)
theorem RDs.dropLast : ∀ {ds : List Dv} {vs : List V}, RDs G A H ds vs → RDs G A H ds.dropLast vs.dropLast
  | _, _, .nil => .nil
  | _, _, .cons _ .nil => .nil
  | _, _, .cons q (.cons r t) => .cons q (RDs.dropLast (.cons r t))
end
end Sm
/-! Sm1: what a step does to the store. -/
namespace Sm
open PySem PySem.Spec PyProof.Rows L2
section
variable {G : Gs} {A A' A1 : Al} {H H' H1 : Hp} {S S' : Sto} {p a : Addr} {o u : HO}
theorem StR.out (s : StR G A S H) (h : H p = none) : p ∉ A.all := fun z => by
  obtain ⟨o, e⟩ := s.alive p z
  rw [h] at e
  cases e
theorem upd_old (h : H p = none) (e : H a = some u) : upd H p o a = some u := by
  rw [upd_ne (ne_of_none e h)]
  exact e
/-- a new object outside of the boxes -/
theorem Ext.new (h : H p = none) : Ext A H A (upd H p o) := ⟨fun _ _ e => .inl e, fun _ _ _ _ => Iff.rfl, fun _ _ e n => ⟨.inl (upd_old h e), n⟩, fun _ _ e _ _ => upd_old h e⟩
theorem live_set {i : Nat} {x : List Addr} (h : A.live[i]? = some x) : ∀ a ∈ x, a ∈ A.live.flatten := fun a ha => List.mem_flatten.mpr ⟨x, List.mem_of_getElem? h, ha⟩
theorem slt_upd {a C dx : Addr} {ws : List (Option V)} (h : SlX.Slt H a C dx ws) (n : p ≠ a) (n2 : p ≠ dx) : SlX.Slt (upd H p o) a C dx ws := by
  rcases h with ⟨h, hw⟩ | ⟨h, h2⟩
  · exact .inl ⟨by rw [upd_ne n.symm]; exact h, hw⟩
  · exact .inr ⟨by rw [upd_ne n.symm]; exact h, by rw [upd_ne n2.symm]; exact h2⟩
/-- a box is kept -/
theorem RB.keep {l : List Addr} {b : Bo} (k : Kp A H A' H') (hl : ∀ a ∈ l, H' a = H a) (h : RB G A H l b) : RB G A' H' l b := by
  cases b with
  | lst xs =>
    obtain ⟨a, vs, rfl, e, r⟩ := h
    exact ⟨a, vs, rfl, (hl a (by simp)).trans e, r.kp k⟩
  | dct ks xs =>
    obtain ⟨a, vs, rfl, e, ek, r⟩ := h
    exact ⟨a, vs, rfl, (hl a (by simp)).trans e, ek, r.kp k⟩
  | ins c fs =>
    obtain ⟨a, dx, ws, rfl, e, r⟩ := h
    refine ⟨a, dx, ws, rfl, ?_, r.kp k⟩
    rcases e with ⟨e, hw⟩ | ⟨e, e2⟩
    · exact .inl ⟨(hl a (by simp)).trans e, hw⟩
    · exact .inr ⟨(hl a (by simp)).trans e, (hl dx (by simp)).trans e2⟩
  | dead => trivial
theorem StR.new (s : StR G A S H) (h : H p = none) : StR G A S (upd H p o) := by
  refine ⟨s.len, s.nd, fun a ha => ?_, fun i l b e1 e2 => (s.box i l b e1 e2).keep (Ext.new h).kp fun a ha => ?_⟩
  · obtain ⟨u, e⟩ := s.alive a ha
    exact ⟨u, upd_old h e⟩
  · have z : a ∈ A.all := List.mem_append_left _ (live_set e1 a ha)
    obtain ⟨u, e⟩ := s.alive a z
    rw [upd_old h e, e]
/-- a tuple, a list that stays -/
theorem RV.tup_new {ts : List Dt} {vs : List V} (s : StR G A S H) (h : H p = none) (r : RVs G A H ts vs) : RV G A (upd H p (.tup vs)) (.tup ts) (.ref p) :=
  ⟨p, vs, rfl, .inl ⟨.inl upd_same, s.out h⟩, r.kp (Ext.new h).kp⟩
theorem RV.lst_new {ts : List Dt} {vs : List V} (s : StR G A S H) (h : H p = none) (r : RVs G A H ts vs) : RV G A (upd H p (.lst vs)) (.lst ts) (.ref p) :=
  ⟨p, vs, rfl, ⟨upd_same, s.out h⟩, r.kp (Ext.new h).kp⟩
/-! ### new boxes -/
def Al.push (A : Al) (l : List Addr) : Al := ⟨A.live ++ [l], A.hid⟩
theorem push_all {l : List Addr} {b : Addr} : b ∈ (A.push l).all ↔ b ∈ A.all ∨ b ∈ l := by
  unfold Al.push Al.all
  simp only [List.flatten_append, List.mem_append, List.flatten_cons, List.flatten_nil, List.append_nil]
  constructor
  · rintro ((h | h) | h)
    · exact .inl (.inl h)
    · exact .inr h
    · exact .inl (.inr h)
  · rintro ((h | h) | h)
    · exact .inl (.inl h)
    · exact .inr h
    · exact .inl (.inr h)
theorem push_old {l x : List Addr} {i : Nat} (h : A.live[i]? = some x) : (A.push l).live[i]? = some x := by
  unfold Al.push
  have := (List.getElem?_eq_some_iff.mp h).1
  rw [List.getElem?_append_left this]
  exact h
theorem push_at {l x : List Addr} {i : Nat} (h : (A.push l).live[i]? = some x) : A.live[i]? = some x ∨ (i = A.live.length ∧ x = l) := by
  unfold Al.push at h
  simp only at h
  by_cases hi : i < A.live.length
  · rw [List.getElem?_append_left hi] at h
    exact .inl h
  · rw [List.getElem?_append_right (by omega)] at h
    by_cases h0 : i - A.live.length = 0
    · rw [h0] at h
      simp at h
      exact .inr ⟨by omega, h.symm⟩
    · obtain ⟨k, hk⟩ : ∃ k, i - A.live.length = k + 1 := ⟨i - A.live.length - 1, by omega⟩
      rw [hk] at h
      simp at h
theorem push_nd {l : List Addr} (hn : A.all.Nodup) (hl : l.Nodup) (hx : ∀ b ∈ l, b ∉ A.all) : (A.push l).all.Nodup := by
  unfold Al.push Al.all at *
  simp only [List.flatten_append, List.flatten_cons, List.flatten_nil, List.append_nil]
  rw [List.nodup_append] at hn
  obtain ⟨n1, n2, n3⟩ := hn
  rw [List.nodup_append, List.nodup_append]
  refine ⟨⟨n1, hl, fun x hx1 y hy e => ?_⟩, n2, fun x hx1 y hy e => ?_⟩
  · subst e
    exact hx x hy (List.mem_append_left _ hx1)
  · subst e
    rcases List.mem_append.mp hx1 with z | z
    · exact n3 x z x hy rfl
    · exact hx x z (List.mem_append_right _ hy)
theorem Ext.push {l : List Addr} (hk : ∀ b v, H b = some v → H' b = some v) (hl : ∀ b ∈ l, H b = none) : Ext A H (A.push l) H' := by
  refine ⟨fun i x h => .inl (push_old h), fun _ _ _ _ => Iff.rfl, fun b v h n => ⟨.inl (hk b v h), fun z => ?_⟩, fun b v h _ _ => hk b v h⟩
  unfold Al.push at z
  simp only [List.flatten_append, List.mem_append, List.flatten_cons, List.flatten_nil, List.append_nil] at z
  rcases z with z | z
  · exact n z
  · rw [hl b z] at h
    cases h
theorem StR.push {l : List Addr} {b : Bo} (s : StR G A S H) (hk : ∀ b v, H b = some v → H' b = some v) (hl : ∀ b ∈ l, H b = none) (hl' : ∀ b ∈ l, ∃ v, H' b = some v) (hn : l.Nodup) (hb : RB G (A.push l) H' l b) : StR G (A.push l) (S ++ [b]) H' := by
  have x : Ext A H (A.push l) H' := Ext.push hk hl
  refine ⟨by simp [Al.push, s.len], push_nd s.nd hn fun c hc => s.out (hl c hc), fun c hc => ?_, fun i k o e1 e2 => ?_⟩
  · rcases push_all.mp hc with z | z
    · obtain ⟨v, e⟩ := s.alive c z
      exact ⟨v, hk c v e⟩
    · exact hl' c z
  · rcases push_at e1 with z | ⟨z, rfl⟩
    · have hi : i < S.length := by
        rw [← s.len]
        exact (List.getElem?_eq_some_iff.mp z).1
      rw [List.getElem?_append_left hi] at e2
      refine (s.box i k o z e2).keep x.kp fun c hc => ?_
      obtain ⟨v, e⟩ := s.alive c (List.mem_append_left _ (live_set z c hc))
      rw [hk c v e, e]
    · subst z
      rw [s.len, List.getElem?_append_right (Nat.le_refl _)] at e2
      simp at e2
      subst e2
      exact hb
theorem push_loc {l : List Addr} (s : StR G A S H) : (A.push l).live[S.length]? = some l := by
  unfold Al.push
  simp only
  rw [← s.len, List.getElem?_append_right (Nat.le_refl _)]
  simp
theorem RD.loc_new {r : List Addr} (s : StR G A S H) : RD G (A.push (p :: r)) H' (.loc S.length) (.ref p) :=
  ⟨p :: r, push_loc s, fun b q z => by
    injection z with z1 z2
    rw [z1]⟩
/-- a new list as a box -/
theorem box_lst {ds : List Dv} {vs : List V} (s : StR G A S H) (h : H p = none) (r : RDs G A H ds vs) :
    Ext A H (A.push [p]) (upd H p (.lst vs)) ∧ StR G (A.push [p]) (S ++ [.lst ds]) (upd H p (.lst vs)) ∧ RD G (A.push [p]) (upd H p (.lst vs)) (.loc S.length) (.ref p) := by
  have hk : ∀ b v, H b = some v → upd H p (.lst vs) b = some v := fun b v e => upd_old h e
  have hl : ∀ b ∈ [p], H b = none := fun b hb => by
    simp at hb
    rw [hb]
    exact h
  have x : Ext A H (A.push [p]) (upd H p (.lst vs)) := Ext.push hk hl
  refine ⟨x, s.push hk hl (fun b hb => ?_) (by simp) ⟨p, vs, rfl, upd_same, r.kp x.kp⟩, RD.loc_new s⟩
  simp at hb
  rw [hb]
  exact ⟨_, upd_same⟩
theorem box_dct {kvs : List (Key × V)} {ks : List Key} {ds : List Dv} (s : StR G A S H) (h : H p = none) (ek : kvs.map (·.1) = ks) (r : RDs G A H ds (kvs.map (·.2))) :
    Ext A H (A.push [p]) (upd H p (.dK kvs)) ∧ StR G (A.push [p]) (S ++ [.dct ks ds]) (upd H p (.dK kvs)) ∧ RD G (A.push [p]) (upd H p (.dK kvs)) (.loc S.length) (.ref p) := by
  have hk : ∀ b v, H b = some v → upd H p (.dK kvs) b = some v := fun b v e => upd_old h e
  have hl : ∀ b ∈ [p], H b = none := fun b hb => by
    simp at hb
    rw [hb]
    exact h
  have x : Ext A H (A.push [p]) (upd H p (.dK kvs)) := Ext.push hk hl
  refine ⟨x, s.push hk hl (fun b hb => ?_) (by simp) ⟨p, kvs, rfl, upd_same, ek, r.kp x.kp⟩, RD.loc_new s⟩
  simp at hb
  rw [hb]
  exact ⟨_, upd_same⟩
/-- a new instance with slots -/
theorem box_ins {c : Nat} {dx : Addr} (s : StR G A S H) (h : H p = none) (h2 : H dx = none) (ne : dx ≠ p) :
    Ext A H (A.push [p, dx]) (upd (upd H dx (.own p)) p (.ins (G.cls c) dx [])) ∧ StR G (A.push [p, dx]) (S ++ [.ins c []]) (upd (upd H dx (.own p)) p (.ins (G.cls c) dx [])) ∧
      RD G (A.push [p, dx]) (upd (upd H dx (.own p)) p (.ins (G.cls c) dx [])) (.loc S.length) (.ref p) := by
  have h3 : upd H dx (.own p) p = none := by
    rw [upd_ne ne.symm]
    exact h
  have hk : ∀ b v, H b = some v → upd (upd H dx (.own p)) p (.ins (G.cls c) dx []) b = some v := fun b v e => upd_old h3 (upd_old h2 e)
  have hl : ∀ b ∈ [p, dx], H b = none := fun b hb => by
    simp at hb
    rcases hb with rfl | rfl
    · exact h
    · exact h2
  have x : Ext A H (A.push [p, dx]) (upd (upd H dx (.own p)) p (.ins (G.cls c) dx [])) := Ext.push hk hl
  refine ⟨x, s.push hk hl (fun b hb => ?_) (by simp [ne.symm]) ⟨p, dx, [], rfl, .inl ⟨upd_same, rfl⟩, fun i d e => by simp at e⟩, RD.loc_new s⟩
  simp at hb
  rcases hb with rfl | rfl
  · exact ⟨_, upd_same⟩
  · rw [upd_ne ne, upd_same]
    exact ⟨_, rfl⟩
/-! ### a box changes -/
theorem nd_flat : ∀ {L : List (List Addr)}, L.flatten.Nodup → (∀ x ∈ L, x.Nodup) ∧ ∀ (i j : Nat) (x y : List Addr) (b : Addr), L[i]? = some x → L[j]? = some y → b ∈ x → b ∈ y → i = j
  | [], _ => ⟨fun x z => by simp at z, fun i j x y b h => by simp at h⟩
  | l :: L, h => by
    rw [List.flatten_cons, List.nodup_append] at h
    obtain ⟨h1, h2, h3⟩ := h
    obtain ⟨i1, i2⟩ := nd_flat h2
    have mem : ∀ {k : Nat} {z : List Addr} {b : Addr}, L[k]? = some z → b ∈ z → b ∈ L.flatten := fun e hb => List.mem_flatten.mpr ⟨_, List.mem_of_getElem? e, hb⟩
    refine ⟨fun x hx => ?_, fun i j x y b e1 e2 b1 b2 => ?_⟩
    · rcases List.mem_cons.mp hx with rfl | hx
      · exact h1
      · exact i1 x hx
    · cases i with
      | zero =>
        cases j with
        | zero => rfl
        | succ j =>
          simp at e1 e2
          subst e1
          exact absurd rfl (h3 b b1 b (mem e2 b2))
      | succ i =>
        cases j with
        | zero =>
          simp at e1 e2
          subst e2
          exact absurd rfl (h3 b b2 b (mem e1 b1))
        | succ j =>
          simp at e1 e2
          rw [i2 i j x y b e1 e2 b1 b2]
theorem nd_live {i j : Nat} {x y : List Addr} {b : Addr} (hn : A.all.Nodup) (h1 : A.live[i]? = some x) (h2 : A.live[j]? = some y) (b1 : b ∈ x) (b2 : b ∈ y) : i = j := by
  unfold Al.all at hn
  rw [List.nodup_append] at hn
  exact (nd_flat hn.1).2 i j x y b h1 h2 b1 b2
/-- the box i gets another content; all but its addresses stands -/
theorem Ext.box {i : Nat} {l : List Addr} (h : A.live[i]? = some l) (hk : ∀ b, b ∉ l → H' b = H b) : Ext A H A H' :=
  ⟨fun _ _ e => .inl e, fun _ _ _ _ => Iff.rfl, fun b v e n => ⟨.inl (by rw [hk b fun z => n (live_set h b z)]; exact e), n⟩, fun b v e n _ => by rw [hk b fun z => n (live_set h b z)]; exact e⟩
theorem StR.setBox {i : Nat} {l : List Addr} {b : Bo} (s : StR G A S H) (h : A.live[i]? = some l) (hk : ∀ c, c ∉ l → H' c = H c) (ha : ∀ c ∈ l, ∃ v, H' c = some v) (hb : RB G A H' l b) : StR G A (S.set i b) H' := by
  have x : Ext A H A H' := Ext.box h hk
  refine ⟨by simp [s.len], s.nd, fun c hc => ?_, fun j k o e1 e2 => ?_⟩
  · by_cases hcl : c ∈ l
    · exact ha c hcl
    · rw [hk c hcl]
      exact s.alive c hc
  · by_cases hj : j = i
    · subst hj
      have hi : j < S.length := by
        rw [← s.len]
        exact (List.getElem?_eq_some_iff.mp h).1
      rw [List.getElem?_set_self hi] at e2
      cases e2
      rw [h] at e1
      cases e1
      exact hb
    · rw [List.getElem?_set_ne (fun z => hj z.symm)] at e2
      exact (s.box j k o e1 e2).keep x.kp fun c hc => hk c fun z => hj (nd_live s.nd e1 h hc z)
theorem loc_lst {n : Nat} {xs : List Dv} {v : V} (s : StR G A S H) (r : RD G A H (.loc n) v) (e : S[n]? = some (.lst xs)) : ∃ a vs, v = .ref a ∧ A.live[n]? = some [a] ∧ H a = some (.lst vs) ∧ RDs G A H xs vs := by
  obtain ⟨l, h, f⟩ := r
  obtain ⟨a, vs, rfl, e1, r1⟩ := s.box n l _ h e
  exact ⟨a, vs, f a [] rfl, h, e1, r1⟩
theorem loc_dct {n : Nat} {ks : List Key} {xs : List Dv} {v : V} (s : StR G A S H) (r : RD G A H (.loc n) v) (e : S[n]? = some (.dct ks xs)) :
    ∃ a kvs, v = .ref a ∧ A.live[n]? = some [a] ∧ H a = some (.dK kvs) ∧ kvs.map (·.1) = ks ∧ RDs G A H xs (kvs.map (·.2)) := by
  obtain ⟨l, h, f⟩ := r
  obtain ⟨a, kvs, rfl, e1, ek, r1⟩ := s.box n l _ h e
  exact ⟨a, kvs, f a [] rfl, h, e1, ek, r1⟩
theorem loc_ins {n c : Nat} {fs : List (Option Dv)} {v : V} (s : StR G A S H) (r : RD G A H (.loc n) v) (e : S[n]? = some (.ins c fs)) :
    ∃ a dx ws, v = .ref a ∧ A.live[n]? = some [a, dx] ∧ dx ≠ a ∧ SlX.Slt H a (G.cls c) dx ws ∧ RF G A H fs ws := by
  obtain ⟨l, h, f⟩ := r
  obtain ⟨a, dx, ws, rfl, e1, r1⟩ := s.box n l _ h e
  refine ⟨a, dx, ws, f a [dx] rfl, h, fun z => ?_, e1, r1⟩
  subst z
  have hn := s.nd
  unfold Al.all at hn
  rw [List.nodup_append] at hn
  have := (nd_flat hn.1).1 _ (List.mem_of_getElem? h)
  simp at this
theorem set_lst {n : Nat} {a : Addr} {xs' : List Dv} {vs' : List V} (s : StR G A S H) (h : A.live[n]? = some [a]) (r : RDs G A H xs' vs') :
    Ext A H A (upd H a (.lst vs')) ∧ StR G A (S.set n (.lst xs')) (upd H a (.lst vs')) := by
  have hk : ∀ c, c ∉ [a] → upd H a (.lst vs') c = H c := fun c hc => upd_ne (by simpa using hc)
  have x : Ext A H A (upd H a (.lst vs')) := Ext.box h hk
  refine ⟨x, s.setBox h hk (fun c hc => ?_) ⟨a, vs', rfl, upd_same, r.kp x.kp⟩⟩
  simp at hc
  rw [hc]
  exact ⟨_, upd_same⟩
theorem set_dct {n : Nat} {a : Addr} {ks' : List Key} {xs' : List Dv} {kvs' : List (Key × V)} (s : StR G A S H) (h : A.live[n]? = some [a]) (ek : kvs'.map (·.1) = ks') (r : RDs G A H xs' (kvs'.map (·.2))) :
    Ext A H A (upd H a (.dK kvs')) ∧ StR G A (S.set n (.dct ks' xs')) (upd H a (.dK kvs')) := by
  have hk : ∀ c, c ∉ [a] → upd H a (.dK kvs') c = H c := fun c hc => upd_ne (by simpa using hc)
  have x : Ext A H A (upd H a (.dK kvs')) := Ext.box h hk
  refine ⟨x, s.setBox h hk (fun c hc => ?_) ⟨a, kvs', rfl, upd_same, ek, r.kp x.kp⟩⟩
  simp at hc
  rw [hc]
  exact ⟨_, upd_same⟩
theorem set_ins {n c : Nat} {a dx : Addr} {fs' : List (Option Dv)} {ws' : List (Option V)} (s : StR G A S H) (h : A.live[n]? = some [a, dx]) (ne : dx ≠ a) (r : RF G A H fs' ws') :
    Ext A H A (SlX.slH H a (G.cls c) dx ws') ∧ StR G A (S.set n (.ins c fs')) (SlX.slH H a (G.cls c) dx ws') := by
  have hk : ∀ b, b ∉ [a, dx] → SlX.slH H a (G.cls c) dx ws' b = H b := fun b hb => by
    simp at hb
    exact SlX.slH_ne hb.1 hb.2
  have x : Ext A H A (SlX.slH H a (G.cls c) dx ws') := Ext.box h hk
  refine ⟨x, s.setBox h hk (fun b hb => ?_) ⟨a, dx, ws', rfl, SlX.slH_slt ne, r.kp x.kp⟩⟩
  simp at hb
  unfold SlX.slH
  rcases hb with rfl | rfl
  · exact ⟨_, upd_same⟩
  · rw [upd_ne ne, upd_same]
    exact ⟨_, rfl⟩
end
end Sm
/-! Sm2: results, readings by mirrors, expressions, tests, arguments. -/
namespace Sm
open PySem PySem.Spec PyProof.Rows L2

inductive Rz (α : Type) where
  | ok (a : α) (S : Sto) | er (c : Nat) (t : Dt) (S : Sto) | bad
def Rz.bind {α β : Type} (r : Rz α) (f : α → Sto → Rz β) : Rz β := match r with
  | .ok a S => f a S
  | .er c t S => .er c t S
  | .bad => .bad
abbrev M (α : Type) := Env → Sto → Rz α
@[simp] theorem bind_ok {α β : Type} {a : α} {S : Sto} {f : α → Sto → Rz β} : (Rz.ok a S).bind f = f a S := rfl
@[simp] theorem bind_bad {α β : Type} {f : α → Sto → Rz β} : (Rz.bad : Rz α).bind f = .bad := rfl
@[simp] theorem bind_er {α β : Type} {c : Nat} {t : Dt} {S : Sto} {f : α → Sto → Rz β} : (Rz.er c t S : Rz α).bind f = .er c t S := rfl

/-- an exception as it lies: its class, its own dict -/
def ExR (G : Gs) (A : Al) (H : Hp) (c : Nat) (t : Dt) (cls : Value) (d : Option Addr) : Prop :=
  cls = G.exc c ∧ ((G.fld c = none ∧ t = .non ∧ d = none) ∨ ∃ a f v, G.fld c = some f ∧ d = some a ∧ a ∉ A.all ∧ H a = some (.xd [(f, v)]) ∧ RV G A H t v)
def Po {α : Type} (G : Gs) (E : XK) (A : Al) (H : Hp) (r : Rz α) (k : Al → Hp → α → Prop) : Prop := match r with
  | .ok a S' => ∀ A' H', Ext A H A' H' → StR G A' S' H' → k A' H' a
  | .er c t S' => ∀ A' H' cls d, Ext A H A' H' → StR G A' S' H' → ExR G A' H' c t cls d → E cls d H'
  | .bad => False
section
variable {G : Gs} {E : XK} {A A' A1 : Al} {H H' H1 : Hp} {S S' S1 : Sto}
theorem Po.mono {α : Type} {r : Rz α} {k : Al → Hp → α → Prop} (x : Ext A H A1 H1) (h : Po G E A H r k) : Po G E A1 H1 r k := by
  cases r with
  | ok a S => exact fun A' H' y s => h A' H' (x.trans y) s
  | er c t S => exact fun A' H' cls d y s e => h A' H' cls d (x.trans y) s e
  | bad => exact h
theorem Po.imp {α : Type} {r : Rz α} {k k' : Al → Hp → α → Prop} (h : Po G E A H r k) (f : ∀ a S' A' H', r = .ok a S' → Ext A H A' H' → StR G A' S' H' → k A' H' a → k' A' H' a) : Po G E A H r k' := by
  cases r with
  | ok a S => exact fun A' H' y s => f a S A' H' rfl y s (h A' H' y s)
  | er c t S => exact h
  | bad => exact h
/-- one step, then the rest -/
theorem Po.step {α β : Type} {r : Rz α} {f : α → Sto → Rz β} {k : Al → Hp → β → Prop} {k' : Al → Hp → α → Prop} (h : Po G E A H (r.bind f) k)
    (q : ∀ a S1 A1 H1, Ext A H A1 H1 → StR G A1 S1 H1 → Po G E A1 H1 (f a S1) k → k' A1 H1 a) : Po G E A H r k' := by
  cases r with
  | ok a S => exact fun A' H' y s => q a S A' H' y s (Po.mono y h)
  | er c t S => exact h
  | bad => exact h
theorem Po.now {α : Type} {a : α} {k : Al → Hp → α → Prop} (h : Po G E A H (.ok a S) k) (s : StR G A S H) : k A H a := h A H .refl s
theorem Po.at {α : Type} {a : α} {k : Al → Hp → α → Prop} (h : Po G E A H (.ok a S1) k) (x : Ext A H A1 H1) (s : StR G A1 S1 H1) : k A1 H1 a := h A1 H1 x s
end

/-! ### readings by mirrors -/
abbrev kD (G : Gs) (Q : VK) : Al → Hp → Dv → Prop := fun A' H' d => ∀ v, RD G A' H' d v → Q v H'
/-- the wish at these slots -/
abbrev Wa (W : WX) (σ : L2.St) : XK := fun c d H => W c d σ H
def tM (G : Gs) (W : WX) (m : M Dv) : TE := fun σ H Q => ∃ A ρ S, EnvR G A H ρ σ ∧ StR G A S H ∧ Po G (Wa W σ) A H (m ρ S) (kD G Q)
def tMT (G : Gs) (W : WX) (m : M Bool) : TT := fun σ H Q => ∃ A ρ S, EnvR G A H ρ σ ∧ StR G A S H ∧ Po G (Wa W σ) A H (m ρ S) fun _ H' b => Q b H'
def tMA (G : Gs) (W : WX) (m : M (List Dv)) : TA := fun σ H Q => ∃ A ρ S, EnvR G A H ρ σ ∧ StR G A S H ∧ Po G (Wa W σ) A H (m ρ S) fun A' H' ds => ∀ vs, RDs G A' H' ds vs → Q vs H'
/-- a step that raises nothing -/
abbrev Pz (α : Type) := Option (α × Sto)
def lift {α : Type} : Pz α → Rz α
  | some (a, S) => .ok a S
  | none => .bad
@[simp] theorem lift_some {α : Type} {a : α} {S : Sto} : lift (some (a, S)) = .ok a S := rfl
@[simp] theorem lift_none {α : Type} : lift (none : Pz α) = .bad := rfl
theorem Po.lift {α : Type} {G : Gs} {E E' : XK} {A : Al} {H : Hp} {o : Pz α} {k : Al → Hp → α → Prop} (h : Po G E A H (lift o) k) : Po G E' A H (Sm.lift o) k := by
  cases o with
  | none => exact h
  | some p => exact h
abbrev P1 := Dv → Sto → Pz Dv
abbrev P2 := Dv → Dv → Sto → Pz Dv
abbrev PN := List Dv → Sto → Pz Dv
abbrev PT1 := Dv → Sto → Option Bool
/-- no exception -/
abbrev Ez : XK := fun _ _ _ => False
def q1 (G : Gs) (p : P1) : V → Hp → VK → Prop := fun x H Q => ∃ A S d, RD G A H d x ∧ StR G A S H ∧ Po G Ez A H (lift (p d S)) (kD G Q)
def q2 (G : Gs) (p : P2) : R2 := fun x y H Q => ∃ A S d e, RD G A H d x ∧ RD G A H e y ∧ StR G A S H ∧ Po G Ez A H (lift (p d e S)) (kD G Q)
def qN (G : Gs) (p : PN) : List V → Hp → VK → Prop := fun xs H Q => ∃ A S ds, RDs G A H ds xs ∧ StR G A S H ∧ Po G Ez A H (lift (p ds S)) (kD G Q)
def li {α : Type} (o : Option α) (S : Sto) : Rz α := match o with
  | some a => .ok a S
  | none => .bad
@[simp] theorem li_some {α : Type} {a : α} {S : Sto} : li (some a) S = .ok a S := rfl
@[simp] theorem li_none {α : Type} {S : Sto} : li (none : Option α) S = .bad := rfl

/-! ### the mirrors' combinators -/
def mV (i : Nat) : M Dv := fun ρ S => match ρ[i]? with
  | some (some d) => .ok d S
  | _ => .bad
def mC (t : Dt) : M Dv := fun _ S => .ok (.d t) S
def m1 (p : P1) (a : M Dv) : M Dv := fun ρ S => (a ρ S).bind fun x S1 => lift (p x S1)
def m2 (p : P2) (a b : M Dv) : M Dv := fun ρ S => (a ρ S).bind fun x S1 => (b ρ S1).bind fun y S2 => lift (p x y S2)
def mN (p : PN) (a : M (List Dv)) : M Dv := fun ρ S => (a ρ S).bind fun xs S1 => lift (p xs S1)
def aNil : M (List Dv) := fun _ S => .ok [] S
def aCons (a : M Dv) (r : M (List Dv)) : M (List Dv) := fun ρ S => (a ρ S).bind fun x S1 => (r ρ S1).bind fun xs S2 => .ok (x :: xs) S2
def toB (d : Dv) : Option Bool := match d with
  | .d (.bl b) => some b
  | _ => none
def mTst (a : M Dv) : M Bool := fun ρ S => (a ρ S).bind fun d S1 => li (toB d) S1
def mTru (p : PT1) (a : M Dv) : M Bool := fun ρ S => (a ρ S).bind fun d S1 => li (p d S1) S1
def cAnd (a b : M Bool) : M Bool := fun ρ S => (a ρ S).bind fun c S1 => if c = true then b ρ S1 else .ok false S1
def cOr (a b : M Bool) : M Bool := fun ρ S => (a ρ S).bind fun c S1 => if c = true then .ok true S1 else b ρ S1
def cNot (a : M Bool) : M Bool := fun ρ S => (a ρ S).bind fun c S1 => .ok (!c) S1
def mIf (c : M Bool) (a b : M Dv) : M Dv := fun ρ S => (c ρ S).bind fun k S1 => if k = true then a ρ S1 else b ρ S1
def mAnd (a b : M Dv) : M Dv := fun ρ S => (a ρ S).bind fun x S1 => (li (toB x) S1).bind fun c S2 => if c = true then b ρ S2 else .ok (.d (.bl false)) S2
def mOr (a b : M Dv) : M Dv := fun ρ S => (a ρ S).bind fun x S1 => (li (toB x) S1).bind fun c S2 => if c = true then .ok (.d (.bl true)) S2 else b ρ S2
def mNot (a : M Dv) : M Dv := fun ρ S => (a ρ S).bind fun x S1 => (li (toB x) S1).bind fun c S2 => .ok (.d (.bl (!c))) S2
def mOrT (p : PT1) (a b : M Dv) : M Dv := fun ρ S => (a ρ S).bind fun x S1 => (li (p x S1) S1).bind fun c S2 => if c = true then .ok x S2 else b ρ S2
def mNotT (p : PT1) (a : M Dv) : M Dv := fun ρ S => (a ρ S).bind fun x S1 => (li (p x S1) S1).bind fun c S2 => .ok (.d (.bl (!c))) S2

theorem _root_.L2.PE.sm {X : Cx} {e : Expr} {t t' : TE} (h : PE X e t) (f : ∀ σ H Q, t' σ H Q → t σ H Q) : PE X e t' := ⟨fun pins s σ H Q I q => h.run pins s σ H Q I (f σ H Q q)⟩
theorem _root_.L2.PT.sm {X : Cx} {e : Expr} {t t' : TT} (h : PT X e t) (f : ∀ σ H Q, t' σ H Q → t σ H Q) : PT X e t' := ⟨fun pins s σ H Q I q => h.run pins s σ H Q I (f σ H Q q)⟩
theorem _root_.L2.PW.sm {X : Cx} {e : Expr} {t t' : TT} (h : PW X e t) (f : ∀ σ H Q, t' σ H Q → t σ H Q) : PW X e t' := ⟨fun wh pins s σ H Q I q => h.run wh pins s σ H Q I (f σ H Q q)⟩
theorem _root_.L2.PA.sm {X : Cx} {e : List Expr} {t t' : TA} (h : PA X e t) (f : ∀ σ H Q, t' σ H Q → t σ H Q) : PA X e t' := ⟨fun pos pins s σ H Q I q => h.run pos pins s σ H Q I (f σ H Q q)⟩
theorem _root_.L2.OpR.sm {X : Cx} {f : Value → Value → Sem Value} {r r' : R2} (h : OpR X f r) (k : ∀ x y H Q, r' x y H Q → r x y H Q) : OpR X f r' :=
  fun pins s σ H x y v u Q I rx ry q => h pins s σ H x y v u Q I rx ry (k x y H Q q)
theorem _root_.L2.UnR.sm {X : Cx} {f : Value → Sem Value} {r r' : V → Hp → VK → Prop} (h : UnR X f r) (k : ∀ x H Q, r' x H Q → r x H Q) : UnR X f r' :=
  fun pins s σ H x v Q I rx q => h pins s σ H x v Q I rx (k x H Q q)
theorem _root_.L2.CallR.sm {X : Cx} {f : Value} {r r' : List V → Hp → VK → Prop} (h : CallR X f r) (k : ∀ x H Q, r' x H Q → r x H Q) : CallR X f r' :=
  fun pins s σ H x v Q I rx q => h pins s σ H x v Q I rx (k x H Q q)
theorem _root_.L2.IxR.sm {X : Cx} {r r' : R2} (h : IxR X r) (k : ∀ x y H Q, r' x y H Q → r x y H Q) : IxR X r' :=
  fun a b pins s σ H x y v u Q I rx ry q => h a b pins s σ H x y v u Q I rx ry (k x y H Q q)
theorem _root_.L2.MtR.sm {X : Cx} {id : String} {r r' : V → List V → Hp → VK → Prop} (h : MtR X id r) (k : ∀ x xs H Q, r' x xs H Q → r x xs H Q) : MtR X id r' :=
  fun pins s σ H x xs v us Q I rx rxs q => h pins s σ H x xs v us Q I rx rxs (k x xs H Q q)
/-- two rules for one operation, chosen by values and heap -/
theorem orr {X : Cx} {f : Value → Value → Sem Value} {r r' : R2} (h : OpR X f r) (h' : OpR X f r') : OpR X f (fun x y H Q => r x y H Q ∨ r' x y H Q) := OpR.or h h'

section
variable {X : Cx} {G : Gs} {E : XK} {W : WX} {a b c e : Expr} {es : List Expr} {pos : Pos} {ma mb : M Dv} {ca cb : M Bool}
theorem e_var {i : Nat} {x : Str} (hN : X.N[i]? = some x) (hv : Vis X.env.scope x) (hd : (x == ("__debug__" : Str)) = false) (hcd : (x == ("__classdict__" : Str)) = false) : PE X (.Name x pos) (tM G W (mV i)) := by
  refine (pe_var hN hv hd hcd).sm fun σ H Q h => ?_
  obtain ⟨A, ρ, S, he, hs, p⟩ := h
  unfold mV at p
  cases e1 : ρ[i]? with
  | none =>
    rw [e1] at p
    exact p.elim
  | some o =>
    cases o with
    | none =>
      rw [e1] at p
      exact p.elim
    | some d =>
      rw [e1] at p
      obtain ⟨v, e2, r⟩ := he.at_ i d e1
      exact ⟨v, e2, Po.now p hs v r⟩
/-- a value that leans on nothing -/
theorem e_of {t : Dt} {v : V} (h : PE X e (tC v)) (r : ∀ A H, RV G A H t v) : PE X e (tM G W (mC t)) := by
  refine h.sm fun σ H Q h => ?_
  obtain ⟨A, ρ, S, he, hs, p⟩ := h
  exact Po.now p hs v (r A H)
theorem e_int {i : Int} {j : Nat} : PE X (.Constant (.int i) j pos) (tM G W (mC (.int i))) := e_of pe_int fun _ _ => rfl
theorem e_bl {b : Bool} {j : Nat} : PE X (.Constant (.bool b) j pos) (tM G W (mC (.bl b))) := e_of pe_bl fun _ _ => rfl
theorem e_non {j : Nat} : PE X (.Constant .none j pos) (tM G W (mC .non)) := e_of pe_non fun _ _ => rfl
theorem e_str {x : Str} {j : Nat} : PE X (.Constant (.str x) j pos) (tM G W (mC (.str x))) := e_of pe_str fun _ _ => rfl
theorem then2 {σ : L2.St} {H : Hp} {ta tb : TE} {p : P2} {Q : VK} {r : R2} (ha : ta = tM G W ma) (hb : tb = tM G W mb) (h : tM G W (m2 p ma mb) σ H Q) (hr : ∀ x y H, q2 G p x y H Q → r x y H Q) :
    ta σ H fun x H1 => tb σ H1 fun y H2 => r x y H2 Q := by
  subst ha hb
  obtain ⟨A, ρ, S, he, hs, p0⟩ := h
  refine ⟨A, ρ, S, he, hs, Po.step p0 fun d S1 A1 H1 x1 s1 p1 v rv => ?_⟩
  refine ⟨A1, ρ, S1, he.kp x1.kp, s1, Po.step p1 fun d2 S2 A2 H2 x2 s2 p2 v2 rv2 => ?_⟩
  exact hr v v2 H2 ⟨A2, S2, d, d2, rv.kp x2.kp, rv2, s2, Po.lift p2⟩
theorem e_op {op : Operator} {p : P2} (ho : OpR X (binaryOp op) (q2 G p)) (ha : PE X a (tM G W ma)) (hb : PE X b (tM G W mb)) : PE X (.BinOp a op b pos) (tM G W (m2 p ma mb)) :=
  (pe_op ho ha hb).sm fun _ _ _ h => then2 rfl rfl h fun _ _ _ q => q
theorem e_cmp {op : CmpOp} {p : P2} (ho : OpR X (compareOp op) (q2 G p)) (ha : PE X a (tM G W ma)) (hb : PE X b (tM G W mb)) (hm : behindInMarks op b = false) : PE X (.Compare a [op] [b] pos) (tM G W (m2 p ma mb)) :=
  (pe_cmpR ho ha hb hm).sm fun _ _ _ h => then2 rfl rfl h fun _ _ _ q => q
theorem toB_po {d : Dv} {S : Sto} {A : Al} {H : Hp} {v : V} {k : Al → Hp → Bool → Prop} (h : Po G E A H (li (toB d) S) k) (s : StR G A S H) (r : RD G A H d v) : ∃ b, v = .bl b ∧ k A H b := by
  cases d with
  | loc n => exact h.elim
  | d t =>
    cases t with
    | bl b => exact ⟨b, r, Po.now h s⟩
    | _ => exact h.elim
theorem c_cmp {op : CmpOp} {p : P2} (ho : OpR X (compareOp op) (q2 G p)) (ha : PE X a (tM G W ma)) (hb : PE X b (tM G W mb)) (hm : behindInMarks op b = false) : PT X (.Compare a [op] [b] pos) (tMT G W (mTst (m2 p ma mb))) := by
  refine (pt_cmpR ho ha hb hm).sm fun σ H Q h => ?_
  obtain ⟨A, ρ, S, he, hs, p0⟩ := h
  refine then2 (Q := fun x H' => ∃ k, x = .bl k ∧ Q k H') rfl rfl ⟨A, ρ, S, he, hs, Po.step p0 fun d S1 A1 H1 x1 s1 p1 v rv => ?_⟩ fun _ _ _ q => q
  exact toB_po p1 s1 rv
theorem c_val (ha : PE X a (tM G W ma)) (he : ∀ whole, isTrue a X.env whole = (do let v ← whole; standAt a.pos; holding [v] (truthy v))) : PT X a (tMT G W (mTst ma)) := by
  refine (pt_val ha he).sm fun σ H Q h => ?_
  obtain ⟨A, ρ, S, he, hs, p0⟩ := h
  exact ⟨A, ρ, S, he, hs, Po.step p0 fun d S1 A1 H1 x1 s1 p1 v rv => toB_po p1 s1 rv⟩
/-- a value's truth -/
def TruS (G : Gs) (p : PT1) : Prop := ∀ (A : Al) (S : Sto) (H : Hp) (d : Dv) (v : V) (b : Bool), RD G A H d v → StR G A S H → p d S = some b → TruV G.K v H b
theorem c_tru {p : PT1} (hp : TruS G p) (hK : G.K = X.K) (ha : PE X a (tM G W ma)) (he : ∀ whole, isTrue a X.env whole = (do let v ← whole; standAt a.pos; holding [v] (truthy v))) : PT X a (tMT G W (mTru p ma)) := by
  refine (pt_truth ha he).sm fun σ H Q h => ?_
  obtain ⟨A, ρ, S, he, hs, p0⟩ := h
  refine ⟨A, ρ, S, he, hs, Po.step p0 fun d S1 A1 H1 x1 s1 p1 v rv => ?_⟩
  rw [← hK]
  cases e1 : p d S1 with
  | none =>
    rw [e1] at p1
    exact p1.elim
  | some b =>
    rw [e1] at p1
    exact ⟨b, hp A1 S1 H1 d v b rv s1 e1, Po.now p1 s1⟩
theorem w_and1 (ha : PT X a (tMT G W ca)) : PW X (.BoolOp .And [a] pos) (tMT G W ca) := pw_and1 ha
theorem w_or1 (ha : PT X a (tMT G W ca)) : PW X (.BoolOp .Or [a] pos) (tMT G W ca) := pw_or1 ha
theorem w_and (ha : PT X a (tMT G W ca)) (hb : PW X (.BoolOp .And (b :: es) pos) (tMT G W cb)) : PW X (.BoolOp .And (a :: b :: es) pos) (tMT G W (cAnd ca cb)) := by
  refine (pw_and ha hb).sm fun σ H Q h => ?_
  obtain ⟨A, ρ, S, he, hs, p0⟩ := h
  refine ⟨A, ρ, S, he, hs, Po.step p0 fun c S1 A1 H1 x1 s1 p1 => ?_⟩
  cases c with
  | true => exact ⟨A1, ρ, S1, he.kp x1.kp, s1, p1⟩
  | false => exact Po.now p1 s1
theorem w_or (ha : PT X a (tMT G W ca)) (hb : PW X (.BoolOp .Or (b :: es) pos) (tMT G W cb)) : PW X (.BoolOp .Or (a :: b :: es) pos) (tMT G W (cOr ca cb)) := by
  refine (pw_or ha hb).sm fun σ H Q h => ?_
  obtain ⟨A, ρ, S, he, hs, p0⟩ := h
  refine ⟨A, ρ, S, he, hs, Po.step p0 fun c S1 A1 H1 x1 s1 p1 => ?_⟩
  cases c with
  | true => exact Po.now p1 s1
  | false => exact ⟨A1, ρ, S1, he.kp x1.kp, s1, p1⟩
theorem c_not (ha : PT X a (tMT G W ca)) : PT X (.UnaryOp .Not a pos) (tMT G W (cNot ca)) := by
  refine (pt_not ha).sm fun σ H Q h => ?_
  obtain ⟨A, ρ, S, he, hs, p0⟩ := h
  exact ⟨A, ρ, S, he, hs, Po.step p0 fun c S1 A1 H1 x1 s1 p1 => Po.now p1 s1⟩
theorem e_if (hc : PT X c (tMT G W ca)) (ha : PE X a (tM G W ma)) (hb : PE X b (tM G W mb)) : PE X (.IfExp c a b pos) (tM G W (mIf ca ma mb)) := by
  refine (pe_ifExp hc ha hb).sm fun σ H Q h => ?_
  obtain ⟨A, ρ, S, he, hs, p0⟩ := h
  refine ⟨A, ρ, S, he, hs, Po.step p0 fun c S1 A1 H1 x1 s1 p1 => ?_⟩
  cases c with
  | true => exact ⟨A1, ρ, S1, he.kp x1.kp, s1, p1⟩
  | false => exact ⟨A1, ρ, S1, he.kp x1.kp, s1, p1⟩
theorem e_one {op : BoolOp} {t : TE} (h : PE X a t) : PE X (.BoolOp op [a] pos) t := pe_one h
theorem e_and (ha : PE X a (tM G W ma)) (hb : PE X (.BoolOp .And (b :: es) pos) (tM G W mb)) : PE X (.BoolOp .And (a :: b :: es) pos) (tM G W (mAnd ma mb)) := by
  refine (pe_and ha hb).sm fun σ H Q h => ?_
  obtain ⟨A, ρ, S, he, hs, p0⟩ := h
  refine ⟨A, ρ, S, he, hs, Po.step p0 fun d S1 A1 H1 x1 s1 p1 v rv => ?_⟩
  cases d with
  | loc n => exact p1.elim
  | d t =>
    cases t with
    | bl b =>
      refine ⟨b, rv, ?_⟩
      cases b with
      | true => exact ⟨A1, ρ, S1, he.kp x1.kp, s1, p1⟩
      | false => exact Po.now p1 s1 _ rfl
    | _ => exact p1.elim
theorem e_or (ha : PE X a (tM G W ma)) (hb : PE X (.BoolOp .Or (b :: es) pos) (tM G W mb)) : PE X (.BoolOp .Or (a :: b :: es) pos) (tM G W (mOr ma mb)) := by
  refine (pe_or ha hb).sm fun σ H Q h => ?_
  obtain ⟨A, ρ, S, he, hs, p0⟩ := h
  refine ⟨A, ρ, S, he, hs, Po.step p0 fun d S1 A1 H1 x1 s1 p1 v rv => ?_⟩
  cases d with
  | loc n => exact p1.elim
  | d t =>
    cases t with
    | bl b =>
      refine ⟨b, rv, ?_⟩
      cases b with
      | true => exact Po.now p1 s1 _ rfl
      | false => exact ⟨A1, ρ, S1, he.kp x1.kp, s1, p1⟩
    | _ => exact p1.elim
theorem e_not (ha : PE X a (tM G W ma)) : PE X (.UnaryOp .Not a pos) (tM G W (mNot ma)) := by
  refine (pe_not ha).sm fun σ H Q h => ?_
  obtain ⟨A, ρ, S, he, hs, p0⟩ := h
  refine ⟨A, ρ, S, he, hs, Po.step p0 fun d S1 A1 H1 x1 s1 p1 v rv => ?_⟩
  cases d with
  | loc n => exact p1.elim
  | d t =>
    cases t with
    | bl b => exact ⟨b, rv, Po.now p1 s1 _ rfl⟩
    | _ => exact p1.elim
theorem e_orT {p : PT1} (hp : TruS G p) (hK : G.K = X.K) (ha : PE X a (tM G W ma)) (hb : PE X (.BoolOp .Or (b :: es) pos) (tM G W mb)) : PE X (.BoolOp .Or (a :: b :: es) pos) (tM G W (mOrT p ma mb)) := by
  refine (pe_orT ha hb).sm fun σ H Q h => ?_
  obtain ⟨A, ρ, S, he, hs, p0⟩ := h
  refine ⟨A, ρ, S, he, hs, Po.step p0 fun d S1 A1 H1 x1 s1 p1 v rv => ?_⟩
  rw [← hK]
  cases e1 : p d S1 with
  | none =>
    rw [e1] at p1
    exact p1.elim
  | some k =>
    rw [e1] at p1
    refine ⟨k, hp A1 S1 H1 d v k rv s1 e1, ?_⟩
    cases k with
    | true => exact Po.now p1 s1 v rv
    | false => exact ⟨A1, ρ, S1, he.kp x1.kp, s1, p1⟩
theorem e_notT {p : PT1} (hp : TruS G p) (hK : G.K = X.K) (ha : PE X a (tM G W ma)) : PE X (.UnaryOp .Not a pos) (tM G W (mNotT p ma)) := by
  refine (pe_notT ha).sm fun σ H Q h => ?_
  obtain ⟨A, ρ, S, he, hs, p0⟩ := h
  refine ⟨A, ρ, S, he, hs, Po.step p0 fun d S1 A1 H1 x1 s1 p1 v rv => ?_⟩
  rw [← hK]
  cases e1 : p d S1 with
  | none =>
    rw [e1] at p1
    exact p1.elim
  | some k =>
    rw [e1] at p1
    exact ⟨k, hp A1 S1 H1 d v k rv s1 e1, Po.now p1 s1 _ rfl⟩
theorem a_nil : PA X [] (tMA G W aNil) := by
  refine pa_nil.sm fun σ H Q h => ?_
  obtain ⟨A, ρ, S, he, hs, p0⟩ := h
  exact Po.now p0 hs [] .nil
theorem a_cons {mr : M (List Dv)} (ha : PE X e (tM G W ma)) (hr : PA X es (tMA G W mr)) (hs : starEach (e :: es) X.env = (false, eval e X.env) :: starEach es X.env) : PA X (e :: es) (tMA G W (aCons ma mr)) := by
  refine (pa_cons ha hr hs).sm fun σ H Q h => ?_
  obtain ⟨A, ρ, S, he, hs, p0⟩ := h
  refine ⟨A, ρ, S, he, hs, Po.step p0 fun d S1 A1 H1 x1 s1 p1 v rv => ?_⟩
  refine ⟨A1, ρ, S1, he.kp x1.kp, s1, Po.step p1 fun ds S2 A2 H2 x2 s2 p2 vs rvs => ?_⟩
  exact Po.now p2 s2 _ (.cons (rv.kp x2.kp) rvs)
theorem e_callB {x : Str} {p' : Pos} {p : PN} {id : String} {ma : M (List Dv)} (hc : CallR X (.builtin id) (qN G p)) (hg : Gl X x) (hm : X.mg x = none) (hv : bootBuiltins x = some (.builtin id)) (ha : PA X (e :: es) (tMA G W ma)) (hn : x ≠ "__name__") (hdb : (x == ("__debug__" : Str)) = false)
    (he : starEach (e :: es) X.env = (false, eval e X.env) :: starEach es X.env) (hpl : (backTo pos (starEach es X.env)).any (·.1) = false) : PE X (.Call (.Name x p') (e :: es) [] pos) (tM G W (mN p ma)) := by
  refine (pe_callB hc hg hm hv ha hn hdb he hpl).sm fun σ H Q h => ?_
  obtain ⟨A, ρ, S, he, hs, p0⟩ := h
  exact ⟨A, ρ, S, he, hs, Po.step p0 fun ds S1 A1 H1 x1 s1 p1 vs rvs => ⟨A1, S1, ds, rvs, s1, Po.lift p1⟩⟩
theorem e_callT {x : Str} {p' : Pos} {p : PN} {T : String} {ma : M (List Dv)} (hc : CallR X (.type T) (qN G p)) (hg : Gl X x) (hm : X.mg x = none) (hv : bootBuiltins x = some (.type T)) (ha : PA X (e :: es) (tMA G W ma)) (hn : x ≠ "__name__") (hdb : (x == ("__debug__" : Str)) = false)
    (he : starEach (e :: es) X.env = (false, eval e X.env) :: starEach es X.env) (hpl : (backTo pos (starEach es X.env)).any (·.1) = false) : PE X (.Call (.Name x p') (e :: es) [] pos) (tM G W (mN p ma)) := by
  refine (pe_callTy hc hg hm hv ha hn hdb he hpl).sm fun σ H Q h => ?_
  obtain ⟨A, ρ, S, he, hs, p0⟩ := h
  exact ⟨A, ρ, S, he, hs, Po.step p0 fun ds S1 A1 H1 x1 s1 p1 vs rvs => ⟨A1, S1, ds, rvs, s1, Po.lift p1⟩⟩
theorem e_un {op : UnaryOp} {p : P1} (ho : UnR X (unaryOp op) (q1 G p)) (ha : PE X a (tM G W ma)) : PE X (.UnaryOp op a pos) (tM G W (m1 p ma)) := by
  refine (pe_un ho ha).sm fun σ H Q h => ?_
  obtain ⟨A, ρ, S, he, hs, p0⟩ := h
  exact ⟨A, ρ, S, he, hs, Po.step p0 fun d S1 A1 H1 x1 s1 p1 v rv => ⟨A1, S1, d, rv, s1, Po.lift p1⟩⟩
theorem e_ix {p : P2} (hr : IxR X (q2 G p)) (ha : PE X a (tM G W ma)) (hb : PE X b (tM G W mb)) (hs : PlainIx b) : PE X (.Subscript a b pos) (tM G W (m2 p ma mb)) :=
  (pe_ix hr ha hb hs).sm fun _ _ _ h => then2 rfl rfl h fun _ _ _ q => q
/-- displays -/
def pures : List Dv → Option (List Dt)
  | [] => some []
  | .d t :: r => (pures r).map (t :: ·)
  | .loc _ :: _ => none
def fewer (n : Nat) : Bool := decide (n ≤ 16777216)
theorem line_of {n : Nat} (h : n ≤ 16777216) : n ≤ sizeLine := by rw [sizeLine_eq]; exact h
def pTup : PN := fun ds S => match pures ds with
  | some ts => if ts.length ≤ 16777216 then some (.d (.tup ts), S) else none
  | none => none
def pLst : PN := fun ds S => match pures ds with
  | some ts => if ts.length ≤ 16777216 then some (.d (.lst ts), S) else none
  | none => none
def pLstB : PN := fun ds S => if ds.length ≤ 16777216 then some (.loc S.length, S ++ [.lst ds]) else none
theorem pures_rvs {A : Al} {H : Hp} : ∀ {ds : List Dv} {ts : List Dt} {vs : List V}, pures ds = some ts → RDs G A H ds vs → RVs G A H ts vs
  | [], ts, vs, e, r => by
    cases e
    cases r
    exact (rfl : ([] : List V) = [])
  | .d t :: ds, ts, vs, e, r => by
    unfold pures at e
    cases e1 : pures ds with
    | none =>
      rw [e1] at e
      cases e
    | some us =>
      rw [e1] at e
      cases e
      cases r with
      | cons r1 r2 => exact ⟨_, _, rfl, r1, pures_rvs e1 r2⟩
  | .loc n :: ds, ts, vs, e, r => by
    cases e
theorem tup_po {A : Al} {S : Sto} {H : Hp} {ds : List Dv} {vs : List V} {Q : VK} (s : StR G A S H) (r : RDs G A H ds vs) (p : Po G E A H (lift (pTup ds S)) (kD G Q)) : vs.length ≤ sizeLine ∧ ∀ q, H q = none → Q (.ref q) (upd H q (.tup vs)) := by
  unfold pTup at p
  cases e1 : pures ds with
  | none =>
    rw [e1] at p
    exact p.elim
  | some ts =>
    rw [e1] at p
    have r1 := pures_rvs e1 r
    by_cases hl : ts.length ≤ 16777216
    · simp only [hl, if_true] at p
      refine ⟨by rw [← r1.length]; exact line_of hl, fun q hq => Po.at p (Ext.new hq) (s.new hq) _ (RV.tup_new s hq r1)⟩
    · simp only [hl, if_false] at p
      exact p.elim
theorem lst_po {A : Al} {S : Sto} {H : Hp} {ds : List Dv} {vs : List V} {Q : VK} (s : StR G A S H) (r : RDs G A H ds vs) (p : Po G E A H (lift (pLst ds S)) (kD G Q)) : vs.length ≤ sizeLine ∧ ∀ q, H q = none → Q (.ref q) (upd H q (.lst vs)) := by
  unfold pLst at p
  cases e1 : pures ds with
  | none =>
    rw [e1] at p
    exact p.elim
  | some ts =>
    rw [e1] at p
    have r1 := pures_rvs e1 r
    by_cases hl : ts.length ≤ 16777216
    · simp only [hl, if_true] at p
      refine ⟨by rw [← r1.length]; exact line_of hl, fun q hq => Po.at p (Ext.new hq) (s.new hq) _ (RV.lst_new s hq r1)⟩
    · simp only [hl, if_false] at p
      exact p.elim
theorem lstB_po {A : Al} {S : Sto} {H : Hp} {ds : List Dv} {vs : List V} {Q : VK} (s : StR G A S H) (r : RDs G A H ds vs) (p : Po G E A H (lift (pLstB ds S)) (kD G Q)) : vs.length ≤ sizeLine ∧ ∀ q, H q = none → Q (.ref q) (upd H q (.lst vs)) := by
  unfold pLstB at p
  by_cases hl : ds.length ≤ 16777216
  · simp only [hl, if_true] at p
    refine ⟨by rw [← Paired.length r]; exact line_of hl, fun q hq => ?_⟩
    obtain ⟨x1, s1, r1⟩ := box_lst s hq r
    exact Po.at p x1 s1 _ r1
  · simp only [hl, if_false] at p
    exact p.elim
theorem e_tup {k : Nat} {ma : M (List Dv)} (h : PA X es (tMA G W ma)) : PE X (.Tuple es k pos) (tM G W (mN pTup ma)) := by
  refine (pe_tup h).sm fun σ H Q h => ?_
  obtain ⟨A, ρ, S, he, hs, p0⟩ := h
  exact ⟨A, ρ, S, he, hs, Po.step p0 fun ds S1 A1 H1 x1 s1 p1 vs rvs => tup_po s1 rvs p1⟩
theorem e_lst {ma : M (List Dv)} (h : PA X es (tMA G W ma)) : PE X (.List es pos) (tM G W (mN pLst ma)) := by
  refine (pe_lst h).sm fun σ H Q h => ?_
  obtain ⟨A, ρ, S, he, hs, p0⟩ := h
  exact ⟨A, ρ, S, he, hs, Po.step p0 fun ds S1 A1 H1 x1 s1 p1 vs rvs => lst_po s1 rvs p1⟩
theorem e_lstB {ma : M (List Dv)} (h : PA X es (tMA G W ma)) : PE X (.List es pos) (tM G W (mN pLstB ma)) := by
  refine (pe_lst h).sm fun σ H Q h => ?_
  obtain ⟨A, ρ, S, he, hs, p0⟩ := h
  exact ⟨A, ρ, S, he, hs, Po.step p0 fun ds S1 A1 H1 x1 s1 p1 vs rvs => lstB_po s1 rvs p1⟩
end
end Sm
/-! Sm3: statements, targets, loops. -/
namespace Sm
open PySem PySem.Spec PyProof.Rows L2

inductive Sz where
  | nx (ρ : Env) (S : Sto) | rt (d : Dv) (S : Sto) | bk (ρ : Env) (S : Sto) | ct (ρ : Env) (S : Sto) | er (c : Nat) (t : Dt) (ρ : Env) (S : Sto) | bad
abbrev SM := Env → Sto → Sz
/-- an expression's result, then a statement's -/
def Rz.to {α : Type} (r : Rz α) (ρ : Env) (f : α → Sto → Sz) : Sz := match r with
  | .ok a S => f a S
  | .er c t S => .er c t ρ S
  | .bad => .bad
@[simp] theorem to_ok {α : Type} {a : α} {S : Sto} {ρ : Env} {f : α → Sto → Sz} : (Rz.ok a S).to ρ f = f a S := rfl
@[simp] theorem to_bad {α : Type} {ρ : Env} {f : α → Sto → Sz} : (Rz.bad : Rz α).to ρ f = .bad := rfl
@[simp] theorem to_er {α : Type} {c : Nat} {t : Dt} {S : Sto} {ρ : Env} {f : α → Sto → Sz} : (Rz.er c t S : Rz α).to ρ f = .er c t ρ S := rfl

def PoS (G : Gs) (W : WX) (A : Al) (H : Hp) (r : Sz) (D : Ends) : Prop := match r with
  | .nx ρ S => ∀ A' H' σ', Ext A H A' H' → StR G A' S H' → EnvR G A' H' ρ σ' → D.nx σ' H'
  | .rt d S => ∀ A' H' v, Ext A H A' H' → StR G A' S H' → RD G A' H' d v → D.rt v H'
  | .bk ρ S => ∀ A' H' σ', Ext A H A' H' → StR G A' S H' → EnvR G A' H' ρ σ' → D.bk σ' H'
  | .ct ρ S => ∀ A' H' σ', Ext A H A' H' → StR G A' S H' → EnvR G A' H' ρ σ' → D.ct σ' H'
  | .er c t ρ S => ∀ A' H' σ' cls d, Ext A H A' H' → StR G A' S H' → EnvR G A' H' ρ σ' → ExR G A' H' c t cls d → W cls d σ' H'
  | .bad => False
section
variable {G : Gs} {W : WX} {A A' A1 : Al} {H H' H1 : Hp} {S S' S1 : Sto}
theorem PoS.mono {r : Sz} {D : Ends} (x : Ext A H A1 H1) (h : PoS G W A H r D) : PoS G W A1 H1 r D := by
  cases r with
  | nx ρ S => exact fun A' H' σ' y s e => h A' H' σ' (x.trans y) s e
  | rt d S => exact fun A' H' σ' y s e => h A' H' σ' (x.trans y) s e
  | bk ρ S => exact fun A' H' σ' y s e => h A' H' σ' (x.trans y) s e
  | ct ρ S => exact fun A' H' σ' y s e => h A' H' σ' (x.trans y) s e
  | er c t ρ S => exact fun A' H' σ' cls d y s e r => h A' H' σ' cls d (x.trans y) s e r
  | bad => exact h
/-- an expression, then the rest of a statement -/
theorem PoS.step {α : Type} {r : Rz α} {ρ : Env} {σ : L2.St} {f : α → Sto → Sz} {D : Ends} {k' : Al → Hp → α → Prop} (he : EnvR G A H ρ σ) (h : PoS G W A H (r.to ρ f) D)
    (q : ∀ a S1 A1 H1, Ext A H A1 H1 → StR G A1 S1 H1 → EnvR G A1 H1 ρ σ → PoS G W A1 H1 (f a S1) D → k' A1 H1 a) : Po G (Wa W σ) A H r k' := by
  cases r with
  | ok a S => exact fun A' H' y s => q a S A' H' y s (he.kp y.kp) (PoS.mono y h)
  | er c t S => exact fun A' H' cls d y s e => h A' H' σ cls d y s (he.kp y.kp) e
  | bad => exact h
theorem PoS.nx_now {ρ : Env} {σ : L2.St} {D : Ends} (h : PoS G W A H (.nx ρ S) D) (s : StR G A S H) (e : EnvR G A H ρ σ) : D.nx σ H := h A H σ .refl s e
/-- two statements -/
def sqz (r : Sz) (f : Env → Sto → Sz) : Sz := match r with
  | .nx ρ S => f ρ S
  | r => r
theorem PoS.sq {r : Sz} {f : Env → Sto → Sz} {D D' : Ends} (h : PoS G W A H (sqz r f) D) (hr : D'.rt = D.rt) (hb : D'.bk = D.bk) (hc : D'.ct = D.ct)
    (q : ∀ ρ S1 A1 H1 σ1, Ext A H A1 H1 → StR G A1 S1 H1 → EnvR G A1 H1 ρ σ1 → PoS G W A1 H1 (f ρ S1) D → D'.nx σ1 H1) : PoS G W A H r D' := by
  cases r with
  | nx ρ S => exact fun A' H' σ' y s e => q ρ S A' H' σ' y s e (PoS.mono y h)
  | rt d S =>
    show ∀ A' H' v, Ext A H A' H' → StR G A' S H' → RD G A' H' d v → D'.rt v H'
    rw [hr]
    exact h
  | bk ρ S =>
    show ∀ A' H' σ', Ext A H A' H' → StR G A' S H' → EnvR G A' H' ρ σ' → D'.bk σ' H'
    rw [hb]
    exact h
  | ct ρ S =>
    show ∀ A' H' σ', Ext A H A' H' → StR G A' S H' → EnvR G A' H' ρ σ' → D'.ct σ' H'
    rw [hc]
    exact h
  | er c t ρ S => exact h
  | bad => exact h
end
def tMS (G : Gs) (W : WX) (m : SM) : TS := fun D σ H => ∃ A ρ S, EnvR G A H ρ σ ∧ StR G A S H ∧ PoS G W A H (m ρ S) D
theorem _root_.L2.PS.sm {X : Cx} {e : Stmt} {t t' : TS} (h : PS X e t) (f : ∀ D σ H, t' D σ H → t D σ H) : PS X e t' := ⟨fun pins s σ H D I q => h.run pins s σ H D I (f D σ H q)⟩
theorem _root_.L2.PSs.sm {X : Cx} {e : List Stmt} {t t' : TS} (h : PSs X e t) (f : ∀ D σ H, t' D σ H → t D σ H) : PSs X e t' := ⟨fun pins s σ H D I q => h.run pins s σ H D I (f D σ H q)⟩
/-! ### combinators -/
def sNil : SM := fun ρ S => .nx ρ S
def sSeq (a b : SM) : SM := fun ρ S => sqz (a ρ S) b
def sSet (i : Nat) (m : M Dv) : SM := fun ρ S => (m ρ S).to ρ fun d S1 => .nx (ρ.set i (some d)) S1
def sIf (c : M Bool) (a b : SM) : SM := fun ρ S => (c ρ S).to ρ fun k S1 => if k = true then a ρ S1 else b ρ S1
def sRet (m : M Dv) : SM := fun ρ S => (m ρ S).to ρ fun d S1 => .rt d S1
def sRetN : SM := fun ρ S => .rt (.d .non) S
def sDrop (m : M Dv) : SM := fun ρ S => (m ρ S).to ρ fun _ S1 => .nx ρ S1
def sPass : SM := fun ρ S => .nx ρ S
def sBrk : SM := fun ρ S => .bk ρ S
def sCnt : SM := fun ρ S => .ct ρ S
/-- targets: what a piece of data is stored into -/
abbrev GM := Dv → Env → Option Env
def gN (i : Nat) : GM := fun d ρ => some (ρ.set i (some d))
abbrev GMs := List Dt → Env → Option Env
def gsNil : GMs := fun ts ρ => match ts with
  | [] => some ρ
  | _ => none
def gsCons (g : GM) (r : GMs) : GMs := fun ts ρ => match ts with
  | [] => none
  | t :: ts => match g (.d t) ρ with
    | some ρ1 => r ts ρ1
    | none => none
def gT (gs : GMs) : GM := fun d ρ => match d with
  | .d (.tup ts) => gs ts ρ
  | _ => none
def gL (gs : GMs) : GM := fun d ρ => match d with
  | .d (.lst ts) => gs ts ρ
  | _ => none
def oz {α : Type} (o : Option α) (f : α → Sz) : Sz := match o with
  | some a => f a
  | none => .bad
def sAsg (g : GM) (m : M Dv) : SM := fun ρ S => (m ρ S).to ρ fun d S1 => oz (g d ρ) fun ρ1 => .nx ρ1 S1
def forL (g : GM) (b : SM) : List Dt → SM
  | [], ρ, S => .nx ρ S
  | t :: ts, ρ, S => oz (g (.d t) ρ) fun ρ1 => match b ρ1 S with
    | .nx ρ2 S2 => forL g b ts ρ2 S2
    | .ct ρ2 S2 => forL g b ts ρ2 S2
    | .bk ρ2 S2 => .nx ρ2 S2
    | r => r
def sFor (it : M (List Dt)) (g : GM) (b : SM) : SM := fun ρ S => (it ρ S).to ρ fun ts S1 => forL g b ts ρ S1
def whL (c : M Bool) (b : SM) : Nat → SM
  | 0, _, _ => .bad
  | n + 1, ρ, S => (c ρ S).to ρ fun k S1 => if k = true then (match b ρ S1 with
    | .nx ρ2 S2 => whL c b n ρ2 S2
    | .ct ρ2 S2 => whL c b n ρ2 S2
    | .bk ρ2 S2 => .nx ρ2 S2
    | r => r) else .nx ρ S1
/-- at most n turns -/
def sWh (n : Nat) (c : M Bool) (b : SM) : SM := whL c b n

section
variable {X : Cx} {G : Gs} {W : WX} {a b c e : Expr} {es : List Expr} {pos : Pos} {ma mb : M Dv} {ca cb : M Bool} {st : Stmt} {sts : List Stmt} {sa sb : SM}
theorem ss_nil : PSs X [] (tMS G W sNil) := by
  refine pss_nil.sm fun D σ H h => ?_
  obtain ⟨A, ρ, S, he, hs, p⟩ := h
  exact PoS.nx_now p hs he
theorem ss_cons (h1 : PS X st (tMS G W sa)) (h2 : PSs X sts (tMS G W sb)) : PSs X (st :: sts) (tMS G W (sSeq sa sb)) := by
  refine (pss_cons h1 h2).sm fun D σ H h => ?_
  obtain ⟨A, ρ, S, he, hs, p⟩ := h
  exact ⟨A, ρ, S, he, hs, PoS.sq p rfl rfl rfl fun ρ1 S1 A1 H1 σ1 x s e q => ⟨A1, ρ1, S1, e, s, q⟩⟩
theorem ss_one (h1 : PS X st (tMS G W sa)) : PSs X [st] (tMS G W sa) := pss_one h1
theorem s_pass : PS X (.Pass pos) (tMS G W sPass) := by
  refine ps_pass.sm fun D σ H h => ?_
  obtain ⟨A, ρ, S, he, hs, p⟩ := h
  exact PoS.nx_now p hs he
theorem s_brk : PS X (.Break pos) (tMS G W sBrk) := by
  refine ps_break.sm fun D σ H h => ?_
  obtain ⟨A, ρ, S, he, hs, p⟩ := h
  exact p A H σ .refl hs he
theorem s_cnt : PS X (.Continue pos) (tMS G W sCnt) := by
  refine ps_continue.sm fun D σ H h => ?_
  obtain ⟨A, ρ, S, he, hs, p⟩ := h
  exact p A H σ .refl hs he
theorem s_expr (h : PE X e (tM G W ma)) (hs : swapsWith e none pos.line X.env = pure false) : PS X (.Expr e pos) (tMS G W (sDrop ma)) := by
  refine (ps_expr h hs).sm fun D σ H h => ?_
  obtain ⟨A, ρ, S, he, hs, p⟩ := h
  exact ⟨A, ρ, S, he, hs, PoS.step he p fun d S1 A1 H1 x s e q v rv => PoS.nx_now q s e⟩
theorem s_ret (h : PE X e (tM G W ma)) : PS X (.Return (some e) pos) (tMS G W (sRet ma)) := by
  refine (ps_ret h).sm fun D σ H h => ?_
  obtain ⟨A, ρ, S, he, hs, p⟩ := h
  exact ⟨A, ρ, S, he, hs, PoS.step he p fun d S1 A1 H1 x s e q v rv => q A1 H1 v .refl s rv⟩
theorem s_retN : PS X (.Return none pos) (tMS G W sRetN) := by
  refine ps_retN.sm fun D σ H h => ?_
  obtain ⟨A, ρ, S, he, hs, p⟩ := h
  exact p A H .non .refl hs rfl
theorem s_if (hc : PT X c (tMT G W ca)) (ha : PSs X sts (tMS G W sa)) {sts' : List Stmt} (hb : PSs X sts' (tMS G W sb)) : PS X (.If c sts sts' pos) (tMS G W (sIf ca sa sb)) := by
  refine (ps_if hc ha hb).sm fun D σ H h => ?_
  obtain ⟨A, ρ, S, he, hs, p⟩ := h
  refine ⟨A, ρ, S, he, hs, PoS.step he p fun k S1 A1 H1 x s e q => ?_⟩
  cases k with
  | true => exact ⟨A1, ρ, S1, e, s, q⟩
  | false => exact ⟨A1, ρ, S1, e, s, q⟩
theorem EnvR.set {A : Al} {H : Hp} {ρ : Env} {σ : L2.St} {i : Nat} {d : Dv} {v : V} (h : EnvR G A H ρ σ) (r : RD G A H d v) : EnvR G A H (ρ.set i (some d)) (σ.set i (some v)) := by
  refine ⟨by simp [h.len], fun j d' e => ?_⟩
  by_cases hj : i = j
  · subst hj
    have hi : i < ρ.length := by
      have := (List.getElem?_eq_some_iff.mp e).1
      simpa using this
    rw [List.getElem?_set_self hi] at e
    cases e
    exact ⟨v, by rw [List.getElem?_set_self (by rw [← h.len]; exact hi)], r⟩
  · rw [List.getElem?_set_ne hj] at e
    obtain ⟨u, e1, r1⟩ := h.at_ j d' e
    exact ⟨u, by rw [List.getElem?_set_ne hj]; exact e1, r1⟩
theorem s_set {i : Nat} {x : Str} {pos' : Pos} (hN : X.N.Nodup) (hi : X.N[i]? = some x) (hx : Loc X.env.scope x) (h : PE X e (tM G W ma)) (hs : swapsWith e (some (.Name x pos')) pos.line X.env = pure false) (hf : X.fn x = true ∨ X.env.scope.names.lookup x = some .local) :
    PS X (.Assign [.Name x pos'] e pos) (tMS G W (sSet i ma)) := by
  refine (ps_set hN hi hx h hs hf).sm fun D σ H h => ?_
  obtain ⟨A, ρ, S, he, hs, p⟩ := h
  exact ⟨A, ρ, S, he, hs, PoS.step he p fun d S1 A1 H1 x s e q v rv => PoS.nx_now q s (e.set rv)⟩
/-- a target that only stores into slots L -/
def TgS (G : Gs) (t : TG) (g : GM) (L : List Nat) : Prop := ∀ (A : Al) (S : Sto) (ρ ρ' : Env) (σ : L2.St) (H : Hp) (d : Dv) (v : V) (Q : L2.St → Hp → Prop), EnvR G A H ρ σ → StR G A S H → RD G A H d v → g d ρ = some ρ' →
  (∀ σ', EnvR G A H ρ' σ' → (∀ j : Nat, j ∉ L → σ'[j]? = σ[j]?) → σ'.length = σ.length → Q σ' H) → t v σ H Q
def TgSs (G : Gs) (t : TGs) (g : GMs) (L : List Nat) : Prop := ∀ (A : Al) (S : Sto) (ρ ρ' : Env) (σ : L2.St) (H : Hp) (ts : List Dt) (vs : List V) (Q : L2.St → Hp → Prop), EnvR G A H ρ σ → StR G A S H → RVs G A H ts vs → g ts ρ = some ρ' →
  (∀ σ', EnvR G A H ρ' σ' → (∀ j : Nat, j ∉ L → σ'[j]? = σ[j]?) → σ'.length = σ.length → Q σ' H) → t vs σ H Q
theorem g_name {i : Nat} : TgS G (gName i) (gN i) [i] := by
  intro A S ρ ρ' σ H d v Q he hs r e q
  cases e
  refine q _ (he.set r) (fun j hj => ?_) (by simp)
  simp at hj
  rw [List.getElem?_set_ne (fun z => hj z.symm)]
theorem gs_nil : TgSs G gNil gsNil [] := by
  intro A S ρ ρ' σ H ts vs Q he hs r e q
  cases ts with
  | nil =>
    have z : vs = [] := r
    subst z
    cases e
    exact ⟨rfl, q σ he (fun _ _ => rfl) rfl⟩
  | cons t ts => cases e
theorem gs_cons {t : TG} {u : TGs} {g : GM} {gs : GMs} {L L' : List Nat} (h1 : TgS G t g L) (h2 : TgSs G u gs L') : TgSs G (gCons t u) (gsCons g gs) (L ++ L') := by
  intro A S ρ ρ' σ H ts vs Q he hs r e q
  cases ts with
  | nil => cases e
  | cons x ts =>
    obtain ⟨v, w, rfl, r1, r2⟩ := r
    unfold gsCons at e
    simp only at e
    cases e1 : g (.d x) ρ with
    | none =>
      rw [e1] at e
      cases e
    | some ρ1 =>
      rw [e1] at e
      refine ⟨v, w, rfl, h1 A S ρ ρ1 σ H (.d x) v _ he hs r1 e1 fun σ1 he1 k1 l1 => ?_⟩
      exact h2 A S ρ1 ρ' σ1 H ts w _ he1 hs r2 e fun σ2 he2 k2 l2 => q σ2 he2 (fun j hj => by
        rw [List.mem_append] at hj
        rw [k2 j fun z => hj (.inr z), k1 j fun z => hj (.inl z)]) (l2.trans l1)
theorem gsCons_len {G : Gs} : True := trivial
/-- the number of items that a pattern takes -/
def GLen (gs : GMs) (n : Nat) : Prop := ∀ ts ρ ρ', gs ts ρ = some ρ' → ts.length = n
theorem glen_nil : GLen gsNil 0 := fun ts ρ ρ' e => by
  cases ts with
  | nil => rfl
  | cons => cases e
theorem glen_cons {g : GM} {gs : GMs} {n : Nat} (h : GLen gs n) : GLen (gsCons g gs) (n + 1) := fun ts ρ ρ' e => by
  cases ts with
  | nil => cases e
  | cons x ts =>
    unfold gsCons at e
    simp only at e
    cases e1 : g (.d x) ρ with
    | none =>
      rw [e1] at e
      cases e
    | some ρ1 =>
      rw [e1] at e
      simp [h ts ρ1 ρ' e]
theorem g_tup {u : TGs} {gs : GMs} {L : List Nat} {n : Nat} (hl : GLen gs n) (h : TgSs G u gs L) : TgS G (gTup G.K n u) (gT gs) L := by
  intro A S ρ ρ' σ H d v Q he hs r e q
  cases d with
  | loc k => cases e
  | d t =>
    cases t with
    | tup ts =>
      obtain ⟨a, vs, rfl, ht, hv⟩ := r
      refine ⟨a, vs, rfl, ht.sq, ?_, h A S ρ ρ' σ H ts vs Q he hs hv e q⟩
      rw [← hv.length]
      exact hl ts ρ ρ' e
    | _ => cases e
theorem g_lst {u : TGs} {gs : GMs} {L : List Nat} {n : Nat} (hl : GLen gs n) (h : TgSs G u gs L) : TgS G (gLst G.K n u) (gL gs) L := by
  intro A S ρ ρ' σ H d v Q he hs r e q
  cases d with
  | loc k => cases e
  | d t =>
    cases t with
    | lst ts =>
      obtain ⟨a, vs, rfl, ht, hv⟩ := r
      refine ⟨a, vs, rfl, ht.sq, ?_, h A S ρ ρ' σ H ts vs Q he hs hv e q⟩
      rw [← hv.length]
      exact hl ts ρ ρ' e
    | _ => cases e
theorem oz_po {A : Al} {H : Hp} {α : Type} {o : Option α} {f : α → Sz} {D : Ends} (h : PoS G W A H (oz o f) D) : ∃ a, o = some a ∧ PoS G W A H (f a) D := by
  cases o with
  | none => exact h.elim
  | some a => exact ⟨a, rfl, h⟩
theorem s_asg {tg : Expr} {t : TG} {g : GM} {L : List Nat} (hg : PG X tg t) (hgs : TgS G t g L) (h : PE X e (tM G W ma)) (hs : swapsWithSole [tg] e pos.line X.env = pure false) (hw : swappedStores [tg] e X.env = pure none) (h1 : (assignEach [tg] X.env).map (·.2) = [assign tg X.env]) :
    PS X (.Assign [tg] e pos) (tMS G W (sAsg g ma)) := by
  refine (ps_asg h hg hs hw h1).sm fun D σ H h => ?_
  obtain ⟨A, ρ, S, he, hs, p⟩ := h
  refine ⟨A, ρ, S, he, hs, PoS.step he p fun d S1 A1 H1 x s e q v rv => ?_⟩
  obtain ⟨ρ1, e1, q1⟩ := oz_po q
  exact hgs A1 S1 ρ ρ1 σ H1 d v _ e s rv e1 fun σ' he' _ _ => PoS.nx_now q1 s he'
end
/-! ### what is walked -/
/-- J, at A H, gives the data ts one behind the other -/
structure Wk (G : Gs) (J : It) (A : Al) (H : Hp) (ts : List Dt) : Prop where
  go : ∀ (i : Nat) A' H', i < ts.length → Ext A H A' H' → J.go i H'
  yld : ∀ (i : Nat) A' H' S x H2, i < ts.length → Ext A H A' H' → StR G A' S H' → J.yld i H' x H2 → ∃ t, ts[i]? = some t ∧ Ext A' H' A' H2 ∧ StR G A' S H2 ∧ RV G A' H2 t x
  stop : ∀ A' H', Ext A H A' H' → J.stop ts.length H'
/-- the iterable's mirror -/
def PIS (X : Cx) (G : Gs) (W : WX) (tg iter : Expr) (m : M (List Dt)) : Prop := ∃ wi : TI, PI X tg iter wi ∧ ∀ (σ : L2.St) (H : Hp) (A : Al) (ρ : Env) (S : Sto) (R : It → Hp → Prop), EnvR G A H ρ σ → StR G A S H →
  Po G (Wa W σ) A H (m ρ S) (fun A' H' ts => ∀ J, Wk G J A' H' ts → R J H') → wi σ H R
section
variable {X : Cx} {G : Gs} {W : WX} {tg iter : Expr} {pos : Pos} {it : M (List Dt)} {g : GM} {sb : SM} {t : TG} {L : List Nat} {body : List Stmt}
theorem s_for (hp : PassesOwn (model X.prog X.w) X.A X.env X.xe) (hc : X.calm = true) (hi : PIS X G W tg iter it) (hg : PG X tg t) (hgs : TgS G t g L) (hb : PSs X body (tMS G W sb)) (hs : ∀ x, foldedSetIterable iter X.env x = pure x) :
    PS X (.For tg iter body [] pos) (tMS G W (sFor it g sb)) := by
  obtain ⟨wi, pi, hw⟩ := hi
  refine (ps_for hp hc pi hg hb hs).sm fun D σ H h => ?_
  obtain ⟨A, ρ, S, he, hs, p⟩ := h
  refine hw σ H A ρ S _ he hs (PoS.step he p fun ts S1 A1 H1 x1 s1 e1 p1 J wk => ?_)
  refine ⟨fun i m σ' H' => ∃ A' ρ' S', Ext A1 H1 A' H' ∧ EnvR G A' H' ρ' σ' ∧ StR G A' S' H' ∧ i ≤ ts.length ∧ m = ts.length - i ∧ PoS G W A' H' (forL g sb (ts.drop i) ρ' S') D, ⟨_, A1, ρ, S1, .refl, e1, s1, Nat.zero_le _, rfl, p1⟩, fun i m σ' H' hW => ?_⟩
  obtain ⟨A', ρ', S', x', e', s', hi, hm, q⟩ := hW
  by_cases hlt : i < ts.length
  · refine .inr ⟨wk.go i A' H' hlt x', fun σ2 H2 => ∃ A2 ρ2 S2, Ext A1 H1 A2 H2 ∧ EnvR G A2 H2 ρ2 σ2 ∧ StR G A2 S2 H2 ∧ PoS G W A2 H2 (forL g sb (ts.drop (i + 1)) ρ2 S2) D, fun σ2 H2 hN => ?_, fun v H2 hy => ?_⟩
    · obtain ⟨A2, ρ2, S2, x2, e2, s2, q2⟩ := hN
      exact ⟨ts.length - (i + 1), by omega, A2, ρ2, S2, x2, e2, s2, by omega, rfl, q2⟩
    · obtain ⟨d, ed, xy, sy, rv⟩ := wk.yld i A' H' S' v H2 hlt x' s' hy
      have hd : ts.drop i = d :: ts.drop (i + 1) := by
        rw [List.drop_eq_getElem_cons hlt]
        rw [List.getElem?_eq_getElem hlt] at ed
        cases ed
        rfl
      rw [hd] at q
      unfold forL at q
      obtain ⟨ρ1, eg, q1⟩ := oz_po q
      refine hgs A' S' ρ' ρ1 σ' H2 (.d d) v _ (e'.kp xy.kp) sy rv eg fun σ2 e2 _ _ => ?_
      refine ⟨A', ρ1, S', e2, sy, ?_⟩
      have q1 := PoS.mono xy q1
      cases eb : sb ρ1 S' with
      | nx ρ2 S2 =>
        rw [eb] at q1
        exact fun A2 H3 σ3 y s e => ⟨A2, ρ2, S2, (x'.trans xy).trans y, e, s, PoS.mono y q1⟩
      | ct ρ2 S2 =>
        rw [eb] at q1
        exact fun A2 H3 σ3 y s e => ⟨A2, ρ2, S2, (x'.trans xy).trans y, e, s, PoS.mono y q1⟩
      | bk ρ2 S2 =>
        rw [eb] at q1
        exact q1
      | rt d S2 =>
        rw [eb] at q1
        exact q1
      | er c t ρ2 S2 =>
        rw [eb] at q1
        exact q1
      | bad =>
        rw [eb] at q1
        exact q1.elim
  · have hz : i = ts.length := by omega
    subst hz
    rw [List.drop_length] at q
    exact .inl ⟨wk.stop A' H' x', q A' H' σ' .refl s' e'⟩
theorem s_while {c : Expr} {cm : M Bool} {n : Nat} (hp : PassesOwn (model X.prog X.w) X.A X.env X.xe) (hc : PT X c (tMT G W cm)) (hb : PSs X body (tMS G W sb)) : PS X (.While c body [] pos) (tMS G W (sWh n cm sb)) := by
  refine (ps_while hp hc hb).sm fun D σ H h => ?_
  obtain ⟨A, ρ, S, he, hs, p⟩ := h
  refine ⟨fun m σ' H' => ∃ A' ρ' S', EnvR G A' H' ρ' σ' ∧ StR G A' S' H' ∧ PoS G W A' H' (whL cm sb m ρ' S') D, ⟨n, A, ρ, S, he, hs, p⟩, fun m σ' H' hW => ?_⟩
  obtain ⟨A', ρ', S', e', s', q⟩ := hW
  cases m with
  | zero => exact q.elim
  | succ m =>
    refine ⟨A', ρ', S', e', s', PoS.step e' q fun k S1 A1 H1 x1 s1 e1 q1 => ?_⟩
    cases k with
    | false => exact PoS.nx_now q1 s1 e1
    | true =>
      refine ⟨fun σ2 H2 => ∃ A2 ρ2 S2, EnvR G A2 H2 ρ2 σ2 ∧ StR G A2 S2 H2 ∧ PoS G W A2 H2 (whL cm sb m ρ2 S2) D, fun σ2 H2 hN => ⟨m, Nat.lt_succ_self m, hN⟩, A1, ρ', S1, e1, s1, ?_⟩
      simp only [if_true] at q1
      cases eb : sb ρ' S1 with
      | nx ρ2 S2 =>
        rw [eb] at q1
        exact fun A2 H3 σ3 y s e => ⟨A2, ρ2, S2, e, s, PoS.mono y q1⟩
      | ct ρ2 S2 =>
        rw [eb] at q1
        exact fun A2 H3 σ3 y s e => ⟨A2, ρ2, S2, e, s, PoS.mono y q1⟩
      | bk ρ2 S2 =>
        rw [eb] at q1
        exact q1
      | rt d S2 =>
        rw [eb] at q1
        exact q1
      | er c t ρ2 S2 =>
        rw [eb] at q1
        exact q1
      | bad =>
        rw [eb] at q1
        exact q1.elim
end
end Sm
/-! Sm4: defs, calls, new instances, methods, fields. -/
namespace Sm
open PySem PySem.Spec PyProof.Rows L2

abbrev FM := List Dv → Sto → Rz Dv
def SpM (G : Gs) (F : FM) : Sp := fun vs H Q E => ∃ A S ds, RDs G A H ds vs ∧ StR G A S H ∧ Po G E A H (F ds S) (kD G Q)
/-- what a def's body gives: n names, the first p its parameters -/
def runB (n p : Nat) (b : SM) : FM := fun ds S => if ds.length = p then (match b (ds.map some ++ List.replicate (n - p) none) S with
  | .nx _ S' => .ok (.d .non) S'
  | .rt d S' => .ok d S'
  | .er c t _ S' => .er c t S'
  | _ => .bad) else .bad
/-- a context: nothing is handled, names apart, exceptions that W wishes are taken, room for k calls -/
structure Bx (X : Cx) (G : Gs) (W : WX) (k : Nat) : Prop where
  calm : X.calm = true
  nd : X.N.Nodup
  tk : Takes X W
  hK : G.K = X.K
  room : Room k X.A
abbrev W0 : WX := fun _ _ _ _ => False
theorem Bx.blk {X : Cx} {G : Gs} {W : WX} {k : Nat} (B : Bx X G W k) (s : Shared) (H : Hp) (scope : Scope) (cenv : PySem.Env) (fp : List Addr) : Bx (X.blk s H scope cenv fp) G W0 k := ⟨B.calm, B.nd, takes0, B.hK, B.room⟩
theorem Bx.le {X : Cx} {G : Gs} {W : WX} {k j : Nat} (B : Bx X G W k) (h : j ≤ k) : Bx X G W j := ⟨B.calm, B.nd, B.tk, B.hK, B.room.mono h⟩
section
variable {P : Program} {w : World} {G : Gs} {mg : Str → Option Value} {base : Heap}
theorem start_rds {A : Al} {H : Hp} : ∀ {ds : List Dv} {vs : List V} (n : Nat), RDs G A H ds vs → EnvR G A H (ds.map some ++ List.replicate n none) (vs.map some ++ List.replicate n none) := by
  intro ds vs n r
  refine ⟨by simp [Paired.length r], fun i d e => ?_⟩
  by_cases hi : i < ds.length
  · have hi2 : i < vs.length := by rw [← Paired.length r]; exact hi
    rw [List.getElem?_append_left (by simpa using hi)] at e
    simp at e
    obtain ⟨v, ev, rv⟩ := r.get e
    refine ⟨v, ?_, rv⟩
    rw [List.getElem?_append_left (by simpa using hi2)]
    simp [ev]
  · rw [List.getElem?_append_right (by simp; omega)] at e
    rw [List.getElem?_replicate] at e
    split at e
    · cases e
    · cases e
/-- THE RULE for a def -/
theorem fn_ok {x qual : Str} {st : Stmt} {f : Addr} {fd : FuncData} {N ps : List Str} {k : Nat} {b : SM} (F : Fun G.K x qual st f fd) (S : FnScope N ps (defScope st)) 
    (hbody : ∀ (cdv : Value) (A : Around) (outer : List PySem.Env) (s : Shared) (H : Hp) (E : XK), Bx (cxOf (L2.CX P w) P w G.K mg base N qual (defScope st) f cdv A outer s H E) G (fun c d _ H' => E c d H') k →
      PassesOwn (model P w) (A.deeper (envOfC qual (defScope st) s.heap.objs.size f cdv)) (envOfC qual (defScope st) s.heap.objs.size f cdv) (cxOf (L2.CX P w) P w G.K mg base N qual (defScope st) f cdv A outer s H E).xe →
      PSs (cxOf (L2.CX P w) P w G.K mg base N qual (defScope st) f cdv A outer s H E) (defBody st) (tMS G (fun c d _ H' => E c d H') b)) :
    FnOk P w G.K mg base (L2.CX P w) (k + 1) f fd ps (SpM G (runB N.length ps.length b)) := by
  refine F.okX S (fun vs H Q E h => ?_) (fun cdv A outer s H vs Q E hr h => ?_)
  · obtain ⟨A, S', ds, r, s, p⟩ := h
    unfold runB at p
    split at p
    · rename_i e
      rw [← Paired.length r]
      exact e
    · exact p.elim
  · refine ⟨_, hbody cdv A outer s H E ⟨rfl, S.nd, takes_of rfl rfl rfl rfl, rfl, hr⟩ (passes_of rfl), ?_⟩
    obtain ⟨A', S', ds, r, s', p⟩ := h
    unfold runB at p
    split at p
    · rename_i e
      refine ⟨A', ds.map some ++ List.replicate (N.length - ps.length) none, S', ?_, s', ?_⟩
      · have := start_rds (N.length - vs.length) r
        rw [show N.length - ps.length = N.length - vs.length by rw [← e, Paired.length r]]
        exact this
      · cases eb : b (ds.map some ++ List.replicate (N.length - ps.length) none) S' with
        | nx ρ S1 =>
          rw [eb] at p
          exact fun A1 H1 σ1 y s1 e1 => p A1 H1 y s1 .non rfl
        | rt d S1 =>
          rw [eb] at p
          exact fun A1 H1 v y s1 e1 => p A1 H1 y s1 v e1
        | er c t ρ S1 =>
          rw [eb] at p
          exact fun A1 H1 σ1 cls d y s1 e1 x1 => p A1 H1 cls d y s1 x1
        | bk ρ S1 =>
          rw [eb] at p
          exact p.elim
        | ct ρ S1 =>
          rw [eb] at p
          exact p.elim
        | bad =>
          rw [eb] at p
          exact p.elim
    · exact p.elim
/-- a call of a certain form: n positional values, keywords named ks -/
def CallW (P : Program) (w : World) (G : Gs) (mg : Str → Option Value) (base : Heap) (k : Nat) (f : Addr) (n : Nat) (ks : List Str) (F : FM) : Prop :=
  ∀ (A : Around) (outer : List PySem.Env) (s : Shared) (H : Hp) (us ws : List Value) (vs zs : List V) (Q : VK) (E : XK), Room k A → Env0 P w G.K mg base A outer s H → Vals vs us → Vals zs ws → vs.length = n → zs.length = ks.length → SpM G F (vs ++ zs) H Q E →
    codeAny (model P w) A (.call (.ref f) ⟨us, ks.zip ws⟩) (CR (L2.CX P w) outer P w H s Q E) s
theorem CallW.mono {k j : Nat} {f : Addr} {n : Nat} {ks : List Str} {F : FM} (h : CallW P w G mg base j f n ks F) (l : j ≤ k) : CallW P w G mg base k f n ks F :=
  fun A outer s H us ws vs zs Q E hr e0 r rz l1 l2 q => h A outer s H us ws vs zs Q E (hr.mono l) e0 r rz l1 l2 q
/-- another function that promises less -/
theorem CallW.imp {k : Nat} {f : Addr} {n : Nat} {ks : List Str} {F F' : FM} (h : CallW P w G mg base k f n ks F) (i : ∀ vs H Q E, SpM G F' vs H Q E → SpM G F vs H Q E) : CallW P w G mg base k f n ks F' :=
  fun A outer s H us ws vs zs Q E hr e0 r rz l1 l2 q => h A outer s H us ws vs zs Q E hr e0 r rz l1 l2 (i _ _ _ _ q)
/-- all values written, or the defaults dds behind -/
theorem CallW.of {k : Nat} {f : Addr} {fd : FuncData} {ps : List Str} {n : Nat} {F : FM} {ds : List Value} {dvs : List V} {dds : List Dt} (h : FnOk P w G.K mg base (L2.CX P w) k f fd ps (SpM G F)) (b : Binds G.K fd ps ds) (hd : Vals dvs ds) (hr : ∀ A H, RVs G A H dds dvs) :
    CallW P w G mg base k f n [] (fun xs => F (xs ++ dds.map .d)) := by
  intro A outer s H us ws vs zs Q E hr' e0 r rz l1 l2 q
  have hz : zs = [] := by
    cases zs with
    | nil => rfl
    | cons z zs => simp at l2
  subst hz
  rw [List.append_nil] at q
  obtain ⟨A', S', es, rd, s', p⟩ := q
  have q2 : SpM G F (vs ++ dvs) H Q E := ⟨A', S', es ++ dds.map .d, rd.append (hr A' H).rds, s', p⟩
  have hl := h.len _ _ _ _ q2
  have hV := Vals.append r hd
  exact h.run A outer s H ⟨us, []⟩ (us ++ ds) (vs ++ dvs) Q E hr' e0 (b s us (e0.mod.kin.keeps fun b o e => (e0.bs b o e).1) (by rw [← hl, hV.length])) hV q2
theorem CallW.of0 {k : Nat} {f : Addr} {fd : FuncData} {ps : List Str} {n : Nat} {F : FM} (h : FnOk P w G.K mg base (L2.CX P w) k f fd ps (SpM G F)) (b : Binds G.K fd ps []) : CallW P w G mg base k f n [] F := by
  have := CallW.of (n := n) (dds := []) h b .nil (fun _ _ => (rfl : ([] : List V) = []))
  simpa using this
/-- keywords -/
theorem CallW.kw {k : Nat} {f : Addr} {fd : FuncData} {ps ks : List Str} {n : Nat} {F F' : FM} {g : List Value → List Value → List Value} {gV : List V → List V → List V} (h : FnOk P w G.K mg base (L2.CX P w) k f fd ps (SpM G F)) (b : KBn G.K fd ps n ks g gV)
    (hF : ∀ A H (xs : List Dv) (vs zs : List V), RDs G A H xs (vs ++ zs) → vs.length = n → zs.length = ks.length → ∃ ys, RDs G A H ys (gV vs zs) ∧ ∀ S, F ys S = F' xs S) : CallW P w G mg base k f n ks F' := by
  intro A outer s H us ws vs zs Q E hr' e0 r rz l1 l2 q
  obtain ⟨A', S', es, rd, s', p⟩ := q
  obtain ⟨ys, ry, ey⟩ := hF A' H es vs zs rd l1 l2
  have q2 : SpM G F (gV vs zs) H Q E := ⟨A', S', ys, ry, s', by rw [ey]; exact p⟩
  exact h.run A outer s H ⟨us, ks.zip ws⟩ (g us ws) (gV vs zs) Q E hr' e0 (b.to s us ws (e0.mod.kin.keeps fun b o e => (e0.bs b o e).1) (by rw [← r.length, l1]) (by rw [← rz.length, l2])) (b.rel r rz) q2
end

def mF (F : FM) (a : M (List Dv)) : M Dv := fun ρ S => (a ρ S).bind F
def aApp (a b : M (List Dv)) : M (List Dv) := fun ρ S => (a ρ S).bind fun xs S1 => (b ρ S1).bind fun ys S2 => .ok (xs ++ ys) S2
section
variable {X : Cx} {G : Gs} {W : WX} {k : Nat} {f : Addr} {n : Nat} {ks : List Str} {F : FM}
/-- the callee runs -/
theorem runF {pins : List (Addr × Obj)} {σ : L2.St} {H : Hp} {s : Shared} {Q : VK} {us ws : List Value} {vs zs : List V} (R : CallW X.prog X.w G X.mg X.base k f n ks F) (B : Bx X G W k) (I : Inv X pins σ H s) (r : Vals vs us) (rz : Vals zs ws) (l1 : vs.length = n) (l2 : zs.length = ks.length)
    (h : SpM G F (vs ++ zs) H Q (Wa W σ)) : wpAny (model X.prog X.w) X.A (call (.ref f) us (ks.zip ws)) (EP X pins σ Q) X.xe s := by
  refine wpAny_call (codeAny_mono (R X.A X.stack s H us ws vs zs Q (Wa W σ) B.room (by rw [B.hK]; exact I.env0) r rz l1 l2 h) fun r s' hq => ?_)
  cases r with
  | error e => exact passAt B.tk σ pins H s e s' I hq
  | ok fl =>
    cases fl with
    | ret u => exact I.after hq
    | next => exact False.elim hq
    | brk => exact False.elim hq
    | cont => exact False.elim hq
variable {x : Str} {p pos : Pos} {e : Expr} {es : List Expr} {kws : List Keyword} {ma mk : M (List Dv)}
theorem _root_.L2.PK.sm {X : Cx} {e : List Keyword} {t t' : TA} (h : PK X e t) (f : ∀ σ H Q, t' σ H Q → t σ H Q) : PK X e t' := ⟨fun pos pins s σ H Q I q => h.run pos pins s σ H Q I (f σ H Q q)⟩
theorem k_nil : PK X [] (tMA G W aNil) := by
  refine pk_nil.sm fun σ H Q h => ?_
  obtain ⟨A, ρ, S, he, hs, p0⟩ := h
  exact Po.now p0 hs [] .nil
theorem k_cons {m : M Dv} {mr : M (List Dv)} {nm : Option Str} {kpos : Pos} (ha : PE X e (tM G W m)) (hr : PK X kws (tMA G W mr)) : PK X (⟨nm, e, kpos⟩ :: kws) (tMA G W (aCons m mr)) := by
  refine (pk_cons ha hr).sm fun σ H Q h => ?_
  obtain ⟨A, ρ, S, he, hs, p0⟩ := h
  refine ⟨A, ρ, S, he, hs, Po.step p0 fun d S1 A1 H1 x1 s1 p1 v rv => ?_⟩
  refine ⟨A1, ρ, S1, he.kp x1.kp, s1, Po.step p1 fun ds S2 A2 H2 x2 s2 p2 vs rvs => ?_⟩
  exact Po.now p2 s2 _ (.cons (rv.kp x2.kp) rvs)
/-- lengths that a mirror of arguments always has -/
def ALen (m : M (List Dv)) (n : Nat) : Prop := ∀ ρ S ds S', m ρ S = .ok ds S' → ds.length = n
theorem al_nil : ALen aNil 0 := fun ρ S ds S' e => by cases e; rfl
theorem al_cons {m : M Dv} {mr : M (List Dv)} {n : Nat} (h : ALen mr n) : ALen (aCons m mr) (n + 1) := fun ρ S ds S' e => by
  unfold aCons at e
  cases e1 : m ρ S with
  | bad => rw [e1] at e; cases e
  | er c t S1 => rw [e1] at e; cases e
  | ok d S1 =>
    rw [e1] at e
    simp only [bind_ok] at e
    cases e2 : mr ρ S1 with
    | bad => rw [e2] at e; cases e
    | er c t S2 => rw [e2] at e; cases e
    | ok ds2 S2 =>
      rw [e2] at e
      cases e
      simp [h ρ S1 ds2 S' e2]
theorem Po.step' {α β : Type} {G : Gs} {E : XK} {A : Al} {H : Hp} {r : Rz α} {f : α → Sto → Rz β} {k : Al → Hp → β → Prop} {k' : Al → Hp → α → Prop} (h : Po G E A H (r.bind f) k)
    (q : ∀ a S1 A1 H1, r = .ok a S1 → Ext A H A1 H1 → StR G A1 S1 H1 → Po G E A1 H1 (f a S1) k → k' A1 H1 a) : Po G E A H r k' := by
  cases r with
  | ok a S => exact fun A' H' y s => q a S A' H' rfl y s (Po.mono y h)
  | er c t S => exact h
  | bad => exact h
theorem e_call (R : CallW X.prog X.w G X.mg X.base k f n [] F) (B : Bx X G W k) (hg : Gl X x) (hm : X.mg x = some (.ref f)) (hk : PySem.W.keepIn X.K (.ref f) = true) (ha : PA X (e :: es) (tMA G W ma)) (al : ALen ma n) (hdb : (x == ("__debug__" : Str)) = false)
    (he : starEach (e :: es) X.env = (false, eval e X.env) :: starEach es X.env) (hpl : (backTo pos (starEach es X.env)).any (·.1) = false) : PE X (.Call (.Name x p) (e :: es) [] pos) (tM G W (mF F ma)) := by
  refine ⟨fun pins s σ H Q I h => ?_⟩
  obtain ⟨A, ρ, S, he', hs, p0⟩ := h
  refine wpAny_Call_Name_kw (ld_glob I hg hm ?_ hdb)
  refine PySem.W.callWith_K (h₀ := X.base) I.ok.mod.kin hk (thn (ha.run pos pins s σ H (fun vs H' => vs.length = n ∧ SpM G F (vs ++ []) H' Q (Wa W σ)) I ⟨A, ρ, S, he', hs, Po.step' p0 fun ds S1 A1 H1 e0 x1 s1 p1 vs rvs => ⟨by rw [← Paired.length rvs]; exact al ρ S ds S1 e0, A1, S1, ds, by rw [List.append_nil]; exact rvs, s1, p1⟩⟩) fun us s1 ⟨vs, H1, I1, r, l, q⟩ => ⟨I1.kIn, ?_⟩) he hpl
  exact runF (ws := []) (zs := []) R B I1 r .nil l rfl q
theorem e_call0 (R : CallW X.prog X.w G X.mg X.base k f 0 [] F) (B : Bx X G W k) (hg : Gl X x) (hm : X.mg x = some (.ref f)) (hk : PySem.W.keepIn X.K (.ref f) = true) (hdb : (x == ("__debug__" : Str)) = false) : PE X (.Call (.Name x p) [] [] pos) (tM G W (mF F aNil)) := by
  refine ⟨fun pins s σ H Q I h => ?_⟩
  obtain ⟨A, ρ, S, he', hs, p0⟩ := h
  refine wpAny_Call_Name_kw (ld_glob I hg hm ?_ hdb)
  exact PySem.W.callWith_K0 I.kIn hk (runF (us := []) (ws := []) (vs := []) (zs := []) R B I .nil .nil rfl rfl ⟨A, S, [], .nil, hs, p0⟩)
theorem e_callK (R : CallW X.prog X.w G X.mg X.base k f n ks F) (B : Bx X G W k) (hg : Gl X x) (hm : X.mg x = some (.ref f)) (hk : PySem.W.keepIn X.K (.ref f) = true) (ha : PA X (e :: es) (tMA G W ma)) (al : ALen ma n) (hkw : PK X kws (tMA G W mk)) (al2 : ALen mk ks.length)
    (hall : (backToKw pos (keywordEach kws X.env)).all (·.1.isSome) = true) (hks : (backToKw pos (keywordEach kws X.env)).filterMap (·.1) = ks) (hdb : (x == ("__debug__" : Str)) = false)
    (he : starEach (e :: es) X.env = (false, eval e X.env) :: starEach es X.env) (hpl : ((backTo pos (starEach (e :: es) X.env)).any (·.1) || (backToKw pos (keywordEach kws X.env)).any (·.1.isNone)) = false) : PE X (.Call (.Name x p) (e :: es) kws pos) (tM G W (mF F (aApp ma mk))) := by
  refine ⟨fun pins s σ H Q I h => ?_⟩
  obtain ⟨A, ρ, S, he', hs, p0⟩ := h
  refine wpAny_Call_Name_kw (ld_glob I hg hm ?_ hdb)
  have p1 : Po G (Wa W σ) A H ((ma ρ S).bind fun xs S1 => (mk ρ S1).bind fun ys S2 => F (xs ++ ys) S2) (kD G Q) := by
    have e : (ma ρ S).bind (fun xs S1 => (mk ρ S1).bind fun ys S2 => F (xs ++ ys) S2) = mF F (aApp ma mk) ρ S := by
      unfold mF aApp
      cases ma ρ S with
      | bad => rfl
      | er c t S1 => rfl
      | ok xs S1 =>
        simp only [bind_ok]
        cases mk ρ S1 <;> rfl
    rw [e]
    exact p0
  refine PySem.W.callWith_KW (h₀ := X.base) I.ok.mod.kin hk hall (thn (ha.run pos pins s σ H (fun vs H' => vs.length = n ∧ tMA G W mk σ H' fun zs H2 => zs.length = ks.length ∧ SpM G F (vs ++ zs) H2 Q (Wa W σ)) I ⟨A, ρ, S, he', hs, Po.step' p1 fun ds S1 A1 H1 e0 x1 s1 p2 vs rvs => ?_⟩) fun us s1 ⟨vs, H1, I1, r, l, q⟩ => ?_) hpl he
  · refine ⟨by rw [← Paired.length rvs]; exact al ρ S ds S1 e0, A1, ρ, S1, he'.kp x1.kp, s1, Po.step' p2 fun ys S2 A2 H2 e2 x2 s2 p3 zs rzs => ?_⟩
    exact ⟨by rw [← Paired.length rzs]; exact al2 ρ S1 ys S2 e2, A2, S2, ds ++ ys, (rvs.kp x2.kp).append rzs, s2, p3⟩
  · refine thn (hkw.run pos pins s1 σ H1 _ I1 q) fun ws s2 ⟨zs, H2, I2, rz, l2, q2⟩ => ⟨I2.kIn, ?_⟩
    rw [hks]
    exact runF R B I2 r rz l l2 q2
theorem e_callK0 (R : CallW X.prog X.w G X.mg X.base k f 0 ks F) (B : Bx X G W k) (hg : Gl X x) (hm : X.mg x = some (.ref f)) (hk : PySem.W.keepIn X.K (.ref f) = true) (hkw : PK X kws (tMA G W mk)) (al2 : ALen mk ks.length)
    (hall : (backToKw pos (keywordEach kws X.env)).all (·.1.isSome) = true) (hks : (backToKw pos (keywordEach kws X.env)).filterMap (·.1) = ks) (hdb : (x == ("__debug__" : Str)) = false)
    (hpl : ((backTo pos (starEach [] X.env)).any (·.1) || (backToKw pos (keywordEach kws X.env)).any (·.1.isNone)) = false) : PE X (.Call (.Name x p) [] kws pos) (tM G W (mF F mk)) := by
  refine ⟨fun pins s σ H Q I h => ?_⟩
  obtain ⟨A, ρ, S, he', hs, p0⟩ := h
  refine wpAny_Call_Name_kw (ld_glob I hg hm ?_ hdb)
  refine PySem.W.callWith_KW0 (h₀ := X.base) I.ok.mod.kin hk hall ?_ hpl
  refine thn (hkw.run pos pins s σ H (fun zs H2 => zs.length = ks.length ∧ SpM G F ([] ++ zs) H2 Q (Wa W σ)) I ⟨A, ρ, S, he', hs, Po.step' p0 fun ys S2 A2 H2 e2 x2 s2 p3 zs rzs => ⟨by rw [← Paired.length rzs]; exact al2 ρ S ys S2 e2, A2, S2, ys, rzs, s2, p3⟩⟩) fun ws s2 ⟨zs, H2, I2, rz, l2, q2⟩ => ⟨I2.kIn, ?_⟩
  rw [hks]
  exact runF (us := []) (vs := []) R B I2 .nil rz rfl l2 q2
end
end Sm
/-! Sm5: instances with slots, letting boxes go, calls in a world of their own, comprehensions. -/
namespace Sm
open PySem PySem.Spec PyProof.Rows L2

/-! ### instances -/
/-- d is an instance of the class c -/
def isIns (c : Nat) (d : Dv) (S : Sto) : Bool := match d with
  | .d (.obj c' _) => c' == c
  | .loc n => (match S[n]? with
    | some (.ins c' _) => c' == c
    | _ => false)
  | _ => false
theorem isIns_slt {G : Gs} {A : Al} {S : Sto} {H : Hp} {c : Nat} {d : Dv} {v : V} (s : StR G A S H) (r : RD G A H d v) (h : isIns c d S = true) : ∃ a dx ws, v = .ref a ∧ SlX.Slt H a (G.cls c) dx ws := by
  cases d with
  | d t =>
    cases t with
    | obj c' xs =>
      obtain ⟨a, dx, ws, vs, e, _, _, _, hs, _⟩ := r
      have : c' = c := by simpa [isIns] using h
      subst this
      exact ⟨a, dx, ws, e, hs⟩
    | _ => simp [isIns] at h
  | loc n =>
    cases e : S[n]? with
    | none => simp [isIns, e] at h
    | some o =>
      cases o with
      | ins c' fs =>
        have : c' = c := by simpa [isIns, e] using h
        subst this
        obtain ⟨a, dx, ws, e1, _, _, hs, _⟩ := loc_ins s r e
        exact ⟨a, dx, ws, e1, hs⟩
      | _ => simp [isIns, e] at h
def pFld (c i : Nat) : P1 := fun d S => match d with
  | .d (.obj c' xs) => if c' = c then (match xs[i]? with
    | some t => some (.d t, S)
    | none => none) else none
  | .loc n => (match S[n]? with
    | some (.ins c' fs) => if c' = c then (match fs[i]? with
      | some (some d) => some (d, S)
      | _ => none) else none
    | _ => none)
  | _ => none
theorem fld_at {G : Gs} {A : Al} {S S' : Sto} {H : Hp} {c i : Nat} {d d' : Dv} {v : V} (s : StR G A S H) (r : RD G A H d v) (h : pFld c i d S = some (d', S')) : S' = S ∧ ∃ a dx ws u, v = .ref a ∧ SlX.Slt H a (G.cls c) dx ws ∧ ws[i]? = some (some u) ∧ RD G A H d' u := by
  cases d with
  | d t =>
    cases t with
    | obj c' xs =>
      obtain ⟨a, dx, ws, vs, e, _, _, _, hs, hi, hv⟩ := r
      unfold pFld at h
      simp only at h
      split at h
      · rename_i hc
        subst hc
        cases ex : xs[i]? with
        | none => rw [ex] at h; cases h
        | some t =>
          rw [ex] at h
          cases h
          obtain ⟨u, eu, ru⟩ := hv.get ex
          exact ⟨rfl, a, dx, ws, u, e, hs, hi i u eu, ru⟩
      · cases h
    | _ => cases h
  | loc n =>
    unfold pFld at h
    simp only at h
    cases e : S[n]? with
    | none => rw [e] at h; cases h
    | some o =>
      rw [e] at h
      cases o with
      | ins c' fs =>
        simp only at h
        split at h
        · rename_i hc
          subst hc
          obtain ⟨a, dx, ws, e1, _, _, hs, hf⟩ := loc_ins s r e
          cases ex : fs[i]? with
          | none => rw [ex] at h; cases h
          | some o =>
            rw [ex] at h
            cases o with
            | none => cases h
            | some d2 =>
              cases h
              obtain ⟨u, eu, ru⟩ := hf i d' ex
              exact ⟨rfl, a, dx, ws, u, e1, hs, eu, ru⟩
        · cases h
      | _ => cases h
/-- o.f = d -/
def putF (i : Nat) (d : Dv) (fs : List (Option Dv)) : List (Option Dv) := (fs ++ List.replicate (i + 1 - fs.length) none).set i (some d)
def stFld (c i : Nat) (o d : Dv) (S : Sto) : Option Sto := match o with
  | .loc n => (match S[n]? with
    | some (.ins c' fs) => if c' = c then some (S.set n (.ins c (putF i d fs))) else none
    | _ => none)
  | _ => none
theorem putF_rf {G : Gs} {A : Al} {H : Hp} {i : Nat} {d : Dv} {v : V} {fs : List (Option Dv)} {ws : List (Option V)} (h : RF G A H fs ws) (r : RD G A H d v) : RF G A H (putF i d fs) (SlX.putS i v ws) := by
  intro j e he
  by_cases hj : i = j
  · subst hj
    have hl : i < (fs ++ List.replicate (i + 1 - fs.length) (none : Option Dv)).length := by simp; omega
    unfold putF at he
    rw [List.getElem?_set_self hl] at he
    cases he
    exact ⟨v, SlX.putS_get i v ws, r⟩
  · unfold putF at he
    rw [List.getElem?_set_ne hj] at he
    have h2 : fs[j]? = some (some e) := by
      by_cases hlt : j < fs.length
      · rw [List.getElem?_append_left hlt] at he
        exact he
      · rw [List.getElem?_append_right (by omega), List.getElem?_replicate] at he
        split at he <;> cases he
    obtain ⟨u, eu, ru⟩ := h j e h2
    exact ⟨u, (SlX.putS_ne (fun z => hj z.symm)).mpr eu, ru⟩
def sFld (c i : Nat) (mo mv : M Dv) : SM := fun ρ S => (mv ρ S).to ρ fun d S1 => (mo ρ S1).to ρ fun o S2 => oz (stFld c i o d S2) fun S3 => .nx ρ S3
def mMeth (c : Nat) (F : FM) (mo : M Dv) (ma : M (List Dv)) : M Dv := fun ρ S => (mo ρ S).bind fun o S1 => if isIns c o S1 = true then (ma ρ S1).bind fun ds S2 => F (o :: ds) S2 else .bad
def mMake (c : Nat) (F : FM) (ma : M (List Dv)) : M Dv := fun ρ S => (ma ρ S).bind fun ds S1 => (F (.loc S1.length :: ds) (S1 ++ [.ins c []])).bind fun r S2 => match r with
  | .d .non => .ok (.loc S1.length) S2
  | _ => .bad
section
variable {X : Cx} {G : Gs} {W : WX} {k n : Nat} {f g C : Addr} {ks : List Str} {F : FM} {x m : Str} {p pos pos' apos : Pos} {o e value : Expr} {es : List Expr} {kws : List Keyword} {mo mv : M Dv} {ma mk : M (List Dv)} {c i : Nat}
theorem e_fld {pp : Addr} (B : Bx X G W k) (cl : SlX.SCls X.K (G.cls c)) (sl : SlX.Slot1 X.K (G.cls c) m pp i) (he : PE X e (tM G W mo)) (hb : attributeBase e m X.env (eval e X.env) = eval e X.env) : PE X (.Attribute e m pos) (tM G W (m1 (pFld c i) mo)) := by
  refine (SlX.pe_sl he hb).sm fun σ H Q h => ?_
  obtain ⟨A, ρ, S, he, hs, p0⟩ := h
  refine ⟨A, ρ, S, he, hs, Po.step p0 fun d S1 A1 H1 x1 s1 p1 v rv => ?_⟩
  cases e1 : pFld c i d S1 with
  | none => rw [e1] at p1; exact p1.elim
  | some q =>
    obtain ⟨d', S2⟩ := q
    rw [e1] at p1
    obtain ⟨e2, a, dx, ws, u, ev, hsl, hw, ru⟩ := fld_at s1 rv e1
    subst e2
    exact ⟨a, G.cls c, dx, pp, ws, i, u, ev, hsl, cl, sl, hw, Po.now p1 s1 u ru⟩
theorem s_fld {pp : Addr} (B : Bx X G W k) (cl : SlX.SCls X.K (G.cls c)) (sl : SlX.Slot1 X.K (G.cls c) m pp i) (ho : PE X o (tM G W mo)) (hv : PE X value (tM G W mv)) (hs : swapsWith value (some (.Attribute o m pos')) pos.line X.env = pure false) :
    PS X (.Assign [.Attribute o m pos'] value pos) (tMS G W (sFld c i mo mv)) := by
  refine (SlX.ps_sl ho hv hs).sm fun D σ H h => ?_
  obtain ⟨A, ρ, S, he, hs, p0⟩ := h
  refine ⟨A, ρ, S, he, hs, PoS.step he p0 fun d S1 A1 H1 x1 s1 e1 p1 v rv => ?_⟩
  refine ⟨A1, ρ, S1, e1, s1, PoS.step e1 p1 fun o' S2 A2 H2 x2 s2 e2 p2 y ry => ?_⟩
  obtain ⟨S3, e3, p3⟩ := oz_po p2
  unfold stFld at e3
  cases o' with
  | d t => cases e3
  | loc n =>
    simp only at e3
    cases es : S2[n]? with
    | none => rw [es] at e3; cases e3
    | some b =>
      rw [es] at e3
      cases b with
      | ins c' fs =>
        simp only at e3
        split at e3
        · rename_i hc
          subst hc
          cases e3
          obtain ⟨a, dx, ws, ey, hl, ne, hsl, hf⟩ := loc_ins s2 ry es
          obtain ⟨x3, s3⟩ := set_ins s2 hl ne (putF_rf (i := i) hf (rv.kp x2.kp))
          exact ⟨a, G.cls c', dx, pp, ws, i, ey, hsl, cl, sl, p3 A2 _ σ x3 s3 (e2.kp x3.kp)⟩
        · cases e3
      | _ => cases e3
theorem e_meth {pl : Sem Bool} (R : CallW X.prog X.w G X.mg X.base k g (n + 1) [] F) (B : Bx X G W k) (cl : SlX.SCls X.K (G.cls c)) (hm : Meth X.K (G.cls c) m g) (ho : PE X o (tM G W mo)) (ha : PA X (e :: es) (tMA G W ma)) (al : ALen ma n)
    (hst : starEach (e :: es) X.env = (false, eval e X.env) :: starEach es X.env) (hpl : (backTo pos (starEach es X.env)).any (·.1) = false)
    (ht : eval (.Call (.Attribute o m apos) (e :: es) [] pos) X.env = (do
      let ov ← eval o X.env
      standAt apos.atName
      let (f, first) ← holding [ov] (getMethod ov m pl)
      callWith pos f first (backTo pos (starEach (e :: es) X.env)) (backToKw pos (keywordEach [] X.env)))) :
    PE X (.Call (.Attribute o m apos) (e :: es) [] pos) (tM G W (mMeth c F mo ma)) := by
  refine ⟨fun pins s σ H Q I h => ?_⟩
  obtain ⟨A, ρ, S, he', hs, p0⟩ := h
  refine PySem.W.methodCall_KW (pl := pl) (thn (ho.run pins s σ H (fun y H1 => ∃ a dx ws, y = .ref a ∧ SlX.Slt H1 a (G.cls c) dx ws ∧ tMA G W ma σ H1 fun vs H2 => vs.length = n ∧ SpM G F ((V.ref a :: vs) ++ []) H2 Q (Wa W σ)) I ⟨A, ρ, S, he', hs, Po.step p0 fun d S1 A1 H1 x1 s1 p1 v rv => ?_⟩) fun u s1 ⟨y, H1, I1, rx, a, dx, ws, ex, hsl, q⟩ => ?_) ht
  · by_cases hi : isIns c d S1 = true
    · simp only [hi, if_true] at p1
      obtain ⟨a, dx, ws, ev, hsl⟩ := isIns_slt s1 rv hi
      subst ev
      refine ⟨a, dx, ws, rfl, hsl, A1, ρ, S1, he'.kp x1.kp, s1, Po.step' p1 fun ds S2 A2 H2 e0 x2 s2 p2 vs rvs => ?_⟩
      exact ⟨by rw [← Paired.length rvs]; exact al ρ S1 ds S2 e0, A2, S2, d :: ds, by rw [List.append_nil]; exact .cons (rv.kp x2.kp) rvs, s2, p2⟩
    · simp only [hi] at p1
      exact p1.elim
  · subst ex
    obtain rfl : u = Value.ref a := rx
    refine SlX.getmethsl_ok I1 hsl cl hm ?_
    refine PySem.W.callWith_K (first := [.ref a]) (h₀ := X.base) I.ok.mod.kin hm.kp (thn (ha.run pos pins s1 σ H1 _ I1 q) fun us s2 ⟨vs, H2, I2, r, l, q2⟩ => ⟨I2.kIn, ?_⟩) hst hpl
    exact runF (us := .ref a :: us) (vs := .ref a :: vs) (ws := []) (zs := []) R B I2 (.cons rfl r) .nil (by simp [l]) rfl q2
theorem e_meth0 {pl : Sem Bool} (R : CallW X.prog X.w G X.mg X.base k g 1 [] F) (B : Bx X G W k) (cl : SlX.SCls X.K (G.cls c)) (hm : Meth X.K (G.cls c) m g) (ho : PE X o (tM G W mo))
    (ht : eval (.Call (.Attribute o m apos) [] [] pos) X.env = (do
      let ov ← eval o X.env
      standAt apos.atName
      let (f, first) ← holding [ov] (getMethod ov m pl)
      callWith pos f first (backTo pos (starEach [] X.env)) (backToKw pos (keywordEach [] X.env)))) :
    PE X (.Call (.Attribute o m apos) [] [] pos) (tM G W (mMeth c F mo aNil)) := by
  refine ⟨fun pins s σ H Q I h => ?_⟩
  obtain ⟨A, ρ, S, he', hs, p0⟩ := h
  refine PySem.W.methodCall_KW (pl := pl) (thn (ho.run pins s σ H (fun y H1 => ∃ a dx ws, y = .ref a ∧ SlX.Slt H1 a (G.cls c) dx ws ∧ SpM G F ([V.ref a] ++ []) H1 Q (Wa W σ)) I ⟨A, ρ, S, he', hs, Po.step p0 fun d S1 A1 H1 x1 s1 p1 v rv => ?_⟩) fun u s1 ⟨y, H1, I1, rx, a, dx, ws, ex, hsl, q⟩ => ?_) ht
  · by_cases hi : isIns c d S1 = true
    · simp only [hi, if_true] at p1
      obtain ⟨a, dx, ws, ev, hsl⟩ := isIns_slt s1 rv hi
      subst ev
      exact ⟨a, dx, ws, rfl, hsl, A1, S1, [d], .cons rv .nil, s1, p1⟩
    · simp only [hi] at p1
      exact p1.elim
  · subst ex
    obtain rfl : u = Value.ref a := rx
    refine SlX.getmethsl_ok I1 hsl cl hm ?_
    exact PySem.W.callWith_K0 (first := [.ref a]) I1.kIn hm.kp (runF (us := [.ref a]) (vs := [.ref a]) (ws := []) (zs := []) R B I1 (.cons rfl .nil) .nil rfl rfl q)
/-- a new instance, then its __init__ -/
theorem runMake {pins : List (Addr × Obj)} {σ : L2.St} {H : Hp} {s : Shared} {Q : VK} {us ws : List Value} {vs zs : List V} (M : Mk X.K (G.cls c) f) (R : CallW X.prog X.w G X.mg X.base k f (n + 1) ks F) (B : Bx X G W (k + 1)) (I : Inv X pins σ H s) (r : Vals vs us) (rz : Vals zs ws) (l1 : vs.length = n) (l2 : zs.length = ks.length)
    (h : ∀ x dx, H x = none → H dx = none → dx ≠ x → SpM G F (V.ref x :: (vs ++ zs)) (upd (upd H dx (.own x)) x (.ins (G.cls c) dx [])) (fun v H2 => v = .non ∧ Q (.ref x) H2) (Wa W σ)) :
    wpAny (model X.prog X.w) X.A (call (.ref (G.cls c)) us (ks.zip ws)) (EP X pins σ Q) X.xe s := by
  have hq := h (s.heap.objs.size + 1) s.heap.objs.size (I.hok.fresh (Nat.le_succ _)) (I.hok.fresh (Nat.le_refl _)) (Nat.ne_of_lt (Nat.lt_succ_self _))
  have I2 := Inv.made (C := G.cls c) I
  have r2 : Vals (V.ref (s.heap.objs.size + 1) :: vs) (Value.ref (s.heap.objs.size + 1) :: us) := .cons rfl r
  refine wpAny_call (make_map (f := f) I.kIn M.makes M.init (beq_iff_eq.mp M.fn) (codeAny_mono (R _ X.stack _ _ (Value.ref (s.heap.objs.size + 1) :: us) ws _ zs _ (Wa W σ) (B.room.make (G.cls c) us (ks.zip ws)) (by rw [B.hK]; exact I2.env0.make (G.cls c) us (ks.zip ws)) r2 rz (by simp [l1]) l2 hq) fun r s' hq' => ?_))
  cases r with
  | error e => exact passAt B.tk σ pins _ _ e s' I2 hq'
  | ok fl =>
    cases fl with
    | ret u =>
      obtain ⟨v, H', I3, rv, ev, q3⟩ := I2.after hq'
      subst ev
      exact ⟨rv, ⟨V.ref (s.heap.objs.size + 1), H', I3, rfl, q3⟩⟩
    | next => exact False.elim hq'
    | brk => exact False.elim hq'
    | cont => exact False.elim hq'
theorem make_po {A : Al} {σ : L2.St} {S1 : Sto} {H1 : Hp} {ds : List Dv} {vs : List V} {Q : VK} (s1 : StR G A S1 H1) (rvs : RDs G A H1 ds vs)
    (p1 : Po G (Wa W σ) A H1 ((F (.loc S1.length :: ds) (S1 ++ [.ins c []])).bind fun r S2 => match r with
      | .d .non => .ok (.loc S1.length) S2
      | _ => .bad) (kD G Q)) : ∀ x dx, H1 x = none → H1 dx = none → dx ≠ x → SpM G F (V.ref x :: vs) (upd (upd H1 dx (.own x)) x (.ins (G.cls c) dx [])) (fun v H2 => v = .non ∧ Q (.ref x) H2) (Wa W σ) := by
  intro x dx hx hdx ne
  obtain ⟨x3, s3, r3⟩ := box_ins (c := c) s1 hx hdx ne
  refine ⟨A.push [x, dx], S1 ++ [.ins c []], .loc S1.length :: ds, .cons r3 (rvs.kp x3.kp), s3, Po.step (Po.mono x3 p1) fun r S2 A2 H2 x2 s2 p2 v rv => ?_⟩
  cases r with
  | loc n => exact p2.elim
  | d t =>
    cases t with
    | non => exact ⟨rv, Po.now p2 s2 _ (r3.kp x2.kp)⟩
    | _ => exact p2.elim
theorem e_make (M : Mk X.K (G.cls c) f) (R : CallW X.prog X.w G X.mg X.base k f (n + 1) [] F) (B : Bx X G W (k + 1)) (hg : Gl X x) (hm : X.mg x = some (.ref (G.cls c))) (ha : PA X (e :: es) (tMA G W ma)) (al : ALen ma n) (hdb : (x == ("__debug__" : Str)) = false)
    (he : starEach (e :: es) X.env = (false, eval e X.env) :: starEach es X.env) (hpl : (backTo pos (starEach es X.env)).any (·.1) = false) : PE X (.Call (.Name x p) (e :: es) [] pos) (tM G W (mMake c F ma)) := by
  refine ⟨fun pins s σ H Q I h => ?_⟩
  obtain ⟨A, ρ, S, he', hs, p0⟩ := h
  refine wpAny_Call_Name_kw (ld_glob I hg hm ?_ hdb)
  refine PySem.W.callWith_K (h₀ := X.base) I.ok.mod.kin M.kp (thn (ha.run pos pins s σ H (fun vs H1 => vs.length = n ∧ ∀ x dx, H1 x = none → H1 dx = none → dx ≠ x → SpM G F (V.ref x :: (vs ++ [])) (upd (upd H1 dx (.own x)) x (.ins (G.cls c) dx [])) (fun v H2 => v = .non ∧ Q (.ref x) H2) (Wa W σ)) I
    ⟨A, ρ, S, he', hs, Po.step' p0 fun ds S1 A1 H1 e0 x1 s1 p1 vs rvs => ⟨by rw [← Paired.length rvs]; exact al ρ S ds S1 e0, by rw [List.append_nil]; exact make_po s1 rvs p1⟩⟩) fun us s1 ⟨vs, H1, I1, r, l, q⟩ => ⟨I1.kIn, ?_⟩) he hpl
  exact runMake (ws := []) (zs := []) M R B I1 r .nil l rfl q
theorem e_make0 (M : Mk X.K (G.cls c) f) (R : CallW X.prog X.w G X.mg X.base k f 1 [] F) (B : Bx X G W (k + 1)) (hg : Gl X x) (hm : X.mg x = some (.ref (G.cls c))) (hdb : (x == ("__debug__" : Str)) = false) : PE X (.Call (.Name x p) [] [] pos) (tM G W (mMake c F aNil)) := by
  refine ⟨fun pins s σ H Q I h => ?_⟩
  obtain ⟨A, ρ, S, he', hs, p0⟩ := h
  refine wpAny_Call_Name_kw (ld_glob I hg hm ?_ hdb)
  exact PySem.W.callWith_K0 I.kIn M.kp (runMake (n := 0) (us := []) (vs := []) (ws := []) (zs := []) M R B I .nil .nil rfl rfl (make_po hs .nil p0))
end

/-! ### a box is let go -/
def dpures : List (Option Dv) → Option (List Dt)
  | [] => some []
  | some (.d t) :: r => (dpures r).map (t :: ·)
  | _ :: _ => none
/-- a list or an instance that nobody will change: from here on data -/
def frz (d : Dv) (S : Sto) : Pz Dv := match d with
  | .loc n => (match S[n]? with
    | some (.lst xs) => (match pures xs with
      | some ts => some (.d (.lst ts), S.set n .dead)
      | none => none)
    | some (.ins c fs) => (match dpures fs with
      | some ts => some (.d (.obj c ts), S.set n .dead)
      | none => none)
    | some (.dct ks xs) => (match pures xs with
      | some ts => some (.d (.dct ks ts), S.set n .dead)
      | none => none)
    | _ => none)
  | .d t => some (.d t, S)
def Al.drop (A : Al) (n : Nat) : Al := ⟨A.live.set n [], A.hid⟩
section
variable {G : Gs} {A : Al} {H : Hp} {S : Sto} {n : Nat} {l : List Addr}
theorem drop_flat (A : Al) (n : Nat) : ∀ b, b ∈ (A.drop n).live.flatten → b ∈ A.live.flatten := by
  intro b hb
  obtain ⟨x, hx, hb⟩ := List.mem_flatten.mp hb
  unfold Al.drop at hx
  obtain ⟨i, hi⟩ := List.mem_iff_getElem?.mp hx
  simp only at hi
  by_cases e : n = i
  · subst e
    by_cases hl : n < A.live.length
    · rw [List.getElem?_set_self hl] at hi
      cases hi
      cases hb
    · rw [List.getElem?_eq_none (by simp; omega)] at hi
      cases hi
  · rw [List.getElem?_set_ne e] at hi
    exact List.mem_flatten.mpr ⟨x, List.mem_of_getElem? hi, hb⟩
theorem Ext.drop : Ext A H (A.drop n) H := by
  refine ⟨fun i x e => ?_, fun _ _ _ _ => Iff.rfl, fun a u h m => ⟨.inl h, fun z => m (drop_flat A n a z)⟩, fun _ _ h _ _ => h⟩
  unfold Al.drop
  simp only
  by_cases ei : n = i
  · subst ei
    rw [List.getElem?_set_self (List.getElem?_eq_some_iff.mp e).1]
    exact .inr rfl
  · rw [List.getElem?_set_ne ei]
    exact .inl e
theorem drop_nd (hn : A.all.Nodup) : (A.drop n).all.Nodup := by
  have key : ∀ {L : List (List Addr)} {n : Nat}, L.flatten.Nodup → (L.set n []).flatten.Nodup := by
    intro L
    induction L with
    | nil => intro n h; simpa using h
    | cons x L ih =>
      intro n h
      rw [List.flatten_cons, List.nodup_append] at h
      obtain ⟨h1, h2, h3⟩ := h
      cases n with
      | zero =>
        simpa using h2
      | succ n =>
        rw [List.set_cons_succ, List.flatten_cons, List.nodup_append]
        refine ⟨h1, ih h2, fun a ha b hb => h3 a ha b ?_⟩
        obtain ⟨y, hy, hb⟩ := List.mem_flatten.mp hb
        obtain ⟨i, hi⟩ := List.mem_iff_getElem?.mp hy
        by_cases e : n = i
        · subst e
          by_cases hl : n < L.length
          · rw [List.getElem?_set_self hl] at hi
            cases hi
            cases hb
          · rw [List.getElem?_eq_none (by simp; omega)] at hi
            cases hi
        · rw [List.getElem?_set_ne e] at hi
          exact List.mem_flatten.mpr ⟨y, List.mem_of_getElem? hi, hb⟩
  unfold Al.all at *
  rw [List.nodup_append] at *
  obtain ⟨h1, h2, h3⟩ := hn
  exact ⟨key h1, h2, fun a ha b hb => h3 a (drop_flat A n a ha) b hb⟩
theorem StR.drop (s : StR G A S H) : StR G (A.drop n) (S.set n .dead) H := by
  refine ⟨by simp [Al.drop, s.len], drop_nd s.nd, fun a ha => ?_, fun i k o e1 e2 => ?_⟩
  · refine s.alive a ?_
    unfold Al.all at *
    rcases List.mem_append.mp ha with z | z
    · exact List.mem_append_left _ (drop_flat A n a z)
    · exact List.mem_append_right _ z
  · by_cases ei : n = i
    · subst ei
      by_cases hl : n < S.length
      · rw [List.getElem?_set_self hl] at e2
        cases e2
        trivial
      · rw [List.getElem?_eq_none (by simp; omega)] at e2
        cases e2
    · rw [List.getElem?_set_ne ei] at e2
      unfold Al.drop at e1
      simp only at e1
      rw [List.getElem?_set_ne ei] at e1
      exact (s.box i k o e1 e2).keep Ext.drop.kp fun _ _ => rfl
theorem drop_out (hn : A.all.Nodup) (h : A.live[n]? = some l) : ∀ a ∈ l, a ∉ (A.drop n).all := by
  intro a ha z
  have hn' := hn
  unfold Al.all at hn z
  rw [List.nodup_append] at hn
  rcases List.mem_append.mp z with z | z
  · obtain ⟨x, hx, hb⟩ := List.mem_flatten.mp z
    obtain ⟨i, hi⟩ := List.mem_iff_getElem?.mp hx
    unfold Al.drop at hi
    simp only at hi
    by_cases e : n = i
    · subst e
      rw [List.getElem?_set_self (List.getElem?_eq_some_iff.mp h).1] at hi
      cases hi
      cases hb
    · rw [List.getElem?_set_ne e] at hi
      exact e (nd_live hn' h hi ha hb)
  · exact hn.2.2 a (live_set h a ha) a z rfl
theorem dpures_rvs {fs : List (Option Dv)} {ts : List Dt} {ws : List (Option V)} (e : dpures fs = some ts) (h : RF G A H fs ws) : ∃ vs, SlIs ws vs ∧ RVs G A H ts vs := by
  induction fs generalizing ts ws with
  | nil =>
    cases e
    exact ⟨[], fun i v z => by simp at z, (rfl : ([] : List V) = [])⟩
  | cons f fs ih =>
    cases f with
    | none => cases e
    | some d =>
      cases d with
      | loc n => cases e
      | d t =>
        unfold dpures at e
        cases e1 : dpures fs with
        | none => rw [e1] at e; cases e
        | some us =>
          rw [e1] at e
          cases e
          obtain ⟨v, ev, rv⟩ := h 0 (.d t) rfl
          cases ws with
          | nil => simp at ev
          | cons w0 ws =>
            obtain ⟨vs, hi, hv⟩ := ih (ws := ws) e1 fun i d he => by
              have := h (i + 1) d (by simpa using he)
              simpa using this
            refine ⟨v :: vs, fun i u z => ?_, v, vs, rfl, rv, hv⟩
            cases i with
            | zero =>
              simp at z ev
              subst z
              simpa using ev
            | succ i =>
              have := hi i u (by simpa using z)
              simpa using this
theorem frz_po {d d' : Dv} {S' : Sto} {v : V} (s : StR G A S H) (r : RD G A H d v) (e : frz d S = some (d', S')) : ∃ A', Ext A H A' H ∧ StR G A' S' H ∧ RD G A' H d' v := by
  cases d with
  | d t =>
    cases e
    exact ⟨A, .refl, s, r⟩
  | loc n =>
    unfold frz at e
    simp only at e
    cases es : S[n]? with
    | none => rw [es] at e; cases e
    | some o =>
      rw [es] at e
      cases o with
      | lst xs =>
        simp only at e
        cases ep : pures xs with
        | none => rw [ep] at e; cases e
        | some ts =>
          rw [ep] at e
          cases e
          obtain ⟨a, vs, rfl, hl, ha, rv⟩ := loc_lst s r es
          exact ⟨A.drop n, .drop, s.drop, a, vs, rfl, ⟨ha, drop_out s.nd hl a (by simp)⟩, (pures_rvs ep rv).kp Ext.drop.kp⟩
      | dct ks xs =>
        simp only at e
        cases ep : pures xs with
        | none => rw [ep] at e; cases e
        | some ts =>
          rw [ep] at e
          cases e
          obtain ⟨a, kvs, rfl, hl, ha, ek, rv⟩ := loc_dct s r es
          exact ⟨A.drop n, .drop, s.drop, a, kvs, rfl, drop_out s.nd hl a (by simp), .inl ha, ek, (pures_rvs ep rv).kp Ext.drop.kp⟩
      | ins c fs =>
        simp only at e
        cases ep : dpures fs with
        | none => rw [ep] at e; cases e
        | some ts =>
          rw [ep] at e
          cases e
          obtain ⟨a, dx, ws, rfl, hl, ne, hs, hf⟩ := loc_ins s r es
          obtain ⟨vs, hi, hv⟩ := dpures_rvs ep hf
          obtain ⟨u, hu⟩ := s.alive dx (List.mem_append_left _ (live_set hl dx (by simp)))
          exact ⟨A.drop n, .drop, s.drop, a, dx, ws, vs, rfl, drop_out s.nd hl a (by simp), drop_out s.nd hl dx (by simp), ⟨u, hu⟩, hs, hi, hv.kp Ext.drop.kp⟩
      | dead => cases e
end
def mFrz (m : M Dv) : M Dv := fun ρ S => (m ρ S).bind fun d S1 => lift (frz d S1)
/-- .. what stands in slot i, ahead of the statements b -/
def sFrz (i : Nat) (b : SM) : SM := fun ρ S => match ρ[i]? with
  | some (some d) => (match frz d S with
    | some (d', S1) => b (ρ.set i (some d')) S1
    | none => .bad)
  | _ => .bad
theorem e_frz {X : Cx} {G : Gs} {W : WX} {e : Expr} {m : M Dv} (h : PE X e (tM G W m)) : PE X e (tM G W (mFrz m)) := by
  refine h.sm fun σ H Q h => ?_
  obtain ⟨A, ρ, S, he, hs, p0⟩ := h
  refine ⟨A, ρ, S, he, hs, Po.step p0 fun d S1 A1 H1 x1 s1 p1 v rv => ?_⟩
  cases e1 : frz d S1 with
  | none => rw [e1] at p1; exact p1.elim
  | some q =>
    obtain ⟨d', S2⟩ := q
    rw [e1] at p1
    obtain ⟨A2, x2, s2, r2⟩ := frz_po s1 rv e1
    exact Po.at p1 x2 s2 v r2
theorem ss_frz {X : Cx} {G : Gs} {W : WX} {i : Nat} {sts : List Stmt} {b : SM} (h : PSs X sts (tMS G W b)) : PSs X sts (tMS G W (sFrz i b)) := by
  refine h.sm fun D σ H h => ?_
  obtain ⟨A, ρ, S, he, hs, p0⟩ := h
  unfold sFrz at p0
  cases e0 : ρ[i]? with
  | none => rw [e0] at p0; exact p0.elim
  | some o =>
    rw [e0] at p0
    cases o with
    | none => exact p0.elim
    | some d =>
      simp only at p0
      cases e1 : frz d S with
      | none => rw [e1] at p0; exact p0.elim
      | some q =>
        obtain ⟨d', S2⟩ := q
        rw [e1] at p0
        obtain ⟨v, ev, rv⟩ := he.at_ i d e0
        obtain ⟨A2, x2, s2, r2⟩ := frz_po hs rv e1
        refine ⟨A2, ρ.set i (some d'), S2, ?_, s2, PoS.mono x2 p0⟩
        have h2 := (he.kp x2.kp).set (i := i) r2
        have e2 : σ.set i (some v) = σ := by
          apply List.ext_getElem?
          intro j
          by_cases hj : i = j
          · subst hj
            rw [List.getElem?_set_self (List.getElem?_eq_some_iff.mp ev).1, ev]
          · rw [List.getElem?_set_ne hj]
        rw [e2] at h2
        exact h2
end Sm
/-! Sm6: a call sees only what it is given; comprehensions. -/
namespace Sm
open PySem PySem.Spec PyProof.Rows L2

section
variable {G : Gs} {A A' A0 : Al} {H H' : Hp} {S S' : Sto}
/-- another reading of the same heap -/
theorem Kq.same (h : ∀ a, a ∉ A.all → a ∉ A'.all) : Kq A H A' H :=
  ⟨fun a u _ n r => ⟨r, h a n⟩, fun a u _ _ n r => ⟨r, h a n⟩, fun a u n r => ⟨⟨u, r⟩, h a n⟩⟩
theorem ExR.kq (x : Kq A H A' H') {c : Nat} {t : Dt} {cls : Value} {d : Option Addr} (h : ExR G A H c t cls d) : ExR G A' H' c t cls d := by
  obtain ⟨e, h⟩ := h
  refine ⟨e, ?_⟩
  rcases h with h | ⟨a, f, v, e1, e2, n, e3, r⟩
  · exact .inl h
  · obtain ⟨h1, n1⟩ := x.ex a _ nf_xd lk_xd n e3
    exact .inr ⟨a, f, v, e1, e2, n1, h1, RV.kq x r⟩
theorem pures_map : ∀ {ds : List Dv} {ts : List Dt}, pures ds = some ts → ds = ts.map .d
  | [], ts, e => by cases e; rfl
  | .d t :: ds, ts, e => by
    unfold pures at e
    cases e1 : pures ds with
    | none => rw [e1] at e; cases e
    | some us =>
      rw [e1] at e
      cases e
      simp [pures_map e1]
  | .loc n :: ds, ts, e => by cases e
theorem rds_pure {xs : List Dv} {vs : List V} (h : (pures xs).isSome = true) (x : Kq A H A' H') (r : RDs G A H xs vs) : RDs G A' H' xs vs := by
  cases e : pures xs with
  | none => rw [e] at h; cases h
  | some ts =>
    have r2 := RVs.kq x (pures_rvs e r)
    rw [pures_map e]
    exact r2.rds
theorem StR.alive' (s : StR G A S H) {a : Addr} {i : Nat} {l : List Addr} (h : A.live[i]? = some l) (ha : a ∈ l) : ∃ u, H a = some u := s.alive a (List.mem_append_left _ (live_set h a ha))
end
/-! ### alone -/
def iso (F : FM) : FM := fun ds S => match pures ds with
  | some _ => (match F ds [] with
    | .ok (.d t) _ => .ok (.d t) S
    | .er c t _ => .er c t S
    | _ => .bad)
  | none => .bad
theorem SpM.iso {G : Gs} {F : FM} {vs : List V} {H : Hp} {Q : VK} {E : XK} (h : SpM G (iso F) vs H Q E) : SpM G F vs H Q E := by
  obtain ⟨A, S, ds, r, s, p⟩ := h
  unfold Sm.iso at p
  cases ep : pures ds with
  | none => rw [ep] at p; exact p.elim
  | some ts =>
    rw [ep] at p
    have eall : ∀ a, a ∈ (⟨[], A.all⟩ : Al).all ↔ a ∈ A.all := fun a => by simp [Al.all]
    have s0 : StR G ⟨[], A.all⟩ [] H := ⟨rfl, by simpa [Al.all] using s.nd, fun a ha => s.alive a ((eall a).mp ha), fun i l o e => by simp at e⟩
    have r0 : RDs G ⟨[], A.all⟩ H ds vs := rds_pure (by rw [ep]; rfl) (Kq.same fun a n z => n ((eall a).mp z)) r
    refine ⟨⟨[], A.all⟩, [], ds, r0, s0, ?_⟩
    have key : ∀ A' H', Ext ⟨[], A.all⟩ H A' H' → Ext A H A H' ∧ StR G A S H' ∧ ∀ a, a ∉ A'.all → a ∉ A.all := by
      intro A' H' x
      have kp : ∀ a u, H a = some u → a ∈ A.all → H' a = some u := fun a u e m => x.keepH a u e (by simp) m
      have x1 : Ext A H A H' := ⟨fun _ _ e => .inl e, fun _ _ _ _ => Iff.rfl, fun a u e n => ⟨(x.keep a u e (by simp)).1, n⟩, fun a u e n m => kp a u e (List.mem_append_right _ m)⟩
      refine ⟨x1, ⟨s.len, s.nd, fun a ha => ?_, fun i l o e1 e2 => (s.box i l o e1 e2).keep x1.kp fun a ha => ?_⟩, fun a n z => ?_⟩
      · obtain ⟨u, e⟩ := s.alive a ha
        exact ⟨u, kp a u e ha⟩
      · obtain ⟨u, e⟩ := s.alive' e1 ha
        rw [kp a u e (List.mem_append_left _ (live_set e1 a ha)), e]
      · obtain ⟨u, e⟩ := s.alive a z
        exact (mem_all.mp n).2 ((x.hid a u e (by simp)).mpr z)
    cases eF : F ds [] with
    | bad => rw [eF] at p; exact p.elim
    | er c t S1 =>
      rw [eF] at p
      intro A' H' cls d x s1 e
      obtain ⟨x1, s2, sub⟩ := key A' H' x
      exact p A H' cls d x1 s2 (e.kq (Kq.same sub))
    | ok d S1 =>
      rw [eF] at p
      cases d with
      | loc n => exact p.elim
      | d t =>
        intro A' H' x s1 v rv
        obtain ⟨x1, s2, sub⟩ := key A' H' x
        exact p A H' x1 s2 v (RV.kq (t := t) (Kq.same sub) rv)
/-! ### one box is handed on -/
def pureB (b : Bo) : Bool := match b with
  | .lst xs => (pures xs).isSome
  | .dct _ xs => (pures xs).isSome
  | .ins _ fs => fs.all fun o => match o with
    | none => true
    | some (.d _) => true
    | _ => false
  | .dead => false
theorem rb_pure {G : Gs} {A A' : Al} {H H' : Hp} {l : List Addr} {b : Bo} (hp : pureB b = true) (x : Kq A H A' H') (hl : ∀ a ∈ l, H' a = H a) (h : RB G A H l b) : RB G A' H' l b := by
  cases b with
  | lst xs =>
    obtain ⟨a, vs, rfl, e, r⟩ := h
    exact ⟨a, vs, rfl, (hl a (by simp)).trans e, rds_pure hp x r⟩
  | dct ks xs =>
    obtain ⟨a, vs, rfl, e, ek, r⟩ := h
    exact ⟨a, vs, rfl, (hl a (by simp)).trans e, ek, rds_pure hp x r⟩
  | ins c fs =>
    obtain ⟨a, dx, ws, rfl, e, r⟩ := h
    refine ⟨a, dx, ws, rfl, ?_, fun i d hd => ?_⟩
    · rcases e with ⟨e, hw⟩ | ⟨e, e2⟩
      · exact .inl ⟨(hl a (by simp)).trans e, hw⟩
      · exact .inr ⟨(hl a (by simp)).trans e, (hl dx (by simp)).trans e2⟩
    · obtain ⟨v, ev, rv⟩ := r i d hd
      refine ⟨v, ev, ?_⟩
      have hm : some d ∈ fs := List.mem_of_getElem? hd
      have := List.all_eq_true.mp hp _ hm
      cases d with
      | d t => exact RV.kq (t := t) x rv
      | loc n => simp at this
  | dead => cases hp
def view (F : FM) : FM := fun ds S => match ds with
  | .loc n :: r => (match pures r, S[n]? with
    | some _, some o => if pureB o = true then (match F (.loc 0 :: r) [o] with
      | .ok (.d t) (o' :: _) => if pureB o' = true then .ok (.d t) (S.set n o') else .bad
      | .er c t (o' :: _) => if pureB o' = true then .er c t (S.set n o') else .bad
      | _ => .bad) else .bad
    | _, _ => .bad)
  | _ => .bad
theorem SpM.view {G : Gs} {F : FM} {vs : List V} {H : Hp} {Q : VK} {E : XK} (h : SpM G (view F) vs H Q E) : SpM G F vs H Q E := by
  obtain ⟨A, S, ds, r, s, p⟩ := h
  cases r with
  | nil => exact p.elim
  | @cons d v ds' vs' rd rr =>
    cases d with
    | d t => exact p.elim
    | loc n =>
      unfold Sm.view at p
      simp only at p
      cases ep : pures ds' with
      | none => rw [ep] at p; exact p.elim
      | some ts =>
        cases eo : S[n]? with
        | none => rw [ep, eo] at p; exact p.elim
        | some o =>
          rw [ep, eo] at p
          simp only at p
          by_cases hpo : pureB o = true
          · simp only [hpo, if_true] at p
            obtain ⟨l, hl, fl⟩ := rd
            have hbox := s.box n l o hl eo
            have hin : ∀ a, a ∈ (⟨[l], (A.drop n).all⟩ : Al).all ↔ a ∈ A.all := by
              intro a
              unfold Al.all
              simp only [List.flatten_cons, List.flatten_nil, List.append_nil, List.mem_append]
              constructor
              · rintro (h | h | h)
                · exact .inl (live_set hl a h)
                · exact .inl (drop_flat A n a h)
                · exact .inr h
              · rintro (h | h)
                · obtain ⟨x, hx, hb⟩ := List.mem_flatten.mp h
                  obtain ⟨i, hi⟩ := List.mem_iff_getElem?.mp hx
                  by_cases e : n = i
                  · subst e
                    rw [hl] at hi
                    cases hi
                    exact .inl hb
                  · refine .inr (.inl (List.mem_flatten.mpr ⟨x, ?_, hb⟩))
                    unfold Al.drop
                    simp only
                    exact List.mem_of_getElem? (i := i) (by rw [List.getElem?_set_ne e]; exact hi)
                · exact .inr (.inr h)
            have hlnd : l.Nodup := by
              have hn := s.nd
              unfold Al.all at hn
              rw [List.nodup_append] at hn
              exact (nd_flat hn.1).1 _ (List.mem_of_getElem? hl)
            have hnd : (⟨[l], (A.drop n).all⟩ : Al).all.Nodup := by
              show (([l] : List (List Addr)).flatten ++ (A.drop n).all).Nodup
              simp only [List.flatten_cons, List.flatten_nil, List.append_nil]
              rw [List.nodup_append]
              exact ⟨hlnd, drop_nd s.nd, fun a ha b hb e => drop_out s.nd hl a ha (by rw [e]; exact hb)⟩
            have k0 : Kq A H ⟨[l], (A.drop n).all⟩ H := Kq.same fun a n z => n ((hin a).mp z)
            have s0 : StR G ⟨[l], (A.drop n).all⟩ [o] H := by
              refine ⟨rfl, hnd, fun a ha => s.alive a ((hin a).mp ha), fun i l' o' e1 e2 => ?_⟩
              cases i with
              | zero =>
                simp at e1 e2
                subst e1 e2
                exact rb_pure hpo k0 (fun _ _ => rfl) hbox
              | succ i => simp at e1
            have r0 : RDs G ⟨[l], (A.drop n).all⟩ H (.loc 0 :: ds') (v :: vs') := .cons ⟨l, rfl, fl⟩ (rds_pure (by rw [ep]; rfl) k0 rr)
            refine ⟨_, [o], _, r0, s0, ?_⟩
            have key : ∀ A' H' o' rest, Ext ⟨[l], (A.drop n).all⟩ H A' H' → StR G A' (o' :: rest) H' → pureB o' = true → Ext A H A H' ∧ StR G A (S.set n o') H' ∧ ∀ a, a ∉ A'.all → a ∉ A.all := by
              intro A' H' o' rest x s1 hp'
              have kp : ∀ a u, H a = some u → a ∉ l → a ∈ A.all → H' a = some u := fun a u e hn hm => x.keepH a u e (by simpa using hn) (by
                have z := (hin a).mpr hm
                rcases List.mem_append.mp z with z | z
                · simp at z
                  exact absurd z hn
                · exact z)
              have x1 : Ext A H A H' := ⟨fun _ _ e => .inl e, fun _ _ _ _ => Iff.rfl, fun a u e m => ⟨(x.keep a u e (by simpa using fun z => m (live_set hl a z))).1, m⟩, fun a u e m hm => kp a u e (fun z => m (live_set hl a z)) (List.mem_append_right _ hm)⟩
              have hl' : A'.live[0]? = some l := by
                rcases x.live 0 l rfl with z | z
                · exact z
                · exfalso
                  have b0 := s1.box 0 [] o' z rfl
                  cases o' with
                  | lst xs => obtain ⟨a, vs, e, _⟩ := b0; cases e
                  | dct ks xs => obtain ⟨a, vs, e, _⟩ := b0; cases e
                  | ins c fs => obtain ⟨a, dx, vs, e, _⟩ := b0; cases e
                  | dead => cases hp'
              have sub : ∀ a, a ∉ A'.all → a ∉ A.all := by
                intro a m z
                have z2 := (hin a).mpr z
                rcases List.mem_append.mp z2 with z3 | z3
                · simp at z3
                  exact m (List.mem_append_left _ (live_set hl' a z3))
                · obtain ⟨u, e⟩ := s.alive a z
                  by_cases hal : a ∈ l
                  · exact m (List.mem_append_left _ (live_set hl' a hal))
                  · exact (mem_all.mp m).2 ((x.hid a u e (by simpa using hal)).mpr z3)
              have hbox' : RB G A H' l o' := rb_pure hp' (Kq.same sub) (fun _ _ => rfl) (s1.box 0 l o' hl' rfl)
              refine ⟨x1, ⟨by simp [s.len], s.nd, fun a ha => ?_, fun i k b e1 e2 => ?_⟩, sub⟩
              · by_cases hal : a ∈ l
                · exact s1.alive' hl' hal
                · obtain ⟨u, e⟩ := s.alive a ha
                  exact ⟨u, kp a u e hal ha⟩
              · by_cases ei : n = i
                · subst ei
                  have hlt : n < S.length := (List.getElem?_eq_some_iff.mp eo).1
                  rw [List.getElem?_set_self hlt] at e2
                  cases e2
                  rw [hl] at e1
                  cases e1
                  exact hbox'
                · rw [List.getElem?_set_ne ei] at e2
                  refine (s.box i k b e1 e2).keep x1.kp fun a ha => ?_
                  obtain ⟨u, e⟩ := s.alive' e1 ha
                  rw [kp a u e (fun z => ei (nd_live s.nd hl e1 z ha)) (List.mem_append_left _ (live_set e1 a ha)), e]
            cases eF : F (.loc 0 :: ds') [o] with
            | bad => rw [eF] at p; exact p.elim
            | er c t S1 =>
              rw [eF] at p
              cases S1 with
              | nil => exact p.elim
              | cons o' rest =>
                simp only at p
                by_cases hp' : pureB o' = true
                · simp only [hp', if_true] at p
                  intro A' H' cls d x s1 e
                  obtain ⟨x1, s2, sub⟩ := key A' H' o' rest x s1 hp'
                  exact p A H' cls d x1 s2 (e.kq (Kq.same sub))
                · simp only [hp'] at p
                  exact p.elim
            | ok d S1 =>
              rw [eF] at p
              cases d with
              | loc m => exact p.elim
              | d t =>
                cases S1 with
                | nil => exact p.elim
                | cons o' rest =>
                  simp only at p
                  by_cases hp' : pureB o' = true
                  · simp only [hp', if_true] at p
                    intro A' H' x s1 v' rv
                    obtain ⟨x1, s2, sub⟩ := key A' H' o' rest x s1 hp'
                    exact p A H' x1 s2 v' (RV.kq (t := t) (Kq.same sub) rv)
                  · simp only [hp'] at p
                    exact p.elim
          · simp only [hpo] at p
            exact p.elim
theorem CallW.isoF {P : Program} {w : World} {G : Gs} {mg : Str → Option Value} {base : Heap} {k : Nat} {f : Addr} {n : Nat} {ks : List Str} {F : FM} (h : CallW P w G mg base k f n ks F) : CallW P w G mg base k f n ks (iso F) := h.imp fun _ _ _ _ q => q.iso
theorem CallW.viewF {P : Program} {w : World} {G : Gs} {mg : Str → Option Value} {base : Heap} {k : Nat} {f : Addr} {n : Nat} {ks : List Str} {F : FM} (h : CallW P w G mg base k f n ks F) : CallW P w G mg base k f n ks (view F) := h.imp fun _ _ _ _ q => q.view
/-- another function, equal wherever it promises something -/
def FLe (F' F : FM) : Prop := ∀ ds S, F' ds S = .bad ∨ F' ds S = F ds S
theorem CallW.le {P : Program} {w : World} {G : Gs} {mg : Str → Option Value} {base : Heap} {k : Nat} {f : Addr} {n : Nat} {ks : List Str} {F F' : FM} (h : CallW P w G mg base k f n ks F) (l : FLe F' F) : CallW P w G mg base k f n ks F' := h.imp fun vs H Q E q => by
  obtain ⟨A, S, ds, r, s, p⟩ := q
  rcases l ds S with e | e
  · rw [e] at p
    exact p.elim
  · rw [e] at p
    exact ⟨A, S, ds, r, s, p⟩
end Sm
/-! Sm7: comprehensions. -/
namespace Sm
open PySem PySem.Spec PyProof.Rows L2

/-- no exception leaves a comprehension -/
def nox {α : Type} (r : Rz α) : Rz α := match r with
  | .ok a S => .ok a S
  | _ => .bad
@[simp] theorem nox_ok {α : Type} {a : α} {S : Sto} : nox (.ok a S) = .ok a S := rfl
@[simp] theorem nox_bad {α : Type} : nox (.bad : Rz α) = .bad := rfl
theorem Po.nox {α : Type} {G : Gs} {E E' : XK} {A : Al} {H : Hp} {r : Rz α} {k : Al → Hp → α → Prop} (h : Po G E A H (nox r) k) : Po G E' A H r k := by
  cases r with
  | ok a S => exact h
  | er c t S => exact h.elim
  | bad => exact h
def wipeE (ρ : Env) : List Nat → Env
  | [] => ρ
  | v :: vs => (wipeE ρ vs).set v none
theorem EnvR.wipe {G : Gs} {A : Al} {H : Hp} {ρ : Env} {σ : L2.St} (h : EnvR G A H ρ σ) : ∀ vs, EnvR G A H (wipeE ρ vs) (wipe σ vs)
  | [] => h
  | v :: vs => by
    have ih := EnvR.wipe h vs
    refine ⟨by show ((wipeE ρ vs).set v none).length = ((L2.wipe σ vs).set v none).length; simp [ih.len], fun i d e => ?_⟩
    have e' : ((wipeE ρ vs).set v none)[i]? = some (some d) := e
    by_cases hv : v = i
    · subst hv
      by_cases hl : v < (wipeE ρ vs).length
      · rw [List.getElem?_set_self hl] at e'
        cases e'
      · rw [List.getElem?_eq_none (by simp; omega)] at e'
        cases e'
    · rw [List.getElem?_set_ne hv] at e'
      obtain ⟨u, eu, r⟩ := ih.at_ i d e'
      exact ⟨u, by show ((L2.wipe σ vs).set v none)[i]? = _; rw [List.getElem?_set_ne hv]; exact eu, r⟩
/-- slots outside of L alone are kept: the wiped slots are the same -/
theorem wipe_same {σ σ' : L2.St} {vs L : List Nat} (hL : ∀ i ∈ L, i ∈ vs) (hk : ∀ j : Nat, j ∉ L → σ'[j]? = σ[j]?) (hl : σ'.length = σ.length) : L2.wipe σ' vs = L2.wipe σ vs := by
  apply List.ext_getElem?
  intro j
  by_cases hj : j ∈ vs
  · have key : ∀ (τ : L2.St) (ws : List Nat), j ∈ ws → j < τ.length → (L2.wipe τ ws)[j]? = some none := by
      intro τ ws
      induction ws with
      | nil => intro h; cases h
      | cons w ws ih =>
        intro h hlt
        show ((L2.wipe τ ws).set w none)[j]? = some none
        by_cases e : w = j
        · subst e
          rw [List.getElem?_set_self (by rw [wipe_length]; exact hlt)]
        · rw [List.getElem?_set_ne e]
          exact ih (by rcases List.mem_cons.mp h with z | z; exact absurd z.symm e; exact z) hlt
    by_cases hlt : j < σ.length
    · rw [key σ vs hj hlt, key σ' vs hj (by rw [hl]; exact hlt)]
    · rw [List.getElem?_eq_none (by rw [wipe_length]; omega), List.getElem?_eq_none (by rw [wipe_length]; omega)]
  · rw [wipe_out hj, wipe_out hj]
    exact hk j fun z => hj (hL j z)
/-! ### hiding -/
def Al.hide (A : Al) (D : Addr) : Al := ⟨A.live, D :: A.hid⟩
def Al.show_ (A : Al) (D : Addr) : Al := ⟨A.live, A.hid.filter fun a => decide (a ≠ D)⟩
section
variable {G : Gs} {A A' : Al} {H H' : Hp} {S : Sto} {D : Addr} {o : HO}
theorem Ext.hide (h : H D = none) : Ext A H (A.hide D) (upd H D o) :=
  ⟨fun _ _ e => .inl e, fun a u e _ => ⟨fun z => by
    rcases List.mem_cons.mp z with z | z
    · exact absurd z (ne_of_none e h)
    · exact z, fun z => List.mem_cons_of_mem _ z⟩, fun a u e n => ⟨.inl (upd_old h e), n⟩, fun a u e _ _ => upd_old h e⟩
theorem hide_all {a : Addr} : a ∈ (A.hide D).all ↔ a = D ∨ a ∈ A.all := by
  unfold Al.hide Al.all
  simp only [List.mem_append, List.mem_cons]
  constructor
  · rintro (h | h | h)
    · exact .inr (.inl h)
    · exact .inl h
    · exact .inr (.inr h)
  · rintro (h | h | h)
    · exact .inr (.inl h)
    · exact .inl h
    · exact .inr (.inr h)
theorem StR.hide (s : StR G A S H) (h : H D = none) : StR G (A.hide D) S (upd H D o) := by
  have hD := s.out h
  refine ⟨s.len, ?_, fun a ha => ?_, fun i l b e1 e2 => (s.box i l b e1 e2).keep (Ext.hide h).kp fun a ha => ?_⟩
  · have hn := s.nd
    unfold Al.hide Al.all at *
    simp only at *
    rw [List.nodup_append] at *
    obtain ⟨n1, n2, n3⟩ := hn
    refine ⟨n1, List.nodup_cons.mpr ⟨fun z => hD (List.mem_append_right _ z), n2⟩, fun a ha b hb e => ?_⟩
    rcases List.mem_cons.mp hb with z | z
    · subst e z
      exact hD (List.mem_append_left _ ha)
    · exact n3 a ha b z e
  · rcases hide_all.mp ha with z | z
    · subst z
      exact ⟨_, upd_same⟩
    · obtain ⟨u, e⟩ := s.alive a z
      exact ⟨u, upd_old h e⟩
  · obtain ⟨u, e⟩ := s.alive' e1 ha
    rw [upd_old h e, e]
/-- what is hidden changes -/
theorem kp_poke (hD : D ∈ A.hid) : Kp A H A (upd H D o) := by
  have hne : ∀ a, a ∉ A.all → a ≠ D := fun a n z => n (by rw [z]; exact List.mem_append_right _ hD)
  refine ⟨⟨fun a u _ n r => ⟨?_, n⟩, fun a u _ _ n r => ⟨by rw [upd_ne (hne a n)]; exact r, n⟩, fun a u n r => ⟨⟨u, by rw [upd_ne (hne a n)]; exact r⟩, n⟩⟩, fun _ _ e => .inl e⟩
  rcases r with r | ⟨ob, r⟩
  · exact .inl (by rw [upd_ne (hne a n)]; exact r)
  · exact .inr ⟨ob, by rw [upd_ne (hne a n)]; exact r⟩
theorem StR.poke (s : StR G A S H) (hD : D ∈ A.hid) : StR G A S (upd H D o) := by
  refine ⟨s.len, s.nd, fun a ha => ?_, fun i l b e1 e2 => (s.box i l b e1 e2).keep (kp_poke hD) fun a ha => ?_⟩
  · by_cases e : a = D
    · subst e
      exact ⟨_, upd_same⟩
    · rw [upd_ne e]
      exact s.alive a ha
  · have hn := s.nd
    unfold Al.all at hn
    rw [List.nodup_append] at hn
    exact upd_ne (hn.2.2 a (live_set e1 a ha) D hD)
theorem show_all {a : Addr} : a ∈ (A.show_ D).all → a ∈ A.all := by
  unfold Al.show_ Al.all
  simp only [List.mem_append, List.mem_filter]
  rintro (h | ⟨h, _⟩)
  · exact .inl h
  · exact .inr h
theorem kp_show : Kp A H (A.show_ D) H :=
  ⟨Kq.same fun a n z => n (show_all z), fun _ _ e => .inl e⟩
theorem StR.show_ (s : StR G A S H) : StR G (A.show_ D) S H := by
  refine ⟨s.len, ?_, fun a ha => s.alive a (show_all ha), fun i l b e1 e2 => (s.box i l b e1 e2).keep kp_show fun _ _ => rfl⟩
  have hn := s.nd
  unfold Al.show_ Al.all at *
  simp only at *
  rw [List.nodup_append] at *
  obtain ⟨n1, n2, n3⟩ := hn
  exact ⟨n1, n2.filter _, fun a ha b hb => n3 a ha b (List.mem_filter.mp hb).1⟩
theorem show_out (s : StR G A S H) (hD : D ∈ A.hid) : D ∉ (A.show_ D).all := by
  intro z
  have hn := s.nd
  unfold Al.show_ Al.all at z
  unfold Al.all at hn
  rw [List.nodup_append] at hn
  simp only [List.mem_append, List.mem_filter] at z
  rcases z with z | ⟨_, z⟩
  · exact hn.2.2 D z D hD rfl
  · simp at z
/-- all that happened but at D, which was new -/
structure ExtB (D : Addr) (A : Al) (H : Hp) (A' : Al) (H' : Hp) : Prop where
  live : ∀ (i : Nat) (l : List Addr), A.live[i]? = some l → A'.live[i]? = some l ∨ A'.live[i]? = some []
  hid : ∀ a u, a ≠ D → H a = some u → a ∉ A.live.flatten → (a ∈ A'.hid ↔ a ∈ A.hid)
  keep : ∀ a u, a ≠ D → H a = some u → a ∉ A.live.flatten → Fz u (H' a) ∧ a ∉ A'.live.flatten
  keepH : ∀ a u, a ≠ D → H a = some u → a ∉ A.live.flatten → a ∈ A.hid → H' a = some u
  inH : D ∈ A'.hid
theorem ExtB.start : ExtB D A H (A.hide D) (upd H D o) :=
  ⟨fun _ _ e => .inl e, fun a u ne e _ => ⟨fun z => by
    rcases List.mem_cons.mp z with z | z
    · exact absurd z ne
    · exact z, fun z => List.mem_cons_of_mem _ z⟩, fun a u ne e n => ⟨.inl (by rw [upd_ne ne]; exact e), n⟩, fun a u ne e _ _ => by rw [upd_ne ne]; exact e, List.mem_cons_self⟩
theorem ExtB.step {A1 : Al} {H1 : Hp} (x : ExtB D A H A1 H1) (y : Ext A1 H1 A' H') (s : StR G A1 S H1) : ExtB D A H A' H' := by
  refine ⟨fun i l e => ?_, fun a u ne e n => ?_, fun a u ne e n => ?_, fun a u ne e n m => ?_, ?_⟩
  · rcases x.live i l e with z | z
    · exact y.live i l z
    · rcases y.live i [] z with z | z
      · exact .inr z
      · exact .inr z
  · obtain ⟨h1, n1⟩ := x.keep a u ne e n
    obtain ⟨v, hv⟩ := h1.there
    exact (y.hid a v hv n1).trans (x.hid a u ne e n)
  · obtain ⟨h1, n1⟩ := x.keep a u ne e n
    obtain ⟨v, hv⟩ := h1.there
    obtain ⟨h2, n2⟩ := y.keep a v hv n1
    rw [hv] at h1
    exact ⟨h1.step h2, n2⟩
  · exact y.keepH a u (x.keepH a u ne e n m) (x.keep a u ne e n).2 ((x.hid a u ne e n).mpr m)
  · obtain ⟨u, e⟩ := s.alive D (List.mem_append_right _ x.inH)
    have hn := s.nd
    unfold Al.all at hn
    rw [List.nodup_append] at hn
    exact (y.hid D u e fun z => hn.2.2 D z D x.inH rfl).mpr x.inH
theorem ExtB.poke {A1 : Al} {H1 : Hp} (x : ExtB D A H A1 H1) : ExtB D A H A1 (upd H1 D o) :=
  ⟨x.live, x.hid, fun a u ne e n => ⟨by rw [upd_ne ne]; exact (x.keep a u ne e n).1, (x.keep a u ne e n).2⟩, fun a u ne e n m => by rw [upd_ne ne]; exact x.keepH a u ne e n m, x.inH⟩
theorem ExtB.done {A1 : Al} {H1 : Hp} (x : ExtB D A H A1 H1) (h : H D = none) : Ext A H (A1.show_ D) H1 :=
  ⟨x.live, fun a u e n => by
    have ne := ne_of_none e h
    unfold Al.show_
    simp only [List.mem_filter]
    exact ⟨fun z => (x.hid a u ne e n).mp z.1, fun z => ⟨(x.hid a u ne e n).mpr z, by simpa using ne⟩⟩, fun a u e n => x.keep a u (ne_of_none e h) e n, fun a u e n m => x.keepH a u (ne_of_none e h) e n m⟩
/-- a walk goes on beside D -/
theorem Ext.ofB {A1 : Al} {H1 : Hp} (x : ExtB D A H A1 H1) (h : H D = none) : Ext A H A1 H1 :=
  ⟨x.live, fun a u e n => x.hid a u (ne_of_none e h) e n, fun a u e n => x.keep a u (ne_of_none e h) e n, fun a u e n m => x.keepH a u (ne_of_none e h) e n m⟩
/-- D stands while it is hidden -/
theorem hid_keep (s : StR G A S H) (hD : D ∈ A.hid) (x : Ext A H A' H') : H' D = H D := by
  obtain ⟨u, e⟩ := s.alive D (List.mem_append_right _ hD)
  have hn := s.nd
  unfold Al.all at hn
  rw [List.nodup_append] at hn
  rw [x.keepH D u e (fun z => hn.2.2 D z D hD rfl) hD, e]
end
/-! ### list comprehensions -/
def bz {α β : Type} (o : Option α) (f : α → Rz β) : Rz β := match o with
  | some a => f a
  | none => .bad
def lcL (g : GM) (c : M Bool) (e : M Dv) (ρ : Env) : List Dt → Sto → Rz (List Dv)
  | [], S => .ok [] S
  | t :: ts, S => bz (g (.d t) ρ) fun ρ1 => (nox (c ρ1 S)).bind fun k S1 => if k = true then (nox (e ρ1 S1)).bind fun d S2 => (lcL g c e ρ ts S2).bind fun ds S3 => .ok (d :: ds) S3 else lcL g c e ρ ts S1
def cYes : M Bool := fun _ S => .ok true S
/-- the items of the new list -/
def mLcI (vs : List Nat) (it : M (List Dt)) (g : GM) (c : M Bool) (e : M Dv) : M (List Dv) := fun ρ S => (it ρ S).bind fun ts S1 => if ts.length ≤ 16777216 then lcL g c e (wipeE ρ vs) ts S1 else .bad
def mLc (vs : List Nat) (it : M (List Dt)) (g : GM) (c : M Bool) (e : M Dv) : M Dv := mN pLst (mLcI vs it g c e)
def mLcB (vs : List Nat) (it : M (List Dt)) (g : GM) (c : M Bool) (e : M Dv) : M Dv := mN pLstB (mLcI vs it g c e)
theorem Po.bz {α β : Type} {G : Gs} {E : XK} {A : Al} {H : Hp} {o : Option α} {f : α → Rz β} {k : Al → Hp → β → Prop} (h : Po G E A H (bz o f) k) : ∃ a, o = some a ∧ Po G E A H (f a) k := by
  cases o with
  | none => exact h.elim
  | some a => exact ⟨a, rfl, h⟩
section
variable {X : Cx} {G : Gs} {W : WX} {kk : Nat} {elt tg iter : Expr} {ifs : List Expr} {scope : Scope} {own : List (Str × Nat)} {pos : Pos} {it : M (List Dt)} {g : GM} {t : TG} {L : List Nat} {cm : M Bool} {em : M Dv}
theorem ts_nil {X : Cx} : PTs X [] (tMT G W0 cYes) := by
  refine ⟨fun pins s σ H Q I h => ?_⟩
  obtain ⟨A, ρ, S, he, hs, p⟩ := h
  exact pts_nil.run pins s σ H Q I (Po.now p hs)
theorem ts_one {X : Cx} {c : Expr} (h : PT X c (tMT G W0 cm)) : PTs X [c] (tMT G W0 cm) := pts_one h
/-- the loop: what it asks, by a mirror whose end is k -/
theorem lc_loop {σ : L2.St} {H1 : Hp} {A1 : Al} {ρ : Env} {S1 : Sto} {ts : List Dt} {J : It} {D : Addr} {E : XK} {vs : List Nat} {Fin : Hp → Prop} (hgs : TgS G t g L) (hL : ∀ i ∈ L, i ∈ vs) (wk : Wk G J A1 H1 ts) (he : EnvR G A1 H1 ρ σ) (hs : StR G A1 S1 H1) (hD : H1 D = none) (hlen : ts.length ≤ 16777216)
    {kf : List Dv → Sto → Rz Dv} {Qf : Al → Hp → Dv → Prop}
    (p : Po G E A1 H1 ((lcL g cm em (wipeE ρ vs) ts S1).bind kf) Qf)
    (hfin : ∀ ds ws S' A' H', StR G A' S' H' → ExtB D A1 H1 A' H' → H' D = some (.lst ws) → RDs G A' H' ds ws → Po G E A1 H1 (kf ds S') Qf → Fin H') :
    ∃ W : Nat → Nat → Hp → Prop, (∃ m, W 0 m (upd H1 D (.lst []))) ∧ ∀ i m H, W i m H →
      (J.stop i H ∧ Fin H) ∨ (J.go i H ∧ ∃ Nx : Hp → Prop, (∀ H', Nx H' → ∃ m', m' < m ∧ W (i + 1) m' H') ∧ ∀ x H', J.yld i H x H' → t x (wipe σ vs) H' fun σ2 H2 => wipe σ2 vs = wipe σ vs ∧ tMT G W0 cm σ2 H2 fun b H3 =>
        if b = true then tM G W0 em σ2 H3 fun y H4 => ∃ acc, H4 D = some (.lst acc) ∧ acc.length < sizeLine ∧ Nx (upd H4 D (.lst (acc ++ [y]))) else Nx H3) := by
  let Inw : Nat → Hp → Prop := fun i H' => ∃ A' S' ds ws, StR G A' S' H' ∧ ExtB D A1 H1 A' H' ∧ H' D = some (.lst ws) ∧ RDs G A' H' ds ws ∧ ws.length ≤ i ∧ i ≤ ts.length ∧
    Po G E A1 H1 ((lcL g cm em (wipeE ρ vs) (ts.drop i) S').bind fun es S'' => kf (ds ++ es) S'') Qf
  refine ⟨fun i m H' => m = ts.length - i ∧ Inw i H', ⟨_, rfl, A1.hide D, S1, [], [], hs.hide hD, .start, upd_same, .nil, Nat.le_refl _, Nat.zero_le _, ?_⟩, fun i m H' hW => ?_⟩
  · simpa using p
  · obtain ⟨hm, A', S', ds, ws, s', x', hDw, rds, hwl, hi, q⟩ := hW
    by_cases hlt : i < ts.length
    · refine .inr ⟨wk.go i A' H' hlt (.ofB x' hD), Inw (i + 1), fun H2 hN => ⟨ts.length - (i + 1), by omega, rfl, hN⟩, fun x H2 hy => ?_⟩
      obtain ⟨d, ed, xy, sy, rv⟩ := wk.yld i A' H' S' x H2 hlt (.ofB x' hD) s' hy
      have hd : ts.drop i = d :: ts.drop (i + 1) := by
        rw [List.drop_eq_getElem_cons hlt]
        rw [List.getElem?_eq_getElem hlt] at ed
        cases ed
        rfl
      rw [hd] at q
      unfold lcL at q
      cases eg : g (.d d) (wipeE ρ vs) with
      | none => rw [eg] at q; exact q.elim
      | some ρ1 =>
        rw [eg] at q
        have x2 := x'.step xy s'
        have hw : EnvR G A' H2 (wipeE ρ vs) (wipe σ vs) := (he.kp (Ext.ofB x2 hD).kp).wipe vs
        refine hgs A' S' _ ρ1 (wipe σ vs) H2 (.d d) x _ hw sy rv eg fun σ2 he2 hk2 hl2 => ?_
        refine ⟨?_, ?_⟩
        · have z := wipe_same (σ := wipe σ vs) (σ' := σ2) hL hk2 hl2
          rw [z]
          apply List.ext_getElem?
          intro j
          by_cases hj : j ∈ vs
          · have key : ∀ (τ : L2.St) (us : List Nat), j ∈ us → j < τ.length → (L2.wipe τ us)[j]? = some none := by
              intro τ us
              induction us with
              | nil => intro h; cases h
              | cons w us ih =>
                intro h hlt
                show ((L2.wipe τ us).set w none)[j]? = some none
                by_cases e : w = j
                · subst e
                  rw [List.getElem?_set_self (by rw [wipe_length]; exact hlt)]
                · rw [List.getElem?_set_ne e]
                  exact ih (by rcases List.mem_cons.mp h with z | z; exact absurd z.symm e; exact z) hlt
            by_cases hl : j < σ.length
            · rw [key σ vs hj hl, key (L2.wipe σ vs) vs hj (by rw [wipe_length]; exact hl)]
            · rw [List.getElem?_eq_none (by rw [wipe_length, wipe_length]; omega), List.getElem?_eq_none (by rw [wipe_length]; omega)]
          · rw [wipe_out hj]
        · have hDH2 : H2 D = some (.lst ws) := (hid_keep s' x'.inH xy).trans hDw
          have rds2 := rds.kp xy.kp
          -- the test
          refine ⟨A', ρ1, S', he2, sy, ?_⟩
          simp only [bz] at q
          cases ec : cm ρ1 S' with
          | bad => rw [ec] at q; exact q.elim
          | er c0 t0 S0 => rw [ec] at q; exact q.elim
          | ok k S2 =>
            rw [ec] at q
            simp only [nox_ok, bind_ok] at q
            intro A3 H3 x3 s3
            have xb3 := x2.step x3 sy
            have hD3 : H3 D = some (.lst ws) := (hid_keep sy x2.inH x3).trans hDH2
            cases k with
            | false =>
              simp only [Bool.false_eq_true, if_false] at q ⊢
              exact ⟨A3, S2, ds, ws, s3, xb3, hD3, rds2.kp x3.kp, by omega, by omega, q⟩
            | true =>
              simp only [if_true] at q ⊢
              refine ⟨A3, ρ1, S2, he2.kp x3.kp, s3, ?_⟩
              cases ee : em ρ1 S2 with
              | bad => rw [ee] at q; exact q.elim
              | er c0 t0 S0 => rw [ee] at q; exact q.elim
              | ok dv S4 =>
                rw [ee] at q
                simp only [nox_ok, bind_ok] at q
                intro A4 H4 x4 s4 y ry
                have xb4 := xb3.step x4 s3
                have hD4 : H4 D = some (.lst ws) := (hid_keep s3 xb3.inH x4).trans hD3
                refine ⟨ws, hD4, Nat.lt_of_lt_of_le (show ws.length < 16777216 by omega) (line_of (Nat.le_refl _)), A4, S4, ds ++ [dv], ws ++ [y], s4.poke xb4.inH, xb4.poke, upd_same, ?_, by simp; omega, by omega, ?_⟩
                · exact (((rds2.kp x3.kp).kp x4.kp).append (.cons ry .nil)).kp (kp_poke xb4.inH)
                · have e1 : ((lcL g cm em (wipeE ρ vs) (ts.drop (i + 1)) S4).bind fun es S'' => kf (ds ++ [dv] ++ es) S'') = (((lcL g cm em (wipeE ρ vs) (ts.drop (i + 1)) S4).bind fun ds S3 => .ok (dv :: ds) S3).bind fun es S'' => kf (ds ++ es) S'') := by
                    cases lcL g cm em (wipeE ρ vs) (ts.drop (i + 1)) S4 with
                    | ok a b => simp
                    | er c0 t0 S0 => rfl
                    | bad => rfl
                  rw [e1]
                  exact q
    · have hz : i = ts.length := by omega
      subst hz
      rw [List.drop_length] at q
      simp only [lcL, bind_ok, List.append_nil] at q
      exact .inl ⟨wk.stop A' H' (.ofB x' hD), hfin ds ws S' A' H' s' x' hDw rds q⟩
theorem bind_assoc {α β γ : Type} (r : Rz α) (f : α → Sto → Rz β) (h : β → Sto → Rz γ) : (r.bind f).bind h = r.bind fun a S => (f a S).bind h := by
  cases r <;> rfl
theorem adopt_all {A : Al} {D : Addr} (hD : D ∈ A.hid) {a : Addr} : a ∈ ((A.show_ D).push [D]).all → a ∈ A.all := by
  intro h
  rcases push_all.mp h with z | z
  · exact show_all z
  · simp at z
    subst z
    exact List.mem_append_right _ hD
theorem adopt_kp {A : Al} {D : Addr} {H : Hp} (hD : D ∈ A.hid) : Kp A H ((A.show_ D).push [D]) H := ⟨Kq.same fun a n z => n (adopt_all hD z), fun i l e => .inl (push_old e)⟩
theorem adopt {A : Al} {S : Sto} {H : Hp} {D : Addr} {b : Bo} (s : StR G A S H) (hD : D ∈ A.hid) (hb : RB G ((A.show_ D).push [D]) H [D] b) : StR G ((A.show_ D).push [D]) (S ++ [b]) H := by
  refine ⟨by simp [Al.push, Al.show_, s.len], push_nd (s.show_ (D := D)).nd (by simp) fun c hc => ?_, fun c hc => s.alive c (adopt_all hD hc), fun i k o e1 e2 => ?_⟩
  · simp at hc
    rw [hc]
    exact show_out s hD
  · rcases push_at e1 with z | ⟨z, rfl⟩
    · have hi : i < S.length := by
        rw [← s.len]
        exact (List.getElem?_eq_some_iff.mp z).1
      rw [List.getElem?_append_left hi] at e2
      exact (s.box i k o z e2).keep (adopt_kp hD) fun _ _ => rfl
    · subst z
      have e3 : (A.show_ D).live.length = S.length := s.len
      rw [e3, List.getElem?_append_right (Nat.le_refl _)] at e2
      simp at e2
      subst e2
      exact hb
theorem adopt_ext {A A1 : Al} {H H1 : Hp} {D : Addr} (x : ExtB D A H A1 H1) (h : H D = none) : Ext A H ((A1.show_ D).push [D]) H1 := by
  have y := x.done h
  refine ⟨fun i l e => ?_, y.hid, fun a u e n => ⟨(y.keep a u e n).1, fun z => ?_⟩, y.keepH⟩
  · rcases y.live i l e with z | z
    · exact .inl (push_old z)
    · exact .inr (push_old z)
  · unfold Al.push at z
    simp only [List.flatten_append, List.mem_append, List.flatten_cons, List.flatten_nil, List.append_nil] at z
    rcases z with z | z
    · exact (y.keep a u e n).2 z
    · simp at z
      exact ne_of_none e h z
theorem adopt_loc {A : Al} {S : Sto} {H : Hp} {D : Addr} (s : StR G A S H) : RD G ((A.show_ D).push [D]) H (.loc S.length) (.ref D) := by
  refine ⟨[D], ?_, fun b q z => by
    injection z with z1 z2
    rw [z1]⟩
  unfold Al.push Al.show_
  simp only
  rw [← s.len, List.getElem?_append_right (Nat.le_refl _)]
  simp
theorem lst_end {A A1 : Al} {S : Sto} {H H1 : Hp} {D : Addr} {ds : List Dv} {ws : List V} {E : XK} {Q : VK} (s : StR G A S H) (x : ExtB D A1 H1 A H) (h : H1 D = none) (hw : H D = some (.lst ws)) (r : RDs G A H ds ws) (p : Po G E A1 H1 (lift (pLst ds S)) (kD G Q)) : Q (.ref D) H := by
  unfold pLst at p
  cases ep : pures ds with
  | none => rw [ep] at p; exact p.elim
  | some ts =>
    rw [ep] at p
    by_cases hl : ts.length ≤ 16777216
    · simp only [hl, if_true] at p
      exact Po.at p (x.done h) s.show_ _ ⟨D, ws, rfl, ⟨hw, show_out s x.inH⟩, (pures_rvs ep r).kp kp_show⟩
    · simp only [hl, if_false] at p
      exact p.elim
theorem lstB_end {A A1 : Al} {S : Sto} {H H1 : Hp} {D : Addr} {ds : List Dv} {ws : List V} {E : XK} {Q : VK} (s : StR G A S H) (x : ExtB D A1 H1 A H) (h : H1 D = none) (hw : H D = some (.lst ws)) (r : RDs G A H ds ws) (p : Po G E A1 H1 (lift (pLstB ds S)) (kD G Q)) : Q (.ref D) H := by
  unfold pLstB at p
  by_cases hl : ds.length ≤ 16777216
  · simp only [hl, if_true] at p
    exact Po.at p (adopt_ext x h) (adopt s x.inH ⟨D, ws, rfl, hw, r.kp (adopt_kp x.inH)⟩) _ (adopt_loc s)
  · simp only [hl, if_false] at p
    exact p.elim
/-- the end of a list comprehension, as data or as a box -/
def LEnd (G : Gs) (pe : PN) : Prop := ∀ {A A1 : Al} {S : Sto} {H H1 : Hp} {D : Addr} {ds : List Dv} {ws : List V} {E : XK} {Q : VK}, StR G A S H → ExtB D A1 H1 A H → H1 D = none → H D = some (.lst ws) → RDs G A H ds ws → Po G E A1 H1 (lift (pe ds S)) (kD G Q) → Q (.ref D) H
theorem lEnd : LEnd G pLst := fun s x h hw r p => lst_end s x h hw r p
theorem lEndB : LEnd G pLstB := fun s x h hw r p => lstB_end s x h hw r p
theorem lc_read {wi : TI} {pe : PN} {vs : List Nat} (hpe : LEnd G pe) (hw : ∀ (σ : L2.St) (H : Hp) (A : Al) (ρ : Env) (S : Sto) (R : It → Hp → Prop), EnvR G A H ρ σ → StR G A S H → Po G (Wa W σ) A H (it ρ S) (fun A' H' ts => ∀ J, Wk G J A' H' ts → R J H') → wi σ H R)
    (hgs : TgS G t g L) (hL : ∀ i ∈ L, i ∈ vs) (σ : L2.St) (H : Hp) (Q : VK) (h : tM G W (mN pe (mLcI vs it g cm em)) σ H Q) : tLc wi t (tMT G W0 cm) (tM G W0 em) vs σ H Q := by
  obtain ⟨A, ρ, S, he, hs, p⟩ := h
  refine hw σ H A ρ S _ he hs ?_
  unfold mN mLcI at p
  rw [bind_assoc] at p
  refine Po.step p fun ts S1 A1 H1 x1 s1 p1 J wk D hD => ?_
  by_cases hl : ts.length ≤ 16777216
  · simp only [hl, if_true] at p1
    exact lc_loop (Fin := fun H => Q (.ref D) H) hgs hL wk (he.kp x1.kp) s1 hD hl p1 fun ds ws S' A' H' s' x' hDw r q => hpe s' x' hD hDw r q
  · simp only [hl, if_false] at p1
    exact p1.elim
theorem e_lc' {pe : PN} (hpe : LEnd G pe) (B : Bx X G W kk) (hi : PIS X G W tg iter it) (ok : BlkOk X.N X.env.scope scope own) (hg : ∀ (s : Shared) (H : Hp) (C : Addr) (cl : List (Str × Addr)) (fp : List Addr), PG (X.blk s H scope (compEnvC scope cl C X.env) fp) tg t) (hgs : TgS G t g L) (hL : ∀ i ∈ L, i ∈ own.map (·.2))
    (ht : ∀ (s : Shared) (H : Hp) (C : Addr) (cl : List (Str × Addr)) (fp : List Addr), PTs (X.blk s H scope (compEnvC scope cl C X.env) fp) ifs (tMT G W0 cm)) (he : ∀ (s : Shared) (H : Hp) (C : Addr) (cl : List (Str × Addr)) (fp : List Addr), PE (X.blk s H scope (compEnvC scope cl C X.env) fp) elt (tM G W0 em))
    (hs : ∀ x, foldedSetIterable iter X.env x = pure x) : PE X (.ListComp elt [⟨tg, iter, ifs, 0⟩] scope pos) (tM G W (mN pe (mLcI (own.map (·.2)) it g cm em))) := by
  obtain ⟨wi, pi, hw⟩ := hi
  exact (pe_lc B.calm B.nd pi ok hg ht he hs).sm fun σ H Q h => lc_read hpe hw hgs hL σ H Q h
theorem e_lc (B : Bx X G W kk) (hi : PIS X G W tg iter it) (ok : BlkOk X.N X.env.scope scope own) (hg : ∀ (s : Shared) (H : Hp) (C : Addr) (cl : List (Str × Addr)) (fp : List Addr), PG (X.blk s H scope (compEnvC scope cl C X.env) fp) tg t) (hgs : TgS G t g L) (hL : ∀ i ∈ L, i ∈ own.map (·.2))
    (ht : ∀ (s : Shared) (H : Hp) (C : Addr) (cl : List (Str × Addr)) (fp : List Addr), PTs (X.blk s H scope (compEnvC scope cl C X.env) fp) ifs (tMT G W0 cm)) (he : ∀ (s : Shared) (H : Hp) (C : Addr) (cl : List (Str × Addr)) (fp : List Addr), PE (X.blk s H scope (compEnvC scope cl C X.env) fp) elt (tM G W0 em))
    (hs : ∀ x, foldedSetIterable iter X.env x = pure x) : PE X (.ListComp elt [⟨tg, iter, ifs, 0⟩] scope pos) (tM G W (mLc (own.map (·.2)) it g cm em)) := e_lc' lEnd B hi ok hg hgs hL ht he hs
theorem e_lcB (B : Bx X G W kk) (hi : PIS X G W tg iter it) (ok : BlkOk X.N X.env.scope scope own) (hg : ∀ (s : Shared) (H : Hp) (C : Addr) (cl : List (Str × Addr)) (fp : List Addr), PG (X.blk s H scope (compEnvC scope cl C X.env) fp) tg t) (hgs : TgS G t g L) (hL : ∀ i ∈ L, i ∈ own.map (·.2))
    (ht : ∀ (s : Shared) (H : Hp) (C : Addr) (cl : List (Str × Addr)) (fp : List Addr), PTs (X.blk s H scope (compEnvC scope cl C X.env) fp) ifs (tMT G W0 cm)) (he : ∀ (s : Shared) (H : Hp) (C : Addr) (cl : List (Str × Addr)) (fp : List Addr), PE (X.blk s H scope (compEnvC scope cl C X.env) fp) elt (tM G W0 em))
    (hs : ∀ x, foldedSetIterable iter X.env x = pure x) : PE X (.ListComp elt [⟨tg, iter, ifs, 0⟩] scope pos) (tM G W (mLcB (own.map (·.2)) it g cm em)) := e_lc' lEndB B hi ok hg hgs hL ht he hs
/-- name = [..] -/
theorem s_setLc {pe : PN} {i : Nat} {y : Str} {py spos : Pos} (hpe : LEnd G pe) (B : Bx X G W kk) (hy : X.N[i]? = some y) (hyl : X.env.scope.names.lookup y = some .local) (hsw : swapsWith (.ListComp elt [⟨tg, iter, ifs, 0⟩] scope pos) (some (.Name y py)) spos.line X.env = pure true)
    (hi : PIS X G W tg iter it) (ok : BlkOk X.N X.env.scope scope own) (hg : ∀ (s : Shared) (H : Hp) (C : Addr) (cl : List (Str × Addr)) (fp : List Addr), PG (X.blk s H scope (compEnvC scope cl C X.env) fp) tg t) (hgs : TgS G t g L) (hL : ∀ i ∈ L, i ∈ own.map (·.2))
    (ht : ∀ (s : Shared) (H : Hp) (C : Addr) (cl : List (Str × Addr)) (fp : List Addr), PTs (X.blk s H scope (compEnvC scope cl C X.env) fp) ifs (tMT G W0 cm)) (he : ∀ (s : Shared) (H : Hp) (C : Addr) (cl : List (Str × Addr)) (fp : List Addr), PE (X.blk s H scope (compEnvC scope cl C X.env) fp) elt (tM G W0 em))
    (hs : ∀ x, foldedSetIterable iter X.env x = pure x) : PS X (.Assign [.Name y py] (.ListComp elt [⟨tg, iter, ifs, 0⟩] scope pos) spos) (tMS G W (sSet i (mN pe (mLcI (own.map (·.2)) it g cm em)))) := by
  obtain ⟨wi, pi, hw⟩ := hi
  refine (ps_setLc (i := i) B.calm B.nd hy hyl hsw pi ok hg ht he hs).sm fun D σ H h => ?_
  obtain ⟨A, ρ, S, he', hs', p⟩ := h
  refine lc_read (W := W) hpe hw hgs hL σ H _ ⟨A, ρ, S, he', hs', PoS.step he' p fun d S1 A1 H1 x s e q v rv => PoS.nx_now q s (e.set rv)⟩
/-! ### dict comprehensions -/
def kOf (d : Dv) : Option Key := match d with
  | .d (.int i) => some (.inl i)
  | .d (.str s) => some (.inr s)
  | _ => none
theorem kOf_rd {A : Al} {H : Hp} {d : Dv} {k : Key} {v : V} (h : kOf d = some k) (r : RD G A H d v) : v = kV k := by
  cases d with
  | loc n => cases h
  | d t =>
    cases t with
    | int i =>
      cases h
      exact r
    | str s =>
      cases h
      exact r
    | _ => cases h
end
end Sm
/-! Sm8: dict comprehensions, what is walked. -/
namespace Sm
open PySem PySem.Spec PyProof.Rows L2

def hasK (ks : List Key) (j : Key) : Bool := ks.any fun k => decide (k = j)
/-- d[j] = y on keys and values -/
def dputX {α : Type} (ks : List Key) (xs : List α) (j : Key) (y : α) : List α := if hasK ks j = true then List.zipWith (fun k x => if k = j then y else x) ks xs else xs ++ [y]
def dputK (ks : List Key) (j : Key) : List Key := if hasK ks j = true then ks else ks ++ [j]
def dlook {α : Type} : List Key → List α → Key → Option α
  | k :: ks, x :: xs, j => if k = j then some x else dlook ks xs j
  | _, _, _ => none
section
variable {G : Gs} {A : Al} {H : Hp}
theorem any_key {kvs : List (Key × V)} {j : Key} : (kvs.any fun kv => decide (kv.1 = j)) = hasK (kvs.map (·.1)) j := by
  unfold hasK
  rw [List.any_map]
  rfl
theorem dput_keys {kvs : List (Key × V)} {j : Key} {y : V} : (putK kvs j y).map (·.1) = dputK (kvs.map (·.1)) j := by
  unfold putK dputK
  rw [any_key]
  by_cases h : hasK (kvs.map (·.1)) j = true
  · rw [if_pos h, if_pos h, List.map_map]
    apply List.map_congr_left
    intro kv _
    simp only [Function.comp]
    split <;> rfl
  · rw [if_neg h, if_neg h]
    simp
theorem dput_rds {kvs : List (Key × V)} {j : Key} {y : V} {xs : List Dv} {d : Dv} (h : RDs G A H xs (kvs.map (·.2))) (r : RD G A H d y) : RDs G A H (dputX (kvs.map (·.1)) xs j d) ((putK kvs j y).map (·.2)) := by
  unfold putK dputX
  rw [any_key]
  by_cases hj : hasK (kvs.map (·.1)) j = true
  · rw [if_pos hj, if_pos hj]
    clear hj
    induction kvs generalizing xs with
    | nil =>
      cases h
      exact .nil
    | cons kv kvs ih =>
      cases h with
      | cons q t =>
        refine .cons ?_ (ih t)
        by_cases e : kv.1 = j
        · simp only [e, if_true]
          exact r
        · simp only [e, if_false]
          exact q
  · rw [if_neg hj, if_neg hj]
    rw [List.map_append]
    exact h.append (.cons r .nil)
theorem dlook_val {kvs : List (Key × V)} {j : Key} : ∀ {xs : List Dv}, RDs G A H xs (kvs.map (·.2)) → (∀ d, dlook (kvs.map (·.1)) xs j = some d → ∃ v, valV kvs j = some v ∧ RD G A H d v) ∧ (dlook (kvs.map (·.1)) xs j = none → valV kvs j = none) := by
  induction kvs with
  | nil =>
    intro xs h
    cases h
    exact ⟨fun d e => by simp [dlook] at e, fun _ => rfl⟩
  | cons kv kvs ih =>
    intro xs h
    cases h with
    | cons q t =>
      rename_i x xs
      by_cases e : kv.1 = j
      · rw [valV_pos e]
        simp only [List.map_cons, dlook, e, if_true]
        refine ⟨fun d ed => ?_, fun z => by cases z⟩
        cases ed
        exact ⟨_, rfl, q⟩
      · rw [valV_neg e]
        simp only [List.map_cons, dlook, e, if_false]
        exact ih t
end
/-! ### dict comprehensions -/
def dcL (g : GM) (c : M Bool) (ek ev : M Dv) (ρ : Env) : List Dt → List Key → List Dv → Sto → Rz (List Key × List Dv)
  | [], ks, xs, S => .ok (ks, xs) S
  | t :: ts, ks, xs, S => bz (g (.d t) ρ) fun ρ1 => (nox (c ρ1 S)).bind fun b S1 => if b = true then (nox (ek ρ1 S1)).bind fun kd S2 => (nox (ev ρ1 S2)).bind fun d S3 => bz (kOf kd) fun k => dcL g c ek ev ρ ts (dputK ks k) (dputX ks xs k d) S3
    else dcL g c ek ev ρ ts ks xs S1
def pDct (ks : List Key) (ds : List Dv) (S : Sto) : Rz Dv := match pures ds with
  | some ts => .ok (.d (.dct ks ts)) S
  | none => .bad
def pDctB (ks : List Key) (ds : List Dv) (S : Sto) : Rz Dv := .ok (.loc S.length) (S ++ [.dct ks ds])
abbrev PD := List Key → List Dv → Sto → Rz Dv
def mDc (pe : PD) (vs : List Nat) (it : M (List Dt)) (g : GM) (c : M Bool) (ek ev : M Dv) : M Dv := fun ρ S => (it ρ S).bind fun ts S1 => if ts.length ≤ 16777216 then (dcL g c ek ev (wipeE ρ vs) ts [] [] S1).bind fun q S2 => pe q.1 q.2 S2 else .bad
section
variable {X : Cx} {G : Gs} {W : WX} {kk : Nat} {kx vx tg iter : Expr} {ifs : List Expr} {scope : Scope} {own : List (Str × Nat)} {pos : Pos} {it : M (List Dt)} {g : GM} {t : TG} {L : List Nat} {cm : M Bool} {ek ev : M Dv}
theorem wipe_wipe (σ : L2.St) (vs : List Nat) : L2.wipe (L2.wipe σ vs) vs = L2.wipe σ vs := by
  apply List.ext_getElem?
  intro j
  by_cases hj : j ∈ vs
  · have key : ∀ (τ : L2.St) (us : List Nat), j ∈ us → j < τ.length → (L2.wipe τ us)[j]? = some none := by
      intro τ us
      induction us with
      | nil => intro h; cases h
      | cons w us ih =>
        intro h hlt
        show ((L2.wipe τ us).set w none)[j]? = some none
        by_cases e : w = j
        · subst e
          rw [List.getElem?_set_self (by rw [wipe_length]; exact hlt)]
        · rw [List.getElem?_set_ne e]
          exact ih (by rcases List.mem_cons.mp h with z | z; exact absurd z.symm e; exact z) hlt
    by_cases hl : j < σ.length
    · rw [key σ vs hj hl, key (L2.wipe σ vs) vs hj (by rw [wipe_length]; exact hl)]
    · rw [List.getElem?_eq_none (by rw [wipe_length, wipe_length]; omega), List.getElem?_eq_none (by rw [wipe_length]; omega)]
  · rw [wipe_out hj]
theorem dc_loop {σ : L2.St} {H1 : Hp} {A1 : Al} {ρ : Env} {S1 : Sto} {ts : List Dt} {J : It} {D : Addr} {E : XK} {vs : List Nat} {Fin : Hp → Prop} (hgs : TgS G t g L) (hL : ∀ i ∈ L, i ∈ vs) (wk : Wk G J A1 H1 ts) (he : EnvR G A1 H1 ρ σ) (hs : StR G A1 S1 H1) (hD : H1 D = none) (hlen : ts.length ≤ 16777216)
    {pe : PD} {Qf : Al → Hp → Dv → Prop}
    (p : Po G E A1 H1 ((dcL g cm ek ev (wipeE ρ vs) ts [] [] S1).bind fun q S2 => pe q.1 q.2 S2) Qf)
    (hfin : ∀ ds kvs S' A' H', StR G A' S' H' → ExtB D A1 H1 A' H' → H' D = some (.dK kvs) → RDs G A' H' ds (kvs.map (·.2)) → Po G E A1 H1 (pe (kvs.map (·.1)) ds S') Qf → Fin H') :
    ∃ W : Nat → Nat → Hp → Prop, (∃ m, W 0 m (upd H1 D (.dK []))) ∧ ∀ i m H, W i m H →
      (J.stop i H ∧ Fin H) ∨ (J.go i H ∧ ∃ Nx : Hp → Prop, (∀ H', Nx H' → ∃ m', m' < m ∧ W (i + 1) m' H') ∧ ∀ x H', J.yld i H x H' → t x (wipe σ vs) H' fun σ2 H2 => wipe σ2 vs = wipe σ vs ∧ tMT G W0 cm σ2 H2 fun b H3 =>
        if b = true then tM G W0 ek σ2 H3 fun y H4 => tM G W0 ev σ2 H4 fun z H5 => ∃ kvs k, y = kV k ∧ H5 D = some (.dK kvs) ∧ kvs.length < sizeLine ∧ Nx (upd H5 D (.dK (putK kvs k z))) else Nx H3) := by
  let Inw : Nat → Hp → Prop := fun i H' => ∃ A' S' ds kvs, StR G A' S' H' ∧ ExtB D A1 H1 A' H' ∧ H' D = some (.dK kvs) ∧ RDs G A' H' ds (kvs.map (·.2)) ∧ kvs.length ≤ i ∧ i ≤ ts.length ∧
    Po G E A1 H1 ((dcL g cm ek ev (wipeE ρ vs) (ts.drop i) (kvs.map (·.1)) ds S').bind fun q S2 => pe q.1 q.2 S2) Qf
  refine ⟨fun i m H' => m = ts.length - i ∧ Inw i H', ⟨_, rfl, A1.hide D, S1, [], [], hs.hide hD, .start, upd_same, .nil, Nat.le_refl _, Nat.zero_le _, p⟩, fun i m H' hW => ?_⟩
  obtain ⟨hm, A', S', ds, kvs, s', x', hDw, rds, hwl, hi, q⟩ := hW
  by_cases hlt : i < ts.length
  · refine .inr ⟨wk.go i A' H' hlt (.ofB x' hD), Inw (i + 1), fun H2 hN => ⟨ts.length - (i + 1), by omega, rfl, hN⟩, fun x H2 hy => ?_⟩
    obtain ⟨d, ed, xy, sy, rv⟩ := wk.yld i A' H' S' x H2 hlt (.ofB x' hD) s' hy
    have hd : ts.drop i = d :: ts.drop (i + 1) := by
      rw [List.drop_eq_getElem_cons hlt]
      rw [List.getElem?_eq_getElem hlt] at ed
      cases ed
      rfl
    rw [hd] at q
    unfold dcL at q
    cases eg : g (.d d) (wipeE ρ vs) with
    | none => rw [eg] at q; exact q.elim
    | some ρ1 =>
      rw [eg] at q
      have x2 := x'.step xy s'
      have hw : EnvR G A' H2 (wipeE ρ vs) (wipe σ vs) := (he.kp (Ext.ofB x2 hD).kp).wipe vs
      refine hgs A' S' _ ρ1 (wipe σ vs) H2 (.d d) x _ hw sy rv eg fun σ2 he2 hk2 hl2 => ?_
      refine ⟨by rw [wipe_same (σ := wipe σ vs) (σ' := σ2) hL hk2 hl2, wipe_wipe], ?_⟩
      have hDH2 : H2 D = some (.dK kvs) := (hid_keep s' x'.inH xy).trans hDw
      have rds2 := rds.kp xy.kp
      refine ⟨A', ρ1, S', he2, sy, ?_⟩
      simp only [bz] at q
      cases ec : cm ρ1 S' with
      | bad => rw [ec] at q; exact q.elim
      | er c0 t0 S0 => rw [ec] at q; exact q.elim
      | ok k S2 =>
        rw [ec] at q
        simp only [nox_ok, bind_ok] at q
        intro A3 H3 x3 s3
        have xb3 := x2.step x3 sy
        have hD3 : H3 D = some (.dK kvs) := (hid_keep sy x2.inH x3).trans hDH2
        cases k with
        | false =>
          simp only [Bool.false_eq_true, if_false] at q ⊢
          exact ⟨A3, S2, ds, kvs, s3, xb3, hD3, rds2.kp x3.kp, by omega, by omega, q⟩
        | true =>
          simp only [if_true] at q ⊢
          refine ⟨A3, ρ1, S2, he2.kp x3.kp, s3, ?_⟩
          cases ee : ek ρ1 S2 with
          | bad => rw [ee] at q; exact q.elim
          | er c0 t0 S0 => rw [ee] at q; exact q.elim
          | ok kd S4 =>
            rw [ee] at q
            simp only [nox_ok, bind_ok] at q
            intro A4 H4 x4 s4 y ry
            have xb4 := xb3.step x4 s3
            have hD4 : H4 D = some (.dK kvs) := (hid_keep s3 xb3.inH x4).trans hD3
            refine ⟨A4, ρ1, S4, (he2.kp x3.kp).kp x4.kp, s4, ?_⟩
            cases ev' : ev ρ1 S4 with
            | bad => rw [ev'] at q; exact q.elim
            | er c0 t0 S0 => rw [ev'] at q; exact q.elim
            | ok dv S5 =>
              rw [ev'] at q
              simp only [nox_ok, bind_ok] at q
              intro A5 H5 x5 s5 z rz
              have xb5 := xb4.step x5 s4
              have hD5 : H5 D = some (.dK kvs) := (hid_keep s4 xb4.inH x5).trans hD4
              cases ek' : kOf kd with
              | none => rw [ek'] at q; exact q.elim
              | some k =>
                rw [ek'] at q
                have rds5 := (((rds2.kp x3.kp).kp x4.kp).kp x5.kp)
                refine ⟨kvs, k, kOf_rd ek' ry, hD5, Nat.lt_of_lt_of_le (show kvs.length < 16777216 by omega) (line_of (Nat.le_refl _)), A5, S5, _, putK kvs k z, s5.poke xb5.inH, xb5.poke, upd_same, (dput_rds rds5 rz).kp (kp_poke xb5.inH), ?_, by omega, ?_⟩
                · have := length_putK kvs k z
                  omega
                · rw [dput_keys]
                  exact q
  · have hz : i = ts.length := by omega
    subst hz
    rw [List.drop_length] at q
    exact .inl ⟨wk.stop A' H' (.ofB x' hD), hfin ds kvs S' A' H' s' x' hDw rds q⟩
def DEnd (G : Gs) (pe : PD) : Prop := ∀ {A A1 : Al} {S : Sto} {H H1 : Hp} {D : Addr} {ds : List Dv} {kvs : List (Key × V)} {E : XK} {Q : VK}, StR G A S H → ExtB D A1 H1 A H → H1 D = none → H D = some (.dK kvs) → RDs G A H ds (kvs.map (·.2)) → Po G E A1 H1 (pe (kvs.map (·.1)) ds S) (kD G Q) → Q (.ref D) H
theorem dEnd : DEnd G pDct := fun {A A1 S H H1 D ds kvs E Q} s x h hw r p => by
  unfold pDct at p
  cases ep : pures ds with
  | none => rw [ep] at p; exact p.elim
  | some ts =>
    rw [ep] at p
    exact Po.at p (x.done h) s.show_ _ ⟨D, kvs, rfl, show_out s x.inH, .inl hw, rfl, (pures_rvs ep r).kp kp_show⟩
theorem dEndB : DEnd G pDctB := fun {A A1 S H H1 D ds kvs E Q} s x h hw r p =>
  Po.at p (adopt_ext x h) (adopt s x.inH ⟨D, kvs, rfl, hw, rfl, r.kp (adopt_kp x.inH)⟩) _ (adopt_loc s)
theorem e_dc {pe : PD} (hpe : DEnd G pe) (B : Bx X G W kk) (hi : PIS X G W tg iter it) (ok : BlkOk X.N X.env.scope scope own) (hg : ∀ (s : Shared) (H : Hp) (C : Addr) (cl : List (Str × Addr)) (fp : List Addr), PG (X.blk s H scope (compEnvC scope cl C X.env) fp) tg t) (hgs : TgS G t g L) (hL : ∀ i ∈ L, i ∈ own.map (·.2))
    (ht : ∀ (s : Shared) (H : Hp) (C : Addr) (cl : List (Str × Addr)) (fp : List Addr), PTs (X.blk s H scope (compEnvC scope cl C X.env) fp) ifs (tMT G W0 cm)) (hk : ∀ (s : Shared) (H : Hp) (C : Addr) (cl : List (Str × Addr)) (fp : List Addr), PE (X.blk s H scope (compEnvC scope cl C X.env) fp) kx (tM G W0 ek))
    (he : ∀ (s : Shared) (H : Hp) (C : Addr) (cl : List (Str × Addr)) (fp : List Addr), PE (X.blk s H scope (compEnvC scope cl C X.env) fp) vx (tM G W0 ev))
    (hs : ∀ x, foldedSetIterable iter X.env x = pure x) : PE X (.DictComp kx vx [⟨tg, iter, ifs, 0⟩] scope pos) (tM G W (mDc pe (own.map (·.2)) it g cm ek ev)) := by
  obtain ⟨wi, pi, hw⟩ := hi
  refine (pe_dc B.calm B.nd pi ok hg ht hk he hs).sm fun σ H Q h => ?_
  obtain ⟨A, ρ, S, he, hs, p⟩ := h
  refine hw σ H A ρ S _ he hs ?_
  unfold mDc at p
  refine Po.step p fun ts S1 A1 H1 x1 s1 p1 J wk D hD => ?_
  by_cases hl : ts.length ≤ 16777216
  · simp only [hl, if_true] at p1
    exact dc_loop (Fin := fun H => Q (.ref D) H) hgs hL wk (he.kp x1.kp) s1 hD hl p1 fun ds kvs S' A' H' s' x' hDw r q => hpe s' x' hD hDw r q
  · simp only [hl, if_false] at p1
    exact p1.elim
end
/-! ### what is walked -/
/-- a list or a tuple -/
def iSq (K : PySem.W.Frag) (tl : TE) : TI := fun σ H R => tl σ H fun x H1 => ∃ a, x = .ref a ∧ (((∃ xs, SqL K H1 a xs) ∧ R (Itl K a) H1) ∨ ((∃ xs, SqT K H1 a xs) ∧ R (Itt K a) H1))
theorem pi_sq {X : Cx} {tg l : Expr} {tl : TE} (hl : PE X l tl) : PI X tg l (iSq X.K tl) := by
  refine ⟨fun pins s σ H R I h => ?_⟩
  refine thn (hl.run pins s σ H _ I h) fun v s1 ⟨x, H1, I1, r1, q1⟩ => ?_
  obtain ⟨a, e, q⟩ := q1
  subst e
  cases r1
  rcases q with ⟨⟨xs, hq⟩, q⟩ | ⟨⟨xs, hq⟩, q⟩
  · obtain ⟨its, rv, p, hz⟩ := I1.list hq
    refine wpAny_pyIter_list p.isList ?_
    refine ⟨s1.heap.objs.size, [s1.heap.objs.size], _, _, H1, rfl, I1.kept (t' := s1.toks) fun b o e => Heap.get?_push_of_some _ e, turn_list a _, ⟨_, Heap.get?_push_size _ rfl, rfl, rfl⟩, fun b hb => ?_, q⟩
    have e : b = s1.heap.objs.size := by simpa using hb
    subst e
    exact I1.fpOk (Nat.le_refl _) (I1.hok.fresh (Nat.le_refl _))
  · obtain ⟨its, rv, p, hz⟩ := I1.tuple hq
    refine wpAny_pyIter_tuple (show s1.heap.IsTuple a its.toArray from p) ?_
    refine ⟨s1.heap.objs.size, [s1.heap.objs.size], _, _, H1, rfl, I1.kept (t' := s1.toks) fun b o e => Heap.get?_push_of_some _ e, turn_tuple a _, ⟨_, Heap.get?_push_size _ rfl, rfl, rfl⟩, fun b hb => ?_, q⟩
    have e : b = s1.heap.objs.size := by simpa using hb
    subst e
    exact I1.fpOk (Nat.le_refl _) (I1.hok.fresh (Nat.le_refl _))
/-- the data of a sequence; a box's list is put out of reach while it is walked -/
def seqOf (d : Dv) : Option (List Dt) := match d with
  | .d (.tup ts) => some ts
  | .d (.lst ts) => some ts
  | .d (.scr ts) => some ts
  | _ => none
def iSeq (m : M Dv) : M (List Dt) := fun ρ S => (m ρ S).bind fun d S1 => li (seqOf d) S1
section
variable {X : Cx} {G : Gs} {W : WX} {kk : Nat} {tg iter e : Expr} {m : M Dv}
theorem wk_list {A : Al} {H : Hp} {a : Addr} {vs : List V} {ts : List Dt} (h : ∀ A' H', Ext A H A' H' → SqL G.K H' a vs) (r : RVs G A H ts vs) : Wk G (Itl G.K a) A H ts := by
  refine ⟨fun i A' H' hi x => ?_, fun i A' H' S v H2 hi x s hy => ?_, fun A' H' x => ?_⟩
  · obtain ⟨v, ev, _⟩ := r.get (List.getElem?_eq_getElem hi)
    exact ⟨vs, v, h A' H' x, ev⟩
  · obtain ⟨rfl, hv⟩ := hy
    obtain ⟨t, et, rt⟩ := r.get' (hv vs (h A' H2 x))
    exact ⟨t, et, .refl, s, rt.kp x.kp⟩
  · exact ⟨vs, h A' H' x, by rw [r.length]; exact Nat.le_refl _⟩
theorem wk_tup {A : Al} {H : Hp} {a : Addr} {vs : List V} {ts : List Dt} (h : ∀ A' H', Ext A H A' H' → SqT G.K H' a vs) (r : RVs G A H ts vs) : Wk G (Itt G.K a) A H ts := by
  refine ⟨fun i A' H' hi x => ?_, fun i A' H' S v H2 hi x s hy => ?_, fun A' H' x => ?_⟩
  · obtain ⟨v, ev, _⟩ := r.get (List.getElem?_eq_getElem hi)
    exact ⟨vs, v, h A' H' x, ev⟩
  · obtain ⟨rfl, hv⟩ := hy
    obtain ⟨t, et, rt⟩ := r.get' (hv vs (h A' H2 x))
    exact ⟨t, et, .refl, s, rt.kp x.kp⟩
  · exact ⟨vs, h A' H' x, by rw [r.length]; exact Nat.le_refl _⟩
theorem li_po {α : Type} {E : XK} {A : Al} {H : Hp} {S : Sto} {o : Option α} {k : Al → Hp → α → Prop} (h : Po G E A H (li o S) k) (s : StR G A S H) : ∃ a, o = some a ∧ k A H a := by
  cases o with
  | none => exact h.elim
  | some a => exact ⟨a, rfl, Po.now h s⟩
/-- how a sequence is walked -/
theorem seq_wk {A : Al} {H : Hp} {d : Dv} {v : V} {ts : List Dt} (h : seqOf d = some ts) (r : RD G A H d v) : ∃ a, v = .ref a ∧ (((∃ xs, SqL G.K H a xs) ∧ Wk G (Itl G.K a) A H ts) ∨ ((∃ xs, SqT G.K H a xs) ∧ Wk G (Itt G.K a) A H ts)) := by
  cases d with
  | loc n => cases h
  | d t =>
    cases t with
    | tup xs =>
      cases h
      obtain ⟨a, vs, e, ht, hv⟩ := r
      exact ⟨a, e, .inr ⟨⟨vs, ht.sq⟩, wk_tup (fun A' H' x => (ht.kp x.kp.toKq).sq) hv⟩⟩
    | lst xs =>
      cases h
      obtain ⟨a, vs, e, ht, hv⟩ := r
      exact ⟨a, e, .inl ⟨⟨vs, ht.sq⟩, wk_list (fun A' H' x => (ht.kp x.kp.toKq).sq) hv⟩⟩
    | scr xs =>
      cases h
      obtain ⟨a, vs, e, ht, hv⟩ := r
      exact ⟨a, e, .inl ⟨⟨vs, ht.sq⟩, wk_list (fun A' H' x => (ht.kp x.kp.toKq).sq) hv⟩⟩
    | _ => cases h
theorem i_seq (hK : G.K = X.K) (he : PE X e (tM G W m)) : PIS X G W tg e (iSeq m) := by
  refine ⟨_, pi_sq he, fun σ H A ρ S R he hs p => ?_⟩
  refine ⟨A, ρ, S, he, hs, Po.step p fun d S1 A1 H1 x1 s1 p1 v rv => ?_⟩
  obtain ⟨ts, e1, k⟩ := li_po p1 s1
  obtain ⟨a, ev, h⟩ := seq_wk e1 rv
  rw [← hK]
  rcases h with ⟨h, w⟩ | ⟨h, w⟩
  · exact ⟨a, ev, .inl ⟨h, k _ w⟩⟩
  · exact ⟨a, ev, .inr ⟨h, k _ w⟩⟩
/-! ranges -/
def rgOk (i j : Int) : Bool := decide (-(2 ^ 62) ≤ i ∧ i < 2 ^ 62 ∧ -(2 ^ 62) ≤ j ∧ j < 2 ^ 62)
def rgL (lo : Int) (n : Nat) : List Dt := (List.range n).map fun i => .int (lo + (i : Nat))
def rg1 (ds : List Dv) : Option (List Dt) := match ds with
  | [.d (.int j)] => if rgOk 0 j = true then some (rgL 0 j.toNat) else none
  | _ => none
def rg2 (ds : List Dv) : Option (List Dt) := match ds with
  | [.d (.int i), .d (.int j)] => if rgOk i j = true then some (rgL i (j - i).toNat) else none
  | _ => none
def iRg (f : List Dv → Option (List Dt)) (ma : M (List Dv)) : M (List Dt) := fun ρ S => (ma ρ S).bind fun ds S1 => li (f ds) S1
theorem wk_range {A : Al} {H : Hp} {lo : Int} {n : Nat} : Wk G (Itr lo n) A H (rgL lo n) := by
  have hl : (rgL lo n).length = n := by simp [rgL]
  refine ⟨fun i A' H' hi x => by rw [hl] at hi; exact hi, fun i A' H' S v H2 hi x s hy => ?_, fun A' H' x => by rw [hl]; exact Nat.le_refl n⟩
  obtain ⟨rfl, rfl⟩ := hy
  rw [hl] at hi
  refine ⟨.int (lo + (i : Nat)), ?_, .refl, s, rfl⟩
  unfold rgL
  rw [List.getElem?_map, List.getElem?_range hi]
  rfl
theorem i_rg1 {a : Expr} {ma : M (List Dv)} {p pos : Pos} (hg : Gl X "range") (hm : X.mg "range" = none) (ha : PA X [a] (tMA G W ma)) (hs : starEach [a] X.env = [(false, eval a X.env)]) : PIS X G W tg (.Call (.Name "range" p) [a] [] pos) (iRg rg1 ma) := by
  refine ⟨_, pi_range1 hg hm ha hs, fun σ H A ρ S R he hs p => ?_⟩
  refine ⟨A, ρ, S, he, hs, Po.step p fun ds S1 A1 H1 x1 s1 p1 vs rv => ?_⟩
  obtain ⟨ts, e1, k⟩ := li_po p1 s1
  unfold rg1 at e1
  split at e1
  · rename_i j
    split at e1
    · rename_i hb
      cases e1
      cases rv with
      | cons r1 r2 =>
        cases r2
        have hb := of_decide_eq_true hb
        exact ⟨j, by rw [show _ = V.int j from r1], hb.2.2.1, hb.2.2.2, k _ wk_range⟩
    · cases e1
  · cases e1
theorem i_rg2 {a b : Expr} {ma : M (List Dv)} {p pos : Pos} (hg : Gl X "range") (hm : X.mg "range" = none) (ha : PA X [a, b] (tMA G W ma)) (hs : starEach [a, b] X.env = [(false, eval a X.env), (false, eval b X.env)]) (hs2 : starEach [b] X.env = [(false, eval b X.env)]) : PIS X G W tg (.Call (.Name "range" p) [a, b] [] pos) (iRg rg2 ma) := by
  refine ⟨_, pi_range2 hg hm ha hs hs2, fun σ H A ρ S R he hs p => ?_⟩
  refine ⟨A, ρ, S, he, hs, Po.step p fun ds S1 A1 H1 x1 s1 p1 vs rv => ?_⟩
  obtain ⟨ts, e1, k⟩ := li_po p1 s1
  unfold rg2 at e1
  split at e1
  · rename_i i j
    split at e1
    · rename_i hb
      cases e1
      cases rv with
      | cons r1 r2 =>
        cases r2 with
        | cons r2 r3 =>
          cases r3
          have hb := of_decide_eq_true hb
          exact ⟨i, j, by rw [show _ = V.int i from r1, show _ = V.int j from r2], hb, k _ wk_range⟩
    · cases e1
  · cases e1
/-! enumerate, zip -/
def lstOf (d : Dv) : Option (List Dt) := match d with
  | .d (.lst ts) => some ts
  | .d (.scr ts) => some ts
  | _ => none
def enL (ts : List Dt) : List Dt := (List.range ts.length).filterMap fun i => (ts[i]?).map fun t => .tup [.int (i : Nat), t]
def en1 (ds : List Dv) : Option (List Dt) := match ds with
  | [d] => (lstOf d).map enL
  | _ => none
theorem range_fm {α : Type} (f : Nat → Option α) : ∀ n i : Nat, (∀ j, j < n → (f j).isSome = true) → i < n → ((List.range n).filterMap f)[i]? = f i := by
  intro n
  induction n with
  | zero => intro i _ hi; omega
  | succ n ih =>
    intro i hf hi
    rw [List.range_succ, List.filterMap_append]
    have hl : ((List.range n).filterMap f).length = n := by
      have : ∀ m, m ≤ n → ((List.range m).filterMap f).length = m := by
        intro m
        induction m with
        | zero => intro _; rfl
        | succ m ihm =>
          intro hm
          rw [List.range_succ, List.filterMap_append, List.length_append, ihm (by omega)]
          have hs := hf m (by omega)
          cases e : f m with
          | none => rw [e] at hs; cases hs
          | some y => simp [e]
      exact this n (Nat.le_refl n)
    by_cases h : i < n
    · rw [List.getElem?_append_left (by omega)]
      exact ih i (fun j hj => hf j (by omega)) h
    · have : i = n := by omega
      subst this
      rw [List.getElem?_append_right (by omega), hl]
      have hs := hf i (by omega)
      cases e : f i with
      | none => rw [e] at hs; cases hs
      | some y => simp [e]
theorem fm_length {α : Type} (f : Nat → Option α) : ∀ n : Nat, (∀ j, j < n → (f j).isSome = true) → ((List.range n).filterMap f).length = n := by
  intro n
  induction n with
  | zero => intro _; rfl
  | succ n ih =>
    intro hf
    rw [List.range_succ, List.filterMap_append, List.length_append, ih (fun j hj => hf j (by omega))]
    have hs := hf n (by omega)
    cases e : f n with
    | none => rw [e] at hs; cases hs
    | some y => simp [e]
theorem enL_get {ts : List Dt} {i : Nat} (h : i < ts.length) : (enL ts)[i]? = some (.tup [.int (i : Nat), ts[i]]) := by
  unfold enL
  rw [range_fm _ _ _ (fun j hj => by simp [List.getElem?_eq_getElem hj]) h]
  simp [List.getElem?_eq_getElem h]
theorem enL_length (ts : List Dt) : (enL ts).length = ts.length := by
  unfold enL
  rw [fm_length _ _ (fun j hj => by simp [List.getElem?_eq_getElem hj])]
theorem lst_at {A : Al} {H : Hp} {d : Dv} {v : V} {ts : List Dt} (h : lstOf d = some ts) (r : RD G A H d v) : ∃ a vs, v = .ref a ∧ (∀ A' H', Ext A H A' H' → SqL G.K H' a vs) ∧ RVs G A H ts vs := by
  cases d with
  | loc n => cases h
  | d t =>
    cases t with
    | lst xs =>
      cases h
      obtain ⟨a, vs, e, ht, hv⟩ := r
      exact ⟨a, vs, e, fun A' H' x => (ht.kp x.kp.toKq).sq, hv⟩
    | scr xs =>
      cases h
      obtain ⟨a, vs, e, ht, hv⟩ := r
      exact ⟨a, vs, e, fun A' H' x => (ht.kp x.kp.toKq).sq, hv⟩
    | _ => cases h
theorem tup_at {A : Al} {H : Hp} {t : Dt} {v : V} {ts : List Dt} (h : t = .tup ts) (r : RV G A H t v) : ∃ a vs, v = .ref a ∧ (∀ A' H', Ext A H A' H' → SqT G.K H' a vs) ∧ RVs G A H ts vs := by
  subst h
  obtain ⟨a, vs, e, ht, hv⟩ := r
  exact ⟨a, vs, e, fun A' H' x => (ht.kp x.kp.toKq).sq, hv⟩
theorem wk_enum {A : Al} {H : Hp} {a : Addr} {vs : List V} {ts : List Dt} (h : ∀ A' H', Ext A H A' H' → SqL G.K H' a vs) (r : RVs G A H ts vs) : Wk G (Ite G.K a) A H (enL ts) := by
  have hl := enL_length ts
  refine ⟨fun i A' H' hi x => ?_, fun i A' H' S v H2 hi x s hy => ?_, fun A' H' x => ?_⟩
  · rw [hl] at hi
    obtain ⟨v, ev, _⟩ := r.get (List.getElem?_eq_getElem hi)
    exact ⟨vs, v, h A' H' x, ev⟩
  · rw [hl] at hi
    obtain ⟨T, y, rfl, hT, rfl, hv⟩ := hy
    obtain ⟨t, et, rt⟩ := r.get' (hv vs (h A' H' x))
    rw [List.getElem?_eq_getElem hi] at et
    cases et
    exact ⟨_, enL_get hi, .new hT, s.new hT, RV.tup_new s hT ⟨_, _, rfl, rfl, _, _, rfl, rt.kp x.kp, rfl⟩⟩
  · exact ⟨vs, h A' H' x, by rw [hl, r.length]; exact Nat.le_refl _⟩
theorem i_enum {a : Expr} {ma : M (List Dv)} {p pos tpos : Pos} {elts : List Expr} {kk : Nat} (hK : G.K = X.K) (hg : Gl X "enumerate") (hm : X.mg "enumerate" = none) (ha : PA X [a] (tMA G W ma)) (hs : starEach [a] X.env = [(false, eval a X.env)]) : PIS X G W (.Tuple elts kk tpos) (.Call (.Name "enumerate" p) [a] [] pos) (iRg en1 ma) := by
  refine ⟨_, pi_enum hg hm ha hs, fun σ H A ρ S R he hs p => ?_⟩
  refine ⟨A, ρ, S, he, hs, Po.step p fun ds S1 A1 H1 x1 s1 p1 vs rv => ?_⟩
  obtain ⟨ts, e1, k⟩ := li_po p1 s1
  cases rv with
  | nil => cases e1
  | cons r1 r2 =>
    cases r2 with
    | cons => cases e1
    | nil =>
      rename_i d v
      unfold en1 at e1
      simp only at e1
      cases el : lstOf d with
      | none => rw [el] at e1; cases e1
      | some us =>
        rw [el] at e1
        cases e1
        obtain ⟨a, ws, rfl, hq, hv⟩ := lst_at el r1
        rw [← hK]
        exact ⟨a, ws, rfl, hq A1 H1 .refl, k _ (wk_enum hq hv)⟩
def zpL (xs ys : List Dt) : List Dt := (List.zip xs ys).map fun p => .tup [p.1, p.2]
def zp2 (ds : List Dv) : Option (List Dt) := match ds with
  | [.d (.tup xs), .d (.tup ys)] => some (zpL xs ys)
  | [d, e] => (match lstOf d, lstOf e with
    | some xs, some ys => some (zpL xs ys)
    | _, _ => none)
  | _ => none
theorem zpL_length (xs ys : List Dt) : (zpL xs ys).length = min xs.length ys.length := by simp [zpL]
theorem zpL_get {xs ys : List Dt} {i : Nat} {x y : Dt} (hx : xs[i]? = some x) (hy : ys[i]? = some y) : (zpL xs ys)[i]? = some (.tup [x, y]) := by
  unfold zpL
  rw [List.getElem?_map, List.zip, List.getElem?_zipWith, hx, hy]
  rfl
theorem wk_zipL {A : Al} {H : Hp} {a b : Addr} {vs ws : List V} {xs ys : List Dt} (h : ∀ A' H', Ext A H A' H' → SqL G.K H' a vs) (r : RVs G A H xs vs) (h2 : ∀ A' H', Ext A H A' H' → SqL G.K H' b ws) (r2 : RVs G A H ys ws) : Wk G (Itz G.K a b) A H (zpL xs ys) := by
  have hl := zpL_length xs ys
  refine ⟨fun i A' H' hi x => ?_, fun i A' H' S v H2 hi x s hy => ?_, fun A' H' x => ?_⟩
  · rw [hl] at hi
    obtain ⟨v, ev, _⟩ := r.get (List.getElem?_eq_getElem (show i < xs.length by omega))
    obtain ⟨w, ew, _⟩ := r2.get (List.getElem?_eq_getElem (show i < ys.length by omega))
    exact ⟨vs, ws, v, w, h A' H' x, h2 A' H' x, ev, ew⟩
  · obtain ⟨T, x1, y1, rfl, hT, rfl, hv, hw⟩ := hy
    obtain ⟨t, et, rt⟩ := r.get' (hv vs (h A' H' x))
    obtain ⟨u, eu, ru⟩ := r2.get' (hw ws (h2 A' H' x))
    exact ⟨_, zpL_get et eu, .new hT, s.new hT, RV.tup_new s hT ⟨_, _, rfl, rt.kp x.kp, _, _, rfl, ru.kp x.kp, rfl⟩⟩
  · refine ⟨vs, ws, h A' H' x, h2 A' H' x, ?_⟩
    rw [hl, r.length, r2.length]
    omega
theorem wk_zipT {A : Al} {H : Hp} {a b : Addr} {vs ws : List V} {xs ys : List Dt} (h : ∀ A' H', Ext A H A' H' → SqT G.K H' a vs) (r : RVs G A H xs vs) (h2 : ∀ A' H', Ext A H A' H' → SqT G.K H' b ws) (r2 : RVs G A H ys ws) : Wk G (RZ.ItzT G.K a b) A H (zpL xs ys) := by
  have hl := zpL_length xs ys
  refine ⟨fun i A' H' hi x => ?_, fun i A' H' S v H2 hi x s hy => ?_, fun A' H' x => ?_⟩
  · rw [hl] at hi
    obtain ⟨v, ev, _⟩ := r.get (List.getElem?_eq_getElem (show i < xs.length by omega))
    obtain ⟨w, ew, _⟩ := r2.get (List.getElem?_eq_getElem (show i < ys.length by omega))
    exact ⟨vs, ws, v, w, h A' H' x, h2 A' H' x, ev, ew⟩
  · obtain ⟨T, x1, y1, rfl, hT, rfl, hv, hw⟩ := hy
    obtain ⟨t, et, rt⟩ := r.get' (hv vs (h A' H' x))
    obtain ⟨u, eu, ru⟩ := r2.get' (hw ws (h2 A' H' x))
    exact ⟨_, zpL_get et eu, .new hT, s.new hT, RV.tup_new s hT ⟨_, _, rfl, rt.kp x.kp, _, _, rfl, ru.kp x.kp, rfl⟩⟩
  · refine ⟨vs, ws, h A' H' x, h2 A' H' x, ?_⟩
    rw [hl, r.length, r2.length]
    omega
theorem i_zip {a b : Expr} {ma : M (List Dv)} {p pos tpos : Pos} {elts : List Expr} {kk : Nat} (hK : G.K = X.K) (hg : Gl X "zip") (hm : X.mg "zip" = none) (ha : PA X [a, b] (tMA G W ma)) (hs : starEach [a, b] X.env = (false, eval a X.env) :: starEach [b] X.env) (hpl : (backTo pos (starEach [b] X.env)).any (·.1) = false) :
    PIS X G W (.Tuple elts kk tpos) (.Call (.Name "zip" p) [a, b] [] pos) (iRg zp2 ma) := by
  refine ⟨_, RZ.pi_zipA hg hm ha hs hpl, fun σ H A ρ S R he hs p => ?_⟩
  refine ⟨A, ρ, S, he, hs, Po.step p fun ds S1 A1 H1 x1 s1 p1 vs rv => ?_⟩
  obtain ⟨ts, e1, k⟩ := li_po p1 s1
  rw [← hK]
  unfold zp2 at e1
  split at e1
  · rename_i xs ys
    cases e1
    cases rv with
    | cons r1 r2 =>
      cases r2 with
      | cons r2 r3 =>
        cases r3
        obtain ⟨a, us, rfl, ha, ru⟩ := tup_at rfl r1
        obtain ⟨b, ws, rfl, hb, rw'⟩ := tup_at rfl r2
        exact ⟨a, b, us, ws, rfl, .inr ⟨ha A1 H1 .refl, hb A1 H1 .refl, k _ (wk_zipT ha ru hb rw')⟩⟩
  · rename_i d e _
    cases ed : lstOf d with
    | none => rw [ed] at e1; cases e1
    | some xs =>
      cases ee : lstOf e with
      | none => rw [ed, ee] at e1; cases e1
      | some ys =>
        rw [ed, ee] at e1
        cases e1
        cases rv with
        | cons r1 r2 =>
          cases r2 with
          | cons r2 r3 =>
            cases r3
            obtain ⟨a, us, rfl, ha, ru⟩ := lst_at ed r1
            obtain ⟨b, ws, rfl, hb, rw'⟩ := lst_at ee r2
            exact ⟨a, b, us, ws, rfl, .inl ⟨ha A1 H1 .refl, hb A1 H1 .refl, k _ (wk_zipL ha ru hb rw')⟩⟩
  · cases e1
/-! dicts -/
/-- the dict that e gives, locked -/
def tLkV (t : TE) : TE := fun σ H Q => t σ H fun x H1 => ∃ d kvs, x = .ref d ∧ Rd H1 d (.dK kvs) ∧ ∀ o H2, (H2 = H1 ∨ (H1 d = some (.dK kvs) ∧ H2 = upd H1 d (.frz o (.dK kvs)))) → H2 d = some (.frz o (.dK kvs)) → Q x H2
theorem pe_lockV {t : TE} (h : PE X e t) : PE X e (tLkV t) := by
  refine ⟨fun pins s σ H Q I hw => ?_⟩
  refine thn (h.run pins s σ H _ I hw) fun v s1 ⟨x, H1, I1, r, d, kvs, ex, hd, q⟩ => ?_
  rcases hd with hd | ⟨o, hd⟩
  · obtain ⟨od, I2⟩ := I1.lock hd trivial
    exact ⟨x, _, I2, r, q od _ (.inr ⟨hd, rfl⟩) upd_same⟩
  · exact ⟨x, H1, I1, r, q o H1 (.inl rfl) hd⟩
theorem lock_ext {A : Al} {S : Sto} {H H2 : Hp} {d : Addr} {kvs : List (Key × V)} {o : Obj} (s : StR G A S H) (n : d ∉ A.all) (h : H2 = H ∨ (H d = some (.dK kvs) ∧ H2 = upd H d (.frz o (.dK kvs)))) : Ext A H A H2 ∧ StR G A S H2 := by
  rcases h with rfl | ⟨hd, rfl⟩
  · exact ⟨.refl, s⟩
  · have x : Ext A H A (upd H d (.frz o (.dK kvs))) := by
      refine ⟨fun _ _ e => .inl e, fun _ _ _ _ => Iff.rfl, fun a u e m => ⟨?_, m⟩, fun a u e m hm => ?_⟩
      · by_cases ea : a = d
        · subst ea
          rw [hd] at e
          cases e
          rw [upd_same]
          exact .inr ⟨⟨kvs, rfl⟩, o, rfl⟩
        · rw [upd_ne ea]
          exact .inl e
      · by_cases ea : a = d
        · subst ea
          exact absurd (List.mem_append_right _ hm) n
        · rw [upd_ne ea]
          exact e
    refine ⟨x, s.len, s.nd, fun a ha => ?_, fun i l b e1 e2 => (s.box i l b e1 e2).keep x.kp fun a ha => ?_⟩
    · have ea : a ≠ d := fun z => n (by rw [← z]; exact ha)
      rw [upd_ne ea]
      exact s.alive a ha
    · have ea : a ≠ d := fun z => n (by rw [← z]; exact List.mem_append_left _ (live_set e1 a ha))
      rw [upd_ne ea]
def dctItems (d : Dv) : Option (List Dt) := match d with
  | .d (.dct ks xs) => some ((List.zip ks xs).map fun p => .tup [(match p.1 with | .inl i => .int i | .inr s => .str s), p.2])
  | _ => none
def kT (k : Key) : Dt := match k with
  | .inl i => .int i
  | .inr s => .str s
def itemsL (ks : List Key) (xs : List Dt) : List Dt := (List.zip ks xs).map fun p => .tup [kT p.1, p.2]
def dItems (d : Dv) : Option (List Dt) := match d with
  | .d (.dct ks xs) => some (itemsL ks xs)
  | _ => none
def dKeys (d : Dv) : Option (List Dt) := match d with
  | .d (.dct ks _) => some (ks.map kT)
  | _ => none
def dVals (d : Dv) : Option (List Dt) := match d with
  | .d (.dct ks xs) => some xs
  | _ => none
def iDc (f : Dv → Option (List Dt)) (m : M Dv) : M (List Dt) := fun ρ S => (m ρ S).bind fun d S1 => li (f d) S1
theorem kT_rv {A : Al} {H : Hp} (k : Key) : RV G A H (kT k) (kV k) := by
  cases k with
  | inl i => exact (rfl : V.int i = V.int i)
  | inr s => exact (rfl : V.str s = V.str s)
theorem frz_stay {A A' : Al} {H H' : Hp} {d : Addr} {o : Obj} {u : HO} (h : H d = some (.frz o u)) (n : d ∉ A.all) (x : Ext A H A' H') : H' d = some (.frz o u) := (x.all h n).1.eq fun ⟨_, z⟩ => by cases z
theorem itemsL_get {ks : List Key} {xs : List Dt} {i : Nat} {k : Key} {x : Dt} (hk : ks[i]? = some k) (hx : xs[i]? = some x) : (itemsL ks xs)[i]? = some (.tup [kT k, x]) := by
  unfold itemsL
  rw [List.getElem?_map, List.zip, List.getElem?_zipWith, hk, hx]
  rfl
theorem wk_items {A : Al} {H : Hp} {d : Addr} {o : Obj} {kvs : List (Key × V)} {xs : List Dt} (h : H d = some (.frz o (.dK kvs))) (n : d ∉ A.all) (r : RVs G A H xs (kvs.map (·.2))) : Wk G (Iti d o kvs) A H (itemsL (kvs.map (·.1)) xs) := by
  have hl : (itemsL (kvs.map (·.1)) xs).length = kvs.length := by
    have := r.length
    simp at this
    simp [itemsL, this]
  refine ⟨fun i A' H' hi x => ⟨frz_stay h n x, by rw [← hl]; exact hi⟩, fun i A' H' S v H2 hi x s hy => ?_, fun A' H' x => ⟨frz_stay h n x, by rw [hl]; exact Nat.le_refl _⟩⟩
  obtain ⟨T, k, v, ek, rfl, hT, rfl⟩ := hy
  obtain ⟨t, et, rt⟩ := r.get' (i := i) (v := v) (by rw [List.getElem?_map, ek]; rfl)
  exact ⟨_, itemsL_get (by rw [List.getElem?_map, ek]; rfl) et, .new hT, s.new hT, RV.tup_new s hT ⟨_, _, rfl, kT_rv k, _, _, rfl, rt.kp x.kp, rfl⟩⟩
theorem wk_keys {A : Al} {H : Hp} {d : Addr} {o : Obj} {kvs : List (Key × V)} (h : H d = some (.frz o (.dK kvs))) (n : d ∉ A.all) : Wk G (Itk d o kvs) A H ((kvs.map (·.1)).map kT) := by
  have hl : ((kvs.map (·.1)).map kT).length = kvs.length := by simp
  refine ⟨fun i A' H' hi x => ⟨frz_stay h n x, by rw [← hl]; exact hi⟩, fun i A' H' S v H2 hi x s hy => ?_, fun A' H' x => ⟨frz_stay h n x, by rw [hl]; exact Nat.le_refl _⟩⟩
  obtain ⟨rfl, k, v, ek, rfl⟩ := hy
  exact ⟨kT k, by rw [List.getElem?_map, List.getElem?_map, ek]; rfl, .refl, s, kT_rv k⟩
theorem wk_vals {A : Al} {H : Hp} {d : Addr} {o : Obj} {kvs : List (Key × V)} {xs : List Dt} (h : H d = some (.frz o (.dK kvs))) (n : d ∉ A.all) (r : RVs G A H xs (kvs.map (·.2))) : Wk G (Itd d o kvs) A H xs := by
  have hl : xs.length = kvs.length := by
    have := r.length
    simpa using this
  refine ⟨fun i A' H' hi x => ⟨frz_stay h n x, by rw [← hl]; exact hi⟩, fun i A' H' S v H2 hi x s hy => ?_, fun A' H' x => ⟨frz_stay h n x, by rw [hl]; exact Nat.le_refl _⟩⟩
  obtain ⟨rfl, k, ek⟩ := hy
  obtain ⟨t, et, rt⟩ := r.get' (i := i) (v := v) (by rw [List.getElem?_map, ek]; rfl)
  exact ⟨t, et, .refl, s, rt.kp x.kp⟩
/-- the dict d, locked -/
theorem lk_read {σ : L2.St} {H : Hp} {A : Al} {ρ : Env} {S : Sto} {f : Dv → Option (List Dt)} {R : It → Hp → Prop} {Q : VK} (he : EnvR G A H ρ σ) (hs : StR G A S H) (p : Po G (Wa W σ) A H (iDc f m ρ S) fun A' H' ts => ∀ J, Wk G J A' H' ts → R J H')
    (hf : ∀ d ts, f d = some ts → ∃ ks xs, d = .d (.dct ks xs))
    (q : ∀ A2 H2 d o kvs xs ts S2, StR G A2 S2 H2 → f (.d (.dct (kvs.map (·.1)) xs)) = some ts → H2 d = some (.frz o (.dK kvs)) → d ∉ A2.all → RVs G A2 H2 xs (kvs.map (·.2)) → (∀ J, Wk G J A2 H2 ts → R J H2) → Q (.ref d) H2) : tLkV (tM G W m) σ H Q := by
  refine ⟨A, ρ, S, he, hs, Po.step p fun d S1 A1 H1 x1 s1 p1 v rv => ?_⟩
  cases ef : f d with
  | none => rw [ef] at p1; exact p1.elim
  | some ts =>
    rw [ef] at p1
    obtain ⟨ks, xs, rfl⟩ := hf d ts ef
    obtain ⟨a, kvs, rfl, n, hr, rfl, hv⟩ := rv
    refine ⟨a, kvs, rfl, hr, fun o H2 h2 hd => ?_⟩
    obtain ⟨x2, s2⟩ := lock_ext s1 n h2
    exact q A1 H2 a o kvs xs ts S1 s2 ef hd n (hv.kp x2.kp) (Po.at p1 x2 s2)
theorem i_items {apos cpos tpos : Pos} {elts : List Expr} {kk : Nat} (he : PE X e (tM G W m)) (hbase : attributeBase e "items" X.env (eval e X.env) = eval e X.env) (hline : (apos.endLine == cpos.line) = true) : PIS X G W (.Tuple elts kk tpos) (.Call (.Attribute e "items" apos) [] [] cpos) (iDc dItems m) := by
  refine ⟨_, pi_items (pe_lockV he) hbase hline, fun σ H A ρ S R he hs p => ?_⟩
  refine lk_read he hs p (fun d ts e => ?_) fun A2 H2 d o kvs xs ts S2 s2 e1 hd n hv k => ⟨d, o, kvs, rfl, hd, k _ ?_⟩
  · unfold dItems at e
    split at e
    · exact ⟨_, _, rfl⟩
    · cases e
  · cases e1
    exact wk_items hd n hv
theorem i_keys (he : PE X e (tM G W m)) : PIS X G W tg e (iDc dKeys m) := by
  refine ⟨_, pi_keys (pe_lockV he), fun σ H A ρ S R he hs p => ?_⟩
  refine lk_read he hs p (fun d ts e => ?_) fun A2 H2 d o kvs xs ts S2 s2 e1 hd n hv k => ⟨d, o, rfl, .inl ⟨kvs, hd, k _ ?_⟩⟩
  · unfold dKeys at e
    split at e
    · exact ⟨_, _, rfl⟩
    · cases e
  · cases e1
    exact wk_keys hd n
theorem i_vals {apos cpos : Pos} (he : PE X e (tM G W m)) (hbase : attributeBase e "values" X.env (eval e X.env) = eval e X.env) (hline : (apos.endLine == cpos.line) = true) : PIS X G W tg (.Call (.Attribute e "values" apos) [] [] cpos) (iDc dVals m) := by
  refine ⟨_, pi_values (pe_lockV he) hbase hline, fun σ H A ρ S R he hs p => ?_⟩
  refine lk_read he hs p (fun d ts e => ?_) fun A2 H2 d o kvs xs ts S2 s2 e1 hd n hv k => ⟨d, o, kvs, rfl, hd, k _ ?_⟩
  · unfold dVals at e
    split at e
    · exact ⟨_, _, rfl⟩
    · cases e
  · cases e1
    exact wk_vals hd n hv
/-! a text, sign by sign -/
def signsOf (d : Dv) : Option (List Dt) := match d with
  | .d (.str s) => some (s.cps.toList.map fun c => .str ⟨#[c]⟩)
  | _ => none
theorem i_str (he : PE X e (tM G W m)) : PIS X G W tg e (iDc signsOf m) := by
  refine ⟨_, pi_str he, fun σ H A ρ S R he hs p => ?_⟩
  refine ⟨A, ρ, S, he, hs, Po.step p fun d S1 A1 H1 x1 s1 p1 v rv => ?_⟩
  obtain ⟨ts, e1, k⟩ := li_po p1 s1
  unfold signsOf at e1
  split at e1
  · rename_i z
    cases e1
    refine ⟨z, rv, k _ ?_⟩
    have hl : (z.cps.toList.map fun c => Dt.str ⟨#[c]⟩).length = z.cps.size := by simp
    refine ⟨fun i A' H' hi x => by rw [hl] at hi; exact hi, fun i A' H' S v H2 hi x s hy => ?_, fun A' H' x => by rw [hl]; exact Nat.le_refl _⟩
    obtain ⟨rfl, c, ec, rfl⟩ := hy
    refine ⟨.str ⟨#[c]⟩, ?_, .refl, s, rfl⟩
    rw [List.getElem?_map]
    have : z.cps.toList[i]? = some c := by simpa using ec
    rw [this]
    rfl
  · cases e1
end
end Sm
/-! Sm9: operators, subscripts, the builtins, by data. -/
namespace Sm
open PySem PySem.Spec PyProof.Rows L2
section
variable {G : Gs} {E : XK} {A : Al} {S : Sto} {H : Hp} {Q : VK} {ts : List Dt} {vs : List V}
theorem poT (p : Po G E A H (lift (some (Dv.d (.tup ts), S))) (kD G Q)) (s : StR G A S H) (r : RVs G A H ts vs) : ∀ q, H q = none → Q (.ref q) (upd H q (.tup vs)) :=
  fun _ hq => Po.at p (Ext.new hq) (s.new hq) _ (RV.tup_new s hq r)
theorem poL (p : Po G E A H (lift (some (Dv.d (.lst ts), S))) (kD G Q)) (s : StR G A S H) (r : RVs G A H ts vs) : ∀ q, H q = none → Q (.ref q) (upd H q (.lst vs)) :=
  fun _ hq => Po.at p (Ext.new hq) (s.new hq) _ (RV.lst_new s hq r)
theorem poB {ds : List Dv} (p : Po G E A H (lift (some (Dv.loc S.length, S ++ [.lst ds]))) (kD G Q)) (s : StR G A S H) (r : RDs G A H ds vs) : ∀ q, H q = none → Q (.ref q) (upd H q (.lst vs)) := fun _ hq => by
  obtain ⟨x1, s1, r1⟩ := box_lst s hq r
  exact Po.at p x1 s1 _ r1
end
/-- what a list (a box or not) has -/
def lstAt (S : Sto) (d : Dv) : Option (List Dv) := match d with
  | .d (.lst ts) => some (ts.map .d)
  | .loc n => (match S[n]? with
    | some (.lst ds) => some ds
    | _ => none)
  | _ => none
theorem lstAt_rd {G : Gs} {A : Al} {S : Sto} {H : Hp} {d : Dv} {v : V} {ds : List Dv} (s : StR G A S H) (r : RD G A H d v) (h : lstAt S d = some ds) : ∃ a vs, v = .ref a ∧ H a = some (.lst vs) ∧ RDs G A H ds vs := by
  cases d with
  | d t =>
    cases t with
    | lst ts =>
      obtain ⟨a, vs, e, hl, hv⟩ := r
      cases h
      exact ⟨a, vs, e, hl.1, hv.rds⟩
    | _ => cases h
  | loc n =>
    unfold lstAt at h
    simp only at h
    cases e : S[n]? with
    | none => rw [e] at h; cases h
    | some o =>
      rw [e] at h
      cases o with
      | lst xs =>
        cases h
        obtain ⟨a, vs, ev, _, hl, hv⟩ := loc_lst s r e
        exact ⟨a, vs, ev, hl, hv⟩
      | _ => cases h
/-- any sequence: what it has -/
def seqAt (S : Sto) (d : Dv) : Option (List Dv) := match d with
  | .d (.tup ts) => some (ts.map .d)
  | .d (.scr ts) => some (ts.map .d)
  | d => lstAt S d
theorem seqAt_rd {G : Gs} {A : Al} {S : Sto} {H : Hp} {d : Dv} {v : V} {ds : List Dv} (s : StR G A S H) (r : RD G A H d v) (h : seqAt S d = some ds) : ∃ a vs, v = .ref a ∧ (SqL G.K H a vs ∨ SqT G.K H a vs) ∧ RDs G A H ds vs := by
  unfold seqAt at h
  split at h
  · obtain ⟨a, vs, e, ht, hv⟩ := r
    cases h
    exact ⟨a, vs, e, .inr ht.sq, hv.rds⟩
  · obtain ⟨a, vs, e, ht, hv⟩ := r
    cases h
    exact ⟨a, vs, e, .inl ht.sq, hv.rds⟩
  · obtain ⟨a, vs, e, hl, hv⟩ := lstAt_rd s r h
    exact ⟨a, vs, e, .inl (.inl (.inl hl)), hv⟩
theorem RDs.pure {G : Gs} {A : Al} {H : Hp} {ts : List Dt} {ds : List Dv} {vs : List V} (e : pures ds = some ts) (r : RDs G A H ds vs) : RVs G A H ts vs := pures_rvs e r

/-! ### operators -/
def pAdd : P2 := fun d e S => match d, e with
  | .d (.int i), .d (.int j) => some (.d (.int (i + j)), S)
  | .d (.str a), .d (.str b) => if a.length + b.length ≤ 16777216 then some (.d (.str (a ++ b)), S) else none
  | .d (.tup a), .d (.tup b) => if a.length + b.length ≤ 16777216 then some (.d (.tup (a ++ b)), S) else none
  | .d (.lst a), .d (.lst b) => if a.length + b.length ≤ 16777216 then some (.d (.lst (a ++ b)), S) else none
  | _, _ => none
/-- the sum of two lists, a box -/
def pAddB : P2 := fun d e S => match lstAt S d, lstAt S e with
  | some a, some b => if a.length + b.length ≤ 16777216 then some (.loc S.length, S ++ [.lst (a ++ b)]) else none
  | _, _ => none
def smallI (i : Int) : Bool := decide (-(2 ^ 64) < i ∧ i < 2 ^ 64)
def mulOk (i j : Int) : Bool := smallI i || smallI j || decide (i.natAbs.log2 + j.natAbs.log2 < 1000000)
def divOk (j : Int) : Bool := decide (0 < j ∧ j < 1073741824) || decide (0 < j ∧ j.natAbs.log2 < 9000)
def pSub : P2 := fun d e S => match d, e with
  | .d (.int i), .d (.int j) => some (.d (.int (i - j)), S)
  | _, _ => none
def pMul : P2 := fun d e S => match d, e with
  | .d (.int i), .d (.int j) => if mulOk i j = true then some (.d (.int (i * j)), S) else none
  | .d (.lst a), .d (.int j) => if decide (-(2 ^ 63) ≤ j ∧ j < 2 ^ 63 ∧ a.length * j.toNat ≤ 16777216) = true then some (.d (.lst (List.replicate j.toNat a).flatten), S) else none
  | _, _ => none
def pDiv : P2 := fun d e S => match d, e with
  | .d (.int i), .d (.int j) => if divOk j = true then some (.d (.int (i / j)), S) else none
  | _, _ => none
def pMod : P2 := fun d e S => match d, e with
  | .d (.int i), .d (.int j) => if 0 < j then some (.d (.int (i % j)), S) else none
  | _, _ => none
def pPow : P2 := fun d e S => match d, e with
  | .d (.int i), .d (.int j) => if decide (0 ≤ j ∧ j ≤ 1000000 ∧ i.natAbs < 2 ^ 64) = true then some (.d (.int (i ^ j.toNat)), S) else none
  | _, _ => none
def pNeg : P1 := fun d S => match d with
  | .d (.int i) => some (.d (.int (-i)), S)
  | _ => none
theorem rvs_rep {G : Gs} {A : Al} {H : Hp} {ts : List Dt} {vs : List V} (r : RVs G A H ts vs) : ∀ k : Nat, RVs G A H (List.replicate k ts).flatten (List.replicate k vs).flatten
  | 0 => (rfl : ([] : List V) = [])
  | k + 1 => by
    simp only [List.replicate_succ, List.flatten_cons]
    exact r.append (rvs_rep r k)
section
variable {X : Cx} {G : Gs} {W : WX} {k : Nat}
theorem o_add (hK : G.K = X.K) : OpR X (binaryOp .Add) (q2 G pAdd) := by
  refine (op_add.or (op_add_str.or (op_catA.or op_cat))).sm fun x y H Q h => ?_
  obtain ⟨A, S, d, e, rd, re, s, p⟩ := h
  unfold pAdd at p
  split at p
  · exact .inl ⟨_, _, rd, re, Po.now p s _ rfl⟩
  · split at p
    · rename_i hl
      exact .inr (.inl ⟨_, _, rd, re, line_of hl, Po.now p s _ rfl⟩)
    · exact p.elim
  · split at p
    · rename_i hl
      obtain ⟨a, vs, rfl, ha, hv⟩ := rd
      obtain ⟨b, ws, rfl, hb, hw⟩ := re
      refine .inr (.inr (.inl ⟨a, b, vs, ws, rfl, rfl, ?_, ?_, ?_, fun e => ?_, fun ne e => ?_, fun ne ne2 q hq => poT p s (hv.append hw) q hq⟩))
      · rw [← hK]; exact ha.sq
      · rw [← hK]; exact hb.sq
      · rw [← hv.length, ← hw.length]; exact line_of hl
      · subst e
        have z := hv.length
        simp at z
        subst z
        exact Po.now p s (.ref b) ⟨b, ws, rfl, hb, hw⟩
      · subst e
        have z := hw.length
        simp at z
        subst z
        rw [List.append_nil] at p
        exact Po.now p s (.ref a) ⟨a, vs, rfl, ha, hv⟩
    · exact p.elim
  · split at p
    · rename_i hl
      obtain ⟨a, vs, rfl, ha, hv⟩ := rd
      obtain ⟨b, ws, rfl, hb, hw⟩ := re
      refine .inr (.inr (.inr ⟨a, b, vs, ws, rfl, rfl, ha.1, hb.1, ?_, poL p s (hv.append hw)⟩))
      rw [← hv.length, ← hw.length]; exact line_of hl
    · exact p.elim
  · exact p.elim
theorem o_addB : OpR X (binaryOp .Add) (q2 G pAddB) := by
  refine op_cat.sm fun x y H Q h => ?_
  obtain ⟨A, S, d, e, rd, re, s, p⟩ := h
  unfold pAddB at p
  split at p
  · rename_i a b e1 e2
    split at p
    · rename_i hl
      obtain ⟨a, vs, rfl, ha, hv⟩ := lstAt_rd s rd e1
      obtain ⟨b, ws, rfl, hb, hw⟩ := lstAt_rd s re e2
      refine ⟨a, b, vs, ws, rfl, rfl, ha, hb, ?_, poB p s (hv.append hw)⟩
      rw [← Paired.length hv, ← Paired.length hw]; exact line_of hl
    · exact p.elim
  · exact p.elim
theorem o_sub : OpR X (binaryOp .Sub) (q2 G pSub) := by
  refine op_sub.sm fun x y H Q h => ?_
  obtain ⟨A, S, d, e, rd, re, s, p⟩ := h
  unfold pSub at p
  split at p
  · exact ⟨_, _, rd, re, Po.now p s _ rfl⟩
  · exact p.elim
theorem o_mul : OpR X (binaryOp .Mult) (q2 G pMul) := by
  refine (op_mul.or (op_mulW.or op_rep)).sm fun x y H Q h => ?_
  obtain ⟨A, S, d, e, rd, re, s, p⟩ := h
  unfold pMul at p
  split at p
  · split at p
    · rename_i hl
      unfold mulOk smallI at hl
      simp only [Bool.or_eq_true, decide_eq_true_eq] at hl
      rcases hl with (hl | hl) | hl
      · exact .inl ⟨_, _, rd, re, .inl hl, Po.now p s _ rfl⟩
      · exact .inl ⟨_, _, rd, re, .inr hl, Po.now p s _ rfl⟩
      · exact .inr (.inl ⟨_, _, rd, re, hl, Po.now p s _ rfl⟩)
    · exact p.elim
  · split at p
    · rename_i hl
      have hl := of_decide_eq_true hl
      obtain ⟨a, vs, rfl, ha, hv⟩ := rd
      refine .inr (.inr ⟨a, _, vs, rfl, re, ha.1, hl.1, hl.2.1, ?_, poL p s (rvs_rep hv _)⟩)
      rw [← hv.length]; exact line_of hl.2.2
    · exact p.elim
  · exact p.elim
theorem o_div : OpR X (binaryOp .FloorDiv) (q2 G pDiv) := by
  refine (op_fdiv.or op_fdivW).sm fun x y H Q h => ?_
  obtain ⟨A, S, d, e, rd, re, s, p⟩ := h
  unfold pDiv at p
  split at p
  · split at p
    · rename_i hl
      unfold divOk at hl
      simp only [Bool.or_eq_true, decide_eq_true_eq] at hl
      rcases hl with hl | hl
      · exact .inl ⟨_, _, rd, re, hl, Po.now p s _ rfl⟩
      · exact .inr ⟨_, _, rd, re, hl, Po.now p s _ rfl⟩
    · exact p.elim
  · exact p.elim
theorem o_mod : OpR X (binaryOp .Mod) (q2 G pMod) := by
  refine op_mod.sm fun x y H Q h => ?_
  obtain ⟨A, S, d, e, rd, re, s, p⟩ := h
  unfold pMod at p
  split at p
  · split at p
    · rename_i hl
      exact ⟨_, _, rd, re, hl, Po.now p s _ rfl⟩
    · exact p.elim
  · exact p.elim
theorem o_pow : OpR X (binaryOp .Pow) (q2 G pPow) := by
  refine op_pow.sm fun x y H Q h => ?_
  obtain ⟨A, S, d, e, rd, re, s, p⟩ := h
  unfold pPow at p
  split at p
  · split at p
    · rename_i hl
      have hl := of_decide_eq_true hl
      exact ⟨_, _, rd, re, hl, Po.now p s _ rfl⟩
    · exact p.elim
  · exact p.elim
theorem u_neg : UnR X (unaryOp .USub) (q1 G pNeg) := by
  refine un_neg.sm fun x H Q h => ?_
  obtain ⟨A, S, d, rd, s, p⟩ := h
  unfold pNeg at p
  split at p
  · exact ⟨_, rd, Po.now p s _ rfl⟩
  · exact p.elim
end

/-! ### deep data -/
mutual
def toPy : Dt → Option PyData
  | .non => some .none
  | .bl b => some (.bool b)
  | .int i => some (.int i)
  | .str s => some (.str s)
  | .tup xs => (toPys xs).map .tuple
  | .lst xs => (toPys xs).map .list
  | .scr xs => (toPys xs).map .list
  | .dct _ _ => none
  | .obj _ _ => none
def toPys : List Dt → Option (List PyData)
  | [] => some []
  | t :: ts => match toPy t, toPys ts with
    | some a, some b => some (a :: b)
    | _, _ => none
end
mutual
theorem RV.dp {G : Gs} {A : Al} {H : Hp} : ∀ {t : Dt} {v : V} {d : PyData}, toPy t = some d → RV G A H t v → Dp G.K H v d
  | .non, v, d, e, r => by
    cases e
    obtain rfl : v = .non := r
    exact .non
  | .bl b, v, d, e, r => by
    cases e
    obtain rfl : v = .bl b := r
    exact .bl b
  | .int i, v, d, e, r => by
    cases e
    obtain rfl : v = .int i := r
    exact .int i
  | .str x, v, d, e, r => by
    cases e
    obtain rfl : v = .str x := r
    exact .str x
  | .tup xs, v, d, e, r => by
    obtain ⟨a, vs, rfl, h, hv⟩ := r
    unfold toPy at e
    cases e1 : toPys xs with
    | none => rw [e1] at e; cases e
    | some ds =>
      rw [e1] at e
      cases e
      exact .tup h.sq (RVs.dp e1 hv)
  | .lst xs, v, d, e, r => by
    obtain ⟨a, vs, rfl, h, hv⟩ := r
    unfold toPy at e
    cases e1 : toPys xs with
    | none => rw [e1] at e; cases e
    | some ds =>
      rw [e1] at e
      cases e
      exact .lst h.sq (RVs.dp e1 hv)
  | .scr xs, v, d, e, r => by
    obtain ⟨a, vs, rfl, h, hv⟩ := r
    unfold toPy at e
    cases e1 : toPys xs with
    | none => rw [e1] at e; cases e
    | some ds =>
      rw [e1] at e
      cases e
      exact .lst h.sq (RVs.dp e1 hv)
  | .dct ks xs, v, d, e, r => by cases e
  | .obj c xs, v, d, e, r => by cases e
theorem RVs.dp {G : Gs} {A : Al} {H : Hp} : ∀ {ts : List Dt} {vs : List V} {ds : List PyData}, toPys ts = some ds → RVs G A H ts vs → DpAll G.K H vs ds
  | [], vs, ds, e, r => by
    cases e
    obtain rfl : vs = [] := r
    exact .nil
  | t :: ts, vs, ds, e, r => by
    obtain ⟨v, w, rfl, r1, r2⟩ := r
    unfold toPys at e
    cases e1 : toPy t with
    | none => rw [e1] at e; cases e
    | some a =>
      cases e2 : toPys ts with
      | none => rw [e1, e2] at e; cases e
      | some b =>
        rw [e1, e2] at e
        cases e
        exact .cons (RV.dp e1 r1) (RVs.dp e2 r2)
end
def pyDv (S : Sto) (d : Dv) : Option PyData := match d with
  | .d t => toPy t
  | .loc n => (match S[n]? with
    | some (.lst ds) => ((pures ds).bind toPys).map .list
    | _ => none)
theorem pyDv_dp {G : Gs} {A : Al} {S : Sto} {H : Hp} {d : Dv} {v : V} {y : PyData} (s : StR G A S H) (r : RD G A H d v) (h : pyDv S d = some y) : Dp G.K H v y := by
  cases d with
  | d t => exact RV.dp h r
  | loc n =>
    unfold pyDv at h
    simp only at h
    cases e : S[n]? with
    | none => rw [e] at h; cases h
    | some o =>
      rw [e] at h
      cases o with
      | lst xs =>
        obtain ⟨a, vs, rfl, _, hl, hv⟩ := loc_lst s r e
        simp only at h
        cases e1 : pures xs with
        | none => rw [e1] at h; cases h
        | some ts =>
          rw [e1] at h
          simp only [Option.bind_some] at h
          cases e2 : toPys ts with
          | none => rw [e2] at h; cases h
          | some ds =>
            rw [e2] at h
            cases h
            exact .lst (.inl (.inl hl)) (RVs.dp e2 (pures_rvs e1 hv))
      | _ => cases h
def eqDv (S : Sto) (d e : Dv) : Option Bool := match pyDv S d, pyDv S e with
  | some x, some y => if SeqAt.shaped x = true ∧ SeqAt.shaped y = true then some (PyData.eqv x y) else none
  | _, _ => none
theorem eqDv_to {S : Sto} {d e : Dv} {b : Bool} (h : eqDv S d e = some b) : ∃ x y, pyDv S d = some x ∧ pyDv S e = some y ∧ SeqAt.shaped x = true ∧ SeqAt.shaped y = true ∧ b = PyData.eqv x y := by
  unfold eqDv at h
  split at h
  · rename_i x y e1 e2
    split at h
    · rename_i hs
      cases h
      exact ⟨x, y, e1, e2, hs.1, hs.2, rfl⟩
    · cases h
  · cases h
def pEq : P2 := fun d e S => match eqDv S d e with
  | some b => some (.d (.bl b), S)
  | none => none
def pNe : P2 := fun d e S => match eqDv S d e with
  | some b => some (.d (.bl (!b)), S)
  | none => none
def pCmp (f : Int → Int → Bool) (g : Str → Str → Bool) : P2 := fun d e S => match d, e with
  | .d (.int i), .d (.int j) => some (.d (.bl (f i j)), S)
  | .d (.str i), .d (.str j) => some (.d (.bl (g i j)), S)
  | _, _ => none
def ltS (i j : Str) : Bool := decide (i.cps.toList < j.cps.toList)
def pLt : P2 := pCmp (fun i j => decide (i < j)) ltS
def pLe : P2 := pCmp (fun i j => decide (i ≤ j)) fun i j => !ltS j i
def pGt : P2 := pCmp (fun i j => decide (j < i)) fun i j => ltS j i
def pGe : P2 := pCmp (fun i j => decide (j ≤ i)) fun i j => !ltS i j
/-- is None -/
def pIs : P2 := fun d e S => match d, e with
  | .d t, .d .non => some (.d (.bl (match t with | .non => true | _ => false)), S)
  | .loc _, .d .non => some (.d (.bl false), S)
  | _, _ => none
def pIsNot : P2 := fun d e S => match d, e with
  | .d t, .d .non => some (.d (.bl (match t with | .non => false | _ => true)), S)
  | .loc _, .d .non => some (.d (.bl true), S)
  | _, _ => none
section
variable {X : Cx} {G : Gs} {W : WX} {k : Nat}
theorem o_eq (hu : X.A.units + 64 < cLine) (hK : G.K = X.K) : OpR X (compareOp .Eq) (q2 G pEq) := by
  refine (op_eqD hu).sm fun x y H Q h => ?_
  obtain ⟨A, S, d, e, rd, re, s, p⟩ := h
  unfold pEq at p
  split at p
  · rename_i b hb
    obtain ⟨u, v, e1, e2, s1, s2, eb⟩ := eqDv_to hb
    subst eb
    rw [← hK]
    exact ⟨u, v, pyDv_dp s rd e1, pyDv_dp s re e2, s1, s2, Po.now p s _ rfl⟩
  · exact p.elim
theorem o_ne (hu : X.A.units + 64 < cLine) (hK : G.K = X.K) : OpR X (compareOp .NotEq) (q2 G pNe) := by
  refine (op_neD hu).sm fun x y H Q h => ?_
  obtain ⟨A, S, d, e, rd, re, s, p⟩ := h
  unfold pNe at p
  split at p
  · rename_i b hb
    obtain ⟨u, v, e1, e2, s1, s2, eb⟩ := eqDv_to hb
    subst eb
    rw [← hK]
    exact ⟨u, v, pyDv_dp s rd e1, pyDv_dp s re e2, s1, s2, Po.now p s _ rfl⟩
  · exact p.elim
theorem cmp_read {f : Int → Int → Bool} {g : Str → Str → Bool} {x y : V} {H : Hp} {Q : VK} (h : q2 G (pCmp f g) x y H Q) : (∃ i j, x = .int i ∧ y = .int j ∧ Q (.bl (f i j)) H) ∨ ∃ i j, x = .str i ∧ y = .str j ∧ Q (.bl (g i j)) H := by
  obtain ⟨A, S, d, e, rd, re, s, p⟩ := h
  unfold pCmp at p
  split at p
  · exact .inl ⟨_, _, rd, re, Po.now p s _ rfl⟩
  · exact .inr ⟨_, _, rd, re, Po.now p s _ rfl⟩
  · exact p.elim
theorem o_lt : OpR X (compareOp .Lt) (q2 G pLt) := (op_lt.or op_lt_str).sm fun _ _ _ _ h => cmp_read h
theorem o_le : OpR X (compareOp .LtE) (q2 G pLe) := (op_le.or op_le_str).sm fun _ _ _ _ h => cmp_read h
theorem o_gt : OpR X (compareOp .Gt) (q2 G pGt) := (op_gt.or op_gt_str).sm fun _ _ _ _ h => cmp_read h
theorem o_ge : OpR X (compareOp .GtE) (q2 G pGe) := (op_ge.or op_ge_str).sm fun _ _ _ _ h => cmp_read h
theorem loc_ref {n : Nat} {A : Al} {S : Sto} {H : Hp} {v : V} (s : StR G A S H) (r : RD G A H (.loc n) v) (h : ∃ o, S[n]? = some o ∧ (∀ z, o ≠ z ∨ z ≠ .dead)) : ∃ a, v = .ref a := by
  obtain ⟨o, e, ne⟩ := h
  obtain ⟨l, e1, f⟩ := r
  have b := s.box n l o e1 e
  cases o with
  | lst xs => obtain ⟨a, vs, rfl, _⟩ := b; exact ⟨a, f a [] rfl⟩
  | dct ks xs => obtain ⟨a, vs, rfl, _⟩ := b; exact ⟨a, f a [] rfl⟩
  | ins c fs => obtain ⟨a, dx, ws, rfl, _⟩ := b; exact ⟨a, f a _ rfl⟩
  | dead => exact absurd rfl ((ne .dead).elim id fun z => absurd rfl z)
theorem isN_rd {A : Al} {H : Hp} {t : Dt} {v : V} (r : RV G A H t v) : decide (v = .non) = (match t with | .non => true | _ => false) := by
  cases t with
  | non => obtain rfl : v = .non := r; rfl
  | bl b => obtain rfl : v = .bl b := r; rfl
  | int i => obtain rfl : v = .int i := r; rfl
  | str i => obtain rfl : v = .str i := r; rfl
  | tup xs => obtain ⟨a, vs, rfl, _⟩ := r; rfl
  | lst xs => obtain ⟨a, vs, rfl, _⟩ := r; rfl
  | scr xs => obtain ⟨a, vs, rfl, _⟩ := r; rfl
  | dct ks xs => obtain ⟨a, vs, rfl, _⟩ := r; rfl
  | obj c xs => obtain ⟨a, _, _, _, rfl, _⟩ := r; rfl
end
end Sm
/-! Sm10: in, subscripts, slices, len, list, tuple, int, abs, isinstance, stores, list methods. -/
namespace Sm
open PySem PySem.Spec PyProof.Rows L2

/-! ### is None -/
def isNon : Dt → Bool
  | .non => true
  | _ => false
def pIsN : P2 := fun d e S => match d, e with
  | .d t, .d .non => some (.d (.bl (isNon t)), S)
  | _, _ => none
def pNotN : P2 := fun d e S => match d, e with
  | .d t, .d .non => some (.d (.bl (!isNon t)), S)
  | _, _ => none
/-! ### flat items, keys -/
def flatT : Dt → Bool
  | .non => true
  | .bl _ => true
  | .int _ => true
  | .str _ => true
  | _ => false
def eqF : Dt → Dt → Bool
  | .non, .non => true
  | .bl a, .bl b => a == b
  | .bl a, .int b => (if a then 1 else 0) == b
  | .int a, .bl b => a == (if b then 1 else 0)
  | .int a, .int b => a == b
  | .str a, .str b => a == b
  | _, _ => false
section
variable {G : Gs} {A : Al} {H : Hp}
theorem flat_rv {t : Dt} {v : V} (r : RV G A H t v) (f : flatT t = true) : flatV v = true := by
  cases t with
  | non => obtain rfl : v = .non := r; rfl
  | bl b => obtain rfl : v = .bl b := r; rfl
  | int i => obtain rfl : v = .int i := r; rfl
  | str i => obtain rfl : v = .str i := r; rfl
  | _ => cases f
theorem eqF_rv {t u : Dt} {v w : V} (r : RV G A H t v) (r2 : RV G A H u w) (f : flatT t = true) (f2 : flatT u = true) : eqV v w = eqF t u := by
  cases t with
  | non =>
    obtain rfl : v = .non := r
    cases u with
    | non => obtain rfl : w = .non := r2; rfl
    | bl b => obtain rfl : w = .bl b := r2; rfl
    | int i => obtain rfl : w = .int i := r2; rfl
    | str i => obtain rfl : w = .str i := r2; rfl
    | _ => cases f2
  | bl b =>
    obtain rfl : v = .bl b := r
    cases u with
    | non => obtain rfl : w = .non := r2; rfl
    | bl b => obtain rfl : w = .bl b := r2; rfl
    | int i => obtain rfl : w = .int i := r2; rfl
    | str i => obtain rfl : w = .str i := r2; rfl
    | _ => cases f2
  | int i =>
    obtain rfl : v = .int i := r
    cases u with
    | non => obtain rfl : w = .non := r2; rfl
    | bl b => obtain rfl : w = .bl b := r2; rfl
    | int i => obtain rfl : w = .int i := r2; rfl
    | str i => obtain rfl : w = .str i := r2; rfl
    | _ => cases f2
  | str i =>
    obtain rfl : v = .str i := r
    cases u with
    | non => obtain rfl : w = .non := r2; rfl
    | bl b => obtain rfl : w = .bl b := r2; rfl
    | int i => obtain rfl : w = .int i := r2; rfl
    | str i => obtain rfl : w = .str i := r2; rfl
    | _ => cases f2
  | _ => cases f
theorem all_flat : ∀ {ts : List Dt} {vs : List V}, RVs G A H ts vs → ts.all flatT = true → vs.all flatV = true
  | [], vs, r, _ => by
    obtain rfl : vs = [] := r
    rfl
  | t :: ts, vs, r, f => by
    obtain ⟨v, w, rfl, r1, r2⟩ := r
    rw [List.all_cons, Bool.and_eq_true] at f
    rw [List.all_cons, Bool.and_eq_true]
    exact ⟨flat_rv r1 f.1, all_flat r2 f.2⟩
theorem any_flat {u : Dt} {w : V} (ru : RV G A H u w) (fu : flatT u = true) : ∀ {ts : List Dt} {vs : List V}, RVs G A H ts vs → ts.all flatT = true → inV w vs = ts.any fun t => eqF t u
  | [], vs, r, _ => by
    obtain rfl : vs = [] := r
    rfl
  | t :: ts, vs, r, f => by
    obtain ⟨v, w', rfl, r1, r2⟩ := r
    rw [List.all_cons, Bool.and_eq_true] at f
    have ih := any_flat ru fu r2 f.2
    unfold inV at ih ⊢
    rw [List.any_cons, List.any_cons, eqF_rv r1 ru f.1 fu, ih]
end
/-- the keys of a dict (a box or not) -/
def dctAt (S : Sto) (d : Dv) : Option (List Key × List Dv) := match d with
  | .d (.dct ks xs) => some (ks, xs.map .d)
  | .loc n => (match S[n]? with
    | some (.dct ks xs) => some (ks, xs)
    | _ => none)
  | _ => none
theorem dctAt_rd {G : Gs} {A : Al} {S : Sto} {H : Hp} {d : Dv} {v : V} {ks : List Key} {xs : List Dv} (s : StR G A S H) (r : RD G A H d v) (h : dctAt S d = some (ks, xs)) : ∃ a kvs, v = .ref a ∧ Rd H a (.dK kvs) ∧ kvs.map (·.1) = ks ∧ RDs G A H xs (kvs.map (·.2)) := by
  cases d with
  | d t =>
    cases t with
    | dct ks' xs' =>
      obtain ⟨a, kvs, e, _, hl, ek, hv⟩ := r
      cases h
      exact ⟨a, kvs, e, hl, ek, hv.rds⟩
    | _ => cases h
  | loc n =>
    unfold dctAt at h
    simp only at h
    cases e : S[n]? with
    | none => rw [e] at h; cases h
    | some o =>
      rw [e] at h
      cases o with
      | dct ks' xs' =>
        cases h
        obtain ⟨a, kvs, ev, _, hl, ek, hv⟩ := loc_dct s r e
        exact ⟨a, kvs, ev, .inl hl, ek, hv⟩
      | _ => cases h
def inSeq (x : Dv) (ds : List Dv) : Option Bool := match x with
  | .d u => if flatT u = true then (match pures ds with
    | some ts => if ts.all flatT = true then some (ts.any fun t => eqF t u) else none
    | none => none) else none
  | _ => none
def inDv (S : Sto) (x e : Dv) : Option Bool := match dctAt S e with
  | some (ks, _) => (kOf x).map (hasK ks)
  | none => (match seqAt S e with
    | some ds => inSeq x ds
    | none => none)
def pIn : P2 := fun d e S => match inDv S d e with
  | some b => some (.d (.bl b), S)
  | none => none
def pNotIn : P2 := fun d e S => match inDv S d e with
  | some b => some (.d (.bl (!b)), S)
  | none => none
theorem valV_has {kvs : List (Key × V)} {k : Key} : (valV kvs k).isSome = hasK (kvs.map (·.1)) k := by
  induction kvs with
  | nil => rfl
  | cons p r ih =>
    unfold hasK at ih ⊢
    rw [List.map_cons, List.any_cons]
    by_cases e : p.1 = k
    · rw [valV_pos e]
      simp [e]
    · have : valV (p :: r) k = valV r k := by
        unfold valV
        rw [List.find?_cons_of_neg (by simpa using e)]
      rw [this, ih]
      simp [e]
section
variable {X : Cx} {G : Gs} {W : WX} {k : Nat}
theorem op_inDct (hu : X.A.units + 1 < cLine) : OpR X (compareOp .In) (fun x y H Q => ∃ a o, y = .ref a ∧ DGet H a x o ∧ Q (.bl o.isSome) H) := by
  intro pins s σ H x y v u Q I rx ry h
  obtain ⟨a, o, rfl, g, q⟩ := h
  obtain rfl : u = Value.ref a := ry
  exact d_in hu I g rx fun s3 I3 => ⟨.bl o.isSome, H, I3, rfl, q⟩
theorem op_notInDct (hu : X.A.units + 1 < cLine) : OpR X (compareOp .NotIn) (fun x y H Q => ∃ a o, y = .ref a ∧ DGet H a x o ∧ Q (.bl (!o.isSome)) H) := by
  intro pins s σ H x y v u Q I rx ry h
  obtain ⟨a, o, rfl, g, q⟩ := h
  obtain rfl : u = Value.ref a := ry
  exact d_notIn hu I g rx fun s3 I3 => ⟨.bl (!o.isSome), H, I3, rfl, q⟩
theorem in_read {x y : V} {H : Hp} {A : Al} {S : Sto} {d e : Dv} {b : Bool} (hK : G.K = X.K) (rd : RD G A H d x) (re : RD G A H e y) (s : StR G A S H) (h : inDv S d e = some b) :
    (∃ p xs, y = .ref p ∧ (SqL X.K H p xs ∨ SqT X.K H p xs) ∧ flatV x = true ∧ xs.all flatV = true ∧ inV x xs = b) ∨ ∃ a o, y = .ref a ∧ DGet H a x o ∧ o.isSome = b := by
  unfold inDv at h
  split at h
  · rename_i ks xs e1
    obtain ⟨a, kvs, ev, hl, ek, hv⟩ := dctAt_rd s re e1
    cases ek2 : kOf d with
    | none => rw [ek2] at h; cases h
    | some j =>
      rw [ek2] at h
      cases h
      have ex := kOf_rd ek2 rd
      exact .inr ⟨a, valV kvs j, ev, .inl ⟨kvs, j, hl, ex, rfl⟩, by rw [valV_has, ek]⟩
  · split at h
    · rename_i ds e2
      obtain ⟨a, vs, ev, hs, hv⟩ := seqAt_rd s re e2
      unfold inSeq at h
      split at h
      · rename_i u
        split at h
        · rename_i fu
          split at h
          · rename_i ts e3
            split at h
            · rename_i ft
              cases h
              have rv := pures_rvs e3 hv
              rw [hK] at hs
              exact .inl ⟨a, vs, ev, hs, flat_rv rd fu, all_flat rv ft, any_flat rd fu rv ft⟩
            · cases h
          · cases h
        · cases h
      · cases h
    · cases h
theorem o_in (hu : X.A.units + 64 < cLine) (hK : G.K = X.K) : OpR X (compareOp .In) (q2 G pIn) := by
  refine (op_in_seq.or (op_inDct (by omega))).sm fun x y H Q h => ?_
  obtain ⟨A, S, d, e, rd, re, s, p⟩ := h
  unfold pIn at p
  split at p
  · rename_i b hb
    have q := Po.now p s _ rfl
    rcases in_read hK rd re s hb with ⟨a, xs, e1, e2, e3, e4, e5⟩ | ⟨a, o, e1, e2, e3⟩
    · exact .inl ⟨a, xs, e1, e2, e3, e4, by simp only [Bool.false_eq_true, if_false]; rw [e5]; exact q⟩
    · exact .inr ⟨a, o, e1, e2, by rw [e3]; exact q⟩
  · exact p.elim
theorem o_notIn (hu : X.A.units + 64 < cLine) (hK : G.K = X.K) : OpR X (compareOp .NotIn) (q2 G pNotIn) := by
  refine (op_notIn_seq.or (op_notInDct (by omega))).sm fun x y H Q h => ?_
  obtain ⟨A, S, d, e, rd, re, s, p⟩ := h
  unfold pNotIn at p
  split at p
  · rename_i b hb
    have q := Po.now p s _ rfl
    rcases in_read hK rd re s hb with ⟨a, xs, e1, e2, e3, e4, e5⟩ | ⟨a, o, e1, e2, e3⟩
    · exact .inl ⟨a, xs, e1, e2, e3, e4, by simp only [if_true]; rw [e5]; exact q⟩
    · exact .inr ⟨a, o, e1, e2, by rw [e3]; exact q⟩
  · exact p.elim
theorem o_is : OpR X (compareOp .Is) (q2 G pIsN) := by
  refine op_isN.sm fun x y H Q h => ?_
  obtain ⟨A, S, d, e, rd, re, s, p⟩ := h
  unfold pIsN at p
  split at p
  · rename_i t
    refine ⟨re, ?_⟩
    rw [isN_rd rd]
    exact Po.now p s _ (by cases t <;> rfl)
  · exact p.elim
theorem o_isNot : OpR X (compareOp .IsNot) (q2 G pNotN) := by
  refine op_notN.sm fun x y H Q h => ?_
  obtain ⟨A, S, d, e, rd, re, s, p⟩ := h
  unfold pNotN at p
  split at p
  · rename_i t
    refine ⟨re, ?_⟩
    rw [isN_rd rd]
    exact Po.now p s _ (by cases t <;> rfl)
  · exact p.elim
end

/-! ### subscripts -/
def pIx : P2 := fun d e S => match dctAt S d with
  | some (ks, xs) => (match kOf e with
    | some j => (match dlook ks xs j with
      | some x => some (x, S)
      | none => none)
    | none => none)
  | none => (match e with
    | .d (.int i) => (match d with
      | .d (.str z) => if z.length ≤ 16777216 then (match atI z.cps.toList i with
        | some c => some (.d (.str ⟨#[c]⟩), S)
        | none => none) else none
      | d => (match seqAt S d with
        | some ds => (match atI ds i with
          | some x => some (x, S)
          | none => none)
        | none => none))
    | _ => none)
theorem atI_rd {G : Gs} {A : Al} {H : Hp} {ds : List Dv} {vs : List V} {i : Int} {x : Dv} (r : RDs G A H ds vs) (h : atI ds i = some x) : ∃ v, atI vs i = some v ∧ RD G A H x v := by
  unfold atI at h ⊢
  rw [← Paired.length r]
  cases e : ixN ds.length i with
  | none => rw [e] at h; cases h
  | some j =>
    rw [e] at h
    exact r.get h
section
variable {X : Cx} {G : Gs} {W : WX} {k : Nat}
theorem ix_dct (hu : X.A.units + 1 < cLine) : IxR X (fun x y H Q => ∃ a v, x = .ref a ∧ DGet H a y (some v) ∧ Q v H) := by
  intro value slice pins s σ H x y o i Q I rx ry h hs
  obtain ⟨a, v, rfl, g, q⟩ := h
  obtain rfl : o = Value.ref a := rx
  have hT := dict_typeIs I g
  have h2 : wpAny (model X.prog X.w) X.A (getItem (.ref a) i) (EP X pins σ Q) X.xe s := d_getItem hu I g ry fun w' s3 I3 rw' => ⟨v, H, I3, rw', q⟩
  unfold subscriptTail
  refine wpAny_bind ?_
  rw [getitemInPython_of_ne hT.not_modules]
  refine wpAny_bind (wpAny_specialOf hT PySem.F.slot_dict_getitem.lookup ?_)
  have h3 : wpAny (model X.prog X.w) X.A (subscripted slice false (.ref a) i) (fun r s' => wpAny (model X.prog X.w) X.A (letTemporaryGo value (.ref a) r >>= fun _ => pure r) (EP X pins σ Q) X.xe s') X.xe s := by
    rw [hs]
    exact wpAny_operating (thn h2 fun r s' z => wpAny_bind (wpAny_letTemporaryGo (wpAny_pure z)))
  first
    | exact wpAny_pure (wpAny_bind h3)
    | exact wpAny_bind (wpAny_pure (wpAny_bind h3))
    | exact wpAny_bind h3
theorem i_ix (hu : X.A.units + 64 < cLine) (hK : G.K = X.K) : IxR X (q2 G pIx) := by
  refine (ix_seq.or (ix_dct (by omega))).sm fun x y H Q h => ?_
  obtain ⟨A, S, d, e, rd, re, s, p⟩ := h
  unfold pIx at p
  split at p
  · rename_i ks xs e1
    obtain ⟨a, kvs, ev, hl, ek, hv⟩ := dctAt_rd s rd e1
    split at p
    · rename_i j ej
      split at p
      · rename_i w ew
        have ex := kOf_rd ej re
        rw [← ek] at ew
        obtain ⟨v, e2, rv⟩ := (dlook_val (j := j) hv).1 w ew
        exact .inr ⟨a, v, ev, .inl ⟨kvs, j, hl, ex, e2.symm⟩, Po.now p s v rv⟩
      · exact p.elim
    · exact p.elim
  · split at p
    · rename_i i
      split at p
      · rename_i z
        split at p
        · rename_i hl
          split at p
          · rename_i c ec
            exact .inl (.inr (.inr ⟨_, i, c, rd, re, line_of hl, ec, Po.now p s _ rfl⟩))
          · exact p.elim
        · exact p.elim
      · split at p
        · rename_i ds e1
          split at p
          · rename_i w ew
            obtain ⟨a, vs, ev, hs, hv⟩ := seqAt_rd s rd e1
            obtain ⟨v, e2, rv⟩ := atI_rd hv ew
            rw [hK] at hs
            rcases hs with hs | hs
            · exact .inl (.inl ⟨a, vs, i, v, ev, re, hs, e2, Po.now p s v rv⟩)
            · exact .inl (.inr (.inl ⟨a, vs, i, v, ev, re, hs, e2, Po.now p s v rv⟩))
          · exact p.elim
        · exact p.elim
    · exact p.elim
end

/-! ### slices -/
def tMO (G : Gs) (W : WX) (m : M (Option Int)) : TO := fun σ H Q => ∃ A ρ S, EnvR G A H ρ σ ∧ StR G A S H ∧ Po G (Wa W σ) A H (m ρ S) fun _ H' o => Q o H'
def oNo : M (Option Int) := fun _ S => .ok none S
def oPt (m : M Dv) : M (Option Int) := fun ρ S => (m ρ S).bind fun d S1 => match d with
  | .d (.int i) => .ok (some i) S1
  | _ => .bad
def cutL {α : Type} (xs : List α) (lo hi : Option Int) : List α := (xs.drop (HT.sIx xs.length 0 lo)).take (HT.sIx xs.length xs.length hi - HT.sIx xs.length 0 lo)
abbrev PSl := Option Int → Option Int → P1
def pSl : PSl := fun lo hi d S => match d with
  | .d (.lst xs) => some (.d (.lst (cutL xs lo hi)), S)
  | .d (.scr xs) => some (.d (.lst (cutL xs lo hi)), S)
  | .d (.tup xs) => some (.d (.tup (cutL xs lo hi)), S)
  | .d (.str z) => if z.length ≤ 16777216 then some (.d (.str (cutS z lo hi)), S) else none
  | .loc n => (match S[n]? with
    | some (.lst ds) => (match pures ds with
      | some xs => some (.d (.lst (cutL xs lo hi)), S)
      | none => none)
    | _ => none)
  | _ => none
/-- of a list, into a box -/
def pSlB : PSl := fun lo hi d S => match lstAt S d with
  | some ds => some (.loc S.length, S ++ [.lst (cutL ds lo hi)])
  | none => none
def mSl (p : PSl) (m : M Dv) (l h : M (Option Int)) : M Dv := fun ρ S => (m ρ S).bind fun d S1 => (l ρ S1).bind fun lo S2 => (h ρ S2).bind fun hi S3 => lift (p lo hi d S3)
def qSl (G : Gs) (p : PSl) : V → Option Int → Option Int → Hp → VK → Prop := fun x lo hi H Q => ∃ A S d, RD G A H d x ∧ StR G A S H ∧ Po G Ez A H (lift (p lo hi d S)) (kD G Q)
theorem cut_rvs {G : Gs} {A : Al} {H : Hp} {ts : List Dt} {vs : List V} {lo hi : Option Int} (r : RVs G A H ts vs) : RVs G A H (cutL ts lo hi) (cutV vs lo hi) := by
  unfold cutL cutV
  rw [← r.length]
  exact (r.drop _).take _
theorem RDs.dropN {G : Gs} {A : Al} {H : Hp} : ∀ {ds : List Dv} {vs : List V} (n : Nat), RDs G A H ds vs → RDs G A H (ds.drop n) (vs.drop n)
  | _, _, 0, h => h
  | _, _, _ + 1, .nil => .nil
  | _, _, n + 1, .cons _ t => RDs.dropN n t
theorem RDs.takeN {G : Gs} {A : Al} {H : Hp} : ∀ {ds : List Dv} {vs : List V} (n : Nat), RDs G A H ds vs → RDs G A H (ds.take n) (vs.take n)
  | _, _, 0, _ => .nil
  | _, _, _ + 1, .nil => .nil
  | _, _, n + 1, .cons r t => .cons r (RDs.takeN n t)
theorem cut_rds {G : Gs} {A : Al} {H : Hp} {ts : List Dv} {vs : List V} {lo hi : Option Int} (r : RDs G A H ts vs) : RDs G A H (cutL ts lo hi) (cutV vs lo hi) := by
  unfold cutL cutV
  rw [← Paired.length r]
  exact RDs.takeN _ (RDs.dropN _ r)
theorem cut_all {α : Type} {xs : List α} {lo hi : Option Int} (h : HT.sIx xs.length 0 lo = 0 ∧ HT.sIx xs.length xs.length hi = xs.length) : cutL xs lo hi = xs := by
  unfold cutL
  rw [h.1, h.2]
  simp
section
variable {X : Cx} {G : Gs} {W : WX} {k : Nat} {e : Expr} {m : M Dv} {lo hi : Option Expr} {ml mh : M (Option Int)} {pos p2 : Pos} {p : PSl}
theorem o_no : PO X none (tMO G W oNo) := ⟨fun pins s σ H Q I h => by
  obtain ⟨A, ρ, S, he, hs, p⟩ := h
  exact po_none.run pins s σ H Q I (Po.now p hs)⟩
theorem o_pt (h : PE X e (tM G W m)) : PO X (some e) (tMO G W (oPt m)) := ⟨fun pins s σ H Q I q => by
  obtain ⟨A, ρ, S, he, hs, p⟩ := q
  refine (po_some h).run pins s σ H Q I ⟨A, ρ, S, he, hs, Po.step p fun d S1 A1 H1 x1 s1 p1 v rv => ?_⟩
  split at p1
  · exact ⟨_, rv, Po.now p1 s1⟩
  · exact p1.elim⟩
theorem _root_.L2.SlR.sm {X : Cx} {r r' : V → Option Int → Option Int → Hp → VK → Prop} (h : SlR X r) (f : ∀ x lo hi H Q, r' x lo hi H Q → r x lo hi H Q) : SlR X r' :=
  fun pins s σ H x v vl vu lo hi sl Q I rx a b c q => h pins s σ H x v vl vu lo hi sl Q I rx a b c (f x lo hi H Q q)
theorem e_sl (hr : SlR X (qSl G p)) (he : PE X e (tM G W m)) (hl : PO X lo (tMO G W ml)) (hh : PO X hi (tMO G W mh)) : PE X (.Subscript e (.Slice lo hi none p2) pos) (tM G W (mSl p m ml mh)) := by
  refine (pe_slice hr he hl hh).sm fun σ H Q h => ?_
  obtain ⟨A, ρ, S, he, hs, p0⟩ := h
  refine ⟨A, ρ, S, he, hs, Po.step p0 fun d S1 A1 H1 x1 s1 p1 v rv => ?_⟩
  refine ⟨A1, ρ, S1, he.kp x1.kp, s1, Po.step p1 fun l S2 A2 H2 x2 s2 p2 => ?_⟩
  refine ⟨A2, ρ, S2, (he.kp x1.kp).kp x2.kp, s2, Po.step p2 fun h S3 A3 H3 x3 s3 p3 => ?_⟩
  exact ⟨A3, S3, d, (rv.kp x2.kp).kp x3.kp, s3, Po.lift p3⟩
theorem sl_any (hK : G.K = X.K) : SlR X (qSl G pSl) := by
  refine (sl_list.or (sl_tupA.or sl_str)).sm fun x lo hi H Q h => ?_
  obtain ⟨A, S, d, rd, s, p⟩ := h
  unfold pSl at p
  split at p
  · obtain ⟨a, vs, rfl, ha, hv⟩ := rd
    refine .inl ⟨a, vs, rfl, ?_, poL p s (cut_rvs hv)⟩
    rw [← hK]; exact ha.sq
  · obtain ⟨a, vs, rfl, ha, hv⟩ := rd
    refine .inl ⟨a, vs, rfl, ?_, poL p s (cut_rvs hv)⟩
    rw [← hK]; exact ha.sq
  · obtain ⟨a, vs, rfl, ha, hv⟩ := rd
    refine .inr (.inl ⟨a, vs, rfl, ?_, fun hw => ?_, fun _ => poT p s (cut_rvs hv)⟩)
    · rw [← hK]; exact ha.sq
    · rw [← hv.length] at hw
      rw [cut_all hw] at p
      exact Po.now p s _ ⟨a, vs, rfl, ha, hv⟩
  · split at p
    · rename_i hl
      exact .inr (.inr ⟨_, rd, line_of hl, Po.now p s _ rfl⟩)
    · exact p.elim
  · rename_i n
    split at p
    · rename_i ds e1
      split at p
      · rename_i xs e2
        obtain ⟨a, vs, rfl, _, hl, hv⟩ := loc_lst s rd e1
        exact .inl ⟨a, vs, rfl, .inl (.inl hl), poL p s (cut_rvs (pures_rvs e2 hv))⟩
      · exact p.elim
    · exact p.elim
  · exact p.elim
theorem sl_anyB (hK : G.K = X.K) : SlR X (qSl G pSlB) := by
  refine sl_list.sm fun x lo hi H Q h => ?_
  obtain ⟨A, S, d, rd, s, p⟩ := h
  unfold pSlB at p
  split at p
  · rename_i ds e1
    obtain ⟨a, vs, rfl, hl, hv⟩ := lstAt_rd s rd e1
    exact ⟨a, vs, rfl, .inl (.inl hl), poB p s (cut_rds hv)⟩
  · exact p.elim
end
end Sm
/-! Sm11: the builtins, stores, list methods. -/
namespace Sm
open PySem PySem.Spec PyProof.Rows L2
section
variable {G : Gs} {A : Al} {H : Hp}
theorem RDs.one {d : Dv} {vs : List V} (r : RDs G A H [d] vs) : ∃ v, vs = [v] ∧ RD G A H d v := by
  cases r with
  | cons h t =>
    cases t
    exact ⟨_, rfl, h⟩
theorem RDs.two {d e : Dv} {vs : List V} (r : RDs G A H [d, e] vs) : ∃ v w, vs = [v, w] ∧ RD G A H d v ∧ RD G A H e w := by
  cases r with
  | cons h t =>
    obtain ⟨w, rfl, h2⟩ := RDs.one t
    exact ⟨_, _, rfl, h, h2⟩
theorem keys_rvs : ∀ {kvs : List (Key × V)}, RVs G A H ((kvs.map (·.1)).map kT) (kvs.map fun kv => kV kv.1)
  | [] => (rfl : ([] : List V) = [])
  | kv :: r => ⟨_, _, rfl, kT_rv kv.1, keys_rvs⟩
end
/-! ### len, list, tuple -/
def pLen : PN := fun ds S => match ds with
  | [.d (.str z)] => if z.length ≤ 16777216 then some (.d (.int (z.length : Nat)), S) else none
  | [d] => (match dctAt S d with
    | some (ks, _) => some (.d (.int (ks.length : Nat)), S)
    | none => (match seqAt S d with
      | some xs => some (.d (.int (xs.length : Nat)), S)
      | none => none))
  | _ => none
/-- what list(..), tuple(..) take: the items, by data -/
def itemsOf (S : Sto) (d : Dv) : Option (List Dt) := match dctAt S d with
  | some (ks, _) => some (ks.map kT)
  | none => (match seqAt S d with
    | some xs => pures xs
    | none => none)
def pList : PN := fun ds S => match ds with
  | [d] => (match itemsOf S d with
    | some ts => some (.d (.lst ts), S)
    | none => none)
  | _ => none
def pListB : PN := fun ds S => match ds with
  | [d] => (match itemsOf S d with
    | some ts => some (.loc S.length, S ++ [.lst (ts.map .d)])
    | none => none)
  | _ => none
def pInt : PN := fun ds S => match ds with
  | [.d (.int i)] => some (.d (.int i), S)
  | [.d (.bl b)] => some (.d (.int (if b then 1 else 0)), S)
  | _ => none
def pAbs : PN := fun ds S => match ds with
  | [.d (.int i)] => some (.d (.int (if i < 0 then -i else i)), S)
  | _ => none
def pMax2 : PN := fun ds S => match ds with
  | [.d (.int i), .d (.int j)] => some (.d (.int (if j > i then j else i)), S)
  | _ => none
def pMin2 : PN := fun ds S => match ds with
  | [.d (.int i), .d (.int j)] => some (.d (.int (if j < i then j else i)), S)
  | _ => none
def blsOf : List Dt → Option (List Bool)
  | [] => some []
  | .bl b :: r => (blsOf r).map (b :: ·)
  | _ => none
def intsOf : List Dt → Option (List Int)
  | [] => some []
  | .int b :: r => (intsOf r).map (b :: ·)
  | _ => none
/-- a list by data -/
def lstT (S : Sto) (d : Dv) : Option (List Dt) := match d with
  | .d (.scr xs) => some xs
  | d => (lstAt S d).bind pures
def pTuple : PN := fun ds S => match ds with
  | [.d (.tup ts)] => some (.d (.tup ts), S)
  | [d] => (match dctAt S d with
    | some (ks, _) => some (.d (.tup (ks.map kT)), S)
    | none => (match lstT S d with
      | some ts => some (.d (.tup ts), S)
      | none => none))
  | _ => none
def pAll : PN := fun ds S => match ds with
  | [d] => (match (lstT S d).bind blsOf with
    | some bs => some (.d (.bl (bs.all id)), S)
    | none => none)
  | _ => none
def pAny : PN := fun ds S => match ds with
  | [d] => (match (lstT S d).bind blsOf with
    | some bs => some (.d (.bl (bs.any id)), S)
    | none => none)
  | _ => none
def pSum : PN := fun ds S => match ds with
  | [d] => (match (lstT S d).bind intsOf with
    | some bs => some (.d (.int bs.sum), S)
    | none => none)
  | _ => none
theorem lstT_rd {G : Gs} {A : Al} {S : Sto} {H : Hp} {d : Dv} {v : V} {ts : List Dt} (s : StR G A S H) (r : RD G A H d v) (h : lstT S d = some ts) : ∃ a vs, v = .ref a ∧ SqL G.K H a vs ∧ RVs G A H ts vs := by
  unfold lstT at h
  split at h
  · cases h
    obtain ⟨a, vs, rfl, ha, hv⟩ := r
    exact ⟨a, vs, rfl, ha.sq, hv⟩
  · cases e : lstAt S d with
    | none => rw [e] at h; cases h
    | some ds =>
      rw [e] at h
      obtain ⟨a, vs, rfl, hl, hv⟩ := lstAt_rd s r e
      exact ⟨a, vs, rfl, .inl (.inl hl), pures_rvs h hv⟩
theorem bls_rv {G : Gs} {A : Al} {H : Hp} : ∀ {ts : List Dt} {bs : List Bool} {vs : List V}, blsOf ts = some bs → RVs G A H ts vs → vs = bs.map V.bl
  | [], bs, vs, e, r => by
    cases e
    exact r
  | t :: ts, bs, vs, e, r => by
    obtain ⟨v, w, rfl, r1, r2⟩ := r
    cases t with
    | bl b =>
      unfold blsOf at e
      cases e1 : blsOf ts with
      | none => rw [e1] at e; cases e
      | some cs =>
        rw [e1] at e
        cases e
        obtain rfl : v = .bl b := r1
        rw [bls_rv e1 r2]
        rfl
    | _ => cases e
theorem ints_rv {G : Gs} {A : Al} {H : Hp} : ∀ {ts : List Dt} {bs : List Int} {vs : List V}, intsOf ts = some bs → RVs G A H ts vs → vs = bs.map V.int
  | [], bs, vs, e, r => by
    cases e
    exact r
  | t :: ts, bs, vs, e, r => by
    obtain ⟨v, w, rfl, r1, r2⟩ := r
    cases t with
    | int b =>
      unfold intsOf at e
      cases e1 : intsOf ts with
      | none => rw [e1] at e; cases e
      | some cs =>
        rw [e1] at e
        cases e
        obtain rfl : v = .int b := r1
        rw [ints_rv e1 r2]
        rfl
    | _ => cases e
/-- tuple(d), d a dict: its keys -/
theorem collect_src {prog : Program} {w : World} {A : Around} {E : Value → Shared → Prop} {s : Shared} {T : String} {r d : Addr} {n : Nat} {P : Nat → Value → Prop} {OK : Heap → Prop} {Q : List Value → Shared → Prop}
    (K : PySem.W.KdlSrc prog w T r d n P OK) (hh : A.handled = none) (hok : OK s.heap) (hn : n ≤ sizeLine)
    (hQ : ∀ (h' : Heap) (tk : Nat) (acc : Array Value), (∀ b o, s.heap.get? b = some o → h'.get? b = some o) → ItemsOf P acc n → Q acc.toList { s with heap := h', toks := tk }) : wpAny (model prog w) A (collect (.ref r)) Q E s := by
  unfold collect
  refine wpAny_bind (wpAny_runValue (codeAny_builtin F.entry_proto_collect ?_))
  rw [Around.under_plainId F.plain_proto_collect _]
  show wpAny _ A.in1 (newList [] >>= fun z => again (.builtin "list.__iadd__" ⟨[z, .ref r], []⟩)) _ _ s
  refine wpAny_bind (wpAny_newObj_type ?_)
  refine wpAny_pure ⟨plainId_quiet F.plain_list_iadd _, codeAny_builtin F.entry_list_iadd ?_⟩
  rw [Around.under_plainId F.plain_list_iadd _]
  have hS : (s.heap.push { cls := .type "list", data := .seq ([] : List Value).toArray }).get? s.heap.objs.size = some { cls := .type "list", data := .seq #[] 0 } := Heap.get?_push_size _ rfl
  have hlt := K.there _ hok
  refine wpAny_mono (PySem.W.kdl_extend (A := A) (R := fun z s' => z = .ok (.ret (.ref s.heap.objs.size)) ∧ wpAny (model prog w) A (load s.heap.objs.size >>= fun o => match o.data with
      | Data.seq xs _ => pure xs.toList
      | _ => unsupported "internal:collect") Q E s') (s := { s with heap := s.heap.push { cls := .type "list", data := .seq ([] : List Value).toArray } }) K hh (K.keep _ _ hok fun b _ o e => Heap.get?_push_of_some _ e) s.heap.objs.size (Nat.ne_of_gt hlt.1) (Nat.ne_of_gt hlt.2) _ 0 hS (fun h' tk acc c k1 e1 hi => ?_) hn) (fun fin s' h => ?_) fun e s' h => ?_
  · refine ⟨rfl, wpAny_bind (wpAny_load e1 ?_)⟩
    exact wpAny_pure (hQ h' tk acc (fun b o e => k1 b o (Nat.ne_of_lt (Heap.lt_size e)) (Heap.get?_push_of_some _ e)) hi)
  · cases fin with
    | done f =>
      obtain ⟨e, h⟩ := h
      cases e
      exact h
    | again c' => exact ⟨h.1, codeAny_mono h.2 fun r s'' hr => by
        obtain ⟨rfl, hr⟩ := hr
        exact hr⟩
  · exact absurd h.1 (by simp)
theorem call_tuple_src {prog : Program} {w : World} {A : Around} {E : Value → Shared → Prop} {s : Shared} {r d : Addr} {n : Nat} {P : Nat → Value → Prop} {OK : Heap → Prop} {Q : Value → Shared → Prop}
    (K : PySem.W.KdlSrc prog w "dict" r d n P OK) (hh : A.handled = none) (hok : OK s.heap) (hn : n ≤ sizeLine)
    (hQ : ∀ (h' : Heap) (tk : Nat) (acc : Array Value), (∀ b o, s.heap.get? b = some o → h'.get? b = some o) → ItemsOf P acc n → Q (.ref h'.objs.size) { s with heap := h'.push { cls := .type "tuple", data := .seq acc }, toks := tk }) : wpAny (model prog w) A (call (.type "tuple") [.ref r]) Q E s := by
  have hnew : codeAny (model prog w) A.in1 (.call (.builtin "tuple.__new__") ⟨[.type "tuple", .ref r], []⟩) (wants (fun obj s₁ => s₁.TypeIs obj "tuple" ∧ Q obj s₁) E) s := by
    refine codeAny_of_tree ?_
    show wpAny _ A.in1.in1 (do checkBuiltinCall "tuple.__new__" ⟨[.type "tuple", .ref r], []⟩; again (.builtin "tuple.__new__" ⟨[.type "tuple", .ref r], []⟩)) _ _ s
    refine wpAny_bind (wpAny_of_eq (F.newCall_tuple_1 _) (wpAny_pure ⟨plainId_quiet F.plain_tuple_new _, codeAny_builtin F.entry_tuple_new ?_⟩))
    rw [Around.under_plainId F.plain_tuple_new _]
    have hsub := sub_tuple_self
    have hinit := init_tuple_lookup
    have hmh := madeHere_tuple
    have hTI : s.TypeIs (.ref r) "dict" := K.type s hok
    have hh1 : A.in1.in1.handled = none := hh
    wp_walk using wpAny_typeOf hTI, collect_src (A := A.in1.in1) K hh1 hok hn
    intro h' tk acc hk hacc
    show wpAny _ _ (Builtin.Tuple.tupleExact acc.toList.toArray >>= fun v => ret v) _ _ _
    unfold Builtin.Tuple.tupleExact
    refine wpAny_bind (wpAny_newObj_type ?_ (by show acc.toList.toArray.size ≤ sizeLine; simp only [Array.toArray_toList]; rw [hacc.1]; exact hn))
    refine wpAny_pure ?_
    rw [show acc.toList.toArray = acc by simp]
    exact ⟨⟨_, Heap.get?_push_size _ rfl, rfl⟩, hQ h' tk acc hk hacc⟩
  refine callType_codes (Q₁ := fun obj s₁ => s₁.TypeIs obj "tuple" ∧ Q obj s₁) F.called_tuple (F.typeCall_tuple_1 _) F.entry_object_init hnew fun obj s₁ h₁ => ?_
  exact ⟨h₁.1, F.args_object_init_2 obj _, object_init_meets F.called_tuple.init.lookup F.called_tuple.made (by decide) prog w A.in1 _ s₁ ⟨h₁.1, rfl, h₁.2⟩⟩
section
variable {X : Cx} {G : Gs} {W : WX} {k : Nat}
theorem keys_vals {kvs : List (Key × V)} {vs : List (Key × Value)} {P : Program} {w : World} (rk : KV kvs vs) {acc : Array Value} (h : ItemsOf (fun i v => ∃ k x, vs[i]? = some (k, x) ∧ (mixKind P w).is k v = true) acc vs.length) : Vals (kvs.map fun kv => kV kv.1) acc.toList := by
  have hl : kvs.length = vs.length := Paired.length rk
  refine vals_of_at (by simp [h.1, hl]) fun j x w h1 h2 => ?_
  obtain ⟨k, y, hky, hi⟩ := h.2 j w (by rw [← Array.getElem?_toList]; exact h2)
  have e1 : (kvs.map (·.1))[j]? = some k := by
    rw [KV.keys rk, List.getElem?_map, hky]
    rfl
  have e2 : (kvs.map fun kv => kV kv.1)[j]? = some (kV k) := by
    rw [show (kvs.map fun kv => kV kv.1) = (kvs.map (·.1)).map kV by rw [List.map_map]; rfl, List.getElem?_map, e1]
    rfl
  rw [e2] at h1
  cases h1
  exact keyIs_rel hi
theorem call_list_dR (hc : X.calm = true) : CallR X (.type "list") (fun xs H Q => ∃ p kvs, xs = [.ref p] ∧ Rd H p (.dK kvs) ∧ ∀ q, H q = none → Q (.ref q) (upd H q (.lst (kvs.map fun kv => kV kv.1)))) := by
  intro pins s σ H xs us Q I r h
  obtain ⟨p, kvs, rfl, hk, q⟩ := h
  obtain rfl := Vals.ref1 r
  obtain ⟨z, lo, vs, rk, hd⟩ := dk_rd I.hok hk
  obtain ⟨ep, hat⟩ := hd.dictAt
  have hl : kvs.length = vs.length := Paired.length rk
  refine PySem.W.kdl_call (PySem.W.kdl_dict (knd := mixKind X.prog X.w) (kvs := vs) (ep := ep) lo) (I.ok.hd hc) hat (by rw [← hl]; exact z) fun h' tk acc c' hkeep hS hacc => ?_
  exact ⟨.ref s.heap.objs.size, upd H s.heap.objs.size (.lst (kvs.map fun kv => kV kv.1)), I.laid hkeep (Nat.le_refl _) (show ObjOk X.prog X.w _ _ _ (.lst (kvs.map fun kv => kV kv.1)) from ⟨by rw [List.length_map]; exact z, acc.toList, c', keys_vals rk hacc, by rw [Array.toArray_toList]; exact hS⟩), rfl, q _ (I.hok.fresh (Nat.le_refl _))⟩
theorem call_tuple_dR (hc : X.calm = true) : CallR X (.type "tuple") (fun xs H Q => ∃ p kvs, xs = [.ref p] ∧ Rd H p (.dK kvs) ∧ ∀ q, H q = none → Q (.ref q) (upd H q (.tup (kvs.map fun kv => kV kv.1)))) := by
  intro pins s σ H xs us Q I r h
  obtain ⟨p, kvs, rfl, hk, q⟩ := h
  obtain rfl := Vals.ref1 r
  obtain ⟨z, lo, vs, rk, hd⟩ := dk_rd I.hok hk
  obtain ⟨ep, hat⟩ := hd.dictAt
  have hl : kvs.length = vs.length := Paired.length rk
  refine call_tuple_src (PySem.W.kdl_dict (knd := mixKind X.prog X.w) (kvs := vs) (ep := ep) lo) (I.ok.hd hc) hat (by rw [← hl]; exact z) fun h' tk acc hkeep hacc => ?_
  have I2 : Inv X pins σ H { s with heap := h', toks := tk } := I.kept hkeep
  exact ⟨.ref h'.objs.size, upd H h'.objs.size (.tup (kvs.map fun kv => kV kv.1)), I2.laid (t' := tk) (fun c o e => Heap.get?_push_of_some _ e) (Nat.le_refl _) (show ObjOk X.prog X.w _ _ _ (.tup (kvs.map fun kv => kV kv.1)) from ⟨by rw [List.length_map]; exact z, acc.toList, keys_vals rk hacc, by rw [Array.toArray_toList]; exact IsTup.new _ _⟩), rfl, q _ (I2.hok.fresh (Nat.le_refl _))⟩
theorem call_len_dR : CallR X (.builtin "len") (fun xs H Q => ∃ a kvs, xs = [.ref a] ∧ Rd H a (.dK kvs) ∧ Q (.int (kvs.length : Nat)) H) := by
  intro pins s σ H xs us Q I r h
  obtain ⟨p, kvs, rfl, hk, q⟩ := h
  obtain rfl := Vals.ref1 r
  exact d_len I hk fun t s' I' => ⟨.int (kvs.length : Nat), H, I', ⟨t, rfl⟩, q⟩
theorem items_rd {A : Al} {S : Sto} {H : Hp} {d : Dv} {v : V} {ts : List Dt} (s : StR G A S H) (r : RD G A H d v) (h : itemsOf S d = some ts) :
    (∃ a kvs, v = .ref a ∧ Rd H a (.dK kvs) ∧ ts = (kvs.map (·.1)).map kT) ∨ ∃ a vs, v = .ref a ∧ (SqL G.K H a vs ∨ SqT G.K H a vs) ∧ RVs G A H ts vs := by
  unfold itemsOf at h
  split at h
  · rename_i ks xs e1
    obtain ⟨a, kvs, ev, hl, ek, hv⟩ := dctAt_rd s r e1
    cases h
    exact .inl ⟨a, kvs, ev, hl, by rw [ek]⟩
  · split at h
    · rename_i ds e2
      obtain ⟨a, vs, ev, hs, hv⟩ := seqAt_rd s r e2
      exact .inr ⟨a, vs, ev, hs, pures_rvs h hv⟩
    · cases h
theorem b_len (hK : G.K = X.K) : CallR X (.builtin "len") (qN G pLen) := by
  refine (call_len_seq.or (call_len_str.or call_len_dR)).sm fun xs H Q h => ?_
  obtain ⟨A, S, ds, rd, s, p⟩ := h
  unfold pLen at p
  split at p
  · obtain ⟨v, rfl, r⟩ := RDs.one rd
    split at p
    · rename_i z hl
      obtain rfl : v = .str _ := r
      exact .inr (.inl ⟨_, rfl, line_of hl, Po.now p s _ rfl⟩)
    · exact p.elim
  · obtain ⟨v, rfl, r⟩ := RDs.one rd
    split at p
    · rename_i ks xs e1
      obtain ⟨a, kvs, rfl, hl, ek, hv⟩ := dctAt_rd s r e1
      refine .inr (.inr ⟨a, kvs, rfl, hl, ?_⟩)
      rw [show kvs.length = ks.length by rw [← ek, List.length_map]]
      exact Po.now p s _ rfl
    · split at p
      · rename_i xs e2
        obtain ⟨a, vs, rfl, hs, hv⟩ := seqAt_rd s r e2
        refine .inl ⟨a, vs, rfl, by rw [← hK]; exact hs, ?_⟩
        rw [← Paired.length hv]
        exact Po.now p s _ rfl
      · exact p.elim
  · exact p.elim
theorem b_list (hK : G.K = X.K) (hc : X.calm = true) : CallR X (.type "list") (qN G pList) := by
  refine (call_list_of.or (call_list_dR hc)).sm fun xs H Q h => ?_
  obtain ⟨A, S, ds, rd, s, p⟩ := h
  unfold pList at p
  split at p
  · obtain ⟨v, rfl, r⟩ := RDs.one rd
    split at p
    · rename_i ts e1
      rcases items_rd s r e1 with ⟨a, kvs, rfl, hl, rfl⟩ | ⟨a, vs, rfl, hs, hv⟩
      · exact .inr ⟨a, kvs, rfl, hl, poL p s keys_rvs⟩
      · exact .inl ⟨a, vs, rfl, by rw [← hK]; exact hs, poL p s hv⟩
    · exact p.elim
  · exact p.elim
theorem b_listB (hK : G.K = X.K) (hc : X.calm = true) : CallR X (.type "list") (qN G pListB) := by
  refine (call_list_of.or (call_list_dR hc)).sm fun xs H Q h => ?_
  obtain ⟨A, S, ds, rd, s, p⟩ := h
  unfold pListB at p
  split at p
  · obtain ⟨v, rfl, r⟩ := RDs.one rd
    split at p
    · rename_i ts e1
      rcases items_rd s r e1 with ⟨a, kvs, rfl, hl, rfl⟩ | ⟨a, vs, rfl, hs, hv⟩
      · exact .inr ⟨a, kvs, rfl, hl, poB p s keys_rvs.rds⟩
      · exact .inl ⟨a, vs, rfl, by rw [← hK]; exact hs, poB p s hv.rds⟩
    · exact p.elim
  · exact p.elim
theorem b_tuple (hK : G.K = X.K) (hc : X.calm = true) : CallR X (.type "tuple") (qN G pTuple) := by
  refine (call_tuple_of.or (call_tuple_dR hc)).sm fun xs H Q h => ?_
  obtain ⟨A, S, ds, rd, s, p⟩ := h
  unfold pTuple at p
  split at p
  · obtain ⟨v, rfl, r⟩ := RDs.one rd
    obtain ⟨a, vs, rfl, ha, hv⟩ := r
    exact .inl ⟨a, vs, rfl, .inr ⟨by rw [← hK]; exact ha.sq, Po.now p s _ ⟨a, vs, rfl, ha, hv⟩⟩⟩
  · obtain ⟨v, rfl, r⟩ := RDs.one rd
    split at p
    · rename_i ks xs e1
      obtain ⟨a, kvs, rfl, hl, ek, hv⟩ := dctAt_rd s r e1
      subst ek
      exact .inr ⟨a, kvs, rfl, hl, poT p s keys_rvs⟩
    · split at p
      · rename_i ts e2
        obtain ⟨a, vs, rfl, hs, hv⟩ := lstT_rd s r e2
        exact .inl ⟨a, vs, rfl, .inl ⟨by rw [← hK]; exact hs, poT p s hv⟩⟩
      · exact p.elim
  · exact p.elim
theorem b_int : CallR X (.type "int") (qN G pInt) := by
  refine call_int1.sm fun xs H Q h => ?_
  obtain ⟨A, S, ds, rd, s, p⟩ := h
  unfold pInt at p
  split at p
  · obtain ⟨v, rfl, r⟩ := RDs.one rd
    obtain rfl : v = .int _ := r
    exact .inl ⟨_, rfl, Po.now p s _ rfl⟩
  · obtain ⟨v, rfl, r⟩ := RDs.one rd
    obtain rfl : v = .bl _ := r
    exact .inr ⟨_, rfl, Po.now p s _ rfl⟩
  · exact p.elim
theorem b_abs : CallR X (.builtin "abs") (qN G pAbs) := by
  refine call_abs.sm fun xs H Q h => ?_
  obtain ⟨A, S, ds, rd, s, p⟩ := h
  unfold pAbs at p
  split at p
  · obtain ⟨v, rfl, r⟩ := RDs.one rd
    obtain rfl : v = .int _ := r
    exact ⟨_, rfl, Po.now p s _ rfl⟩
  · exact p.elim
theorem b_max2 (hc : X.calm = true) : CallR X (.builtin "max") (qN G pMax2) := by
  refine (call_max2 hc).sm fun xs H Q h => ?_
  obtain ⟨A, S, ds, rd, s, p⟩ := h
  unfold pMax2 at p
  split at p
  · obtain ⟨v, w, rfl, r, r2⟩ := RDs.two rd
    obtain rfl : v = .int _ := r
    obtain rfl : w = .int _ := r2
    exact ⟨_, _, rfl, Po.now p s _ rfl⟩
  · exact p.elim
theorem b_min2 (hc : X.calm = true) : CallR X (.builtin "min") (qN G pMin2) := by
  refine (call_min2 hc).sm fun xs H Q h => ?_
  obtain ⟨A, S, ds, rd, s, p⟩ := h
  unfold pMin2 at p
  split at p
  · obtain ⟨v, w, rfl, r, r2⟩ := RDs.two rd
    obtain rfl : v = .int _ := r
    obtain rfl : w = .int _ := r2
    exact ⟨_, _, rfl, Po.now p s _ rfl⟩
  · exact p.elim
theorem b_all (hK : G.K = X.K) (hc : X.calm = true) : CallR X (.builtin "all") (qN G pAll) := by
  refine (cr_all hc).sm fun xs H Q h => ?_
  obtain ⟨A, S, ds, rd, s, p⟩ := h
  unfold pAll at p
  split at p
  · obtain ⟨v, rfl, r⟩ := RDs.one rd
    split at p
    · rename_i bs e
      obtain ⟨ts, e1, e2⟩ := Option.bind_eq_some_iff.mp e
      obtain ⟨a, vs, rfl, hs, hv⟩ := lstT_rd s r e1
      obtain rfl := bls_rv e2 hv
      exact ⟨a, bs, rfl, by rw [← hK]; exact hs, Po.now p s _ rfl⟩
    · exact p.elim
  · exact p.elim
theorem b_any (hK : G.K = X.K) (hc : X.calm = true) : CallR X (.builtin "any") (qN G pAny) := by
  refine (cr_any hc).sm fun xs H Q h => ?_
  obtain ⟨A, S, ds, rd, s, p⟩ := h
  unfold pAny at p
  split at p
  · obtain ⟨v, rfl, r⟩ := RDs.one rd
    split at p
    · rename_i bs e
      obtain ⟨ts, e1, e2⟩ := Option.bind_eq_some_iff.mp e
      obtain ⟨a, vs, rfl, hs, hv⟩ := lstT_rd s r e1
      obtain rfl := bls_rv e2 hv
      exact ⟨a, bs, rfl, by rw [← hK]; exact hs, Po.now p s _ rfl⟩
    · exact p.elim
  · exact p.elim
theorem b_sum (hK : G.K = X.K) (hc : X.calm = true) : CallR X (.builtin "sum") (qN G pSum) := by
  refine (cr_sum hc).sm fun xs H Q h => ?_
  obtain ⟨A, S, ds, rd, s, p⟩ := h
  unfold pSum at p
  split at p
  · obtain ⟨v, rfl, r⟩ := RDs.one rd
    split at p
    · rename_i bs e
      obtain ⟨ts, e1, e2⟩ := Option.bind_eq_some_iff.mp e
      obtain ⟨a, vs, rfl, hs, hv⟩ := lstT_rd s r e1
      obtain rfl := ints_rv e2 hv
      exact ⟨a, bs, rfl, by rw [← hK]; exact hs, Po.now p s _ rfl⟩
    · exact p.elim
  · exact p.elim
end
end Sm
/-! Sm12: isinstance, stores, list methods, sorted. -/
namespace Sm
open PySem PySem.Spec PyProof.Rows L2

/-! ### isinstance -/
def isaT (a b : String) : Bool := a == b || (a == "bool" && b == "int")
def tyL : List String := ["NoneType", "bool", "int", "str", "tuple", "list", "dict"]
def tyR : List String := ["bool", "int", "str", "tuple", "list", "dict"]
theorem kit_all : ∀ a ∈ tyL, ∀ b ∈ tyR, kitB a b = some (isaT a b) := by decide +kernel
theorem kit_any {K : PySem.W.Frag} {a : String} (ha : a ∈ tyL) : ∀ {bs : List String}, (∀ b ∈ bs, b ∈ tyR) → PySem.W.kitAny K (.type a) (bs.map Value.type) = some (bs.any (isaT a))
  | [], _ => kitAny_nil
  | b :: bs, h => by
    have h1 := kit_ty (K := K) (kit_all a ha b (h b List.mem_cons_self))
    have h2 := kit_any (K := K) ha (bs := bs) fun c hc => h c (List.mem_cons_of_mem _ hc)
    refine kitAny_cons h1 (fun e => ?_) fun e => ?_
    · rw [List.any_cons, e]
      exact h2
    · rw [List.any_cons, e]
      rfl
def tyDv (S : Sto) (d : Dv) : Option String := match d with
  | .d .non => some "NoneType"
  | .d (.bl _) => some "bool"
  | .d (.int _) => some "int"
  | .d (.str _) => some "str"
  | .d (.tup _) => some "tuple"
  | .d (.lst _) => some "list"
  | .d (.scr _) => some "list"
  | .d (.dct _ _) => some "dict"
  | .loc n => (match S[n]? with
    | some (.lst _) => some "list"
    | some (.dct _ _) => some "dict"
    | _ => none)
  | _ => none
theorem tyDv_rd {G : Gs} {A : Al} {S : Sto} {H : Hp} {d : Dv} {v : V} {T : String} (s : StR G A S H) (r : RD G A H d v) (h : tyDv S d = some T) : T ∈ tyL ∧ TyX G.K H v (.type T) := by
  unfold tyDv at h
  split at h
  · cases h
    obtain rfl : v = .non := r
    exact ⟨by decide, .base .non⟩
  · cases h
    obtain rfl : v = .bl _ := r
    exact ⟨by decide, .base (.bl _)⟩
  · cases h
    obtain rfl : v = .int _ := r
    exact ⟨by decide, .base (.int _)⟩
  · cases h
    obtain rfl : v = .str _ := r
    exact ⟨by decide, .base (.str _)⟩
  · cases h
    obtain ⟨a, vs, rfl, ha, _⟩ := r
    refine ⟨by decide, ?_⟩
    rcases ha.sq with (h | ⟨o, h⟩) | ⟨o, its, n, h1, h2, _⟩
    · exact .base (.tup h)
    · exact .fTuple h
    · exact .kTuple h1 h2
  · cases h
    obtain ⟨a, vs, rfl, ha, _⟩ := r
    exact ⟨by decide, .base (.lst ha.1)⟩
  · cases h
    obtain ⟨a, vs, rfl, ha, _⟩ := r
    refine ⟨by decide, ?_⟩
    rcases ha.sq with (h | ⟨o, h⟩) | ⟨o, its, n, h1, h2, _⟩
    · exact .base (.lst h)
    · exact .base (.frz h)
    · exact .kList h1 h2
  · cases h
    obtain ⟨a, kvs, rfl, _, h, _⟩ := r
    refine ⟨by decide, ?_⟩
    rcases h with h | ⟨o, h⟩
    · exact .base (.dK h)
    · exact .fDict h
  · rename_i n
    split at h
    · rename_i e
      cases h
      obtain ⟨a, vs, rfl, _, hl, _⟩ := loc_lst s r e
      exact ⟨by decide, .base (.lst hl)⟩
    · rename_i e
      cases h
      obtain ⟨a, vs, rfl, _, hl, _⟩ := loc_dct s r e
      exact ⟨by decide, .base (.dK hl)⟩
    · cases h
  · cases h
def pIsa (bs : List String) : P1 := fun d S => match tyDv S d with
  | some T => some (.d (.bl (bs.any (isaT T))), S)
  | none => none
theorem clsv_all : ∀ bs : List String, Paired ClsV (bs.map V.ty) (bs.map Value.type)
  | [] => .nil
  | b :: bs => .cons (.ty b) (clsv_all bs)
section
variable {X : Cx} {G : Gs} {W : WX} {k : Nat} {e T : Expr} {es : List Expr} {p pos tpos : Pos} {m : M Dv} {bs : List String} {b : String}
theorem e_isa (hK : G.K = X.K) (hg : Gl X "isinstance") (hm : X.mg "isinstance" = none) (hb : b ∈ tyR) (he : PE X e (tM G W m)) (hT : PE X T (tC (.ty b))) (hs : starEach [e, T] X.env = (false, eval e X.env) :: starEach [T] X.env) (hs2 : starEach [T] X.env = (false, eval T X.env) :: starEach [] X.env)
    (hpl : (backTo pos (starEach [T] X.env)).any (·.1) = false) : PE X (.Call (.Name "isinstance" p) [e, T] [] pos) (tM G W (m1 (pIsa [b]) m)) := by
  refine (pe_callB call_isi hg hm PyProof.Rows.boot_isinstance (pa_cons he (pa_cons hT pa_nil hs2) hs) (by decide) (by decide) hs hpl).sm fun σ H Q h => ?_
  obtain ⟨A, ρ, S, he, hs, p0⟩ := h
  refine ⟨A, ρ, S, he, hs, Po.step p0 fun d S1 A1 H1 x1 s1 p1 v rv => ?_⟩
  unfold pIsa at p1
  split at p1
  · rename_i U hU
    obtain ⟨hL, ty⟩ := tyDv_rd s1 rv hU
    rw [hK] at ty
    have h1 := kit_ty (K := X.K) (kit_all U hL b hb)
    refine ⟨v, .ty b, .type U, .type b, _, rfl, .ty b, ty, h1, ?_⟩
    have := Po.now p1 s1 (.bl ([b].any (isaT U))) rfl
    simpa using this
  · exact p1.elim
theorem e_isaT (hK : G.K = X.K) (hg : Gl X "isinstance") (hm : X.mg "isinstance" = none) (bs : List String) (hb : ∀ b ∈ bs, b ∈ tyR) (hz : bs.length ≤ 100) (he : PE X e (tM G W m)) (hes : PA X es (fun σ H Q => Q (bs.map V.ty) H)) {kk : Nat} (hs : starEach [e, .Tuple es kk tpos] X.env = (false, eval e X.env) :: starEach [.Tuple es kk tpos] X.env)
    (hs2 : starEach [.Tuple es kk tpos] X.env = (false, eval (.Tuple es kk tpos) X.env) :: starEach [] X.env) (hpl : (backTo pos (starEach [.Tuple es kk tpos] X.env)).any (·.1) = false) : PE X (.Call (.Name "isinstance" p) [e, .Tuple es kk tpos] [] pos) (tM G W (m1 (pIsa bs) m)) := by
  refine (pe_callB call_isiT hg hm PyProof.Rows.boot_isinstance (pa_cons he (pa_cons (pe_tup hes) pa_nil hs2) hs) (by decide) (by decide) hs hpl).sm fun σ H Q h => ?_
  obtain ⟨A, ρ, S, he, hs, p0⟩ := h
  refine ⟨A, ρ, S, he, hs, Po.step p0 fun d S1 A1 H1 x1 s1 p1 v rv => ⟨by rw [List.length_map]; exact line_of (by omega), fun q hq => ?_⟩⟩
  unfold pIsa at p1
  split at p1
  · rename_i U hU
    obtain ⟨hL, ty⟩ := tyDv_rd (s1.new (o := .tup (bs.map V.ty)) hq) (RD.kp (Ext.new hq).kp rv) hU
    rw [hK] at ty
    exact ⟨v, q, bs.map V.ty, .type U, bs.map Value.type, _, rfl, upd_same, clsv_all bs, ty, kit_any hL hb, Po.at p1 (Ext.new hq) (s1.new hq) _ rfl⟩
  · exact p1.elim
end

/-! ### o[i] = d -/
def stSub (o i d : Dv) (S : Sto) : Option Sto := match o with
  | .loc n => (match S[n]? with
    | some (.lst xs) => (match i with
      | .d (.int k) => (match ixN xs.length k with
        | some j => some (S.set n (.lst (xs.set j d)))
        | none => none)
      | _ => none)
    | some (.dct ks xs) => (match kOf i with
      | some j => if ks.length < 16777216 then some (S.set n (.dct (dputK ks j) (dputX ks xs j d))) else none
      | none => none)
    | _ => none)
  | _ => none
def sSub (mo mi mv : M Dv) : SM := fun ρ S => (mv ρ S).to ρ fun d S1 => (mo ρ S1).to ρ fun o S2 => (mi ρ S2).to ρ fun i S3 => oz (stSub o i d S3) fun S4 => .nx ρ S4
section
variable {X : Cx} {G : Gs} {W : WX} {k : Nat} {o i value : Expr} {p pos pos' : Pos} {mo mi mv : M Dv}
theorem line_lt {n : Nat} (h : n < 16777216) : n < sizeLine := by rw [sizeLine_eq]; exact h
theorem s_sub (hu : X.A.units + 64 < cLine) (ho : PE X o (tM G W mo)) (hi : PE X i (tM G W mi)) (hv : PE X value (tM G W mv)) (hs : swapsWith value (some (.Subscript o i pos')) pos.line X.env = pure false) : PS X (.Assign [.Subscript o i pos'] value pos) (tMS G W (sSub mo mi mv)) := by
  refine ⟨fun pins s σ H D I h => ?_⟩
  obtain ⟨A, ρ, S, he, st, p0⟩ := h
  refine wpAny_Assign_Subscript (thn (hv.run pins s σ H (fun v H1 => tM G W mo σ H1 fun x H2 => tM G W mi σ H2 fun y H3 => (rSetL x y v H3 (fun H4 => D.nx σ H4)) ∨ rSetD x y v H3 (fun H4 => D.nx σ H4)) I ⟨A, ρ, S, he, st, PoS.step he p0 fun d S1 A1 H1 x1 s1 e1 p1 v rv => ?_⟩)
    fun r s1 ⟨v, H1, I1, rv, q1⟩ => thn (ho.run pins s1 σ H1 _ I1 q1) fun u s2 ⟨x, H2, I2, rx, q2⟩ => thn (hi.run pins s2 σ H2 _ I2 q2) fun iv s3 ⟨y, H3, I3, ry, q3⟩ => ?_) hs
  · refine ⟨A1, ρ, S1, e1, s1, PoS.step e1 p1 fun o' S2 A2 H2 x2 s2 e2 p2 x rx => ?_⟩
    refine ⟨A2, ρ, S2, e2, s2, PoS.step e2 p2 fun i' S3 A3 H3 x3 s3 e3 p3 y ry => ?_⟩
    obtain ⟨S4, es, p4⟩ := oz_po p3
    have rx := RD.kp x3.kp rx
    have rv := RD.kp x3.kp (RD.kp x2.kp rv)
    unfold stSub at es
    split at es
    · rename_i n
      split at es
      · rename_i xs eo
        obtain ⟨a, vs, rfl, hl, ha, hvs⟩ := loc_lst s3 rx eo
        split at es
        · rename_i kk
          split at es
          · rename_i j ej
            cases es
            obtain ⟨x4, s4⟩ := set_lst s3 hl (hvs.set j rv)
            obtain rfl : y = .int kk := ry
            refine .inl ⟨a, vs, kk, j, rfl, rfl, ha, by rw [← Paired.length hvs]; exact ej, p4 A3 _ σ x4 s4 (e3.kp x4.kp)⟩
          · cases es
        · cases es
      · rename_i ks xs eo
        obtain ⟨a, kvs, rfl, hl, ha, ek, hvs⟩ := loc_dct s3 rx eo
        split at es
        · rename_i j ej
          split at es
          · rename_i hz
            cases es
            subst ek
            obtain ⟨x4, s4⟩ := set_dct s3 hl (dput_keys (kvs := kvs) (j := j) (y := v)) (dput_rds hvs rv)
            refine .inr ⟨a, _, rfl, .inl ⟨kvs, j, ha, kOf_rd ej ry, line_lt (by simpa using hz), rfl⟩, p4 A3 _ σ x4 s4 (e3.kp x4.kp)⟩
          · cases es
        · cases es
      · cases es
    · cases es
  · rcases q3 with q3 | q3
    · exact thn (set_list pins s3 σ H3 x y v u iv r _ I3 rx ry rv q3) fun _ s4 ⟨H4, I4, q4⟩ => ⟨σ, H4, I4, q4⟩
    · exact thn (set_dict (by omega) pins s3 σ H3 x y v u iv r _ I3 rx ry rv q3) fun _ s4 ⟨H4, I4, q4⟩ => ⟨σ, H4, I4, q4⟩
end

/-! ### methods of list boxes -/
abbrev PM := Dv → List Dv → Sto → Pz Dv
def isLs (S : Sto) (d : Dv) : Bool := match lstAt S d with
  | some _ => true
  | none => false
def mLm (p : PM) (mo : M Dv) (ma : M (List Dv)) : M Dv := fun ρ S => (mo ρ S).bind fun o S1 => if isLs S1 o = true then (ma ρ S1).bind fun ds S2 => lift (p o ds S2) else .bad
def pAppend : PM := fun o ds S => match o, ds with
  | .loc n, [x] => (match S[n]? with
    | some (.lst xs) => if xs.length < 16777216 then some (.d .non, S.set n (.lst (xs ++ [x]))) else none
    | _ => none)
  | _, _ => none
def pExtend : PM := fun o ds S => match o, ds with
  | .loc n, [y] => (match S[n]?, lstAt S y with
    | some (.lst xs), some zs => if xs.length + zs.length ≤ 16777216 then some (.d .non, S.set n (.lst (xs ++ zs))) else none
    | _, _ => none)
  | _, _ => none
def pPop : PM := fun o ds S => match o, ds with
  | .loc n, [] => (match S[n]? with
    | some (.lst xs) => (match xs[xs.length - 1]? with
      | some x => some (x, S.set n (.lst xs.dropLast))
      | none => none)
    | _ => none)
  | _, _ => none
def pPopAt : PM := fun o ds S => match o, ds with
  | .loc n, [.d (.int i)] => (match S[n]? with
    | some (.lst xs) => if -(2 ^ 63) ≤ i ∧ i < 2 ^ 63 then (match seqIndex? i xs.length with
      | some j => (match xs[j]? with
        | some x => some (x, S.set n (.lst (xs.eraseIdx j)))
        | none => none)
      | none => none) else none
    | _ => none)
  | _, _ => none
def qM (G : Gs) (p : PM) : V → List V → Hp → VK → Prop := fun x xs H Q => ∃ A S d ds, RD G A H d x ∧ RDs G A H ds xs ∧ StR G A S H ∧ Po G Ez A H (lift (p d ds S)) (kD G Q)
section
variable {X : Cx} {G : Gs} {W : WX} {k : Nat} {o e : Expr} {es : List Expr} {name : Str} {id : String} {apos cpos : Pos} {mo : M Dv} {ma : M (List Dv)} {p : PM}
theorem isLs_ty (hK : G.K = X.K) {A : Al} {S : Sto} {H : Hp} {d : Dv} {v : V} (s : StR G A S H) (r : RD G A H d v) (h : isLs S d = true) : tyV X.K "list" v H := by
  unfold isLs at h
  split at h
  · rename_i ds e
    obtain ⟨a, vs, rfl, hl, _⟩ := lstAt_rd s r e
    exact .inl ⟨rfl, vs, .inl (.inl hl)⟩
  · cases h
theorem e_lm0 (hK : G.K = X.K) (slot : Slot "list" name id) (hty : typeOf (.builtin id) = pure (.type "method_descriptor")) (hm : MtR X id (qM G p)) (ho : PE X o (tM G W mo)) (hbase : attributeBase o name X.env (eval o X.env) = eval o X.env) (hline : (apos.endLine == cpos.line) = true) :
    PE X (.Call (.Attribute o name apos) [] [] cpos) (tM G W (mLm p mo aNil)) := by
  refine (pe_bm0 PySem.F.plainAttrs_list slot hty hm ho hbase hline).sm fun σ H Q h => ?_
  obtain ⟨A, ρ, S, he, st, p0⟩ := h
  refine ⟨A, ρ, S, he, st, Po.step p0 fun d S1 A1 H1 x1 s1 p1 v rv => ?_⟩
  by_cases hi : isLs S1 d = true
  · simp only [hi, if_true] at p1
    exact ⟨isLs_ty hK s1 rv hi, A1, S1, d, [], rv, .nil, s1, Po.lift p1⟩
  · simp only [hi] at p1
    exact p1.elim
theorem e_lm (hK : G.K = X.K) (slot : Slot "list" name id) (hty : typeOf (.builtin id) = pure (.type "method_descriptor")) (hm : MtR X id (qM G p)) (ho : PE X o (tM G W mo)) (ha : PA X (e :: es) (tMA G W ma)) (hbase : attributeBase o name X.env (eval o X.env) = eval o X.env)
    (hfew : ((backTo cpos (starEach (e :: es) X.env)).all (fun x => !x.1) && (backToKw cpos (keywordEach [] X.env)).all (fun x => x.1.isSome) && decide ((e :: es).length + ([] : List Keyword).length + (if ([] : List Keyword).isEmpty then 0 else 1) < 30)) = true)
    (hline : (apos.endLine == cpos.line) = true) (hs : starEach (e :: es) X.env = (false, eval e X.env) :: starEach es X.env) (hplain : (backTo cpos (starEach es X.env)).any (·.1) = false) : PE X (.Call (.Attribute o name apos) (e :: es) [] cpos) (tM G W (mLm p mo ma)) := by
  refine (pe_bm PySem.F.plainAttrs_list slot hty hm ho ha hbase hfew hline hs hplain).sm fun σ H Q h => ?_
  obtain ⟨A, ρ, S, he, st, p0⟩ := h
  refine ⟨A, ρ, S, he, st, Po.step p0 fun d S1 A1 H1 x1 s1 p1 v rv => ?_⟩
  by_cases hi : isLs S1 d = true
  · simp only [hi, if_true] at p1
    refine ⟨isLs_ty hK s1 rv hi, A1, ρ, S1, he.kp x1.kp, s1, Po.step p1 fun ds S2 A2 H2 x2 s2 p2 vs rvs => ?_⟩
    exact ⟨A2, S2, d, ds, RD.kp x2.kp rv, rvs, s2, Po.lift p2⟩
  · simp only [hi] at p1
    exact p1.elim
theorem m_append : MtR X "list.append" (qM G pAppend) := by
  refine L2.MtR.sm (show MtR X "list.append" rAppend from mt_append) fun x xs H Q h => ?_
  obtain ⟨A, S, d, ds, rd, rds, s, p⟩ := h
  unfold pAppend at p
  split at p
  · obtain ⟨v, rfl, r⟩ := RDs.one rds
    split at p
    · rename_i e
      split at p
      · rename_i hz
        obtain ⟨a, vs, rfl, hl, ha, hvs⟩ := loc_lst s rd e
        obtain ⟨x2, s2⟩ := set_lst s hl (hvs.append (.cons r .nil))
        exact ⟨a, vs, v, rfl, rfl, ha, by rw [← Paired.length hvs]; exact line_lt hz, Po.at p x2 s2 _ rfl⟩
      · exact p.elim
    · exact p.elim
  · exact p.elim
theorem m_extend : MtR X "list.extend" (qM G pExtend) := by
  refine L2.MtR.sm (show MtR X "list.extend" rExtend from mt_extend) fun x xs H Q h => ?_
  obtain ⟨A, S, d, ds, rd, rds, s, p⟩ := h
  unfold pExtend at p
  split at p
  · obtain ⟨v, rfl, r⟩ := RDs.one rds
    split at p
    · rename_i e1 e2
      split at p
      · rename_i hz
        obtain ⟨a, vs, rfl, hl, ha, hvs⟩ := loc_lst s rd e1
        obtain ⟨b, ws, rfl, hb, hws⟩ := lstAt_rd s r e2
        obtain ⟨x2, s2⟩ := set_lst s hl (hvs.append hws)
        exact ⟨a, b, vs, ws, rfl, rfl, ha, hb, by rw [← Paired.length hvs, ← Paired.length hws]; exact line_of hz, Po.at p x2 s2 _ rfl⟩
      · exact p.elim
    · exact p.elim
  · exact p.elim
theorem m_pop : MtR X "list.pop" (qM G pPop) := by
  refine L2.MtR.sm (show MtR X "list.pop" rPop from mt_pop) fun x xs H Q h => ?_
  obtain ⟨A, S, d, ds, rd, rds, s, p⟩ := h
  unfold pPop at p
  split at p
  · cases rds
    split at p
    · rename_i e1
      split at p
      · rename_i y ey
        obtain ⟨a, vs, rfl, hl, ha, hvs⟩ := loc_lst s rd e1
        obtain ⟨x2, s2⟩ := set_lst s hl hvs.dropLast
        obtain ⟨v, e2, rv⟩ := hvs.get ey
        rw [Paired.length hvs] at e2
        exact ⟨a, vs, v, rfl, rfl, ha, e2, Po.at p x2 s2 _ (RD.kp x2.kp rv)⟩
      · exact p.elim
    · exact p.elim
  · exact p.elim
theorem m_popAt : MtR X "list.pop" (qM G pPopAt) := by
  refine L2.MtR.sm (show MtR X "list.pop" rPopAt from mt_popAt) fun x xs H Q h => ?_
  obtain ⟨A, S, d, ds, rd, rds, s, p⟩ := h
  unfold pPopAt at p
  split at p
  · obtain ⟨v, rfl, r⟩ := RDs.one rds
    obtain rfl : v = .int _ := r
    split at p
    · rename_i e1
      split at p
      · rename_i hi
        split at p
        · rename_i j ej
          split at p
          · rename_i y ey
            obtain ⟨a, vs, rfl, hl, ha, hvs⟩ := loc_lst s rd e1
            obtain ⟨x2, s2⟩ := set_lst s hl (hvs.eraseIdx j)
            obtain ⟨v, e2, rv⟩ := hvs.get ey
            rw [Paired.length hvs] at ej
            exact ⟨a, vs, _, j, v, rfl, rfl, ha, hi.1, hi.2, ej, e2, Po.at p x2 s2 _ (RD.kp x2.kp rv)⟩
          · exact p.elim
        · exact p.elim
      · exact p.elim
    · exact p.elim
  · exact p.elim
end
end Sm
/-! Sm13: sorted, by data. -/
namespace Sm
open PySem PySem.Spec PyProof.Rows L2
open PySem.W (EachIs dataLe dataLt alike AllAlike Sortable)

def encT (t : Dt) : PyData := (toPy t).getD .none
def leT (a b : Dt) : Bool := !dataLt (encT b) (encT a)
theorem leT_eq : leT = dataLe false encT := rfl
/-- the items that gather: each with its data -/
def ColR (X : Cx) (G : Gs) (A : Al) (H : Hp) (pins : List (Addr × Obj)) (σ : L2.St) (s : Shared) (x : Value) (C : List Dt → Prop) : Prop :=
  ∀ Q' : List Value → Shared → Prop, (∀ s' us (bs : List (Dt × V)), L2.Inv X pins σ H s' → Vals (bs.map (·.2)) us → (∀ b ∈ bs, RV G A H b.1 b.2) → C (bs.map (·.1)) → Q' us s') → wpAny (model X.prog X.w) X.A.in1 (collect x) Q' X.xe s
structure SortOk (ts : List Dt) : Prop where
  py : ∀ t ∈ ts, ∃ d, toPy t = some d
  al : AllAlike (ts.map encT)
  so : Sortable (ts.map encT)
  dp : ∀ t ∈ ts, (encT t).depth ≤ 60
  sz : ts.length ≤ 16777216
theorem each_of_vals {G : Gs} {A : Al} {H : Hp} : ∀ {bs : List (Dt × V)} {us : List Value}, Vals (bs.map (·.2)) us → (∀ b ∈ bs, RV G A H b.1 b.2) → EachIs (fun (u : Value) (b : Dt × V) => RelV b.2 u ∧ RV G A H b.1 b.2) us bs
  | [], us, r, _ => by
    cases r
    exact .nil
  | b :: bs, us, r, h => by
    cases r with
    | cons r1 r2 => exact .cons ⟨r1, h b List.mem_cons_self⟩ (each_of_vals r2 fun c hc => h c (List.mem_cons_of_mem _ hc))
theorem vals_of_each {G : Gs} {A : Al} {H : Hp} : ∀ {bs : List (Dt × V)} {us : List Value}, EachIs (fun (u : Value) (b : Dt × V) => RelV b.2 u ∧ RV G A H b.1 b.2) us bs → Vals (bs.map (·.2)) us ∧ RVs G A H (bs.map (·.1)) (bs.map (·.2))
  | [], us, r => by
    cases r
    exact ⟨.nil, (rfl : ([] : List V) = [])⟩
  | b :: bs, us, r => by
    cases r with
    | cons r1 r2 =>
      obtain ⟨h1, h2⟩ := vals_of_each r2
      exact ⟨.cons r1.1 h1, _, _, rfl, r1.2, h2⟩
section
variable {X : Cx} {G : Gs}
theorem sorted_col {pins : List (Addr × Obj)} {σ : L2.St} {s : Shared} {H : Hp} {A : Al} {x : Value} {C : List Dt → Prop} {Q : VK} (hK : G.K = X.K) (hu : X.A.units + 64 < cLine) (hc : ColR X G A H pins σ s x C) (hok : ∀ ts, C ts → SortOk ts)
    (q : ∀ ts vs, C ts → RVs G A H (ts.mergeSort leT) vs → ∀ p, H p = none → Q (.ref p) (upd H p (.lst vs))) : wpAny (model X.prog X.w) X.A (call (.builtin "sorted") [x]) (EP X pins σ Q) X.xe s := by
  refine Calls.call_function_entry kind_sorted plain_sorted entry_sorted (args_sorted1 _) ?_
  unfold Builtin.«sorted»
  refine wpAny_bind (m := checkCount "sorted" 1 1 _) (wpAny_pure ?_)
  refine wpAny_bind (hc _ fun s1 us bs I1 rv rb hC => ?_)
  have ok := hok _ hC
  have hl : us.length = bs.length := by rw [← rv.length, List.length_map]
  have hz : bs.length ≤ sizeLine := by
    have := ok.sz
    rw [List.length_map] at this
    exact line_of this
  refine wpAny_bind (wpAny_newList ?_ (by rw [hl]; exact hz))
  have hoL : (s1.heap.push (seqObj "list" us.toArray 0)).get? s1.heap.objs.size = some (seqObj "list" us.toArray 0) := Heap.get?_push_size _ rfl
  have e0 := each_of_vals rv rb
  have er : EachIs (fun v (b : Dt × V) => ∃ as, Reads (PySem.W.sortingHeap (s1.heap.push (seqObj "list" us.toArray 0)) s1.heap.objs.size us) v (encT b.1) as) us bs := by
    refine (PySem.W.each_mem e0).mono fun v b hb => ?_
    obtain ⟨⟨r1, r2⟩, hm⟩ := hb
    obtain ⟨d, hd⟩ := ok.py b.1 (List.mem_map.mpr ⟨b, hm, rfl⟩)
    have dp := RV.dp hd r2
    rw [hK] at dp
    obtain ⟨as, ra⟩ := Dp.reads I1 d b.2 v dp r1
    have ee : encT b.1 = d := by
      unfold encT
      rw [hd]
      rfl
    rw [ee]
    exact ⟨as, PyProof.Rows.Reads.keeps (fun c o hc => PySem.W.sortingHeap_old (Nat.ne_of_lt (Heap.lt_size hc)) (Heap.get?_push_of_some _ hc)) ra⟩
  have em : bs.map (fun b => encT b.1) = (bs.map (·.1)).map encT := by
    rw [List.map_map]
    rfl
  have hal : AllAlike (bs.map fun b => encT b.1) := by
    rw [em]
    exact ok.al
  have hso : Sortable (bs.map fun b => encT b.1) := by
    rw [em]
    exact ok.so
  have hdp : ∀ b, b ∈ bs → X.A.in1.units + 1 + (encT b.1).depth < cLine := fun b hb => by
    have := ok.dp b.1 (List.mem_map.mpr ⟨b, hb, rfl⟩)
    have hi : X.A.in1.units = X.A.units + 1 := rfl
    omega
  refine wpAny_bind (wpAny_holding (wpAny_call_entry slot_list_sort ⟨_, hoL, rfl⟩ entry_list_sort (PySem.W.list_sort_vals (κ := PySem.W.dataKind (PySem.W.sortingHeap (s1.heap.push (seqObj "list" us.toArray 0)) s1.heap.objs.size us) (bs.map fun b => encT b.1)) hoL
    (PySem.W.SortsAt.data (s := { s1 with heap := PySem.W.sortingHeap (s1.heap.push (seqObj "list" us.toArray 0)) s1.heap.objs.size us }) (PySem.W.each_map (R := fun v d => ∃ as, Reads (PySem.W.sortingHeap (s1.heap.push (seqObj "list" us.toArray 0)) s1.heap.objs.size us) v d as) (fun b : Dt × V => encT b.1) er) hal hso (PySem.W.bound_map hdp)) (by rw [hl]; exact hz) ⟨.none, rfl, ?_⟩) (args_list_sort _)))
  have eo := PySem.W.sortVals_data false e0 er hal
  have el : (PySem.W.sortVals (PySem.W.dataKind (PySem.W.sortingHeap (s1.heap.push (seqObj "list" us.toArray 0)) s1.heap.objs.size us) (bs.map fun b => encT b.1)) false us us).length = bs.length := by
    rw [PySem.W.sortVals_length false rfl]
    exact hl
  generalize PySem.W.sortVals (PySem.W.dataKind (PySem.W.sortingHeap (s1.heap.push (seqObj "list" us.toArray 0)) s1.heap.objs.size us) (bs.map fun b => encT b.1)) false us us = out at eo el
  obtain ⟨c, hcL⟩ := sortedHeap_at (vs := us) (out := out.toArray) hoL
  obtain ⟨h1, h2⟩ := vals_of_each eo
  have hm : (bs.mergeSort (dataLe false fun b => encT b.1)).map (·.1) = (bs.map (·.1)).mergeSort leT := List.map_mergeSort fun a _ b _ => rfl
  rw [hm] at h2
  have keep : ∀ b o, s1.heap.get? b = some o → (sortedHeap (s1.heap.push (seqObj "list" us.toArray 0)) s1.heap.objs.size us out.toArray).get? b = some o := fun b o e => by
    have hlt := Heap.lt_size e
    rw [sortedHeap_old (Nat.ne_of_lt hlt) (by rw [size_push']; exact Nat.lt_succ_of_lt hlt)]
    exact Heap.get?_push_of_some _ e
  have hfin := q _ _ hC h2 s1.heap.objs.size (I1.hok.fresh (Nat.le_refl _))
  refine wpAny_pure ⟨_, rfl, .ref s1.heap.objs.size, _, I1.laid keep (Nat.le_refl _) (show ObjOk X.prog X.w _ _ _ (.lst ((bs.mergeSort (dataLe false fun b => encT b.1)).map (·.2))) from ⟨?_, out, c, h1, hcL⟩), rfl, hfin⟩
  rw [List.length_map, List.length_mergeSort]
  exact hz
/-- a list, a tuple: its items in order -/
theorem col_seq {pins : List (Addr × Obj)} {σ : L2.St} {s : Shared} {H : Hp} {A : Al} {a : Addr} {vs : List V} {ts : List Dt} (I : L2.Inv X pins σ H s) (hs : SqL X.K H a vs ∨ SqT X.K H a vs) (hv : RVs G A H ts vs) : ColR X G A H pins σ s (.ref a) fun us => us = ts := by
  intro Q' hq
  have fin : ∀ (its : List Value) (h' : Heap), Vals vs its → (∀ b o', s.heap.get? b = some o' → h'.get? b = some o') → Q' its { s with heap := h' } := fun its h' r k => by
    have hl := hv.length
    refine hq _ its (ts.zip vs) (I.kept (t' := s.toks) k) ?_ (fun b hb => ?_) ?_
    · rw [List.map_snd_zip (by omega)]
      exact r
    · obtain ⟨i, hi⟩ := List.mem_iff_getElem?.mp hb
      obtain ⟨e1, e2⟩ := List.getElem?_zip_eq_some.mp hi
      obtain ⟨v, e3, r3⟩ := hv.get e1
      rw [e2] at e3
      cases e3
      exact r3
    · exact List.map_fst_zip (by omega)
  rcases hs with hs | hs
  · obtain ⟨its, r, pl, hz⟩ := I.list hs
    obtain ⟨o, ho, hc, n, hd⟩ := pl.isList
    refine wpAny_collect_seq a (.inl rfl) ho hc hd (fun h' k => fin its h' r k) ?_
    rw [List.size_toArray, ← r.length]
    exact hz
  · obtain ⟨its, r, pl, hz⟩ := I.tuple hs
    obtain ⟨o, ho, hc, n, hd⟩ := pl
    refine wpAny_collect_seq a (.inr rfl) ho hc hd (fun h' k => fin its h' r k) ?_
    rw [List.size_toArray, ← r.length]
    exact hz
end
/-! ### sorted(x), x a list or a tuple -/
def isTupP : PyData → Bool
  | .tuple (_ :: _) => true
  | _ => false
def isAtom : PyData → Bool
  | .none => false
  | .tuple _ => false
  | _ => true
def sortChk (ts : List Dt) : Bool := ts.all (fun t => (toPy t).isSome && decide ((encT t).depth ≤ 60)) && (ts.all fun t => ts.all fun u => alike (encT t) (encT u)) && ((ts.all fun t => isTupP (encT t)) || ts.all fun t => isAtom (encT t)) && decide (ts.length ≤ 16777216)
theorem sortChk_ok {ts : List Dt} (h : sortChk ts = true) : SortOk ts := by
  unfold sortChk at h
  simp only [Bool.and_eq_true, decide_eq_true_eq, Bool.or_eq_true, List.all_eq_true] at h
  obtain ⟨⟨⟨h1, h2⟩, h3⟩, h4⟩ := h
  refine ⟨fun t ht => Option.isSome_iff_exists.mp (h1 t ht).1, fun d hd d' hd' => ?_, ?_, fun t ht => (h1 t ht).2, h4⟩
  · obtain ⟨t, ht, rfl⟩ := List.mem_map.mp hd
    obtain ⟨t', ht', rfl⟩ := List.mem_map.mp hd'
    exact h2 t ht t' ht'
  · rcases h3 with h3 | h3
    · refine .inl fun d hd => ?_
      obtain ⟨t, ht, rfl⟩ := List.mem_map.mp hd
      have := h3 t ht
      unfold isTupP at this
      split at this
      · rename_i x r e
        exact ⟨x, r, e⟩
      · cases this
    · refine .inr fun d hd => ?_
      obtain ⟨t, ht, rfl⟩ := List.mem_map.mp hd
      have := h3 t ht
      unfold isAtom at this
      split at this
      · cases this
      · cases this
      · rename_i n1 n2
        exact ⟨n1, fun xs => n2 xs⟩
def seqT (S : Sto) (d : Dv) : Option (List Dt) := (seqAt S d).bind pures
def pSorted : PN := fun ds S => match ds with
  | [d] => (match seqT S d with
    | some ts => if sortChk ts = true then some (.d (.lst (ts.mergeSort leT)), S) else none
    | none => none)
  | _ => none
section
variable {X : Cx} {G : Gs}
theorem b_sorted (hK : G.K = X.K) (hu : X.A.units + 64 < cLine) : CallR X (.builtin "sorted") (qN G pSorted) := by
  intro pins s σ H xs us Q I rx h
  obtain ⟨A, S, ds, rd, st, p⟩ := h
  unfold pSorted at p
  split at p
  · obtain ⟨v, rfl, r⟩ := RDs.one rd
    split at p
    · rename_i ts e
      split at p
      · rename_i hz
        obtain ⟨ds, e1, e2⟩ := Option.bind_eq_some_iff.mp e
        obtain ⟨a, vs, rfl, hs, hv⟩ := seqAt_rd st r e1
        rw [hK] at hs
        obtain rfl := Vals.ref1 rx
        exact sorted_col hK hu (col_seq I hs (pures_rvs e2 hv)) (fun us eu => by rw [eu]; exact sortChk_ok hz) fun us vs' eu hv' => by
          subst eu
          exact poL p st hv'
      · exact p.elim
    · exact p.elim
  · exact p.elim
end
end Sm
/-! Sm14: sets of keys, made from a list, a tuple, a dict, and sorted. -/
namespace Sm
open PySem PySem.Spec PyProof.Rows L2

def keyX (e : Int × Value) : Key := match e.2 with
  | .int i _ => .inl i
  | .str z _ => .inr z
  | _ => .inl 0
def GoodX (P : Program) (w : World) (e : Int × Value) : Prop := (mixKind P w).is (keyX e) e.2 = true ∧ e.1 = (mixKind P w).hash (keyX e)
theorem keyX_of {P : Program} {w : World} {k : Key} {v : Value} {h : Int} (e : (mixKind P w).is k v = true) : keyX (h, v) = k := by
  rcases keyIs_shape (k := k) (v := v) e with ⟨i, t, rfl, rfl⟩ | ⟨x, t, rfl, rfl⟩
  · rfl
  · rfl
theorem scan_of {P : Program} {w : World} {k : Key} {v : Value} (e : (mixKind P w).is k v = true) : v.scannable = true := key_scan (keyIs_rel e)
/-- entries es, in the table t, have the keys S, n of them -/
structure SetC (P : Program) (w : World) (es : Array (Int × Value)) (t : SetTable) (S : Key → Bool) (n : Nat) : Prop where
  good : ∀ e ∈ es.toList, GoodX P w e
  nd : (es.toList.map keyX).Nodup
  mem : ∀ k, S k = true ↔ k ∈ es.toList.map keyX
  lt : es.size < scanBound
  fit : t.fits es.size = true
  sz : es.size = n
  ris : Ris t.place.toList
  led : w.params.followText "set-order" = true ∨ t.led = true
def SetX (P : Program) (w : World) (h : Heap) (a : Addr) (S : Key → Bool) (n : Nat) : Prop := ∃ o es ep t, h.get? a = some o ∧ o.ExactSet ∧ o.data = .set es ep t ∧ SetC P w es t S n
section
variable {P : Program} {w : World} {A : Around} {E : Value → Shared → Prop} {s : Shared} {h h' : Heap} {a : Addr} {S S' : Key → Bool} {n : Nat} {es es' : Array (Int × Value)} {t t' : SetTable}
theorem SetC.elems (c : SetC P w es t S n) : ElemsOf (mixKind P w) es.toList := fun e he => ⟨⟨_, (c.good e he).1, (c.good e he).2⟩, scan_of (c.good e he).1⟩
theorem good_key {e : Int × Value} (g : GoodX P w e) (k : Key) : (mixKind P w).is k e.2 = true ↔ keyX e = k :=
  ⟨fun z => (mixKind P w).inj e.2 _ _ g.1 z, fun z => by rw [← z]; exact g.1⟩
theorem SetC.has (c : SetC P w es t S n) (k : Key) : S k = true ↔ ∃ e ∈ es.toList, (mixKind P w).is k e.2 = true := by
  rw [c.mem, List.mem_map]
  exact ⟨fun ⟨e, he, q⟩ => ⟨e, he, (good_key (c.good e he) k).2 q⟩, fun ⟨e, he, q⟩ => ⟨e, he, (good_key (c.good e he) k).1 q⟩⟩
theorem SetX.setOf (R : SetX P w h a S n) : h.SetOf (mixKind P w) a S n := by
  obtain ⟨o, es, ep, t, ho, hx, hd, c⟩ := R
  exact ⟨o, es, ep, t, ho, hx, hd, c.elems, c.has, c.lt, c.fit, c.sz⟩
theorem SetX.at (R : SetX P w h a S n) (k : ∀ o, h.get? a = some o → h'.get? a = some o) : SetX P w h' a S n := by
  obtain ⟨o, es, ep, t, ho, q⟩ := R
  exact ⟨o, es, ep, t, k o ho, q⟩
theorem SetX.congr (R : SetX P w h a S n) (e : ∀ k, S' k = S k) : SetX P w h a S' n := by
  rw [show S' = S from funext e]
  exact R
theorem SetC.perm (c : SetC P w es t S n) (p : es'.toList.Perm es.toList) (f : t'.fits es'.size = true) (r : Ris t'.place.toList) (l : t'.led = t.led) : SetC P w es' t' S n := by
  have z : es'.size = es.size := by rw [← Array.length_toList, p.length_eq, Array.length_toList]
  exact ⟨fun e he => c.good e (p.mem_iff.mp he), (p.map keyX).nodup_iff.mpr c.nd, fun k => (c.mem k).trans (p.map keyX).mem_iff.symm, by rw [z]; exact c.lt, f, z.trans c.sz, r, c.led.imp id fun q => l.trans q⟩
/-- the store, and the table laid anew where it is too full -/
theorem setX_tail {g : Bool → Sem Unit} (hg : ∀ (b : Bool) (s₁ : Shared) (Q' : Unit → Shared → Prop), Q' () s₁ → wpAny (model P w) A (g b) Q' E s₁) {o : Obj} {ep : Nat} (ho : s.heap.get? a = some o) (hx : o.ExactSet) (hd : o.data = .set es ep t)
    (c : SetC P w es' t' S n) {dummy : Bool} {R : Option Bool → Shared → Prop} (hR : ∀ h', Heap.SameBut a s.heap h' → SetX P w h' a S n → R (some true) { s with heap := h' }) :
    wpAny (model P w) A (do
      storeSet a es' t'
      if (!dummy && t'.tooFull) = true then do
        g (relayAll t' es' (SetTable.grown es'.size)).2.2
        storeSet a (relayAll t' es' (SetTable.grown es'.size)).1 (relayAll t' es' (SetTable.grown es'.size)).2.1
        pure (some true)
      else pure (some true)) R E s := by
  have o1 := store_at (es' := es') (t' := t') ho hd
  have b1 := Heap.SameBut.update s.heap a (Obj.putSet es' t')
  refine wpAny_bind (wpAny_storeSet_of ho hd ?_ (fits_of_scanBound c.lt))
  split
  · have c2 := c.perm (relayAll_perm t' es' (SetTable.grown es'.size)) (relayAll_fits t' es' _) (relayAll_ris t' es' _) (relayAll_led t' es' _)
    generalize relayAll t' es' (SetTable.grown es'.size) = Z at c2 ⊢
    obtain ⟨es2, t3, gave⟩ := Z
    dsimp only at c2 ⊢
    refine wpAny_bind (hg _ _ _ (wpAny_bind (wpAny_storeSet_of o1 rfl ?_ (fits_of_scanBound c2.lt))))
    have o2 := store_at (es' := es2) (t' := t3) o1 rfl
    exact wpAny_pure (hR _ (b1.trans (Heap.SameBut.update _ a _)) ⟨_, es2, _, t3, o2, hx, rfl, c2⟩)
  · exact wpAny_pure (hR _ b1 ⟨_, es', _, t', o1, hx, rfl, c⟩)
theorem setX_add {k : Key} {x : Value} {Q : Bool → Shared → Prop} (hk : (mixKind P w).is k x = true) (R : SetX P w s.heap a S n) (room : n + 1 < scanBound)
    (hQ : ∀ h', Heap.SameBut a s.heap h' → SetX P w h' a (fun j => S j || decide (j = k)) (if S k = true then n else n + 1) → Q (!S k) { s with heap := h' }) : wpAny (model P w) A (setAddHashed a x ((mixKind P w).hash k)) Q E s := by
  obtain ⟨o, es, ep, t, ho, hx, hd, c⟩ := R
  have hsc : x.scannable = true := scan_of hk
  unfold setAddHashed setAddHashedIn
  refine wpAny_holding (wpAny_bind (wpAny_setState_of ho hd c.fit ?_))
  dsimp only
  rw [byScan_of hsc c.lt c.elems]
  simp only [↓reduceIte]
  unfold setAddByScan
  refine wpAny_bind (wpAny_bind (wpAny_rule (wpAny_bind (wpAny_setScan_of hk ho hd c.fit c.elems ?_))))
  cases hfi : List.findIdx? (fun e => (mixKind P w).is k e.2) es.toList with
  | some j =>
    obtain ⟨hj, pj, _⟩ := List.findIdx?_eq_some_iff_getElem.mp hfi
    have hSk : S k = true := (c.has k).2 ⟨es.toList[j], List.getElem_mem hj, pj⟩
    have q := hQ s.heap (Heap.SameBut.refl a s.heap) ⟨o, es, ep, t, ho, hx, hd, ⟨c.good, c.nd, fun i => by
      rw [Bool.or_eq_true, decide_eq_true_eq, ← c.mem i]
      exact ⟨fun z => z.elim id fun e => e ▸ hSk, .inl⟩, c.lt, c.fit, by rw [if_pos hSk]; exact c.sz, c.ris, c.led⟩⟩
    rw [hSk] at q
    exact wpAny_pure (wpAny_pure q)
  | none =>
    have hnk : k ∉ es.toList.map keyX := fun z => by
      obtain ⟨e, he, q⟩ := (c.has k).1 ((c.mem k).2 z)
      rw [List.findIdx?_eq_none_iff.mp hfi e he] at q
      cases q
    have hSk : S k = false := by
      cases q : S k with
      | false => rfl
      | true => exact absurd ((c.mem k).1 q) hnk
    have hgw : ∀ (b : Bool) {s₁ : Shared} {Q' : Unit → Shared → Prop}, Q' () s₁ → wpAny (model P w) A (match b with | true => rule "set.scan.the-table-gave-way" | false => pure ()) Q' E s₁ := fun b s₁ Q' q => by
      cases b
      · exact wpAny_pure q
      · exact wpAny_rule q
    have pm := layNew_perm t es ((mixKind P w).hash k) x
    have hf := layNew_fits t es ((mixKind P w).hash k) x
    have hr := layNew_ris t es ((mixKind P w).hash k) x c.ris
    have hl := layNew_led t es ((mixKind P w).hash k) x
    generalize layNew t es ((mixKind P w).hash k) x = Z at pm hf hr hl ⊢
    obtain ⟨es1, t1, dummy, gave⟩ := Z
    dsimp only at pm hf hr hl ⊢
    rw [Array.toList_push] at pm
    have pc : es1.toList.Perm (((mixKind P w).hash k, x) :: es.toList) := pm.trans (List.perm_append_singleton _ _)
    have pk : (es1.toList.map keyX).Perm (k :: es.toList.map keyX) := by
      have := pc.map keyX
      rw [List.map_cons, keyX_of hk] at this
      exact this
    have hz : es1.size = n + 1 := by rw [← Array.length_toList, pc.length_eq, List.length_cons, Array.length_toList, c.sz]
    have cc : ∀ t2 : SetTable, t2.fits es1.size = true → Ris t2.place.toList → t2.led = t.led → SetC P w es1 t2 (fun j => S j || decide (j = k)) (n + 1) := fun t2 f r l =>
      ⟨fun e he => (List.mem_cons.mp (pc.mem_iff.mp he)).elim (fun z => by rw [z]; exact ⟨by rw [keyX_of hk]; exact hk, by rw [keyX_of hk]⟩) (c.good e), pk.nodup_iff.mpr (List.nodup_cons.mpr ⟨hnk, c.nd⟩), fun i => by
        rw [Bool.or_eq_true, decide_eq_true_eq, c.mem i, pk.mem_iff, List.mem_cons]
        exact Or.comm, by rw [hz]; exact room, f, hz, r, c.led.imp id fun q => l.trans q⟩
    have fin : ∀ h', Heap.SameBut a s.heap h' → SetX P w h' a (fun j => S j || decide (j = k)) (n + 1) → Q true { s with heap := h' } := fun h' sb r => by
      have q := hQ h' sb
      rw [hSk] at q
      exact q r
    have hrule : ∀ (b : Bool) (s₁ : Shared) (Q' : Unit → Shared → Prop), Q' () s₁ → wpAny (model P w) A (match b with | true => rule "set.scan.the-table-gave-way" | false => pure ()) Q' E s₁ := fun b s₁ Q' q => hgw b q
    refine wpAny_bind (hgw _ ?_)
    split
    · refine wpAny_bind ?_
      rw [hashByValue_scannable 8 hsc]
      refine wpAny_pure ?_
      refine setX_tail ?_ ho hx hd (cc _ ?_ ?_ ?_) ?_
      · intro b s₁ Q' q
        cases b <;> first | exact wpAny_pure q | exact wpAny_rule q
      · split <;> first | exact hf | exact SetTable.fits_plain_off hf
      · split <;> exact hr
      · split <;> exact hl
      · intro h' sb r
        dsimp only
        exact wpAny_pure (fin h' sb r)
    · refine wpAny_bind (wpAny_pure ?_)
      simp only [↓reduceIte]
      refine setX_tail ?_ ho hx hd (cc _ hf hr hl) ?_
      · intro b s₁ Q' q
        cases b <;> first | exact wpAny_pure q | exact wpAny_rule q
      · intro h' sb r
        dsimp only
        exact wpAny_pure (fin h' sb r)
theorem setX_fresh {h : Heap} (ho : h.get? a = some { cls := .type "set", dict := none, data := .set #[] 0 (.fresh 0 0 (!w.params.followText "set-order")) }) : SetX P w h a (fun _ => false) 0 :=
  ⟨_, #[], 0, _, ho, ⟨rfl, rfl, rfl⟩, rfl, ⟨fun e he => by simp at he, by simp, fun k => by simp, by decide, by rfl, rfl, List.Pairwise.nil, by
    show _ ∨ (!w.params.followText "set-order") = true
    cases w.params.followText "set-order"
    · exact .inr rfl
    · exact .inl rfl⟩⟩
/-- the loop over what is walked -/
theorem setX_loop {I : Addr} {fp wr : List Addr} {G : Array GenState → Array GenState → Prop} {Pv : Nat → Value → Prop} {St : Nat → Shared → Prop} {R : Result → Shared → Prop} (W : WalksS P w A.in1 I fp wr G n Pv St) (D : Addr) (hD : D ∉ fp) (ks : List Key) (hn : n = ks.length) (hb : ks.length + 1 < scanBound)
    (hval : ∀ i v, Pv i v → ∃ k, ks[i]? = some k ∧ (mixKind P w).is k v = true) : ∀ (m i : Nat) (s : Shared), n - i = m → i ≤ n → St i s → (∃ c, c ≤ i ∧ SetX P w s.heap D (hasK (ks.take i)) c) →
      (∀ s' c, Moved (D :: wr) G s s' → c ≤ n → SetX P w s'.heap D (hasK ks) c → R (.ok (.ret .none)) s') → codeAny (model P w) A (.builtin "set.update.loop" ⟨[.ref D, .ref I], []⟩) R s := by
  have hDw : D ∉ wr := fun z => hD (W.sub _ z)
  have sub : ∀ b ∈ wr, b ∈ D :: wr := fun b hb => List.mem_cons_of_mem _ hb
  intro m
  induction m with
  | zero =>
    intro i s hm hi hst ⟨c, hc, hS⟩ hR
    obtain rfl : i = n := by omega
    refine codeAny_builtin F.entry_set_update_loop ?_
    rw [Around.under_plainId F.plain_set_update_loop _]
    show wpAny _ A.in1 (pyNext (.ref I) >>= fun z => _) _ _ s
    refine wpAny_bind (W.done s _ _ hst fun s' hv => wpAny_pure (hR s' c (hv.mono sub) hc ?_))
    rw [List.take_of_length_le (by omega)] at hS
    exact hS.at fun o e => hv.heap D o hDw e
  | succ m ih =>
    intro i s hm hi hst ⟨c, hc, hS⟩ hR
    have hlt : i < n := by omega
    refine codeAny_builtin F.entry_set_update_loop ?_
    rw [Around.under_plainId F.plain_set_update_loop _]
    show wpAny _ A.in1 (pyNext (.ref I) >>= fun z => _) _ _ s
    refine wpAny_bind (W.item i s _ _ hlt hst fun v s' hP hst' hv => ?_)
    obtain ⟨k, hk, hkv⟩ := hval i v hP
    have hS1 : SetX P w s'.heap D (hasK (ks.take i)) c := hS.at fun o e => hv.heap D o hDw e
    show wpAny _ A.in1 (holding [v] (setAdd D v) >>= fun z => _) _ _ s'
    refine wpAny_bind (wpAny_holding ?_)
    unfold setAdd
    refine wpAny_holding (wpAny_bind ((mixKind P w).pyHash (k := k) hkv ?_))
    refine setX_add (s := { s' with toks := s'.toks + 1 }) hkv hS1 (by omega) fun h' sb hS2 => ?_
    have hS3 : SetX P w h' D (hasK (ks.take (i + 1))) (if hasK (ks.take i) k = true then c else c + 1) := hS2.congr fun j => by
      rw [List.take_add_one, hk]
      unfold hasK
      simp [List.any_append, eq_comm]
    have hc3 : (if hasK (ks.take i) k = true then c else c + 1) ≤ i + 1 := by split <;> omega
    refine wpAny_pure ⟨plainId_quiet F.plain_set_update_loop _, ih (i + 1) _ (by omega) hlt (W.frame _ s' _ _ hst' (Nat.le_succ _) fun b hb o e => ?_) ⟨_, hc3, hS3⟩ fun s'' c2 hm2 hc2 hS4 => ?_⟩
    · rw [sb.2 b fun z => hD (z ▸ hb)]
      exact e
    · refine hR s'' c2 (Moved.trans W.gtrans ((hv.mono sub).then_heap (Nat.le_succ _) fun b o hb e => ?_) hm2) hc2 hS4
      rw [sb.2 b fun z => hb (by rw [z]; exact List.mem_cons_self)]
      exact e
end
end Sm
/-! Sm15: set(x) of a list, a tuple, a dict of keys; sorted(set(x)). -/
namespace Sm
open PySem PySem.Spec PyProof.Rows L2

abbrev newSetO (w : World) : Obj := { cls := .type "set", dict := none, data := .set #[] 0 (.fresh 0 0 (!w.params.followText "set-order")) }
/-- how the set at D is filled from x -/
def Fills (P : Program) (w : World) (s : Shared) (x : Value) (ks : List Key) : Prop :=
  ∀ (A : Around) (id : String) (E : Value → Shared → Prop) (Q : Unit → Shared → Prop), A.handled = none →
    (∀ h' tk c, c ≤ ks.length → SetX P w h' s.heap.objs.size (hasK ks) c → (∀ b o, s.heap.get? b = some o → h'.get? b = some o) → Q () { s with heap := h', toks := tk }) →
    wpAny (model P w) A (Builtin.Frozenset.updateFrom id s.heap.objs.size x) Q E { s with heap := s.heap.push (newSetO w) }
section
variable {P : Program} {w : World} {A : Around} {E : Value → Shared → Prop} {s : Shared} {l : Addr} {ks : List Key}
set_option maxHeartbeats 3200000 in
theorem call_setX {x : Value} {Q : Value → Shared → Prop} (hh : A.handled = none) (hU : Fills P w s x ks)
    (h : ∀ (h' : Heap) (tk c : Nat), c ≤ ks.length → SetX P w h' s.heap.objs.size (hasK ks) c → (∀ b o, s.heap.get? b = some o → h'.get? b = some o) → Q (.ref s.heap.objs.size) { s with heap := h', toks := tk }) : wpAny (model P w) A (call (.type "set") [x]) Q E s := by
  obtain ⟨c, tl, hmro⟩ := F.called_set.mro
  have hmade := F.called_set.made
  have hsub := F.called_set.sub
  refine wpAny_call (codeAny_of_tree ?_)
  show wpAny _ _ (callAny (.type "set") _) _ _ _
  refine wpAny_pure ⟨Code.quiet_builtin _ (by decide +kernel), codeAny_builtin F.entry_type_call ?_⟩
  rw [Around.under_plain (weight_type_call_type "set" [x] []) rfl]
  have h1 := F.called_set.notType
  have h2 := F.called_set.canCreate
  have hct := F.typeCall_set_1 x
  repeat (any_goals (first | assumption | wp_step))
  refine codeAny_mono (code_set_led1 x (E := E) (Q₁ := fun obj s₁ => obj = .ref s.heap.objs.size ∧ s₁ = { s with heap := s.heap.push (newSetO w) }) ⟨rfl, rfl⟩) fun r s₁ hr => ?_
  cases r with
  | error e => exact hr
  | ok fl =>
    cases fl with
    | ret obj =>
      obtain ⟨rfl, rfl⟩ := hr
      have hS : (s.heap.push (newSetO w)).get? s.heap.objs.size = some (newSetO w) := Heap.get?_push_size _ rfl
      have hT : Shared.TypeIs { s with heap := s.heap.push (newSetO w) } (.ref s.heap.objs.size) "set" := ⟨_, hS, rfl⟩
      have hli := F.called_set.init.lookup
      have hbi := F.called_set.init.bind (.ref s.heap.objs.size)
      repeat (any_goals (first | assumption | wp_step))
      refine codeAny_mono (codeAny_call_builtin (R := wants (fun r s₂ => r = .none ∧ ∃ h' tk c, s₂ = { s with heap := h', toks := tk } ∧ c ≤ ks.length ∧ SetX P w h' s.heap.objs.size (hasK ks) c ∧ (∀ b o, s.heap.get? b = some o → h'.get? b = some o)) E) F.called_set.init.plain F.entry_set_init (check_set_init_1 hT ?_)) fun r₂ s₂ hr₂ => ?_
      · unfold Builtin.«set.__init__» noKeywords
        generalize hUF : Builtin.Frozenset.updateFrom = UF
        wp_walk
        subst hUF
        refine hU _ _ _ _ (by simp [hh]) fun h' tk c hc hS' hk => ?_
        show wpAny _ _ (ret Value.none) _ _ _
        exact wpAny_pure ⟨rfl, h', tk, c, rfl, hc, hS', hk⟩
      · cases r₂ with
        | error e => exact hr₂
        | ok fl₂ =>
          cases fl₂ with
          | ret r =>
            obtain ⟨rfl, h', tk, c', rfl, hc, hS', hk⟩ := hr₂
            repeat (any_goals (first | assumption | wp_step))
            exact h _ _ _ hc hS' hk
          | _ => exact hr₂.elim
    | _ => exact hr.elim
/-- the first steps of the filling, for a type that is no set -/
theorem fill_start {T : String} {x : Value} {id : String} {D : Addr} {Q : Unit → Shared → Prop} (hT : s.TypeIs x T) (h1 : isSubtype (.type T) (.type "set") = pure false) (h2 : isSubtype (.type T) (.type "frozenset") = pure false) (hd : (Value.type T == Value.type "dict") = false)
    (h : wpAny (model P w) A (do
      let _ ← runValue (.builtin "set.update.loop" ⟨[.ref D, ← pyIter x], []⟩)) Q E s) : wpAny (model P w) A (Builtin.Frozenset.updateFrom id D x) Q E s := by
  unfold Builtin.Frozenset.updateFrom Builtin.Frozenset.isAnySet
  refine wpAny_bind (wpAny_bind (wpAny_isInstance hT h1 (wpAny_isInstance hT h2 ?_)))
  refine wpAny_bind (wpAny_typeOf hT ?_)
  rw [hd]
  exact h
theorem fills_walk {T : String} {oI : Obj} {fp wr : List Addr} {n : Nat} {Pv : Nat → Value → Prop} {St : Nat → Heap → Prop} {x : Value} (hT : ∀ h, (∀ b o, s.heap.get? b = some o → h.get? b = some o) → Shared.TypeIs { s with heap := h } x T)
    (h1 : isSubtype (.type T) (.type "set") = pure false) (h2 : isSubtype (.type T) (.type "frozenset") = pure false) (hd : (Value.type T == Value.type "dict") = false)
    (hi : ∀ (A : Around) (E : Value → Shared → Prop) (Q : Value → Shared → Prop), Q (.ref (s.heap.objs.size + 1)) { s with heap := (s.heap.push (newSetO w)).push oI } → wpAny (model P w) A (pyIter x) Q E { s with heap := s.heap.push (newSetO w) })
    (hW : ∀ A : Around, A.handled = none → Walks P w A (s.heap.objs.size + 1) fp [s.heap.objs.size + 1] n Pv St) (h0 : St 0 ((s.heap.push (newSetO w)).push oI)) (hD : s.heap.objs.size ∉ fp) (hn : n = ks.length) (hb : ks.length + 1 < scanBound) (hval : ∀ (i : Nat) (v : Value), Pv i v → ∃ k : Key, ks[i]? = some k ∧ (mixKind P w).is k v = true) : Fills P w s x ks := by
  intro A id E Q hh hQ
  refine fill_start (hT _ fun b o e => Heap.get?_push_of_some _ e) h1 h2 hd ?_
  refine wpAny_bind (hi _ _ _ (wpAny_bind (wpAny_runValue ?_)))
  have g0 : ((s.heap.push (newSetO w)).push oI).get? s.heap.objs.size = some (newSetO w) := Heap.get?_push_of_some _ (Heap.get?_push_size _ rfl)
  refine setX_loop ((hW A.in1 hh).toS) s.heap.objs.size hD ks hn hb hval (n - 0) 0 _ (by omega) (Nat.zero_le _) h0 ⟨0, Nat.le_refl 0, SetX.congr (setX_fresh g0) fun k => rfl⟩ fun s' c hm hc hS' => ?_
  obtain ⟨h', g', d', tk', os'⟩ := s'
  have eg : g' = s.gens := hm.gens
  have ed : d' = s.drawn := hm.drawn
  have eo : os' = s.os := hm.os
  subst eg ed eo
  refine wpAny_pure (hQ h' tk' c (by omega) hS' fun b o e => ?_)
  have hb0 : b < s.heap.objs.size := Heap.lt_size e
  exact hm.heap b o (by
    simp only [List.mem_cons, List.not_mem_nil, or_false, not_or]
    exact ⟨Nat.ne_of_lt hb0, Nat.ne_of_lt (Nat.lt_succ_of_lt hb0)⟩) (Heap.get?_push_of_some _ (Heap.get?_push_of_some _ e))
end
end Sm
/-! Sm16: set(x) of a list, a tuple, a dict; sorted(set(x)). -/
namespace Sm
open PySem PySem.Spec PyProof.Rows L2
theorem key_is {P : Program} {w : World} {k : Key} {u : Value} (r : RelV (kV k) u) : (mixKind P w).is k u = true := by
  cases k with
  | inl i =>
    obtain ⟨t, rfl⟩ := r
    exact keyIs_int i t
  | inr x =>
    obtain ⟨t, rfl⟩ := r
    exact keyIs_str x t
theorem keys_at' : ∀ {ks : List Key} {its : List Value}, Vals (ks.map kV) its → ∀ (i : Nat) (v : Value), its[i]? = some v → ∃ k : Key, ks[i]? = some k ∧ RelV (kV k) v
  | [], _, r, i, v, e => by
    cases r
    simp at e
  | k :: ks, _, r, i, v, e => by
    cases r with
    | cons r1 r2 =>
      cases i with
      | zero =>
        simp at e
        subst e
        exact ⟨k, rfl, r1⟩
      | succ i =>
        obtain ⟨k', e1, e2⟩ := keys_at' r2 i v (by simpa using e)
        exact ⟨k', by simpa using e1, e2⟩
section
variable {P : Program} {w : World} {A : Around} {E : Value → Shared → Prop} {s : Shared} {l : Addr} {ks : List Key}
theorem fills_list {its : List Value} (hl : s.heap.IsList l its.toArray) (r : Vals (ks.map kV) its) (hb : ks.length + 1 < scanBound) : Fills P w s (.ref l) ks := by
  have hlt : l < s.heap.objs.size := by
    obtain ⟨o, ho, _⟩ := hl
    exact Heap.lt_size ho
  have hz : (s.heap.push (newSetO w)).objs.size = s.heap.objs.size + 1 := Heap.size_push ..
  refine fills_walk (wr := []) (T := "list") (oI := { cls := .type "list_iterator", data := .fields #[.ref l, .int 0 0] }) (fun h k => ?_) PySem.F.sub_list_set PySem.F.sub_list_frozenset (by decide) (fun A E Q q => ?_)
    (fun A hh => Walks.list hh (s.heap.objs.size + 1) l (Nat.ne_of_lt (Nat.lt_succ_of_lt hlt)) its.toArray) ⟨⟨{ cls := .type "list_iterator", data := .fields #[.ref l, .int 0 0] }, ?_, rfl, rfl⟩, (hl.push _).push _⟩ ?_ ?_ hb fun i v e => ?_
  · obtain ⟨o, ho, hc, _⟩ := hl
    exact ⟨o, k _ _ ho, hc⟩
  · refine wpAny_pyIter_list (hl.push _) ?_
    rw [hz]
    exact q
  · rw [← hz]
    exact Heap.get?_push_size _ rfl
  · simp only [List.mem_cons, List.not_mem_nil, or_false, not_or]
    exact ⟨Nat.ne_of_lt (Nat.lt_succ_self _), Nat.ne_of_gt hlt⟩
  · have := r.length
    rw [List.length_map] at this
    simp [← this]
  · obtain ⟨k, e1, e2⟩ := keys_at' r i v (by simpa using e)
    exact ⟨k, e1, key_is e2⟩
theorem fills_tuple {its : List Value} (hl : s.heap.IsTuple l its.toArray) (r : Vals (ks.map kV) its) (hb : ks.length + 1 < scanBound) : Fills P w s (.ref l) ks := by
  have hlt : l < s.heap.objs.size := by
    obtain ⟨o, ho, _⟩ := hl
    exact Heap.lt_size ho
  have hz : (s.heap.push (newSetO w)).objs.size = s.heap.objs.size + 1 := Heap.size_push ..
  refine fills_walk (wr := []) (T := "tuple") (oI := { cls := .type "tuple_iterator", data := .fields #[.ref l, .int 0 0] }) (fun h k => ?_) PySem.F.sub_tuple_set PySem.F.sub_tuple_frozenset (by decide) (fun A E Q q => ?_)
    (fun A hh => Walks.tuple hh (s.heap.objs.size + 1) l (Nat.ne_of_lt (Nat.lt_succ_of_lt hlt)) its.toArray) ⟨⟨{ cls := .type "tuple_iterator", data := .fields #[.ref l, .int 0 0] }, ?_, rfl, rfl⟩, (hl.push _).push _⟩ ?_ ?_ hb fun i v e => ?_
  · obtain ⟨o, ho, hc, _⟩ := hl
    exact ⟨o, k _ _ ho, hc⟩
  · refine wpAny_pyIter_tuple (hl.push _) ?_
    rw [hz]
    exact q
  · rw [← hz]
    exact Heap.get?_push_size _ rfl
  · simp only [List.mem_cons, List.not_mem_nil, or_false, not_or]
    exact ⟨Nat.ne_of_lt (Nat.lt_succ_self _), Nat.ne_of_gt hlt⟩
  · have := r.length
    rw [List.length_map] at this
    simp [← this]
  · obtain ⟨k, e1, e2⟩ := keys_at' r i v (by simpa using e)
    exact ⟨k, e1, key_is e2⟩
theorem above_go : ∀ (f z n : Nat), SetTable.sizeAbove.go n f z ≤ max z (2 * n)
  | 0, z, n => by
    unfold SetTable.sizeAbove.go
    omega
  | f + 1, z, n => by
    unfold SetTable.sizeAbove.go
    split
    · have := above_go f (z * 2) n
      omega
    · omega
theorem above_le (n : Nat) : SetTable.sizeAbove n ≤ max 8 (2 * n) := above_go 64 8 n
/-- an empty table laid anew -/
theorem relaid_nil (t : SetTable) (wanted : Nat) : ∃ t', t.relaid #[] wanted = some (t', #[]) ∧ t'.place = #[] ∧ t'.led = t.led ∧ t'.fits 0 = true := by
  have hl : ((List.range (SetTable.sizeAbove wanted - 1 + 1)).filterMap fun j => ((Array.replicate (SetTable.sizeAbove wanted - 1 + 1) (none : Option Nat)).getD j none).map (j, ·)) = [] := by
    rw [List.filterMap_eq_nil_iff]
    intro j _
    have : (Array.replicate (SetTable.sizeAbove wanted - 1 + 1) (none : Option Nat)).getD j none = none := by
      unfold Array.getD
      split
      · simp
      · rfl
    rw [this]
    rfl
  have e : t.relaid #[] wanted = some (⟨SetTable.sizeAbove wanted - 1, #[], #[], t.finger, t.led, t.movedTo (SetTable.sizeAbove wanted - 1), t.plain⟩, #[]) := by
    show ((some (Array.replicate (SetTable.sizeAbove wanted - 1 + 1) (none : Option Nat))).bind fun owner => some (({ mask := SetTable.sizeAbove wanted - 1, place := (((List.range (SetTable.sizeAbove wanted - 1 + 1)).filterMap fun j => (owner.getD j none).map (j, ·)).map (·.1)).toArray, dummies := #[], finger := t.finger, led := t.led, moves := t.movedTo (SetTable.sizeAbove wanted - 1), plain := t.plain } : SetTable), (((List.range (SetTable.sizeAbove wanted - 1 + 1)).filterMap fun j => (owner.getD j none).map (j, ·)).map (·.2)).toArray)) = _
    rw [Option.bind_some, hl]
    rfl
  exact ⟨_, e, rfl, rfl, rfl⟩
theorem setX_room {D : Addr} {led : Bool} {n : Nat} {Q : Unit → Shared → Prop} (hS : s.heap.get? D = some { cls := .type "set", dict := none, data := .set #[] 0 (.fresh 0 0 led) }) (hl : w.params.followText "set-order" = true ∨ led = true) (hn : n ≤ 4000)
    (hQ : ∀ h', Heap.SameBut D s.heap h' → SetX P w h' D (fun _ => false) 0 → Q () { s with heap := h' }) : wpAny (model P w) A (setRoomFor D n) Q E s := by
  have base : SetC P w #[] (.fresh 0 0 led) (fun _ => false) 0 := ⟨fun e he => by simp at he, by simp, fun k => by simp, by decide, by rfl, rfl, List.Pairwise.nil, hl⟩
  unfold setRoomFor
  refine wpAny_bind (wpAny_setState_of hS rfl (by rfl) ?_)
  dsimp only
  cases hr : (SetTable.fresh 0 0 led).roomFor n with
  | none => exact wpAny_pure (hQ s.heap (Heap.SameBut.refl D s.heap) ⟨_, #[], 0, _, hS, ⟨rfl, rfl, rfl⟩, rfl, base⟩)
  | some wanted =>
    have hw : wanted = n * 2 := by
      unfold SetTable.roomFor at hr
      split at hr
      · have := Option.some.inj hr
        simpa [SetTable.fresh] using this.symm
      · cases hr
    subst hw
    show wpAny _ _ (setRelay D (n * 2)) _ _ _
    rw [setRelay_eq]
    refine wpAny_bind (wpAny_setState_of hS rfl (by rfl) ?_)
    dsimp only
    have hz : ¬ SetTable.sizeAbove (n * 2) > sizeLine := by
      have := above_le (n * 2)
      rw [sizeLine_eq]
      omega
    rw [if_neg hz]
    obtain ⟨t', e1, e2, e3, e4⟩ := relaid_nil (SetTable.fresh 0 0 led) (n * 2)
    have em : (#[] : Array (Int × Value)).map (·.1) = #[] := by simp
    rw [em, e1]
    refine wpAny_bind ?_
    show wpAny _ _ (if ((#[] : Array Nat).filterMap fun j => (#[] : Array (Int × Value))[j]?).size != (#[] : Array (Int × Value)).size then _ else pure (((#[] : Array Nat).filterMap fun j => (#[] : Array (Int × Value))[j]?), t') : Sem (Array (Int × Value) × SetTable)) _ _ _
    have ef : ((#[] : Array Nat).filterMap fun j => (#[] : Array (Int × Value))[j]?) = #[] := by simp
    rw [ef]
    refine wpAny_pure ?_
    refine wpAny_storeSet_of hS rfl ?_ (by simp)
    refine hQ _ (Heap.SameBut.update s.heap D _) ⟨_, #[], _, t', store_at hS rfl, ⟨rfl, rfl, rfl⟩, rfl, ⟨fun e he => by simp at he, by simp, fun k => by simp, by decide, e4, rfl, ?_, ?_⟩⟩
    · rw [e2]
      exact List.Pairwise.nil
    · rw [e3]
      exact hl
theorem pairs_at {kk : List (Key × Value)} : ∀ {es : List DictEntry}, Pairs (mixKind P w) es kk → ∀ (i : Nat) (e : DictEntry), es[i]? = some e → ∃ k : Key, (kk.map (·.1))[i]? = some k ∧ (mixKind P w).is k e.key = true
  | _, .nil, i, e, h => by simp at h
  | _, .cons h1 h2 h3, 0, e, h => by
    simp at h
    subst h
    exact ⟨_, rfl, h1⟩
  | _, .cons h1 h2 h3, i + 1, e, h => by
    obtain ⟨k, e1, e2⟩ := pairs_at h3 i e (by simpa using h)
    exact ⟨k, by simpa using e1, e2⟩
theorem pairs_len {kk : List (Key × Value)} : ∀ {es : List DictEntry}, Pairs (mixKind P w) es kk → es.length = kk.length
  | _, .nil => rfl
  | _, .cons _ _ h3 => by simp [pairs_len h3]
theorem fills_dict {vs : List (Key × Value)} (lo : (l == sysModules) = false) (hd : s.heap.DictOf (mixKind P w) l vs) (hk : vs.map (·.1) = ks) (hb : ks.length ≤ 4000) : Fills P w s (.ref l) ks := by
  intro A id E Q hh hQ
  obtain ⟨o, es, ep, ho, hx, hdat, hkeys, hpairs, nd⟩ := hd
  have hlt : l < s.heap.objs.size := Heap.lt_size ho
  have ho1 : (s.heap.push (newSetO w)).get? l = some o := Heap.get?_push_of_some _ ho
  have hT : Shared.TypeIs { s with heap := s.heap.push (newSetO w) } (.ref l) "dict" := ⟨o, ho1, hx.1⟩
  have hlen : es.size = ks.length := by
    rw [← hk, List.length_map, ← pairs_len hpairs, Array.length_toList]
  unfold Builtin.Frozenset.updateFrom Builtin.Frozenset.isAnySet
  refine wpAny_bind (wpAny_bind (wpAny_isInstance hT PySem.F.sub_dict_set (wpAny_isInstance hT PySem.F.sub_dict_frozenset ?_)))
  refine wpAny_bind (wpAny_typeOf hT ?_)
  have e1 : (Value.type "dict" == Value.type "dict") = true := by decide
  rw [e1]
  refine wpAny_bind (wpAny_rule ?_)
  show wpAny _ _ (pure l >>= fun d => _) _ _ _
  refine wpAny_bind (wpAny_pure ?_)
  dsimp only
  rw [lo]
  refine wpAny_bind (wpAny_dictEpoch ho1 hdat ?_)
  refine wpAny_bind (wpAny_dictEntries ho1 hdat ?_)
  have hS : (s.heap.push (newSetO w)).get? s.heap.objs.size = some (newSetO w) := Heap.get?_push_size _ rfl
  have hled : w.params.followText "set-order" = true ∨ (!w.params.followText "set-order") = true := by
    cases w.params.followText "set-order"
    · exact .inr rfl
    · exact .inl rfl
  refine wpAny_bind (setX_room (s := { s with heap := s.heap.push (newSetO w) }) hS hled (by omega) fun h1 sb1 hS1 => ?_)
  have ho2 : h1.get? l = some o := by
    rw [sb1.2 l (Nat.ne_of_lt hlt)]
    exact ho1
  refine wpAny_bind (wpAny_dictEntries ho2 hdat ?_)
  refine wpAny_bind ?_
  refine _root_.TI.forIn_rng _ (fun rest b s' => ∃ i h' c, rest = List.range' i (es.size - i) ∧ i ≤ es.size ∧ s' = { s with heap := h' } ∧ SetX P w h' s.heap.objs.size (hasK (ks.take i)) c ∧ c ≤ i ∧ Heap.SameBut s.heap.objs.size (s.heap.push (newSetO w)) h') _ (fun x rest b s' hI => ?_) (fun b s' hI => ?_) _ ⟨0, h1, 0, by simp, Nat.zero_le _, rfl, hS1, Nat.le_refl 0, sb1⟩
  · obtain ⟨i, h', c, er, hi, rfl, hS', hc, sb⟩ := hI
    have hlt2 : i < es.size := by
      rcases Nat.lt_or_ge i es.size with z | z
      · exact z
      · rw [show es.size - i = 0 by omega] at er
        cases er
    rw [show es.size - i = (es.size - (i + 1)) + 1 by omega, List.range'_succ] at er
    cases er
    have ho3 : h'.get? l = some o := by
      rw [sb.2 l (Nat.ne_of_lt hlt)]
      exact ho1
    refine wpAny_bind (wpAny_dictEntries ho3 hdat ?_)
    have ee : es[x]? = some es[x] := Array.getElem?_eq_getElem hlt2
    rw [ee]
    dsimp only
    obtain ⟨k, ek, eis⟩ := pairs_at hpairs x es[x] (by rw [Array.getElem?_toList]; exact ee)
    rw [hk] at ek
    obtain ⟨k2, q1, q2⟩ := hkeys es[x] (Array.getElem_mem hlt2)
    have ekk : k2 = k := (mixKind P w).inj _ _ _ q1 eis
    subst ekk
    rw [q2]
    refine wpAny_bind (wpAny_holding (setX_add (s := { s with heap := h' }) eis hS' (by have : scanBound = scanBound := rfl; unfold scanBound; omega) fun h2 sb2 hS2 => ?_))
    have ho4 : h2.get? l = some o := by
      rw [sb2.2 l (Nat.ne_of_lt hlt)]
      exact ho3
    refine wpAny_bind (wpAny_dictEpoch ho4 hdat ?_)
    have ne : (ep != ep) = false := by simp
    rw [ne]
    refine wpAny_pure ⟨x + 1, h2, _, rfl, hlt2, rfl, SetX.congr hS2 fun j => ?_, ?_, sb.trans sb2⟩
    · rw [List.take_add_one, ek]
      unfold hasK
      simp [List.any_append, eq_comm]
    · split <;> omega
  · obtain ⟨i, h', c, er, hi, rfl, hS', hc, sb⟩ := hI
    have hie : i = es.size := by
      rcases Nat.lt_or_ge i es.size with z | z
      · rw [show es.size - i = (es.size - (i + 1)) + 1 by omega, List.range'_succ] at er
        cases er
      · omega
    subst hie
    rw [List.take_of_length_le (by omega)] at hS'
    refine wpAny_pure (hQ h' s.toks c (by omega) hS' fun b o e => ?_)
    rw [sb.2 b (Nat.ne_of_lt (Heap.lt_size e))]
    exact Heap.get?_push_of_some _ e
end
end Sm
/-! Sm17: sorted(set(x)) of texts. -/
namespace Sm
open PySem PySem.Spec PyProof.Rows L2

def leS (a b : Str) : Bool := !decide (b.cps.toList < a.cps.toList)
theorem leS_iff {a b : Str} : leS a b = true ↔ a.cps.toList ≤ b.cps.toList := by
  unfold leS
  simp
theorem leS_trans {a b c : Str} (h : leS a b = true) (h2 : leS b c = true) : leS a c = true := leS_iff.mpr (List.le_trans (leS_iff.mp h) (leS_iff.mp h2))
theorem leS_total (a b : Str) : (leS a b || leS b a) = true := by
  rw [Bool.or_eq_true, leS_iff, leS_iff]
  exact List.le_total _ _
theorem leS_anti {a b : Str} (h : leS a b = true) (h2 : leS b a = true) : a = b := PySem.W.str_of_cps (List.le_antisymm (leS_iff.mp h) (leS_iff.mp h2))
theorem leS_refl (a : Str) : leS a a = true := leS_iff.mpr (List.le_refl _)
def sortS (l : List Str) : List Str := l.mergeSort leS
theorem sortS_perm (l : List Str) : (sortS l).Perm l := List.mergeSort_perm l leS
theorem sortS_sorted (l : List Str) : (sortS l).Pairwise fun a b => leS a b = true := List.pairwise_mergeSort (le := leS) (fun _ _ _ h h2 => leS_trans h h2) leS_total l
theorem sorted_eq : ∀ {l m : List Str}, l.Pairwise (fun a b => leS a b = true) → m.Pairwise (fun a b => leS a b = true) → l.Perm m → l = m
  | [], m, _, _, p => by
    rw [List.nil_perm.mp p]
  | a :: l, [], _, _, p => absurd p.length_eq (by simp)
  | a :: l, b :: m, h1, h2, p => by
    obtain ⟨a1, a2⟩ := List.pairwise_cons.mp h1
    obtain ⟨b1, b2⟩ := List.pairwise_cons.mp h2
    have e : a = b := by
      have hb : b ∈ a :: l := p.mem_iff.mpr List.mem_cons_self
      have ha : a ∈ b :: m := p.mem_iff.mp List.mem_cons_self
      rcases List.mem_cons.mp hb with z | z
      · exact z.symm
      · rcases List.mem_cons.mp ha with z2 | z2
        · exact z2
        · exact leS_anti (a1 b z) (b1 a z2)
    subst e
    rw [sorted_eq a2 b2 (List.Perm.cons_inv p)]
theorem sortS_congr {l m : List Str} (p : l.Perm m) : sortS l = sortS m := sorted_eq (sortS_sorted l) (sortS_sorted m) ((sortS_perm l).trans (p.trans (sortS_perm m).symm))
/-- each once -/
def ddS : List Str → List Str
  | [] => []
  | a :: l => if (ddS l).contains a = true then ddS l else a :: ddS l
theorem ddS_mem {x : Str} : ∀ {l : List Str}, x ∈ ddS l ↔ x ∈ l
  | [] => Iff.rfl
  | a :: l => by
    unfold ddS
    split
    · rename_i h
      have h : a ∈ ddS l := by simpa using h
      rw [List.mem_cons, ddS_mem (l := l)]
      exact ⟨.inr, fun z => z.elim (fun e => by rw [e]; exact ddS_mem.mp h) id⟩
    · rw [List.mem_cons, List.mem_cons, ddS_mem (l := l)]
theorem ddS_len : ∀ l : List Str, (ddS l).length ≤ l.length
  | [] => Nat.le_refl _
  | a :: l => by
    have := ddS_len l
    unfold ddS
    split
    · rw [List.length_cons]
      omega
    · rw [List.length_cons, List.length_cons]
      omega
theorem ddS_nodup : ∀ l : List Str, (ddS l).Nodup
  | [] => List.nodup_nil
  | a :: l => by
    unfold ddS
    split
    · exact ddS_nodup l
    · rename_i h
      exact List.nodup_cons.mpr ⟨by simpa using h, ddS_nodup l⟩
theorem leT_str (a b : Str) : leT (.str a) (.str b) = leS a b := by
  show (!PySem.W.dataLt (.str b) (.str a)) = _
  rw [PySem.W.dataLt_str]
  rfl
theorem sort_strs (l : List Str) : (l.map Dt.str).mergeSort leT = (sortS l).map Dt.str :=
  (List.map_mergeSort (f := Dt.str) (r := leS) (s := leT) fun a _ b _ => (leT_str a b).symm).symm
theorem sortOk_strs {l : List Str} (h : l.length ≤ 16777216) : SortOk (l.map Dt.str) := by
  refine ⟨fun t ht => ?_, fun d hd d' hd' => ?_, .inr fun d hd => ?_, fun t ht => ?_, by rw [List.length_map]; exact h⟩
  · obtain ⟨a, _, rfl⟩ := List.mem_map.mp ht
    exact ⟨_, rfl⟩
  · obtain ⟨t, ht, rfl⟩ := List.mem_map.mp hd
    obtain ⟨t', ht', rfl⟩ := List.mem_map.mp hd'
    obtain ⟨a, _, rfl⟩ := List.mem_map.mp ht
    obtain ⟨b, _, rfl⟩ := List.mem_map.mp ht'
    show PySem.W.alike (.str a) (.str b) = true
    simp only [PySem.W.alike]
  · obtain ⟨t, ht, rfl⟩ := List.mem_map.mp hd
    obtain ⟨a, _, rfl⟩ := List.mem_map.mp ht
    exact And.intro (fun z => PyData.noConfusion (show PyData.str a = PyData.none from z)) fun xs z => PyData.noConfusion (show PyData.str a = PyData.tuple xs from z)
  · obtain ⟨a, _, rfl⟩ := List.mem_map.mp ht
    show PyData.depth (.str a) ≤ 60
    simp only [PyData.depth]
    omega
def strsOf : List Dt → Option (List Str)
  | [] => some []
  | .str a :: r => (strsOf r).map (a :: ·)
  | _ => none
theorem strsOf_eq : ∀ {ts : List Dt} {l : List Str}, strsOf ts = some l → ts = l.map .str
  | [], l, e => by
    cases e
    rfl
  | t :: ts, l, e => by
    cases t with
    | str a =>
      unfold strsOf at e
      cases e1 : strsOf ts with
      | none => rw [e1] at e; cases e
      | some m =>
        rw [e1] at e
        cases e
        rw [strsOf_eq e1]
        rfl
    | _ => cases e
theorem strsOf_map : ∀ l : List Str, strsOf (l.map .str) = some l
  | [] => rfl
  | a :: l => by
    show (strsOf (l.map .str)).map (a :: ·) = _
    rw [strsOf_map l]
    rfl
/-- sorted(set(x)): x a list, a tuple, a dict of texts -/
def pSortSet : P1 := fun d S => match (itemsOf S d).bind strsOf with
  | some l => if l.length ≤ 4000 then some (.d (.lst ((sortS (ddS l)).map .str)), S) else none
  | none => none
def strOfV (v : Value) : Str := match v with
  | .str z _ => z
  | _ => Str.empty
theorem kT_inj : ∀ {l m : List Key}, l.map kT = m.map kT → l = m
  | [], [], _ => rfl
  | [], _ :: _, e => by cases e
  | _ :: _, [], e => by cases e
  | a :: l, b :: m, e => by
    rw [List.map_cons, List.map_cons] at e
    injection e with e1 e2
    rw [kT_inj e2]
    cases a with
    | inl i => cases b with
      | inl j => cases e1; rfl
      | inr y => cases e1
    | inr x => cases b with
      | inl j => cases e1
      | inr y => cases e1; rfl
theorem strs_rv {G : Gs} {A : Al} {H : Hp} : ∀ {l : List Str} {vs : List V}, RVs G A H (l.map .str) vs → vs = l.map V.str
  | [], vs, r => r
  | a :: l, vs, r => by
    obtain ⟨v, w, rfl, r1, r2⟩ := r
    obtain rfl : v = .str a := r1
    rw [strs_rv r2]
    rfl
theorem rvs_strs {G : Gs} {A : Al} {H : Hp} : ∀ l : List Str, RVs G A H (l.map .str) (l.map V.str)
  | [] => (rfl : ([] : List V) = [])
  | a :: l => ⟨_, _, rfl, rfl, rvs_strs l⟩
section
variable {X : Cx} {G : Gs} {W : WX} {k : Nat}
theorem hasK_inr {l : List Str} {x : Str} : hasK (l.map Sum.inr) (Sum.inr x : Key) = true ↔ x ∈ l := by
  unfold hasK
  simp [List.any_eq_true]
theorem hasK_inl {l : List Str} {i : Int} : ¬ hasK (l.map Sum.inr) (Sum.inl i : Key) = true := by
  unfold hasK
  simp [List.any_eq_true]
/-- the members gather in some order -/
theorem col_set {pins : List (Addr × Obj)} {σ : L2.St} {s : Shared} {H : Hp} {A : Al} {a : Addr} {l : List Str} {c : Nat} (I : L2.Inv X pins σ H s) (hh : X.A.handled = none) (hS : SetX X.prog X.w s.heap a (hasK (l.map Sum.inr)) c) : ColR X G A H pins σ s (.ref a) fun us => ∃ m : List Str, us = m.map .str ∧ m.Perm (ddS l) := by
  intro Q' hq
  obtain ⟨o, es, ep, t, ho, hx, hd, cc⟩ := hS
  refine collect_set hh ⟨o, ho, hx.1, hd⟩ cc.fit cc.lt cc.ris cc.led fun s' out k hz hg ho' hp => ?_
  have J : L2.Inv X pins σ H { s with heap := s'.heap, gens := s'.gens, drawn := s'.drawn, toks := s'.toks } := I.call (ch := []) (Un.kept k) (I.hok.kept k) (by rw [hg]; exact I.bare) (fun _ z => nomatch z)
  have e : s' = { s with heap := s'.heap, gens := s'.gens, drawn := s'.drawn, toks := s'.toks } := by
    cases s'
    cases s
    cases ho'
    rfl
  have I2 : L2.Inv X pins σ H s' := by
    rw [e]
    exact J
  have hall : ∀ v ∈ out, ∃ (z : Str) (tk : Tok), v = .str z tk ∧ z ∈ l := fun v hv => by
    obtain ⟨e, he, rfl⟩ := List.mem_map.mp (hp.mem_iff.mp hv)
    have g := (cc.good e he).1
    have hm : hasK (l.map Sum.inr) (keyX e) = true := (cc.mem _).2 (List.mem_map.mpr ⟨e, he, rfl⟩)
    rcases keyIs_shape (k := keyX e) (v := e.2) g with ⟨i, t, e1, e2⟩ | ⟨z, t, e1, e2⟩
    · rw [e1] at hm
      exact absurd hm hasK_inl
    · rw [e1] at hm
      exact ⟨z, t, e2, hasK_inr.mp hm⟩
  have hkey : ∀ e ∈ es.toList, keyX e = Sum.inr (strOfV e.2) := fun e he => by
    have g := (cc.good e he).1
    have hm : hasK (l.map Sum.inr) (keyX e) = true := (cc.mem _).2 (List.mem_map.mpr ⟨e, he, rfl⟩)
    rcases keyIs_shape (k := keyX e) (v := e.2) g with ⟨i, t, e1, e2⟩ | ⟨z, t, e1, e2⟩
    · rw [e1] at hm
      exact absurd hm hasK_inl
    · rw [e1, e2]
      rfl
  have hmap : es.toList.map keyX = (es.toList.map fun e => strOfV e.2).map Sum.inr := by
    rw [List.map_map]
    exact List.map_congr_left hkey
  have nd : (es.toList.map fun e => strOfV e.2).Nodup := by
    have := cc.nd
    rw [hmap] at this
    exact (List.pairwise_map.mp this).imp fun h e => h (by rw [e])
  have pm : (out.map strOfV).Perm (es.toList.map fun e => strOfV e.2) := by
    have := hp.map strOfV
    rw [List.map_map] at this
    exact this
  have pd : (out.map strOfV).Perm (ddS l) := by
    refine pm.trans ((List.perm_ext_iff_of_nodup nd (ddS_nodup l)).mpr fun x => ?_)
    rw [ddS_mem, ← hasK_inr (l := l), cc.mem, hmap]
    exact ⟨fun h => List.mem_map.mpr ⟨x, h, rfl⟩, fun h => by
      obtain ⟨y, hy, e⟩ := List.mem_map.mp h
      cases e
      exact hy⟩
  have hv : ∀ (us : List Value), (∀ v ∈ us, ∃ (z : Str) (tk : Tok), v = .str z tk ∧ z ∈ l) → Vals ((us.map fun v => ((Dt.str (strOfV v), V.str (strOfV v)) : Dt × V)).map (·.2)) us := fun us => by
    induction us with
    | nil => exact fun _ => .nil
    | cons u us ih =>
      intro h
      obtain ⟨z, tk, e, _⟩ := h u List.mem_cons_self
      subst e
      exact .cons ⟨tk, rfl⟩ (ih fun v hv => h v (List.mem_cons_of_mem _ hv))
  refine hq s' out (out.map fun v => (Dt.str (strOfV v), V.str (strOfV v))) I2 (hv out hall) (fun b hb => ?_) ⟨out.map strOfV, ?_, pd⟩
  · obtain ⟨v, _, rfl⟩ := List.mem_map.mp hb
    rfl
  · rw [List.map_map, List.map_map]
    rfl
theorem keys_strs {l : List Str} : (l.map Sum.inr : List Key).map kV = l.map V.str := by
  rw [List.map_map]
  rfl
theorem fills_of {pins : List (Addr × Obj)} {σ : L2.St} {s : Shared} {H : Hp} {A : Al} {S : Sto} {d : Dv} {a : Addr} {ts : List Dt} {l : List Str} (I : L2.Inv X pins σ H s) (hK : G.K = X.K) (st : StR G A S H) (r : RD G A H d (.ref a)) (h : itemsOf S d = some ts) (hl : strsOf ts = some l) (hz : l.length ≤ 4000) :
    Fills X.prog X.w s (.ref a) (l.map Sum.inr) := by
  have et := strsOf_eq hl
  rcases items_rd st r h with ⟨b, kvs, e, hd, e2⟩ | ⟨b, vs, e, hs, hv⟩
  · cases e
    obtain ⟨z, lo, vs, rk, dd⟩ := dk_rd I.hok hd
    refine fills_dict lo dd ?_ (by rw [List.length_map]; exact hz)
    rw [← KV.keys rk]
    have : (kvs.map (·.1)).map kT = (l.map Sum.inr : List Key).map kT := by
      rw [← e2, et, List.map_map]
      rfl
    exact kT_inj this
  · cases e
    have ev : vs = (l.map Sum.inr : List Key).map kV := by
      rw [keys_strs]
      subst et
      exact strs_rv hv
    rw [hK] at hs
    have hb : (l.map Sum.inr : List Key).length + 1 < scanBound := by
      rw [List.length_map]
      show l.length + 1 < 4096
      omega
    rcases hs with hs | hs
    · obtain ⟨its, rr, pl, _⟩ := I.list hs
      rw [ev] at rr
      exact fills_list pl.isList rr hb
    · obtain ⟨its, rr, pl, _⟩ := I.tuple hs
      rw [ev] at rr
      obtain ⟨o, ho, hc, n, hd⟩ := pl
      exact fills_tuple ⟨o, ho, hc, n, hd⟩ rr hb
/-- the set of keys at a -/
def SetXO (P : Program) (w : World) (a : Addr) (S : Key → Bool) (n : Nat) : HO := .ext fun h => SetX P w h a S n
theorem setXO_new {P : Program} {w : World} {H : Hp} {h : Heap} {a : Addr} {S : Key → Bool} {n : Nat} (R : SetX P w h a S n) : ObjOk P w H h a (SetXO P w a S n) := by
  have ⟨o, _, _, _, ho, _⟩ := R
  exact ⟨R, ⟨o, ho⟩, fun h1 h2 p k => SetX.at p k⟩
theorem cr_setX (hc : X.calm = true) : CallR X (.type "set") (fun xs H Q => ∃ (a : Addr) (l : List Str), xs = [.ref a] ∧ (∀ pins σ s, L2.Inv X pins σ H s → Fills X.prog X.w s (.ref a) (l.map Sum.inr)) ∧ ∀ p c, H p = none → Q (.ref p) (upd H p (SetXO X.prog X.w p (hasK (l.map Sum.inr)) c))) := by
  intro pins s σ H xs us Q I r h
  obtain ⟨a, l, rfl, hf, q⟩ := h
  obtain rfl := Vals.ref1 r
  refine call_setX (I.ok.hd hc) (hf pins σ s I) fun h' tk c _ hS hk => ?_
  exact ⟨.ref s.heap.objs.size, upd H s.heap.objs.size (SetXO X.prog X.w s.heap.objs.size (hasK (l.map Sum.inr)) c), I.laid hk (Nat.le_refl _) (setXO_new hS), rfl, q _ c (I.hok.fresh (Nat.le_refl _))⟩
theorem cr_sortX (hc : X.calm = true) (hu : X.A.units + 64 < cLine) : CallR X (.builtin "sorted") (fun xs H Q => ∃ (a : Addr) (l : List Str) (c : Nat), xs = [.ref a] ∧ l.length ≤ 4000 ∧ H a = some (SetXO X.prog X.w a (hasK (l.map Sum.inr)) c) ∧ ∀ p, H p = none → Q (.ref p) (upd H p (.lst ((sortS (ddS l)).map V.str)))) := by
  intro pins s σ H xs us Q I r h
  obtain ⟨a, l, c, rfl, hz, hH, q⟩ := h
  obtain rfl := Vals.ref1 r
  have hS : SetX X.prog X.w s.heap a (hasK (l.map Sum.inr)) c := (show ObjOk X.prog X.w H s.heap a (SetXO X.prog X.w a (hasK (l.map Sum.inr)) c) from I.hok a _ hH).1
  refine sorted_col (G := ⟨X.K, fun _ => a, fun _ => .none, fun _ => none⟩) (A := ⟨[], []⟩) rfl hu (col_set I (I.ok.hd hc) hS) (fun ts hC => ?_) fun ts vs hC hv p hp => ?_
  · obtain ⟨m, rfl, hm⟩ := hC
    refine sortOk_strs ?_
    have h1 := hm.length_eq
    have h2 : (ddS l).length ≤ l.length := ddS_len l
    omega
  · obtain ⟨m, rfl, hm⟩ := hC
    rw [sort_strs, sortS_congr hm] at hv
    rw [strs_rv hv]
    exact q p hp
theorem e_sortSet {a : Expr} {p p2 q pos : Pos} {m : M Dv} (hc : X.calm = true) (hu : X.A.units + 64 < cLine) (hK : G.K = X.K) (hg : Gl X "sorted") (hm : X.mg "sorted" = none) (hg2 : Gl X "set") (hm2 : X.mg "set" = none) (ha : PE X a (tM G W m)) (hs : starEach [a] X.env = (false, eval a X.env) :: starEach [] X.env)
    (hs2 : starEach [.Call (.Name "set" p2) [a] [] q] X.env = (false, eval (.Call (.Name "set" p2) [a] [] q) X.env) :: starEach [] X.env) (hpl : (backTo q (starEach [] X.env)).any (·.1) = false) (hpl2 : (backTo pos (starEach [] X.env)).any (·.1) = false) :
    PE X (.Call (.Name "sorted" p) [.Call (.Name "set" p2) [a] [] q] [] pos) (tM G W (m1 pSortSet m)) := by
  have h1 := pe_callTy (p := p2) (pos := q) (cr_setX (X := X) hc) hg2 hm2 PyProof.Rows.boot_set (pa_cons ha pa_nil hs) (by decide) (by decide) hs hpl
  refine (pe_callB (p := p) (pos := pos) (cr_sortX hc hu) hg hm PyProof.Rows.boot_sorted (pa_cons h1 pa_nil hs2) (by decide) (by decide) hs2 hpl2).sm fun σ H Q h => ?_
  obtain ⟨A, ρ, S, he, st, p0⟩ := h
  refine ⟨A, ρ, S, he, st, Po.step p0 fun d S1 A1 H1 x1 s1 p1 v rv => ?_⟩
  unfold pSortSet at p1
  split at p1
  · rename_i l el
    obtain ⟨ts, e1, e2⟩ := Option.bind_eq_some_iff.mp el
    split at p1
    · rename_i hz
      have href : ∃ b, v = .ref b := by
        rcases items_rd s1 rv e1 with ⟨b, _, e, _⟩ | ⟨b, _, e, _⟩
        · exact ⟨b, e⟩
        · exact ⟨b, e⟩
      obtain ⟨b, rfl⟩ := href
      refine ⟨b, l, rfl, fun pins σ' s' I => fills_of I hK s1 rv e1 e2 hz, fun D c hD => ⟨D, l, c, rfl, hz, upd_same, fun r hr => ?_⟩⟩
      have x2 : Ext A1 H1 A1 (upd H1 D (SetXO X.prog X.w D (hasK (l.map Sum.inr)) c)) := Ext.new hD
      have s2 := s1.new (o := SetXO X.prog X.w D (hasK (l.map Sum.inr)) c) hD
      exact Po.at p1 (x2.trans (Ext.new hr)) (s2.new hr) _ (RV.lst_new s2 hr (rvs_strs (sortS (ddS l))))
    · exact p1.elim
  · exact p1.elim
end
end Sm
/-! Sm18: a, b = ..; {}; truth; the rules with their side conditions filled in. -/
namespace Sm
open PySem PySem.Spec PyProof.Rows L2

/-! ### a, b = e1, e2 -/
def setAll : List Nat → List Dv → Env → Env
  | i :: is, d :: ds, ρ => setAll is ds (ρ.set i (some d))
  | _, _, ρ => ρ
def setAllV : List Nat → List V → L2.St → L2.St
  | i :: is, v :: vs, σ => setAllV is vs (σ.set i (some v))
  | _, _, σ => σ
theorem setAll_env {G : Gs} {A : Al} {H : Hp} (is : List Nat) : ∀ {ds : List Dv} {vs : List V} {ρ : Env} {σ : L2.St}, EnvR G A H ρ σ → RDs G A H ds vs → EnvR G A H (setAll is ds ρ) (setAllV is vs σ) := by
  induction is with
  | nil =>
    intro ds vs ρ σ h r
    cases r <;> exact h
  | cons i is ih =>
    intro ds vs ρ σ h r
    cases r with
    | nil => exact h
    | cons r t => exact ih (h.set r) t
def sPars (is : List Nat) (ma : M (List Dv)) : SM := fun ρ S => (ma ρ S).to ρ fun ds S1 => if ds.length = is.length then .nx (setAll is ds ρ) S1 else .bad
/-- plain names -/
def NmG (u : TGs) (is : List Nat) : Prop := ∀ (vs : List V) (σ : L2.St) (H : Hp) (Q : L2.St → Hp → Prop), vs.length = is.length → Q (setAllV is vs σ) H → u vs σ H Q
theorem nm_nil : NmG gNil [] := fun vs σ H Q hl q => by
  cases vs with
  | nil => exact ⟨rfl, q⟩
  | cons => cases hl
theorem nm_cons {i : Nat} {u : TGs} {is : List Nat} (h : NmG u is) : NmG (gCons (gName i) u) (i :: is) := fun vs σ H Q hl q => by
  cases vs with
  | nil => cases hl
  | cons v vs => exact ⟨v, vs, rfl, h vs _ H Q (by simpa using hl) q⟩
section
variable {X : Cx} {G : Gs} {W : WX} {k : Nat}
theorem pars_po {A : Al} {H H' : Hp} {is : List Nat} {ds : List Dv} {vs : List V} {ρ : Env} {σ : L2.St} {S : Sto} {D : Ends} (e : EnvR G A H ρ σ) (s : StR G A S H) (r : RDs G A H ds vs) (p : PoS G W A H (if ds.length = is.length then Sz.nx (setAll is ds ρ) S else .bad) D) : vs.length = is.length ∧ D.nx (setAllV is vs σ) H := by
  split at p
  · rename_i hl
    exact ⟨by rw [← Paired.length r]; exact hl, PoS.nx_now p s (setAll_env is e r)⟩
  · exact p.elim
theorem s_par2 {i j : Nat} {x y : Str} {a b : Expr} {ma : M (List Dv)} {px py pt pos pt2 : Pos} {kt k2 : Nat} (B : Bx X G W k) (ha : PA X [a, b] (tMA G W ma)) (hi : X.N[i]? = some x := by rfl) (hj : X.N[j]? = some y := by rfl) (hij : i ≠ j := by decide) (hx : X.env.scope.names.lookup x = some .local := by rfl) (hy : X.env.scope.names.lookup y = some .local := by rfl)
    (hw : swappedStores [.Tuple [.Name x px, .Name y py] kt pt] (.Tuple [a, b] k2 pt2) X.env = pure (some [x, y]) := by rfl) (hs : swapsWithSole [.Tuple [.Name x px, .Name y py] kt pt] (.Tuple [a, b] k2 pt2) pos.line X.env = pure false := by rfl) :
    PS X (.Assign [.Tuple [.Name x px, .Name y py] kt pt] (.Tuple [a, b] k2 pt2) pos) (tMS G W (sPars [i, j] ma)) := by
  refine (ps_par B.calm B.nd hi hj hij hx hy ha hw hs).sm fun D σ H h => ?_
  obtain ⟨A, ρ, S, he, st, p⟩ := h
  refine ⟨A, ρ, S, he, st, PoS.step he p fun ds S1 A1 H1 x1 s1 e1 p1 vs rvs => ?_⟩
  obtain ⟨hl, q⟩ := pars_po (is := [i, j]) (H' := H1) e1 s1 rvs p1
  match vs, hl, q with
  | [v, w], _, q => exact ⟨v, w, rfl, q⟩
theorem s_par3 {i j l : Nat} {x y z : Str} {a b c : Expr} {ma : M (List Dv)} {px py pz pt pos pt2 : Pos} {kt k2 : Nat} (B : Bx X G W k) (ha : PA X [a, b, c] (tMA G W ma)) (hi : X.N[i]? = some x := by rfl) (hj : X.N[j]? = some y := by rfl) (hl : X.N[l]? = some z := by rfl) (hij : i ≠ j := by decide) (hil : i ≠ l := by decide) (hjl : j ≠ l := by decide)
    (hx : X.env.scope.names.lookup x = some .local := by rfl) (hy : X.env.scope.names.lookup y = some .local := by rfl) (hz : X.env.scope.names.lookup z = some .local := by rfl)
    (hw : swappedStores [.Tuple [.Name x px, .Name y py, .Name z pz] kt pt] (.Tuple [a, b, c] k2 pt2) X.env = pure (some [x, y, z]) := by rfl) (hs : swapsWithSole [.Tuple [.Name x px, .Name y py, .Name z pz] kt pt] (.Tuple [a, b, c] k2 pt2) pos.line X.env = pure false := by rfl) :
    PS X (.Assign [.Tuple [.Name x px, .Name y py, .Name z pz] kt pt] (.Tuple [a, b, c] k2 pt2) pos) (tMS G W (sPars [i, j, l] ma)) := by
  refine (ps_par3 B.calm B.nd hi hj hl hij hil hjl hx hy hz ha hw hs).sm fun D σ H h => ?_
  obtain ⟨A, ρ, S, he, st, p⟩ := h
  refine ⟨A, ρ, S, he, st, PoS.step he p fun ds S1 A1 H1 x1 s1 e1 p1 vs rvs => ?_⟩
  obtain ⟨hl, q⟩ := pars_po (is := [i, j, l]) (H' := H1) e1 s1 rvs p1
  match vs, hl, q with
  | [v, w, u], _, q => exact ⟨v, w, u, rfl, q⟩
/-- by a tuple that is made and taken apart -/
theorem s_parT {tgs es : List Expr} {u : TGs} {n : Nat} {is : List Nat} {ma : M (List Dv)} {pt pt2 pos : Pos} {kt k2 : Nat} (B : Bx X G W k) (ha : PA X es (tMA G W ma)) (hg : PG X (.Tuple tgs kt pt) (gTup X.K n u)) (hu : NmG u is) (hn : n = is.length := by rfl) (hz : is.length ≤ 100 := by decide)
    (hs : swapsWithSole [.Tuple tgs kt pt] (.Tuple es k2 pt2) pos.line X.env = pure false := by rfl) (hw : swappedStores [.Tuple tgs kt pt] (.Tuple es k2 pt2) X.env = pure none := by rfl) (h1 : (assignEach [.Tuple tgs kt pt] X.env).map (·.2) = [assign (.Tuple tgs kt pt) X.env] := by rfl) :
    PS X (.Assign [.Tuple tgs kt pt] (.Tuple es k2 pt2) pos) (tMS G W (sPars is ma)) := by
  refine (ps_asg (pe_tup ha) hg hs hw h1).sm fun D σ H h => ?_
  obtain ⟨A, ρ, S, he, st, p⟩ := h
  refine ⟨A, ρ, S, he, st, PoS.step he p fun ds S1 A1 H1 x1 s1 e1 p1 vs rvs => ?_⟩
  obtain ⟨hl, _⟩ := pars_po (is := is) (H' := H1) e1 s1 rvs p1
  refine ⟨by rw [hl]; exact line_of (by omega), fun q hq => ⟨q, vs, rfl, .inl (.inl upd_same), by rw [hl, hn], hu vs σ _ _ hl ?_⟩⟩
  have x2 : Ext A1 H1 A1 (upd H1 q (.tup vs)) := Ext.new hq
  exact (pars_po (is := is) (H' := upd H1 q (.tup vs)) (e1.kp x2.kp) (s1.new hq) (rvs.kp x2.kp) (PoS.mono x2 p1)).2
/-! ### {} -/
def mDnew : M Dv := fun _ S => .ok (.loc S.length) (S ++ [.dct [] []])
theorem e_dnew {pos : Pos} : PE X (.Dict [] [] pos) (tM G W mDnew) := by
  refine pe_dnewK.sm fun σ H Q h p hp => ?_
  obtain ⟨A, ρ, S, he, st, p0⟩ := h
  obtain ⟨x1, s1, r1⟩ := box_dct (kvs := []) (ks := []) (ds := []) st hp rfl .nil
  exact Po.at p0 x1 s1 _ r1
end
/-! ### truth -/
def pTru : PT1 := fun d S => match d with
  | .d .non => some false
  | .d (.bl b) => some b
  | .d (.int i) => some (i != 0)
  | .d (.str y) => if y.length ≤ 16777216 then some ((y.length : Int) != 0) else none
  | .d (.tup xs) => some (!xs.isEmpty)
  | .d (.lst xs) => some (!xs.isEmpty)
  | .d (.scr xs) => some (!xs.isEmpty)
  | .loc n => (match S[n]? with
    | some (.lst xs) => some (!xs.isEmpty)
    | some (.dct ks _) => some (!ks.isEmpty)
    | _ => none)
  | _ => none
theorem empty_len {α β : Type} {xs : List α} {ys : List β} (h : xs.length = ys.length) : xs.isEmpty = ys.isEmpty := by
  cases xs <;> cases ys <;> simp at h ⊢
theorem tru_ok' {G : Gs} : TruS G pTru := by
  intro A S H d v b r s h
  unfold pTru at h
  split at h
  · cases h
    obtain rfl : v = .non := r
    exact rfl
  · cases h
    obtain rfl : v = .bl _ := r
    exact rfl
  · cases h
    obtain rfl : v = .int _ := r
    exact rfl
  · split at h
    · rename_i hl
      cases h
      obtain rfl : v = .str _ := r
      exact ⟨line_of hl, rfl⟩
    · cases h
  · cases h
    obtain ⟨a, vs, rfl, ha, hv⟩ := r
    exact .inr (.inl ⟨vs, ha.sq, by rw [empty_len hv.length]⟩)
  · cases h
    obtain ⟨a, vs, rfl, ha, hv⟩ := r
    exact .inl ⟨vs, ha.sq, by rw [empty_len hv.length]⟩
  · cases h
    obtain ⟨a, vs, rfl, ha, hv⟩ := r
    exact .inl ⟨vs, ha.sq, by rw [empty_len hv.length]⟩
  · split at h
    · rename_i e
      cases h
      obtain ⟨a, vs, rfl, _, hl, hv⟩ := loc_lst s r e
      exact .inl ⟨vs, .inl (.inl hl), by rw [empty_len (Paired.length hv)]⟩
    · rename_i e
      cases h
      obtain ⟨a, kvs, rfl, _, hl, ek, hv⟩ := loc_dct s r e
      refine .inr (.inr ⟨kvs, hl, ?_⟩)
      rw [← ek]
      cases kvs <;> rfl
    · cases h
  · cases h

/-! ### calls of the module's defs, in one -/
structure Cal (P : Program) (w : World) (G : Gs) (mg : Str → Option Value) (base : Heap) (k : Nat) (x : Str) (n : Nat) (ks : List Str) (F : FM) : Prop where
  ex : ∃ f, mg x = some (.ref f) ∧ PySem.W.keepIn G.K (.ref f) = true ∧ CallW P w G mg base k f n ks F
theorem Cal.mono {P : Program} {w : World} {G : Gs} {mg : Str → Option Value} {base : Heap} {k j : Nat} {x : Str} {n : Nat} {ks : List Str} {F : FM} (h : Cal P w G mg base j x n ks F) (l : j ≤ k) : Cal P w G mg base k x n ks F := by
  obtain ⟨f, h1, h2, h3⟩ := h.ex
  exact ⟨f, h1, h2, h3.mono l⟩
theorem Cal.isoC {P : Program} {w : World} {G : Gs} {mg : Str → Option Value} {base : Heap} {k : Nat} {x : Str} {n : Nat} {ks : List Str} {F : FM} (h : Cal P w G mg base k x n ks F) : Cal P w G mg base k x n ks (iso F) := by
  obtain ⟨f, h1, h2, h3⟩ := h.ex
  exact ⟨f, h1, h2, h3.isoF⟩
theorem Cal.viewC {P : Program} {w : World} {G : Gs} {mg : Str → Option Value} {base : Heap} {k : Nat} {x : Str} {n : Nat} {ks : List Str} {F : FM} (h : Cal P w G mg base k x n ks F) : Cal P w G mg base k x n ks (view F) := by
  obtain ⟨f, h1, h2, h3⟩ := h.ex
  exact ⟨f, h1, h2, h3.viewF⟩
section
variable {X : Cx} {G : Gs} {W : WX} {k n : Nat} {x m : Str} {p pos pos' apos : Pos} {a b c e T : Expr} {es : List Expr} {kws : List Keyword} {ma mk : M (List Dv)} {mo m1' mb : M Dv} {F : FM} {ks : List Str} {id T' : String} {pn : PN}
theorem xv (i : Nat) (hN : X.N[i]? = some x := by rfl) (hv : Vis X.env.scope x := by first | exact Or.inl rfl | exact Or.inr (Or.inl rfl) | exact Or.inr (Or.inr rfl)) (hd : (x == ("__debug__" : Str)) = false := by decide) (hcd : (x == ("__classdict__" : Str)) = false := by decide) : PE X (.Name x pos) (tM G W (mV i)) := e_var hN hv hd hcd
theorem xa (h : PE X e (tM G W mo)) (r : PA X es (tMA G W ma)) (hs : starEach (e :: es) X.env = (false, eval e X.env) :: starEach es X.env := by rfl) : PA X (e :: es) (tMA G W (aCons mo ma)) := a_cons h r hs
theorem xcall (R : Cal X.prog X.w G X.mg X.base k x n [] F) (B : Bx X G W k) (ha : PA X (e :: es) (tMA G W ma)) (al : ALen ma n := by repeat (first | exact al_nil | refine al_cons ?_)) (hg : Gl X x := by rfl) (hdb : (x == ("__debug__" : Str)) = false := by decide)
    (he : starEach (e :: es) X.env = (false, eval e X.env) :: starEach es X.env := by rfl) (hpl : (backTo pos (starEach es X.env)).any (·.1) = false := by rfl) : PE X (.Call (.Name x p) (e :: es) [] pos) (tM G W (mF F ma)) := by
  obtain ⟨f, h1, h2, h3⟩ := R.ex
  exact e_call h3 B hg h1 (by rw [← B.hK]; exact h2) ha al hdb he hpl
theorem xcall0 (R : Cal X.prog X.w G X.mg X.base k x 0 [] F) (B : Bx X G W k) (hg : Gl X x := by rfl) (hdb : (x == ("__debug__" : Str)) = false := by decide) : PE X (.Call (.Name x p) [] [] pos) (tM G W (mF F aNil)) := by
  obtain ⟨f, h1, h2, h3⟩ := R.ex
  exact e_call0 h3 B hg h1 (by rw [← B.hK]; exact h2) hdb
theorem xcallK (R : Cal X.prog X.w G X.mg X.base k x n ks F) (B : Bx X G W k) (ha : PA X (e :: es) (tMA G W ma)) (hkw : PK X kws (tMA G W mk)) (al : ALen ma n := by repeat (first | exact al_nil | refine al_cons ?_)) (al2 : ALen mk ks.length := by repeat (first | exact al_nil | refine al_cons ?_)) (hg : Gl X x := by rfl)
    (hall : (backToKw pos (keywordEach kws X.env)).all (·.1.isSome) = true := by rfl) (hks : (backToKw pos (keywordEach kws X.env)).filterMap (·.1) = ks := by rfl) (hdb : (x == ("__debug__" : Str)) = false := by decide)
    (he : starEach (e :: es) X.env = (false, eval e X.env) :: starEach es X.env := by rfl) (hpl : ((backTo pos (starEach (e :: es) X.env)).any (·.1) || (backToKw pos (keywordEach kws X.env)).any (·.1.isNone)) = false := by rfl) : PE X (.Call (.Name x p) (e :: es) kws pos) (tM G W (mF F (aApp ma mk))) := by
  obtain ⟨f, h1, h2, h3⟩ := R.ex
  exact e_callK h3 B hg h1 (by rw [← B.hK]; exact h2) ha al hkw al2 hall hks hdb he hpl
theorem xcallK0 (R : Cal X.prog X.w G X.mg X.base k x 0 ks F) (B : Bx X G W k) (hkw : PK X kws (tMA G W mk)) (al2 : ALen mk ks.length := by repeat (first | exact al_nil | refine al_cons ?_)) (hg : Gl X x := by rfl)
    (hall : (backToKw pos (keywordEach kws X.env)).all (·.1.isSome) = true := by rfl) (hks : (backToKw pos (keywordEach kws X.env)).filterMap (·.1) = ks := by rfl) (hdb : (x == ("__debug__" : Str)) = false := by decide)
    (hpl : ((backTo pos (starEach [] X.env)).any (·.1) || (backToKw pos (keywordEach kws X.env)).any (·.1.isNone)) = false := by rfl) : PE X (.Call (.Name x p) [] kws pos) (tM G W (mF F mk)) := by
  obtain ⟨f, h1, h2, h3⟩ := R.ex
  exact e_callK0 h3 B hg h1 (by rw [← B.hK]; exact h2) hkw al2 hall hks hdb hpl
theorem xb (hc : CallR X (.builtin id) (qN G pn)) (hm : X.mg x = none) (hv : bootBuiltins x = some (.builtin id)) (ha : PA X (e :: es) (tMA G W ma)) (hg : Gl X x := by rfl) (hn : x ≠ "__name__" := by decide) (hdb : (x == ("__debug__" : Str)) = false := by decide)
    (he : starEach (e :: es) X.env = (false, eval e X.env) :: starEach es X.env := by rfl) (hpl : (backTo pos (starEach es X.env)).any (·.1) = false := by rfl) : PE X (.Call (.Name x p) (e :: es) [] pos) (tM G W (mN pn ma)) := e_callB hc hg hm hv ha hn hdb he hpl
theorem xt (hc : CallR X (.type T') (qN G pn)) (hm : X.mg x = none) (hv : bootBuiltins x = some (.type T')) (ha : PA X (e :: es) (tMA G W ma)) (hg : Gl X x := by rfl) (hn : x ≠ "__name__" := by decide) (hdb : (x == ("__debug__" : Str)) = false := by decide)
    (he : starEach (e :: es) X.env = (false, eval e X.env) :: starEach es X.env := by rfl) (hpl : (backTo pos (starEach es X.env)).any (·.1) = false := by rfl) : PE X (.Call (.Name x p) (e :: es) [] pos) (tM G W (mN pn ma)) := e_callT hc hg hm hv ha hn hdb he hpl
theorem xty (hm : X.mg x = none) (hv : bootBuiltins x = some (.type T')) (hg : Gl X x := by rfl) (hn : x ≠ "__name__" := by decide) (hdb : (x == ("__debug__" : Str)) = false := by decide) : PE X (.Name x pos) (tC (.ty T')) := pe_bltn hg hm hv rfl hn hdb
theorem xcmp {op : CmpOp} {pp : P2} (ho : OpR X (compareOp op) (q2 G pp)) (ha : PE X a (tM G W mo)) (hb : PE X b (tM G W mb)) (hm : behindInMarks op b = false := by first | rfl | exact nomark _ | with_unfolding_all rfl) : PE X (.Compare a [op] [b] pos) (tM G W (m2 pp mo mb)) := e_cmp ho ha hb hm
theorem xcmpT {op : CmpOp} {pp : P2} (ho : OpR X (compareOp op) (q2 G pp)) (ha : PE X a (tM G W mo)) (hb : PE X b (tM G W mb)) (hm : behindInMarks op b = false := by first | rfl | exact nomark _ | with_unfolding_all rfl) : PT X (.Compare a [op] [b] pos) (tMT G W (mTst (m2 pp mo mb))) := c_cmp ho ha hb hm
/-- any value as a test -/
theorem xtru (B : Bx X G W k) (ha : PE X a (tM G W mo)) (he : ∀ whole, isTrue a X.env whole = (do let v ← whole; standAt a.pos; holding [v] (truthy v)) := by exact fun _ => rfl) : PT X a (tMT G W (mTru pTru mo)) := c_tru tru_ok' B.hK ha he
theorem xorT (B : Bx X G W k) (ha : PE X a (tM G W mo)) (hb : PE X (.BoolOp .Or (b :: es) pos) (tM G W mb)) : PE X (.BoolOp .Or (a :: b :: es) pos) (tM G W (mOrT pTru mo mb)) := e_orT tru_ok' B.hK ha hb
theorem xnotT (B : Bx X G W k) (ha : PE X a (tM G W mo)) : PE X (.UnaryOp .Not a pos) (tM G W (mNotT pTru mo)) := e_notT tru_ok' B.hK ha
theorem xix (B : Bx X G W k) (ha : PE X a (tM G W mo)) (hb : PE X b (tM G W mb)) (hs : PlainIx b := by exact fun _ _ => rfl) : PE X (.Subscript a b pos) (tM G W (m2 pIx mo mb)) := e_ix (i_ix B.room.units B.hK) ha hb hs
theorem xisa (B : Bx X G W k) (hm : X.mg "isinstance" = none) {bt : String} (he : PE X e (tM G W mo)) (hT : PE X T (tC (.ty bt))) (hb : bt ∈ tyR := by decide) (hg : Gl X "isinstance" := by rfl) (hs : starEach [e, T] X.env = (false, eval e X.env) :: starEach [T] X.env := by rfl) (hs2 : starEach [T] X.env = (false, eval T X.env) :: starEach [] X.env := by rfl)
    (hpl : (backTo pos (starEach [T] X.env)).any (·.1) = false := by rfl) : PE X (.Call (.Name "isinstance" p) [e, T] [] pos) (tM G W (m1 (pIsa [bt]) mo)) := e_isa B.hK hg hm hb he hT hs hs2 hpl
theorem xisaT (B : Bx X G W k) (hm : X.mg "isinstance" = none) (bs : List String) {kk : Nat} {tpos : Pos} (he : PE X e (tM G W mo)) (hes : PA X es (fun σ H Q => Q (bs.map V.ty) H)) (hb : ∀ b ∈ bs, b ∈ tyR := by decide) (hz : bs.length ≤ 100 := by decide) (hg : Gl X "isinstance" := by rfl)
    (hs : starEach [e, .Tuple es kk tpos] X.env = (false, eval e X.env) :: starEach [.Tuple es kk tpos] X.env := by rfl) (hs2 : starEach [.Tuple es kk tpos] X.env = (false, eval (.Tuple es kk tpos) X.env) :: starEach [] X.env := by rfl)
    (hpl : (backTo pos (starEach [.Tuple es kk tpos] X.env)).any (·.1) = false := by rfl) : PE X (.Call (.Name "isinstance" p) [e, .Tuple es kk tpos] [] pos) (tM G W (m1 (pIsa bs) mo)) := e_isaT B.hK hg hm bs hb hz he hes hs hs2 hpl
theorem xss {q p2 : Pos} (B : Bx X G W k) (z1 : X.mg "sorted" = none) (z2 : X.mg "set" = none) (ha : PE X a (tM G W mo)) (hg : Gl X "sorted" := by rfl) (hg2 : Gl X "set" := by rfl) (hs : starEach [a] X.env = (false, eval a X.env) :: starEach [] X.env := by rfl)
    (hs2 : starEach [.Call (.Name "set" p2) [a] [] q] X.env = (false, eval (.Call (.Name "set" p2) [a] [] q) X.env) :: starEach [] X.env := by rfl) (hpl : (backTo q (starEach [] X.env)).any (·.1) = false := by rfl) (hpl2 : (backTo pos (starEach [] X.env)).any (·.1) = false := by rfl) :
    PE X (.Call (.Name "sorted" p) [.Call (.Name "set" p2) [a] [] q] [] pos) (tM G W (m1 pSortSet mo)) := e_sortSet B.calm B.room.units B.hK hg z1 hg2 z2 ha hs hs2 hpl hpl2
theorem xlm {pm : PM} {name : Str} {o : Expr} {cpos : Pos} (B : Bx X G W k) (slot : Slot "list" name id) (hty : typeOf (.builtin id) = pure (.type "method_descriptor")) (hm : MtR X id (qM G pm)) (ho : PE X o (tM G W mo)) (ha : PA X (e :: es) (tMA G W ma)) (hbase : attributeBase o name X.env (eval o X.env) = eval o X.env := by rfl)
    (hfew : ((backTo cpos (starEach (e :: es) X.env)).all (fun x => !x.1) && (backToKw cpos (keywordEach [] X.env)).all (fun x => x.1.isSome) && decide ((e :: es).length + ([] : List Keyword).length + (if ([] : List Keyword).isEmpty then 0 else 1) < 30)) = true := by rfl)
    (hline : (apos.endLine == cpos.line) = true := by rfl) (hs : starEach (e :: es) X.env = (false, eval e X.env) :: starEach es X.env := by rfl) (hplain : (backTo cpos (starEach es X.env)).any (·.1) = false := by rfl) : PE X (.Call (.Attribute o name apos) (e :: es) [] cpos) (tM G W (mLm pm mo ma)) := e_lm B.hK slot hty hm ho ha hbase hfew hline hs hplain
theorem xlm0 {pm : PM} {name : Str} {o : Expr} {cpos : Pos} (B : Bx X G W k) (slot : Slot "list" name id) (hty : typeOf (.builtin id) = pure (.type "method_descriptor")) (hm : MtR X id (qM G pm)) (ho : PE X o (tM G W mo)) (hbase : attributeBase o name X.env (eval o X.env) = eval o X.env := by rfl)
    (hline : (apos.endLine == cpos.line) = true := by rfl) : PE X (.Call (.Attribute o name apos) [] [] cpos) (tM G W (mLm pm mo aNil)) := e_lm0 B.hK slot hty hm ho hbase hline
theorem xfld {c i : Nat} {pp : Addr} (B : Bx X G W k) (cl : SlX.SCls X.K (G.cls c)) (sl : SlX.Slot1 X.K (G.cls c) m pp i) (he : PE X e (tM G W mo)) (hb : attributeBase e m X.env (eval e X.env) = eval e X.env := by rfl) : PE X (.Attribute e m pos) (tM G W (m1 (pFld c i) mo)) := e_fld B cl sl he hb
end
end Sm
/-! Sm19: statements, comprehensions, instances, defs with their side conditions filled in. -/
namespace Sm
open PySem PySem.Spec PyProof.Rows L2
section
variable {X : Cx} {G : Gs} {W : WX} {k n : Nat} {x m : Str} {p pos pos' apos cpos : Pos} {a b c e o tg iter elt value kx vx : Expr} {es ifs : List Expr} {kws : List Keyword} {ma mk : M (List Dv)} {mo mb ek ev : M Dv} {F : FM} {ks : List Str} {it : M (List Dt)} {g : GM} {t : TG} {L : List Nat} {sb : SM} {body : List Stmt} {cm : M Bool} {scope : Scope}
theorem yset (i : Nat) (B : Bx X G W k) (h : PE X e (tM G W mo)) (hi : X.N[i]? = some x := by rfl) (hx : Loc X.env.scope x := by first | exact Or.inl rfl | exact Or.inr rfl) (hs : swapsWith e (some (.Name x pos')) pos.line X.env = pure false := by rfl) (hf : X.fn x = true ∨ X.env.scope.names.lookup x = some .local := by first | exact Or.inl rfl | exact Or.inr rfl) :
    PS X (.Assign [.Name x pos'] e pos) (tMS G W (sSet i mo)) := s_set B.nd hi hx h hs hf
theorem yasg (hg : PG X tg t) (hgs : TgS G t g L) (h : PE X e (tM G W mo)) (hs : swapsWithSole [tg] e pos.line X.env = pure false := by rfl) (hw : swappedStores [tg] e X.env = pure none := by rfl) (h1 : (assignEach [tg] X.env).map (·.2) = [assign tg X.env] := by rfl) : PS X (.Assign [tg] e pos) (tMS G W (sAsg g mo)) := s_asg hg hgs h hs hw h1
theorem ysub {i' : Expr} {mi mv : M Dv} (B : Bx X G W k) (ho : PE X o (tM G W mo)) (hi : PE X i' (tM G W mi)) (hv : PE X value (tM G W mv)) (hs : swapsWith value (some (.Subscript o i' pos')) pos.line X.env = pure false := by rfl) : PS X (.Assign [.Subscript o i' pos'] value pos) (tMS G W (sSub mo mi mv)) := s_sub B.room.units ho hi hv hs
theorem yfld {cc i : Nat} {pp : Addr} {mv : M Dv} (B : Bx X G W k) (cl : SlX.SCls X.K (G.cls cc)) (sl : SlX.Slot1 X.K (G.cls cc) m pp i) (ho : PE X o (tM G W mo)) (hv : PE X value (tM G W mv)) (hs : swapsWith value (some (.Attribute o m pos')) pos.line X.env = pure false := by rfl) : PS X (.Assign [.Attribute o m pos'] value pos) (tMS G W (sFld cc i mo mv)) := s_fld B cl sl ho hv hs
theorem yfor (hp : PassesOwn (model X.prog X.w) X.A X.env X.xe) (B : Bx X G W k) (hi : PIS X G W tg iter it) (hg : PG X tg t) (hgs : TgS G t g L) (hb : PSs X body (tMS G W sb)) (hs : ∀ x, foldedSetIterable iter X.env x = pure x := by exact fun _ => rfl) : PS X (.For tg iter body [] pos) (tMS G W (sFor it g sb)) := s_for hp B.calm hi hg hgs hb hs
theorem yexpr (h : PE X e (tM G W mo)) (hs : swapsWith e none pos.line X.env = pure false := by rfl) : PS X (.Expr e pos) (tMS G W (sDrop mo)) := s_expr h hs
theorem yname (i : Nat) (B : Bx X G W k) (hi : X.N[i]? = some x := by rfl) (hx : Loc X.env.scope x := by first | exact Or.inl rfl | exact Or.inr rfl) (hf : X.fn x = true ∨ X.env.scope.names.lookup x = some .local := by first | exact Or.inl rfl | exact Or.inr rfl) : PG X (.Name x pos) (gName i) := pg_name B.nd hi hx hf
theorem ytup {es : List Expr} {kt : Nat} {u : TGs} {n : Nat} (B : Bx X G W k) (h : PGs X es u) (hn : (assignEach es X.env).length = n := by rfl) (hst : (assignEach es X.env).findIdx? (·.1) = none := by rfl) : PG X (.Tuple es kt pos) (gTup X.K n u) := pg_tup B.calm h hn hst
theorem ytupS {u : TGs} {gs : GMs} {L : List Nat} {n : Nat} (hK : G.K = X.K) (hl : GLen gs n) (h : TgSs G u gs L) : TgS G (gTup X.K n u) (gT gs) L := by
  rw [← hK]
  exact g_tup hl h
theorem yrg1 (z : X.mg "range" = none) (ha : PA X [a] (tMA G W ma)) (hg : Gl X "range" := by rfl) (hs : starEach [a] X.env = [(false, eval a X.env)] := by rfl) : PIS X G W tg (.Call (.Name "range" p) [a] [] pos) (iRg rg1 ma) := i_rg1 hg z ha hs
theorem yrg2 (z : X.mg "range" = none) (ha : PA X [a, b] (tMA G W ma)) (hg : Gl X "range" := by rfl) (hs : starEach [a, b] X.env = [(false, eval a X.env), (false, eval b X.env)] := by rfl) (hs2 : starEach [b] X.env = [(false, eval b X.env)] := by rfl) : PIS X G W tg (.Call (.Name "range" p) [a, b] [] pos) (iRg rg2 ma) := i_rg2 hg z ha hs hs2
theorem yenum {tpos : Pos} {kk : Nat} (B : Bx X G W k) (z : X.mg "enumerate" = none) (ha : PA X [a] (tMA G W ma)) (hg : Gl X "enumerate" := by rfl) (hs : starEach [a] X.env = [(false, eval a X.env)] := by rfl) : PIS X G W (.Tuple es kk tpos) (.Call (.Name "enumerate" p) [a] [] pos) (iRg en1 ma) := i_enum B.hK hg z ha hs
theorem yzip {tpos : Pos} {kk : Nat} (B : Bx X G W k) (z : X.mg "zip" = none) (ha : PA X [a, b] (tMA G W ma)) (hg : Gl X "zip" := by rfl) (hs : starEach [a, b] X.env = (false, eval a X.env) :: starEach [b] X.env := by rfl) (hpl : (backTo pos (starEach [b] X.env)).any (·.1) = false := by rfl) : PIS X G W (.Tuple es kk tpos) (.Call (.Name "zip" p) [a, b] [] pos) (iRg zp2 ma) := i_zip B.hK hg z ha hs hpl
theorem yitems {tpos : Pos} {kk : Nat} (he : PE X e (tM G W mo)) (hbase : attributeBase e "items" X.env (eval e X.env) = eval e X.env := by rfl) (hline : (apos.endLine == cpos.line) = true := by rfl) : PIS X G W (.Tuple es kk tpos) (.Call (.Attribute e "items" apos) [] [] cpos) (iDc dItems mo) := i_items he hbase hline
theorem yvals (he : PE X e (tM G W mo)) (hbase : attributeBase e "values" X.env (eval e X.env) = eval e X.env := by rfl) (hline : (apos.endLine == cpos.line) = true := by rfl) : PIS X G W tg (.Call (.Attribute e "values" apos) [] [] cpos) (iDc dVals mo) := i_vals he hbase hline
theorem ylc (own : List (Str × Nat)) {pe : PN} (hpe : LEnd G pe) (B : Bx X G W k) (hi : PIS X G W tg iter it) (hg : ∀ (s : Shared) (H : Hp) (C : Addr) (cl : List (Str × Addr)) (fp : List Addr), PG (X.blk s H scope (compEnvC scope cl C X.env) fp) tg t) (hgs : TgS G t g L)
    (ht : ∀ (s : Shared) (H : Hp) (C : Addr) (cl : List (Str × Addr)) (fp : List Addr), PTs (X.blk s H scope (compEnvC scope cl C X.env) fp) ifs (tMT G W0 cm)) (he : ∀ (s : Shared) (H : Hp) (C : Addr) (cl : List (Str × Addr)) (fp : List Addr), PE (X.blk s H scope (compEnvC scope cl C X.env) fp) elt (tM G W0 mo))
    (ok : blkC X.N X.env.scope scope own = true := by rfl) (hL : ∀ i ∈ L, i ∈ own.map (·.2) := by decide) (hs : ∀ x, foldedSetIterable iter X.env x = pure x := by exact fun _ => rfl) : PE X (.ListComp elt [⟨tg, iter, ifs, 0⟩] scope pos) (tM G W (mN pe (mLcI (own.map (·.2)) it g cm mo))) := e_lc' hpe B hi (blkOk_by ok) hg hgs hL ht he hs
theorem ysetLc (i : Nat) (own : List (Str × Nat)) {y : Str} {py spos : Pos} {pe : PN} (hpe : LEnd G pe) (B : Bx X G W k) (hi : PIS X G W tg iter it) (hg : ∀ (s : Shared) (H : Hp) (C : Addr) (cl : List (Str × Addr)) (fp : List Addr), PG (X.blk s H scope (compEnvC scope cl C X.env) fp) tg t) (hgs : TgS G t g L)
    (ht : ∀ (s : Shared) (H : Hp) (C : Addr) (cl : List (Str × Addr)) (fp : List Addr), PTs (X.blk s H scope (compEnvC scope cl C X.env) fp) ifs (tMT G W0 cm)) (he : ∀ (s : Shared) (H : Hp) (C : Addr) (cl : List (Str × Addr)) (fp : List Addr), PE (X.blk s H scope (compEnvC scope cl C X.env) fp) elt (tM G W0 mo))
    (hy : X.N[i]? = some y := by rfl) (hyl : X.env.scope.names.lookup y = some .local := by rfl) (hk : X.env.scope.kind = .function := by rfl) (hl : (py.line == pos.line) = true := by rfl) (hn : (scope.names.any fun (n, k) => n == y && (k == .local || k == .cell)) = false := by rfl)
    (ok : blkC X.N X.env.scope scope own = true := by rfl) (hL : ∀ i ∈ L, i ∈ own.map (·.2) := by decide) (hs : ∀ x, foldedSetIterable iter X.env x = pure x := by exact fun _ => rfl) : PS X (.Assign [.Name y py] (.ListComp elt [⟨tg, iter, ifs, 0⟩] scope pos) spos) (tMS G W (sSet i (mN pe (mLcI (own.map (·.2)) it g cm mo)))) :=
  s_setLc hpe B hy hyl (sw_true hk hyl hl hn) hi (blkOk_by ok) hg hgs hL ht he hs
theorem ydc (own : List (Str × Nat)) {pe : PD} (hpe : DEnd G pe) (B : Bx X G W k) (hi : PIS X G W tg iter it) (hg : ∀ (s : Shared) (H : Hp) (C : Addr) (cl : List (Str × Addr)) (fp : List Addr), PG (X.blk s H scope (compEnvC scope cl C X.env) fp) tg t) (hgs : TgS G t g L)
    (ht : ∀ (s : Shared) (H : Hp) (C : Addr) (cl : List (Str × Addr)) (fp : List Addr), PTs (X.blk s H scope (compEnvC scope cl C X.env) fp) ifs (tMT G W0 cm)) (hk : ∀ (s : Shared) (H : Hp) (C : Addr) (cl : List (Str × Addr)) (fp : List Addr), PE (X.blk s H scope (compEnvC scope cl C X.env) fp) kx (tM G W0 ek))
    (he : ∀ (s : Shared) (H : Hp) (C : Addr) (cl : List (Str × Addr)) (fp : List Addr), PE (X.blk s H scope (compEnvC scope cl C X.env) fp) vx (tM G W0 ev)) (ok : blkC X.N X.env.scope scope own = true := by rfl) (hL : ∀ i ∈ L, i ∈ own.map (·.2) := by decide) (hs : ∀ x, foldedSetIterable iter X.env x = pure x := by exact fun _ => rfl) :
    PE X (.DictComp kx vx [⟨tg, iter, ifs, 0⟩] scope pos) (tM G W (mDc pe (own.map (·.2)) it g cm ek ev)) := e_dc hpe B hi (blkOk_by ok) hg hgs hL ht hk he hs
/-- a class, called; its __init__ -/
structure CalI (P : Program) (w : World) (G : Gs) (mg : Str → Option Value) (base : Heap) (k c : Nat) (x : Str) (n : Nat) (F : FM) : Prop where
  ex : ∃ f, mg x = some (.ref (G.cls c)) ∧ Mk G.K (G.cls c) f ∧ CallW P w G mg base k f (n + 1) [] F
theorem ymake {cc : Nat} (R : CalI X.prog X.w G X.mg X.base k cc x n F) (B : Bx X G W (k + 1)) (ha : PA X (e :: es) (tMA G W ma)) (al : ALen ma n := by repeat (first | exact al_nil | refine al_cons ?_)) (hg : Gl X x := by rfl) (hdb : (x == ("__debug__" : Str)) = false := by decide)
    (he : starEach (e :: es) X.env = (false, eval e X.env) :: starEach es X.env := by rfl) (hpl : (backTo pos (starEach es X.env)).any (·.1) = false := by rfl) : PE X (.Call (.Name x p) (e :: es) [] pos) (tM G W (mMake cc F ma)) := by
  obtain ⟨f, h1, h2, h3⟩ := R.ex
  exact e_make (by rw [← B.hK]; exact h2) h3 B hg h1 ha al hdb he hpl
/-- a method -/
structure CalM (P : Program) (w : World) (G : Gs) (mg : Str → Option Value) (base : Heap) (k c : Nat) (x : Str) (n : Nat) (F : FM) : Prop where
  ex : ∃ f, SlX.SCls G.K (G.cls c) ∧ Meth G.K (G.cls c) x f ∧ CallW P w G mg base k f (n + 1) [] F
theorem ymeth0 {cc : Nat} {pl : Sem Bool} (R : CalM X.prog X.w G X.mg X.base k cc m 0 F) (B : Bx X G W k) (ho : PE X o (tM G W mo)) (ht : eval (.Call (.Attribute o m apos) [] [] pos) X.env = (do
      let ov ← eval o X.env
      standAt apos.atName
      let (f, first) ← holding [ov] (getMethod ov m pl)
      callWith pos f first (backTo pos (starEach [] X.env)) (backToKw pos (keywordEach [] X.env))) := by rfl) : PE X (.Call (.Attribute o m apos) [] [] pos) (tM G W (mMeth cc F mo aNil)) := by
  obtain ⟨f, h1, h2, h3⟩ := R.ex
  exact e_meth0 h3 B (by rw [← B.hK]; exact h1) (by rw [← B.hK]; exact h2) ho ht
theorem ymeth {cc : Nat} {pl : Sem Bool} (R : CalM X.prog X.w G X.mg X.base k cc m n F) (B : Bx X G W k) (ho : PE X o (tM G W mo)) (ha : PA X (e :: es) (tMA G W ma)) (al : ALen ma n := by repeat (first | exact al_nil | refine al_cons ?_)) (ht : eval (.Call (.Attribute o m apos) (e :: es) [] pos) X.env = (do
      let ov ← eval o X.env
      standAt apos.atName
      let (f, first) ← holding [ov] (getMethod ov m pl)
      callWith pos f first (backTo pos (starEach (e :: es) X.env)) (backToKw pos (keywordEach [] X.env))) := by rfl) (hst : starEach (e :: es) X.env = (false, eval e X.env) :: starEach es X.env := by rfl) (hpl : (backTo pos (starEach es X.env)).any (·.1) = false := by rfl) : PE X (.Call (.Attribute o m apos) (e :: es) [] pos) (tM G W (mMeth cc F mo ma)) := by
  obtain ⟨f, h1, h2, h3⟩ := R.ex
  exact e_meth h3 B (by rw [← B.hK]; exact h1) (by rw [← B.hK]; exact h2) ho ha al hst hpl ht
end
section
variable {P : Program} {w : World} {G : Gs} {mg : Str → Option Value} {base : Heap} {k : Nat} {x qual : Str} {st : Stmt} {f : Addr} {fd : FuncData} {ps ks : List Str} {F : FM} {n : Nat}
theorem Cal.bad (h : mg x = some (.ref f)) (kp : PySem.W.keepIn G.K (.ref f) = true) : Cal P w G mg base k x n ks fun _ _ => .bad :=
  ⟨f, h, kp, fun A outer s H us ws vs zs Q E hr e0 r rz l1 l2 q => by
    obtain ⟨_, _, _, _, _, p⟩ := q
    exact p.elim⟩
theorem Cal.fn (h : mg x = some (.ref f)) (Fu : Fun G.K x qual st f fd) (ok : FnOk P w G.K mg base (L2.CX P w) k f fd ps (SpM G F)) (b : Binds G.K fd ps []) : Cal P w G mg base k x n [] F := ⟨f, h, Fu.kp, CallW.of0 ok b⟩
theorem kbn_of (Fu : Fun G.K x qual st f fd) (h : ∀ (kV doc pm : Value) (an : Option Addr) (cdv ct : Value) (us ws : List Value), us.length = n → ws.length = ks.length → bindArgs (PySem.W.fnOf x qual (defArgs st) (defBody st) (defScope st) .none kV doc pm an cdv ct) ⟨us, ks.zip ws⟩ = pure (ps.zip (us ++ ws))) :
    KBn G.K fd ps n ks (fun us ws => us ++ ws) fun vs zs => vs ++ zs := by
  obtain ⟨oc, od, kV, doc, pm, an, cdv, ct, osl, rfl, lk, hcd⟩ := Fu.ex
  exact ⟨fun s us ws _ h1 h2 => .of_eq (h kV doc pm an cdv ct us ws h1 h2), fun r rz => Vals.append r rz⟩
theorem Cal.kw (h : mg x = some (.ref f)) (Fu : Fun G.K x qual st f fd) (ok : FnOk P w G.K mg base (L2.CX P w) k f fd ps (SpM G F)) (b : KBn G.K fd ps n ks (fun us ws => us ++ ws) fun vs zs => vs ++ zs) : Cal P w G mg base k x n ks F :=
  ⟨f, h, Fu.kp, CallW.kw ok b fun A H xs vs zs r _ _ => ⟨xs, r, fun S => rfl⟩⟩
theorem fn_ok2 {x qual : Str} {st : Stmt} {f : Addr} {fd : FuncData} {N ps : List Str} {k n p : Nat} {b : SM} (hn : N.length = n) (hps : ps.length = p) (F : Fun G.K x qual st f fd) (S : FnScope N ps (defScope st)) 
    (hbody : ∀ (cdv : Value) (A : Around) (outer : List PySem.Env) (s : Shared) (H : Hp) (E : XK), Bx (cxOf (L2.CX P w) P w G.K mg base N qual (defScope st) f cdv A outer s H E) G (fun c d _ H' => E c d H') k →
      PassesOwn (model P w) (A.deeper (envOfC qual (defScope st) s.heap.objs.size f cdv)) (envOfC qual (defScope st) s.heap.objs.size f cdv) (cxOf (L2.CX P w) P w G.K mg base N qual (defScope st) f cdv A outer s H E).xe →
      PSs (cxOf (L2.CX P w) P w G.K mg base N qual (defScope st) f cdv A outer s H E) (defBody st) (tMS G (fun c d _ H' => E c d H') b)) :
    FnOk P w G.K mg base (L2.CX P w) (k + 1) f fd ps (SpM G (runB n p b)) := by
  subst hn hps
  exact fn_ok F S hbody
end
end Sm
/-! Sm20: the law's end. -/
namespace Sm
open PySem PySem.Spec PyProof.Rows L2
/-- what the law promises -/
def spLaw (K : PySem.W.Frag) : Sp := fun vs H Q _ => ∃ (a : Addr) (ns : List Int), vs = [.ref a] ∧ SqL K H a (ns.map V.int) ∧ ns.length ≤ 63 ∧ (∀ z ∈ ns, Builtin.Int.intBits z ≤ 1048576) ∧ ∀ H', Q (.bl true) H'
def LawTrue (F : FM) : Prop := ∀ ns : List Int, ns.length ≤ 63 → (∀ z ∈ ns, Builtin.Int.intBits z ≤ 1048576) → ∃ S', F [.d (.scr (ns.map Dt.int))] [] = .ok (.d (.bl true)) S'
theorem rvs_ints {G : Gs} {A : Al} {H : Hp} : ∀ l : List Int, RVs G A H (l.map .int) (l.map V.int)
  | [] => (rfl : ([] : List V) = [])
  | a :: l => ⟨_, _, rfl, rfl, rvs_ints l⟩
theorem law_sp {G : Gs} {F : FM} (h : LawTrue F) {vs : List V} {H : Hp} {Q : VK} {E : XK} (q : spLaw G.K vs H Q E) : SpM G F vs H Q E := by
  obtain ⟨a, ns, rfl, hS, hl, hb, q⟩ := q
  obtain ⟨S', e⟩ := h ns hl hb
  refine ⟨⟨[], []⟩, [], [.d (.scr (ns.map .int))], .cons ⟨a, ns.map V.int, rfl, ?_, rvs_ints ns⟩ .nil, ⟨rfl, List.nodup_nil, fun b hb => absurd hb (List.not_mem_nil), fun i l o e => by simp at e⟩, ?_⟩
  · rcases hS with hS | hS
    · exact .inl ⟨hS, List.not_mem_nil⟩
    · exact .inr fun H' => .inr hS
  · rw [e]
    intro A' H' x s v r
    obtain rfl : v = .bl true := r
    exact q H'
theorem law_ok {P : Program} {w : World} {G : Gs} {mg : Str → Option Value} {base : Heap} {k : Nat} {f : Addr} {fd : FuncData} {ps : List Str} {F : FM} (ok : FnOk P w G.K mg base (L2.CX P w) k f fd ps (SpM G F)) (h : LawTrue F) : FnOk P w G.K mg base (L2.CX P w) k f fd ps (spLaw G.K) :=
  ⟨fun vs H Q E q => ok.len vs H Q E (law_sp h q), fun A outer s H args us vs Q E hr e0 b r q => ok.run A outer s H args us vs Q E hr e0 b r (law_sp h q)⟩
theorem law_hsp {K : PySem.W.Frag} {H : Hp} {a : Addr} {ns : List Int} (hl : ns.length ≤ 63) (hb : ∀ z ∈ ns, Builtin.Int.intBits z ≤ 1048576) (hS : SqL K H a (ns.map V.int)) : spLaw K [.ref a] H (fun v _ => v = .bl true) fun _ _ _ => False := ⟨a, ns, rfl, hS, hl, hb, fun _ => rfl⟩
theorem law_cx {P : Program} {w : World} {H : Hp} {s : Shared} {e : Value} {s' : Shared} (h : L2.CX P w [] H s (fun _ _ _ => False) e s') : False := by
  obtain ⟨_, _, _, _, _, _, _, _, _, _, _, _, z⟩ := h
  exact z
end Sm
/-! Sm21: the mirrors' steps as rewriting rules. -/
namespace Sm
open PySem PySem.Spec PyProof.Rows L2
section
variable {ρ : Env} {S S' : Sto} {d x y : Dv} {t : Dt} {i : Nat} {a b : SM} {m ma mb : M Dv} {c ca cb : M Bool} {as : M (List Dv)} {it : M (List Dt)} {g : GM} {gs : GMs}
@[simp] theorem sSeq_s : sSeq a b ρ S = sqz (a ρ S) b := rfl
@[simp] theorem sqz_nx {ρ' : Env} : sqz (.nx ρ' S) b = b ρ' S := rfl
@[simp] theorem sqz_rt : sqz (.rt d S) b = .rt d S := rfl
@[simp] theorem sNil_s : sNil ρ S = .nx ρ S := rfl
@[simp] theorem sSet_s : sSet i m ρ S = (m ρ S).to ρ fun d S1 => .nx (ρ.set i (some d)) S1 := rfl
@[simp] theorem sIf_s : sIf c a b ρ S = (c ρ S).to ρ fun k S1 => if k = true then a ρ S1 else b ρ S1 := rfl
@[simp] theorem sRet_s : sRet m ρ S = (m ρ S).to ρ fun d S1 => .rt d S1 := rfl
@[simp] theorem sDrop_s : sDrop m ρ S = (m ρ S).to ρ fun _ S1 => .nx ρ S1 := rfl
@[simp] theorem sAsg_s : sAsg g m ρ S = (m ρ S).to ρ fun d S1 => oz (g d ρ) fun ρ1 => .nx ρ1 S1 := rfl
@[simp] theorem oz_some {α : Type} {v : α} {f : α → Sz} : oz (some v) f = f v := rfl
@[simp] theorem sFor_s : sFor it g b ρ S = (it ρ S).to ρ fun ts S1 => forL g b ts ρ S1 := rfl
@[simp] theorem forL_nil : forL g b [] ρ S = .nx ρ S := rfl
@[simp] theorem sSub_s {mo mi mv : M Dv} : sSub mo mi mv ρ S = (mv ρ S).to ρ fun d S1 => (mo ρ S1).to ρ fun o S2 => (mi ρ S2).to ρ fun i S3 => oz (stSub o i d S3) fun S4 => .nx ρ S4 := rfl
@[simp] theorem sFld_s {cc : Nat} {mo mv : M Dv} : sFld cc i mo mv ρ S = (mv ρ S).to ρ fun d S1 => (mo ρ S1).to ρ fun o S2 => oz (stFld cc i o d S2) fun S3 => .nx ρ S3 := rfl
@[simp] theorem sPars_s {is : List Nat} : sPars is as ρ S = (as ρ S).to ρ fun ds S1 => if ds.length = is.length then .nx (setAll is ds ρ) S1 else .bad := rfl
@[simp] theorem mV_s : mV i ρ S = (match ρ[i]? with
  | some (some d) => .ok d S
  | _ => .bad) := rfl
@[simp] theorem mC_s : mC t ρ S = .ok (.d t) S := rfl
@[simp] theorem m1_s {p : P1} : m1 p m ρ S = (m ρ S).bind fun x S1 => lift (p x S1) := rfl
@[simp] theorem m2_s {p : P2} : m2 p ma mb ρ S = (ma ρ S).bind fun x S1 => (mb ρ S1).bind fun y S2 => lift (p x y S2) := rfl
@[simp] theorem mN_s {p : PN} : mN p as ρ S = (as ρ S).bind fun xs S1 => lift (p xs S1) := rfl
@[simp] theorem mF_s {F : FM} : mF F as ρ S = (as ρ S).bind F := rfl
@[simp] theorem aNil_s : aNil ρ S = .ok [] S := rfl
@[simp] theorem aCons_s : aCons m as ρ S = (m ρ S).bind fun x S1 => (as ρ S1).bind fun xs S2 => .ok (x :: xs) S2 := rfl
@[simp] theorem aApp_s {bs : M (List Dv)} : aApp as bs ρ S = (as ρ S).bind fun xs S1 => (bs ρ S1).bind fun ys S2 => .ok (xs ++ ys) S2 := rfl
@[simp] theorem mTst_s : mTst m ρ S = (m ρ S).bind fun d S1 => li (toB d) S1 := rfl
@[simp] theorem toB_s {k : Bool} : toB (.d (.bl k)) = some k := rfl
@[simp] theorem mTru_s {p : PT1} : mTru p m ρ S = (m ρ S).bind fun d S1 => li (p d S1) S1 := rfl
@[simp] theorem cAnd_s : cAnd ca cb ρ S = (ca ρ S).bind fun c S1 => if c = true then cb ρ S1 else .ok false S1 := rfl
@[simp] theorem cOr_s : cOr ca cb ρ S = (ca ρ S).bind fun c S1 => if c = true then .ok true S1 else cb ρ S1 := rfl
@[simp] theorem cNot_s : cNot ca ρ S = (ca ρ S).bind fun c S1 => .ok (!c) S1 := rfl
@[simp] theorem cYes_s : cYes ρ S = .ok true S := rfl
@[simp] theorem mIf_s : mIf c ma mb ρ S = (c ρ S).bind fun k S1 => if k = true then ma ρ S1 else mb ρ S1 := rfl
@[simp] theorem mAnd_s : mAnd ma mb ρ S = (ma ρ S).bind fun x S1 => (li (toB x) S1).bind fun c S2 => if c = true then mb ρ S2 else .ok (.d (.bl false)) S2 := rfl
@[simp] theorem mOr_s : mOr ma mb ρ S = (ma ρ S).bind fun x S1 => (li (toB x) S1).bind fun c S2 => if c = true then .ok (.d (.bl true)) S2 else mb ρ S2 := rfl
@[simp] theorem mNot_s : mNot ma ρ S = (ma ρ S).bind fun x S1 => (li (toB x) S1).bind fun c S2 => .ok (.d (.bl (!c))) S2 := rfl
@[simp] theorem mOrT_s {p : PT1} : mOrT p ma mb ρ S = (ma ρ S).bind fun x S1 => (li (p x S1) S1).bind fun c S2 => if c = true then .ok x S2 else mb ρ S2 := rfl
@[simp] theorem mNotT_s {p : PT1} : mNotT p ma ρ S = (ma ρ S).bind fun x S1 => (li (p x S1) S1).bind fun c S2 => .ok (.d (.bl (!c))) S2 := rfl
@[simp] theorem mFrz_s : mFrz m ρ S = (m ρ S).bind fun d S1 => lift (frz d S1) := rfl
@[simp] theorem mSl_s {p : PSl} {l h : M (Option Int)} : mSl p m l h ρ S = (m ρ S).bind fun d S1 => (l ρ S1).bind fun lo S2 => (h ρ S2).bind fun hi S3 => lift (p lo hi d S3) := rfl
@[simp] theorem oNo_s : oNo ρ S = .ok none S := rfl
@[simp] theorem oPt_s : oPt m ρ S = (m ρ S).bind fun d S1 => (match d with
  | .d (.int i) => .ok (some i) S1
  | _ => .bad) := rfl
@[simp] theorem mLm_s {p : PM} : mLm p m as ρ S = (m ρ S).bind fun o S1 => if isLs S1 o = true then (as ρ S1).bind fun ds S2 => lift (p o ds S2) else .bad := rfl
@[simp] theorem mDnew_s : mDnew ρ S = .ok (.loc S.length) (S ++ [.dct [] []]) := rfl
@[simp] theorem iSeq_s : iSeq m ρ S = (m ρ S).bind fun d S1 => li (seqOf d) S1 := rfl
@[simp] theorem iRg_s {f : List Dv → Option (List Dt)} : iRg f as ρ S = (as ρ S).bind fun ds S1 => li (f ds) S1 := rfl
@[simp] theorem iDc_s {f : Dv → Option (List Dt)} : iDc f m ρ S = (m ρ S).bind fun d S1 => li (f d) S1 := rfl
@[simp] theorem mLcI_s {vs : List Nat} : mLcI vs it g c m ρ S = (it ρ S).bind fun ts S1 => if ts.length ≤ 16777216 then lcL g c m (wipeE ρ vs) ts S1 else .bad := rfl
@[simp] theorem gN_s : gN i d ρ = some (ρ.set i (some d)) := rfl
@[simp] theorem gT_s {ts : List Dt} : gT gs (.d (.tup ts)) ρ = gs ts ρ := rfl
@[simp] theorem gsNil_s : gsNil [] ρ = some ρ := rfl
@[simp] theorem bz_some {α β : Type} {v : α} {f : α → Rz β} : bz (some v) f = f v := rfl
@[simp] theorem wipe_nil : wipeE ρ [] = ρ := rfl
@[simp] theorem wipe_cons {v : Nat} {vs : List Nat} : wipeE ρ (v :: vs) = (wipeE ρ vs).set v none := rfl
@[simp] theorem lcL_nil : lcL g c m ρ [] S = .ok [] S := rfl
@[simp] theorem pures_nil : pures [] = some [] := rfl
@[simp] theorem pures_cons {ds : List Dv} : pures (.d t :: ds) = (pures ds).map (t :: ·) := rfl
@[simp] theorem shaped_int (i : Int) : SeqAt.shaped (.int i) = true := rfl
@[simp] theorem eqDv_int {i j : Int} : eqDv S (.d (.int i)) (.d (.int j)) = some (decide (i = j)) := by
  show (if SeqAt.shaped (.int i) = true ∧ SeqAt.shaped (.int j) = true then some (PyData.eqv (.int i) (.int j)) else none) = _
  rw [if_pos ⟨shaped_int i, shaped_int j⟩]
  congr 1
end
end Sm
/-! the mirrors that many laws share -/
namespace Hn
open PySem PySem.Spec PyProof.Rows L2 Sm
def b_tupled (self : FM) : SM := sRet (mIf (mTru pTru (m1 (pIsa ["list", "tuple"]) (mV 0))) (mN pTuple (aCons (mN pLst (mLcI [1] (iSeq (mV 0)) (gN 1) (cYes) (mF self (aCons (mV 1) (aNil))))) (aNil))) (mV 0))
def F_tupled : Nat → FM
  | 0 => fun _ _ => .bad
  | n + 1 => iso (runB 2 1 (b_tupled (F_tupled n)))
def b_as_set : SM := sRet (mN pTuple (aCons (m1 pSortSet (mV 0)) (aNil)))
def R_as_set : FM := runB 1 1 b_as_set
def F_as_set : FM := iso (R_as_set)
def b__law_take : SM := sSeq (sIf (mTst (m2 pGt (m2 pIx (mV 0) (mC (.int 0))) (mC (.int 0)))) (sSeq (sSet 2 (m2 pMod (mN pInt (aCons (m2 pIx (mV 0) (mC (.int 0))) (aNil))) (mV 1)))
    (sSeq (sSub (mV 0) (mC (.int 0)) (m2 pDiv (m2 pIx (mV 0) (mC (.int 0))) (mV 1)))
    (sRet (mV 2)))) (sNil))
    (sSeq (sSub (mV 0) (mC (.int 2)) (m2 pAdd (m2 pIx (mV 0) (mC (.int 2))) (mC (.int 1))))
    (sSeq (sSet 3 (m2 pMod (mN pInt (aCons (m2 pMul (m2 pAdd (m2 pIx (mV 0) (mC (.int 1))) (m2 pMul (mC (.int 48271)) (m2 pIx (mV 0) (mC (.int 2))))) (m2 pAdd (mC (.int 39373)) (m2 pIx (mV 0) (mC (.int 2))))) (aNil))) (mC (.int 2147483647))))
    (sSeq (sSet 4 (m2 pAdd (m2 pMod (mN pInt (aCons (mV 3) (aNil))) (mC (.int 40009))) (mC (.int 7))))
    (sSeq (sSet 5 (m2 pMod (mN pInt (aCons (m2 pMul (m2 pAdd (m2 pAdd (mV 3) (m2 pIx (mV 0) (mC (.int 2)))) (m2 pDiv (m2 pIx (mV 0) (mC (.int 1))) (mC (.int 1000003)))) (mV 4)) (aNil))) (mC (.int 2147483629))))
    (sRet (m2 pMod (mN pInt (aCons (m2 pDiv (m2 pMod (mN pInt (aCons (m2 pAdd (m2 pMul (mV 5) (mC (.int 48271))) (mV 3)) (aNil))) (mC (.int 2147483587))) (mC (.int 64))) (aNil))) (mV 1)))))))
def R__law_take : FM := runB 6 2 b__law_take
def F__law_take : FM := view (R__law_take)
def b__law_cells : SM := sSeq (sSet 2 (mOrT pTru (mN pListB (aCons (mSl pSl (mV 0) (oNo) (oPt (mV 1))) (aNil))) (mN pLstB (aCons (mC (.int 0)) (aNil)))))
    (sSeq (sFor (iRg en1 (aCons (mSl pSl (mV 0) (oPt (mV 1)) (oPt (mC (.int 63)))) (aNil))) (gT (gsCons (gN 3) (gsCons (gN 4) (gsNil)))) (sSeq (sSet 5 (m2 pMod (mN pInt (aCons (mV 3) (aNil))) (mV 1)))
    (sSub (mV 2) (mV 5) (m2 pAdd (m2 pIx (mV 2) (mV 5)) (m2 pMul (mV 4) (m2 pAdd (mV 3) (mC (.int 2))))))))
    (sRet (mFrz (mV 2))))
def R__law_cells : FM := runB 6 2 b__law_cells
def F__law_cells : FM := iso (R__law_cells)
def b__law_same (self : FM) : SM := sSeq (sIf (mTru pTru (m1 (pIsa ["list", "tuple"]) (mV 1))) (sSeq (sIf (cOr (mTst (m2 pNe (m1 (pIsa ["list"]) (mV 0)) (m1 (pIsa ["list"]) (mV 1)))) (mTst (m2 pNe (m1 (pIsa ["tuple"]) (mV 0)) (m1 (pIsa ["tuple"]) (mV 1))))) (sRet (mC (.bl false))) (sNil))
    (sRet (mAnd (m2 pEq (mN pLen (aCons (mV 0) (aNil))) (mN pLen (aCons (mV 1) (aNil)))) (mN pAll (aCons (mN pLst (mLcI [2, 3] (iRg zp2 (aCons (mV 0) (aCons (mV 1) (aNil)))) (gT (gsCons (gN 2) (gsCons (gN 3) (gsNil)))) (cYes) (mF self (aCons (mV 2) (aCons (mV 3) (aNil)))))) (aNil)))))) (sNil))
    (sSeq (sIf (cOr (mTst (m2 pIsN (mV 1) (mC .non))) (mTru pTru (m1 (pIsa ["bool", "str"]) (mV 1)))) (sRet (mAnd (m2 pEq (mV 0) (mV 1)) (mAnd (m2 pEq (m1 (pIsa ["bool"]) (mV 0)) (m1 (pIsa ["bool"]) (mV 1))) (m2 pEq (m2 pIsN (mV 0) (mC .non)) (m2 pIsN (mV 1) (mC .non)))))) (sNil))
    (sRet (mAnd (m1 (pIsa ["int"]) (mV 0)) (mAnd (mNot (m1 (pIsa ["bool"]) (mV 0))) (m2 pEq (mV 0) (mV 1))))))
def F__law_same : Nat → FM
  | 0 => fun _ _ => .bad
  | n + 1 => iso (runB 4 2 (b__law_same (F__law_same n)))
def b__law_few : SM := sRet (mN pTuple (aCons (mN pLst (mLcI [3] (iSeq (mV 1)) (gN 3) (mTst (m2 pEq (mF F__law_take (aCons (mV 0) (aCons (mV 2) (aNil)))) (mC (.int 0)))) (mV 3))) (aNil)))
def R__law_few : FM := runB 4 3 b__law_few
def F__law_few : FM := view (R__law_few)
def b__law_mixed : SM := sSeq (sPars [2, 3] (aCons (mN pListB (aCons (mV 1) (aNil))) (aCons (mN pLstB (aNil)) (aNil))))
    (sSeq (sFor (iRg rg1 (aCons (mN pLen (aCons (mV 1) (aNil))) (aNil))) (gN 4) (sDrop (mLm pAppend (mV 3) (aCons (mLm pPopAt (mV 2) (aCons (mF F__law_take (aCons (mV 0) (aCons (mN pLen (aCons (mV 2) (aNil))) (aNil)))) (aNil))) (aNil)))))
    (sRet (mN pTuple (aCons (mV 3) (aNil)))))
def R__law_mixed : FM := runB 5 2 b__law_mixed
def F__law_mixed : FM := view (R__law_mixed)
def b__law_tome : SM := sSeq (sSet 3 (mN pLst (aCons (mC (.str ("a" : Str))) (aCons (mC (.str ("ann" : Str))) (aCons (mC (.str ("bob" : Str))) (aCons (mC (.str ("cat" : Str))) (aCons (mC (.str ("dan" : Str))) (aCons (mC (.str ("eve" : Str))) (aCons (mC (.str ("fay" : Str))) (aCons (mC (.str ("new" : Str))) (aCons (mC (.str ("old" : Str))) (aCons (mC (.str ("x" : Str))) (aCons (mC (.str ("zzzzzzzz" : Str))) (aNil))))))))))))))
    (sSeq (sPars [4, 5] (aCons (m2 pAdd (mC (.int 1)) (mF F__law_take (aCons (mV 0) (aCons (mV 1) (aNil))))) (aCons (mF F__law_take (aCons (mV 0) (aCons (m2 pAdd (mV 2) (mC (.int 1))) (aNil)))) (aNil))))
    (sSeq (sSet 3 (mN pList (aCons (mF F__law_mixed (aCons (mV 0) (aCons (mV 3) (aNil)))) (aNil))))
    (sSeq (sPars [6, 7] (aCons (mSl pSl (mV 3) (oNo) (oPt (mV 4))) (aCons (mSl pSl (mV 3) (oPt (mV 4)) (oPt (m2 pAdd (mV 4) (mV 5)))) (aNil))))
    (sSeq (sPars [8, 9, 10] (aCons (mDnew) (aCons (mF F__law_take (aCons (mV 0) (aCons (mC (.int 4)) (aNil)))) (aCons (m2 pAdd (mC (.int 3)) (mF F__law_take (aCons (mV 0) (aCons (mC (.int 4)) (aNil))))) (aNil)))))
    (sSeq (sFor (iRg rg1 (aCons (mV 4) (aNil))) (gN 11) (sSeq (sSet 12 (m2 pMul (mN pLst (aCons (m2 pIx (mV 6) (m2 pMod (mN pInt (aCons (m2 pAdd (mV 11) (mC (.int 1))) (aNil))) (mV 4))) (aNil))) (mN pInt (aCons (m2 pEq (mV 9) (mC (.int 3))) (aNil)))))
    (sSeq (sSet 12 (m2 pAdd (mV 12) (mN pList (aCons (mF F__law_few (aCons (mV 0) (aCons (mV 7) (aCons (mC (.int 3)) (aNil))))) (aNil)))))
    (sSub (mV 8) (m2 pIx (mV 6) (mV 11)) (m2 pAddB (mV 12) (m2 pMul (mSl pSl (mV 3) (oPt (m1 pNeg (mC (.int 1)))) (oNo)) (mN pInt (aCons (m2 pEq (mF F__law_take (aCons (mV 0) (aCons (mC (.int 6)) (aNil)))) (mC (.int 0))) (aNil)))))))))
    (sSeq (sFor (iRg rg1 (aCons (mV 4) (aNil))) (gN 11) (sFor (iSeq (mSl pSl (mV 6) (oPt (m2 pAdd (mV 11) (mC (.int 1)))) (oNo))) (gN 13) (sSeq (sSet 14 (mF F__law_take (aCons (mV 0) (aCons (mV 10) (aNil)))))
    (sSeq (sIf (cOr (mTst (m2 pEq (mV 14) (mC (.int 0)))) (cAnd (mTst (m2 pEq (mV 14) (mC (.int 1)))) (mTst (m2 pGt (mV 9) (mC (.int 0)))))) (sDrop (mLm pAppend (m2 pIx (mV 8) (m2 pIx (mV 6) (mV 11))) (aCons (mV 13) (aNil)))) (sNil))
    (sIf (cOr (mTst (m2 pEq (mV 14) (mC (.int 0)))) (cAnd (mTst (m2 pEq (mV 14) (mC (.int 2)))) (mTst (m2 pGt (mV 9) (mC (.int 0)))))) (sDrop (mLm pAppend (m2 pIx (mV 8) (mV 13)) (aCons (m2 pIx (mV 6) (mV 11)) (aNil)))) (sNil))))))
    (sSeq (sSet 15 (mN pLst (mLcI [17] (iSeq (mV 6)) (gN 17) (cYes) (mN pTup (aCons (mV 17) (aCons (mN pTuple (aCons (m1 pSortSet (mN pLst (mLcI [16] (iSeq (mFrz (m2 pIx (mV 8) (mV 17)))) (gN 16) (mTst (m2 pNe (mV 16) (mV 17))) (mV 16)))) (aNil))) (aNil)))))))
    (sRet (mN pTup (aCons (mN pTuple (aCons (mN pSorted (aCons (mV 15) (aNil))) (aNil))) (aCons (mN pTuple (aCons (mN pSorted (aCons (mV 7) (aNil))) (aNil))) (aNil))))))))))))
def R__law_tome : FM := runB 18 3 b__law_tome
def F__law_tome : FM := view (R__law_tome)
def b__law_lists (self : FM) : SM := sRet (mIf (mTru pTru (m1 (pIsa ["list", "tuple"]) (mV 0))) (mN pLst (mLcI [1] (iSeq (mV 0)) (gN 1) (cYes) (mF self (aCons (mV 1) (aNil))))) (mV 0))
def F__law_lists : Nat → FM
  | 0 => fun _ _ => .bad
  | n + 1 => iso (runB 2 1 (b__law_lists (F__law_lists n)))
end Hn
/-! the mirrors -/
namespace K01
open PySem PySem.Spec PyProof.Rows L2 Sm Hn
def b_Sheet_init : SM := sSeq (sAsg (gT (gsCons (gN 2) (gsCons (gN 3) (gsNil)))) (mF (F_tupled 8) (aCons (mV 1) (aNil))))
    (sSeq (sFld 0 2 (mV 0) (mDc pDct [4, 5] (iSeq (mV 2)) (gT (gsCons (gN 4) (gsCons (gN 5) (gsNil)))) (cYes) (mV 4) (mV 5)))
    (sSeq (sFld 0 0 (mV 0) (mV 3))
    (sFld 0 1 (mV 0) (mDc pDct [4] (iSeq (m2 pAdd (mN pList (aCons (m1 (pFld 0 2) (mV 0)) (aNil))) (mN pList (aCons (mV 3) (aNil))))) (gN 4) (cYes) (mV 4) (mC (.bl true))))))
def R_Sheet_init : FM := runB 6 2 b_Sheet_init
def F_Sheet_init : FM := R_Sheet_init

def b_Sheet_names : SM := sRet (mN pTuple (aCons (m1 (pFld 0 2) (mV 0)) (aNil)))
def R_Sheet_names : FM := runB 1 1 b_Sheet_names
def F_Sheet_names : FM := R_Sheet_names

def b_Sheet_homes : SM := sRet (mF F_as_set (aCons (m1 (pFld 0 1) (mV 0)) (aNil)))
def R_Sheet_homes : FM := runB 1 1 b_Sheet_homes
def F_Sheet_homes : FM := R_Sheet_homes

def b_households : SM := sRet (mMeth 0 F_Sheet_names (mMake 0 F_Sheet_init (aCons (mV 0) (aNil))) aNil)
def R_households : FM := runB 1 1 b_households
def F_households : FM := iso (R_households)

def b_homes : SM := sRet (mMeth 0 F_Sheet_homes (mMake 0 F_Sheet_init (aCons (mV 0) (aNil))) aNil)
def R_homes : FM := runB 1 1 b_homes
def F_homes : FM := iso (R_homes)

def b__law_box : SM := sSeq (sSet 2 (mIf (mTst (m2 pLt (mV 1) (mN pLen (aCons (mV 0) (aNil))))) (m2 pIx (mV 0) (mV 1)) (mC (.int 0))))
    (sRet (mN pLstB (aCons (m2 pMul (mN pAbs (aCons (mV 2) (aNil))) (mN pInt (aCons (m2 pGe (mN pAbs (aCons (mV 2) (aNil))) (m2 pPow (mC (.int 10)) (mC (.int 18)))) (aNil)))) (aCons (m2 pAdd (m2 pAdd (m2 pMod (mN pInt (aCons (mV 2) (aNil))) (mC (.int 2305843009213693951))) (m2 pMul (mC (.int 39373)) (mV 1))) (mC (.int 772))) (aCons (mC (.int 0)) (aNil))))))
def R__law_box : FM := runB 3 2 b__law_box
def F__law_box : FM := R__law_box

def b__law_six : SM := sSeq (sSet 0 (mN pTup (aCons (mN pTup (aCons (mC (.str ("ann" : Str))) (aCons (mN pTup (aCons (mC (.str ("bob" : Str))) (aNil))) (aNil)))) (aCons (mN pTup (aCons (mC (.str ("bob" : Str))) (aCons (mN pTup (aCons (mC (.str ("ann" : Str))) (aCons (mC (.str ("cat" : Str))) (aNil)))) (aNil)))) (aCons (mN pTup (aCons (mC (.str ("cat" : Str))) (aCons (mN pTup (aCons (mC (.str ("bob" : Str))) (aCons (mC (.str ("dan" : Str))) (aCons (mC (.str ("eve" : Str))) (aNil))))) (aNil)))) (aCons (mN pTup (aCons (mC (.str ("dan" : Str))) (aCons (mN pTup (aCons (mC (.str ("cat" : Str))) (aCons (mC (.str ("eve" : Str))) (aNil)))) (aNil)))) (aNil)))))))
    (sRet (mN pTup (aCons (m2 pAdd (mV 0) (mN pTup (aCons (mN pTup (aCons (mC (.str ("eve" : Str))) (aCons (mN pTup (aCons (mC (.str ("cat" : Str))) (aCons (mC (.str ("dan" : Str))) (aNil)))) (aNil)))) (aCons (mN pTup (aCons (mC (.str ("fay" : Str))) (aCons (mN pTup (aCons (mC (.str ("cat" : Str))) (aCons (mC (.str ("new" : Str))) (aNil)))) (aNil)))) (aNil))))) (aCons (mN pTup (aCons (mC (.str ("new" : Str))) (aNil))) (aNil)))))
def R__law_six : FM := runB 1 0 b__law_six
def F__law_six : FM := iso (R__law_six)

def b__law_blend (self : FM) : SM := sSeq (sIf (cNot (mTru pTru (m1 (pIsa ["list", "tuple"]) (mV 1)))) (sRet (mV 1)) (sNil))
    (sSeq (sSet 2 (mN pLst (mLcI [3] (iSeq (mV 1)) (gN 3) (cYes) (mF self (aCons (mV 0) (aCons (mV 3) (aNil)))))))
    (sRet (mIf (mTst (m2 pEq (mF F__law_take (aCons (mV 0) (aCons (mC (.int 2)) (aNil)))) (mC (.int 0)))) (mV 2) (mN pTuple (aCons (mV 2) (aNil))))))
def F__law_blend : Nat → FM
  | 0 => fun _ _ => .bad
  | n + 1 => view (runB 4 2 (b__law_blend (F__law_blend n)))

def b__law_by_hand_right : SM := sSeq (sSet 0 (mN pLstB (aCons (mN pTup (aCons (mN pTup (aNil)) (aCons (mN pTup (aNil)) (aNil)))) (aCons (mN pTup (aCons (mN pTup (aCons (mN pTup (aCons (mC (.str ("b" : Str))) (aCons (mN pTup (aNil)) (aNil)))) (aNil))) (aCons (mN pTup (aCons (mC (.str ("a" : Str))) (aNil))) (aNil)))) (aCons (mN pTup (aCons (mN pTup (aNil)) (aCons (mN pTup (aCons (mC (.str ("a" : Str))) (aCons (mC (.str ("zz" : Str))) (aNil)))) (aNil)))) (aCons (mF F__law_six aNil) (aNil)))))))
    (sSeq (sDrop (mLm pAppend (mV 0) (aCons (mN pTup (aCons (mN pTup (aCons (mN pTup (aCons (mC (.str ("a" : Str))) (aCons (mN pTup (aCons (mC (.str ("q" : Str))) (aNil))) (aNil)))) (aCons (mN pTup (aCons (mC (.str ("c" : Str))) (aCons (mN pTup (aCons (mC (.str ("a" : Str))) (aNil))) (aNil)))) (aNil)))) (aCons (mN pTup (aCons (mC (.str ("b" : Str))) (aCons (mC (.str ("d" : Str))) (aNil)))) (aNil)))) (aNil))))
    (sSeq (sSet 1 (mN pLst (mLcI [2] (iSeq (mFrz (mV 0))) (gN 2) (cYes) (mN pLst (aCons (mF F_households (aCons (mV 2) (aNil))) (aCons (mF F_homes (aCons (mV 2) (aNil))) (aNil)))))))
    (sSeq (sSet 3 (mN pLst (aCons (mN pLst (aCons (mN pTup (aNil)) (aCons (mN pTup (aNil)) (aNil)))) (aCons (mN pLst (aCons (mN pTup (aCons (mC (.str ("b" : Str))) (aNil))) (aCons (mN pTup (aCons (mC (.str ("a" : Str))) (aCons (mC (.str ("b" : Str))) (aNil)))) (aNil)))) (aCons (mN pLst (aCons (mN pTup (aNil)) (aCons (mN pTup (aCons (mC (.str ("a" : Str))) (aCons (mC (.str ("zz" : Str))) (aNil)))) (aNil)))) (aNil))))))
    (sSeq (sSet 3 (m2 pAdd (mV 3) (mN pLst (aCons (mN pLst (aCons (mN pTup (aCons (mC (.str ("ann" : Str))) (aCons (mC (.str ("bob" : Str))) (aCons (mC (.str ("cat" : Str))) (aCons (mC (.str ("dan" : Str))) (aCons (mC (.str ("eve" : Str))) (aCons (mC (.str ("fay" : Str))) (aNil)))))))) (aCons (mN pTup (aCons (mC (.str ("ann" : Str))) (aCons (mC (.str ("bob" : Str))) (aCons (mC (.str ("cat" : Str))) (aCons (mC (.str ("dan" : Str))) (aCons (mC (.str ("eve" : Str))) (aCons (mC (.str ("fay" : Str))) (aCons (mC (.str ("new" : Str))) (aNil))))))))) (aNil)))) (aNil)))))
    (sRet (mF (F__law_same 8) (aCons (mV 1) (aCons (m2 pAdd (mV 3) (mN pLst (aCons (mN pLst (aCons (mN pTup (aCons (mC (.str ("a" : Str))) (aCons (mC (.str ("c" : Str))) (aNil)))) (aCons (mN pTup (aCons (mC (.str ("a" : Str))) (aCons (mC (.str ("b" : Str))) (aCons (mC (.str ("c" : Str))) (aCons (mC (.str ("d" : Str))) (aNil)))))) (aNil)))) (aNil)))) (aNil)))))))))
def R__law_by_hand_right : FM := runB 4 0 b__law_by_hand_right
def F__law_by_hand_right : FM := iso (R__law_by_hand_right)

def b__law_right : SM := sSeq (sIf (cNot (mTru pTru (mF F__law_by_hand_right aNil))) (sRet (mC (.bl false))) (sNil))
    (sSeq (sFor (iRg rg1 (aCons (mC (.int 12)) (aNil))) (gN 1) (sSeq (sSet 2 (mF F__law_tome (aCons (mV 0) (aCons (mC (.int 8)) (aCons (mC (.int 3)) (aNil))))))
    (sSeq (sPars [3, 4] (aCons (mF (F__law_lists 8) (aCons (mV 2) (aNil))) (aCons (mN pTuple (aCons (mN pLst (mLcI [5] (iSeq (m2 pIx (mV 2) (mC (.int 0)))) (gN 5) (cYes) (m2 pIx (mV 5) (mC (.int 0))))) (aNil))) (aNil))))
    (sSeq (sSet 6 (mN pLst (aCons (mV 4) (aCons (mN pTuple (aCons (mN pSorted (aCons (m2 pAdd (mV 4) (m2 pIx (mV 2) (mC (.int 1)))) (aNil))) (aNil))) (aNil)))))
    (sSeq (sIf (cNot (mTru pTru (mF (F__law_same 8) (aCons (mN pLst (aCons (mF F_households (aCons (mV 2) (aNil))) (aCons (mF F_homes (aCons (mV 2) (aNil))) (aNil)))) (aCons (mV 6) (aNil)))))) (sRet (mC (.bl false))) (sNil))
    (sSeq (sIf (cOr (cNot (mTru pTru (mF (F__law_same 8) (aCons (mN pLst (aCons (mF F_households (aCons (mV 3) (aNil))) (aCons (mF F_homes (aCons (mV 3) (aNil))) (aNil)))) (aCons (mV 6) (aNil)))))) (mTst (m2 pNe (mV 3) (mF (F__law_lists 8) (aCons (mV 2) (aNil)))))) (sRet (mC (.bl false))) (sNil))
    (sSeq (sSet 7 (mF (F__law_blend 8) (aCons (mV 0) (aCons (mV 2) (aNil)))))
    (sIf (cNot (mTru pTru (mF (F__law_same 8) (aCons (mN pLst (aCons (mF F_households (aCons (mV 7) (aNil))) (aCons (mF F_homes (aCons (mV 7) (aNil))) (aNil)))) (aCons (mV 6) (aNil)))))) (sRet (mC (.bl false))) (sNil)))))))))
    (sRet (mC (.bl true))))
def R__law_right : FM := runB 8 1 b__law_right
def F__law_right : FM := view (R__law_right)

def b_law : SM := sSeq (sSet 1 (mF F__law_cells (aCons (mV 0) (aCons (mC (.int 3)) (aNil)))))
    (sRet (mN pAll (aCons (mN pLst (mLcI [2] (iRg rg1 (aCons (mN pLen (aCons (mV 1) (aNil))) (aNil))) (gN 2) (cYes) (mF F__law_right (aCons (mF F__law_box (aCons (mV 1) (aCons (mV 2) (aNil)))) (aNil))))) (aNil))))
def R_law : FM := runB 3 1 b_law
def F_law : FM := R_law
end K01
/-! the walk -/
namespace K01
open PySem PySem.Spec PyProof.Rows L2 Sm Hn
def topS (i : Nat) : Stmt := PySem.Challenge.pw_crosshomes_k01_households_and_homes.main.body.getD i (.Pass ⟨0, 0, 0, 0⟩)
section
variable {P : Program} {w : World} {G : Gs} {mg : Str → Option Value} {base : Heap}
abbrev s_tupled : Stmt := topS 2
theorem sc_tupled : FnScope ["thing", "part"] ["thing"] (defScope s_tupled) := ⟨rfl, rfl, rfl, by decide +kernel, rfl, by decide +kernel, by decide +kernel⟩
theorem w_tupled (z_isinstance : mg "isinstance" = none) (z_list : mg "list" = none) (z_tuple : mg "tuple" = none) {f : Addr} {fd : FuncData} (Fu : Fun G.K "tupled" "tupled" s_tupled f fd) (hmg : mg "tupled" = some (.ref f)) : ∀ n : Nat, Cal P w G mg base (0 + n) "tupled" 1 [] (F_tupled n)
  | 0 => Cal.bad hmg Fu.kp
  | n + 1 => by
    have hself := w_tupled z_isinstance z_list z_tuple Fu hmg n
    refine (Cal.fn hmg Fu (show FnOk P w G.K mg base (L2.CX P w) (0 + n + 1) f fd ["thing"] (SpM G (runB 2 1 (b_tupled (F_tupled n)))) from fn_ok2 rfl rfl Fu sc_tupled ?_) (Fu.binds (ps := ["thing"]) fun _ _ _ _ _ _ us hl => match us, hl with | [_], _ => rfl)).isoC
    exact fun cdv A outer s H E B hp =>
        ss_one (s_ret (e_if (xtru B (xisaT B z_isinstance ["list", "tuple"] (xv 0) (pa_cons (xty z_list PyProof.Rows.boot_list) (pa_cons (xty z_tuple PyProof.Rows.boot_tuple) (pa_nil))))) (xt (b_tuple B.hK B.calm) z_tuple PyProof.Rows.boot_tuple (xa (ylc [("part", 1)] lEnd B (i_seq (Bx.hK B) (xv 0)) (fun s1 H1 C1 cl1 fp1 => yname 1 (B.blk s1 H1 _ _ fp1)) (g_name) (fun s1 H1 C1 cl1 fp1 => ts_nil) (fun s1 H1 C1 cl1 fp1 => xcall hself ((B.blk s1 H1 _ _ fp1).le (by omega)) (xa (xv 1) (a_nil)))) (a_nil))) (xv 0)))
abbrev s_as_set : Stmt := topS 3
theorem sc_as_set : FnScope ["names"] ["names"] (defScope s_as_set) := ⟨rfl, rfl, rfl, by decide +kernel, rfl, by decide +kernel, by decide +kernel⟩
theorem w_as_set (z_set : mg "set" = none) (z_sorted : mg "sorted" = none) (z_tuple : mg "tuple" = none) {f : Addr} {fd : FuncData} (Fu : Fun G.K "as_set" "as_set" s_as_set f fd) : FnOk P w G.K mg base (L2.CX P w) 1 f fd ["names"] (SpM G R_as_set) := by
  show FnOk P w G.K mg base (L2.CX P w) (0 + 1) f fd ["names"] (SpM G (runB 1 1 b_as_set))
  refine fn_ok2 rfl rfl Fu sc_as_set ?_
  exact fun cdv A outer s H E B hp =>
    ss_one (s_ret (xt (b_tuple B.hK B.calm) z_tuple PyProof.Rows.boot_tuple (xa (xss B z_sorted z_set (xv 0)) (a_nil))))
theorem bd_as_set {f : Addr} {fd : FuncData} (Fu : Fun G.K "as_set" "as_set" s_as_set f fd) : Binds G.K fd ["names"] [] := Fu.binds (ps := ["names"]) fun _ _ _ _ _ _ us hl => match us, hl with | [_], _ => rfl
abbrev s_Sheet_init : Stmt := inClass (topS 5) 1
theorem sc_Sheet_init : FnScope ["self", "sheet", "rows", "empties", "name", "wants"] ["self", "sheet"] (defScope s_Sheet_init) := ⟨rfl, rfl, rfl, by decide +kernel, rfl, by decide +kernel, by decide +kernel⟩
theorem w_Sheet_init (hc_Sheet : SlX.SCls G.K (G.cls 0)) {pp_own_empties : Addr} (sl_own_empties : SlX.Slot1 G.K (G.cls 0) "own_empties" pp_own_empties 0) {pp_own_homes : Addr} (sl_own_homes : SlX.Slot1 G.K (G.cls 0) "own_homes" pp_own_homes 1) {pp_own_rows : Addr} (sl_own_rows : SlX.Slot1 G.K (G.cls 0) "own_rows" pp_own_rows 2) (z_list : mg "list" = none) (c_tupled : ∀ n : Nat, Cal P w G mg base (0 + n) "tupled" 1 [] (F_tupled n)) {f : Addr} {fd : FuncData} (Fu : Fun G.K "__init__" "Sheet.__init__" s_Sheet_init f fd) : FnOk P w G.K mg base (L2.CX P w) 9 f fd ["self", "sheet"] (SpM G R_Sheet_init) := by
  show FnOk P w G.K mg base (L2.CX P w) (8 + 1) f fd ["self", "sheet"] (SpM G (runB 6 2 b_Sheet_init))
  refine fn_ok2 rfl rfl Fu sc_Sheet_init ?_
  exact fun cdv A outer s H E B hp =>
    ss_cons (yasg (ytup B (pgs_cons (yname 2 B) (pgs_cons (yname 3 B) (pgs_nil)))) (ytupS (Bx.hK B) (glen_cons (glen_cons (glen_nil))) (gs_cons (g_name) (gs_cons (g_name) (gs_nil)))) (xcall (c_tupled 8) (B.le (by omega)) (xa (xv 1) (a_nil))))
    (ss_cons (yfld B hc_Sheet sl_own_rows (xv 0) (ydc [("name", 4), ("wants", 5)] dEnd B (i_seq (Bx.hK B) (xv 2)) (fun s1 H1 C1 cl1 fp1 => ytup (B.blk s1 H1 _ _ fp1) (pgs_cons (yname 4 (B.blk s1 H1 _ _ fp1)) (pgs_cons (yname 5 (B.blk s1 H1 _ _ fp1)) (pgs_nil)))) (ytupS (Bx.hK B) (glen_cons (glen_cons (glen_nil))) (gs_cons (g_name) (gs_cons (g_name) (gs_nil)))) (fun s1 H1 C1 cl1 fp1 => ts_nil) (fun s1 H1 C1 cl1 fp1 => xv 4) (fun s1 H1 C1 cl1 fp1 => xv 5)))
    (ss_cons (yfld B hc_Sheet sl_own_empties (xv 0) (xv 3))
    (ss_one (yfld B hc_Sheet sl_own_homes (xv 0) (ydc [("name", 4)] dEnd B (i_seq (Bx.hK B) (e_op (o_add B.hK) (xt (b_list B.hK B.calm) z_list PyProof.Rows.boot_list (xa (xfld B hc_Sheet sl_own_rows (xv 0)) (a_nil))) (xt (b_list B.hK B.calm) z_list PyProof.Rows.boot_list (xa (xv 3) (a_nil))))) (fun s1 H1 C1 cl1 fp1 => yname 4 (B.blk s1 H1 _ _ fp1)) (g_name) (fun s1 H1 C1 cl1 fp1 => ts_nil) (fun s1 H1 C1 cl1 fp1 => xv 4) (fun s1 H1 C1 cl1 fp1 => e_bl))))))
theorem bd_Sheet_init {f : Addr} {fd : FuncData} (Fu : Fun G.K "__init__" "Sheet.__init__" s_Sheet_init f fd) : Binds G.K fd ["self", "sheet"] [] := Fu.binds (ps := ["self", "sheet"]) fun _ _ _ _ _ _ us hl => match us, hl with | [_, _], _ => rfl
abbrev s_Sheet_names : Stmt := inClass (topS 5) 2
theorem sc_Sheet_names : FnScope ["self"] ["self"] (defScope s_Sheet_names) := ⟨rfl, rfl, rfl, by decide +kernel, rfl, by decide +kernel, by decide +kernel⟩
theorem w_Sheet_names (hc_Sheet : SlX.SCls G.K (G.cls 0)) {pp_own_rows : Addr} (sl_own_rows : SlX.Slot1 G.K (G.cls 0) "own_rows" pp_own_rows 2) (z_tuple : mg "tuple" = none) {f : Addr} {fd : FuncData} (Fu : Fun G.K "names" "Sheet.names" s_Sheet_names f fd) : FnOk P w G.K mg base (L2.CX P w) 1 f fd ["self"] (SpM G R_Sheet_names) := by
  show FnOk P w G.K mg base (L2.CX P w) (0 + 1) f fd ["self"] (SpM G (runB 1 1 b_Sheet_names))
  refine fn_ok2 rfl rfl Fu sc_Sheet_names ?_
  exact fun cdv A outer s H E B hp =>
    ss_one (s_ret (xt (b_tuple B.hK B.calm) z_tuple PyProof.Rows.boot_tuple (xa (xfld B hc_Sheet sl_own_rows (xv 0)) (a_nil))))
theorem bd_Sheet_names {f : Addr} {fd : FuncData} (Fu : Fun G.K "names" "Sheet.names" s_Sheet_names f fd) : Binds G.K fd ["self"] [] := Fu.binds (ps := ["self"]) fun _ _ _ _ _ _ us hl => match us, hl with | [_], _ => rfl
abbrev s_Sheet_homes : Stmt := inClass (topS 5) 4
theorem sc_Sheet_homes : FnScope ["self"] ["self"] (defScope s_Sheet_homes) := ⟨rfl, rfl, rfl, by decide +kernel, rfl, by decide +kernel, by decide +kernel⟩
theorem w_Sheet_homes (hc_Sheet : SlX.SCls G.K (G.cls 0)) {pp_own_homes : Addr} (sl_own_homes : SlX.Slot1 G.K (G.cls 0) "own_homes" pp_own_homes 1) (c_as_set : Cal P w G mg base 1 "as_set" 1 [] F_as_set) {f : Addr} {fd : FuncData} (Fu : Fun G.K "homes" "Sheet.homes" s_Sheet_homes f fd) : FnOk P w G.K mg base (L2.CX P w) 2 f fd ["self"] (SpM G R_Sheet_homes) := by
  show FnOk P w G.K mg base (L2.CX P w) (1 + 1) f fd ["self"] (SpM G (runB 1 1 b_Sheet_homes))
  refine fn_ok2 rfl rfl Fu sc_Sheet_homes ?_
  exact fun cdv A outer s H E B hp =>
    ss_one (s_ret (xcall c_as_set (B.le (by omega)) (xa (xfld B hc_Sheet sl_own_homes (xv 0)) (a_nil))))
theorem bd_Sheet_homes {f : Addr} {fd : FuncData} (Fu : Fun G.K "homes" "Sheet.homes" s_Sheet_homes f fd) : Binds G.K fd ["self"] [] := Fu.binds (ps := ["self"]) fun _ _ _ _ _ _ us hl => match us, hl with | [_], _ => rfl
abbrev s_households : Stmt := topS 6
theorem sc_households : FnScope ["sheet"] ["sheet"] (defScope s_households) := ⟨rfl, rfl, rfl, by decide +kernel, rfl, by decide +kernel, by decide +kernel⟩
theorem w_households (c_Sheet_init : CalI P w G mg base 9 0 "Sheet" 1 F_Sheet_init) (c_Sheet_names : CalM P w G mg base 1 0 "names" 0 F_Sheet_names) {f : Addr} {fd : FuncData} (Fu : Fun G.K "households" "households" s_households f fd) : FnOk P w G.K mg base (L2.CX P w) 11 f fd ["sheet"] (SpM G R_households) := by
  show FnOk P w G.K mg base (L2.CX P w) (10 + 1) f fd ["sheet"] (SpM G (runB 1 1 b_households))
  refine fn_ok2 rfl rfl Fu sc_households ?_
  exact fun cdv A outer s H E B hp =>
    ss_one (s_ret (ymeth0 c_Sheet_names (B.le (by omega)) (ymake c_Sheet_init (B.le (by omega)) (xa (xv 0) (a_nil)))))
theorem bd_households {f : Addr} {fd : FuncData} (Fu : Fun G.K "households" "households" s_households f fd) : Binds G.K fd ["sheet"] [] := Fu.binds (ps := ["sheet"]) fun _ _ _ _ _ _ us hl => match us, hl with | [_], _ => rfl
abbrev s_homes : Stmt := topS 7
theorem sc_homes : FnScope ["sheet"] ["sheet"] (defScope s_homes) := ⟨rfl, rfl, rfl, by decide +kernel, rfl, by decide +kernel, by decide +kernel⟩
theorem w_homes (c_Sheet_init : CalI P w G mg base 9 0 "Sheet" 1 F_Sheet_init) (c_Sheet_homes : CalM P w G mg base 2 0 "homes" 0 F_Sheet_homes) {f : Addr} {fd : FuncData} (Fu : Fun G.K "homes" "homes" s_homes f fd) : FnOk P w G.K mg base (L2.CX P w) 11 f fd ["sheet"] (SpM G R_homes) := by
  show FnOk P w G.K mg base (L2.CX P w) (10 + 1) f fd ["sheet"] (SpM G (runB 1 1 b_homes))
  refine fn_ok2 rfl rfl Fu sc_homes ?_
  exact fun cdv A outer s H E B hp =>
    ss_one (s_ret (ymeth0 c_Sheet_homes (B.le (by omega)) (ymake c_Sheet_init (B.le (by omega)) (xa (xv 0) (a_nil)))))
theorem bd_homes {f : Addr} {fd : FuncData} (Fu : Fun G.K "homes" "homes" s_homes f fd) : Binds G.K fd ["sheet"] [] := Fu.binds (ps := ["sheet"]) fun _ _ _ _ _ _ us hl => match us, hl with | [_], _ => rfl
abbrev s__law_box : Stmt := topS 9
theorem sc__law_box : FnScope ["_law_script", "_law_k", "_law_cell"] ["_law_script", "_law_k"] (defScope s__law_box) := ⟨rfl, rfl, rfl, by decide +kernel, rfl, by decide +kernel, by decide +kernel⟩
theorem w__law_box (z_abs : mg "abs" = none) (z_int : mg "int" = none) (z_len : mg "len" = none) {f : Addr} {fd : FuncData} (Fu : Fun G.K "_law_box" "_law_box" s__law_box f fd) : FnOk P w G.K mg base (L2.CX P w) 1 f fd ["_law_script", "_law_k"] (SpM G R__law_box) := by
  show FnOk P w G.K mg base (L2.CX P w) (0 + 1) f fd ["_law_script", "_law_k"] (SpM G (runB 3 2 b__law_box))
  refine fn_ok2 rfl rfl Fu sc__law_box ?_
  exact fun cdv A outer s H E B hp =>
    ss_cons (yset 2 B (e_if (xcmpT (o_lt) (xv 1) (xb (b_len B.hK) z_len PySem.boot_len (xa (xv 0) (a_nil)))) (xix B (xv 0) (xv 1)) (e_int)))
    (ss_one (s_ret (e_lstB (xa (e_op (o_mul) (xb (b_abs) z_abs PyProof.Rows.boot_abs (xa (xv 2) (a_nil))) (xt (b_int) z_int PyProof.Rows.boot_int (xa (xcmp (o_ge) (xb (b_abs) z_abs PyProof.Rows.boot_abs (xa (xv 2) (a_nil))) (e_op (o_pow) (e_int) (e_int))) (a_nil)))) (xa (e_op (o_add B.hK) (e_op (o_add B.hK) (e_op (o_mod) (xt (b_int) z_int PyProof.Rows.boot_int (xa (xv 2) (a_nil))) (e_int)) (e_op (o_mul) (e_int) (xv 1))) (e_int)) (xa (e_int) (a_nil)))))))
theorem bd__law_box {f : Addr} {fd : FuncData} (Fu : Fun G.K "_law_box" "_law_box" s__law_box f fd) : Binds G.K fd ["_law_script", "_law_k"] [] := Fu.binds (ps := ["_law_script", "_law_k"]) fun _ _ _ _ _ _ us hl => match us, hl with | [_, _], _ => rfl
abbrev s__law_take : Stmt := topS 10
theorem sc__law_take : FnScope ["_law_urn", "_law_low_so", "_law_drawn", "_law_once", "_law_far", "_law_twice"] ["_law_urn", "_law_low_so"] (defScope s__law_take) := ⟨rfl, rfl, rfl, by decide +kernel, rfl, by decide +kernel, by decide +kernel⟩
theorem w__law_take (z_int : mg "int" = none) {f : Addr} {fd : FuncData} (Fu : Fun G.K "_law_take" "_law_take" s__law_take f fd) : FnOk P w G.K mg base (L2.CX P w) 1 f fd ["_law_urn", "_law_low_so"] (SpM G R__law_take) := by
  show FnOk P w G.K mg base (L2.CX P w) (0 + 1) f fd ["_law_urn", "_law_low_so"] (SpM G (runB 6 2 b__law_take))
  refine fn_ok2 rfl rfl Fu sc__law_take ?_
  exact fun cdv A outer s H E B hp =>
    ss_cons (s_if (xcmpT (o_gt) (xix B (xv 0) (e_int)) (e_int)) (ss_cons (yset 2 B (e_op (o_mod) (xt (b_int) z_int PyProof.Rows.boot_int (xa (xix B (xv 0) (e_int)) (a_nil))) (xv 1)))
    (ss_cons (ysub B (xv 0) (e_int) (e_op (o_div) (xix B (xv 0) (e_int)) (xv 1)))
    (ss_one (s_ret (xv 2))))) (ss_nil))
    (ss_cons (ysub B (xv 0) (e_int) (e_op (o_add B.hK) (xix B (xv 0) (e_int)) (e_int)))
    (ss_cons (yset 3 B (e_op (o_mod) (xt (b_int) z_int PyProof.Rows.boot_int (xa (e_op (o_mul) (e_op (o_add B.hK) (xix B (xv 0) (e_int)) (e_op (o_mul) (e_int) (xix B (xv 0) (e_int)))) (e_op (o_add B.hK) (e_int) (xix B (xv 0) (e_int)))) (a_nil))) (e_int)))
    (ss_cons (yset 4 B (e_op (o_add B.hK) (e_op (o_mod) (xt (b_int) z_int PyProof.Rows.boot_int (xa (xv 3) (a_nil))) (e_int)) (e_int)))
    (ss_cons (yset 5 B (e_op (o_mod) (xt (b_int) z_int PyProof.Rows.boot_int (xa (e_op (o_mul) (e_op (o_add B.hK) (e_op (o_add B.hK) (xv 3) (xix B (xv 0) (e_int))) (e_op (o_div) (xix B (xv 0) (e_int)) (e_int))) (xv 4)) (a_nil))) (e_int)))
    (ss_one (s_ret (e_op (o_mod) (xt (b_int) z_int PyProof.Rows.boot_int (xa (e_op (o_div) (e_op (o_mod) (xt (b_int) z_int PyProof.Rows.boot_int (xa (e_op (o_add B.hK) (e_op (o_mul) (xv 5) (e_int)) (xv 3)) (a_nil))) (e_int)) (e_int)) (a_nil))) (xv 1))))))))
theorem bd__law_take {f : Addr} {fd : FuncData} (Fu : Fun G.K "_law_take" "_law_take" s__law_take f fd) : Binds G.K fd ["_law_urn", "_law_low_so"] [] := Fu.binds (ps := ["_law_urn", "_law_low_so"]) fun _ _ _ _ _ _ us hl => match us, hl with | [_, _], _ => rfl
abbrev s__law_cells : Stmt := topS 11
theorem sc__law_cells : FnScope ["_law_script", "_law_top", "_law_cells_here", "_law_k", "_law_cell", "_law_at_so"] ["_law_script", "_law_top"] (defScope s__law_cells) := ⟨rfl, rfl, rfl, by decide +kernel, rfl, by decide +kernel, by decide +kernel⟩
theorem w__law_cells (z_enumerate : mg "enumerate" = none) (z_int : mg "int" = none) (z_list : mg "list" = none) {f : Addr} {fd : FuncData} (Fu : Fun G.K "_law_cells" "_law_cells" s__law_cells f fd) : FnOk P w G.K mg base (L2.CX P w) 1 f fd ["_law_script", "_law_top"] (SpM G R__law_cells) := by
  show FnOk P w G.K mg base (L2.CX P w) (0 + 1) f fd ["_law_script", "_law_top"] (SpM G (runB 6 2 b__law_cells))
  refine fn_ok2 rfl rfl Fu sc__law_cells ?_
  exact fun cdv A outer s H E B hp =>
    ss_cons (yset 2 B (xorT B (xt (b_listB B.hK B.calm) z_list PyProof.Rows.boot_list (xa (e_sl (sl_any B.hK) (xv 0) (o_no) (o_pt (xv 1))) (a_nil))) (e_one (e_lstB (xa (e_int) (a_nil))))))
    (ss_cons (yfor hp B (yenum B z_enumerate (xa (e_sl (sl_any B.hK) (xv 0) (o_pt (xv 1)) (o_pt (e_int))) (a_nil))) (ytup B (pgs_cons (yname 3 B) (pgs_cons (yname 4 B) (pgs_nil)))) (ytupS (Bx.hK B) (glen_cons (glen_cons (glen_nil))) (gs_cons (g_name) (gs_cons (g_name) (gs_nil)))) (ss_cons (yset 5 B (e_op (o_mod) (xt (b_int) z_int PyProof.Rows.boot_int (xa (xv 3) (a_nil))) (xv 1)))
    (ss_one (ysub B (xv 2) (xv 5) (e_op (o_add B.hK) (xix B (xv 2) (xv 5)) (e_op (o_mul) (xv 4) (e_op (o_add B.hK) (xv 3) (e_int))))))))
    (ss_one (s_ret (e_frz (xv 2)))))
theorem bd__law_cells {f : Addr} {fd : FuncData} (Fu : Fun G.K "_law_cells" "_law_cells" s__law_cells f fd) : Binds G.K fd ["_law_script", "_law_top"] [] := Fu.binds (ps := ["_law_script", "_law_top"]) fun _ _ _ _ _ _ us hl => match us, hl with | [_, _], _ => rfl
abbrev s__law_same : Stmt := topS 13
theorem sc__law_same : FnScope ["_law_got", "_law_goal", "_law_mine_so", "_law_own"] ["_law_got", "_law_goal"] (defScope s__law_same) := ⟨rfl, rfl, rfl, by decide +kernel, rfl, by decide +kernel, by decide +kernel⟩
theorem w__law_same (z_all : mg "all" = none) (z_bool : mg "bool" = none) (z_int : mg "int" = none) (z_isinstance : mg "isinstance" = none) (z_len : mg "len" = none) (z_list : mg "list" = none) (z_str : mg "str" = none) (z_tuple : mg "tuple" = none) (z_zip : mg "zip" = none) {f : Addr} {fd : FuncData} (Fu : Fun G.K "_law_same" "_law_same" s__law_same f fd) (hmg : mg "_law_same" = some (.ref f)) : ∀ n : Nat, Cal P w G mg base (0 + n) "_law_same" 2 [] (F__law_same n)
  | 0 => Cal.bad hmg Fu.kp
  | n + 1 => by
    have hself := w__law_same z_all z_bool z_int z_isinstance z_len z_list z_str z_tuple z_zip Fu hmg n
    refine (Cal.fn hmg Fu (show FnOk P w G.K mg base (L2.CX P w) (0 + n + 1) f fd ["_law_got", "_law_goal"] (SpM G (runB 4 2 (b__law_same (F__law_same n)))) from fn_ok2 rfl rfl Fu sc__law_same ?_) (Fu.binds (ps := ["_law_got", "_law_goal"]) fun _ _ _ _ _ _ us hl => match us, hl with | [_, _], _ => rfl)).isoC
    exact fun cdv A outer s H E B hp =>
        ss_cons (s_if (xtru B (xisaT B z_isinstance ["list", "tuple"] (xv 1) (pa_cons (xty z_list PyProof.Rows.boot_list) (pa_cons (xty z_tuple PyProof.Rows.boot_tuple) (pa_nil))))) (ss_cons (s_if (L2.PW.pt (w_or (xcmpT (o_ne B.room.units B.hK) (xisa B z_isinstance (xv 0) (xty z_list PyProof.Rows.boot_list)) (xisa B z_isinstance (xv 1) (xty z_list PyProof.Rows.boot_list))) (w_or1 (xcmpT (o_ne B.room.units B.hK) (xisa B z_isinstance (xv 0) (xty z_tuple PyProof.Rows.boot_tuple)) (xisa B z_isinstance (xv 1) (xty z_tuple PyProof.Rows.boot_tuple)))))) (ss_one (s_ret (e_bl))) (ss_nil))
        (ss_one (s_ret (e_and (xcmp (o_eq B.room.units B.hK) (xb (b_len B.hK) z_len PySem.boot_len (xa (xv 0) (a_nil))) (xb (b_len B.hK) z_len PySem.boot_len (xa (xv 1) (a_nil)))) (e_one (xb (b_all B.hK B.calm) z_all PyProof.Rows.boot_all (xa (ylc [("_law_mine_so", 2), ("_law_own", 3)] lEnd B (yzip B z_zip (xa (xv 0) (xa (xv 1) (a_nil)))) (fun s1 H1 C1 cl1 fp1 => ytup (B.blk s1 H1 _ _ fp1) (pgs_cons (yname 2 (B.blk s1 H1 _ _ fp1)) (pgs_cons (yname 3 (B.blk s1 H1 _ _ fp1)) (pgs_nil)))) (ytupS (Bx.hK B) (glen_cons (glen_cons (glen_nil))) (gs_cons (g_name) (gs_cons (g_name) (gs_nil)))) (fun s1 H1 C1 cl1 fp1 => ts_nil) (fun s1 H1 C1 cl1 fp1 => xcall hself ((B.blk s1 H1 _ _ fp1).le (by omega)) (xa (xv 2) (xa (xv 3) (a_nil))))) (a_nil)))))))) (ss_nil))
        (ss_cons (s_if (L2.PW.pt (w_or (xcmpT (o_is) (xv 1) (e_non)) (w_or1 (xtru B (xisaT B z_isinstance ["bool", "str"] (xv 1) (pa_cons (xty z_bool PyProof.Rows.boot_bool) (pa_cons (xty z_str PyProof.Rows.boot_str) (pa_nil)))))))) (ss_one (s_ret (e_and (xcmp (o_eq B.room.units B.hK) (xv 0) (xv 1)) (e_and (xcmp (o_eq B.room.units B.hK) (xisa B z_isinstance (xv 0) (xty z_bool PyProof.Rows.boot_bool)) (xisa B z_isinstance (xv 1) (xty z_bool PyProof.Rows.boot_bool))) (e_one (xcmp (o_eq B.room.units B.hK) (xcmp (o_is) (xv 0) (e_non)) (xcmp (o_is) (xv 1) (e_non)))))))) (ss_nil))
        (ss_one (s_ret (e_and (xisa B z_isinstance (xv 0) (xty z_int PyProof.Rows.boot_int)) (e_and (e_not (xisa B z_isinstance (xv 0) (xty z_bool PyProof.Rows.boot_bool))) (e_one (xcmp (o_eq B.room.units B.hK) (xv 0) (xv 1))))))))
abbrev s__law_few : Stmt := topS 14
theorem sc__law_few : FnScope ["_law_urn", "_law_pool", "_law_one_of", "_law_own"] ["_law_urn", "_law_pool", "_law_one_of"] (defScope s__law_few) := ⟨rfl, rfl, rfl, by decide +kernel, rfl, by decide +kernel, by decide +kernel⟩
theorem w__law_few (z_tuple : mg "tuple" = none) (c__law_take : Cal P w G mg base 1 "_law_take" 2 [] F__law_take) {f : Addr} {fd : FuncData} (Fu : Fun G.K "_law_few" "_law_few" s__law_few f fd) : FnOk P w G.K mg base (L2.CX P w) 2 f fd ["_law_urn", "_law_pool", "_law_one_of"] (SpM G R__law_few) := by
  show FnOk P w G.K mg base (L2.CX P w) (1 + 1) f fd ["_law_urn", "_law_pool", "_law_one_of"] (SpM G (runB 4 3 b__law_few))
  refine fn_ok2 rfl rfl Fu sc__law_few ?_
  exact fun cdv A outer s H E B hp =>
    ss_one (s_ret (xt (b_tuple B.hK B.calm) z_tuple PyProof.Rows.boot_tuple (xa (ylc [("_law_own", 3)] lEnd B (i_seq (Bx.hK B) (xv 1)) (fun s1 H1 C1 cl1 fp1 => yname 3 (B.blk s1 H1 _ _ fp1)) (g_name) (fun s1 H1 C1 cl1 fp1 => ts_one (xcmpT (o_eq (B.blk s1 H1 _ _ fp1).room.units (B.blk s1 H1 _ _ fp1).hK) (xcall c__law_take ((B.blk s1 H1 _ _ fp1).le (by omega)) (xa (xv 0) (xa (xv 2) (a_nil)))) (e_int))) (fun s1 H1 C1 cl1 fp1 => xv 3)) (a_nil))))
theorem bd__law_few {f : Addr} {fd : FuncData} (Fu : Fun G.K "_law_few" "_law_few" s__law_few f fd) : Binds G.K fd ["_law_urn", "_law_pool", "_law_one_of"] [] := Fu.binds (ps := ["_law_urn", "_law_pool", "_law_one_of"]) fun _ _ _ _ _ _ us hl => match us, hl with | [_, _, _], _ => rfl
abbrev s__law_mixed : Stmt := topS 15
theorem sc__law_mixed : FnScope ["_law_urn", "_law_pool", "_law_left", "_law_found", "_law_turn"] ["_law_urn", "_law_pool"] (defScope s__law_mixed) := ⟨rfl, rfl, rfl, by decide +kernel, rfl, by decide +kernel, by decide +kernel⟩
theorem w__law_mixed (z_len : mg "len" = none) (z_list : mg "list" = none) (z_range : mg "range" = none) (z_tuple : mg "tuple" = none) (c__law_take : Cal P w G mg base 1 "_law_take" 2 [] F__law_take) {f : Addr} {fd : FuncData} (Fu : Fun G.K "_law_mixed" "_law_mixed" s__law_mixed f fd) : FnOk P w G.K mg base (L2.CX P w) 2 f fd ["_law_urn", "_law_pool"] (SpM G R__law_mixed) := by
  show FnOk P w G.K mg base (L2.CX P w) (1 + 1) f fd ["_law_urn", "_law_pool"] (SpM G (runB 5 2 b__law_mixed))
  refine fn_ok2 rfl rfl Fu sc__law_mixed ?_
  exact fun cdv A outer s H E B hp =>
    ss_cons (s_par2 B (xa (xt (b_listB B.hK B.calm) z_list PyProof.Rows.boot_list (xa (xv 1) (a_nil))) (xa (e_lstB (a_nil)) (a_nil))))
    (ss_cons (yfor hp B (yrg1 z_range (xa (xb (b_len B.hK) z_len PySem.boot_len (xa (xv 1) (a_nil))) (a_nil))) (yname 4 B) (g_name) (ss_one (yexpr (xlm B PySem.F.slot_list_append PySem.F.type_list_append m_append (xv 3) (xa (xlm B PySem.F.slot_list_pop PySem.F.type_list_pop m_popAt (xv 2) (xa (xcall c__law_take (B.le (by omega)) (xa (xv 0) (xa (xb (b_len B.hK) z_len PySem.boot_len (xa (xv 2) (a_nil))) (a_nil)))) (a_nil))) (a_nil))))))
    (ss_one (s_ret (xt (b_tuple B.hK B.calm) z_tuple PyProof.Rows.boot_tuple (xa (xv 3) (a_nil))))))
theorem bd__law_mixed {f : Addr} {fd : FuncData} (Fu : Fun G.K "_law_mixed" "_law_mixed" s__law_mixed f fd) : Binds G.K fd ["_law_urn", "_law_pool"] [] := Fu.binds (ps := ["_law_urn", "_law_pool"]) fun _ _ _ _ _ _ us hl => match us, hl with | [_, _], _ => rfl
abbrev s__law_tome : Stmt := topS 16
theorem sc__law_tome : FnScope ["_law_urn", "_law_most_so", "_law_free_so", "_law_left", "_law_many_so", "_law_empty_so", "_law_folk", "_law_free", "_law_table", "_law_style", "_law_wide", "_law_k", "_law_wants", "_law_far", "_law_way", "_law_rows_so", "_law_flat", "_law_own"] ["_law_urn", "_law_most_so", "_law_free_so"] (defScope s__law_tome) := ⟨rfl, rfl, rfl, by decide +kernel, rfl, by decide +kernel, by decide +kernel⟩
theorem w__law_tome (z_int : mg "int" = none) (z_list : mg "list" = none) (z_range : mg "range" = none) (z_set : mg "set" = none) (z_sorted : mg "sorted" = none) (z_tuple : mg "tuple" = none) (c__law_few : Cal P w G mg base 2 "_law_few" 3 [] F__law_few) (c__law_mixed : Cal P w G mg base 2 "_law_mixed" 2 [] F__law_mixed) (c__law_take : Cal P w G mg base 1 "_law_take" 2 [] F__law_take) {f : Addr} {fd : FuncData} (Fu : Fun G.K "_law_tome" "_law_tome" s__law_tome f fd) : FnOk P w G.K mg base (L2.CX P w) 3 f fd ["_law_urn", "_law_most_so", "_law_free_so"] (SpM G R__law_tome) := by
  show FnOk P w G.K mg base (L2.CX P w) (2 + 1) f fd ["_law_urn", "_law_most_so", "_law_free_so"] (SpM G (runB 18 3 b__law_tome))
  refine fn_ok2 rfl rfl Fu sc__law_tome ?_
  exact fun cdv A outer s H E B hp =>
    ss_cons (yset 3 B (e_lst (xa (e_str) (xa (e_str) (xa (e_str) (xa (e_str) (xa (e_str) (xa (e_str) (xa (e_str) (xa (e_str) (xa (e_str) (xa (e_str) (xa (e_str) (a_nil))))))))))))))
    (ss_cons (s_par2 B (xa (e_op (o_add B.hK) (e_int) (xcall c__law_take (B.le (by omega)) (xa (xv 0) (xa (xv 1) (a_nil))))) (xa (xcall c__law_take (B.le (by omega)) (xa (xv 0) (xa (e_op (o_add B.hK) (xv 2) (e_int)) (a_nil)))) (a_nil))))
    (ss_cons (yset 3 B (xt (b_list B.hK B.calm) z_list PyProof.Rows.boot_list (xa (xcall c__law_mixed (B.le (by omega)) (xa (xv 0) (xa (xv 3) (a_nil)))) (a_nil))))
    (ss_cons (s_par2 B (xa (e_sl (sl_any B.hK) (xv 3) (o_no) (o_pt (xv 4))) (xa (e_sl (sl_any B.hK) (xv 3) (o_pt (xv 4)) (o_pt (e_op (o_add B.hK) (xv 4) (xv 5)))) (a_nil))))
    (ss_cons (s_parT B (xa (e_dnew) (xa (xcall c__law_take (B.le (by omega)) (xa (xv 0) (xa (e_int) (a_nil)))) (xa (e_op (o_add B.hK) (e_int) (xcall c__law_take (B.le (by omega)) (xa (xv 0) (xa (e_int) (a_nil))))) (a_nil)))) (ytup B (pgs_cons (yname 8 B) (pgs_cons (yname 9 B) (pgs_cons (yname 10 B) (pgs_nil))))) (nm_cons (nm_cons (nm_cons (nm_nil)))))
    (ss_cons (yfor hp B (yrg1 z_range (xa (xv 4) (a_nil))) (yname 11 B) (g_name) (ss_cons (yset 12 B (e_op (o_mul) (e_lst (xa (xix B (xv 6) (e_op (o_mod) (xt (b_int) z_int PyProof.Rows.boot_int (xa (e_op (o_add B.hK) (xv 11) (e_int)) (a_nil))) (xv 4))) (a_nil))) (xt (b_int) z_int PyProof.Rows.boot_int (xa (xcmp (o_eq B.room.units B.hK) (xv 9) (e_int)) (a_nil)))))
    (ss_cons (yset 12 B (e_op (o_add B.hK) (xv 12) (xt (b_list B.hK B.calm) z_list PyProof.Rows.boot_list (xa (xcall c__law_few (B.le (by omega)) (xa (xv 0) (xa (xv 7) (xa (e_int) (a_nil))))) (a_nil)))))
    (ss_one (ysub B (xv 8) (xix B (xv 6) (xv 11)) (e_op o_addB (xv 12) (e_op (o_mul) (e_sl (sl_any B.hK) (xv 3) (o_pt (e_un u_neg (e_int))) (o_no)) (xt (b_int) z_int PyProof.Rows.boot_int (xa (xcmp (o_eq B.room.units B.hK) (xcall c__law_take (B.le (by omega)) (xa (xv 0) (xa (e_int) (a_nil)))) (e_int)) (a_nil))))))))))
    (ss_cons (yfor hp B (yrg1 z_range (xa (xv 4) (a_nil))) (yname 11 B) (g_name) (ss_one (yfor hp B (i_seq (Bx.hK B) (e_sl (sl_any B.hK) (xv 6) (o_pt (e_op (o_add B.hK) (xv 11) (e_int))) (o_no))) (yname 13 B) (g_name) (ss_cons (yset 14 B (xcall c__law_take (B.le (by omega)) (xa (xv 0) (xa (xv 10) (a_nil)))))
    (ss_cons (s_if (L2.PW.pt (w_or (xcmpT (o_eq B.room.units B.hK) (xv 14) (e_int)) (w_or1 (L2.PW.pt (w_and (xcmpT (o_eq B.room.units B.hK) (xv 14) (e_int)) (w_and1 (xcmpT (o_gt) (xv 9) (e_int)))))))) (ss_one (yexpr (xlm B PySem.F.slot_list_append PySem.F.type_list_append m_append (xix B (xv 8) (xix B (xv 6) (xv 11))) (xa (xv 13) (a_nil))))) (ss_nil))
    (ss_one (s_if (L2.PW.pt (w_or (xcmpT (o_eq B.room.units B.hK) (xv 14) (e_int)) (w_or1 (L2.PW.pt (w_and (xcmpT (o_eq B.room.units B.hK) (xv 14) (e_int)) (w_and1 (xcmpT (o_gt) (xv 9) (e_int)))))))) (ss_one (yexpr (xlm B PySem.F.slot_list_append PySem.F.type_list_append m_append (xix B (xv 8) (xv 13)) (xa (xix B (xv 6) (xv 11)) (a_nil))))) (ss_nil))))))))
    (ss_cons (ysetLc 15 [("_law_own", 17)] lEnd B (i_seq (Bx.hK B) (xv 6)) (fun s1 H1 C1 cl1 fp1 => yname 17 (B.blk s1 H1 _ _ fp1)) (g_name) (fun s1 H1 C1 cl1 fp1 => ts_nil) (fun s1 H1 C1 cl1 fp1 => e_tup (xa (xv 17) (xa (xt (b_tuple (B.blk s1 H1 _ _ fp1).hK (B.blk s1 H1 _ _ fp1).calm) z_tuple PyProof.Rows.boot_tuple (xa (xss (B.blk s1 H1 _ _ fp1) z_sorted z_set (ylc [("_law_flat", 16)] lEnd (B.blk s1 H1 _ _ fp1) (i_seq (Bx.hK (B.blk s1 H1 _ _ fp1)) (e_frz (xix (B.blk s1 H1 _ _ fp1) (xv 8) (xv 17)))) (fun s2 H2 C2 cl2 fp2 => yname 16 ((B.blk s1 H1 _ _ fp1).blk s2 H2 _ _ fp2)) (g_name) (fun s2 H2 C2 cl2 fp2 => ts_one (xcmpT (o_ne ((B.blk s1 H1 _ _ fp1).blk s2 H2 _ _ fp2).room.units ((B.blk s1 H1 _ _ fp1).blk s2 H2 _ _ fp2).hK) (xv 16) (xv 17))) (fun s2 H2 C2 cl2 fp2 => xv 16))) (a_nil))) (a_nil)))))
    (ss_one (s_ret (e_tup (xa (xt (b_tuple B.hK B.calm) z_tuple PyProof.Rows.boot_tuple (xa (xb (b_sorted B.hK B.room.units) z_sorted PyProof.Rows.boot_sorted (xa (xv 15) (a_nil))) (a_nil))) (xa (xt (b_tuple B.hK B.calm) z_tuple PyProof.Rows.boot_tuple (xa (xb (b_sorted B.hK B.room.units) z_sorted PyProof.Rows.boot_sorted (xa (xv 7) (a_nil))) (a_nil))) (a_nil)))))))))))))
theorem bd__law_tome {f : Addr} {fd : FuncData} (Fu : Fun G.K "_law_tome" "_law_tome" s__law_tome f fd) : Binds G.K fd ["_law_urn", "_law_most_so", "_law_free_so"] [] := Fu.binds (ps := ["_law_urn", "_law_most_so", "_law_free_so"]) fun _ _ _ _ _ _ us hl => match us, hl with | [_, _, _], _ => rfl
abbrev s__law_lists : Stmt := topS 17
theorem sc__law_lists : FnScope ["_law_matter", "_law_bit"] ["_law_matter"] (defScope s__law_lists) := ⟨rfl, rfl, rfl, by decide +kernel, rfl, by decide +kernel, by decide +kernel⟩
theorem w__law_lists (z_isinstance : mg "isinstance" = none) (z_list : mg "list" = none) (z_tuple : mg "tuple" = none) {f : Addr} {fd : FuncData} (Fu : Fun G.K "_law_lists" "_law_lists" s__law_lists f fd) (hmg : mg "_law_lists" = some (.ref f)) : ∀ n : Nat, Cal P w G mg base (0 + n) "_law_lists" 1 [] (F__law_lists n)
  | 0 => Cal.bad hmg Fu.kp
  | n + 1 => by
    have hself := w__law_lists z_isinstance z_list z_tuple Fu hmg n
    refine (Cal.fn hmg Fu (show FnOk P w G.K mg base (L2.CX P w) (0 + n + 1) f fd ["_law_matter"] (SpM G (runB 2 1 (b__law_lists (F__law_lists n)))) from fn_ok2 rfl rfl Fu sc__law_lists ?_) (Fu.binds (ps := ["_law_matter"]) fun _ _ _ _ _ _ us hl => match us, hl with | [_], _ => rfl)).isoC
    exact fun cdv A outer s H E B hp =>
        ss_one (s_ret (e_if (xtru B (xisaT B z_isinstance ["list", "tuple"] (xv 0) (pa_cons (xty z_list PyProof.Rows.boot_list) (pa_cons (xty z_tuple PyProof.Rows.boot_tuple) (pa_nil))))) (ylc [("_law_bit", 1)] lEnd B (i_seq (Bx.hK B) (xv 0)) (fun s1 H1 C1 cl1 fp1 => yname 1 (B.blk s1 H1 _ _ fp1)) (g_name) (fun s1 H1 C1 cl1 fp1 => ts_nil) (fun s1 H1 C1 cl1 fp1 => xcall hself ((B.blk s1 H1 _ _ fp1).le (by omega)) (xa (xv 1) (a_nil)))) (xv 0)))
abbrev s__law_six : Stmt := topS 18
theorem sc__law_six : FnScope ["_law_rows_so"] [] (defScope s__law_six) := ⟨rfl, rfl, rfl, by decide +kernel, rfl, by decide +kernel, by decide +kernel⟩
theorem w__law_six  {f : Addr} {fd : FuncData} (Fu : Fun G.K "_law_six" "_law_six" s__law_six f fd) : FnOk P w G.K mg base (L2.CX P w) 1 f fd [] (SpM G R__law_six) := by
  show FnOk P w G.K mg base (L2.CX P w) (0 + 1) f fd [] (SpM G (runB 1 0 b__law_six))
  refine fn_ok2 rfl rfl Fu sc__law_six ?_
  exact fun cdv A outer s H E B hp =>
    ss_cons (yset 0 B (e_tup (xa (e_tup (xa (e_str) (xa (e_tup (xa (e_str) (a_nil))) (a_nil)))) (xa (e_tup (xa (e_str) (xa (e_tup (xa (e_str) (xa (e_str) (a_nil)))) (a_nil)))) (xa (e_tup (xa (e_str) (xa (e_tup (xa (e_str) (xa (e_str) (xa (e_str) (a_nil))))) (a_nil)))) (xa (e_tup (xa (e_str) (xa (e_tup (xa (e_str) (xa (e_str) (a_nil)))) (a_nil)))) (a_nil)))))))
    (ss_one (s_ret (e_tup (xa (e_op (o_add B.hK) (xv 0) (e_tup (xa (e_tup (xa (e_str) (xa (e_tup (xa (e_str) (xa (e_str) (a_nil)))) (a_nil)))) (xa (e_tup (xa (e_str) (xa (e_tup (xa (e_str) (xa (e_str) (a_nil)))) (a_nil)))) (a_nil))))) (xa (e_tup (xa (e_str) (a_nil))) (a_nil))))))
theorem bd__law_six {f : Addr} {fd : FuncData} (Fu : Fun G.K "_law_six" "_law_six" s__law_six f fd) : Binds G.K fd [] [] := Fu.binds (ps := []) fun _ _ _ _ _ _ us hl => match us, hl with | [], _ => rfl
abbrev s__law_blend : Stmt := topS 19
theorem sc__law_blend : FnScope ["_law_urn", "_law_matter", "_law_bits", "_law_bit"] ["_law_urn", "_law_matter"] (defScope s__law_blend) := ⟨rfl, rfl, rfl, by decide +kernel, rfl, by decide +kernel, by decide +kernel⟩
theorem w__law_blend (z_isinstance : mg "isinstance" = none) (z_list : mg "list" = none) (z_tuple : mg "tuple" = none) (c__law_take : Cal P w G mg base 1 "_law_take" 2 [] F__law_take) {f : Addr} {fd : FuncData} (Fu : Fun G.K "_law_blend" "_law_blend" s__law_blend f fd) (hmg : mg "_law_blend" = some (.ref f)) : ∀ n : Nat, Cal P w G mg base (1 + n) "_law_blend" 2 [] (F__law_blend n)
  | 0 => Cal.bad hmg Fu.kp
  | n + 1 => by
    have hself := w__law_blend z_isinstance z_list z_tuple c__law_take Fu hmg n
    refine (Cal.fn hmg Fu (show FnOk P w G.K mg base (L2.CX P w) (1 + n + 1) f fd ["_law_urn", "_law_matter"] (SpM G (runB 4 2 (b__law_blend (F__law_blend n)))) from fn_ok2 rfl rfl Fu sc__law_blend ?_) (Fu.binds (ps := ["_law_urn", "_law_matter"]) fun _ _ _ _ _ _ us hl => match us, hl with | [_, _], _ => rfl)).viewC
    exact fun cdv A outer s H E B hp =>
        ss_cons (s_if (c_not (xtru B (xisaT B z_isinstance ["list", "tuple"] (xv 1) (pa_cons (xty z_list PyProof.Rows.boot_list) (pa_cons (xty z_tuple PyProof.Rows.boot_tuple) (pa_nil)))))) (ss_one (s_ret (xv 1))) (ss_nil))
        (ss_cons (ysetLc 2 [("_law_bit", 3)] lEnd B (i_seq (Bx.hK B) (xv 1)) (fun s1 H1 C1 cl1 fp1 => yname 3 (B.blk s1 H1 _ _ fp1)) (g_name) (fun s1 H1 C1 cl1 fp1 => ts_nil) (fun s1 H1 C1 cl1 fp1 => xcall hself ((B.blk s1 H1 _ _ fp1).le (by omega)) (xa (xv 0) (xa (xv 3) (a_nil)))))
        (ss_one (s_ret (e_if (xcmpT (o_eq B.room.units B.hK) (xcall c__law_take (B.le (by omega)) (xa (xv 0) (xa (e_int) (a_nil)))) (e_int)) (xv 2) (xt (b_tuple B.hK B.calm) z_tuple PyProof.Rows.boot_tuple (xa (xv 2) (a_nil)))))))
abbrev s__law_by_hand_right : Stmt := topS 20
theorem sc__law_by_hand_right : FnScope ["_law_some", "_law_got", "_law_own", "_law_goal"] [] (defScope s__law_by_hand_right) := ⟨rfl, rfl, rfl, by decide +kernel, rfl, by decide +kernel, by decide +kernel⟩
theorem w__law_by_hand_right (c__law_same : ∀ n : Nat, Cal P w G mg base (0 + n) "_law_same" 2 [] (F__law_same n)) (c__law_six : Cal P w G mg base 1 "_law_six" 0 [] F__law_six) (c_homes : Cal P w G mg base 11 "homes" 1 [] F_homes) (c_households : Cal P w G mg base 11 "households" 1 [] F_households) {f : Addr} {fd : FuncData} (Fu : Fun G.K "_law_by_hand_right" "_law_by_hand_right" s__law_by_hand_right f fd) : FnOk P w G.K mg base (L2.CX P w) 12 f fd [] (SpM G R__law_by_hand_right) := by
  show FnOk P w G.K mg base (L2.CX P w) (11 + 1) f fd [] (SpM G (runB 4 0 b__law_by_hand_right))
  refine fn_ok2 rfl rfl Fu sc__law_by_hand_right ?_
  exact fun cdv A outer s H E B hp =>
    ss_cons (yset 0 B (e_lstB (xa (e_tup (xa (e_tup (a_nil)) (xa (e_tup (a_nil)) (a_nil)))) (xa (e_tup (xa (e_tup (xa (e_tup (xa (e_str) (xa (e_tup (a_nil)) (a_nil)))) (a_nil))) (xa (e_tup (xa (e_str) (a_nil))) (a_nil)))) (xa (e_tup (xa (e_tup (a_nil)) (xa (e_tup (xa (e_str) (xa (e_str) (a_nil)))) (a_nil)))) (xa (xcall0 c__law_six (B.le (by omega))) (a_nil)))))))
    (ss_cons (yexpr (xlm B PySem.F.slot_list_append PySem.F.type_list_append m_append (xv 0) (xa (e_tup (xa (e_tup (xa (e_tup (xa (e_str) (xa (e_tup (xa (e_str) (a_nil))) (a_nil)))) (xa (e_tup (xa (e_str) (xa (e_tup (xa (e_str) (a_nil))) (a_nil)))) (a_nil)))) (xa (e_tup (xa (e_str) (xa (e_str) (a_nil)))) (a_nil)))) (a_nil))))
    (ss_cons (ysetLc 1 [("_law_own", 2)] lEnd B (i_seq (Bx.hK B) (e_frz (xv 0))) (fun s1 H1 C1 cl1 fp1 => yname 2 (B.blk s1 H1 _ _ fp1)) (g_name) (fun s1 H1 C1 cl1 fp1 => ts_nil) (fun s1 H1 C1 cl1 fp1 => e_lst (xa (xcall c_households ((B.blk s1 H1 _ _ fp1).le (by omega)) (xa (xv 2) (a_nil))) (xa (xcall c_homes ((B.blk s1 H1 _ _ fp1).le (by omega)) (xa (xv 2) (a_nil))) (a_nil)))))
    (ss_cons (yset 3 B (e_lst (xa (e_lst (xa (e_tup (a_nil)) (xa (e_tup (a_nil)) (a_nil)))) (xa (e_lst (xa (e_tup (xa (e_str) (a_nil))) (xa (e_tup (xa (e_str) (xa (e_str) (a_nil)))) (a_nil)))) (xa (e_lst (xa (e_tup (a_nil)) (xa (e_tup (xa (e_str) (xa (e_str) (a_nil)))) (a_nil)))) (a_nil))))))
    (ss_cons (yset 3 B (e_op (o_add B.hK) (xv 3) (e_lst (xa (e_lst (xa (e_tup (xa (e_str) (xa (e_str) (xa (e_str) (xa (e_str) (xa (e_str) (xa (e_str) (a_nil)))))))) (xa (e_tup (xa (e_str) (xa (e_str) (xa (e_str) (xa (e_str) (xa (e_str) (xa (e_str) (xa (e_str) (a_nil))))))))) (a_nil)))) (a_nil)))))
    (ss_one (s_ret (xcall (c__law_same 8) (B.le (by omega)) (xa (xv 1) (xa (e_op (o_add B.hK) (xv 3) (e_lst (xa (e_lst (xa (e_tup (xa (e_str) (xa (e_str) (a_nil)))) (xa (e_tup (xa (e_str) (xa (e_str) (xa (e_str) (xa (e_str) (a_nil)))))) (a_nil)))) (a_nil)))) (a_nil))))))))))
theorem bd__law_by_hand_right {f : Addr} {fd : FuncData} (Fu : Fun G.K "_law_by_hand_right" "_law_by_hand_right" s__law_by_hand_right f fd) : Binds G.K fd [] [] := Fu.binds (ps := []) fun _ _ _ _ _ _ us hl => match us, hl with | [], _ => rfl
abbrev s__law_right : Stmt := topS 21
theorem sc__law_right : FnScope ["_law_urn", "_law_turn", "_law_tome_here", "_law_soft", "_law_folk", "_law_own", "_law_goal", "_law_some"] ["_law_urn"] (defScope s__law_right) := ⟨rfl, rfl, rfl, by decide +kernel, rfl, by decide +kernel, by decide +kernel⟩
theorem w__law_right (z_range : mg "range" = none) (z_sorted : mg "sorted" = none) (z_tuple : mg "tuple" = none) (c__law_blend : ∀ n : Nat, Cal P w G mg base (1 + n) "_law_blend" 2 [] (F__law_blend n)) (c__law_by_hand_right : Cal P w G mg base 12 "_law_by_hand_right" 0 [] F__law_by_hand_right) (c__law_lists : ∀ n : Nat, Cal P w G mg base (0 + n) "_law_lists" 1 [] (F__law_lists n)) (c__law_same : ∀ n : Nat, Cal P w G mg base (0 + n) "_law_same" 2 [] (F__law_same n)) (c__law_tome : Cal P w G mg base 3 "_law_tome" 3 [] F__law_tome) (c_homes : Cal P w G mg base 11 "homes" 1 [] F_homes) (ck_homes_0_sheet : Cal P w G mg base 11 "homes" 0 ["sheet"] F_homes) (c_households : Cal P w G mg base 11 "households" 1 [] F_households) (ck_households_0_sheet : Cal P w G mg base 11 "households" 0 ["sheet"] F_households) {f : Addr} {fd : FuncData} (Fu : Fun G.K "_law_right" "_law_right" s__law_right f fd) : FnOk P w G.K mg base (L2.CX P w) 13 f fd ["_law_urn"] (SpM G R__law_right) := by
  show FnOk P w G.K mg base (L2.CX P w) (12 + 1) f fd ["_law_urn"] (SpM G (runB 8 1 b__law_right))
  refine fn_ok2 rfl rfl Fu sc__law_right ?_
  exact fun cdv A outer s H E B hp =>
    ss_cons (s_if (c_not (xtru B (xcall0 c__law_by_hand_right (B.le (by omega))))) (ss_one (s_ret (e_bl))) (ss_nil))
    (ss_cons (yfor hp B (yrg1 z_range (xa (e_int) (a_nil))) (yname 1 B) (g_name) (ss_cons (yset 2 B (xcall c__law_tome (B.le (by omega)) (xa (xv 0) (xa (e_int) (xa (e_int) (a_nil))))))
    (ss_cons (s_par2 B (xa (xcall (c__law_lists 8) (B.le (by omega)) (xa (xv 2) (a_nil))) (xa (xt (b_tuple B.hK B.calm) z_tuple PyProof.Rows.boot_tuple (xa (ylc [("_law_own", 5)] lEnd B (i_seq (Bx.hK B) (xix B (xv 2) (e_int))) (fun s1 H1 C1 cl1 fp1 => yname 5 (B.blk s1 H1 _ _ fp1)) (g_name) (fun s1 H1 C1 cl1 fp1 => ts_nil) (fun s1 H1 C1 cl1 fp1 => xix (B.blk s1 H1 _ _ fp1) (xv 5) (e_int))) (a_nil))) (a_nil))))
    (ss_cons (yset 6 B (e_lst (xa (xv 4) (xa (xt (b_tuple B.hK B.calm) z_tuple PyProof.Rows.boot_tuple (xa (xb (b_sorted B.hK B.room.units) z_sorted PyProof.Rows.boot_sorted (xa (e_op (o_add B.hK) (xv 4) (xix B (xv 2) (e_int))) (a_nil))) (a_nil))) (a_nil)))))
    (ss_cons (s_if (c_not (xtru B (xcall (c__law_same 8) (B.le (by omega)) (xa (e_lst (xa (xcall c_households (B.le (by omega)) (xa (xv 2) (a_nil))) (xa (xcall c_homes (B.le (by omega)) (xa (xv 2) (a_nil))) (a_nil)))) (xa (xv 6) (a_nil)))))) (ss_one (s_ret (e_bl))) (ss_nil))
    (ss_cons (s_if (L2.PW.pt (w_or (c_not (xtru B (xcall (c__law_same 8) (B.le (by omega)) (xa (e_lst (xa (xcallK0 ck_households_0_sheet (B.le (by omega)) (k_cons (xv 3) (k_nil))) (xa (xcallK0 ck_homes_0_sheet (B.le (by omega)) (k_cons (xv 3) (k_nil))) (a_nil)))) (xa (xv 6) (a_nil)))))) (w_or1 (xcmpT (o_ne B.room.units B.hK) (xv 3) (xcall (c__law_lists 8) (B.le (by omega)) (xa (xv 2) (a_nil))))))) (ss_one (s_ret (e_bl))) (ss_nil))
    (ss_cons (yset 7 B (xcall (c__law_blend 8) (B.le (by omega)) (xa (xv 0) (xa (xv 2) (a_nil)))))
    (ss_one (s_if (c_not (xtru B (xcall (c__law_same 8) (B.le (by omega)) (xa (e_lst (xa (xcall c_households (B.le (by omega)) (xa (xv 7) (a_nil))) (xa (xcall c_homes (B.le (by omega)) (xa (xv 7) (a_nil))) (a_nil)))) (xa (xv 6) (a_nil)))))) (ss_one (s_ret (e_bl))) (ss_nil))))))))))
    (ss_one (s_ret (e_bl))))
theorem bd__law_right {f : Addr} {fd : FuncData} (Fu : Fun G.K "_law_right" "_law_right" s__law_right f fd) : Binds G.K fd ["_law_urn"] [] := Fu.binds (ps := ["_law_urn"]) fun _ _ _ _ _ _ us hl => match us, hl with | [_], _ => rfl
abbrev s_law : Stmt := topS 22
theorem sc_law : FnScope ["_law_script", "_law_cells_here", "_law_k"] ["_law_script"] (defScope s_law) := ⟨rfl, rfl, rfl, by decide +kernel, rfl, by decide +kernel, by decide +kernel⟩
theorem w_law (z_all : mg "all" = none) (z_len : mg "len" = none) (z_range : mg "range" = none) (c__law_box : Cal P w G mg base 1 "_law_box" 2 [] F__law_box) (c__law_cells : Cal P w G mg base 1 "_law_cells" 2 [] F__law_cells) (c__law_right : Cal P w G mg base 13 "_law_right" 1 [] F__law_right) {f : Addr} {fd : FuncData} (Fu : Fun G.K "law" "law" s_law f fd) : FnOk P w G.K mg base (L2.CX P w) 14 f fd ["_law_script"] (SpM G R_law) := by
  show FnOk P w G.K mg base (L2.CX P w) (13 + 1) f fd ["_law_script"] (SpM G (runB 3 1 b_law))
  refine fn_ok2 rfl rfl Fu sc_law ?_
  exact fun cdv A outer s H E B hp =>
    ss_cons (yset 1 B (xcall c__law_cells (B.le (by omega)) (xa (xv 0) (xa (e_int) (a_nil)))))
    (ss_one (s_ret (xb (b_all B.hK B.calm) z_all PyProof.Rows.boot_all (xa (ylc [("_law_k", 2)] lEnd B (yrg1 z_range (xa (xb (b_len B.hK) z_len PySem.boot_len (xa (xv 1) (a_nil))) (a_nil))) (fun s1 H1 C1 cl1 fp1 => yname 2 (B.blk s1 H1 _ _ fp1)) (g_name) (fun s1 H1 C1 cl1 fp1 => ts_nil) (fun s1 H1 C1 cl1 fp1 => xcall c__law_right ((B.blk s1 H1 _ _ fp1).le (by omega)) (xa (xcall c__law_box ((B.blk s1 H1 _ _ fp1).le (by omega)) (xa (xv 1) (xa (xv 2) (a_nil)))) (a_nil)))) (a_nil)))))
theorem bd_law {f : Addr} {fd : FuncData} (Fu : Fun G.K "law" "law" s_law f fd) : Binds G.K fd ["_law_script"] [] := Fu.binds (ps := ["_law_script"]) fun _ _ _ _ _ _ us hl => match us, hl with | [_], _ => rfl
end
end K01
/-! the end -/
namespace K01
open PySem PySem.Spec PyProof.Rows L2 Sm Hn
def GG (K : PySem.W.Frag) (C0 : Addr) : Gs := ⟨K, fun c => match c with
  | 0 => C0
  | _ => 0, fun _ => .none, fun _ => none⟩
set_option maxHeartbeats 4000000 in
theorem all_mk (hT : LawTrue F_law) {l : PySem.W.OpenLaw} {w : World} {K : PySem.W.Frag} {h : Heap} {mg : Str → Option Value} {fa : Addr} (X : K.In h) (Gn : h.Ns mainGlobals mg) (hfa : mg "law" = some (.ref fa)) {C0 : Addr} {pp_own_empties : Addr} {pp_own_homes : Addr} {pp_own_rows : Addr} {f_tupled : Addr} {oc_tupled kV_tupled dc_tupled pm_tupled cd_tupled ct_tupled : Value} {od_tupled an_tupled : Option Addr} {os_tupled : Array (Option Value)} {f_as_set : Addr} {oc_as_set kV_as_set dc_as_set pm_as_set cd_as_set ct_as_set : Value} {od_as_set an_as_set : Option Addr} {os_as_set : Array (Option Value)} {f_Sheet_init : Addr} {oc_Sheet_init kV_Sheet_init dc_Sheet_init pm_Sheet_init cd_Sheet_init ct_Sheet_init : Value} {od_Sheet_init an_Sheet_init : Option Addr} {os_Sheet_init : Array (Option Value)} {f_Sheet_names : Addr} {oc_Sheet_names kV_Sheet_names dc_Sheet_names pm_Sheet_names cd_Sheet_names ct_Sheet_names : Value} {od_Sheet_names an_Sheet_names : Option Addr} {os_Sheet_names : Array (Option Value)} {f_Sheet_homes : Addr} {oc_Sheet_homes kV_Sheet_homes dc_Sheet_homes pm_Sheet_homes cd_Sheet_homes ct_Sheet_homes : Value} {od_Sheet_homes an_Sheet_homes : Option Addr} {os_Sheet_homes : Array (Option Value)} {f_households : Addr} {oc_households kV_households dc_households pm_households cd_households ct_households : Value} {od_households an_households : Option Addr} {os_households : Array (Option Value)} {f_homes : Addr} {oc_homes kV_homes dc_homes pm_homes cd_homes ct_homes : Value} {od_homes an_homes : Option Addr} {os_homes : Array (Option Value)} {f__law_box : Addr} {oc__law_box kV__law_box dc__law_box pm__law_box cd__law_box ct__law_box : Value} {od__law_box an__law_box : Option Addr} {os__law_box : Array (Option Value)} {f__law_take : Addr} {oc__law_take kV__law_take dc__law_take pm__law_take cd__law_take ct__law_take : Value} {od__law_take an__law_take : Option Addr} {os__law_take : Array (Option Value)} {f__law_cells : Addr} {oc__law_cells kV__law_cells dc__law_cells pm__law_cells cd__law_cells ct__law_cells : Value} {od__law_cells an__law_cells : Option Addr} {os__law_cells : Array (Option Value)} {f__law_same : Addr} {oc__law_same kV__law_same dc__law_same pm__law_same cd__law_same ct__law_same : Value} {od__law_same an__law_same : Option Addr} {os__law_same : Array (Option Value)} {f__law_few : Addr} {oc__law_few kV__law_few dc__law_few pm__law_few cd__law_few ct__law_few : Value} {od__law_few an__law_few : Option Addr} {os__law_few : Array (Option Value)} {f__law_mixed : Addr} {oc__law_mixed kV__law_mixed dc__law_mixed pm__law_mixed cd__law_mixed ct__law_mixed : Value} {od__law_mixed an__law_mixed : Option Addr} {os__law_mixed : Array (Option Value)} {f__law_tome : Addr} {oc__law_tome kV__law_tome dc__law_tome pm__law_tome cd__law_tome ct__law_tome : Value} {od__law_tome an__law_tome : Option Addr} {os__law_tome : Array (Option Value)} {f__law_lists : Addr} {oc__law_lists kV__law_lists dc__law_lists pm__law_lists cd__law_lists ct__law_lists : Value} {od__law_lists an__law_lists : Option Addr} {os__law_lists : Array (Option Value)} {f__law_six : Addr} {oc__law_six kV__law_six dc__law_six pm__law_six cd__law_six ct__law_six : Value} {od__law_six an__law_six : Option Addr} {os__law_six : Array (Option Value)} {f__law_blend : Addr} {oc__law_blend kV__law_blend dc__law_blend pm__law_blend cd__law_blend ct__law_blend : Value} {od__law_blend an__law_blend : Option Addr} {os__law_blend : Array (Option Value)} {f__law_by_hand_right : Addr} {oc__law_by_hand_right kV__law_by_hand_right dc__law_by_hand_right pm__law_by_hand_right cd__law_by_hand_right ct__law_by_hand_right : Value} {od__law_by_hand_right an__law_by_hand_right : Option Addr} {os__law_by_hand_right : Array (Option Value)} {f__law_right : Addr} {oc__law_right kV__law_right dc__law_right pm__law_right cd__law_right ct__law_right : Value} {od__law_right an__law_right : Option Addr} {os__law_right : Array (Option Value)} {f_law : Addr} {oc_law kV_law dc_law pm_law cd_law ct_law : Value} {od_law an_law : Option Addr} {os_law : Array (Option Value)}
    (aC0 : PySem.W.nsIn K mainGlobals "Sheet" = some (some (.ref C0)))
    (a_tupled : PySem.W.nsIn K mainGlobals "tupled" = some (some (.ref f_tupled)))
    (l_tupled : K.lookup f_tupled = some ⟨oc_tupled, od_tupled, .func (PySem.W.fnOf "tupled" "tupled" (defArgs s_tupled) (defBody s_tupled) (defScope s_tupled) .none kV_tupled dc_tupled pm_tupled an_tupled cd_tupled ct_tupled), os_tupled⟩)
    (c_tupled : PySem.W.codeIn K cd_tupled "tupled" = true)
    (k_tupled : PySem.W.keepIn K (.ref f_tupled) = true)
    (a_as_set : PySem.W.nsIn K mainGlobals "as_set" = some (some (.ref f_as_set)))
    (l_as_set : K.lookup f_as_set = some ⟨oc_as_set, od_as_set, .func (PySem.W.fnOf "as_set" "as_set" (defArgs s_as_set) (defBody s_as_set) (defScope s_as_set) .none kV_as_set dc_as_set pm_as_set an_as_set cd_as_set ct_as_set), os_as_set⟩)
    (c_as_set : PySem.W.codeIn K cd_as_set "as_set" = true)
    (k_as_set : PySem.W.keepIn K (.ref f_as_set) = true)
    (a_Sheet_init : PySem.W.findIn K (.ref C0) "__init__" = some (some (.ref f_Sheet_init)))
    (i_Sheet_init : PySem.W.isFn K (.ref f_Sheet_init) = true)
    (l_Sheet_init : K.lookup f_Sheet_init = some ⟨oc_Sheet_init, od_Sheet_init, .func (PySem.W.fnOf "__init__" "Sheet.__init__" (defArgs s_Sheet_init) (defBody s_Sheet_init) (defScope s_Sheet_init) .none kV_Sheet_init dc_Sheet_init pm_Sheet_init an_Sheet_init cd_Sheet_init ct_Sheet_init), os_Sheet_init⟩)
    (c_Sheet_init : PySem.W.codeIn K cd_Sheet_init "Sheet.__init__" = true)
    (k_Sheet_init : PySem.W.keepIn K (.ref f_Sheet_init) = true)
    (a_Sheet_names : PySem.W.findIn K (.ref C0) "names" = some (some (.ref f_Sheet_names)))
    (i_Sheet_names : PySem.W.isFn K (.ref f_Sheet_names) = true)
    (l_Sheet_names : K.lookup f_Sheet_names = some ⟨oc_Sheet_names, od_Sheet_names, .func (PySem.W.fnOf "names" "Sheet.names" (defArgs s_Sheet_names) (defBody s_Sheet_names) (defScope s_Sheet_names) .none kV_Sheet_names dc_Sheet_names pm_Sheet_names an_Sheet_names cd_Sheet_names ct_Sheet_names), os_Sheet_names⟩)
    (c_Sheet_names : PySem.W.codeIn K cd_Sheet_names "Sheet.names" = true)
    (k_Sheet_names : PySem.W.keepIn K (.ref f_Sheet_names) = true)
    (a_Sheet_homes : PySem.W.findIn K (.ref C0) "homes" = some (some (.ref f_Sheet_homes)))
    (i_Sheet_homes : PySem.W.isFn K (.ref f_Sheet_homes) = true)
    (l_Sheet_homes : K.lookup f_Sheet_homes = some ⟨oc_Sheet_homes, od_Sheet_homes, .func (PySem.W.fnOf "homes" "Sheet.homes" (defArgs s_Sheet_homes) (defBody s_Sheet_homes) (defScope s_Sheet_homes) .none kV_Sheet_homes dc_Sheet_homes pm_Sheet_homes an_Sheet_homes cd_Sheet_homes ct_Sheet_homes), os_Sheet_homes⟩)
    (c_Sheet_homes : PySem.W.codeIn K cd_Sheet_homes "Sheet.homes" = true)
    (k_Sheet_homes : PySem.W.keepIn K (.ref f_Sheet_homes) = true)
    (a_households : PySem.W.nsIn K mainGlobals "households" = some (some (.ref f_households)))
    (l_households : K.lookup f_households = some ⟨oc_households, od_households, .func (PySem.W.fnOf "households" "households" (defArgs s_households) (defBody s_households) (defScope s_households) .none kV_households dc_households pm_households an_households cd_households ct_households), os_households⟩)
    (c_households : PySem.W.codeIn K cd_households "households" = true)
    (k_households : PySem.W.keepIn K (.ref f_households) = true)
    (a_homes : PySem.W.nsIn K mainGlobals "homes" = some (some (.ref f_homes)))
    (l_homes : K.lookup f_homes = some ⟨oc_homes, od_homes, .func (PySem.W.fnOf "homes" "homes" (defArgs s_homes) (defBody s_homes) (defScope s_homes) .none kV_homes dc_homes pm_homes an_homes cd_homes ct_homes), os_homes⟩)
    (c_homes : PySem.W.codeIn K cd_homes "homes" = true)
    (k_homes : PySem.W.keepIn K (.ref f_homes) = true)
    (a__law_box : PySem.W.nsIn K mainGlobals "_law_box" = some (some (.ref f__law_box)))
    (l__law_box : K.lookup f__law_box = some ⟨oc__law_box, od__law_box, .func (PySem.W.fnOf "_law_box" "_law_box" (defArgs s__law_box) (defBody s__law_box) (defScope s__law_box) .none kV__law_box dc__law_box pm__law_box an__law_box cd__law_box ct__law_box), os__law_box⟩)
    (c__law_box : PySem.W.codeIn K cd__law_box "_law_box" = true)
    (k__law_box : PySem.W.keepIn K (.ref f__law_box) = true)
    (a__law_take : PySem.W.nsIn K mainGlobals "_law_take" = some (some (.ref f__law_take)))
    (l__law_take : K.lookup f__law_take = some ⟨oc__law_take, od__law_take, .func (PySem.W.fnOf "_law_take" "_law_take" (defArgs s__law_take) (defBody s__law_take) (defScope s__law_take) .none kV__law_take dc__law_take pm__law_take an__law_take cd__law_take ct__law_take), os__law_take⟩)
    (c__law_take : PySem.W.codeIn K cd__law_take "_law_take" = true)
    (k__law_take : PySem.W.keepIn K (.ref f__law_take) = true)
    (a__law_cells : PySem.W.nsIn K mainGlobals "_law_cells" = some (some (.ref f__law_cells)))
    (l__law_cells : K.lookup f__law_cells = some ⟨oc__law_cells, od__law_cells, .func (PySem.W.fnOf "_law_cells" "_law_cells" (defArgs s__law_cells) (defBody s__law_cells) (defScope s__law_cells) .none kV__law_cells dc__law_cells pm__law_cells an__law_cells cd__law_cells ct__law_cells), os__law_cells⟩)
    (c__law_cells : PySem.W.codeIn K cd__law_cells "_law_cells" = true)
    (k__law_cells : PySem.W.keepIn K (.ref f__law_cells) = true)
    (a__law_same : PySem.W.nsIn K mainGlobals "_law_same" = some (some (.ref f__law_same)))
    (l__law_same : K.lookup f__law_same = some ⟨oc__law_same, od__law_same, .func (PySem.W.fnOf "_law_same" "_law_same" (defArgs s__law_same) (defBody s__law_same) (defScope s__law_same) .none kV__law_same dc__law_same pm__law_same an__law_same cd__law_same ct__law_same), os__law_same⟩)
    (c__law_same : PySem.W.codeIn K cd__law_same "_law_same" = true)
    (k__law_same : PySem.W.keepIn K (.ref f__law_same) = true)
    (a__law_few : PySem.W.nsIn K mainGlobals "_law_few" = some (some (.ref f__law_few)))
    (l__law_few : K.lookup f__law_few = some ⟨oc__law_few, od__law_few, .func (PySem.W.fnOf "_law_few" "_law_few" (defArgs s__law_few) (defBody s__law_few) (defScope s__law_few) .none kV__law_few dc__law_few pm__law_few an__law_few cd__law_few ct__law_few), os__law_few⟩)
    (c__law_few : PySem.W.codeIn K cd__law_few "_law_few" = true)
    (k__law_few : PySem.W.keepIn K (.ref f__law_few) = true)
    (a__law_mixed : PySem.W.nsIn K mainGlobals "_law_mixed" = some (some (.ref f__law_mixed)))
    (l__law_mixed : K.lookup f__law_mixed = some ⟨oc__law_mixed, od__law_mixed, .func (PySem.W.fnOf "_law_mixed" "_law_mixed" (defArgs s__law_mixed) (defBody s__law_mixed) (defScope s__law_mixed) .none kV__law_mixed dc__law_mixed pm__law_mixed an__law_mixed cd__law_mixed ct__law_mixed), os__law_mixed⟩)
    (c__law_mixed : PySem.W.codeIn K cd__law_mixed "_law_mixed" = true)
    (k__law_mixed : PySem.W.keepIn K (.ref f__law_mixed) = true)
    (a__law_tome : PySem.W.nsIn K mainGlobals "_law_tome" = some (some (.ref f__law_tome)))
    (l__law_tome : K.lookup f__law_tome = some ⟨oc__law_tome, od__law_tome, .func (PySem.W.fnOf "_law_tome" "_law_tome" (defArgs s__law_tome) (defBody s__law_tome) (defScope s__law_tome) .none kV__law_tome dc__law_tome pm__law_tome an__law_tome cd__law_tome ct__law_tome), os__law_tome⟩)
    (c__law_tome : PySem.W.codeIn K cd__law_tome "_law_tome" = true)
    (k__law_tome : PySem.W.keepIn K (.ref f__law_tome) = true)
    (a__law_lists : PySem.W.nsIn K mainGlobals "_law_lists" = some (some (.ref f__law_lists)))
    (l__law_lists : K.lookup f__law_lists = some ⟨oc__law_lists, od__law_lists, .func (PySem.W.fnOf "_law_lists" "_law_lists" (defArgs s__law_lists) (defBody s__law_lists) (defScope s__law_lists) .none kV__law_lists dc__law_lists pm__law_lists an__law_lists cd__law_lists ct__law_lists), os__law_lists⟩)
    (c__law_lists : PySem.W.codeIn K cd__law_lists "_law_lists" = true)
    (k__law_lists : PySem.W.keepIn K (.ref f__law_lists) = true)
    (a__law_six : PySem.W.nsIn K mainGlobals "_law_six" = some (some (.ref f__law_six)))
    (l__law_six : K.lookup f__law_six = some ⟨oc__law_six, od__law_six, .func (PySem.W.fnOf "_law_six" "_law_six" (defArgs s__law_six) (defBody s__law_six) (defScope s__law_six) .none kV__law_six dc__law_six pm__law_six an__law_six cd__law_six ct__law_six), os__law_six⟩)
    (c__law_six : PySem.W.codeIn K cd__law_six "_law_six" = true)
    (k__law_six : PySem.W.keepIn K (.ref f__law_six) = true)
    (a__law_blend : PySem.W.nsIn K mainGlobals "_law_blend" = some (some (.ref f__law_blend)))
    (l__law_blend : K.lookup f__law_blend = some ⟨oc__law_blend, od__law_blend, .func (PySem.W.fnOf "_law_blend" "_law_blend" (defArgs s__law_blend) (defBody s__law_blend) (defScope s__law_blend) .none kV__law_blend dc__law_blend pm__law_blend an__law_blend cd__law_blend ct__law_blend), os__law_blend⟩)
    (c__law_blend : PySem.W.codeIn K cd__law_blend "_law_blend" = true)
    (k__law_blend : PySem.W.keepIn K (.ref f__law_blend) = true)
    (a__law_by_hand_right : PySem.W.nsIn K mainGlobals "_law_by_hand_right" = some (some (.ref f__law_by_hand_right)))
    (l__law_by_hand_right : K.lookup f__law_by_hand_right = some ⟨oc__law_by_hand_right, od__law_by_hand_right, .func (PySem.W.fnOf "_law_by_hand_right" "_law_by_hand_right" (defArgs s__law_by_hand_right) (defBody s__law_by_hand_right) (defScope s__law_by_hand_right) .none kV__law_by_hand_right dc__law_by_hand_right pm__law_by_hand_right an__law_by_hand_right cd__law_by_hand_right ct__law_by_hand_right), os__law_by_hand_right⟩)
    (c__law_by_hand_right : PySem.W.codeIn K cd__law_by_hand_right "_law_by_hand_right" = true)
    (k__law_by_hand_right : PySem.W.keepIn K (.ref f__law_by_hand_right) = true)
    (a__law_right : PySem.W.nsIn K mainGlobals "_law_right" = some (some (.ref f__law_right)))
    (l__law_right : K.lookup f__law_right = some ⟨oc__law_right, od__law_right, .func (PySem.W.fnOf "_law_right" "_law_right" (defArgs s__law_right) (defBody s__law_right) (defScope s__law_right) .none kV__law_right dc__law_right pm__law_right an__law_right cd__law_right ct__law_right), os__law_right⟩)
    (c__law_right : PySem.W.codeIn K cd__law_right "_law_right" = true)
    (k__law_right : PySem.W.keepIn K (.ref f__law_right) = true)
    (a_law : PySem.W.nsIn K mainGlobals "law" = some (some (.ref f_law)))
    (l_law : K.lookup f_law = some ⟨oc_law, od_law, .func (PySem.W.fnOf "law" "law" (defArgs s_law) (defBody s_law) (defScope s_law) .none kV_law dc_law pm_law an_law cd_law ct_law), os_law⟩)
    (c_law : PySem.W.codeIn K cd_law "law" = true)
    (k_law : PySem.W.keepIn K (.ref f_law) = true)
    (pg0 : PySem.W.plainGet K C0 Str.empty = true)
    (ic0 : PySem.W.isClsIn K C0 = true)
    (po0 : PySem.W.plainOver K C0 = true)
    (sa0 : PySem.W.findIn K (.ref C0) "__setattr__" = some (some (.builtin "object.__setattr__")))
    (mk0 : PySem.W.makesIn K C0 = true)
    (kc0 : PySem.W.keepIn K (.ref C0) = true)
    (s1_own_empties : PySem.W.findIn K (.ref C0) "own_empties" = some (some (.ref pp_own_empties)))
    (s2_own_empties : PySem.W.specialIn K (.ref pp_own_empties) "__get__" = some (some (.builtin "member_descriptor.__get__")))
    (s3_own_empties : PySem.W.takesIn K (.ref pp_own_empties) = some true)
    (s4_own_empties : PySem.W.typeIn K (.ref pp_own_empties) = some (.type "member_descriptor"))
    (s5_own_empties : PySem.W.slotIn K pp_own_empties C0 = some 0)
    (s1_own_homes : PySem.W.findIn K (.ref C0) "own_homes" = some (some (.ref pp_own_homes)))
    (s2_own_homes : PySem.W.specialIn K (.ref pp_own_homes) "__get__" = some (some (.builtin "member_descriptor.__get__")))
    (s3_own_homes : PySem.W.takesIn K (.ref pp_own_homes) = some true)
    (s4_own_homes : PySem.W.typeIn K (.ref pp_own_homes) = some (.type "member_descriptor"))
    (s5_own_homes : PySem.W.slotIn K pp_own_homes C0 = some 1)
    (s1_own_rows : PySem.W.findIn K (.ref C0) "own_rows" = some (some (.ref pp_own_rows)))
    (s2_own_rows : PySem.W.specialIn K (.ref pp_own_rows) "__get__" = some (some (.builtin "member_descriptor.__get__")))
    (s3_own_rows : PySem.W.takesIn K (.ref pp_own_rows) = some true)
    (s4_own_rows : PySem.W.typeIn K (.ref pp_own_rows) = some (.type "member_descriptor"))
    (s5_own_rows : PySem.W.slotIn K pp_own_rows C0 = some 2)
    (zz_abs : PySem.W.nsIn K mainGlobals "abs" = some none)
    (zz_all : PySem.W.nsIn K mainGlobals "all" = some none)
    (zz_bool : PySem.W.nsIn K mainGlobals "bool" = some none)
    (zz_enumerate : PySem.W.nsIn K mainGlobals "enumerate" = some none)
    (zz_int : PySem.W.nsIn K mainGlobals "int" = some none)
    (zz_isinstance : PySem.W.nsIn K mainGlobals "isinstance" = some none)
    (zz_len : PySem.W.nsIn K mainGlobals "len" = some none)
    (zz_list : PySem.W.nsIn K mainGlobals "list" = some none)
    (zz_range : PySem.W.nsIn K mainGlobals "range" = some none)
    (zz_set : PySem.W.nsIn K mainGlobals "set" = some none)
    (zz_sorted : PySem.W.nsIn K mainGlobals "sorted" = some none)
    (zz_str : PySem.W.nsIn K mainGlobals "str" = some none)
    (zz_tuple : PySem.W.nsIn K mainGlobals "tuple" = some none)
    (zz_zip : PySem.W.nsIn K mainGlobals "zip" = some none) :
    ∃ fd : FuncData, (∀ (s : Shared) (v : Value), BindsTo s fd ⟨[v], []⟩ [("_law_script", v)]) ∧ ∀ base : Heap, K.In base → base.Ns mainGlobals mg → FnOk l.prog w K mg base (L2.CX l.prog w) 14 fa fd ["_law_script"] (spLaw K) := by
  have e := hfa.symm.trans (PySem.W.mg_of X Gn a_law)
  cases e
  have Fu_tupled : Fun (GG K C0).K "tupled" "tupled" s_tupled f_tupled _ := fun_mk (st := s_tupled) l_tupled c_tupled k_tupled
  have Fu_as_set : Fun (GG K C0).K "as_set" "as_set" s_as_set f_as_set _ := fun_mk (st := s_as_set) l_as_set c_as_set k_as_set
  have Fu_Sheet_init : Fun (GG K C0).K "__init__" "Sheet.__init__" s_Sheet_init f_Sheet_init _ := fun_mk (st := s_Sheet_init) l_Sheet_init c_Sheet_init k_Sheet_init
  have Fu_Sheet_names : Fun (GG K C0).K "names" "Sheet.names" s_Sheet_names f_Sheet_names _ := fun_mk (st := s_Sheet_names) l_Sheet_names c_Sheet_names k_Sheet_names
  have Fu_Sheet_homes : Fun (GG K C0).K "homes" "Sheet.homes" s_Sheet_homes f_Sheet_homes _ := fun_mk (st := s_Sheet_homes) l_Sheet_homes c_Sheet_homes k_Sheet_homes
  have Fu_households : Fun (GG K C0).K "households" "households" s_households f_households _ := fun_mk (st := s_households) l_households c_households k_households
  have Fu_homes : Fun (GG K C0).K "homes" "homes" s_homes f_homes _ := fun_mk (st := s_homes) l_homes c_homes k_homes
  have Fu__law_box : Fun (GG K C0).K "_law_box" "_law_box" s__law_box f__law_box _ := fun_mk (st := s__law_box) l__law_box c__law_box k__law_box
  have Fu__law_take : Fun (GG K C0).K "_law_take" "_law_take" s__law_take f__law_take _ := fun_mk (st := s__law_take) l__law_take c__law_take k__law_take
  have Fu__law_cells : Fun (GG K C0).K "_law_cells" "_law_cells" s__law_cells f__law_cells _ := fun_mk (st := s__law_cells) l__law_cells c__law_cells k__law_cells
  have Fu__law_same : Fun (GG K C0).K "_law_same" "_law_same" s__law_same f__law_same _ := fun_mk (st := s__law_same) l__law_same c__law_same k__law_same
  have Fu__law_few : Fun (GG K C0).K "_law_few" "_law_few" s__law_few f__law_few _ := fun_mk (st := s__law_few) l__law_few c__law_few k__law_few
  have Fu__law_mixed : Fun (GG K C0).K "_law_mixed" "_law_mixed" s__law_mixed f__law_mixed _ := fun_mk (st := s__law_mixed) l__law_mixed c__law_mixed k__law_mixed
  have Fu__law_tome : Fun (GG K C0).K "_law_tome" "_law_tome" s__law_tome f__law_tome _ := fun_mk (st := s__law_tome) l__law_tome c__law_tome k__law_tome
  have Fu__law_lists : Fun (GG K C0).K "_law_lists" "_law_lists" s__law_lists f__law_lists _ := fun_mk (st := s__law_lists) l__law_lists c__law_lists k__law_lists
  have Fu__law_six : Fun (GG K C0).K "_law_six" "_law_six" s__law_six f__law_six _ := fun_mk (st := s__law_six) l__law_six c__law_six k__law_six
  have Fu__law_blend : Fun (GG K C0).K "_law_blend" "_law_blend" s__law_blend f__law_blend _ := fun_mk (st := s__law_blend) l__law_blend c__law_blend k__law_blend
  have Fu__law_by_hand_right : Fun (GG K C0).K "_law_by_hand_right" "_law_by_hand_right" s__law_by_hand_right f__law_by_hand_right _ := fun_mk (st := s__law_by_hand_right) l__law_by_hand_right c__law_by_hand_right k__law_by_hand_right
  have Fu__law_right : Fun (GG K C0).K "_law_right" "_law_right" s__law_right f__law_right _ := fun_mk (st := s__law_right) l__law_right c__law_right k__law_right
  have Fu_law : Fun (GG K C0).K "law" "law" s_law fa _ := fun_mk (st := s_law) l_law c_law k_law
  refine ⟨PySem.W.fnOf "law" "law" (defArgs s_law) (defBody s_law) (defScope s_law) .none kV_law dc_law pm_law an_law cd_law ct_law, fun s v => .of_eq rfl, fun base _ _ => ?_⟩
  have z_abs := PySem.W.mg_none_of X Gn zz_abs
  have z_all := PySem.W.mg_none_of X Gn zz_all
  have z_bool := PySem.W.mg_none_of X Gn zz_bool
  have z_enumerate := PySem.W.mg_none_of X Gn zz_enumerate
  have z_int := PySem.W.mg_none_of X Gn zz_int
  have z_isinstance := PySem.W.mg_none_of X Gn zz_isinstance
  have z_len := PySem.W.mg_none_of X Gn zz_len
  have z_list := PySem.W.mg_none_of X Gn zz_list
  have z_range := PySem.W.mg_none_of X Gn zz_range
  have z_set := PySem.W.mg_none_of X Gn zz_set
  have z_sorted := PySem.W.mg_none_of X Gn zz_sorted
  have z_str := PySem.W.mg_none_of X Gn zz_str
  have z_tuple := PySem.W.mg_none_of X Gn zz_tuple
  have z_zip := PySem.W.mg_none_of X Gn zz_zip
  have hc_Sheet : SlX.SCls (GG K C0).K ((GG K C0).cls 0) := ⟨pg0, ic0, po0, sa0⟩
  have sl_own_empties : SlX.Slot1 (GG K C0).K ((GG K C0).cls 0) "own_empties" pp_own_empties 0 := ⟨s1_own_empties, s2_own_empties, s3_own_empties, s4_own_empties, s5_own_empties, by decide⟩
  have sl_own_homes : SlX.Slot1 (GG K C0).K ((GG K C0).cls 0) "own_homes" pp_own_homes 1 := ⟨s1_own_homes, s2_own_homes, s3_own_homes, s4_own_homes, s5_own_homes, by decide⟩
  have sl_own_rows : SlX.Slot1 (GG K C0).K ((GG K C0).cls 0) "own_rows" pp_own_rows 2 := ⟨s1_own_rows, s2_own_rows, s3_own_rows, s4_own_rows, s5_own_rows, by decide⟩
  have c_tupled : ∀ n : Nat, Cal l.prog w (GG K C0) mg base (0 + n) "tupled" 1 [] (F_tupled n) := w_tupled z_isinstance z_list z_tuple Fu_tupled (PySem.W.mg_of X Gn a_tupled)
  have o_as_set := w_as_set (P := l.prog) (w := w) (G := (GG K C0)) (mg := mg) (base := base) z_set z_sorted z_tuple Fu_as_set
  have c_as_set : Cal l.prog w (GG K C0) mg base 1 "as_set" 1 [] F_as_set := (Cal.fn (PySem.W.mg_of X Gn a_as_set) Fu_as_set o_as_set (bd_as_set Fu_as_set)).isoC
  have o_Sheet_init := w_Sheet_init (P := l.prog) (w := w) (G := (GG K C0)) (mg := mg) (base := base) hc_Sheet sl_own_empties sl_own_homes sl_own_rows z_list c_tupled Fu_Sheet_init
  have c_Sheet_init : CalI l.prog w (GG K C0) mg base 9 0 "Sheet" 1 F_Sheet_init := ⟨f_Sheet_init, PySem.W.mg_of X Gn aC0, ⟨mk0, a_Sheet_init, i_Sheet_init, kc0⟩, CallW.of0 o_Sheet_init (bd_Sheet_init Fu_Sheet_init)⟩
  have o_Sheet_names := w_Sheet_names (P := l.prog) (w := w) (G := (GG K C0)) (mg := mg) (base := base) hc_Sheet sl_own_rows z_tuple Fu_Sheet_names
  have c_Sheet_names : CalM l.prog w (GG K C0) mg base 1 0 "names" 0 F_Sheet_names := ⟨f_Sheet_names, hc_Sheet, ⟨a_Sheet_names, i_Sheet_names, k_Sheet_names⟩, CallW.of0 o_Sheet_names (bd_Sheet_names Fu_Sheet_names)⟩
  have o_Sheet_homes := w_Sheet_homes (P := l.prog) (w := w) (G := (GG K C0)) (mg := mg) (base := base) hc_Sheet sl_own_homes c_as_set Fu_Sheet_homes
  have c_Sheet_homes : CalM l.prog w (GG K C0) mg base 2 0 "homes" 0 F_Sheet_homes := ⟨f_Sheet_homes, hc_Sheet, ⟨a_Sheet_homes, i_Sheet_homes, k_Sheet_homes⟩, CallW.of0 o_Sheet_homes (bd_Sheet_homes Fu_Sheet_homes)⟩
  have o_households := w_households (P := l.prog) (w := w) (G := (GG K C0)) (mg := mg) (base := base) c_Sheet_init c_Sheet_names Fu_households
  have c_households : Cal l.prog w (GG K C0) mg base 11 "households" 1 [] F_households := (Cal.fn (PySem.W.mg_of X Gn a_households) Fu_households o_households (bd_households Fu_households)).isoC
  have ck_households_0_sheet : Cal l.prog w (GG K C0) mg base 11 "households" 0 ["sheet"] F_households := (Cal.kw (PySem.W.mg_of X Gn a_households) Fu_households o_households (kbn_of Fu_households fun _ _ _ _ _ _ us ws h1 h2 => match us, ws, h1, h2 with | [], [_], _, _ => rfl)).isoC
  have o_homes := w_homes (P := l.prog) (w := w) (G := (GG K C0)) (mg := mg) (base := base) c_Sheet_init c_Sheet_homes Fu_homes
  have c_homes : Cal l.prog w (GG K C0) mg base 11 "homes" 1 [] F_homes := (Cal.fn (PySem.W.mg_of X Gn a_homes) Fu_homes o_homes (bd_homes Fu_homes)).isoC
  have ck_homes_0_sheet : Cal l.prog w (GG K C0) mg base 11 "homes" 0 ["sheet"] F_homes := (Cal.kw (PySem.W.mg_of X Gn a_homes) Fu_homes o_homes (kbn_of Fu_homes fun _ _ _ _ _ _ us ws h1 h2 => match us, ws, h1, h2 with | [], [_], _, _ => rfl)).isoC
  have o__law_box := w__law_box (P := l.prog) (w := w) (G := (GG K C0)) (mg := mg) (base := base) z_abs z_int z_len Fu__law_box
  have c__law_box : Cal l.prog w (GG K C0) mg base 1 "_law_box" 2 [] F__law_box := (Cal.fn (PySem.W.mg_of X Gn a__law_box) Fu__law_box o__law_box (bd__law_box Fu__law_box))
  have o__law_take := w__law_take (P := l.prog) (w := w) (G := (GG K C0)) (mg := mg) (base := base) z_int Fu__law_take
  have c__law_take : Cal l.prog w (GG K C0) mg base 1 "_law_take" 2 [] F__law_take := (Cal.fn (PySem.W.mg_of X Gn a__law_take) Fu__law_take o__law_take (bd__law_take Fu__law_take)).viewC
  have o__law_cells := w__law_cells (P := l.prog) (w := w) (G := (GG K C0)) (mg := mg) (base := base) z_enumerate z_int z_list Fu__law_cells
  have c__law_cells : Cal l.prog w (GG K C0) mg base 1 "_law_cells" 2 [] F__law_cells := (Cal.fn (PySem.W.mg_of X Gn a__law_cells) Fu__law_cells o__law_cells (bd__law_cells Fu__law_cells)).isoC
  have c__law_same : ∀ n : Nat, Cal l.prog w (GG K C0) mg base (0 + n) "_law_same" 2 [] (F__law_same n) := w__law_same z_all z_bool z_int z_isinstance z_len z_list z_str z_tuple z_zip Fu__law_same (PySem.W.mg_of X Gn a__law_same)
  have o__law_few := w__law_few (P := l.prog) (w := w) (G := (GG K C0)) (mg := mg) (base := base) z_tuple c__law_take Fu__law_few
  have c__law_few : Cal l.prog w (GG K C0) mg base 2 "_law_few" 3 [] F__law_few := (Cal.fn (PySem.W.mg_of X Gn a__law_few) Fu__law_few o__law_few (bd__law_few Fu__law_few)).viewC
  have o__law_mixed := w__law_mixed (P := l.prog) (w := w) (G := (GG K C0)) (mg := mg) (base := base) z_len z_list z_range z_tuple c__law_take Fu__law_mixed
  have c__law_mixed : Cal l.prog w (GG K C0) mg base 2 "_law_mixed" 2 [] F__law_mixed := (Cal.fn (PySem.W.mg_of X Gn a__law_mixed) Fu__law_mixed o__law_mixed (bd__law_mixed Fu__law_mixed)).viewC
  have o__law_tome := w__law_tome (P := l.prog) (w := w) (G := (GG K C0)) (mg := mg) (base := base) z_int z_list z_range z_set z_sorted z_tuple c__law_few c__law_mixed c__law_take Fu__law_tome
  have c__law_tome : Cal l.prog w (GG K C0) mg base 3 "_law_tome" 3 [] F__law_tome := (Cal.fn (PySem.W.mg_of X Gn a__law_tome) Fu__law_tome o__law_tome (bd__law_tome Fu__law_tome)).viewC
  have c__law_lists : ∀ n : Nat, Cal l.prog w (GG K C0) mg base (0 + n) "_law_lists" 1 [] (F__law_lists n) := w__law_lists z_isinstance z_list z_tuple Fu__law_lists (PySem.W.mg_of X Gn a__law_lists)
  have o__law_six := w__law_six (P := l.prog) (w := w) (G := (GG K C0)) (mg := mg) (base := base)  Fu__law_six
  have c__law_six : Cal l.prog w (GG K C0) mg base 1 "_law_six" 0 [] F__law_six := (Cal.fn (PySem.W.mg_of X Gn a__law_six) Fu__law_six o__law_six (bd__law_six Fu__law_six)).isoC
  have c__law_blend : ∀ n : Nat, Cal l.prog w (GG K C0) mg base (1 + n) "_law_blend" 2 [] (F__law_blend n) := w__law_blend z_isinstance z_list z_tuple c__law_take Fu__law_blend (PySem.W.mg_of X Gn a__law_blend)
  have o__law_by_hand_right := w__law_by_hand_right (P := l.prog) (w := w) (G := (GG K C0)) (mg := mg) (base := base) c__law_same c__law_six c_homes c_households Fu__law_by_hand_right
  have c__law_by_hand_right : Cal l.prog w (GG K C0) mg base 12 "_law_by_hand_right" 0 [] F__law_by_hand_right := (Cal.fn (PySem.W.mg_of X Gn a__law_by_hand_right) Fu__law_by_hand_right o__law_by_hand_right (bd__law_by_hand_right Fu__law_by_hand_right)).isoC
  have o__law_right := w__law_right (P := l.prog) (w := w) (G := (GG K C0)) (mg := mg) (base := base) z_range z_sorted z_tuple c__law_blend c__law_by_hand_right c__law_lists c__law_same c__law_tome c_homes ck_homes_0_sheet c_households ck_households_0_sheet Fu__law_right
  have c__law_right : Cal l.prog w (GG K C0) mg base 13 "_law_right" 1 [] F__law_right := (Cal.fn (PySem.W.mg_of X Gn a__law_right) Fu__law_right o__law_right (bd__law_right Fu__law_right)).viewC
  exact law_ok (w_law z_all z_len z_range c__law_box c__law_cells c__law_right Fu_law) hT
end K01
/-! Hn1: what the shared helpers compute. -/
namespace Hn
open PySem PySem.Spec PyProof.Rows L2 Sm

/-- the urn, with room for m drawings more -/
def Urn (o : Bo) (m : Nat) : Prop := ∃ a b c : Int, o = .lst [.d (.int a), .d (.int b), .d (.int c)] ∧ 0 ≤ a ∧ 0 ≤ b ∧ b < 2 ^ 62 ∧ 0 ≤ c ∧ c + m < 2 ^ 40
theorem Urn.pure {o : Bo} {m : Nat} (u : Urn o m) : pureB o = true := by
  obtain ⟨a, b, c, rfl, _⟩ := u
  rfl
theorem Urn.less {o : Bo} {m k : Nat} (u : Urn o m) (h : k ≤ m) : Urn o k := by
  obtain ⟨a, b, c, e, h1, h2, h3, h4, h5⟩ := u
  exact ⟨a, b, c, e, h1, h2, h3, h4, by omega⟩
theorem small_mul {i j : Int} (h : -(2 ^ 64) < j ∧ j < 2 ^ 64) : mulOk i j = true := by
  unfold mulOk smallI
  simp only [Bool.or_eq_true, decide_eq_true_eq]
  exact .inl (.inr h)
theorem small_mul' {i j : Int} (h : -(2 ^ 64) < i ∧ i < 2 ^ 64) : mulOk i j = true := by
  unfold mulOk smallI
  simp only [Bool.or_eq_true, decide_eq_true_eq]
  exact .inl (.inl h)
theorem small_div {j : Int} (h : 0 < j) (h2 : j < 1073741824) : divOk j = true := by
  unfold divOk
  simp [h, h2]
/-- a drawing: from the box itself -/
theorem take_raw {o : Bo} {m : Nat} {low : Int} (u : Urn o (m + 1)) (h0 : 0 < low) (h1 : low < 1000000) : ∃ (r : Int) (o' : Bo), R__law_take [.loc 0, .d (.int low)] [o] = .ok (.d (.int r)) [o'] ∧ 0 ≤ r ∧ r < low ∧ Urn o' m := by
  obtain ⟨a, b, c, rfl, ha, hb, hb2, hc, hm⟩ := u
  unfold R__law_take runB b__law_take
  by_cases h : 0 < a
  · refine ⟨a % low, .lst [.d (.int (a / low)), .d (.int b), .d (.int c)], ?_, Int.emod_nonneg _ (by omega), Int.emod_lt_of_pos _ h0, a / low, b, c, rfl, Int.ediv_nonneg ha (by omega), hb, hb2, hc, by omega⟩
    simp [sSeq, sqz, sIf, sSet, sSub, sRet, mTst, m2, mN, mV, mC, aCons, aNil, Rz.to, Rz.bind, pIx, pGt, pCmp, pInt, pMod, pDiv, dctAt, seqAt, lstAt, toB, li, lift, Sm.lift, atI, ixN, h, h0, small_div h0 (by omega), stSub, oz]
  · have e1 : mulOk 48271 (c + 1) = true := small_mul' (by omega)
    have e2 : mulOk (b + 48271 * (c + 1)) (39373 + (c + 1)) = true := small_mul (by omega)
    generalize hv : (b + 48271 * (c + 1)) * (39373 + (c + 1)) % 2147483647 = v at *
    have hv0 : 0 ≤ v := by
      rw [← hv]
      exact Int.emod_nonneg _ (by omega)
    have hv1 : v < 2147483647 := by
      rw [← hv]
      exact Int.emod_lt_of_pos _ (by omega)
    have e3 : mulOk (v + (c + 1) + b / 1000003) (v % 40009 + 7) = true := small_mul (by omega)
    generalize hw : (v + (c + 1) + b / 1000003) * (v % 40009 + 7) % 2147483629 = x at *
    have hw0 : 0 ≤ x := by
      rw [← hw]
      exact Int.emod_nonneg _ (by omega)
    have hw1 : x < 2147483629 := by
      rw [← hw]
      exact Int.emod_lt_of_pos _ (by omega)
    have e4 : mulOk x 48271 = true := small_mul (by omega)
    have e5 : divOk 1000003 = true := by decide
    have e6 : divOk 64 = true := by decide
    refine ⟨(x * 48271 + v) % 2147483587 / 64 % low, .lst [.d (.int a), .d (.int b), .d (.int (c + 1))], ?_, Int.emod_nonneg _ (by omega), Int.emod_lt_of_pos _ h0, a, b, c + 1, rfl, ha, hb, hb2, by omega, by omega⟩
    simp [sSeq, sqz, sIf, sSet, sSub, sRet, sNil, mTst, m2, mN, mV, mC, aCons, aNil, Rz.to, Rz.bind, pIx, pGt, pCmp, pInt, pMod, pDiv, pAdd, pMul, dctAt, seqAt, lstAt, toB, li, lift, Sm.lift, atI, ixN, h, h0, e1, e2, e3, e4, e5, e6, hv, hw, stSub, oz]
end Hn
/-! Hn2: take in any store, few, mixed. -/
namespace Hn
open PySem PySem.Spec PyProof.Rows L2 Sm
@[simp] theorem pures_d : ∀ ts : List Dt, pures (ts.map Dv.d) = some ts
  | [] => rfl
  | t :: ts => by
    show (pures (ts.map Dv.d)).map (t :: ·) = _
    rw [pures_d ts]
    rfl
theorem view_ok {F : FM} {ts : List Dt} {n : Nat} {S : Sto} {o o' : Bo} {r : Dt} {rest : Sto} (hS : S[n]? = some o) (hp : pureB o = true) (hF : F (.loc 0 :: ts.map .d) [o] = .ok (.d r) (o' :: rest)) (hp' : pureB o' = true) : view F (.loc n :: ts.map .d) S = .ok (.d r) (S.set n o') := by
  show (match pures (ts.map Dv.d), S[n]? with
    | some _, some o => if pureB o = true then (match F (.loc 0 :: ts.map .d) [o] with
      | .ok (.d t) (o' :: _) => if pureB o' = true then Rz.ok (Dv.d t) (S.set n o') else .bad
      | .er c t (o' :: _) => if pureB o' = true then .er c t (S.set n o') else .bad
      | _ => .bad) else .bad
    | _, _ => .bad) = _
  rw [pures_d, hS]
  simp [hp, hF, hp']
theorem iso_ok {F : FM} {ts : List Dt} {S S' : Sto} {r : Dt} (hF : F (ts.map .d) [] = .ok (.d r) S') : iso F (ts.map .d) S = .ok (.d r) S := by
  show (match pures (ts.map Dv.d) with
    | some _ => (match F (ts.map .d) [] with
      | .ok (.d t) _ => Rz.ok (Dv.d t) S
      | .er c t _ => .er c t S
      | _ => .bad)
    | none => .bad) = _
  rw [pures_d, hF]
theorem runB_rt {n p : Nat} {b : SM} {ds : List Dv} {S S' : Sto} {d : Dv} (hl : ds.length = p) (hb : b (ds.map some ++ List.replicate (n - p) none) S = .rt d S') : runB n p b ds S = .ok d S' := by
  unfold runB
  rw [if_pos hl, hb]
theorem take_ok {S : Sto} {n : Nat} {o : Bo} {m : Nat} {low : Int} (hS : S[n]? = some o) (u : Urn o (m + 1)) (h0 : 0 < low) (h1 : low < 1000000) : ∃ (r : Int) (o' : Bo), F__law_take [.loc n, .d (.int low)] S = .ok (.d (.int r)) (S.set n o') ∧ 0 ≤ r ∧ r < low ∧ Urn o' m := by
  obtain ⟨r, o', e, a, b, u'⟩ := take_raw u h0 h1
  exact ⟨r, o', view_ok (ts := [.int low]) hS u.pure e u'.pure, a, b, u'⟩
/-- some of the pool, in its order -/
theorem few_loop {k : Int} (hk : 0 < k) (hk1 : k < 1000000) (P : Dt) : ∀ (ts : List Dt) (m : Nat) (o : Bo), Urn o (ts.length + m) →
    ∃ (r : List Dt) (o' : Bo), lcL (gN 3) (mTst (m2 pEq (mF F__law_take (aCons (mV 0) (aCons (mV 2) aNil))) (mC (.int 0)))) (mV 3) [some (.loc 0), some (.d P), some (.d (.int k)), none] ts [o] = .ok (r.map .d) [o'] ∧ r.Sublist ts ∧ Urn o' m
  | [], m, o, u => ⟨[], o, rfl, List.Sublist.slnil, by simpa using u⟩
  | t :: ts, m, o, u => by
    obtain ⟨x, o1, e1, x0, x1, u1⟩ := take_ok (S := [o]) (n := 0) (m := ts.length + m) rfl (u.less (by simp; omega)) hk hk1
    obtain ⟨r, o2, e2, hs, u2⟩ := few_loop hk hk1 P ts m o1 u1
    have e1' : F__law_take [.loc 0, .d (.int k)] [o] = .ok (.d (.int x)) [o1] := e1
    by_cases hx : x = 0
    · refine ⟨t :: r, o2, ?_, hs.cons₂ t, u2⟩
      unfold lcL
      simp [e1', pEq, hx, e2]
    · refine ⟨r, o2, ?_, hs.cons t, u2⟩
      unfold lcL
      simp [e1', pEq, hx, e2]
theorem few_ok {S : Sto} {n : Nat} {o : Bo} {m : Nat} {k : Int} {P : Dt} {ts : List Dt} (hP : seqOf (.d P) = some ts) (hz : ts.length ≤ 1000) (hS : S[n]? = some o) (u : Urn o (ts.length + m)) (h0 : 0 < k) (h1 : k < 1000000) :
    ∃ (r : List Dt) (o' : Bo), F__law_few [.loc n, .d P, .d (.int k)] S = .ok (.d (.tup r)) (S.set n o') ∧ r.Sublist ts ∧ Urn o' m := by
  obtain ⟨r, o', e, hs, u'⟩ := few_loop h0 h1 P ts m o u
  refine ⟨r, o', view_ok (ts := [P, .int k]) (rest := []) hS u.pure ?_ u'.pure, hs, u'⟩
  have hl : r.length ≤ 16777216 := by
    have := hs.length_le
    omega
  have hl2 : ts.length ≤ 16777216 := by omega
  unfold R__law_few runB b__law_few
  simp [hP, hl2, e, pLst, hl, pTuple, lstT, lstAt, dctAt]
theorem er_map {α β : Type} (f : α → β) : ∀ (l : List α) (i : Nat), (l.map f).eraseIdx i = (l.eraseIdx i).map f
  | [], _ => by simp
  | a :: l, 0 => rfl
  | a :: l, i + 1 => by
    show f a :: (l.map f).eraseIdx i = _
    rw [er_map f l i]
    rfl
/-- a pool in another order -/
theorem mixed_loop : ∀ (ts : List Dt) (P : Dt) (L R : List Dt) (m : Nat) (o : Bo) (z : Option Dv), ts.length = L.length → L.length < 1000 → R.length + L.length < 1000 → Urn o (L.length + m) →
    ∃ (R' : List Dt) (o' : Bo) (z' : Option Dv), forL (gN 4) (sDrop (mLm pAppend (mV 3) (aCons (mLm pPopAt (mV 2) (aCons (mF F__law_take (aCons (mV 0) (aCons (mN pLen (aCons (mV 2) (aNil))) (aNil)))) (aNil))) (aNil)))) ts [some (.loc 0), some (.d P), some (.loc 1), some (.loc 2), z] [o, .lst (L.map .d), .lst (R.map .d)]
      = .nx [some (.loc 0), some (.d P), some (.loc 1), some (.loc 2), z'] [o', .lst [], .lst (R'.map .d)] ∧ R'.Perm (R ++ L) ∧ Urn o' m
  | [], P, L, R, m, o, z, hl, _, _, u => by
    have e : L = [] := List.eq_nil_of_length_eq_zero (by simpa using hl.symm)
    subst e
    exact ⟨R, o, z, rfl, by simp, by simpa using u⟩
  | t :: ts, P, L, R, m, o, z, hl, hz, hz2, u => by
    have hpos : 0 < L.length := by
      rw [← hl]
      simp
    obtain ⟨x, o1, e1, x0, x1, u1⟩ := take_ok (S := [o, .lst (L.map .d), .lst (R.map .d)]) (n := 0) (m := L.length - 1 + m) (low := (L.length : Int)) rfl (u.less (by omega)) (by omega) (by omega)
    have hj : x.toNat < L.length := by omega
    have e1' : F__law_take [.loc 0, .d (.int (L.length : Int))] [o, .lst (L.map .d), .lst (R.map .d)] = .ok (.d (.int x)) [o1, .lst (L.map .d), .lst (R.map .d)] := e1
    have hlen : (L.eraseIdx x.toNat).length = L.length - 1 := by
      rw [List.length_eraseIdx_of_lt hj]
    obtain ⟨R', o2, z', e2, hp, u2⟩ := mixed_loop ts P (L.eraseIdx x.toNat) (R ++ [L[x.toNat]]) m o1 (some (.d t)) (by rw [hlen, ← hl]; simp) (by omega) (by simp; omega) (by rw [hlen]; exact u1)
    have hix : seqIndex? x L.length = some x.toNat := by
      have := (ixN_seq (n := L.length) (i := x) (j := x.toNat) (by unfold ixN; rw [if_pos x0, if_pos x1])).1
      exact this
    have hpr : (R ++ [L[x.toNat]] ++ L.eraseIdx x.toNat).Perm (R ++ L) := by
      rw [List.append_assoc]
      refine List.Perm.append_left R ?_
      exact L2.erase_perm L x.toNat L[x.toNat] (List.getElem?_eq_getElem hj)
    refine ⟨R', o2, z', ?_, hp.trans hpr, u2⟩
    have hR : R.length < 16777216 := by omega
    have hb : (-9223372036854775808 ≤ x ∧ x < 9223372036854775808) := by omega
    unfold forL
    simp only [gN_s, oz_some]
    have step : sDrop (mLm pAppend (mV 3) (aCons (mLm pPopAt (mV 2) (aCons (mF F__law_take (aCons (mV 0) (aCons (mN pLen (aCons (mV 2) (aNil))) (aNil)))) (aNil))) (aNil))) [some (.loc 0), some (.d P), some (.loc 1), some (.loc 2), some (.d t)] [o, .lst (L.map .d), .lst (R.map .d)]
        = .nx [some (.loc 0), some (.d P), some (.loc 1), some (.loc 2), some (.d t)] [o1, .lst ((L.eraseIdx x.toNat).map .d), .lst ((R ++ [L[x.toNat]]).map .d)] := by
      simp [isLs, lstAt, pLen, dctAt, seqAt, e1', pPopAt, hb, hix, List.getElem?_eq_getElem hj, pAppend, hR, er_map]
    show (match sDrop _ [some (.loc 0), some (.d P), some (.loc 1), some (.loc 2), some (.d t)] _ with
      | .nx ρ2 S2 => _
      | .ct ρ2 S2 => _
      | .bk ρ2 S2 => _
      | r => _) = _
    rw [step]
    exact e2
theorem pLstB_nil {S : Sto} : pLstB [] S = some (.loc S.length, S ++ [.lst []]) := if_pos (Nat.zero_le _)
theorem rgOk0 {j : Int} (h0 : 0 ≤ j) (h1 : j < 16777216) : rgOk 0 j = true := decide_eq_true ⟨by omega, by omega, by omega, by omega⟩
theorem iRg_ok {f : List Dv → Option (List Dt)} {as : M (List Dv)} {ρ : Sm.Env} {S S1 : Sto} {ds : List Dv} {ts : List Dt} (h1 : as ρ S = .ok ds S1) (h2 : f ds = some ts) : iRg f as ρ S = .ok ts S1 := by
  show (as ρ S).bind (fun ds S1 => li (f ds) S1) = _
  rw [h1, bind_ok, h2, li_some]
theorem q_rg {n : Nat} (h : n < 1000) : rg1 [.d (.int (n : Int))] = some (rgL 0 n) := by
  show (if rgOk 0 (n : Int) = true then some (rgL 0 (n : Int).toNat) else none) = _
  rw [if_pos (rgOk0 (by omega) (by omega)), Int.toNat_natCast]
abbrev eL (L : List Dt) : Sm.Env := [some (.loc 0), some (.d (.lst L)), some (.loc 1), some (.loc 2), none]
theorem q_len {L : List Dt} {S : Sto} : pLen [.d (.lst L)] S = some (.d (.int (L.length : Int)), S) := by
  simp [pLen, dctAt, seqAt, lstAt]
theorem q_i {L : List Dt} {S : Sto} (h : L.length < 1000) : iRg rg1 (aCons (mN pLen (aCons (mV 1) (aNil))) (aNil)) (eL L) S = .ok (rgL 0 L.length) S := by
  exact iRg_ok (ds := [.d (.int (L.length : Int))]) (by simp only [aCons_s, mN_s, mV_s, aNil_s, List.getElem?_cons_zero, List.getElem?_cons_succ, bind_ok, q_len, Sm.lift_some]) (q_rg h)
theorem q_1 {L : List Dt} {o : Bo} : sPars [2, 3] (aCons (mN pListB (aCons (mV 1) (aNil))) (aCons (mN pLstB (aNil)) (aNil))) [some (.loc 0), some (.d (.lst L)), none, none, none] [o] = .nx (eL L) [o, .lst (L.map .d), .lst []] := by
  have p1 : pListB [.d (.lst L)] [o] = some (.loc 1, [o, .lst (L.map .d)]) := by
    simp [pListB, itemsOf, dctAt, seqAt, lstAt]
  simp only [sPars_s, aCons_s, mN_s, mV_s, aNil_s, List.getElem?_cons_zero, List.getElem?_cons_succ, bind_ok, p1, Sm.lift_some, pLstB_nil, to_ok]
  rfl
theorem q_3 {L r : List Dt} {o' : Bo} {z' : Option Dv} : sRet (mN pTuple (aCons (mV 3) (aNil))) [some (.loc 0), some (.d (.lst L)), some (.loc 1), some (.loc 2), z'] [o', .lst [], .lst (r.map .d)] = .rt (.d (.tup r)) [o', .lst [], .lst (r.map .d)] := by
  have e1 : pTuple [.loc 2] [o', .lst [], .lst (r.map .d)] = some (.d (.tup r), [o', .lst [], .lst (r.map .d)]) := by
    simp [pTuple, dctAt, lstT, lstAt]
  simp only [sRet_s, mN_s, aCons_s, mV_s, aNil_s, List.getElem?_cons_zero, List.getElem?_cons_succ, bind_ok, e1, Sm.lift_some, to_ok]
theorem mixed_raw {o : Bo} {m : Nat} {L : List Dt} (hz : L.length < 1000) (u : Urn o (L.length + m)) :
    ∃ (r : List Dt) (o' : Bo), R__law_mixed [.loc 0, .d (.lst L)] [o] = .ok (.d (.tup r)) [o', .lst [], .lst (r.map .d)] ∧ r.Perm L ∧ Urn o' m := by
  obtain ⟨r, o', z', e, hp, u'⟩ := mixed_loop (rgL 0 L.length) (.lst L) L [] m o none (by unfold rgL; rw [List.length_map, List.length_range]) hz (by rw [List.length_nil, Nat.zero_add]; exact hz) u
  refine ⟨r, o', ?_, hp, u'⟩
  refine runB_rt (ds := [.loc 0, .d (.lst L)]) rfl ?_
  show b__law_mixed [some (.loc 0), some (.d (.lst L)), none, none, none] [o] = _
  unfold b__law_mixed
  rw [sSeq_s, q_1, sqz_nx, sSeq_s, sFor_s, q_i hz, to_ok]
  rw [show forL (gN 4) _ (rgL 0 L.length) (eL L) [o, .lst (L.map .d), .lst []] = _ from e, sqz_nx, q_3]
theorem mixed_ok {S : Sto} {n : Nat} {o : Bo} {m : Nat} {L : List Dt} (hz : L.length < 1000) (hS : S[n]? = some o) (u : Urn o (L.length + m)) :
    ∃ (r : List Dt) (o' : Bo), F__law_mixed [.loc n, .d (.lst L)] S = .ok (.d (.tup r)) (S.set n o') ∧ r.Perm L ∧ Urn o' m := by
  obtain ⟨r, o', e, hp, u'⟩ := mixed_raw hz u
  exact ⟨r, o', view_ok (ts := [.lst L]) hS u.pure e u'.pure, hp, u'⟩
end Hn
/-! Hn3: cells. -/
namespace Hn
open PySem PySem.Spec PyProof.Rows L2 Sm
/-- ints as data -/
def dI (l : List Int) : List Dt := l.map .int
def dvI (l : List Int) : List Dv := l.map fun i => .d (.int i)
theorem dvI_get {l : List Int} {j : Nat} (h : j < l.length) : (dvI l)[j]? = some (.d (.int l[j])) := by
  unfold dvI
  rw [List.getElem?_map, List.getElem?_eq_getElem h]
  rfl
theorem dvI_len {l : List Int} : (dvI l).length = l.length := by
  unfold dvI
  simp
theorem dvI_set {l : List Int} {j : Nat} {x : Int} : (dvI l).set j (.d (.int x)) = dvI (l.set j x) := by
  unfold dvI
  rw [List.map_set]
theorem ixN_at {n : Nat} {x : Int} (h0 : 0 ≤ x) (h1 : x < n) : ixN n x = some x.toNat := by
  unfold ixN
  rw [if_pos h0, if_pos h1]
def cBody : SM := sSeq (sSet 5 (m2 pMod (mN pInt (aCons (mV 3) (aNil))) (mV 1))) (sSub (mV 2) (mV 5) (m2 pAdd (m2 pIx (mV 2) (mV 5)) (m2 pMul (mV 4) (m2 pAdd (mV 3) (mC (.int 2))))))
theorem cells_turn {P : Dt} {l : List Int} {i c : Int} {z : Option Dv} (hl : l.length = 3) (h0 : 0 ≤ i) (h1 : i < 2 ^ 40) : ∃ (l' : List Int) (z' : Option Dv), cBody [some (.d P), some (.d (.int 3)), some (.loc 0), some (.d (.int i)), some (.d (.int c)), z] [.lst (dvI l)] = .nx [some (.d P), some (.d (.int 3)), some (.loc 0), some (.d (.int i)), some (.d (.int c)), z'] [.lst (dvI l')] ∧ l'.length = 3 := by
  have m0 : 0 ≤ i % 3 := Int.emod_nonneg _ (by omega)
  have m1' : i % 3 < 3 := Int.emod_lt_of_pos _ (by omega)
  have hj : (i % 3).toNat < l.length := by omega
  have hm : mulOk c (i + 2) = true := small_mul (by omega)
  have hix : ixN (dvI l).length (i % 3) = some (i % 3).toNat := ixN_at m0 (by rw [dvI_len, hl]; exact m1')
  have hat : atI (dvI l) (i % 3) = some (.d (.int l[(i % 3).toNat])) := by
    unfold atI
    rw [hix]
    exact dvI_get hj
  refine ⟨l.set (i % 3).toNat (l[(i % 3).toNat] + c * (i + 2)), some (.d (.int (i % 3))), ?_, by rw [List.length_set]; exact hl⟩
  unfold cBody
  simp [pInt, pMod, pAdd, pMul, hm, pIx, dctAt, seqAt, lstAt, hat, stSub, hix, dvI_set]
theorem cells_loop {P : Dt} : ∀ (ts : List Dt), (∀ t ∈ ts, ∃ i c : Int, t = .tup [.int i, .int c] ∧ 0 ≤ i ∧ i < 2 ^ 40) → ∀ (l : List Int) (z3 z4 z5 : Option Dv), l.length = 3 →
    ∃ (l' : List Int) (z3' z4' z5' : Option Dv), forL (gT (gsCons (gN 3) (gsCons (gN 4) (gsNil)))) cBody ts [some (.d P), some (.d (.int 3)), some (.loc 0), z3, z4, z5] [.lst (dvI l)] = .nx [some (.d P), some (.d (.int 3)), some (.loc 0), z3', z4', z5'] [.lst (dvI l')] ∧ l'.length = 3
  | [], _, l, z3, z4, z5, hl => ⟨l, z3, z4, z5, rfl, hl⟩
  | t :: ts, h, l, z3, z4, z5, hl => by
    obtain ⟨i, c, rfl, h0, h1⟩ := h t List.mem_cons_self
    obtain ⟨l1, z1, e1, hl1⟩ := cells_turn (P := P) (l := l) (c := c) (z := z5) hl h0 h1
    obtain ⟨l2, a, b, d, e2, hl2⟩ := cells_loop ts (fun t ht => h t (List.mem_cons_of_mem _ ht)) l1 (some (.d (.int i))) (some (.d (.int c))) z1 hl1
    refine ⟨l2, a, b, d, ?_, hl2⟩
    unfold forL
    show (match cBody [some (.d P), some (.d (.int 3)), some (.loc 0), some (.d (.int i)), some (.d (.int c)), z5] [.lst (dvI l)] with
      | .nx ρ2 S2 => forL (gT (gsCons (gN 3) (gsCons (gN 4) (gsNil)))) cBody ts ρ2 S2
      | .ct ρ2 S2 => forL (gT (gsCons (gN 3) (gsCons (gN 4) (gsNil)))) cBody ts ρ2 S2
      | .bk ρ2 S2 => .nx ρ2 S2
      | r => r) = _
    rw [e1]
    exact e2
theorem enL_mem {ns : List Int} (hz : ns.length < 1000) : ∀ t ∈ enL (dI ns), ∃ i c : Int, t = .tup [.int i, .int c] ∧ 0 ≤ i ∧ i < 2 ^ 40 := fun t ht => by
  unfold enL at ht
  obtain ⟨j, hj, e⟩ := List.mem_filterMap.mp ht
  have hj' := List.mem_range.mp hj
  unfold dI at hj' e
  rw [List.length_map] at hj'
  rw [List.getElem?_map, List.getElem?_eq_getElem hj'] at e
  cases e
  exact ⟨j, ns[j], rfl, by omega, by omega⟩
theorem cut0 {xs : List Dt} {k : Nat} : cutL xs none (some (k : Int)) = xs.take k := by
  unfold cutL
  rw [HT.sIx_none, HT.sIx_nat, List.drop_zero, Nat.sub_zero, ← List.take_eq_take_min]
theorem cut1 {xs : List Dt} {k n : Nat} : ∃ a b : Nat, cutL xs (some (k : Int)) (some (n : Int)) = (xs.drop a).take b ∧ (xs.length ≤ k → (xs.drop a).take b = []) := by
  refine ⟨min k xs.length, min n xs.length - min k xs.length, ?_, fun h => ?_⟩
  · unfold cutL
    rw [HT.sIx_nat, HT.sIx_nat]
  · rw [Nat.min_eq_right h, List.drop_length]
    simp
end Hn
/-! Hn4: cells, whole. -/
namespace Hn
open PySem PySem.Spec PyProof.Rows L2 Sm
def cSlice : M (List Dt) := iRg en1 (aCons (mSl pSl (mV 0) (oPt (mV 1)) (oPt (mC (.int 63)))) (aNil))
theorem cells_it {ns : List Int} {z : Option Dv} {S : Sto} : ∃ ms : List Int, cSlice [some (.d (.scr (dI ns))), some (.d (.int 3)), z, none, none, none] S = .ok (enL (dI ms)) S ∧ ms.length ≤ ns.length ∧ (ns.length ≤ 3 → ms = []) := by
  obtain ⟨a, b, e, he⟩ := cut1 (xs := dI ns) (k := 3) (n := 63)
  refine ⟨(ns.drop a).take b, ?_, ?_, fun h => ?_⟩
  · refine iRg_ok (ds := [.d (.lst (dI ((ns.drop a).take b)))]) ?_ rfl
    have e' : pSl (some 3) (some 63) (.d (.scr (dI ns))) S = some (.d (.lst (dI ((ns.drop a).take b))), S) := by
      have : cutL (dI ns) (some (3 : Int)) (some (63 : Int)) = dI ((ns.drop a).take b) := by
        refine e.trans ?_
        unfold dI
        rw [List.map_take, List.map_drop]
      show some (Dv.d (.lst (cutL (dI ns) (some 3) (some 63))), S) = _
      rw [this]
    simp only [aCons_s, mSl_s, mV_s, mC_s, oPt_s, aNil_s, List.getElem?_cons_zero, List.getElem?_cons_succ, bind_ok, e', Sm.lift_some]
  · rw [List.length_take, List.length_drop]
    omega
  · have := he (by unfold dI; rw [List.length_map]; exact h)
    unfold dI at this
    rw [← List.map_drop, ← List.map_take] at this
    exact List.map_eq_nil_iff.mp this
def cHead : M Dv := mOrT pTru (mN pListB (aCons (mSl pSl (mV 0) (oNo) (oPt (mV 1))) (aNil))) (mN pLstB (aCons (mC (.int 0)) (aNil)))
theorem dI_d (l : List Int) : (dI l).map Dv.d = dvI l := by
  unfold dI dvI
  rw [List.map_map]
  rfl
theorem cells_head (ns : List Int) : cHead [some (.d (.scr (dI ns))), some (.d (.int 3)), none, none, none, none] [] = (if ns = [] then .ok (.loc 1) [.lst [], .lst (dvI [0])] else .ok (.loc 0) [.lst (dvI (ns.take 3))]) := by
  have e' : pSl none (some 3) (.d (.scr (dI ns))) [] = some (.d (.lst (dI (ns.take 3))), []) := by
    have : cutL (dI ns) none (some (3 : Int)) = dI (ns.take 3) := by
      refine (cut0 (xs := dI ns) (k := 3)).trans ?_
      unfold dI
      rw [List.map_take]
    show some (Dv.d (.lst (cutL (dI ns) none (some 3))), ([] : Sto)) = _
    rw [this]
  have p1 : pListB [.d (.lst (dI (ns.take 3)))] [] = some (.loc 0, [.lst (dvI (ns.take 3))]) := by
    have : itemsOf [] (.d (.lst (dI (ns.take 3)))) = some (dI (ns.take 3)) := by
      simp [itemsOf, dctAt, seqAt, lstAt]
    show (match itemsOf [] (.d (.lst (dI (ns.take 3)))) with
      | some ts => some (Dv.loc ([] : Sto).length, ([] : Sto) ++ [Bo.lst (ts.map Dv.d)])
      | none => none) = _
    rw [this]
    simp only [dI_d]
    rfl
  have t1 : pTru (.loc 0) [.lst (dvI (ns.take 3))] = some (!(dvI (ns.take 3)).isEmpty) := rfl
  unfold cHead
  simp only [mOrT_s, mN_s, aCons_s, mSl_s, mV_s, oNo_s, oPt_s, aNil_s, List.getElem?_cons_zero, List.getElem?_cons_succ, bind_ok, e', Sm.lift_some, p1, t1, li_some]
  cases ns with
  | nil => rfl
  | cons a r => rfl
theorem frz_dvI {l : List Int} {S : Sto} {n : Nat} (h : S[n]? = some (.lst (dvI l))) : frz (.loc n) S = some (.d (.lst (dI l)), S.set n .dead) := by
  unfold frz
  simp only [h, ← dI_d, pures_d]
theorem cells_ok {ns : List Int} (hz : ns.length ≤ 63) {S : Sto} : ∃ cs : List Int, F__law_cells [.d (.scr (dI ns)), .d (.int 3)] S = .ok (.d (.lst (dI cs))) S ∧ cs.length ≤ 3 := by
  have go : ∃ (cs : List Int) (S' : Sto), b__law_cells [some (.d (.scr (dI ns))), some (.d (.int 3)), none, none, none, none] [] = .rt (.d (.lst (dI cs))) S' ∧ cs.length ≤ 3 := by
    have hb : b__law_cells = sSeq (sSet 2 cHead) (sSeq (sFor cSlice (gT (gsCons (gN 3) (gsCons (gN 4) (gsNil)))) cBody) (sRet (mFrz (mV 2)))) := rfl
    rw [hb, sSeq_s, sSet_s, cells_head]
    by_cases h : ns = []
    · rw [if_pos h, to_ok, sqz_nx, sSeq_s, sFor_s]
      obtain ⟨ms, e, _, e0⟩ := cells_it (ns := ns) (z := some (.loc 1)) (S := [.lst [], .lst (dvI [0])])
      have hms := e0 (by rw [h]; exact Nat.zero_le _)
      subst hms
      show ∃ (cs : List Int) (S' : Sto), sqz ((cSlice [some (.d (.scr (dI ns))), some (.d (.int 3)), some (.loc 1), none, none, none] [.lst [], .lst (dvI [0])]).to _ _) _ = .rt (.d (.lst (dI cs))) S' ∧ cs.length ≤ 3
      rw [e]
      exact ⟨[0], _, rfl, by decide⟩
    · rw [if_neg h, to_ok, sqz_nx, sSeq_s, sFor_s]
      obtain ⟨ms, e, hm, e0⟩ := cells_it (ns := ns) (z := some (.loc 0)) (S := [.lst (dvI (ns.take 3))])
      show ∃ (cs : List Int) (S' : Sto), sqz ((cSlice [some (.d (.scr (dI ns))), some (.d (.int 3)), some (.loc 0), none, none, none] [.lst (dvI (ns.take 3))]).to _ _) _ = .rt (.d (.lst (dI cs))) S' ∧ cs.length ≤ 3
      rw [e, to_ok]
      show ∃ (cs : List Int) (S' : Sto), sqz (forL (gT (gsCons (gN 3) (gsCons (gN 4) (gsNil)))) cBody (enL (dI ms)) [some (.d (.scr (dI ns))), some (.d (.int 3)), some (.loc 0), none, none, none] [.lst (dvI (ns.take 3))]) (sRet (mFrz (mV 2))) = .rt (.d (.lst (dI cs))) S' ∧ cs.length ≤ 3
      by_cases h3 : ns.length ≤ 3
      · have hms := e0 h3
        subst hms
        refine ⟨ns.take 3, [.dead], ?_, by rw [List.length_take]; omega⟩
        show sRet (mFrz (mV 2)) [some (.d (.scr (dI ns))), some (.d (.int 3)), some (.loc 0), none, none, none] [.lst (dvI (ns.take 3))] = _
        simp only [sRet_s, mFrz_s, mV_s, List.getElem?_cons_zero, List.getElem?_cons_succ, bind_ok, frz_dvI (S := [.lst (dvI (ns.take 3))]) (n := 0) rfl, Sm.lift_some, to_ok]
        rfl
      · obtain ⟨l', a, b, d, e2, hl'⟩ := cells_loop (P := .scr (dI ns)) (enL (dI ms)) (enL_mem (by omega)) (ns.take 3) none none none (by rw [List.length_take]; omega)
        rw [e2, sqz_nx]
        refine ⟨l', [.dead], ?_, by omega⟩
        simp only [sRet_s, mFrz_s, mV_s, List.getElem?_cons_zero, List.getElem?_cons_succ, bind_ok, frz_dvI (S := [.lst (dvI l')]) (n := 0) rfl, Sm.lift_some, to_ok]
        rfl
  obtain ⟨cs, S', e, hc⟩ := go
  exact ⟨cs, iso_ok (ts := [.scr (dI ns), .int 3]) (runB_rt (ds := [.d (.scr (dI ns)), .d (.int 3)]) rfl e), hc⟩
end Hn
/-! Hn5: nested texts, tupled, lists. -/
namespace Hn
open PySem PySem.Spec PyProof.Rows L2 Sm
/-- texts in lists and tuples, of nesting at most n -/
def Tx : Nat → Dt → Prop
  | 0, t => ∃ s, PyData.strOk s = true ∧ t = .str s
  | n + 1, t => (∃ s, PyData.strOk s = true ∧ t = .str s) ∨ ∃ xs, (t = .tup xs ∨ t = .lst xs) ∧ xs.length ≤ 1000 ∧ ∀ x ∈ xs, Tx n x
theorem Tx.up : ∀ {n : Nat} {t : Dt}, Tx n t → Tx (n + 1) t
  | 0, t, h => .inl h
  | n + 1, t, .inl h => .inl h
  | n + 1, t, .inr ⟨xs, h, hz, hx⟩ => .inr ⟨xs, h, hz, fun x m => (hx x m).up⟩
mutual
/-- all lists made tuples -/
def tp : Dt → Dt
  | .tup xs => .tup (tps xs)
  | .lst xs => .tup (tps xs)
  | t => t
def tps : List Dt → List Dt
  | [] => []
  | x :: xs => tp x :: tps xs
end
mutual
/-- all tuples made lists -/
def tl : Dt → Dt
  | .tup xs => .lst (tls xs)
  | .lst xs => .lst (tls xs)
  | t => t
def tls : List Dt → List Dt
  | [] => []
  | x :: xs => tl x :: tls xs
end
theorem tps_len : ∀ xs : List Dt, (tps xs).length = xs.length
  | [] => rfl
  | x :: xs => by
    show (tps xs).length + 1 = xs.length + 1
    rw [tps_len xs]
theorem tls_len : ∀ xs : List Dt, (tls xs).length = xs.length
  | [] => rfl
  | x :: xs => by
    show (tls xs).length + 1 = xs.length + 1
    rw [tls_len xs]
/-- a comprehension that turns each item by F -/
theorem map_loop {F : FM} {f : Dt → Dt} {P : Dt} : ∀ (xs : List Dt), (∀ x ∈ xs, ∀ S, F [.d x] S = .ok (.d (f x)) S) → ∀ S : Sto, lcL (gN 1) cYes (mF F (aCons (mV 1) (aNil))) [some (.d P), none] xs S = .ok ((xs.map f).map .d) S
  | [], _, S => rfl
  | x :: xs, h, S => by
    show bz (some ([some (Dv.d P), some (Dv.d x)] : Sm.Env)) _ = _
    simp only [bz_some, cYes_s, nox_ok, bind_ok, if_true, mF_s, aCons_s, mV_s, aNil_s, List.getElem?_cons_zero, List.getElem?_cons_succ, h x List.mem_cons_self S, map_loop xs (fun y hy => h y (List.mem_cons_of_mem _ hy)) S]
    rfl
theorem pLst_d {ts : List Dt} {S : Sto} (h : ts.length ≤ 16777216) : pLst (ts.map .d) S = some (.d (.lst ts), S) := by
  unfold pLst
  rw [pures_d]
  exact if_pos h
theorem pTuple_lst {ts : List Dt} {S : Sto} : pTuple [.d (.lst ts)] S = some (.d (.tup ts), S) := by
  simp [pTuple, dctAt, lstT, lstAt]
theorem comp_ok {F : FM} {f : Dt → Dt} {P : Dt} {xs : List Dt} (hP : seqOf (.d P) = some xs) (hz : xs.length ≤ 1000) (h : ∀ x ∈ xs, ∀ S, F [.d x] S = .ok (.d (f x)) S) (S : Sto) : mN pLst (mLcI [1] (iSeq (mV 0)) (gN 1) cYes (mF F (aCons (mV 1) (aNil)))) [some (.d P), none] S = .ok (.d (.lst (xs.map f))) S := by
  have h1 : mLcI [1] (iSeq (mV 0)) (gN 1) cYes (mF F (aCons (mV 1) (aNil))) [some (.d P), none] S = .ok ((xs.map f).map .d) S := by
    rw [mLcI_s, iSeq_s, mV_s]
    show ((li (seqOf (.d P)) S).bind fun ts S1 => if ts.length ≤ 16777216 then _ else _) = _
    rw [hP, li_some, bind_ok, if_pos (by omega)]
    exact map_loop xs h S
  rw [mN_s, h1, bind_ok, pLst_d (by rw [List.length_map]; omega), Sm.lift_some]
theorem tps_map : ∀ xs : List Dt, tps xs = xs.map tp
  | [] => rfl
  | x :: xs => by
    show tp x :: tps xs = tp x :: xs.map tp
    rw [tps_map xs]
theorem tls_map : ∀ xs : List Dt, tls xs = xs.map tl
  | [] => rfl
  | x :: xs => by
    show tl x :: tls xs = tl x :: xs.map tl
    rw [tls_map xs]
theorem isa_seq {t : Dt} {xs : List Dt} {S : Sto} (h : t = .tup xs ∨ t = .lst xs) : pIsa ["list", "tuple"] (.d t) S = some (.d (.bl true), S) := by
  rcases h with rfl | rfl <;> rfl
theorem tupled_ok : ∀ (n : Nat) (t : Dt) (S : Sto), Tx n t → F_tupled (n + 1) [.d t] S = .ok (.d (tp t)) S := by
  have str : ∀ (n : Nat) (s : Str) (S : Sto), F_tupled (n + 1) [.d (.str s)] S = .ok (.d (tp (.str s))) S := fun n s S => iso_ok (ts := [.str s]) (S' := []) rfl
  have seq : ∀ (n : Nat) (t : Dt) (xs : List Dt) (S : Sto), (t = .tup xs ∨ t = .lst xs) → xs.length ≤ 1000 → (∀ x ∈ xs, ∀ S, F_tupled n [.d x] S = .ok (.d (tp x)) S) → F_tupled (n + 1) [.d t] S = .ok (.d (tp t)) S := fun n t xs S ht hz hx => by
    have hP : seqOf (.d t) = some xs := by rcases ht with rfl | rfl <;> rfl
    have e := comp_ok (P := t) hP hz hx []
    have et : tp t = .tup (xs.map tp) := by
      rw [← tps_map]
      rcases ht with rfl | rfl <;> rfl
    refine iso_ok (ts := [t]) (S' := []) (runB_rt (ds := [.d t]) rfl ?_)
    show b_tupled (F_tupled n) [some (.d t), none] [] = _
    unfold b_tupled
    have c : mTru pTru (m1 (pIsa ["list", "tuple"]) (mV 0)) [some (.d t), none] [] = .ok true [] := by
      simp only [mTru_s, m1_s, mV_s, List.getElem?_cons_zero, bind_ok, isa_seq ht, Sm.lift_some]
      rfl
    rw [sRet_s, mIf_s, c, bind_ok, if_pos rfl, mN_s, aCons_s, e, bind_ok, aNil_s, bind_ok, bind_ok, et, pTuple_lst]
    rfl
  intro n
  induction n with
  | zero =>
    intro t S h
    obtain ⟨s, hs, rfl⟩ := h
    exact str 0 s S
  | succ n ih =>
    intro t S h
    rcases h with ⟨s, hs, rfl⟩ | ⟨xs, ht, hz, hx⟩
    · exact str (n + 1) s S
    · exact seq (n + 1) t xs S ht hz fun x m S => ih x S (hx x m)
theorem lists_ok : ∀ (n : Nat) (t : Dt) (S : Sto), Tx n t → F__law_lists (n + 1) [.d t] S = .ok (.d (tl t)) S := by
  have str : ∀ (n : Nat) (s : Str) (S : Sto), F__law_lists (n + 1) [.d (.str s)] S = .ok (.d (tl (.str s))) S := fun n s S => iso_ok (ts := [.str s]) (S' := []) rfl
  have seq : ∀ (n : Nat) (t : Dt) (xs : List Dt) (S : Sto), (t = .tup xs ∨ t = .lst xs) → xs.length ≤ 1000 → (∀ x ∈ xs, ∀ S, F__law_lists n [.d x] S = .ok (.d (tl x)) S) → F__law_lists (n + 1) [.d t] S = .ok (.d (tl t)) S := fun n t xs S ht hz hx => by
    have hP : seqOf (.d t) = some xs := by rcases ht with rfl | rfl <;> rfl
    have e := comp_ok (P := t) hP hz hx []
    have et : tl t = .lst (xs.map tl) := by
      rw [← tls_map]
      rcases ht with rfl | rfl <;> rfl
    refine iso_ok (ts := [t]) (S' := []) (runB_rt (ds := [.d t]) rfl ?_)
    show b__law_lists (F__law_lists n) [some (.d t), none] [] = _
    unfold b__law_lists
    have c : mTru pTru (m1 (pIsa ["list", "tuple"]) (mV 0)) [some (.d t), none] [] = .ok true [] := by
      simp only [mTru_s, m1_s, mV_s, List.getElem?_cons_zero, bind_ok, isa_seq ht, Sm.lift_some]
      rfl
    rw [sRet_s, mIf_s, c, bind_ok, if_pos rfl, e, et]
    rfl
  intro n
  induction n with
  | zero =>
    intro t S h
    obtain ⟨s, hs, rfl⟩ := h
    exact str 0 s S
  | succ n ih =>
    intro t S h
    rcases h with ⟨s, hs, rfl⟩ | ⟨xs, ht, hz, hx⟩
    · exact str (n + 1) s S
    · exact seq (n + 1) t xs S ht hz fun x m S => ih x S (hx x m)
end Hn
/-! Hn6: same. -/
namespace Hn
open PySem PySem.Spec PyProof.Rows L2 Sm
theorem eq_bl {a b : Bool} {S : Sto} : eqDv S (.d (.bl a)) (.d (.bl b)) = some (a == b) := by
  show (if SeqAt.shaped (.bool a) = true ∧ SeqAt.shaped (.bool b) = true then some (PyData.eqv (.bool a) (.bool b)) else none) = _
  rw [if_pos ⟨rfl, rfl⟩]
  cases a <;> cases b <;> rfl
theorem eqv_str (s : Str) : PyData.eqv (.str s) (.str s) = true := by
  simp [PyData.eqv]
theorem eq_str {s : Str} {S : Sto} (hs : PyData.strOk s = true) : eqDv S (.d (.str s)) (.d (.str s)) = some true := by
  show (if SeqAt.shaped (.str s) = true ∧ SeqAt.shaped (.str s) = true then some (PyData.eqv (.str s) (.str s)) else none) = _
  have h : SeqAt.shaped (.str s) = true := by
    unfold SeqAt.shaped
    simp [PyData.canLay0, hs, PyData.depth]
  rw [if_pos ⟨h, h⟩, eqv_str]
theorem pNe_bl {a : Bool} {S : Sto} : pNe (.d (.bl a)) (.d (.bl a)) S = some (.d (.bl false), S) := by
  unfold pNe
  rw [eq_bl]
  cases a <;> rfl
theorem pEq_bl {a : Bool} {S : Sto} : pEq (.d (.bl a)) (.d (.bl a)) S = some (.d (.bl true), S) := by
  unfold pEq
  rw [eq_bl]
  cases a <;> rfl
theorem pEq_int {i : Int} {S : Sto} : pEq (.d (.int i)) (.d (.int i)) S = some (.d (.bl true), S) := by
  unfold pEq
  rw [eqDv_int]
  simp
theorem pEq_str {s : Str} {S : Sto} (hs : PyData.strOk s = true) : pEq (.d (.str s)) (.d (.str s)) S = some (.d (.bl true), S) := by
  unfold pEq
  rw [eq_str hs]
def zEl (F : FM) : M Dv := mF F (aCons (mV 2) (aCons (mV 3) (aNil)))
theorem zip_loop {F : FM} {P R : Dt} : ∀ (xs : List Dt), (∀ x ∈ xs, ∀ S, F [.d x, .d x] S = .ok (.d (.bl true)) S) → ∀ S : Sto, lcL (gT (gsCons (gN 2) (gsCons (gN 3) (gsNil)))) cYes (zEl F) [some (.d P), some (.d R), none, none] (zpL xs xs) S = .ok (xs.map fun _ => Dv.d (.bl true)) S
  | [], _, S => rfl
  | x :: xs, h, S => by
    show bz (some ([some (Dv.d P), some (Dv.d R), some (Dv.d x), some (Dv.d x)] : Sm.Env)) _ = _
    unfold zEl
    simp only [bz_some, cYes_s, nox_ok, bind_ok, if_true, mF_s, aCons_s, mV_s, aNil_s, List.getElem?_cons_zero, List.getElem?_cons_succ, h x List.mem_cons_self S]
    show ((lcL (gT (gsCons (gN 2) (gsCons (gN 3) (gsNil)))) cYes (zEl F) [some (.d P), some (.d R), none, none] (zpL xs xs) S).bind fun ds S3 => Rz.ok (Dv.d (.bl true) :: ds) S3) = _
    rw [zip_loop xs (fun y hy => h y (List.mem_cons_of_mem _ hy)) S]
    rfl
theorem all_true (l : List Dt) (S : Sto) : pAll [.d (.lst (l.map fun _ => .bl true))] S = some (.d (.bl true), S) := by
  have hb : ∀ l : List Dt, blsOf (l.map fun _ => Dt.bl true) = some (l.map fun _ => true) := fun l => by
    induction l with
    | nil => rfl
    | cons a l ih =>
      show (blsOf (l.map fun _ => Dt.bl true)).map (true :: ·) = _
      rw [ih]
      rfl
  have e : (lstT S (.d (.lst (l.map fun _ => .bl true)))).bind blsOf = some (l.map fun _ => true) := by
    show ((some ((l.map fun _ => Dt.bl true).map Dv.d)).bind pures).bind blsOf = _
    rw [Option.bind_some, pures_d, Option.bind_some, hb]
  unfold pAll
  simp only [e]
  simp
theorem len_seq {t : Dt} {xs : List Dt} {S : Sto} (h : t = .tup xs ∨ t = .lst xs) : pLen [.d t] S = some (.d (.int (xs.length : Int)), S) := by
  rcases h with rfl | rfl
  · simp [pLen, dctAt, seqAt, lstAt]
  · simp [pLen, dctAt, seqAt, lstAt]
theorem isa_l {t : Dt} {xs : List Dt} {S : Sto} (h : t = .tup xs ∨ t = .lst xs) : ∃ b, pIsa ["list"] (.d t) S = some (.d (.bl b), S) := by
  rcases h with rfl | rfl <;> exact ⟨_, rfl⟩
theorem isa_t {t : Dt} {xs : List Dt} {S : Sto} (h : t = .tup xs ∨ t = .lst xs) : ∃ b, pIsa ["tuple"] (.d t) S = some (.d (.bl b), S) := by
  rcases h with rfl | rfl <;> exact ⟨_, rfl⟩
theorem same_ok : ∀ (n : Nat) (t : Dt) (S : Sto), Tx n t → F__law_same (n + 1) [.d t, .d t] S = .ok (.d (.bl true)) S := by
  have str : ∀ (n : Nat) (s : Str) (S : Sto), PyData.strOk s = true → F__law_same (n + 1) [.d (.str s), .d (.str s)] S = .ok (.d (.bl true)) S := fun n s S hs => by
    refine iso_ok (ts := [.str s, .str s]) (S' := []) (runB_rt (ds := [.d (.str s), .d (.str s)]) rfl ?_)
    show b__law_same (F__law_same n) [some (.d (.str s)), some (.d (.str s)), none, none] [] = _
    have i1 : ∀ S : Sto, pIsa ["list", "tuple"] (.d (.str s)) S = some (.d (.bl false), S) := fun _ => rfl
    have i2 : ∀ S : Sto, pIsa ["bool", "str"] (.d (.str s)) S = some (.d (.bl true), S) := fun _ => rfl
    have i3 : ∀ S : Sto, pIsa ["bool"] (.d (.str s)) S = some (.d (.bl false), S) := fun _ => rfl
    have n1 : ∀ S : Sto, pIsN (.d (.str s)) (.d .non) S = some (.d (.bl false), S) := fun _ => rfl
    have t0 : ∀ (b : Bool) (S : Sto), pTru (.d (.bl b)) S = some b := fun _ _ => rfl
    unfold b__law_same
    simp only [sSeq_s, sIf_s, mTru_s, m1_s, m2_s, mC_s, mV_s, List.getElem?_cons_zero, List.getElem?_cons_succ, bind_ok, i1, Sm.lift_some, t0, li_some, to_ok, Bool.false_eq_true, if_false, sNil_s, sqz_nx, cOr_s, mTst_s, n1, toB_s, i2, if_true, sRet_s, mAnd_s, pEq_str hs, i3, pEq_bl, sqz_rt]
  have seq : ∀ (n : Nat) (t : Dt) (xs : List Dt) (S : Sto), (t = .tup xs ∨ t = .lst xs) → xs.length ≤ 1000 → (∀ x ∈ xs, ∀ S, F__law_same n [.d x, .d x] S = .ok (.d (.bl true)) S) → F__law_same (n + 1) [.d t, .d t] S = .ok (.d (.bl true)) S := fun n t xs S ht hz hx => by
    refine iso_ok (ts := [t, t]) (S' := []) (runB_rt (ds := [.d t, .d t]) rfl ?_)
    show b__law_same (F__law_same n) [some (.d t), some (.d t), none, none] [] = _
    obtain ⟨b1, l1⟩ := isa_l (S := []) ht
    obtain ⟨b2, l2⟩ := isa_t (S := []) ht
    have i1 := isa_seq (S := []) ht
    have hl := len_seq (S := []) ht
    have t0 : ∀ (b : Bool) (S : Sto), pTru (.d (.bl b)) S = some b := fun _ _ => rfl
    have hzip : zp2 [.d t, .d t] = some (zpL xs xs) := by rcases ht with rfl | rfl <;> rfl
    have hzl : (zpL xs xs).length ≤ 16777216 := by
      rw [zpL_length]
      omega
    have c1 : mLcI [2, 3] (iRg zp2 (aCons (mV 0) (aCons (mV 1) (aNil)))) (gT (gsCons (gN 2) (gsCons (gN 3) (gsNil)))) (cYes) (mF (F__law_same n) (aCons (mV 2) (aCons (mV 3) (aNil)))) [some (.d t), some (.d t), none, none] [] = .ok (xs.map fun _ => Dv.d (.bl true)) [] := by
      rw [mLcI_s, iRg_ok (ds := [.d t, .d t]) (S1 := []) (by simp only [aCons_s, mV_s, aNil_s, List.getElem?_cons_zero, List.getElem?_cons_succ, bind_ok]) hzip, bind_ok, if_pos hzl]
      exact zip_loop xs hx []
    have p1 : pLst (xs.map fun _ => Dv.d (.bl true)) [] = some (.d (.lst (xs.map fun _ => .bl true)), []) := by
      have e : (xs.map fun _ => Dv.d (.bl true)) = (xs.map fun _ => Dt.bl true).map Dv.d := by
        rw [List.map_map]
        rfl
      rw [e]
      exact pLst_d (by rw [List.length_map]; omega)
    unfold b__law_same
    simp only [sSeq_s, sIf_s, mTru_s, m1_s, m2_s, mN_s, mC_s, mV_s, aCons_s, aNil_s, List.getElem?_cons_zero, List.getElem?_cons_succ, bind_ok, i1, Sm.lift_some, t0, li_some, to_ok, if_true, cOr_s, mTst_s, l1, l2, pNe_bl, toB_s, Bool.false_eq_true, if_false, sNil_s, sqz_nx, sRet_s, mAnd_s, hl, pEq_int, c1, p1, all_true, sqz_rt]
  intro n
  induction n with
  | zero =>
    intro t S h
    obtain ⟨s, hs, rfl⟩ := h
    exact str 0 s S hs
  | succ n ih =>
    intro t S h
    rcases h with ⟨s, hs, rfl⟩ | ⟨xs, ht, hz, hx⟩
    · exact str (n + 1) s S hs
    · exact seq (n + 1) t xs S ht hz fun x m S => ih x S (hx x m)
end Hn
/-! Hn7: dicts of distinct texts. -/
namespace Hn
open PySem PySem.Spec PyProof.Rows L2 Sm
abbrev kS (l : List Str) : List Key := l.map Sum.inr
theorem dput_new {ks : List Key} {xs : List Dv} {j : Key} {y : Dv} (h : hasK ks j = false) : dputK ks j = ks ++ [j] ∧ dputX ks xs j y = xs ++ [y] := by
  unfold dputK dputX
  simp [h]
theorem hasK_new {l : List Str} {x : Str} (h : x ∉ l) : hasK (kS l) (.inr x) = false := by
  cases e : hasK (kS l) (.inr x) with
  | false => rfl
  | true => exact absurd (hasK_inr.mp e) h
/-- {name: wants for name, wants in rows} -/
theorem rows_loop {ρ0 ρ1 ρ2 ρ3 : Option Dv} : ∀ (es : List (Str × Dt)) (l : List Str) (xs : List Dv), (l ++ es.map (·.1)).Nodup → ∀ S : Sto,
    dcL (gT (gsCons (gN 4) (gsCons (gN 5) (gsNil)))) cYes (mV 4) (mV 5) [ρ0, ρ1, ρ2, ρ3, none, none] (es.map fun e => .tup [.str e.1, e.2]) (kS l) xs S = .ok (kS (l ++ es.map (·.1)), xs ++ es.map fun e => .d e.2) S
  | [], l, xs, _, S => by
    simp [dcL]
  | e :: es, l, xs, nd, S => by
    have hne : e.1 ∉ l := fun z => by
      rw [List.nodup_append] at nd
      exact nd.2.2 e.1 z e.1 (by simp) rfl
    obtain ⟨k1, k2⟩ := dput_new (xs := xs) (y := .d e.2) (hasK_new hne)
    have ih := rows_loop (ρ0 := ρ0) (ρ1 := ρ1) (ρ2 := ρ2) (ρ3 := ρ3) es (l ++ [e.1]) (xs ++ [.d e.2]) (by simpa using nd) S
    rw [show kS (l ++ [e.1]) = kS l ++ [Sum.inr e.1] by simp [kS]] at ih
    show bz (some ([ρ0, ρ1, ρ2, ρ3, some (Dv.d (.str e.1)), some (Dv.d e.2)] : Sm.Env)) _ = _
    simp only [bz_some, cYes_s, nox_ok, bind_ok, if_true, mV_s, List.getElem?_cons_zero, List.getElem?_cons_succ]
    show dcL (gT (gsCons (gN 4) (gsCons (gN 5) (gsNil)))) cYes (mV 4) (mV 5) [ρ0, ρ1, ρ2, ρ3, none, none] (es.map fun e => .tup [.str e.1, e.2]) (dputK (kS l) (.inr e.1)) (dputX (kS l) xs (.inr e.1) (.d e.2)) S = _
    rw [k1, k2, ih]
    simp
/-- {name: True for name in ..} -/
theorem homes_loop {ρ0 ρ1 ρ2 ρ3 : Option Dv} : ∀ (es : List Str) (l : List Str) (xs : List Dv), (l ++ es).Nodup → ∀ S : Sto,
    dcL (gN 4) cYes (mV 4) (mC (.bl true)) [ρ0, ρ1, ρ2, ρ3, none, none] (es.map .str) (kS l) xs S = .ok (kS (l ++ es), xs ++ es.map fun _ => .d (.bl true)) S
  | [], l, xs, _, S => by
    simp [dcL]
  | e :: es, l, xs, nd, S => by
    have hne : e ∉ l := fun z => by
      rw [List.nodup_append] at nd
      exact nd.2.2 e z e (by simp) rfl
    obtain ⟨k1, k2⟩ := dput_new (xs := xs) (y := .d (.bl true)) (hasK_new hne)
    have ih := homes_loop (ρ0 := ρ0) (ρ1 := ρ1) (ρ2 := ρ2) (ρ3 := ρ3) es (l ++ [e]) (xs ++ [.d (.bl true)]) (by simpa using nd) S
    rw [show kS (l ++ [e]) = kS l ++ [Sum.inr e] by simp [kS]] at ih
    show bz (some ([ρ0, ρ1, ρ2, ρ3, some (Dv.d (.str e)), none] : Sm.Env)) _ = _
    simp only [bz_some, cYes_s, nox_ok, bind_ok, if_true, mV_s, mC_s, List.getElem?_cons_zero, List.getElem?_cons_succ]
    show dcL (gN 4) cYes (mV 4) (mC (.bl true)) [ρ0, ρ1, ρ2, ρ3, none, none] (es.map .str) (dputK (kS l) (.inr e)) (dputX (kS l) xs (.inr e) (.d (.bl true))) S = _
    rw [k1, k2, ih]
    simp
theorem kT_strs (l : List Str) : (kS l).map kT = l.map .str := by
  rw [List.map_map]
  rfl
/-- sorted(set(..)) of distinct texts -/
theorem ddS_id : ∀ {l : List Str}, l.Nodup → ddS l = l
  | [], _ => rfl
  | a :: l, h => by
    obtain ⟨h1, h2⟩ := List.nodup_cons.mp h
    unfold ddS
    rw [ddS_id h2, if_neg (by simpa using h1)]
end Hn
/-! Hn8: turns of lists of texts that are sorted. -/
namespace Hn
open PySem PySem.Spec PyProof.Rows L2 Sm
theorem alike_strs : ∀ a b : Str, PySem.W.alike (encT (.str a)) (encT (.str b)) = true := fun a b => by
  show PySem.W.alike (.str a) (.str b) = true
  simp only [PySem.W.alike]
theorem sortChk_strs {l : List Str} (h : l.length ≤ 1000) : sortChk (l.map .str) = true := by
  unfold sortChk
  simp only [Bool.and_eq_true, decide_eq_true_eq, Bool.or_eq_true, List.all_eq_true]
  refine ⟨⟨⟨fun t ht => ?_, fun t ht u hu => ?_⟩, .inr fun t ht => ?_⟩, by rw [List.length_map]; omega⟩
  · obtain ⟨a, _, rfl⟩ := List.mem_map.mp ht
    refine ⟨rfl, ?_⟩
    show PyData.depth (.str a) ≤ 60
    simp only [PyData.depth]
    omega
  · obtain ⟨a, _, rfl⟩ := List.mem_map.mp ht
    obtain ⟨b, _, rfl⟩ := List.mem_map.mp hu
    exact alike_strs a b
  · obtain ⟨a, _, rfl⟩ := List.mem_map.mp ht
    rfl
theorem seqT_tup {ts : List Dt} {S : Sto} : seqT S (.d (.tup ts)) = some ts := by
  unfold seqT seqAt
  simp
theorem seqT_lst {ts : List Dt} {S : Sto} : seqT S (.d (.lst ts)) = some ts := by
  unfold seqT seqAt lstAt
  simp
/-- sorted(..) of texts -/
theorem pSorted_strs {l : List Str} (h : l.length ≤ 1000) {S : Sto} : pSorted [.d (.tup (l.map .str))] S = some (.d (.lst ((sortS l).map .str)), S) ∧ pSorted [.d (.lst (l.map .str))] S = some (.d (.lst ((sortS l).map .str)), S) := by
  constructor
  · unfold pSorted
    simp only [seqT_tup]
    rw [if_pos (sortChk_strs h), sort_strs]
  · unfold pSorted
    simp only [seqT_lst]
    rw [if_pos (sortChk_strs h), sort_strs]
end Hn
/-! Hn9: rows of a sheet, sorted. -/
namespace Hn
open PySem PySem.Spec PyProof.Rows L2 Sm
def row (e : Str × List Str) : Dt := .tup [.str e.1, .tup (e.2.map .str)]
theorem toPys_strs : ∀ l : List Str, toPys (l.map .str) = some (l.map PyData.str)
  | [] => rfl
  | a :: l => by
    show (match toPy (.str a), toPys (l.map .str) with
      | some a, some b => some (a :: b)
      | _, _ => none) = _
    rw [toPys_strs l]
    rfl
theorem toPy_row (e : Str × List Str) : toPy (row e) = some (.tuple [.str e.1, .tuple (e.2.map PyData.str)]) := by
  show (toPys [.str e.1, .tup (e.2.map .str)]).map PyData.tuple = _
  have h : toPy (.tup (e.2.map .str)) = some (.tuple (e.2.map PyData.str)) := by
    show (toPys (e.2.map .str)).map PyData.tuple = _
    rw [toPys_strs]
    rfl
  have h2 : toPys [.str e.1, .tup (e.2.map .str)] = some [.str e.1, .tuple (e.2.map PyData.str)] := by
    simp only [toPys, h]
    rfl
  rw [h2]
  rfl
theorem enc_row (e : Str × List Str) : encT (row e) = .tuple [.str e.1, .tuple (e.2.map PyData.str)] := by
  unfold encT
  rw [toPy_row]
  rfl
theorem alikeAll_strs : ∀ l m : List Str, PySem.W.alikeAll (l.map PyData.str) (m.map PyData.str) = true
  | [], m => by
    simp only [List.map_nil, PySem.W.alikeAll]
  | a :: l, [] => by
    simp only [List.map_nil, List.map_cons, PySem.W.alikeAll]
  | a :: l, b :: m => by
    simp only [List.map_cons, PySem.W.alikeAll, PySem.W.alike, alikeAll_strs l m, Bool.and_self]
theorem alike_rows (e f : Str × List Str) : PySem.W.alike (encT (row e)) (encT (row f)) = true := by
  rw [enc_row, enc_row]
  simp only [PySem.W.alike, PySem.W.alikeAll, alikeAll_strs, Bool.and_self]
theorem depth_strs : ∀ l : List Str, PyData.depthAll (l.map PyData.str) = 0
  | [] => by simp only [List.map_nil, PyData.depthAll]
  | a :: l => by
    simp only [List.map_cons, PyData.depthAll, PyData.depth, depth_strs l]
    rfl
theorem depth_row (e : Str × List Str) : (encT (row e)).depth ≤ 60 := by
  rw [enc_row]
  simp only [PyData.depth, PyData.depthAll, depth_strs]
  omega
theorem sortChk_rows {l : List (Str × List Str)} (h : l.length ≤ 1000) : sortChk (l.map row) = true := by
  unfold sortChk
  simp only [Bool.and_eq_true, decide_eq_true_eq, Bool.or_eq_true, List.all_eq_true]
  refine ⟨⟨⟨fun t ht => ?_, fun t ht u hu => ?_⟩, .inl fun t ht => ?_⟩, by rw [List.length_map]; omega⟩
  · obtain ⟨a, _, rfl⟩ := List.mem_map.mp ht
    exact ⟨by rw [toPy_row]; rfl, depth_row a⟩
  · obtain ⟨a, _, rfl⟩ := List.mem_map.mp ht
    obtain ⟨b, _, rfl⟩ := List.mem_map.mp hu
    exact alike_rows a b
  · obtain ⟨a, _, rfl⟩ := List.mem_map.mp ht
    rw [enc_row]
    rfl
theorem row_inj {e f : Str × List Str} (h : row e = row f) : e = f := by
  unfold row at h
  injection h with h
  injection h with h1 h2
  injection h1 with h1
  injection h2 with h2 _
  injection h2 with h2
  have : e.2 = f.2 := by
    have inj : ∀ l m : List Str, l.map Dt.str = m.map Dt.str → l = m := fun l => by
      induction l with
      | nil =>
        intro m e
        cases m with
        | nil => rfl
        | cons => cases e
      | cons a l ih =>
        intro m e
        cases m with
        | nil => cases e
        | cons b m =>
          injection e with e1 e2
          injection e1 with e1
          rw [e1, ih m e2]
    exact inj _ _ h2
  exact Prod.ext h1 this
/-- sorted(rows): the same rows in another order -/
theorem pSorted_rows {l : List (Str × List Str)} (h : l.length ≤ 1000) (S : Sto) : ∃ m : List (Str × List Str), pSorted [.d (.lst (l.map row))] S = some (.d (.lst (m.map row)), S) ∧ m.Perm l := by
  refine ⟨l.mergeSort fun a b => leT (row a) (row b), ?_, List.mergeSort_perm _ _⟩
  unfold pSorted
  simp only [seqT_lst]
  rw [if_pos (sortChk_rows h)]
  rw [List.map_mergeSort (f := row) (r := fun a b => leT (row a) (row b)) (s := leT) fun a _ b _ => rfl]
end Hn
/-! Hn10: nested texts compare equal to themselves. -/
namespace Hn
open PySem PySem.Spec PyProof.Rows L2 Sm
mutual
theorem tp_tl : ∀ t : Dt, tp (tl t) = tp t
  | .non => rfl
  | .bl _ => rfl
  | .int _ => rfl
  | .str _ => rfl
  | .tup xs => by
    show Dt.tup (tps (tls xs)) = .tup (tps xs)
    rw [tps_tls xs]
  | .lst xs => by
    show Dt.tup (tps (tls xs)) = .tup (tps xs)
    rw [tps_tls xs]
  | .dct _ _ => rfl
  | .obj _ _ => rfl
  | .scr _ => rfl
theorem tps_tls : ∀ xs : List Dt, tps (tls xs) = tps xs
  | [] => rfl
  | x :: xs => by
    show tp (tl x) :: tps (tls xs) = tp x :: tps xs
    rw [tp_tl x, tps_tls xs]
end
theorem Tx.tl : ∀ {n : Nat} {t : Dt}, Tx n t → Tx n (tl t)
  | 0, t, h => by
    obtain ⟨s, hs, rfl⟩ := h
    exact ⟨s, hs, rfl⟩
  | n + 1, t, h => by
    rcases h with ⟨s, hs, rfl⟩ | ⟨xs, ht, hz, hx⟩
    · exact .inl ⟨s, hs, rfl⟩
    · refine .inr ⟨tls xs, ?_, by rw [tls_len]; exact hz, fun y hy => ?_⟩
      · rcases ht with rfl | rfl <;> exact .inr rfl
      · rw [tls_map] at hy
        obtain ⟨x, hm, rfl⟩ := List.mem_map.mp hy
        exact (hx x hm).tl
/-- as data of the language -/
theorem tx_py : ∀ (n : Nat) (t : Dt), Tx n t → ∃ d, toPy t = some d ∧ d.canLay0 = true ∧ d.depth ≤ n ∧ PyData.eqv d d = true
  | 0, t, h => by
    obtain ⟨s, hs, rfl⟩ := h
    exact ⟨.str s, rfl, by simp only [PyData.canLay0, hs], by simp only [PyData.depth]; omega, eqv_str s⟩
  | n + 1, t, h => by
    rcases h with ⟨s, hs, rfl⟩ | ⟨xs, ht, hz, hx⟩
    · exact ⟨.str s, rfl, by simp only [PyData.canLay0, hs], by simp only [PyData.depth]; omega, eqv_str s⟩
    · have all : ∀ ys : List Dt, (∀ y ∈ ys, Tx n y) → ∃ ds, toPys ys = some ds ∧ PyData.canLayAll0 ds = true ∧ PyData.depthAll ds ≤ n ∧ PyData.eqvAll ds ds = true := fun ys => by
        induction ys with
        | nil => exact fun _ => ⟨[], rfl, by simp only [PyData.canLayAll0], by simp only [PyData.depthAll]; omega, by simp only [PyData.eqvAll]⟩
        | cons y ys ih =>
          intro hy
          obtain ⟨d, e1, c1, p1, q1⟩ := tx_py n y (hy y List.mem_cons_self)
          obtain ⟨ds, e2, c2, p2, q2⟩ := ih fun z hz => hy z (List.mem_cons_of_mem _ hz)
          refine ⟨d :: ds, ?_, by simp only [PyData.canLayAll0, c1, c2, Bool.and_self], ?_, by simp only [PyData.eqvAll, q1, q2, Bool.and_self]⟩
          · simp only [toPys, e1, e2]
          · simp only [PyData.depthAll]
            omega
      obtain ⟨ds, e, c, p, q⟩ := all xs hx
      rcases ht with rfl | rfl
      · refine ⟨.tuple ds, ?_, by simp only [PyData.canLay0, c], ?_, by simp only [PyData.eqv, q]⟩
        · show (toPys xs).map PyData.tuple = _
          rw [e]
          rfl
        · simp only [PyData.depth]
          omega
      · refine ⟨.list ds, ?_, by simp only [PyData.canLay0, c], ?_, by simp only [PyData.eqv, q]⟩
        · show (toPys xs).map PyData.list = _
          rw [e]
          rfl
        · simp only [PyData.depth]
          omega
theorem pNe_tx {n : Nat} {t : Dt} (h : Tx n t) (hn : n ≤ 64) (S : Sto) : pNe (.d t) (.d t) S = some (.d (.bl false), S) := by
  obtain ⟨d, e, c, p, q⟩ := tx_py n t h
  have hs : SeqAt.shaped d = true := by
    unfold SeqAt.shaped
    simp only [c, Bool.true_and, decide_eq_true_eq]
    omega
  have : eqDv S (.d t) (.d t) = some true := by
    unfold eqDv
    simp only [pyDv, e]
    rw [if_pos ⟨hs, hs⟩, q]
  unfold pNe
  rw [this]
  rfl
end Hn
/-! K01P: the plain law of k01. -/
namespace K01
open PySem PySem.Spec PyProof.Rows L2 Sm Hn
theorem b2i_small (b : Bool) : -(2 ^ 64) < (if b then (1 : Int) else 0) ∧ (if b then (1 : Int) else 0) < 2 ^ 64 := by
  cases b <;> decide
theorem box_ok {cs : List Int} {k : Nat} (hk : k < 100) {S : Sto} : ∃ o : Bo, F__law_box [.d (.lst (dI cs)), .d (.int (k : Int))] S = .ok (.loc S.length) (S ++ [o]) ∧ Urn o 1000000 := by
  have hcell : ∃ x : Int, mIf (mTst (m2 pLt (mV 1) (mN pLen (aCons (mV 0) (aNil))))) (m2 pIx (mV 0) (mV 1)) (mC (.int 0)) [some (.d (.lst (dI cs))), some (.d (.int (k : Int))), none] S = .ok (.d (.int x)) S := by
    have hl : pLen [.d (.lst (dI cs))] S = some (.d (.int ((dI cs).length : Int)), S) := by
      simp [pLen, dctAt, seqAt, lstAt]
    by_cases h : k < cs.length
    · refine ⟨cs[k], ?_⟩
      have hx : pIx (.d (.lst (dI cs))) (.d (.int (k : Int))) S = some (.d (.int cs[k]), S) := by
        have : atI ((dI cs).map Dv.d) (k : Int) = some (.d (.int cs[k])) := by
          rw [dI_d]
          exact atI_nat (dvI_get h)
        simp only [pIx, dctAt, seqAt, lstAt, this]
      have hc : pLt (.d (.int (k : Int))) (.d (.int ((dI cs).length : Int))) S = some (.d (.bl true), S) := by
        unfold pLt pCmp dI
        simp [h]
      simp only [mIf_s, mTst_s, m2_s, mN_s, mV_s, aCons_s, aNil_s, List.getElem?_cons_zero, List.getElem?_cons_succ, bind_ok, hl, Sm.lift_some, hc, toB_s, li_some, if_true, hx]
    · refine ⟨0, ?_⟩
      have hc : pLt (.d (.int (k : Int))) (.d (.int ((dI cs).length : Int))) S = some (.d (.bl false), S) := by
        unfold pLt pCmp dI
        simp [h]
      simp only [mIf_s, mTst_s, m2_s, mN_s, mV_s, mC_s, aCons_s, aNil_s, List.getElem?_cons_zero, List.getElem?_cons_succ, bind_ok, hl, Sm.lift_some, hc, toB_s, li_some]
      rfl
  obtain ⟨x, hx⟩ := hcell
  have e1 : mulOk (if x < 0 then -x else x) (if decide (10 ^ 18 ≤ (if x < 0 then -x else x)) = true then 1 else 0) = true := small_mul (b2i_small _)
  have e2 : mulOk 39373 (k : Int) = true := small_mul (by omega)
  have h0 : 0 ≤ x % 2305843009213693951 := Int.emod_nonneg _ (by omega)
  have h1 : x % 2305843009213693951 < 2305843009213693951 := Int.emod_lt_of_pos _ (by omega)
  refine ⟨.lst [.d (.int ((if x < 0 then -x else x) * (if decide (10 ^ 18 ≤ (if x < 0 then -x else x)) = true then 1 else 0))), .d (.int (x % 2305843009213693951 + 39373 * k + 772)), .d (.int 0)], ?_, _, _, 0, rfl, ?_, by omega, by omega, by omega, by omega⟩
  · refine runB_rt (ds := [.d (.lst (dI cs)), .d (.int (k : Int))]) rfl ?_
    show b__law_box [some (.d (.lst (dI cs))), some (.d (.int (k : Int))), none] S = _
    unfold b__law_box
    rw [sSeq_s, sSet_s, hx, to_ok, sqz_nx]
    have hp : pPow (.d (.int 10)) (.d (.int 18)) S = some (.d (.int (10 ^ 18)), S) := by
      have hd : decide (0 ≤ (18 : Int) ∧ (18 : Int) ≤ 1000000 ∧ (10 : Int).natAbs < 2 ^ 64) = true := by decide
      show (if decide (0 ≤ (18 : Int) ∧ (18 : Int) ≤ 1000000 ∧ (10 : Int).natAbs < 2 ^ 64) = true then some (Dv.d (.int (10 ^ (18 : Int).toNat)), S) else none) = _
      rw [if_pos hd]
      rfl
    have ha : pAbs [.d (.int x)] S = some (.d (.int (if x < 0 then -x else x)), S) := rfl
    generalize hy : (if x < 0 then -x else x) = y at *
    have hg : pGe (.d (.int y)) (.d (.int (10 ^ 18))) S = some (.d (.bl (decide (10 ^ 18 ≤ y))), S) := rfl
    have hi : pInt [.d (.bl (decide (10 ^ 18 ≤ y)))] S = some (.d (.int (if decide (10 ^ 18 ≤ y) = true then 1 else 0)), S) := rfl
    have hm1 : pMul (.d (.int y)) (.d (.int (if decide (10 ^ 18 ≤ y) = true then 1 else 0))) S = some (.d (.int (y * (if decide (10 ^ 18 ≤ y) = true then 1 else 0))), S) := if_pos e1
    have hm2 : pMul (.d (.int 39373)) (.d (.int (k : Int))) S = some (.d (.int (39373 * k)), S) := show (if mulOk 39373 (k : Int) = true then some (Dv.d (Dt.int (39373 * k)), S) else none) = _ from if_pos e2
    have hii : pInt [.d (.int x)] S = some (.d (.int x), S) := rfl
    have hmd : pMod (.d (.int x)) (.d (.int 2305843009213693951)) S = some (.d (.int (x % 2305843009213693951)), S) := show (if (0 : Int) < 2305843009213693951 then some (Dv.d (Dt.int (x % 2305843009213693951)), S) else none) = _ from if_pos (by omega)
    have ha1 : ∀ i j : Int, pAdd (.d (.int i)) (.d (.int j)) S = some (.d (.int (i + j)), S) := fun _ _ => rfl
    have hB : ∀ a b c : Dv, pLstB [a, b, c] S = some (.loc S.length, S ++ [.lst [a, b, c]]) := fun a b c => if_pos (show 3 ≤ 16777216 by omega)
    have hset : ([some (Dv.d (.lst (dI cs))), some (Dv.d (.int (k : Int))), none] : Sm.Env).set 2 (some (.d (.int x))) = [some (Dv.d (.lst (dI cs))), some (Dv.d (.int (k : Int))), some (.d (.int x))] := rfl
    rw [hset]
    simp only [sRet_s, mN_s, m2_s, mC_s, aCons_s, mV_s, aNil_s, List.getElem?_cons_zero, List.getElem?_cons_succ, bind_ok, ha, Sm.lift_some, hp, hg, hi, hm1, hm2, hii, hmd, ha1, hB, to_ok]
  · refine Int.mul_nonneg (by split <;> omega) (by split <;> omega)
/-- the law from its right half -/
theorem law_loop (hR : ∀ (S : Sto) (n : Nat) (o : Bo), S[n]? = some o → Urn o 1000000 → ∃ o', F__law_right [.loc n] S = .ok (.d (.bl true)) (S.set n o')) (P : Dt) (cs : List Int) : ∀ (ks : List Nat), (∀ k ∈ ks, k < 100) → ∀ S : Sto, ∃ S', lcL (gN 2) cYes (mF F__law_right (aCons (mF F__law_box (aCons (mV 1) (aCons (mV 2) (aNil)))) (aNil))) [some (.d P), some (.d (.lst (dI cs))), none] (ks.map fun k => Dt.int ((k : Nat) : Int)) S = .ok (ks.map fun _ => Dv.d (.bl true)) S'
  | [], _, S => ⟨S, rfl⟩
  | k :: ks, h, S => by
    obtain ⟨o, e1, u⟩ := box_ok (cs := cs) (h k List.mem_cons_self) (S := S)
    obtain ⟨o', e2⟩ := hR (S ++ [o]) S.length o (by rw [List.getElem?_append_right (Nat.le_refl _), Nat.sub_self]; rfl) u
    obtain ⟨S', e3⟩ := law_loop hR P cs ks (fun j hj => h j (List.mem_cons_of_mem _ hj)) ((S ++ [o]).set S.length o')
    refine ⟨S', ?_⟩
    show bz (some ([some (Dv.d P), some (Dv.d (.lst (dI cs))), some (Dv.d (.int (k : Int)))] : Sm.Env)) _ = _
    simp only [bz_some, cYes_s, nox_ok, bind_ok, if_true, mF_s, aCons_s, mV_s, aNil_s, List.getElem?_cons_zero, List.getElem?_cons_succ, e1, e2, e3]
    rfl
theorem law_of (hR : ∀ (S : Sto) (n : Nat) (o : Bo), S[n]? = some o → Urn o 1000000 → ∃ o', F__law_right [.loc n] S = .ok (.d (.bl true)) (S.set n o')) : LawTrue F_law := fun ns hl hb => by
  obtain ⟨cs, ec, hc⟩ := cells_ok (ns := ns) hl (S := [])
  obtain ⟨S', el⟩ := law_loop hR (.scr (dI ns)) cs (List.range cs.length) (fun k hk => by have := List.mem_range.mp hk; omega) []
  refine ⟨S', runB_rt (ds := [.d (.scr (dI ns))]) rfl ?_⟩
  show b_law [some (.d (.scr (dI ns))), none, none] [] = _
  have hit : iRg rg1 (aCons (mN pLen (aCons (mV 1) (aNil))) (aNil)) [some (.d (.scr (dI ns))), some (.d (.lst (dI cs))), none] [] = .ok ((List.range cs.length).map fun k => Dt.int ((k : Nat) : Int)) [] := by
    have hl2 : pLen [.d (.lst (dI cs))] [] = some (.d (.int (cs.length : Int)), []) := by
      simp [pLen, dctAt, seqAt, lstAt, dI]
    refine iRg_ok (ds := [.d (.int (cs.length : Int))]) (by simp only [aCons_s, mN_s, mV_s, aNil_s, List.getElem?_cons_zero, List.getElem?_cons_succ, bind_ok, hl2, Sm.lift_some]) ?_
    rw [q_rg (by omega)]
    unfold rgL
    simp
  have hcs : F__law_cells [.d (.scr (dI ns)), .d (.int 3)] [] = .ok (.d (.lst (dI cs))) [] := ec
  have s1 : sSet 1 (mF F__law_cells (aCons (mV 0) (aCons (mC (.int 3)) (aNil)))) [some (.d (.scr (dI ns))), none, none] [] = .nx [some (.d (.scr (dI ns))), some (.d (.lst (dI cs))), none] [] := by
    simp only [sSet_s, mF_s, aCons_s, mV_s, mC_s, aNil_s, List.getElem?_cons_zero, List.getElem?_cons_succ, bind_ok, hcs, to_ok]
    rfl
  have hlen : ((List.range cs.length).map fun k => Dt.int ((k : Nat) : Int)).length ≤ 16777216 := by
    rw [List.length_map, List.length_range]
    omega
  have l1 : mLcI [2] (iRg rg1 (aCons (mN pLen (aCons (mV 1) (aNil))) (aNil))) (gN 2) cYes (mF F__law_right (aCons (mF F__law_box (aCons (mV 1) (aCons (mV 2) (aNil)))) (aNil))) [some (.d (.scr (dI ns))), some (.d (.lst (dI cs))), none] [] = .ok ((List.range cs.length).map fun _ => Dv.d (.bl true)) S' := by
    rw [mLcI_s, hit, bind_ok, if_pos hlen]
    exact el
  have p1 : pLst ((List.range cs.length).map fun _ => Dv.d (.bl true)) S' = some (.d (.lst ((List.range cs.length).map fun _ => .bl true)), S') := by
    have e : ((List.range cs.length).map fun _ => Dv.d (.bl true)) = ((List.range cs.length).map fun _ => Dt.bl true).map Dv.d := by
      rw [List.map_map]
      rfl
    unfold pLst
    rw [e, pures_d]
    exact if_pos (by rw [List.length_map, List.length_range]; omega)
  have p2 : pAll [.d (.lst ((List.range cs.length).map fun _ => .bl true))] S' = some (.d (.bl true), S') := by
    have hb : ∀ l : List Nat, blsOf (l.map fun _ => Dt.bl true) = some (l.map fun _ => true) := fun l => by
      induction l with
      | nil => rfl
      | cons a l ih =>
        show (blsOf (l.map fun _ => Dt.bl true)).map (true :: ·) = _
        rw [ih]
        rfl
    have e : (lstT S' (.d (.lst ((List.range cs.length).map fun _ => .bl true)))).bind blsOf = some ((List.range cs.length).map fun _ => true) := by
      show ((some (((List.range cs.length).map fun _ => Dt.bl true).map Dv.d)).bind pures).bind blsOf = _
      rw [Option.bind_some, pures_d, Option.bind_some, hb]
    unfold pAll
    simp only [e]
    simp
  unfold b_law
  rw [sSeq_s, s1, sqz_nx]
  simp only [sRet_s, mN_s, aCons_s, aNil_s, l1, bind_ok, p1, p2, Sm.lift_some, to_ok]
end K01
/-! K01Q: sheets. -/
namespace K01
open PySem PySem.Spec PyProof.Rows L2 Sm Hn
def rowsD (es : List (Str × Dt)) : List Dt := es.map fun e => .tup [.str e.1, e.2]
/-- t, whatever its lists and tuples, is the sheet of these rows and empty homes -/
structure Sh (t : Dt) (es : List (Str × Dt)) (emps : List Str) : Prop where
  tx : Tx 7 t
  eq : tp t = .tup [.tup (rowsD es), .tup (emps.map .str)]
  nd : (es.map (·.1) ++ emps).Nodup
  z1 : es.length ≤ 100
  z2 : emps.length ≤ 100
theorem pDct_d {ks : List Key} {ts : List Dt} {S : Sto} : pDct ks (ts.map .d) S = .ok (.d (.dct ks ts)) S := by
  unfold pDct
  rw [pures_d]
theorem pList_tup {ts : List Dt} {S : Sto} : pList [.d (.tup ts)] S = some (.d (.lst ts), S) := by
  simp [pList, itemsOf, dctAt, seqAt]
def insO (es : List (Str × Dt)) (emps : List Str) : Bo := .ins 0 [some (.d (.tup (emps.map .str))), some (.d (.dct (kS (es.map (·.1) ++ emps)) ((es.map (·.1) ++ emps).map fun _ => .bl true))), some (.d (.dct (kS (es.map (·.1))) (es.map (·.2))))]
theorem init_ok {t : Dt} {es : List (Str × Dt)} {emps : List Str} (h : Sh t es emps) : F_Sheet_init [.loc 0, .d t] [.ins 0 []] = .ok (.d .non) [insO es emps] := by
  have ht : ∀ S, F_tupled 8 [.d t] S = .ok (.d (.tup [.tup (rowsD es), .tup (emps.map .str)])) S := fun S => by
    rw [← h.eq]
    exact tupled_ok 7 t S h.tx
  have s1 : sAsg (gT (gsCons (gN 2) (gsCons (gN 3) (gsNil)))) (mF (F_tupled 8) (aCons (mV 1) (aNil))) [some (.loc 0), some (.d t), none, none, none, none] [.ins 0 []] = .nx [some (.loc 0), some (.d t), some (.d (.tup (rowsD es))), some (.d (.tup (emps.map .str))), none, none] [.ins 0 []] := by
    simp only [sAsg_s, mF_s, aCons_s, mV_s, aNil_s, List.getElem?_cons_zero, List.getElem?_cons_succ, bind_ok, ht, to_ok]
    rfl
  have nd1 : (es.map (·.1)).Nodup := (List.nodup_append.mp h.nd).1
  have d1 : mDc pDct [4, 5] (iSeq (mV 2)) (gT (gsCons (gN 4) (gsCons (gN 5) (gsNil)))) (cYes) (mV 4) (mV 5) [some (.loc 0), some (.d t), some (.d (.tup (rowsD es))), some (.d (.tup (emps.map .str))), none, none] [.ins 0 []] = .ok (.d (.dct (kS (es.map (·.1))) (es.map (·.2)))) [.ins 0 []] := by
    have hl : (rowsD es).length ≤ 16777216 := by
      unfold rowsD
      rw [List.length_map]
      have := h.z1
      omega
    have e := rows_loop (ρ0 := some (.loc 0)) (ρ1 := some (.d t)) (ρ2 := some (.d (.tup (rowsD es)))) (ρ3 := some (.d (.tup (emps.map .str)))) es [] [] (by simpa using nd1) [.ins 0 []]
    show (if (rowsD es).length ≤ 16777216 then (dcL (gT (gsCons (gN 4) (gsCons (gN 5) (gsNil)))) cYes (mV 4) (mV 5) [some (.loc 0), some (.d t), some (.d (.tup (rowsD es))), some (.d (.tup (emps.map .str))), none, none] (rowsD es) [] [] [.ins 0 []]).bind (fun q S2 => pDct q.1 q.2 S2) else .bad) = _
    rw [if_pos hl]
    have e' : dcL (gT (gsCons (gN 4) (gsCons (gN 5) (gsNil)))) cYes (mV 4) (mV 5) [some (.loc 0), some (.d t), some (.d (.tup (rowsD es))), some (.d (.tup (emps.map .str))), none, none] (rowsD es) [] [] [.ins 0 []] = .ok (kS (es.map (·.1)), (es.map (·.2)).map .d) [.ins 0 []] := by
      refine e.trans ?_
      rw [List.nil_append, List.nil_append, List.map_map]
      rfl
    rw [e', bind_ok, pDct_d]
  have s2 : sFld 0 2 (mV 0) (mDc pDct [4, 5] (iSeq (mV 2)) (gT (gsCons (gN 4) (gsCons (gN 5) (gsNil)))) (cYes) (mV 4) (mV 5)) [some (.loc 0), some (.d t), some (.d (.tup (rowsD es))), some (.d (.tup (emps.map .str))), none, none] [.ins 0 []]
      = .nx [some (.loc 0), some (.d t), some (.d (.tup (rowsD es))), some (.d (.tup (emps.map .str))), none, none] [.ins 0 [none, none, some (.d (.dct (kS (es.map (·.1))) (es.map (·.2))))]] := by
    rw [sFld_s, d1, to_ok]
    rfl
  have s3 : sFld 0 0 (mV 0) (mV 3) [some (.loc 0), some (.d t), some (.d (.tup (rowsD es))), some (.d (.tup (emps.map .str))), none, none] [.ins 0 [none, none, some (.d (.dct (kS (es.map (·.1))) (es.map (·.2))))]]
      = .nx [some (.loc 0), some (.d t), some (.d (.tup (rowsD es))), some (.d (.tup (emps.map .str))), none, none] [.ins 0 [some (.d (.tup (emps.map .str))), none, some (.d (.dct (kS (es.map (·.1))) (es.map (·.2))))]] := rfl
  have it : iSeq (m2 pAdd (mN pList (aCons (m1 (pFld 0 2) (mV 0)) (aNil))) (mN pList (aCons (mV 3) (aNil)))) [some (.loc 0), some (.d t), some (.d (.tup (rowsD es))), some (.d (.tup (emps.map .str))), none, none] [.ins 0 [some (.d (.tup (emps.map .str))), none, some (.d (.dct (kS (es.map (·.1))) (es.map (·.2))))]]
      = .ok ((es.map (·.1) ++ emps).map .str) [.ins 0 [some (.d (.tup (emps.map .str))), none, some (.d (.dct (kS (es.map (·.1))) (es.map (·.2))))]] := by
    generalize hS : ([.ins 0 [some (.d (.tup (emps.map .str))), none, some (.d (.dct (kS (es.map (·.1))) (es.map (·.2))))]] : Sto) = S
    have f1 : pFld 0 2 (.loc 0) S = some (.d (.dct (kS (es.map (·.1))) (es.map (·.2))), S) := by
      subst hS
      rfl
    have p1 : pList [.d (.dct (kS (es.map (·.1))) (es.map (·.2)))] S = some (.d (.lst ((es.map (·.1)).map .str)), S) := by
      rw [← kT_strs]
      rfl
    have p2 : pList [.d (.tup (emps.map .str))] S = some (.d (.lst (emps.map .str)), S) := pList_tup
    have p3 : pAdd (.d (.lst ((es.map (·.1)).map .str))) (.d (.lst (emps.map .str))) S = some (.d (.lst ((es.map (·.1) ++ emps).map .str)), S) := by
      have hz : ((es.map (·.1)).map Dt.str).length + (emps.map Dt.str).length ≤ 16777216 := by
        have h1 := h.z1
        have h2 := h.z2
        simp only [List.length_map]
        omega
      show (if ((es.map (·.1)).map Dt.str).length + (emps.map Dt.str).length ≤ 16777216 then some (Dv.d (.lst ((es.map (·.1)).map Dt.str ++ emps.map Dt.str)), S) else none) = _
      rw [if_pos hz, ← List.map_append]
    simp only [iSeq_s, m2_s, mN_s, m1_s, aCons_s, mV_s, aNil_s, List.getElem?_cons_zero, List.getElem?_cons_succ, bind_ok, f1, Sm.lift_some, p1, p2, p3]
    rfl
  have d2 : mDc pDct [4] (iSeq (m2 pAdd (mN pList (aCons (m1 (pFld 0 2) (mV 0)) (aNil))) (mN pList (aCons (mV 3) (aNil))))) (gN 4) (cYes) (mV 4) (mC (.bl true)) [some (.loc 0), some (.d t), some (.d (.tup (rowsD es))), some (.d (.tup (emps.map .str))), none, none] [.ins 0 [some (.d (.tup (emps.map .str))), none, some (.d (.dct (kS (es.map (·.1))) (es.map (·.2))))]]
      = .ok (.d (.dct (kS (es.map (·.1) ++ emps)) ((es.map (·.1) ++ emps).map fun _ => .bl true))) [.ins 0 [some (.d (.tup (emps.map .str))), none, some (.d (.dct (kS (es.map (·.1))) (es.map (·.2))))]] := by
    have hz : ((es.map (·.1) ++ emps).map Dt.str).length ≤ 16777216 := by
      have h1 := h.z1
      have h2 := h.z2
      simp only [List.length_map, List.length_append]
      omega
    have e := homes_loop (ρ0 := some (.loc 0)) (ρ1 := some (.d t)) (ρ2 := some (.d (.tup (rowsD es)))) (ρ3 := some (.d (.tup (emps.map .str)))) (es.map (·.1) ++ emps) [] [] (by simpa using h.nd) [.ins 0 [some (.d (.tup (emps.map .str))), none, some (.d (.dct (kS (es.map (·.1))) (es.map (·.2))))]]
    unfold mDc
    rw [it, bind_ok, if_pos hz]
    have e' : dcL (gN 4) cYes (mV 4) (mC (.bl true)) (wipeE [some (.loc 0), some (.d t), some (.d (.tup (rowsD es))), some (.d (.tup (emps.map .str))), none, none] [4]) ((es.map (·.1) ++ emps).map .str) [] [] [.ins 0 [some (.d (.tup (emps.map .str))), none, some (.d (.dct (kS (es.map (·.1))) (es.map (·.2))))]] = .ok (kS (es.map (·.1) ++ emps), ((es.map (·.1) ++ emps).map fun _ => Dt.bl true).map .d) [.ins 0 [some (.d (.tup (emps.map .str))), none, some (.d (.dct (kS (es.map (·.1))) (es.map (·.2))))]] := by
      refine e.trans ?_
      rw [List.nil_append, List.nil_append, List.map_map]
      rfl
    rw [e', bind_ok, pDct_d]
  have hb : b_Sheet_init [some (.loc 0), some (.d t), none, none, none, none] [.ins 0 []] = .nx [some (.loc 0), some (.d t), some (.d (.tup (rowsD es))), some (.d (.tup (emps.map .str))), none, none] [insO es emps] := by
    unfold b_Sheet_init
    rw [sSeq_s, s1, sqz_nx, sSeq_s, s2, sqz_nx, sSeq_s, s3, sqz_nx, sFld_s, d2, to_ok]
    rfl
  show runB 6 2 b_Sheet_init [.loc 0, .d t] [.ins 0 []] = _
  unfold runB
  rw [if_pos (show ([Dv.loc 0, Dv.d t] : List Dv).length = 2 from rfl)]
  show (match b_Sheet_init [some (.loc 0), some (.d t), none, none, none, none] [.ins 0 []] with
    | .nx _ S' => (Rz.ok (Dv.d .non) S' : Rz Dv)
    | .rt d S' => .ok d S'
    | .er c t _ S' => .er c t S'
    | _ => .bad) = _
  rw [hb]
theorem make_ok {t : Dt} {es : List (Str × Dt)} {emps : List Str} (h : Sh t es emps) : mMake 0 F_Sheet_init (aCons (mV 0) (aNil)) [some (.d t)] [] = .ok (.loc 0) [insO es emps] := by
  unfold mMake
  simp only [aCons_s, mV_s, aNil_s, List.getElem?_cons_zero, bind_ok]
  show ((F_Sheet_init [.loc 0, .d t] [.ins 0 []]).bind fun r S2 => match r with
    | .d .non => Rz.ok (Dv.loc 0) S2
    | _ => .bad) = _
  rw [init_ok h]
  rfl
theorem households_ok {t : Dt} {es : List (Str × Dt)} {emps : List Str} (h : Sh t es emps) (S : Sto) : F_households [.d t] S = .ok (.d (.tup ((es.map (·.1)).map .str))) S := by
  have n1 : F_Sheet_names [.loc 0] [insO es emps] = .ok (.d (.tup ((es.map (·.1)).map .str))) [insO es emps] := by
    show runB 1 1 b_Sheet_names [.loc 0] [insO es emps] = _
    refine runB_rt (ds := [.loc 0]) rfl ?_
    show b_Sheet_names [some (.loc 0)] [insO es emps] = _
    have f1 : pFld 0 2 (.loc 0) [insO es emps] = some (.d (.dct (kS (es.map (·.1))) (es.map (·.2))), [insO es emps]) := rfl
    have p1 : pTuple [.d (.dct (kS (es.map (·.1))) (es.map (·.2)))] [insO es emps] = some (.d (.tup ((es.map (·.1)).map .str)), [insO es emps]) := by
      rw [← kT_strs]
      rfl
    unfold b_Sheet_names
    simp only [sRet_s, mN_s, m1_s, aCons_s, mV_s, aNil_s, List.getElem?_cons_zero, bind_ok, f1, Sm.lift_some, p1, to_ok]
  refine iso_ok (ts := [t]) (S' := [insO es emps]) (runB_rt (ds := [.d t]) rfl ?_)
  show b_households [some (.d t)] [] = _
  unfold b_households
  have m : mMeth 0 F_Sheet_names (mMake 0 F_Sheet_init (aCons (mV 0) (aNil))) aNil [some (.d t)] [] = .ok (.d (.tup ((es.map (·.1)).map .str))) [insO es emps] := by
    unfold mMeth
    rw [make_ok h, bind_ok, if_pos (show isIns 0 (.loc 0) [insO es emps] = true from rfl)]
    exact n1
  rw [sRet_s, m, to_ok]
theorem as_set_ok {l : List Str} {xs : List Dt} (hz : l.length ≤ 4000) (S : Sto) : F_as_set [.d (.dct (kS l) xs)] S = .ok (.d (.tup ((sortS (ddS l)).map .str))) S := by
  refine iso_ok (ts := [.dct (kS l) xs]) (S' := []) (runB_rt (ds := [.d (.dct (kS l) xs)]) rfl ?_)
  show b_as_set [some (.d (.dct (kS l) xs))] [] = _
  have e : (itemsOf [] (.d (.dct (kS l) xs))).bind strsOf = some l := by
    show (some ((kS l).map kT)).bind strsOf = _
    rw [Option.bind_some, kT_strs, strsOf_map]
  have p : pSortSet (.d (.dct (kS l) xs)) [] = some (.d (.lst ((sortS (ddS l)).map .str)), []) := by
    unfold pSortSet
    rw [e]
    exact if_pos hz
  unfold b_as_set
  simp only [sRet_s, mN_s, m1_s, aCons_s, mV_s, aNil_s, List.getElem?_cons_zero, bind_ok, p, Sm.lift_some, pTuple_lst, to_ok]
theorem homes_ok {t : Dt} {es : List (Str × Dt)} {emps : List Str} (h : Sh t es emps) (S : Sto) : F_homes [.d t] S = .ok (.d (.tup ((sortS (es.map (·.1) ++ emps)).map .str))) S := by
  have hz : (es.map (·.1) ++ emps).length ≤ 4000 := by
    have h1 := h.z1
    have h2 := h.z2
    simp only [List.length_map, List.length_append]
    omega
  have n1 : F_Sheet_homes [.loc 0] [insO es emps] = .ok (.d (.tup ((sortS (es.map (·.1) ++ emps)).map .str))) [insO es emps] := by
    show runB 1 1 b_Sheet_homes [.loc 0] [insO es emps] = _
    refine runB_rt (ds := [.loc 0]) rfl ?_
    show b_Sheet_homes [some (.loc 0)] [insO es emps] = _
    have f1 : pFld 0 1 (.loc 0) [insO es emps] = some (.d (.dct (kS (es.map (·.1) ++ emps)) ((es.map (·.1) ++ emps).map fun _ => .bl true)), [insO es emps]) := rfl
    unfold b_Sheet_homes
    simp only [sRet_s, mF_s, m1_s, aCons_s, mV_s, aNil_s, List.getElem?_cons_zero, bind_ok, f1, Sm.lift_some, as_set_ok hz, ddS_id h.nd, to_ok]
  refine iso_ok (ts := [t]) (S' := [insO es emps]) (runB_rt (ds := [.d t]) rfl ?_)
  show b_homes [some (.d t)] [] = _
  unfold b_homes
  have m : mMeth 0 F_Sheet_homes (mMake 0 F_Sheet_init (aCons (mV 0) (aNil))) aNil [some (.d t)] [] = .ok (.d (.tup ((sortS (es.map (·.1) ++ emps)).map .str))) [insO es emps] := by
    unfold mMeth
    rw [make_ok h, bind_ok, if_pos (show isIns 0 (.loc 0) [insO es emps] = true from rfl)]
    exact n1
  rw [sRet_s, m, to_ok]
end K01
/-! K01R: blend. -/
namespace K01
open PySem PySem.Spec PyProof.Rows L2 Sm Hn
mutual
/-- drawings that a blend takes -/
def nod : Dt → Nat
  | .tup xs => 1 + nods xs
  | .lst xs => 1 + nods xs
  | _ => 0
def nods : List Dt → Nat
  | [] => 0
  | x :: xs => nod x + nods xs
end
def Bl (F : FM) (n : Nat) (t : Dt) : Prop := ∀ (S : Sto) (k : Nat) (o : Bo) (m : Nat), S[k]? = some o → Urn o (nod t + m) → ∃ (t' : Dt) (o' : Bo), F [.loc k, .d t] S = .ok (.d t') (S.set k o') ∧ tp t' = tp t ∧ Tx n t' ∧ Urn o' m
theorem blend_loop {F : FM} {n : Nat} {P : Dt} : ∀ (xs : List Dt), (∀ x ∈ xs, Bl F n x) → ∀ (o : Bo) (m : Nat), Urn o (nods xs + m) → ∃ (ys : List Dt) (o' : Bo), lcL (gN 3) cYes (mF F (aCons (mV 0) (aCons (mV 3) (aNil)))) [some (.loc 0), some (.d P), none, none] xs [o] = .ok (ys.map .d) [o'] ∧ tps ys = tps xs ∧ ys.length = xs.length ∧ (∀ y ∈ ys, Tx n y) ∧ Urn o' m
  | [], _, o, m, u => ⟨[], o, rfl, rfl, rfl, fun y h => absurd h List.not_mem_nil, u.less (by omega)⟩
  | x :: xs, h, o, m, u => by
    obtain ⟨y, o1, e1, t1, x1, u1⟩ := h x List.mem_cons_self [o] 0 o (nods xs + m) rfl (u.less (by show nod x + (nods xs + m) ≤ nod x + nods xs + m; omega))
    obtain ⟨ys, o2, e2, t2, l2, x2, u2⟩ := blend_loop (P := P) xs (fun z hz => h z (List.mem_cons_of_mem _ hz)) o1 m u1
    have e1' : F [.loc 0, .d x] [o] = .ok (.d y) [o1] := e1
    refine ⟨y :: ys, o2, ?_, ?_, by rw [List.length_cons, List.length_cons, l2], fun z hz => ?_, u2⟩
    · show bz (some ([some (Dv.loc 0), some (Dv.d P), none, some (Dv.d x)] : Sm.Env)) _ = _
      simp only [bz_some, cYes_s, nox_ok, bind_ok, if_true, mF_s, aCons_s, mV_s, aNil_s, List.getElem?_cons_zero, List.getElem?_cons_succ, e1', e2]
      rfl
    · show tp y :: tps ys = tp x :: tps xs
      rw [t1, t2]
    · rcases List.mem_cons.mp hz with rfl | hz
      · exact x1
      · exact x2 z hz
theorem blend_seq {n : Nat} {t : Dt} {xs : List Dt} (ht : t = .tup xs ∨ t = .lst xs) (hz : xs.length ≤ 1000) (hx : ∀ x ∈ xs, Bl (F__law_blend (n + 1)) n x) : Bl (F__law_blend (n + 2)) (n + 1) t := by
  intro S k o m hS u
  have hP : seqOf (.d t) = some xs := by rcases ht with rfl | rfl <;> rfl
  have hn : nod t = 1 + nods xs := by rcases ht with rfl | rfl <;> rfl
  obtain ⟨ys, o1, e1, t1, l1, x1, u1⟩ := blend_loop (P := t) xs hx o (1 + m) (u.less (by omega))
  obtain ⟨r, o2, e2, r0, r1, u2⟩ := take_ok (S := [o1]) (n := 0) (m := m) (low := 2) rfl (u1.less (by omega)) (by omega) (by omega)
  have e2' : F__law_take [.loc 0, .d (.int 2)] [o1] = .ok (.d (.int r)) [o2] := e2
  have etp : ∀ t', (t' = .tup ys ∨ t' = .lst ys) → tp t' = tp t := fun t' h' => by
    have a1 : tp t' = .tup (tps ys) := by rcases h' with rfl | rfl <;> rfl
    have a2 : tp t = .tup (tps xs) := by rcases ht with rfl | rfl <;> rfl
    rw [a1, a2, t1]
  have etx : ∀ t', (t' = .tup ys ∨ t' = .lst ys) → Tx (n + 1) t' := fun t' h' => .inr ⟨ys, h', by omega, x1⟩
  have c : cNot (mTru pTru (m1 (pIsa ["list", "tuple"]) (mV 1))) [some (.loc 0), some (.d t), none, none] [o] = .ok false [o] := by
    simp only [cNot_s, mTru_s, m1_s, mV_s, List.getElem?_cons_zero, List.getElem?_cons_succ, bind_ok, isa_seq ht, Sm.lift_some]
    rfl
  have lc : mN pLst (mLcI [3] (iSeq (mV 1)) (gN 3) (cYes) (mF (F__law_blend (n + 1)) (aCons (mV 0) (aCons (mV 3) (aNil))))) [some (.loc 0), some (.d t), none, none] [o] = .ok (.d (.lst ys)) [o1] := by
    have h1 : mLcI [3] (iSeq (mV 1)) (gN 3) (cYes) (mF (F__law_blend (n + 1)) (aCons (mV 0) (aCons (mV 3) (aNil)))) [some (.loc 0), some (.d t), none, none] [o] = .ok (ys.map .d) [o1] := by
      rw [mLcI_s, iSeq_s, mV_s]
      show ((li (seqOf (.d t)) [o]).bind fun ts S1 => if ts.length ≤ 16777216 then _ else _) = _
      rw [hP, li_some, bind_ok, if_pos (by omega)]
      exact e1
    rw [mN_s, h1, bind_ok, pLst_d (by omega), Sm.lift_some]
  have tk : mTst (m2 pEq (mF F__law_take (aCons (mV 0) (aCons (mC (.int 2)) (aNil)))) (mC (.int 0))) [some (.loc 0), some (.d t), some (.d (.lst ys)), none] [o1] = .ok (decide (r = 0)) [o2] := by
    simp only [mTst_s, m2_s, mF_s, aCons_s, mV_s, mC_s, aNil_s, List.getElem?_cons_zero, bind_ok, e2', pEq, eqDv_int, Sm.lift_some, toB_s, li_some]
  refine ⟨if r = 0 then .lst ys else .tup ys, o2, ?_, ?_, ?_, u2⟩
  · refine view_ok (ts := [t]) (rest := []) hS u.pure (runB_rt (ds := [.loc 0, .d t]) rfl ?_) u2.pure
    show b__law_blend (F__law_blend (n + 1)) [some (.loc 0), some (.d t), none, none] [o] = _
    unfold b__law_blend
    rw [sSeq_s, sIf_s, c, to_ok]
    simp only [Bool.false_eq_true, if_false, sNil_s, sqz_nx]
    rw [sSeq_s, sSet_s, lc, to_ok, sqz_nx, sRet_s, mIf_s]
    show (((mTst (m2 pEq (mF F__law_take (aCons (mV 0) (aCons (mC (.int 2)) (aNil)))) (mC (.int 0))) [some (.loc 0), some (.d t), some (.d (.lst ys)), none] [o1]).bind _).to _ _) = _
    rw [tk, bind_ok]
    by_cases h : r = 0
    · simp only [h, decide_true, if_true]
      rfl
    · simp only [h, decide_false, Bool.false_eq_true, if_false]
      show ((mN pTuple (aCons (mV 2) (aNil)) [some (.loc 0), some (.d t), some (.d (.lst ys)), none] [o2]).to _ _) = _
      simp only [mN_s, aCons_s, mV_s, aNil_s, List.getElem?_cons_zero, List.getElem?_cons_succ, bind_ok, pTuple_lst, Sm.lift_some, to_ok]
  · split
    · exact etp _ (.inr rfl)
    · exact etp _ (.inl rfl)
  · split
    · exact etx _ (.inr rfl)
    · exact etx _ (.inl rfl)
theorem blend_str {n j : Nat} {s : Str} (h : Tx j (.str s)) : Bl (F__law_blend (n + 1)) j (.str s) := by
  intro S k o m hS u
  have u0 : Urn o m := u.less (by show m ≤ 0 + m; omega)
  refine ⟨.str s, o, view_ok (ts := [.str s]) (rest := []) hS u0.pure (runB_rt (ds := [.loc 0, .d (.str s)]) rfl ?_) u0.pure, rfl, h, u0⟩
  show b__law_blend (F__law_blend n) [some (.loc 0), some (.d (.str s)), none, none] [o] = _
  have c : cNot (mTru pTru (m1 (pIsa ["list", "tuple"]) (mV 1))) [some (.loc 0), some (.d (.str s)), none, none] [o] = .ok true [o] := rfl
  unfold b__law_blend
  rw [sSeq_s, sIf_s, c, to_ok, if_pos rfl]
  rfl
theorem blend_ok : ∀ (n : Nat) (t : Dt), Tx n t → Bl (F__law_blend (n + 1)) n t
  | 0, t, h => by
    obtain ⟨s, hs, rfl⟩ := h
    exact blend_str ⟨s, hs, rfl⟩
  | n + 1, t, h => by
    rcases h with ⟨s, hs, rfl⟩ | ⟨xs, ht, hz, hx⟩
    · exact blend_str (.inl ⟨s, hs, rfl⟩)
    · exact blend_seq ht hz fun x m => blend_ok n x (hx x m)
end K01
/-! K01S: the sheets by hand. -/
namespace K01
open PySem PySem.Spec PyProof.Rows L2 Sm Hn
theorem sort_lit {l m : List Str} (h : (m.isPerm l && (decide (m.Pairwise fun a b => leS a b = true))) = true) : sortS l = m := by
  simp only [Bool.and_eq_true, decide_eq_true_eq] at h
  exact sorted_eq (sortS_sorted l) h.2 ((sortS_perm l).trans (List.isPerm_iff.mp h.1).symm)
theorem sort1 : sortS (["b", "a"] : List Str) = (["a", "b"] : List Str) := sort_lit (by decide +kernel)
theorem sort2 : sortS (["a", "zz"] : List Str) = (["a", "zz"] : List Str) := sort_lit (by decide +kernel)
theorem sort3 : sortS (["ann", "bob", "cat", "dan", "eve", "fay", "new"] : List Str) = (["ann", "bob", "cat", "dan", "eve", "fay", "new"] : List Str) := sort_lit (by decide +kernel)
theorem sort4 : sortS (["a", "c", "b", "d"] : List Str) = (["a", "b", "c", "d"] : List Str) := sort_lit (by decide +kernel)
theorem sort0 : sortS ([] : List Str) = [] := sort_lit (by decide +kernel)
end K01
/-! K01T1: sheets of tuples. -/
namespace K01
open PySem PySem.Spec PyProof.Rows L2 Sm Hn
theorem tps_strs : ∀ l : List Str, tps (l.map .str) = l.map .str
  | [] => rfl
  | a :: l => by
    show Dt.str a :: tps (l.map .str) = _
    rw [tps_strs l]
    rfl
theorem tp_row (e : Str × List Str) : tp (row e) = row e := by
  show Dt.tup [.str e.1, .tup (tps (e.2.map .str))] = _
  rw [tps_strs]
  rfl
theorem tps_rows : ∀ l : List (Str × List Str), tps (l.map row) = l.map row
  | [] => rfl
  | a :: l => by
    show tp (row a) :: tps (l.map row) = _
    rw [tps_rows l, tp_row]
    rfl
theorem tx_strs {l : List Str} (h : ∀ s ∈ l, PyData.strOk s = true) (hz : l.length ≤ 1000) : Tx 1 (.tup (l.map .str)) :=
  .inr ⟨_, .inl rfl, by rw [List.length_map]; exact hz, fun x hx => by
    obtain ⟨s, hs, rfl⟩ := List.mem_map.mp hx
    exact ⟨s, h s hs, rfl⟩⟩
theorem sh_of {l : List (Str × List Str)} {emps : List Str} (h1 : ∀ e ∈ l, PyData.strOk e.1 = true ∧ e.2.length ≤ 1000 ∧ ∀ s ∈ e.2, PyData.strOk s = true) (h2 : ∀ s ∈ emps, PyData.strOk s = true) (nd : (l.map (·.1) ++ emps).Nodup) (z1 : l.length ≤ 100) (z2 : emps.length ≤ 100) :
    Sh (.tup [.tup (l.map row), .tup (emps.map .str)]) (l.map fun e => (e.1, .tup (e.2.map .str))) emps := by
  have t1 : Tx 2 (.tup (emps.map .str)) := (tx_strs h2 (by omega)).up
  have t2 : ∀ e ∈ l, Tx 2 (row e) := fun e he => by
    obtain ⟨a, b, c⟩ := h1 e he
    refine .inr ⟨_, .inl rfl, by show 2 ≤ 1000; omega, fun x hx => ?_⟩
    rcases List.mem_cons.mp hx with rfl | hx
    · exact .inl ⟨e.1, a, rfl⟩
    · rcases List.mem_cons.mp hx with rfl | hx
      · exact tx_strs c b
      · exact absurd hx List.not_mem_nil
  have t3 : Tx 3 (.tup (l.map row)) := .inr ⟨_, .inl rfl, by rw [List.length_map]; omega, fun x hx => by
    obtain ⟨e, he, rfl⟩ := List.mem_map.mp hx
    exact t2 e he⟩
  have t4 : Tx 4 (.tup [.tup (l.map row), .tup (emps.map .str)]) := .inr ⟨_, .inl rfl, by show 2 ≤ 1000; omega, fun x hx => by
    rcases List.mem_cons.mp hx with rfl | hx
    · exact t3
    · rcases List.mem_cons.mp hx with rfl | hx
      · exact t1.up
      · exact absurd hx List.not_mem_nil⟩
  have en : (l.map fun e => ((e.1, Dt.tup (e.2.map .str)) : Str × Dt)).map (·.1) = l.map (·.1) := by
    rw [List.map_map]
    rfl
  refine ⟨t4.up.up.up, ?_, by rw [en]; exact nd, by rw [List.length_map]; exact z1, z2⟩
  show Dt.tup [.tup (tps (l.map row)), .tup (tps (emps.map .str))] = _
  rw [tps_rows, tps_strs]
  unfold rowsD
  rw [List.map_map]
  rfl
end K01
/-! K01T2: what is asked of a list of sheets. -/
namespace K01
open PySem PySem.Spec PyProof.Rows L2 Sm Hn
def ans (es : List (Str × Dt)) (emps : List Str) : Dt := .lst [.tup ((es.map (·.1)).map .str), .tup ((sortS (es.map (·.1) ++ emps)).map .str)]
def askM (i : Nat) : M Dv := mN pLst (aCons (mF F_households (aCons (mV i) (aNil))) (aCons (mF F_homes (aCons (mV i) (aNil))) (aNil)))
theorem ask_ok {t : Dt} {es : List (Str × Dt)} {emps : List Str} (h : Sh t es emps) {i : Nat} {ρ : Sm.Env} {S : Sto} (hi : ρ[i]? = some (some (.d t))) : askM i ρ S = .ok (.d (ans es emps)) S := by
  have p : pLst [.d (.tup ((es.map (·.1)).map .str)), .d (.tup ((sortS (es.map (·.1) ++ emps)).map .str))] S = some (.d (ans es emps), S) := pLst_d (ts := [.tup ((es.map (·.1)).map .str), .tup ((sortS (es.map (·.1) ++ emps)).map .str)]) (by show 2 ≤ 16777216; omega)
  unfold askM
  simp only [mN_s, aCons_s, mF_s, mV_s, aNil_s, hi, bind_ok, households_ok h, homes_ok h, p, Sm.lift_some]
structure Itm where
  t : Dt
  es : List (Str × Dt)
  emps : List Str
theorem asks_ok {a b d : Option Dv} : ∀ (is : List Itm), (∀ i ∈ is, Sh i.t i.es i.emps) → ∀ S : Sto, lcL (gN 2) cYes (askM 2) [a, b, none, d] (is.map (·.t)) S = .ok ((is.map fun i => ans i.es i.emps).map .d) S
  | [], _, S => rfl
  | x :: xs, h, S => by
    have e1 : askM 2 [a, b, some (.d x.t), d] S = .ok (.d (ans x.es x.emps)) S := ask_ok (h x List.mem_cons_self) rfl
    have e2 := asks_ok (a := a) (b := b) (d := d) xs (fun y hy => h y (List.mem_cons_of_mem _ hy)) S
    show bz (some ([a, b, some (Dv.d x.t), d] : Sm.Env)) _ = _
    simp only [bz_some, cYes_s, nox_ok, bind_ok, if_true, e1, e2]
    rfl
end K01
/-! K01T3: by hand. -/
namespace K01
open PySem PySem.Spec PyProof.Rows L2 Sm Hn
abbrev r0 : List (Str × List Str) := []
abbrev r1 : List (Str × List Str) := [("b", [])]
abbrev r3 : List (Str × List Str) := [("ann", ["bob"]), ("bob", ["ann", "cat"]), ("cat", ["bob", "dan", "eve"]), ("dan", ["cat", "eve"]), ("eve", ["cat", "dan"]), ("fay", ["cat", "new"])]
abbrev r4 : List (Str × List Str) := [("a", ["q"]), ("c", ["a"])]
abbrev shD (l : List (Str × List Str)) (m : List Str) : Dt := .tup [.tup (l.map row), .tup (m.map .str)]
abbrev esD (l : List (Str × List Str)) : List (Str × Dt) := l.map fun e => (e.1, .tup (e.2.map .str))
theorem sh0 : Sh (shD r0 []) (esD r0) [] := sh_of (by decide +kernel) (by decide +kernel) (by decide +kernel) (by decide) (by decide)
theorem sh1 : Sh (shD r1 ["a"]) (esD r1) ["a"] := sh_of (by decide +kernel) (by decide +kernel) (by decide +kernel) (by decide) (by decide)
theorem sh2 : Sh (shD r0 ["a", "zz"]) (esD r0) ["a", "zz"] := sh_of (by decide +kernel) (by decide +kernel) (by decide +kernel) (by decide) (by decide)
theorem sh3 : Sh (shD r3 ["new"]) (esD r3) ["new"] := sh_of (by decide +kernel) (by decide +kernel) (by decide +kernel) (by decide) (by decide)
theorem sh4 : Sh (shD r4 ["b", "d"]) (esD r4) ["b", "d"] := sh_of (by decide +kernel) (by decide +kernel) (by decide +kernel) (by decide) (by decide)
theorem six_ok (S : Sto) : F__law_six [] S = .ok (.d (shD r3 ["new"])) S := iso_ok (ts := []) (S' := []) (runB_rt (ds := []) rfl rfl)
def hGoal : List Dt := [.lst [.tup [], .tup []], .lst [.tup [.str "b"], .tup [.str "a", .str "b"]], .lst [.tup [], .tup [.str "a", .str "zz"]]]
theorem hand0 : sSet 0 (mN pLstB (aCons (mN pTup (aCons (mN pTup (aNil)) (aCons (mN pTup (aNil)) (aNil)))) (aCons (mN pTup (aCons (mN pTup (aCons (mN pTup (aCons (mC (.str ("b" : Str))) (aCons (mN pTup (aNil)) (aNil)))) (aNil))) (aCons (mN pTup (aCons (mC (.str ("a" : Str))) (aNil))) (aNil)))) (aCons (mN pTup (aCons (mN pTup (aNil)) (aCons (mN pTup (aCons (mC (.str ("a" : Str))) (aCons (mC (.str ("zz" : Str))) (aNil)))) (aNil)))) (aCons (mF F__law_six aNil) (aNil)))))) [none, none, none, none] [] = .nx [some (.loc 0), none, none, none] [.lst [.d (shD r0 []), .d (shD r1 ["a"]), .d (shD r0 ["a", "zz"]), .d (shD r3 ["new"])]] := rfl
def hAns : Dt := .lst [.lst [.tup [], .tup []], .lst [.tup [.str "b"], .tup [.str "a", .str "b"]], .lst [.tup [], .tup [.str "a", .str "zz"]], .lst [.tup [.str "ann", .str "bob", .str "cat", .str "dan", .str "eve", .str "fay"], .tup [.str "ann", .str "bob", .str "cat", .str "dan", .str "eve", .str "fay", .str "new"]], .lst [.tup [.str "a", .str "c"], .tup [.str "a", .str "b", .str "c", .str "d"]]]
def hItm : List Itm := [⟨shD r0 [], esD r0, []⟩, ⟨shD r1 ["a"], esD r1, ["a"]⟩, ⟨shD r0 ["a", "zz"], esD r0, ["a", "zz"]⟩, ⟨shD r3 ["new"], esD r3, ["new"]⟩, ⟨shD r4 ["b", "d"], esD r4, ["b", "d"]⟩]
theorem hItm_ok : ∀ i ∈ hItm, Sh i.t i.es i.emps := fun i hi => by
  rcases List.mem_cons.mp hi with rfl | hi
  · exact sh0
  rcases List.mem_cons.mp hi with rfl | hi
  · exact sh1
  rcases List.mem_cons.mp hi with rfl | hi
  · exact sh2
  rcases List.mem_cons.mp hi with rfl | hi
  · exact sh3
  rcases List.mem_cons.mp hi with rfl | hi
  · exact sh4
  · exact absurd hi List.not_mem_nil
theorem hAns_eq : Dt.lst (hItm.map fun i => ans i.es i.emps) = hAns := by
  have e0 : ans (esD r0) [] = .lst [.tup [], .tup []] := by
    show Dt.lst [.tup [], .tup ((sortS []).map .str)] = _
    rw [sort0]
    rfl
  have e1 : ans (esD r1) ["a"] = .lst [.tup [.str "b"], .tup [.str "a", .str "b"]] := by
    show Dt.lst [.tup [.str "b"], .tup ((sortS ["b", "a"]).map .str)] = _
    rw [sort1]
    rfl
  have e2 : ans (esD r0) ["a", "zz"] = .lst [.tup [], .tup [.str "a", .str "zz"]] := by
    show Dt.lst [.tup [], .tup ((sortS ["a", "zz"]).map .str)] = _
    rw [sort2]
    rfl
  have e3 : ans (esD r3) ["new"] = .lst [.tup [.str "ann", .str "bob", .str "cat", .str "dan", .str "eve", .str "fay"], .tup [.str "ann", .str "bob", .str "cat", .str "dan", .str "eve", .str "fay", .str "new"]] := by
    show Dt.lst [.tup [.str "ann", .str "bob", .str "cat", .str "dan", .str "eve", .str "fay"], .tup ((sortS ["ann", "bob", "cat", "dan", "eve", "fay", "new"]).map .str)] = _
    rw [sort3]
    rfl
  have e4 : ans (esD r4) ["b", "d"] = .lst [.tup [.str "a", .str "c"], .tup [.str "a", .str "b", .str "c", .str "d"]] := by
    show Dt.lst [.tup [.str "a", .str "c"], .tup ((sortS ["a", "c", "b", "d"]).map .str)] = _
    rw [sort4]
    rfl
  show Dt.lst [ans (esD r0) [], ans (esD r1) ["a"], ans (esD r0) ["a", "zz"], ans (esD r3) ["new"], ans (esD r4) ["b", "d"]] = _
  rw [e0, e1, e2, e3, e4]
  rfl
theorem hand1 : (sDrop (mLm pAppend (mV 0) (aCons (mN pTup (aCons (mN pTup (aCons (mN pTup (aCons (mC (.str ("a" : Str))) (aCons (mN pTup (aCons (mC (.str ("q" : Str))) (aNil))) (aNil)))) (aCons (mN pTup (aCons (mC (.str ("c" : Str))) (aCons (mN pTup (aCons (mC (.str ("a" : Str))) (aNil))) (aNil)))) (aNil)))) (aCons (mN pTup (aCons (mC (.str ("b" : Str))) (aCons (mC (.str ("d" : Str))) (aNil)))) (aNil)))) (aNil)))) [some (.loc 0), none, none, none] [.lst [.d (shD r0 []), .d (shD r1 ["a"]), .d (shD r0 ["a", "zz"]), .d (shD r3 ["new"])]] = .nx [some (.loc 0), none, none, none] [.lst [.d (shD r0 []), .d (shD r1 ["a"]), .d (shD r0 ["a", "zz"]), .d (shD r3 ["new"]), .d (shD r4 ["b", "d"])]] := rfl
theorem hand2 : (sSet 1 (mN pLst (mLcI [2] (iSeq (mFrz (mV 0))) (gN 2) (cYes) (mN pLst (aCons (mF F_households (aCons (mV 2) (aNil))) (aCons (mF F_homes (aCons (mV 2) (aNil))) (aNil))))))) [some (.loc 0), none, none, none] [.lst [.d (shD r0 []), .d (shD r1 ["a"]), .d (shD r0 ["a", "zz"]), .d (shD r3 ["new"]), .d (shD r4 ["b", "d"])]] = .nx [some (.loc 0), some (.d hAns), none, none] [.dead] := by
  have h1 : mLcI [2] (iSeq (mFrz (mV 0))) (gN 2) (cYes) (askM 2) [some (.loc 0), none, none, none] [.lst [.d (shD r0 []), .d (shD r1 ["a"]), .d (shD r0 ["a", "zz"]), .d (shD r3 ["new"]), .d (shD r4 ["b", "d"])]] = .ok ((hItm.map fun i => ans i.es i.emps).map .d) [.dead] := by
    have e := asks_ok (a := some (.loc 0)) (b := none) (d := none) hItm hItm_ok [.dead]
    rw [mLcI_s]
    show (if (hItm.map (·.t)).length ≤ 16777216 then lcL (gN 2) cYes (askM 2) [some (.loc 0), none, none, none] (hItm.map (·.t)) [.dead] else .bad) = _
    rw [if_pos (show (hItm.map (·.t)).length ≤ 16777216 by show 5 ≤ 16777216; omega)]
    exact e
  have h2 : mN pLst (mLcI [2] (iSeq (mFrz (mV 0))) (gN 2) (cYes) (askM 2)) [some (.loc 0), none, none, none] [.lst [.d (shD r0 []), .d (shD r1 ["a"]), .d (shD r0 ["a", "zz"]), .d (shD r3 ["new"]), .d (shD r4 ["b", "d"])]] = .ok (.d hAns) [.dead] := by
    rw [mN_s, h1, bind_ok, pLst_d (ts := hItm.map fun i => ans i.es i.emps) (by show 5 ≤ 16777216; omega), Sm.lift_some, hAns_eq]
  show (mN pLst (mLcI [2] (iSeq (mFrz (mV 0))) (gN 2) (cYes) (askM 2)) [some (.loc 0), none, none, none] [.lst [.d (shD r0 []), .d (shD r1 ["a"]), .d (shD r0 ["a", "zz"]), .d (shD r3 ["new"]), .d (shD r4 ["b", "d"])]]).to _ _ = _
  rw [h2]
  rfl
theorem hand3 : (sSet 3 (mN pLst (aCons (mN pLst (aCons (mN pTup (aNil)) (aCons (mN pTup (aNil)) (aNil)))) (aCons (mN pLst (aCons (mN pTup (aCons (mC (.str ("b" : Str))) (aNil))) (aCons (mN pTup (aCons (mC (.str ("a" : Str))) (aCons (mC (.str ("b" : Str))) (aNil)))) (aNil)))) (aCons (mN pLst (aCons (mN pTup (aNil)) (aCons (mN pTup (aCons (mC (.str ("a" : Str))) (aCons (mC (.str ("zz" : Str))) (aNil)))) (aNil)))) (aNil)))))) [some (.loc 0), some (.d hAns), none, none] [.dead] = .nx [some (.loc 0), some (.d hAns), none, some (.d (.lst hGoal))] [.dead] := rfl
theorem hand4 : (sSet 3 (m2 pAdd (mV 3) (mN pLst (aCons (mN pLst (aCons (mN pTup (aCons (mC (.str ("ann" : Str))) (aCons (mC (.str ("bob" : Str))) (aCons (mC (.str ("cat" : Str))) (aCons (mC (.str ("dan" : Str))) (aCons (mC (.str ("eve" : Str))) (aCons (mC (.str ("fay" : Str))) (aNil)))))))) (aCons (mN pTup (aCons (mC (.str ("ann" : Str))) (aCons (mC (.str ("bob" : Str))) (aCons (mC (.str ("cat" : Str))) (aCons (mC (.str ("dan" : Str))) (aCons (mC (.str ("eve" : Str))) (aCons (mC (.str ("fay" : Str))) (aCons (mC (.str ("new" : Str))) (aNil))))))))) (aNil)))) (aNil))))) [some (.loc 0), some (.d hAns), none, some (.d (.lst hGoal))] [.dead] = .nx [some (.loc 0), some (.d hAns), none, some (.d (.lst [.lst [.tup [], .tup []], .lst [.tup [.str "b"], .tup [.str "a", .str "b"]], .lst [.tup [], .tup [.str "a", .str "zz"]], .lst [.tup [.str "ann", .str "bob", .str "cat", .str "dan", .str "eve", .str "fay"], .tup [.str "ann", .str "bob", .str "cat", .str "dan", .str "eve", .str "fay", .str "new"]]]))] [.dead] := rfl
theorem tx_u {n : Nat} {xs : List Dt} (h : ∀ x ∈ xs, Tx n x) (hz : xs.length ≤ 1000) : Tx (n + 1) (.lst xs) := .inr ⟨xs, .inr rfl, hz, h⟩
theorem tx_ss {l : List Str} (h : (l.all fun s => PyData.strOk s) = true) (hz : l.length ≤ 1000) : Tx 1 (.tup (l.map .str)) := tx_strs (fun s hs => List.all_eq_true.mp h s hs) hz
theorem tx_ans {l m : List Str} (h : (l.all fun s => PyData.strOk s) = true) (h2 : (m.all fun s => PyData.strOk s) = true) (z : l.length ≤ 1000) (z2 : m.length ≤ 1000) : Tx 2 (.lst [.tup (l.map .str), .tup (m.map .str)]) := tx_u (fun x hx => by
  rcases List.mem_cons.mp hx with rfl | hx
  · exact tx_ss h z
  rcases List.mem_cons.mp hx with rfl | hx
  · exact tx_ss h2 z2
  · exact absurd hx List.not_mem_nil) (by show 2 ≤ 1000; omega)
theorem tx_hAns : Tx 3 hAns := tx_u (fun x hx => by
  rcases List.mem_cons.mp hx with rfl | hx
  · exact tx_ans (l := []) (m := []) (by decide +kernel) (by decide +kernel) (by decide) (by decide)
  rcases List.mem_cons.mp hx with rfl | hx
  · exact tx_ans (l := ["b"]) (m := ["a", "b"]) (by decide +kernel) (by decide +kernel) (by decide) (by decide)
  rcases List.mem_cons.mp hx with rfl | hx
  · exact tx_ans (l := []) (m := ["a", "zz"]) (by decide +kernel) (by decide +kernel) (by decide) (by decide)
  rcases List.mem_cons.mp hx with rfl | hx
  · exact tx_ans (l := ["ann", "bob", "cat", "dan", "eve", "fay"]) (m := ["ann", "bob", "cat", "dan", "eve", "fay", "new"]) (by decide +kernel) (by decide +kernel) (by decide) (by decide)
  rcases List.mem_cons.mp hx with rfl | hx
  · exact tx_ans (l := ["a", "c"]) (m := ["a", "b", "c", "d"]) (by decide +kernel) (by decide +kernel) (by decide) (by decide)
  · exact absurd hx List.not_mem_nil) (by show 5 ≤ 1000; omega)
theorem hand5 : (sRet (mF (F__law_same 8) (aCons (mV 1) (aCons (m2 pAdd (mV 3) (mN pLst (aCons (mN pLst (aCons (mN pTup (aCons (mC (.str ("a" : Str))) (aCons (mC (.str ("c" : Str))) (aNil)))) (aCons (mN pTup (aCons (mC (.str ("a" : Str))) (aCons (mC (.str ("b" : Str))) (aCons (mC (.str ("c" : Str))) (aCons (mC (.str ("d" : Str))) (aNil)))))) (aNil)))) (aNil)))) (aNil))))) [some (.loc 0), some (.d hAns), none, some (.d (.lst [.lst [.tup [], .tup []], .lst [.tup [.str "b"], .tup [.str "a", .str "b"]], .lst [.tup [], .tup [.str "a", .str "zz"]], .lst [.tup [.str "ann", .str "bob", .str "cat", .str "dan", .str "eve", .str "fay"], .tup [.str "ann", .str "bob", .str "cat", .str "dan", .str "eve", .str "fay", .str "new"]]]))] [.dead] = .rt (.d (.bl true)) [.dead] := by
  show (F__law_same 8 [.d hAns, .d hAns] [.dead]).to _ _ = _
  rw [same_ok 7 hAns [.dead] tx_hAns.up.up.up.up]
  rfl
theorem hand_ok (S : Sto) : F__law_by_hand_right [] S = .ok (.d (.bl true)) S := by
  refine iso_ok (ts := []) (S' := [.dead]) (runB_rt (ds := []) rfl ?_)
  show b__law_by_hand_right [none, none, none, none] [] = _
  unfold b__law_by_hand_right
  rw [sSeq_s, hand0, sqz_nx, sSeq_s, hand1, sqz_nx, sSeq_s, hand2, sqz_nx, sSeq_s, hand3, sqz_nx, sSeq_s, hand4, sqz_nx, hand5]
end K01
/-! Hn11: small steps that many loops need. -/
namespace Hn
open PySem PySem.Spec PyProof.Rows L2 Sm
theorem perm_map_inv {α β : Type} {f : α → β} {g : β → α} (hg : ∀ a, g (f a) = a) {r : List β} {l : List α} (h : r.Perm (l.map f)) : ∃ m : List α, r = m.map f ∧ m.Perm l := by
  refine ⟨r.map g, ?_, ?_⟩
  · rw [List.map_map]
    have : ∀ x ∈ r, (f ∘ g) x = id x := fun x hx => by
      obtain ⟨a, _, rfl⟩ := List.mem_map.mp (h.mem_iff.mp hx)
      show f (g (f a)) = f a
      rw [hg]
    rw [List.map_congr_left this, List.map_id]
  · have := h.map g
    rw [List.map_map, show (g ∘ f) = id from funext hg, List.map_id] at this
    exact this
def unS : Dt → Str
  | .str s => s
  | _ => Str.empty
theorem perm_strs {r : List Dt} {l : List Str} (h : r.Perm (l.map .str)) : ∃ m : List Str, r = m.map .str ∧ m.Perm l := perm_map_inv (g := unS) (fun _ => rfl) h
theorem sub_strs {r : List Dt} {l : List Str} (h : r.Sublist (l.map .str)) : ∃ m : List Str, r = m.map .str ∧ m.Sublist l := by
  obtain ⟨m, h1, h2⟩ := List.sublist_map_iff.mp h
  exact ⟨m, h2, h1⟩
theorem pLst_v {ds : List Dv} {ts : List Dt} {S : Sto} (e : ds = ts.map .d) (h : ts.length ≤ 16777216) : pLst ds S = some (.d (.lst ts), S) := by
  rw [e]
  exact pLst_d h
theorem pList_t {ts : List Dt} {S : Sto} : pList [.d (.tup ts)] S = some (.d (.lst ts), S) := by
  simp [pList, itemsOf, dctAt, seqAt]
theorem pList_l {ts : List Dt} {S : Sto} : pList [.d (.lst ts)] S = some (.d (.lst ts), S) := by
  simp [pList, itemsOf, dctAt, seqAt, lstAt]
theorem ix_lst {ts : List Dt} {i : Nat} {t : Dt} {S : Sto} (h : ts[i]? = some t) : pIx (.d (.lst ts)) (.d (.int (i : Nat))) S = some (.d t, S) := by
  have : atI (ts.map Dv.d) ((i : Nat) : Int) = some (.d t) := atI_nat (by rw [List.getElem?_map, h]; rfl)
  simp only [pIx, dctAt, seqAt, lstAt, this]
theorem ix_tup {ts : List Dt} {i : Nat} {t : Dt} {S : Sto} (h : ts[i]? = some t) : pIx (.d (.tup ts)) (.d (.int (i : Nat))) S = some (.d t, S) := by
  have : atI (ts.map Dv.d) ((i : Nat) : Int) = some (.d t) := atI_nat (by rw [List.getElem?_map, h]; rfl)
  simp only [pIx, dctAt, seqAt, lstAt, this]
theorem ix_strs {l : List Str} {i : Nat} {s : Str} {S : Sto} (h : l[i]? = some s) : pIx (.d (.lst (l.map .str))) (.d (.int (i : Nat))) S = some (.d (.str s), S) := ix_lst (by rw [List.getElem?_map, h]; rfl)
theorem ix_strt {l : List Str} {i : Nat} {s : Str} {S : Sto} (h : l[i]? = some s) : pIx (.d (.tup (l.map .str))) (.d (.int (i : Nat))) S = some (.d (.str s), S) := ix_tup (by rw [List.getElem?_map, h]; rfl)
theorem dlook_at {α : Type} {f : Nat → α} : ∀ {l : List Str} {i a : Nat} {s : Str}, l.Nodup → l[i]? = some s → dlook (kS l) ((List.range' a l.length).map f) (.inr s) = some (f (a + i))
  | [], i, a, s, _, h => by simp at h
  | x :: l, 0, a, s, nd, h => by
    simp at h
    subst h
    show (if (Sum.inr x : Key) = .inr x then some (f a) else _) = _
    rw [if_pos rfl]
    rfl
  | x :: l, i + 1, a, s, nd, h => by
    have h' : l[i]? = some s := by simpa using h
    obtain ⟨n1, n2⟩ := List.nodup_cons.mp nd
    have hne : ¬ (Sum.inr x : Key) = .inr s := fun z => by
      cases z
      exact n1 (List.mem_of_getElem? h')
    show (if (Sum.inr x : Key) = .inr s then _ else dlook (kS l) ((List.range' (a + 1) l.length).map f) (.inr s)) = _
    rw [if_neg hne, dlook_at n2 h']
    congr 1
    congr 1
    omega
theorem forL_nx {g : GM} {b : SM} {t : Dt} {ts : List Dt} {ρ ρ1 ρ2 : Sm.Env} {S S2 : Sto} (hg : g (.d t) ρ = some ρ1) (h : b ρ1 S = .nx ρ2 S2) : forL g b (t :: ts) ρ S = forL g b ts ρ2 S2 := by
  show oz (g (.d t) ρ) _ = _
  rw [hg, oz_some, h]
theorem rgL0 (n : Nat) : rgL 0 n = (List.range' 0 n).map fun (i : Nat) => Dt.int (i : Int) := by
  unfold rgL
  rw [List.range_eq_range']
  exact List.map_congr_left fun i _ => by rw [Int.zero_add]
theorem mul_b {ts : List Dt} {b : Bool} {S : Sto} (h : ts.length ≤ 16777216) : pMul (.d (.lst ts)) (.d (.int (if b then 1 else 0))) S = some (.d (.lst (if b then ts else [])), S) := by
  have hc : ∀ j : Int, j = 0 ∨ j = 1 → decide (-(2 ^ 63) ≤ j ∧ j < 2 ^ 63 ∧ ts.length * j.toNat ≤ 16777216) = true := fun j hj => by
    refine decide_eq_true ⟨by rcases hj with rfl | rfl <;> decide, by rcases hj with rfl | rfl <;> decide, ?_⟩
    rcases hj with rfl | rfl
    · simp
    · simpa using h
  cases b
  · show (if decide (-(2 ^ 63) ≤ (0 : Int) ∧ (0 : Int) < 2 ^ 63 ∧ ts.length * (0 : Int).toNat ≤ 16777216) = true then some (Dv.d (.lst (List.replicate (0 : Int).toNat ts).flatten), S) else none) = _
    rw [if_pos (hc 0 (.inl rfl))]
    rfl
  · show (if decide (-(2 ^ 63) ≤ (1 : Int) ∧ (1 : Int) < 2 ^ 63 ∧ ts.length * (1 : Int).toNat ≤ 16777216) = true then some (Dv.d (.lst (List.replicate (1 : Int).toNat ts).flatten), S) else none) = _
    rw [if_pos (hc 1 (.inr rfl))]
    show some (Dv.d (.lst (ts ++ [])), S) = _
    rw [List.append_nil]
    rfl
theorem add_l {a b : List Dt} {S : Sto} (h : a.length + b.length ≤ 16777216) : pAdd (.d (.lst a)) (.d (.lst b)) S = some (.d (.lst (a ++ b)), S) := if_pos h
theorem add_t {a b : List Dt} {S : Sto} (h : a.length + b.length ≤ 16777216) : pAdd (.d (.tup a)) (.d (.tup b)) S = some (.d (.tup (a ++ b)), S) := if_pos h
theorem add_i {i j : Int} {S : Sto} : pAdd (.d (.int i)) (.d (.int j)) S = some (.d (.int (i + j)), S) := rfl
theorem int_i {i : Int} {S : Sto} : pInt [.d (.int i)] S = some (.d (.int i), S) := rfl
theorem int_b {b : Bool} {S : Sto} : pInt [.d (.bl b)] S = some (.d (.int (if b then 1 else 0)), S) := rfl
theorem mod_i {i j : Int} {S : Sto} (h : 0 < j) : pMod (.d (.int i)) (.d (.int j)) S = some (.d (.int (i % j)), S) := if_pos h
theorem eq_i {i j : Int} {S : Sto} : pEq (.d (.int i)) (.d (.int j)) S = some (.d (.bl (decide (i = j))), S) := by
  unfold pEq
  rw [eqDv_int]
theorem gt_i {i j : Int} {S : Sto} : pGt (.d (.int i)) (.d (.int j)) S = some (.d (.bl (decide (j < i))), S) := rfl
theorem lt_i {i j : Int} {S : Sto} : pLt (.d (.int i)) (.d (.int j)) S = some (.d (.bl (decide (i < j))), S) := rfl
theorem shaped_str {s : Str} (h : PyData.strOk s = true) : SeqAt.shaped (.str s) = true := by
  unfold SeqAt.shaped
  simp [PyData.canLay0, h, PyData.depth]
theorem eqv_strs (a b : Str) : PyData.eqv (.str a) (.str b) = decide (a = b) := by
  show (a == b) = _
  cases e : a == b with
  | true => exact (decide_eq_true (by simpa using e)).symm
  | false => exact (decide_eq_false (by simpa using e)).symm
theorem eqDv_str {a b : Str} {S : Sto} (h1 : PyData.strOk a = true) (h2 : PyData.strOk b = true) : eqDv S (.d (.str a)) (.d (.str b)) = some (decide (a = b)) := by
  show (if SeqAt.shaped (.str a) = true ∧ SeqAt.shaped (.str b) = true then some (PyData.eqv (.str a) (.str b)) else none) = _
  rw [if_pos ⟨shaped_str h1, shaped_str h2⟩, eqv_strs]
theorem eq_s {a b : Str} {S : Sto} (h1 : PyData.strOk a = true) (h2 : PyData.strOk b = true) : pEq (.d (.str a)) (.d (.str b)) S = some (.d (.bl (decide (a = b))), S) := by
  unfold pEq
  rw [eqDv_str h1 h2]
theorem ne_s {a b : Str} {S : Sto} (h1 : PyData.strOk a = true) (h2 : PyData.strOk b = true) : pNe (.d (.str a)) (.d (.str b)) S = some (.d (.bl (!decide (a = b))), S) := by
  unfold pNe
  rw [eqDv_str h1 h2]
theorem cut_to {α : Type} {xs : List α} {k : Nat} : cutL xs none (some (k : Int)) = xs.take k := by
  unfold cutL
  rw [HT.sIx_none, HT.sIx_nat, List.drop_zero, Nat.sub_zero, ← List.take_eq_take_min]
theorem cut_from {α : Type} {xs : List α} {k : Nat} : cutL xs (some (k : Int)) none = xs.drop k := by
  unfold cutL
  rw [HT.sIx_none, HT.sIx_nat, List.take_of_length_le (by rw [List.length_drop]; omega)]
  by_cases h : k ≤ xs.length
  · rw [Nat.min_eq_left h]
  · rw [Nat.min_eq_right (by omega), List.drop_length, List.drop_eq_nil_of_le (by omega)]
theorem cut_mid {α : Type} {xs : List α} {a b : Nat} (h : a + b ≤ xs.length) : cutL xs (some (a : Int)) (some ((a : Int) + (b : Int))) = (xs.drop a).take b := by
  unfold cutL
  rw [HT.sIx_nat, show ((a : Int) + (b : Int)) = ((a + b : Nat) : Int) from rfl, HT.sIx_nat, Nat.min_eq_left (show a ≤ xs.length by omega), Nat.min_eq_left h, Nat.add_sub_cancel_left]
theorem cut_map {α β : Type} {f : α → β} {xs : List α} {lo hi : Option Int} : cutL (xs.map f) lo hi = (cutL xs lo hi).map f := by
  unfold cutL
  rw [List.length_map, List.map_take, List.map_drop]
theorem cut_sub {α : Type} {xs : List α} {lo hi : Option Int} : (cutL xs lo hi).Sublist xs := (List.take_sublist _ _).trans (List.drop_sublist _ _)
theorem sl_l {ts : List Dt} {lo hi : Option Int} {S : Sto} : pSl lo hi (.d (.lst ts)) S = some (.d (.lst (cutL ts lo hi)), S) := rfl
theorem sl_t {ts : List Dt} {lo hi : Option Int} {S : Sto} : pSl lo hi (.d (.tup ts)) S = some (.d (.tup (cutL ts lo hi)), S) := rfl
theorem lb_nil {g : GM} {c : M Bool} {e : M Dv} {ρ : Sm.Env} {S : Sto} : lcL g c e ρ [] S = .ok [] S := rfl
/-- one turn of a comprehension that keeps the item -/
theorem lc_yes {g : GM} {c : M Bool} {e : M Dv} {ρ ρ1 : Sm.Env} {t : Dt} {ts : List Dt} {S S1 S2 S3 : Sto} {d : Dv} {ds : List Dv} (hg : g (.d t) ρ = some ρ1) (hc : c ρ1 S = .ok true S1) (he : e ρ1 S1 = .ok d S2) (hr : lcL g c e ρ ts S2 = .ok ds S3) : lcL g c e ρ (t :: ts) S = .ok (d :: ds) S3 := by
  show bz (g (.d t) ρ) _ = _
  rw [hg, bz_some, hc, nox_ok, bind_ok, if_pos rfl, he, nox_ok, bind_ok, hr, bind_ok]
theorem lc_no {g : GM} {c : M Bool} {e : M Dv} {ρ ρ1 : Sm.Env} {t : Dt} {ts : List Dt} {S S1 S3 : Sto} {ds : List Dv} (hg : g (.d t) ρ = some ρ1) (hc : c ρ1 S = .ok false S1) (hr : lcL g c e ρ ts S1 = .ok ds S3) : lcL g c e ρ (t :: ts) S = .ok ds S3 := by
  show bz (g (.d t) ρ) _ = _
  rw [hg, bz_some, hc, nox_ok, bind_ok, if_neg (by decide), hr]
theorem mLcI_ok {vs : List Nat} {it : M (List Dt)} {g : GM} {c : M Bool} {e : M Dv} {ρ : Sm.Env} {S S1 S2 : Sto} {ts : List Dt} {ds : List Dv} (hi : it ρ S = .ok ts S1) (hz : ts.length ≤ 16777216) (h : lcL g c e (wipeE ρ vs) ts S1 = .ok ds S2) : mLcI vs it g c e ρ S = .ok ds S2 := by
  rw [mLcI_s, hi, bind_ok, if_pos hz, h]
theorem iSeq_l {m : M Dv} {ρ : Sm.Env} {S S1 : Sto} {ts : List Dt} (h : m ρ S = .ok (.d (.lst ts)) S1) : iSeq m ρ S = .ok ts S1 := by
  rw [iSeq_s, h, bind_ok]
  rfl
theorem iSeq_t {m : M Dv} {ρ : Sm.Env} {S S1 : Sto} {ts : List Dt} (h : m ρ S = .ok (.d (.tup ts)) S1) : iSeq m ρ S = .ok ts S1 := by
  rw [iSeq_s, h, bind_ok]
  rfl
end Hn
/-! Hn12: a drawn sheet: the table is filled. -/
namespace Hn
open PySem PySem.Spec PyProof.Rows L2 Sm
def pool : List Str := ["a", "ann", "bob", "cat", "dan", "eve", "fay", "new", "old", "x", "zzzzzzzz"]
abbrev bx (l : List Str) : Bo := .lst (l.map fun s => Dv.d (.str s))
abbrev locs (n : Nat) : List Dv := (List.range' 2 n).map Dv.loc
abbrev StT (o : Bo) (fs : List Str) (bs : List (List Str)) : Sto := o :: .dct (kS fs) (locs fs.length) :: bs.map bx
abbrev eT (P1 P2 P5 : Dt) (L : List Str) (n : Nat) (folk emp : List Str) (st wd : Int) (z11 z12 z13 z14 : Option Dv) : Sm.Env :=
  [some (.loc 0), some (.d P1), some (.d P2), some (.d (.lst (L.map .str))), some (.d (.int (n : Int))), some (.d P5), some (.d (.lst (folk.map .str))), some (.d (.lst (emp.map .str))), some (.loc 1), some (.d (.int st)), some (.d (.int wd)), z11, z12, z13, z14, none, none, none]
def tA1 : SM := sSet 12 (m2 pMul (mN pLst (aCons (m2 pIx (mV 6) (m2 pMod (mN pInt (aCons (m2 pAdd (mV 11) (mC (.int 1))) (aNil))) (mV 4))) (aNil))) (mN pInt (aCons (m2 pEq (mV 9) (mC (.int 3))) (aNil))))
def tA2 : SM := sSet 12 (m2 pAdd (mV 12) (mN pList (aCons (mF F__law_few (aCons (mV 0) (aCons (mV 7) (aCons (mC (.int 3)) (aNil))))) (aNil))))
def tA3 : SM := sSub (mV 8) (m2 pIx (mV 6) (mV 11)) (m2 pAddB (mV 12) (m2 pMul (mSl pSl (mV 3) (oPt (m1 pNeg (mC (.int 1)))) (oNo)) (mN pInt (aCons (m2 pEq (mF F__law_take (aCons (mV 0) (aCons (mC (.int 6)) (aNil)))) (mC (.int 0))) (aNil)))))
def tA : SM := sSeq tA1 (sSeq tA2 tA3)
section
variable {P1 P2 P5 : Dt} {L : List Str} {n : Nat} {folk emp : List Str} {st wd : Int} {z11 z12 z13 z14 : Option Dv}
theorem setbx (o d : Bo) : ∀ (bs : List (List Str)) (i : Nat) (l : List Str), ((o :: d :: bs.map bx).set (2 + i) (bx l) : Sto) = o :: d :: (bs.set i l).map bx := fun bs i l => by
  rw [show 2 + i = i + 1 + 1 by omega, List.set_cons_succ, List.set_cons_succ, List.map_set]
theorem tA1_ok {k : Nat} (hn : n = folk.length) (hk : k < folk.length) {S : Sto} : ∃ w : List Str, tA1 (eT P1 P2 P5 L n folk emp st wd (some (.d (.int (k : Int)))) z12 z13 z14) S = .nx (eT P1 P2 P5 L n folk emp st wd (some (.d (.int (k : Int)))) (some (.d (.lst (w.map .str)))) z13 z14) S ∧ w.length ≤ 1 ∧ ∀ x ∈ w, x ∈ folk := by
  have hj : (k + 1) % n < folk.length := by
    rw [← hn]
    exact Nat.mod_lt _ (by omega)
  have e1 : ((k : Int) + 1) % (n : Int) = (((k + 1) % n : Nat) : Int) := by
    rw [Int.natCast_emod]
    rfl
  have e2 : pIx (.d (.lst (folk.map .str))) (.d (.int (((k + 1) % n : Nat) : Int))) S = some (.d (.str folk[(k + 1) % n]), S) := ix_strs (List.getElem?_eq_getElem hj)
  have e3 : pLst [.d (.str folk[(k + 1) % n])] S = some (.d (.lst [.str folk[(k + 1) % n]]), S) := pLst_v (ts := [.str folk[(k + 1) % n]]) rfl (by show 1 ≤ 16777216; omega)
  have e4 : pMod (.d (.int ((k : Int) + 1))) (.d (.int (n : Int))) S = some (.d (.int (((k + 1) % n : Nat) : Int)), S) := by
    rw [mod_i (by omega), e1]
  have e5 : ∀ b : Bool, pMul (.d (.lst [.str folk[(k + 1) % n]])) (.d (.int (if b then 1 else 0))) S = some (.d (.lst (if b then [.str folk[(k + 1) % n]] else [])), S) := fun b => mul_b (by show 1 ≤ 16777216; omega)
  refine ⟨if decide (st = 3) then [folk[(k + 1) % n]] else [], ?_, ?_, ?_⟩
  · unfold tA1
    simp only [sSet_s, m2_s, mN_s, aCons_s, aNil_s, mV_s, mC_s, List.getElem?_cons_zero, List.getElem?_cons_succ, bind_ok, add_i, Sm.lift_some, int_i, e4, e2, e3, eq_i, int_b, e5, to_ok]
    cases decide (st = 3) <;> rfl
  · split <;> simp
  · intro x hx
    split at hx
    · rw [List.mem_singleton.mp hx]
      exact List.getElem_mem hj
    · exact absurd hx List.not_mem_nil
theorem tA2_ok {o : Bo} {d : Bo} {R : List Bo} {w : List Str} {m : Nat} (hz : emp.length ≤ 20) (hw : w.length ≤ 1) (u : Urn o (emp.length + m)) : ∃ (r : List Str) (o' : Bo), tA2 (eT P1 P2 P5 L n folk emp st wd z11 (some (.d (.lst (w.map .str)))) z13 z14) (o :: d :: R) = .nx (eT P1 P2 P5 L n folk emp st wd z11 (some (.d (.lst ((w ++ r).map .str)))) z13 z14) (o' :: d :: R) ∧ r.Sublist emp ∧ Urn o' m := by
  obtain ⟨r0, o', e, hs, u'⟩ := few_ok (S := o :: d :: R) (n := 0) (P := .lst (emp.map .str)) (ts := emp.map .str) (k := 3) (m := m) rfl (by rw [List.length_map]; omega) rfl (by rw [List.length_map]; exact u) (by omega) (by omega)
  obtain ⟨r, rfl, hr⟩ := sub_strs hs
  refine ⟨r, o', ?_, hr, u'⟩
  have e' : F__law_few [.loc 0, .d (.lst (emp.map .str)), .d (.int 3)] (o :: d :: R) = .ok (.d (.tup (r.map .str))) (o' :: d :: R) := e
  have ha : pAdd (.d (.lst (w.map .str))) (.d (.lst (r.map .str))) (o' :: d :: R) = some (.d (.lst ((w ++ r).map .str)), o' :: d :: R) := by
    rw [List.map_append]
    refine add_l ?_
    have := hr.length_le
    simp only [List.length_map]
    omega
  unfold tA2
  simp only [sSet_s, m2_s, mN_s, mF_s, aCons_s, aNil_s, mV_s, mC_s, List.getElem?_cons_zero, List.getElem?_cons_succ, bind_ok, Sm.lift_some, e', pList_t, ha, to_ok]
  rfl
theorem tA3_ok {k : Nat} {o : Bo} {bs : List (List Str)} {w : List Str} {m : Nat} (hn : folk.length ≤ 100) (hk : k < folk.length) (nd : folk.Nodup) (hb : bs.length = k) (hw : w.length ≤ 100) (hL : L.length ≤ 100) (u : Urn o (1 + m)) :
    ∃ (r : List Str) (o' : Bo), tA3 (eT P1 P2 P5 L n folk emp st wd (some (.d (.int (k : Int)))) (some (.d (.lst (w.map .str)))) z13 z14) (StT o (folk.take k) bs) = .nx (eT P1 P2 P5 L n folk emp st wd (some (.d (.int (k : Int)))) (some (.d (.lst (w.map .str)))) z13 z14) (StT o' (folk.take (k + 1)) (bs ++ [w ++ r])) ∧ r.length ≤ 100 ∧ (∀ x ∈ r, x ∈ L) ∧ Urn o' m := by
  have hlt : (folk.take k).length = k := by
    rw [List.length_take]
    omega
  obtain ⟨x, o', e, x0, x1, u'⟩ := take_ok (S := StT o (folk.take k) bs) (n := 0) (m := m) (low := 6) rfl (u.less (by omega)) (by omega) (by omega)
  have e' : F__law_take [.loc 0, .d (.int 6)] (StT o (folk.take k) bs) = .ok (.d (.int x)) (StT o' (folk.take k) bs) := e
  let t : List Str := cutL L (some (-1)) none
  have ht : t.length ≤ 100 := Nat.le_trans cut_sub.length_le hL
  have e1 : ∀ S, pSl (some (-1)) none (.d (.lst (L.map .str))) S = some (.d (.lst (t.map .str)), S) := fun S => by
    rw [sl_l, cut_map]
  have e2 : ∀ (b : Bool) (S : Sto), pMul (.d (.lst (t.map .str))) (.d (.int (if b then 1 else 0))) S = some (.d (.lst ((if b then t else []).map .str)), S) := fun b S => by
    rw [mul_b (by rw [List.length_map]; omega)]
    cases b <;> rfl
  have en : ∀ S : Sto, pNeg (.d (.int 1)) S = some (.d (.int (-1)), S) := fun S => rfl
  generalize hr : (if decide (x = 0) then t else []) = r at *
  have hr1 : r.length ≤ 100 := by
    rw [← hr]
    split
    · exact ht
    · simp
  have hr2 : ∀ y ∈ r, y ∈ L := fun y hy => by
    rw [← hr] at hy
    split at hy
    · exact cut_sub.subset hy
    · exact absurd hy List.not_mem_nil
  have e2' : pMul (.d (.lst (t.map .str))) (.d (.int (if decide (x = 0) then 1 else 0))) (StT o' (folk.take k) bs) = some (.d (.lst (r.map .str)), StT o' (folk.take k) bs) := by
    rw [e2, hr]
  have hS : (StT o' (folk.take k) bs).length = 2 + k := by
    simp only [List.length_cons, List.length_map]
    omega
  have e3 : pAddB (.d (.lst (w.map .str))) (.d (.lst (r.map .str))) (StT o' (folk.take k) bs) = some (.loc (2 + k), StT o' (folk.take k) bs ++ [bx (w ++ r)]) := by
    show (if ((w.map Dt.str).map Dv.d).length + ((r.map Dt.str).map Dv.d).length ≤ 16777216 then some (Dv.loc (StT o' (folk.take k) bs).length, StT o' (folk.take k) bs ++ [Bo.lst ((w.map Dt.str).map Dv.d ++ (r.map Dt.str).map Dv.d)]) else none) = _
    rw [if_pos (by simp only [List.length_map]; omega), hS, List.map_map, List.map_map, ← List.map_append]
    rfl
  have e4 : ∀ S, pIx (.d (.lst (folk.map .str))) (.d (.int (k : Int))) S = some (.d (.str folk[k]), S) := fun S => ix_strs (List.getElem?_eq_getElem hk)
  have hne : folk[k] ∉ folk.take k := fun z => by
    obtain ⟨i, hi⟩ := List.mem_iff_getElem?.mp z
    rw [List.getElem?_take] at hi
    split at hi
    · rename_i hik
      have := (List.getElem?_inj (by omega) nd).mp (hi.trans (List.getElem?_eq_getElem hk).symm)
      omega
    · cases hi
  have htk : folk.take (k + 1) = folk.take k ++ [folk[k]] := by
    rw [List.take_succ, List.getElem?_eq_getElem hk]
    rfl
  have e5 : stSub (.loc 1) (.d (.str folk[k])) (.loc (2 + k)) (StT o' (folk.take k) bs ++ [bx (w ++ r)]) = some (StT o' (folk.take (k + 1)) (bs ++ [w ++ r])) := by
    obtain ⟨k1, k2⟩ := dput_new (xs := locs (folk.take k).length) (y := .loc (2 + k)) (hasK_new hne)
    show (if (kS (folk.take k)).length < 16777216 then some ((StT o' (folk.take k) bs ++ [bx (w ++ r)]).set 1 (.dct (dputK (kS (folk.take k)) (.inr folk[k])) (dputX (kS (folk.take k)) (locs (folk.take k).length) (.inr folk[k]) (.loc (2 + k))))) else none) = _
    rw [if_pos (by rw [List.length_map, hlt]; omega), k1, k2]
    have a1 : kS (folk.take k) ++ [.inr folk[k]] = kS (folk.take (k + 1)) := by
      rw [htk, kS, kS, List.map_append]
      rfl
    have a2 : locs (folk.take k).length ++ [Dv.loc (2 + k)] = locs (folk.take (k + 1)).length := by
      rw [hlt, htk, List.length_append, hlt, List.length_singleton, locs, locs, List.range'_concat, List.map_append, Nat.one_mul]
      rfl
    rw [a1, a2]
    show some (o' :: _ :: (bs.map bx ++ [bx (w ++ r)])) = some (o' :: _ :: (bs ++ [w ++ r]).map bx)
    rw [List.map_append]
    rfl
  refine ⟨r, o', ?_, hr1, hr2, u'⟩
  unfold tA3
  simp only [sSub_s, m2_s, mN_s, mF_s, m1_s, mSl_s, oPt_s, oNo_s, aCons_s, aNil_s, mV_s, mC_s, List.getElem?_cons_zero, List.getElem?_cons_succ, bind_ok, Sm.lift_some, en, e1, e', eq_i, int_b, e2', e3, e4, e5, to_ok, oz_some]
/-- what the boxes hold -/
def Gd (folk : List Str) (c : Nat) (bs : List (List Str)) : Prop := ∀ l ∈ bs, l.length ≤ c ∧ ∀ x ∈ l, x ∈ pool
theorem tA_ok {k : Nat} {o : Bo} {bs : List (List Str)} {m : Nat} (hn : n = folk.length) (hf : folk.length ≤ 20) (hk : k < folk.length) (nd : folk.Nodup) (hb : bs.length = k) (he : emp.length ≤ 20) (hL : L.length ≤ 20) (pf : ∀ x ∈ folk, x ∈ pool) (pe : ∀ x ∈ emp, x ∈ pool) (pl : ∀ x ∈ L, x ∈ pool) (g : Gd folk 200 bs) (u : Urn o (emp.length + (1 + m))) :
    ∃ (w : List Str) (o' : Bo) (z : Option Dv), tA (eT P1 P2 P5 L n folk emp st wd (some (.d (.int (k : Int)))) z12 z13 z14) (StT o (folk.take k) bs) = .nx (eT P1 P2 P5 L n folk emp st wd (some (.d (.int (k : Int)))) z z13 z14) (StT o' (folk.take (k + 1)) (bs ++ [w])) ∧ Gd folk 200 (bs ++ [w]) ∧ Urn o' m := by
  obtain ⟨w1, e1, l1, p1⟩ := tA1_ok (P1 := P1) (P2 := P2) (P5 := P5) (L := L) (emp := emp) (st := st) (wd := wd) (z12 := z12) (z13 := z13) (z14 := z14) hn hk (S := StT o (folk.take k) bs)
  obtain ⟨w2, o2, e2, s2, u2⟩ := tA2_ok (P1 := P1) (P2 := P2) (P5 := P5) (L := L) (n := n) (folk := folk) (st := st) (wd := wd) (z11 := some (.d (.int (k : Int)))) (z13 := z13) (z14 := z14) (d := .dct (kS (folk.take k)) (locs (folk.take k).length)) (R := bs.map bx) he l1 u
  have hl2 : (w1 ++ w2).length ≤ 100 := by
    have := s2.length_le
    rw [List.length_append]
    omega
  obtain ⟨w3, o3, e3, l3, p3, u3⟩ := tA3_ok (P1 := P1) (P2 := P2) (P5 := P5) (L := L) (n := n) (emp := emp) (st := st) (wd := wd) (z13 := z13) (z14 := z14) (by omega) hk nd hb hl2 (by omega) u2
  refine ⟨w1 ++ w2 ++ w3, o3, some (.d (.lst ((w1 ++ w2).map .str))), ?_, fun l hl => ?_, u3⟩
  · unfold tA
    rw [sSeq_s, e1, sqz_nx, sSeq_s, e2, sqz_nx, e3]
  · rcases List.mem_append.mp hl with hl | hl
    · exact g l hl
    · rw [List.mem_singleton.mp hl]
      refine ⟨by rw [List.length_append]; omega, fun x hx => ?_⟩
      rcases List.mem_append.mp hx with hx | hx
      · rcases List.mem_append.mp hx with hx | hx
        · exact pf x (p1 x hx)
        · exact pe x (s2.subset hx)
      · exact pl x (p3 x hx)
theorem tA_loop (hn : n = folk.length) (hf : folk.length ≤ 20) (nd : folk.Nodup) (he : emp.length ≤ 20) (hL : L.length ≤ 20) (pf : ∀ x ∈ folk, x ∈ pool) (pe : ∀ x ∈ emp, x ∈ pool) (pl : ∀ x ∈ L, x ∈ pool) : ∀ (q k : Nat) (bs : List (List Str)) (o : Bo) (m : Nat) (z11 z12 : Option Dv), k + q = folk.length → bs.length = k → Gd folk 200 bs → Urn o (q * (emp.length + 1) + m) →
    ∃ (bs' : List (List Str)) (o' : Bo) (z11' z12' : Option Dv), forL (gN 11) tA ((List.range' k q).map fun (i : Nat) => Dt.int (i : Int)) (eT P1 P2 P5 L n folk emp st wd z11 z12 z13 z14) (StT o (folk.take k) bs) = .nx (eT P1 P2 P5 L n folk emp st wd z11' z12' z13 z14) (StT o' folk bs') ∧ bs'.length = folk.length ∧ Gd folk 200 bs' ∧ Urn o' m
  | 0, k, bs, o, m, z11, z12, hq, hb, g, u => by
    refine ⟨bs, o, z11, z12, ?_, by omega, g, u.less (by omega)⟩
    rw [List.take_of_length_le (by omega)]
    rfl
  | q + 1, k, bs, o, m, z11, z12, hq, hb, g, u => by
    obtain ⟨w, o1, z, e1, g1, u1⟩ := tA_ok (P1 := P1) (P2 := P2) (P5 := P5) (st := st) (wd := wd) (z12 := z12) (z13 := z13) (z14 := z14) (k := k) (m := q * (emp.length + 1) + m) hn hf (by omega) nd hb he hL pf pe pl g (u.less (by rw [Nat.add_mul]; omega))
    obtain ⟨bs', o', a, b, e2, h1, h2, h3⟩ := tA_loop hn hf nd he hL pf pe pl q (k + 1) (bs ++ [w]) o1 m (some (.d (.int (k : Int)))) z (by omega) (by rw [List.length_append, hb]; rfl) g1 u1
    refine ⟨bs', o', a, b, ?_, h1, h2, h3⟩
    rw [List.range'_succ, List.map_cons]
    rw [forL_nx (ρ1 := eT P1 P2 P5 L n folk emp st wd (some (.d (.int (k : Int)))) z12 z13 z14) rfl e1]
    exact e2
end
end Hn
/-! Hn13: a drawn sheet: wishes of both sides, of one. -/
namespace Hn
open PySem PySem.Spec PyProof.Rows L2 Sm
theorem pool_ok : ∀ x ∈ pool, PyData.strOk x = true := by decide +kernel
def tAppA : SM := sDrop (mLm pAppend (m2 pIx (mV 8) (m2 pIx (mV 6) (mV 11))) (aCons (mV 13) (aNil)))
def tAppB : SM := sDrop (mLm pAppend (m2 pIx (mV 8) (mV 13)) (aCons (m2 pIx (mV 6) (mV 11)) (aNil)))
def tB : SM := sSeq (sSet 14 (mF F__law_take (aCons (mV 0) (aCons (mV 10) (aNil)))))
    (sSeq (sIf (cOr (mTst (m2 pEq (mV 14) (mC (.int 0)))) (cAnd (mTst (m2 pEq (mV 14) (mC (.int 1)))) (mTst (m2 pGt (mV 9) (mC (.int 0)))))) tAppA (sNil))
    (sIf (cOr (mTst (m2 pEq (mV 14) (mC (.int 0)))) (cAnd (mTst (m2 pEq (mV 14) (mC (.int 2)))) (mTst (m2 pGt (mV 9) (mC (.int 0)))))) tAppB (sNil)))
section
variable {P1 P2 P5 : Dt} {L : List Str} {n : Nat} {folk emp : List Str} {st wd : Int} {z11 z12 z13 z14 : Option Dv}
theorem St_ix {o : Bo} {bs : List (List Str)} {i : Nat} {s : Str} (nd : folk.Nodup) (h : folk[i]? = some s) : pIx (.loc 1) (.d (.str s)) (StT o folk bs) = some (.loc (2 + i), StT o folk bs) := by
  have := dlook_at (f := Dv.loc) (a := 2) nd h
  show (match dlook (kS folk) (locs folk.length) (.inr s) with
    | some x => some (x, StT o folk bs)
    | none => none) = _
  rw [this]
theorem St_bx {o d : Bo} {bs : List (List Str)} {i : Nat} {l : List Str} (h : bs[i]? = some l) : (o :: d :: bs.map bx)[2 + i]? = some (bx l) := by
  rw [show 2 + i = i + 1 + 1 by omega, List.getElem?_cons_succ, List.getElem?_cons_succ, List.getElem?_map, h]
  rfl
theorem app_ok {o : Bo} {bs : List (List Str)} {i : Nat} {l : List Str} {y : Str} (h : bs[i]? = some l) (hl : l.length < 1000) : isLs (StT o folk bs) (.loc (2 + i)) = true ∧ pAppend (.loc (2 + i)) [.d (.str y)] (StT o folk bs) = some (.d .non, StT o folk (bs.set i (l ++ [y]))) := by
  have e := St_bx (o := o) (d := .dct (kS folk) (locs folk.length)) h
  constructor
  · unfold isLs lstAt
    simp only [show (StT o folk bs)[2 + i]? = some (bx l) from e]
  · unfold pAppend
    simp only [show (StT o folk bs)[2 + i]? = some (bx l) from e]
    rw [if_pos (by rw [List.length_map]; omega)]
    have : (l.map fun s => Dv.d (.str s)) ++ [Dv.d (.str y)] = (l ++ [y]).map fun s => Dv.d (.str s) := by rw [List.map_append]; rfl
    rw [this]
    show some (Dv.d Dt.non, (StT o folk bs).set (2 + i) (bx (l ++ [y]))) = _
    rw [setbx]
theorem Gd.put {c : Nat} {bs : List (List Str)} {i : Nat} {l : List Str} {y : Str} (g : Gd folk c bs) (h : bs[i]? = some l) (hy : y ∈ pool) : Gd folk (c + 1) (bs.set i (l ++ [y])) := fun m hm => by
  rcases List.mem_or_eq_of_mem_set hm with hm | rfl
  · exact ⟨Nat.le_succ_of_le (g m hm).1, (g m hm).2⟩
  · obtain ⟨a, b⟩ := g l (List.mem_of_getElem? h)
    refine ⟨by rw [List.length_append, List.length_singleton]; omega, fun x hx => ?_⟩
    rcases List.mem_append.mp hx with hx | hx
    · exact b x hx
    · rw [List.mem_singleton.mp hx]
      exact hy
theorem Gd.up {c d : Nat} {bs : List (List Str)} (g : Gd folk c bs) (h : c ≤ d) : Gd folk d bs := fun m hm => ⟨Nat.le_trans (g m hm).1 h, (g m hm).2⟩
theorem tAppA_ok {k : Nat} {x : Str} {o : Bo} {bs : List (List Str)} {c : Nat} (hk : k < folk.length) (nd : folk.Nodup) (hb : bs.length = folk.length) (g : Gd folk c bs) (hc : c < 1000) (hx : x ∈ pool) : ∃ bs', tAppA (eT P1 P2 P5 L n folk emp st wd (some (.d (.int (k : Int)))) z12 (some (.d (.str x))) z14) (StT o folk bs) = .nx (eT P1 P2 P5 L n folk emp st wd (some (.d (.int (k : Int)))) z12 (some (.d (.str x))) z14) (StT o folk bs') ∧ bs'.length = folk.length ∧ Gd folk (c + 1) bs' := by
  have hk' : k < bs.length := by omega
  have h := List.getElem?_eq_getElem hk'
  obtain ⟨a1, a2⟩ := app_ok (folk := folk) (o := o) (y := x) h (by have := (g _ (List.mem_of_getElem? h)).1; omega)
  have e4 : ∀ S, pIx (.d (.lst (folk.map .str))) (.d (.int (k : Int))) S = some (.d (.str folk[k]), S) := fun S => ix_strs (List.getElem?_eq_getElem hk)
  have e5 := St_ix (o := o) (bs := bs) nd (List.getElem?_eq_getElem hk)
  refine ⟨_, ?_, by rw [List.length_set]; exact hb, g.put h hx⟩
  unfold tAppA
  simp only [sDrop_s, mLm_s, m2_s, aCons_s, aNil_s, mV_s, List.getElem?_cons_zero, List.getElem?_cons_succ, bind_ok, Sm.lift_some, e4, e5, a1, if_true, a2, to_ok]
theorem tAppB_ok {k : Nat} {x : Str} {o : Bo} {bs : List (List Str)} {c : Nat} (hk : k < folk.length) (nd : folk.Nodup) (hb : bs.length = folk.length) (g : Gd folk c bs) (hc : c < 1000) (hx : x ∈ folk) (pf : ∀ x ∈ folk, x ∈ pool) : ∃ bs', tAppB (eT P1 P2 P5 L n folk emp st wd (some (.d (.int (k : Int)))) z12 (some (.d (.str x))) z14) (StT o folk bs) = .nx (eT P1 P2 P5 L n folk emp st wd (some (.d (.int (k : Int)))) z12 (some (.d (.str x))) z14) (StT o folk bs') ∧ bs'.length = folk.length ∧ Gd folk (c + 1) bs' := by
  obtain ⟨j, hj⟩ := List.mem_iff_getElem?.mp hx
  have hj' : j < bs.length := by
    rw [hb]
    exact (List.getElem?_eq_some_iff.mp hj).1
  have h := List.getElem?_eq_getElem hj'
  obtain ⟨a1, a2⟩ := app_ok (folk := folk) (o := o) (y := folk[k]) h (by have := (g _ (List.mem_of_getElem? h)).1; omega)
  have e4 : ∀ S, pIx (.d (.lst (folk.map .str))) (.d (.int (k : Int))) S = some (.d (.str folk[k]), S) := fun S => ix_strs (List.getElem?_eq_getElem hk)
  have e5 := St_ix (o := o) (bs := bs) nd hj
  refine ⟨_, ?_, by rw [List.length_set]; exact hb, g.put h (pf _ (List.getElem_mem hk))⟩
  unfold tAppB
  simp only [sDrop_s, mLm_s, m2_s, aCons_s, aNil_s, mV_s, List.getElem?_cons_zero, List.getElem?_cons_succ, bind_ok, Sm.lift_some, e4, e5, a1, if_true, a2, to_ok]
theorem cond_ok {x a b s c : Int} {ρ : Sm.Env} {S : Sto} {i j : Nat} (h1 : ρ[i]? = some (some (.d (.int x)))) (h2 : ρ[j]? = some (some (.d (.int s)))) : ∃ t, cOr (mTst (m2 pEq (mV i) (mC (.int a)))) (cAnd (mTst (m2 pEq (mV i) (mC (.int b)))) (mTst (m2 pGt (mV j) (mC (.int c))))) ρ S = .ok t S := by
  simp only [cOr_s, cAnd_s, mTst_s, m2_s, mV_s, mC_s, h1, h2, bind_ok, eq_i, gt_i, Sm.lift_some, toB_s, li_some]
  by_cases h : x = a
  · exact ⟨true, by simp [h]⟩
  · by_cases h' : x = b
    · exact ⟨_, by rw [if_neg (by simpa using h), if_pos (by simpa using h')]⟩
    · exact ⟨false, by rw [if_neg (by simpa using h), if_neg (by simpa using h')]⟩
theorem tB_ok {k : Nat} {x : Str} {o : Bo} {bs : List (List Str)} {c m : Nat} (hk : k < folk.length) (nd : folk.Nodup) (hb : bs.length = folk.length) (g : Gd folk c bs) (hc : c + 2 < 1000) (hx : x ∈ folk) (pf : ∀ x ∈ folk, x ∈ pool) (hw : 0 < wd) (hw2 : wd < 1000) (u : Urn o (1 + m)) :
    ∃ (bs' : List (List Str)) (o' : Bo) (z : Option Dv), tB (eT P1 P2 P5 L n folk emp st wd (some (.d (.int (k : Int)))) z12 (some (.d (.str x))) z14) (StT o folk bs) = .nx (eT P1 P2 P5 L n folk emp st wd (some (.d (.int (k : Int)))) z12 (some (.d (.str x))) z) (StT o' folk bs') ∧ bs'.length = folk.length ∧ Gd folk (c + 2) bs' ∧ Urn o' m := by
  obtain ⟨r, o', e, x0, x1, u'⟩ := take_ok (S := StT o folk bs) (n := 0) (m := m) (low := wd) rfl (u.less (by omega)) hw (by omega)
  have e' : F__law_take [.loc 0, .d (.int wd)] (StT o folk bs) = .ok (.d (.int r)) (StT o' folk bs) := e
  have s1 : sSet 14 (mF F__law_take (aCons (mV 0) (aCons (mV 10) (aNil)))) (eT P1 P2 P5 L n folk emp st wd (some (.d (.int (k : Int)))) z12 (some (.d (.str x))) z14) (StT o folk bs) = .nx (eT P1 P2 P5 L n folk emp st wd (some (.d (.int (k : Int)))) z12 (some (.d (.str x))) (some (.d (.int r)))) (StT o' folk bs) := by
    simp only [sSet_s, mF_s, aCons_s, aNil_s, mV_s, List.getElem?_cons_zero, List.getElem?_cons_succ, bind_ok, e', to_ok]
    rfl
  obtain ⟨t1, c1⟩ := cond_ok (x := r) (a := 0) (b := 1) (s := st) (c := 0) (S := StT o' folk bs) (ρ := eT P1 P2 P5 L n folk emp st wd (some (.d (.int (k : Int)))) z12 (some (.d (.str x))) (some (.d (.int r)))) (i := 14) (j := 9) rfl rfl
  have s2 : ∃ bs1, sIf (cOr (mTst (m2 pEq (mV 14) (mC (.int 0)))) (cAnd (mTst (m2 pEq (mV 14) (mC (.int 1)))) (mTst (m2 pGt (mV 9) (mC (.int 0)))))) tAppA (sNil) (eT P1 P2 P5 L n folk emp st wd (some (.d (.int (k : Int)))) z12 (some (.d (.str x))) (some (.d (.int r)))) (StT o' folk bs) = .nx (eT P1 P2 P5 L n folk emp st wd (some (.d (.int (k : Int)))) z12 (some (.d (.str x))) (some (.d (.int r)))) (StT o' folk bs1) ∧ bs1.length = folk.length ∧ Gd folk (c + 1) bs1 := by
    rw [sIf_s, c1, to_ok]
    cases t1
    · exact ⟨bs, rfl, hb, g.up (by omega)⟩
    · exact tAppA_ok hk nd hb g (by omega) (pf x hx)
  obtain ⟨bs1, e2, hb1, g1⟩ := s2
  obtain ⟨t2, c2⟩ := cond_ok (x := r) (a := 0) (b := 2) (s := st) (c := 0) (S := StT o' folk bs1) (ρ := eT P1 P2 P5 L n folk emp st wd (some (.d (.int (k : Int)))) z12 (some (.d (.str x))) (some (.d (.int r)))) (i := 14) (j := 9) rfl rfl
  have s3 : ∃ bs2, sIf (cOr (mTst (m2 pEq (mV 14) (mC (.int 0)))) (cAnd (mTst (m2 pEq (mV 14) (mC (.int 2)))) (mTst (m2 pGt (mV 9) (mC (.int 0)))))) tAppB (sNil) (eT P1 P2 P5 L n folk emp st wd (some (.d (.int (k : Int)))) z12 (some (.d (.str x))) (some (.d (.int r)))) (StT o' folk bs1) = .nx (eT P1 P2 P5 L n folk emp st wd (some (.d (.int (k : Int)))) z12 (some (.d (.str x))) (some (.d (.int r)))) (StT o' folk bs2) ∧ bs2.length = folk.length ∧ Gd folk (c + 2) bs2 := by
    rw [sIf_s, c2, to_ok]
    cases t2
    · exact ⟨bs1, rfl, hb1, g1.up (by omega)⟩
    · exact tAppB_ok hk nd hb1 g1 (by omega) hx pf
  obtain ⟨bs2, e3, hb2, g2⟩ := s3
  refine ⟨bs2, o', some (.d (.int r)), ?_, hb2, g2, u'⟩
  unfold tB
  rw [sSeq_s, s1, sqz_nx, sSeq_s, e2, sqz_nx, e3]
theorem tB_loop {k : Nat} (hk : k < folk.length) (nd : folk.Nodup) (pf : ∀ x ∈ folk, x ∈ pool) (hw : 0 < wd) (hw2 : wd < 1000) : ∀ (fs : List Str) (bs : List (List Str)) (o : Bo) (c m : Nat) (z13 z14 : Option Dv), (∀ x ∈ fs, x ∈ folk) → bs.length = folk.length → Gd folk c bs → c + 2 * fs.length < 1000 → Urn o (fs.length + m) →
    ∃ (bs' : List (List Str)) (o' : Bo) (z13' z14' : Option Dv), forL (gN 13) tB (fs.map .str) (eT P1 P2 P5 L n folk emp st wd (some (.d (.int (k : Int)))) z12 z13 z14) (StT o folk bs) = .nx (eT P1 P2 P5 L n folk emp st wd (some (.d (.int (k : Int)))) z12 z13' z14') (StT o' folk bs') ∧ bs'.length = folk.length ∧ Gd folk (c + 2 * fs.length) bs' ∧ Urn o' m
  | [], bs, o, c, m, z13, z14, hf, hb, g, hc, u => ⟨bs, o, z13, z14, rfl, hb, g, u.less (by simp)⟩
  | x :: fs, bs, o, c, m, z13, z14, hf, hb, g, hc, u => by
    rw [List.length_cons] at hc u
    obtain ⟨bs1, o1, z, e1, hb1, g1, u1⟩ := tB_ok (P1 := P1) (P2 := P2) (P5 := P5) (L := L) (n := n) (emp := emp) (st := st) (z12 := z12) (z14 := z14) (x := x) (m := fs.length + m) hk nd hb g (by omega) (hf x List.mem_cons_self) pf hw hw2 (u.less (by omega))
    obtain ⟨bs2, o2, a, b, e2, hb2, g2, u2⟩ := tB_loop hk nd pf hw hw2 fs bs1 o1 (c + 2) m (some (.d (.str x))) z (fun y hy => hf y (List.mem_cons_of_mem _ hy)) hb1 g1 (by omega) u1
    refine ⟨bs2, o2, a, b, ?_, hb2, g2.up (by rw [List.length_cons]; omega), u2⟩
    rw [List.map_cons, forL_nx (ρ1 := eT P1 P2 P5 L n folk emp st wd (some (.d (.int (k : Int)))) z12 (some (.d (.str x))) z14) rfl e1]
    exact e2
def tC : SM := sFor (iSeq (mSl pSl (mV 6) (oPt (m2 pAdd (mV 11) (mC (.int 1)))) (oNo))) (gN 13) tB
theorem tC_ok {k : Nat} {o : Bo} {bs : List (List Str)} {c m : Nat} (hz : folk.length ≤ 20) (hk : k < folk.length) (nd : folk.Nodup) (pf : ∀ x ∈ folk, x ∈ pool) (hw : 0 < wd) (hw2 : wd < 1000) (hb : bs.length = folk.length) (g : Gd folk c bs) (hc : c + 40 < 1000) (u : Urn o (20 + m)) :
    ∃ (bs' : List (List Str)) (o' : Bo) (z13' z14' : Option Dv), tC (eT P1 P2 P5 L n folk emp st wd (some (.d (.int (k : Int)))) z12 z13 z14) (StT o folk bs) = .nx (eT P1 P2 P5 L n folk emp st wd (some (.d (.int (k : Int)))) z12 z13' z14') (StT o' folk bs') ∧ bs'.length = folk.length ∧ Gd folk (c + 40) bs' ∧ Urn o' m := by
  have hl : (folk.drop (k + 1)).length ≤ 20 := by
    rw [List.length_drop]
    omega
  obtain ⟨bs2, o2, a, b, e2, hb2, g2, u2⟩ := tB_loop (P1 := P1) (P2 := P2) (P5 := P5) (L := L) (n := n) (emp := emp) (st := st) (z12 := z12) hk nd pf hw hw2 (folk.drop (k + 1)) bs o c m z13 z14 (fun y hy => List.mem_of_mem_drop hy) hb g (by omega) (u.less (by omega))
  refine ⟨bs2, o2, a, b, ?_, hb2, g2.up (by omega), u2⟩
  have e1 : ∀ S, pSl (some ((k : Int) + 1)) none (.d (.lst (folk.map .str))) S = some (.d (.lst ((folk.drop (k + 1)).map .str)), S) := fun S => by
    rw [sl_l, cut_map, show ((k : Int) + 1) = ((k + 1 : Nat) : Int) from rfl, cut_from]
  unfold tC
  rw [sFor_s]
  simp only [iSeq_s, mSl_s, oPt_s, oNo_s, m2_s, mV_s, mC_s, List.getElem?_cons_zero, List.getElem?_cons_succ, bind_ok, Sm.lift_some, add_i, e1]
  show (Rz.ok ((folk.drop (k + 1)).map Dt.str) (StT o folk bs)).to _ _ = _
  rw [to_ok]
  exact e2
theorem tC_loop (hz : folk.length ≤ 20) (nd : folk.Nodup) (pf : ∀ x ∈ folk, x ∈ pool) (hw : 0 < wd) (hw2 : wd < 1000) : ∀ (q k : Nat) (bs : List (List Str)) (o : Bo) (c m : Nat) (z11 z13 z14 : Option Dv), k + q = folk.length → bs.length = folk.length → Gd folk c bs → c + 40 * q < 1000 → Urn o (q * 20 + m) →
    ∃ (bs' : List (List Str)) (o' : Bo) (z11' z13' z14' : Option Dv), forL (gN 11) tC ((List.range' k q).map fun (i : Nat) => Dt.int (i : Int)) (eT P1 P2 P5 L n folk emp st wd z11 z12 z13 z14) (StT o folk bs) = .nx (eT P1 P2 P5 L n folk emp st wd z11' z12 z13' z14') (StT o' folk bs') ∧ bs'.length = folk.length ∧ Gd folk 1000 bs' ∧ Urn o' m
  | 0, k, bs, o, c, m, z11, z13, z14, hq, hb, g, hc, u => ⟨bs, o, z11, z13, z14, rfl, hb, g.up (by omega), u.less (by omega)⟩
  | q + 1, k, bs, o, c, m, z11, z13, z14, hq, hb, g, hc, u => by
    obtain ⟨bs1, o1, a, b, e1, hb1, g1, u1⟩ := tC_ok (P1 := P1) (P2 := P2) (P5 := P5) (L := L) (n := n) (emp := emp) (st := st) (z12 := z12) (z13 := z13) (z14 := z14) (k := k) (m := q * 20 + m) hz (by omega) nd pf hw hw2 hb g (by omega) (u.less (by omega))
    obtain ⟨bs2, o2, a2, b2, d2, e2, hb2, g2, u2⟩ := tC_loop hz nd pf hw hw2 q (k + 1) bs1 o1 (c + 40) m (some (.d (.int (k : Int)))) a b (by omega) hb1 g1 (by omega) u1
    refine ⟨bs2, o2, a2, b2, d2, ?_, hb2, g2, u2⟩
    rw [List.range'_succ, List.map_cons, forL_nx (ρ1 := eT P1 P2 P5 L n folk emp st wd (some (.d (.int (k : Int)))) z12 z13 z14) rfl e1]
    exact e2
end
end Hn
/-! Hn14: a drawn sheet: its rows, sorted. -/
namespace Hn
open PySem PySem.Spec PyProof.Rows L2 Sm
/-- the wishes of a row -/
def ws (s : Str) (l : List Str) : List Str := sortS (ddS (l.filter fun x => !decide (x = s)))
def tFil : M Dv := mN pLst (mLcI [16] (iSeq (mFrz (m2 pIx (mV 8) (mV 17)))) (gN 16) (mTst (m2 pNe (mV 16) (mV 17))) (mV 16))
def tRow : M Dv := mN pTup (aCons (mV 17) (aCons (mN pTuple (aCons (m1 pSortSet tFil) (aNil))) (aNil)))
abbrev eR (P1 P2 P5 : Dt) (L : List Str) (n : Nat) (folk emp : List Str) (st wd : Int) (z11 z12 z13 z14 z16 z17 : Option Dv) : Sm.Env :=
  [some (.loc 0), some (.d P1), some (.d P2), some (.d (.lst (L.map .str))), some (.d (.int (n : Int))), some (.d P5), some (.d (.lst (folk.map .str))), some (.d (.lst (emp.map .str))), some (.loc 1), some (.d (.int st)), some (.d (.int wd)), z11, z12, z13, z14, none, z16, z17]
structure Kept (folk : List Str) (bs : List (List Str)) (o : Bo) (k : Nat) (S : Sto) : Prop where
  o0 : S[0]? = some o
  o1 : S[1]? = some (.dct (kS folk) (locs folk.length))
  bx : ∀ (j : Nat) (l : List Str), k ≤ j → bs[j]? = some l → S[2 + j]? = some (bx l)
section
variable {P1 P2 P5 : Dt} {L : List Str} {n : Nat} {folk emp : List Str} {st wd : Int} {z11 z12 z13 z14 z16 z17 : Option Dv}
theorem fil_loop {s : Str} (hs : s ∈ pool) : ∀ (l : List Str), (∀ x ∈ l, x ∈ pool) → ∀ S : Sto, lcL (gN 16) (mTst (m2 pNe (mV 16) (mV 17))) (mV 16) (eR P1 P2 P5 L n folk emp st wd z11 z12 z13 z14 none (some (.d (.str s)))) (l.map .str) S = .ok (((l.filter fun x => !decide (x = s)).map .str).map .d) S
  | [], _, S => rfl
  | x :: l, h, S => by
    have ih := fil_loop hs l (fun y hy => h y (List.mem_cons_of_mem _ hy)) S
    have hne : pNe (.d (.str x)) (.d (.str s)) S = some (.d (.bl (!decide (x = s))), S) := ne_s (pool_ok x (h x List.mem_cons_self)) (pool_ok s hs)
    have hc : mTst (m2 pNe (mV 16) (mV 17)) (eR P1 P2 P5 L n folk emp st wd z11 z12 z13 z14 (some (.d (.str x))) (some (.d (.str s)))) S = .ok (!decide (x = s)) S := by
      simp only [mTst_s, m2_s, mV_s, List.getElem?_cons_zero, List.getElem?_cons_succ, bind_ok, hne, Sm.lift_some, toB_s, li_some]
    by_cases e : x = s
    · rw [List.map_cons, lc_no (ρ1 := eR P1 P2 P5 L n folk emp st wd z11 z12 z13 z14 (some (.d (.str x))) (some (.d (.str s)))) rfl (by rw [hc]; simp [e]) ih]
      simp [e]
    · rw [List.map_cons, lc_yes (ρ1 := eR P1 P2 P5 L n folk emp st wd z11 z12 z13 z14 (some (.d (.str x))) (some (.d (.str s)))) rfl (by rw [hc]; simp [e]) (show mV 16 _ S = .ok (.d (.str x)) S from rfl) ih]
      simp [e]
theorem pures_bx (l : List Str) : pures (l.map fun s => Dv.d (.str s)) = some (l.map .str) := by
  have : (l.map fun s => Dv.d (.str s)) = (l.map Dt.str).map Dv.d := by
    rw [List.map_map]
    rfl
  rw [this, pures_d]
theorem row_ok {o : Bo} {bs : List (List Str)} {k : Nat} {S : Sto} {s : Str} {l : List Str} (K : Kept folk bs o k S) (nd : folk.Nodup) (hs : folk[k]? = some s) (hb : bs[k]? = some l) (pf : ∀ x ∈ folk, x ∈ pool) (g : Gd folk 1000 bs) :
    tRow (eR P1 P2 P5 L n folk emp st wd z11 z12 z13 z14 z16 (some (.d (.str s)))) S = .ok (.d (row (s, ws s l))) (S.set (2 + k) .dead) := by
  obtain ⟨g1, g2⟩ := g l (List.mem_of_getElem? hb)
  have hsp := pf s (List.mem_of_getElem? hs)
  have e1 : pIx (.loc 1) (.d (.str s)) S = some (.loc (2 + k), S) := by
    have := dlook_at (f := Dv.loc) (a := 2) nd hs
    unfold pIx
    have d : dctAt S (.loc 1) = some (kS folk, locs folk.length) := by
      unfold dctAt
      simp only [K.o1]
    rw [d]
    show (match dlook (kS folk) (locs folk.length) (.inr s) with
      | some x => some (x, S)
      | none => none) = _
    rw [this]
  have e2 : frz (.loc (2 + k)) S = some (.d (.lst (l.map .str)), S.set (2 + k) .dead) := by
    unfold frz
    simp only [K.bx k l (Nat.le_refl _) hb, pures_bx]
  have it : iSeq (mFrz (m2 pIx (mV 8) (mV 17))) (eR P1 P2 P5 L n folk emp st wd z11 z12 z13 z14 z16 (some (.d (.str s)))) S = .ok (l.map .str) (S.set (2 + k) .dead) := by
    simp only [iSeq_s, mFrz_s, m2_s, mV_s, List.getElem?_cons_zero, List.getElem?_cons_succ, bind_ok, e1, e2, Sm.lift_some]
    rfl
  have lc := fil_loop (P1 := P1) (P2 := P2) (P5 := P5) (L := L) (n := n) (folk := folk) (emp := emp) (st := st) (wd := wd) (z11 := z11) (z12 := z12) (z13 := z13) (z14 := z14) hsp l g2 (S.set (2 + k) .dead)
  have hfl : (l.filter fun x => !decide (x = s)).length ≤ 1000 := Nat.le_trans (List.length_filter_le _ _) g1
  have lc2 : mLcI [16] (iSeq (mFrz (m2 pIx (mV 8) (mV 17)))) (gN 16) (mTst (m2 pNe (mV 16) (mV 17))) (mV 16) (eR P1 P2 P5 L n folk emp st wd z11 z12 z13 z14 z16 (some (.d (.str s)))) S = .ok (((l.filter fun x => !decide (x = s)).map .str).map .d) (S.set (2 + k) .dead) :=
    mLcI_ok it (by rw [List.length_map]; omega) lc
  have e3 : pLst (((l.filter fun x => !decide (x = s)).map Dt.str).map .d) (S.set (2 + k) .dead) = some (.d (.lst ((l.filter fun x => !decide (x = s)).map .str)), S.set (2 + k) .dead) := pLst_d (by rw [List.length_map]; omega)
  have e4 : pSortSet (.d (.lst ((l.filter fun x => !decide (x = s)).map .str))) (S.set (2 + k) .dead) = some (.d (.lst ((ws s l).map .str)), S.set (2 + k) .dead) := by
    unfold pSortSet
    have : (itemsOf (S.set (2 + k) .dead) (.d (.lst ((l.filter fun x => !decide (x = s)).map .str)))).bind strsOf = some (l.filter fun x => !decide (x = s)) := by
      unfold itemsOf
      simp only [dctAt, seqAt, lstAt, pures_d, Option.bind_some, strsOf_map]
    rw [this]
    exact if_pos (by omega)
  have e5 : pTup [.d (.str s), .d (.tup ((ws s l).map .str))] (S.set (2 + k) .dead) = some (.d (row (s, ws s l)), S.set (2 + k) .dead) := rfl
  unfold tRow tFil
  simp only [mN_s, aCons_s, m1_s, mV_s, aNil_s, List.getElem?_cons_zero, List.getElem?_cons_succ, bind_ok, lc2, e3, e4, pTuple_lst, e5, Sm.lift_some]
theorem Kept.next {o : Bo} {bs : List (List Str)} {k : Nat} {S : Sto} (K : Kept folk bs o k S) : Kept folk bs o (k + 1) (S.set (2 + k) .dead) := by
  refine ⟨?_, ?_, fun j l hj hl => ?_⟩
  · rw [List.getElem?_set_ne (by omega)]
    exact K.o0
  · rw [List.getElem?_set_ne (by omega)]
    exact K.o1
  · rw [List.getElem?_set_ne (by omega)]
    exact K.bx j l (by omega) hl
theorem rows_loop2 {o : Bo} {bs : List (List Str)} (nd : folk.Nodup) (hb : bs.length = folk.length) (pf : ∀ x ∈ folk, x ∈ pool) (g : Gd folk 1000 bs) : ∀ (q k : Nat) (S : Sto), k + q = folk.length → Kept folk bs o k S →
    ∃ S', lcL (gN 17) cYes tRow (eR P1 P2 P5 L n folk emp st wd z11 z12 z13 z14 z16 none) ((folk.drop k).map .str) S = .ok (((((folk.zip bs).drop k).map fun p => (p.1, ws p.1 p.2)).map row).map .d) S' ∧ S'[0]? = some o
  | 0, k, S, hq, K => by
    refine ⟨S, ?_, K.o0⟩
    rw [List.drop_eq_nil_of_le (by omega), List.drop_eq_nil_of_le (by rw [List.length_zip]; omega)]
    rfl
  | q + 1, k, S, hq, K => by
    have hk : k < folk.length := by omega
    have hk2 : k < bs.length := by omega
    have hs := List.getElem?_eq_getElem hk
    have hl := List.getElem?_eq_getElem hk2
    obtain ⟨S', e, h⟩ := rows_loop2 nd hb pf g q (k + 1) (S.set (2 + k) .dead) (by omega) K.next
    refine ⟨S', ?_, h⟩
    have hz : k < (folk.zip bs).length := by
      rw [List.length_zip]
      omega
    rw [List.drop_eq_getElem_cons hk, List.drop_eq_getElem_cons hz]
    have hzk : (folk.zip bs)[k] = (folk[k], bs[k]) := List.getElem_zip
    rw [hzk, List.map_cons, List.map_cons, List.map_cons, List.map_cons]
    exact lc_yes (ρ1 := eR P1 P2 P5 L n folk emp st wd z11 z12 z13 z14 z16 (some (.d (.str folk[k])))) rfl rfl (row_ok (z16 := z16) K nd hs hl pf g) e
end
/-! sorted -/
def Asc (l : List Str) : Prop := l.Pairwise fun a b => ltS a b = true
theorem Asc.nodup {l : List Str} (h : Asc l) : l.Nodup := List.Pairwise.imp (fun {a b} h e => by
  subst e
  have := of_decide_eq_true h
  exact List.lt_irrefl _ this) h
theorem asc_of {l : List Str} (h : l.Pairwise fun a b => leS a b = true) (nd : l.Nodup) : Asc l := by
  refine List.Pairwise.imp₂ (fun {a b} h1 h2 => ?_) h nd
  by_cases hl : a.cps.toList < b.cps.toList
  · exact decide_eq_true hl
  · exfalso
    have : leS b a = true := by
      unfold leS
      simp [hl]
    exact h2 (leS_anti h1 this)
theorem asc_sort {l : List Str} (nd : l.Nodup) : Asc (sortS l) := asc_of (sortS_sorted l) ((sortS_perm l).nodup_iff.mpr nd)
theorem sort_asc {l : List Str} (h : Asc l) : sortS l = l := by
  refine sorted_eq (sortS_sorted l) (List.Pairwise.imp (fun {a b} h => ?_) h) (sortS_perm l)
  have := of_decide_eq_true h
  unfold leS
  simp only [Bool.not_eq_true', decide_eq_false_iff_not]
  exact fun z => List.lt_asymm this z
theorem leT_rows {a b : Str × List Str} (h : a.1 = b.1 → a = b) : leT (row a) (row b) = leS a.1 b.1 := by
  by_cases e : a.1 = b.1
  · have := h e
    subst this
    show (!PySem.W.dataLt (encT (row a)) (encT (row a))) = _
    rw [show PySem.W.dataLt (encT (row a)) (encT (row a)) = false from lex_irrefl _, leS_refl]
    rfl
  · show (!PySem.W.dataLt (encT (row b)) (encT (row a))) = _
    rw [enc_row, enc_row, PySem.W.dataLt_pair (by simp only [PySem.W.alike]) (by simp only [PySem.W.alike, alikeAll_strs]), eqv_strs, decide_eq_false (fun z => e z.symm), if_neg (by decide), PySem.W.dataLt_str]
    rfl
theorem sorted_rows {l : List (Str × List Str)} (h : l.length ≤ 1000) (nd : (l.map (·.1)).Nodup) (S : Sto) : ∃ m : List (Str × List Str), pSorted [.d (.lst (l.map row))] S = some (.d (.lst (m.map row)), S) ∧ m.Perm l ∧ Asc (m.map (·.1)) := by
  have inj : ∀ a ∈ l, ∀ b ∈ l, a.1 = b.1 → a = b := fun a ha b hb e => by
    obtain ⟨i, hi⟩ := List.mem_iff_getElem?.mp ha
    obtain ⟨j, hj⟩ := List.mem_iff_getElem?.mp hb
    have hil := (List.getElem?_eq_some_iff.mp hi).1
    have ei : (l.map (·.1))[i]? = some a.1 := by rw [List.getElem?_map, hi]; rfl
    have ej : (l.map (·.1))[j]? = some b.1 := by rw [List.getElem?_map, hj]; rfl
    have := (List.getElem?_inj (by rw [List.length_map]; exact hil) nd).mp (ei.trans (by rw [ej, e]))
    subst this
    rw [hi] at hj
    exact Option.some.inj hj
  have p : (l.mergeSort fun a b => leS a.1 b.1).Perm l := List.mergeSort_perm _ _
  refine ⟨l.mergeSort fun a b => leS a.1 b.1, ?_, p, ?_⟩
  · unfold pSorted
    simp only [seqT_lst]
    rw [if_pos (sortChk_rows h)]
    rw [List.map_mergeSort (f := row) (r := fun a b => leS a.1 b.1) (s := leT) fun a ha b hb => (leT_rows (inj a ha b hb)).symm]
  · refine asc_of ?_ ((p.map _).nodup_iff.mpr nd)
    rw [List.pairwise_map]
    exact List.pairwise_mergeSort (le := fun a b => leS a.1 b.1) (fun a b c h h2 => leS_trans (a := a.1) (b := b.1) (c := c.1) h h2) (fun a b => leS_total a.1 b.1) l
end Hn
/-! Hn15: a drawn sheet. -/
namespace Hn
open PySem PySem.Spec PyProof.Rows L2 Sm
structure Tome (t : Dt) (rows : List (Str × List Str)) (emps : List Str) (most free : Nat) : Prop where
  eq : t = .tup [.tup (rows.map row), .tup (emps.map .str)]
  pn : ∀ e ∈ rows, e.1 ∈ pool
  pw : ∀ e ∈ rows, ∀ x ∈ e.2, x ∈ pool ∧ x ≠ e.1
  sw : ∀ e ∈ rows, Asc e.2
  sn : Asc (rows.map (·.1))
  se : Asc emps
  pe : ∀ x ∈ emps, x ∈ pool
  nd : (rows.map (·.1) ++ emps).Nodup
  z0 : 0 < rows.length
  z1 : rows.length ≤ most
  z2 : emps.length ≤ free
abbrev e3 (P1 P2 : Dt) (z3 z4 z5 z6 z7 z8 z9 z10 : Option Dv) : Sm.Env := [some (.loc 0), some (.d P1), some (.d P2), z3, z4, z5, z6, z7, z8, z9, z10, none, none, none, none, none, none, none]
def tS1 : SM := sSet 3 (mN pLst (aCons (mC (.str ("a" : Str))) (aCons (mC (.str ("ann" : Str))) (aCons (mC (.str ("bob" : Str))) (aCons (mC (.str ("cat" : Str))) (aCons (mC (.str ("dan" : Str))) (aCons (mC (.str ("eve" : Str))) (aCons (mC (.str ("fay" : Str))) (aCons (mC (.str ("new" : Str))) (aCons (mC (.str ("old" : Str))) (aCons (mC (.str ("x" : Str))) (aCons (mC (.str ("zzzzzzzz" : Str))) (aNil)))))))))))))
def tS2 : SM := sPars [4, 5] (aCons (m2 pAdd (mC (.int 1)) (mF F__law_take (aCons (mV 0) (aCons (mV 1) (aNil))))) (aCons (mF F__law_take (aCons (mV 0) (aCons (m2 pAdd (mV 2) (mC (.int 1))) (aNil)))) (aNil)))
def tS3 : SM := sSet 3 (mN pList (aCons (mF F__law_mixed (aCons (mV 0) (aCons (mV 3) (aNil)))) (aNil)))
def tS4 : SM := sPars [6, 7] (aCons (mSl pSl (mV 3) (oNo) (oPt (mV 4))) (aCons (mSl pSl (mV 3) (oPt (mV 4)) (oPt (m2 pAdd (mV 4) (mV 5)))) (aNil)))
def tS5 : SM := sPars [8, 9, 10] (aCons (mDnew) (aCons (mF F__law_take (aCons (mV 0) (aCons (mC (.int 4)) (aNil)))) (aCons (m2 pAdd (mC (.int 3)) (mF F__law_take (aCons (mV 0) (aCons (mC (.int 4)) (aNil))))) (aNil))))
def tS6 : SM := sFor (iRg rg1 (aCons (mV 4) (aNil))) (gN 11) tA
def tS7 : SM := sFor (iRg rg1 (aCons (mV 4) (aNil))) (gN 11) tC
def tS8 : SM := sSet 15 (mN pLst (mLcI [17] (iSeq (mV 6)) (gN 17) (cYes) tRow))
def tS9 : SM := sRet (mN pTup (aCons (mN pTuple (aCons (mN pSorted (aCons (mV 15) (aNil))) (aNil))) (aCons (mN pTuple (aCons (mN pSorted (aCons (mV 7) (aNil))) (aNil))) (aNil))))
theorem tome_is : b__law_tome = sSeq tS1 (sSeq tS2 (sSeq tS3 (sSeq tS4 (sSeq tS5 (sSeq tS6 (sSeq tS7 (sSeq tS8 tS9))))))) := rfl
theorem tS1_ok {P1 P2 : Dt} {S : Sto} : tS1 (e3 P1 P2 none none none none none none none none) S = .nx (e3 P1 P2 (some (.d (.lst (pool.map .str)))) none none none none none none none) S := rfl
theorem tS2_ok {a b : Int} {z3 : Option Dv} {o : Bo} {m : Nat} (ha : 0 < a) (ha2 : a < 1000) (hb : 0 ≤ b) (hb2 : b < 1000) (u : Urn o (2 + m)) : ∃ (n e : Nat) (o' : Bo), tS2 (e3 (.int a) (.int b) z3 none none none none none none none) [o] = .nx (e3 (.int a) (.int b) z3 (some (.d (.int (n : Int)))) (some (.d (.int (e : Int)))) none none none none none) [o'] ∧ 0 < n ∧ (n : Int) ≤ a ∧ (e : Int) ≤ b ∧ Urn o' m := by
  obtain ⟨r, o1, e1, r0, r1, u1⟩ := take_ok (S := [o]) (n := 0) (m := 1 + m) (low := a) rfl (u.less (by omega)) ha (by omega)
  obtain ⟨q, o2, e2, q0, q1, u2⟩ := take_ok (S := [o1]) (n := 0) (m := m) (low := b + 1) rfl (u1.less (by omega)) (by omega) (by omega)
  have e1' : F__law_take [.loc 0, .d (.int a)] [o] = .ok (.d (.int r)) [o1] := e1
  have e2' : F__law_take [.loc 0, .d (.int (b + 1))] [o1] = .ok (.d (.int q)) [o2] := e2
  refine ⟨(1 + r).toNat, q.toNat, o2, ?_, by omega, by omega, by omega, u2⟩
  rw [show (((1 + r).toNat : Nat) : Int) = 1 + r by omega, show ((q.toNat : Nat) : Int) = q by omega]
  unfold tS2
  simp only [sPars_s, mF_s, m2_s, aCons_s, aNil_s, mV_s, mC_s, List.getElem?_cons_zero, List.getElem?_cons_succ, bind_ok, e1', e2', add_i, Sm.lift_some, to_ok]
  rfl
theorem tS3_ok {P1 P2 : Dt} {z4 z5 : Option Dv} {o : Bo} {m : Nat} (u : Urn o (11 + m)) : ∃ (L : List Str) (o' : Bo), tS3 (e3 P1 P2 (some (.d (.lst (pool.map .str)))) z4 z5 none none none none none) [o] = .nx (e3 P1 P2 (some (.d (.lst (L.map .str)))) z4 z5 none none none none none) [o'] ∧ L.Perm pool ∧ Urn o' m := by
  obtain ⟨r, o', e, hp, u'⟩ := mixed_ok (S := [o]) (n := 0) (m := m) (L := pool.map .str) (by decide) rfl u
  obtain ⟨L, rfl, hL⟩ := perm_strs hp
  have e' : F__law_mixed [.loc 0, .d (.lst (pool.map .str))] [o] = .ok (.d (.tup (L.map .str))) [o'] := e
  refine ⟨L, o', ?_, hL, u'⟩
  unfold tS3
  simp only [sSet_s, mF_s, mN_s, aCons_s, aNil_s, mV_s, List.getElem?_cons_zero, List.getElem?_cons_succ, bind_ok, e', pList_t, Sm.lift_some, to_ok]
  rfl
theorem tS4_ok {P1 P2 : Dt} {L : List Str} {n e : Nat} (h : n + e ≤ L.length) {S : Sto} : tS4 (e3 P1 P2 (some (.d (.lst (L.map .str)))) (some (.d (.int (n : Int)))) (some (.d (.int (e : Int)))) none none none none none) S = .nx (e3 P1 P2 (some (.d (.lst (L.map .str)))) (some (.d (.int (n : Int)))) (some (.d (.int (e : Int)))) (some (.d (.lst ((L.take n).map .str)))) (some (.d (.lst (((L.drop n).take e).map .str)))) none none none) S := by
  have h1 : pSl none (some (n : Int)) (.d (.lst (L.map .str))) S = some (.d (.lst ((L.take n).map .str)), S) := by
    rw [sl_l, cut_map, cut_to]
  have h2 : pSl (some (n : Int)) (some ((n : Int) + (e : Int))) (.d (.lst (L.map .str))) S = some (.d (.lst (((L.drop n).take e).map .str)), S) := by
    rw [sl_l, cut_map, cut_mid h]
  unfold tS4
  simp only [sPars_s, m2_s, mSl_s, oPt_s, oNo_s, aCons_s, aNil_s, mV_s, List.getElem?_cons_zero, List.getElem?_cons_succ, bind_ok, h1, h2, add_i, Sm.lift_some, to_ok]
  rfl
theorem tS5_ok {P1 P2 : Dt} {z3 z4 z5 z6 z7 : Option Dv} {o : Bo} {m : Nat} (u : Urn o (2 + m)) : ∃ (st wd : Int) (o' : Bo), tS5 (e3 P1 P2 z3 z4 z5 z6 z7 none none none) [o] = .nx (e3 P1 P2 z3 z4 z5 z6 z7 (some (.loc 1)) (some (.d (.int st))) (some (.d (.int wd)))) [o', .dct [] []] ∧ 0 < wd ∧ wd < 1000 ∧ Urn o' m := by
  obtain ⟨r, o1, e1, r0, r1, u1⟩ := take_ok (S := [o, .dct [] []]) (n := 0) (m := 1 + m) (low := 4) rfl (u.less (by omega)) (by omega) (by omega)
  obtain ⟨q, o2, e2, q0, q1, u2⟩ := take_ok (S := [o1, .dct [] []]) (n := 0) (m := m) (low := 4) rfl (u1.less (by omega)) (by omega) (by omega)
  have e1' : F__law_take [.loc 0, .d (.int 4)] [o, .dct [] []] = .ok (.d (.int r)) [o1, .dct [] []] := e1
  have e2' : F__law_take [.loc 0, .d (.int 4)] [o1, .dct [] []] = .ok (.d (.int q)) [o2, .dct [] []] := e2
  refine ⟨r, 3 + q, o2, ?_, by omega, by omega, u2⟩
  have hn : mDnew (e3 P1 P2 z3 z4 z5 z6 z7 none none none) [o] = .ok (.loc 1) [o, .dct [] []] := rfl
  unfold tS5
  rw [sPars_s, aCons_s, hn, bind_ok]
  simp only [mF_s, m2_s, aCons_s, aNil_s, mV_s, mC_s, List.getElem?_cons_zero, List.getElem?_cons_succ, bind_ok, e1', e2', add_i, Sm.lift_some, to_ok]
  rfl
theorem it_n {P1 P2 P5 : Dt} {L : List Str} {n : Nat} {folk emp : List Str} {st wd : Int} {z11 z12 z13 z14 : Option Dv} {S : Sto} (h : n < 1000) : iRg rg1 (aCons (mV 4) (aNil)) (eT P1 P2 P5 L n folk emp st wd z11 z12 z13 z14) S = .ok ((List.range' 0 n).map fun (i : Nat) => Dt.int (i : Int)) S := by
  rw [← rgL0]
  exact iRg_ok (ds := [.d (.int (n : Int))]) (by simp only [aCons_s, mV_s, aNil_s, List.getElem?_cons_zero, List.getElem?_cons_succ, bind_ok]) (q_rg h)
theorem tome_raw {a b : Nat} {o : Bo} {m : Nat} (ha : 0 < a) (hab : a + b ≤ 11) (u : Urn o (400 + m)) :
    ∃ (t : Dt) (rows : List (Str × List Str)) (emps : List Str) (o' : Bo) (rest : Sto), R__law_tome [.loc 0, .d (.int (a : Int)), .d (.int (b : Int))] [o] = .ok (.d t) (o' :: rest) ∧ Tome t rows emps a b ∧ Urn o' m := by
  obtain ⟨n, e, o2, h2, n0, na, eb, u2⟩ := tS2_ok (a := (a : Int)) (b := (b : Int)) (z3 := some (.d (.lst (pool.map .str)))) (o := o) (m := 398 + m) (by omega) (by omega) (by omega) (by omega) (u.less (by omega))
  obtain ⟨L, o3, h3, hL, u3⟩ := tS3_ok (P1 := .int (a : Int)) (P2 := .int (b : Int)) (z4 := some (.d (.int (n : Int)))) (z5 := some (.d (.int (e : Int)))) (m := 387 + m) (u2.less (by omega))
  have hl : L.length = 11 := hL.length_eq
  have h4 := tS4_ok (P1 := .int (a : Int)) (P2 := .int (b : Int)) (L := L) (n := n) (e := e) (by omega) (S := [o3])
  obtain ⟨st, wd, o5, h5, w0, w1, u5⟩ := tS5_ok (P1 := .int (a : Int)) (P2 := .int (b : Int)) (z3 := some (.d (.lst (L.map .str)))) (z4 := some (.d (.int (n : Int)))) (z5 := some (.d (.int (e : Int)))) (z6 := some (.d (.lst ((L.take n).map .str)))) (z7 := some (.d (.lst (((L.drop n).take e).map .str)))) (o := o3) (m := 385 + m) (u3.less (by omega))
  have hsub : (L.take n ++ (L.drop n).take e).Sublist L := by
    have := (List.Sublist.refl (L.take n)).append (List.take_sublist e (L.drop n))
    rw [List.take_append_drop] at this
    exact this
  have ndL : L.Nodup := hL.nodup_iff.mpr (by decide +kernel)
  have nda := hsub.nodup ndL
  generalize hfo : L.take n = folk at *
  generalize hem : (L.drop n).take e = emp at *
  have ndf := (List.nodup_append.mp nda).1
  have nde := (List.nodup_append.mp nda).2.1
  have hn : n = folk.length := by
    rw [← hfo, List.length_take]
    omega
  have he : emp.length = e := by
    rw [← hem, List.length_take, List.length_drop]
    omega
  have pl : ∀ x ∈ L, x ∈ pool := fun x hx => hL.mem_iff.mp hx
  have pf : ∀ x ∈ folk, x ∈ pool := fun x hx => pl x (hsub.subset (List.mem_append_left _ hx))
  have pe : ∀ x ∈ emp, x ∈ pool := fun x hx => pl x (hsub.subset (List.mem_append_right _ hx))
  have hq : n * (emp.length + 1) + (n * 20 + m) ≤ 385 + m := by
    have h1 : n * (emp.length + 1) ≤ 11 * 12 := Nat.mul_le_mul (by omega) (by omega)
    omega
  obtain ⟨bs, o6, z11, z12, h6, hb6, g6, u6⟩ := tA_loop (P1 := .int (a : Int)) (P2 := .int (b : Int)) (P5 := .int (e : Int)) (L := L) (st := st) (wd := wd) (z13 := none) (z14 := none) hn (by omega) ndf (by omega) (by omega) pf pe pl n 0 [] o5 (n * 20 + m) none none (by omega) rfl (fun l hl => absurd hl List.not_mem_nil) (u5.less hq)
  obtain ⟨bs7, o7, y11, y13, y14, h7, hb7, g7, u7⟩ := tC_loop (P1 := .int (a : Int)) (P2 := .int (b : Int)) (P5 := .int (e : Int)) (L := L) (n := n) (emp := emp) (st := st) (z12 := z12) (by omega) ndf pf w0 w1 n 0 bs o6 200 m z11 none none (by omega) hb6 g6 (by omega) u6
  have K : Kept folk bs7 o7 0 (StT o7 folk bs7) := ⟨rfl, rfl, fun j l _ hj => St_bx hj⟩
  obtain ⟨S8, h8, hS8⟩ := rows_loop2 (P1 := .int (a : Int)) (P2 := .int (b : Int)) (P5 := .int (e : Int)) (L := L) (n := n) (emp := emp) (st := st) (wd := wd) (z11 := y11) (z12 := z12) (z13 := y13) (z14 := y14) (z16 := none) ndf hb7 pf g7 folk.length 0 (StT o7 folk bs7) (by omega) K
  rw [List.drop_zero, List.drop_zero] at h8
  generalize hrw : ((folk.zip bs7).map fun p => (p.1, ws p.1 p.2)) = rows0 at *
  have hfst : rows0.map (·.1) = folk := by
    rw [← hrw, List.map_map]
    show (folk.zip bs7).map Prod.fst = folk
    rw [List.map_fst_zip (by omega)]
  have hrl : rows0.length = folk.length := by rw [← hfst, List.length_map]
  obtain ⟨rows, h9, pr, ar⟩ := sorted_rows (l := rows0) (by omega) (by rw [hfst]; exact ndf) S8
  have hfr : (rows.map (·.1)).Perm folk := by
    have := pr.map (·.1)
    rw [hfst] at this
    exact this
  have mem : ∀ r ∈ rows, ∃ l ∈ bs7, r.1 ∈ folk ∧ r.2 = ws r.1 l := fun r hr => by
    have := pr.mem_iff.mp hr
    rw [← hrw] at this
    obtain ⟨p, hp, rfl⟩ := List.mem_map.mp this
    exact ⟨p.2, (List.of_mem_zip hp).2, (List.of_mem_zip hp).1, rfl⟩
  refine ⟨.tup [.tup (rows.map row), .tup ((sortS emp).map .str)], rows, sortS emp, o7, S8.tail, ?_, ⟨rfl, fun r hr => ?_, fun r hr x hx => ?_, fun r hr => ?_, ar, asc_sort nde, fun x hx => pe x ((sortS_perm emp).mem_iff.mp hx), ?_, ?_, ?_, ?_⟩, u7⟩
  · refine runB_rt (ds := [.loc 0, .d (.int (a : Int)), .d (.int (b : Int))]) rfl ?_
    show b__law_tome (e3 (.int (a : Int)) (.int (b : Int)) none none none none none none none none) [o] = _
    rw [tome_is, sSeq_s, tS1_ok, sqz_nx, sSeq_s, h2, sqz_nx, sSeq_s, h3, sqz_nx, sSeq_s, h4, sqz_nx, sSeq_s, h5, sqz_nx]
    have s6 : tS6 (e3 (.int (a : Int)) (.int (b : Int)) (some (.d (.lst (L.map .str)))) (some (.d (.int (n : Int)))) (some (.d (.int (e : Int)))) (some (.d (.lst (folk.map .str)))) (some (.d (.lst (emp.map .str)))) (some (.loc 1)) (some (.d (.int st))) (some (.d (.int wd)))) [o5, .dct [] []] = .nx (eT (.int (a : Int)) (.int (b : Int)) (.int (e : Int)) L n folk emp st wd z11 z12 none none) (StT o6 folk bs) := by
      unfold tS6
      rw [sFor_s, it_n (P1 := .int (a : Int)) (P2 := .int (b : Int)) (P5 := .int (e : Int)) (L := L) (n := n) (folk := folk) (emp := emp) (st := st) (wd := wd) (z11 := none) (z12 := none) (z13 := none) (z14 := none) (by omega), to_ok]
      exact h6
    have s7 : tS7 (eT (.int (a : Int)) (.int (b : Int)) (.int (e : Int)) L n folk emp st wd z11 z12 none none) (StT o6 folk bs) = .nx (eT (.int (a : Int)) (.int (b : Int)) (.int (e : Int)) L n folk emp st wd y11 z12 y13 y14) (StT o7 folk bs7) := by
      unfold tS7
      rw [sFor_s, it_n (by omega), to_ok]
      exact h7
    have hlc : mLcI [17] (iSeq (mV 6)) (gN 17) (cYes) tRow (eT (.int (a : Int)) (.int (b : Int)) (.int (e : Int)) L n folk emp st wd y11 z12 y13 y14) (StT o7 folk bs7) = .ok ((rows0.map row).map .d) S8 := mLcI_ok (ts := folk.map .str) rfl (by rw [List.length_map]; omega) h8
    have s8 : tS8 (eT (.int (a : Int)) (.int (b : Int)) (.int (e : Int)) L n folk emp st wd y11 z12 y13 y14) (StT o7 folk bs7) = .nx [some (.loc 0), some (.d (.int (a : Int))), some (.d (.int (b : Int))), some (.d (.lst (L.map .str))), some (.d (.int (n : Int))), some (.d (.int (e : Int))), some (.d (.lst (folk.map .str))), some (.d (.lst (emp.map .str))), some (.loc 1), some (.d (.int st)), some (.d (.int wd)), y11, z12, y13, y14, some (.d (.lst (rows0.map row))), none, none] S8 := by
      unfold tS8
      rw [sSet_s, mN_s, hlc, bind_ok, pLst_d (by rw [List.length_map]; omega), Sm.lift_some, to_ok]
      rfl
    rw [sSeq_s, s6, sqz_nx, sSeq_s, s7, sqz_nx, sSeq_s, s8, sqz_nx]
    have h10 : pSorted [.d (.lst (emp.map .str))] S8 = some (.d (.lst ((sortS emp).map .str)), S8) := (pSorted_strs (by omega)).2
    have h11 : pTup [.d (.tup (rows.map row)), .d (.tup ((sortS emp).map .str))] S8 = some (.d (.tup [.tup (rows.map row), .tup ((sortS emp).map .str)]), S8) := rfl
    unfold tS9
    simp only [sRet_s, mN_s, aCons_s, aNil_s, mV_s, List.getElem?_cons_zero, List.getElem?_cons_succ, bind_ok, h9, h10, h11, pTuple_lst, Sm.lift_some, to_ok]
    cases S8 with
    | nil => simp at hS8
    | cons x xs =>
      simp at hS8
      subst hS8
      rfl
  · obtain ⟨l, hl, h1, h2⟩ := mem r hr
    exact pf _ h1
  · obtain ⟨l, hl, h1, h2⟩ := mem r hr
    rw [h2] at hx
    have hx2 := ddS_mem.mp ((sortS_perm _).mem_iff.mp hx)
    obtain ⟨h3, h4⟩ := List.mem_filter.mp hx2
    exact ⟨(g7 l hl).2 x h3, by simpa using h4⟩
  · obtain ⟨l, hl, h1, h2⟩ := mem r hr
    rw [h2]
    exact asc_sort (ddS_nodup _)
  · exact ((hfr.append (sortS_perm emp)).nodup_iff).mpr nda
  · rw [pr.length_eq]
    omega
  · rw [pr.length_eq]
    omega
  · rw [(sortS_perm emp).length_eq]
    omega
theorem tome_ok {S : Sto} {k a b : Nat} {o : Bo} {m : Nat} (hS : S[k]? = some o) (ha : 0 < a) (hab : a + b ≤ 11) (u : Urn o (400 + m)) :
    ∃ (t : Dt) (rows : List (Str × List Str)) (emps : List Str) (o' : Bo), F__law_tome [.loc k, .d (.int (a : Int)), .d (.int (b : Int))] S = .ok (.d t) (S.set k o') ∧ Tome t rows emps a b ∧ Urn o' m := by
  obtain ⟨t, rows, emps, o', rest, e, T, u'⟩ := tome_raw ha hab u
  exact ⟨t, rows, emps, o', view_ok (ts := [.int (a : Int), .int (b : Int)]) hS u.pure e u'.pure, T, u'⟩
end Hn
/-! K01T4: drawn sheets. -/
namespace K01
open PySem PySem.Spec PyProof.Rows L2 Sm Hn
abbrev esR (rows : List (Str × List Str)) : List (Str × Dt) := rows.map fun e => (e.1, .tup (e.2.map .str))
theorem tome_sh {t : Dt} {rows : List (Str × List Str)} {emps : List Str} {a b : Nat} (T : Tome t rows emps a b) (hab : a + b ≤ 11) : Sh t (esR rows) emps := by
  have z1 := T.z1
  have z2 := T.z2
  rw [T.eq]
  refine sh_of (fun e he => ⟨pool_ok _ (T.pn e he), ?_, fun s hs => pool_ok _ (T.pw e he s hs).1⟩) (fun s hs => pool_ok _ (T.pe s hs)) T.nd (by omega) (by omega)
  have h1 : e.2.length ≤ pool.length := (Asc.nodup (T.sw e he)).length_le_of_subset fun x hx => (T.pw e he x hx).1
  exact Nat.le_trans h1 (by decide)
theorem esR_names (rows : List (Str × List Str)) : (esR rows).map (·.1) = rows.map (·.1) := by
  rw [List.map_map]
  rfl
theorem nods_strs : ∀ l : List Str, nods (l.map .str) = 0
  | [] => rfl
  | a :: l => by
    show 0 + nods (l.map .str) = 0
    rw [nods_strs l]
theorem nods_rows : ∀ l : List (Str × List Str), nods (l.map row) = 2 * l.length
  | [] => rfl
  | a :: l => by
    show (1 + (0 + (1 + nods (a.2.map .str) + 0))) + nods (l.map row) = 2 * (l.length + 1)
    rw [nods_rows l, nods_strs]
    omega
theorem nod_tome {t : Dt} {rows : List (Str × List Str)} {emps : List Str} {a b : Nat} (T : Tome t rows emps a b) (hab : a + b ≤ 11) : nod t ≤ 100 := by
  have z1 := T.z1
  rw [T.eq]
  show 1 + ((1 + nods (rows.map row)) + ((1 + nods (emps.map .str)) + 0)) ≤ 100
  rw [nods_rows, nods_strs]
  omega
/-- whatever its lists and tuples -/
theorem Sh.as {t t' : Dt} {es : List (Str × Dt)} {emps : List Str} (h : Sh t es emps) (hx : Tx 7 t') (e : tp t' = tp t) : Sh t' es emps := ⟨hx, e.trans h.eq, h.nd, h.z1, h.z2⟩
def rB2 : SM := sSet 2 (mF F__law_tome (aCons (mV 0) (aCons (mC (.int 8)) (aCons (mC (.int 3)) (aNil)))))
def rB3 : SM := sPars [3, 4] (aCons (mF (F__law_lists 8) (aCons (mV 2) (aNil))) (aCons (mN pTuple (aCons (mN pLst (mLcI [5] (iSeq (m2 pIx (mV 2) (mC (.int 0)))) (gN 5) (cYes) (m2 pIx (mV 5) (mC (.int 0))))) (aNil))) (aNil)))
def rB6 : SM := sSet 6 (mN pLst (aCons (mV 4) (aCons (mN pTuple (aCons (mN pSorted (aCons (m2 pAdd (mV 4) (m2 pIx (mV 2) (mC (.int 1)))) (aNil))) (aNil))) (aNil))))
def rSame (i : Nat) : M Bool := cNot (mTru pTru (mF (F__law_same 8) (aCons (askM i) (aCons (mV 6) (aNil)))))
def rC1 : SM := sIf (rSame 2) (sRet (mC (.bl false))) (sNil)
def rC2 : SM := sIf (cOr (rSame 3) (mTst (m2 pNe (mV 3) (mF (F__law_lists 8) (aCons (mV 2) (aNil)))))) (sRet (mC (.bl false))) (sNil)
def rB7 : SM := sSet 7 (mF (F__law_blend 8) (aCons (mV 0) (aCons (mV 2) (aNil))))
def rC3 : SM := sIf (rSame 7) (sRet (mC (.bl false))) (sNil)
def rBody : SM := sSeq rB2 (sSeq rB3 (sSeq rB6 (sSeq rC1 (sSeq rC2 (sSeq rB7 rC3)))))
theorem right_is : b__law_right = sSeq (sIf (cNot (mTru pTru (mF F__law_by_hand_right aNil))) (sRet (mC (.bl false))) (sNil)) (sSeq (sFor (iRg rg1 (aCons (mC (.int 12)) (aNil))) (gN 1) rBody) (sRet (mC (.bl true)))) := rfl
theorem same_no {i : Nat} {ρ : Sm.Env} {S : Sto} {t : Dt} {es : List (Str × Dt)} {emps : List Str} (h : Sh t es emps) (hx : Tx 7 (ans es emps)) (hi : ρ[i]? = some (some (.d t))) (h6 : ρ[6]? = some (some (.d (ans es emps)))) : rSame i ρ S = .ok false S := by
  unfold rSame
  simp only [cNot_s, mTru_s, mF_s, aCons_s, aNil_s, mV_s, h6, ask_ok h hi, bind_ok, same_ok 7 (ans es emps) S hx]
  rfl
theorem row_names {P : Dt} {z0 z1 z3 z4 z6 z7 : Option Dv} : ∀ (rows : List (Str × List Str)) (S : Sto), lcL (gN 5) cYes (m2 pIx (mV 5) (mC (.int 0))) [z0, z1, some (.d P), z3, z4, none, z6, z7] (rows.map row) S = .ok (((rows.map (·.1)).map .str).map .d) S
  | [], S => rfl
  | e :: rows, S => by
    have h : pIx (.d (row e)) (.d (.int 0)) S = some (.d (.str e.1), S) := ix_tup (i := 0) (ts := [.str e.1, .tup (e.2.map .str)]) rfl
    refine lc_yes (ρ1 := [z0, z1, some (.d P), z3, z4, some (.d (row e)), z6, z7]) rfl rfl ?_ (row_names rows S)
    simp only [m2_s, mV_s, mC_s, List.getElem?_cons_zero, List.getElem?_cons_succ, bind_ok, h, Sm.lift_some]
theorem turn_ok {o : Bo} {m : Nat} {z1 z2 z3 z4 z6 z7 : Option Dv} (u : Urn o (500 + m)) : ∃ (o' : Bo) (y2 y3 y4 y6 y7 : Option Dv), rBody [some (.loc 0), z1, z2, z3, z4, none, z6, z7] [o] = .nx [some (.loc 0), z1, y2, y3, y4, none, y6, y7] [o'] ∧ Urn o' m := by
  obtain ⟨t, rows, emps, o1, e1, T, u1⟩ := tome_ok (S := [o]) (k := 0) (a := 8) (b := 3) (m := 100 + m) rfl (by omega) (by omega) (u.less (by omega))
  have e1' : F__law_tome [.loc 0, .d (.int 8), .d (.int 3)] [o] = .ok (.d t) [o1] := e1
  have h := tome_sh T (by omega)
  have zr := T.z1
  have ze := T.z2
  have s2 : rB2 [some (.loc 0), z1, z2, z3, z4, none, z6, z7] [o] = .nx [some (.loc 0), z1, some (.d t), z3, z4, none, z6, z7] [o1] := by
    unfold rB2
    simp only [sSet_s, mF_s, aCons_s, aNil_s, mV_s, mC_s, List.getElem?_cons_zero, bind_ok, e1', to_ok]
    rfl
  have ht := T.eq
  have i0 : ∀ S, pIx (.d t) (.d (.int 0)) S = some (.d (.tup (rows.map row)), S) := fun S => by
    rw [ht]
    exact ix_tup (i := 0) rfl
  have i1 : ∀ S, pIx (.d t) (.d (.int 1)) S = some (.d (.tup (emps.map .str)), S) := fun S => by
    rw [ht]
    exact ix_tup (i := 1) rfl
  have hl : F__law_lists 8 [.d t] [o1] = .ok (.d (tl t)) [o1] := lists_ok 7 t [o1] h.tx
  have lc : mLcI [5] (iSeq (m2 pIx (mV 2) (mC (.int 0)))) (gN 5) (cYes) (m2 pIx (mV 5) (mC (.int 0))) [some (.loc 0), z1, some (.d t), z3, z4, none, z6, z7] [o1] = .ok (((rows.map (·.1)).map .str).map .d) [o1] := by
    refine mLcI_ok (S1 := [o1]) (ts := rows.map row) (iSeq_t ?_) (by rw [List.length_map]; omega) (row_names rows [o1])
    simp only [m2_s, mV_s, mC_s, List.getElem?_cons_zero, List.getElem?_cons_succ, bind_ok, i0, Sm.lift_some]
  have s3 : rB3 [some (.loc 0), z1, some (.d t), z3, z4, none, z6, z7] [o1] = .nx [some (.loc 0), z1, some (.d t), some (.d (tl t)), some (.d (.tup ((rows.map (·.1)).map .str))), none, z6, z7] [o1] := by
    unfold rB3
    simp only [sPars_s, mF_s, mN_s, aCons_s, aNil_s, mV_s, List.getElem?_cons_zero, List.getElem?_cons_succ, bind_ok, hl, lc, pLst_d (ts := (rows.map (·.1)).map Dt.str) (S := [o1]) (by simp only [List.length_map]; omega), pTuple_lst, Sm.lift_some, to_ok]
    rfl
  have hz : ((rows.map (·.1)).map Dt.str).length + (emps.map Dt.str).length ≤ 16777216 := by
    simp only [List.length_map]
    omega
  have hso : pSorted [.d (.tup ((rows.map (·.1)).map Dt.str ++ emps.map Dt.str))] [o1] = some (.d (.lst ((sortS (rows.map (·.1) ++ emps)).map .str)), [o1]) := by
    rw [← List.map_append]
    exact (pSorted_strs (by rw [List.length_append, List.length_map]; omega)).1
  have ean : ans (esR rows) emps = .lst [.tup ((rows.map (·.1)).map .str), .tup ((sortS (rows.map (·.1) ++ emps)).map .str)] := by
    unfold ans
    rw [esR_names]
  have s6 : rB6 [some (.loc 0), z1, some (.d t), some (.d (tl t)), some (.d (.tup ((rows.map (·.1)).map .str))), none, z6, z7] [o1] = .nx [some (.loc 0), z1, some (.d t), some (.d (tl t)), some (.d (.tup ((rows.map (·.1)).map .str))), none, some (.d (ans (esR rows) emps)), z7] [o1] := by
    rw [ean]
    unfold rB6
    simp only [sSet_s, m2_s, mN_s, aCons_s, aNil_s, mV_s, mC_s, List.getElem?_cons_zero, List.getElem?_cons_succ, bind_ok, i1, add_t hz, hso, pTuple_lst, Sm.lift_some]
    rfl
  have hx : Tx 7 (ans (esR rows) emps) := by
    rw [ean]
    have p1 : ∀ s ∈ rows.map (·.1), PyData.strOk s = true := fun s hs => by
      obtain ⟨e, he, rfl⟩ := List.mem_map.mp hs
      exact pool_ok _ (T.pn e he)
    have p2 : ∀ s ∈ sortS (rows.map (·.1) ++ emps), PyData.strOk s = true := fun s hs => by
      rcases List.mem_append.mp ((sortS_perm _).mem_iff.mp hs) with hs | hs
      · exact p1 s hs
      · exact pool_ok _ (T.pe s hs)
    exact (tx_ans (List.all_eq_true.mpr p1) (List.all_eq_true.mpr p2) (by rw [List.length_map]; omega) (by rw [(sortS_perm _).length_eq, List.length_append, List.length_map]; omega)).up.up.up.up.up
  have c1 : rC1 [some (.loc 0), z1, some (.d t), some (.d (tl t)), some (.d (.tup ((rows.map (·.1)).map .str))), none, some (.d (ans (esR rows) emps)), z7] [o1] = .nx [some (.loc 0), z1, some (.d t), some (.d (tl t)), some (.d (.tup ((rows.map (·.1)).map .str))), none, some (.d (ans (esR rows) emps)), z7] [o1] := by
    unfold rC1
    rw [sIf_s, same_no h hx rfl rfl, to_ok]
    rfl
  have hso2 := h.as h.tx.tl (tp_tl t)
  have hne : pNe (.d (tl t)) (.d (tl t)) [o1] = some (.d (.bl false), [o1]) := pNe_tx h.tx.tl (by omega) _
  have c2 : rC2 [some (.loc 0), z1, some (.d t), some (.d (tl t)), some (.d (.tup ((rows.map (·.1)).map .str))), none, some (.d (ans (esR rows) emps)), z7] [o1] = .nx [some (.loc 0), z1, some (.d t), some (.d (tl t)), some (.d (.tup ((rows.map (·.1)).map .str))), none, some (.d (ans (esR rows) emps)), z7] [o1] := by
    unfold rC2
    rw [sIf_s, cOr_s, same_no hso2 hx rfl rfl, bind_ok]
    simp only [Bool.false_eq_true, if_false, mTst_s, m2_s, mF_s, aCons_s, aNil_s, mV_s, List.getElem?_cons_zero, List.getElem?_cons_succ, bind_ok, hl, hne, Sm.lift_some, toB_s, li_some, to_ok]
    rfl
  obtain ⟨t', o2, e2, tp2, tx2, u2⟩ := blend_ok 7 t h.tx [o1] 0 o1 m rfl (u1.less (by have := nod_tome T (by omega); omega))
  have e2' : F__law_blend 8 [.loc 0, .d t] [o1] = .ok (.d t') [o2] := e2
  have s7 : rB7 [some (.loc 0), z1, some (.d t), some (.d (tl t)), some (.d (.tup ((rows.map (·.1)).map .str))), none, some (.d (ans (esR rows) emps)), z7] [o1] = .nx [some (.loc 0), z1, some (.d t), some (.d (tl t)), some (.d (.tup ((rows.map (·.1)).map .str))), none, some (.d (ans (esR rows) emps)), some (.d t')] [o2] := by
    unfold rB7
    simp only [sSet_s, mF_s, aCons_s, aNil_s, mV_s, List.getElem?_cons_zero, List.getElem?_cons_succ, bind_ok, e2', to_ok]
    rfl
  have c3 : rC3 [some (.loc 0), z1, some (.d t), some (.d (tl t)), some (.d (.tup ((rows.map (·.1)).map .str))), none, some (.d (ans (esR rows) emps)), some (.d t')] [o2] = .nx [some (.loc 0), z1, some (.d t), some (.d (tl t)), some (.d (.tup ((rows.map (·.1)).map .str))), none, some (.d (ans (esR rows) emps)), some (.d t')] [o2] := by
    unfold rC3
    rw [sIf_s, same_no (h.as tx2 tp2) hx rfl rfl, to_ok]
    rfl
  refine ⟨o2, some (.d t), some (.d (tl t)), some (.d (.tup ((rows.map (·.1)).map .str))), some (.d (ans (esR rows) emps)), some (.d t'), ?_, u2⟩
  unfold rBody
  rw [sSeq_s, s2, sqz_nx, sSeq_s, s3, sqz_nx, sSeq_s, s6, sqz_nx, sSeq_s, c1, sqz_nx, sSeq_s, c2, sqz_nx, sSeq_s, s7, sqz_nx, c3]
theorem turns_ok : ∀ (ts : List Dt) (o : Bo) (m : Nat) (z1 z2 z3 z4 z6 z7 : Option Dv), Urn o (500 * ts.length + m) → ∃ (o' : Bo) (y1 y2 y3 y4 y6 y7 : Option Dv), forL (gN 1) rBody ts [some (.loc 0), z1, z2, z3, z4, none, z6, z7] [o] = .nx [some (.loc 0), y1, y2, y3, y4, none, y6, y7] [o'] ∧ Urn o' m
  | [], o, m, z1, z2, z3, z4, z6, z7, u => ⟨o, z1, z2, z3, z4, z6, z7, rfl, u.less (by simp)⟩
  | t :: ts, o, m, z1, z2, z3, z4, z6, z7, u => by
    rw [List.length_cons] at u
    obtain ⟨o1, y2, y3, y4, y6, y7, e1, u1⟩ := turn_ok (z1 := some (.d t)) (z2 := z2) (z3 := z3) (z4 := z4) (z6 := z6) (z7 := z7) (m := 500 * ts.length + m) (u.less (by omega))
    obtain ⟨o2, x1, x2, x3, x4, x6, x7, e2, u2⟩ := turns_ok ts o1 m (some (.d t)) y2 y3 y4 y6 y7 u1
    refine ⟨o2, x1, x2, x3, x4, x6, x7, ?_, u2⟩
    rw [forL_nx (ρ1 := [some (.loc 0), some (.d t), z2, z3, z4, none, z6, z7]) rfl e1]
    exact e2
theorem right_ok {S : Sto} {n : Nat} {o : Bo} (hS : S[n]? = some o) (u : Urn o 1000000) : ∃ o', F__law_right [.loc n] S = .ok (.d (.bl true)) (S.set n o') := by
  have hit : iRg rg1 (aCons (mC (.int 12)) (aNil)) [some (.loc 0), none, none, none, none, none, none, none] [o] = .ok (rgL 0 12) [o] := iRg_ok (ds := [.d (.int ((12 : Nat) : Int))]) rfl (q_rg (by omega))
  have hl : (rgL 0 12).length = 12 := by
    unfold rgL
    rw [List.length_map, List.length_range]
  obtain ⟨o', y1, y2, y3, y4, y6, y7, e, u'⟩ := turns_ok (rgL 0 12) o 0 none none none none none none (u.less (by omega))
  refine ⟨o', view_ok (ts := []) (rest := []) hS u.pure (runB_rt (ds := [.loc 0]) rfl ?_) u'.pure⟩
  show b__law_right [some (.loc 0), none, none, none, none, none, none, none] [o] = _
  have h0 : sIf (cNot (mTru pTru (mF F__law_by_hand_right aNil))) (sRet (mC (.bl false))) (sNil) [some (.loc 0), none, none, none, none, none, none, none] [o] = .nx [some (.loc 0), none, none, none, none, none, none, none] [o] := by
    simp only [sIf_s, cNot_s, mTru_s, mF_s, aNil_s, bind_ok, hand_ok]
    rfl
  rw [right_is, sSeq_s, h0, sqz_nx, sSeq_s, sFor_s, hit, to_ok, e, sqz_nx]
  rfl
theorem law_true : LawTrue F_law := law_of fun _ _ _ hS u => right_ok hS u
end K01
open PySem PySem.W PyProof.Rows
set_option maxHeartbeats 0 in
theorem PySem.Challenge.cw_crosshomes_k01_households_and_homes_holds : PySem.Challenge.rw_crosshomes_k01_households_and_homes.Holds := by
  w_on; o_law; k_head; (case hw => w_witness2)
  k_fill
  refine L2.walk_ofB (l := PySem.Challenge.rw_crosshomes_k01_households_and_homes) (n := 63) (k := 14) (x := "_law_script") (CX := fun w => L2.CX PySem.Challenge.pw_crosshomes_k01_households_and_homes w) (sp := fun w => Sm.spLaw _) rfl (by decide) rfl ⟨rfl, by decide, by decide⟩ (fun w h Y => PySem.W.kIn_of Y) ?F (fun _ _ a ns hl hb _ hS => Sm.law_hsp hl hb hS) (fun _ _ _ _ _ h => Sm.law_cx h)
  case F =>
    intro w mg fa h KX Gn hmg
    refine' K01.all_mk K01.law_true KX Gn hmg ?aC0 ?a_tupled ?l_tupled ?c_tupled ?k_tupled ?a_as_set ?l_as_set ?c_as_set ?k_as_set ?a_Sheet_init ?i_Sheet_init ?l_Sheet_init ?c_Sheet_init ?k_Sheet_init ?a_Sheet_names ?i_Sheet_names ?l_Sheet_names ?c_Sheet_names ?k_Sheet_names ?a_Sheet_homes ?i_Sheet_homes ?l_Sheet_homes ?c_Sheet_homes ?k_Sheet_homes ?a_households ?l_households ?c_households ?k_households ?a_homes ?l_homes ?c_homes ?k_homes ?a__law_box ?l__law_box ?c__law_box ?k__law_box ?a__law_take ?l__law_take ?c__law_take ?k__law_take ?a__law_cells ?l__law_cells ?c__law_cells ?k__law_cells ?a__law_same ?l__law_same ?c__law_same ?k__law_same ?a__law_few ?l__law_few ?c__law_few ?k__law_few ?a__law_mixed ?l__law_mixed ?c__law_mixed ?k__law_mixed ?a__law_tome ?l__law_tome ?c__law_tome ?k__law_tome ?a__law_lists ?l__law_lists ?c__law_lists ?k__law_lists ?a__law_six ?l__law_six ?c__law_six ?k__law_six ?a__law_blend ?l__law_blend ?c__law_blend ?k__law_blend ?a__law_by_hand_right ?l__law_by_hand_right ?c__law_by_hand_right ?k__law_by_hand_right ?a__law_right ?l__law_right ?c__law_right ?k__law_right ?a_law ?l_law ?c_law ?k_law ?pg0 ?ic0 ?po0 ?sa0 ?mk0 ?kc0 ?s1_own_empties ?s2_own_empties ?s3_own_empties ?s4_own_empties ?s5_own_empties ?s1_own_homes ?s2_own_homes ?s3_own_homes ?s4_own_homes ?s5_own_homes ?s1_own_rows ?s2_own_rows ?s3_own_rows ?s4_own_rows ?s5_own_rows ?zz_abs ?zz_all ?zz_bool ?zz_enumerate ?zz_int ?zz_isinstance ?zz_len ?zz_list ?zz_range ?zz_set ?zz_sorted ?zz_str ?zz_tuple ?zz_zip
    (case aC0 => k_is)
    (case a_tupled => k_is)
    (case l_tupled => k_is)
    (case c_tupled => k_is)
    (case k_tupled => k_is)
    (case a_as_set => k_is)
    (case l_as_set => k_is)
    (case c_as_set => k_is)
    (case k_as_set => k_is)
    (case a_Sheet_init => k_is)
    (case i_Sheet_init => k_is)
    (case l_Sheet_init => k_is)
    (case c_Sheet_init => k_is)
    (case k_Sheet_init => k_is)
    (case a_Sheet_names => k_is)
    (case i_Sheet_names => k_is)
    (case l_Sheet_names => k_is)
    (case c_Sheet_names => k_is)
    (case k_Sheet_names => k_is)
    (case a_Sheet_homes => k_is)
    (case i_Sheet_homes => k_is)
    (case l_Sheet_homes => k_is)
    (case c_Sheet_homes => k_is)
    (case k_Sheet_homes => k_is)
    (case a_households => k_is)
    (case l_households => k_is)
    (case c_households => k_is)
    (case k_households => k_is)
    (case a_homes => k_is)
    (case l_homes => k_is)
    (case c_homes => k_is)
    (case k_homes => k_is)
    (case a__law_box => k_is)
    (case l__law_box => k_is)
    (case c__law_box => k_is)
    (case k__law_box => k_is)
    (case a__law_take => k_is)
    (case l__law_take => k_is)
    (case c__law_take => k_is)
    (case k__law_take => k_is)
    (case a__law_cells => k_is)
    (case l__law_cells => k_is)
    (case c__law_cells => k_is)
    (case k__law_cells => k_is)
    (case a__law_same => k_is)
    (case l__law_same => k_is)
    (case c__law_same => k_is)
    (case k__law_same => k_is)
    (case a__law_few => k_is)
    (case l__law_few => k_is)
    (case c__law_few => k_is)
    (case k__law_few => k_is)
    (case a__law_mixed => k_is)
    (case l__law_mixed => k_is)
    (case c__law_mixed => k_is)
    (case k__law_mixed => k_is)
    (case a__law_tome => k_is)
    (case l__law_tome => k_is)
    (case c__law_tome => k_is)
    (case k__law_tome => k_is)
    (case a__law_lists => k_is)
    (case l__law_lists => k_is)
    (case c__law_lists => k_is)
    (case k__law_lists => k_is)
    (case a__law_six => k_is)
    (case l__law_six => k_is)
    (case c__law_six => k_is)
    (case k__law_six => k_is)
    (case a__law_blend => k_is)
    (case l__law_blend => k_is)
    (case c__law_blend => k_is)
    (case k__law_blend => k_is)
    (case a__law_by_hand_right => k_is)
    (case l__law_by_hand_right => k_is)
    (case c__law_by_hand_right => k_is)
    (case k__law_by_hand_right => k_is)
    (case a__law_right => k_is)
    (case l__law_right => k_is)
    (case c__law_right => k_is)
    (case k__law_right => k_is)
    (case a_law => k_is)
    (case l_law => k_is)
    (case c_law => k_is)
    (case k_law => k_is)
    (case pg0 => k_is)
    (case ic0 => k_is)
    (case po0 => k_is)
    (case sa0 => k_is)
    (case mk0 => k_is)
    (case kc0 => k_is)
    (case s1_own_empties => k_is)
    (case s2_own_empties => k_is)
    (case s3_own_empties => k_is)
    (case s4_own_empties => k_is)
    (case s5_own_empties => k_is)
    (case s1_own_homes => k_is)
    (case s2_own_homes => k_is)
    (case s3_own_homes => k_is)
    (case s4_own_homes => k_is)
    (case s5_own_homes => k_is)
    (case s1_own_rows => k_is)
    (case s2_own_rows => k_is)
    (case s3_own_rows => k_is)
    (case s4_own_rows => k_is)
    (case s5_own_rows => k_is)
    (case zz_abs => k_is)
    (case zz_all => k_is)
    (case zz_bool => k_is)
    (case zz_enumerate => k_is)
    (case zz_int => k_is)
    (case zz_isinstance => k_is)
    (case zz_len => k_is)
    (case zz_list => k_is)
    (case zz_range => k_is)
    (case zz_set => k_is)
    (case zz_sorted => k_is)
    (case zz_str => k_is)
    (case zz_tuple => k_is)
    (case zz_zip => k_is)
