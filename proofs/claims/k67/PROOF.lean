import PyProof.Rows.All
import Wide.All
import OpenK.AllK
import Wide.FinOn
import HandS.ForMost
import HandS.Exc
import HandS.TryOnly
import HandS.ExcOwn
import HandS.WordsExc
import HandS.More
import HandS.Slots
import HandS.SlotsOwn
import HandS.Star
import HandS.Flow
import HandS.Style
import HandS.TupAny
import HandS.Zip
import HandS.IsInst
import HandS.Conv
import HandS.Defaults
import HandS.DictComp
import HandS.Deep
import HandS.Wide
import KE.SortData
import HandS.Small
import HandS.SetFor
import HandS.SetKeys
import HandS.TupSets
import HandS.Strs
import HandS.Words
import HandS.EndBits
import PyProof.CollectStr
import OpenK.KMeth
import OpenK.KOps
import PyProof.Rows.SortStr
import PyProof.Rows.StrMeet
import HandS.NoneIn
import KE.KDictZip
import KE.GoesZip
import KE.GoesMore
import KE.KItemsList
import HandS.DictTup
import PyProof.FactsAll.tuple_0
import PyProof.FactsAll.tuple_2
import KE.DataMinMax
import KE.KDictPairs
import KE.KTryMore
import HandS.ExcInit
import HandS.ExcSuper
import HandS.ExcField
import HandS.ExcIs
import KE.KExcSuper
import KE.KExcInit
import HandS.ExcValue
import KE.KCallOwn
import KE.KDictSum
import KE.KIsNot
import HandS.ClsMeth
import PyProof.AutoSeq1
import HandS.SortKw
import PyProof.Claim2Refuses
import KE.DatumOrd
import PySem.Challenge.RW_crosshomes_k67_whose_withdrawal_costs_mo
set_option Elab.async false
set_option linter.all false
set_option maxRecDepth 100000
/-! Sm0: plain data over the hand layer: values without a heap, a store of boxes, how both lie in the abstract heap. -/
namespace Sm
open PySem PySem.Spec PyProof.Rows L2

/-- data that never changes -/
inductive Dt where
  | non | bl (b : Bool) | int (i : Int) | str (s : Str)
  | tup (xs : List Dt) | lst (xs : List Dt) | dct (ks : List Key) (xs : List Dt) | obj (c : Nat) (xs : List Dt)
  /-- a list of the outside, read alone -/
  | scr (xs : List Dt)
  /-- a tuple of the written part -/
  | ltp (xs : List Dt)
  /-- a caught exception: its class, its one field -/
  | exc (c : Nat) (xs : List Dt)
  /-- a tuple that surely has no dict of its own -/
  | ntp (xs : List Dt)
/-- a value: data, or a box of the store -/
inductive Dv where
  | d (t : Dt) | loc (n : Nat)
/-- what a box holds -/
inductive Bo where
  | lst (xs : List Dv) | dct (ks : List Key) (xs : List Dv) | ins (c : Nat) (fs : List (Option Dv)) | dead
  /-- a tuple that holds boxes; a dict with tuples as keys -/
  | tp (xs : List Dv) | dcT (ks : List (List Key)) (xs : List Dv)
abbrev Sto := List Bo
abbrev Env := List (Option Dv)

/-- what stays the same through a law: the written part, where the classes stand -/
structure Gs where
  K : PySem.W.Frag
  cls : Nat → Addr
  exc : Nat → Value
  fld : Nat → Option Str
  /-- tuples are keys of dicts (true), or tuples without a dict are told apart (false) -/
  tk : Bool
/-- where the boxes lie (each box its addresses; none: let go), and addresses that are out of reach meanwhile -/
structure Al where
  live : List (List Addr)
  hid : List Addr
def Al.all (A : Al) : List Addr := A.live.flatten ++ A.hid

/-- a tuple, a list, read and never changed -/
def TupA (tk : Bool) (A : Al) (H : Hp) (a : Addr) (vs : List V) : Prop := (H a = some (.tup vs) ∨ (tk = false ∧ ∃ o, H a = some (.frz o (.tup vs)))) ∧ a ∉ A.all
def NtpA (A : Al) (H : Hp) (a : Addr) (vs : List V) : Prop := (∃ o : Obj, H a = some (.frz o (.tup vs)) ∧ o.dict = none ∧ o.cls = .type "tuple") ∧ a ∉ A.all
def LstA (A : Al) (H : Hp) (a : Addr) (vs : List V) : Prop := H a = some (.lst vs) ∧ a ∉ A.all
def ScrA (K : PySem.W.Frag) (A : Al) (H : Hp) (a : Addr) (vs : List V) : Prop := (Rd H a (.lst vs) ∧ a ∉ A.all) ∨ ∀ H', SqL K H' a vs
def SlIs (ws : List (Option V)) (vs : List V) : Prop := ∀ (i : Nat) (v : V), vs[i]? = some v → ws[i]? = some (some v)

/-- the caught exception at a, of the class cls, its dict at d -/
def XoH (a : Addr) (cls : Value) (d : Addr) : HO := .ext fun h => ∃ o vs, h.get? a = some o ∧ o.cls = cls ∧ o.dict = some d ∧ o.data = .fields vs
mutual
/-- data t lies as the value v -/
def RV (G : Gs) (A : Al) (H : Hp) : Dt → V → Prop
  | .non, v => v = .non
  | .bl b, v => v = .bl b
  | .int i, v => v = .int i
  | .str s, v => v = .str s
  | .tup xs, v => ∃ a vs, v = .ref a ∧ TupA G.tk A H a vs ∧ RVs G A H xs vs
  | .lst xs, v => ∃ a vs, v = .ref a ∧ LstA A H a vs ∧ RVs G A H xs vs
  | .scr xs, v => ∃ a vs, v = .ref a ∧ ScrA G.K A H a vs ∧ RVs G A H xs vs
  | .ltp xs, v => ∃ a vs, v = .ref a ∧ (∀ H', SqT G.K H' a vs) ∧ RVs G A H xs vs
  | .exc c xs, v => ∃ a d f u, v = .ref a ∧ a ∉ A.all ∧ d ∉ A.all ∧ H a = some (XoH a (G.exc c) d) ∧ H d = some (.xd [(f, u)]) ∧ G.fld c = some f ∧ RVs G A H xs [u]
  | .ntp xs, v => ∃ a vs, v = .ref a ∧ NtpA A H a vs ∧ RVs G A H xs vs
  | .dct ks xs, v => ∃ a kvs, v = .ref a ∧ a ∉ A.all ∧ Rd H a (.dK kvs) ∧ kvs.map (·.1) = ks ∧ RVs G A H xs (kvs.map (·.2))
  | .obj c xs, v => ∃ a dx ws vs, v = .ref a ∧ a ∉ A.all ∧ dx ∉ A.all ∧ (∃ u, H dx = some u) ∧ SlX.Slt H a (G.cls c) dx ws ∧ SlIs ws vs ∧ RVs G A H xs vs
def RVs (G : Gs) (A : Al) (H : Hp) : List Dt → List V → Prop
  | [], vs => vs = []
  | t :: ts, vs => ∃ v r, vs = v :: r ∧ RV G A H t v ∧ RVs G A H ts r
end
def RD (G : Gs) (A : Al) (H : Hp) : Dv → V → Prop
  | .d t, v => RV G A H t v
  | .loc n, v => ∃ l, A.live[n]? = some l ∧ ∀ a r, l = a :: r → v = .ref a
abbrev RDs (G : Gs) (A : Al) (H : Hp) : List Dv → List V → Prop := Paired (RD G A H)
def RF (G : Gs) (A : Al) (H : Hp) (fs : List (Option Dv)) (ws : List (Option V)) : Prop := ∀ (i : Nat) (d : Dv), fs[i]? = some (some d) → ∃ v, ws[i]? = some (some v) ∧ RD G A H d v
/-- the box o lies at the addresses l -/
def RB (G : Gs) (A : Al) (H : Hp) (l : List Addr) : Bo → Prop
  | .lst xs => ∃ a vs, l = [a] ∧ H a = some (.lst vs) ∧ RDs G A H xs vs
  | .dct ks xs => ∃ a kvs, l = [a] ∧ H a = some (.dK kvs) ∧ kvs.map (·.1) = ks ∧ RDs G A H xs (kvs.map (·.2))
  | .ins c fs => ∃ a dx ws, l = [a, dx] ∧ SlX.Slt H a (G.cls c) dx ws ∧ RF G A H fs ws
  | .dead => True
  | .tp xs => ∃ a vs, l = [a] ∧ H a = some (.tup vs) ∧ RDs G A H xs vs
  | .dcT ks xs => ∃ a kvs, l = [a] ∧ H a = some (.dT kvs) ∧ kvs.map (·.1) = ks ∧ RDs G A H xs (kvs.map (·.2))
structure StR (G : Gs) (A : Al) (S : Sto) (H : Hp) : Prop where
  len : A.live.length = S.length
  nd : A.all.Nodup
  alive : ∀ a ∈ A.all, ∃ o, H a = some o
  box : ∀ (i : Nat) (l : List Addr) (o : Bo), A.live[i]? = some l → S[i]? = some o → RB G A H l o
structure EnvR (G : Gs) (A : Al) (H : Hp) (ρ : Env) (σ : L2.St) : Prop where
  len : ρ.length = σ.length
  at_ : ∀ (i : Nat) (d : Dv), ρ[i]? = some (some d) → ∃ v, σ[i]? = some (some v) ∧ RD G A H d v

/-- u still stands there; a dict may have been locked -/
def Fz (u : HO) (r : Option HO) : Prop := r = some u ∨ ((∃ kvs, u = .dK kvs) ∧ ∃ o, r = some (.frz o u))
/-- what may have happened: boxes changed, were made, were let go; all else stands -/
structure Ext (A : Al) (H : Hp) (A' : Al) (H' : Hp) : Prop where
  live : ∀ (i : Nat) (l : List Addr), A.live[i]? = some l → A'.live[i]? = some l ∨ A'.live[i]? = some []
  hid : ∀ a u, H a = some u → a ∉ A.live.flatten → (a ∈ A'.hid ↔ a ∈ A.hid)
  keep : ∀ a u, H a = some u → a ∉ A.live.flatten → Fz u (H' a) ∧ a ∉ A'.live.flatten
  keepH : ∀ a u, H a = some u → a ∉ A.live.flatten → a ∈ A.hid → H' a = some u

section
variable {G : Gs} {A A' A1 : Al} {H H' H1 : Hp} {S S' : Sto}
theorem mem_all {a : Addr} : a ∉ A.all ↔ a ∉ A.live.flatten ∧ a ∉ A.hid := by
  unfold Al.all
  rw [List.mem_append]
  exact ⟨fun h => ⟨fun z => h (.inl z), fun z => h (.inr z)⟩, fun h z => z.elim h.1 h.2⟩
theorem Fz.there {u : HO} {r : Option HO} (h : Fz u r) : ∃ v, r = some v := by
  rcases h with h | ⟨_, o, h⟩
  · exact ⟨_, h⟩
  · exact ⟨_, h⟩
theorem Fz.eq {u : HO} {r : Option HO} (h : Fz u r) (n : ¬ ∃ kvs, u = .dK kvs) : r = some u := by
  rcases h with h | ⟨z, _⟩
  · exact h
  · exact absurd z n
theorem Fz.step {u v : HO} {r : Option HO} (h : Fz u (some v)) (k : Fz v r) : Fz u r := by
  rcases h with h | ⟨z, o, h⟩
  · cases h
    exact k
  · cases h
    exact .inr ⟨z, o, k.eq fun ⟨_, z⟩ => by cases z⟩
theorem Ext.refl : Ext A H A H := ⟨fun _ _ h => .inl h, fun _ _ _ _ => Iff.rfl, fun _ _ h n => ⟨.inl h, n⟩, fun _ _ h _ _ => h⟩
theorem Ext.trans (x : Ext A H A1 H1) (y : Ext A1 H1 A' H') : Ext A H A' H' := by
  refine ⟨fun i l h => ?_, fun a u h n => ?_, fun a u h n => ?_, fun a u h n m => ?_⟩
  · rcases x.live i l h with h | h
    · exact y.live i l h
    · rcases y.live i [] h with h | h
      · exact .inr h
      · exact .inr h
  · obtain ⟨h1, n1⟩ := x.keep a u h n
    obtain ⟨v, hv⟩ := h1.there
    exact (y.hid a v hv n1).trans (x.hid a u h n)
  · obtain ⟨h1, n1⟩ := x.keep a u h n
    obtain ⟨v, hv⟩ := h1.there
    obtain ⟨h2, n2⟩ := y.keep a v hv n1
    rw [hv] at h1
    exact ⟨h1.step h2, n2⟩
  · have h1 := x.keepH a u h n m
    have n1 := (x.keep a u h n).2
    exact y.keepH a u h1 n1 ((x.hid a u h n).mpr m)
theorem Ext.all {a : Addr} {u : HO} (x : Ext A H A' H') (h : H a = some u) (n : a ∉ A.all) : Fz u (H' a) ∧ a ∉ A'.all := by
  obtain ⟨n1, n2⟩ := mem_all.mp n
  obtain ⟨h1, m1⟩ := x.keep a u h n1
  exact ⟨h1, mem_all.mpr ⟨m1, fun z => n2 ((x.hid a u h n1).mp z)⟩⟩
end

/-- plain: no lock -/
def Nf (u : HO) : Prop := ∀ o u', u ≠ .frz o u'
/-- may be locked -/
def Lk (u : HO) : Prop := ∃ kvs, u = .dK kvs
/-- what data leans on is kept -/
structure Kq (A : Al) (H : Hp) (A' : Al) (H' : Hp) : Prop where
  rd : ∀ a u, Nf u → a ∉ A.all → Rd H a u → Rd H' a u ∧ a ∉ A'.all
  ex : ∀ a u, Nf u → ¬ Lk u → a ∉ A.all → H a = some u → H' a = some u ∧ a ∉ A'.all
  there : ∀ a u, a ∉ A.all → H a = some u → (∃ u', H' a = some u') ∧ a ∉ A'.all
  ef : ∀ a o vs, a ∉ A.all → H a = some (.frz o (.tup vs)) → H' a = some (.frz o (.tup vs)) ∧ a ∉ A'.all
structure Kp (A : Al) (H : Hp) (A' : Al) (H' : Hp) : Prop extends Kq A H A' H' where
  live : ∀ (i : Nat) (l : List Addr), A.live[i]? = some l → A'.live[i]? = some l ∨ A'.live[i]? = some []
section
variable {G : Gs} {A A' A1 : Al} {H H' H1 : Hp} {S S' : Sto}
theorem nf_tup {xs : List V} : Nf (.tup xs) := fun _ _ z => by cases z
theorem nf_lst {xs : List V} : Nf (.lst xs) := fun _ _ z => by cases z
theorem nf_dK {xs : List (Key × V)} : Nf (.dK xs) := fun _ _ z => by cases z
theorem nf_ins {C dx : Addr} {xs : List (Str × V)} : Nf (.ins C dx xs) := fun _ _ z => by cases z
theorem nf_slo {a C dx : Addr} {xs : List (Option V)} : Nf (SlX.SlO a C dx xs) := fun _ _ z => by cases z
theorem nf_xd {xs : List (Str × V)} : Nf (.xd xs) := fun _ _ z => by cases z
theorem lk_ins {C dx : Addr} {xs : List (Str × V)} : ¬ Lk (.ins C dx xs) := fun z => by
  obtain ⟨_, z⟩ := z
  cases z
theorem lk_slo {a C dx : Addr} {xs : List (Option V)} : ¬ Lk (SlX.SlO a C dx xs) := fun z => by
  obtain ⟨_, z⟩ := z
  cases z
theorem lk_xd {xs : List (Str × V)} : ¬ Lk (.xd xs) := fun z => by
  obtain ⟨_, z⟩ := z
  cases z
theorem Ext.kp (x : Ext A H A' H') : Kp A H A' H' := by
  refine ⟨⟨fun a u nf n h => ?_, fun a u nf lk n h => ?_, fun a u n h => ⟨(x.all h n).1.there, (x.all h n).2⟩, fun a o vs n h => ⟨(x.all h n).1.eq (fun ⟨_, z⟩ => by cases z), (x.all h n).2⟩⟩, x.live⟩
  · rcases h with h | ⟨o, h⟩
    · obtain ⟨h1, n1⟩ := x.all h n
      rcases h1 with h1 | ⟨_, o, h1⟩
      · exact ⟨.inl h1, n1⟩
      · exact ⟨.inr ⟨o, h1⟩, n1⟩
    · obtain ⟨h1, n1⟩ := x.all h n
      exact ⟨.inr ⟨o, h1.eq fun ⟨_, z⟩ => by cases z⟩, n1⟩
  · obtain ⟨h1, n1⟩ := x.all h n
    exact ⟨h1.eq lk, n1⟩
theorem lk_tup {xs : List V} : ¬ Lk (.tup xs) := fun z => by
  obtain ⟨_, z⟩ := z
  cases z
theorem TupA.kp {tk : Bool} {a : Addr} {vs : List V} (x : Kq A H A' H') (h : TupA tk A H a vs) : TupA tk A' H' a vs := by
  obtain ⟨h | ⟨e, o, h⟩, n⟩ := h
  · obtain ⟨k, m⟩ := x.ex a _ nf_tup lk_tup n h
    exact ⟨.inl k, m⟩
  · obtain ⟨k, m⟩ := x.ef a o vs n h
    exact ⟨.inr ⟨e, o, k⟩, m⟩
theorem NtpA.kp {a : Addr} {vs : List V} (x : Kq A H A' H') (h : NtpA A H a vs) : NtpA A' H' a vs := by
  obtain ⟨⟨o, h1, h2⟩, n⟩ := h
  obtain ⟨k, m⟩ := x.ef a o vs n h1
  exact ⟨⟨o, k, h2⟩, m⟩
theorem NtpA.tup {a : Addr} {vs : List V} (h : NtpA A H a vs) : TupA false A H a vs := ⟨.inr ⟨rfl, _, h.1.choose_spec.1⟩, h.2⟩
theorem lk_lst {xs : List V} : ¬ Lk (.lst xs) := fun z => by
  obtain ⟨_, z⟩ := z
  cases z
theorem LstA.kp {a : Addr} {vs : List V} (x : Kq A H A' H') (h : LstA A H a vs) : LstA A' H' a vs := x.ex a _ nf_lst lk_lst h.2 h.1
theorem ScrA.kp {K : PySem.W.Frag} {a : Addr} {vs : List V} (x : Kq A H A' H') (h : ScrA K A H a vs) : ScrA K A' H' a vs := by
  rcases h with ⟨h, n⟩ | h
  · exact .inl (x.rd a _ nf_lst n h)
  · exact .inr h
theorem ScrA.sq {K : PySem.W.Frag} {a : Addr} {vs : List V} (h : ScrA K A H a vs) : SqL K H a vs := by
  rcases h with ⟨h, _⟩ | h
  · exact .inl h
  · exact h H
theorem LstA.sq {K : PySem.W.Frag} {a : Addr} {vs : List V} (h : LstA A H a vs) : SqL K H a vs := .inl (.inl h.1)
theorem TupA.rd {tk : Bool} {a : Addr} {vs : List V} (h : TupA tk A H a vs) : Rd H a (.tup vs) := h.1.elim .inl fun z => .inr z.2
theorem TupA.sq {tk : Bool} {K : PySem.W.Frag} {a : Addr} {vs : List V} (h : TupA tk A H a vs) : SqT K H a vs := .inl h.rd
theorem slt_kp {a C dx : Addr} {ws : List (Option V)} (x : Kq A H A' H') (h : SlX.Slt H a C dx ws) (n : a ∉ A.all) (n2 : dx ∉ A.all) : SlX.Slt H' a C dx ws ∧ a ∉ A'.all := by
  rcases h with ⟨h, hw⟩ | ⟨h, h2⟩
  · obtain ⟨e, m⟩ := x.ex a _ nf_ins lk_ins n h
    exact ⟨.inl ⟨e, hw⟩, m⟩
  · obtain ⟨e, m⟩ := x.ex a _ nf_slo lk_slo n h
    obtain ⟨e2, m2⟩ := x.ex dx _ nf_xd lk_xd n2 h2
    exact ⟨.inr ⟨e, e2⟩, m⟩
theorem nf_xo {a d : Addr} {cls : Value} : Nf (XoH a cls d) := fun o v z => by
  unfold XoH at z
  cases z
theorem lk_xo {a d : Addr} {cls : Value} : ¬ Lk (XoH a cls d) := fun z => by
  obtain ⟨_, z⟩ := z
  unfold XoH at z
  cases z
mutual
theorem RV.kq (x : Kq A H A' H') : ∀ {t : Dt} {v : V}, RV G A H t v → RV G A' H' t v
  | .non, _, h => h
  | .bl _, _, h => h
  | .int _, _, h => h
  | .str _, _, h => h
  | .tup xs, v, h => by
    obtain ⟨a, vs, e, ht, hs⟩ := h
    exact ⟨a, vs, e, ht.kp x, RVs.kq x hs⟩
  | .lst xs, v, h => by
    obtain ⟨a, vs, e, ht, hs⟩ := h
    exact ⟨a, vs, e, ht.kp x, RVs.kq x hs⟩
  | .scr xs, v, h => by
    obtain ⟨a, vs, e, ht, hs⟩ := h
    exact ⟨a, vs, e, ht.kp x, RVs.kq x hs⟩
  | .ltp xs, v, h => by
    obtain ⟨a, vs, e, ht, hs⟩ := h
    exact ⟨a, vs, e, ht, RVs.kq x hs⟩
  | .exc c xs, v, h => by
    obtain ⟨a, d, f, u, e, n1, n2, h1, h2, ef, hs⟩ := h
    obtain ⟨k1, m1⟩ := x.ex a _ nf_xo lk_xo n1 h1
    obtain ⟨k2, m2⟩ := x.ex d _ nf_xd lk_xd n2 h2
    exact ⟨a, d, f, u, e, m1, m2, k1, k2, ef, RVs.kq x hs⟩
  | .ntp xs, v, h => by
    obtain ⟨a, vs, e, ht, hs⟩ := h
    exact ⟨a, vs, e, ht.kp x, RVs.kq x hs⟩
  | .dct ks xs, v, h => by
    obtain ⟨a, kvs, e, n, r, ek, hs⟩ := h
    obtain ⟨r1, n1⟩ := x.rd a _ nf_dK n r
    exact ⟨a, kvs, e, n1, r1, ek, RVs.kq x hs⟩
  | .obj c xs, v, h => by
    obtain ⟨a, dx, ws, vs, e, n, n2, ⟨u, hu⟩, hsl, hi, hs⟩ := h
    obtain ⟨h1, n1⟩ := slt_kp x hsl n n2
    obtain ⟨h3, n3⟩ := x.there dx u n2 hu
    exact ⟨a, dx, ws, vs, e, n1, n3, h3, h1, hi, RVs.kq x hs⟩
theorem RVs.kq (x : Kq A H A' H') : ∀ {t : List Dt} {v : List V}, RVs G A H t v → RVs G A' H' t v
  | [], _, h => h
  | t :: ts, vs, h => by
    obtain ⟨v, r, e, h1, h2⟩ := h
    exact ⟨v, r, e, RV.kq x h1, RVs.kq x h2⟩
end
theorem RV.kp {t : Dt} {v : V} (h : RV G A H t v) (x : Kp A H A' H') : RV G A' H' t v := RV.kq x.toKq h
theorem RVs.kp {t : List Dt} {v : List V} (h : RVs G A H t v) (x : Kp A H A' H') : RVs G A' H' t v := RVs.kq x.toKq h
theorem RD.kp (x : Kp A H A' H') {d : Dv} {v : V} (h : RD G A H d v) : RD G A' H' d v := by
  cases d with
  | d t => exact RV.kp (t := t) h x
  | loc n =>
    obtain ⟨l, e, f⟩ := h
    rcases x.live n l e with e | e
    · exact ⟨l, e, f⟩
    · exact ⟨[], e, fun a r z => by cases z⟩
theorem RDs.kp (x : Kp A H A' H') {ds : List Dv} {vs : List V} (h : RDs G A H ds vs) : RDs G A' H' ds vs := Paired.mapP h fun _ _ z => RD.kp x z
theorem EnvR.kp (x : Kp A H A' H') {ρ : Env} {σ : L2.St} (h : EnvR G A H ρ σ) : EnvR G A' H' ρ σ :=
  ⟨h.len, fun i d e => let ⟨v, e1, r⟩ := h.at_ i d e; ⟨v, e1, RD.kp x r⟩⟩
theorem RF.kp (x : Kp A H A' H') {fs : List (Option Dv)} {ws : List (Option V)} (h : RF G A H fs ws) : RF G A' H' fs ws :=
  fun i d e => let ⟨v, e1, r⟩ := h i d e; ⟨v, e1, RD.kp x r⟩
theorem RVs.paired : ∀ {ts : List Dt} {vs : List V}, RVs G A H ts vs ↔ Paired (RV G A H) ts vs
  | [], vs => ⟨fun h => by
      have e : vs = [] := h
      subst e
      exact .nil, fun h => by
      cases h
      exact (rfl : ([] : List V) = [])⟩
  | t :: ts, vs => ⟨fun h => by
      obtain ⟨v, r, e, h1, h2⟩ := h
      subst e
      exact .cons h1 (RVs.paired.mp h2), fun h => by
      cases h with
      | cons h1 h2 => exact ⟨_, _, rfl, h1, RVs.paired.mpr h2⟩⟩
theorem RVs.rds {ts : List Dt} {vs : List V} (h : RVs G A H ts vs) : RDs G A H (ts.map .d) vs := by
  have p := RVs.paired.mp h
  induction p with
  | nil => exact .nil
  | cons r _ ih => exact .cons r (ih (RVs.paired.mpr ‹_›))
theorem RVs.length {ts : List Dt} {vs : List V} (h : RVs G A H ts vs) : ts.length = vs.length := (RVs.paired.mp h).length
theorem RVs.get : ∀ {ts : List Dt} {vs : List V} {i : Nat} {t : Dt}, RVs G A H ts vs → ts[i]? = some t → ∃ v, vs[i]? = some v ∧ RV G A H t v
  | [], _, i, t, _, e => by simp at e
  | t :: ts, _, 0, _, h, e => by
    obtain ⟨v, r, rfl, h1, h2⟩ := h
    simp at e
    subst e
    exact ⟨v, rfl, h1⟩
  | t :: ts, _, i + 1, _, h, e => by
    obtain ⟨v, r, rfl, h1, h2⟩ := h
    obtain ⟨u, e1, r1⟩ := RVs.get (i := i) h2 (by simpa using e)
    exact ⟨u, by simpa using e1, r1⟩
theorem RVs.get' : ∀ {ts : List Dt} {vs : List V} {i : Nat} {v : V}, RVs G A H ts vs → vs[i]? = some v → ∃ t, ts[i]? = some t ∧ RV G A H t v
  | [], vs, i, v, h, e => by
    have z : vs = [] := h
    subst z
    simp at e
  | t :: ts, _, 0, _, h, e => by
    obtain ⟨v, r, rfl, h1, h2⟩ := h
    simp at e
    subst e
    exact ⟨t, rfl, h1⟩
  | t :: ts, _, i + 1, _, h, e => by
    obtain ⟨v, r, rfl, h1, h2⟩ := h
    obtain ⟨u, e1, r1⟩ := RVs.get' (i := i) h2 (by simpa using e)
    exact ⟨u, by simpa using e1, r1⟩
theorem RVs.append : ∀ {ts us : List Dt} {vs ws : List V}, RVs G A H ts vs → RVs G A H us ws → RVs G A H (ts ++ us) (vs ++ ws)
  | [], _, _, _, h, h2 => by
    have z : _ = [] := h
    subst z
    exact h2
  | t :: ts, _, _, _, h, h2 => by
    obtain ⟨v, r, rfl, h1, h3⟩ := h
    exact ⟨v, r ++ _, rfl, h1, RVs.append h3 h2⟩
theorem RVs.take {ts : List Dt} {vs : List V} (n : Nat) (h : RVs G A H ts vs) : RVs G A H (ts.take n) (vs.take n) := by
  induction ts generalizing vs n with
  | nil =>
    have z : vs = [] := h
    subst z
    simp [RVs]
  | cons t ts ih =>
    obtain ⟨v, r, rfl, h1, h2⟩ := h
    cases n with
    | zero => exact (rfl : ([] : List V) = [])
    | succ n => exact ⟨v, r.take n, rfl, h1, ih n h2⟩
theorem RVs.drop {ts : List Dt} {vs : List V} (n : Nat) (h : RVs G A H ts vs) : RVs G A H (ts.drop n) (vs.drop n) := by
  induction ts generalizing vs n with
  | nil =>
    have z : vs = [] := h
    subst z
    simp [RVs]
  | cons t ts ih =>
    obtain ⟨v, r, rfl, h1, h2⟩ := h
    cases n with
    | zero => exact ⟨v, r, rfl, h1, h2⟩
    | succ n => exact ih n h2
theorem RDs.get {ds : List Dv} {vs : List V} {i : Nat} {d : Dv} (h : RDs G A H ds vs) (e : ds[i]? = some d) : ∃ v, vs[i]? = some v ∧ RD G A H d v := L2.paired_get h e
theorem RDs.get' : ∀ {ds : List Dv} {vs : List V} {i : Nat} {v : V}, RDs G A H ds vs → vs[i]? = some v → ∃ d, ds[i]? = some d ∧ RD G A H d v
  | _, _, _, _, .nil, e => by simp at e
  | _, _, 0, _, .cons r _, e => by
    simp at e
    subst e
    exact ⟨_, rfl, r⟩
  | _, _, i + 1, _, .cons _ t, e => by
    obtain ⟨d, e1, r1⟩ := RDs.get' (i := i) t (by simpa using e)
    exact ⟨d, by simpa using e1, r1⟩
theorem RDs.append : ∀ {ds es : List Dv} {vs ws : List V}, RDs G A H ds vs → RDs G A H es ws → RDs G A H (ds ++ es) (vs ++ ws)
  | _, _, _, _, .nil, h => h
  | _, _, _, _, .cons r t, h => .cons r (RDs.append t h)
theorem RDs.set : ∀ {ds : List Dv} {vs : List V} (i : Nat) {d : Dv} {v : V}, RDs G A H ds vs → RD G A H d v → RDs G A H (ds.set i d) (vs.set i v)
  | _, _, _, _, _, .nil, _ => .nil
  | _, _, 0, _, _, .cons _ t, r => .cons r t
  | _, _, i + 1, _, _, .cons q t, r => .cons q (RDs.set i t r)
theorem RDs.eraseIdx : ∀ {ds : List Dv} {vs : List V} (i : Nat), RDs G A H ds vs → RDs G A H (ds.eraseIdx i) (vs.eraseIdx i)
  | _, _, _, .nil => .nil
  | _, _, 0, .cons _ t => t
  | _, _, i + 1, .cons q t => .cons q (RDs.eraseIdx i t)
theorem RDs.dropLast : ∀ {ds : List Dv} {vs : List V}, RDs G A H ds vs → RDs G A H ds.dropLast vs.dropLast
  | _, _, .nil => .nil
  | _, _, .cons _ .nil => .nil
  | _, _, .cons q (.cons r t) => .cons q (RDs.dropLast (.cons r t))
end
end Sm
/-! Sm1: what a step does to the store. -/
namespace Sm
open PySem PySem.Spec PyProof.Rows L2
section
variable {G : Gs} {A A' A1 : Al} {H H' H1 : Hp} {S S' : Sto} {p a : Addr} {o u : HO}
theorem StR.out (s : StR G A S H) (h : H p = none) : p ∉ A.all := fun z => by
  obtain ⟨o, e⟩ := s.alive p z
  rw [h] at e
  cases e
theorem upd_old (h : H p = none) (e : H a = some u) : upd H p o a = some u := by
  rw [upd_ne (ne_of_none e h)]
  exact e
/-- a new object outside of the boxes -/
theorem Ext.new (h : H p = none) : Ext A H A (upd H p o) := ⟨fun _ _ e => .inl e, fun _ _ _ _ => Iff.rfl, fun _ _ e n => ⟨.inl (upd_old h e), n⟩, fun _ _ e _ _ => upd_old h e⟩
theorem live_set {i : Nat} {x : List Addr} (h : A.live[i]? = some x) : ∀ a ∈ x, a ∈ A.live.flatten := fun a ha => List.mem_flatten.mpr ⟨x, List.mem_of_getElem? h, ha⟩
/-- a box is kept -/
theorem RB.keep {l : List Addr} {b : Bo} (k : Kp A H A' H') (hl : ∀ a ∈ l, H' a = H a) (h : RB G A H l b) : RB G A' H' l b := by
  cases b with
  | lst xs =>
    obtain ⟨a, vs, rfl, e, r⟩ := h
    exact ⟨a, vs, rfl, (hl a (by simp)).trans e, r.kp k⟩
  | dct ks xs =>
    obtain ⟨a, vs, rfl, e, ek, r⟩ := h
    exact ⟨a, vs, rfl, (hl a (by simp)).trans e, ek, r.kp k⟩
  | ins c fs =>
    obtain ⟨a, dx, ws, rfl, e, r⟩ := h
    refine ⟨a, dx, ws, rfl, ?_, r.kp k⟩
    rcases e with ⟨e, hw⟩ | ⟨e, e2⟩
    · exact .inl ⟨(hl a (by simp)).trans e, hw⟩
    · exact .inr ⟨(hl a (by simp)).trans e, (hl dx (by simp)).trans e2⟩
  | dead => trivial
  | tp xs =>
    obtain ⟨a, vs, rfl, e, r⟩ := h
    exact ⟨a, vs, rfl, (hl a (by simp)).trans e, r.kp k⟩
  | dcT ks xs =>
    obtain ⟨a, vs, rfl, e, ek, r⟩ := h
    exact ⟨a, vs, rfl, (hl a (by simp)).trans e, ek, r.kp k⟩
theorem StR.new (s : StR G A S H) (h : H p = none) : StR G A S (upd H p o) := by
  refine ⟨s.len, s.nd, fun a ha => ?_, fun i l b e1 e2 => (s.box i l b e1 e2).keep (Ext.new h).kp fun a ha => ?_⟩
  · obtain ⟨u, e⟩ := s.alive a ha
    exact ⟨u, upd_old h e⟩
  · have z : a ∈ A.all := List.mem_append_left _ (live_set e1 a ha)
    obtain ⟨u, e⟩ := s.alive a z
    rw [upd_old h e, e]
/-- a tuple, a list that stays -/
theorem RV.tup_new {ts : List Dt} {vs : List V} (s : StR G A S H) (h : H p = none) (r : RVs G A H ts vs) : RV G A (upd H p (.tup vs)) (.tup ts) (.ref p) :=
  ⟨p, vs, rfl, ⟨.inl upd_same, s.out h⟩, r.kp (Ext.new h).kp⟩
theorem RV.lst_new {ts : List Dt} {vs : List V} (s : StR G A S H) (h : H p = none) (r : RVs G A H ts vs) : RV G A (upd H p (.lst vs)) (.lst ts) (.ref p) :=
  ⟨p, vs, rfl, ⟨upd_same, s.out h⟩, r.kp (Ext.new h).kp⟩
/-! ### new boxes -/
def Al.push (A : Al) (l : List Addr) : Al := ⟨A.live ++ [l], A.hid⟩
theorem push_all {l : List Addr} {b : Addr} : b ∈ (A.push l).all ↔ b ∈ A.all ∨ b ∈ l := by
  unfold Al.push Al.all
  simp only [List.flatten_append, List.mem_append, List.flatten_cons, List.flatten_nil, List.append_nil]
  constructor
  · rintro ((h | h) | h)
    · exact .inl (.inl h)
    · exact .inr h
    · exact .inl (.inr h)
  · rintro ((h | h) | h)
    · exact .inl (.inl h)
    · exact .inr h
    · exact .inl (.inr h)
theorem push_old {l x : List Addr} {i : Nat} (h : A.live[i]? = some x) : (A.push l).live[i]? = some x := by
  unfold Al.push
  have := (List.getElem?_eq_some_iff.mp h).1
  rw [List.getElem?_append_left this]
  exact h
theorem push_at {l x : List Addr} {i : Nat} (h : (A.push l).live[i]? = some x) : A.live[i]? = some x ∨ (i = A.live.length ∧ x = l) := by
  unfold Al.push at h
  simp only at h
  by_cases hi : i < A.live.length
  · rw [List.getElem?_append_left hi] at h
    exact .inl h
  · rw [List.getElem?_append_right (by omega)] at h
    by_cases h0 : i - A.live.length = 0
    · rw [h0] at h
      simp at h
      exact .inr ⟨by omega, h.symm⟩
    · obtain ⟨k, hk⟩ : ∃ k, i - A.live.length = k + 1 := ⟨i - A.live.length - 1, by omega⟩
      rw [hk] at h
      simp at h
theorem push_nd {l : List Addr} (hn : A.all.Nodup) (hl : l.Nodup) (hx : ∀ b ∈ l, b ∉ A.all) : (A.push l).all.Nodup := by
  unfold Al.push Al.all at *
  simp only [List.flatten_append, List.flatten_cons, List.flatten_nil, List.append_nil]
  rw [List.nodup_append] at hn
  obtain ⟨n1, n2, n3⟩ := hn
  rw [List.nodup_append, List.nodup_append]
  refine ⟨⟨n1, hl, fun x hx1 y hy e => ?_⟩, n2, fun x hx1 y hy e => ?_⟩
  · subst e
    exact hx x hy (List.mem_append_left _ hx1)
  · subst e
    rcases List.mem_append.mp hx1 with z | z
    · exact n3 x z x hy rfl
    · exact hx x z (List.mem_append_right _ hy)
theorem Ext.push {l : List Addr} (hk : ∀ b v, H b = some v → H' b = some v) (hl : ∀ b ∈ l, H b = none) : Ext A H (A.push l) H' := by
  refine ⟨fun i x h => .inl (push_old h), fun _ _ _ _ => Iff.rfl, fun b v h n => ⟨.inl (hk b v h), fun z => ?_⟩, fun b v h _ _ => hk b v h⟩
  unfold Al.push at z
  simp only [List.flatten_append, List.mem_append, List.flatten_cons, List.flatten_nil, List.append_nil] at z
  rcases z with z | z
  · exact n z
  · rw [hl b z] at h
    cases h
theorem StR.push {l : List Addr} {b : Bo} (s : StR G A S H) (hk : ∀ b v, H b = some v → H' b = some v) (hl : ∀ b ∈ l, H b = none) (hl' : ∀ b ∈ l, ∃ v, H' b = some v) (hn : l.Nodup) (hb : RB G (A.push l) H' l b) : StR G (A.push l) (S ++ [b]) H' := by
  have x : Ext A H (A.push l) H' := Ext.push hk hl
  refine ⟨by simp [Al.push, s.len], push_nd s.nd hn fun c hc => s.out (hl c hc), fun c hc => ?_, fun i k o e1 e2 => ?_⟩
  · rcases push_all.mp hc with z | z
    · obtain ⟨v, e⟩ := s.alive c z
      exact ⟨v, hk c v e⟩
    · exact hl' c z
  · rcases push_at e1 with z | ⟨z, rfl⟩
    · have hi : i < S.length := by
        rw [← s.len]
        exact (List.getElem?_eq_some_iff.mp z).1
      rw [List.getElem?_append_left hi] at e2
      refine (s.box i k o z e2).keep x.kp fun c hc => ?_
      obtain ⟨v, e⟩ := s.alive c (List.mem_append_left _ (live_set z c hc))
      rw [hk c v e, e]
    · subst z
      rw [s.len, List.getElem?_append_right (Nat.le_refl _)] at e2
      simp at e2
      subst e2
      exact hb
theorem push_loc {l : List Addr} (s : StR G A S H) : (A.push l).live[S.length]? = some l := by
  unfold Al.push
  simp only
  rw [← s.len, List.getElem?_append_right (Nat.le_refl _)]
  simp
theorem RD.loc_new {r : List Addr} (s : StR G A S H) : RD G (A.push (p :: r)) H' (.loc S.length) (.ref p) :=
  ⟨p :: r, push_loc s, fun b q z => by
    injection z with z1 z2
    rw [z1]⟩
/-- a new list as a box -/
theorem box_lst {ds : List Dv} {vs : List V} (s : StR G A S H) (h : H p = none) (r : RDs G A H ds vs) :
    Ext A H (A.push [p]) (upd H p (.lst vs)) ∧ StR G (A.push [p]) (S ++ [.lst ds]) (upd H p (.lst vs)) ∧ RD G (A.push [p]) (upd H p (.lst vs)) (.loc S.length) (.ref p) := by
  have hk : ∀ b v, H b = some v → upd H p (.lst vs) b = some v := fun b v e => upd_old h e
  have hl : ∀ b ∈ [p], H b = none := fun b hb => by
    simp at hb
    rw [hb]
    exact h
  have x : Ext A H (A.push [p]) (upd H p (.lst vs)) := Ext.push hk hl
  refine ⟨x, s.push hk hl (fun b hb => ?_) (by simp) ⟨p, vs, rfl, upd_same, r.kp x.kp⟩, RD.loc_new s⟩
  simp at hb
  rw [hb]
  exact ⟨_, upd_same⟩
/-- a new instance with slots -/
theorem box_ins {c : Nat} {dx : Addr} (s : StR G A S H) (h : H p = none) (h2 : H dx = none) (ne : dx ≠ p) :
    Ext A H (A.push [p, dx]) (upd (upd H dx (.own p)) p (.ins (G.cls c) dx [])) ∧ StR G (A.push [p, dx]) (S ++ [.ins c []]) (upd (upd H dx (.own p)) p (.ins (G.cls c) dx [])) ∧
      RD G (A.push [p, dx]) (upd (upd H dx (.own p)) p (.ins (G.cls c) dx [])) (.loc S.length) (.ref p) := by
  have h3 : upd H dx (.own p) p = none := by
    rw [upd_ne ne.symm]
    exact h
  have hk : ∀ b v, H b = some v → upd (upd H dx (.own p)) p (.ins (G.cls c) dx []) b = some v := fun b v e => upd_old h3 (upd_old h2 e)
  have hl : ∀ b ∈ [p, dx], H b = none := fun b hb => by
    simp at hb
    rcases hb with rfl | rfl
    · exact h
    · exact h2
  have x : Ext A H (A.push [p, dx]) (upd (upd H dx (.own p)) p (.ins (G.cls c) dx [])) := Ext.push hk hl
  refine ⟨x, s.push hk hl (fun b hb => ?_) (by simp [ne.symm]) ⟨p, dx, [], rfl, .inl ⟨upd_same, rfl⟩, fun i d e => by simp at e⟩, RD.loc_new s⟩
  simp at hb
  rcases hb with rfl | rfl
  · exact ⟨_, upd_same⟩
  · rw [upd_ne ne, upd_same]
    exact ⟨_, rfl⟩
/-! ### a box changes -/
theorem nd_flat : ∀ {L : List (List Addr)}, L.flatten.Nodup → (∀ x ∈ L, x.Nodup) ∧ ∀ (i j : Nat) (x y : List Addr) (b : Addr), L[i]? = some x → L[j]? = some y → b ∈ x → b ∈ y → i = j
  | [], _ => ⟨fun x z => by simp at z, fun i j x y b h => by simp at h⟩
  | l :: L, h => by
    rw [List.flatten_cons, List.nodup_append] at h
    obtain ⟨h1, h2, h3⟩ := h
    obtain ⟨i1, i2⟩ := nd_flat h2
    have mem : ∀ {k : Nat} {z : List Addr} {b : Addr}, L[k]? = some z → b ∈ z → b ∈ L.flatten := fun e hb => List.mem_flatten.mpr ⟨_, List.mem_of_getElem? e, hb⟩
    refine ⟨fun x hx => ?_, fun i j x y b e1 e2 b1 b2 => ?_⟩
    · rcases List.mem_cons.mp hx with rfl | hx
      · exact h1
      · exact i1 x hx
    · cases i with
      | zero =>
        cases j with
        | zero => rfl
        | succ j =>
          simp at e1 e2
          subst e1
          exact absurd rfl (h3 b b1 b (mem e2 b2))
      | succ i =>
        cases j with
        | zero =>
          simp at e1 e2
          subst e2
          exact absurd rfl (h3 b b2 b (mem e1 b1))
        | succ j =>
          simp at e1 e2
          rw [i2 i j x y b e1 e2 b1 b2]
theorem nd_live {i j : Nat} {x y : List Addr} {b : Addr} (hn : A.all.Nodup) (h1 : A.live[i]? = some x) (h2 : A.live[j]? = some y) (b1 : b ∈ x) (b2 : b ∈ y) : i = j := by
  unfold Al.all at hn
  rw [List.nodup_append] at hn
  exact (nd_flat hn.1).2 i j x y b h1 h2 b1 b2
/-- the box i gets another content; all but its addresses stands -/
theorem Ext.box {i : Nat} {l : List Addr} (h : A.live[i]? = some l) (hk : ∀ b, b ∉ l → H' b = H b) : Ext A H A H' :=
  ⟨fun _ _ e => .inl e, fun _ _ _ _ => Iff.rfl, fun b v e n => ⟨.inl (by rw [hk b fun z => n (live_set h b z)]; exact e), n⟩, fun b v e n _ => by rw [hk b fun z => n (live_set h b z)]; exact e⟩
theorem StR.setBox {i : Nat} {l : List Addr} {b : Bo} (s : StR G A S H) (h : A.live[i]? = some l) (hk : ∀ c, c ∉ l → H' c = H c) (ha : ∀ c ∈ l, ∃ v, H' c = some v) (hb : RB G A H' l b) : StR G A (S.set i b) H' := by
  have x : Ext A H A H' := Ext.box h hk
  refine ⟨by simp [s.len], s.nd, fun c hc => ?_, fun j k o e1 e2 => ?_⟩
  · by_cases hcl : c ∈ l
    · exact ha c hcl
    · rw [hk c hcl]
      exact s.alive c hc
  · by_cases hj : j = i
    · subst hj
      have hi : j < S.length := by
        rw [← s.len]
        exact (List.getElem?_eq_some_iff.mp h).1
      rw [List.getElem?_set_self hi] at e2
      cases e2
      rw [h] at e1
      cases e1
      exact hb
    · rw [List.getElem?_set_ne (fun z => hj z.symm)] at e2
      exact (s.box j k o e1 e2).keep x.kp fun c hc => hk c fun z => hj (nd_live s.nd e1 h hc z)
theorem loc_lst {n : Nat} {xs : List Dv} {v : V} (s : StR G A S H) (r : RD G A H (.loc n) v) (e : S[n]? = some (.lst xs)) : ∃ a vs, v = .ref a ∧ A.live[n]? = some [a] ∧ H a = some (.lst vs) ∧ RDs G A H xs vs := by
  obtain ⟨l, h, f⟩ := r
  obtain ⟨a, vs, rfl, e1, r1⟩ := s.box n l _ h e
  exact ⟨a, vs, f a [] rfl, h, e1, r1⟩
theorem loc_dct {n : Nat} {ks : List Key} {xs : List Dv} {v : V} (s : StR G A S H) (r : RD G A H (.loc n) v) (e : S[n]? = some (.dct ks xs)) :
    ∃ a kvs, v = .ref a ∧ A.live[n]? = some [a] ∧ H a = some (.dK kvs) ∧ kvs.map (·.1) = ks ∧ RDs G A H xs (kvs.map (·.2)) := by
  obtain ⟨l, h, f⟩ := r
  obtain ⟨a, kvs, rfl, e1, ek, r1⟩ := s.box n l _ h e
  exact ⟨a, kvs, f a [] rfl, h, e1, ek, r1⟩
theorem loc_ins {n c : Nat} {fs : List (Option Dv)} {v : V} (s : StR G A S H) (r : RD G A H (.loc n) v) (e : S[n]? = some (.ins c fs)) :
    ∃ a dx ws, v = .ref a ∧ A.live[n]? = some [a, dx] ∧ dx ≠ a ∧ SlX.Slt H a (G.cls c) dx ws ∧ RF G A H fs ws := by
  obtain ⟨l, h, f⟩ := r
  obtain ⟨a, dx, ws, rfl, e1, r1⟩ := s.box n l _ h e
  refine ⟨a, dx, ws, f a [dx] rfl, h, fun z => ?_, e1, r1⟩
  subst z
  have hn := s.nd
  unfold Al.all at hn
  rw [List.nodup_append] at hn
  have := (nd_flat hn.1).1 _ (List.mem_of_getElem? h)
  simp at this
theorem set_lst {n : Nat} {a : Addr} {xs' : List Dv} {vs' : List V} (s : StR G A S H) (h : A.live[n]? = some [a]) (r : RDs G A H xs' vs') :
    Ext A H A (upd H a (.lst vs')) ∧ StR G A (S.set n (.lst xs')) (upd H a (.lst vs')) := by
  have hk : ∀ c, c ∉ [a] → upd H a (.lst vs') c = H c := fun c hc => upd_ne (by simpa using hc)
  have x : Ext A H A (upd H a (.lst vs')) := Ext.box h hk
  refine ⟨x, s.setBox h hk (fun c hc => ?_) ⟨a, vs', rfl, upd_same, r.kp x.kp⟩⟩
  simp at hc
  rw [hc]
  exact ⟨_, upd_same⟩
theorem set_dct {n : Nat} {a : Addr} {ks' : List Key} {xs' : List Dv} {kvs' : List (Key × V)} (s : StR G A S H) (h : A.live[n]? = some [a]) (ek : kvs'.map (·.1) = ks') (r : RDs G A H xs' (kvs'.map (·.2))) :
    Ext A H A (upd H a (.dK kvs')) ∧ StR G A (S.set n (.dct ks' xs')) (upd H a (.dK kvs')) := by
  have hk : ∀ c, c ∉ [a] → upd H a (.dK kvs') c = H c := fun c hc => upd_ne (by simpa using hc)
  have x : Ext A H A (upd H a (.dK kvs')) := Ext.box h hk
  refine ⟨x, s.setBox h hk (fun c hc => ?_) ⟨a, kvs', rfl, upd_same, ek, r.kp x.kp⟩⟩
  simp at hc
  rw [hc]
  exact ⟨_, upd_same⟩
theorem set_ins {n c : Nat} {a dx : Addr} {fs' : List (Option Dv)} {ws' : List (Option V)} (s : StR G A S H) (h : A.live[n]? = some [a, dx]) (ne : dx ≠ a) (r : RF G A H fs' ws') :
    Ext A H A (SlX.slH H a (G.cls c) dx ws') ∧ StR G A (S.set n (.ins c fs')) (SlX.slH H a (G.cls c) dx ws') := by
  have hk : ∀ b, b ∉ [a, dx] → SlX.slH H a (G.cls c) dx ws' b = H b := fun b hb => by
    simp at hb
    exact SlX.slH_ne hb.1 hb.2
  have x : Ext A H A (SlX.slH H a (G.cls c) dx ws') := Ext.box h hk
  refine ⟨x, s.setBox h hk (fun b hb => ?_) ⟨a, dx, ws', rfl, SlX.slH_slt ne, r.kp x.kp⟩⟩
  simp at hb
  unfold SlX.slH
  rcases hb with rfl | rfl
  · exact ⟨_, upd_same⟩
  · rw [upd_ne ne, upd_same]
    exact ⟨_, rfl⟩
end
end Sm
/-! Sm2: results, readings by mirrors, expressions, tests, arguments. -/
namespace Sm
open PySem PySem.Spec PyProof.Rows L2

inductive Rz (α : Type) where
  | ok (a : α) (S : Sto) | er (c : Nat) (t : Dt) (S : Sto) | bad
def Rz.bind {α β : Type} (r : Rz α) (f : α → Sto → Rz β) : Rz β := match r with
  | .ok a S => f a S
  | .er c t S => .er c t S
  | .bad => .bad
abbrev M (α : Type) := Env → Sto → Rz α
@[simp] theorem bind_ok {α β : Type} {a : α} {S : Sto} {f : α → Sto → Rz β} : (Rz.ok a S).bind f = f a S := rfl
@[simp] theorem bind_bad {α β : Type} {f : α → Sto → Rz β} : (Rz.bad : Rz α).bind f = .bad := rfl
@[simp] theorem bind_er {α β : Type} {c : Nat} {t : Dt} {S : Sto} {f : α → Sto → Rz β} : (Rz.er c t S : Rz α).bind f = .er c t S := rfl

/-- an exception as it lies: its class, its own dict -/
def ExR (G : Gs) (A : Al) (H : Hp) (c : Nat) (t : Dt) (cls : Value) (d : Option Addr) : Prop :=
  cls = G.exc c ∧ ((G.fld c = none ∧ t = .non ∧ d = none) ∨ ∃ a f v, G.fld c = some f ∧ d = some a ∧ a ∉ A.all ∧ H a = some (.xd [(f, v)]) ∧ RV G A H t v)
def Po {α : Type} (G : Gs) (E : XK) (A : Al) (H : Hp) (r : Rz α) (k : Al → Hp → α → Prop) : Prop := match r with
  | .ok a S' => ∀ A' H', Ext A H A' H' → StR G A' S' H' → k A' H' a
  | .er c t S' => ∀ A' H' cls d, Ext A H A' H' → StR G A' S' H' → ExR G A' H' c t cls d → E cls d H'
  | .bad => False
section
variable {G : Gs} {E : XK} {A A' A1 : Al} {H H' H1 : Hp} {S S' S1 : Sto}
theorem Po.mono {α : Type} {r : Rz α} {k : Al → Hp → α → Prop} (x : Ext A H A1 H1) (h : Po G E A H r k) : Po G E A1 H1 r k := by
  cases r with
  | ok a S => exact fun A' H' y s => h A' H' (x.trans y) s
  | er c t S => exact fun A' H' cls d y s e => h A' H' cls d (x.trans y) s e
  | bad => exact h
theorem Po.imp {α : Type} {r : Rz α} {k k' : Al → Hp → α → Prop} (h : Po G E A H r k) (f : ∀ a S' A' H', r = .ok a S' → Ext A H A' H' → StR G A' S' H' → k A' H' a → k' A' H' a) : Po G E A H r k' := by
  cases r with
  | ok a S => exact fun A' H' y s => f a S A' H' rfl y s (h A' H' y s)
  | er c t S => exact h
  | bad => exact h
/-- one step, then the rest -/
theorem Po.step {α β : Type} {r : Rz α} {f : α → Sto → Rz β} {k : Al → Hp → β → Prop} {k' : Al → Hp → α → Prop} (h : Po G E A H (r.bind f) k)
    (q : ∀ a S1 A1 H1, Ext A H A1 H1 → StR G A1 S1 H1 → Po G E A1 H1 (f a S1) k → k' A1 H1 a) : Po G E A H r k' := by
  cases r with
  | ok a S => exact fun A' H' y s => q a S A' H' y s (Po.mono y h)
  | er c t S => exact h
  | bad => exact h
theorem Po.now {α : Type} {a : α} {k : Al → Hp → α → Prop} (h : Po G E A H (.ok a S) k) (s : StR G A S H) : k A H a := h A H .refl s
theorem Po.at {α : Type} {a : α} {k : Al → Hp → α → Prop} (h : Po G E A H (.ok a S1) k) (x : Ext A H A1 H1) (s : StR G A1 S1 H1) : k A1 H1 a := h A1 H1 x s
end

/-! ### readings by mirrors -/
abbrev kD (G : Gs) (Q : VK) : Al → Hp → Dv → Prop := fun A' H' d => ∀ v, RD G A' H' d v → Q v H'
/-- the wish at these slots -/
abbrev Wa (W : WX) (σ : L2.St) : XK := fun c d H => W c d σ H
def tM (G : Gs) (W : WX) (m : M Dv) : TE := fun σ H Q => ∃ A ρ S, EnvR G A H ρ σ ∧ StR G A S H ∧ Po G (Wa W σ) A H (m ρ S) (kD G Q)
def tMT (G : Gs) (W : WX) (m : M Bool) : TT := fun σ H Q => ∃ A ρ S, EnvR G A H ρ σ ∧ StR G A S H ∧ Po G (Wa W σ) A H (m ρ S) fun _ H' b => Q b H'
def tMA (G : Gs) (W : WX) (m : M (List Dv)) : TA := fun σ H Q => ∃ A ρ S, EnvR G A H ρ σ ∧ StR G A S H ∧ Po G (Wa W σ) A H (m ρ S) fun A' H' ds => ∀ vs, RDs G A' H' ds vs → Q vs H'
/-- a step that raises nothing -/
abbrev Pz (α : Type) := Option (α × Sto)
def lift {α : Type} : Pz α → Rz α
  | some (a, S) => .ok a S
  | none => .bad
@[simp] theorem lift_some {α : Type} {a : α} {S : Sto} : lift (some (a, S)) = .ok a S := rfl
@[simp] theorem lift_none {α : Type} : lift (none : Pz α) = .bad := rfl
theorem Po.lift {α : Type} {G : Gs} {E E' : XK} {A : Al} {H : Hp} {o : Pz α} {k : Al → Hp → α → Prop} (h : Po G E A H (lift o) k) : Po G E' A H (Sm.lift o) k := by
  cases o with
  | none => exact h
  | some p => exact h
abbrev P1 := Dv → Sto → Pz Dv
abbrev P2 := Dv → Dv → Sto → Pz Dv
abbrev PN := List Dv → Sto → Pz Dv
abbrev PT1 := Dv → Sto → Option Bool
/-- no exception -/
abbrev Ez : XK := fun _ _ _ => False
def q1 (G : Gs) (p : P1) : V → Hp → VK → Prop := fun x H Q => ∃ A S d, RD G A H d x ∧ StR G A S H ∧ Po G Ez A H (lift (p d S)) (kD G Q)
def q2 (G : Gs) (p : P2) : R2 := fun x y H Q => ∃ A S d e, RD G A H d x ∧ RD G A H e y ∧ StR G A S H ∧ Po G Ez A H (lift (p d e S)) (kD G Q)
def qN (G : Gs) (p : PN) : List V → Hp → VK → Prop := fun xs H Q => ∃ A S ds, RDs G A H ds xs ∧ StR G A S H ∧ Po G Ez A H (lift (p ds S)) (kD G Q)
def li {α : Type} (o : Option α) (S : Sto) : Rz α := match o with
  | some a => .ok a S
  | none => .bad
@[simp] theorem li_some {α : Type} {a : α} {S : Sto} : li (some a) S = .ok a S := rfl
@[simp] theorem li_none {α : Type} {S : Sto} : li (none : Option α) S = .bad := rfl

/-! ### the mirrors' combinators -/
def mV (i : Nat) : M Dv := fun ρ S => match ρ[i]? with
  | some (some d) => .ok d S
  | _ => .bad
def mC (t : Dt) : M Dv := fun _ S => .ok (.d t) S
def m1 (p : P1) (a : M Dv) : M Dv := fun ρ S => (a ρ S).bind fun x S1 => lift (p x S1)
def m2 (p : P2) (a b : M Dv) : M Dv := fun ρ S => (a ρ S).bind fun x S1 => (b ρ S1).bind fun y S2 => lift (p x y S2)
def mN (p : PN) (a : M (List Dv)) : M Dv := fun ρ S => (a ρ S).bind fun xs S1 => lift (p xs S1)
def aNil : M (List Dv) := fun _ S => .ok [] S
def aCons (a : M Dv) (r : M (List Dv)) : M (List Dv) := fun ρ S => (a ρ S).bind fun x S1 => (r ρ S1).bind fun xs S2 => .ok (x :: xs) S2
def toB (d : Dv) : Option Bool := match d with
  | .d (.bl b) => some b
  | _ => none
def mTst (a : M Dv) : M Bool := fun ρ S => (a ρ S).bind fun d S1 => li (toB d) S1
def mTru (p : PT1) (a : M Dv) : M Bool := fun ρ S => (a ρ S).bind fun d S1 => li (p d S1) S1
def cAnd (a b : M Bool) : M Bool := fun ρ S => (a ρ S).bind fun c S1 => if c = true then b ρ S1 else .ok false S1
def cOr (a b : M Bool) : M Bool := fun ρ S => (a ρ S).bind fun c S1 => if c = true then .ok true S1 else b ρ S1
def cNot (a : M Bool) : M Bool := fun ρ S => (a ρ S).bind fun c S1 => .ok (!c) S1
def mIf (c : M Bool) (a b : M Dv) : M Dv := fun ρ S => (c ρ S).bind fun k S1 => if k = true then a ρ S1 else b ρ S1
def mAnd (a b : M Dv) : M Dv := fun ρ S => (a ρ S).bind fun x S1 => (li (toB x) S1).bind fun c S2 => if c = true then b ρ S2 else .ok (.d (.bl false)) S2
def mOr (a b : M Dv) : M Dv := fun ρ S => (a ρ S).bind fun x S1 => (li (toB x) S1).bind fun c S2 => if c = true then .ok (.d (.bl true)) S2 else b ρ S2
def mNot (a : M Dv) : M Dv := fun ρ S => (a ρ S).bind fun x S1 => (li (toB x) S1).bind fun c S2 => .ok (.d (.bl (!c))) S2
def mOrT (p : PT1) (a b : M Dv) : M Dv := fun ρ S => (a ρ S).bind fun x S1 => (li (p x S1) S1).bind fun c S2 => if c = true then .ok x S2 else b ρ S2
def mNotT (p : PT1) (a : M Dv) : M Dv := fun ρ S => (a ρ S).bind fun x S1 => (li (p x S1) S1).bind fun c S2 => .ok (.d (.bl (!c))) S2

theorem _root_.L2.PE.sm {X : Cx} {e : Expr} {t t' : TE} (h : PE X e t) (f : ∀ σ H Q, t' σ H Q → t σ H Q) : PE X e t' := ⟨fun pins s σ H Q I q => h.run pins s σ H Q I (f σ H Q q)⟩
theorem _root_.L2.PT.sm {X : Cx} {e : Expr} {t t' : TT} (h : PT X e t) (f : ∀ σ H Q, t' σ H Q → t σ H Q) : PT X e t' := ⟨fun pins s σ H Q I q => h.run pins s σ H Q I (f σ H Q q)⟩
theorem _root_.L2.PW.sm {X : Cx} {e : Expr} {t t' : TT} (h : PW X e t) (f : ∀ σ H Q, t' σ H Q → t σ H Q) : PW X e t' := ⟨fun wh pins s σ H Q I q => h.run wh pins s σ H Q I (f σ H Q q)⟩
theorem _root_.L2.PA.sm {X : Cx} {e : List Expr} {t t' : TA} (h : PA X e t) (f : ∀ σ H Q, t' σ H Q → t σ H Q) : PA X e t' := ⟨fun pos pins s σ H Q I q => h.run pos pins s σ H Q I (f σ H Q q)⟩
theorem _root_.L2.OpR.sm {X : Cx} {f : Value → Value → Sem Value} {r r' : R2} (h : OpR X f r) (k : ∀ x y H Q, r' x y H Q → r x y H Q) : OpR X f r' :=
  fun pins s σ H x y v u Q I rx ry q => h pins s σ H x y v u Q I rx ry (k x y H Q q)
theorem _root_.L2.UnR.sm {X : Cx} {f : Value → Sem Value} {r r' : V → Hp → VK → Prop} (h : UnR X f r) (k : ∀ x H Q, r' x H Q → r x H Q) : UnR X f r' :=
  fun pins s σ H x v Q I rx q => h pins s σ H x v Q I rx (k x H Q q)
theorem _root_.L2.CallR.sm {X : Cx} {f : Value} {r r' : List V → Hp → VK → Prop} (h : CallR X f r) (k : ∀ x H Q, r' x H Q → r x H Q) : CallR X f r' :=
  fun pins s σ H x v Q I rx q => h pins s σ H x v Q I rx (k x H Q q)
theorem _root_.L2.IxR.sm {X : Cx} {r r' : R2} (h : IxR X r) (k : ∀ x y H Q, r' x y H Q → r x y H Q) : IxR X r' :=
  fun a b pins s σ H x y v u Q I rx ry q => h a b pins s σ H x y v u Q I rx ry (k x y H Q q)
theorem _root_.L2.MtR.sm {X : Cx} {id : String} {r r' : V → List V → Hp → VK → Prop} (h : MtR X id r) (k : ∀ x xs H Q, r' x xs H Q → r x xs H Q) : MtR X id r' :=
  fun pins s σ H x xs v us Q I rx rxs q => h pins s σ H x xs v us Q I rx rxs (k x xs H Q q)
section
variable {X : Cx} {G : Gs} {E : XK} {W : WX} {a b c e : Expr} {es : List Expr} {pos : Pos} {ma mb : M Dv} {ca cb : M Bool}
theorem e_var {i : Nat} {x : Str} (hN : X.N[i]? = some x) (hv : Vis X.env.scope x) (hd : (x == ("__debug__" : Str)) = false) (hcd : (x == ("__classdict__" : Str)) = false) : PE X (.Name x pos) (tM G W (mV i)) := by
  refine (pe_var hN hv hd hcd).sm fun σ H Q h => ?_
  obtain ⟨A, ρ, S, he, hs, p⟩ := h
  unfold mV at p
  cases e1 : ρ[i]? with
  | none =>
    rw [e1] at p
    exact p.elim
  | some o =>
    cases o with
    | none =>
      rw [e1] at p
      exact p.elim
    | some d =>
      rw [e1] at p
      obtain ⟨v, e2, r⟩ := he.at_ i d e1
      exact ⟨v, e2, Po.now p hs v r⟩
/-- a value that leans on nothing -/
theorem e_of {t : Dt} {v : V} (h : PE X e (tC v)) (r : ∀ A H, RV G A H t v) : PE X e (tM G W (mC t)) := by
  refine h.sm fun σ H Q h => ?_
  obtain ⟨A, ρ, S, he, hs, p⟩ := h
  exact Po.now p hs v (r A H)
theorem e_int {i : Int} {j : Nat} : PE X (.Constant (.int i) j pos) (tM G W (mC (.int i))) := e_of pe_int fun _ _ => rfl
theorem e_bl {b : Bool} {j : Nat} : PE X (.Constant (.bool b) j pos) (tM G W (mC (.bl b))) := e_of pe_bl fun _ _ => rfl
theorem e_non {j : Nat} : PE X (.Constant .none j pos) (tM G W (mC .non)) := e_of pe_non fun _ _ => rfl
theorem e_str {x : Str} {j : Nat} : PE X (.Constant (.str x) j pos) (tM G W (mC (.str x))) := e_of pe_str fun _ _ => rfl
theorem then2 {σ : L2.St} {H : Hp} {ta tb : TE} {p : P2} {Q : VK} {r : R2} (ha : ta = tM G W ma) (hb : tb = tM G W mb) (h : tM G W (m2 p ma mb) σ H Q) (hr : ∀ x y H, q2 G p x y H Q → r x y H Q) :
    ta σ H fun x H1 => tb σ H1 fun y H2 => r x y H2 Q := by
  subst ha hb
  obtain ⟨A, ρ, S, he, hs, p0⟩ := h
  refine ⟨A, ρ, S, he, hs, Po.step p0 fun d S1 A1 H1 x1 s1 p1 v rv => ?_⟩
  refine ⟨A1, ρ, S1, he.kp x1.kp, s1, Po.step p1 fun d2 S2 A2 H2 x2 s2 p2 v2 rv2 => ?_⟩
  exact hr v v2 H2 ⟨A2, S2, d, d2, rv.kp x2.kp, rv2, s2, Po.lift p2⟩
theorem e_op {op : Operator} {p : P2} (ho : OpR X (binaryOp op) (q2 G p)) (ha : PE X a (tM G W ma)) (hb : PE X b (tM G W mb)) : PE X (.BinOp a op b pos) (tM G W (m2 p ma mb)) :=
  (pe_op ho ha hb).sm fun _ _ _ h => then2 rfl rfl h fun _ _ _ q => q
theorem e_cmp {op : CmpOp} {p : P2} (ho : OpR X (compareOp op) (q2 G p)) (ha : PE X a (tM G W ma)) (hb : PE X b (tM G W mb)) (hm : behindInMarks op b = false) : PE X (.Compare a [op] [b] pos) (tM G W (m2 p ma mb)) :=
  (pe_cmpR ho ha hb hm).sm fun _ _ _ h => then2 rfl rfl h fun _ _ _ q => q
theorem toB_po {d : Dv} {S : Sto} {A : Al} {H : Hp} {v : V} {k : Al → Hp → Bool → Prop} (h : Po G E A H (li (toB d) S) k) (s : StR G A S H) (r : RD G A H d v) : ∃ b, v = .bl b ∧ k A H b := by
  cases d with
  | loc n => exact h.elim
  | d t =>
    cases t with
    | bl b => exact ⟨b, r, Po.now h s⟩
    | _ => exact h.elim
theorem c_cmp {op : CmpOp} {p : P2} (ho : OpR X (compareOp op) (q2 G p)) (ha : PE X a (tM G W ma)) (hb : PE X b (tM G W mb)) (hm : behindInMarks op b = false) : PT X (.Compare a [op] [b] pos) (tMT G W (mTst (m2 p ma mb))) := by
  refine (pt_cmpR ho ha hb hm).sm fun σ H Q h => ?_
  obtain ⟨A, ρ, S, he, hs, p0⟩ := h
  refine then2 (Q := fun x H' => ∃ k, x = .bl k ∧ Q k H') rfl rfl ⟨A, ρ, S, he, hs, Po.step p0 fun d S1 A1 H1 x1 s1 p1 v rv => ?_⟩ fun _ _ _ q => q
  exact toB_po p1 s1 rv
/-- a value's truth -/
def TruS (G : Gs) (p : PT1) : Prop := ∀ (A : Al) (S : Sto) (H : Hp) (d : Dv) (v : V) (b : Bool), RD G A H d v → StR G A S H → p d S = some b → TruV G.K v H b
theorem c_tru {p : PT1} (hp : TruS G p) (hK : G.K = X.K) (ha : PE X a (tM G W ma)) (he : ∀ whole, isTrue a X.env whole = (do let v ← whole; standAt a.pos; holding [v] (truthy v))) : PT X a (tMT G W (mTru p ma)) := by
  refine (pt_truth ha he).sm fun σ H Q h => ?_
  obtain ⟨A, ρ, S, he, hs, p0⟩ := h
  refine ⟨A, ρ, S, he, hs, Po.step p0 fun d S1 A1 H1 x1 s1 p1 v rv => ?_⟩
  rw [← hK]
  cases e1 : p d S1 with
  | none =>
    rw [e1] at p1
    exact p1.elim
  | some b =>
    rw [e1] at p1
    exact ⟨b, hp A1 S1 H1 d v b rv s1 e1, Po.now p1 s1⟩
theorem w_and1 (ha : PT X a (tMT G W ca)) : PW X (.BoolOp .And [a] pos) (tMT G W ca) := pw_and1 ha
theorem w_or1 (ha : PT X a (tMT G W ca)) : PW X (.BoolOp .Or [a] pos) (tMT G W ca) := pw_or1 ha
theorem w_and (ha : PT X a (tMT G W ca)) (hb : PW X (.BoolOp .And (b :: es) pos) (tMT G W cb)) : PW X (.BoolOp .And (a :: b :: es) pos) (tMT G W (cAnd ca cb)) := by
  refine (pw_and ha hb).sm fun σ H Q h => ?_
  obtain ⟨A, ρ, S, he, hs, p0⟩ := h
  refine ⟨A, ρ, S, he, hs, Po.step p0 fun c S1 A1 H1 x1 s1 p1 => ?_⟩
  cases c with
  | true => exact ⟨A1, ρ, S1, he.kp x1.kp, s1, p1⟩
  | false => exact Po.now p1 s1
theorem w_or (ha : PT X a (tMT G W ca)) (hb : PW X (.BoolOp .Or (b :: es) pos) (tMT G W cb)) : PW X (.BoolOp .Or (a :: b :: es) pos) (tMT G W (cOr ca cb)) := by
  refine (pw_or ha hb).sm fun σ H Q h => ?_
  obtain ⟨A, ρ, S, he, hs, p0⟩ := h
  refine ⟨A, ρ, S, he, hs, Po.step p0 fun c S1 A1 H1 x1 s1 p1 => ?_⟩
  cases c with
  | true => exact Po.now p1 s1
  | false => exact ⟨A1, ρ, S1, he.kp x1.kp, s1, p1⟩
theorem c_not (ha : PT X a (tMT G W ca)) : PT X (.UnaryOp .Not a pos) (tMT G W (cNot ca)) := by
  refine (pt_not ha).sm fun σ H Q h => ?_
  obtain ⟨A, ρ, S, he, hs, p0⟩ := h
  exact ⟨A, ρ, S, he, hs, Po.step p0 fun c S1 A1 H1 x1 s1 p1 => Po.now p1 s1⟩
theorem e_if (hc : PT X c (tMT G W ca)) (ha : PE X a (tM G W ma)) (hb : PE X b (tM G W mb)) : PE X (.IfExp c a b pos) (tM G W (mIf ca ma mb)) := by
  refine (pe_ifExp hc ha hb).sm fun σ H Q h => ?_
  obtain ⟨A, ρ, S, he, hs, p0⟩ := h
  refine ⟨A, ρ, S, he, hs, Po.step p0 fun c S1 A1 H1 x1 s1 p1 => ?_⟩
  cases c with
  | true => exact ⟨A1, ρ, S1, he.kp x1.kp, s1, p1⟩
  | false => exact ⟨A1, ρ, S1, he.kp x1.kp, s1, p1⟩
theorem e_one {op : BoolOp} {t : TE} (h : PE X a t) : PE X (.BoolOp op [a] pos) t := pe_one h
theorem e_and (ha : PE X a (tM G W ma)) (hb : PE X (.BoolOp .And (b :: es) pos) (tM G W mb)) : PE X (.BoolOp .And (a :: b :: es) pos) (tM G W (mAnd ma mb)) := by
  refine (pe_and ha hb).sm fun σ H Q h => ?_
  obtain ⟨A, ρ, S, he, hs, p0⟩ := h
  refine ⟨A, ρ, S, he, hs, Po.step p0 fun d S1 A1 H1 x1 s1 p1 v rv => ?_⟩
  cases d with
  | loc n => exact p1.elim
  | d t =>
    cases t with
    | bl b =>
      refine ⟨b, rv, ?_⟩
      cases b with
      | true => exact ⟨A1, ρ, S1, he.kp x1.kp, s1, p1⟩
      | false => exact Po.now p1 s1 _ rfl
    | _ => exact p1.elim
theorem e_not (ha : PE X a (tM G W ma)) : PE X (.UnaryOp .Not a pos) (tM G W (mNot ma)) := by
  refine (pe_not ha).sm fun σ H Q h => ?_
  obtain ⟨A, ρ, S, he, hs, p0⟩ := h
  refine ⟨A, ρ, S, he, hs, Po.step p0 fun d S1 A1 H1 x1 s1 p1 v rv => ?_⟩
  cases d with
  | loc n => exact p1.elim
  | d t =>
    cases t with
    | bl b => exact ⟨b, rv, Po.now p1 s1 _ rfl⟩
    | _ => exact p1.elim
theorem e_orT {p : PT1} (hp : TruS G p) (hK : G.K = X.K) (ha : PE X a (tM G W ma)) (hb : PE X (.BoolOp .Or (b :: es) pos) (tM G W mb)) : PE X (.BoolOp .Or (a :: b :: es) pos) (tM G W (mOrT p ma mb)) := by
  refine (pe_orT ha hb).sm fun σ H Q h => ?_
  obtain ⟨A, ρ, S, he, hs, p0⟩ := h
  refine ⟨A, ρ, S, he, hs, Po.step p0 fun d S1 A1 H1 x1 s1 p1 v rv => ?_⟩
  rw [← hK]
  cases e1 : p d S1 with
  | none =>
    rw [e1] at p1
    exact p1.elim
  | some k =>
    rw [e1] at p1
    refine ⟨k, hp A1 S1 H1 d v k rv s1 e1, ?_⟩
    cases k with
    | true => exact Po.now p1 s1 v rv
    | false => exact ⟨A1, ρ, S1, he.kp x1.kp, s1, p1⟩
theorem a_nil : PA X [] (tMA G W aNil) := by
  refine pa_nil.sm fun σ H Q h => ?_
  obtain ⟨A, ρ, S, he, hs, p0⟩ := h
  exact Po.now p0 hs [] .nil
theorem a_cons {mr : M (List Dv)} (ha : PE X e (tM G W ma)) (hr : PA X es (tMA G W mr)) (hs : starEach (e :: es) X.env = (false, eval e X.env) :: starEach es X.env) : PA X (e :: es) (tMA G W (aCons ma mr)) := by
  refine (pa_cons ha hr hs).sm fun σ H Q h => ?_
  obtain ⟨A, ρ, S, he, hs, p0⟩ := h
  refine ⟨A, ρ, S, he, hs, Po.step p0 fun d S1 A1 H1 x1 s1 p1 v rv => ?_⟩
  refine ⟨A1, ρ, S1, he.kp x1.kp, s1, Po.step p1 fun ds S2 A2 H2 x2 s2 p2 vs rvs => ?_⟩
  exact Po.now p2 s2 _ (.cons (rv.kp x2.kp) rvs)
theorem e_callB {x : Str} {p' : Pos} {p : PN} {id : String} {ma : M (List Dv)} (hc : CallR X (.builtin id) (qN G p)) (hg : Gl X x) (hm : X.mg x = none) (hv : bootBuiltins x = some (.builtin id)) (ha : PA X (e :: es) (tMA G W ma)) (hn : x ≠ "__name__") (hdb : (x == ("__debug__" : Str)) = false)
    (he : starEach (e :: es) X.env = (false, eval e X.env) :: starEach es X.env) (hpl : (backTo pos (starEach es X.env)).any (·.1) = false) : PE X (.Call (.Name x p') (e :: es) [] pos) (tM G W (mN p ma)) := by
  refine (pe_callB hc hg hm hv ha hn hdb he hpl).sm fun σ H Q h => ?_
  obtain ⟨A, ρ, S, he, hs, p0⟩ := h
  exact ⟨A, ρ, S, he, hs, Po.step p0 fun ds S1 A1 H1 x1 s1 p1 vs rvs => ⟨A1, S1, ds, rvs, s1, Po.lift p1⟩⟩
theorem e_callT {x : Str} {p' : Pos} {p : PN} {T : String} {ma : M (List Dv)} (hc : CallR X (.type T) (qN G p)) (hg : Gl X x) (hm : X.mg x = none) (hv : bootBuiltins x = some (.type T)) (ha : PA X (e :: es) (tMA G W ma)) (hn : x ≠ "__name__") (hdb : (x == ("__debug__" : Str)) = false)
    (he : starEach (e :: es) X.env = (false, eval e X.env) :: starEach es X.env) (hpl : (backTo pos (starEach es X.env)).any (·.1) = false) : PE X (.Call (.Name x p') (e :: es) [] pos) (tM G W (mN p ma)) := by
  refine (pe_callTy hc hg hm hv ha hn hdb he hpl).sm fun σ H Q h => ?_
  obtain ⟨A, ρ, S, he, hs, p0⟩ := h
  exact ⟨A, ρ, S, he, hs, Po.step p0 fun ds S1 A1 H1 x1 s1 p1 vs rvs => ⟨A1, S1, ds, rvs, s1, Po.lift p1⟩⟩
theorem e_un {op : UnaryOp} {p : P1} (ho : UnR X (unaryOp op) (q1 G p)) (ha : PE X a (tM G W ma)) : PE X (.UnaryOp op a pos) (tM G W (m1 p ma)) := by
  refine (pe_un ho ha).sm fun σ H Q h => ?_
  obtain ⟨A, ρ, S, he, hs, p0⟩ := h
  exact ⟨A, ρ, S, he, hs, Po.step p0 fun d S1 A1 H1 x1 s1 p1 v rv => ⟨A1, S1, d, rv, s1, Po.lift p1⟩⟩
theorem e_ix {p : P2} (hr : IxR X (q2 G p)) (ha : PE X a (tM G W ma)) (hb : PE X b (tM G W mb)) (hs : PlainIx b) : PE X (.Subscript a b pos) (tM G W (m2 p ma mb)) :=
  (pe_ix hr ha hb hs).sm fun _ _ _ h => then2 rfl rfl h fun _ _ _ q => q
/-- displays -/
def pures : List Dv → Option (List Dt)
  | [] => some []
  | .d t :: r => (pures r).map (t :: ·)
  | .loc _ :: _ => none
theorem line_of {n : Nat} (h : n ≤ 16777216) : n ≤ sizeLine := by rw [sizeLine_eq]; exact h
def pTup : PN := fun ds S => match pures ds with
  | some ts => if ts.length ≤ 16777216 then some (.d (.tup ts), S) else none
  | none => none
def pLst : PN := fun ds S => match pures ds with
  | some ts => if ts.length ≤ 16777216 then some (.d (.lst ts), S) else none
  | none => none
def pLstB : PN := fun ds S => if ds.length ≤ 16777216 then some (.loc S.length, S ++ [.lst ds]) else none
theorem pures_rvs {A : Al} {H : Hp} : ∀ {ds : List Dv} {ts : List Dt} {vs : List V}, pures ds = some ts → RDs G A H ds vs → RVs G A H ts vs
  | [], ts, vs, e, r => by
    cases e
    cases r
    exact (rfl : ([] : List V) = [])
  | .d t :: ds, ts, vs, e, r => by
    unfold pures at e
    cases e1 : pures ds with
    | none =>
      rw [e1] at e
      cases e
    | some us =>
      rw [e1] at e
      cases e
      cases r with
      | cons r1 r2 => exact ⟨_, _, rfl, r1, pures_rvs e1 r2⟩
  | .loc n :: ds, ts, vs, e, r => by
    cases e
theorem tup_po {A : Al} {S : Sto} {H : Hp} {ds : List Dv} {vs : List V} {Q : VK} (s : StR G A S H) (r : RDs G A H ds vs) (p : Po G E A H (lift (pTup ds S)) (kD G Q)) : vs.length ≤ sizeLine ∧ ∀ q, H q = none → Q (.ref q) (upd H q (.tup vs)) := by
  unfold pTup at p
  cases e1 : pures ds with
  | none =>
    rw [e1] at p
    exact p.elim
  | some ts =>
    rw [e1] at p
    have r1 := pures_rvs e1 r
    by_cases hl : ts.length ≤ 16777216
    · simp only [hl, if_true] at p
      refine ⟨by rw [← r1.length]; exact line_of hl, fun q hq => Po.at p (Ext.new hq) (s.new hq) _ (RV.tup_new s hq r1)⟩
    · simp only [hl, if_false] at p
      exact p.elim
theorem lst_po {A : Al} {S : Sto} {H : Hp} {ds : List Dv} {vs : List V} {Q : VK} (s : StR G A S H) (r : RDs G A H ds vs) (p : Po G E A H (lift (pLst ds S)) (kD G Q)) : vs.length ≤ sizeLine ∧ ∀ q, H q = none → Q (.ref q) (upd H q (.lst vs)) := by
  unfold pLst at p
  cases e1 : pures ds with
  | none =>
    rw [e1] at p
    exact p.elim
  | some ts =>
    rw [e1] at p
    have r1 := pures_rvs e1 r
    by_cases hl : ts.length ≤ 16777216
    · simp only [hl, if_true] at p
      refine ⟨by rw [← r1.length]; exact line_of hl, fun q hq => Po.at p (Ext.new hq) (s.new hq) _ (RV.lst_new s hq r1)⟩
    · simp only [hl, if_false] at p
      exact p.elim
theorem lstB_po {A : Al} {S : Sto} {H : Hp} {ds : List Dv} {vs : List V} {Q : VK} (s : StR G A S H) (r : RDs G A H ds vs) (p : Po G E A H (lift (pLstB ds S)) (kD G Q)) : vs.length ≤ sizeLine ∧ ∀ q, H q = none → Q (.ref q) (upd H q (.lst vs)) := by
  unfold pLstB at p
  by_cases hl : ds.length ≤ 16777216
  · simp only [hl, if_true] at p
    refine ⟨by rw [← Paired.length r]; exact line_of hl, fun q hq => ?_⟩
    obtain ⟨x1, s1, r1⟩ := box_lst s hq r
    exact Po.at p x1 s1 _ r1
  · simp only [hl, if_false] at p
    exact p.elim
theorem e_tup {k : Nat} {ma : M (List Dv)} (h : PA X es (tMA G W ma)) : PE X (.Tuple es k pos) (tM G W (mN pTup ma)) := by
  refine (pe_tup h).sm fun σ H Q h => ?_
  obtain ⟨A, ρ, S, he, hs, p0⟩ := h
  exact ⟨A, ρ, S, he, hs, Po.step p0 fun ds S1 A1 H1 x1 s1 p1 vs rvs => tup_po s1 rvs p1⟩
theorem e_lst {ma : M (List Dv)} (h : PA X es (tMA G W ma)) : PE X (.List es pos) (tM G W (mN pLst ma)) := by
  refine (pe_lst h).sm fun σ H Q h => ?_
  obtain ⟨A, ρ, S, he, hs, p0⟩ := h
  exact ⟨A, ρ, S, he, hs, Po.step p0 fun ds S1 A1 H1 x1 s1 p1 vs rvs => lst_po s1 rvs p1⟩
theorem e_lstB {ma : M (List Dv)} (h : PA X es (tMA G W ma)) : PE X (.List es pos) (tM G W (mN pLstB ma)) := by
  refine (pe_lst h).sm fun σ H Q h => ?_
  obtain ⟨A, ρ, S, he, hs, p0⟩ := h
  exact ⟨A, ρ, S, he, hs, Po.step p0 fun ds S1 A1 H1 x1 s1 p1 vs rvs => lstB_po s1 rvs p1⟩
end
end Sm
/-! Sm3: statements, targets, loops. -/
namespace Sm
open PySem PySem.Spec PyProof.Rows L2

inductive Sz where
  | nx (ρ : Env) (S : Sto) | rt (d : Dv) (S : Sto) | bk (ρ : Env) (S : Sto) | ct (ρ : Env) (S : Sto) | er (c : Nat) (t : Dt) (ρ : Env) (S : Sto) | bad
abbrev SM := Env → Sto → Sz
/-- an expression's result, then a statement's -/
def Rz.to {α : Type} (r : Rz α) (ρ : Env) (f : α → Sto → Sz) : Sz := match r with
  | .ok a S => f a S
  | .er c t S => .er c t ρ S
  | .bad => .bad
@[simp] theorem to_ok {α : Type} {a : α} {S : Sto} {ρ : Env} {f : α → Sto → Sz} : (Rz.ok a S).to ρ f = f a S := rfl
@[simp] theorem to_bad {α : Type} {ρ : Env} {f : α → Sto → Sz} : (Rz.bad : Rz α).to ρ f = .bad := rfl
@[simp] theorem to_er {α : Type} {c : Nat} {t : Dt} {S : Sto} {ρ : Env} {f : α → Sto → Sz} : (Rz.er c t S : Rz α).to ρ f = .er c t ρ S := rfl

def PoS (G : Gs) (W : WX) (A : Al) (H : Hp) (r : Sz) (D : Ends) : Prop := match r with
  | .nx ρ S => ∀ A' H' σ', Ext A H A' H' → StR G A' S H' → EnvR G A' H' ρ σ' → D.nx σ' H'
  | .rt d S => ∀ A' H' v, Ext A H A' H' → StR G A' S H' → RD G A' H' d v → D.rt v H'
  | .bk ρ S => ∀ A' H' σ', Ext A H A' H' → StR G A' S H' → EnvR G A' H' ρ σ' → D.bk σ' H'
  | .ct ρ S => ∀ A' H' σ', Ext A H A' H' → StR G A' S H' → EnvR G A' H' ρ σ' → D.ct σ' H'
  | .er c t ρ S => ∀ A' H' σ' cls d, Ext A H A' H' → StR G A' S H' → EnvR G A' H' ρ σ' → ExR G A' H' c t cls d → W cls d σ' H'
  | .bad => False
section
variable {G : Gs} {W : WX} {A A' A1 : Al} {H H' H1 : Hp} {S S' S1 : Sto}
theorem PoS.mono {r : Sz} {D : Ends} (x : Ext A H A1 H1) (h : PoS G W A H r D) : PoS G W A1 H1 r D := by
  cases r with
  | nx ρ S => exact fun A' H' σ' y s e => h A' H' σ' (x.trans y) s e
  | rt d S => exact fun A' H' σ' y s e => h A' H' σ' (x.trans y) s e
  | bk ρ S => exact fun A' H' σ' y s e => h A' H' σ' (x.trans y) s e
  | ct ρ S => exact fun A' H' σ' y s e => h A' H' σ' (x.trans y) s e
  | er c t ρ S => exact fun A' H' σ' cls d y s e r => h A' H' σ' cls d (x.trans y) s e r
  | bad => exact h
/-- an expression, then the rest of a statement -/
theorem PoS.step {α : Type} {r : Rz α} {ρ : Env} {σ : L2.St} {f : α → Sto → Sz} {D : Ends} {k' : Al → Hp → α → Prop} (he : EnvR G A H ρ σ) (h : PoS G W A H (r.to ρ f) D)
    (q : ∀ a S1 A1 H1, Ext A H A1 H1 → StR G A1 S1 H1 → EnvR G A1 H1 ρ σ → PoS G W A1 H1 (f a S1) D → k' A1 H1 a) : Po G (Wa W σ) A H r k' := by
  cases r with
  | ok a S => exact fun A' H' y s => q a S A' H' y s (he.kp y.kp) (PoS.mono y h)
  | er c t S => exact fun A' H' cls d y s e => h A' H' σ cls d y s (he.kp y.kp) e
  | bad => exact h
theorem PoS.nx_now {ρ : Env} {σ : L2.St} {D : Ends} (h : PoS G W A H (.nx ρ S) D) (s : StR G A S H) (e : EnvR G A H ρ σ) : D.nx σ H := h A H σ .refl s e
/-- two statements -/
def sqz (r : Sz) (f : Env → Sto → Sz) : Sz := match r with
  | .nx ρ S => f ρ S
  | r => r
theorem PoS.sq {r : Sz} {f : Env → Sto → Sz} {D D' : Ends} (h : PoS G W A H (sqz r f) D) (hr : D'.rt = D.rt) (hb : D'.bk = D.bk) (hc : D'.ct = D.ct)
    (q : ∀ ρ S1 A1 H1 σ1, Ext A H A1 H1 → StR G A1 S1 H1 → EnvR G A1 H1 ρ σ1 → PoS G W A1 H1 (f ρ S1) D → D'.nx σ1 H1) : PoS G W A H r D' := by
  cases r with
  | nx ρ S => exact fun A' H' σ' y s e => q ρ S A' H' σ' y s e (PoS.mono y h)
  | rt d S =>
    show ∀ A' H' v, Ext A H A' H' → StR G A' S H' → RD G A' H' d v → D'.rt v H'
    rw [hr]
    exact h
  | bk ρ S =>
    show ∀ A' H' σ', Ext A H A' H' → StR G A' S H' → EnvR G A' H' ρ σ' → D'.bk σ' H'
    rw [hb]
    exact h
  | ct ρ S =>
    show ∀ A' H' σ', Ext A H A' H' → StR G A' S H' → EnvR G A' H' ρ σ' → D'.ct σ' H'
    rw [hc]
    exact h
  | er c t ρ S => exact h
  | bad => exact h
end
def tMS (G : Gs) (W : WX) (m : SM) : TS := fun D σ H => ∃ A ρ S, EnvR G A H ρ σ ∧ StR G A S H ∧ PoS G W A H (m ρ S) D
theorem _root_.L2.PS.sm {X : Cx} {e : Stmt} {t t' : TS} (h : PS X e t) (f : ∀ D σ H, t' D σ H → t D σ H) : PS X e t' := ⟨fun pins s σ H D I q => h.run pins s σ H D I (f D σ H q)⟩
theorem _root_.L2.PSs.sm {X : Cx} {e : List Stmt} {t t' : TS} (h : PSs X e t) (f : ∀ D σ H, t' D σ H → t D σ H) : PSs X e t' := ⟨fun pins s σ H D I q => h.run pins s σ H D I (f D σ H q)⟩
/-! ### combinators -/
def sNil : SM := fun ρ S => .nx ρ S
def sSeq (a b : SM) : SM := fun ρ S => sqz (a ρ S) b
def sSet (i : Nat) (m : M Dv) : SM := fun ρ S => (m ρ S).to ρ fun d S1 => .nx (ρ.set i (some d)) S1
def sIf (c : M Bool) (a b : SM) : SM := fun ρ S => (c ρ S).to ρ fun k S1 => if k = true then a ρ S1 else b ρ S1
def sRet (m : M Dv) : SM := fun ρ S => (m ρ S).to ρ fun d S1 => .rt d S1
def sDrop (m : M Dv) : SM := fun ρ S => (m ρ S).to ρ fun _ S1 => .nx ρ S1
/-- targets: what a piece of data is stored into -/
abbrev GM := Dv → Env → Option Env
def gN (i : Nat) : GM := fun d ρ => some (ρ.set i (some d))
abbrev GMs := List Dt → Env → Option Env
def gsNil : GMs := fun ts ρ => match ts with
  | [] => some ρ
  | _ => none
def gsCons (g : GM) (r : GMs) : GMs := fun ts ρ => match ts with
  | [] => none
  | t :: ts => match g (.d t) ρ with
    | some ρ1 => r ts ρ1
    | none => none
def gT (gs : GMs) : GM := fun d ρ => match d with
  | .d (.tup ts) => gs ts ρ
  | _ => none
def oz {α : Type} (o : Option α) (f : α → Sz) : Sz := match o with
  | some a => f a
  | none => .bad
def sAsg (g : GM) (m : M Dv) : SM := fun ρ S => (m ρ S).to ρ fun d S1 => oz (g d ρ) fun ρ1 => .nx ρ1 S1
def forL (g : GM) (b : SM) : List Dt → SM
  | [], ρ, S => .nx ρ S
  | t :: ts, ρ, S => oz (g (.d t) ρ) fun ρ1 => match b ρ1 S with
    | .nx ρ2 S2 => forL g b ts ρ2 S2
    | .ct ρ2 S2 => forL g b ts ρ2 S2
    | .bk ρ2 S2 => .nx ρ2 S2
    | r => r
def sFor (it : M (List Dt)) (g : GM) (b : SM) : SM := fun ρ S => (it ρ S).to ρ fun ts S1 => forL g b ts ρ S1
def whL (c : M Bool) (b : SM) : Nat → SM
  | 0, _, _ => .bad
  | n + 1, ρ, S => (c ρ S).to ρ fun k S1 => if k = true then (match b ρ S1 with
    | .nx ρ2 S2 => whL c b n ρ2 S2
    | .ct ρ2 S2 => whL c b n ρ2 S2
    | .bk ρ2 S2 => .nx ρ2 S2
    | r => r) else .nx ρ S1
/-- at most n turns -/
def sWh (n : Nat) (c : M Bool) (b : SM) : SM := whL c b n

section
variable {X : Cx} {G : Gs} {W : WX} {a b c e : Expr} {es : List Expr} {pos : Pos} {ma mb : M Dv} {ca cb : M Bool} {st : Stmt} {sts : List Stmt} {sa sb : SM}
theorem ss_nil : PSs X [] (tMS G W sNil) := by
  refine pss_nil.sm fun D σ H h => ?_
  obtain ⟨A, ρ, S, he, hs, p⟩ := h
  exact PoS.nx_now p hs he
theorem ss_cons (h1 : PS X st (tMS G W sa)) (h2 : PSs X sts (tMS G W sb)) : PSs X (st :: sts) (tMS G W (sSeq sa sb)) := by
  refine (pss_cons h1 h2).sm fun D σ H h => ?_
  obtain ⟨A, ρ, S, he, hs, p⟩ := h
  exact ⟨A, ρ, S, he, hs, PoS.sq p rfl rfl rfl fun ρ1 S1 A1 H1 σ1 x s e q => ⟨A1, ρ1, S1, e, s, q⟩⟩
theorem ss_one (h1 : PS X st (tMS G W sa)) : PSs X [st] (tMS G W sa) := pss_one h1
theorem s_expr (h : PE X e (tM G W ma)) (hs : swapsWith e none pos.line X.env = pure false) : PS X (.Expr e pos) (tMS G W (sDrop ma)) := by
  refine (ps_expr h hs).sm fun D σ H h => ?_
  obtain ⟨A, ρ, S, he, hs, p⟩ := h
  exact ⟨A, ρ, S, he, hs, PoS.step he p fun d S1 A1 H1 x s e q v rv => PoS.nx_now q s e⟩
theorem s_ret (h : PE X e (tM G W ma)) : PS X (.Return (some e) pos) (tMS G W (sRet ma)) := by
  refine (ps_ret h).sm fun D σ H h => ?_
  obtain ⟨A, ρ, S, he, hs, p⟩ := h
  exact ⟨A, ρ, S, he, hs, PoS.step he p fun d S1 A1 H1 x s e q v rv => q A1 H1 v .refl s rv⟩
theorem s_if (hc : PT X c (tMT G W ca)) (ha : PSs X sts (tMS G W sa)) {sts' : List Stmt} (hb : PSs X sts' (tMS G W sb)) : PS X (.If c sts sts' pos) (tMS G W (sIf ca sa sb)) := by
  refine (ps_if hc ha hb).sm fun D σ H h => ?_
  obtain ⟨A, ρ, S, he, hs, p⟩ := h
  refine ⟨A, ρ, S, he, hs, PoS.step he p fun k S1 A1 H1 x s e q => ?_⟩
  cases k with
  | true => exact ⟨A1, ρ, S1, e, s, q⟩
  | false => exact ⟨A1, ρ, S1, e, s, q⟩
theorem EnvR.set {A : Al} {H : Hp} {ρ : Env} {σ : L2.St} {i : Nat} {d : Dv} {v : V} (h : EnvR G A H ρ σ) (r : RD G A H d v) : EnvR G A H (ρ.set i (some d)) (σ.set i (some v)) := by
  refine ⟨by simp [h.len], fun j d' e => ?_⟩
  by_cases hj : i = j
  · subst hj
    have hi : i < ρ.length := by
      have := (List.getElem?_eq_some_iff.mp e).1
      simpa using this
    rw [List.getElem?_set_self hi] at e
    cases e
    exact ⟨v, by rw [List.getElem?_set_self (by rw [← h.len]; exact hi)], r⟩
  · rw [List.getElem?_set_ne hj] at e
    obtain ⟨u, e1, r1⟩ := h.at_ j d' e
    exact ⟨u, by rw [List.getElem?_set_ne hj]; exact e1, r1⟩
theorem s_set {i : Nat} {x : Str} {pos' : Pos} (hN : X.N.Nodup) (hi : X.N[i]? = some x) (hx : Loc X.env.scope x) (h : PE X e (tM G W ma)) (hs : swapsWith e (some (.Name x pos')) pos.line X.env = pure false) (hf : X.fn x = true ∨ X.env.scope.names.lookup x = some .local) :
    PS X (.Assign [.Name x pos'] e pos) (tMS G W (sSet i ma)) := by
  refine (ps_set hN hi hx h hs hf).sm fun D σ H h => ?_
  obtain ⟨A, ρ, S, he, hs, p⟩ := h
  exact ⟨A, ρ, S, he, hs, PoS.step he p fun d S1 A1 H1 x s e q v rv => PoS.nx_now q s (e.set rv)⟩
/-- a target that only stores into slots L -/
def TgS (G : Gs) (t : TG) (g : GM) (L : List Nat) : Prop := ∀ (A : Al) (S : Sto) (ρ ρ' : Env) (σ : L2.St) (H : Hp) (d : Dv) (v : V) (Q : L2.St → Hp → Prop), EnvR G A H ρ σ → StR G A S H → RD G A H d v → g d ρ = some ρ' →
  (∀ σ', EnvR G A H ρ' σ' → (∀ j : Nat, j ∉ L → σ'[j]? = σ[j]?) → σ'.length = σ.length → Q σ' H) → t v σ H Q
def TgSs (G : Gs) (t : TGs) (g : GMs) (L : List Nat) : Prop := ∀ (A : Al) (S : Sto) (ρ ρ' : Env) (σ : L2.St) (H : Hp) (ts : List Dt) (vs : List V) (Q : L2.St → Hp → Prop), EnvR G A H ρ σ → StR G A S H → RVs G A H ts vs → g ts ρ = some ρ' →
  (∀ σ', EnvR G A H ρ' σ' → (∀ j : Nat, j ∉ L → σ'[j]? = σ[j]?) → σ'.length = σ.length → Q σ' H) → t vs σ H Q
theorem g_name {i : Nat} : TgS G (gName i) (gN i) [i] := by
  intro A S ρ ρ' σ H d v Q he hs r e q
  cases e
  refine q _ (he.set r) (fun j hj => ?_) (by simp)
  simp at hj
  rw [List.getElem?_set_ne (fun z => hj z.symm)]
theorem gs_nil : TgSs G gNil gsNil [] := by
  intro A S ρ ρ' σ H ts vs Q he hs r e q
  cases ts with
  | nil =>
    have z : vs = [] := r
    subst z
    cases e
    exact ⟨rfl, q σ he (fun _ _ => rfl) rfl⟩
  | cons t ts => cases e
theorem gs_cons {t : TG} {u : TGs} {g : GM} {gs : GMs} {L L' : List Nat} (h1 : TgS G t g L) (h2 : TgSs G u gs L') : TgSs G (gCons t u) (gsCons g gs) (L ++ L') := by
  intro A S ρ ρ' σ H ts vs Q he hs r e q
  cases ts with
  | nil => cases e
  | cons x ts =>
    obtain ⟨v, w, rfl, r1, r2⟩ := r
    unfold gsCons at e
    simp only at e
    cases e1 : g (.d x) ρ with
    | none =>
      rw [e1] at e
      cases e
    | some ρ1 =>
      rw [e1] at e
      refine ⟨v, w, rfl, h1 A S ρ ρ1 σ H (.d x) v _ he hs r1 e1 fun σ1 he1 k1 l1 => ?_⟩
      exact h2 A S ρ1 ρ' σ1 H ts w _ he1 hs r2 e fun σ2 he2 k2 l2 => q σ2 he2 (fun j hj => by
        rw [List.mem_append] at hj
        rw [k2 j fun z => hj (.inr z), k1 j fun z => hj (.inl z)]) (l2.trans l1)
/-- the number of items that a pattern takes -/
def GLen (gs : GMs) (n : Nat) : Prop := ∀ ts ρ ρ', gs ts ρ = some ρ' → ts.length = n
theorem glen_nil : GLen gsNil 0 := fun ts ρ ρ' e => by
  cases ts with
  | nil => rfl
  | cons => cases e
theorem glen_cons {g : GM} {gs : GMs} {n : Nat} (h : GLen gs n) : GLen (gsCons g gs) (n + 1) := fun ts ρ ρ' e => by
  cases ts with
  | nil => cases e
  | cons x ts =>
    unfold gsCons at e
    simp only at e
    cases e1 : g (.d x) ρ with
    | none =>
      rw [e1] at e
      cases e
    | some ρ1 =>
      rw [e1] at e
      simp [h ts ρ1 ρ' e]
theorem g_tup {u : TGs} {gs : GMs} {L : List Nat} {n : Nat} (hl : GLen gs n) (h : TgSs G u gs L) : TgS G (gTup G.K n u) (gT gs) L := by
  intro A S ρ ρ' σ H d v Q he hs r e q
  cases d with
  | loc k => cases e
  | d t =>
    cases t with
    | tup ts =>
      obtain ⟨a, vs, rfl, ht, hv⟩ := r
      refine ⟨a, vs, rfl, ht.sq, ?_, h A S ρ ρ' σ H ts vs Q he hs hv e q⟩
      rw [← hv.length]
      exact hl ts ρ ρ' e
    | _ => cases e
theorem oz_po {A : Al} {H : Hp} {α : Type} {o : Option α} {f : α → Sz} {D : Ends} (h : PoS G W A H (oz o f) D) : ∃ a, o = some a ∧ PoS G W A H (f a) D := by
  cases o with
  | none => exact h.elim
  | some a => exact ⟨a, rfl, h⟩
theorem s_asg {tg : Expr} {t : TG} {g : GM} {L : List Nat} (hg : PG X tg t) (hgs : TgS G t g L) (h : PE X e (tM G W ma)) (hs : swapsWithSole [tg] e pos.line X.env = pure false) (hw : swappedStores [tg] e X.env = pure none) (h1 : (assignEach [tg] X.env).map (·.2) = [assign tg X.env]) :
    PS X (.Assign [tg] e pos) (tMS G W (sAsg g ma)) := by
  refine (ps_asg h hg hs hw h1).sm fun D σ H h => ?_
  obtain ⟨A, ρ, S, he, hs, p⟩ := h
  refine ⟨A, ρ, S, he, hs, PoS.step he p fun d S1 A1 H1 x s e q v rv => ?_⟩
  obtain ⟨ρ1, e1, q1⟩ := oz_po q
  exact hgs A1 S1 ρ ρ1 σ H1 d v _ e s rv e1 fun σ' he' _ _ => PoS.nx_now q1 s he'
end
/-! ### what is walked -/
/-- J, at A H, gives the data ts one behind the other -/
structure Wk (G : Gs) (J : It) (A : Al) (H : Hp) (ts : List Dt) : Prop where
  go : ∀ (i : Nat) A' H', i < ts.length → Ext A H A' H' → J.go i H'
  yld : ∀ (i : Nat) A' H' S x H2, i < ts.length → Ext A H A' H' → StR G A' S H' → J.yld i H' x H2 → ∃ t, ts[i]? = some t ∧ Ext A' H' A' H2 ∧ StR G A' S H2 ∧ RV G A' H2 t x
  stop : ∀ A' H', Ext A H A' H' → J.stop ts.length H'
/-- the iterable's mirror -/
def PIS (X : Cx) (G : Gs) (W : WX) (tg iter : Expr) (m : M (List Dt)) : Prop := ∃ wi : TI, PI X tg iter wi ∧ ∀ (σ : L2.St) (H : Hp) (A : Al) (ρ : Env) (S : Sto) (R : It → Hp → Prop), EnvR G A H ρ σ → StR G A S H →
  Po G (Wa W σ) A H (m ρ S) (fun A' H' ts => ∀ J, Wk G J A' H' ts → R J H') → wi σ H R
section
variable {X : Cx} {G : Gs} {W : WX} {tg iter : Expr} {pos : Pos} {it : M (List Dt)} {g : GM} {sb : SM} {t : TG} {L : List Nat} {body : List Stmt}
theorem s_for (hp : PassesOwn (model X.prog X.w) X.A X.env X.xe) (hc : X.calm = true) (hi : PIS X G W tg iter it) (hg : PG X tg t) (hgs : TgS G t g L) (hb : PSs X body (tMS G W sb)) (hs : ∀ x, foldedSetIterable iter X.env x = pure x) :
    PS X (.For tg iter body [] pos) (tMS G W (sFor it g sb)) := by
  obtain ⟨wi, pi, hw⟩ := hi
  refine (ps_for hp hc pi hg hb hs).sm fun D σ H h => ?_
  obtain ⟨A, ρ, S, he, hs, p⟩ := h
  refine hw σ H A ρ S _ he hs (PoS.step he p fun ts S1 A1 H1 x1 s1 e1 p1 J wk => ?_)
  refine ⟨fun i m σ' H' => ∃ A' ρ' S', Ext A1 H1 A' H' ∧ EnvR G A' H' ρ' σ' ∧ StR G A' S' H' ∧ i ≤ ts.length ∧ m = ts.length - i ∧ PoS G W A' H' (forL g sb (ts.drop i) ρ' S') D, ⟨_, A1, ρ, S1, .refl, e1, s1, Nat.zero_le _, rfl, p1⟩, fun i m σ' H' hW => ?_⟩
  obtain ⟨A', ρ', S', x', e', s', hi, hm, q⟩ := hW
  by_cases hlt : i < ts.length
  · refine .inr ⟨wk.go i A' H' hlt x', fun σ2 H2 => ∃ A2 ρ2 S2, Ext A1 H1 A2 H2 ∧ EnvR G A2 H2 ρ2 σ2 ∧ StR G A2 S2 H2 ∧ PoS G W A2 H2 (forL g sb (ts.drop (i + 1)) ρ2 S2) D, fun σ2 H2 hN => ?_, fun v H2 hy => ?_⟩
    · obtain ⟨A2, ρ2, S2, x2, e2, s2, q2⟩ := hN
      exact ⟨ts.length - (i + 1), by omega, A2, ρ2, S2, x2, e2, s2, by omega, rfl, q2⟩
    · obtain ⟨d, ed, xy, sy, rv⟩ := wk.yld i A' H' S' v H2 hlt x' s' hy
      have hd : ts.drop i = d :: ts.drop (i + 1) := by
        rw [List.drop_eq_getElem_cons hlt]
        rw [List.getElem?_eq_getElem hlt] at ed
        cases ed
        rfl
      rw [hd] at q
      unfold forL at q
      obtain ⟨ρ1, eg, q1⟩ := oz_po q
      refine hgs A' S' ρ' ρ1 σ' H2 (.d d) v _ (e'.kp xy.kp) sy rv eg fun σ2 e2 _ _ => ?_
      refine ⟨A', ρ1, S', e2, sy, ?_⟩
      have q1 := PoS.mono xy q1
      cases eb : sb ρ1 S' with
      | nx ρ2 S2 =>
        rw [eb] at q1
        exact fun A2 H3 σ3 y s e => ⟨A2, ρ2, S2, (x'.trans xy).trans y, e, s, PoS.mono y q1⟩
      | ct ρ2 S2 =>
        rw [eb] at q1
        exact fun A2 H3 σ3 y s e => ⟨A2, ρ2, S2, (x'.trans xy).trans y, e, s, PoS.mono y q1⟩
      | bk ρ2 S2 =>
        rw [eb] at q1
        exact q1
      | rt d S2 =>
        rw [eb] at q1
        exact q1
      | er c t ρ2 S2 =>
        rw [eb] at q1
        exact q1
      | bad =>
        rw [eb] at q1
        exact q1.elim
  · have hz : i = ts.length := by omega
    subst hz
    rw [List.drop_length] at q
    exact .inl ⟨wk.stop A' H' x', q A' H' σ' .refl s' e'⟩
theorem s_while {c : Expr} {cm : M Bool} {n : Nat} (hp : PassesOwn (model X.prog X.w) X.A X.env X.xe) (hc : PT X c (tMT G W cm)) (hb : PSs X body (tMS G W sb)) : PS X (.While c body [] pos) (tMS G W (sWh n cm sb)) := by
  refine (ps_while hp hc hb).sm fun D σ H h => ?_
  obtain ⟨A, ρ, S, he, hs, p⟩ := h
  refine ⟨fun m σ' H' => ∃ A' ρ' S', EnvR G A' H' ρ' σ' ∧ StR G A' S' H' ∧ PoS G W A' H' (whL cm sb m ρ' S') D, ⟨n, A, ρ, S, he, hs, p⟩, fun m σ' H' hW => ?_⟩
  obtain ⟨A', ρ', S', e', s', q⟩ := hW
  cases m with
  | zero => exact q.elim
  | succ m =>
    refine ⟨A', ρ', S', e', s', PoS.step e' q fun k S1 A1 H1 x1 s1 e1 q1 => ?_⟩
    cases k with
    | false => exact PoS.nx_now q1 s1 e1
    | true =>
      refine ⟨fun σ2 H2 => ∃ A2 ρ2 S2, EnvR G A2 H2 ρ2 σ2 ∧ StR G A2 S2 H2 ∧ PoS G W A2 H2 (whL cm sb m ρ2 S2) D, fun σ2 H2 hN => ⟨m, Nat.lt_succ_self m, hN⟩, A1, ρ', S1, e1, s1, ?_⟩
      simp only [if_true] at q1
      cases eb : sb ρ' S1 with
      | nx ρ2 S2 =>
        rw [eb] at q1
        exact fun A2 H3 σ3 y s e => ⟨A2, ρ2, S2, e, s, PoS.mono y q1⟩
      | ct ρ2 S2 =>
        rw [eb] at q1
        exact fun A2 H3 σ3 y s e => ⟨A2, ρ2, S2, e, s, PoS.mono y q1⟩
      | bk ρ2 S2 =>
        rw [eb] at q1
        exact q1
      | rt d S2 =>
        rw [eb] at q1
        exact q1
      | er c t ρ2 S2 =>
        rw [eb] at q1
        exact q1
      | bad =>
        rw [eb] at q1
        exact q1.elim
end
end Sm
/-! Sm4: defs, calls, new instances, methods, fields. -/
namespace Sm
open PySem PySem.Spec PyProof.Rows L2

abbrev FM := List Dv → Sto → Rz Dv
def SpM (G : Gs) (F : FM) : Sp := fun vs H Q E => ∃ A S ds, RDs G A H ds vs ∧ StR G A S H ∧ Po G E A H (F ds S) (kD G Q)
/-- what a def's body gives: n names, the first p its parameters -/
def runB (n p : Nat) (b : SM) : FM := fun ds S => if ds.length = p then (match b (ds.map some ++ List.replicate (n - p) none) S with
  | .nx _ S' => .ok (.d .non) S'
  | .rt d S' => .ok d S'
  | .er c t _ S' => .er c t S'
  | _ => .bad) else .bad
/-- a context: nothing is handled, names apart, exceptions that W wishes are taken, room for k calls -/
structure Bx (X : Cx) (G : Gs) (W : WX) (k : Nat) : Prop where
  calm : X.calm = true
  nd : X.N.Nodup
  tk : Takes X W
  hK : G.K = X.K
  room : Room k X.A
abbrev W0 : WX := fun _ _ _ _ => False
theorem Bx.blk {X : Cx} {G : Gs} {W : WX} {k : Nat} (B : Bx X G W k) (s : Shared) (H : Hp) (scope : Scope) (cenv : PySem.Env) (fp : List Addr) : Bx (X.blk s H scope cenv fp) G W0 k := ⟨B.calm, B.nd, takes0, B.hK, B.room⟩
theorem Bx.le {X : Cx} {G : Gs} {W : WX} {k j : Nat} (B : Bx X G W k) (h : j ≤ k) : Bx X G W j := ⟨B.calm, B.nd, B.tk, B.hK, B.room.mono h⟩
section
variable {P : Program} {w : World} {G : Gs} {mg : Str → Option Value} {base : Heap}
theorem start_rds {A : Al} {H : Hp} : ∀ {ds : List Dv} {vs : List V} (n : Nat), RDs G A H ds vs → EnvR G A H (ds.map some ++ List.replicate n none) (vs.map some ++ List.replicate n none) := by
  intro ds vs n r
  refine ⟨by simp [Paired.length r], fun i d e => ?_⟩
  by_cases hi : i < ds.length
  · have hi2 : i < vs.length := by rw [← Paired.length r]; exact hi
    rw [List.getElem?_append_left (by simpa using hi)] at e
    simp at e
    obtain ⟨v, ev, rv⟩ := r.get e
    refine ⟨v, ?_, rv⟩
    rw [List.getElem?_append_left (by simpa using hi2)]
    simp [ev]
  · rw [List.getElem?_append_right (by simp; omega)] at e
    rw [List.getElem?_replicate] at e
    split at e
    · cases e
    · cases e
/-- THE RULE for a def -/
theorem fn_ok {x qual : Str} {st : Stmt} {f : Addr} {fd : FuncData} {N ps : List Str} {k : Nat} {b : SM} (F : Fun G.K x qual st f fd) (S : FnScope N ps (defScope st)) 
    (hbody : ∀ (cdv : Value) (A : Around) (outer : List PySem.Env) (s : Shared) (H : Hp) (E : XK), Bx (cxOf (L2.CX P w) P w G.K mg base N qual (defScope st) f cdv A outer s H E) G (fun c d _ H' => E c d H') k →
      PassesOwn (model P w) (A.deeper (envOfC qual (defScope st) s.heap.objs.size f cdv)) (envOfC qual (defScope st) s.heap.objs.size f cdv) (cxOf (L2.CX P w) P w G.K mg base N qual (defScope st) f cdv A outer s H E).xe →
      PSs (cxOf (L2.CX P w) P w G.K mg base N qual (defScope st) f cdv A outer s H E) (defBody st) (tMS G (fun c d _ H' => E c d H') b)) :
    FnOk P w G.K mg base (L2.CX P w) (k + 1) f fd ps (SpM G (runB N.length ps.length b)) := by
  refine F.okX S (fun vs H Q E h => ?_) (fun cdv A outer s H vs Q E hr h => ?_)
  · obtain ⟨A, S', ds, r, s, p⟩ := h
    unfold runB at p
    split at p
    · rename_i e
      rw [← Paired.length r]
      exact e
    · exact p.elim
  · refine ⟨_, hbody cdv A outer s H E ⟨rfl, S.nd, takes_of rfl rfl rfl rfl, rfl, hr⟩ (passes_of rfl), ?_⟩
    obtain ⟨A', S', ds, r, s', p⟩ := h
    unfold runB at p
    split at p
    · rename_i e
      refine ⟨A', ds.map some ++ List.replicate (N.length - ps.length) none, S', ?_, s', ?_⟩
      · have := start_rds (N.length - vs.length) r
        rw [show N.length - ps.length = N.length - vs.length by rw [← e, Paired.length r]]
        exact this
      · cases eb : b (ds.map some ++ List.replicate (N.length - ps.length) none) S' with
        | nx ρ S1 =>
          rw [eb] at p
          exact fun A1 H1 σ1 y s1 e1 => p A1 H1 y s1 .non rfl
        | rt d S1 =>
          rw [eb] at p
          exact fun A1 H1 v y s1 e1 => p A1 H1 y s1 v e1
        | er c t ρ S1 =>
          rw [eb] at p
          exact fun A1 H1 σ1 cls d y s1 e1 x1 => p A1 H1 cls d y s1 x1
        | bk ρ S1 =>
          rw [eb] at p
          exact p.elim
        | ct ρ S1 =>
          rw [eb] at p
          exact p.elim
        | bad =>
          rw [eb] at p
          exact p.elim
    · exact p.elim
/-- a call of a certain form: n positional values, keywords named ks -/
def CallW (P : Program) (w : World) (G : Gs) (mg : Str → Option Value) (base : Heap) (k : Nat) (f : Addr) (n : Nat) (ks : List Str) (F : FM) : Prop :=
  ∀ (A : Around) (outer : List PySem.Env) (s : Shared) (H : Hp) (us ws : List Value) (vs zs : List V) (Q : VK) (E : XK), Room k A → Env0 P w G.K mg base A outer s H → Vals vs us → Vals zs ws → vs.length = n → zs.length = ks.length → SpM G F (vs ++ zs) H Q E →
    codeAny (model P w) A (.call (.ref f) ⟨us, ks.zip ws⟩) (CR (L2.CX P w) outer P w H s Q E) s
theorem CallW.mono {k j : Nat} {f : Addr} {n : Nat} {ks : List Str} {F : FM} (h : CallW P w G mg base j f n ks F) (l : j ≤ k) : CallW P w G mg base k f n ks F :=
  fun A outer s H us ws vs zs Q E hr e0 r rz l1 l2 q => h A outer s H us ws vs zs Q E (hr.mono l) e0 r rz l1 l2 q
/-- another function that promises less -/
theorem CallW.imp {k : Nat} {f : Addr} {n : Nat} {ks : List Str} {F F' : FM} (h : CallW P w G mg base k f n ks F) (i : ∀ vs H Q E, SpM G F' vs H Q E → SpM G F vs H Q E) : CallW P w G mg base k f n ks F' :=
  fun A outer s H us ws vs zs Q E hr e0 r rz l1 l2 q => h A outer s H us ws vs zs Q E hr e0 r rz l1 l2 (i _ _ _ _ q)
/-- all values written, or the defaults dds behind -/
theorem CallW.of {k : Nat} {f : Addr} {fd : FuncData} {ps : List Str} {n : Nat} {F : FM} {ds : List Value} {dvs : List V} {dds : List Dt} (h : FnOk P w G.K mg base (L2.CX P w) k f fd ps (SpM G F)) (b : Binds G.K fd ps ds) (hd : Vals dvs ds) (hr : ∀ A H, RVs G A H dds dvs) :
    CallW P w G mg base k f n [] (fun xs => F (xs ++ dds.map .d)) := by
  intro A outer s H us ws vs zs Q E hr' e0 r rz l1 l2 q
  have hz : zs = [] := by
    cases zs with
    | nil => rfl
    | cons z zs => simp at l2
  subst hz
  rw [List.append_nil] at q
  obtain ⟨A', S', es, rd, s', p⟩ := q
  have q2 : SpM G F (vs ++ dvs) H Q E := ⟨A', S', es ++ dds.map .d, rd.append (hr A' H).rds, s', p⟩
  have hl := h.len _ _ _ _ q2
  have hV := Vals.append r hd
  exact h.run A outer s H ⟨us, []⟩ (us ++ ds) (vs ++ dvs) Q E hr' e0 (b s us (e0.mod.kin.keeps fun b o e => (e0.bs b o e).1) (by rw [← hl, hV.length])) hV q2
theorem CallW.of0 {k : Nat} {f : Addr} {fd : FuncData} {ps : List Str} {n : Nat} {F : FM} (h : FnOk P w G.K mg base (L2.CX P w) k f fd ps (SpM G F)) (b : Binds G.K fd ps []) : CallW P w G mg base k f n [] F := by
  have := CallW.of (n := n) (dds := []) h b .nil (fun _ _ => (rfl : ([] : List V) = []))
  simpa using this
/-- keywords -/
theorem CallW.kw {k : Nat} {f : Addr} {fd : FuncData} {ps ks : List Str} {n : Nat} {F F' : FM} {g : List Value → List Value → List Value} {gV : List V → List V → List V} (h : FnOk P w G.K mg base (L2.CX P w) k f fd ps (SpM G F)) (b : KBn G.K fd ps n ks g gV)
    (hF : ∀ A H (xs : List Dv) (vs zs : List V), RDs G A H xs (vs ++ zs) → vs.length = n → zs.length = ks.length → ∃ ys, RDs G A H ys (gV vs zs) ∧ ∀ S, F ys S = F' xs S) : CallW P w G mg base k f n ks F' := by
  intro A outer s H us ws vs zs Q E hr' e0 r rz l1 l2 q
  obtain ⟨A', S', es, rd, s', p⟩ := q
  obtain ⟨ys, ry, ey⟩ := hF A' H es vs zs rd l1 l2
  have q2 : SpM G F (gV vs zs) H Q E := ⟨A', S', ys, ry, s', by rw [ey]; exact p⟩
  exact h.run A outer s H ⟨us, ks.zip ws⟩ (g us ws) (gV vs zs) Q E hr' e0 (b.to s us ws (e0.mod.kin.keeps fun b o e => (e0.bs b o e).1) (by rw [← r.length, l1]) (by rw [← rz.length, l2])) (b.rel r rz) q2
end

def mF (F : FM) (a : M (List Dv)) : M Dv := fun ρ S => (a ρ S).bind F
def aApp (a b : M (List Dv)) : M (List Dv) := fun ρ S => (a ρ S).bind fun xs S1 => (b ρ S1).bind fun ys S2 => .ok (xs ++ ys) S2
section
variable {X : Cx} {G : Gs} {W : WX} {k : Nat} {f : Addr} {n : Nat} {ks : List Str} {F : FM}
/-- the callee runs -/
theorem runF {pins : List (Addr × Obj)} {σ : L2.St} {H : Hp} {s : Shared} {Q : VK} {us ws : List Value} {vs zs : List V} (R : CallW X.prog X.w G X.mg X.base k f n ks F) (B : Bx X G W k) (I : Inv X pins σ H s) (r : Vals vs us) (rz : Vals zs ws) (l1 : vs.length = n) (l2 : zs.length = ks.length)
    (h : SpM G F (vs ++ zs) H Q (Wa W σ)) : wpAny (model X.prog X.w) X.A (call (.ref f) us (ks.zip ws)) (EP X pins σ Q) X.xe s := by
  refine wpAny_call (codeAny_mono (R X.A X.stack s H us ws vs zs Q (Wa W σ) B.room (by rw [B.hK]; exact I.env0) r rz l1 l2 h) fun r s' hq => ?_)
  cases r with
  | error e => exact passAt B.tk σ pins H s e s' I hq
  | ok fl =>
    cases fl with
    | ret u => exact I.after hq
    | next => exact False.elim hq
    | brk => exact False.elim hq
    | cont => exact False.elim hq
variable {x : Str} {p pos : Pos} {e : Expr} {es : List Expr} {kws : List Keyword} {ma mk : M (List Dv)}
theorem _root_.L2.PK.sm {X : Cx} {e : List Keyword} {t t' : TA} (h : PK X e t) (f : ∀ σ H Q, t' σ H Q → t σ H Q) : PK X e t' := ⟨fun pos pins s σ H Q I q => h.run pos pins s σ H Q I (f σ H Q q)⟩
theorem k_nil : PK X [] (tMA G W aNil) := by
  refine pk_nil.sm fun σ H Q h => ?_
  obtain ⟨A, ρ, S, he, hs, p0⟩ := h
  exact Po.now p0 hs [] .nil
theorem k_cons {m : M Dv} {mr : M (List Dv)} {nm : Option Str} {kpos : Pos} (ha : PE X e (tM G W m)) (hr : PK X kws (tMA G W mr)) : PK X (⟨nm, e, kpos⟩ :: kws) (tMA G W (aCons m mr)) := by
  refine (pk_cons ha hr).sm fun σ H Q h => ?_
  obtain ⟨A, ρ, S, he, hs, p0⟩ := h
  refine ⟨A, ρ, S, he, hs, Po.step p0 fun d S1 A1 H1 x1 s1 p1 v rv => ?_⟩
  refine ⟨A1, ρ, S1, he.kp x1.kp, s1, Po.step p1 fun ds S2 A2 H2 x2 s2 p2 vs rvs => ?_⟩
  exact Po.now p2 s2 _ (.cons (rv.kp x2.kp) rvs)
/-- lengths that a mirror of arguments always has -/
def ALen (m : M (List Dv)) (n : Nat) : Prop := ∀ ρ S ds S', m ρ S = .ok ds S' → ds.length = n
theorem al_nil : ALen aNil 0 := fun ρ S ds S' e => by cases e; rfl
theorem al_cons {m : M Dv} {mr : M (List Dv)} {n : Nat} (h : ALen mr n) : ALen (aCons m mr) (n + 1) := fun ρ S ds S' e => by
  unfold aCons at e
  cases e1 : m ρ S with
  | bad => rw [e1] at e; cases e
  | er c t S1 => rw [e1] at e; cases e
  | ok d S1 =>
    rw [e1] at e
    simp only [bind_ok] at e
    cases e2 : mr ρ S1 with
    | bad => rw [e2] at e; cases e
    | er c t S2 => rw [e2] at e; cases e
    | ok ds2 S2 =>
      rw [e2] at e
      cases e
      simp [h ρ S1 ds2 S' e2]
theorem Po.step' {α β : Type} {G : Gs} {E : XK} {A : Al} {H : Hp} {r : Rz α} {f : α → Sto → Rz β} {k : Al → Hp → β → Prop} {k' : Al → Hp → α → Prop} (h : Po G E A H (r.bind f) k)
    (q : ∀ a S1 A1 H1, r = .ok a S1 → Ext A H A1 H1 → StR G A1 S1 H1 → Po G E A1 H1 (f a S1) k → k' A1 H1 a) : Po G E A H r k' := by
  cases r with
  | ok a S => exact fun A' H' y s => q a S A' H' rfl y s (Po.mono y h)
  | er c t S => exact h
  | bad => exact h
theorem e_call (R : CallW X.prog X.w G X.mg X.base k f n [] F) (B : Bx X G W k) (hg : Gl X x) (hm : X.mg x = some (.ref f)) (hk : PySem.W.keepIn X.K (.ref f) = true) (ha : PA X (e :: es) (tMA G W ma)) (al : ALen ma n) (hdb : (x == ("__debug__" : Str)) = false)
    (he : starEach (e :: es) X.env = (false, eval e X.env) :: starEach es X.env) (hpl : (backTo pos (starEach es X.env)).any (·.1) = false) : PE X (.Call (.Name x p) (e :: es) [] pos) (tM G W (mF F ma)) := by
  refine ⟨fun pins s σ H Q I h => ?_⟩
  obtain ⟨A, ρ, S, he', hs, p0⟩ := h
  refine wpAny_Call_Name_kw (ld_glob I hg hm ?_ hdb)
  refine PySem.W.callWith_K (h₀ := X.base) I.ok.mod.kin hk (thn (ha.run pos pins s σ H (fun vs H' => vs.length = n ∧ SpM G F (vs ++ []) H' Q (Wa W σ)) I ⟨A, ρ, S, he', hs, Po.step' p0 fun ds S1 A1 H1 e0 x1 s1 p1 vs rvs => ⟨by rw [← Paired.length rvs]; exact al ρ S ds S1 e0, A1, S1, ds, by rw [List.append_nil]; exact rvs, s1, p1⟩⟩) fun us s1 ⟨vs, H1, I1, r, l, q⟩ => ⟨I1.kIn, ?_⟩) he hpl
  exact runF (ws := []) (zs := []) R B I1 r .nil l rfl q
theorem e_call0 (R : CallW X.prog X.w G X.mg X.base k f 0 [] F) (B : Bx X G W k) (hg : Gl X x) (hm : X.mg x = some (.ref f)) (hk : PySem.W.keepIn X.K (.ref f) = true) (hdb : (x == ("__debug__" : Str)) = false) : PE X (.Call (.Name x p) [] [] pos) (tM G W (mF F aNil)) := by
  refine ⟨fun pins s σ H Q I h => ?_⟩
  obtain ⟨A, ρ, S, he', hs, p0⟩ := h
  refine wpAny_Call_Name_kw (ld_glob I hg hm ?_ hdb)
  exact PySem.W.callWith_K0 I.kIn hk (runF (us := []) (ws := []) (vs := []) (zs := []) R B I .nil .nil rfl rfl ⟨A, S, [], .nil, hs, p0⟩)
theorem e_callK0 (R : CallW X.prog X.w G X.mg X.base k f 0 ks F) (B : Bx X G W k) (hg : Gl X x) (hm : X.mg x = some (.ref f)) (hk : PySem.W.keepIn X.K (.ref f) = true) (hkw : PK X kws (tMA G W mk)) (al2 : ALen mk ks.length)
    (hall : (backToKw pos (keywordEach kws X.env)).all (·.1.isSome) = true) (hks : (backToKw pos (keywordEach kws X.env)).filterMap (·.1) = ks) (hdb : (x == ("__debug__" : Str)) = false)
    (hpl : ((backTo pos (starEach [] X.env)).any (·.1) || (backToKw pos (keywordEach kws X.env)).any (·.1.isNone)) = false) : PE X (.Call (.Name x p) [] kws pos) (tM G W (mF F mk)) := by
  refine ⟨fun pins s σ H Q I h => ?_⟩
  obtain ⟨A, ρ, S, he', hs, p0⟩ := h
  refine wpAny_Call_Name_kw (ld_glob I hg hm ?_ hdb)
  refine PySem.W.callWith_KW0 (h₀ := X.base) I.ok.mod.kin hk hall ?_ hpl
  refine thn (hkw.run pos pins s σ H (fun zs H2 => zs.length = ks.length ∧ SpM G F ([] ++ zs) H2 Q (Wa W σ)) I ⟨A, ρ, S, he', hs, Po.step' p0 fun ys S2 A2 H2 e2 x2 s2 p3 zs rzs => ⟨by rw [← Paired.length rzs]; exact al2 ρ S ys S2 e2, A2, S2, ys, rzs, s2, p3⟩⟩) fun ws s2 ⟨zs, H2, I2, rz, l2, q2⟩ => ⟨I2.kIn, ?_⟩
  rw [hks]
  exact runF (us := []) (vs := []) R B I2 .nil rz rfl l2 q2
end
end Sm
/-! Sm5: instances with slots, letting boxes go, calls in a world of their own, comprehensions. -/
namespace Sm
open PySem PySem.Spec PyProof.Rows L2

/-! ### instances -/
/-- d is an instance of the class c -/
def isIns (c : Nat) (d : Dv) (S : Sto) : Bool := match d with
  | .d (.obj c' _) => c' == c
  | .loc n => (match S[n]? with
    | some (.ins c' _) => c' == c
    | _ => false)
  | _ => false
theorem isIns_slt {G : Gs} {A : Al} {S : Sto} {H : Hp} {c : Nat} {d : Dv} {v : V} (s : StR G A S H) (r : RD G A H d v) (h : isIns c d S = true) : ∃ a dx ws, v = .ref a ∧ SlX.Slt H a (G.cls c) dx ws := by
  cases d with
  | d t =>
    cases t with
    | obj c' xs =>
      obtain ⟨a, dx, ws, vs, e, _, _, _, hs, _⟩ := r
      have : c' = c := by simpa [isIns] using h
      subst this
      exact ⟨a, dx, ws, e, hs⟩
    | _ => simp [isIns] at h
  | loc n =>
    cases e : S[n]? with
    | none => simp [isIns, e] at h
    | some o =>
      cases o with
      | ins c' fs =>
        have : c' = c := by simpa [isIns, e] using h
        subst this
        obtain ⟨a, dx, ws, e1, _, _, hs, _⟩ := loc_ins s r e
        exact ⟨a, dx, ws, e1, hs⟩
      | _ => simp [isIns, e] at h
def pFld (c i : Nat) : P1 := fun d S => match d with
  | .d (.obj c' xs) => if c' = c then (match xs[i]? with
    | some t => some (.d t, S)
    | none => none) else none
  | .loc n => (match S[n]? with
    | some (.ins c' fs) => if c' = c then (match fs[i]? with
      | some (some d) => some (d, S)
      | _ => none) else none
    | _ => none)
  | _ => none
theorem fld_at {G : Gs} {A : Al} {S S' : Sto} {H : Hp} {c i : Nat} {d d' : Dv} {v : V} (s : StR G A S H) (r : RD G A H d v) (h : pFld c i d S = some (d', S')) : S' = S ∧ ∃ a dx ws u, v = .ref a ∧ SlX.Slt H a (G.cls c) dx ws ∧ ws[i]? = some (some u) ∧ RD G A H d' u := by
  cases d with
  | d t =>
    cases t with
    | obj c' xs =>
      obtain ⟨a, dx, ws, vs, e, _, _, _, hs, hi, hv⟩ := r
      unfold pFld at h
      simp only at h
      split at h
      · rename_i hc
        subst hc
        cases ex : xs[i]? with
        | none => rw [ex] at h; cases h
        | some t =>
          rw [ex] at h
          cases h
          obtain ⟨u, eu, ru⟩ := hv.get ex
          exact ⟨rfl, a, dx, ws, u, e, hs, hi i u eu, ru⟩
      · cases h
    | _ => cases h
  | loc n =>
    unfold pFld at h
    simp only at h
    cases e : S[n]? with
    | none => rw [e] at h; cases h
    | some o =>
      rw [e] at h
      cases o with
      | ins c' fs =>
        simp only at h
        split at h
        · rename_i hc
          subst hc
          obtain ⟨a, dx, ws, e1, _, _, hs, hf⟩ := loc_ins s r e
          cases ex : fs[i]? with
          | none => rw [ex] at h; cases h
          | some o =>
            rw [ex] at h
            cases o with
            | none => cases h
            | some d2 =>
              cases h
              obtain ⟨u, eu, ru⟩ := hf i d' ex
              exact ⟨rfl, a, dx, ws, u, e1, hs, eu, ru⟩
        · cases h
      | _ => cases h
/-- o.f = d -/
def putF (i : Nat) (d : Dv) (fs : List (Option Dv)) : List (Option Dv) := (fs ++ List.replicate (i + 1 - fs.length) none).set i (some d)
def stFld (c i : Nat) (o d : Dv) (S : Sto) : Option Sto := match o with
  | .loc n => (match S[n]? with
    | some (.ins c' fs) => if c' = c then some (S.set n (.ins c (putF i d fs))) else none
    | _ => none)
  | _ => none
theorem putF_rf {G : Gs} {A : Al} {H : Hp} {i : Nat} {d : Dv} {v : V} {fs : List (Option Dv)} {ws : List (Option V)} (h : RF G A H fs ws) (r : RD G A H d v) : RF G A H (putF i d fs) (SlX.putS i v ws) := by
  intro j e he
  by_cases hj : i = j
  · subst hj
    have hl : i < (fs ++ List.replicate (i + 1 - fs.length) (none : Option Dv)).length := by simp; omega
    unfold putF at he
    rw [List.getElem?_set_self hl] at he
    cases he
    exact ⟨v, SlX.putS_get i v ws, r⟩
  · unfold putF at he
    rw [List.getElem?_set_ne hj] at he
    have h2 : fs[j]? = some (some e) := by
      by_cases hlt : j < fs.length
      · rw [List.getElem?_append_left hlt] at he
        exact he
      · rw [List.getElem?_append_right (by omega), List.getElem?_replicate] at he
        split at he <;> cases he
    obtain ⟨u, eu, ru⟩ := h j e h2
    exact ⟨u, (SlX.putS_ne (fun z => hj z.symm)).mpr eu, ru⟩
def sFld (c i : Nat) (mo mv : M Dv) : SM := fun ρ S => (mv ρ S).to ρ fun d S1 => (mo ρ S1).to ρ fun o S2 => oz (stFld c i o d S2) fun S3 => .nx ρ S3
section
variable {X : Cx} {G : Gs} {W : WX} {k n : Nat} {f g C : Addr} {ks : List Str} {F : FM} {x m : Str} {p pos pos' apos : Pos} {o e value : Expr} {es : List Expr} {kws : List Keyword} {mo mv : M Dv} {ma mk : M (List Dv)} {c i : Nat}
theorem e_fld {pp : Addr} (B : Bx X G W k) (cl : SlX.SCls X.K (G.cls c)) (sl : SlX.Slot1 X.K (G.cls c) m pp i) (he : PE X e (tM G W mo)) (hb : attributeBase e m X.env (eval e X.env) = eval e X.env) : PE X (.Attribute e m pos) (tM G W (m1 (pFld c i) mo)) := by
  refine (SlX.pe_sl he hb).sm fun σ H Q h => ?_
  obtain ⟨A, ρ, S, he, hs, p0⟩ := h
  refine ⟨A, ρ, S, he, hs, Po.step p0 fun d S1 A1 H1 x1 s1 p1 v rv => ?_⟩
  cases e1 : pFld c i d S1 with
  | none => rw [e1] at p1; exact p1.elim
  | some q =>
    obtain ⟨d', S2⟩ := q
    rw [e1] at p1
    obtain ⟨e2, a, dx, ws, u, ev, hsl, hw, ru⟩ := fld_at s1 rv e1
    subst e2
    exact ⟨a, G.cls c, dx, pp, ws, i, u, ev, hsl, cl, sl, hw, Po.now p1 s1 u ru⟩
theorem s_fld {pp : Addr} (B : Bx X G W k) (cl : SlX.SCls X.K (G.cls c)) (sl : SlX.Slot1 X.K (G.cls c) m pp i) (ho : PE X o (tM G W mo)) (hv : PE X value (tM G W mv)) (hs : swapsWith value (some (.Attribute o m pos')) pos.line X.env = pure false) :
    PS X (.Assign [.Attribute o m pos'] value pos) (tMS G W (sFld c i mo mv)) := by
  refine (SlX.ps_sl ho hv hs).sm fun D σ H h => ?_
  obtain ⟨A, ρ, S, he, hs, p0⟩ := h
  refine ⟨A, ρ, S, he, hs, PoS.step he p0 fun d S1 A1 H1 x1 s1 e1 p1 v rv => ?_⟩
  refine ⟨A1, ρ, S1, e1, s1, PoS.step e1 p1 fun o' S2 A2 H2 x2 s2 e2 p2 y ry => ?_⟩
  obtain ⟨S3, e3, p3⟩ := oz_po p2
  unfold stFld at e3
  cases o' with
  | d t => cases e3
  | loc n =>
    simp only at e3
    cases es : S2[n]? with
    | none => rw [es] at e3; cases e3
    | some b =>
      rw [es] at e3
      cases b with
      | ins c' fs =>
        simp only at e3
        split at e3
        · rename_i hc
          subst hc
          cases e3
          obtain ⟨a, dx, ws, ey, hl, ne, hsl, hf⟩ := loc_ins s2 ry es
          obtain ⟨x3, s3⟩ := set_ins s2 hl ne (putF_rf (i := i) hf (rv.kp x2.kp))
          exact ⟨a, G.cls c', dx, pp, ws, i, ey, hsl, cl, sl, p3 A2 _ σ x3 s3 (e2.kp x3.kp)⟩
        · cases e3
      | _ => cases e3
theorem make_po {A : Al} {σ : L2.St} {S1 : Sto} {H1 : Hp} {ds : List Dv} {vs : List V} {Q : VK} (s1 : StR G A S1 H1) (rvs : RDs G A H1 ds vs)
    (p1 : Po G (Wa W σ) A H1 ((F (.loc S1.length :: ds) (S1 ++ [.ins c []])).bind fun r S2 => match r with
      | .d .non => .ok (.loc S1.length) S2
      | _ => .bad) (kD G Q)) : ∀ x dx, H1 x = none → H1 dx = none → dx ≠ x → SpM G F (V.ref x :: vs) (upd (upd H1 dx (.own x)) x (.ins (G.cls c) dx [])) (fun v H2 => v = .non ∧ Q (.ref x) H2) (Wa W σ) := by
  intro x dx hx hdx ne
  obtain ⟨x3, s3, r3⟩ := box_ins (c := c) s1 hx hdx ne
  refine ⟨A.push [x, dx], S1 ++ [.ins c []], .loc S1.length :: ds, .cons r3 (rvs.kp x3.kp), s3, Po.step (Po.mono x3 p1) fun r S2 A2 H2 x2 s2 p2 v rv => ?_⟩
  cases r with
  | loc n => exact p2.elim
  | d t =>
    cases t with
    | non => exact ⟨rv, Po.now p2 s2 _ (r3.kp x2.kp)⟩
    | _ => exact p2.elim
end

/-! ### a box is let go -/
def dpures : List (Option Dv) → Option (List Dt)
  | [] => some []
  | some (.d t) :: r => (dpures r).map (t :: ·)
  | _ :: _ => none
/-- a list or an instance that nobody will change: from here on data -/
def frz (d : Dv) (S : Sto) : Pz Dv := match d with
  | .loc n => (match S[n]? with
    | some (.lst xs) => (match pures xs with
      | some ts => some (.d (.lst ts), S.set n .dead)
      | none => none)
    | some (.ins c fs) => (match dpures fs with
      | some ts => some (.d (.obj c ts), S.set n .dead)
      | none => none)
    | some (.dct ks xs) => (match pures xs with
      | some ts => some (.d (.dct ks ts), S.set n .dead)
      | none => none)
    | _ => none)
  | .d t => some (.d t, S)
def Al.drop (A : Al) (n : Nat) : Al := ⟨A.live.set n [], A.hid⟩
section
variable {G : Gs} {A : Al} {H : Hp} {S : Sto} {n : Nat} {l : List Addr}
theorem drop_flat (A : Al) (n : Nat) : ∀ b, b ∈ (A.drop n).live.flatten → b ∈ A.live.flatten := by
  intro b hb
  obtain ⟨x, hx, hb⟩ := List.mem_flatten.mp hb
  unfold Al.drop at hx
  obtain ⟨i, hi⟩ := List.mem_iff_getElem?.mp hx
  simp only at hi
  by_cases e : n = i
  · subst e
    by_cases hl : n < A.live.length
    · rw [List.getElem?_set_self hl] at hi
      cases hi
      cases hb
    · rw [List.getElem?_eq_none (by simp; omega)] at hi
      cases hi
  · rw [List.getElem?_set_ne e] at hi
    exact List.mem_flatten.mpr ⟨x, List.mem_of_getElem? hi, hb⟩
theorem Ext.drop : Ext A H (A.drop n) H := by
  refine ⟨fun i x e => ?_, fun _ _ _ _ => Iff.rfl, fun a u h m => ⟨.inl h, fun z => m (drop_flat A n a z)⟩, fun _ _ h _ _ => h⟩
  unfold Al.drop
  simp only
  by_cases ei : n = i
  · subst ei
    rw [List.getElem?_set_self (List.getElem?_eq_some_iff.mp e).1]
    exact .inr rfl
  · rw [List.getElem?_set_ne ei]
    exact .inl e
theorem drop_nd (hn : A.all.Nodup) : (A.drop n).all.Nodup := by
  have key : ∀ {L : List (List Addr)} {n : Nat}, L.flatten.Nodup → (L.set n []).flatten.Nodup := by
    intro L
    induction L with
    | nil => intro n h; simpa using h
    | cons x L ih =>
      intro n h
      rw [List.flatten_cons, List.nodup_append] at h
      obtain ⟨h1, h2, h3⟩ := h
      cases n with
      | zero =>
        simpa using h2
      | succ n =>
        rw [List.set_cons_succ, List.flatten_cons, List.nodup_append]
        refine ⟨h1, ih h2, fun a ha b hb => h3 a ha b ?_⟩
        obtain ⟨y, hy, hb⟩ := List.mem_flatten.mp hb
        obtain ⟨i, hi⟩ := List.mem_iff_getElem?.mp hy
        by_cases e : n = i
        · subst e
          by_cases hl : n < L.length
          · rw [List.getElem?_set_self hl] at hi
            cases hi
            cases hb
          · rw [List.getElem?_eq_none (by simp; omega)] at hi
            cases hi
        · rw [List.getElem?_set_ne e] at hi
          exact List.mem_flatten.mpr ⟨y, List.mem_of_getElem? hi, hb⟩
  unfold Al.all at *
  rw [List.nodup_append] at *
  obtain ⟨h1, h2, h3⟩ := hn
  exact ⟨key h1, h2, fun a ha b hb => h3 a (drop_flat A n a ha) b hb⟩
theorem StR.drop (s : StR G A S H) : StR G (A.drop n) (S.set n .dead) H := by
  refine ⟨by simp [Al.drop, s.len], drop_nd s.nd, fun a ha => ?_, fun i k o e1 e2 => ?_⟩
  · refine s.alive a ?_
    unfold Al.all at *
    rcases List.mem_append.mp ha with z | z
    · exact List.mem_append_left _ (drop_flat A n a z)
    · exact List.mem_append_right _ z
  · by_cases ei : n = i
    · subst ei
      by_cases hl : n < S.length
      · rw [List.getElem?_set_self hl] at e2
        cases e2
        trivial
      · rw [List.getElem?_eq_none (by simp; omega)] at e2
        cases e2
    · rw [List.getElem?_set_ne ei] at e2
      unfold Al.drop at e1
      simp only at e1
      rw [List.getElem?_set_ne ei] at e1
      exact (s.box i k o e1 e2).keep Ext.drop.kp fun _ _ => rfl
theorem drop_out (hn : A.all.Nodup) (h : A.live[n]? = some l) : ∀ a ∈ l, a ∉ (A.drop n).all := by
  intro a ha z
  have hn' := hn
  unfold Al.all at hn z
  rw [List.nodup_append] at hn
  rcases List.mem_append.mp z with z | z
  · obtain ⟨x, hx, hb⟩ := List.mem_flatten.mp z
    obtain ⟨i, hi⟩ := List.mem_iff_getElem?.mp hx
    unfold Al.drop at hi
    simp only at hi
    by_cases e : n = i
    · subst e
      rw [List.getElem?_set_self (List.getElem?_eq_some_iff.mp h).1] at hi
      cases hi
      cases hb
    · rw [List.getElem?_set_ne e] at hi
      exact e (nd_live hn' h hi ha hb)
  · exact hn.2.2 a (live_set h a ha) a z rfl
theorem dpures_rvs {fs : List (Option Dv)} {ts : List Dt} {ws : List (Option V)} (e : dpures fs = some ts) (h : RF G A H fs ws) : ∃ vs, SlIs ws vs ∧ RVs G A H ts vs := by
  induction fs generalizing ts ws with
  | nil =>
    cases e
    exact ⟨[], fun i v z => by simp at z, (rfl : ([] : List V) = [])⟩
  | cons f fs ih =>
    cases f with
    | none => cases e
    | some d =>
      cases d with
      | loc n => cases e
      | d t =>
        unfold dpures at e
        cases e1 : dpures fs with
        | none => rw [e1] at e; cases e
        | some us =>
          rw [e1] at e
          cases e
          obtain ⟨v, ev, rv⟩ := h 0 (.d t) rfl
          cases ws with
          | nil => simp at ev
          | cons w0 ws =>
            obtain ⟨vs, hi, hv⟩ := ih (ws := ws) e1 fun i d he => by
              have := h (i + 1) d (by simpa using he)
              simpa using this
            refine ⟨v :: vs, fun i u z => ?_, v, vs, rfl, rv, hv⟩
            cases i with
            | zero =>
              simp at z ev
              subst z
              simpa using ev
            | succ i =>
              have := hi i u (by simpa using z)
              simpa using this
theorem frz_po {d d' : Dv} {S' : Sto} {v : V} (s : StR G A S H) (r : RD G A H d v) (e : frz d S = some (d', S')) : ∃ A', Ext A H A' H ∧ StR G A' S' H ∧ RD G A' H d' v := by
  cases d with
  | d t =>
    cases e
    exact ⟨A, .refl, s, r⟩
  | loc n =>
    unfold frz at e
    simp only at e
    cases es : S[n]? with
    | none => rw [es] at e; cases e
    | some o =>
      rw [es] at e
      cases o with
      | lst xs =>
        simp only at e
        cases ep : pures xs with
        | none => rw [ep] at e; cases e
        | some ts =>
          rw [ep] at e
          cases e
          obtain ⟨a, vs, rfl, hl, ha, rv⟩ := loc_lst s r es
          exact ⟨A.drop n, .drop, s.drop, a, vs, rfl, ⟨ha, drop_out s.nd hl a (by simp)⟩, (pures_rvs ep rv).kp Ext.drop.kp⟩
      | dct ks xs =>
        simp only at e
        cases ep : pures xs with
        | none => rw [ep] at e; cases e
        | some ts =>
          rw [ep] at e
          cases e
          obtain ⟨a, kvs, rfl, hl, ha, ek, rv⟩ := loc_dct s r es
          exact ⟨A.drop n, .drop, s.drop, a, kvs, rfl, drop_out s.nd hl a (by simp), .inl ha, ek, (pures_rvs ep rv).kp Ext.drop.kp⟩
      | ins c fs =>
        simp only at e
        cases ep : dpures fs with
        | none => rw [ep] at e; cases e
        | some ts =>
          rw [ep] at e
          cases e
          obtain ⟨a, dx, ws, rfl, hl, ne, hs, hf⟩ := loc_ins s r es
          obtain ⟨vs, hi, hv⟩ := dpures_rvs ep hf
          obtain ⟨u, hu⟩ := s.alive dx (List.mem_append_left _ (live_set hl dx (by simp)))
          exact ⟨A.drop n, .drop, s.drop, a, dx, ws, vs, rfl, drop_out s.nd hl a (by simp), drop_out s.nd hl dx (by simp), ⟨u, hu⟩, hs, hi, hv.kp Ext.drop.kp⟩
      | dead => cases e
      | tp xs => cases e
      | dcT ks xs => cases e
end
def mFrz (m : M Dv) : M Dv := fun ρ S => (m ρ S).bind fun d S1 => lift (frz d S1)
theorem e_frz {X : Cx} {G : Gs} {W : WX} {e : Expr} {m : M Dv} (h : PE X e (tM G W m)) : PE X e (tM G W (mFrz m)) := by
  refine h.sm fun σ H Q h => ?_
  obtain ⟨A, ρ, S, he, hs, p0⟩ := h
  refine ⟨A, ρ, S, he, hs, Po.step p0 fun d S1 A1 H1 x1 s1 p1 v rv => ?_⟩
  cases e1 : frz d S1 with
  | none => rw [e1] at p1; exact p1.elim
  | some q =>
    obtain ⟨d', S2⟩ := q
    rw [e1] at p1
    obtain ⟨A2, x2, s2, r2⟩ := frz_po s1 rv e1
    exact Po.at p1 x2 s2 v r2
end Sm
/-! Sm6: a call sees only what it is given; comprehensions. -/
namespace Sm
open PySem PySem.Spec PyProof.Rows L2

section
variable {G : Gs} {A A' A0 : Al} {H H' : Hp} {S S' : Sto}
/-- another reading of the same heap -/
theorem Kq.same (h : ∀ a, a ∉ A.all → a ∉ A'.all) : Kq A H A' H :=
  ⟨fun a u _ n r => ⟨r, h a n⟩, fun a u _ _ n r => ⟨r, h a n⟩, fun a u n r => ⟨⟨u, r⟩, h a n⟩, fun a o vs n r => ⟨r, h a n⟩⟩
theorem ExR.kq (x : Kq A H A' H') {c : Nat} {t : Dt} {cls : Value} {d : Option Addr} (h : ExR G A H c t cls d) : ExR G A' H' c t cls d := by
  obtain ⟨e, h⟩ := h
  refine ⟨e, ?_⟩
  rcases h with h | ⟨a, f, v, e1, e2, n, e3, r⟩
  · exact .inl h
  · obtain ⟨h1, n1⟩ := x.ex a _ nf_xd lk_xd n e3
    exact .inr ⟨a, f, v, e1, e2, n1, h1, RV.kq x r⟩
theorem pures_map : ∀ {ds : List Dv} {ts : List Dt}, pures ds = some ts → ds = ts.map .d
  | [], ts, e => by cases e; rfl
  | .d t :: ds, ts, e => by
    unfold pures at e
    cases e1 : pures ds with
    | none => rw [e1] at e; cases e
    | some us =>
      rw [e1] at e
      cases e
      simp [pures_map e1]
  | .loc n :: ds, ts, e => by cases e
theorem rds_pure {xs : List Dv} {vs : List V} (h : (pures xs).isSome = true) (x : Kq A H A' H') (r : RDs G A H xs vs) : RDs G A' H' xs vs := by
  cases e : pures xs with
  | none => rw [e] at h; cases h
  | some ts =>
    have r2 := RVs.kq x (pures_rvs e r)
    rw [pures_map e]
    exact r2.rds
theorem StR.alive' (s : StR G A S H) {a : Addr} {i : Nat} {l : List Addr} (h : A.live[i]? = some l) (ha : a ∈ l) : ∃ u, H a = some u := s.alive a (List.mem_append_left _ (live_set h a ha))
end
/-! ### alone -/
def iso (F : FM) : FM := fun ds S => match pures ds with
  | some _ => (match F ds [] with
    | .ok (.d t) _ => .ok (.d t) S
    | .er c t _ => .er c t S
    | _ => .bad)
  | none => .bad
theorem SpM.iso {G : Gs} {F : FM} {vs : List V} {H : Hp} {Q : VK} {E : XK} (h : SpM G (iso F) vs H Q E) : SpM G F vs H Q E := by
  obtain ⟨A, S, ds, r, s, p⟩ := h
  unfold Sm.iso at p
  cases ep : pures ds with
  | none => rw [ep] at p; exact p.elim
  | some ts =>
    rw [ep] at p
    have eall : ∀ a, a ∈ (⟨[], A.all⟩ : Al).all ↔ a ∈ A.all := fun a => by simp [Al.all]
    have s0 : StR G ⟨[], A.all⟩ [] H := ⟨rfl, by simpa [Al.all] using s.nd, fun a ha => s.alive a ((eall a).mp ha), fun i l o e => by simp at e⟩
    have r0 : RDs G ⟨[], A.all⟩ H ds vs := rds_pure (by rw [ep]; rfl) (Kq.same fun a n z => n ((eall a).mp z)) r
    refine ⟨⟨[], A.all⟩, [], ds, r0, s0, ?_⟩
    have key : ∀ A' H', Ext ⟨[], A.all⟩ H A' H' → Ext A H A H' ∧ StR G A S H' ∧ ∀ a, a ∉ A'.all → a ∉ A.all := by
      intro A' H' x
      have kp : ∀ a u, H a = some u → a ∈ A.all → H' a = some u := fun a u e m => x.keepH a u e (by simp) m
      have x1 : Ext A H A H' := ⟨fun _ _ e => .inl e, fun _ _ _ _ => Iff.rfl, fun a u e n => ⟨(x.keep a u e (by simp)).1, n⟩, fun a u e n m => kp a u e (List.mem_append_right _ m)⟩
      refine ⟨x1, ⟨s.len, s.nd, fun a ha => ?_, fun i l o e1 e2 => (s.box i l o e1 e2).keep x1.kp fun a ha => ?_⟩, fun a n z => ?_⟩
      · obtain ⟨u, e⟩ := s.alive a ha
        exact ⟨u, kp a u e ha⟩
      · obtain ⟨u, e⟩ := s.alive' e1 ha
        rw [kp a u e (List.mem_append_left _ (live_set e1 a ha)), e]
      · obtain ⟨u, e⟩ := s.alive a z
        exact (mem_all.mp n).2 ((x.hid a u e (by simp)).mpr z)
    cases eF : F ds [] with
    | bad => rw [eF] at p; exact p.elim
    | er c t S1 =>
      rw [eF] at p
      intro A' H' cls d x s1 e
      obtain ⟨x1, s2, sub⟩ := key A' H' x
      exact p A H' cls d x1 s2 (e.kq (Kq.same sub))
    | ok d S1 =>
      rw [eF] at p
      cases d with
      | loc n => exact p.elim
      | d t =>
        intro A' H' x s1 v rv
        obtain ⟨x1, s2, sub⟩ := key A' H' x
        exact p A H' x1 s2 v (RV.kq (t := t) (Kq.same sub) rv)
/-! ### one box is handed on -/
def pureB (b : Bo) : Bool := match b with
  | .lst xs => (pures xs).isSome
  | .dct _ xs => (pures xs).isSome
  | .ins _ fs => fs.all fun o => match o with
    | none => true
    | some (.d _) => true
    | _ => false
  | .dead => false
  | .tp xs => (pures xs).isSome
  | .dcT _ xs => (pures xs).isSome
theorem rb_pure {G : Gs} {A A' : Al} {H H' : Hp} {l : List Addr} {b : Bo} (hp : pureB b = true) (x : Kq A H A' H') (hl : ∀ a ∈ l, H' a = H a) (h : RB G A H l b) : RB G A' H' l b := by
  cases b with
  | lst xs =>
    obtain ⟨a, vs, rfl, e, r⟩ := h
    exact ⟨a, vs, rfl, (hl a (by simp)).trans e, rds_pure hp x r⟩
  | dct ks xs =>
    obtain ⟨a, vs, rfl, e, ek, r⟩ := h
    exact ⟨a, vs, rfl, (hl a (by simp)).trans e, ek, rds_pure hp x r⟩
  | ins c fs =>
    obtain ⟨a, dx, ws, rfl, e, r⟩ := h
    refine ⟨a, dx, ws, rfl, ?_, fun i d hd => ?_⟩
    · rcases e with ⟨e, hw⟩ | ⟨e, e2⟩
      · exact .inl ⟨(hl a (by simp)).trans e, hw⟩
      · exact .inr ⟨(hl a (by simp)).trans e, (hl dx (by simp)).trans e2⟩
    · obtain ⟨v, ev, rv⟩ := r i d hd
      refine ⟨v, ev, ?_⟩
      have hm : some d ∈ fs := List.mem_of_getElem? hd
      have := List.all_eq_true.mp hp _ hm
      cases d with
      | d t => exact RV.kq (t := t) x rv
      | loc n => simp at this
  | dead => cases hp
  | tp xs =>
    obtain ⟨a, vs, rfl, e, r⟩ := h
    exact ⟨a, vs, rfl, (hl a (by simp)).trans e, rds_pure hp x r⟩
  | dcT ks xs =>
    obtain ⟨a, vs, rfl, e, ek, r⟩ := h
    exact ⟨a, vs, rfl, (hl a (by simp)).trans e, ek, rds_pure hp x r⟩
def view (F : FM) : FM := fun ds S => match ds with
  | .loc n :: r => (match pures r, S[n]? with
    | some _, some o => if pureB o = true then (match F (.loc 0 :: r) [o] with
      | .ok (.d t) (o' :: _) => if pureB o' = true then .ok (.d t) (S.set n o') else .bad
      | .er c t (o' :: _) => if pureB o' = true then .er c t (S.set n o') else .bad
      | _ => .bad) else .bad
    | _, _ => .bad)
  | _ => .bad
theorem SpM.view {G : Gs} {F : FM} {vs : List V} {H : Hp} {Q : VK} {E : XK} (h : SpM G (view F) vs H Q E) : SpM G F vs H Q E := by
  obtain ⟨A, S, ds, r, s, p⟩ := h
  cases r with
  | nil => exact p.elim
  | @cons d v ds' vs' rd rr =>
    cases d with
    | d t => exact p.elim
    | loc n =>
      unfold Sm.view at p
      simp only at p
      cases ep : pures ds' with
      | none => rw [ep] at p; exact p.elim
      | some ts =>
        cases eo : S[n]? with
        | none => rw [ep, eo] at p; exact p.elim
        | some o =>
          rw [ep, eo] at p
          simp only at p
          by_cases hpo : pureB o = true
          · simp only [hpo, if_true] at p
            obtain ⟨l, hl, fl⟩ := rd
            have hbox := s.box n l o hl eo
            have hin : ∀ a, a ∈ (⟨[l], (A.drop n).all⟩ : Al).all ↔ a ∈ A.all := by
              intro a
              unfold Al.all
              simp only [List.flatten_cons, List.flatten_nil, List.append_nil, List.mem_append]
              constructor
              · rintro (h | h | h)
                · exact .inl (live_set hl a h)
                · exact .inl (drop_flat A n a h)
                · exact .inr h
              · rintro (h | h)
                · obtain ⟨x, hx, hb⟩ := List.mem_flatten.mp h
                  obtain ⟨i, hi⟩ := List.mem_iff_getElem?.mp hx
                  by_cases e : n = i
                  · subst e
                    rw [hl] at hi
                    cases hi
                    exact .inl hb
                  · refine .inr (.inl (List.mem_flatten.mpr ⟨x, ?_, hb⟩))
                    unfold Al.drop
                    simp only
                    exact List.mem_of_getElem? (i := i) (by rw [List.getElem?_set_ne e]; exact hi)
                · exact .inr (.inr h)
            have hlnd : l.Nodup := by
              have hn := s.nd
              unfold Al.all at hn
              rw [List.nodup_append] at hn
              exact (nd_flat hn.1).1 _ (List.mem_of_getElem? hl)
            have hnd : (⟨[l], (A.drop n).all⟩ : Al).all.Nodup := by
              show (([l] : List (List Addr)).flatten ++ (A.drop n).all).Nodup
              simp only [List.flatten_cons, List.flatten_nil, List.append_nil]
              rw [List.nodup_append]
              exact ⟨hlnd, drop_nd s.nd, fun a ha b hb e => drop_out s.nd hl a ha (by rw [e]; exact hb)⟩
            have k0 : Kq A H ⟨[l], (A.drop n).all⟩ H := Kq.same fun a n z => n ((hin a).mp z)
            have s0 : StR G ⟨[l], (A.drop n).all⟩ [o] H := by
              refine ⟨rfl, hnd, fun a ha => s.alive a ((hin a).mp ha), fun i l' o' e1 e2 => ?_⟩
              cases i with
              | zero =>
                simp at e1 e2
                subst e1 e2
                exact rb_pure hpo k0 (fun _ _ => rfl) hbox
              | succ i => simp at e1
            have r0 : RDs G ⟨[l], (A.drop n).all⟩ H (.loc 0 :: ds') (v :: vs') := .cons ⟨l, rfl, fl⟩ (rds_pure (by rw [ep]; rfl) k0 rr)
            refine ⟨_, [o], _, r0, s0, ?_⟩
            have key : ∀ A' H' o' rest, Ext ⟨[l], (A.drop n).all⟩ H A' H' → StR G A' (o' :: rest) H' → pureB o' = true → Ext A H A H' ∧ StR G A (S.set n o') H' ∧ ∀ a, a ∉ A'.all → a ∉ A.all := by
              intro A' H' o' rest x s1 hp'
              have kp : ∀ a u, H a = some u → a ∉ l → a ∈ A.all → H' a = some u := fun a u e hn hm => x.keepH a u e (by simpa using hn) (by
                have z := (hin a).mpr hm
                rcases List.mem_append.mp z with z | z
                · simp at z
                  exact absurd z hn
                · exact z)
              have x1 : Ext A H A H' := ⟨fun _ _ e => .inl e, fun _ _ _ _ => Iff.rfl, fun a u e m => ⟨(x.keep a u e (by simpa using fun z => m (live_set hl a z))).1, m⟩, fun a u e m hm => kp a u e (fun z => m (live_set hl a z)) (List.mem_append_right _ hm)⟩
              have hl' : A'.live[0]? = some l := by
                rcases x.live 0 l rfl with z | z
                · exact z
                · exfalso
                  have b0 := s1.box 0 [] o' z rfl
                  cases o' with
                  | lst xs => obtain ⟨a, vs, e, _⟩ := b0; cases e
                  | dct ks xs => obtain ⟨a, vs, e, _⟩ := b0; cases e
                  | ins c fs => obtain ⟨a, dx, vs, e, _⟩ := b0; cases e
                  | dead => cases hp'
                  | tp xs => obtain ⟨a, vs, e, _⟩ := b0; cases e
                  | dcT ks xs => obtain ⟨a, vs, e, _⟩ := b0; cases e
              have sub : ∀ a, a ∉ A'.all → a ∉ A.all := by
                intro a m z
                have z2 := (hin a).mpr z
                rcases List.mem_append.mp z2 with z3 | z3
                · simp at z3
                  exact m (List.mem_append_left _ (live_set hl' a z3))
                · obtain ⟨u, e⟩ := s.alive a z
                  by_cases hal : a ∈ l
                  · exact m (List.mem_append_left _ (live_set hl' a hal))
                  · exact (mem_all.mp m).2 ((x.hid a u e (by simpa using hal)).mpr z3)
              have hbox' : RB G A H' l o' := rb_pure hp' (Kq.same sub) (fun _ _ => rfl) (s1.box 0 l o' hl' rfl)
              refine ⟨x1, ⟨by simp [s.len], s.nd, fun a ha => ?_, fun i k b e1 e2 => ?_⟩, sub⟩
              · by_cases hal : a ∈ l
                · exact s1.alive' hl' hal
                · obtain ⟨u, e⟩ := s.alive a ha
                  exact ⟨u, kp a u e hal ha⟩
              · by_cases ei : n = i
                · subst ei
                  have hlt : n < S.length := (List.getElem?_eq_some_iff.mp eo).1
                  rw [List.getElem?_set_self hlt] at e2
                  cases e2
                  rw [hl] at e1
                  cases e1
                  exact hbox'
                · rw [List.getElem?_set_ne ei] at e2
                  refine (s.box i k b e1 e2).keep x1.kp fun a ha => ?_
                  obtain ⟨u, e⟩ := s.alive' e1 ha
                  rw [kp a u e (fun z => ei (nd_live s.nd hl e1 z ha)) (List.mem_append_left _ (live_set e1 a ha)), e]
            cases eF : F (.loc 0 :: ds') [o] with
            | bad => rw [eF] at p; exact p.elim
            | er c t S1 =>
              rw [eF] at p
              cases S1 with
              | nil => exact p.elim
              | cons o' rest =>
                simp only at p
                by_cases hp' : pureB o' = true
                · simp only [hp', if_true] at p
                  intro A' H' cls d x s1 e
                  obtain ⟨x1, s2, sub⟩ := key A' H' o' rest x s1 hp'
                  exact p A H' cls d x1 s2 (e.kq (Kq.same sub))
                · simp only [hp'] at p
                  exact p.elim
            | ok d S1 =>
              rw [eF] at p
              cases d with
              | loc m => exact p.elim
              | d t =>
                cases S1 with
                | nil => exact p.elim
                | cons o' rest =>
                  simp only at p
                  by_cases hp' : pureB o' = true
                  · simp only [hp', if_true] at p
                    intro A' H' x s1 v' rv
                    obtain ⟨x1, s2, sub⟩ := key A' H' o' rest x s1 hp'
                    exact p A H' x1 s2 v' (RV.kq (t := t) (Kq.same sub) rv)
                  · simp only [hp'] at p
                    exact p.elim
          · simp only [hpo] at p
            exact p.elim
theorem CallW.isoF {P : Program} {w : World} {G : Gs} {mg : Str → Option Value} {base : Heap} {k : Nat} {f : Addr} {n : Nat} {ks : List Str} {F : FM} (h : CallW P w G mg base k f n ks F) : CallW P w G mg base k f n ks (iso F) := h.imp fun _ _ _ _ q => q.iso
theorem CallW.viewF {P : Program} {w : World} {G : Gs} {mg : Str → Option Value} {base : Heap} {k : Nat} {f : Addr} {n : Nat} {ks : List Str} {F : FM} (h : CallW P w G mg base k f n ks F) : CallW P w G mg base k f n ks (view F) := h.imp fun _ _ _ _ q => q.view
/-- another function, equal wherever it promises something -/
def FLe (F' F : FM) : Prop := ∀ ds S, F' ds S = .bad ∨ F' ds S = F ds S
theorem CallW.le {P : Program} {w : World} {G : Gs} {mg : Str → Option Value} {base : Heap} {k : Nat} {f : Addr} {n : Nat} {ks : List Str} {F F' : FM} (h : CallW P w G mg base k f n ks F) (l : FLe F' F) : CallW P w G mg base k f n ks F' := h.imp fun vs H Q E q => by
  obtain ⟨A, S, ds, r, s, p⟩ := q
  rcases l ds S with e | e
  · rw [e] at p
    exact p.elim
  · rw [e] at p
    exact ⟨A, S, ds, r, s, p⟩
end Sm
/-! Sm7: comprehensions. -/
namespace Sm
open PySem PySem.Spec PyProof.Rows L2

/-- no exception leaves a comprehension -/
def nox {α : Type} (r : Rz α) : Rz α := match r with
  | .ok a S => .ok a S
  | _ => .bad
@[simp] theorem nox_ok {α : Type} {a : α} {S : Sto} : nox (.ok a S) = .ok a S := rfl
@[simp] theorem nox_bad {α : Type} : nox (.bad : Rz α) = .bad := rfl
theorem Po.nox {α : Type} {G : Gs} {E E' : XK} {A : Al} {H : Hp} {r : Rz α} {k : Al → Hp → α → Prop} (h : Po G E A H (nox r) k) : Po G E' A H r k := by
  cases r with
  | ok a S => exact h
  | er c t S => exact h.elim
  | bad => exact h
def wipeE (ρ : Env) : List Nat → Env
  | [] => ρ
  | v :: vs => (wipeE ρ vs).set v none
theorem EnvR.wipe {G : Gs} {A : Al} {H : Hp} {ρ : Env} {σ : L2.St} (h : EnvR G A H ρ σ) : ∀ vs, EnvR G A H (wipeE ρ vs) (wipe σ vs)
  | [] => h
  | v :: vs => by
    have ih := EnvR.wipe h vs
    refine ⟨by show ((wipeE ρ vs).set v none).length = ((L2.wipe σ vs).set v none).length; simp [ih.len], fun i d e => ?_⟩
    have e' : ((wipeE ρ vs).set v none)[i]? = some (some d) := e
    by_cases hv : v = i
    · subst hv
      by_cases hl : v < (wipeE ρ vs).length
      · rw [List.getElem?_set_self hl] at e'
        cases e'
      · rw [List.getElem?_eq_none (by simp; omega)] at e'
        cases e'
    · rw [List.getElem?_set_ne hv] at e'
      obtain ⟨u, eu, r⟩ := ih.at_ i d e'
      exact ⟨u, by show ((L2.wipe σ vs).set v none)[i]? = _; rw [List.getElem?_set_ne hv]; exact eu, r⟩
/-- slots outside of L alone are kept: the wiped slots are the same -/
theorem wipe_same {σ σ' : L2.St} {vs L : List Nat} (hL : ∀ i ∈ L, i ∈ vs) (hk : ∀ j : Nat, j ∉ L → σ'[j]? = σ[j]?) (hl : σ'.length = σ.length) : L2.wipe σ' vs = L2.wipe σ vs := by
  apply List.ext_getElem?
  intro j
  by_cases hj : j ∈ vs
  · have key : ∀ (τ : L2.St) (ws : List Nat), j ∈ ws → j < τ.length → (L2.wipe τ ws)[j]? = some none := by
      intro τ ws
      induction ws with
      | nil => intro h; cases h
      | cons w ws ih =>
        intro h hlt
        show ((L2.wipe τ ws).set w none)[j]? = some none
        by_cases e : w = j
        · subst e
          rw [List.getElem?_set_self (by rw [wipe_length]; exact hlt)]
        · rw [List.getElem?_set_ne e]
          exact ih (by rcases List.mem_cons.mp h with z | z; exact absurd z.symm e; exact z) hlt
    by_cases hlt : j < σ.length
    · rw [key σ vs hj hlt, key σ' vs hj (by rw [hl]; exact hlt)]
    · rw [List.getElem?_eq_none (by rw [wipe_length]; omega), List.getElem?_eq_none (by rw [wipe_length]; omega)]
  · rw [wipe_out hj, wipe_out hj]
    exact hk j fun z => hj (hL j z)
/-! ### hiding -/
def Al.hide (A : Al) (D : Addr) : Al := ⟨A.live, D :: A.hid⟩
def Al.show_ (A : Al) (D : Addr) : Al := ⟨A.live, A.hid.filter fun a => decide (a ≠ D)⟩
section
variable {G : Gs} {A A' : Al} {H H' : Hp} {S : Sto} {D : Addr} {o : HO}
theorem Ext.hide (h : H D = none) : Ext A H (A.hide D) (upd H D o) :=
  ⟨fun _ _ e => .inl e, fun a u e _ => ⟨fun z => by
    rcases List.mem_cons.mp z with z | z
    · exact absurd z (ne_of_none e h)
    · exact z, fun z => List.mem_cons_of_mem _ z⟩, fun a u e n => ⟨.inl (upd_old h e), n⟩, fun a u e _ _ => upd_old h e⟩
theorem hide_all {a : Addr} : a ∈ (A.hide D).all ↔ a = D ∨ a ∈ A.all := by
  unfold Al.hide Al.all
  simp only [List.mem_append, List.mem_cons]
  constructor
  · rintro (h | h | h)
    · exact .inr (.inl h)
    · exact .inl h
    · exact .inr (.inr h)
  · rintro (h | h | h)
    · exact .inr (.inl h)
    · exact .inl h
    · exact .inr (.inr h)
theorem StR.hide (s : StR G A S H) (h : H D = none) : StR G (A.hide D) S (upd H D o) := by
  have hD := s.out h
  refine ⟨s.len, ?_, fun a ha => ?_, fun i l b e1 e2 => (s.box i l b e1 e2).keep (Ext.hide h).kp fun a ha => ?_⟩
  · have hn := s.nd
    unfold Al.hide Al.all at *
    simp only at *
    rw [List.nodup_append] at *
    obtain ⟨n1, n2, n3⟩ := hn
    refine ⟨n1, List.nodup_cons.mpr ⟨fun z => hD (List.mem_append_right _ z), n2⟩, fun a ha b hb e => ?_⟩
    rcases List.mem_cons.mp hb with z | z
    · subst e z
      exact hD (List.mem_append_left _ ha)
    · exact n3 a ha b z e
  · rcases hide_all.mp ha with z | z
    · subst z
      exact ⟨_, upd_same⟩
    · obtain ⟨u, e⟩ := s.alive a z
      exact ⟨u, upd_old h e⟩
  · obtain ⟨u, e⟩ := s.alive' e1 ha
    rw [upd_old h e, e]
/-- what is hidden changes -/
theorem kp_poke (hD : D ∈ A.hid) : Kp A H A (upd H D o) := by
  have hne : ∀ a, a ∉ A.all → a ≠ D := fun a n z => n (by rw [z]; exact List.mem_append_right _ hD)
  refine ⟨⟨fun a u _ n r => ⟨?_, n⟩, fun a u _ _ n r => ⟨by rw [upd_ne (hne a n)]; exact r, n⟩, fun a u n r => ⟨⟨u, by rw [upd_ne (hne a n)]; exact r⟩, n⟩, fun a o vs n r => ⟨by rw [upd_ne (hne a n)]; exact r, n⟩⟩, fun _ _ e => .inl e⟩
  rcases r with r | ⟨ob, r⟩
  · exact .inl (by rw [upd_ne (hne a n)]; exact r)
  · exact .inr ⟨ob, by rw [upd_ne (hne a n)]; exact r⟩
theorem StR.poke (s : StR G A S H) (hD : D ∈ A.hid) : StR G A S (upd H D o) := by
  refine ⟨s.len, s.nd, fun a ha => ?_, fun i l b e1 e2 => (s.box i l b e1 e2).keep (kp_poke hD) fun a ha => ?_⟩
  · by_cases e : a = D
    · subst e
      exact ⟨_, upd_same⟩
    · rw [upd_ne e]
      exact s.alive a ha
  · have hn := s.nd
    unfold Al.all at hn
    rw [List.nodup_append] at hn
    exact upd_ne (hn.2.2 a (live_set e1 a ha) D hD)
theorem show_all {a : Addr} : a ∈ (A.show_ D).all → a ∈ A.all := by
  unfold Al.show_ Al.all
  simp only [List.mem_append, List.mem_filter]
  rintro (h | ⟨h, _⟩)
  · exact .inl h
  · exact .inr h
theorem kp_show : Kp A H (A.show_ D) H :=
  ⟨Kq.same fun a n z => n (show_all z), fun _ _ e => .inl e⟩
theorem StR.show_ (s : StR G A S H) : StR G (A.show_ D) S H := by
  refine ⟨s.len, ?_, fun a ha => s.alive a (show_all ha), fun i l b e1 e2 => (s.box i l b e1 e2).keep kp_show fun _ _ => rfl⟩
  have hn := s.nd
  unfold Al.show_ Al.all at *
  simp only at *
  rw [List.nodup_append] at *
  obtain ⟨n1, n2, n3⟩ := hn
  exact ⟨n1, n2.filter _, fun a ha b hb => n3 a ha b (List.mem_filter.mp hb).1⟩
theorem show_out (s : StR G A S H) (hD : D ∈ A.hid) : D ∉ (A.show_ D).all := by
  intro z
  have hn := s.nd
  unfold Al.show_ Al.all at z
  unfold Al.all at hn
  rw [List.nodup_append] at hn
  simp only [List.mem_append, List.mem_filter] at z
  rcases z with z | ⟨_, z⟩
  · exact hn.2.2 D z D hD rfl
  · simp at z
/-- all that happened but at D, which was new -/
structure ExtB (D : Addr) (A : Al) (H : Hp) (A' : Al) (H' : Hp) : Prop where
  live : ∀ (i : Nat) (l : List Addr), A.live[i]? = some l → A'.live[i]? = some l ∨ A'.live[i]? = some []
  hid : ∀ a u, a ≠ D → H a = some u → a ∉ A.live.flatten → (a ∈ A'.hid ↔ a ∈ A.hid)
  keep : ∀ a u, a ≠ D → H a = some u → a ∉ A.live.flatten → Fz u (H' a) ∧ a ∉ A'.live.flatten
  keepH : ∀ a u, a ≠ D → H a = some u → a ∉ A.live.flatten → a ∈ A.hid → H' a = some u
  inH : D ∈ A'.hid
theorem ExtB.start : ExtB D A H (A.hide D) (upd H D o) :=
  ⟨fun _ _ e => .inl e, fun a u ne e _ => ⟨fun z => by
    rcases List.mem_cons.mp z with z | z
    · exact absurd z ne
    · exact z, fun z => List.mem_cons_of_mem _ z⟩, fun a u ne e n => ⟨.inl (by rw [upd_ne ne]; exact e), n⟩, fun a u ne e _ _ => by rw [upd_ne ne]; exact e, List.mem_cons_self⟩
theorem ExtB.step {A1 : Al} {H1 : Hp} (x : ExtB D A H A1 H1) (y : Ext A1 H1 A' H') (s : StR G A1 S H1) : ExtB D A H A' H' := by
  refine ⟨fun i l e => ?_, fun a u ne e n => ?_, fun a u ne e n => ?_, fun a u ne e n m => ?_, ?_⟩
  · rcases x.live i l e with z | z
    · exact y.live i l z
    · rcases y.live i [] z with z | z
      · exact .inr z
      · exact .inr z
  · obtain ⟨h1, n1⟩ := x.keep a u ne e n
    obtain ⟨v, hv⟩ := h1.there
    exact (y.hid a v hv n1).trans (x.hid a u ne e n)
  · obtain ⟨h1, n1⟩ := x.keep a u ne e n
    obtain ⟨v, hv⟩ := h1.there
    obtain ⟨h2, n2⟩ := y.keep a v hv n1
    rw [hv] at h1
    exact ⟨h1.step h2, n2⟩
  · exact y.keepH a u (x.keepH a u ne e n m) (x.keep a u ne e n).2 ((x.hid a u ne e n).mpr m)
  · obtain ⟨u, e⟩ := s.alive D (List.mem_append_right _ x.inH)
    have hn := s.nd
    unfold Al.all at hn
    rw [List.nodup_append] at hn
    exact (y.hid D u e fun z => hn.2.2 D z D x.inH rfl).mpr x.inH
theorem ExtB.poke {A1 : Al} {H1 : Hp} (x : ExtB D A H A1 H1) : ExtB D A H A1 (upd H1 D o) :=
  ⟨x.live, x.hid, fun a u ne e n => ⟨by rw [upd_ne ne]; exact (x.keep a u ne e n).1, (x.keep a u ne e n).2⟩, fun a u ne e n m => by rw [upd_ne ne]; exact x.keepH a u ne e n m, x.inH⟩
theorem ExtB.done {A1 : Al} {H1 : Hp} (x : ExtB D A H A1 H1) (h : H D = none) : Ext A H (A1.show_ D) H1 :=
  ⟨x.live, fun a u e n => by
    have ne := ne_of_none e h
    unfold Al.show_
    simp only [List.mem_filter]
    exact ⟨fun z => (x.hid a u ne e n).mp z.1, fun z => ⟨(x.hid a u ne e n).mpr z, by simpa using ne⟩⟩, fun a u e n => x.keep a u (ne_of_none e h) e n, fun a u e n m => x.keepH a u (ne_of_none e h) e n m⟩
/-- a walk goes on beside D -/
theorem Ext.ofB {A1 : Al} {H1 : Hp} (x : ExtB D A H A1 H1) (h : H D = none) : Ext A H A1 H1 :=
  ⟨x.live, fun a u e n => x.hid a u (ne_of_none e h) e n, fun a u e n => x.keep a u (ne_of_none e h) e n, fun a u e n m => x.keepH a u (ne_of_none e h) e n m⟩
/-- D stands while it is hidden -/
theorem hid_keep (s : StR G A S H) (hD : D ∈ A.hid) (x : Ext A H A' H') : H' D = H D := by
  obtain ⟨u, e⟩ := s.alive D (List.mem_append_right _ hD)
  have hn := s.nd
  unfold Al.all at hn
  rw [List.nodup_append] at hn
  rw [x.keepH D u e (fun z => hn.2.2 D z D hD rfl) hD, e]
end
/-! ### list comprehensions -/
def bz {α β : Type} (o : Option α) (f : α → Rz β) : Rz β := match o with
  | some a => f a
  | none => .bad
def lcL (g : GM) (c : M Bool) (e : M Dv) (ρ : Env) : List Dt → Sto → Rz (List Dv)
  | [], S => .ok [] S
  | t :: ts, S => bz (g (.d t) ρ) fun ρ1 => (nox (c ρ1 S)).bind fun k S1 => if k = true then (nox (e ρ1 S1)).bind fun d S2 => (lcL g c e ρ ts S2).bind fun ds S3 => .ok (d :: ds) S3 else lcL g c e ρ ts S1
def cYes : M Bool := fun _ S => .ok true S
/-- the items of the new list -/
def mLcI (vs : List Nat) (it : M (List Dt)) (g : GM) (c : M Bool) (e : M Dv) : M (List Dv) := fun ρ S => (it ρ S).bind fun ts S1 => if ts.length ≤ 16777216 then lcL g c e (wipeE ρ vs) ts S1 else .bad
theorem Po.bz {α β : Type} {G : Gs} {E : XK} {A : Al} {H : Hp} {o : Option α} {f : α → Rz β} {k : Al → Hp → β → Prop} (h : Po G E A H (bz o f) k) : ∃ a, o = some a ∧ Po G E A H (f a) k := by
  cases o with
  | none => exact h.elim
  | some a => exact ⟨a, rfl, h⟩
section
variable {X : Cx} {G : Gs} {W : WX} {kk : Nat} {elt tg iter : Expr} {ifs : List Expr} {scope : Scope} {own : List (Str × Nat)} {pos : Pos} {it : M (List Dt)} {g : GM} {t : TG} {L : List Nat} {cm : M Bool} {em : M Dv}
theorem ts_nil {X : Cx} : PTs X [] (tMT G W0 cYes) := by
  refine ⟨fun pins s σ H Q I h => ?_⟩
  obtain ⟨A, ρ, S, he, hs, p⟩ := h
  exact pts_nil.run pins s σ H Q I (Po.now p hs)
theorem ts_one {X : Cx} {c : Expr} (h : PT X c (tMT G W0 cm)) : PTs X [c] (tMT G W0 cm) := pts_one h
/-- the loop: what it asks, by a mirror whose end is k -/
theorem lc_loop {σ : L2.St} {H1 : Hp} {A1 : Al} {ρ : Env} {S1 : Sto} {ts : List Dt} {J : It} {D : Addr} {E : XK} {vs : List Nat} {Fin : Hp → Prop} (hgs : TgS G t g L) (hL : ∀ i ∈ L, i ∈ vs) (wk : Wk G J A1 H1 ts) (he : EnvR G A1 H1 ρ σ) (hs : StR G A1 S1 H1) (hD : H1 D = none) (hlen : ts.length ≤ 16777216)
    {kf : List Dv → Sto → Rz Dv} {Qf : Al → Hp → Dv → Prop}
    (p : Po G E A1 H1 ((lcL g cm em (wipeE ρ vs) ts S1).bind kf) Qf)
    (hfin : ∀ ds ws S' A' H', StR G A' S' H' → ExtB D A1 H1 A' H' → H' D = some (.lst ws) → RDs G A' H' ds ws → Po G E A1 H1 (kf ds S') Qf → Fin H') :
    ∃ W : Nat → Nat → Hp → Prop, (∃ m, W 0 m (upd H1 D (.lst []))) ∧ ∀ i m H, W i m H →
      (J.stop i H ∧ Fin H) ∨ (J.go i H ∧ ∃ Nx : Hp → Prop, (∀ H', Nx H' → ∃ m', m' < m ∧ W (i + 1) m' H') ∧ ∀ x H', J.yld i H x H' → t x (wipe σ vs) H' fun σ2 H2 => wipe σ2 vs = wipe σ vs ∧ tMT G W0 cm σ2 H2 fun b H3 =>
        if b = true then tM G W0 em σ2 H3 fun y H4 => ∃ acc, H4 D = some (.lst acc) ∧ acc.length < sizeLine ∧ Nx (upd H4 D (.lst (acc ++ [y]))) else Nx H3) := by
  let Inw : Nat → Hp → Prop := fun i H' => ∃ A' S' ds ws, StR G A' S' H' ∧ ExtB D A1 H1 A' H' ∧ H' D = some (.lst ws) ∧ RDs G A' H' ds ws ∧ ws.length ≤ i ∧ i ≤ ts.length ∧
    Po G E A1 H1 ((lcL g cm em (wipeE ρ vs) (ts.drop i) S').bind fun es S'' => kf (ds ++ es) S'') Qf
  refine ⟨fun i m H' => m = ts.length - i ∧ Inw i H', ⟨_, rfl, A1.hide D, S1, [], [], hs.hide hD, .start, upd_same, .nil, Nat.le_refl _, Nat.zero_le _, ?_⟩, fun i m H' hW => ?_⟩
  · simpa using p
  · obtain ⟨hm, A', S', ds, ws, s', x', hDw, rds, hwl, hi, q⟩ := hW
    by_cases hlt : i < ts.length
    · refine .inr ⟨wk.go i A' H' hlt (.ofB x' hD), Inw (i + 1), fun H2 hN => ⟨ts.length - (i + 1), by omega, rfl, hN⟩, fun x H2 hy => ?_⟩
      obtain ⟨d, ed, xy, sy, rv⟩ := wk.yld i A' H' S' x H2 hlt (.ofB x' hD) s' hy
      have hd : ts.drop i = d :: ts.drop (i + 1) := by
        rw [List.drop_eq_getElem_cons hlt]
        rw [List.getElem?_eq_getElem hlt] at ed
        cases ed
        rfl
      rw [hd] at q
      unfold lcL at q
      cases eg : g (.d d) (wipeE ρ vs) with
      | none => rw [eg] at q; exact q.elim
      | some ρ1 =>
        rw [eg] at q
        have x2 := x'.step xy s'
        have hw : EnvR G A' H2 (wipeE ρ vs) (wipe σ vs) := (he.kp (Ext.ofB x2 hD).kp).wipe vs
        refine hgs A' S' _ ρ1 (wipe σ vs) H2 (.d d) x _ hw sy rv eg fun σ2 he2 hk2 hl2 => ?_
        refine ⟨?_, ?_⟩
        · have z := wipe_same (σ := wipe σ vs) (σ' := σ2) hL hk2 hl2
          rw [z]
          apply List.ext_getElem?
          intro j
          by_cases hj : j ∈ vs
          · have key : ∀ (τ : L2.St) (us : List Nat), j ∈ us → j < τ.length → (L2.wipe τ us)[j]? = some none := by
              intro τ us
              induction us with
              | nil => intro h; cases h
              | cons w us ih =>
                intro h hlt
                show ((L2.wipe τ us).set w none)[j]? = some none
                by_cases e : w = j
                · subst e
                  rw [List.getElem?_set_self (by rw [wipe_length]; exact hlt)]
                · rw [List.getElem?_set_ne e]
                  exact ih (by rcases List.mem_cons.mp h with z | z; exact absurd z.symm e; exact z) hlt
            by_cases hl : j < σ.length
            · rw [key σ vs hj hl, key (L2.wipe σ vs) vs hj (by rw [wipe_length]; exact hl)]
            · rw [List.getElem?_eq_none (by rw [wipe_length, wipe_length]; omega), List.getElem?_eq_none (by rw [wipe_length]; omega)]
          · rw [wipe_out hj]
        · have hDH2 : H2 D = some (.lst ws) := (hid_keep s' x'.inH xy).trans hDw
          have rds2 := rds.kp xy.kp
          -- the test
          refine ⟨A', ρ1, S', he2, sy, ?_⟩
          simp only [bz] at q
          cases ec : cm ρ1 S' with
          | bad => rw [ec] at q; exact q.elim
          | er c0 t0 S0 => rw [ec] at q; exact q.elim
          | ok k S2 =>
            rw [ec] at q
            simp only [nox_ok, bind_ok] at q
            intro A3 H3 x3 s3
            have xb3 := x2.step x3 sy
            have hD3 : H3 D = some (.lst ws) := (hid_keep sy x2.inH x3).trans hDH2
            cases k with
            | false =>
              simp only [Bool.false_eq_true, if_false] at q ⊢
              exact ⟨A3, S2, ds, ws, s3, xb3, hD3, rds2.kp x3.kp, by omega, by omega, q⟩
            | true =>
              simp only [if_true] at q ⊢
              refine ⟨A3, ρ1, S2, he2.kp x3.kp, s3, ?_⟩
              cases ee : em ρ1 S2 with
              | bad => rw [ee] at q; exact q.elim
              | er c0 t0 S0 => rw [ee] at q; exact q.elim
              | ok dv S4 =>
                rw [ee] at q
                simp only [nox_ok, bind_ok] at q
                intro A4 H4 x4 s4 y ry
                have xb4 := xb3.step x4 s3
                have hD4 : H4 D = some (.lst ws) := (hid_keep s3 xb3.inH x4).trans hD3
                refine ⟨ws, hD4, Nat.lt_of_lt_of_le (show ws.length < 16777216 by omega) (line_of (Nat.le_refl _)), A4, S4, ds ++ [dv], ws ++ [y], s4.poke xb4.inH, xb4.poke, upd_same, ?_, by simp; omega, by omega, ?_⟩
                · exact (((rds2.kp x3.kp).kp x4.kp).append (.cons ry .nil)).kp (kp_poke xb4.inH)
                · have e1 : ((lcL g cm em (wipeE ρ vs) (ts.drop (i + 1)) S4).bind fun es S'' => kf (ds ++ [dv] ++ es) S'') = (((lcL g cm em (wipeE ρ vs) (ts.drop (i + 1)) S4).bind fun ds S3 => .ok (dv :: ds) S3).bind fun es S'' => kf (ds ++ es) S'') := by
                    cases lcL g cm em (wipeE ρ vs) (ts.drop (i + 1)) S4 with
                    | ok a b => simp
                    | er c0 t0 S0 => rfl
                    | bad => rfl
                  rw [e1]
                  exact q
    · have hz : i = ts.length := by omega
      subst hz
      rw [List.drop_length] at q
      simp only [lcL, bind_ok, List.append_nil] at q
      exact .inl ⟨wk.stop A' H' (.ofB x' hD), hfin ds ws S' A' H' s' x' hDw rds q⟩
theorem bind_assoc {α β γ : Type} (r : Rz α) (f : α → Sto → Rz β) (h : β → Sto → Rz γ) : (r.bind f).bind h = r.bind fun a S => (f a S).bind h := by
  cases r <;> rfl
theorem lst_end {A A1 : Al} {S : Sto} {H H1 : Hp} {D : Addr} {ds : List Dv} {ws : List V} {E : XK} {Q : VK} (s : StR G A S H) (x : ExtB D A1 H1 A H) (h : H1 D = none) (hw : H D = some (.lst ws)) (r : RDs G A H ds ws) (p : Po G E A1 H1 (lift (pLst ds S)) (kD G Q)) : Q (.ref D) H := by
  unfold pLst at p
  cases ep : pures ds with
  | none => rw [ep] at p; exact p.elim
  | some ts =>
    rw [ep] at p
    by_cases hl : ts.length ≤ 16777216
    · simp only [hl, if_true] at p
      exact Po.at p (x.done h) s.show_ _ ⟨D, ws, rfl, ⟨hw, show_out s x.inH⟩, (pures_rvs ep r).kp kp_show⟩
    · simp only [hl, if_false] at p
      exact p.elim
/-- the end of a list comprehension, as data or as a box -/
def LEnd (G : Gs) (pe : PN) : Prop := ∀ {A A1 : Al} {S : Sto} {H H1 : Hp} {D : Addr} {ds : List Dv} {ws : List V} {E : XK} {Q : VK}, StR G A S H → ExtB D A1 H1 A H → H1 D = none → H D = some (.lst ws) → RDs G A H ds ws → Po G E A1 H1 (lift (pe ds S)) (kD G Q) → Q (.ref D) H
theorem lEnd : LEnd G pLst := fun s x h hw r p => lst_end s x h hw r p
theorem lc_read {wi : TI} {pe : PN} {vs : List Nat} (hpe : LEnd G pe) (hw : ∀ (σ : L2.St) (H : Hp) (A : Al) (ρ : Env) (S : Sto) (R : It → Hp → Prop), EnvR G A H ρ σ → StR G A S H → Po G (Wa W σ) A H (it ρ S) (fun A' H' ts => ∀ J, Wk G J A' H' ts → R J H') → wi σ H R)
    (hgs : TgS G t g L) (hL : ∀ i ∈ L, i ∈ vs) (σ : L2.St) (H : Hp) (Q : VK) (h : tM G W (mN pe (mLcI vs it g cm em)) σ H Q) : tLc wi t (tMT G W0 cm) (tM G W0 em) vs σ H Q := by
  obtain ⟨A, ρ, S, he, hs, p⟩ := h
  refine hw σ H A ρ S _ he hs ?_
  unfold mN mLcI at p
  rw [bind_assoc] at p
  refine Po.step p fun ts S1 A1 H1 x1 s1 p1 J wk D hD => ?_
  by_cases hl : ts.length ≤ 16777216
  · simp only [hl, if_true] at p1
    exact lc_loop (Fin := fun H => Q (.ref D) H) hgs hL wk (he.kp x1.kp) s1 hD hl p1 fun ds ws S' A' H' s' x' hDw r q => hpe s' x' hD hDw r q
  · simp only [hl, if_false] at p1
    exact p1.elim
theorem e_lc' {pe : PN} (hpe : LEnd G pe) (B : Bx X G W kk) (hi : PIS X G W tg iter it) (ok : BlkOk X.N X.env.scope scope own) (hg : ∀ (s : Shared) (H : Hp) (C : Addr) (cl : List (Str × Addr)) (fp : List Addr), PG (X.blk s H scope (compEnvC scope cl C X.env) fp) tg t) (hgs : TgS G t g L) (hL : ∀ i ∈ L, i ∈ own.map (·.2))
    (ht : ∀ (s : Shared) (H : Hp) (C : Addr) (cl : List (Str × Addr)) (fp : List Addr), PTs (X.blk s H scope (compEnvC scope cl C X.env) fp) ifs (tMT G W0 cm)) (he : ∀ (s : Shared) (H : Hp) (C : Addr) (cl : List (Str × Addr)) (fp : List Addr), PE (X.blk s H scope (compEnvC scope cl C X.env) fp) elt (tM G W0 em))
    (hs : ∀ x, foldedSetIterable iter X.env x = pure x) : PE X (.ListComp elt [⟨tg, iter, ifs, 0⟩] scope pos) (tM G W (mN pe (mLcI (own.map (·.2)) it g cm em))) := by
  obtain ⟨wi, pi, hw⟩ := hi
  exact (pe_lc B.calm B.nd pi ok hg ht he hs).sm fun σ H Q h => lc_read hpe hw hgs hL σ H Q h
/-- name = [..] -/
theorem s_setLc {pe : PN} {i : Nat} {y : Str} {py spos : Pos} (hpe : LEnd G pe) (B : Bx X G W kk) (hy : X.N[i]? = some y) (hyl : X.env.scope.names.lookup y = some .local) (hsw : swapsWith (.ListComp elt [⟨tg, iter, ifs, 0⟩] scope pos) (some (.Name y py)) spos.line X.env = pure true)
    (hi : PIS X G W tg iter it) (ok : BlkOk X.N X.env.scope scope own) (hg : ∀ (s : Shared) (H : Hp) (C : Addr) (cl : List (Str × Addr)) (fp : List Addr), PG (X.blk s H scope (compEnvC scope cl C X.env) fp) tg t) (hgs : TgS G t g L) (hL : ∀ i ∈ L, i ∈ own.map (·.2))
    (ht : ∀ (s : Shared) (H : Hp) (C : Addr) (cl : List (Str × Addr)) (fp : List Addr), PTs (X.blk s H scope (compEnvC scope cl C X.env) fp) ifs (tMT G W0 cm)) (he : ∀ (s : Shared) (H : Hp) (C : Addr) (cl : List (Str × Addr)) (fp : List Addr), PE (X.blk s H scope (compEnvC scope cl C X.env) fp) elt (tM G W0 em))
    (hs : ∀ x, foldedSetIterable iter X.env x = pure x) : PS X (.Assign [.Name y py] (.ListComp elt [⟨tg, iter, ifs, 0⟩] scope pos) spos) (tMS G W (sSet i (mN pe (mLcI (own.map (·.2)) it g cm em)))) := by
  obtain ⟨wi, pi, hw⟩ := hi
  refine (ps_setLc (i := i) B.calm B.nd hy hyl hsw pi ok hg ht he hs).sm fun D σ H h => ?_
  obtain ⟨A, ρ, S, he', hs', p⟩ := h
  refine lc_read (W := W) hpe hw hgs hL σ H _ ⟨A, ρ, S, he', hs', PoS.step he' p fun d S1 A1 H1 x s e q v rv => PoS.nx_now q s (e.set rv)⟩
/-! ### dict comprehensions -/
def kOf (d : Dv) : Option Key := match d with
  | .d (.int i) => some (.inl i)
  | .d (.str s) => some (.inr s)
  | _ => none
theorem kOf_rd {A : Al} {H : Hp} {d : Dv} {k : Key} {v : V} (h : kOf d = some k) (r : RD G A H d v) : v = kV k := by
  cases d with
  | loc n => cases h
  | d t =>
    cases t with
    | int i =>
      cases h
      exact r
    | str s =>
      cases h
      exact r
    | _ => cases h
end
end Sm
/-! Sm8: dict comprehensions, what is walked. -/
namespace Sm
open PySem PySem.Spec PyProof.Rows L2

def hasK (ks : List Key) (j : Key) : Bool := ks.any fun k => decide (k = j)
/-- d[j] = y on keys and values -/
def dputX {α : Type} (ks : List Key) (xs : List α) (j : Key) (y : α) : List α := if hasK ks j = true then List.zipWith (fun k x => if k = j then y else x) ks xs else xs ++ [y]
def dputK (ks : List Key) (j : Key) : List Key := if hasK ks j = true then ks else ks ++ [j]
def dlook {α : Type} : List Key → List α → Key → Option α
  | k :: ks, x :: xs, j => if k = j then some x else dlook ks xs j
  | _, _, _ => none
section
variable {G : Gs} {A : Al} {H : Hp}
theorem any_key {kvs : List (Key × V)} {j : Key} : (kvs.any fun kv => decide (kv.1 = j)) = hasK (kvs.map (·.1)) j := by
  unfold hasK
  rw [List.any_map]
  rfl
theorem dput_keys {kvs : List (Key × V)} {j : Key} {y : V} : (putK kvs j y).map (·.1) = dputK (kvs.map (·.1)) j := by
  unfold putK dputK
  rw [any_key]
  by_cases h : hasK (kvs.map (·.1)) j = true
  · rw [if_pos h, if_pos h, List.map_map]
    apply List.map_congr_left
    intro kv _
    simp only [Function.comp]
    split <;> rfl
  · rw [if_neg h, if_neg h]
    simp
theorem dput_rds {kvs : List (Key × V)} {j : Key} {y : V} {xs : List Dv} {d : Dv} (h : RDs G A H xs (kvs.map (·.2))) (r : RD G A H d y) : RDs G A H (dputX (kvs.map (·.1)) xs j d) ((putK kvs j y).map (·.2)) := by
  unfold putK dputX
  rw [any_key]
  by_cases hj : hasK (kvs.map (·.1)) j = true
  · rw [if_pos hj, if_pos hj]
    clear hj
    induction kvs generalizing xs with
    | nil =>
      cases h
      exact .nil
    | cons kv kvs ih =>
      cases h with
      | cons q t =>
        refine .cons ?_ (ih t)
        by_cases e : kv.1 = j
        · simp only [e, if_true]
          exact r
        · simp only [e, if_false]
          exact q
  · rw [if_neg hj, if_neg hj]
    rw [List.map_append]
    exact h.append (.cons r .nil)
theorem dlook_val {kvs : List (Key × V)} {j : Key} : ∀ {xs : List Dv}, RDs G A H xs (kvs.map (·.2)) → (∀ d, dlook (kvs.map (·.1)) xs j = some d → ∃ v, valV kvs j = some v ∧ RD G A H d v) ∧ (dlook (kvs.map (·.1)) xs j = none → valV kvs j = none) := by
  induction kvs with
  | nil =>
    intro xs h
    cases h
    exact ⟨fun d e => by simp [dlook] at e, fun _ => rfl⟩
  | cons kv kvs ih =>
    intro xs h
    cases h with
    | cons q t =>
      rename_i x xs
      by_cases e : kv.1 = j
      · rw [valV_pos e]
        simp only [List.map_cons, dlook, e, if_true]
        refine ⟨fun d ed => ?_, fun z => by cases z⟩
        cases ed
        exact ⟨_, rfl, q⟩
      · rw [valV_neg e]
        simp only [List.map_cons, dlook, e, if_false]
        exact ih t
end
/-! ### dict comprehensions -/
def dcL (g : GM) (c : M Bool) (ek ev : M Dv) (ρ : Env) : List Dt → List Key → List Dv → Sto → Rz (List Key × List Dv)
  | [], ks, xs, S => .ok (ks, xs) S
  | t :: ts, ks, xs, S => bz (g (.d t) ρ) fun ρ1 => (nox (c ρ1 S)).bind fun b S1 => if b = true then (nox (ek ρ1 S1)).bind fun kd S2 => (nox (ev ρ1 S2)).bind fun d S3 => bz (kOf kd) fun k => dcL g c ek ev ρ ts (dputK ks k) (dputX ks xs k d) S3
    else dcL g c ek ev ρ ts ks xs S1
def pDct (ks : List Key) (ds : List Dv) (S : Sto) : Rz Dv := match pures ds with
  | some ts => .ok (.d (.dct ks ts)) S
  | none => .bad
abbrev PD := List Key → List Dv → Sto → Rz Dv
section
variable {X : Cx} {G : Gs} {W : WX} {kk : Nat} {kx vx tg iter : Expr} {ifs : List Expr} {scope : Scope} {own : List (Str × Nat)} {pos : Pos} {it : M (List Dt)} {g : GM} {t : TG} {L : List Nat} {cm : M Bool} {ek ev : M Dv}
theorem wipe_wipe (σ : L2.St) (vs : List Nat) : L2.wipe (L2.wipe σ vs) vs = L2.wipe σ vs := by
  apply List.ext_getElem?
  intro j
  by_cases hj : j ∈ vs
  · have key : ∀ (τ : L2.St) (us : List Nat), j ∈ us → j < τ.length → (L2.wipe τ us)[j]? = some none := by
      intro τ us
      induction us with
      | nil => intro h; cases h
      | cons w us ih =>
        intro h hlt
        show ((L2.wipe τ us).set w none)[j]? = some none
        by_cases e : w = j
        · subst e
          rw [List.getElem?_set_self (by rw [wipe_length]; exact hlt)]
        · rw [List.getElem?_set_ne e]
          exact ih (by rcases List.mem_cons.mp h with z | z; exact absurd z.symm e; exact z) hlt
    by_cases hl : j < σ.length
    · rw [key σ vs hj hl, key (L2.wipe σ vs) vs hj (by rw [wipe_length]; exact hl)]
    · rw [List.getElem?_eq_none (by rw [wipe_length, wipe_length]; omega), List.getElem?_eq_none (by rw [wipe_length]; omega)]
  · rw [wipe_out hj]
def DEnd (G : Gs) (pe : PD) : Prop := ∀ {A A1 : Al} {S : Sto} {H H1 : Hp} {D : Addr} {ds : List Dv} {kvs : List (Key × V)} {E : XK} {Q : VK}, StR G A S H → ExtB D A1 H1 A H → H1 D = none → H D = some (.dK kvs) → RDs G A H ds (kvs.map (·.2)) → Po G E A1 H1 (pe (kvs.map (·.1)) ds S) (kD G Q) → Q (.ref D) H
theorem dEnd : DEnd G pDct := fun {A A1 S H H1 D ds kvs E Q} s x h hw r p => by
  unfold pDct at p
  cases ep : pures ds with
  | none => rw [ep] at p; exact p.elim
  | some ts =>
    rw [ep] at p
    exact Po.at p (x.done h) s.show_ _ ⟨D, kvs, rfl, show_out s x.inH, .inl hw, rfl, (pures_rvs ep r).kp kp_show⟩
end
/-! ### what is walked -/
/-- a list or a tuple -/
def iSq (K : PySem.W.Frag) (tl : TE) : TI := fun σ H R => tl σ H fun x H1 => ∃ a, x = .ref a ∧ (((∃ xs, SqL K H1 a xs) ∧ R (Itl K a) H1) ∨ ((∃ xs, SqT K H1 a xs) ∧ R (Itt K a) H1))
theorem pi_sq {X : Cx} {tg l : Expr} {tl : TE} (hl : PE X l tl) : PI X tg l (iSq X.K tl) := by
  refine ⟨fun pins s σ H R I h => ?_⟩
  refine thn (hl.run pins s σ H _ I h) fun v s1 ⟨x, H1, I1, r1, q1⟩ => ?_
  obtain ⟨a, e, q⟩ := q1
  subst e
  cases r1
  rcases q with ⟨⟨xs, hq⟩, q⟩ | ⟨⟨xs, hq⟩, q⟩
  · obtain ⟨its, rv, p, hz⟩ := I1.list hq
    refine wpAny_pyIter_list p.isList ?_
    refine ⟨s1.heap.objs.size, [s1.heap.objs.size], _, _, H1, rfl, I1.kept (t' := s1.toks) fun b o e => Heap.get?_push_of_some _ e, turn_list a _, ⟨_, Heap.get?_push_size _ rfl, rfl, rfl⟩, fun b hb => ?_, q⟩
    have e : b = s1.heap.objs.size := by simpa using hb
    subst e
    exact I1.fpOk (Nat.le_refl _) (I1.hok.fresh (Nat.le_refl _))
  · obtain ⟨its, rv, p, hz⟩ := I1.tuple hq
    refine wpAny_pyIter_tuple (show s1.heap.IsTuple a its.toArray from p) ?_
    refine ⟨s1.heap.objs.size, [s1.heap.objs.size], _, _, H1, rfl, I1.kept (t' := s1.toks) fun b o e => Heap.get?_push_of_some _ e, turn_tuple a _, ⟨_, Heap.get?_push_size _ rfl, rfl, rfl⟩, fun b hb => ?_, q⟩
    have e : b = s1.heap.objs.size := by simpa using hb
    subst e
    exact I1.fpOk (Nat.le_refl _) (I1.hok.fresh (Nat.le_refl _))
/-- the data of a sequence; a box's list is put out of reach while it is walked -/
def seqOf (d : Dv) : Option (List Dt) := match d with
  | .d (.tup ts) => some ts
  | .d (.lst ts) => some ts
  | .d (.scr ts) => some ts
  | .d (.ltp ts) => some ts
  | _ => none
def iSeq (m : M Dv) : M (List Dt) := fun ρ S => (m ρ S).bind fun d S1 => li (seqOf d) S1
section
variable {X : Cx} {G : Gs} {W : WX} {kk : Nat} {tg iter e : Expr} {m : M Dv}
theorem wk_list {A : Al} {H : Hp} {a : Addr} {vs : List V} {ts : List Dt} (h : ∀ A' H', Ext A H A' H' → SqL G.K H' a vs) (r : RVs G A H ts vs) : Wk G (Itl G.K a) A H ts := by
  refine ⟨fun i A' H' hi x => ?_, fun i A' H' S v H2 hi x s hy => ?_, fun A' H' x => ?_⟩
  · obtain ⟨v, ev, _⟩ := r.get (List.getElem?_eq_getElem hi)
    exact ⟨vs, v, h A' H' x, ev⟩
  · obtain ⟨rfl, hv⟩ := hy
    obtain ⟨t, et, rt⟩ := r.get' (hv vs (h A' H2 x))
    exact ⟨t, et, .refl, s, rt.kp x.kp⟩
  · exact ⟨vs, h A' H' x, by rw [r.length]; exact Nat.le_refl _⟩
theorem wk_tup {A : Al} {H : Hp} {a : Addr} {vs : List V} {ts : List Dt} (h : ∀ A' H', Ext A H A' H' → SqT G.K H' a vs) (r : RVs G A H ts vs) : Wk G (Itt G.K a) A H ts := by
  refine ⟨fun i A' H' hi x => ?_, fun i A' H' S v H2 hi x s hy => ?_, fun A' H' x => ?_⟩
  · obtain ⟨v, ev, _⟩ := r.get (List.getElem?_eq_getElem hi)
    exact ⟨vs, v, h A' H' x, ev⟩
  · obtain ⟨rfl, hv⟩ := hy
    obtain ⟨t, et, rt⟩ := r.get' (hv vs (h A' H2 x))
    exact ⟨t, et, .refl, s, rt.kp x.kp⟩
  · exact ⟨vs, h A' H' x, by rw [r.length]; exact Nat.le_refl _⟩
theorem li_po {α : Type} {E : XK} {A : Al} {H : Hp} {S : Sto} {o : Option α} {k : Al → Hp → α → Prop} (h : Po G E A H (li o S) k) (s : StR G A S H) : ∃ a, o = some a ∧ k A H a := by
  cases o with
  | none => exact h.elim
  | some a => exact ⟨a, rfl, Po.now h s⟩
/-- how a sequence is walked -/
theorem seq_wk {A : Al} {H : Hp} {d : Dv} {v : V} {ts : List Dt} (h : seqOf d = some ts) (r : RD G A H d v) : ∃ a, v = .ref a ∧ (((∃ xs, SqL G.K H a xs) ∧ Wk G (Itl G.K a) A H ts) ∨ ((∃ xs, SqT G.K H a xs) ∧ Wk G (Itt G.K a) A H ts)) := by
  cases d with
  | loc n => cases h
  | d t =>
    cases t with
    | tup xs =>
      cases h
      obtain ⟨a, vs, e, ht, hv⟩ := r
      exact ⟨a, e, .inr ⟨⟨vs, ht.sq⟩, wk_tup (fun A' H' x => (ht.kp x.kp.toKq).sq) hv⟩⟩
    | lst xs =>
      cases h
      obtain ⟨a, vs, e, ht, hv⟩ := r
      exact ⟨a, e, .inl ⟨⟨vs, ht.sq⟩, wk_list (fun A' H' x => (ht.kp x.kp.toKq).sq) hv⟩⟩
    | scr xs =>
      cases h
      obtain ⟨a, vs, e, ht, hv⟩ := r
      exact ⟨a, e, .inl ⟨⟨vs, ht.sq⟩, wk_list (fun A' H' x => (ht.kp x.kp.toKq).sq) hv⟩⟩
    | ltp xs =>
      cases h
      obtain ⟨a, vs, e, ht, hv⟩ := r
      exact ⟨a, e, .inr ⟨⟨vs, ht H⟩, wk_tup (fun A' H' x => ht H') hv⟩⟩
    | _ => cases h
theorem i_seq (hK : G.K = X.K) (he : PE X e (tM G W m)) : PIS X G W tg e (iSeq m) := by
  refine ⟨_, pi_sq he, fun σ H A ρ S R he hs p => ?_⟩
  refine ⟨A, ρ, S, he, hs, Po.step p fun d S1 A1 H1 x1 s1 p1 v rv => ?_⟩
  obtain ⟨ts, e1, k⟩ := li_po p1 s1
  obtain ⟨a, ev, h⟩ := seq_wk e1 rv
  rw [← hK]
  rcases h with ⟨h, w⟩ | ⟨h, w⟩
  · exact ⟨a, ev, .inl ⟨h, k _ w⟩⟩
  · exact ⟨a, ev, .inr ⟨h, k _ w⟩⟩
/-! ranges -/
def rgOk (i j : Int) : Bool := decide (-(2 ^ 62) ≤ i ∧ i < 2 ^ 62 ∧ -(2 ^ 62) ≤ j ∧ j < 2 ^ 62)
def rgL (lo : Int) (n : Nat) : List Dt := (List.range n).map fun i => .int (lo + (i : Nat))
def rg1 (ds : List Dv) : Option (List Dt) := match ds with
  | [.d (.int j)] => if rgOk 0 j = true then some (rgL 0 j.toNat) else none
  | _ => none
def iRg (f : List Dv → Option (List Dt)) (ma : M (List Dv)) : M (List Dt) := fun ρ S => (ma ρ S).bind fun ds S1 => li (f ds) S1
theorem wk_range {A : Al} {H : Hp} {lo : Int} {n : Nat} : Wk G (Itr lo n) A H (rgL lo n) := by
  have hl : (rgL lo n).length = n := by simp [rgL]
  refine ⟨fun i A' H' hi x => by rw [hl] at hi; exact hi, fun i A' H' S v H2 hi x s hy => ?_, fun A' H' x => by rw [hl]; exact Nat.le_refl n⟩
  obtain ⟨rfl, rfl⟩ := hy
  rw [hl] at hi
  refine ⟨.int (lo + (i : Nat)), ?_, .refl, s, rfl⟩
  unfold rgL
  rw [List.getElem?_map, List.getElem?_range hi]
  rfl
theorem i_rg1 {a : Expr} {ma : M (List Dv)} {p pos : Pos} (hg : Gl X "range") (hm : X.mg "range" = none) (ha : PA X [a] (tMA G W ma)) (hs : starEach [a] X.env = [(false, eval a X.env)]) : PIS X G W tg (.Call (.Name "range" p) [a] [] pos) (iRg rg1 ma) := by
  refine ⟨_, pi_range1 hg hm ha hs, fun σ H A ρ S R he hs p => ?_⟩
  refine ⟨A, ρ, S, he, hs, Po.step p fun ds S1 A1 H1 x1 s1 p1 vs rv => ?_⟩
  obtain ⟨ts, e1, k⟩ := li_po p1 s1
  unfold rg1 at e1
  split at e1
  · rename_i j
    split at e1
    · rename_i hb
      cases e1
      cases rv with
      | cons r1 r2 =>
        cases r2
        have hb := of_decide_eq_true hb
        exact ⟨j, by rw [show _ = V.int j from r1], hb.2.2.1, hb.2.2.2, k _ wk_range⟩
    · cases e1
  · cases e1
/-! enumerate, zip -/
def lstOf (d : Dv) : Option (List Dt) := match d with
  | .d (.lst ts) => some ts
  | .d (.scr ts) => some ts
  | _ => none
def enL (ts : List Dt) : List Dt := (List.range ts.length).filterMap fun i => (ts[i]?).map fun t => .tup [.int (i : Nat), t]
def en1 (ds : List Dv) : Option (List Dt) := match ds with
  | [d] => (lstOf d).map enL
  | _ => none
theorem range_fm {α : Type} (f : Nat → Option α) : ∀ n i : Nat, (∀ j, j < n → (f j).isSome = true) → i < n → ((List.range n).filterMap f)[i]? = f i := by
  intro n
  induction n with
  | zero => intro i _ hi; omega
  | succ n ih =>
    intro i hf hi
    rw [List.range_succ, List.filterMap_append]
    have hl : ((List.range n).filterMap f).length = n := by
      have : ∀ m, m ≤ n → ((List.range m).filterMap f).length = m := by
        intro m
        induction m with
        | zero => intro _; rfl
        | succ m ihm =>
          intro hm
          rw [List.range_succ, List.filterMap_append, List.length_append, ihm (by omega)]
          have hs := hf m (by omega)
          cases e : f m with
          | none => rw [e] at hs; cases hs
          | some y => simp [e]
      exact this n (Nat.le_refl n)
    by_cases h : i < n
    · rw [List.getElem?_append_left (by omega)]
      exact ih i (fun j hj => hf j (by omega)) h
    · have : i = n := by omega
      subst this
      rw [List.getElem?_append_right (by omega), hl]
      have hs := hf i (by omega)
      cases e : f i with
      | none => rw [e] at hs; cases hs
      | some y => simp [e]
theorem fm_length {α : Type} (f : Nat → Option α) : ∀ n : Nat, (∀ j, j < n → (f j).isSome = true) → ((List.range n).filterMap f).length = n := by
  intro n
  induction n with
  | zero => intro _; rfl
  | succ n ih =>
    intro hf
    rw [List.range_succ, List.filterMap_append, List.length_append, ih (fun j hj => hf j (by omega))]
    have hs := hf n (by omega)
    cases e : f n with
    | none => rw [e] at hs; cases hs
    | some y => simp [e]
theorem enL_get {ts : List Dt} {i : Nat} (h : i < ts.length) : (enL ts)[i]? = some (.tup [.int (i : Nat), ts[i]]) := by
  unfold enL
  rw [range_fm _ _ _ (fun j hj => by simp [List.getElem?_eq_getElem hj]) h]
  simp [List.getElem?_eq_getElem h]
theorem enL_length (ts : List Dt) : (enL ts).length = ts.length := by
  unfold enL
  rw [fm_length _ _ (fun j hj => by simp [List.getElem?_eq_getElem hj])]
theorem lst_at {A : Al} {H : Hp} {d : Dv} {v : V} {ts : List Dt} (h : lstOf d = some ts) (r : RD G A H d v) : ∃ a vs, v = .ref a ∧ (∀ A' H', Ext A H A' H' → SqL G.K H' a vs) ∧ RVs G A H ts vs := by
  cases d with
  | loc n => cases h
  | d t =>
    cases t with
    | lst xs =>
      cases h
      obtain ⟨a, vs, e, ht, hv⟩ := r
      exact ⟨a, vs, e, fun A' H' x => (ht.kp x.kp.toKq).sq, hv⟩
    | scr xs =>
      cases h
      obtain ⟨a, vs, e, ht, hv⟩ := r
      exact ⟨a, vs, e, fun A' H' x => (ht.kp x.kp.toKq).sq, hv⟩
    | _ => cases h
theorem tup_at {A : Al} {H : Hp} {t : Dt} {v : V} {ts : List Dt} (h : t = .tup ts) (r : RV G A H t v) : ∃ a vs, v = .ref a ∧ (∀ A' H', Ext A H A' H' → SqT G.K H' a vs) ∧ RVs G A H ts vs := by
  subst h
  obtain ⟨a, vs, e, ht, hv⟩ := r
  exact ⟨a, vs, e, fun A' H' x => (ht.kp x.kp.toKq).sq, hv⟩
theorem wk_enum {A : Al} {H : Hp} {a : Addr} {vs : List V} {ts : List Dt} (h : ∀ A' H', Ext A H A' H' → SqL G.K H' a vs) (r : RVs G A H ts vs) : Wk G (Ite G.K a) A H (enL ts) := by
  have hl := enL_length ts
  refine ⟨fun i A' H' hi x => ?_, fun i A' H' S v H2 hi x s hy => ?_, fun A' H' x => ?_⟩
  · rw [hl] at hi
    obtain ⟨v, ev, _⟩ := r.get (List.getElem?_eq_getElem hi)
    exact ⟨vs, v, h A' H' x, ev⟩
  · rw [hl] at hi
    obtain ⟨T, y, rfl, hT, rfl, hv⟩ := hy
    obtain ⟨t, et, rt⟩ := r.get' (hv vs (h A' H' x))
    rw [List.getElem?_eq_getElem hi] at et
    cases et
    exact ⟨_, enL_get hi, .new hT, s.new hT, RV.tup_new s hT ⟨_, _, rfl, rfl, _, _, rfl, rt.kp x.kp, rfl⟩⟩
  · exact ⟨vs, h A' H' x, by rw [hl, r.length]; exact Nat.le_refl _⟩
theorem i_enum {a : Expr} {ma : M (List Dv)} {p pos tpos : Pos} {elts : List Expr} {kk : Nat} (hK : G.K = X.K) (hg : Gl X "enumerate") (hm : X.mg "enumerate" = none) (ha : PA X [a] (tMA G W ma)) (hs : starEach [a] X.env = [(false, eval a X.env)]) : PIS X G W (.Tuple elts kk tpos) (.Call (.Name "enumerate" p) [a] [] pos) (iRg en1 ma) := by
  refine ⟨_, pi_enum hg hm ha hs, fun σ H A ρ S R he hs p => ?_⟩
  refine ⟨A, ρ, S, he, hs, Po.step p fun ds S1 A1 H1 x1 s1 p1 vs rv => ?_⟩
  obtain ⟨ts, e1, k⟩ := li_po p1 s1
  cases rv with
  | nil => cases e1
  | cons r1 r2 =>
    cases r2 with
    | cons => cases e1
    | nil =>
      rename_i d v
      unfold en1 at e1
      simp only at e1
      cases el : lstOf d with
      | none => rw [el] at e1; cases e1
      | some us =>
        rw [el] at e1
        cases e1
        obtain ⟨a, ws, rfl, hq, hv⟩ := lst_at el r1
        rw [← hK]
        exact ⟨a, ws, rfl, hq A1 H1 .refl, k _ (wk_enum hq hv)⟩
def zpL (xs ys : List Dt) : List Dt := (List.zip xs ys).map fun p => .tup [p.1, p.2]
def zp2 (ds : List Dv) : Option (List Dt) := match ds with
  | [.d (.tup xs), .d (.tup ys)] => some (zpL xs ys)
  | [d, e] => (match lstOf d, lstOf e with
    | some xs, some ys => some (zpL xs ys)
    | _, _ => none)
  | _ => none
theorem zpL_length (xs ys : List Dt) : (zpL xs ys).length = min xs.length ys.length := by simp [zpL]
theorem zpL_get {xs ys : List Dt} {i : Nat} {x y : Dt} (hx : xs[i]? = some x) (hy : ys[i]? = some y) : (zpL xs ys)[i]? = some (.tup [x, y]) := by
  unfold zpL
  rw [List.getElem?_map, List.zip, List.getElem?_zipWith, hx, hy]
  rfl
theorem wk_zipL {A : Al} {H : Hp} {a b : Addr} {vs ws : List V} {xs ys : List Dt} (h : ∀ A' H', Ext A H A' H' → SqL G.K H' a vs) (r : RVs G A H xs vs) (h2 : ∀ A' H', Ext A H A' H' → SqL G.K H' b ws) (r2 : RVs G A H ys ws) : Wk G (Itz G.K a b) A H (zpL xs ys) := by
  have hl := zpL_length xs ys
  refine ⟨fun i A' H' hi x => ?_, fun i A' H' S v H2 hi x s hy => ?_, fun A' H' x => ?_⟩
  · rw [hl] at hi
    obtain ⟨v, ev, _⟩ := r.get (List.getElem?_eq_getElem (show i < xs.length by omega))
    obtain ⟨w, ew, _⟩ := r2.get (List.getElem?_eq_getElem (show i < ys.length by omega))
    exact ⟨vs, ws, v, w, h A' H' x, h2 A' H' x, ev, ew⟩
  · obtain ⟨T, x1, y1, rfl, hT, rfl, hv, hw⟩ := hy
    obtain ⟨t, et, rt⟩ := r.get' (hv vs (h A' H' x))
    obtain ⟨u, eu, ru⟩ := r2.get' (hw ws (h2 A' H' x))
    exact ⟨_, zpL_get et eu, .new hT, s.new hT, RV.tup_new s hT ⟨_, _, rfl, rt.kp x.kp, _, _, rfl, ru.kp x.kp, rfl⟩⟩
  · refine ⟨vs, ws, h A' H' x, h2 A' H' x, ?_⟩
    rw [hl, r.length, r2.length]
    omega
theorem wk_zipT {A : Al} {H : Hp} {a b : Addr} {vs ws : List V} {xs ys : List Dt} (h : ∀ A' H', Ext A H A' H' → SqT G.K H' a vs) (r : RVs G A H xs vs) (h2 : ∀ A' H', Ext A H A' H' → SqT G.K H' b ws) (r2 : RVs G A H ys ws) : Wk G (RZ.ItzT G.K a b) A H (zpL xs ys) := by
  have hl := zpL_length xs ys
  refine ⟨fun i A' H' hi x => ?_, fun i A' H' S v H2 hi x s hy => ?_, fun A' H' x => ?_⟩
  · rw [hl] at hi
    obtain ⟨v, ev, _⟩ := r.get (List.getElem?_eq_getElem (show i < xs.length by omega))
    obtain ⟨w, ew, _⟩ := r2.get (List.getElem?_eq_getElem (show i < ys.length by omega))
    exact ⟨vs, ws, v, w, h A' H' x, h2 A' H' x, ev, ew⟩
  · obtain ⟨T, x1, y1, rfl, hT, rfl, hv, hw⟩ := hy
    obtain ⟨t, et, rt⟩ := r.get' (hv vs (h A' H' x))
    obtain ⟨u, eu, ru⟩ := r2.get' (hw ws (h2 A' H' x))
    exact ⟨_, zpL_get et eu, .new hT, s.new hT, RV.tup_new s hT ⟨_, _, rfl, rt.kp x.kp, _, _, rfl, ru.kp x.kp, rfl⟩⟩
  · refine ⟨vs, ws, h A' H' x, h2 A' H' x, ?_⟩
    rw [hl, r.length, r2.length]
    omega
theorem i_zip {a b : Expr} {ma : M (List Dv)} {p pos tpos : Pos} {elts : List Expr} {kk : Nat} (hK : G.K = X.K) (hg : Gl X "zip") (hm : X.mg "zip" = none) (ha : PA X [a, b] (tMA G W ma)) (hs : starEach [a, b] X.env = (false, eval a X.env) :: starEach [b] X.env) (hpl : (backTo pos (starEach [b] X.env)).any (·.1) = false) :
    PIS X G W (.Tuple elts kk tpos) (.Call (.Name "zip" p) [a, b] [] pos) (iRg zp2 ma) := by
  refine ⟨_, RZ.pi_zipA hg hm ha hs hpl, fun σ H A ρ S R he hs p => ?_⟩
  refine ⟨A, ρ, S, he, hs, Po.step p fun ds S1 A1 H1 x1 s1 p1 vs rv => ?_⟩
  obtain ⟨ts, e1, k⟩ := li_po p1 s1
  rw [← hK]
  unfold zp2 at e1
  split at e1
  · rename_i xs ys
    cases e1
    cases rv with
    | cons r1 r2 =>
      cases r2 with
      | cons r2 r3 =>
        cases r3
        obtain ⟨a, us, rfl, ha, ru⟩ := tup_at rfl r1
        obtain ⟨b, ws, rfl, hb, rw'⟩ := tup_at rfl r2
        exact ⟨a, b, us, ws, rfl, .inr ⟨ha A1 H1 .refl, hb A1 H1 .refl, k _ (wk_zipT ha ru hb rw')⟩⟩
  · rename_i d e _
    cases ed : lstOf d with
    | none => rw [ed] at e1; cases e1
    | some xs =>
      cases ee : lstOf e with
      | none => rw [ed, ee] at e1; cases e1
      | some ys =>
        rw [ed, ee] at e1
        cases e1
        cases rv with
        | cons r1 r2 =>
          cases r2 with
          | cons r2 r3 =>
            cases r3
            obtain ⟨a, us, rfl, ha, ru⟩ := lst_at ed r1
            obtain ⟨b, ws, rfl, hb, rw'⟩ := lst_at ee r2
            exact ⟨a, b, us, ws, rfl, .inl ⟨ha A1 H1 .refl, hb A1 H1 .refl, k _ (wk_zipL ha ru hb rw')⟩⟩
  · cases e1
/-! dicts -/
def kT (k : Key) : Dt := match k with
  | .inl i => .int i
  | .inr s => .str s
def iDc (f : Dv → Option (List Dt)) (m : M Dv) : M (List Dt) := fun ρ S => (m ρ S).bind fun d S1 => li (f d) S1
theorem kT_rv {A : Al} {H : Hp} (k : Key) : RV G A H (kT k) (kV k) := by
  cases k with
  | inl i => exact (rfl : V.int i = V.int i)
  | inr s => exact (rfl : V.str s = V.str s)
/-! a text, sign by sign -/
end
end Sm
/-! Sm9: operators, subscripts, the builtins, by data. -/
namespace Sm
open PySem PySem.Spec PyProof.Rows L2
section
variable {G : Gs} {E : XK} {A : Al} {S : Sto} {H : Hp} {Q : VK} {ts : List Dt} {vs : List V}
theorem poT (p : Po G E A H (lift (some (Dv.d (.tup ts), S))) (kD G Q)) (s : StR G A S H) (r : RVs G A H ts vs) : ∀ q, H q = none → Q (.ref q) (upd H q (.tup vs)) :=
  fun _ hq => Po.at p (Ext.new hq) (s.new hq) _ (RV.tup_new s hq r)
theorem poL (p : Po G E A H (lift (some (Dv.d (.lst ts), S))) (kD G Q)) (s : StR G A S H) (r : RVs G A H ts vs) : ∀ q, H q = none → Q (.ref q) (upd H q (.lst vs)) :=
  fun _ hq => Po.at p (Ext.new hq) (s.new hq) _ (RV.lst_new s hq r)
theorem poB {ds : List Dv} (p : Po G E A H (lift (some (Dv.loc S.length, S ++ [.lst ds]))) (kD G Q)) (s : StR G A S H) (r : RDs G A H ds vs) : ∀ q, H q = none → Q (.ref q) (upd H q (.lst vs)) := fun _ hq => by
  obtain ⟨x1, s1, r1⟩ := box_lst s hq r
  exact Po.at p x1 s1 _ r1
end
/-- what a list (a box or not) has -/
def lstAt (S : Sto) (d : Dv) : Option (List Dv) := match d with
  | .d (.lst ts) => some (ts.map .d)
  | .loc n => (match S[n]? with
    | some (.lst ds) => some ds
    | _ => none)
  | _ => none
theorem lstAt_rd {G : Gs} {A : Al} {S : Sto} {H : Hp} {d : Dv} {v : V} {ds : List Dv} (s : StR G A S H) (r : RD G A H d v) (h : lstAt S d = some ds) : ∃ a vs, v = .ref a ∧ H a = some (.lst vs) ∧ RDs G A H ds vs := by
  cases d with
  | d t =>
    cases t with
    | lst ts =>
      obtain ⟨a, vs, e, hl, hv⟩ := r
      cases h
      exact ⟨a, vs, e, hl.1, hv.rds⟩
    | _ => cases h
  | loc n =>
    unfold lstAt at h
    simp only at h
    cases e : S[n]? with
    | none => rw [e] at h; cases h
    | some o =>
      rw [e] at h
      cases o with
      | lst xs =>
        cases h
        obtain ⟨a, vs, ev, _, hl, hv⟩ := loc_lst s r e
        exact ⟨a, vs, ev, hl, hv⟩
      | _ => cases h
/-- any sequence: what it has -/
def seqAt (S : Sto) (d : Dv) : Option (List Dv) := match d with
  | .d (.tup ts) => some (ts.map .d)
  | .d (.scr ts) => some (ts.map .d)
  | .d (.ltp ts) => some (ts.map .d)
  | d => lstAt S d
theorem seqAt_rd {G : Gs} {A : Al} {S : Sto} {H : Hp} {d : Dv} {v : V} {ds : List Dv} (s : StR G A S H) (r : RD G A H d v) (h : seqAt S d = some ds) : ∃ a vs, v = .ref a ∧ (SqL G.K H a vs ∨ SqT G.K H a vs) ∧ RDs G A H ds vs := by
  unfold seqAt at h
  split at h
  · obtain ⟨a, vs, e, ht, hv⟩ := r
    cases h
    exact ⟨a, vs, e, .inr ht.sq, hv.rds⟩
  · obtain ⟨a, vs, e, ht, hv⟩ := r
    cases h
    exact ⟨a, vs, e, .inl ht.sq, hv.rds⟩
  · obtain ⟨a, vs, e, ht, hv⟩ := r
    cases h
    exact ⟨a, vs, e, .inr (ht H), hv.rds⟩
  · obtain ⟨a, vs, e, hl, hv⟩ := lstAt_rd s r h
    exact ⟨a, vs, e, .inl (.inl (.inl hl)), hv⟩
theorem RDs.pure {G : Gs} {A : Al} {H : Hp} {ts : List Dt} {ds : List Dv} {vs : List V} (e : pures ds = some ts) (r : RDs G A H ds vs) : RVs G A H ts vs := pures_rvs e r

/-! ### operators -/
def pAdd : P2 := fun d e S => match d, e with
  | .d (.int i), .d (.int j) => some (.d (.int (i + j)), S)
  | .d (.str a), .d (.str b) => if a.length + b.length ≤ 16777216 then some (.d (.str (a ++ b)), S) else none
  | .d (.tup a), .d (.tup b) => if a.length + b.length ≤ 16777216 then some (.d (.tup (a ++ b)), S) else none
  | .d (.lst a), .d (.lst b) => if a.length + b.length ≤ 16777216 then some (.d (.lst (a ++ b)), S) else none
  | _, _ => none
def smallI (i : Int) : Bool := decide (-(2 ^ 64) < i ∧ i < 2 ^ 64)
def mulOk (i j : Int) : Bool := smallI i || smallI j || decide (i.natAbs.log2 + j.natAbs.log2 < 1000000)
def divOk (j : Int) : Bool := decide (0 < j ∧ j < 1073741824) || decide (0 < j ∧ j.natAbs.log2 < 9000)
def pMul : P2 := fun d e S => match d, e with
  | .d (.int i), .d (.int j) => if mulOk i j = true then some (.d (.int (i * j)), S) else none
  | .d (.lst a), .d (.int j) => if decide (-(2 ^ 63) ≤ j ∧ j < 2 ^ 63 ∧ a.length * j.toNat ≤ 16777216) = true then some (.d (.lst (List.replicate j.toNat a).flatten), S) else none
  | _, _ => none
def pDiv : P2 := fun d e S => match d, e with
  | .d (.int i), .d (.int j) => if divOk j = true then some (.d (.int (i / j)), S) else none
  | _, _ => none
def pMod : P2 := fun d e S => match d, e with
  | .d (.int i), .d (.int j) => if 0 < j then some (.d (.int (i % j)), S) else none
  | _, _ => none
def pPow : P2 := fun d e S => match d, e with
  | .d (.int i), .d (.int j) => if decide (0 ≤ j ∧ j ≤ 1000000 ∧ i.natAbs < 2 ^ 64) = true then some (.d (.int (i ^ j.toNat)), S) else none
  | _, _ => none
def pNeg : P1 := fun d S => match d with
  | .d (.int i) => some (.d (.int (-i)), S)
  | _ => none
theorem rvs_rep {G : Gs} {A : Al} {H : Hp} {ts : List Dt} {vs : List V} (r : RVs G A H ts vs) : ∀ k : Nat, RVs G A H (List.replicate k ts).flatten (List.replicate k vs).flatten
  | 0 => (rfl : ([] : List V) = [])
  | k + 1 => by
    simp only [List.replicate_succ, List.flatten_cons]
    exact r.append (rvs_rep r k)
section
variable {X : Cx} {G : Gs} {W : WX} {k : Nat}
theorem o_add (hK : G.K = X.K) : OpR X (binaryOp .Add) (q2 G pAdd) := by
  refine (op_add.or (op_add_str.or (op_catA.or op_cat))).sm fun x y H Q h => ?_
  obtain ⟨A, S, d, e, rd, re, s, p⟩ := h
  unfold pAdd at p
  split at p
  · exact .inl ⟨_, _, rd, re, Po.now p s _ rfl⟩
  · split at p
    · rename_i hl
      exact .inr (.inl ⟨_, _, rd, re, line_of hl, Po.now p s _ rfl⟩)
    · exact p.elim
  · split at p
    · rename_i hl
      obtain ⟨a, vs, rfl, ha, hv⟩ := rd
      obtain ⟨b, ws, rfl, hb, hw⟩ := re
      refine .inr (.inr (.inl ⟨a, b, vs, ws, rfl, rfl, ?_, ?_, ?_, fun e => ?_, fun ne e => ?_, fun ne ne2 q hq => poT p s (hv.append hw) q hq⟩))
      · rw [← hK]; exact ha.sq
      · rw [← hK]; exact hb.sq
      · rw [← hv.length, ← hw.length]; exact line_of hl
      · subst e
        have z := hv.length
        simp at z
        subst z
        exact Po.now p s (.ref b) ⟨b, ws, rfl, hb, hw⟩
      · subst e
        have z := hw.length
        simp at z
        subst z
        rw [List.append_nil] at p
        exact Po.now p s (.ref a) ⟨a, vs, rfl, ha, hv⟩
    · exact p.elim
  · split at p
    · rename_i hl
      obtain ⟨a, vs, rfl, ha, hv⟩ := rd
      obtain ⟨b, ws, rfl, hb, hw⟩ := re
      refine .inr (.inr (.inr ⟨a, b, vs, ws, rfl, rfl, ha.1, hb.1, ?_, poL p s (hv.append hw)⟩))
      rw [← hv.length, ← hw.length]; exact line_of hl
    · exact p.elim
  · exact p.elim
theorem o_mul : OpR X (binaryOp .Mult) (q2 G pMul) := by
  refine (op_mul.or (op_mulW.or op_rep)).sm fun x y H Q h => ?_
  obtain ⟨A, S, d, e, rd, re, s, p⟩ := h
  unfold pMul at p
  split at p
  · split at p
    · rename_i hl
      unfold mulOk smallI at hl
      simp only [Bool.or_eq_true, decide_eq_true_eq] at hl
      rcases hl with (hl | hl) | hl
      · exact .inl ⟨_, _, rd, re, .inl hl, Po.now p s _ rfl⟩
      · exact .inl ⟨_, _, rd, re, .inr hl, Po.now p s _ rfl⟩
      · exact .inr (.inl ⟨_, _, rd, re, hl, Po.now p s _ rfl⟩)
    · exact p.elim
  · split at p
    · rename_i hl
      have hl := of_decide_eq_true hl
      obtain ⟨a, vs, rfl, ha, hv⟩ := rd
      refine .inr (.inr ⟨a, _, vs, rfl, re, ha.1, hl.1, hl.2.1, ?_, poL p s (rvs_rep hv _)⟩)
      rw [← hv.length]; exact line_of hl.2.2
    · exact p.elim
  · exact p.elim
theorem o_div : OpR X (binaryOp .FloorDiv) (q2 G pDiv) := by
  refine (op_fdiv.or op_fdivW).sm fun x y H Q h => ?_
  obtain ⟨A, S, d, e, rd, re, s, p⟩ := h
  unfold pDiv at p
  split at p
  · split at p
    · rename_i hl
      unfold divOk at hl
      simp only [Bool.or_eq_true, decide_eq_true_eq] at hl
      rcases hl with hl | hl
      · exact .inl ⟨_, _, rd, re, hl, Po.now p s _ rfl⟩
      · exact .inr ⟨_, _, rd, re, hl, Po.now p s _ rfl⟩
    · exact p.elim
  · exact p.elim
theorem o_mod : OpR X (binaryOp .Mod) (q2 G pMod) := by
  refine op_mod.sm fun x y H Q h => ?_
  obtain ⟨A, S, d, e, rd, re, s, p⟩ := h
  unfold pMod at p
  split at p
  · split at p
    · rename_i hl
      exact ⟨_, _, rd, re, hl, Po.now p s _ rfl⟩
    · exact p.elim
  · exact p.elim
theorem o_pow : OpR X (binaryOp .Pow) (q2 G pPow) := by
  refine op_pow.sm fun x y H Q h => ?_
  obtain ⟨A, S, d, e, rd, re, s, p⟩ := h
  unfold pPow at p
  split at p
  · split at p
    · rename_i hl
      have hl := of_decide_eq_true hl
      exact ⟨_, _, rd, re, hl, Po.now p s _ rfl⟩
    · exact p.elim
  · exact p.elim
theorem u_neg : UnR X (unaryOp .USub) (q1 G pNeg) := by
  refine un_neg.sm fun x H Q h => ?_
  obtain ⟨A, S, d, rd, s, p⟩ := h
  unfold pNeg at p
  split at p
  · exact ⟨_, rd, Po.now p s _ rfl⟩
  · exact p.elim
end

/-! ### deep data -/
mutual
def toPy : Dt → Option PyData
  | .non => some .none
  | .bl b => some (.bool b)
  | .int i => some (.int i)
  | .str s => some (.str s)
  | .tup xs => (toPys xs).map .tuple
  | .lst xs => (toPys xs).map .list
  | .scr xs => (toPys xs).map .list
  | .ltp xs => (toPys xs).map .tuple
  | .dct _ _ => none
  | .obj _ _ => none
  | .exc _ _ => none
  | .ntp _ => none
def toPys : List Dt → Option (List PyData)
  | [] => some []
  | t :: ts => match toPy t, toPys ts with
    | some a, some b => some (a :: b)
    | _, _ => none
end
mutual
theorem RV.dp {G : Gs} {A : Al} {H : Hp} : ∀ {t : Dt} {v : V} {d : PyData}, toPy t = some d → RV G A H t v → Dp G.K H v d
  | .non, v, d, e, r => by
    cases e
    obtain rfl : v = .non := r
    exact .non
  | .bl b, v, d, e, r => by
    cases e
    obtain rfl : v = .bl b := r
    exact .bl b
  | .int i, v, d, e, r => by
    cases e
    obtain rfl : v = .int i := r
    exact .int i
  | .str x, v, d, e, r => by
    cases e
    obtain rfl : v = .str x := r
    exact .str x
  | .tup xs, v, d, e, r => by
    obtain ⟨a, vs, rfl, h, hv⟩ := r
    unfold toPy at e
    cases e1 : toPys xs with
    | none => rw [e1] at e; cases e
    | some ds =>
      rw [e1] at e
      cases e
      exact .tup h.sq (RVs.dp e1 hv)
  | .lst xs, v, d, e, r => by
    obtain ⟨a, vs, rfl, h, hv⟩ := r
    unfold toPy at e
    cases e1 : toPys xs with
    | none => rw [e1] at e; cases e
    | some ds =>
      rw [e1] at e
      cases e
      exact .lst h.sq (RVs.dp e1 hv)
  | .scr xs, v, d, e, r => by
    obtain ⟨a, vs, rfl, h, hv⟩ := r
    unfold toPy at e
    cases e1 : toPys xs with
    | none => rw [e1] at e; cases e
    | some ds =>
      rw [e1] at e
      cases e
      exact .lst h.sq (RVs.dp e1 hv)
  | .ltp xs, v, d, e, r => by
    obtain ⟨a, vs, rfl, h, hv⟩ := r
    unfold toPy at e
    cases e1 : toPys xs with
    | none => rw [e1] at e; cases e
    | some ds =>
      rw [e1] at e
      cases e
      exact .tup (h H) (RVs.dp e1 hv)
  | .dct ks xs, v, d, e, r => by cases e
  | .obj c xs, v, d, e, r => by cases e
  | .exc c xs, v, d, e, r => by cases e
  | .ntp xs, v, d, e, r => by cases e
theorem RVs.dp {G : Gs} {A : Al} {H : Hp} : ∀ {ts : List Dt} {vs : List V} {ds : List PyData}, toPys ts = some ds → RVs G A H ts vs → DpAll G.K H vs ds
  | [], vs, ds, e, r => by
    cases e
    obtain rfl : vs = [] := r
    exact .nil
  | t :: ts, vs, ds, e, r => by
    obtain ⟨v, w, rfl, r1, r2⟩ := r
    unfold toPys at e
    cases e1 : toPy t with
    | none => rw [e1] at e; cases e
    | some a =>
      cases e2 : toPys ts with
      | none => rw [e1, e2] at e; cases e
      | some b =>
        rw [e1, e2] at e
        cases e
        exact .cons (RV.dp e1 r1) (RVs.dp e2 r2)
end
def pyDv (S : Sto) (d : Dv) : Option PyData := match d with
  | .d t => toPy t
  | .loc n => (match S[n]? with
    | some (.lst ds) => ((pures ds).bind toPys).map .list
    | _ => none)
theorem pyDv_dp {G : Gs} {A : Al} {S : Sto} {H : Hp} {d : Dv} {v : V} {y : PyData} (s : StR G A S H) (r : RD G A H d v) (h : pyDv S d = some y) : Dp G.K H v y := by
  cases d with
  | d t => exact RV.dp h r
  | loc n =>
    unfold pyDv at h
    simp only at h
    cases e : S[n]? with
    | none => rw [e] at h; cases h
    | some o =>
      rw [e] at h
      cases o with
      | lst xs =>
        obtain ⟨a, vs, rfl, _, hl, hv⟩ := loc_lst s r e
        simp only at h
        cases e1 : pures xs with
        | none => rw [e1] at h; cases h
        | some ts =>
          rw [e1] at h
          simp only [Option.bind_some] at h
          cases e2 : toPys ts with
          | none => rw [e2] at h; cases h
          | some ds =>
            rw [e2] at h
            cases h
            exact .lst (.inl (.inl hl)) (RVs.dp e2 (pures_rvs e1 hv))
      | _ => cases h
def eqDv (S : Sto) (d e : Dv) : Option Bool := match pyDv S d, pyDv S e with
  | some x, some y => if SeqAt.shaped x = true ∧ SeqAt.shaped y = true then some (PyData.eqv x y) else none
  | _, _ => none
theorem eqDv_to {S : Sto} {d e : Dv} {b : Bool} (h : eqDv S d e = some b) : ∃ x y, pyDv S d = some x ∧ pyDv S e = some y ∧ SeqAt.shaped x = true ∧ SeqAt.shaped y = true ∧ b = PyData.eqv x y := by
  unfold eqDv at h
  split at h
  · rename_i x y e1 e2
    split at h
    · rename_i hs
      cases h
      exact ⟨x, y, e1, e2, hs.1, hs.2, rfl⟩
    · cases h
  · cases h
def pEq : P2 := fun d e S => match eqDv S d e with
  | some b => some (.d (.bl b), S)
  | none => none
def pNe : P2 := fun d e S => match eqDv S d e with
  | some b => some (.d (.bl (!b)), S)
  | none => none
def pCmp (f : Int → Int → Bool) (g : Str → Str → Bool) : P2 := fun d e S => match d, e with
  | .d (.int i), .d (.int j) => some (.d (.bl (f i j)), S)
  | .d (.str i), .d (.str j) => some (.d (.bl (g i j)), S)
  | _, _ => none
def ltS (i j : Str) : Bool := decide (i.cps.toList < j.cps.toList)
def pLt : P2 := pCmp (fun i j => decide (i < j)) ltS
def pGt : P2 := pCmp (fun i j => decide (j < i)) fun i j => ltS j i
def pGe : P2 := pCmp (fun i j => decide (j ≤ i)) fun i j => !ltS i j
section
variable {X : Cx} {G : Gs} {W : WX} {k : Nat}
theorem o_eq (hu : X.A.units + 64 < cLine) (hK : G.K = X.K) : OpR X (compareOp .Eq) (q2 G pEq) := by
  refine (op_eqD hu).sm fun x y H Q h => ?_
  obtain ⟨A, S, d, e, rd, re, s, p⟩ := h
  unfold pEq at p
  split at p
  · rename_i b hb
    obtain ⟨u, v, e1, e2, s1, s2, eb⟩ := eqDv_to hb
    subst eb
    rw [← hK]
    exact ⟨u, v, pyDv_dp s rd e1, pyDv_dp s re e2, s1, s2, Po.now p s _ rfl⟩
  · exact p.elim
theorem o_ne (hu : X.A.units + 64 < cLine) (hK : G.K = X.K) : OpR X (compareOp .NotEq) (q2 G pNe) := by
  refine (op_neD hu).sm fun x y H Q h => ?_
  obtain ⟨A, S, d, e, rd, re, s, p⟩ := h
  unfold pNe at p
  split at p
  · rename_i b hb
    obtain ⟨u, v, e1, e2, s1, s2, eb⟩ := eqDv_to hb
    subst eb
    rw [← hK]
    exact ⟨u, v, pyDv_dp s rd e1, pyDv_dp s re e2, s1, s2, Po.now p s _ rfl⟩
  · exact p.elim
theorem cmp_read {f : Int → Int → Bool} {g : Str → Str → Bool} {x y : V} {H : Hp} {Q : VK} (h : q2 G (pCmp f g) x y H Q) : (∃ i j, x = .int i ∧ y = .int j ∧ Q (.bl (f i j)) H) ∨ ∃ i j, x = .str i ∧ y = .str j ∧ Q (.bl (g i j)) H := by
  obtain ⟨A, S, d, e, rd, re, s, p⟩ := h
  unfold pCmp at p
  split at p
  · exact .inl ⟨_, _, rd, re, Po.now p s _ rfl⟩
  · exact .inr ⟨_, _, rd, re, Po.now p s _ rfl⟩
  · exact p.elim
theorem o_lt : OpR X (compareOp .Lt) (q2 G pLt) := (op_lt.or op_lt_str).sm fun _ _ _ _ h => cmp_read h
theorem o_gt : OpR X (compareOp .Gt) (q2 G pGt) := (op_gt.or op_gt_str).sm fun _ _ _ _ h => cmp_read h
theorem o_ge : OpR X (compareOp .GtE) (q2 G pGe) := (op_ge.or op_ge_str).sm fun _ _ _ _ h => cmp_read h
theorem isN_rd {A : Al} {H : Hp} {t : Dt} {v : V} (r : RV G A H t v) : decide (v = .non) = (match t with | .non => true | _ => false) := by
  cases t with
  | non => obtain rfl : v = .non := r; rfl
  | bl b => obtain rfl : v = .bl b := r; rfl
  | int i => obtain rfl : v = .int i := r; rfl
  | str i => obtain rfl : v = .str i := r; rfl
  | tup xs => obtain ⟨a, vs, rfl, _⟩ := r; rfl
  | lst xs => obtain ⟨a, vs, rfl, _⟩ := r; rfl
  | scr xs => obtain ⟨a, vs, rfl, _⟩ := r; rfl
  | ltp xs => obtain ⟨a, vs, rfl, _⟩ := r; rfl
  | dct ks xs => obtain ⟨a, vs, rfl, _⟩ := r; rfl
  | obj c xs => obtain ⟨a, _, _, _, rfl, _⟩ := r; rfl
  | exc c xs => obtain ⟨a, _, _, _, rfl, _⟩ := r; rfl
  | ntp xs => obtain ⟨a, vs, rfl, _⟩ := r; rfl
end
end Sm
/-! Sm10: in, subscripts, slices, len, list, tuple, int, abs, isinstance, stores, list methods. -/
namespace Sm
open PySem PySem.Spec PyProof.Rows L2

/-! ### is None -/
def isNon : Dt → Bool
  | .non => true
  | _ => false
def pIsN : P2 := fun d e S => match d, e with
  | .d t, .d .non => some (.d (.bl (isNon t)), S)
  | _, _ => none
/-! ### flat items, keys -/
def flatT : Dt → Bool
  | .non => true
  | .bl _ => true
  | .int _ => true
  | .str _ => true
  | _ => false
def eqF : Dt → Dt → Bool
  | .non, .non => true
  | .bl a, .bl b => a == b
  | .bl a, .int b => (if a then 1 else 0) == b
  | .int a, .bl b => a == (if b then 1 else 0)
  | .int a, .int b => a == b
  | .str a, .str b => a == b
  | _, _ => false
section
variable {G : Gs} {A : Al} {H : Hp}
theorem flat_rv {t : Dt} {v : V} (r : RV G A H t v) (f : flatT t = true) : flatV v = true := by
  cases t with
  | non => obtain rfl : v = .non := r; rfl
  | bl b => obtain rfl : v = .bl b := r; rfl
  | int i => obtain rfl : v = .int i := r; rfl
  | str i => obtain rfl : v = .str i := r; rfl
  | _ => cases f
theorem eqF_rv {t u : Dt} {v w : V} (r : RV G A H t v) (r2 : RV G A H u w) (f : flatT t = true) (f2 : flatT u = true) : eqV v w = eqF t u := by
  cases t with
  | non =>
    obtain rfl : v = .non := r
    cases u with
    | non => obtain rfl : w = .non := r2; rfl
    | bl b => obtain rfl : w = .bl b := r2; rfl
    | int i => obtain rfl : w = .int i := r2; rfl
    | str i => obtain rfl : w = .str i := r2; rfl
    | _ => cases f2
  | bl b =>
    obtain rfl : v = .bl b := r
    cases u with
    | non => obtain rfl : w = .non := r2; rfl
    | bl b => obtain rfl : w = .bl b := r2; rfl
    | int i => obtain rfl : w = .int i := r2; rfl
    | str i => obtain rfl : w = .str i := r2; rfl
    | _ => cases f2
  | int i =>
    obtain rfl : v = .int i := r
    cases u with
    | non => obtain rfl : w = .non := r2; rfl
    | bl b => obtain rfl : w = .bl b := r2; rfl
    | int i => obtain rfl : w = .int i := r2; rfl
    | str i => obtain rfl : w = .str i := r2; rfl
    | _ => cases f2
  | str i =>
    obtain rfl : v = .str i := r
    cases u with
    | non => obtain rfl : w = .non := r2; rfl
    | bl b => obtain rfl : w = .bl b := r2; rfl
    | int i => obtain rfl : w = .int i := r2; rfl
    | str i => obtain rfl : w = .str i := r2; rfl
    | _ => cases f2
  | _ => cases f
theorem all_flat : ∀ {ts : List Dt} {vs : List V}, RVs G A H ts vs → ts.all flatT = true → vs.all flatV = true
  | [], vs, r, _ => by
    obtain rfl : vs = [] := r
    rfl
  | t :: ts, vs, r, f => by
    obtain ⟨v, w, rfl, r1, r2⟩ := r
    rw [List.all_cons, Bool.and_eq_true] at f
    rw [List.all_cons, Bool.and_eq_true]
    exact ⟨flat_rv r1 f.1, all_flat r2 f.2⟩
theorem any_flat {u : Dt} {w : V} (ru : RV G A H u w) (fu : flatT u = true) : ∀ {ts : List Dt} {vs : List V}, RVs G A H ts vs → ts.all flatT = true → inV w vs = ts.any fun t => eqF t u
  | [], vs, r, _ => by
    obtain rfl : vs = [] := r
    rfl
  | t :: ts, vs, r, f => by
    obtain ⟨v, w', rfl, r1, r2⟩ := r
    rw [List.all_cons, Bool.and_eq_true] at f
    have ih := any_flat ru fu r2 f.2
    unfold inV at ih ⊢
    rw [List.any_cons, List.any_cons, eqF_rv r1 ru f.1 fu, ih]
end
/-- the keys of a dict (a box or not) -/
def dctAt (S : Sto) (d : Dv) : Option (List Key × List Dv) := match d with
  | .d (.dct ks xs) => some (ks, xs.map .d)
  | .loc n => (match S[n]? with
    | some (.dct ks xs) => some (ks, xs)
    | _ => none)
  | _ => none
theorem dctAt_rd {G : Gs} {A : Al} {S : Sto} {H : Hp} {d : Dv} {v : V} {ks : List Key} {xs : List Dv} (s : StR G A S H) (r : RD G A H d v) (h : dctAt S d = some (ks, xs)) : ∃ a kvs, v = .ref a ∧ Rd H a (.dK kvs) ∧ kvs.map (·.1) = ks ∧ RDs G A H xs (kvs.map (·.2)) := by
  cases d with
  | d t =>
    cases t with
    | dct ks' xs' =>
      obtain ⟨a, kvs, e, _, hl, ek, hv⟩ := r
      cases h
      exact ⟨a, kvs, e, hl, ek, hv.rds⟩
    | _ => cases h
  | loc n =>
    unfold dctAt at h
    simp only at h
    cases e : S[n]? with
    | none => rw [e] at h; cases h
    | some o =>
      rw [e] at h
      cases o with
      | dct ks' xs' =>
        cases h
        obtain ⟨a, kvs, ev, _, hl, ek, hv⟩ := loc_dct s r e
        exact ⟨a, kvs, ev, .inl hl, ek, hv⟩
      | _ => cases h
def inSeq (x : Dv) (ds : List Dv) : Option Bool := match x with
  | .d u => if flatT u = true then (match pures ds with
    | some ts => if ts.all flatT = true then some (ts.any fun t => eqF t u) else none
    | none => none) else none
  | _ => none
def inDv (S : Sto) (x e : Dv) : Option Bool := match dctAt S e with
  | some (ks, _) => (kOf x).map (hasK ks)
  | none => (match seqAt S e with
    | some ds => inSeq x ds
    | none => none)
/-- .. where items are data of any depth -/
def inDat (S : Sto) (x e : Dv) : Option Bool := match pyDv S x, pyDv S e with
  | some d, some (.list ds) => if SeqAt.shaped d = true ∧ SeqAt.shaped (.list ds) = true then some (ds.any fun z => PyData.eqv z d) else none
  | some d, some (.tuple ds) => if SeqAt.shaped d = true ∧ SeqAt.shaped (.tuple ds) = true then some (ds.any fun z => PyData.eqv z d) else none
  | _, _ => none
def pIn : P2 := fun d e S => match inDv S d e with
  | some b => some (.d (.bl b), S)
  | none => (match inDat S d e with
    | some b => some (.d (.bl b), S)
    | none => none)
theorem valV_has {kvs : List (Key × V)} {k : Key} : (valV kvs k).isSome = hasK (kvs.map (·.1)) k := by
  induction kvs with
  | nil => rfl
  | cons p r ih =>
    unfold hasK at ih ⊢
    rw [List.map_cons, List.any_cons]
    by_cases e : p.1 = k
    · rw [valV_pos e]
      simp [e]
    · have : valV (p :: r) k = valV r k := by
        unfold valV
        rw [List.find?_cons_of_neg (by simpa using e)]
      rw [this, ih]
      simp [e]
section
variable {X : Cx} {G : Gs} {W : WX} {k : Nat}
theorem op_inDct (hu : X.A.units + 1 < cLine) : OpR X (compareOp .In) (fun x y H Q => ∃ a o, y = .ref a ∧ DGet H a x o ∧ Q (.bl o.isSome) H) := by
  intro pins s σ H x y v u Q I rx ry h
  obtain ⟨a, o, rfl, g, q⟩ := h
  obtain rfl : u = Value.ref a := ry
  exact d_in hu I g rx fun s3 I3 => ⟨.bl o.isSome, H, I3, rfl, q⟩
theorem in_read {x y : V} {H : Hp} {A : Al} {S : Sto} {d e : Dv} {b : Bool} (hK : G.K = X.K) (rd : RD G A H d x) (re : RD G A H e y) (s : StR G A S H) (h : inDv S d e = some b) :
    (∃ p xs, y = .ref p ∧ (SqL X.K H p xs ∨ SqT X.K H p xs) ∧ flatV x = true ∧ xs.all flatV = true ∧ inV x xs = b) ∨ ∃ a o, y = .ref a ∧ DGet H a x o ∧ o.isSome = b := by
  unfold inDv at h
  split at h
  · rename_i ks xs e1
    obtain ⟨a, kvs, ev, hl, ek, hv⟩ := dctAt_rd s re e1
    cases ek2 : kOf d with
    | none => rw [ek2] at h; cases h
    | some j =>
      rw [ek2] at h
      cases h
      have ex := kOf_rd ek2 rd
      exact .inr ⟨a, valV kvs j, ev, .inl ⟨kvs, j, hl, ex, rfl⟩, by rw [valV_has, ek]⟩
  · split at h
    · rename_i ds e2
      obtain ⟨a, vs, ev, hs, hv⟩ := seqAt_rd s re e2
      unfold inSeq at h
      split at h
      · rename_i u
        split at h
        · rename_i fu
          split at h
          · rename_i ts e3
            split at h
            · rename_i ft
              cases h
              have rv := pures_rvs e3 hv
              rw [hK] at hs
              exact .inl ⟨a, vs, ev, hs, flat_rv rd fu, all_flat rv ft, any_flat rd fu rv ft⟩
            · cases h
          · cases h
        · cases h
      · cases h
    · cases h
theorem _root_.L2.Room.units66 {k : Nat} {A : Around} (r : Room k A) : A.units + 66 < cLine := by have := r.un; omega
def rInT (K : PySem.W.Frag) : R2 := fun x y H Q => ∃ d ds, Dp K H x d ∧ Dp K H y (.tuple ds) ∧ SeqAt.shaped d = true ∧ SeqAt.shaped (.tuple ds) = true ∧ Q (.bl (ds.any fun z => PyData.eqv z d)) H
theorem op_inT (hu : X.A.units + 65 < cLine) : OpR X (compareOp .In) (rInT X.K) := by
  intro pins s σ H x y v u Q I rx ry h
  obtain ⟨d, ds, hd, he, sd, se, q⟩ := h
  obtain ⟨as, r1⟩ := Dp.reads I d x v hd rx
  obtain ⟨bs, r2⟩ := Dp.reads I (.tuple ds) y u he ry
  exact SeqAt.in_tuple_reads r2 r1 (SeqAt.canLay_of_shaped se) (SeqAt.canLay_of_shaped sd) (room_in_shaped sd hu) ⟨.bl _, H, I, rfl, q⟩
theorem inDat_read {x y : V} {H : Hp} {A : Al} {S : Sto} {d e : Dv} {b : Bool} (hK : G.K = X.K) (rd : RD G A H d x) (re : RD G A H e y) (s : StR G A S H) (h : inDat S d e = some b) :
    ∃ z ds, Dp X.K H x z ∧ SeqAt.shaped z = true ∧ (ds.any fun u => PyData.eqv u z) = b ∧ ((Dp X.K H y (.list ds) ∧ SeqAt.shaped (.list ds) = true) ∨ (Dp X.K H y (.tuple ds) ∧ SeqAt.shaped (.tuple ds) = true)) := by
  unfold inDat at h
  split at h
  · rename_i z ds e1 e2
    split at h
    · rename_i hs
      cases h
      rw [← hK]
      exact ⟨z, ds, pyDv_dp s rd e1, hs.1, rfl, .inl ⟨pyDv_dp s re e2, hs.2⟩⟩
    · cases h
  · rename_i z ds e1 e2
    split at h
    · rename_i hs
      cases h
      rw [← hK]
      exact ⟨z, ds, pyDv_dp s rd e1, hs.1, rfl, .inr ⟨pyDv_dp s re e2, hs.2⟩⟩
    · cases h
  · cases h
theorem o_in (hu : X.A.units + 66 < cLine) (hK : G.K = X.K) : OpR X (compareOp .In) (q2 G pIn) := by
  refine ((op_in_seq.or (op_inDct (by omega))).or ((op_inD (by omega)).or (op_inT (by omega)))).sm fun x y H Q h => ?_
  obtain ⟨A, S, d, e, rd, re, s, p⟩ := h
  unfold pIn at p
  split at p
  · rename_i b hb
    have q := Po.now p s _ rfl
    rcases in_read hK rd re s hb with ⟨a, xs, e1, e2, e3, e4, e5⟩ | ⟨a, o, e1, e2, e3⟩
    · exact .inl (.inl ⟨a, xs, e1, e2, e3, e4, by simp only [Bool.false_eq_true, if_false]; rw [e5]; exact q⟩)
    · exact .inl (.inr ⟨a, o, e1, e2, by rw [e3]; exact q⟩)
  · split at p
    · rename_i b hb
      have q := Po.now p s _ rfl
      obtain ⟨z, ds, h1, h2, h3, h4 | h4⟩ := inDat_read hK rd re s hb
      · exact .inr (.inl ⟨z, ds, h1, h4.1, h2, h4.2, by rw [h3]; exact q⟩)
      · exact .inr (.inr ⟨z, ds, h1, h4.1, h2, h4.2, by rw [h3]; exact q⟩)
    · exact p.elim
theorem o_is : OpR X (compareOp .Is) (q2 G pIsN) := by
  refine op_isN.sm fun x y H Q h => ?_
  obtain ⟨A, S, d, e, rd, re, s, p⟩ := h
  unfold pIsN at p
  split at p
  · rename_i t
    refine ⟨re, ?_⟩
    rw [isN_rd rd]
    exact Po.now p s _ (by cases t <;> rfl)
  · exact p.elim
end

/-! ### subscripts -/
def pIx : P2 := fun d e S => match dctAt S d with
  | some (ks, xs) => (match kOf e with
    | some j => (match dlook ks xs j with
      | some x => some (x, S)
      | none => none)
    | none => none)
  | none => (match e with
    | .d (.int i) => (match d with
      | .d (.str z) => if z.length ≤ 16777216 then (match atI z.cps.toList i with
        | some c => some (.d (.str ⟨#[c]⟩), S)
        | none => none) else none
      | d => (match seqAt S d with
        | some ds => (match atI ds i with
          | some x => some (x, S)
          | none => none)
        | none => none))
    | _ => none)
theorem atI_rd {G : Gs} {A : Al} {H : Hp} {ds : List Dv} {vs : List V} {i : Int} {x : Dv} (r : RDs G A H ds vs) (h : atI ds i = some x) : ∃ v, atI vs i = some v ∧ RD G A H x v := by
  unfold atI at h ⊢
  rw [← Paired.length r]
  cases e : ixN ds.length i with
  | none => rw [e] at h; cases h
  | some j =>
    rw [e] at h
    exact r.get h
section
variable {X : Cx} {G : Gs} {W : WX} {k : Nat}
theorem ix_dct (hu : X.A.units + 1 < cLine) : IxR X (fun x y H Q => ∃ a v, x = .ref a ∧ DGet H a y (some v) ∧ Q v H) := by
  intro value slice pins s σ H x y o i Q I rx ry h hs
  obtain ⟨a, v, rfl, g, q⟩ := h
  obtain rfl : o = Value.ref a := rx
  have hT := dict_typeIs I g
  have h2 : wpAny (model X.prog X.w) X.A (getItem (.ref a) i) (EP X pins σ Q) X.xe s := d_getItem hu I g ry fun w' s3 I3 rw' => ⟨v, H, I3, rw', q⟩
  unfold subscriptTail
  refine wpAny_bind ?_
  rw [getitemInPython_of_ne hT.not_modules]
  refine wpAny_bind (wpAny_specialOf hT PySem.F.slot_dict_getitem.lookup ?_)
  have h3 : wpAny (model X.prog X.w) X.A (subscripted slice false (.ref a) i) (fun r s' => wpAny (model X.prog X.w) X.A (letTemporaryGo value (.ref a) r >>= fun _ => pure r) (EP X pins σ Q) X.xe s') X.xe s := by
    rw [hs]
    exact wpAny_operating (thn h2 fun r s' z => wpAny_bind (wpAny_letTemporaryGo (wpAny_pure z)))
  first
    | exact wpAny_pure (wpAny_bind h3)
    | exact wpAny_bind (wpAny_pure (wpAny_bind h3))
    | exact wpAny_bind h3
theorem i_ix (hu : X.A.units + 64 < cLine) (hK : G.K = X.K) : IxR X (q2 G pIx) := by
  refine (ix_seq.or (ix_dct (by omega))).sm fun x y H Q h => ?_
  obtain ⟨A, S, d, e, rd, re, s, p⟩ := h
  unfold pIx at p
  split at p
  · rename_i ks xs e1
    obtain ⟨a, kvs, ev, hl, ek, hv⟩ := dctAt_rd s rd e1
    split at p
    · rename_i j ej
      split at p
      · rename_i w ew
        have ex := kOf_rd ej re
        rw [← ek] at ew
        obtain ⟨v, e2, rv⟩ := (dlook_val (j := j) hv).1 w ew
        exact .inr ⟨a, v, ev, .inl ⟨kvs, j, hl, ex, e2.symm⟩, Po.now p s v rv⟩
      · exact p.elim
    · exact p.elim
  · split at p
    · rename_i i
      split at p
      · rename_i z
        split at p
        · rename_i hl
          split at p
          · rename_i c ec
            exact .inl (.inr (.inr ⟨_, i, c, rd, re, line_of hl, ec, Po.now p s _ rfl⟩))
          · exact p.elim
        · exact p.elim
      · split at p
        · rename_i ds e1
          split at p
          · rename_i w ew
            obtain ⟨a, vs, ev, hs, hv⟩ := seqAt_rd s rd e1
            obtain ⟨v, e2, rv⟩ := atI_rd hv ew
            rw [hK] at hs
            rcases hs with hs | hs
            · exact .inl (.inl ⟨a, vs, i, v, ev, re, hs, e2, Po.now p s v rv⟩)
            · exact .inl (.inr (.inl ⟨a, vs, i, v, ev, re, hs, e2, Po.now p s v rv⟩))
          · exact p.elim
        · exact p.elim
    · exact p.elim
end

/-! ### slices -/
def tMO (G : Gs) (W : WX) (m : M (Option Int)) : TO := fun σ H Q => ∃ A ρ S, EnvR G A H ρ σ ∧ StR G A S H ∧ Po G (Wa W σ) A H (m ρ S) fun _ H' o => Q o H'
def oNo : M (Option Int) := fun _ S => .ok none S
def oPt (m : M Dv) : M (Option Int) := fun ρ S => (m ρ S).bind fun d S1 => match d with
  | .d (.int i) => .ok (some i) S1
  | _ => .bad
def cutL {α : Type} (xs : List α) (lo hi : Option Int) : List α := (xs.drop (HT.sIx xs.length 0 lo)).take (HT.sIx xs.length xs.length hi - HT.sIx xs.length 0 lo)
abbrev PSl := Option Int → Option Int → P1
def pSl : PSl := fun lo hi d S => match d with
  | .d (.lst xs) => some (.d (.lst (cutL xs lo hi)), S)
  | .d (.scr xs) => some (.d (.lst (cutL xs lo hi)), S)
  | .d (.tup xs) => some (.d (.tup (cutL xs lo hi)), S)
  | .d (.str z) => if z.length ≤ 16777216 then some (.d (.str (cutS z lo hi)), S) else none
  | .loc n => (match S[n]? with
    | some (.lst ds) => (match pures ds with
      | some xs => some (.d (.lst (cutL xs lo hi)), S)
      | none => none)
    | _ => none)
  | _ => none
def mSl (p : PSl) (m : M Dv) (l h : M (Option Int)) : M Dv := fun ρ S => (m ρ S).bind fun d S1 => (l ρ S1).bind fun lo S2 => (h ρ S2).bind fun hi S3 => lift (p lo hi d S3)
def qSl (G : Gs) (p : PSl) : V → Option Int → Option Int → Hp → VK → Prop := fun x lo hi H Q => ∃ A S d, RD G A H d x ∧ StR G A S H ∧ Po G Ez A H (lift (p lo hi d S)) (kD G Q)
theorem cut_rvs {G : Gs} {A : Al} {H : Hp} {ts : List Dt} {vs : List V} {lo hi : Option Int} (r : RVs G A H ts vs) : RVs G A H (cutL ts lo hi) (cutV vs lo hi) := by
  unfold cutL cutV
  rw [← r.length]
  exact (r.drop _).take _
theorem cut_all {α : Type} {xs : List α} {lo hi : Option Int} (h : HT.sIx xs.length 0 lo = 0 ∧ HT.sIx xs.length xs.length hi = xs.length) : cutL xs lo hi = xs := by
  unfold cutL
  rw [h.1, h.2]
  simp
section
variable {X : Cx} {G : Gs} {W : WX} {k : Nat} {e : Expr} {m : M Dv} {lo hi : Option Expr} {ml mh : M (Option Int)} {pos p2 : Pos} {p : PSl}
theorem o_no : PO X none (tMO G W oNo) := ⟨fun pins s σ H Q I h => by
  obtain ⟨A, ρ, S, he, hs, p⟩ := h
  exact po_none.run pins s σ H Q I (Po.now p hs)⟩
theorem o_pt (h : PE X e (tM G W m)) : PO X (some e) (tMO G W (oPt m)) := ⟨fun pins s σ H Q I q => by
  obtain ⟨A, ρ, S, he, hs, p⟩ := q
  refine (po_some h).run pins s σ H Q I ⟨A, ρ, S, he, hs, Po.step p fun d S1 A1 H1 x1 s1 p1 v rv => ?_⟩
  split at p1
  · exact ⟨_, rv, Po.now p1 s1⟩
  · exact p1.elim⟩
theorem _root_.L2.SlR.sm {X : Cx} {r r' : V → Option Int → Option Int → Hp → VK → Prop} (h : SlR X r) (f : ∀ x lo hi H Q, r' x lo hi H Q → r x lo hi H Q) : SlR X r' :=
  fun pins s σ H x v vl vu lo hi sl Q I rx a b c q => h pins s σ H x v vl vu lo hi sl Q I rx a b c (f x lo hi H Q q)
theorem e_sl (hr : SlR X (qSl G p)) (he : PE X e (tM G W m)) (hl : PO X lo (tMO G W ml)) (hh : PO X hi (tMO G W mh)) : PE X (.Subscript e (.Slice lo hi none p2) pos) (tM G W (mSl p m ml mh)) := by
  refine (pe_slice hr he hl hh).sm fun σ H Q h => ?_
  obtain ⟨A, ρ, S, he, hs, p0⟩ := h
  refine ⟨A, ρ, S, he, hs, Po.step p0 fun d S1 A1 H1 x1 s1 p1 v rv => ?_⟩
  refine ⟨A1, ρ, S1, he.kp x1.kp, s1, Po.step p1 fun l S2 A2 H2 x2 s2 p2 => ?_⟩
  refine ⟨A2, ρ, S2, (he.kp x1.kp).kp x2.kp, s2, Po.step p2 fun h S3 A3 H3 x3 s3 p3 => ?_⟩
  exact ⟨A3, S3, d, (rv.kp x2.kp).kp x3.kp, s3, Po.lift p3⟩
theorem sl_any (hK : G.K = X.K) : SlR X (qSl G pSl) := by
  refine (sl_list.or (sl_tupA.or sl_str)).sm fun x lo hi H Q h => ?_
  obtain ⟨A, S, d, rd, s, p⟩ := h
  unfold pSl at p
  split at p
  · obtain ⟨a, vs, rfl, ha, hv⟩ := rd
    refine .inl ⟨a, vs, rfl, ?_, poL p s (cut_rvs hv)⟩
    rw [← hK]; exact ha.sq
  · obtain ⟨a, vs, rfl, ha, hv⟩ := rd
    refine .inl ⟨a, vs, rfl, ?_, poL p s (cut_rvs hv)⟩
    rw [← hK]; exact ha.sq
  · obtain ⟨a, vs, rfl, ha, hv⟩ := rd
    refine .inr (.inl ⟨a, vs, rfl, ?_, fun hw => ?_, fun _ => poT p s (cut_rvs hv)⟩)
    · rw [← hK]; exact ha.sq
    · rw [← hv.length] at hw
      rw [cut_all hw] at p
      exact Po.now p s _ ⟨a, vs, rfl, ha, hv⟩
  · split at p
    · rename_i hl
      exact .inr (.inr ⟨_, rd, line_of hl, Po.now p s _ rfl⟩)
    · exact p.elim
  · rename_i n
    split at p
    · rename_i ds e1
      split at p
      · rename_i xs e2
        obtain ⟨a, vs, rfl, _, hl, hv⟩ := loc_lst s rd e1
        exact .inl ⟨a, vs, rfl, .inl (.inl hl), poL p s (cut_rvs (pures_rvs e2 hv))⟩
      · exact p.elim
    · exact p.elim
  · exact p.elim
end
end Sm
/-! Sm11: the builtins, stores, list methods. -/
namespace Sm
open PySem PySem.Spec PyProof.Rows L2
section
variable {G : Gs} {A : Al} {H : Hp}
theorem RDs.one {d : Dv} {vs : List V} (r : RDs G A H [d] vs) : ∃ v, vs = [v] ∧ RD G A H d v := by
  cases r with
  | cons h t =>
    cases t
    exact ⟨_, rfl, h⟩
theorem RDs.two {d e : Dv} {vs : List V} (r : RDs G A H [d, e] vs) : ∃ v w, vs = [v, w] ∧ RD G A H d v ∧ RD G A H e w := by
  cases r with
  | cons h t =>
    obtain ⟨w, rfl, h2⟩ := RDs.one t
    exact ⟨_, _, rfl, h, h2⟩
theorem keys_rvs : ∀ {kvs : List (Key × V)}, RVs G A H ((kvs.map (·.1)).map kT) (kvs.map fun kv => kV kv.1)
  | [] => (rfl : ([] : List V) = [])
  | kv :: r => ⟨_, _, rfl, kT_rv kv.1, keys_rvs⟩
end
/-! ### len, list, tuple -/
def pLen : PN := fun ds S => match ds with
  | [.d (.str z)] => if z.length ≤ 16777216 then some (.d (.int (z.length : Nat)), S) else none
  | [d] => (match dctAt S d with
    | some (ks, _) => some (.d (.int (ks.length : Nat)), S)
    | none => (match seqAt S d with
      | some xs => some (.d (.int (xs.length : Nat)), S)
      | none => none))
  | _ => none
/-- what list(..), tuple(..) take: the items, by data -/
def itemsOf (S : Sto) (d : Dv) : Option (List Dt) := match dctAt S d with
  | some (ks, _) => some (ks.map kT)
  | none => (match seqAt S d with
    | some xs => pures xs
    | none => none)
def pList : PN := fun ds S => match ds with
  | [d] => (match itemsOf S d with
    | some ts => some (.d (.lst ts), S)
    | none => none)
  | _ => none
def pListB : PN := fun ds S => match ds with
  | [d] => (match itemsOf S d with
    | some ts => some (.loc S.length, S ++ [.lst (ts.map .d)])
    | none => none)
  | _ => none
def pInt : PN := fun ds S => match ds with
  | [.d (.int i)] => some (.d (.int i), S)
  | [.d (.bl b)] => some (.d (.int (if b then 1 else 0)), S)
  | _ => none
def pAbs : PN := fun ds S => match ds with
  | [.d (.int i)] => some (.d (.int (if i < 0 then -i else i)), S)
  | _ => none
def pMin2 : PN := fun ds S => match ds with
  | [.d (.int i), .d (.int j)] => some (.d (.int (if j < i then j else i)), S)
  | _ => none
def blsOf : List Dt → Option (List Bool)
  | [] => some []
  | .bl b :: r => (blsOf r).map (b :: ·)
  | _ => none
def intsOf : List Dt → Option (List Int)
  | [] => some []
  | .int b :: r => (intsOf r).map (b :: ·)
  | _ => none
/-- a list by data -/
def lstT (S : Sto) (d : Dv) : Option (List Dt) := match d with
  | .d (.scr xs) => some xs
  | d => (lstAt S d).bind pures
def pTuple : PN := fun ds S => match ds with
  | [.d (.tup ts)] => some (.d (.tup ts), S)
  | [d] => (match dctAt S d with
    | some (ks, _) => some (.d (.tup (ks.map kT)), S)
    | none => (match lstT S d with
      | some ts => some (.d (.tup ts), S)
      | none => none))
  | _ => none
def pAll : PN := fun ds S => match ds with
  | [d] => (match (lstT S d).bind blsOf with
    | some bs => some (.d (.bl (bs.all id)), S)
    | none => none)
  | _ => none
def pSum : PN := fun ds S => match ds with
  | [d] => (match (lstT S d).bind intsOf with
    | some bs => some (.d (.int bs.sum), S)
    | none => none)
  | _ => none
theorem lstT_rd {G : Gs} {A : Al} {S : Sto} {H : Hp} {d : Dv} {v : V} {ts : List Dt} (s : StR G A S H) (r : RD G A H d v) (h : lstT S d = some ts) : ∃ a vs, v = .ref a ∧ SqL G.K H a vs ∧ RVs G A H ts vs := by
  unfold lstT at h
  split at h
  · cases h
    obtain ⟨a, vs, rfl, ha, hv⟩ := r
    exact ⟨a, vs, rfl, ha.sq, hv⟩
  · cases e : lstAt S d with
    | none => rw [e] at h; cases h
    | some ds =>
      rw [e] at h
      obtain ⟨a, vs, rfl, hl, hv⟩ := lstAt_rd s r e
      exact ⟨a, vs, rfl, .inl (.inl hl), pures_rvs h hv⟩
theorem bls_rv {G : Gs} {A : Al} {H : Hp} : ∀ {ts : List Dt} {bs : List Bool} {vs : List V}, blsOf ts = some bs → RVs G A H ts vs → vs = bs.map V.bl
  | [], bs, vs, e, r => by
    cases e
    exact r
  | t :: ts, bs, vs, e, r => by
    obtain ⟨v, w, rfl, r1, r2⟩ := r
    cases t with
    | bl b =>
      unfold blsOf at e
      cases e1 : blsOf ts with
      | none => rw [e1] at e; cases e
      | some cs =>
        rw [e1] at e
        cases e
        obtain rfl : v = .bl b := r1
        rw [bls_rv e1 r2]
        rfl
    | _ => cases e
theorem ints_rv {G : Gs} {A : Al} {H : Hp} : ∀ {ts : List Dt} {bs : List Int} {vs : List V}, intsOf ts = some bs → RVs G A H ts vs → vs = bs.map V.int
  | [], bs, vs, e, r => by
    cases e
    exact r
  | t :: ts, bs, vs, e, r => by
    obtain ⟨v, w, rfl, r1, r2⟩ := r
    cases t with
    | int b =>
      unfold intsOf at e
      cases e1 : intsOf ts with
      | none => rw [e1] at e; cases e
      | some cs =>
        rw [e1] at e
        cases e
        obtain rfl : v = .int b := r1
        rw [ints_rv e1 r2]
        rfl
    | _ => cases e
/-- tuple(d), d a dict: its keys -/
theorem collect_src {prog : Program} {w : World} {A : Around} {E : Value → Shared → Prop} {s : Shared} {T : String} {r d : Addr} {n : Nat} {P : Nat → Value → Prop} {OK : Heap → Prop} {Q : List Value → Shared → Prop}
    (K : PySem.W.KdlSrc prog w T r d n P OK) (hh : A.handled = none) (hok : OK s.heap) (hn : n ≤ sizeLine)
    (hQ : ∀ (h' : Heap) (tk : Nat) (acc : Array Value), (∀ b o, s.heap.get? b = some o → h'.get? b = some o) → ItemsOf P acc n → Q acc.toList { s with heap := h', toks := tk }) : wpAny (model prog w) A (collect (.ref r)) Q E s := by
  unfold collect
  refine wpAny_bind (wpAny_runValue (codeAny_builtin F.entry_proto_collect ?_))
  rw [Around.under_plainId F.plain_proto_collect _]
  show wpAny _ A.in1 (newList [] >>= fun z => again (.builtin "list.__iadd__" ⟨[z, .ref r], []⟩)) _ _ s
  refine wpAny_bind (wpAny_newObj_type ?_)
  refine wpAny_pure ⟨plainId_quiet F.plain_list_iadd _, codeAny_builtin F.entry_list_iadd ?_⟩
  rw [Around.under_plainId F.plain_list_iadd _]
  have hS : (s.heap.push { cls := .type "list", data := .seq ([] : List Value).toArray }).get? s.heap.objs.size = some { cls := .type "list", data := .seq #[] 0 } := Heap.get?_push_size _ rfl
  have hlt := K.there _ hok
  refine wpAny_mono (PySem.W.kdl_extend (A := A) (R := fun z s' => z = .ok (.ret (.ref s.heap.objs.size)) ∧ wpAny (model prog w) A (load s.heap.objs.size >>= fun o => match o.data with
      | Data.seq xs _ => pure xs.toList
      | _ => unsupported "internal:collect") Q E s') (s := { s with heap := s.heap.push { cls := .type "list", data := .seq ([] : List Value).toArray } }) K hh (K.keep _ _ hok fun b _ o e => Heap.get?_push_of_some _ e) s.heap.objs.size (Nat.ne_of_gt hlt.1) (Nat.ne_of_gt hlt.2) _ 0 hS (fun h' tk acc c k1 e1 hi => ?_) hn) (fun fin s' h => ?_) fun e s' h => ?_
  · refine ⟨rfl, wpAny_bind (wpAny_load e1 ?_)⟩
    exact wpAny_pure (hQ h' tk acc (fun b o e => k1 b o (Nat.ne_of_lt (Heap.lt_size e)) (Heap.get?_push_of_some _ e)) hi)
  · cases fin with
    | done f =>
      obtain ⟨e, h⟩ := h
      cases e
      exact h
    | again c' => exact ⟨h.1, codeAny_mono h.2 fun r s'' hr => by
        obtain ⟨rfl, hr⟩ := hr
        exact hr⟩
  · exact absurd h.1 (by simp)
theorem call_tuple_src {prog : Program} {w : World} {A : Around} {E : Value → Shared → Prop} {s : Shared} {r d : Addr} {n : Nat} {P : Nat → Value → Prop} {OK : Heap → Prop} {Q : Value → Shared → Prop}
    (K : PySem.W.KdlSrc prog w "dict" r d n P OK) (hh : A.handled = none) (hok : OK s.heap) (hn : n ≤ sizeLine)
    (hQ : ∀ (h' : Heap) (tk : Nat) (acc : Array Value), (∀ b o, s.heap.get? b = some o → h'.get? b = some o) → ItemsOf P acc n → Q (.ref h'.objs.size) { s with heap := h'.push { cls := .type "tuple", data := .seq acc }, toks := tk }) : wpAny (model prog w) A (call (.type "tuple") [.ref r]) Q E s := by
  have hnew : codeAny (model prog w) A.in1 (.call (.builtin "tuple.__new__") ⟨[.type "tuple", .ref r], []⟩) (wants (fun obj s₁ => s₁.TypeIs obj "tuple" ∧ Q obj s₁) E) s := by
    refine codeAny_of_tree ?_
    show wpAny _ A.in1.in1 (do checkBuiltinCall "tuple.__new__" ⟨[.type "tuple", .ref r], []⟩; again (.builtin "tuple.__new__" ⟨[.type "tuple", .ref r], []⟩)) _ _ s
    refine wpAny_bind (wpAny_of_eq (F.newCall_tuple_1 _) (wpAny_pure ⟨plainId_quiet F.plain_tuple_new _, codeAny_builtin F.entry_tuple_new ?_⟩))
    rw [Around.under_plainId F.plain_tuple_new _]
    have hsub := sub_tuple_self
    have hinit := init_tuple_lookup
    have hmh := madeHere_tuple
    have hTI : s.TypeIs (.ref r) "dict" := K.type s hok
    have hh1 : A.in1.in1.handled = none := hh
    wp_walk using wpAny_typeOf hTI, collect_src (A := A.in1.in1) K hh1 hok hn
    intro h' tk acc hk hacc
    show wpAny _ _ (Builtin.Tuple.tupleExact acc.toList.toArray >>= fun v => ret v) _ _ _
    unfold Builtin.Tuple.tupleExact
    refine wpAny_bind (wpAny_newObj_type ?_ (by show acc.toList.toArray.size ≤ sizeLine; simp only [Array.toArray_toList]; rw [hacc.1]; exact hn))
    refine wpAny_pure ?_
    rw [show acc.toList.toArray = acc by simp]
    exact ⟨⟨_, Heap.get?_push_size _ rfl, rfl⟩, hQ h' tk acc hk hacc⟩
  refine callType_codes (Q₁ := fun obj s₁ => s₁.TypeIs obj "tuple" ∧ Q obj s₁) F.called_tuple (F.typeCall_tuple_1 _) F.entry_object_init hnew fun obj s₁ h₁ => ?_
  exact ⟨h₁.1, F.args_object_init_2 obj _, object_init_meets F.called_tuple.init.lookup F.called_tuple.made (by decide) prog w A.in1 _ s₁ ⟨h₁.1, rfl, h₁.2⟩⟩
section
variable {X : Cx} {G : Gs} {W : WX} {k : Nat}
theorem keys_vals {kvs : List (Key × V)} {vs : List (Key × Value)} {P : Program} {w : World} (rk : KV kvs vs) {acc : Array Value} (h : ItemsOf (fun i v => ∃ k x, vs[i]? = some (k, x) ∧ (mixKind P w).is k v = true) acc vs.length) : Vals (kvs.map fun kv => kV kv.1) acc.toList := by
  have hl : kvs.length = vs.length := Paired.length rk
  refine vals_of_at (by simp [h.1, hl]) fun j x w h1 h2 => ?_
  obtain ⟨k, y, hky, hi⟩ := h.2 j w (by rw [← Array.getElem?_toList]; exact h2)
  have e1 : (kvs.map (·.1))[j]? = some k := by
    rw [KV.keys rk, List.getElem?_map, hky]
    rfl
  have e2 : (kvs.map fun kv => kV kv.1)[j]? = some (kV k) := by
    rw [show (kvs.map fun kv => kV kv.1) = (kvs.map (·.1)).map kV by rw [List.map_map]; rfl, List.getElem?_map, e1]
    rfl
  rw [e2] at h1
  cases h1
  exact keyIs_rel hi
theorem call_list_dR (hc : X.calm = true) : CallR X (.type "list") (fun xs H Q => ∃ p kvs, xs = [.ref p] ∧ Rd H p (.dK kvs) ∧ ∀ q, H q = none → Q (.ref q) (upd H q (.lst (kvs.map fun kv => kV kv.1)))) := by
  intro pins s σ H xs us Q I r h
  obtain ⟨p, kvs, rfl, hk, q⟩ := h
  obtain rfl := Vals.ref1 r
  obtain ⟨z, lo, vs, rk, hd⟩ := dk_rd I.hok hk
  obtain ⟨ep, hat⟩ := hd.dictAt
  have hl : kvs.length = vs.length := Paired.length rk
  refine PySem.W.kdl_call (PySem.W.kdl_dict (knd := mixKind X.prog X.w) (kvs := vs) (ep := ep) lo) (I.ok.hd hc) hat (by rw [← hl]; exact z) fun h' tk acc c' hkeep hS hacc => ?_
  exact ⟨.ref s.heap.objs.size, upd H s.heap.objs.size (.lst (kvs.map fun kv => kV kv.1)), I.laid hkeep (Nat.le_refl _) (show ObjOk X.prog X.w _ _ _ (.lst (kvs.map fun kv => kV kv.1)) from ⟨by rw [List.length_map]; exact z, acc.toList, c', keys_vals rk hacc, by rw [Array.toArray_toList]; exact hS⟩), rfl, q _ (I.hok.fresh (Nat.le_refl _))⟩
theorem call_tuple_dR (hc : X.calm = true) : CallR X (.type "tuple") (fun xs H Q => ∃ p kvs, xs = [.ref p] ∧ Rd H p (.dK kvs) ∧ ∀ q, H q = none → Q (.ref q) (upd H q (.tup (kvs.map fun kv => kV kv.1)))) := by
  intro pins s σ H xs us Q I r h
  obtain ⟨p, kvs, rfl, hk, q⟩ := h
  obtain rfl := Vals.ref1 r
  obtain ⟨z, lo, vs, rk, hd⟩ := dk_rd I.hok hk
  obtain ⟨ep, hat⟩ := hd.dictAt
  have hl : kvs.length = vs.length := Paired.length rk
  refine call_tuple_src (PySem.W.kdl_dict (knd := mixKind X.prog X.w) (kvs := vs) (ep := ep) lo) (I.ok.hd hc) hat (by rw [← hl]; exact z) fun h' tk acc hkeep hacc => ?_
  have I2 : Inv X pins σ H { s with heap := h', toks := tk } := I.kept hkeep
  exact ⟨.ref h'.objs.size, upd H h'.objs.size (.tup (kvs.map fun kv => kV kv.1)), I2.laid (t' := tk) (fun c o e => Heap.get?_push_of_some _ e) (Nat.le_refl _) (show ObjOk X.prog X.w _ _ _ (.tup (kvs.map fun kv => kV kv.1)) from ⟨by rw [List.length_map]; exact z, acc.toList, keys_vals rk hacc, by rw [Array.toArray_toList]; exact IsTup.new _ _⟩), rfl, q _ (I2.hok.fresh (Nat.le_refl _))⟩
theorem call_len_dR : CallR X (.builtin "len") (fun xs H Q => ∃ a kvs, xs = [.ref a] ∧ Rd H a (.dK kvs) ∧ Q (.int (kvs.length : Nat)) H) := by
  intro pins s σ H xs us Q I r h
  obtain ⟨p, kvs, rfl, hk, q⟩ := h
  obtain rfl := Vals.ref1 r
  exact d_len I hk fun t s' I' => ⟨.int (kvs.length : Nat), H, I', ⟨t, rfl⟩, q⟩
theorem items_rd {A : Al} {S : Sto} {H : Hp} {d : Dv} {v : V} {ts : List Dt} (s : StR G A S H) (r : RD G A H d v) (h : itemsOf S d = some ts) :
    (∃ a kvs, v = .ref a ∧ Rd H a (.dK kvs) ∧ ts = (kvs.map (·.1)).map kT) ∨ ∃ a vs, v = .ref a ∧ (SqL G.K H a vs ∨ SqT G.K H a vs) ∧ RVs G A H ts vs := by
  unfold itemsOf at h
  split at h
  · rename_i ks xs e1
    obtain ⟨a, kvs, ev, hl, ek, hv⟩ := dctAt_rd s r e1
    cases h
    exact .inl ⟨a, kvs, ev, hl, by rw [ek]⟩
  · split at h
    · rename_i ds e2
      obtain ⟨a, vs, ev, hs, hv⟩ := seqAt_rd s r e2
      exact .inr ⟨a, vs, ev, hs, pures_rvs h hv⟩
    · cases h
theorem b_len (hK : G.K = X.K) : CallR X (.builtin "len") (qN G pLen) := by
  refine (call_len_seq.or (call_len_str.or call_len_dR)).sm fun xs H Q h => ?_
  obtain ⟨A, S, ds, rd, s, p⟩ := h
  unfold pLen at p
  split at p
  · obtain ⟨v, rfl, r⟩ := RDs.one rd
    split at p
    · rename_i z hl
      obtain rfl : v = .str _ := r
      exact .inr (.inl ⟨_, rfl, line_of hl, Po.now p s _ rfl⟩)
    · exact p.elim
  · obtain ⟨v, rfl, r⟩ := RDs.one rd
    split at p
    · rename_i ks xs e1
      obtain ⟨a, kvs, rfl, hl, ek, hv⟩ := dctAt_rd s r e1
      refine .inr (.inr ⟨a, kvs, rfl, hl, ?_⟩)
      rw [show kvs.length = ks.length by rw [← ek, List.length_map]]
      exact Po.now p s _ rfl
    · split at p
      · rename_i xs e2
        obtain ⟨a, vs, rfl, hs, hv⟩ := seqAt_rd s r e2
        refine .inl ⟨a, vs, rfl, by rw [← hK]; exact hs, ?_⟩
        rw [← Paired.length hv]
        exact Po.now p s _ rfl
      · exact p.elim
  · exact p.elim
theorem b_list (hK : G.K = X.K) (hc : X.calm = true) : CallR X (.type "list") (qN G pList) := by
  refine (call_list_of.or (call_list_dR hc)).sm fun xs H Q h => ?_
  obtain ⟨A, S, ds, rd, s, p⟩ := h
  unfold pList at p
  split at p
  · obtain ⟨v, rfl, r⟩ := RDs.one rd
    split at p
    · rename_i ts e1
      rcases items_rd s r e1 with ⟨a, kvs, rfl, hl, rfl⟩ | ⟨a, vs, rfl, hs, hv⟩
      · exact .inr ⟨a, kvs, rfl, hl, poL p s keys_rvs⟩
      · exact .inl ⟨a, vs, rfl, by rw [← hK]; exact hs, poL p s hv⟩
    · exact p.elim
  · exact p.elim
theorem b_listB (hK : G.K = X.K) (hc : X.calm = true) : CallR X (.type "list") (qN G pListB) := by
  refine (call_list_of.or (call_list_dR hc)).sm fun xs H Q h => ?_
  obtain ⟨A, S, ds, rd, s, p⟩ := h
  unfold pListB at p
  split at p
  · obtain ⟨v, rfl, r⟩ := RDs.one rd
    split at p
    · rename_i ts e1
      rcases items_rd s r e1 with ⟨a, kvs, rfl, hl, rfl⟩ | ⟨a, vs, rfl, hs, hv⟩
      · exact .inr ⟨a, kvs, rfl, hl, poB p s keys_rvs.rds⟩
      · exact .inl ⟨a, vs, rfl, by rw [← hK]; exact hs, poB p s hv.rds⟩
    · exact p.elim
  · exact p.elim
theorem b_tuple (hK : G.K = X.K) (hc : X.calm = true) : CallR X (.type "tuple") (qN G pTuple) := by
  refine (call_tuple_of.or (call_tuple_dR hc)).sm fun xs H Q h => ?_
  obtain ⟨A, S, ds, rd, s, p⟩ := h
  unfold pTuple at p
  split at p
  · obtain ⟨v, rfl, r⟩ := RDs.one rd
    obtain ⟨a, vs, rfl, ha, hv⟩ := r
    exact .inl ⟨a, vs, rfl, .inr ⟨by rw [← hK]; exact ha.sq, Po.now p s _ ⟨a, vs, rfl, ha, hv⟩⟩⟩
  · obtain ⟨v, rfl, r⟩ := RDs.one rd
    split at p
    · rename_i ks xs e1
      obtain ⟨a, kvs, rfl, hl, ek, hv⟩ := dctAt_rd s r e1
      subst ek
      exact .inr ⟨a, kvs, rfl, hl, poT p s keys_rvs⟩
    · split at p
      · rename_i ts e2
        obtain ⟨a, vs, rfl, hs, hv⟩ := lstT_rd s r e2
        exact .inl ⟨a, vs, rfl, .inl ⟨by rw [← hK]; exact hs, poT p s hv⟩⟩
      · exact p.elim
  · exact p.elim
theorem b_int : CallR X (.type "int") (qN G pInt) := by
  refine call_int1.sm fun xs H Q h => ?_
  obtain ⟨A, S, ds, rd, s, p⟩ := h
  unfold pInt at p
  split at p
  · obtain ⟨v, rfl, r⟩ := RDs.one rd
    obtain rfl : v = .int _ := r
    exact .inl ⟨_, rfl, Po.now p s _ rfl⟩
  · obtain ⟨v, rfl, r⟩ := RDs.one rd
    obtain rfl : v = .bl _ := r
    exact .inr ⟨_, rfl, Po.now p s _ rfl⟩
  · exact p.elim
theorem b_abs : CallR X (.builtin "abs") (qN G pAbs) := by
  refine call_abs.sm fun xs H Q h => ?_
  obtain ⟨A, S, ds, rd, s, p⟩ := h
  unfold pAbs at p
  split at p
  · obtain ⟨v, rfl, r⟩ := RDs.one rd
    obtain rfl : v = .int _ := r
    exact ⟨_, rfl, Po.now p s _ rfl⟩
  · exact p.elim
theorem b_min2 (hc : X.calm = true) : CallR X (.builtin "min") (qN G pMin2) := by
  refine (call_min2 hc).sm fun xs H Q h => ?_
  obtain ⟨A, S, ds, rd, s, p⟩ := h
  unfold pMin2 at p
  split at p
  · obtain ⟨v, w, rfl, r, r2⟩ := RDs.two rd
    obtain rfl : v = .int _ := r
    obtain rfl : w = .int _ := r2
    exact ⟨_, _, rfl, Po.now p s _ rfl⟩
  · exact p.elim
theorem b_all (hK : G.K = X.K) (hc : X.calm = true) : CallR X (.builtin "all") (qN G pAll) := by
  refine (cr_all hc).sm fun xs H Q h => ?_
  obtain ⟨A, S, ds, rd, s, p⟩ := h
  unfold pAll at p
  split at p
  · obtain ⟨v, rfl, r⟩ := RDs.one rd
    split at p
    · rename_i bs e
      obtain ⟨ts, e1, e2⟩ := Option.bind_eq_some_iff.mp e
      obtain ⟨a, vs, rfl, hs, hv⟩ := lstT_rd s r e1
      obtain rfl := bls_rv e2 hv
      exact ⟨a, bs, rfl, by rw [← hK]; exact hs, Po.now p s _ rfl⟩
    · exact p.elim
  · exact p.elim
theorem b_sum (hK : G.K = X.K) (hc : X.calm = true) : CallR X (.builtin "sum") (qN G pSum) := by
  refine (cr_sum hc).sm fun xs H Q h => ?_
  obtain ⟨A, S, ds, rd, s, p⟩ := h
  unfold pSum at p
  split at p
  · obtain ⟨v, rfl, r⟩ := RDs.one rd
    split at p
    · rename_i bs e
      obtain ⟨ts, e1, e2⟩ := Option.bind_eq_some_iff.mp e
      obtain ⟨a, vs, rfl, hs, hv⟩ := lstT_rd s r e1
      obtain rfl := ints_rv e2 hv
      exact ⟨a, bs, rfl, by rw [← hK]; exact hs, Po.now p s _ rfl⟩
    · exact p.elim
  · exact p.elim
end
end Sm
/-! Sm12: isinstance, stores, list methods, sorted. -/
namespace Sm
open PySem PySem.Spec PyProof.Rows L2

/-! ### isinstance -/
def isaT (a b : String) : Bool := a == b || (a == "bool" && b == "int")
def tyL : List String := ["NoneType", "bool", "int", "str", "tuple", "list", "dict"]
def tyR : List String := ["bool", "int", "str", "tuple", "list", "dict"]
theorem kit_all : ∀ a ∈ tyL, ∀ b ∈ tyR, kitB a b = some (isaT a b) := by decide +kernel
theorem kit_any {K : PySem.W.Frag} {a : String} (ha : a ∈ tyL) : ∀ {bs : List String}, (∀ b ∈ bs, b ∈ tyR) → PySem.W.kitAny K (.type a) (bs.map Value.type) = some (bs.any (isaT a))
  | [], _ => kitAny_nil
  | b :: bs, h => by
    have h1 := kit_ty (K := K) (kit_all a ha b (h b List.mem_cons_self))
    have h2 := kit_any (K := K) ha (bs := bs) fun c hc => h c (List.mem_cons_of_mem _ hc)
    refine kitAny_cons h1 (fun e => ?_) fun e => ?_
    · rw [List.any_cons, e]
      exact h2
    · rw [List.any_cons, e]
      rfl
def tyDv (S : Sto) (d : Dv) : Option String := match d with
  | .d .non => some "NoneType"
  | .d (.bl _) => some "bool"
  | .d (.int _) => some "int"
  | .d (.str _) => some "str"
  | .d (.tup _) => some "tuple"
  | .d (.lst _) => some "list"
  | .d (.scr _) => some "list"
  | .d (.ltp _) => some "tuple"
  | .d (.dct _ _) => some "dict"
  | .loc n => (match S[n]? with
    | some (.lst _) => some "list"
    | some (.dct _ _) => some "dict"
    | _ => none)
  | _ => none
theorem tyDv_rd {G : Gs} {A : Al} {S : Sto} {H : Hp} {d : Dv} {v : V} {T : String} (s : StR G A S H) (r : RD G A H d v) (h : tyDv S d = some T) : T ∈ tyL ∧ TyX G.K H v (.type T) := by
  unfold tyDv at h
  split at h
  · cases h
    obtain rfl : v = .non := r
    exact ⟨by decide, .base .non⟩
  · cases h
    obtain rfl : v = .bl _ := r
    exact ⟨by decide, .base (.bl _)⟩
  · cases h
    obtain rfl : v = .int _ := r
    exact ⟨by decide, .base (.int _)⟩
  · cases h
    obtain rfl : v = .str _ := r
    exact ⟨by decide, .base (.str _)⟩
  · cases h
    obtain ⟨a, vs, rfl, ha, _⟩ := r
    refine ⟨by decide, ?_⟩
    rcases ha.sq with (h | ⟨o, h⟩) | ⟨o, its, n, h1, h2, _⟩
    · exact .base (.tup h)
    · exact .fTuple h
    · exact .kTuple h1 h2
  · cases h
    obtain ⟨a, vs, rfl, ha, _⟩ := r
    exact ⟨by decide, .base (.lst ha.1)⟩
  · cases h
    obtain ⟨a, vs, rfl, ha, _⟩ := r
    refine ⟨by decide, ?_⟩
    rcases ha.sq with (h | ⟨o, h⟩) | ⟨o, its, n, h1, h2, _⟩
    · exact .base (.lst h)
    · exact .base (.frz h)
    · exact .kList h1 h2
  · cases h
    obtain ⟨a, vs, rfl, ha, _⟩ := r
    refine ⟨by decide, ?_⟩
    rcases ha H with (h | ⟨o, h⟩) | ⟨o, its, n, h1, h2, _⟩
    · exact .base (.tup h)
    · exact .fTuple h
    · exact .kTuple h1 h2
  · cases h
    obtain ⟨a, kvs, rfl, _, h, _⟩ := r
    refine ⟨by decide, ?_⟩
    rcases h with h | ⟨o, h⟩
    · exact .base (.dK h)
    · exact .fDict h
  · rename_i n
    split at h
    · rename_i e
      cases h
      obtain ⟨a, vs, rfl, _, hl, _⟩ := loc_lst s r e
      exact ⟨by decide, .base (.lst hl)⟩
    · rename_i e
      cases h
      obtain ⟨a, vs, rfl, _, hl, _⟩ := loc_dct s r e
      exact ⟨by decide, .base (.dK hl)⟩
    · cases h
  · cases h
def pIsa (bs : List String) : P1 := fun d S => match tyDv S d with
  | some T => some (.d (.bl (bs.any (isaT T))), S)
  | none => none
theorem clsv_all : ∀ bs : List String, Paired ClsV (bs.map V.ty) (bs.map Value.type)
  | [] => .nil
  | b :: bs => .cons (.ty b) (clsv_all bs)
section
variable {X : Cx} {G : Gs} {W : WX} {k : Nat} {e T : Expr} {es : List Expr} {p pos tpos : Pos} {m : M Dv} {bs : List String} {b : String}
theorem e_isa (hK : G.K = X.K) (hg : Gl X "isinstance") (hm : X.mg "isinstance" = none) (hb : b ∈ tyR) (he : PE X e (tM G W m)) (hT : PE X T (tC (.ty b))) (hs : starEach [e, T] X.env = (false, eval e X.env) :: starEach [T] X.env) (hs2 : starEach [T] X.env = (false, eval T X.env) :: starEach [] X.env)
    (hpl : (backTo pos (starEach [T] X.env)).any (·.1) = false) : PE X (.Call (.Name "isinstance" p) [e, T] [] pos) (tM G W (m1 (pIsa [b]) m)) := by
  refine (pe_callB call_isi hg hm PyProof.Rows.boot_isinstance (pa_cons he (pa_cons hT pa_nil hs2) hs) (by decide) (by decide) hs hpl).sm fun σ H Q h => ?_
  obtain ⟨A, ρ, S, he, hs, p0⟩ := h
  refine ⟨A, ρ, S, he, hs, Po.step p0 fun d S1 A1 H1 x1 s1 p1 v rv => ?_⟩
  unfold pIsa at p1
  split at p1
  · rename_i U hU
    obtain ⟨hL, ty⟩ := tyDv_rd s1 rv hU
    rw [hK] at ty
    have h1 := kit_ty (K := X.K) (kit_all U hL b hb)
    refine ⟨v, .ty b, .type U, .type b, _, rfl, .ty b, ty, h1, ?_⟩
    have := Po.now p1 s1 (.bl ([b].any (isaT U))) rfl
    simpa using this
  · exact p1.elim
theorem e_isaT (hK : G.K = X.K) (hg : Gl X "isinstance") (hm : X.mg "isinstance" = none) (bs : List String) (hb : ∀ b ∈ bs, b ∈ tyR) (hz : bs.length ≤ 100) (he : PE X e (tM G W m)) (hes : PA X es (fun σ H Q => Q (bs.map V.ty) H)) {kk : Nat} (hs : starEach [e, .Tuple es kk tpos] X.env = (false, eval e X.env) :: starEach [.Tuple es kk tpos] X.env)
    (hs2 : starEach [.Tuple es kk tpos] X.env = (false, eval (.Tuple es kk tpos) X.env) :: starEach [] X.env) (hpl : (backTo pos (starEach [.Tuple es kk tpos] X.env)).any (·.1) = false) : PE X (.Call (.Name "isinstance" p) [e, .Tuple es kk tpos] [] pos) (tM G W (m1 (pIsa bs) m)) := by
  refine (pe_callB call_isiT hg hm PyProof.Rows.boot_isinstance (pa_cons he (pa_cons (pe_tup hes) pa_nil hs2) hs) (by decide) (by decide) hs hpl).sm fun σ H Q h => ?_
  obtain ⟨A, ρ, S, he, hs, p0⟩ := h
  refine ⟨A, ρ, S, he, hs, Po.step p0 fun d S1 A1 H1 x1 s1 p1 v rv => ⟨by rw [List.length_map]; exact line_of (by omega), fun q hq => ?_⟩⟩
  unfold pIsa at p1
  split at p1
  · rename_i U hU
    obtain ⟨hL, ty⟩ := tyDv_rd (s1.new (o := .tup (bs.map V.ty)) hq) (RD.kp (Ext.new hq).kp rv) hU
    rw [hK] at ty
    exact ⟨v, q, bs.map V.ty, .type U, bs.map Value.type, _, rfl, upd_same, clsv_all bs, ty, kit_any hL hb, Po.at p1 (Ext.new hq) (s1.new hq) _ rfl⟩
  · exact p1.elim
end

/-! ### o[i] = d -/
def stSub (o i d : Dv) (S : Sto) : Option Sto := match o with
  | .loc n => (match S[n]? with
    | some (.lst xs) => (match i with
      | .d (.int k) => (match ixN xs.length k with
        | some j => some (S.set n (.lst (xs.set j d)))
        | none => none)
      | _ => none)
    | some (.dct ks xs) => (match kOf i with
      | some j => if ks.length < 16777216 then some (S.set n (.dct (dputK ks j) (dputX ks xs j d))) else none
      | none => none)
    | _ => none)
  | _ => none
def sSub (mo mi mv : M Dv) : SM := fun ρ S => (mv ρ S).to ρ fun d S1 => (mo ρ S1).to ρ fun o S2 => (mi ρ S2).to ρ fun i S3 => oz (stSub o i d S3) fun S4 => .nx ρ S4
section
variable {X : Cx} {G : Gs} {W : WX} {k : Nat} {o i value : Expr} {p pos pos' : Pos} {mo mi mv : M Dv}
theorem line_lt {n : Nat} (h : n < 16777216) : n < sizeLine := by rw [sizeLine_eq]; exact h
theorem s_sub (hu : X.A.units + 64 < cLine) (ho : PE X o (tM G W mo)) (hi : PE X i (tM G W mi)) (hv : PE X value (tM G W mv)) (hs : swapsWith value (some (.Subscript o i pos')) pos.line X.env = pure false) : PS X (.Assign [.Subscript o i pos'] value pos) (tMS G W (sSub mo mi mv)) := by
  refine ⟨fun pins s σ H D I h => ?_⟩
  obtain ⟨A, ρ, S, he, st, p0⟩ := h
  refine wpAny_Assign_Subscript (thn (hv.run pins s σ H (fun v H1 => tM G W mo σ H1 fun x H2 => tM G W mi σ H2 fun y H3 => (rSetL x y v H3 (fun H4 => D.nx σ H4)) ∨ rSetD x y v H3 (fun H4 => D.nx σ H4)) I ⟨A, ρ, S, he, st, PoS.step he p0 fun d S1 A1 H1 x1 s1 e1 p1 v rv => ?_⟩)
    fun r s1 ⟨v, H1, I1, rv, q1⟩ => thn (ho.run pins s1 σ H1 _ I1 q1) fun u s2 ⟨x, H2, I2, rx, q2⟩ => thn (hi.run pins s2 σ H2 _ I2 q2) fun iv s3 ⟨y, H3, I3, ry, q3⟩ => ?_) hs
  · refine ⟨A1, ρ, S1, e1, s1, PoS.step e1 p1 fun o' S2 A2 H2 x2 s2 e2 p2 x rx => ?_⟩
    refine ⟨A2, ρ, S2, e2, s2, PoS.step e2 p2 fun i' S3 A3 H3 x3 s3 e3 p3 y ry => ?_⟩
    obtain ⟨S4, es, p4⟩ := oz_po p3
    have rx := RD.kp x3.kp rx
    have rv := RD.kp x3.kp (RD.kp x2.kp rv)
    unfold stSub at es
    split at es
    · rename_i n
      split at es
      · rename_i xs eo
        obtain ⟨a, vs, rfl, hl, ha, hvs⟩ := loc_lst s3 rx eo
        split at es
        · rename_i kk
          split at es
          · rename_i j ej
            cases es
            obtain ⟨x4, s4⟩ := set_lst s3 hl (hvs.set j rv)
            obtain rfl : y = .int kk := ry
            refine .inl ⟨a, vs, kk, j, rfl, rfl, ha, by rw [← Paired.length hvs]; exact ej, p4 A3 _ σ x4 s4 (e3.kp x4.kp)⟩
          · cases es
        · cases es
      · rename_i ks xs eo
        obtain ⟨a, kvs, rfl, hl, ha, ek, hvs⟩ := loc_dct s3 rx eo
        split at es
        · rename_i j ej
          split at es
          · rename_i hz
            cases es
            subst ek
            obtain ⟨x4, s4⟩ := set_dct s3 hl (dput_keys (kvs := kvs) (j := j) (y := v)) (dput_rds hvs rv)
            refine .inr ⟨a, _, rfl, .inl ⟨kvs, j, ha, kOf_rd ej ry, line_lt (by simpa using hz), rfl⟩, p4 A3 _ σ x4 s4 (e3.kp x4.kp)⟩
          · cases es
        · cases es
      · cases es
    · cases es
  · rcases q3 with q3 | q3
    · exact thn (set_list pins s3 σ H3 x y v u iv r _ I3 rx ry rv q3) fun _ s4 ⟨H4, I4, q4⟩ => ⟨σ, H4, I4, q4⟩
    · exact thn (set_dict (by omega) pins s3 σ H3 x y v u iv r _ I3 rx ry rv q3) fun _ s4 ⟨H4, I4, q4⟩ => ⟨σ, H4, I4, q4⟩
end

/-! ### methods of list boxes -/
abbrev PM := Dv → List Dv → Sto → Pz Dv
def isLs (S : Sto) (d : Dv) : Bool := match lstAt S d with
  | some _ => true
  | none => false
def mLm (p : PM) (mo : M Dv) (ma : M (List Dv)) : M Dv := fun ρ S => (mo ρ S).bind fun o S1 => if isLs S1 o = true then (ma ρ S1).bind fun ds S2 => lift (p o ds S2) else .bad
def pAppend : PM := fun o ds S => match o, ds with
  | .loc n, [x] => (match S[n]? with
    | some (.lst xs) => if xs.length < 16777216 then some (.d .non, S.set n (.lst (xs ++ [x]))) else none
    | _ => none)
  | _, _ => none
def pExtend : PM := fun o ds S => match o, ds with
  | .loc n, [y] => (match S[n]?, lstAt S y with
    | some (.lst xs), some zs => if xs.length + zs.length ≤ 16777216 then some (.d .non, S.set n (.lst (xs ++ zs))) else none
    | _, _ => none)
  | _, _ => none
def pPop : PM := fun o ds S => match o, ds with
  | .loc n, [] => (match S[n]? with
    | some (.lst xs) => (match xs[xs.length - 1]? with
      | some x => some (x, S.set n (.lst xs.dropLast))
      | none => none)
    | _ => none)
  | _, _ => none
def pPopAt : PM := fun o ds S => match o, ds with
  | .loc n, [.d (.int i)] => (match S[n]? with
    | some (.lst xs) => if -(2 ^ 63) ≤ i ∧ i < 2 ^ 63 then (match seqIndex? i xs.length with
      | some j => (match xs[j]? with
        | some x => some (x, S.set n (.lst (xs.eraseIdx j)))
        | none => none)
      | none => none) else none
    | _ => none)
  | _, _ => none
def qM (G : Gs) (p : PM) : V → List V → Hp → VK → Prop := fun x xs H Q => ∃ A S d ds, RD G A H d x ∧ RDs G A H ds xs ∧ StR G A S H ∧ Po G Ez A H (lift (p d ds S)) (kD G Q)
section
variable {X : Cx} {G : Gs} {W : WX} {k : Nat} {o e : Expr} {es : List Expr} {name : Str} {id : String} {apos cpos : Pos} {mo : M Dv} {ma : M (List Dv)} {p : PM}
theorem isLs_ty (hK : G.K = X.K) {A : Al} {S : Sto} {H : Hp} {d : Dv} {v : V} (s : StR G A S H) (r : RD G A H d v) (h : isLs S d = true) : tyV X.K "list" v H := by
  unfold isLs at h
  split at h
  · rename_i ds e
    obtain ⟨a, vs, rfl, hl, _⟩ := lstAt_rd s r e
    exact .inl ⟨rfl, vs, .inl (.inl hl)⟩
  · cases h
theorem e_lm0 (hK : G.K = X.K) (slot : Slot "list" name id) (hty : typeOf (.builtin id) = pure (.type "method_descriptor")) (hm : MtR X id (qM G p)) (ho : PE X o (tM G W mo)) (hbase : attributeBase o name X.env (eval o X.env) = eval o X.env) (hline : (apos.endLine == cpos.line) = true) :
    PE X (.Call (.Attribute o name apos) [] [] cpos) (tM G W (mLm p mo aNil)) := by
  refine (pe_bm0 PySem.F.plainAttrs_list slot hty hm ho hbase hline).sm fun σ H Q h => ?_
  obtain ⟨A, ρ, S, he, st, p0⟩ := h
  refine ⟨A, ρ, S, he, st, Po.step p0 fun d S1 A1 H1 x1 s1 p1 v rv => ?_⟩
  by_cases hi : isLs S1 d = true
  · simp only [hi, if_true] at p1
    exact ⟨isLs_ty hK s1 rv hi, A1, S1, d, [], rv, .nil, s1, Po.lift p1⟩
  · simp only [hi] at p1
    exact p1.elim
theorem e_lm (hK : G.K = X.K) (slot : Slot "list" name id) (hty : typeOf (.builtin id) = pure (.type "method_descriptor")) (hm : MtR X id (qM G p)) (ho : PE X o (tM G W mo)) (ha : PA X (e :: es) (tMA G W ma)) (hbase : attributeBase o name X.env (eval o X.env) = eval o X.env)
    (hfew : ((backTo cpos (starEach (e :: es) X.env)).all (fun x => !x.1) && (backToKw cpos (keywordEach [] X.env)).all (fun x => x.1.isSome) && decide ((e :: es).length + ([] : List Keyword).length + (if ([] : List Keyword).isEmpty then 0 else 1) < 30)) = true)
    (hline : (apos.endLine == cpos.line) = true) (hs : starEach (e :: es) X.env = (false, eval e X.env) :: starEach es X.env) (hplain : (backTo cpos (starEach es X.env)).any (·.1) = false) : PE X (.Call (.Attribute o name apos) (e :: es) [] cpos) (tM G W (mLm p mo ma)) := by
  refine (pe_bm PySem.F.plainAttrs_list slot hty hm ho ha hbase hfew hline hs hplain).sm fun σ H Q h => ?_
  obtain ⟨A, ρ, S, he, st, p0⟩ := h
  refine ⟨A, ρ, S, he, st, Po.step p0 fun d S1 A1 H1 x1 s1 p1 v rv => ?_⟩
  by_cases hi : isLs S1 d = true
  · simp only [hi, if_true] at p1
    refine ⟨isLs_ty hK s1 rv hi, A1, ρ, S1, he.kp x1.kp, s1, Po.step p1 fun ds S2 A2 H2 x2 s2 p2 vs rvs => ?_⟩
    exact ⟨A2, S2, d, ds, RD.kp x2.kp rv, rvs, s2, Po.lift p2⟩
  · simp only [hi] at p1
    exact p1.elim
theorem m_append : MtR X "list.append" (qM G pAppend) := by
  refine L2.MtR.sm (show MtR X "list.append" rAppend from mt_append) fun x xs H Q h => ?_
  obtain ⟨A, S, d, ds, rd, rds, s, p⟩ := h
  unfold pAppend at p
  split at p
  · obtain ⟨v, rfl, r⟩ := RDs.one rds
    split at p
    · rename_i e
      split at p
      · rename_i hz
        obtain ⟨a, vs, rfl, hl, ha, hvs⟩ := loc_lst s rd e
        obtain ⟨x2, s2⟩ := set_lst s hl (hvs.append (.cons r .nil))
        exact ⟨a, vs, v, rfl, rfl, ha, by rw [← Paired.length hvs]; exact line_lt hz, Po.at p x2 s2 _ rfl⟩
      · exact p.elim
    · exact p.elim
  · exact p.elim
theorem m_extend : MtR X "list.extend" (qM G pExtend) := by
  refine L2.MtR.sm (show MtR X "list.extend" rExtend from mt_extend) fun x xs H Q h => ?_
  obtain ⟨A, S, d, ds, rd, rds, s, p⟩ := h
  unfold pExtend at p
  split at p
  · obtain ⟨v, rfl, r⟩ := RDs.one rds
    split at p
    · rename_i e1 e2
      split at p
      · rename_i hz
        obtain ⟨a, vs, rfl, hl, ha, hvs⟩ := loc_lst s rd e1
        obtain ⟨b, ws, rfl, hb, hws⟩ := lstAt_rd s r e2
        obtain ⟨x2, s2⟩ := set_lst s hl (hvs.append hws)
        exact ⟨a, b, vs, ws, rfl, rfl, ha, hb, by rw [← Paired.length hvs, ← Paired.length hws]; exact line_of hz, Po.at p x2 s2 _ rfl⟩
      · exact p.elim
    · exact p.elim
  · exact p.elim
theorem m_pop : MtR X "list.pop" (qM G pPop) := by
  refine L2.MtR.sm (show MtR X "list.pop" rPop from mt_pop) fun x xs H Q h => ?_
  obtain ⟨A, S, d, ds, rd, rds, s, p⟩ := h
  unfold pPop at p
  split at p
  · cases rds
    split at p
    · rename_i e1
      split at p
      · rename_i y ey
        obtain ⟨a, vs, rfl, hl, ha, hvs⟩ := loc_lst s rd e1
        obtain ⟨x2, s2⟩ := set_lst s hl hvs.dropLast
        obtain ⟨v, e2, rv⟩ := hvs.get ey
        rw [Paired.length hvs] at e2
        exact ⟨a, vs, v, rfl, rfl, ha, e2, Po.at p x2 s2 _ (RD.kp x2.kp rv)⟩
      · exact p.elim
    · exact p.elim
  · exact p.elim
theorem m_popAt : MtR X "list.pop" (qM G pPopAt) := by
  refine L2.MtR.sm (show MtR X "list.pop" rPopAt from mt_popAt) fun x xs H Q h => ?_
  obtain ⟨A, S, d, ds, rd, rds, s, p⟩ := h
  unfold pPopAt at p
  split at p
  · obtain ⟨v, rfl, r⟩ := RDs.one rds
    obtain rfl : v = .int _ := r
    split at p
    · rename_i e1
      split at p
      · rename_i hi
        split at p
        · rename_i j ej
          split at p
          · rename_i y ey
            obtain ⟨a, vs, rfl, hl, ha, hvs⟩ := loc_lst s rd e1
            obtain ⟨x2, s2⟩ := set_lst s hl (hvs.eraseIdx j)
            obtain ⟨v, e2, rv⟩ := hvs.get ey
            rw [Paired.length hvs] at ej
            exact ⟨a, vs, _, j, v, rfl, rfl, ha, hi.1, hi.2, ej, e2, Po.at p x2 s2 _ (RD.kp x2.kp rv)⟩
          · exact p.elim
        · exact p.elim
      · exact p.elim
    · exact p.elim
  · exact p.elim
end
end Sm
/-! Sm13: sorted, by data. -/
namespace Sm
open PySem PySem.Spec PyProof.Rows L2
open PySem.W (EachIs dataLe dataLt alike AllAlike Sortable)

def encT (t : Dt) : PyData := (toPy t).getD .none
def leT (a b : Dt) : Bool := !dataLt (encT b) (encT a)
/-- the items that gather: each with its data -/
def ColR (X : Cx) (G : Gs) (A : Al) (H : Hp) (pins : List (Addr × Obj)) (σ : L2.St) (s : Shared) (x : Value) (C : List Dt → Prop) : Prop :=
  ∀ Q' : List Value → Shared → Prop, (∀ s' us (bs : List (Dt × V)), L2.Inv X pins σ H s' → Vals (bs.map (·.2)) us → (∀ b ∈ bs, RV G A H b.1 b.2) → C (bs.map (·.1)) → Q' us s') → wpAny (model X.prog X.w) X.A.in1 (collect x) Q' X.xe s
structure SortOk (ts : List Dt) : Prop where
  py : ∀ t ∈ ts, ∃ d, toPy t = some d
  al : AllAlike (ts.map encT)
  so : Sortable (ts.map encT) ∨ (ts.length ≤ 1 ∧ ∀ t ∈ ts, encT t ≠ .none)
  dp : ∀ t ∈ ts, (encT t).depth ≤ 60
  sz : ts.length ≤ 16777216
theorem each_of_vals {G : Gs} {A : Al} {H : Hp} : ∀ {bs : List (Dt × V)} {us : List Value}, Vals (bs.map (·.2)) us → (∀ b ∈ bs, RV G A H b.1 b.2) → EachIs (fun (u : Value) (b : Dt × V) => RelV b.2 u ∧ RV G A H b.1 b.2) us bs
  | [], us, r, _ => by
    cases r
    exact .nil
  | b :: bs, us, r, h => by
    cases r with
    | cons r1 r2 => exact .cons ⟨r1, h b List.mem_cons_self⟩ (each_of_vals r2 fun c hc => h c (List.mem_cons_of_mem _ hc))
theorem vals_of_each {G : Gs} {A : Al} {H : Hp} : ∀ {bs : List (Dt × V)} {us : List Value}, EachIs (fun (u : Value) (b : Dt × V) => RelV b.2 u ∧ RV G A H b.1 b.2) us bs → Vals (bs.map (·.2)) us ∧ RVs G A H (bs.map (·.1)) (bs.map (·.2))
  | [], us, r => by
    cases r
    exact ⟨.nil, (rfl : ([] : List V) = [])⟩
  | b :: bs, us, r => by
    cases r with
    | cons r1 r2 =>
      obtain ⟨h1, h2⟩ := vals_of_each r2
      exact ⟨.cons r1.1 h1, _, _, rfl, r1.2, h2⟩
/-- values that read as alike data, one at most or of a kind that can be sorted -/
theorem sortsAt {prog : Program} {w : World} {A : Around} {s : Shared} {vs : List Value} {ds : List PyData} (e : EachIs (fun v d => ∃ as, Reads s.heap v d as) vs ds) (hal : AllAlike ds) (hk : Sortable ds ∨ (ds.length ≤ 1 ∧ ∀ d ∈ ds, d ≠ .none)) (hu : ∀ d, d ∈ ds → A.units + d.depth < cLine) : PySem.W.SortsAt prog w A s (PySem.W.dataKind s.heap ds) vs := by
  rcases hk with hk | ⟨h1, h2⟩
  · exact PySem.W.SortsAt.data e hal hk hu
  · refine ⟨fun v hv => ?_, general', fun E x y a b Q ha hb hq => ?_, fun h => ?_⟩
    · obtain ⟨d, hd, as, r⟩ := e.left v hv
      exact ⟨_, PySem.W.dataKind_some hal hd r⟩
    · obtain ⟨d, as, hd, ra, rfl⟩ := PySem.W.dataKind_inv ha
      obtain ⟨d', as', hd', rb, rfl⟩ := PySem.W.dataKind_inv hb
      show wpAny _ _ (oneLt' false x y) _ _ _
      exact PySem.W.oneLt_alike (fun hb => by cases hb) ra rb (hal d hd d' hd') (h2 d hd) (Nat.lt_of_le_of_lt (Nat.add_le_add_left (Nat.min_le_left _ _) _) (hu d hd)) hq
    · have len : ∀ {us : List Value} {es : List PyData}, EachIs (fun v d => ∃ as, Reads s.heap v d as) us es → us.length = es.length := by
        intro us es h
        induction h with
        | nil => rfl
        | cons _ _ ih => simp [ih]
      rw [len e] at h
      omega
section
variable {X : Cx} {G : Gs}
theorem sorted_col {pins : List (Addr × Obj)} {σ : L2.St} {s : Shared} {H : Hp} {A : Al} {x : Value} {C : List Dt → Prop} {Q : VK} (hK : G.K = X.K) (hu : X.A.units + 64 < cLine) (hc : ColR X G A H pins σ s x C) (hok : ∀ ts, C ts → SortOk ts)
    (q : ∀ ts vs, C ts → RVs G A H (ts.mergeSort leT) vs → ∀ p, H p = none → Q (.ref p) (upd H p (.lst vs))) : wpAny (model X.prog X.w) X.A (call (.builtin "sorted") [x]) (EP X pins σ Q) X.xe s := by
  refine Calls.call_function_entry kind_sorted plain_sorted entry_sorted (args_sorted1 _) ?_
  unfold Builtin.«sorted»
  refine wpAny_bind (m := checkCount "sorted" 1 1 _) (wpAny_pure ?_)
  refine wpAny_bind (hc _ fun s1 us bs I1 rv rb hC => ?_)
  have ok := hok _ hC
  have hl : us.length = bs.length := by rw [← rv.length, List.length_map]
  have hz : bs.length ≤ sizeLine := by
    have := ok.sz
    rw [List.length_map] at this
    exact line_of this
  refine wpAny_bind (wpAny_newList ?_ (by rw [hl]; exact hz))
  have hoL : (s1.heap.push (seqObj "list" us.toArray 0)).get? s1.heap.objs.size = some (seqObj "list" us.toArray 0) := Heap.get?_push_size _ rfl
  have e0 := each_of_vals rv rb
  have er : EachIs (fun v (b : Dt × V) => ∃ as, Reads (PySem.W.sortingHeap (s1.heap.push (seqObj "list" us.toArray 0)) s1.heap.objs.size us) v (encT b.1) as) us bs := by
    refine (PySem.W.each_mem e0).mono fun v b hb => ?_
    obtain ⟨⟨r1, r2⟩, hm⟩ := hb
    obtain ⟨d, hd⟩ := ok.py b.1 (List.mem_map.mpr ⟨b, hm, rfl⟩)
    have dp := RV.dp hd r2
    rw [hK] at dp
    obtain ⟨as, ra⟩ := Dp.reads I1 d b.2 v dp r1
    have ee : encT b.1 = d := by
      unfold encT
      rw [hd]
      rfl
    rw [ee]
    exact ⟨as, PyProof.Rows.Reads.keeps (fun c o hc => PySem.W.sortingHeap_old (Nat.ne_of_lt (Heap.lt_size hc)) (Heap.get?_push_of_some _ hc)) ra⟩
  have em : bs.map (fun b => encT b.1) = (bs.map (·.1)).map encT := by
    rw [List.map_map]
    rfl
  have hal : AllAlike (bs.map fun b => encT b.1) := by
    rw [em]
    exact ok.al
  have hso : Sortable (bs.map fun b => encT b.1) ∨ ((bs.map fun b => encT b.1).length ≤ 1 ∧ ∀ d ∈ bs.map (fun b => encT b.1), d ≠ .none) := by
    rw [em]
    rcases ok.so with h | ⟨h1, h2⟩
    · exact .inl h
    · refine .inr ⟨by rw [List.length_map]; exact h1, fun d hd => ?_⟩
      obtain ⟨t, ht, rfl⟩ := List.mem_map.mp hd
      exact h2 t ht
  have hdp : ∀ b, b ∈ bs → X.A.in1.units + 1 + (encT b.1).depth < cLine := fun b hb => by
    have := ok.dp b.1 (List.mem_map.mpr ⟨b, hb, rfl⟩)
    have hi : X.A.in1.units = X.A.units + 1 := rfl
    omega
  refine wpAny_bind (wpAny_holding (wpAny_call_entry slot_list_sort ⟨_, hoL, rfl⟩ entry_list_sort (PySem.W.list_sort_vals (κ := PySem.W.dataKind (PySem.W.sortingHeap (s1.heap.push (seqObj "list" us.toArray 0)) s1.heap.objs.size us) (bs.map fun b => encT b.1)) hoL
    (sortsAt (s := { s1 with heap := PySem.W.sortingHeap (s1.heap.push (seqObj "list" us.toArray 0)) s1.heap.objs.size us }) (PySem.W.each_map (R := fun v d => ∃ as, Reads (PySem.W.sortingHeap (s1.heap.push (seqObj "list" us.toArray 0)) s1.heap.objs.size us) v d as) (fun b : Dt × V => encT b.1) er) hal hso (PySem.W.bound_map hdp)) (by rw [hl]; exact hz) ⟨.none, rfl, ?_⟩) (args_list_sort _)))
  have eo := PySem.W.sortVals_data false e0 er hal
  have el : (PySem.W.sortVals (PySem.W.dataKind (PySem.W.sortingHeap (s1.heap.push (seqObj "list" us.toArray 0)) s1.heap.objs.size us) (bs.map fun b => encT b.1)) false us us).length = bs.length := by
    rw [PySem.W.sortVals_length false rfl]
    exact hl
  generalize PySem.W.sortVals (PySem.W.dataKind (PySem.W.sortingHeap (s1.heap.push (seqObj "list" us.toArray 0)) s1.heap.objs.size us) (bs.map fun b => encT b.1)) false us us = out at eo el
  obtain ⟨c, hcL⟩ := sortedHeap_at (vs := us) (out := out.toArray) hoL
  obtain ⟨h1, h2⟩ := vals_of_each eo
  have hm : (bs.mergeSort (dataLe false fun b => encT b.1)).map (·.1) = (bs.map (·.1)).mergeSort leT := List.map_mergeSort fun a _ b _ => rfl
  rw [hm] at h2
  have keep : ∀ b o, s1.heap.get? b = some o → (sortedHeap (s1.heap.push (seqObj "list" us.toArray 0)) s1.heap.objs.size us out.toArray).get? b = some o := fun b o e => by
    have hlt := Heap.lt_size e
    rw [sortedHeap_old (Nat.ne_of_lt hlt) (by rw [size_push']; exact Nat.lt_succ_of_lt hlt)]
    exact Heap.get?_push_of_some _ e
  have hfin := q _ _ hC h2 s1.heap.objs.size (I1.hok.fresh (Nat.le_refl _))
  refine wpAny_pure ⟨_, rfl, .ref s1.heap.objs.size, _, I1.laid keep (Nat.le_refl _) (show ObjOk X.prog X.w _ _ _ (.lst ((bs.mergeSort (dataLe false fun b => encT b.1)).map (·.2))) from ⟨?_, out, c, h1, hcL⟩), rfl, hfin⟩
  rw [List.length_map, List.length_mergeSort]
  exact hz
/-- a list, a tuple: its items in order -/
theorem col_seq {pins : List (Addr × Obj)} {σ : L2.St} {s : Shared} {H : Hp} {A : Al} {a : Addr} {vs : List V} {ts : List Dt} (I : L2.Inv X pins σ H s) (hs : SqL X.K H a vs ∨ SqT X.K H a vs) (hv : RVs G A H ts vs) : ColR X G A H pins σ s (.ref a) fun us => us = ts := by
  intro Q' hq
  have fin : ∀ (its : List Value) (h' : Heap), Vals vs its → (∀ b o', s.heap.get? b = some o' → h'.get? b = some o') → Q' its { s with heap := h' } := fun its h' r k => by
    have hl := hv.length
    refine hq _ its (ts.zip vs) (I.kept (t' := s.toks) k) ?_ (fun b hb => ?_) ?_
    · rw [List.map_snd_zip (by omega)]
      exact r
    · obtain ⟨i, hi⟩ := List.mem_iff_getElem?.mp hb
      obtain ⟨e1, e2⟩ := List.getElem?_zip_eq_some.mp hi
      obtain ⟨v, e3, r3⟩ := hv.get e1
      rw [e2] at e3
      cases e3
      exact r3
    · exact List.map_fst_zip (by omega)
  rcases hs with hs | hs
  · obtain ⟨its, r, pl, hz⟩ := I.list hs
    obtain ⟨o, ho, hc, n, hd⟩ := pl.isList
    refine wpAny_collect_seq a (.inl rfl) ho hc hd (fun h' k => fin its h' r k) ?_
    rw [List.size_toArray, ← r.length]
    exact hz
  · obtain ⟨its, r, pl, hz⟩ := I.tuple hs
    obtain ⟨o, ho, hc, n, hd⟩ := pl
    refine wpAny_collect_seq a (.inr rfl) ho hc hd (fun h' k => fin its h' r k) ?_
    rw [List.size_toArray, ← r.length]
    exact hz
end
/-! ### sorted(x), x a list or a tuple -/
def isTupP : PyData → Bool
  | .tuple (_ :: _) => true
  | _ => false
def isAtom : PyData → Bool
  | .none => false
  | .tuple _ => false
  | _ => true
def isNoneP : PyData → Bool
  | .none => true
  | _ => false
def sortChk (ts : List Dt) : Bool := ts.all (fun t => (toPy t).isSome && decide ((encT t).depth ≤ 60)) && (ts.all fun t => ts.all fun u => alike (encT t) (encT u)) && ((ts.all fun t => isTupP (encT t)) || ((ts.all fun t => isAtom (encT t)) || (decide (ts.length ≤ 1) && ts.all fun t => !isNoneP (encT t)))) && decide (ts.length ≤ 16777216)
theorem sortChk_ok {ts : List Dt} (h : sortChk ts = true) : SortOk ts := by
  unfold sortChk at h
  simp only [Bool.and_eq_true, decide_eq_true_eq, Bool.or_eq_true, List.all_eq_true] at h
  obtain ⟨⟨⟨h1, h2⟩, h3⟩, h4⟩ := h
  refine ⟨fun t ht => Option.isSome_iff_exists.mp (h1 t ht).1, fun d hd d' hd' => ?_, ?_, fun t ht => (h1 t ht).2, h4⟩
  · obtain ⟨t, ht, rfl⟩ := List.mem_map.mp hd
    obtain ⟨t', ht', rfl⟩ := List.mem_map.mp hd'
    exact h2 t ht t' ht'
  · rcases h3 with h3 | h3 | ⟨h5, h6⟩
    · refine .inl (.inl fun d hd => ?_)
      obtain ⟨t, ht, rfl⟩ := List.mem_map.mp hd
      have := h3 t ht
      unfold isTupP at this
      split at this
      · rename_i x r e
        exact ⟨x, r, e⟩
      · cases this
    · refine .inl (.inr fun d hd => ?_)
      obtain ⟨t, ht, rfl⟩ := List.mem_map.mp hd
      have := h3 t ht
      unfold isAtom at this
      split at this
      · cases this
      · cases this
      · rename_i n1 n2
        exact ⟨n1, fun xs => n2 xs⟩
    · refine .inr ⟨h5, fun t ht z => ?_⟩
      have := h6 t ht
      rw [z] at this
      cases this
/-- sorting by putting in -/
def putL {α : Type} (le : α → α → Bool) (a : α) : List α → List α
  | [] => [a]
  | b :: l => if le a b = true then a :: b :: l else b :: putL le a l
def isortL {α : Type} (le : α → α → Bool) : List α → List α
  | [] => []
  | a :: l => putL le a (isortL le l)
theorem putL_app {α : Type} {le : α → α → Bool} {a : α} : ∀ (l m : List α), (∀ b ∈ l, le a b = false) → (∀ b ∈ m, le a b = true) → putL le a (l ++ m) = l ++ a :: m
  | [], [], _, _ => rfl
  | [], b :: m, _, h => by
    show (if le a b = true then a :: b :: m else b :: putL le a m) = _
    rw [if_pos (h b List.mem_cons_self)]
    rfl
  | b :: l, m, h, h2 => by
    show (if le a b = true then a :: b :: (l ++ m) else b :: putL le a (l ++ m)) = _
    rw [if_neg (by rw [h b List.mem_cons_self]; decide), putL_app l m (fun c hc => h c (List.mem_cons_of_mem _ hc)) h2]
    rfl
theorem isortL_is {α : Type} {le : α → α → Bool} (tr : ∀ a b c, le a b = true → le b c = true → le a c = true) (tot : ∀ a b, (le a b || le b a) = true) : ∀ l : List α, isortL le l = l.mergeSort le
  | [] => by simp [isortL]
  | a :: l => by
    obtain ⟨l1, l2, e1, e2, h⟩ := List.mergeSort_cons tr tot a l
    have s := List.pairwise_mergeSort tr tot (a :: l)
    rw [e1, List.pairwise_append] at s
    rw [e1]
    show putL le a (isortL le l) = _
    rw [isortL_is tr tot l, e2]
    exact putL_app l1 l2 (fun b hb => by simpa using h b hb) (List.pairwise_cons.mp s.2.1).1
theorem leT_total (a b : Dt) : (leT a b || leT b a) = true := by
  unfold leT
  cases h1 : PySem.W.dataLt (encT b) (encT a) with
  | false => rfl
  | true =>
    cases h2 : PySem.W.dataLt (encT a) (encT b) with
    | false => rfl
    | true =>
      have := lex_trans _ _ _ h1 h2
      rw [lex_irrefl] at this
      cases this
theorem leT_trans {a b c : Dt} (h : leT a b = true) (h2 : leT b c = true) : leT a c = true := by
  unfold leT at *
  cases h3 : PySem.W.dataLt (encT c) (encT a) with
  | false => rfl
  | true =>
    rcases lex_negTrans _ (PySem.W.keyToks (encT b)) _ h3 with h4 | h4
    · rw [show PySem.W.dataLt (encT c) (encT b) = true from h4] at h2
      cases h2
    · rw [show PySem.W.dataLt (encT b) (encT a) = true from h4] at h
      cases h
theorem isort_leT (ts : List Dt) : isortL leT ts = ts.mergeSort leT := isortL_is (le := leT) (fun _ _ _ h h2 => leT_trans h h2) leT_total ts
def seqT (S : Sto) (d : Dv) : Option (List Dt) := (seqAt S d).bind pures
def pSorted : PN := fun ds S => match ds with
  | [d] => (match seqT S d with
    | some ts => if sortChk ts = true then some (.d (.lst (isortL leT ts)), S) else none
    | none => none)
  | _ => none
section
variable {X : Cx} {G : Gs}
theorem b_sorted (hK : G.K = X.K) (hu : X.A.units + 64 < cLine) : CallR X (.builtin "sorted") (qN G pSorted) := by
  intro pins s σ H xs us Q I rx h
  obtain ⟨A, S, ds, rd, st, p⟩ := h
  unfold pSorted at p
  split at p
  · obtain ⟨v, rfl, r⟩ := RDs.one rd
    split at p
    · rename_i ts e
      split at p
      · rename_i hz
        obtain ⟨ds, e1, e2⟩ := Option.bind_eq_some_iff.mp e
        obtain ⟨a, vs, rfl, hs, hv⟩ := seqAt_rd st r e1
        rw [hK] at hs
        obtain rfl := Vals.ref1 rx
        exact sorted_col hK hu (col_seq I hs (pures_rvs e2 hv)) (fun us eu => by rw [eu]; exact sortChk_ok hz) fun us vs' eu hv' => by
          subst eu
          exact poL p st (by rw [isort_leT]; exact hv')
      · exact p.elim
    · exact p.elim
  · exact p.elim
end
end Sm
/-! Sm14: sets of keys, made from a list, a tuple, a dict, and sorted. -/
namespace Sm
open PySem PySem.Spec PyProof.Rows L2

def keyX (e : Int × Value) : Key := match e.2 with
  | .int i _ => .inl i
  | .str z _ => .inr z
  | _ => .inl 0
def GoodX (P : Program) (w : World) (e : Int × Value) : Prop := (mixKind P w).is (keyX e) e.2 = true ∧ e.1 = (mixKind P w).hash (keyX e)
theorem keyX_of {P : Program} {w : World} {k : Key} {v : Value} {h : Int} (e : (mixKind P w).is k v = true) : keyX (h, v) = k := by
  rcases keyIs_shape (k := k) (v := v) e with ⟨i, t, rfl, rfl⟩ | ⟨x, t, rfl, rfl⟩
  · rfl
  · rfl
theorem scan_of {P : Program} {w : World} {k : Key} {v : Value} (e : (mixKind P w).is k v = true) : v.scannable = true := key_scan (keyIs_rel e)
/-- entries es, in the table t, have the keys S, n of them -/
structure SetC (P : Program) (w : World) (es : Array (Int × Value)) (t : SetTable) (S : Key → Bool) (n : Nat) : Prop where
  good : ∀ e ∈ es.toList, GoodX P w e
  nd : (es.toList.map keyX).Nodup
  mem : ∀ k, S k = true ↔ k ∈ es.toList.map keyX
  lt : es.size < scanBound
  fit : t.fits es.size = true
  sz : es.size = n
  ris : Ris t.place.toList
  led : w.params.followText "set-order" = true ∨ t.led = true
def SetX (P : Program) (w : World) (h : Heap) (a : Addr) (S : Key → Bool) (n : Nat) : Prop := ∃ o es ep t, h.get? a = some o ∧ o.ExactSet ∧ o.data = .set es ep t ∧ SetC P w es t S n
section
variable {P : Program} {w : World} {A : Around} {E : Value → Shared → Prop} {s : Shared} {h h' : Heap} {a : Addr} {S S' : Key → Bool} {n : Nat} {es es' : Array (Int × Value)} {t t' : SetTable}
theorem SetC.elems (c : SetC P w es t S n) : ElemsOf (mixKind P w) es.toList := fun e he => ⟨⟨_, (c.good e he).1, (c.good e he).2⟩, scan_of (c.good e he).1⟩
theorem good_key {e : Int × Value} (g : GoodX P w e) (k : Key) : (mixKind P w).is k e.2 = true ↔ keyX e = k :=
  ⟨fun z => (mixKind P w).inj e.2 _ _ g.1 z, fun z => by rw [← z]; exact g.1⟩
theorem SetC.has (c : SetC P w es t S n) (k : Key) : S k = true ↔ ∃ e ∈ es.toList, (mixKind P w).is k e.2 = true := by
  rw [c.mem, List.mem_map]
  exact ⟨fun ⟨e, he, q⟩ => ⟨e, he, (good_key (c.good e he) k).2 q⟩, fun ⟨e, he, q⟩ => ⟨e, he, (good_key (c.good e he) k).1 q⟩⟩
theorem SetX.at (R : SetX P w h a S n) (k : ∀ o, h.get? a = some o → h'.get? a = some o) : SetX P w h' a S n := by
  obtain ⟨o, es, ep, t, ho, q⟩ := R
  exact ⟨o, es, ep, t, k o ho, q⟩
theorem SetX.congr (R : SetX P w h a S n) (e : ∀ k, S' k = S k) : SetX P w h a S' n := by
  rw [show S' = S from funext e]
  exact R
theorem SetC.perm (c : SetC P w es t S n) (p : es'.toList.Perm es.toList) (f : t'.fits es'.size = true) (r : Ris t'.place.toList) (l : t'.led = t.led) : SetC P w es' t' S n := by
  have z : es'.size = es.size := by rw [← Array.length_toList, p.length_eq, Array.length_toList]
  exact ⟨fun e he => c.good e (p.mem_iff.mp he), (p.map keyX).nodup_iff.mpr c.nd, fun k => (c.mem k).trans (p.map keyX).mem_iff.symm, by rw [z]; exact c.lt, f, z.trans c.sz, r, c.led.imp id fun q => l.trans q⟩
/-- the store, and the table laid anew where it is too full -/
theorem setX_tail {g : Bool → Sem Unit} (hg : ∀ (b : Bool) (s₁ : Shared) (Q' : Unit → Shared → Prop), Q' () s₁ → wpAny (model P w) A (g b) Q' E s₁) {o : Obj} {ep : Nat} (ho : s.heap.get? a = some o) (hx : o.ExactSet) (hd : o.data = .set es ep t)
    (c : SetC P w es' t' S n) {dummy : Bool} {R : Option Bool → Shared → Prop} (hR : ∀ h', Heap.SameBut a s.heap h' → SetX P w h' a S n → R (some true) { s with heap := h' }) :
    wpAny (model P w) A (do
      storeSet a es' t'
      if (!dummy && t'.tooFull) = true then do
        g (relayAll t' es' (SetTable.grown es'.size)).2.2
        storeSet a (relayAll t' es' (SetTable.grown es'.size)).1 (relayAll t' es' (SetTable.grown es'.size)).2.1
        pure (some true)
      else pure (some true)) R E s := by
  have o1 := store_at (es' := es') (t' := t') ho hd
  have b1 := Heap.SameBut.update s.heap a (Obj.putSet es' t')
  refine wpAny_bind (wpAny_storeSet_of ho hd ?_ (fits_of_scanBound c.lt))
  split
  · have c2 := c.perm (relayAll_perm t' es' (SetTable.grown es'.size)) (relayAll_fits t' es' _) (relayAll_ris t' es' _) (relayAll_led t' es' _)
    generalize relayAll t' es' (SetTable.grown es'.size) = Z at c2 ⊢
    obtain ⟨es2, t3, gave⟩ := Z
    dsimp only at c2 ⊢
    refine wpAny_bind (hg _ _ _ (wpAny_bind (wpAny_storeSet_of o1 rfl ?_ (fits_of_scanBound c2.lt))))
    have o2 := store_at (es' := es2) (t' := t3) o1 rfl
    exact wpAny_pure (hR _ (b1.trans (Heap.SameBut.update _ a _)) ⟨_, es2, _, t3, o2, hx, rfl, c2⟩)
  · exact wpAny_pure (hR _ b1 ⟨_, es', _, t', o1, hx, rfl, c⟩)
theorem setX_add {k : Key} {x : Value} {Q : Bool → Shared → Prop} (hk : (mixKind P w).is k x = true) (R : SetX P w s.heap a S n) (room : n + 1 < scanBound)
    (hQ : ∀ h', Heap.SameBut a s.heap h' → SetX P w h' a (fun j => S j || decide (j = k)) (if S k = true then n else n + 1) → Q (!S k) { s with heap := h' }) : wpAny (model P w) A (setAddHashed a x ((mixKind P w).hash k)) Q E s := by
  obtain ⟨o, es, ep, t, ho, hx, hd, c⟩ := R
  have hsc : x.scannable = true := scan_of hk
  unfold setAddHashed setAddHashedIn
  refine wpAny_holding (wpAny_bind (wpAny_setState_of ho hd c.fit ?_))
  dsimp only
  rw [byScan_of hsc c.lt c.elems]
  simp only [↓reduceIte]
  unfold setAddByScan
  refine wpAny_bind (wpAny_bind (wpAny_rule (wpAny_bind (wpAny_setScan_of hk ho hd c.fit c.elems ?_))))
  cases hfi : List.findIdx? (fun e => (mixKind P w).is k e.2) es.toList with
  | some j =>
    obtain ⟨hj, pj, _⟩ := List.findIdx?_eq_some_iff_getElem.mp hfi
    have hSk : S k = true := (c.has k).2 ⟨es.toList[j], List.getElem_mem hj, pj⟩
    have q := hQ s.heap (Heap.SameBut.refl a s.heap) ⟨o, es, ep, t, ho, hx, hd, ⟨c.good, c.nd, fun i => by
      rw [Bool.or_eq_true, decide_eq_true_eq, ← c.mem i]
      exact ⟨fun z => z.elim id fun e => e ▸ hSk, .inl⟩, c.lt, c.fit, by rw [if_pos hSk]; exact c.sz, c.ris, c.led⟩⟩
    rw [hSk] at q
    exact wpAny_pure (wpAny_pure q)
  | none =>
    have hnk : k ∉ es.toList.map keyX := fun z => by
      obtain ⟨e, he, q⟩ := (c.has k).1 ((c.mem k).2 z)
      rw [List.findIdx?_eq_none_iff.mp hfi e he] at q
      cases q
    have hSk : S k = false := by
      cases q : S k with
      | false => rfl
      | true => exact absurd ((c.mem k).1 q) hnk
    have hgw : ∀ (b : Bool) {s₁ : Shared} {Q' : Unit → Shared → Prop}, Q' () s₁ → wpAny (model P w) A (match b with | true => rule "set.scan.the-table-gave-way" | false => pure ()) Q' E s₁ := fun b s₁ Q' q => by
      cases b
      · exact wpAny_pure q
      · exact wpAny_rule q
    have pm := layNew_perm t es ((mixKind P w).hash k) x
    have hf := layNew_fits t es ((mixKind P w).hash k) x
    have hr := layNew_ris t es ((mixKind P w).hash k) x c.ris
    have hl := layNew_led t es ((mixKind P w).hash k) x
    generalize layNew t es ((mixKind P w).hash k) x = Z at pm hf hr hl ⊢
    obtain ⟨es1, t1, dummy, gave⟩ := Z
    dsimp only at pm hf hr hl ⊢
    rw [Array.toList_push] at pm
    have pc : es1.toList.Perm (((mixKind P w).hash k, x) :: es.toList) := pm.trans (List.perm_append_singleton _ _)
    have pk : (es1.toList.map keyX).Perm (k :: es.toList.map keyX) := by
      have := pc.map keyX
      rw [List.map_cons, keyX_of hk] at this
      exact this
    have hz : es1.size = n + 1 := by rw [← Array.length_toList, pc.length_eq, List.length_cons, Array.length_toList, c.sz]
    have cc : ∀ t2 : SetTable, t2.fits es1.size = true → Ris t2.place.toList → t2.led = t.led → SetC P w es1 t2 (fun j => S j || decide (j = k)) (n + 1) := fun t2 f r l =>
      ⟨fun e he => (List.mem_cons.mp (pc.mem_iff.mp he)).elim (fun z => by rw [z]; exact ⟨by rw [keyX_of hk]; exact hk, by rw [keyX_of hk]⟩) (c.good e), pk.nodup_iff.mpr (List.nodup_cons.mpr ⟨hnk, c.nd⟩), fun i => by
        rw [Bool.or_eq_true, decide_eq_true_eq, c.mem i, pk.mem_iff, List.mem_cons]
        exact Or.comm, by rw [hz]; exact room, f, hz, r, c.led.imp id fun q => l.trans q⟩
    have fin : ∀ h', Heap.SameBut a s.heap h' → SetX P w h' a (fun j => S j || decide (j = k)) (n + 1) → Q true { s with heap := h' } := fun h' sb r => by
      have q := hQ h' sb
      rw [hSk] at q
      exact q r
    have hrule : ∀ (b : Bool) (s₁ : Shared) (Q' : Unit → Shared → Prop), Q' () s₁ → wpAny (model P w) A (match b with | true => rule "set.scan.the-table-gave-way" | false => pure ()) Q' E s₁ := fun b s₁ Q' q => hgw b q
    refine wpAny_bind (hgw _ ?_)
    split
    · refine wpAny_bind ?_
      rw [hashByValue_scannable 8 hsc]
      refine wpAny_pure ?_
      refine setX_tail ?_ ho hx hd (cc _ ?_ ?_ ?_) ?_
      · intro b s₁ Q' q
        cases b <;> first | exact wpAny_pure q | exact wpAny_rule q
      · split <;> first | exact hf | exact SetTable.fits_plain_off hf
      · split <;> exact hr
      · split <;> exact hl
      · intro h' sb r
        dsimp only
        exact wpAny_pure (fin h' sb r)
    · refine wpAny_bind (wpAny_pure ?_)
      simp only [↓reduceIte]
      refine setX_tail ?_ ho hx hd (cc _ hf hr hl) ?_
      · intro b s₁ Q' q
        cases b <;> first | exact wpAny_pure q | exact wpAny_rule q
      · intro h' sb r
        dsimp only
        exact wpAny_pure (fin h' sb r)
theorem setX_fresh {h : Heap} (ho : h.get? a = some { cls := .type "set", dict := none, data := .set #[] 0 (.fresh 0 0 (!w.params.followText "set-order")) }) : SetX P w h a (fun _ => false) 0 :=
  ⟨_, #[], 0, _, ho, ⟨rfl, rfl, rfl⟩, rfl, ⟨fun e he => by simp at he, by simp, fun k => by simp, by decide, by rfl, rfl, List.Pairwise.nil, by
    show _ ∨ (!w.params.followText "set-order") = true
    cases w.params.followText "set-order"
    · exact .inr rfl
    · exact .inl rfl⟩⟩
/-- the loop over what is walked -/
theorem setX_loop {I : Addr} {fp wr : List Addr} {G : Array GenState → Array GenState → Prop} {Pv : Nat → Value → Prop} {St : Nat → Shared → Prop} {R : Result → Shared → Prop} (W : WalksS P w A.in1 I fp wr G n Pv St) (D : Addr) (hD : D ∉ fp) (ks : List Key) (hn : n = ks.length) (hb : ks.length + 1 < scanBound)
    (hval : ∀ i v, Pv i v → ∃ k, ks[i]? = some k ∧ (mixKind P w).is k v = true) : ∀ (m i : Nat) (s : Shared), n - i = m → i ≤ n → St i s → (∃ c, c ≤ i ∧ SetX P w s.heap D (hasK (ks.take i)) c) →
      (∀ s' c, Moved (D :: wr) G s s' → c ≤ n → SetX P w s'.heap D (hasK ks) c → R (.ok (.ret .none)) s') → codeAny (model P w) A (.builtin "set.update.loop" ⟨[.ref D, .ref I], []⟩) R s := by
  have hDw : D ∉ wr := fun z => hD (W.sub _ z)
  have sub : ∀ b ∈ wr, b ∈ D :: wr := fun b hb => List.mem_cons_of_mem _ hb
  intro m
  induction m with
  | zero =>
    intro i s hm hi hst ⟨c, hc, hS⟩ hR
    obtain rfl : i = n := by omega
    refine codeAny_builtin F.entry_set_update_loop ?_
    rw [Around.under_plainId F.plain_set_update_loop _]
    show wpAny _ A.in1 (pyNext (.ref I) >>= fun z => _) _ _ s
    refine wpAny_bind (W.done s _ _ hst fun s' hv => wpAny_pure (hR s' c (hv.mono sub) hc ?_))
    rw [List.take_of_length_le (by omega)] at hS
    exact hS.at fun o e => hv.heap D o hDw e
  | succ m ih =>
    intro i s hm hi hst ⟨c, hc, hS⟩ hR
    have hlt : i < n := by omega
    refine codeAny_builtin F.entry_set_update_loop ?_
    rw [Around.under_plainId F.plain_set_update_loop _]
    show wpAny _ A.in1 (pyNext (.ref I) >>= fun z => _) _ _ s
    refine wpAny_bind (W.item i s _ _ hlt hst fun v s' hP hst' hv => ?_)
    obtain ⟨k, hk, hkv⟩ := hval i v hP
    have hS1 : SetX P w s'.heap D (hasK (ks.take i)) c := hS.at fun o e => hv.heap D o hDw e
    show wpAny _ A.in1 (holding [v] (setAdd D v) >>= fun z => _) _ _ s'
    refine wpAny_bind (wpAny_holding ?_)
    unfold setAdd
    refine wpAny_holding (wpAny_bind ((mixKind P w).pyHash (k := k) hkv ?_))
    refine setX_add (s := { s' with toks := s'.toks + 1 }) hkv hS1 (by omega) fun h' sb hS2 => ?_
    have hS3 : SetX P w h' D (hasK (ks.take (i + 1))) (if hasK (ks.take i) k = true then c else c + 1) := hS2.congr fun j => by
      rw [List.take_add_one, hk]
      unfold hasK
      simp [List.any_append, eq_comm]
    have hc3 : (if hasK (ks.take i) k = true then c else c + 1) ≤ i + 1 := by split <;> omega
    refine wpAny_pure ⟨plainId_quiet F.plain_set_update_loop _, ih (i + 1) _ (by omega) hlt (W.frame _ s' _ _ hst' (Nat.le_succ _) fun b hb o e => ?_) ⟨_, hc3, hS3⟩ fun s'' c2 hm2 hc2 hS4 => ?_⟩
    · rw [sb.2 b fun z => hD (z ▸ hb)]
      exact e
    · refine hR s'' c2 (Moved.trans W.gtrans ((hv.mono sub).then_heap (Nat.le_succ _) fun b o hb e => ?_) hm2) hc2 hS4
      rw [sb.2 b fun z => hb (by rw [z]; exact List.mem_cons_self)]
      exact e
end
end Sm
/-! Sm15: set(x) of a list, a tuple, a dict of keys; sorted(set(x)). -/
namespace Sm
open PySem PySem.Spec PyProof.Rows L2

abbrev newSetO (w : World) : Obj := { cls := .type "set", dict := none, data := .set #[] 0 (.fresh 0 0 (!w.params.followText "set-order")) }
/-- how the set at D is filled from x -/
def Fills (P : Program) (w : World) (s : Shared) (x : Value) (ks : List Key) : Prop :=
  ∀ (A : Around) (id : String) (E : Value → Shared → Prop) (Q : Unit → Shared → Prop), A.handled = none →
    (∀ h' tk c, c ≤ ks.length → SetX P w h' s.heap.objs.size (hasK ks) c → (∀ b o, s.heap.get? b = some o → h'.get? b = some o) → Q () { s with heap := h', toks := tk }) →
    wpAny (model P w) A (Builtin.Frozenset.updateFrom id s.heap.objs.size x) Q E { s with heap := s.heap.push (newSetO w) }
section
variable {P : Program} {w : World} {A : Around} {E : Value → Shared → Prop} {s : Shared} {l : Addr} {ks : List Key}
set_option maxHeartbeats 3200000 in
theorem call_setX {x : Value} {Q : Value → Shared → Prop} (hh : A.handled = none) (hU : Fills P w s x ks)
    (h : ∀ (h' : Heap) (tk c : Nat), c ≤ ks.length → SetX P w h' s.heap.objs.size (hasK ks) c → (∀ b o, s.heap.get? b = some o → h'.get? b = some o) → Q (.ref s.heap.objs.size) { s with heap := h', toks := tk }) : wpAny (model P w) A (call (.type "set") [x]) Q E s := by
  obtain ⟨c, tl, hmro⟩ := F.called_set.mro
  have hmade := F.called_set.made
  have hsub := F.called_set.sub
  refine wpAny_call (codeAny_of_tree ?_)
  show wpAny _ _ (callAny (.type "set") _) _ _ _
  refine wpAny_pure ⟨Code.quiet_builtin _ (by decide +kernel), codeAny_builtin F.entry_type_call ?_⟩
  rw [Around.under_plain (weight_type_call_type "set" [x] []) rfl]
  have h1 := F.called_set.notType
  have h2 := F.called_set.canCreate
  have hct := F.typeCall_set_1 x
  repeat (any_goals (first | assumption | wp_step))
  refine codeAny_mono (code_set_led1 x (E := E) (Q₁ := fun obj s₁ => obj = .ref s.heap.objs.size ∧ s₁ = { s with heap := s.heap.push (newSetO w) }) ⟨rfl, rfl⟩) fun r s₁ hr => ?_
  cases r with
  | error e => exact hr
  | ok fl =>
    cases fl with
    | ret obj =>
      obtain ⟨rfl, rfl⟩ := hr
      have hS : (s.heap.push (newSetO w)).get? s.heap.objs.size = some (newSetO w) := Heap.get?_push_size _ rfl
      have hT : Shared.TypeIs { s with heap := s.heap.push (newSetO w) } (.ref s.heap.objs.size) "set" := ⟨_, hS, rfl⟩
      have hli := F.called_set.init.lookup
      have hbi := F.called_set.init.bind (.ref s.heap.objs.size)
      repeat (any_goals (first | assumption | wp_step))
      refine codeAny_mono (codeAny_call_builtin (R := wants (fun r s₂ => r = .none ∧ ∃ h' tk c, s₂ = { s with heap := h', toks := tk } ∧ c ≤ ks.length ∧ SetX P w h' s.heap.objs.size (hasK ks) c ∧ (∀ b o, s.heap.get? b = some o → h'.get? b = some o)) E) F.called_set.init.plain F.entry_set_init (check_set_init_1 hT ?_)) fun r₂ s₂ hr₂ => ?_
      · unfold Builtin.«set.__init__» noKeywords
        generalize hUF : Builtin.Frozenset.updateFrom = UF
        wp_walk
        subst hUF
        refine hU _ _ _ _ (by simp [hh]) fun h' tk c hc hS' hk => ?_
        show wpAny _ _ (ret Value.none) _ _ _
        exact wpAny_pure ⟨rfl, h', tk, c, rfl, hc, hS', hk⟩
      · cases r₂ with
        | error e => exact hr₂
        | ok fl₂ =>
          cases fl₂ with
          | ret r =>
            obtain ⟨rfl, h', tk, c', rfl, hc, hS', hk⟩ := hr₂
            repeat (any_goals (first | assumption | wp_step))
            exact h _ _ _ hc hS' hk
          | _ => exact hr₂.elim
    | _ => exact hr.elim
/-- the first steps of the filling, for a type that is no set -/
theorem fill_start {T : String} {x : Value} {id : String} {D : Addr} {Q : Unit → Shared → Prop} (hT : s.TypeIs x T) (h1 : isSubtype (.type T) (.type "set") = pure false) (h2 : isSubtype (.type T) (.type "frozenset") = pure false) (hd : (Value.type T == Value.type "dict") = false)
    (h : wpAny (model P w) A (do
      let _ ← runValue (.builtin "set.update.loop" ⟨[.ref D, ← pyIter x], []⟩)) Q E s) : wpAny (model P w) A (Builtin.Frozenset.updateFrom id D x) Q E s := by
  unfold Builtin.Frozenset.updateFrom Builtin.Frozenset.isAnySet
  refine wpAny_bind (wpAny_bind (wpAny_isInstance hT h1 (wpAny_isInstance hT h2 ?_)))
  refine wpAny_bind (wpAny_typeOf hT ?_)
  rw [hd]
  exact h
theorem fills_walk {T : String} {oI : Obj} {fp wr : List Addr} {n : Nat} {Pv : Nat → Value → Prop} {St : Nat → Heap → Prop} {x : Value} (hT : ∀ h, (∀ b o, s.heap.get? b = some o → h.get? b = some o) → Shared.TypeIs { s with heap := h } x T)
    (h1 : isSubtype (.type T) (.type "set") = pure false) (h2 : isSubtype (.type T) (.type "frozenset") = pure false) (hd : (Value.type T == Value.type "dict") = false)
    (hi : ∀ (A : Around) (E : Value → Shared → Prop) (Q : Value → Shared → Prop), Q (.ref (s.heap.objs.size + 1)) { s with heap := (s.heap.push (newSetO w)).push oI } → wpAny (model P w) A (pyIter x) Q E { s with heap := s.heap.push (newSetO w) })
    (hW : ∀ A : Around, A.handled = none → Walks P w A (s.heap.objs.size + 1) fp [s.heap.objs.size + 1] n Pv St) (h0 : St 0 ((s.heap.push (newSetO w)).push oI)) (hD : s.heap.objs.size ∉ fp) (hn : n = ks.length) (hb : ks.length + 1 < scanBound) (hval : ∀ (i : Nat) (v : Value), Pv i v → ∃ k : Key, ks[i]? = some k ∧ (mixKind P w).is k v = true) : Fills P w s x ks := by
  intro A id E Q hh hQ
  refine fill_start (hT _ fun b o e => Heap.get?_push_of_some _ e) h1 h2 hd ?_
  refine wpAny_bind (hi _ _ _ (wpAny_bind (wpAny_runValue ?_)))
  have g0 : ((s.heap.push (newSetO w)).push oI).get? s.heap.objs.size = some (newSetO w) := Heap.get?_push_of_some _ (Heap.get?_push_size _ rfl)
  refine setX_loop ((hW A.in1 hh).toS) s.heap.objs.size hD ks hn hb hval (n - 0) 0 _ (by omega) (Nat.zero_le _) h0 ⟨0, Nat.le_refl 0, SetX.congr (setX_fresh g0) fun k => rfl⟩ fun s' c hm hc hS' => ?_
  obtain ⟨h', g', d', tk', os'⟩ := s'
  have eg : g' = s.gens := hm.gens
  have ed : d' = s.drawn := hm.drawn
  have eo : os' = s.os := hm.os
  subst eg ed eo
  refine wpAny_pure (hQ h' tk' c (by omega) hS' fun b o e => ?_)
  have hb0 : b < s.heap.objs.size := Heap.lt_size e
  exact hm.heap b o (by
    simp only [List.mem_cons, List.not_mem_nil, or_false, not_or]
    exact ⟨Nat.ne_of_lt hb0, Nat.ne_of_lt (Nat.lt_succ_of_lt hb0)⟩) (Heap.get?_push_of_some _ (Heap.get?_push_of_some _ e))
end
end Sm
/-! Sm16: set(x) of a list, a tuple, a dict; sorted(set(x)). -/
namespace Sm
open PySem PySem.Spec PyProof.Rows L2
theorem key_is {P : Program} {w : World} {k : Key} {u : Value} (r : RelV (kV k) u) : (mixKind P w).is k u = true := by
  cases k with
  | inl i =>
    obtain ⟨t, rfl⟩ := r
    exact keyIs_int i t
  | inr x =>
    obtain ⟨t, rfl⟩ := r
    exact keyIs_str x t
theorem keys_at' : ∀ {ks : List Key} {its : List Value}, Vals (ks.map kV) its → ∀ (i : Nat) (v : Value), its[i]? = some v → ∃ k : Key, ks[i]? = some k ∧ RelV (kV k) v
  | [], _, r, i, v, e => by
    cases r
    simp at e
  | k :: ks, _, r, i, v, e => by
    cases r with
    | cons r1 r2 =>
      cases i with
      | zero =>
        simp at e
        subst e
        exact ⟨k, rfl, r1⟩
      | succ i =>
        obtain ⟨k', e1, e2⟩ := keys_at' r2 i v (by simpa using e)
        exact ⟨k', by simpa using e1, e2⟩
section
variable {P : Program} {w : World} {A : Around} {E : Value → Shared → Prop} {s : Shared} {l : Addr} {ks : List Key}
theorem fills_list {its : List Value} (hl : s.heap.IsList l its.toArray) (r : Vals (ks.map kV) its) (hb : ks.length + 1 < scanBound) : Fills P w s (.ref l) ks := by
  have hlt : l < s.heap.objs.size := by
    obtain ⟨o, ho, _⟩ := hl
    exact Heap.lt_size ho
  have hz : (s.heap.push (newSetO w)).objs.size = s.heap.objs.size + 1 := Heap.size_push ..
  refine fills_walk (wr := []) (T := "list") (oI := { cls := .type "list_iterator", data := .fields #[.ref l, .int 0 0] }) (fun h k => ?_) PySem.F.sub_list_set PySem.F.sub_list_frozenset (by decide) (fun A E Q q => ?_)
    (fun A hh => Walks.list hh (s.heap.objs.size + 1) l (Nat.ne_of_lt (Nat.lt_succ_of_lt hlt)) its.toArray) ⟨⟨{ cls := .type "list_iterator", data := .fields #[.ref l, .int 0 0] }, ?_, rfl, rfl⟩, (hl.push _).push _⟩ ?_ ?_ hb fun i v e => ?_
  · obtain ⟨o, ho, hc, _⟩ := hl
    exact ⟨o, k _ _ ho, hc⟩
  · refine wpAny_pyIter_list (hl.push _) ?_
    rw [hz]
    exact q
  · rw [← hz]
    exact Heap.get?_push_size _ rfl
  · simp only [List.mem_cons, List.not_mem_nil, or_false, not_or]
    exact ⟨Nat.ne_of_lt (Nat.lt_succ_self _), Nat.ne_of_gt hlt⟩
  · have := r.length
    rw [List.length_map] at this
    simp [← this]
  · obtain ⟨k, e1, e2⟩ := keys_at' r i v (by simpa using e)
    exact ⟨k, e1, key_is e2⟩
theorem fills_tuple {its : List Value} (hl : s.heap.IsTuple l its.toArray) (r : Vals (ks.map kV) its) (hb : ks.length + 1 < scanBound) : Fills P w s (.ref l) ks := by
  have hlt : l < s.heap.objs.size := by
    obtain ⟨o, ho, _⟩ := hl
    exact Heap.lt_size ho
  have hz : (s.heap.push (newSetO w)).objs.size = s.heap.objs.size + 1 := Heap.size_push ..
  refine fills_walk (wr := []) (T := "tuple") (oI := { cls := .type "tuple_iterator", data := .fields #[.ref l, .int 0 0] }) (fun h k => ?_) PySem.F.sub_tuple_set PySem.F.sub_tuple_frozenset (by decide) (fun A E Q q => ?_)
    (fun A hh => Walks.tuple hh (s.heap.objs.size + 1) l (Nat.ne_of_lt (Nat.lt_succ_of_lt hlt)) its.toArray) ⟨⟨{ cls := .type "tuple_iterator", data := .fields #[.ref l, .int 0 0] }, ?_, rfl, rfl⟩, (hl.push _).push _⟩ ?_ ?_ hb fun i v e => ?_
  · obtain ⟨o, ho, hc, _⟩ := hl
    exact ⟨o, k _ _ ho, hc⟩
  · refine wpAny_pyIter_tuple (hl.push _) ?_
    rw [hz]
    exact q
  · rw [← hz]
    exact Heap.get?_push_size _ rfl
  · simp only [List.mem_cons, List.not_mem_nil, or_false, not_or]
    exact ⟨Nat.ne_of_lt (Nat.lt_succ_self _), Nat.ne_of_gt hlt⟩
  · have := r.length
    rw [List.length_map] at this
    simp [← this]
  · obtain ⟨k, e1, e2⟩ := keys_at' r i v (by simpa using e)
    exact ⟨k, e1, key_is e2⟩
theorem above_go : ∀ (f z n : Nat), SetTable.sizeAbove.go n f z ≤ max z (2 * n)
  | 0, z, n => by
    unfold SetTable.sizeAbove.go
    omega
  | f + 1, z, n => by
    unfold SetTable.sizeAbove.go
    split
    · have := above_go f (z * 2) n
      omega
    · omega
theorem above_le (n : Nat) : SetTable.sizeAbove n ≤ max 8 (2 * n) := above_go 64 8 n
/-- an empty table laid anew -/
theorem relaid_nil (t : SetTable) (wanted : Nat) : ∃ t', t.relaid #[] wanted = some (t', #[]) ∧ t'.place = #[] ∧ t'.led = t.led ∧ t'.fits 0 = true := by
  have hl : ((List.range (SetTable.sizeAbove wanted - 1 + 1)).filterMap fun j => ((Array.replicate (SetTable.sizeAbove wanted - 1 + 1) (none : Option Nat)).getD j none).map (j, ·)) = [] := by
    rw [List.filterMap_eq_nil_iff]
    intro j _
    have : (Array.replicate (SetTable.sizeAbove wanted - 1 + 1) (none : Option Nat)).getD j none = none := by
      unfold Array.getD
      split
      · simp
      · rfl
    rw [this]
    rfl
  have e : t.relaid #[] wanted = some (⟨SetTable.sizeAbove wanted - 1, #[], #[], t.finger, t.led, t.movedTo (SetTable.sizeAbove wanted - 1), t.plain⟩, #[]) := by
    show ((some (Array.replicate (SetTable.sizeAbove wanted - 1 + 1) (none : Option Nat))).bind fun owner => some (({ mask := SetTable.sizeAbove wanted - 1, place := (((List.range (SetTable.sizeAbove wanted - 1 + 1)).filterMap fun j => (owner.getD j none).map (j, ·)).map (·.1)).toArray, dummies := #[], finger := t.finger, led := t.led, moves := t.movedTo (SetTable.sizeAbove wanted - 1), plain := t.plain } : SetTable), (((List.range (SetTable.sizeAbove wanted - 1 + 1)).filterMap fun j => (owner.getD j none).map (j, ·)).map (·.2)).toArray)) = _
    rw [Option.bind_some, hl]
    rfl
  exact ⟨_, e, rfl, rfl, rfl⟩
theorem setX_room {D : Addr} {led : Bool} {n : Nat} {Q : Unit → Shared → Prop} (hS : s.heap.get? D = some { cls := .type "set", dict := none, data := .set #[] 0 (.fresh 0 0 led) }) (hl : w.params.followText "set-order" = true ∨ led = true) (hn : n ≤ 4000)
    (hQ : ∀ h', Heap.SameBut D s.heap h' → SetX P w h' D (fun _ => false) 0 → Q () { s with heap := h' }) : wpAny (model P w) A (setRoomFor D n) Q E s := by
  have base : SetC P w #[] (.fresh 0 0 led) (fun _ => false) 0 := ⟨fun e he => by simp at he, by simp, fun k => by simp, by decide, by rfl, rfl, List.Pairwise.nil, hl⟩
  unfold setRoomFor
  refine wpAny_bind (wpAny_setState_of hS rfl (by rfl) ?_)
  dsimp only
  cases hr : (SetTable.fresh 0 0 led).roomFor n with
  | none => exact wpAny_pure (hQ s.heap (Heap.SameBut.refl D s.heap) ⟨_, #[], 0, _, hS, ⟨rfl, rfl, rfl⟩, rfl, base⟩)
  | some wanted =>
    have hw : wanted = n * 2 := by
      unfold SetTable.roomFor at hr
      split at hr
      · have := Option.some.inj hr
        simpa [SetTable.fresh] using this.symm
      · cases hr
    subst hw
    show wpAny _ _ (setRelay D (n * 2)) _ _ _
    rw [setRelay_eq]
    refine wpAny_bind (wpAny_setState_of hS rfl (by rfl) ?_)
    dsimp only
    have hz : ¬ SetTable.sizeAbove (n * 2) > sizeLine := by
      have := above_le (n * 2)
      rw [sizeLine_eq]
      omega
    rw [if_neg hz]
    obtain ⟨t', e1, e2, e3, e4⟩ := relaid_nil (SetTable.fresh 0 0 led) (n * 2)
    have em : (#[] : Array (Int × Value)).map (·.1) = #[] := by simp
    rw [em, e1]
    refine wpAny_bind ?_
    show wpAny _ _ (if ((#[] : Array Nat).filterMap fun j => (#[] : Array (Int × Value))[j]?).size != (#[] : Array (Int × Value)).size then _ else pure (((#[] : Array Nat).filterMap fun j => (#[] : Array (Int × Value))[j]?), t') : Sem (Array (Int × Value) × SetTable)) _ _ _
    have ef : ((#[] : Array Nat).filterMap fun j => (#[] : Array (Int × Value))[j]?) = #[] := by simp
    rw [ef]
    refine wpAny_pure ?_
    refine wpAny_storeSet_of hS rfl ?_ (by simp)
    refine hQ _ (Heap.SameBut.update s.heap D _) ⟨_, #[], _, t', store_at hS rfl, ⟨rfl, rfl, rfl⟩, rfl, ⟨fun e he => by simp at he, by simp, fun k => by simp, by decide, e4, rfl, ?_, ?_⟩⟩
    · rw [e2]
      exact List.Pairwise.nil
    · rw [e3]
      exact hl
theorem pairs_at {kk : List (Key × Value)} : ∀ {es : List DictEntry}, Pairs (mixKind P w) es kk → ∀ (i : Nat) (e : DictEntry), es[i]? = some e → ∃ k : Key, (kk.map (·.1))[i]? = some k ∧ (mixKind P w).is k e.key = true
  | _, .nil, i, e, h => by simp at h
  | _, .cons h1 h2 h3, 0, e, h => by
    simp at h
    subst h
    exact ⟨_, rfl, h1⟩
  | _, .cons h1 h2 h3, i + 1, e, h => by
    obtain ⟨k, e1, e2⟩ := pairs_at h3 i e (by simpa using h)
    exact ⟨k, by simpa using e1, e2⟩
theorem pairs_len {kk : List (Key × Value)} : ∀ {es : List DictEntry}, Pairs (mixKind P w) es kk → es.length = kk.length
  | _, .nil => rfl
  | _, .cons _ _ h3 => by simp [pairs_len h3]
theorem fills_dict {vs : List (Key × Value)} (lo : (l == sysModules) = false) (hd : s.heap.DictOf (mixKind P w) l vs) (hk : vs.map (·.1) = ks) (hb : ks.length ≤ 4000) : Fills P w s (.ref l) ks := by
  intro A id E Q hh hQ
  obtain ⟨o, es, ep, ho, hx, hdat, hkeys, hpairs, nd⟩ := hd
  have hlt : l < s.heap.objs.size := Heap.lt_size ho
  have ho1 : (s.heap.push (newSetO w)).get? l = some o := Heap.get?_push_of_some _ ho
  have hT : Shared.TypeIs { s with heap := s.heap.push (newSetO w) } (.ref l) "dict" := ⟨o, ho1, hx.1⟩
  have hlen : es.size = ks.length := by
    rw [← hk, List.length_map, ← pairs_len hpairs, Array.length_toList]
  unfold Builtin.Frozenset.updateFrom Builtin.Frozenset.isAnySet
  refine wpAny_bind (wpAny_bind (wpAny_isInstance hT PySem.F.sub_dict_set (wpAny_isInstance hT PySem.F.sub_dict_frozenset ?_)))
  refine wpAny_bind (wpAny_typeOf hT ?_)
  have e1 : (Value.type "dict" == Value.type "dict") = true := by decide
  rw [e1]
  refine wpAny_bind (wpAny_rule ?_)
  show wpAny _ _ (pure l >>= fun d => _) _ _ _
  refine wpAny_bind (wpAny_pure ?_)
  dsimp only
  rw [lo]
  refine wpAny_bind (wpAny_dictEpoch ho1 hdat ?_)
  refine wpAny_bind (wpAny_dictEntries ho1 hdat ?_)
  have hS : (s.heap.push (newSetO w)).get? s.heap.objs.size = some (newSetO w) := Heap.get?_push_size _ rfl
  have hled : w.params.followText "set-order" = true ∨ (!w.params.followText "set-order") = true := by
    cases w.params.followText "set-order"
    · exact .inr rfl
    · exact .inl rfl
  refine wpAny_bind (setX_room (s := { s with heap := s.heap.push (newSetO w) }) hS hled (by omega) fun h1 sb1 hS1 => ?_)
  have ho2 : h1.get? l = some o := by
    rw [sb1.2 l (Nat.ne_of_lt hlt)]
    exact ho1
  refine wpAny_bind (wpAny_dictEntries ho2 hdat ?_)
  refine wpAny_bind ?_
  refine _root_.TI.forIn_rng _ (fun rest b s' => ∃ i h' c, rest = List.range' i (es.size - i) ∧ i ≤ es.size ∧ s' = { s with heap := h' } ∧ SetX P w h' s.heap.objs.size (hasK (ks.take i)) c ∧ c ≤ i ∧ Heap.SameBut s.heap.objs.size (s.heap.push (newSetO w)) h') _ (fun x rest b s' hI => ?_) (fun b s' hI => ?_) _ ⟨0, h1, 0, by simp, Nat.zero_le _, rfl, hS1, Nat.le_refl 0, sb1⟩
  · obtain ⟨i, h', c, er, hi, rfl, hS', hc, sb⟩ := hI
    have hlt2 : i < es.size := by
      rcases Nat.lt_or_ge i es.size with z | z
      · exact z
      · rw [show es.size - i = 0 by omega] at er
        cases er
    rw [show es.size - i = (es.size - (i + 1)) + 1 by omega, List.range'_succ] at er
    cases er
    have ho3 : h'.get? l = some o := by
      rw [sb.2 l (Nat.ne_of_lt hlt)]
      exact ho1
    refine wpAny_bind (wpAny_dictEntries ho3 hdat ?_)
    have ee : es[x]? = some es[x] := Array.getElem?_eq_getElem hlt2
    rw [ee]
    dsimp only
    obtain ⟨k, ek, eis⟩ := pairs_at hpairs x es[x] (by rw [Array.getElem?_toList]; exact ee)
    rw [hk] at ek
    obtain ⟨k2, q1, q2⟩ := hkeys es[x] (Array.getElem_mem hlt2)
    have ekk : k2 = k := (mixKind P w).inj _ _ _ q1 eis
    subst ekk
    rw [q2]
    refine wpAny_bind (wpAny_holding (setX_add (s := { s with heap := h' }) eis hS' (by have : scanBound = scanBound := rfl; unfold scanBound; omega) fun h2 sb2 hS2 => ?_))
    have ho4 : h2.get? l = some o := by
      rw [sb2.2 l (Nat.ne_of_lt hlt)]
      exact ho3
    refine wpAny_bind (wpAny_dictEpoch ho4 hdat ?_)
    have ne : (ep != ep) = false := by simp
    rw [ne]
    refine wpAny_pure ⟨x + 1, h2, _, rfl, hlt2, rfl, SetX.congr hS2 fun j => ?_, ?_, sb.trans sb2⟩
    · rw [List.take_add_one, ek]
      unfold hasK
      simp [List.any_append, eq_comm]
    · split <;> omega
  · obtain ⟨i, h', c, er, hi, rfl, hS', hc, sb⟩ := hI
    have hie : i = es.size := by
      rcases Nat.lt_or_ge i es.size with z | z
      · rw [show es.size - i = (es.size - (i + 1)) + 1 by omega, List.range'_succ] at er
        cases er
      · omega
    subst hie
    rw [List.take_of_length_le (by omega)] at hS'
    refine wpAny_pure (hQ h' s.toks c (by omega) hS' fun b o e => ?_)
    rw [sb.2 b (Nat.ne_of_lt (Heap.lt_size e))]
    exact Heap.get?_push_of_some _ e
end
end Sm
/-! Sm17: sorted(set(x)) of texts. -/
namespace Sm
open PySem PySem.Spec PyProof.Rows L2

def leS (a b : Str) : Bool := !decide (b.cps.toList < a.cps.toList)
theorem leS_iff {a b : Str} : leS a b = true ↔ a.cps.toList ≤ b.cps.toList := by
  unfold leS
  simp
theorem leS_trans {a b c : Str} (h : leS a b = true) (h2 : leS b c = true) : leS a c = true := leS_iff.mpr (List.le_trans (leS_iff.mp h) (leS_iff.mp h2))
theorem leS_total (a b : Str) : (leS a b || leS b a) = true := by
  rw [Bool.or_eq_true, leS_iff, leS_iff]
  exact List.le_total _ _
theorem leS_anti {a b : Str} (h : leS a b = true) (h2 : leS b a = true) : a = b := PySem.W.str_of_cps (List.le_antisymm (leS_iff.mp h) (leS_iff.mp h2))
theorem leS_refl (a : Str) : leS a a = true := leS_iff.mpr (List.le_refl _)
def sortS (l : List Str) : List Str := isortL leS l
theorem sortS_ms (l : List Str) : sortS l = l.mergeSort leS := isortL_is (le := leS) (fun _ _ _ h h2 => leS_trans h h2) leS_total l
theorem sortS_perm (l : List Str) : (sortS l).Perm l := by
  rw [sortS_ms]
  exact List.mergeSort_perm l leS
theorem sortS_sorted (l : List Str) : (sortS l).Pairwise fun a b => leS a b = true := by
  rw [sortS_ms]
  exact List.pairwise_mergeSort (le := leS) (fun _ _ _ h h2 => leS_trans h h2) leS_total l
theorem sorted_eq : ∀ {l m : List Str}, l.Pairwise (fun a b => leS a b = true) → m.Pairwise (fun a b => leS a b = true) → l.Perm m → l = m
  | [], m, _, _, p => by
    rw [List.nil_perm.mp p]
  | a :: l, [], _, _, p => absurd p.length_eq (by simp)
  | a :: l, b :: m, h1, h2, p => by
    obtain ⟨a1, a2⟩ := List.pairwise_cons.mp h1
    obtain ⟨b1, b2⟩ := List.pairwise_cons.mp h2
    have e : a = b := by
      have hb : b ∈ a :: l := p.mem_iff.mpr List.mem_cons_self
      have ha : a ∈ b :: m := p.mem_iff.mp List.mem_cons_self
      rcases List.mem_cons.mp hb with z | z
      · exact z.symm
      · rcases List.mem_cons.mp ha with z2 | z2
        · exact z2
        · exact leS_anti (a1 b z) (b1 a z2)
    subst e
    rw [sorted_eq a2 b2 (List.Perm.cons_inv p)]
theorem sortS_congr {l m : List Str} (p : l.Perm m) : sortS l = sortS m := sorted_eq (sortS_sorted l) (sortS_sorted m) ((sortS_perm l).trans (p.trans (sortS_perm m).symm))
/-- each once -/
def ddS : List Str → List Str
  | [] => []
  | a :: l => if (ddS l).contains a = true then ddS l else a :: ddS l
theorem ddS_mem {x : Str} : ∀ {l : List Str}, x ∈ ddS l ↔ x ∈ l
  | [] => Iff.rfl
  | a :: l => by
    unfold ddS
    split
    · rename_i h
      have h : a ∈ ddS l := by simpa using h
      rw [List.mem_cons, ddS_mem (l := l)]
      exact ⟨.inr, fun z => z.elim (fun e => by rw [e]; exact ddS_mem.mp h) id⟩
    · rw [List.mem_cons, List.mem_cons, ddS_mem (l := l)]
theorem ddS_len : ∀ l : List Str, (ddS l).length ≤ l.length
  | [] => Nat.le_refl _
  | a :: l => by
    have := ddS_len l
    unfold ddS
    split
    · rw [List.length_cons]
      omega
    · rw [List.length_cons, List.length_cons]
      omega
theorem ddS_nodup : ∀ l : List Str, (ddS l).Nodup
  | [] => List.nodup_nil
  | a :: l => by
    unfold ddS
    split
    · exact ddS_nodup l
    · rename_i h
      exact List.nodup_cons.mpr ⟨by simpa using h, ddS_nodup l⟩
theorem leT_str (a b : Str) : leT (.str a) (.str b) = leS a b := by
  show (!PySem.W.dataLt (.str b) (.str a)) = _
  rw [PySem.W.dataLt_str]
  rfl
theorem sort_strs (l : List Str) : isortL leT (l.map Dt.str) = (sortS l).map Dt.str := by
  rw [isort_leT, sortS_ms]
  exact (List.map_mergeSort (f := Dt.str) (r := leS) (s := leT) fun a _ b _ => (leT_str a b).symm).symm
theorem sortOk_strs {l : List Str} (h : l.length ≤ 16777216) : SortOk (l.map Dt.str) := by
  refine ⟨fun t ht => ?_, fun d hd d' hd' => ?_, .inl (.inr fun d hd => ?_), fun t ht => ?_, by rw [List.length_map]; exact h⟩
  · obtain ⟨a, _, rfl⟩ := List.mem_map.mp ht
    exact ⟨_, rfl⟩
  · obtain ⟨t, ht, rfl⟩ := List.mem_map.mp hd
    obtain ⟨t', ht', rfl⟩ := List.mem_map.mp hd'
    obtain ⟨a, _, rfl⟩ := List.mem_map.mp ht
    obtain ⟨b, _, rfl⟩ := List.mem_map.mp ht'
    show PySem.W.alike (.str a) (.str b) = true
    simp only [PySem.W.alike]
  · obtain ⟨t, ht, rfl⟩ := List.mem_map.mp hd
    obtain ⟨a, _, rfl⟩ := List.mem_map.mp ht
    exact And.intro (fun z => PyData.noConfusion (show PyData.str a = PyData.none from z)) fun xs z => PyData.noConfusion (show PyData.str a = PyData.tuple xs from z)
  · obtain ⟨a, _, rfl⟩ := List.mem_map.mp ht
    show PyData.depth (.str a) ≤ 60
    simp only [PyData.depth]
    omega
def strsOf : List Dt → Option (List Str)
  | [] => some []
  | .str a :: r => (strsOf r).map (a :: ·)
  | _ => none
theorem strsOf_eq : ∀ {ts : List Dt} {l : List Str}, strsOf ts = some l → ts = l.map .str
  | [], l, e => by
    cases e
    rfl
  | t :: ts, l, e => by
    cases t with
    | str a =>
      unfold strsOf at e
      cases e1 : strsOf ts with
      | none => rw [e1] at e; cases e
      | some m =>
        rw [e1] at e
        cases e
        rw [strsOf_eq e1]
        rfl
    | _ => cases e
theorem strsOf_map : ∀ l : List Str, strsOf (l.map .str) = some l
  | [] => rfl
  | a :: l => by
    show (strsOf (l.map .str)).map (a :: ·) = _
    rw [strsOf_map l]
    rfl
/-- sorted(set(x)): x a list, a tuple, a dict of texts -/
def pSortSet : P1 := fun d S => match (itemsOf S d).bind strsOf with
  | some l => if l.length ≤ 4000 then some (.d (.lst ((sortS (ddS l)).map .str)), S) else none
  | none => none
def strOfV (v : Value) : Str := match v with
  | .str z _ => z
  | _ => Str.empty
theorem kT_inj : ∀ {l m : List Key}, l.map kT = m.map kT → l = m
  | [], [], _ => rfl
  | [], _ :: _, e => by cases e
  | _ :: _, [], e => by cases e
  | a :: l, b :: m, e => by
    rw [List.map_cons, List.map_cons] at e
    injection e with e1 e2
    rw [kT_inj e2]
    cases a with
    | inl i => cases b with
      | inl j => cases e1; rfl
      | inr y => cases e1
    | inr x => cases b with
      | inl j => cases e1
      | inr y => cases e1; rfl
theorem strs_rv {G : Gs} {A : Al} {H : Hp} : ∀ {l : List Str} {vs : List V}, RVs G A H (l.map .str) vs → vs = l.map V.str
  | [], vs, r => r
  | a :: l, vs, r => by
    obtain ⟨v, w, rfl, r1, r2⟩ := r
    obtain rfl : v = .str a := r1
    rw [strs_rv r2]
    rfl
theorem rvs_strs {G : Gs} {A : Al} {H : Hp} : ∀ l : List Str, RVs G A H (l.map .str) (l.map V.str)
  | [] => (rfl : ([] : List V) = [])
  | a :: l => ⟨_, _, rfl, rfl, rvs_strs l⟩
section
variable {X : Cx} {G : Gs} {W : WX} {k : Nat}
theorem hasK_inr {l : List Str} {x : Str} : hasK (l.map Sum.inr) (Sum.inr x : Key) = true ↔ x ∈ l := by
  unfold hasK
  simp [List.any_eq_true]
theorem hasK_inl {l : List Str} {i : Int} : ¬ hasK (l.map Sum.inr) (Sum.inl i : Key) = true := by
  unfold hasK
  simp [List.any_eq_true]
/-- the members gather in some order -/
theorem col_set {pins : List (Addr × Obj)} {σ : L2.St} {s : Shared} {H : Hp} {A : Al} {a : Addr} {l : List Str} {c : Nat} (I : L2.Inv X pins σ H s) (hh : X.A.handled = none) (hS : SetX X.prog X.w s.heap a (hasK (l.map Sum.inr)) c) : ColR X G A H pins σ s (.ref a) fun us => ∃ m : List Str, us = m.map .str ∧ m.Perm (ddS l) := by
  intro Q' hq
  obtain ⟨o, es, ep, t, ho, hx, hd, cc⟩ := hS
  refine collect_set hh ⟨o, ho, hx.1, hd⟩ cc.fit cc.lt cc.ris cc.led fun s' out k hz hg ho' hp => ?_
  have J : L2.Inv X pins σ H { s with heap := s'.heap, gens := s'.gens, drawn := s'.drawn, toks := s'.toks } := I.call (ch := []) (Un.kept k) (I.hok.kept k) (by rw [hg]; exact I.bare) (fun _ z => nomatch z)
  have e : s' = { s with heap := s'.heap, gens := s'.gens, drawn := s'.drawn, toks := s'.toks } := by
    cases s'
    cases s
    cases ho'
    rfl
  have I2 : L2.Inv X pins σ H s' := by
    rw [e]
    exact J
  have hall : ∀ v ∈ out, ∃ (z : Str) (tk : Tok), v = .str z tk ∧ z ∈ l := fun v hv => by
    obtain ⟨e, he, rfl⟩ := List.mem_map.mp (hp.mem_iff.mp hv)
    have g := (cc.good e he).1
    have hm : hasK (l.map Sum.inr) (keyX e) = true := (cc.mem _).2 (List.mem_map.mpr ⟨e, he, rfl⟩)
    rcases keyIs_shape (k := keyX e) (v := e.2) g with ⟨i, t, e1, e2⟩ | ⟨z, t, e1, e2⟩
    · rw [e1] at hm
      exact absurd hm hasK_inl
    · rw [e1] at hm
      exact ⟨z, t, e2, hasK_inr.mp hm⟩
  have hkey : ∀ e ∈ es.toList, keyX e = Sum.inr (strOfV e.2) := fun e he => by
    have g := (cc.good e he).1
    have hm : hasK (l.map Sum.inr) (keyX e) = true := (cc.mem _).2 (List.mem_map.mpr ⟨e, he, rfl⟩)
    rcases keyIs_shape (k := keyX e) (v := e.2) g with ⟨i, t, e1, e2⟩ | ⟨z, t, e1, e2⟩
    · rw [e1] at hm
      exact absurd hm hasK_inl
    · rw [e1, e2]
      rfl
  have hmap : es.toList.map keyX = (es.toList.map fun e => strOfV e.2).map Sum.inr := by
    rw [List.map_map]
    exact List.map_congr_left hkey
  have nd : (es.toList.map fun e => strOfV e.2).Nodup := by
    have := cc.nd
    rw [hmap] at this
    exact (List.pairwise_map.mp this).imp fun h e => h (by rw [e])
  have pm : (out.map strOfV).Perm (es.toList.map fun e => strOfV e.2) := by
    have := hp.map strOfV
    rw [List.map_map] at this
    exact this
  have pd : (out.map strOfV).Perm (ddS l) := by
    refine pm.trans ((List.perm_ext_iff_of_nodup nd (ddS_nodup l)).mpr fun x => ?_)
    rw [ddS_mem, ← hasK_inr (l := l), cc.mem, hmap]
    exact ⟨fun h => List.mem_map.mpr ⟨x, h, rfl⟩, fun h => by
      obtain ⟨y, hy, e⟩ := List.mem_map.mp h
      cases e
      exact hy⟩
  have hv : ∀ (us : List Value), (∀ v ∈ us, ∃ (z : Str) (tk : Tok), v = .str z tk ∧ z ∈ l) → Vals ((us.map fun v => ((Dt.str (strOfV v), V.str (strOfV v)) : Dt × V)).map (·.2)) us := fun us => by
    induction us with
    | nil => exact fun _ => .nil
    | cons u us ih =>
      intro h
      obtain ⟨z, tk, e, _⟩ := h u List.mem_cons_self
      subst e
      exact .cons ⟨tk, rfl⟩ (ih fun v hv => h v (List.mem_cons_of_mem _ hv))
  refine hq s' out (out.map fun v => (Dt.str (strOfV v), V.str (strOfV v))) I2 (hv out hall) (fun b hb => ?_) ⟨out.map strOfV, ?_, pd⟩
  · obtain ⟨v, _, rfl⟩ := List.mem_map.mp hb
    rfl
  · rw [List.map_map, List.map_map]
    rfl
theorem keys_strs {l : List Str} : (l.map Sum.inr : List Key).map kV = l.map V.str := by
  rw [List.map_map]
  rfl
theorem fills_of {pins : List (Addr × Obj)} {σ : L2.St} {s : Shared} {H : Hp} {A : Al} {S : Sto} {d : Dv} {a : Addr} {ts : List Dt} {l : List Str} (I : L2.Inv X pins σ H s) (hK : G.K = X.K) (st : StR G A S H) (r : RD G A H d (.ref a)) (h : itemsOf S d = some ts) (hl : strsOf ts = some l) (hz : l.length ≤ 4000) :
    Fills X.prog X.w s (.ref a) (l.map Sum.inr) := by
  have et := strsOf_eq hl
  rcases items_rd st r h with ⟨b, kvs, e, hd, e2⟩ | ⟨b, vs, e, hs, hv⟩
  · cases e
    obtain ⟨z, lo, vs, rk, dd⟩ := dk_rd I.hok hd
    refine fills_dict lo dd ?_ (by rw [List.length_map]; exact hz)
    rw [← KV.keys rk]
    have : (kvs.map (·.1)).map kT = (l.map Sum.inr : List Key).map kT := by
      rw [← e2, et, List.map_map]
      rfl
    exact kT_inj this
  · cases e
    have ev : vs = (l.map Sum.inr : List Key).map kV := by
      rw [keys_strs]
      subst et
      exact strs_rv hv
    rw [hK] at hs
    have hb : (l.map Sum.inr : List Key).length + 1 < scanBound := by
      rw [List.length_map]
      show l.length + 1 < 4096
      omega
    rcases hs with hs | hs
    · obtain ⟨its, rr, pl, _⟩ := I.list hs
      rw [ev] at rr
      exact fills_list pl.isList rr hb
    · obtain ⟨its, rr, pl, _⟩ := I.tuple hs
      rw [ev] at rr
      obtain ⟨o, ho, hc, n, hd⟩ := pl
      exact fills_tuple ⟨o, ho, hc, n, hd⟩ rr hb
/-- the set of keys at a -/
def SetXO (P : Program) (w : World) (a : Addr) (S : Key → Bool) (n : Nat) : HO := .ext fun h => SetX P w h a S n
theorem setXO_new {P : Program} {w : World} {H : Hp} {h : Heap} {a : Addr} {S : Key → Bool} {n : Nat} (R : SetX P w h a S n) : ObjOk P w H h a (SetXO P w a S n) := by
  have ⟨o, _, _, _, ho, _⟩ := R
  exact ⟨R, ⟨o, ho⟩, fun h1 h2 p k => SetX.at p k⟩
theorem cr_setX (hc : X.calm = true) : CallR X (.type "set") (fun xs H Q => ∃ (a : Addr) (l : List Str), xs = [.ref a] ∧ (∀ pins σ s, L2.Inv X pins σ H s → Fills X.prog X.w s (.ref a) (l.map Sum.inr)) ∧ ∀ p c, H p = none → Q (.ref p) (upd H p (SetXO X.prog X.w p (hasK (l.map Sum.inr)) c))) := by
  intro pins s σ H xs us Q I r h
  obtain ⟨a, l, rfl, hf, q⟩ := h
  obtain rfl := Vals.ref1 r
  refine call_setX (I.ok.hd hc) (hf pins σ s I) fun h' tk c _ hS hk => ?_
  exact ⟨.ref s.heap.objs.size, upd H s.heap.objs.size (SetXO X.prog X.w s.heap.objs.size (hasK (l.map Sum.inr)) c), I.laid hk (Nat.le_refl _) (setXO_new hS), rfl, q _ c (I.hok.fresh (Nat.le_refl _))⟩
theorem cr_sortX (hc : X.calm = true) (hu : X.A.units + 64 < cLine) : CallR X (.builtin "sorted") (fun xs H Q => ∃ (a : Addr) (l : List Str) (c : Nat), xs = [.ref a] ∧ l.length ≤ 4000 ∧ H a = some (SetXO X.prog X.w a (hasK (l.map Sum.inr)) c) ∧ ∀ p, H p = none → Q (.ref p) (upd H p (.lst ((sortS (ddS l)).map V.str)))) := by
  intro pins s σ H xs us Q I r h
  obtain ⟨a, l, c, rfl, hz, hH, q⟩ := h
  obtain rfl := Vals.ref1 r
  have hS : SetX X.prog X.w s.heap a (hasK (l.map Sum.inr)) c := (show ObjOk X.prog X.w H s.heap a (SetXO X.prog X.w a (hasK (l.map Sum.inr)) c) from I.hok a _ hH).1
  refine sorted_col (G := ⟨X.K, fun _ => a, fun _ => .none, fun _ => none, true⟩) (A := ⟨[], []⟩) rfl hu (col_set I (I.ok.hd hc) hS) (fun ts hC => ?_) fun ts vs hC hv p hp => ?_
  · obtain ⟨m, rfl, hm⟩ := hC
    refine sortOk_strs ?_
    have h1 := hm.length_eq
    have h2 : (ddS l).length ≤ l.length := ddS_len l
    omega
  · obtain ⟨m, rfl, hm⟩ := hC
    rw [← isort_leT, sort_strs, sortS_congr hm] at hv
    rw [strs_rv hv]
    exact q p hp
theorem e_sortSet {a : Expr} {p p2 q pos : Pos} {m : M Dv} (hc : X.calm = true) (hu : X.A.units + 64 < cLine) (hK : G.K = X.K) (hg : Gl X "sorted") (hm : X.mg "sorted" = none) (hg2 : Gl X "set") (hm2 : X.mg "set" = none) (ha : PE X a (tM G W m)) (hs : starEach [a] X.env = (false, eval a X.env) :: starEach [] X.env)
    (hs2 : starEach [.Call (.Name "set" p2) [a] [] q] X.env = (false, eval (.Call (.Name "set" p2) [a] [] q) X.env) :: starEach [] X.env) (hpl : (backTo q (starEach [] X.env)).any (·.1) = false) (hpl2 : (backTo pos (starEach [] X.env)).any (·.1) = false) :
    PE X (.Call (.Name "sorted" p) [.Call (.Name "set" p2) [a] [] q] [] pos) (tM G W (m1 pSortSet m)) := by
  have h1 := pe_callTy (p := p2) (pos := q) (cr_setX (X := X) hc) hg2 hm2 PyProof.Rows.boot_set (pa_cons ha pa_nil hs) (by decide) (by decide) hs hpl
  refine (pe_callB (p := p) (pos := pos) (cr_sortX hc hu) hg hm PyProof.Rows.boot_sorted (pa_cons h1 pa_nil hs2) (by decide) (by decide) hs2 hpl2).sm fun σ H Q h => ?_
  obtain ⟨A, ρ, S, he, st, p0⟩ := h
  refine ⟨A, ρ, S, he, st, Po.step p0 fun d S1 A1 H1 x1 s1 p1 v rv => ?_⟩
  unfold pSortSet at p1
  split at p1
  · rename_i l el
    obtain ⟨ts, e1, e2⟩ := Option.bind_eq_some_iff.mp el
    split at p1
    · rename_i hz
      have href : ∃ b, v = .ref b := by
        rcases items_rd s1 rv e1 with ⟨b, _, e, _⟩ | ⟨b, _, e, _⟩
        · exact ⟨b, e⟩
        · exact ⟨b, e⟩
      obtain ⟨b, rfl⟩ := href
      refine ⟨b, l, rfl, fun pins σ' s' I => fills_of I hK s1 rv e1 e2 hz, fun D c hD => ⟨D, l, c, rfl, hz, upd_same, fun r hr => ?_⟩⟩
      have x2 : Ext A1 H1 A1 (upd H1 D (SetXO X.prog X.w D (hasK (l.map Sum.inr)) c)) := Ext.new hD
      have s2 := s1.new (o := SetXO X.prog X.w D (hasK (l.map Sum.inr)) c) hD
      exact Po.at p1 (x2.trans (Ext.new hr)) (s2.new hr) _ (RV.lst_new s2 hr (rvs_strs (sortS (ddS l))))
    · exact p1.elim
  · exact p1.elim
end
end Sm
/-! Sm18: a, b = ..; {}; truth; the rules with their side conditions filled in. -/
namespace Sm
open PySem PySem.Spec PyProof.Rows L2

/-! ### a, b = e1, e2 -/
def setAll : List Nat → List Dv → Env → Env
  | i :: is, d :: ds, ρ => setAll is ds (ρ.set i (some d))
  | _, _, ρ => ρ
def setAllV : List Nat → List V → L2.St → L2.St
  | i :: is, v :: vs, σ => setAllV is vs (σ.set i (some v))
  | _, _, σ => σ
theorem setAll_env {G : Gs} {A : Al} {H : Hp} (is : List Nat) : ∀ {ds : List Dv} {vs : List V} {ρ : Env} {σ : L2.St}, EnvR G A H ρ σ → RDs G A H ds vs → EnvR G A H (setAll is ds ρ) (setAllV is vs σ) := by
  induction is with
  | nil =>
    intro ds vs ρ σ h r
    cases r <;> exact h
  | cons i is ih =>
    intro ds vs ρ σ h r
    cases r with
    | nil => exact h
    | cons r t => exact ih (h.set r) t
def sPars (is : List Nat) (ma : M (List Dv)) : SM := fun ρ S => (ma ρ S).to ρ fun ds S1 => if ds.length = is.length then .nx (setAll is ds ρ) S1 else .bad
/-- plain names -/
def NmG (u : TGs) (is : List Nat) : Prop := ∀ (vs : List V) (σ : L2.St) (H : Hp) (Q : L2.St → Hp → Prop), vs.length = is.length → Q (setAllV is vs σ) H → u vs σ H Q
theorem nm_nil : NmG gNil [] := fun vs σ H Q hl q => by
  cases vs with
  | nil => exact ⟨rfl, q⟩
  | cons => cases hl
theorem nm_cons {i : Nat} {u : TGs} {is : List Nat} (h : NmG u is) : NmG (gCons (gName i) u) (i :: is) := fun vs σ H Q hl q => by
  cases vs with
  | nil => cases hl
  | cons v vs => exact ⟨v, vs, rfl, h vs _ H Q (by simpa using hl) q⟩
section
variable {X : Cx} {G : Gs} {W : WX} {k : Nat}
theorem pars_po {A : Al} {H H' : Hp} {is : List Nat} {ds : List Dv} {vs : List V} {ρ : Env} {σ : L2.St} {S : Sto} {D : Ends} (e : EnvR G A H ρ σ) (s : StR G A S H) (r : RDs G A H ds vs) (p : PoS G W A H (if ds.length = is.length then Sz.nx (setAll is ds ρ) S else .bad) D) : vs.length = is.length ∧ D.nx (setAllV is vs σ) H := by
  split at p
  · rename_i hl
    exact ⟨by rw [← Paired.length r]; exact hl, PoS.nx_now p s (setAll_env is e r)⟩
  · exact p.elim
theorem s_par2 {i j : Nat} {x y : Str} {a b : Expr} {ma : M (List Dv)} {px py pt pos pt2 : Pos} {kt k2 : Nat} (B : Bx X G W k) (ha : PA X [a, b] (tMA G W ma)) (hi : X.N[i]? = some x := by rfl) (hj : X.N[j]? = some y := by rfl) (hij : i ≠ j := by decide) (hx : X.env.scope.names.lookup x = some .local := by rfl) (hy : X.env.scope.names.lookup y = some .local := by rfl)
    (hw : swappedStores [.Tuple [.Name x px, .Name y py] kt pt] (.Tuple [a, b] k2 pt2) X.env = pure (some [x, y]) := by rfl) (hs : swapsWithSole [.Tuple [.Name x px, .Name y py] kt pt] (.Tuple [a, b] k2 pt2) pos.line X.env = pure false := by rfl) :
    PS X (.Assign [.Tuple [.Name x px, .Name y py] kt pt] (.Tuple [a, b] k2 pt2) pos) (tMS G W (sPars [i, j] ma)) := by
  refine (ps_par B.calm B.nd hi hj hij hx hy ha hw hs).sm fun D σ H h => ?_
  obtain ⟨A, ρ, S, he, st, p⟩ := h
  refine ⟨A, ρ, S, he, st, PoS.step he p fun ds S1 A1 H1 x1 s1 e1 p1 vs rvs => ?_⟩
  obtain ⟨hl, q⟩ := pars_po (is := [i, j]) (H' := H1) e1 s1 rvs p1
  match vs, hl, q with
  | [v, w], _, q => exact ⟨v, w, rfl, q⟩
/-- by a tuple that is made and taken apart -/
theorem s_parT {tgs es : List Expr} {u : TGs} {n : Nat} {is : List Nat} {ma : M (List Dv)} {pt pt2 pos : Pos} {kt k2 : Nat} (B : Bx X G W k) (ha : PA X es (tMA G W ma)) (hg : PG X (.Tuple tgs kt pt) (gTup X.K n u)) (hu : NmG u is) (hn : n = is.length := by rfl) (hz : is.length ≤ 100 := by decide)
    (hs : swapsWithSole [.Tuple tgs kt pt] (.Tuple es k2 pt2) pos.line X.env = pure false := by rfl) (hw : swappedStores [.Tuple tgs kt pt] (.Tuple es k2 pt2) X.env = pure none := by rfl) (h1 : (assignEach [.Tuple tgs kt pt] X.env).map (·.2) = [assign (.Tuple tgs kt pt) X.env] := by rfl) :
    PS X (.Assign [.Tuple tgs kt pt] (.Tuple es k2 pt2) pos) (tMS G W (sPars is ma)) := by
  refine (ps_asg (pe_tup ha) hg hs hw h1).sm fun D σ H h => ?_
  obtain ⟨A, ρ, S, he, st, p⟩ := h
  refine ⟨A, ρ, S, he, st, PoS.step he p fun ds S1 A1 H1 x1 s1 e1 p1 vs rvs => ?_⟩
  obtain ⟨hl, _⟩ := pars_po (is := is) (H' := H1) e1 s1 rvs p1
  refine ⟨by rw [hl]; exact line_of (by omega), fun q hq => ⟨q, vs, rfl, .inl (.inl upd_same), by rw [hl, hn], hu vs σ _ _ hl ?_⟩⟩
  have x2 : Ext A1 H1 A1 (upd H1 q (.tup vs)) := Ext.new hq
  exact (pars_po (is := is) (H' := upd H1 q (.tup vs)) (e1.kp x2.kp) (s1.new hq) (rvs.kp x2.kp) (PoS.mono x2 p1)).2
/-! ### {} -/
def mDnew : M Dv := fun _ S => .ok (.loc S.length) (S ++ [.dct [] []])
end
/-! ### truth -/
def pTru : PT1 := fun d S => match d with
  | .d .non => some false
  | .d (.bl b) => some b
  | .d (.int i) => some (i != 0)
  | .d (.str y) => if y.length ≤ 16777216 then some ((y.length : Int) != 0) else none
  | .d (.tup xs) => some (!xs.isEmpty)
  | .d (.lst xs) => some (!xs.isEmpty)
  | .d (.scr xs) => some (!xs.isEmpty)
  | .loc n => (match S[n]? with
    | some (.lst xs) => some (!xs.isEmpty)
    | some (.dct ks _) => some (!ks.isEmpty)
    | _ => none)
  | _ => none
theorem empty_len {α β : Type} {xs : List α} {ys : List β} (h : xs.length = ys.length) : xs.isEmpty = ys.isEmpty := by
  cases xs <;> cases ys <;> simp at h ⊢
theorem tru_ok' {G : Gs} : TruS G pTru := by
  intro A S H d v b r s h
  unfold pTru at h
  split at h
  · cases h
    obtain rfl : v = .non := r
    exact rfl
  · cases h
    obtain rfl : v = .bl _ := r
    exact rfl
  · cases h
    obtain rfl : v = .int _ := r
    exact rfl
  · split at h
    · rename_i hl
      cases h
      obtain rfl : v = .str _ := r
      exact ⟨line_of hl, rfl⟩
    · cases h
  · cases h
    obtain ⟨a, vs, rfl, ha, hv⟩ := r
    exact .inr (.inl ⟨vs, ha.sq, by rw [empty_len hv.length]⟩)
  · cases h
    obtain ⟨a, vs, rfl, ha, hv⟩ := r
    exact .inl ⟨vs, ha.sq, by rw [empty_len hv.length]⟩
  · cases h
    obtain ⟨a, vs, rfl, ha, hv⟩ := r
    exact .inl ⟨vs, ha.sq, by rw [empty_len hv.length]⟩
  · split at h
    · rename_i e
      cases h
      obtain ⟨a, vs, rfl, _, hl, hv⟩ := loc_lst s r e
      exact .inl ⟨vs, .inl (.inl hl), by rw [empty_len (Paired.length hv)]⟩
    · rename_i e
      cases h
      obtain ⟨a, kvs, rfl, _, hl, ek, hv⟩ := loc_dct s r e
      refine .inr (.inr ⟨kvs, hl, ?_⟩)
      rw [← ek]
      cases kvs <;> rfl
    · cases h
  · cases h

/-! ### calls of the module's defs, in one -/
structure Cal (P : Program) (w : World) (G : Gs) (mg : Str → Option Value) (base : Heap) (k : Nat) (x : Str) (n : Nat) (ks : List Str) (F : FM) : Prop where
  ex : ∃ f, mg x = some (.ref f) ∧ PySem.W.keepIn G.K (.ref f) = true ∧ CallW P w G mg base k f n ks F
theorem Cal.mono {P : Program} {w : World} {G : Gs} {mg : Str → Option Value} {base : Heap} {k j : Nat} {x : Str} {n : Nat} {ks : List Str} {F : FM} (h : Cal P w G mg base j x n ks F) (l : j ≤ k) : Cal P w G mg base k x n ks F := by
  obtain ⟨f, h1, h2, h3⟩ := h.ex
  exact ⟨f, h1, h2, h3.mono l⟩
theorem Cal.isoC {P : Program} {w : World} {G : Gs} {mg : Str → Option Value} {base : Heap} {k : Nat} {x : Str} {n : Nat} {ks : List Str} {F : FM} (h : Cal P w G mg base k x n ks F) : Cal P w G mg base k x n ks (iso F) := by
  obtain ⟨f, h1, h2, h3⟩ := h.ex
  exact ⟨f, h1, h2, h3.isoF⟩
theorem Cal.viewC {P : Program} {w : World} {G : Gs} {mg : Str → Option Value} {base : Heap} {k : Nat} {x : Str} {n : Nat} {ks : List Str} {F : FM} (h : Cal P w G mg base k x n ks F) : Cal P w G mg base k x n ks (view F) := by
  obtain ⟨f, h1, h2, h3⟩ := h.ex
  exact ⟨f, h1, h2, h3.viewF⟩
section
variable {X : Cx} {G : Gs} {W : WX} {k n : Nat} {x m : Str} {p pos pos' apos : Pos} {a b c e T : Expr} {es : List Expr} {kws : List Keyword} {ma mk : M (List Dv)} {mo m1' mb : M Dv} {F : FM} {ks : List Str} {id T' : String} {pn : PN}
theorem xv (i : Nat) (hN : X.N[i]? = some x := by rfl) (hv : Vis X.env.scope x := by first | exact Or.inl rfl | exact Or.inr (Or.inl rfl) | exact Or.inr (Or.inr rfl)) (hd : (x == ("__debug__" : Str)) = false := by decide) (hcd : (x == ("__classdict__" : Str)) = false := by decide) : PE X (.Name x pos) (tM G W (mV i)) := e_var hN hv hd hcd
theorem xa (h : PE X e (tM G W mo)) (r : PA X es (tMA G W ma)) (hs : starEach (e :: es) X.env = (false, eval e X.env) :: starEach es X.env := by rfl) : PA X (e :: es) (tMA G W (aCons mo ma)) := a_cons h r hs
theorem xcall (R : Cal X.prog X.w G X.mg X.base k x n [] F) (B : Bx X G W k) (ha : PA X (e :: es) (tMA G W ma)) (al : ALen ma n := by repeat (first | exact al_nil | refine al_cons ?_)) (hg : Gl X x := by rfl) (hdb : (x == ("__debug__" : Str)) = false := by decide)
    (he : starEach (e :: es) X.env = (false, eval e X.env) :: starEach es X.env := by rfl) (hpl : (backTo pos (starEach es X.env)).any (·.1) = false := by rfl) : PE X (.Call (.Name x p) (e :: es) [] pos) (tM G W (mF F ma)) := by
  obtain ⟨f, h1, h2, h3⟩ := R.ex
  exact e_call h3 B hg h1 (by rw [← B.hK]; exact h2) ha al hdb he hpl
theorem xcall0 (R : Cal X.prog X.w G X.mg X.base k x 0 [] F) (B : Bx X G W k) (hg : Gl X x := by rfl) (hdb : (x == ("__debug__" : Str)) = false := by decide) : PE X (.Call (.Name x p) [] [] pos) (tM G W (mF F aNil)) := by
  obtain ⟨f, h1, h2, h3⟩ := R.ex
  exact e_call0 h3 B hg h1 (by rw [← B.hK]; exact h2) hdb
theorem xcallK0 (R : Cal X.prog X.w G X.mg X.base k x 0 ks F) (B : Bx X G W k) (hkw : PK X kws (tMA G W mk)) (al2 : ALen mk ks.length := by repeat (first | exact al_nil | refine al_cons ?_)) (hg : Gl X x := by rfl)
    (hall : (backToKw pos (keywordEach kws X.env)).all (·.1.isSome) = true := by rfl) (hks : (backToKw pos (keywordEach kws X.env)).filterMap (·.1) = ks := by rfl) (hdb : (x == ("__debug__" : Str)) = false := by decide)
    (hpl : ((backTo pos (starEach [] X.env)).any (·.1) || (backToKw pos (keywordEach kws X.env)).any (·.1.isNone)) = false := by rfl) : PE X (.Call (.Name x p) [] kws pos) (tM G W (mF F mk)) := by
  obtain ⟨f, h1, h2, h3⟩ := R.ex
  exact e_callK0 h3 B hg h1 (by rw [← B.hK]; exact h2) hkw al2 hall hks hdb hpl
theorem xb (hc : CallR X (.builtin id) (qN G pn)) (hm : X.mg x = none) (hv : bootBuiltins x = some (.builtin id)) (ha : PA X (e :: es) (tMA G W ma)) (hg : Gl X x := by rfl) (hn : x ≠ "__name__" := by decide) (hdb : (x == ("__debug__" : Str)) = false := by decide)
    (he : starEach (e :: es) X.env = (false, eval e X.env) :: starEach es X.env := by rfl) (hpl : (backTo pos (starEach es X.env)).any (·.1) = false := by rfl) : PE X (.Call (.Name x p) (e :: es) [] pos) (tM G W (mN pn ma)) := e_callB hc hg hm hv ha hn hdb he hpl
theorem xt (hc : CallR X (.type T') (qN G pn)) (hm : X.mg x = none) (hv : bootBuiltins x = some (.type T')) (ha : PA X (e :: es) (tMA G W ma)) (hg : Gl X x := by rfl) (hn : x ≠ "__name__" := by decide) (hdb : (x == ("__debug__" : Str)) = false := by decide)
    (he : starEach (e :: es) X.env = (false, eval e X.env) :: starEach es X.env := by rfl) (hpl : (backTo pos (starEach es X.env)).any (·.1) = false := by rfl) : PE X (.Call (.Name x p) (e :: es) [] pos) (tM G W (mN pn ma)) := e_callT hc hg hm hv ha hn hdb he hpl
theorem xty (hm : X.mg x = none) (hv : bootBuiltins x = some (.type T')) (hg : Gl X x := by rfl) (hn : x ≠ "__name__" := by decide) (hdb : (x == ("__debug__" : Str)) = false := by decide) : PE X (.Name x pos) (tC (.ty T')) := pe_bltn hg hm hv rfl hn hdb
theorem xcmp {op : CmpOp} {pp : P2} (ho : OpR X (compareOp op) (q2 G pp)) (ha : PE X a (tM G W mo)) (hb : PE X b (tM G W mb)) (hm : behindInMarks op b = false := by first | rfl | exact nomark _ | with_unfolding_all rfl) : PE X (.Compare a [op] [b] pos) (tM G W (m2 pp mo mb)) := e_cmp ho ha hb hm
theorem xcmpT {op : CmpOp} {pp : P2} (ho : OpR X (compareOp op) (q2 G pp)) (ha : PE X a (tM G W mo)) (hb : PE X b (tM G W mb)) (hm : behindInMarks op b = false := by first | rfl | exact nomark _ | with_unfolding_all rfl) : PT X (.Compare a [op] [b] pos) (tMT G W (mTst (m2 pp mo mb))) := c_cmp ho ha hb hm
/-- any value as a test -/
theorem xtru (B : Bx X G W k) (ha : PE X a (tM G W mo)) (he : ∀ whole, isTrue a X.env whole = (do let v ← whole; standAt a.pos; holding [v] (truthy v)) := by exact fun _ => rfl) : PT X a (tMT G W (mTru pTru mo)) := c_tru tru_ok' B.hK ha he
theorem xorT (B : Bx X G W k) (ha : PE X a (tM G W mo)) (hb : PE X (.BoolOp .Or (b :: es) pos) (tM G W mb)) : PE X (.BoolOp .Or (a :: b :: es) pos) (tM G W (mOrT pTru mo mb)) := e_orT tru_ok' B.hK ha hb
theorem xix (B : Bx X G W k) (ha : PE X a (tM G W mo)) (hb : PE X b (tM G W mb)) (hs : PlainIx b := by exact fun _ _ => rfl) : PE X (.Subscript a b pos) (tM G W (m2 pIx mo mb)) := e_ix (i_ix B.room.units B.hK) ha hb hs
theorem xisa (B : Bx X G W k) (hm : X.mg "isinstance" = none) {bt : String} (he : PE X e (tM G W mo)) (hT : PE X T (tC (.ty bt))) (hb : bt ∈ tyR := by decide) (hg : Gl X "isinstance" := by rfl) (hs : starEach [e, T] X.env = (false, eval e X.env) :: starEach [T] X.env := by rfl) (hs2 : starEach [T] X.env = (false, eval T X.env) :: starEach [] X.env := by rfl)
    (hpl : (backTo pos (starEach [T] X.env)).any (·.1) = false := by rfl) : PE X (.Call (.Name "isinstance" p) [e, T] [] pos) (tM G W (m1 (pIsa [bt]) mo)) := e_isa B.hK hg hm hb he hT hs hs2 hpl
theorem xisaT (B : Bx X G W k) (hm : X.mg "isinstance" = none) (bs : List String) {kk : Nat} {tpos : Pos} (he : PE X e (tM G W mo)) (hes : PA X es (fun σ H Q => Q (bs.map V.ty) H)) (hb : ∀ b ∈ bs, b ∈ tyR := by decide) (hz : bs.length ≤ 100 := by decide) (hg : Gl X "isinstance" := by rfl)
    (hs : starEach [e, .Tuple es kk tpos] X.env = (false, eval e X.env) :: starEach [.Tuple es kk tpos] X.env := by rfl) (hs2 : starEach [.Tuple es kk tpos] X.env = (false, eval (.Tuple es kk tpos) X.env) :: starEach [] X.env := by rfl)
    (hpl : (backTo pos (starEach [.Tuple es kk tpos] X.env)).any (·.1) = false := by rfl) : PE X (.Call (.Name "isinstance" p) [e, .Tuple es kk tpos] [] pos) (tM G W (m1 (pIsa bs) mo)) := e_isaT B.hK hg hm bs hb hz he hes hs hs2 hpl
theorem xss {q p2 : Pos} (B : Bx X G W k) (z1 : X.mg "sorted" = none) (z2 : X.mg "set" = none) (ha : PE X a (tM G W mo)) (hg : Gl X "sorted" := by rfl) (hg2 : Gl X "set" := by rfl) (hs : starEach [a] X.env = (false, eval a X.env) :: starEach [] X.env := by rfl)
    (hs2 : starEach [.Call (.Name "set" p2) [a] [] q] X.env = (false, eval (.Call (.Name "set" p2) [a] [] q) X.env) :: starEach [] X.env := by rfl) (hpl : (backTo q (starEach [] X.env)).any (·.1) = false := by rfl) (hpl2 : (backTo pos (starEach [] X.env)).any (·.1) = false := by rfl) :
    PE X (.Call (.Name "sorted" p) [.Call (.Name "set" p2) [a] [] q] [] pos) (tM G W (m1 pSortSet mo)) := e_sortSet B.calm B.room.units B.hK hg z1 hg2 z2 ha hs hs2 hpl hpl2
theorem xlm {pm : PM} {name : Str} {o : Expr} {cpos : Pos} (B : Bx X G W k) (slot : Slot "list" name id) (hty : typeOf (.builtin id) = pure (.type "method_descriptor")) (hm : MtR X id (qM G pm)) (ho : PE X o (tM G W mo)) (ha : PA X (e :: es) (tMA G W ma)) (hbase : attributeBase o name X.env (eval o X.env) = eval o X.env := by rfl)
    (hfew : ((backTo cpos (starEach (e :: es) X.env)).all (fun x => !x.1) && (backToKw cpos (keywordEach [] X.env)).all (fun x => x.1.isSome) && decide ((e :: es).length + ([] : List Keyword).length + (if ([] : List Keyword).isEmpty then 0 else 1) < 30)) = true := by rfl)
    (hline : (apos.endLine == cpos.line) = true := by rfl) (hs : starEach (e :: es) X.env = (false, eval e X.env) :: starEach es X.env := by rfl) (hplain : (backTo cpos (starEach es X.env)).any (·.1) = false := by rfl) : PE X (.Call (.Attribute o name apos) (e :: es) [] cpos) (tM G W (mLm pm mo ma)) := e_lm B.hK slot hty hm ho ha hbase hfew hline hs hplain
theorem xlm0 {pm : PM} {name : Str} {o : Expr} {cpos : Pos} (B : Bx X G W k) (slot : Slot "list" name id) (hty : typeOf (.builtin id) = pure (.type "method_descriptor")) (hm : MtR X id (qM G pm)) (ho : PE X o (tM G W mo)) (hbase : attributeBase o name X.env (eval o X.env) = eval o X.env := by rfl)
    (hline : (apos.endLine == cpos.line) = true := by rfl) : PE X (.Call (.Attribute o name apos) [] [] cpos) (tM G W (mLm pm mo aNil)) := e_lm0 B.hK slot hty hm ho hbase hline
theorem xfld {c i : Nat} {pp : Addr} (B : Bx X G W k) (cl : SlX.SCls X.K (G.cls c)) (sl : SlX.Slot1 X.K (G.cls c) m pp i) (he : PE X e (tM G W mo)) (hb : attributeBase e m X.env (eval e X.env) = eval e X.env := by rfl) : PE X (.Attribute e m pos) (tM G W (m1 (pFld c i) mo)) := e_fld B cl sl he hb
end
end Sm
/-! Sm19: statements, comprehensions, instances, defs with their side conditions filled in. -/
namespace Sm
open PySem PySem.Spec PyProof.Rows L2
section
variable {X : Cx} {G : Gs} {W : WX} {k n : Nat} {x m : Str} {p pos pos' apos cpos : Pos} {a b c e o tg iter elt value kx vx : Expr} {es ifs : List Expr} {kws : List Keyword} {ma mk : M (List Dv)} {mo mb ek ev : M Dv} {F : FM} {ks : List Str} {it : M (List Dt)} {g : GM} {t : TG} {L : List Nat} {sb : SM} {body : List Stmt} {cm : M Bool} {scope : Scope}
theorem yset (i : Nat) (B : Bx X G W k) (h : PE X e (tM G W mo)) (hi : X.N[i]? = some x := by rfl) (hx : Loc X.env.scope x := by first | exact Or.inl rfl | exact Or.inr rfl) (hs : swapsWith e (some (.Name x pos')) pos.line X.env = pure false := by rfl) (hf : X.fn x = true ∨ X.env.scope.names.lookup x = some .local := by first | exact Or.inl rfl | exact Or.inr rfl) :
    PS X (.Assign [.Name x pos'] e pos) (tMS G W (sSet i mo)) := s_set B.nd hi hx h hs hf
theorem yasg (hg : PG X tg t) (hgs : TgS G t g L) (h : PE X e (tM G W mo)) (hs : swapsWithSole [tg] e pos.line X.env = pure false := by rfl) (hw : swappedStores [tg] e X.env = pure none := by rfl) (h1 : (assignEach [tg] X.env).map (·.2) = [assign tg X.env] := by rfl) : PS X (.Assign [tg] e pos) (tMS G W (sAsg g mo)) := s_asg hg hgs h hs hw h1
theorem ysub {i' : Expr} {mi mv : M Dv} (B : Bx X G W k) (ho : PE X o (tM G W mo)) (hi : PE X i' (tM G W mi)) (hv : PE X value (tM G W mv)) (hs : swapsWith value (some (.Subscript o i' pos')) pos.line X.env = pure false := by rfl) : PS X (.Assign [.Subscript o i' pos'] value pos) (tMS G W (sSub mo mi mv)) := s_sub B.room.units ho hi hv hs
theorem yfld {cc i : Nat} {pp : Addr} {mv : M Dv} (B : Bx X G W k) (cl : SlX.SCls X.K (G.cls cc)) (sl : SlX.Slot1 X.K (G.cls cc) m pp i) (ho : PE X o (tM G W mo)) (hv : PE X value (tM G W mv)) (hs : swapsWith value (some (.Attribute o m pos')) pos.line X.env = pure false := by rfl) : PS X (.Assign [.Attribute o m pos'] value pos) (tMS G W (sFld cc i mo mv)) := s_fld B cl sl ho hv hs
theorem yfor (hp : PassesOwn (model X.prog X.w) X.A X.env X.xe) (B : Bx X G W k) (hi : PIS X G W tg iter it) (hg : PG X tg t) (hgs : TgS G t g L) (hb : PSs X body (tMS G W sb)) (hs : ∀ x, foldedSetIterable iter X.env x = pure x := by exact fun _ => rfl) : PS X (.For tg iter body [] pos) (tMS G W (sFor it g sb)) := s_for hp B.calm hi hg hgs hb hs
theorem yexpr (h : PE X e (tM G W mo)) (hs : swapsWith e none pos.line X.env = pure false := by rfl) : PS X (.Expr e pos) (tMS G W (sDrop mo)) := s_expr h hs
theorem yname (i : Nat) (B : Bx X G W k) (hi : X.N[i]? = some x := by rfl) (hx : Loc X.env.scope x := by first | exact Or.inl rfl | exact Or.inr rfl) (hf : X.fn x = true ∨ X.env.scope.names.lookup x = some .local := by first | exact Or.inl rfl | exact Or.inr rfl) : PG X (.Name x pos) (gName i) := pg_name B.nd hi hx hf
theorem ytup {es : List Expr} {kt : Nat} {u : TGs} {n : Nat} (B : Bx X G W k) (h : PGs X es u) (hn : (assignEach es X.env).length = n := by rfl) (hst : (assignEach es X.env).findIdx? (·.1) = none := by rfl) : PG X (.Tuple es kt pos) (gTup X.K n u) := pg_tup B.calm h hn hst
theorem ytupS {u : TGs} {gs : GMs} {L : List Nat} {n : Nat} (hK : G.K = X.K) (hl : GLen gs n) (h : TgSs G u gs L) : TgS G (gTup X.K n u) (gT gs) L := by
  rw [← hK]
  exact g_tup hl h
theorem yrg1 (z : X.mg "range" = none) (ha : PA X [a] (tMA G W ma)) (hg : Gl X "range" := by rfl) (hs : starEach [a] X.env = [(false, eval a X.env)] := by rfl) : PIS X G W tg (.Call (.Name "range" p) [a] [] pos) (iRg rg1 ma) := i_rg1 hg z ha hs
theorem yenum {tpos : Pos} {kk : Nat} (B : Bx X G W k) (z : X.mg "enumerate" = none) (ha : PA X [a] (tMA G W ma)) (hg : Gl X "enumerate" := by rfl) (hs : starEach [a] X.env = [(false, eval a X.env)] := by rfl) : PIS X G W (.Tuple es kk tpos) (.Call (.Name "enumerate" p) [a] [] pos) (iRg en1 ma) := i_enum B.hK hg z ha hs
theorem yzip {tpos : Pos} {kk : Nat} (B : Bx X G W k) (z : X.mg "zip" = none) (ha : PA X [a, b] (tMA G W ma)) (hg : Gl X "zip" := by rfl) (hs : starEach [a, b] X.env = (false, eval a X.env) :: starEach [b] X.env := by rfl) (hpl : (backTo pos (starEach [b] X.env)).any (·.1) = false := by rfl) : PIS X G W (.Tuple es kk tpos) (.Call (.Name "zip" p) [a, b] [] pos) (iRg zp2 ma) := i_zip B.hK hg z ha hs hpl
theorem ylc (own : List (Str × Nat)) {pe : PN} (hpe : LEnd G pe) (B : Bx X G W k) (hi : PIS X G W tg iter it) (hg : ∀ (s : Shared) (H : Hp) (C : Addr) (cl : List (Str × Addr)) (fp : List Addr), PG (X.blk s H scope (compEnvC scope cl C X.env) fp) tg t) (hgs : TgS G t g L)
    (ht : ∀ (s : Shared) (H : Hp) (C : Addr) (cl : List (Str × Addr)) (fp : List Addr), PTs (X.blk s H scope (compEnvC scope cl C X.env) fp) ifs (tMT G W0 cm)) (he : ∀ (s : Shared) (H : Hp) (C : Addr) (cl : List (Str × Addr)) (fp : List Addr), PE (X.blk s H scope (compEnvC scope cl C X.env) fp) elt (tM G W0 mo))
    (ok : blkC X.N X.env.scope scope own = true := by rfl) (hL : ∀ i ∈ L, i ∈ own.map (·.2) := by decide) (hs : ∀ x, foldedSetIterable iter X.env x = pure x := by exact fun _ => rfl) : PE X (.ListComp elt [⟨tg, iter, ifs, 0⟩] scope pos) (tM G W (mN pe (mLcI (own.map (·.2)) it g cm mo))) := e_lc' hpe B hi (blkOk_by ok) hg hgs hL ht he hs
theorem ysetLc (i : Nat) (own : List (Str × Nat)) {y : Str} {py spos : Pos} {pe : PN} (hpe : LEnd G pe) (B : Bx X G W k) (hi : PIS X G W tg iter it) (hg : ∀ (s : Shared) (H : Hp) (C : Addr) (cl : List (Str × Addr)) (fp : List Addr), PG (X.blk s H scope (compEnvC scope cl C X.env) fp) tg t) (hgs : TgS G t g L)
    (ht : ∀ (s : Shared) (H : Hp) (C : Addr) (cl : List (Str × Addr)) (fp : List Addr), PTs (X.blk s H scope (compEnvC scope cl C X.env) fp) ifs (tMT G W0 cm)) (he : ∀ (s : Shared) (H : Hp) (C : Addr) (cl : List (Str × Addr)) (fp : List Addr), PE (X.blk s H scope (compEnvC scope cl C X.env) fp) elt (tM G W0 mo))
    (hy : X.N[i]? = some y := by rfl) (hyl : X.env.scope.names.lookup y = some .local := by rfl) (hk : X.env.scope.kind = .function := by rfl) (hl : (py.line == pos.line) = true := by rfl) (hn : (scope.names.any fun (n, k) => n == y && (k == .local || k == .cell)) = false := by rfl)
    (ok : blkC X.N X.env.scope scope own = true := by rfl) (hL : ∀ i ∈ L, i ∈ own.map (·.2) := by decide) (hs : ∀ x, foldedSetIterable iter X.env x = pure x := by exact fun _ => rfl) : PS X (.Assign [.Name y py] (.ListComp elt [⟨tg, iter, ifs, 0⟩] scope pos) spos) (tMS G W (sSet i (mN pe (mLcI (own.map (·.2)) it g cm mo)))) :=
  s_setLc hpe B hy hyl (sw_true hk hyl hl hn) hi (blkOk_by ok) hg hgs hL ht he hs
/-- a class, called; its __init__ -/
structure CalI (P : Program) (w : World) (G : Gs) (mg : Str → Option Value) (base : Heap) (k c : Nat) (x : Str) (n : Nat) (F : FM) : Prop where
  ex : ∃ f, mg x = some (.ref (G.cls c)) ∧ Mk G.K (G.cls c) f ∧ CallW P w G mg base k f (n + 1) [] F
/-- a method -/
structure CalM (P : Program) (w : World) (G : Gs) (mg : Str → Option Value) (base : Heap) (k c : Nat) (x : Str) (n : Nat) (F : FM) : Prop where
  ex : ∃ f, SlX.SCls G.K (G.cls c) ∧ Meth G.K (G.cls c) x f ∧ CallW P w G mg base k f (n + 1) [] F
end
section
variable {P : Program} {w : World} {G : Gs} {mg : Str → Option Value} {base : Heap} {k : Nat} {x qual : Str} {st : Stmt} {f : Addr} {fd : FuncData} {ps ks : List Str} {F : FM} {n : Nat}
theorem Cal.bad (h : mg x = some (.ref f)) (kp : PySem.W.keepIn G.K (.ref f) = true) : Cal P w G mg base k x n ks fun _ _ => .bad :=
  ⟨f, h, kp, fun A outer s H us ws vs zs Q E hr e0 r rz l1 l2 q => by
    obtain ⟨_, _, _, _, _, p⟩ := q
    exact p.elim⟩
theorem Cal.fn (h : mg x = some (.ref f)) (Fu : Fun G.K x qual st f fd) (ok : FnOk P w G.K mg base (L2.CX P w) k f fd ps (SpM G F)) (b : Binds G.K fd ps []) : Cal P w G mg base k x n [] F := ⟨f, h, Fu.kp, CallW.of0 ok b⟩
theorem Cal.kw (h : mg x = some (.ref f)) (Fu : Fun G.K x qual st f fd) (ok : FnOk P w G.K mg base (L2.CX P w) k f fd ps (SpM G F)) (b : KBn G.K fd ps n ks (fun us ws => us ++ ws) fun vs zs => vs ++ zs) : Cal P w G mg base k x n ks F :=
  ⟨f, h, Fu.kp, CallW.kw ok b fun A H xs vs zs r _ _ => ⟨xs, r, fun S => rfl⟩⟩
theorem fn_ok2 {x qual : Str} {st : Stmt} {f : Addr} {fd : FuncData} {N ps : List Str} {k n p : Nat} {b : SM} (hn : N.length = n) (hps : ps.length = p) (F : Fun G.K x qual st f fd) (S : FnScope N ps (defScope st)) 
    (hbody : ∀ (cdv : Value) (A : Around) (outer : List PySem.Env) (s : Shared) (H : Hp) (E : XK), Bx (cxOf (L2.CX P w) P w G.K mg base N qual (defScope st) f cdv A outer s H E) G (fun c d _ H' => E c d H') k →
      PassesOwn (model P w) (A.deeper (envOfC qual (defScope st) s.heap.objs.size f cdv)) (envOfC qual (defScope st) s.heap.objs.size f cdv) (cxOf (L2.CX P w) P w G.K mg base N qual (defScope st) f cdv A outer s H E).xe →
      PSs (cxOf (L2.CX P w) P w G.K mg base N qual (defScope st) f cdv A outer s H E) (defBody st) (tMS G (fun c d _ H' => E c d H') b)) :
    FnOk P w G.K mg base (L2.CX P w) (k + 1) f fd ps (SpM G (runB n p b)) := by
  subst hn hps
  exact fn_ok F S hbody
end
end Sm
/-! Sm20: the law's end. -/
namespace Sm
open PySem PySem.Spec PyProof.Rows L2
/-- what the law promises -/
def spLaw (K : PySem.W.Frag) : Sp := fun vs H Q _ => ∃ (a : Addr) (ns : List Int), vs = [.ref a] ∧ SqL K H a (ns.map V.int) ∧ ns.length ≤ 63 ∧ (∀ z ∈ ns, Builtin.Int.intBits z ≤ 1048576) ∧ ∀ H', Q (.bl true) H'
def LawTrue (F : FM) : Prop := ∀ ns : List Int, ns.length ≤ 63 → (∀ z ∈ ns, Builtin.Int.intBits z ≤ 1048576) → ∃ S', F [.d (.scr (ns.map Dt.int))] [] = .ok (.d (.bl true)) S'
theorem rvs_ints {G : Gs} {A : Al} {H : Hp} : ∀ l : List Int, RVs G A H (l.map .int) (l.map V.int)
  | [] => (rfl : ([] : List V) = [])
  | a :: l => ⟨_, _, rfl, rfl, rvs_ints l⟩
theorem law_sp {G : Gs} {F : FM} (h : LawTrue F) {vs : List V} {H : Hp} {Q : VK} {E : XK} (q : spLaw G.K vs H Q E) : SpM G F vs H Q E := by
  obtain ⟨a, ns, rfl, hS, hl, hb, q⟩ := q
  obtain ⟨S', e⟩ := h ns hl hb
  refine ⟨⟨[], []⟩, [], [.d (.scr (ns.map .int))], .cons ⟨a, ns.map V.int, rfl, ?_, rvs_ints ns⟩ .nil, ⟨rfl, List.nodup_nil, fun b hb => absurd hb (List.not_mem_nil), fun i l o e => by simp at e⟩, ?_⟩
  · rcases hS with hS | hS
    · exact .inl ⟨hS, List.not_mem_nil⟩
    · exact .inr fun H' => .inr hS
  · rw [e]
    intro A' H' x s v r
    obtain rfl : v = .bl true := r
    exact q H'
theorem law_ok {P : Program} {w : World} {G : Gs} {mg : Str → Option Value} {base : Heap} {k : Nat} {f : Addr} {fd : FuncData} {ps : List Str} {F : FM} (ok : FnOk P w G.K mg base (L2.CX P w) k f fd ps (SpM G F)) (h : LawTrue F) : FnOk P w G.K mg base (L2.CX P w) k f fd ps (spLaw G.K) :=
  ⟨fun vs H Q E q => ok.len vs H Q E (law_sp h q), fun A outer s H args us vs Q E hr e0 b r q => ok.run A outer s H args us vs Q E hr e0 b r (law_sp h q)⟩
theorem law_hsp {K : PySem.W.Frag} {H : Hp} {a : Addr} {ns : List Int} (hl : ns.length ≤ 63) (hb : ∀ z ∈ ns, Builtin.Int.intBits z ≤ 1048576) (hS : SqL K H a (ns.map V.int)) : spLaw K [.ref a] H (fun v _ => v = .bl true) fun _ _ _ => False := ⟨a, ns, rfl, hS, hl, hb, fun _ => rfl⟩
theorem law_cx {P : Program} {w : World} {H : Hp} {s : Shared} {e : Value} {s' : Shared} (h : L2.CX P w [] H s (fun _ _ _ => False) e s') : False := by
  obtain ⟨_, _, _, _, _, _, _, _, _, _, _, _, z⟩ := h
  exact z
end Sm
/-! Sm21: the mirrors' steps as rewriting rules. -/
namespace Sm
open PySem PySem.Spec PyProof.Rows L2
section
variable {ρ : Env} {S S' : Sto} {d x y : Dv} {t : Dt} {i : Nat} {a b : SM} {m ma mb : M Dv} {c ca cb : M Bool} {as : M (List Dv)} {it : M (List Dt)} {g : GM} {gs : GMs}
@[simp] theorem sSeq_s : sSeq a b ρ S = sqz (a ρ S) b := rfl
@[simp] theorem sqz_nx {ρ' : Env} : sqz (.nx ρ' S) b = b ρ' S := rfl
@[simp] theorem sqz_rt : sqz (.rt d S) b = .rt d S := rfl
@[simp] theorem sNil_s : sNil ρ S = .nx ρ S := rfl
@[simp] theorem sSet_s : sSet i m ρ S = (m ρ S).to ρ fun d S1 => .nx (ρ.set i (some d)) S1 := rfl
@[simp] theorem sIf_s : sIf c a b ρ S = (c ρ S).to ρ fun k S1 => if k = true then a ρ S1 else b ρ S1 := rfl
@[simp] theorem sRet_s : sRet m ρ S = (m ρ S).to ρ fun d S1 => .rt d S1 := rfl
@[simp] theorem sDrop_s : sDrop m ρ S = (m ρ S).to ρ fun _ S1 => .nx ρ S1 := rfl
@[simp] theorem sAsg_s : sAsg g m ρ S = (m ρ S).to ρ fun d S1 => oz (g d ρ) fun ρ1 => .nx ρ1 S1 := rfl
@[simp] theorem oz_some {α : Type} {v : α} {f : α → Sz} : oz (some v) f = f v := rfl
@[simp] theorem sFor_s : sFor it g b ρ S = (it ρ S).to ρ fun ts S1 => forL g b ts ρ S1 := rfl
@[simp] theorem forL_nil : forL g b [] ρ S = .nx ρ S := rfl
@[simp] theorem sSub_s {mo mi mv : M Dv} : sSub mo mi mv ρ S = (mv ρ S).to ρ fun d S1 => (mo ρ S1).to ρ fun o S2 => (mi ρ S2).to ρ fun i S3 => oz (stSub o i d S3) fun S4 => .nx ρ S4 := rfl
@[simp] theorem sFld_s {cc : Nat} {mo mv : M Dv} : sFld cc i mo mv ρ S = (mv ρ S).to ρ fun d S1 => (mo ρ S1).to ρ fun o S2 => oz (stFld cc i o d S2) fun S3 => .nx ρ S3 := rfl
@[simp] theorem sPars_s {is : List Nat} : sPars is as ρ S = (as ρ S).to ρ fun ds S1 => if ds.length = is.length then .nx (setAll is ds ρ) S1 else .bad := rfl
@[simp] theorem mV_s : mV i ρ S = (match ρ[i]? with
  | some (some d) => .ok d S
  | _ => .bad) := rfl
@[simp] theorem mC_s : mC t ρ S = .ok (.d t) S := rfl
@[simp] theorem m1_s {p : P1} : m1 p m ρ S = (m ρ S).bind fun x S1 => lift (p x S1) := rfl
@[simp] theorem m2_s {p : P2} : m2 p ma mb ρ S = (ma ρ S).bind fun x S1 => (mb ρ S1).bind fun y S2 => lift (p x y S2) := rfl
@[simp] theorem mN_s {p : PN} : mN p as ρ S = (as ρ S).bind fun xs S1 => lift (p xs S1) := rfl
@[simp] theorem mF_s {F : FM} : mF F as ρ S = (as ρ S).bind F := rfl
@[simp] theorem aNil_s : aNil ρ S = .ok [] S := rfl
@[simp] theorem aCons_s : aCons m as ρ S = (m ρ S).bind fun x S1 => (as ρ S1).bind fun xs S2 => .ok (x :: xs) S2 := rfl
@[simp] theorem aApp_s {bs : M (List Dv)} : aApp as bs ρ S = (as ρ S).bind fun xs S1 => (bs ρ S1).bind fun ys S2 => .ok (xs ++ ys) S2 := rfl
@[simp] theorem mTst_s : mTst m ρ S = (m ρ S).bind fun d S1 => li (toB d) S1 := rfl
@[simp] theorem toB_s {k : Bool} : toB (.d (.bl k)) = some k := rfl
@[simp] theorem mTru_s {p : PT1} : mTru p m ρ S = (m ρ S).bind fun d S1 => li (p d S1) S1 := rfl
@[simp] theorem cAnd_s : cAnd ca cb ρ S = (ca ρ S).bind fun c S1 => if c = true then cb ρ S1 else .ok false S1 := rfl
@[simp] theorem cOr_s : cOr ca cb ρ S = (ca ρ S).bind fun c S1 => if c = true then .ok true S1 else cb ρ S1 := rfl
@[simp] theorem cNot_s : cNot ca ρ S = (ca ρ S).bind fun c S1 => .ok (!c) S1 := rfl
@[simp] theorem cYes_s : cYes ρ S = .ok true S := rfl
@[simp] theorem mIf_s : mIf c ma mb ρ S = (c ρ S).bind fun k S1 => if k = true then ma ρ S1 else mb ρ S1 := rfl
@[simp] theorem mAnd_s : mAnd ma mb ρ S = (ma ρ S).bind fun x S1 => (li (toB x) S1).bind fun c S2 => if c = true then mb ρ S2 else .ok (.d (.bl false)) S2 := rfl
@[simp] theorem mOr_s : mOr ma mb ρ S = (ma ρ S).bind fun x S1 => (li (toB x) S1).bind fun c S2 => if c = true then .ok (.d (.bl true)) S2 else mb ρ S2 := rfl
@[simp] theorem mNot_s : mNot ma ρ S = (ma ρ S).bind fun x S1 => (li (toB x) S1).bind fun c S2 => .ok (.d (.bl (!c))) S2 := rfl
@[simp] theorem mOrT_s {p : PT1} : mOrT p ma mb ρ S = (ma ρ S).bind fun x S1 => (li (p x S1) S1).bind fun c S2 => if c = true then .ok x S2 else mb ρ S2 := rfl
@[simp] theorem mNotT_s {p : PT1} : mNotT p ma ρ S = (ma ρ S).bind fun x S1 => (li (p x S1) S1).bind fun c S2 => .ok (.d (.bl (!c))) S2 := rfl
@[simp] theorem mFrz_s : mFrz m ρ S = (m ρ S).bind fun d S1 => lift (frz d S1) := rfl
@[simp] theorem mSl_s {p : PSl} {l h : M (Option Int)} : mSl p m l h ρ S = (m ρ S).bind fun d S1 => (l ρ S1).bind fun lo S2 => (h ρ S2).bind fun hi S3 => lift (p lo hi d S3) := rfl
@[simp] theorem oNo_s : oNo ρ S = .ok none S := rfl
@[simp] theorem oPt_s : oPt m ρ S = (m ρ S).bind fun d S1 => (match d with
  | .d (.int i) => .ok (some i) S1
  | _ => .bad) := rfl
@[simp] theorem mLm_s {p : PM} : mLm p m as ρ S = (m ρ S).bind fun o S1 => if isLs S1 o = true then (as ρ S1).bind fun ds S2 => lift (p o ds S2) else .bad := rfl
@[simp] theorem mDnew_s : mDnew ρ S = .ok (.loc S.length) (S ++ [.dct [] []]) := rfl
@[simp] theorem iSeq_s : iSeq m ρ S = (m ρ S).bind fun d S1 => li (seqOf d) S1 := rfl
@[simp] theorem iRg_s {f : List Dv → Option (List Dt)} : iRg f as ρ S = (as ρ S).bind fun ds S1 => li (f ds) S1 := rfl
@[simp] theorem iDc_s {f : Dv → Option (List Dt)} : iDc f m ρ S = (m ρ S).bind fun d S1 => li (f d) S1 := rfl
@[simp] theorem mLcI_s {vs : List Nat} : mLcI vs it g c m ρ S = (it ρ S).bind fun ts S1 => if ts.length ≤ 16777216 then lcL g c m (wipeE ρ vs) ts S1 else .bad := rfl
@[simp] theorem gN_s : gN i d ρ = some (ρ.set i (some d)) := rfl
@[simp] theorem gT_s {ts : List Dt} : gT gs (.d (.tup ts)) ρ = gs ts ρ := rfl
@[simp] theorem gsNil_s : gsNil [] ρ = some ρ := rfl
@[simp] theorem bz_some {α β : Type} {v : α} {f : α → Rz β} : bz (some v) f = f v := rfl
@[simp] theorem wipe_nil : wipeE ρ [] = ρ := rfl
@[simp] theorem wipe_cons {v : Nat} {vs : List Nat} : wipeE ρ (v :: vs) = (wipeE ρ vs).set v none := rfl
@[simp] theorem lcL_nil : lcL g c m ρ [] S = .ok [] S := rfl
@[simp] theorem pures_nil : pures [] = some [] := rfl
@[simp] theorem pures_cons {ds : List Dv} : pures (.d t :: ds) = (pures ds).map (t :: ·) := rfl
@[simp] theorem shaped_int (i : Int) : SeqAt.shaped (.int i) = true := rfl
@[simp] theorem eqDv_int {i j : Int} : eqDv S (.d (.int i)) (.d (.int j)) = some (decide (i = j)) := by
  show (if SeqAt.shaped (.int i) = true ∧ SeqAt.shaped (.int j) = true then some (PyData.eqv (.int i) (.int j)) else none) = _
  rw [if_pos ⟨shaped_int i, shaped_int j⟩]
  congr 1
end
end Sm
/-! Sm22: what is never reached; defs with a star parameter, calls with stars. -/
namespace Sm
open PySem PySem.Spec PyProof.Rows L2
/-- what is left over is a tuple -/
def starF (p : Nat) (F : FM) : FM := fun ds S => match pures (ds.drop p) with
  | some ts => if p ≤ ds.length ∧ ts.length ≤ 16777216 then F (ds.take p ++ [.d (.tup ts)]) S else .bad
  | none => .bad
abbrev CallR' (P : Program) (w : World) (G : Gs) (mg : Str → Option Value) (base : Heap) (k : Nat) (f : Addr) (F : FM) : Prop := FnR P w G.K mg base (L2.CX P w) k f (SpM G F)
section
variable {P : Program} {w : World} {G : Gs} {mg : Str → Option Value} {base : Heap}
theorem body_ok {qual : Str} {st : Stmt} {f : Addr} {N : List Str} {k p : Nat} {b : SM} {cdv : Value} {A : Around} {outer : List PySem.Env} {s : Shared} {H : Hp} {vs : List V} {Q : VK} {E : XK} (nd : N.Nodup)
    (hbody : Bx (cxOf (L2.CX P w) P w G.K mg base N qual (defScope st) f cdv A outer s H E) G (fun c d _ H' => E c d H') k →
      PassesOwn (model P w) (A.deeper (envOfC qual (defScope st) s.heap.objs.size f cdv)) (envOfC qual (defScope st) s.heap.objs.size f cdv) (cxOf (L2.CX P w) P w G.K mg base N qual (defScope st) f cdv A outer s H E).xe →
      PSs (cxOf (L2.CX P w) P w G.K mg base N qual (defScope st) f cdv A outer s H E) (defBody st) (tMS G (fun c d _ H' => E c d H') b))
    (hr : Room k (A.deeper (envOfC qual (defScope st) s.heap.objs.size f cdv))) (h : SpM G (runB N.length p b) vs H Q E) :
    ∃ t, PSs (cxOf (L2.CX P w) P w G.K mg base N qual (defScope st) f cdv A outer s H E) (defBody st) t ∧ t { nx := fun _ H' => Q .non H', rt := Q } (start N vs) H := by
  refine ⟨_, hbody ⟨rfl, nd, takes_of rfl rfl rfl rfl, rfl, hr⟩ (passes_of rfl), ?_⟩
  obtain ⟨A', S', ds, r, s', q⟩ := h
  unfold runB at q
  split at q
  · rename_i e
    refine ⟨A', ds.map some ++ List.replicate (N.length - p) none, S', ?_, s', ?_⟩
    · have := start_rds (N.length - vs.length) r
      rw [show N.length - p = N.length - vs.length by rw [← e, Paired.length r]]
      exact this
    · cases eb : b (ds.map some ++ List.replicate (N.length - p) none) S' with
      | nx ρ S1 =>
        rw [eb] at q
        exact fun A1 H1 σ1 y s1 e1 => q A1 H1 y s1 .non rfl
      | rt d S1 =>
        rw [eb] at q
        exact fun A1 H1 v y s1 e1 => q A1 H1 y s1 v e1
      | er c t ρ S1 =>
        rw [eb] at q
        exact fun A1 H1 σ1 cls d y s1 e1 x1 => q A1 H1 cls d y s1 x1
      | bk ρ S1 =>
        rw [eb] at q
        exact q.elim
      | ct ρ S1 =>
        rw [eb] at q
        exact q.elim
      | bad =>
        rw [eb] at q
        exact q.elim
  · exact q.elim
theorem RDs.drop {G : Gs} {A : Al} {H : Hp} : ∀ (n : Nat) {ds : List Dv} {vs : List V}, RDs G A H ds vs → RDs G A H (ds.drop n) (vs.drop n)
  | 0, _, _, h => h
  | n + 1, _, _, .nil => .nil
  | n + 1, _, _, .cons _ r => RDs.drop n r
theorem RDs.take {G : Gs} {A : Al} {H : Hp} : ∀ (n : Nat) {ds : List Dv} {vs : List V}, RDs G A H ds vs → RDs G A H (ds.take n) (vs.take n)
  | 0, _, _, h => .nil
  | n + 1, _, _, .nil => .nil
  | n + 1, _, _, .cons q r => .cons q (RDs.take n r)
/-- def f(a, .., *v) -/
theorem fn_okS {x qual : Str} {st : Stmt} {f : Addr} {fd : FuncData} {N ps : List Str} {pv : Str} {k n p : Nat} {b : SM} (hn : N.length = n) (hps : ps.length = p) (F : Fun G.K x qual st f fd) (S : FnScope N (ps ++ [pv]) (defScope st))
    (hb : ∀ (kV doc pm : Value) (an : Option Addr) (cdv ct : Value) (us rest : List Value), us.length = ps.length → bindArgs (PySem.W.fnOf x qual (defArgs st) (defBody st) (defScope st) .none kV doc pm an cdv ct) ⟨us ++ rest, []⟩ = (newTuple rest >>= fun t => pure (ps.zip us ++ [(pv, t)])))
    (hbody : ∀ (cdv : Value) (A : Around) (outer : List PySem.Env) (s : Shared) (H : Hp) (E : XK), Bx (cxOf (L2.CX P w) P w G.K mg base N qual (defScope st) f cdv A outer s H E) G (fun c d _ H' => E c d H') k →
      PassesOwn (model P w) (A.deeper (envOfC qual (defScope st) s.heap.objs.size f cdv)) (envOfC qual (defScope st) s.heap.objs.size f cdv) (cxOf (L2.CX P w) P w G.K mg base N qual (defScope st) f cdv A outer s H E).xe →
      PSs (cxOf (L2.CX P w) P w G.K mg base N qual (defScope st) f cdv A outer s H E) (defBody st) (tMS G (fun c d _ H' => E c d H') b)) :
    CallR' P w G mg base (k + 1) f (starF p (runB n (p + 1) b)) := by
  subst hn hps
  obtain ⟨oc, od, kV, doc, pm, an, cdv, ct, osl, rfl, lk, hcd⟩ := F.ex
  refine (StX.fn_star (sp := SpM G (runB N.length (ps.length + 1) b)) lk hcd S StX.cxUp (hb kV doc pm an cdv ct) fun A outer s H vs Q E hr hsp => body_ok S.nd (hbody cdv A outer s H E) hr hsp).imp fun vs H Q E h => ?_
  obtain ⟨A, S', ds, r, s', q⟩ := h
  unfold starF at q
  split at q
  · rename_i ts ep
    split at q
    · rename_i hc
      have hl := Paired.length r
      refine ⟨vs.take ps.length, vs.drop ps.length, (List.take_append_drop _ _).symm, by rw [List.length_take]; omega, ?_, fun p hp => ?_⟩
      · have h1 := (pures_rvs ep (RDs.drop ps.length r)).length
        rw [← h1, sizeLine_eq]
        exact hc.2
      · have rv := pures_rvs ep (RDs.drop ps.length r)
        exact ⟨A, S', ds.take ps.length ++ [.d (.tup ts)], (RDs.kp (Ext.new hp).kp (RDs.take ps.length r)).append (.cons (show RD G A (upd H p (.tup (vs.drop ps.length))) (.d (.tup ts)) (.ref p) from RV.tup_new s' hp rv) .nil), s'.new hp, Po.mono (Ext.new hp) q⟩
    · exact q.elim
  · exact q.elim
end
/-! calls by position -/
structure CalV (P : Program) (w : World) (G : Gs) (mg : Str → Option Value) (base : Heap) (k : Nat) (x : Str) (F : FM) : Prop where
  ex : ∃ f, mg x = some (.ref f) ∧ PySem.W.keepIn G.K (.ref f) = true ∧ CallR' P w G mg base k f F
structure CalMV (P : Program) (w : World) (G : Gs) (mg : Str → Option Value) (base : Heap) (k c : Nat) (x : Str) (F : FM) : Prop where
  ex : ∃ f, SlX.SCls G.K (G.cls c) ∧ BMeth G.K (G.cls c) x f ∧ CallR' P w G mg base k f F
def aStar (m : M Dv) (r : M (List Dv)) : M (List Dv) := fun ρ S => (m ρ S).bind fun x S1 => (li (seqOf x) S1).bind fun ts S2 => (r ρ S2).bind fun ys S3 => .ok (ts.map .d ++ ys) S3
theorem seqOf_rd {G : Gs} {A : Al} {H : Hp} {d : Dv} {v : V} {ts : List Dt} (h : seqOf d = some ts) (r : RD G A H d v) : ∃ a vs, v = .ref a ∧ (SqT G.K H a vs ∨ SqL G.K H a vs) ∧ RVs G A H ts vs := by
  cases d with
  | loc n => cases h
  | d t =>
    cases t with
    | tup xs =>
      cases h
      obtain ⟨a, vs, e, ht, hv⟩ := r
      exact ⟨a, vs, e, .inl ht.sq, hv⟩
    | lst xs =>
      cases h
      obtain ⟨a, vs, e, ht, hv⟩ := r
      exact ⟨a, vs, e, .inr ht.sq, hv⟩
    | scr xs =>
      cases h
      obtain ⟨a, vs, e, ht, hv⟩ := r
      exact ⟨a, vs, e, .inr ht.sq, hv⟩
    | ltp xs =>
      cases h
      obtain ⟨a, vs, e, ht, hv⟩ := r
      exact ⟨a, vs, e, .inl (ht H), hv⟩
    | _ => cases h
theorem li_bd {α β : Type} {G : Gs} {E : XK} {A : Al} {H : Hp} {S : Sto} {o : Option α} {f : α → Sto → Rz β} {k : Al → Hp → β → Prop} (h : Po G E A H ((li o S).bind f) k) : ∃ a, o = some a ∧ Po G E A H (f a S) k := by
  cases o with
  | none => exact h.elim
  | some a => exact ⟨a, rfl, h⟩
section
variable {X : Cx} {G : Gs} {W : WX} {k c : Nat} {x m : Str} {p pos apos : Pos} {e o : Expr} {es : List Expr} {ma : M (List Dv)} {mo : M Dv} {F : FM}
theorem a_star (hK : G.K = X.K) (he : PE X e (tM G W mo)) (hr : PA X es (tMA G W ma)) (hs : starEach (.Starred e p :: es) X.env = (true, eval e X.env) :: starEach es X.env := by rfl) : PA X (.Starred e p :: es) (tMA G W (aStar mo ma)) := by
  refine (StX.pa_star he hr hs).sm fun σ H Q h => ?_
  obtain ⟨A, ρ, S, he', hs', p0⟩ := h
  refine ⟨A, ρ, S, he', hs', Po.step p0 fun d S1 A1 H1 x1 s1 p1 v rv => ?_⟩
  obtain ⟨ts, e1, kk⟩ := li_bd p1
  obtain ⟨a, vs, ev, hq, rvs⟩ := seqOf_rd e1 rv
  rw [hK] at hq
  refine ⟨a, vs, ev, hq, A1, ρ, S1, he'.kp x1.kp, s1, Po.step kk fun ds S2 A2 H2 x2 s2 p2 ys rys => ?_⟩
  exact Po.now p2 s2 _ ((RVs.rds (rvs.kp x2.kp)).append rys)
/-! methods -/
end
end Sm
/-! Sm23: defs with defaults, called by position, by name, with a default left away. -/
namespace Sm
open PySem PySem.Spec PyProof.Rows L2
/-- places in another order -/
def permL {α : Type} (ix : List Nat) (xs : List α) : List α := ix.filterMap fun i => xs[i]?
def kwF (ix : List Nat) (dds : List Dt) (F : FM) : FM := fun xs => F (permL ix (xs ++ dds.map .d))
theorem perm_rds {G : Gs} {A : Al} {H : Hp} {ds : List Dv} {vs : List V} (r : RDs G A H ds vs) : ∀ ix : List Nat, RDs G A H (permL ix ds) (permL ix vs)
  | [] => .nil
  | i :: ix => by
    have ih := perm_rds r ix
    unfold permL at ih ⊢
    rw [List.filterMap_cons, List.filterMap_cons]
    by_cases hi : i < ds.length
    · have hi2 : i < vs.length := by rw [← Paired.length r]; exact hi
      obtain ⟨v, ev, rv⟩ := r.get (List.getElem?_eq_getElem hi)
      rw [List.getElem?_eq_getElem hi, ev]
      exact .cons rv ih
    · have hi2 : ¬ i < vs.length := by rw [← Paired.length r]; exact hi
      rw [List.getElem?_eq_none (by omega), List.getElem?_eq_none (by omega)]
      exact ih
theorem perm_vals {vs : List V} {us : List Value} (r : Vals vs us) : ∀ ix : List Nat, Vals (permL ix vs) (permL ix us)
  | [] => .nil
  | i :: ix => by
    have ih := perm_vals r ix
    unfold permL at ih ⊢
    rw [List.filterMap_cons, List.filterMap_cons]
    have key : ∀ {vs : List V} {us : List Value} (i : Nat), Vals vs us → (vs[i]? = none ∧ us[i]? = none) ∨ ∃ v u, vs[i]? = some v ∧ us[i]? = some u ∧ RelV v u := by
      intro vs us i r
      induction r generalizing i with
      | nil => exact .inl ⟨by simp, by simp⟩
      | cons a b ih =>
        cases i with
        | zero => exact .inr ⟨_, _, rfl, rfl, a⟩
        | succ i => simpa using ih i
    rcases key i r with ⟨e1, e2⟩ | ⟨v, u, e1, e2, rv⟩
    · rw [e1, e2]
      exact ih
    · rw [e1, e2]
      exact .cons rv ih
structure FunA (K : PySem.W.Frag) (x qual : Str) (st : Stmt) (f : Addr) (dV kV : Value) (fd : FuncData) : Prop where
  ex : ∃ (oc : Value) (od : Option Addr) (doc pm : Value) (an : Option Addr) (cdv ct : Value) (osl : Array (Option Value)),
    fd = PySem.W.fnOf x qual (defArgs st) (defBody st) (defScope st) dV kV doc pm an cdv ct ∧ K.lookup f = some ⟨oc, od, .func fd, osl⟩ ∧ PySem.W.codeIn K cdv qual = true
  kp : PySem.W.keepIn K (.ref f) = true
theorem funA_mk {K : PySem.W.Frag} {x qual : Str} {st : Stmt} {f : Addr} {oc : Value} {od an : Option Addr} {osl : Array (Option Value)} {dV kV doc pm cdv ct : Value} (l : K.lookup f = some ⟨oc, od, .func (PySem.W.fnOf x qual (defArgs st) (defBody st) (defScope st) dV kV doc pm an cdv ct), osl⟩)
    (c : PySem.W.codeIn K cdv qual = true) (k : PySem.W.keepIn K (.ref f) = true) : FunA K x qual st f dV kV (PySem.W.fnOf x qual (defArgs st) (defBody st) (defScope st) dV kV doc pm an cdv ct) := ⟨⟨oc, od, doc, pm, an, cdv, ct, osl, rfl, l, c⟩, k⟩
section
variable {P : Program} {w : World} {G : Gs} {mg : Str → Option Value} {base : Heap} {x qual : Str} {st : Stmt} {f : Addr} {dV kV : Value} {fd : FuncData} {ps ks : List Str} {k n : Nat} {F : FM}
/-- all is given, in whatever order -/
theorem CallW.kp (ok : FnOk P w G.K mg base (L2.CX P w) k f fd ps (SpM G F)) (Fu : FunA G.K x qual st f dV kV fd) (ix : List Nat)
    (hb : ∀ (doc pm : Value) (an : Option Addr) (cdv ct : Value) (us ws : List Value), us.length = n → ws.length = ks.length → bindArgs (PySem.W.fnOf x qual (defArgs st) (defBody st) (defScope st) dV kV doc pm an cdv ct) ⟨us, ks.zip ws⟩ = pure (ps.zip (permL ix (us ++ ws)))) :
    CallW P w G mg base k f n ks (kwF ix [] F) := by
  intro A outer s H us ws vs zs Q E hr e0 r rz l1 l2 q
  obtain ⟨A', S', ds, rd, s', p⟩ := q
  obtain ⟨oc, od, doc, pm, an, cdv, ct, osl, rfl, lk, hcd⟩ := Fu.ex
  have q2 : SpM G F (permL ix (vs ++ zs)) H Q E := ⟨A', S', permL ix ds, perm_rds rd ix, s', by unfold kwF at p; simpa using p⟩
  refine ok.run A outer s H ⟨us, ks.zip ws⟩ (permL ix (us ++ ws)) (permL ix (vs ++ zs)) Q E hr e0 ?_ (perm_vals (Vals.append r rz) ix) q2
  exact .of_eq (hb doc pm an cdv ct us ws (by rw [← r.length, l1]) (by rw [← rz.length, l2]))
theorem Cal.kp (h : mg x = some (.ref f)) (ok : FnOk P w G.K mg base (L2.CX P w) k f fd ps (SpM G F)) (Fu : FunA G.K x qual st f dV kV fd) (ix : List Nat)
    (hb : ∀ (doc pm : Value) (an : Option Addr) (cdv ct : Value) (us ws : List Value), us.length = n → ws.length = ks.length → bindArgs (PySem.W.fnOf x qual (defArgs st) (defBody st) (defScope st) dV kV doc pm an cdv ct) ⟨us, ks.zip ws⟩ = pure (ps.zip (permL ix (us ++ ws)))) : Cal P w G mg base k x n ks (kwF ix [] F) :=
  ⟨f, h, Fu.kp, CallW.kp ok Fu ix hb⟩
theorem _root_.L2.FnOk.isoS (h : FnOk P w G.K mg base (L2.CX P w) k f fd ps (SpM G F)) : FnOk P w G.K mg base (L2.CX P w) k f fd ps (SpM G (iso F)) := h.imp fun _ _ _ _ q => q.iso
end
end Sm
/-! Sm24: list comprehensions of two clauses. -/
namespace Sm
open PySem PySem.Spec PyProof.Rows L2
section
variable {G : Gs} {A A' A1 A2 : Al} {H H' H1 H2 : Hp} {S : Sto} {D : Addr}
/-- the heap without D -/
def lackH (H : Hp) (D : Addr) : Hp := fun a => if a = D then none else H a
theorem lack_ne {a : Addr} (h : a ≠ D) : lackH H D a = H a := if_neg h
theorem lack_same : lackH H D D = none := if_pos rfl
theorem lack_kp (hD : D ∈ A.hid) : Kp A H (A.show_ D) (lackH H D) := by
  have hne : ∀ a, a ∉ A.all → a ≠ D := fun a n z => n (by rw [z]; exact List.mem_append_right _ hD)
  have hn : ∀ a, a ∉ A.all → a ∉ (A.show_ D).all := fun a n z => n (show_all z)
  refine ⟨⟨fun a u _ n r => ⟨?_, hn a n⟩, fun a u _ _ n r => ⟨by rw [lack_ne (hne a n)]; exact r, hn a n⟩, fun a u n r => ⟨⟨u, by rw [lack_ne (hne a n)]; exact r⟩, hn a n⟩, fun a o vs n r => ⟨by rw [lack_ne (hne a n)]; exact r, hn a n⟩⟩, fun _ _ e => .inl e⟩
  rcases r with r | ⟨ob, r⟩
  · exact .inl (by rw [lack_ne (hne a n)]; exact r)
  · exact .inr ⟨ob, by rw [lack_ne (hne a n)]; exact r⟩
theorem lack_ext (hD : D ∈ A.hid) : ExtB D (A.show_ D) (lackH H D) A H := by
  refine ⟨fun i l e => .inl e, fun a u ne e n => ?_, fun a u ne e n => ⟨.inl (by rw [lack_ne ne] at e; exact e), n⟩, fun a u ne e n m => by rw [lack_ne ne] at e; exact e, hD⟩
  unfold Al.show_
  simp only [List.mem_filter]
  exact ⟨fun z => ⟨z, by simpa using ne⟩, fun z => z.1⟩
/-- one after the other, beside D -/
theorem ExtB.join (x : ExtB D A H A1 H1) (y : ExtB D (A1.show_ D) (lackH H1 D) A' H') : ExtB D A H A' H' := by
  refine ⟨fun i l e => ?_, fun a u ne e n => ?_, fun a u ne e n => ?_, fun a u ne e n m => ?_, y.inH⟩
  · rcases x.live i l e with z | z
    · exact y.live i l z
    · rcases y.live i [] z with z | z
      · exact .inr z
      · exact .inr z
  · obtain ⟨h1, n1⟩ := x.keep a u ne e n
    obtain ⟨v, hv⟩ := h1.there
    have h2 := y.hid a v ne (by rw [lack_ne ne]; exact hv) n1
    have h3 := x.hid a u ne e n
    rw [h2, ← h3]
    unfold Al.show_
    simp only [List.mem_filter]
    exact ⟨fun z => z.1, fun z => ⟨z, by simpa using ne⟩⟩
  · obtain ⟨h1, n1⟩ := x.keep a u ne e n
    obtain ⟨v, hv⟩ := h1.there
    obtain ⟨h2, n2⟩ := y.keep a v ne (by rw [lack_ne ne]; exact hv) n1
    rw [hv] at h1
    exact ⟨h1.step h2, n2⟩
  · have h1 := x.keepH a u ne e n m
    refine y.keepH a u ne (by rw [lack_ne ne]; exact h1) (x.keep a u ne e n).2 ?_
    have h3 := (x.hid a u ne e n).mpr m
    unfold Al.show_
    simp only [List.mem_filter]
    exact ⟨h3, by simpa using ne⟩
end
theorem rd_up {H : Hp} {D a : Addr} {u : HO} (h : Rd (lackH H D) a u) : Rd H a u := by
  have key : ∀ o, lackH H D a = some o → H a = some o := fun o e => by
    by_cases n : a = D
    · rw [n, lack_same] at e
      cases e
    · rw [lack_ne n] at e
      exact e
  rcases h with h | ⟨o, h⟩
  · exact .inl (key _ h)
  · exact .inr ⟨o, key _ h⟩
theorem sqL_up {K : PySem.W.Frag} {H : Hp} {D a : Addr} {xs : List V} (h : SqL K (lackH H D) a xs) : SqL K H a xs := h.elim (fun h => .inl (rd_up h)) .inr
theorem sqT_up {K : PySem.W.Frag} {H : Hp} {D a : Addr} {xs : List V} (h : SqT K (lackH H D) a xs) : SqT K H a xs := h.elim (fun h => .inl (rd_up h)) .inr
theorem wipe_twice (σ : L2.St) (vs : List Nat) : L2.wipe (L2.wipe σ vs) vs = L2.wipe σ vs := by
  apply List.ext_getElem?
  intro j
  by_cases hj : j ∈ vs
  · have key : ∀ (τ : L2.St) (us : List Nat), j ∈ us → j < τ.length → (L2.wipe τ us)[j]? = some none := by
      intro τ us
      induction us with
      | nil => intro h; cases h
      | cons w us ih =>
        intro h hlt
        show ((L2.wipe τ us).set w none)[j]? = some none
        by_cases e : w = j
        · subst e
          rw [List.getElem?_set_self (by rw [wipe_length]; exact hlt)]
        · rw [List.getElem?_set_ne e]
          exact ih (by rcases List.mem_cons.mp h with z | z; exact absurd z.symm e; exact z) hlt
    by_cases hl : j < σ.length
    · rw [key σ vs hj hl, key (L2.wipe σ vs) vs hj (by rw [wipe_length]; exact hl)]
    · rw [List.getElem?_eq_none (by rw [wipe_length, wipe_length]; omega), List.getElem?_eq_none (by rw [wipe_length]; omega)]
  · rw [wipe_out hj]
section
variable {X : Cx} {G : Gs} {W : WX} {kk : Nat} {elt tg iter tg1 iter1 : Expr} {ifs ifs1 : List Expr} {scope : Scope} {own : List (Str × Nat)} {pos : Pos} {it : M (List Dt)} {g g1 : GM} {t t1 : TG} {L L1 : List Nat} {cm cm1 em' : M Bool} {em it1 : M Dv}
end
end Sm
/-! Sm25: dicts with tuples as keys; dict(pairs); max, min of a list; range of three. -/
namespace Sm
open PySem PySem.Spec PyProof.Rows L2
section
variable {κ : Type} [DecidableEq κ]
variable {G : Gs} {A : Al} {H : Hp}
end
section
variable {G : Gs} {A : Al} {H : Hp} {S : Sto}
end
section
variable {X : Cx} {G : Gs} {W : WX} {k : Nat} {o i e value : Expr} {es : List Expr} {p pos pos' : Pos} {mo mi mv : M Dv} {ma : M (List Dv)}
end
end Sm
/-! Sm26: texts as what is walked, sorted; tuples with boxes; dict(pairs); max, min of a list; range downwards. -/
namespace Sm
open PySem PySem.Spec PyProof.Rows L2
def signs (s : Str) : List Dt := s.cps.toList.map fun c => .str ⟨#[c]⟩
/-- a sequence, or a text sign by sign -/
def anyOf (d : Dv) : Option (List Dt) := match d with
  | .d (.str s) => some (signs s)
  | d => seqOf d
section
variable {X : Cx} {G : Gs} {W : WX} {kk : Nat} {tg iter e : Expr} {m : M Dv}
/-! sorted(x), x a sequence or a text -/
def srtOf (S : Sto) (d : Dv) : Option (List Dt) := match d with
  | .d (.str z) => if z.length ≤ 16777216 then some (signs z) else none
  | d => seqT S d
def pSortedA : PN := fun ds S => match ds with
  | [d] => (match srtOf S d with
    | some ts => if sortChk ts = true then some (.d (.lst (isortL leT ts)), S) else none
    | none => none)
  | _ => none
end
end Sm
/-! Sm27: tuples with boxes; dict(pairs); max, min of a list; range downwards. -/
namespace Sm
open PySem PySem.Spec PyProof.Rows L2
section
variable {G : Gs} {A : Al} {H : Hp} {S : Sto}
end
section
variable {X : Cx} {G : Gs} {W : WX} {k : Nat} {es : List Expr} {pos p : Pos} {ma : M (List Dv)} {tg a b c : Expr}
/-! max, min of a list of numbers -/
def maxI : List Int → Int
  | [] => 0
  | [a] => a
  | a :: b :: r => max a (maxI (b :: r))
def minI : List Int → Int
  | [] => 0
  | [a] => a
  | a :: b :: r => min a (minI (b :: r))
theorem maxI_is : ∀ {l : List Int} {m : Int}, m ∈ l → (∀ y ∈ l, y ≤ m) → maxI l = m
  | [], m, h, _ => absurd h List.not_mem_nil
  | [a], m, h, _ => (List.mem_singleton.mp h).symm
  | a :: b :: r, m, h, hm => by
    show max a (maxI (b :: r)) = m
    have mem : ∀ l : List Int, l ≠ [] → maxI l ∈ l ∧ ∀ y ∈ l, y ≤ maxI l := fun l => by
      induction l with
      | nil => intro z; exact absurd rfl z
      | cons x xs ih =>
        intro _
        cases xs with
        | nil => exact ⟨List.mem_cons_self, fun y hy => by rw [List.mem_singleton.mp hy]; exact Int.le_refl _⟩
        | cons z zs =>
          obtain ⟨i1, i2⟩ := ih (by simp)
          show max x (maxI (z :: zs)) ∈ _ ∧ ∀ y ∈ _, y ≤ max x (maxI (z :: zs))
          refine ⟨?_, fun y hy => ?_⟩
          · by_cases hx : x ≤ maxI (z :: zs)
            · rw [Int.max_eq_right hx]
              exact List.mem_cons_of_mem _ i1
            · rw [Int.max_eq_left (by omega)]
              exact List.mem_cons_self
          · rcases List.mem_cons.mp hy with rfl | hy
            · omega
            · have := i2 y hy
              omega
    obtain ⟨i1, i2⟩ := mem (a :: b :: r) (by simp)
    have h1 := hm _ i1
    have h2 := i2 m h
    exact Int.le_antisymm h1 h2
theorem minI_is {l : List Int} {m : Int} (h : m ∈ l) (hm : ∀ y ∈ l, m ≤ y) : minI l = m := by
  have mem : ∀ l : List Int, l ≠ [] → minI l ∈ l ∧ ∀ y ∈ l, minI l ≤ y := fun l => by
    induction l with
    | nil => intro z; exact absurd rfl z
    | cons x xs ih =>
      intro _
      cases xs with
      | nil => exact ⟨List.mem_cons_self, fun y hy => by rw [List.mem_singleton.mp hy]; exact Int.le_refl _⟩
      | cons z zs =>
        obtain ⟨i1, i2⟩ := ih (by simp)
        show min x (minI (z :: zs)) ∈ _ ∧ ∀ y ∈ _, min x (minI (z :: zs)) ≤ y
        refine ⟨?_, fun y hy => ?_⟩
        · by_cases hx : x ≤ minI (z :: zs)
          · rw [Int.min_eq_left hx]
            exact List.mem_cons_self
          · rw [Int.min_eq_right (by omega)]
            exact List.mem_cons_of_mem _ i1
        · rcases List.mem_cons.mp hy with rfl | hy
          · omega
          · have := i2 y hy
            omega
  have hne : l ≠ [] := fun z => by rw [z] at h; exact absurd h List.not_mem_nil
  obtain ⟨i1, i2⟩ := mem l hne
  exact Int.le_antisymm (i2 m h) (hm _ i1)
def pMin1 : PN := fun ds S => match ds with
  | [d] => (match (lstT S d).bind intsOf with
    | some l => if l.isEmpty = true then none else some (.d (.int (minI l)), S)
    | none => none)
  | _ => none
theorem intsOf_eq : ∀ {ts : List Dt} {l : List Int}, intsOf ts = some l → ts = l.map .int
  | [], l, e => by
    cases e
    rfl
  | t :: ts, l, e => by
    cases t with
    | int a =>
      unfold intsOf at e
      cases e1 : intsOf ts with
      | none => rw [e1] at e; cases e
      | some m =>
        rw [e1] at e
        cases e
        rw [intsOf_eq e1]
        rfl
    | _ => cases e
theorem rvs_intsI {A : Al} {H : Hp} : ∀ {l : List Int} {vs : List V}, RVs G A H (l.map .int) vs → vs = l.map V.int
  | [], _, h => h
  | a :: l, _, h => by
    obtain ⟨v, w, rfl, r1, r2⟩ := h
    rw [rvs_intsI r2, show v = V.int a from r1]
    rfl
theorem b_min1 (hK : G.K = X.K) (hc : X.calm = true) : CallR X (.builtin "min") (qN G pMin1) := by
  refine (cr_min hc).sm fun xs H Q h => ?_
  obtain ⟨A, S, ds, rd, s, p⟩ := h
  unfold pMin1 at p
  split at p
  · obtain ⟨v, rfl, r⟩ := RDs.one rd
    split at p
    · rename_i l e
      split at p
      · exact p.elim
      · rename_i hne
        obtain ⟨ts, e1, e2⟩ := Option.bind_eq_some_iff.mp e
        obtain ⟨a, vs, rfl, hs, hv⟩ := lstT_rd s r e1
        rw [intsOf_eq e2] at hv
        rw [hK, rvs_intsI hv] at hs
        refine ⟨a, l, rfl, hs, ?_, fun m hm hy => ?_⟩
        · cases l with
          | nil => exact absurd rfl hne
          | cons a b => simp
        · have := Po.now p s (.int (minI l)) rfl
          rw [minI_is hm hy] at this
          exact this
    · exact p.elim
  · exact p.elim
/-! range(i, j, -1) -/
end
end Sm
/-! Sm28: methods that call themselves. -/
namespace Sm
open PySem PySem.Spec PyProof.Rows L2
theorem CalM.bad {P : Program} {w : World} {G : Gs} {mg : Str → Option Value} {base : Heap} {k c n : Nat} {x : Str} {f : Addr} (h1 : SlX.SCls G.K (G.cls c)) (h2 : Meth G.K (G.cls c) x f) : CalM P w G mg base k c x n fun _ _ => .bad :=
  ⟨f, h1, h2, fun A outer s H us ws vs zs Q E hr e0 r rz l1 l2 q => by
    obtain ⟨_, _, _, _, _, p⟩ := q
    exact p.elim⟩
end Sm
/-! Sm29: a class made with its defaults. -/
namespace Sm
open PySem PySem.Spec PyProof.Rows L2
end Sm
/-! the mirrors that many laws share -/
namespace Hn
open PySem PySem.Spec PyProof.Rows L2 Sm
def b_tupled (self : FM) : SM := sRet (mIf (mTru pTru (m1 (pIsa ["list", "tuple"]) (mV 0))) (mN pTuple (aCons (mN pLst (mLcI [1] (iSeq (mV 0)) (gN 1) (cYes) (mF self (aCons (mV 1) (aNil))))) (aNil))) (mV 0))
def F_tupled : Nat → FM
  | 0 => fun _ _ => .bad
  | n + 1 => iso (runB 2 1 (b_tupled (F_tupled n)))
def b_as_set : SM := sRet (mN pTuple (aCons (m1 pSortSet (mV 0)) (aNil)))
def R_as_set : FM := runB 1 1 b_as_set
def F_as_set : FM := iso (R_as_set)
def b__law_take : SM := sSeq (sIf (mTst (m2 pGt (m2 pIx (mV 0) (mC (.int 0))) (mC (.int 0)))) (sSeq (sSet 2 (m2 pMod (mN pInt (aCons (m2 pIx (mV 0) (mC (.int 0))) (aNil))) (mV 1)))
    (sSeq (sSub (mV 0) (mC (.int 0)) (m2 pDiv (m2 pIx (mV 0) (mC (.int 0))) (mV 1)))
    (sRet (mV 2)))) (sNil))
    (sSeq (sSub (mV 0) (mC (.int 2)) (m2 pAdd (m2 pIx (mV 0) (mC (.int 2))) (mC (.int 1))))
    (sSeq (sSet 3 (m2 pMod (mN pInt (aCons (m2 pMul (m2 pAdd (m2 pIx (mV 0) (mC (.int 1))) (m2 pMul (mC (.int 48271)) (m2 pIx (mV 0) (mC (.int 2))))) (m2 pAdd (mC (.int 39373)) (m2 pIx (mV 0) (mC (.int 2))))) (aNil))) (mC (.int 2147483647))))
    (sSeq (sSet 4 (m2 pAdd (m2 pMod (mN pInt (aCons (mV 3) (aNil))) (mC (.int 40009))) (mC (.int 7))))
    (sSeq (sSet 5 (m2 pMod (mN pInt (aCons (m2 pMul (m2 pAdd (m2 pAdd (mV 3) (m2 pIx (mV 0) (mC (.int 2)))) (m2 pDiv (m2 pIx (mV 0) (mC (.int 1))) (mC (.int 1000003)))) (mV 4)) (aNil))) (mC (.int 2147483629))))
    (sRet (m2 pMod (mN pInt (aCons (m2 pDiv (m2 pMod (mN pInt (aCons (m2 pAdd (m2 pMul (mV 5) (mC (.int 48271))) (mV 3)) (aNil))) (mC (.int 2147483587))) (mC (.int 64))) (aNil))) (mV 1)))))))
def R__law_take : FM := runB 6 2 b__law_take
def F__law_take : FM := view (R__law_take)
def b__law_cells : SM := sSeq (sSet 2 (mOrT pTru (mN pListB (aCons (mSl pSl (mV 0) (oNo) (oPt (mV 1))) (aNil))) (mN pLstB (aCons (mC (.int 0)) (aNil)))))
    (sSeq (sFor (iRg en1 (aCons (mSl pSl (mV 0) (oPt (mV 1)) (oPt (mC (.int 63)))) (aNil))) (gT (gsCons (gN 3) (gsCons (gN 4) (gsNil)))) (sSeq (sSet 5 (m2 pMod (mN pInt (aCons (mV 3) (aNil))) (mV 1)))
    (sSub (mV 2) (mV 5) (m2 pAdd (m2 pIx (mV 2) (mV 5)) (m2 pMul (mV 4) (m2 pAdd (mV 3) (mC (.int 2))))))))
    (sRet (mFrz (mV 2))))
def R__law_cells : FM := runB 6 2 b__law_cells
def F__law_cells : FM := iso (R__law_cells)
def b__law_same (self : FM) : SM := sSeq (sIf (mTru pTru (m1 (pIsa ["list", "tuple"]) (mV 1))) (sSeq (sIf (cOr (mTst (m2 pNe (m1 (pIsa ["list"]) (mV 0)) (m1 (pIsa ["list"]) (mV 1)))) (mTst (m2 pNe (m1 (pIsa ["tuple"]) (mV 0)) (m1 (pIsa ["tuple"]) (mV 1))))) (sRet (mC (.bl false))) (sNil))
    (sRet (mAnd (m2 pEq (mN pLen (aCons (mV 0) (aNil))) (mN pLen (aCons (mV 1) (aNil)))) (mN pAll (aCons (mN pLst (mLcI [2, 3] (iRg zp2 (aCons (mV 0) (aCons (mV 1) (aNil)))) (gT (gsCons (gN 2) (gsCons (gN 3) (gsNil)))) (cYes) (mF self (aCons (mV 2) (aCons (mV 3) (aNil)))))) (aNil)))))) (sNil))
    (sSeq (sIf (cOr (mTst (m2 pIsN (mV 1) (mC .non))) (mTru pTru (m1 (pIsa ["bool", "str"]) (mV 1)))) (sRet (mAnd (m2 pEq (mV 0) (mV 1)) (mAnd (m2 pEq (m1 (pIsa ["bool"]) (mV 0)) (m1 (pIsa ["bool"]) (mV 1))) (m2 pEq (m2 pIsN (mV 0) (mC .non)) (m2 pIsN (mV 1) (mC .non)))))) (sNil))
    (sRet (mAnd (m1 (pIsa ["int"]) (mV 0)) (mAnd (mNot (m1 (pIsa ["bool"]) (mV 0))) (m2 pEq (mV 0) (mV 1))))))
def F__law_same : Nat → FM
  | 0 => fun _ _ => .bad
  | n + 1 => iso (runB 4 2 (b__law_same (F__law_same n)))
def b__law_mixed : SM := sSeq (sPars [2, 3] (aCons (mN pListB (aCons (mV 1) (aNil))) (aCons (mN pLstB (aNil)) (aNil))))
    (sSeq (sFor (iRg rg1 (aCons (mN pLen (aCons (mV 1) (aNil))) (aNil))) (gN 4) (sDrop (mLm pAppend (mV 3) (aCons (mLm pPopAt (mV 2) (aCons (mF F__law_take (aCons (mV 0) (aCons (mN pLen (aCons (mV 2) (aNil))) (aNil)))) (aNil))) (aNil)))))
    (sRet (mN pTuple (aCons (mV 3) (aNil)))))
def R__law_mixed : FM := runB 5 2 b__law_mixed
def F__law_mixed : FM := view (R__law_mixed)
def b__law_lists (self : FM) : SM := sRet (mIf (mTru pTru (m1 (pIsa ["list", "tuple"]) (mV 0))) (mN pLst (mLcI [1] (iSeq (mV 0)) (gN 1) (cYes) (mF self (aCons (mV 1) (aNil))))) (mV 0))
def F__law_lists : Nat → FM
  | 0 => fun _ _ => .bad
  | n + 1 => iso (runB 2 1 (b__law_lists (F__law_lists n)))
end Hn
/-! mirrors of sheets, swaps, and of what the laws on them share -/
namespace Hn
open PySem PySem.Spec PyProof.Rows L2 Sm
/-- the source of draws, with the law's own number -/
def boxM (c : Int) : SM := sSeq (sSet 2 (mIf (mTst (m2 pLt (mV 1) (mN pLen (aCons (mV 0) (aNil))))) (m2 pIx (mV 0) (mV 1)) (mC (.int 0))))
    (sRet (mN pLstB (aCons (m2 pMul (mN pAbs (aCons (mV 2) (aNil))) (mN pInt (aCons (m2 pGe (mN pAbs (aCons (mV 2) (aNil))) (m2 pPow (mC (.int 10)) (mC (.int 18)))) (aNil)))) (aCons (m2 pAdd (m2 pAdd (m2 pMod (mN pInt (aCons (mV 2) (aNil))) (mC (.int 2305843009213693951))) (m2 pMul (mC (.int 39373)) (mV 1))) (mC (.int c))) (aCons (mC (.int 0)) (aNil))))))
end Hn
namespace Hw
open PySem PySem.Spec PyProof.Rows L2 Sm Hn
def b__law_six : SM := sSeq (sSet 0 (mN pTup (aCons (mN pTup (aCons (mC (.str ("ann" : Str))) (aCons (mN pTup (aCons (mC (.str ("bob" : Str))) (aNil))) (aNil)))) (aCons (mN pTup (aCons (mC (.str ("bob" : Str))) (aCons (mN pTup (aCons (mC (.str ("ann" : Str))) (aCons (mC (.str ("cat" : Str))) (aNil)))) (aNil)))) (aCons (mN pTup (aCons (mC (.str ("cat" : Str))) (aCons (mN pTup (aCons (mC (.str ("bob" : Str))) (aCons (mC (.str ("dan" : Str))) (aCons (mC (.str ("eve" : Str))) (aNil))))) (aNil)))) (aCons (mN pTup (aCons (mC (.str ("dan" : Str))) (aCons (mN pTup (aCons (mC (.str ("cat" : Str))) (aCons (mC (.str ("eve" : Str))) (aNil)))) (aNil)))) (aNil)))))))
    (sRet (mN pTup (aCons (m2 pAdd (mV 0) (mN pTup (aCons (mN pTup (aCons (mC (.str ("eve" : Str))) (aCons (mN pTup (aCons (mC (.str ("cat" : Str))) (aCons (mC (.str ("dan" : Str))) (aNil)))) (aNil)))) (aCons (mN pTup (aCons (mC (.str ("fay" : Str))) (aCons (mN pTup (aCons (mC (.str ("cat" : Str))) (aCons (mC (.str ("new" : Str))) (aNil)))) (aNil)))) (aNil))))) (aCons (mN pTup (aCons (mC (.str ("new" : Str))) (aNil))) (aNil)))))
def R__law_six : FM := runB 1 0 b__law_six
def F__law_six : FM := iso (R__law_six)
end Hw
/-! more mirrors of swaps, and of what the laws on them share -/
namespace Hn
open PySem PySem.Spec PyProof.Rows L2 Sm
end Hn
/-! Sm30: a fresh list that the caller may change; boxes that are read alone; instances that are data at once. -/
namespace Sm
open PySem PySem.Spec PyProof.Rows L2
section
variable {G : Gs} {A A' A0 : Al} {H H' : Hp} {S S' : Sto}
/-! ### a fresh list is handed back as a box -/
/-! ### boxes that are read alone -/
end
/-! ### an instance that is data at once -/
def makeF (c : Nat) (F : FM) : FM := fun ds S => (F (.loc S.length :: ds) (S ++ [.ins c []])).bind fun r S2 => match r with
  | .d .non => .ok (.loc S.length) S2
  | _ => .bad
def makeD (c : Nat) (F : FM) : FM := fun ds S => (makeF c F ds S).bind fun d S1 => lift (frz d S1)
/-- C(..) as data -/
abbrev isoMk (c : Nat) (F : FM) : FM := iso (makeD c F)
section
variable {X : Cx} {G : Gs} {W : WX} {k n : Nat} {f : Addr} {F : FM} {x : Str} {p pos : Pos} {e : Expr} {es : List Expr} {ma : M (List Dv)} {c : Nat}
theorem makeD_po {A : Al} {σ : L2.St} {S1 : Sto} {H1 : Hp} {ds : List Dv} {vs : List V} {Q : VK} (s1 : StR G A S1 H1) (rvs : RDs G A H1 ds vs) (p1 : Po G (Wa W σ) A H1 (isoMk c F ds S1) (kD G Q)) :
    ∃ A S ds, StR G A S H1 ∧ RDs G A H1 ds vs ∧ Po G (Wa W σ) A H1 ((F (.loc S.length :: ds) (S ++ [.ins c []])).bind fun r S2 => match r with
      | .d .non => .ok (.loc S.length) S2
      | _ => .bad) (kD G Q) := by
  obtain ⟨A0, S0, ds0, r0, s0, p0⟩ := SpM.iso (F := makeD c F) (E := Wa W σ) ⟨A, S1, ds, rvs, s1, p1⟩
  refine ⟨A0, S0, ds0, s0, r0, Po.step (r := makeF c F ds0 S0) p0 fun d S2 A2 H2 x2 s2 p2 v rv => ?_⟩
  cases e1 : frz d S2 with
  | none => rw [e1] at p2; exact p2.elim
  | some q =>
    obtain ⟨d', S3⟩ := q
    rw [e1] at p2
    obtain ⟨A3, x3, s3, r3⟩ := frz_po s2 rv e1
    exact Po.at p2 x3 s3 v r3
end
section
variable {P : Program} {w : World} {G : Gs} {mg : Str → Option Value} {base : Heap} {k c : Nat} {x : Str} {n : Nat} {ks : List Str} {F : FM} {f : Addr} {fd : FuncData} {ps : List Str}
end
end Sm
/-! Sm31: chains of comparisons, `is` of bools, texts in texts, texts of the module. -/
namespace Sm
open PySem PySem.Spec PyProof.Rows L2
section
variable {X : Cx} {G : Gs} {W : WX} {a b c e : Expr} {pos : Pos} {mo mb mc : M Dv} {x : Str}
theorem xglobS {i : Str} {tk : Tok} {pos : Pos} (hm : X.mg x = some (.str i tk)) (hg : Gl X x := by rfl) (hd : (x == ("__debug__" : Str)) = false := by decide) : PE X (.Name x pos) (tM G W (mC (.str i))) :=
  e_of (pe_glob (v := .str i) hg hm ⟨_, rfl⟩ hd) fun _ _ => rfl
end
end Sm
namespace Sm
open PySem PySem.Spec PyProof.Rows L2
end Sm
/-! Sm32: a comprehension over a box. -/
namespace Sm
open PySem PySem.Spec PyProof.Rows L2
section
variable {G : Gs} {A A' : Al} {H H' : Hp} {S S' : Sto} {n : Nat} {a D : Addr} {vs : List V} {xs : List Dv}
/-- it is put back -/
def Al.ret (A : Al) (n : Nat) (a : Addr) : Al := ⟨A.live.set n [a], A.hid.filter fun b => decide (b ≠ a)⟩
def isLoc (n : Nat) : Dv → Bool
  | .loc m => m == n
  | .d _ => false
/-- no mention of the box n -/
def noL (n : Nat) : Bo → Bool
  | .lst xs => xs.all fun d => !isLoc n d
  | .dct _ xs => xs.all fun d => !isLoc n d
  | .ins _ fs => fs.all fun f => match f with
    | none => true
    | some d => !isLoc n d
  | .dead => true
  | .tp xs => xs.all fun d => !isLoc n d
  | .dcT _ xs => xs.all fun d => !isLoc n d
theorem RD.ret {d : Dv} {v : V} (hn : A'.live[n]? = some []) (sub : ∀ b, b ∉ A'.all → b ∉ (A'.ret n a).all) (h : isLoc n d = false) (r : RD G A' H' d v) : RD G (A'.ret n a) H' d v := by
  cases d with
  | d t => exact RV.kq (t := t) (Kq.same sub) r
  | loc m =>
    obtain ⟨l, e, f⟩ := r
    have hm : n ≠ m := fun z => by
      subst z
      simp [isLoc] at h
    exact ⟨l, by show (A'.live.set n [a])[m]? = _; rw [List.getElem?_set_ne hm]; exact e, f⟩
theorem RDs.ret {ds : List Dv} {ws : List V} (hn : A'.live[n]? = some []) (sub : ∀ b, b ∉ A'.all → b ∉ (A'.ret n a).all) (h : (ds.all fun d => !isLoc n d) = true) (r : RDs G A' H' ds ws) : RDs G (A'.ret n a) H' ds ws := by
  induction r with
  | nil => exact .nil
  | cons r1 r2 ih =>
    rw [List.all_cons, Bool.and_eq_true] at h
    exact .cons (RD.ret hn sub (by simpa using h.1) r1) (ih h.2)
theorem RB.ret {l : List Addr} {b : Bo} (hn : A'.live[n]? = some []) (sub : ∀ b, b ∉ A'.all → b ∉ (A'.ret n a).all) (h : noL n b = true) (r : RB G A' H' l b) : RB G (A'.ret n a) H' l b := by
  cases b with
  | lst ys =>
    obtain ⟨c, ws, rfl, ec, rc⟩ := r
    exact ⟨c, ws, rfl, ec, rc.ret hn sub h⟩
  | dct ks ys =>
    obtain ⟨c, ws, rfl, ec, ek, rc⟩ := r
    exact ⟨c, ws, rfl, ec, ek, rc.ret hn sub h⟩
  | ins c fs =>
    obtain ⟨c1, dx, ws, rfl, ec, rc⟩ := r
    refine ⟨c1, dx, ws, rfl, ec, fun i d e => ?_⟩
    obtain ⟨v, ev, rv⟩ := rc i d e
    refine ⟨v, ev, RD.ret hn sub ?_ rv⟩
    have := List.all_eq_true.mp h (some d) (List.mem_of_getElem? e)
    simpa using this
  | dead => trivial
  | tp ys =>
    obtain ⟨c, ws, rfl, ec, rc⟩ := r
    exact ⟨c, ws, rfl, ec, rc.ret hn sub h⟩
  | dcT ks ys =>
    obtain ⟨c, ws, rfl, ec, ek, rc⟩ := r
    exact ⟨c, ws, rfl, ec, ek, rc.ret hn sub h⟩
end
section
variable {X : Cx} {G : Gs} {W : WX} {kk : Nat} {elt tg iter : Expr} {ifs : List Expr} {scope : Scope} {own : List (Str × Nat)} {pos : Pos} {it : M (List Dt)} {g : GM} {t : TG} {L : List Nat} {cm : M Bool} {em : M Dv}
end
end Sm
/-! HyM: parts, shared. -/
namespace Hn
open PySem PySem.Spec PyProof.Rows L2 Sm
end Hn
/-! Sm33: properties; x[i], x in y by methods of own classes. -/
namespace Sm
open PySem PySem.Spec PyProof.Rows L2
/-- o.f, a property whose getter raises nothing -/
def mPropM (c : Nat) (F : FM) (mo : M Dv) : M Dv := fun ρ S => (mo ρ S).bind fun o S1 => if isIns c o S1 = true then nox (F [o] S1) else .bad
section
variable {X : Cx} {G : Gs} {W : WX} {k n : Nat} {f : Addr} {ks : List Str} {F : FM} {c : Nat} {m : Str} {pos : Pos} {o i e : Expr} {mo mi mx : M Dv}
/-- .. that raises nothing -/
theorem runF1z {pins : List (Addr × Obj)} {σ : L2.St} {H : Hp} {s : Shared} {Q : VK} {us ws : List Value} {vs zs : List V} (R : CallW X.prog X.w G X.mg X.base k f n ks F) (B : Bx X G W (k + 1)) (I : Inv X pins σ H s) (r : Vals vs us) (rz : Vals zs ws) (l1 : vs.length = n) (l2 : zs.length = ks.length)
    (h : SpM G F (vs ++ zs) H Q Ez) : codeAny (model X.prog X.w) X.A.in1 (.call (.ref f) ⟨us, ks.zip ws⟩) (fun r s' => match r with | .ok (.ret v) => EP X pins σ Q v s' | _ => False) s := by
  refine codeAny_mono (R X.A.in1 X.stack s H us ws vs zs Q Ez B.room.in1 (by rw [B.hK]; exact I.env0.in1) r rz l1 l2 h) fun r s' hq => ?_
  cases r with
  | error e =>
    obtain ⟨_, _, _, _, _, _, _, _, _, _, _, _, _, _, _, w⟩ := hq
  | ok fl =>
    cases fl with
    | ret u => exact I.after hq
    | next => exact False.elim hq
    | brk => exact False.elim hq
    | cont => exact False.elim hq
/-- a property: p lies in the class, its getter is the def at g -/
structure PropS (K : PySem.W.Frag) (C : Addr) (f : Str) (p g : Addr) : Prop where
  at_ : PySem.W.findIn K (.ref C) f = some (some (.ref p))
  get : PySem.W.specialIn K (.ref p) "__get__" = some (some (.builtin "property.__get__"))
  tk : PySem.W.takesIn K (.ref p) = some true
  rc : ∃ rest, PySem.W.recIn K p "property" = some (.ref g :: rest)
theorem e_propM {p : Addr} (R : CallW X.prog X.w G X.mg X.base k f 1 [] F) (B : Bx X G W (k + 1)) (cl : SlX.SCls X.K (G.cls c)) (hp : PropS X.K (G.cls c) m p f) (ho : PE X o (tM G W mo)) (hb : attributeBase o m X.env (eval o X.env) = eval o X.env) :
    PE X (.Attribute o m pos) (tM G W (mPropM c F mo)) := by
  refine ⟨fun pins s σ H Q I h => ?_⟩
  obtain ⟨A, ρ, S, he', hs, p0⟩ := h
  refine attr_of hb (thn (ho.run pins s σ H (fun y H1 => ∃ a dx ws, y = .ref a ∧ SlX.Slt H1 a (G.cls c) dx ws ∧ SpM G F ([V.ref a] ++ []) H1 Q Ez) I ⟨A, ρ, S, he', hs, Po.step p0 fun d S1 A1 H1 x1 s1 p1 v rv => ?_⟩) fun u s1 ⟨y, H1, I1, rx, a, dx, ws, ex, hsl, q⟩ => ?_)
  · by_cases hi : isIns c d S1 = true
    · simp only [hi, if_true] at p1
      obtain ⟨a, dx, ws, ev, hsl⟩ := isIns_slt s1 rv hi
      subst ev
      exact ⟨a, dx, ws, rfl, hsl, A1, S1, [d], .cons rv .nil, s1, p1.nox⟩
    · simp only [hi] at p1
      exact p1.elim
  · subst ex
    obtain rfl : u = Value.ref a := rx
    obtain ⟨sl, od, _, J, _⟩ := SlX.slt_inst I1 hsl
    obtain ⟨rest, hrec⟩ := hp.rc
    have I2 : Inv X pins σ H1 { s1 with toks := s1.toks + 1 } := I1.tok (s1.toks + 1)
    refine PySem.W.get_bind I1.kIn J (PySem.W.plainGet_of (cl.get m)).1 (PySem.W.findObj_data cl.ic hp.at_ hp.get hp.tk) (PySem.W.plainGet_of (cl.get m)).2 (wpAny_call (PySem.W.prop_get (s := { s1 with toks := s1.toks + 1 }) I1.kIn hrec ?_))
    refine codeAny_mono (runF1z (us := [.ref a]) (vs := [.ref a]) (ws := []) (zs := []) R B I2 (.cons rfl .nil) .nil rfl rfl q) fun r s' hq => ?_
    cases r with
    | error e => exact False.elim hq
    | ok fl =>
      cases fl with
      | ret u =>
        obtain ⟨v, H', I3, rv, q⟩ := hq
        exact wpAny_of_eq (PySem.W.handedOut_of (handed_of rv)) ⟨v, H', I3, rv, q⟩
      | next => exact False.elim hq
      | brk => exact False.elim hq
      | cont => exact False.elim hq
end
/-- what a law's end hands on: a property; a method of an own name -/
structure CalP (P : Program) (w : World) (G : Gs) (mg : Str → Option Value) (base : Heap) (k c : Nat) (x : Str) (F : FM) : Prop where
  ex : ∃ p f, SlX.SCls G.K (G.cls c) ∧ PropS G.K (G.cls c) x p f ∧ CallW P w G mg base k f 1 [] F
structure CalD (P : Program) (w : World) (G : Gs) (mg : Str → Option Value) (base : Heap) (k c : Nat) (x : Str) (n : Nat) (F : FM) : Prop where
  ex : ∃ f, SlX.SCls G.K (G.cls c) ∧ Meth G.K (G.cls c) x f ∧ PySem.W.fnIn G.K f = true ∧ CallW P w G mg base k f (n + 1) [] F
section
variable {X : Cx} {G : Gs} {W : WX} {k : Nat} {F : FM} {c : Nat} {m : Str} {pos : Pos} {o i e : Expr} {mo mi mx : M Dv}
theorem yprop (R : CalP X.prog X.w G X.mg X.base k c m F) (B : Bx X G W (k + 1)) (ho : PE X o (tM G W mo)) (hb : attributeBase o m X.env (eval o X.env) = eval o X.env := by rfl) : PE X (.Attribute o m pos) (tM G W (mPropM c F mo)) := by
  obtain ⟨p, f, h1, h2, h3⟩ := R.ex
  exact e_propM h3 B (by rw [← B.hK]; exact h1) (by rw [← B.hK]; exact h2) ho hb
end
end Sm
/-! Sm34: several keyword-only defaults; clear; sorted of a dict of texts. -/
namespace Sm
open PySem PySem.Spec PyProof.Rows L2
section
variable {P : Program} {w : World} {G : Gs} {mg : Str → Option Value} {base : Heap} {x qual : Str} {st : Stmt} {f : Addr} {dV kV : Value} {fd : FuncData} {ps ks : List Str} {k n : Nat} {F : FM}
end
section
variable {X : Cx} {G : Gs}
end
section
variable {X : Cx} {G : Gs}
end
end Sm
/-! Sm35: tests of own `in`; boxes read alone by a call that hands back tuples. -/
namespace Sm
open PySem PySem.Spec PyProof.Rows L2
section
variable {X : Cx} {G : Gs} {W : WX} {k : Nat} {F : FM} {c : Nat} {pos : Pos} {o e : Expr} {mo mx : M Dv}
end
/-! flat things in tuples -/
section
variable {G : Gs} {A B : Al} {H : Hp}
end
section
variable {G : Gs} {A A' A0 : Al} {H H' : Hp} {S S' : Sto}
end
section
variable {P : Program} {w : World} {G : Gs} {mg : Str → Option Value} {base : Heap} {k : Nat} {x : Str} {n : Nat} {ks : List Str} {F : FM}
end
end Sm
/-! HzM: a law that is a loop. -/
namespace Hn
open PySem PySem.Spec PyProof.Rows L2 Sm
def lawMF (top : Int) (B R : FM) : SM := sSeq (sSet 1 (mF F__law_cells (aCons (mV 0) (aCons (mC (.int top)) (aNil)))))
    (sSeq (sFor (iRg rg1 (aCons (mN pLen (aCons (mV 1) (aNil))) (aNil))) (gN 2) (sIf (cNot (mTru pTru (mF R (aCons (mF B (aCons (mV 1) (aCons (mV 2) (aNil)))) (aNil))))) (sRet (mC (.bl false))) (sNil)))
    (sRet (mC (.bl true))))
end Hn
/-! Sm36: sorted(set(..)) of whole numbers. -/
namespace Sm
open PySem PySem.Spec PyProof.Rows L2
section
variable {X : Cx} {G : Gs} {W : WX} {k : Nat}
end
section
variable {X : Cx} {G : Gs} {W : WX} {k : Nat} {a : Expr} {p p2 q pos : Pos} {mo : M Dv}
end
end Sm
/-! Sm37: lists and instances read alone by a call. -/
namespace Sm
open PySem PySem.Spec PyProof.Rows L2
section
variable {G : Gs} {A A' A0 : Al} {H H' : Hp} {S S' : Sto}
end
section
variable {P : Program} {w : World} {G : Gs} {mg : Str → Option Value} {base : Heap} {k : Nat} {x : Str} {n : Nat} {ks : List Str} {F : FM}
end
end Sm
/-! Sm38: len(x), the truth of x, x(..) by methods of own classes. -/
namespace Sm
open PySem PySem.Spec PyProof.Rows L2
section
variable {X : Cx} {G : Gs} {W : WX} {k : Nat} {f : Addr} {F : FM} {c : Nat} {p pos : Pos} {o : Expr} {mo : M Dv}
end
end Sm
/-! Sm39: {k: v, **m}: a displayed entry, then all of a dict. -/
namespace Sm
open PySem PySem.Spec PyProof.Rows L2
section
variable {prog : Program} {w : World} {K : Type} [DecidableEq K] {knd : KeyKind prog w K} {A : Around} {E : Value → Shared → Prop} {s : Shared}
end

theorem PoB.step {α β : Type} {G : Gs} {E : XK} {A A1 : Al} {H H1 : Hp} {S : Sto} {D : Addr} {r : Rz α} {f : α → Sto → Rz β} {k : Al → Hp → β → Prop} {k' : Al → Hp → α → Prop} (x : ExtB D A H A1 H1) (hD : H D = none) (s : StR G A1 S H1) (h : Po G E A H (r.bind f) k)
    (q : ∀ a S2 A2 H2, Ext A1 H1 A2 H2 → StR G A2 S2 H2 → ExtB D A H A2 H2 → Po G E A H (f a S2) k → k' A2 H2 a) : Po G E A1 H1 r k' := by
  cases r with
  | ok a S2 => exact fun A' H' y s2 => q a S2 A' H' y s2 (x.step y s) h
  | er c t S2 => exact fun A' H' cls d y s2 e => h A' H' cls d (Ext.ofB (x.step y s) hD) s2 e
  | bad => exact h
end Sm
/-! Sm40: a, b[i], .. = x, y, ..: places of boxes among the targets. -/
namespace Sm
open PySem PySem.Spec PyProof.Rows L2
section
variable {X : Cx} {G : Gs} {W : WX} {kk : Nat}
end
end Sm
/-! Sm41: list(d.values()), dict(zip(a, b)), d.get(k, x), None in d, l.index(x), l[::-1]. -/
namespace Sm
open PySem PySem.Spec PyProof.Rows L2
/-! ### list(d.values()) -/
section
variable {X : Cx} {G : Gs} {W : WX} {kk : Nat} {e : Expr} {apos cpos : Pos}
/-! ### dict(zip(a, b)) -/
end
end Sm
/-! Sm42: mirrors of dict(zip(a, b)), d.get(k, x), x in d (x perhaps None), l.index(x), l[::-1]. -/
namespace Sm
open PySem PySem.Spec PyProof.Rows L2
section
variable {X : Cx} {G : Gs} {W : WX} {kk : Nat} {e e2 e3 : Expr}
/-! ### dict(zip(a, b)) -/
/-! ### d.get(k, x) -/
/-! ### x in d, x perhaps None -/
/-! ### l.index(x), texts -/
def pIndex : PM := fun o ds S => match ds with
  | [.d (.str y)] => (match ((lstAt S o).bind pures).bind strsOf with
    | some l => if y ∈ l then some (.d (.int (l.idxOf y : Nat)), S) else none
    | none => none)
  | _ => none
theorem flat_strs (l : List Str) : (l.map V.str).all flatV = true := by
  rw [List.all_eq_true]
  intro v hv
  obtain ⟨a, _, rfl⟩ := List.mem_map.mp hv
  rfl
theorem m_index (hK : G.K = X.K) : MtR X "list.index" (qM G pIndex) := by
  refine L2.MtR.sm (show MtR X "list.index" (rIndex X.K) from mt_index) fun x xs H Q h => ?_
  obtain ⟨A, S, d, ds, rd, rds, s, p⟩ := h
  unfold pIndex at p
  split at p
  · rename_i y
    split at p
    · rename_i l e1
      split at p
      · rename_i hy
        obtain ⟨v, rfl, rv⟩ := RDs.one rds
        obtain rfl : v = .str y := rv
        obtain ⟨ts, e2, e3⟩ := Option.bind_eq_some_iff.mp e1
        obtain ⟨zs, e4, e5⟩ := Option.bind_eq_some_iff.mp e2
        obtain ⟨a, vs, rfl, hq, hvs⟩ := lstAt_rd s rd e4
        have ets := strsOf_eq e3
        subst ets
        have evs := strs_rv (pures_rvs e5 hvs)
        subst evs
        have hlt := List.idxOf_lt_length_of_mem hy
        refine ⟨a, l.map V.str, .str y, l.idxOf y, .str y, rfl, rfl, .inl (.inl hq), rfl, flat_strs l, ?_, by show (y == y) = true; simp, fun m z' hm hz => ?_, Po.now p s _ rfl⟩
        · rw [List.getElem?_map, List.getElem?_eq_getElem hlt]
          simp
        · rw [List.getElem?_map] at hz
          cases e6 : l[m]? with
          | none =>
            rw [e6] at hz
            cases hz
          | some c =>
            rw [e6] at hz
            cases hz
            show (c == y) = false
            have := List.not_of_lt_findIdx (p := (· == y)) (xs := l) (i := m) (by simpa [List.idxOf] using hm)
            obtain ⟨h1, h2⟩ := List.getElem?_eq_some_iff.mp e6
            rw [h2] at this
            simpa using this
      · exact p.elim
    · exact p.elim
  · exact p.elim
/-! ### l[::-1] -/
end
end Sm
/-! Sm43: name = {k: v for ..}, the name a local, on one line. -/
namespace Sm
open PySem PySem.Spec PyProof.Rows L2
section
variable {X : Cx} {G : Gs} {W : WX} {kk : Nat}
variable {kx vx tg iter : Expr} {ifs : List Expr} {scope : Scope} {pos spos py : Pos} {y : Str} {it : M (List Dt)} {g : GM} {t : TG} {L : List Nat} {cm : M Bool} {ek ev : M Dv} {pe : PD}
end
end Sm
/-! Sm44: zip of a list and a tuple. -/
namespace Sm
open PySem PySem.Spec PyProof.Rows L2
end Sm
/-! HrM: mirrors of rings and rows: Sheet as data, Choice, and what the laws on them share. -/
namespace Hr
open PySem PySem.Spec PyProof.Rows L2 Sm Hn
end Hr
/-! Sm45: tuple(d.items()). -/
namespace Sm
open PySem PySem.Spec PyProof.Rows L2
section
variable {X : Cx} {G : Gs} {W : WX} {kk : Nat} {e : Expr} {apos cpos : Pos}
theorem Ext.mono {A : Al} {H H' : Hp} (hk : ∀ b o, H b = some o → H' b = some o) : Ext A H A H' := ⟨fun _ _ e => .inl e, fun _ _ _ _ => Iff.rfl, fun _ _ e n => ⟨.inl (hk _ _ e), n⟩, fun _ _ e _ _ => hk _ _ e⟩
theorem StR.mono {A : Al} {H H' : Hp} {S : Sto} (s : StR G A S H) (hk : ∀ b o, H b = some o → H' b = some o) : StR G A S H' := by
  refine ⟨s.len, s.nd, fun a ha => ?_, fun i l b e1 e2 => (s.box i l b e1 e2).keep (Ext.mono hk).kp fun a ha => ?_⟩
  · obtain ⟨u, e⟩ := s.alive a ha
    exact ⟨u, hk _ _ e⟩
  · have z : a ∈ A.all := List.mem_append_left _ (live_set e1 a ha)
    obtain ⟨u, e⟩ := s.alive a z
    rw [hk _ _ e, e]
/-! ### list(text) -/
end
end Sm
/-! Sm46: name = [..] over a box, on one line. -/
namespace Sm
open PySem PySem.Spec PyProof.Rows L2
section
variable {X : Cx} {G : Gs} {W : WX} {kk : Nat} {elt tg iter : Expr} {ifs : List Expr} {scope : Scope} {own : List (Str × Nat)} {pos : Pos} {it : M (List Dt)} {g : GM} {t : TG} {L : List Nat} {cm : M Bool} {em : M Dv}
end
end Sm
/-! Sm47: {k: v}; l.count(x) of texts. -/
namespace Sm
open PySem PySem.Spec PyProof.Rows L2
/-! ### l.count(x) -/
section
variable {X : Cx} {G : Gs}
def eqx (x : Str) (v : Value) : Bool := match v with
  | .str z _ => z == x
  | _ => false
theorem tex_gives {A : Around} {s : Shared} {x : Str} {t : Tok} : ∀ {us : List Value} {ns : List Str}, Vals (ns.map V.str) us → ∀ y ∈ us, SeqAt.EqAt A s y (.str x t) (eqx x y)
  | us, [], r => fun y hy => by
    cases r
    cases hy
  | us, n :: ns, r => fun y hy => by
    cases r with
    | cons r1 r2 =>
      obtain ⟨u, rfl⟩ := r1
      rcases List.mem_cons.mp hy with e | e
      · rw [e]
        exact SeqAt.EqAt.str_str n u x t
      · exact tex_gives r2 y e
theorem tex_count {x : Str} : ∀ {us : List Value} {ns : List Str}, Vals (ns.map V.str) us → us.countP (eqx x) = ns.count x
  | us, [], r => by
    cases r
    rfl
  | us, n :: ns, r => by
    cases r with
    | cons r1 r2 =>
      obtain ⟨u, rfl⟩ := r1
      have ih := tex_count (x := x) r2
      rw [List.countP_cons, List.count_cons, ih] <;> rfl
def rCntS (K : PySem.W.Frag) : V → List V → Hp → VK → Prop := fun x xs H Q => ∃ (p : Addr) (ns : List Str) (k : Str), x = .ref p ∧ xs = [.str k] ∧ SqL K H p (ns.map V.str) ∧ Q (.int (ns.count k : Nat)) H
theorem mt_scount : MtR X "list.count" (rCntS X.K) := by
  intro pins s σ H x xs v us Q I rx rxs h
  obtain ⟨p, ns, k, rfl, rfl, hs, q⟩ := h
  cases rx
  obtain ⟨u, rfl, ru⟩ := rxs.one
  obtain ⟨t, rfl⟩ := ru
  obtain ⟨its, rv, ⟨⟨cls, dd, data, sl⟩, n, ho, hc, hdn, hd⟩, hlen⟩ := I.list hs
  simp only at hc hd
  subst hc hd
  refine call_meets PySem.F.slot_list_count ⟨_, ho, rfl⟩ PySem.F.entry_list_count (PySem.F.args_list_count_2 _ _)
    (SeqAt.list_countAt p its.toArray n dd sl (.str k t) (eqx k)) ⟨ho, fun y hy => tex_gives rv y (by simpa using hy), ?_⟩
  have ec : its.toArray.toList.countP (eqx k) = ns.count k := tex_count rv
  refine ⟨.int (ns.count k : Nat), H, I.tok _, ⟨s.toks, ?_⟩, q⟩
  show Value.int ((its.toArray.toList.countP (eqx k) : Nat) : Int) s.toks = Value.int ((ns.count k : Nat) : Int) s.toks
  rw [ec]
def pCount : PM := fun o ds S => match ds with
  | [.d (.str y)] => (match ((lstAt S o).bind pures).bind strsOf with
    | some l => some (.d (.int (l.count y : Nat)), S)
    | none => none)
  | _ => none
theorem m_count (hK : G.K = X.K) : MtR X "list.count" (qM G pCount) := by
  refine L2.MtR.sm (show MtR X "list.count" (rCntS X.K) from mt_scount) fun x xs H Q h => ?_
  obtain ⟨A, S, d, ds, rd, rds, s, p⟩ := h
  unfold pCount at p
  split at p
  · rename_i y
    split at p
    · rename_i l e1
      obtain ⟨v, rfl, rv⟩ := RDs.one rds
      obtain rfl : v = .str y := rv
      obtain ⟨ts, e2, e3⟩ := Option.bind_eq_some_iff.mp e1
      obtain ⟨zs, e4, e5⟩ := Option.bind_eq_some_iff.mp e2
      obtain ⟨a, vs, rfl, hq, hvs⟩ := lstAt_rd s rd e4
      have ets := strsOf_eq e3
      subst ets
      have evs := strs_rv (pures_rvs e5 hvs)
      subst evs
      exact ⟨a, l, y, rfl, rfl, .inl (.inl hq), Po.now p s _ rfl⟩
    · exact p.elim
  · exact p.elim
end
end Sm
/-! Sm48: sorted(..) as a new box. -/
namespace Sm
open PySem PySem.Spec PyProof.Rows L2
section
variable {X : Cx} {G : Gs}
end
/-! ### a fresh list, lists within, handed back as data -/
section
variable {G : Gs} {A A' A0 : Al} {H H' : Hp} {S S' : Sto}
end
end Sm
/-! Sm49: len(set(x)) of texts. -/
namespace Sm
open PySem PySem.Spec PyProof.Rows L2
section
variable {X : Cx} {G : Gs} {W : WX} {k : Nat}
end
end Sm
/-! Sm50: zip of a tuple and a list. -/
namespace Sm
open PySem PySem.Spec PyProof.Rows L2
end Sm
/-! Sm51: tuples that surely have no dict of their own: their display, their methods. -/
namespace Sm
open PySem PySem.Spec PyProof.Rows L2
section
variable {X : Cx} {G : Gs} {W : WX} {k : Nat} {es : List Expr} {e o : Expr} {pos apos cpos : Pos}
/-- such a tuple read as any tuple -/
def pWk : P1 := fun d S => match d with
  | .d (.ntp ts) => some (.d (.tup ts), S)
  | d => some (d, S)
theorem e_wk {m : M Dv} (hT : G.tk = false) (h : PE X e (tM G W m)) : PE X e (tM G W (m1 pWk m)) := by
  refine h.sm fun σ H Q h => ?_
  obtain ⟨A, ρ, S, he, hs, p0⟩ := h
  refine ⟨A, ρ, S, he, hs, Po.step p0 fun d S1 A1 H1 x1 s1 p v rv => ?_⟩
  unfold pWk at p
  split at p
  · obtain ⟨a, vs, ev, hn, hv⟩ := rv
    exact Po.now p s1 v ⟨a, vs, ev, by rw [hT]; exact hn.tup, hv⟩
  · exact Po.now p s1 v rv
/-! ### methods -/
def tBT (r : V → List V → Hp → VK → Prop) (to : TE) (t : TA) : TE := fun σ H Q => to σ H fun x H1 => (∃ (p : Addr) (o : Obj) (xs : List V), x = .ref p ∧ H1 p = some (.frz o (.tup xs)) ∧ o.dict = none ∧ o.cls = .type "tuple") ∧ t σ H1 fun xs H2 => r x xs H2 Q
theorem pe_bmT {to : TE} {t : TA} {name : Str} {id : String} {r : V → List V → Hp → VK → Prop} (slot : Slot "tuple" name id) (hty : typeOf (.builtin id) = pure (.type "method_descriptor")) (hm : MtR X id r) (ho : PE X o to) (ha : PA X (e :: es) t)
    (hbase : attributeBase o name X.env (eval o X.env) = eval o X.env := by rfl)
    (hfew : ((backTo cpos (starEach (e :: es) X.env)).all (fun x => !x.1) && (backToKw cpos (keywordEach [] X.env)).all (fun x => x.1.isSome)
      && decide ((e :: es).length + ([] : List Keyword).length + (if ([] : List Keyword).isEmpty then 0 else 1) < 30)) = true := by rfl)
    (hline : (apos.endLine == cpos.line) = true := by rfl) (hs : starEach (e :: es) X.env = (false, eval e X.env) :: starEach es X.env := by rfl) (hplain : (backTo cpos (starEach es X.env)).any (·.1) = false := by rfl) :
    PE X (.Call (.Attribute o name apos) (e :: es) [] cpos) (tBT r to t) := by
  refine ⟨fun pins s σ H Q I h => ?_⟩
  refine wpAny_Call_method_late hbase hfew hline rfl (thn (ho.run pins s σ H _ I h) fun v s1 ⟨x, H1, I1, r1, ty, q1⟩ => ?_)
  obtain ⟨p, ob, us, rfl, hp, hd, hc⟩ := ty
  have r0 := r1
  cases r1
  have hg : s1.heap.get? p = some ob := (show ObjOk X.prog X.w H1 s1.heap p (.frz ob (.tup us)) from I1.hok p _ hp).1
  refine ⟨"tuple", id, PySem.F.plainAttrs_tuple, slot, hty, ⟨ob, hg, hc⟩, fun a e => ?_, ?_⟩
  · cases e
    exact ⟨ob, hg, hd⟩
  have hA := ha.run cpos pins s1 σ H1 _ I1 q1
  rw [hs] at hA ⊢
  refine Calls.callWith_builtin (by show (false || (backTo cpos (starEach es X.env)).any (·.1)) = false; rw [hplain] <;> rfl) (Calls.evalArgs_plain ?_)
  exact thn hA fun us s2 ⟨vs, H2, I2, r2, q2⟩ => hm pins s2 σ H2 _ vs _ us Q I2 r0 r2 q2
def isNtp (d : Dv) : Bool := match d with
  | .d (.ntp _) => true
  | _ => false
def mTm (p : PM) (mo : M Dv) (ma : M (List Dv)) : M Dv := fun ρ S => (mo ρ S).bind fun o S1 => if isNtp o = true then (ma ρ S1).bind fun ds S2 => lift (p o ds S2) else .bad
theorem e_tm {name : Str} {id : String} {p : PM} {mo : M Dv} {ma : M (List Dv)} (slot : Slot "tuple" name id) (hty : typeOf (.builtin id) = pure (.type "method_descriptor")) (hm : MtR X id (qM G p)) (ho : PE X o (tM G W mo)) (ha : PA X (e :: es) (tMA G W ma)) (hbase : attributeBase o name X.env (eval o X.env) = eval o X.env := by rfl)
    (hfew : ((backTo cpos (starEach (e :: es) X.env)).all (fun x => !x.1) && (backToKw cpos (keywordEach [] X.env)).all (fun x => x.1.isSome)
      && decide ((e :: es).length + ([] : List Keyword).length + (if ([] : List Keyword).isEmpty then 0 else 1) < 30)) = true := by rfl)
    (hline : (apos.endLine == cpos.line) = true := by rfl) (hs : starEach (e :: es) X.env = (false, eval e X.env) :: starEach es X.env := by rfl) (hplain : (backTo cpos (starEach es X.env)).any (·.1) = false := by rfl) :
    PE X (.Call (.Attribute o name apos) (e :: es) [] cpos) (tM G W (mTm p mo ma)) := by
  refine (pe_bmT slot hty hm ho ha hbase hfew hline hs hplain).sm fun σ H Q h => ?_
  obtain ⟨A, ρ, S, he, st, p0⟩ := h
  refine ⟨A, ρ, S, he, st, Po.step p0 fun d S1 A1 H1 x1 s1 p1 v rv => ?_⟩
  by_cases hi : isNtp d = true
  · simp only [hi, if_true] at p1
    have hz : ∃ (q : Addr) (o : Obj) (xs : List V), v = .ref q ∧ H1 q = some (.frz o (.tup xs)) ∧ o.dict = none ∧ o.cls = .type "tuple" := by
      unfold isNtp at hi
      split at hi
      · obtain ⟨a, vs, ev, ⟨⟨ob, h1, h2, h3⟩, _⟩, _⟩ := rv
        exact ⟨a, ob, vs, ev, h1, h2, h3⟩
      · cases hi
    refine ⟨hz, A1, ρ, S1, he.kp x1.kp, s1, Po.step p1 fun ds S2 A2 H2 x2 s2 p2 vs rvs => ?_⟩
    exact ⟨A2, S2, d, ds, RD.kp x2.kp rv, rvs, s2, Po.lift p2⟩
  · simp only [hi] at p1
    exact p1.elim
/-- t.index(x), texts -/
def pIndexT : PM := fun o ds S => match o, ds with
  | .d (.ntp ts), [.d (.str y)] => (match strsOf ts with
    | some l => if y ∈ l then some (.d (.int (l.idxOf y : Nat)), S) else none
    | none => none)
  | _, _ => none
theorem m_indexT (hK : G.K = X.K) : MtR X "tuple.index" (qM G pIndexT) := by
  refine L2.MtR.sm L2.mt_tup_index fun x xs H Q h => ?_
  obtain ⟨A, S, d, ds, rd, rds, s, p⟩ := h
  unfold pIndexT at p
  split at p
  · rename_i ts y
    obtain ⟨v, rfl, rv⟩ := RDs.one rds
    obtain rfl : v = .str y := rv
    obtain ⟨a, vs, rfl, hn, hv⟩ := rd
    split at p
    · rename_i l e1
      split at p
      · rename_i hy
        have ets := strsOf_eq e1
        subst ets
        have evs := strs_rv hv
        subst evs
        have hlt := List.idxOf_lt_length_of_mem hy
        refine ⟨a, l, y, l.idxOf y, rfl, rfl, .inl (.inr ⟨_, hn.1.choose_spec.1⟩), ?_, fun m hm hz => ?_, Po.now p s _ rfl⟩
        · rw [List.getElem?_eq_getElem hlt]
          simp
        · have := List.not_of_lt_findIdx (p := (· == y)) (xs := l) (i := m) (by simpa [List.idxOf] using hm)
          obtain ⟨h1, h2⟩ := List.getElem?_eq_some_iff.mp hz
          rw [h2] at this
          simp at this
      · exact p.elim
    · exact p.elim
  · exact p.elim
end
end Sm
/-! Sm52: min of texts. -/
namespace Sm
open PySem PySem.Spec PyProof.Rows L2
def minTx (x : Str) (l : List Str) : Str := l.foldl (fun a y => if PySem.W.dataLt (.str y) (.str a) then y else a) x
theorem minTx_D (x : Str) : ∀ l : List Str, PySem.W.minD (.str x) (l.map .str) = .str (minTx x l) := by
  intro l
  unfold PySem.W.minD minTx
  induction l generalizing x with
  | nil => rfl
  | cons y l ih =>
    rw [List.map_cons, List.foldl_cons, List.foldl_cons, ← ih]
    split <;> rfl
def pMinT : PN := fun ds S => match ds with
  | [d] => (match (seqT S d).bind strsOf with
    | some (x :: l) => some (.d (.str (minTx x l)), S)
    | _ => none)
  | _ => none
theorem toPys_strs : ∀ l : List Str, toPys (l.map .str) = some (l.map .str)
  | [] => rfl
  | a :: l => by
    rw [List.map_cons, List.map_cons]
    unfold toPys
    rw [toPys_strs l]
    rfl
theorem dep_strs : ∀ l : List Str, PyData.depthAll (l.map .str) ≤ 1
  | [] => by decide
  | a :: l => by
    have := dep_strs l
    rw [List.map_cons]
    unfold PyData.depthAll
    have h : PyData.depth (.str a) ≤ 1 := by
      unfold PyData.depth
      decide
    omega
section
variable {X : Cx} {G : Gs} {W : WX} {k : Nat}
theorem b_minT (hc : X.calm = true) (hK : G.K = X.K) (hu : X.A.units + 64 < cLine) : CallR X (.builtin "min") (qN G pMinT) := by
  intro pins s σ H xs us Q I rx h
  obtain ⟨A, S, ds, rd, st, p⟩ := h
  unfold pMinT at p
  split at p
  · obtain ⟨v, rfl, r⟩ := RDs.one rd
    split at p
    · rename_i x l e
      obtain ⟨ts, e0, e9⟩ := Option.bind_eq_some_iff.mp e
      obtain ⟨ds, e1, e2⟩ := Option.bind_eq_some_iff.mp e0
      obtain ⟨a, vs, rfl, hs, hv⟩ := seqAt_rd st r e1
      rw [hK] at hs
      obtain rfl := Vals.ref1 rx
      have ets := strsOf_eq e9
      subst ets
      have hr := pures_rvs e2 hv
      have dp := RVs.dp (toPys_strs (x :: l)) hr
      rw [hK] at dp
      have al : PySem.W.AlikeAll (((x :: l) : List Str).map PyData.str) := by
        refine ⟨fun d hd d' hd' => ?_, fun d hd z => ?_⟩
        · obtain ⟨u, _, rfl⟩ := List.mem_map.mp hd
          obtain ⟨u', _, rfl⟩ := List.mem_map.mp hd'
          rfl
        · obtain ⟨u, _, rfl⟩ := List.mem_map.mp hd
          cases z
      have dd := dep_strs (x :: l)
      have fin : ∀ (v : Value) (h' : Heap) (tk : Nat) (bs : List Addr), Reads h' v (PySem.W.minD (.str x) (l.map .str)) bs → (∀ b o, s.heap.get? b = some o → h'.get? b = some o) → EP X pins σ Q v { s with heap := h', toks := tk } := fun v h' tk bs hr hk => by
        rw [minTx_D] at hr
        cases hr
        exact ⟨.str (minTx x l), H, I.kept hk, ⟨_, rfl⟩, Po.now p st _ rfl⟩
      rcases hs with hs | hs
      · obtain ⟨its, rv, pl, _⟩ := I.list hs
        obtain ⟨as, ra⟩ := Dp.readsAll I _ _ _ dp rv
        exact PySem.W.min_list_data (x := .str x) (xs := l.map .str) (I.ok.hd hc) pl.isList (by simpa using ra) al (by rw [List.map_cons] at dd; omega) fun i v h' tk bs _ hr hk => fin v h' tk bs hr hk
      · obtain ⟨its, rv, pl, _⟩ := I.tuple hs
        obtain ⟨as, ra⟩ := Dp.readsAll I _ _ _ dp rv
        exact PySem.W.min_tuple_data (x := .str x) (xs := l.map .str) (I.ok.hd hc) pl (by simpa using ra) al (by rw [List.map_cons] at dd; omega) fun i v h' tk bs _ hr hk => fin v h' tk bs hr hk
    · exact p.elim
  · exact p.elim
end
end Sm
/-! Sm53: tuple(x) whose tuple has no dict. -/
namespace Sm
open PySem PySem.Spec PyProof.Rows L2
section
variable {X : Cx} {G : Gs} {W : WX} {k : Nat}
theorem call_tupleN : CallR X (.type "tuple") (fun xs H Q => ∃ p ys, xs = [.ref p] ∧ ((SqL X.K H p ys ∧ ∀ l o, H l = none → o.dict = none → o.cls = .type "tuple" → Q (.ref l) (upd H l (.frz o (.tup ys)))) ∨ (SqT X.K H p ys ∧ Q (.ref p) H))) := by
  intro pins s σ H xs us Q I r h
  obtain ⟨p, ys, rfl, h⟩ := h
  obtain rfl := Vals.ref1 r
  rcases h with ⟨hq, q⟩ | ⟨hq, q⟩
  · obtain ⟨its, r', pl, hz⟩ := I.list hq
    have hlen := r'.length
    refine call_tuple_list pl.isList (fun h' kp => ?_) (by simp only [List.size_toArray] <;> omega)
    have I1 : Inv X pins σ H { s with heap := h' } := I.kept (t' := s.toks) kp
    have I2 : Inv X pins σ (upd H h'.objs.size (.frz { cls := .type "tuple", data := .seq its.toArray } (.tup ys))) { s with heap := h'.push { cls := .type "tuple", data := .seq its.toArray } } :=
      I1.laid (t' := s.toks) (fun b o e => Heap.get?_push_of_some _ e) (Nat.le_refl _) ⟨Heap.get?_push_size _ rfl, hz, its, r', IsTup.new _ _⟩
    exact ⟨.ref h'.objs.size, _, I2, rfl, q _ _ (I1.hok.fresh (Nat.le_refl _)) rfl rfl⟩
  · obtain ⟨its, r', pl, hz⟩ := I.tuple hq
    exact call_tuple_same pl ⟨.ref p, H, I, rfl, q⟩
/-- tuple(x) of a list, of such a tuple -/
def pTupleN : PN := fun ds S => match ds with
  | [.d (.ntp ts)] => some (.d (.ntp ts), S)
  | [d] => (match lstT S d with
    | some ts => some (.d (.ntp ts), S)
    | none => none)
  | _ => none
theorem b_tupleN (hK : G.K = X.K) : CallR X (.type "tuple") (qN G pTupleN) := by
  refine call_tupleN.sm fun xs H Q h => ?_
  obtain ⟨A, S, ds, rd, s, p⟩ := h
  unfold pTupleN at p
  split at p
  · obtain ⟨v, rfl, r⟩ := RDs.one rd
    obtain ⟨a, vs, rfl, ha, hv⟩ := r
    exact ⟨a, vs, rfl, .inr ⟨.inl (.inr ⟨_, ha.1.choose_spec.1⟩), Po.now p s _ ⟨a, vs, rfl, ha, hv⟩⟩⟩
  · obtain ⟨v, rfl, r⟩ := RDs.one rd
    split at p
    · rename_i ts e2
      obtain ⟨a, vs, rfl, hs, hv⟩ := lstT_rd s r e2
      refine ⟨a, vs, rfl, .inl ⟨by rw [← hK]; exact hs, fun q ob hq hd hc => Po.at p (Ext.new hq) (s.new hq) _ ?_⟩⟩
      exact ⟨q, vs, rfl, ⟨⟨ob, upd_same, hd, hc⟩, s.out hq⟩, hv.kp (Ext.new hq).kp⟩
    · exact p.elim
  · exact p.elim
end
end Sm
/-! Sm54: dict(t), t a tuple of pairs without a dict of its own. -/
namespace Sm
open PySem PySem.Spec PyProof.Rows L2
section
variable {X : Cx} {G : Gs} {W : WX} {k : Nat}
end
end Sm
/-! Sm55: data with such tuples within, read as plain data. -/
namespace Sm
open PySem PySem.Spec PyProof.Rows L2
section
variable {X : Cx} {G : Gs} {W : WX} {k : Nat} {e : Expr} {A : Al} {H : Hp}
end
end Sm
/-! HeS: the mirrors of the rings, and tuples without a dict. -/
/-! Ex1: except (A, B, ..): a tuple of any number of classes. -/
namespace Sm
open PySem PySem.Spec PySem.W
section
variable {M : Model} {A : Around} {E : Value → Shared → Prop} {s : Shared} {α β : Type}
end
end Sm
set_option maxHeartbeats 1000000
/-! Ex2: an exception of an own class over LookupError or ValueError is made: its __init__ says super().__init__(x) and keeps x. -/
namespace Sm
open PySem PySem.Spec PyProof.Rows PySem.W PySem.Calls Builtin.ObjectAttr
/-- what is known of the base -/
structure Bsx (B nw ni : String) (tl : List Value) : Prop where
  fb : ExcBaseFacts B nw ni tl
  ks : KxsFacts B ni
  st : StoreFacts B tl "object.__setattr__" "object"
theorem bsV : Bsx "ValueError" "ValueError.__new__" "ValueError.__init__" [.type "ValueError", .type "Exception", .type "BaseException", .type "object"] := ⟨F.excBase_ValueError, kxs_ValueError, F.store_ValueError⟩
/-- the class as it stands -/
structure XcCls (K : Frag) (C : Addr) (nw : String) (tl : List Value) : Prop where
  at_ : ∃ nm q N bs sn sub ab col dd k0 k1 k2 k3 k5, K.lookup C = some (excClassObj nm q C N bs tl true sn sub ab col dd k0 k1 k2 k3 k5 nw)
  sa : findIn K (.ref C) "__setattr__" = some (some (.builtin "object.__setattr__"))
  self_ : mroIn K C (.ref C) = some true
  exC : subIn K (.ref C) (.type "BaseException") = some true
  tyC : typeIn K (.ref C) = some (.type "type")
  kC : keepIn K (.ref C) = true
abbrev eo (C t : Addr) (d : Option Addr) : Obj := { cls := .ref C, dict := d, data := .fields #[.ref t, .none, .none, .none, .bool false, .none] }
section
variable {prog : Program} {w : World} {A : Around} {E : Value → Shared → Prop} {h : Heap} {g : Array GenState} {dr : Drawn} {tk : Nat} {os : OsState} {K : Frag} {C : Addr} {B nw ni : String} {tl : List Value}
theorem XcCls.cd (T : XcCls K C nw tl) : ∃ cd, clsIn K C = some cd ∧ cd.mro = .ref C :: tl ∧ cd.hasDict = true := by
  obtain ⟨nm, q, N, bs, sn, sub, ab, col, dd, k0, k1, k2, k3, k5, hC⟩ := T.at_
  exact ⟨_, by unfold clsIn; rw [hC] <;> rfl, rfl, rfl⟩
/-- the base's __init__, bound, is called -/
theorem mw_call (Y : Bsx B nw ni tl) (T : XcCls K C nw tl) (X : K.In h) {u e t0 : Addr} {rest : List Value} {Q : Value → Shared → Prop} (he : h.get? e = some (eo C t0 none)) (hu : h.get? u = some (kxs_mw ni e)) (hr : rest.length ≤ sizeLine)
    (hq : ∀ h' t1, (∀ b o, b ≠ e → h.get? b = some o → h'.get? b = some o) → h'.get? e = some (eo C t1 none) → Q .none ⟨h', g, dr, tk, os⟩) :
    wpAny (model prog w) A (call (.ref u) rest) Q E ⟨h, g, dr, tk, os⟩ := by
  obtain ⟨nm, q, N, bs, sn, sub, ab, col, dd, k0, k1, k2, k3, k5, hC⟩ := T.at_
  refine wpAny_call (codeAny_of_tree ?_)
  show wpAny _ A.in1 (callAny (.ref u) ⟨rest, []⟩) _ _ _
  simp only [callAny]
  refine wpAny_bind (wpAny_load hu ?_)
  have ty : (Value.type "method-wrapper" == Value.type "method" || Value.type "method-wrapper" == Value.type "builtin_function_or_method" || Value.type "method-wrapper" == Value.type "method-wrapper") = true := by decide
  simp only [kxs_mw, ty, if_true]
  refine KFB.if_so (by decide) (wpAny_bind (ESX.check_bound Y.fb (X _ _ hC) he rfl (wpAny_bind (wpAny_pure (wpAny_pure ?_)))))
  refine ⟨plainId_quiet Y.fb.init.plain _, codeAny_builtin Y.fb.initEntry ?_⟩
  exact exc_init_tree (cls := .ref C) (t0 := t0) (dv := none) (c2 := .none) (c3 := .none) (b4 := .bool false) he hr fun h' k e' _ => hq h' _ k e'
/-- its first field -/
theorem fst_fld (Y : Bsx B nw ni tl) (T : XcCls K C nw tl) (X : K.In h) {x t0 : Addr} {f : Str} {v : Value} {Q : Unit → Shared → Prop} (hx : h.get? x = some (eo C t0 none)) (ha : findIn K (.ref C) f = some none)
    (hq : ∀ h' tk' dx, (∀ b o, b ≠ x → h.get? b = some o → h'.get? b = some o) → h.objs.size ≤ dx → dx ≠ x → h'.get? x = some (eo C t0 (some dx)) → h'.Ns1 dx (fun y => if y = f then some v else none) → Q () ⟨h', g, dr, tk', os⟩) :
    wpAny (model prog w) A (setAttr (.ref x) f v) Q E ⟨h, g, dr, tk, os⟩ := by
  obtain ⟨cd, hcd, hm, hh⟩ := T.cd
  have I : InstAt h x (eo C t0 none) C none := ⟨hx, rfl, rfl, trivial⟩
  have hxs : x ≠ h.objs.size := Nat.ne_of_lt (Heap.lt_size hx)
  refine set_plain X I T.sa ?_
  have ob : (Value.ref C :: tl).contains (.type "object") = true := by rw [List.contains_cons, Y.st.hasOwner, Bool.or_true]
  have mr : mroIn K C (.type "object") = some true := by
    unfold mroIn
    rw [hcd, Option.bind_some, hm, if_neg (show ¬ ((Value.ref C :: tl).isEmpty = true) from Bool.false_ne_true), ob]
  have sub : Looks (model prog w) h (isInstance (.ref x) (.type "object")) true := I.type.andThen (looks_mroIn X mr)
  have SO := F.store_object
  refine codeAny_call_builtin SO.slot.plain SO.entry (@check_slot (model prog w) _ _ ⟨h, g, dr, tk + 1, os⟩ "object.__setattr__" "object" "__setattr__" (.ref x) [.str f tk, v] [] _ SO.kind SO.split sub (SO.args (.ref x) (.str f tk) v) ?_)
  have hmr : Looks (model prog w) h (mroOf (.ref C)) cd.mro := (looks_clsIn X hcd).andThen .now
  have tkr : Looks (model prog w) h (storeTaker? none) none := .now
  have pass : refuseLoop (.ref x) "__setattr__" cd.mro = pure () := by
    rw [hm, refuseLoop_ref]
    exact Y.st.passes _
  rw [osa_eq, refuse_eq]
  refine wpAny_bind (wpAny_bind (I.type.at (wpAny_bind (hmr.at ?_))))
  rw [pass]
  refine wpAny_pure (wpAny_bind (I.type.at (wpAny_bind ((looks_findIn X ha).at (wpAny_bind (tkr.at ?_))))))
  have hcls : Looks (model prog w) h (classData C) cd := looks_clsIn X hcd
  show wpAny _ _ (Builtin.ObjectAttr.storeInOwnDict (.ref x) (.ref C) (.str f tk) f v false) _ _ _
  obtain ⟨nm, bs, mro, ns, qn, hd, sn, sb, ab, col, del⟩ := cd
  dsimp only at hh
  subst hh
  unfold Builtin.ObjectAttr.storeInOwnDict Builtin.ObjectAttr.ownDictForStores
  repeat (first | with_reducible refine HandSPX.store_in_new ?_ ?_ | with_reducible refine wpAny_loadPart_at hx ?_ | with_reducible refine hcls.at ?_ | wp_step)
  · exact ⟨_, #[], _, (Heap.get?_update_ne _ _ _ _ hxs.symm).trans (Heap.get?_push_at rfl rfl), rfl, fun e he => absurd he (by simp), fun _ => rfl⟩
  · intro h' tk' hn' hs
    have hx1 : (h.push { cls := .type "dict", data := .dict #[] }).get? x = some (eo C t0 none) := Heap.get?_push_of_some _ hx
    refine hq h' tk' h.objs.size (fun b o hb ho => ?_) (Nat.le_refl _) hxs.symm ?_ hn'
    · exact (hs.2 b (Nat.ne_of_lt (Heap.lt_size ho))).trans ((Heap.get?_update_ne _ _ _ _ hb).trans (Heap.get?_push_of_some _ ho))
    · exact (hs.2 x hxs).trans (Heap.get?_update_self _ hx1 rfl)
end
section
variable {prog : Program} {w : World} {A : Around} {h : Heap} {g : Array GenState} {dr : Drawn} {tk : Nat} {os : OsState} {K : Frag} {C fI : Addr} {B nw ni : String} {tl : List Value} {f : Str}
theorem mcall_eq {o : Expr} {name x : Str} {apos p3 pos : Pos} {env : PySem.Env} (hp : (apos.endLine == pos.line) = true) : eval (.Call (.Attribute o name apos) [.Name x p3] [] pos) env = (do
      let ov ← attributeBase o name env (eval o env)
      standAt apos.atName
      let (f, first) ← holding [ov] (getMethod ov name (do return (← importBound o env).getD true))
      callWith pos f first (backTo pos (starEach [.Name x p3] env)) []) := by
  show (do
      let ov ← attributeBase o name env (eval o env)
      standAt apos.atName
      methodCall o name apos pos env ov 1 (backTo pos (starEach [.Name x p3] env)) []) = _
  have e : ∀ ov, methodCall o name apos pos env ov 1 (backTo pos (starEach [.Name x p3] env)) [] = (do
      let (f, first) ← holding [ov] (getMethod ov name (do return (← importBound o env).getD true))
      callWith pos f first (backTo pos (starEach [.Name x p3] env)) []) := fun ov => by
    unfold methodCall methodCallPos
    simp only [hp, Bool.or_true, if_true, pure_bind]
    rfl
  simp only [e]
/-- what the written part says of the class's __init__ -/
structure XcInit (prog : Program) (K : Frag) (C fI : Addr) (B ni : String) (tl : List Value) (f : Str) (q p : Str) (params : Arguments) (body : List Stmt) (scope : Scope) (cda cc : Addr) : Prop where
  fn : ∃ nm dV kV doc pm an ct oc od osl, K.lookup fI = some ⟨oc, od, .func (ksFn nm q params body scope dV kV doc pm an (.ref cda) ct cc), osl⟩ ∧ ∀ s a b, BindsTo s (ksFn nm q params body scope dV kV doc pm an (.ref cda) ct cc) ⟨[a, b], []⟩ [("self", a), (p, b)]
  code : codeIn K (.ref cda) q = true
  file : ∃ ccl cdd vs ccs fl tf, K.lookup cda = some ⟨ccl, cdd, .fields vs, ccs⟩ ∧ vs[2]? = some (.str fl tf) ∧ ((prog.main.file : Str) == fl) = true
  cell : ∃ cl cld csl, K.lookup cc = some ⟨cl, cld, .cell (some (.ref C)), csl⟩
  open_ : nsIn K cStatics "thirdparty.any" = some none
  body_ : ∃ p0 p1 p2 p3 p4 p5 p6 p7 p8 p9, body = [.Expr (.Call (.Attribute (.Call (.Name "super" p0) [] [] p1) "__init__" p2) [.Name p p3] [] p4) p5, .Assign [.Attribute (.Name "self" p6) f p7] (.Name p p8) p9] ∧ (p2.endLine == p4.line) = true
  head : ∃ ar, (params.posonlyargs ++ params.args).head? = some ar ∧ ar.arg = "self"
  top : (prog.main.scope.names.lookup ("super" : Str)).isSome = false
  kind : scope.kind = .function
  co : scope.isCoroutine = false
  gen : scope.isGenerator = false
  noc : ∀ x ∈ scope.names, x.2 ≠ .cell
  kself : scope.names.lookup ("self" : Str) = some .local
  kp : scope.names.lookup p = some .local
  ksup : scope.names.lookup ("super" : Str) = some .globalImplicit
  kcls : scope.names.lookup ("__class__" : Str) = some .free
  ne : (p == ("self" : Str)) = false
  nd : (p == ("__debug__" : Str)) = false
  along : alongIn K "__init__" tl = some (some (.builtin ni))
  sub : subIn K (.ref C) (.type B) = some true
  none_ : findIn K (.ref C) f = some none
theorem init_run {q p : Str} {params : Arguments} {body : List Stmt} {scope : Scope} {cda cc : Addr} {mg mb : Str → Option Value} {e t0 : Addr} {v : Value} {R : Result → Shared → Prop} (Y : Bsx B nw ni tl) (T : XcCls K C nw tl) (J : XcInit prog K C fI B ni tl f q p params body scope cda cc)
    (X : K.In h) (lim : h.NoLimit) (room : A.depth < recursionLimit) (Gn : h.Ns mainGlobals mg) (Bn : h.Ns builtinsNs mb) (ms : mg "super" = none) (mbs : mb "super" = some (.type "super")) (he : h.get? e = some (eo C t0 none)) (hKe : ∀ o, K.lookup e ≠ some o)
    (hq : ∀ h' tk' t1 dx, (∀ b o, b ≠ e → h.get? b = some o → h'.get? b = some o) → h.objs.size ≤ dx → dx ≠ e → h'.get? e = some (eo C t1 (some dx)) → h'.Ns1 dx (fun y => if y = f then some v else none) → R (.ok (.ret .none)) ⟨h', g, dr, tk', os⟩) :
    codeAny (model prog w) A (.call (.ref fI) ⟨[.ref e, v], []⟩) R ⟨h, g, dr, tk, os⟩ := by
  obtain ⟨nm, dV, kV, doc, pm, an, ct, oc, od, osl, lk, hb⟩ := J.fn
  obtain ⟨ccl, cdd, vs, ccs, fl, tf, lc, hvs, hfile⟩ := J.file
  obtain ⟨cl, cld, csl, lcc⟩ := J.cell
  obtain ⟨p0, p1, p2, p3, p4, p5, p6, p7, p8, p9, rfl, hps⟩ := J.body_
  obtain ⟨ar, hhead, har⟩ := J.head
  obtain ⟨nmC, qC, N, bs, sn, sub, ab, col, dd, k0, k1, k2, k3, k5, hC⟩ := T.at_
  obtain ⟨cd, hcd, hm, _⟩ := T.cd
  refine ks_codeAny_call_defAt (fd := ksFn nm q params _ scope dV kV doc pm an (.ref cda) ct cc) (binds := [("self", .ref e), (p, v)]) room (X _ _ lk) rfl lim (codeRec_of X J.code) rfl (hb _ _ _) J.noc (fun x hx => ?_) (fun h1 hns kp1 => ?_) J.co J.gen J.kind
  · rcases List.mem_cons.mp hx with rfl | hx
    · exact J.kself
    · rcases List.mem_cons.mp hx with rfl | hx
      · exact J.kp
      · exact absurd hx List.not_mem_nil
  have mself : ([("self", Value.ref e), (p, v)] : List (Str × Value)).reverse.lookup ("self" : Str) = some (.ref e) := by
    have z : (("self" : Str) == p) = false := by
      have := J.ne
      simp only [beq_eq_false_iff_ne, ne_eq] at this ⊢
      exact fun y => this y.symm
    simp [List.lookup, z]
  have mp : ([("self", Value.ref e), (p, v)] : List (Str × Value)).reverse.lookup p = some v := by simp [List.lookup]
  have X1 := X.keeps kp1
  have he1 := kp1 _ _ he
  have hL : h.objs.size ≠ e := Nat.ne_of_gt (Heap.lt_size he)
  have hni : ∀ L, interactive (callEnv (ksFn nm q params [.Expr (.Call (.Attribute (.Call (.Name "super" p0) [] [] p1) "__init__" p2) [.Name p p3] [] p4) p5, .Assign [.Attribute (.Name "self" p6) f p7] (.Name p p8) p9] scope dV kV doc pm an (.ref cda) ct cc) L fI) = false := fun L => by
    show (scope.kind == .module && _) = false
    rw [J.kind]
    rfl
  refine ks_wpAt_execs_cons (ks_wpAt_Expr_any (hi := hni _) (ks_wpAt_MethodCall (he := mcall_eq hps) (ks_wpAt_super_base (env := ksEnv q scope h.objs.size fI (.ref cda) cc) J.ksup J.kcls (by decide) rfl (X1 _ _ lk) rfl hhead rfl (X1 _ _ lc) rfl hvs hfile J.top ?_)))
  refine ks_loadName_global J.kind J.ksup (loadGlobal_builtin (env := ksEnv q scope h.objs.size fI (.ref cda) cc) (Gn.keeps kp1) ms (Bn.keeps kp1) mbs ⟨rfl, ?_⟩)
  refine wpAny_loadName_free J.kind J.kcls rfl ⟨_, X1 _ _ lcc, rfl⟩ ?_
  rw [har]
  refine wpAny_loadName_local J.kind J.kself hns mself ?_
  refine ks_wpAny_isType_cls (X1 _ _ hC) rfl ⟨rfl, ?_⟩
  refine ks_wpAny_call_super (X1 _ _ hC) rfl he1 rfl (fun c z => by cases z) (looks_mroIn X1 T.self_) (fun h2 hso kp2 => ?_)
  have X2 := X1.keeps kp2
  have he2 := kp2 _ _ he1
  have I2 : InstAt h2 e (eo C t0 none) C none := ⟨he2, rfl, rfl, trivial⟩
  have mro2 : Looks (model prog w) h2 (mroOf (.ref C)) (.ref C :: tl) := by
    rw [← hm]
    exact (looks_clsIn X2 hcd).andThen .now
  refine kxs_getMethod Y.ks hso (looks_opaque X2 J.open_) mro2 (l := tl) (ESX.drop_own C tl) X2 J.along (I2.type.andThen (looks_subIn X2 J.sub)) (ks_ne X2 I2 hcd) (by decide) ?_
  have hns2 := hns.keeps kp2
  have kp3 : ∀ b o, h2.get? b = some o → (h2.push (kxs_mw ni e)).get? b = some o := fun b o z => Heap.get?_push_of_some _ z
  have hns3 := hns2.keeps kp3
  have X3 := X2.keeps kp3
  refine kxs_callWith (i := ni) (x := e) rfl (evalArgs_plain (spliced_cons (wpAny_Name (wpAny_loadName_local J.kind J.kp hns3 mp (spliced_nil ⟨Heap.get?_push_size _ rfl, ?_⟩)) J.nd)))
  refine mw_call Y T X3 (kp3 _ _ he2) (Heap.get?_push_size _ rfl) (by rw [sizeLine_eq]; simp) fun h4 t1 kp4 he4 => ?_
  have neL : ∀ b, b ≠ e → ∀ o, h1.get? b = some o → h4.get? b = some o := fun b hb o z => kp4 b o hb (kp3 b o (kp2 b o z))
  have hns4 : h4.Ns h.objs.size (fun x => ([("self", Value.ref e), (p, v)] : List (Str × Value)).reverse.lookup x) := by
    obtain ⟨o, es, ep, ho, r⟩ := hns
    exact ⟨o, es, ep, neL _ hL o ho, r⟩
  have X4 : K.In h4 := fun b o z => neL b (fun y => hKe o (y ▸ z)) o (X1 _ _ z)
  refine ks_wpAt_execs_cons (ks_wpAt_Assign_Attr ?_)
  refine wpAt_of_wpAny (wpAny_Name (env := ksEnv q scope h.objs.size fI (.ref cda) cc) ?_ J.nd)
  refine wpAny_loadName_local (m := fun x => ([("self", Value.ref e), (p, v)] : List (Str × Value)).reverse.lookup x) J.kind J.kp hns4 mp ?_
  refine wpAny_Name (env := ksEnv q scope h.objs.size fI (.ref cda) cc) ?_ (by decide)
  refine wpAny_loadName_local (m := fun x => ([("self", Value.ref e), (p, v)] : List (Str × Value)).reverse.lookup x) J.kind J.kself hns4 mself ?_
  refine fst_fld Y T X4 he4 J.none_ fun h5 tk5 dx kp5 hdx ndx he5 hn5 => ?_
  refine wpAt_of_wpAny (wpAny_execs_nil ?_)
  refine hq h5 tk5 t1 dx (fun b o hb z => kp5 b o hb (neL b hb o (kp1 b o z))) ?_ ndx he5 hn5
  exact Nat.le_trans (Nat.le_of_lt (Heap.lt_size (neL _ hL _ (hns.choose_spec.choose_spec.choose_spec.1)))) hdx
end
end Sm
set_option maxHeartbeats 1000000
/-! Ex3: raise C(x), told by a mirror. -/
namespace Sm
open PySem PySem.Spec PyProof.Rows L2
theorem boot_super : bootBuiltins ("super" : Str) = some (.type "super") := by kernel_rfl
/-- C(e): the exception of the class C whose field f is e -/
def tXmk (C : Addr) (f : Str) (ta : TA) : L2.St → Hp → XK → Prop := fun σ H Q => ta σ H fun vs H1 => ∃ v, vs = [v] ∧ ∀ dx, H1 dx = none → Q (.ref C) (some dx) (upd H1 dx (.xd [(f, v)]))
theorem pmk_x {X : Cx} {e : Expr} {x : Str} {p pos : Pos} {ta : TA} {k : Nat} {C fI cda cc : Addr} {B nw ni : String} {tl : List Value} {f q pr : Str} {params : Arguments} {body : List Stmt} {scope : Scope} (Y : Bsx B nw ni tl) (T : XcCls X.K C nw tl) (J : XcInit X.prog X.K C fI B ni tl f q pr params body scope cda cc)
    (iC : PySem.W.findIn X.K (.ref C) "__init__" = some (some (.ref fI))) (tI : PySem.W.typeIn X.K (.ref fI) = some (.type "function")) (ms : X.mg "super" = none) (hr : Room (k + 1) X.A) (hg : Gl X x) (hm : X.mg x = some (.ref C)) (ha : PA X [e] ta) (hdb : (x == ("__debug__" : Str)) = false := by decide)
    (he : starEach [e] X.env = (false, eval e X.env) :: starEach [] X.env := by rfl) : PMk X (.Call (.Name x p) [e] [] pos) (tXmk C f ta) := by
  intro pins s σ H Q I h
  obtain ⟨nm, q', N, bs, sn, sub, ab, col, dd, k0, k1, k2, k3, k5, hC⟩ := T.at_
  refine wpAny_Call_Name_kw (ld_glob I hg hm ?_ hdb)
  refine PySem.W.callWith_K (h₀ := X.base) I.ok.mod.kin T.kC (thn (ha.run pos pins s σ H _ I h) fun us s1 ⟨vs, H1, I1, r1, v, ev, q1⟩ => ⟨I1.kIn, ?_⟩) he rfl
  subst ev
  cases r1 with
  | @cons _ u _ ur ru rr =>
    cases rr
    show wpAny _ _ (call (.ref C) [u]) _ _ _
    obtain ⟨hp, g, dr, tk, os⟩ := s1
    have kk : ∀ b o, hp.get? b = some o → ((hp.push (PySem.W.kdv_tup [u])).push (PySem.HandSPX.excO C hp.objs.size)).get? b = some o := fun b o z => Heap.get?_push_of_some _ (Heap.get?_push_of_some _ z)
    have ge : ((hp.push (PySem.W.kdv_tup [u])).push (PySem.HandSPX.excO C hp.objs.size)).get? (hp.objs.size + 1) = some (eo C hp.objs.size none) := by heap_get
    obtain ⟨mb, hb1, hb2⟩ := I1.mod.blt
    have kb : ∀ b o, X.base.get? b = some o → ((hp.push (PySem.W.kdv_tup [u])).push (PySem.HandSPX.excO C hp.objs.size)).get? b = some o := fun b o z => kk b o (I1.bk b o z)
    have nK : ∀ o, X.K.lookup (hp.objs.size + 1) ≠ some o := fun o z => by
      have := Heap.lt_size (I1.kIn _ _ z)
      exact absurd (show hp.objs.size + 1 < hp.objs.size from this) (by omega)
    refine wpAny_call (PySem.HandSPX.call_own Y.fb (fun _ => rfl) (I1.kIn _ _ hC) (PySem.W.looks_findIn I1.kIn iC) (fun self => PySem.W.bind_fn I1.kIn self tI) (by rw [sizeLine_eq]; simp)
      (init_run Y T J (I1.kIn.keeps kk) (I1.nolimit.keeps kk) (hr.make C [u] []).depth (I1.mod.glob.keeps kb) (hb1.keeps kb) ms ((hb2 "super" (by decide)).trans boot_super) ge nK fun h' tk' t1 dx kp hdx ndx he' hn' => ⟨rfl, ?_⟩))
    have hd0 : hp.objs.size + 2 ≤ dx := by
      have e2 : ((hp.push (PySem.W.kdv_tup [u])).push (PySem.HandSPX.excO C hp.objs.size)).objs.size = hp.objs.size + 2 := by rw [Heap.size_push, Heap.size_push]
      rw [e2] at hdx
      exact hdx
    obtain ⟨G, g1, g2⟩ := restrict h' fun b => decide (b ≠ hp.objs.size + 1)
    have gk : ∀ b, b ≠ hp.objs.size + 1 → G.get? b = h'.get? b := fun b hb => g1 b (decide_eq_true hb)
    have gn : G.get? (hp.objs.size + 1) = none := g2 _ (by simp)
    have lt : ∀ {b : Addr} {o : Obj}, hp.get? b = some o → b ≠ hp.objs.size + 1 := fun {b o} z => by
      have h0 : b < hp.objs.size := Heap.lt_size z
      exact Nat.ne_of_lt (show b < hp.objs.size + 1 from Nat.lt_succ_of_lt h0)
    have hd1 : H1 dx = none := I1.hok.fresh (show hp.objs.size ≤ dx by omega)
    have ha1 : H1 (hp.objs.size + 1) = none := I1.hok.fresh (show hp.objs.size ≤ hp.objs.size + 1 by omega)
    have ok : ObjOk X.prog X.w (upd H1 dx (.xd [(f, v)])) G dx (.xd [(f, v)]) := by
      refine ⟨_, hn'.at fun o y => (gk dx ndx).trans y, fun z => relO_put (fs := []) (mA := fun _ => none) ru (fun _ => True.intro) z⟩
    have I2 : Inv X pins σ (upd H1 dx (.xd [(f, v)])) ⟨G, g, dr, tk', os⟩ := I1.laid (t' := tk') (a := dx) (o := .xd [(f, v)]) (h' := G) (fun b o z => (gk b (lt z)).trans (kp b o (lt z) (kk b o z))) (show hp.objs.size ≤ dx by omega) ok
    refine ⟨hp.objs.size + 1, _, _, ⟨G, g, dr, tk', os⟩, _, .ref C, some dx, rfl, I2, fun b o z => ?_, gn, he', ⟨rfl, rfl⟩, rfl, rfl, ?_, rfl, I2.bare, raises_own T.exC T.tyC, q1 dx hd1⟩
    · have z' : G.get? b = some o := z
      by_cases hb : b = hp.objs.size + 1
      · rw [hb, gn] at z'
        cases z'
      · exact (gk b hb).symm.trans z'
    · rw [upd_ne (Ne.symm ndx)]
      exact ha1
def sRaise (c : Nat) (m : M Dv) : SM := fun ρ S => (m ρ S).to ρ fun d S1 => match d with
  | .d t => .er c t ρ S1
  | .loc _ => .bad
/-- a class that may be raised: what a def's walk asks -/
structure Rsx (P : Program) (G : Gs) (mg : Str → Option Value) (x : Str) (c : Nat) : Prop where
  cl : ∃ C B nw ni tl f fI q pr params body scope cda cc, G.exc c = .ref C ∧ G.fld c = some f ∧ Bsx B nw ni tl ∧ XcCls G.K C nw tl ∧ XcInit P G.K C fI B ni tl f q pr params body scope cda cc ∧
    PySem.W.findIn G.K (.ref C) "__init__" = some (some (.ref fI)) ∧ PySem.W.typeIn G.K (.ref fI) = some (.type "function") ∧ mg x = some (.ref C)
  ms : mg "super" = none
theorem ps_raiseX {X : Cx} {G : Gs} {W : WX} {k c : Nat} {e : Expr} {x : Str} {p pos pos' : Pos} {m : M Dv} (B : Bx X G W (k + 1)) (Z : Rsx X.prog G X.mg x c) (hg : Gl X x) (he : PE X e (tM G W m)) (hdb : (x == ("__debug__" : Str)) = false := by decide)
    (hs : starEach [e] X.env = (false, eval e X.env) :: starEach [] X.env := by rfl) : PS X (.Raise (some (.Call (.Name x p) [e] [] pos)) none pos') (tMS G W (sRaise c m)) := by
  obtain ⟨⟨C, Bn, nw, ni, tl, f, fI, q, pr, params, body, scope, cda, cc, eC, ef, Y, T, J, iC, tI, hm⟩, ms⟩ := Z
  rw [B.hK] at T J iC tI
  have ha : PA X [e] (tMA G W (aCons m aNil)) := a_cons he a_nil hs
  refine (ps_raise B.calm B.tk (pmk_x Y T J iC tI ms B.room hg hm ha hdb hs)).sm fun D σ H h => ?_
  obtain ⟨A, ρ, S, er, sr, h⟩ := h
  refine ⟨A, ρ, S, er, sr, ?_⟩
  unfold sRaise at h
  show Po G (Wa W σ) A H ((m ρ S).bind fun x S1 => Rz.bind (.ok [] S1) fun xs S2 => .ok (x :: xs) S2) _
  cases em : m ρ S with
  | bad => rw [em] at h; exact h.elim
  | er c' t S1 =>
    rw [em] at h
    exact fun A' H' cls d y s z => h A' H' σ cls d y s (er.kp y.kp) z
  | ok d S1 =>
    rw [em] at h
    cases d with
    | loc n => exact h.elim
    | d t =>
      intro A1 H1 y1 s1 vs rv
      cases rv with
      | @cons _ v _ vr r1 r2 =>
        cases r2
        refine ⟨v, rfl, fun dx hd => ?_⟩
        have y2 : Ext A1 H1 A1 (upd H1 dx (.xd [(f, v)])) := Ext.new hd
        refine h A1 _ σ _ _ (y1.trans y2) (s1.new hd) (er.kp (y1.trans y2).kp) ⟨eC.symm, .inr ⟨dx, f, v, ef, rfl, s1.out hd, upd_same, RV.kp r1 y2.kp⟩⟩
end Sm
set_option maxHeartbeats 1000000
/-! Ex4: try: .. except (A, B, ..) as n: v = n, the exception kept in v behind the suite. -/
namespace Sm
open PySem PySem.Spec PyProof.Rows L2
/-- the classes that a clause names -/
inductive NmL (X : Cx) : List Expr → List Value → Prop
  | nil : NmL X [] []
  | cons {x : Str} {c : Value} {p : Pos} {es : List Expr} {cs : List Value} : Names X x c → NmL X es cs → NmL X (.Name x p :: es) (c :: cs)
section
variable {X : Cx} {pins : List (Addr × Obj)} {σ : L2.St} {H : Hp} {s : Shared}
end
section
variable {X : Cx} {es : List Expr} {cs : List Value} {n v : Str} {i j kx : Nat} {body : List Stmt} {np pos pos' p1 p2 p3 : Pos} {tb : WX → TS} {W : WX}
end
end Sm
set_option maxHeartbeats 1000000
/-! Ex5: try by mirrors; isinstance of a kept exception, its field. -/
namespace Sm
open PySem PySem.Spec PyProof.Rows L2
/-- what is known of the class number c -/
structure Exk (G : Gs) (c : Nat) (f : Str) : Prop where
  cl : ∃ D, G.exc c = .ref D ∧ ExcC G.K D ∧ PySem.W.findIn G.K (.ref D) f = some none
  fl : G.fld c = some f
/-! ### try -/
section
variable {X : Cx} {G : Gs} {W : WX} {k : Nat} {es : List Expr} {cs : List Value} {n v : Str} {i j kx : Nat} {body : List Stmt} {np pos pos' p1 p2 p3 : Pos} {mb : SM} {hit : Nat → Option Bool}
end
/-! ### a kept exception asked -/
section
open PySem.W
variable {prog : Program} {w : World} {A : Around} {E : Value → Shared → Prop} {s : Shared} {K : Frag} {x D : Addr} {ox od : Obj}
end
section
variable {X : Cx} {pins : List (Addr × Obj)} {σ : L2.St} {H : Hp} {s : Shared}
end
section
variable {X : Cx} {G : Gs} {W : WX} {k : Nat} {e T : Expr} {es : List Expr} {p pos tpos : Pos} {m : M Dv} {f : Nat → Option Bool}
end
end Sm
set_option maxHeartbeats 1000000
/-! Ex6: the rules of exceptions as the printed walks use them. -/
namespace Sm
open PySem PySem.Spec PyProof.Rows L2
def ExkR (G : Gs) (n : Nat) (fs : List Str) : Prop := ∀ c, c < n → ∃ f, fs[c]? = some f ∧ Exk G c f
section
variable {G : Gs} {a b : List Bool} {u : Value} {us : List Value}
end
section
open PySem.W
variable {K : Frag} {t : Value} {C : Addr} {b : Bool}
theorem along_V (K : Frag) : alongIn K "__init__" [.type "ValueError", .type "Exception", .type "BaseException", .type "object"] = some (some (.builtin "ValueError.__init__")) := by kernel_rfl
end
section
variable {X : Cx} {G : Gs} {W : WX} {k : Nat} {e : Expr} {x : Str} {p pos pos' tpos : Pos} {m : M Dv} {bs : List Bool}
theorem yraise {c : Nat} (B : Bx X G W k) (hk : 1 ≤ k) (Z : Rsx X.prog G X.mg x c) (he : PE X e (tM G W m)) (hg : Gl X x := by rfl) (hdb : (x == ("__debug__" : Str)) = false := by decide)
    (hs : starEach [e] X.env = (false, eval e X.env) :: starEach [] X.env := by rfl) : PS X (.Raise (some (.Call (.Name x p) [e] [] pos)) none pos') (tMS G W (sRaise c m)) :=
  ps_raiseX (k := 0) (B.le hk) Z hg he hdb hs
end
end Sm
/-! HeM: a sheet that raises NoHousehold (class number 0). -/
namespace He
open PySem PySem.Spec PyProof.Rows L2 Sm Hn
end He
/-! HeR: the mirrors of both. -/
/-! Sm56 (printed by Sm56.py from Sm45): tuple(d.items()) that makes a tuple without a dict. -/
namespace Sm
open PySem PySem.Spec PyProof.Rows L2
section
variable {X : Cx} {G : Gs} {W : WX} {kk : Nat} {e : Expr} {apos cpos : Pos}
end
end Sm
/-! Sm57: a tuple without a dict whose parts are read as plain data; a call whose answer is read as plain data. -/
namespace Sm
open PySem PySem.Spec PyProof.Rows L2
section
variable {X : Cx} {G : Gs} {W : WX} {k : Nat} {e : Expr} {A : Al} {H : Hp}
end
end Sm
/-! Sm58: call of an instance by its own method; isinstance of own classes; sum(d.values()). -/
namespace Sm
open PySem PySem.Spec PyProof.Rows L2
section
variable {X : Cx} {G : Gs} {W : WX} {k n : Nat} {f : Addr} {F : FM} {c : Nat} {pos : Pos} {e fe : Expr} {es : List Expr} {mo : M Dv} {ma : M (List Dv)}
end
/-! ### isinstance of own classes -/
/-- a slotted class whose instances may be asked for their class -/
structure ClK (K : PySem.W.Frag) (C : Addr) : Prop where
  cl : SlX.SCls K C
  ha : PySem.W.findIn K (.ref C) "__class__" = some (some (.builtin "object.__class__"))
  hn : PySem.W.specialIn K (.builtin "object.__class__") "__get__" = some (some (.builtin "getset_descriptor.__get__"))
  htk : PySem.W.takesIn K (.builtin "object.__class__") = some true
  hm : PySem.W.mroIn K C (.type "object") = some true
/-- of n own classes: c among them -/
structure IsC (G : Gs) (n c : Nat) : Prop where
  own : ∀ c', c' < n → ClK G.K (G.cls c') ∧ PySem.W.kitOne G.K (.ref (G.cls c')) (.ref (G.cls c)) = some (c' == c)
  ty : ∀ T ∈ tyL, PySem.W.kitOne G.K (.type T) (.ref (G.cls c)) = some false
section
variable {X : Cx} {G : Gs} {W : WX} {k n c : Nat} {p pos : Pos} {e T : Expr} {m : M Dv}
end
/-! ### sum(d.values()) -/
section
variable {X : Cx} {G : Gs} {W : WX} {kk : Nat} {e : Expr} {apos cpos : Pos}
end
end Sm
/-! Sm59: t[::-1] of a tuple. -/
namespace Sm
open PySem PySem.Spec PyProof.Rows L2
section
variable {prog : Program} {w : World} {A : Around} {E : Value → Shared → Prop} {s : Shared}
end
section
variable {X : Cx} {G : Gs} {W : WX} {kk : Nat} {e : Expr}
end
end Sm
/-! Sm60: [*box, ..] of a live box. -/
namespace Sm
open PySem PySem.Spec PyProof.Rows L2
section
variable {X : Cx} {G : Gs} {W : WX} {p : Pos} {e : Expr} {es : List Expr} {ma : M (List Dv)} {mo : M Dv}
end
end Sm
set_option maxHeartbeats 1000000
/-! Sm61: a class made with *parts; classmethods. -/
namespace Sm
open PySem PySem.Spec PyProof.Rows L2
/-- a class, called by position; its __init__ takes any number -/
structure CalIV (P : Program) (w : World) (G : Gs) (mg : Str → Option Value) (base : Heap) (k c : Nat) (x : Str) (F : FM) : Prop where
  ex : ∃ f, mg x = some (.ref (G.cls c)) ∧ Mk G.K (G.cls c) f ∧ CallR' P w G mg base k f F
section
variable {X : Cx} {G : Gs} {W : WX} {k n : Nat} {f : Addr} {F : FM} {x : Str} {p pos sp_ : Pos} {e : Expr} {es : List Expr} {ma : M (List Dv)} {mo : M Dv} {c : Nat}
theorem runMakeV {pins : List (Addr × Obj)} {σ : L2.St} {H : Hp} {s : Shared} {Q : VK} {us : List Value} {vs : List V} (M : Mk X.K (G.cls c) f) (R : CallR' X.prog X.w G X.mg X.base k f F) (B : Bx X G W (k + 1)) (I : Inv X pins σ H s) (r : Vals vs us)
    (h : ∀ x dx, H x = none → H dx = none → dx ≠ x → SpM G F (V.ref x :: vs) (upd (upd H dx (.own x)) x (.ins (G.cls c) dx [])) (fun v H2 => v = .non ∧ Q (.ref x) H2) (Wa W σ)) :
    wpAny (model X.prog X.w) X.A (call (.ref (G.cls c)) us []) (EP X pins σ Q) X.xe s := by
  have hq := h (s.heap.objs.size + 1) s.heap.objs.size (I.hok.fresh (Nat.le_succ _)) (I.hok.fresh (Nat.le_refl _)) (Nat.ne_of_lt (Nat.lt_succ_self _))
  have I2 := Inv.made (C := G.cls c) I
  have r2 : Vals (V.ref (s.heap.objs.size + 1) :: vs) (Value.ref (s.heap.objs.size + 1) :: us) := .cons rfl r
  refine wpAny_call (make_map (f := f) I.kIn M.makes M.init (beq_iff_eq.mp M.fn) (codeAny_mono (R _ X.stack _ _ (Value.ref (s.heap.objs.size + 1) :: us) _ _ (Wa W σ) (B.room.make (G.cls c) us []) (by rw [B.hK]; exact I2.env0.make (G.cls c) us []) r2 hq) fun r s' hq' => ?_))
  cases r with
  | error e => exact passAt B.tk σ pins _ _ e s' I2 hq'
  | ok fl =>
    cases fl with
    | ret u =>
      obtain ⟨v, H', I3, rv, ev, q3⟩ := I2.after hq'
      subst ev
      exact ⟨rv, ⟨V.ref (s.heap.objs.size + 1), H', I3, rfl, q3⟩⟩
    | next => exact False.elim hq'
    | brk => exact False.elim hq'
    | cont => exact False.elim hq'
theorem mk_spec {A1 : Al} {σ : L2.St} {S1 : Sto} {H1 : Hp} {ds : List Dv} {vs : List V} {Q : VK} (s1 : StR G A1 S1 H1) (rvs : RDs G A1 H1 ds vs) (p1 : Po G (Wa W σ) A1 H1 (isoMk c F ds S1) (kD G Q)) :
    ∀ x dx, H1 x = none → H1 dx = none → dx ≠ x → SpM G F (V.ref x :: vs) (upd (upd H1 dx (.own x)) x (.ins (G.cls c) dx [])) (fun v H2 => v = .non ∧ Q (.ref x) H2) (Wa W σ) := by
  obtain ⟨A2, S2, ds2, s2, r2, p2⟩ := makeD_po s1 rvs p1
  exact make_po s2 r2 p2
/-- x(*y) -/
theorem ymakeDS (R : CalIV X.prog X.w G X.mg X.base k c x F) (B : Bx X G W (k + 1)) (he : PE X e (tM G W mo)) (hg : Gl X x := by rfl) (hdb : (x == ("__debug__" : Str)) = false := by decide)
    (hst : starEach [.Starred e sp_] X.env = [(true, eval e X.env)] := by rfl) : PE X (.Call (.Name x p) [.Starred e sp_] [] pos) (tM G W (mF (isoMk c F) (aStar mo aNil))) := by
  obtain ⟨f, hm, M, R⟩ := R.ex
  rw [B.hK] at M
  refine ⟨fun pins s σ H Q I h => ?_⟩
  obtain ⟨A, ρ, S, he', hs, p0⟩ := h
  refine wpAny_Call_Name_kw (ld_glob I hg hm ?_ hdb)
  have p0' : Po G (Wa W σ) A H ((mo ρ S).bind fun x S1 => (li (seqOf x) S1).bind fun ts S2 => isoMk c F (ts.map .d ++ []) S2) (kD G Q) := by
    have e : mF (isoMk c F) (aStar mo aNil) ρ S = (mo ρ S).bind fun x S1 => (li (seqOf x) S1).bind fun ts S2 => isoMk c F (ts.map .d ++ []) S2 := by
      unfold mF aStar aNil
      cases mo ρ S with
      | ok d S1 =>
        simp only [bind_ok]
        cases seqOf d <;> rfl
      | er c t S1 => rfl
      | bad => rfl
    rw [← e]
    exact p0
  refine PySem.W.callWith_S (h₀ := X.base) I.ok.mod.kin M.kp (thn (he.run pins s σ H (fun y H1 => ∃ a xs, y = V.ref a ∧ (SqT X.K H1 a xs ∨ SqL X.K H1 a xs) ∧ ∀ x dx, H1 x = none → H1 dx = none → dx ≠ x → SpM G F (V.ref x :: xs) (upd (upd H1 dx (.own x)) x (.ins (G.cls c) dx [])) (fun v H2 => v = .non ∧ Q (.ref x) H2) (Wa W σ)) I
    ⟨A, ρ, S, he', hs, Po.step p0' fun d S1 A1 H1 x1 s1 p1 v rv => ?_⟩) fun v s1 ⟨y, H1, I1, ry, a, xs, ey, hxs, q⟩ => ?_) hst
  · obtain ⟨ts, e1, kk⟩ := li_bd p1
    obtain ⟨a, vs, ev, hq, rvs⟩ := seqOf_rd e1 rv
    rw [B.hK] at hq
    rw [List.append_nil] at kk
    exact ⟨a, vs, ev, hq, mk_spec s1 (RVs.rds rvs) kk⟩
  · subst ey
    obtain rfl : v = Value.ref a := ry
    exact StX.star_any I1 hxs fun us s2 I2 rv => ⟨I2.kIn, runMakeV M R B I2 rv q⟩
end
/-! ### classmethods: the class itself is of no matter -/
def SpC (G : Gs) (F : FM) : Sp := fun vs H Q E => ∃ v0 ws, vs = v0 :: ws ∧ SpM G F ws H Q E
/-- what a classmethod's body gives: n names, the class, p parameters -/
def runC (n p : Nat) (b : SM) : FM := fun ds S => if ds.length = p then (match b (none :: ds.map some ++ List.replicate (n - p - 1) none) S with
  | .nx _ S' => .ok (.d .non) S'
  | .rt d S' => .ok d S'
  | .er c t _ S' => .er c t S'
  | _ => .bad) else .bad
theorem EnvR.cons0 {G : Gs} {A : Al} {H : Hp} {ρ : Env} {σ : L2.St} {v : Option V} (h : EnvR G A H ρ σ) : EnvR G A H (none :: ρ) (v :: σ) := by
  obtain ⟨h1, h2⟩ := h
  refine ⟨by simp [h1], fun i d e => ?_⟩
  cases i with
  | zero => cases e
  | succ i => exact h2 i d e
section
variable {P : Program} {w : World} {G : Gs} {mg : Str → Option Value} {base : Heap}
theorem fn_okC {x qual : Str} {st : Stmt} {f : Addr} {fd : FuncData} {N ps : List Str} {k n p : Nat} {b : SM} (hn : N.length = n) (hps : ps.length = p + 1) (F : Fun G.K x qual st f fd) (S : FnScope N ps (defScope st))
    (hbody : ∀ (cdv : Value) (A : Around) (outer : List PySem.Env) (s : Shared) (H : Hp) (E : XK), Bx (cxOf (L2.CX P w) P w G.K mg base N qual (defScope st) f cdv A outer s H E) G (fun c d _ H' => E c d H') k →
      PassesOwn (model P w) (A.deeper (envOfC qual (defScope st) s.heap.objs.size f cdv)) (envOfC qual (defScope st) s.heap.objs.size f cdv) (cxOf (L2.CX P w) P w G.K mg base N qual (defScope st) f cdv A outer s H E).xe →
      PSs (cxOf (L2.CX P w) P w G.K mg base N qual (defScope st) f cdv A outer s H E) (defBody st) (tMS G (fun c d _ H' => E c d H') b)) :
    FnOk P w G.K mg base (L2.CX P w) (k + 1) f fd ps (SpC G (runC n p b)) := by
  subst hn
  refine F.okX S (fun vs H Q E h => ?_) (fun cdv A outer s H vs Q E hr h => ?_)
  · obtain ⟨v0, ws, rfl, A, S', ds, r, s, q⟩ := h
    unfold runC at q
    split at q
    · rename_i e
      rw [List.length_cons, ← Paired.length r, e, hps]
    · exact q.elim
  · refine ⟨_, hbody cdv A outer s H E ⟨rfl, S.nd, takes_of rfl rfl rfl rfl, rfl, hr⟩ (passes_of rfl), ?_⟩
    obtain ⟨v0, ws, rfl, A', S', ds, r, s', q⟩ := h
    unfold runC at q
    split at q
    · rename_i e
      refine ⟨A', none :: ds.map some ++ List.replicate (N.length - p - 1) none, S', ?_, s', ?_⟩
      · have h0 := (start_rds (N.length - (ws.length + 1)) r).cons0 (v := some v0)
        rw [show N.length - p - 1 = N.length - (ws.length + 1) by rw [← Paired.length r, e]; omega]
        exact h0
      · cases eb : b (none :: ds.map some ++ List.replicate (N.length - p - 1) none) S' with
        | nx ρ S1 =>
          rw [eb] at q
          exact fun A1 H1 σ1 y s1 e1 => q A1 H1 y s1 .non rfl
        | rt d S1 =>
          rw [eb] at q
          exact fun A1 H1 v y s1 e1 => q A1 H1 y s1 v e1
        | er c t ρ S1 =>
          rw [eb] at q
          exact fun A1 H1 σ1 cls d y s1 e1 x1 => q A1 H1 cls d y s1 x1
        | bk ρ S1 =>
          rw [eb] at q
          exact q.elim
        | ct ρ S1 =>
          rw [eb] at q
          exact q.elim
        | bad =>
          rw [eb] at q
          exact q.elim
    · exact q.elim
/-- C.m(..) -/
structure CalC (P : Program) (w : World) (G : Gs) (mg : Str → Option Value) (base : Heap) (k c : Nat) (x m : Str) (n : Nat) (F : FM) : Prop where
  ex : ∃ mc q g, mg x = some (.ref (G.cls c)) ∧ ClX.CRead G.K (G.cls c) mc ∧ ClX.CMet G.K (G.cls c) mc m q g ∧ FnR P w G.K mg base (L2.CX P w) k g (SpC G F)
theorem FnOk.cls {k : Nat} {f : Addr} {fd : FuncData} {ps : List Str} {F : FM} (h : FnOk P w G.K mg base (L2.CX P w) k f fd ps (SpC G F)) (hb : Binds G.K fd ps []) : FnR P w G.K mg base (L2.CX P w) k f (SpC G F) := by
  have := h.raw hb .nil
  simpa using this
theorem SpC.iso {F : FM} {vs : List V} {H : Hp} {Q : VK} {E : XK} (h : SpC G (iso F) vs H Q E) : SpC G F vs H Q E := by
  obtain ⟨v0, ws, e, q⟩ := h
  exact ⟨v0, ws, e, SpM.iso q⟩
theorem FnR.isoC {k : Nat} {f : Addr} {F : FM} (h : FnR P w G.K mg base (L2.CX P w) k f (SpC G F)) : FnR P w G.K mg base (L2.CX P w) k f (SpC G (Sm.iso F)) := h.imp fun _ _ _ _ q => q.iso
end
section
variable {X : Cx} {G : Gs} {W : WX} {k n : Nat} {f : Addr} {F : FM} {x m : Str} {p pos apos : Pos} {e : Expr} {es : List Expr} {ma : M (List Dv)} {c : Nat}
theorem run_cmS {pins : List (Addr × Obj)} {σ : L2.St} {H : Hp} {s : Shared} {C q g : Addr} {us : List Value} {vs : List V} {Q : VK} (R : FnR X.prog X.w X.K X.mg X.base (L2.CX X.prog X.w) k g (SpC G F)) (B : Bx X G W k) (I : Inv X ((q, PySem.W.methodObj (.ref g) (.ref C)) :: pins) σ H s)
    (r : Vals vs us) (h : SpM G F vs H Q (Wa W σ)) : wpAny (model X.prog X.w) X.A (call (.ref q) us) (EP X pins σ Q) X.xe s := by
  have z : wpAny (model X.prog X.w) X.A (call (.ref q) us) (EP X ((q, PySem.W.methodObj (.ref g) (.ref C)) :: pins) σ Q) X.xe s := by
    refine wpAny_call (PySem.W.method_call (ClX.pin_at I) (codeAny_mono (R X.A X.stack s H (.ref C :: us) (V.ref C :: vs) Q (Wa W σ) B.room I.env0 (.cons rfl r) ⟨_, _, rfl, h⟩) fun r s' hq => ?_))
    cases r with
    | error e => exact passAt B.tk σ _ H s e s' I hq
    | ok fl =>
      cases fl with
      | ret u => exact I.after hq
      | next => exact False.elim hq
      | brk => exact False.elim hq
      | cont => exact False.elim hq
  exact thn z fun _ _ y => ClX.unpinE y
theorem yclsm {pl : Sem Bool} (R : CalC X.prog X.w G X.mg X.base k c x m n F) (B : Bx X G W k) (ha : PA X (e :: es) (tMA G W ma)) (hg : Gl X x := by rfl) (hdb : (x == ("__debug__" : Str)) = false := by decide)
    (hst : starEach (e :: es) X.env = (false, eval e X.env) :: starEach es X.env := by rfl) (hpl : (backTo pos (starEach es X.env)).any (·.1) = false := by rfl)
    (ht : eval (.Call (.Attribute (.Name x p) m apos) (e :: es) [] pos) X.env = (do
      let ov ← eval (.Name x p) X.env
      standAt apos.atName
      let (f, first) ← holding [ov] (getMethod ov m pl)
      callWith pos f first (backTo pos (starEach (e :: es) X.env)) (backToKw pos (keywordEach [] X.env))) := by rfl) :
    PE X (.Call (.Attribute (.Name x p) m apos) (e :: es) [] pos) (tM G W (mF F ma)) := by
  obtain ⟨mc, q0, g, hm, hr, hc, R⟩ := R.ex
  rw [B.hK] at hr hc R
  have he : PE X (.Name x p) (tC (.ref (G.cls c))) := pe_glob hg hm rfl hdb
  refine ⟨fun pins s σ H Q I h => ?_⟩
  obtain ⟨A, ρ, S, he', hs, p0⟩ := h
  refine PySem.W.methodCall_KW (pl := pl) (thn (he.run pins s σ H (fun y H1 => y = .ref (G.cls c) ∧ H1 = H) I ⟨rfl, rfl⟩) fun u s1 ⟨y, H1, I1, rx, ex, eH⟩ => ?_) ht
  subst ex eH
  obtain rfl : u = Value.ref (G.cls c) := rx
  refine ClX.getmethcm_ok I1 hr hc fun s2 I2 => ?_
  refine ClX.callwith_cm I2 (ClX.base_none I1 (Nat.le_refl _)) hc.fi (thn (ha.run pos _ s2 σ H1 (fun vs H2 => SpM G F vs H2 Q (Wa W σ)) I2 ⟨A, ρ, S, he', hs, Po.step p0 fun ds S1 A1 H2 x1 s1 p1 vs rvs => ⟨A1, S1, ds, rvs, s1, p1⟩⟩) fun us s3 ⟨vs, H2, I3, rv, q2⟩ => ⟨⟨ClX.pin_at I3, I3.kIn⟩, ?_⟩) hst hpl
  exact run_cmS R B I3 rv q2
end
end Sm
set_option maxHeartbeats 1000000
/-! Sm62: {k: v for x in a for y in b}: the walk. -/
namespace Sm
open PySem PySem.Spec PyProof.Rows L2
abbrev dC2 (kx vx t0 i0 t1 i1 : Expr) (ifs0 ifs1 : List Expr) (scope : Scope) (pos : Pos) : Expr := .DictComp kx vx [⟨t0, i0, ifs0, 0⟩, ⟨t1, i1, ifs1, 0⟩] scope pos
def testsS (ifs : List Expr) (env : PySem.Env) : Sem Bool := forIn ifs true fun c r => if r = true then do let ok ← isTrue c env (eval c env); pure (ForInStep.yield ok) else pure (ForInStep.yield r)
/-- one clause's turn: its item, its store, its tests -/
def ClT (prog : Program) (w : World) (A : Around) (E : Value → Shared → Prop) (tg : Expr) (ifs : List Expr) (it : Value) (env : PySem.Env) (stop : Shared → Prop) (yes no : Shared → Prop) (s : Shared) : Prop :=
  wpAny (model prog w) A (pyNext it) (fun r s1 => match r with
    | none => stop s1
    | some v => wpAny (model prog w) A (letOwnedTupleGo tg it v) (fun _ s2 => wpAny (model prog w) A (assign tg env v) (fun _ s3 => wpAny (model prog w) A (testsS ifs env) (fun ok s4 => if ok = true then yes s4 else no s4) E s3) E s2) E s1) E s
section
variable {prog : Program} {w : World} {A : Around} {R : Result → Shared → Prop} {s : Shared} {kx vx t0 i0 t1 i1 : Expr} {ifs0 ifs1 : List Expr} {scope : Scope} {pos : Pos} {it : Value} {D : Addr} {env : PySem.Env}
abbrev EnR (prog : Program) (w : World) (A : Around) (env : PySem.Env) (R : Result → Shared → Prop) : Value → Shared → Prop := notedBy (model prog w) A env fun e s' => R (.error e) s'
theorem dturn0 : compTurn (dC2 kx vx t0 i0 t1 i1 ifs0 ifs1 scope pos) 0 it (.ref D) env = (do
    standAt i0.pos
    match ← pyNext it with
    | none => pure (.done .next)
    | some v =>
      letOwnedTupleGo t0 it v
      assign t0 env v
      let ok ← testsS ifs0 env
      if ok then
        let x ← eval i1 env
        standAt i1.pos
        let x ← foldedSetIterable i1 env x
        let _ ← runOwn (.compStart (dC2 kx vx t0 i0 t1 i1 ifs0 ifs1 scope pos) 1 (← holding [x] (pyIter x)) (.ref D) env) env
      again (.compLoop (dC2 kx vx t0 i0 t1 i1 ifs0 ifs1 scope pos) 0 it (.ref D) env)) := by rfl
theorem dturn1 : compTurn (dC2 kx vx t0 i0 t1 i1 ifs0 ifs1 scope pos) 1 it (.ref D) env = (do
    standAt i1.pos
    match ← pyNext it with
    | none => pure (.done .next)
    | some v =>
      letOwnedTupleGo t1 it v
      assign t1 env v
      let ok ← testsS ifs1 env
      if ok then
        (do
          let kv ← eval kx env
          let vv ← holding [kv] (eval vx env)
          standAt { kx.pos with endLine := vx.pos.endLine, endCol := vx.pos.endCol }
          holding [kv, vv] (dictSet D kv vv))
      again (.compLoop (dC2 kx vx t0 i0 t1 i1 ifs0 ifs1 scope pos) 1 it (.ref D) env)) := by rfl
theorem dloop0 (hs : ∀ x, foldedSetIterable i1 env x = pure x) (I : Nat → Shared → Prop)
    (turn : ∀ n s, I n s → ClT prog w A (EnR prog w A env R) t0 ifs0 it env (R (.ok .next)) (fun s3 => wpAny (model prog w) A (eval i1 env) (fun x s4 => wpAny (model prog w) A (pyIter x) (fun it1 s5 =>
        codeAny (model prog w) A (.compStart (dC2 kx vx t0 i0 t1 i1 ifs0 ifs1 scope pos) 1 it1 (.ref D) env) (fun r s' => match r with
          | .ok _ => ∃ m, m < n ∧ I m s'
          | .error _ => False) s5) (EnR prog w A env R) s4) (EnR prog w A env R) s3) (fun s3 => ∃ m, m < n ∧ I m s3) s)
    (n : Nat) (h : I n s) : codeAny (model prog w) A (.compLoop (dC2 kx vx t0 i0 t1 i1 ifs0 ifs1 scope pos) 0 it (.ref D) env) R s := by
  refine codeAny_loop rfl I (fun n s hI => ?_) n h
  show wpAny _ A ((compTurn (dC2 kx vx t0 i0 t1 i1 ifs0 ifs1 scope pos) 0 it (.ref D) env).onRaise (fun x => do noteFrame x env; theTreesLotGoes x)) _ _ s
  refine wpAny_noted ?_
  rw [dturn0]
  have t := turn n s hI
  unfold ClT at t
  refine wpAny_bind (wpAny_standAt (wpAny_bind (wpAny_mono t (fun r s1 h1 => ?_) fun _ _ h' => h')))
  cases r with
  | none => exact wpAny_pure h1
  | some v =>
    refine wpAny_bind (wpAny_mono h1 (fun _ s2 h2 => wpAny_bind (wpAny_mono h2 (fun _ s3 h3 => wpAny_bind (wpAny_mono h3 (fun ok s4 h4 => ?_) fun _ _ h' => h')) fun _ _ h' => h')) fun _ _ h' => h')
    by_cases e : ok = true
    · subst e
      refine wpAny_bind (wpAny_mono (show wpAny _ _ (eval i1 env) _ _ s4 from h4) (fun x s5 h5 => ?_) fun _ _ h' => h')
      refine wpAny_bind (wpAny_standAt (wpAny_bind (wpAny_of_eq (hs x) (wpAny_bind (wpAny_holding (wpAny_mono h5 (fun it1 s6 h6 => ?_) fun _ _ h' => h'))))))
      refine wpAny_bind (wpAny_runOwn ?_)
      rw [Around.mark_none]
      refine codeAny_mono h6 fun r s' hr => ?_
      cases r with
      | error e => exact hr.elim
      | ok f =>
        first
          | exact wpAny_pure ⟨rfl, hr⟩
          | exact wpAny_bind (wpAny_pure (wpAny_pure ⟨rfl, hr⟩))
    · have e' : ok = false := by simpa using e
      subst e'
      exact wpAny_pure ⟨rfl, h4⟩
theorem dloop1 (I : Nat → Shared → Prop)
    (turn : ∀ n s, I n s → ClT prog w A (EnR prog w A env R) t1 ifs1 it env (R (.ok .next)) (fun s3 => wpAny (model prog w) A (eval kx env) (fun kv s4 => wpAny (model prog w) A (eval vx env) (fun vv s5 =>
        wpAny (model prog w) A (dictSet D kv vv) (fun _ s6 => ∃ m, m < n ∧ I m s6) (EnR prog w A env R) s5) (EnR prog w A env R) s4) (EnR prog w A env R) s3) (fun s3 => ∃ m, m < n ∧ I m s3) s)
    (n : Nat) (h : I n s) : codeAny (model prog w) A (.compLoop (dC2 kx vx t0 i0 t1 i1 ifs0 ifs1 scope pos) 1 it (.ref D) env) R s := by
  refine codeAny_loop rfl I (fun n s hI => ?_) n h
  show wpAny _ A ((compTurn (dC2 kx vx t0 i0 t1 i1 ifs0 ifs1 scope pos) 1 it (.ref D) env).onRaise (fun x => do noteFrame x env; theTreesLotGoes x)) _ _ s
  refine wpAny_noted ?_
  rw [dturn1]
  have t := turn n s hI
  unfold ClT at t
  refine wpAny_bind (wpAny_standAt (wpAny_bind (wpAny_mono t (fun r s1 h1 => ?_) fun _ _ h' => h')))
  cases r with
  | none => exact wpAny_pure h1
  | some v =>
    refine wpAny_bind (wpAny_mono h1 (fun _ s2 h2 => wpAny_bind (wpAny_mono h2 (fun _ s3 h3 => wpAny_bind (wpAny_mono h3 (fun ok s4 h4 => ?_) fun _ _ h' => h')) fun _ _ h' => h')) fun _ _ h' => h')
    by_cases e : ok = true
    · subst e
      exact wpAny_bind (wpAny_bind (wpAny_mono (show wpAny _ _ (eval kx env) _ _ s4 from h4) (fun kv s5 h5 => wpAny_bind (wpAny_holding (wpAny_mono h5 (fun vv s6 h6 => wpAny_bind (wpAny_standAt (wpAny_holding (wpAny_mono h6 (fun _ s7 h7 => wpAny_pure ⟨rfl, h7⟩) fun _ _ h' => h')))) fun _ _ h' => h'))) fun _ _ h' => h'))
    · have e' : ok = false := by simpa using e
      subst e'
      exact wpAny_pure ⟨rfl, h4⟩
theorem dstart1 (h0 : codeAny (model prog w) A (.compLoop (dC2 kx vx t0 i0 t1 i1 ifs0 ifs1 scope pos) 1 it (.ref D) env) R s)
    (h : wpAny (model prog w) A (pyIter it) (fun it' s' => codeAny (model prog w) A (.compLoop (dC2 kx vx t0 i0 t1 i1 ifs0 ifs1 scope pos) 1 it' (.ref D) env) R s') (EnR prog w A env R) s) :
    codeAny (model prog w) A (.compStart (dC2 kx vx t0 i0 t1 i1 ifs0 ifs1 scope pos) 1 it (.ref D) env) R s := by
  refine codeAny_of_tree ?_
  show wpAny _ _ ((compStart (dC2 kx vx t0 i0 t1 i1 ifs0 ifs1 scope pos) 1 it (.ref D) env).onRaise (fun x => do noteFrame x env; standAt theWindowsPlace)) _ _ s
  refine wpAny_notedAt ?_
  unfold compStart
  show wpAny _ _ (ask >>= _) _ _ s
  refine wpAny_bind (wpAny_askSetting (wpAny_ite ?_))
  split
  · first
      | exact wpAny_bind (wpAny_pure (wpAny_pure (And.intro rfl h0)))
      | exact wpAny_pure (And.intro rfl h0)
  · refine wpAny_bind (wpAny_rule ?_)
    first
      | exact wpAny_bind (wpAny_standAt (wpAny_bind (wpAny_mono h (fun it' s' h' => wpAny_pure (And.intro rfl h')) fun _ _ x => x)))
      | (show wpAny _ _ (standAt i1.pos >>= _) _ _ s; exact wpAny_bind (wpAny_standAt (wpAny_bind (wpAny_mono h (fun it' s' h' => wpAny_pure (And.intro rfl h')) fun _ _ x => x))))
end
/-- a clause's turn in a context: it stops, or an item comes and is stored; while the turn lasts the iterator's objects are pinned -/
theorem clT_run {Y : Cx} {pins : List (Addr × Obj)} {σ : L2.St} {H : Hp} {s : Shared} {tg : Expr} {ifs : List Expr} {J : It} {fp : List Addr} {ita : Addr} {tn : Nat → Heap → Prop} {g : TG} {tt : TT} {i : Nat} {E : Value → Shared → Prop} {stop yes no : Shared → Prop}
    (hc : Y.calm = true) (hE : ∀ u s, Y.xe u s → E u s) (T : Turn Y.prog Y.w Y.K tg J fp ita tn) (I : Inv Y pins σ H s) (nf : ∀ b ∈ fp, FpOk Y pins H b) (st : tn i s.heap) (pg : PG Y tg g) (pt : PTs Y ifs tt)
    {Pw : L2.St → Prop} {Qt : L2.St → Bool → Hp → Prop}
    (h : (J.stop i H ∧ ∀ s', Inv Y pins σ H s' → stop s') ∨ (J.go i H ∧ ∀ x H', J.yld i H x H' → g x σ H' fun σ2 H2 => Pw σ2 ∧ tt σ2 H2 fun b H3 => Qt σ2 b H3))
    (k : ∀ σ2 b H3 s' pn, Pw σ2 → Qt σ2 b H3 → (∀ σ' H' s'', Inv Y (pins ++ pn) σ' H' s'' → Inv Y pins σ' H' s'' ∧ tn (i + 1) s''.heap ∧ ∀ b ∈ fp, H' b = none) → Inv Y (pins ++ pn) σ2 H3 s' → if b = true then yes s' else no s') :
    ClT Y.prog Y.w Y.A E tg ifs (.ref ita) Y.env stop yes no s := by
  unfold ClT
  rcases h with ⟨hstop, k0⟩ | ⟨hgo, k0⟩
  · refine wpAny_mono (T.done Y rfl rfl rfl hc i pins s σ H E I nf st hstop) (fun r s1 ⟨hr, I1⟩ => ?_) fun _ _ y => y
    subst hr
    exact k0 s1 I1
  · refine wpAny_mono (T.item Y rfl rfl rfl hc i pins s σ H E I nf st hgo) (fun r s1 ⟨u, hr, h1⟩ => ?_) fun _ _ y => y
    subst hr
    refine wpAny_mono h1 (fun _ s2 ⟨x, H2, I2, r2, y2, st2, n2⟩ => ?_) fun _ _ y => y
    have I2' := I2.pinned (fun b hb => ⟨n2 b hb, (nf b hb).2⟩) (T.obj _ _ st2)
    refine wpAny_mono (pg.run _ s2 σ H2 x u _ I2' r2 (k0 x H2 y2)) (fun _ s3 ⟨σ3, H3, I3, w3, q3⟩ => ?_) hE
    refine wpAny_mono (pt.run _ s3 σ3 H3 _ I3 q3) (fun b s4 ⟨H4, I4, q4⟩ => ?_) hE
    refine k σ3 b H4 s4 (pinsAt fp s2.heap) w3 q4 (fun σ' H' s'' I' => ?_) I4
    have at_ : ∀ b ∈ fp, ∀ o, s2.heap.get? b = some o → s''.heap.get? b = some o ∧ H' b = none := fun b hb o e =>
      let z := I'.pin (b, o) (List.mem_append_right _ (List.mem_append_right _ (mem_pinsAt hb e)))
      ⟨z.1, z.2.1⟩
    refine ⟨I'.unpinned, T.keep _ _ _ st2 fun b hb o e => (at_ b hb o e).1, fun b hb => ?_⟩
    obtain ⟨o, e, _⟩ := T.obj _ _ st2 b hb
    exact (at_ b hb o e).2
/-- {k: v for .. if .. for .. if ..}: D the new dict -/
def tDc2 (wi : TI) (g : TG) (tt : TT) (wi1 : TI) (g1 : TG) (tt1 : TT) (tk tv : TE) (vs vs1 : List Nat) : TE := fun σ H Q => wi σ H fun J H1 => ∀ D, H1 D = none → ∃ W : Nat → Nat → Hp → Prop, (∃ m, W 0 m (upd H1 D (.dK []))) ∧ ∀ i m H, W i m H →
  (J.stop i H ∧ Q (.ref D) H) ∨ (J.go i H ∧ ∃ Nx : Hp → Prop, (∀ H', Nx H' → ∃ m', m' < m ∧ W (i + 1) m' H') ∧ ∀ x H', J.yld i H x H' → g x (wipe σ vs) H' fun σ2 H2 => wipe σ2 vs = wipe σ vs ∧ tt σ2 H2 fun b H3 =>
    if b = true then wi1 σ2 H3 fun J1 H4 => ∃ W1 : Nat → Nat → Hp → Prop, (∃ m, W1 0 m H4) ∧ ∀ j k H, W1 j k H →
      (J1.stop j H ∧ Nx H) ∨ (J1.go j H ∧ ∃ Nx1 : Hp → Prop, (∀ H', Nx1 H' → ∃ k', k' < k ∧ W1 (j + 1) k' H') ∧ ∀ x H', J1.yld j H x H' → g1 x (wipe σ2 vs1) H' fun σ3 H5 => wipe σ3 vs1 = wipe σ2 vs1 ∧ tt1 σ3 H5 fun b H6 =>
        if b = true then tk σ3 H6 fun y H7 => tv σ3 H7 fun z H8 => ∃ kvs ky, y = kV ky ∧ H8 D = some (.dK kvs) ∧ kvs.length < sizeLine ∧ Nx1 (upd H8 D (.dK (putK kvs ky z))) else Nx1 H6)
    else Nx H3)
section
variable {X : Cx}
/-- both loops, in the block's context Y -/
theorem dc2_loop {Y : Cx} {R : Result → Shared → Prop} {σ0 : L2.St} {s : Shared} {kx vx tg iter tg1 iter1 : Expr} {ifs ifs1 : List Expr} {scope : Scope} {pos : Pos} {vs vs1 : List Nat} {wi1 : TI} {g g1 : TG} {tt tt1 : TT} {tk tv : TE} {J : It} {fp : List Addr} {ita D : Addr} {tn : Nat → Heap → Prop} {Qd : Hp → Prop} {W : Nat → Nat → Hp → Prop} {m0 : Nat} {H0 : Hp}
    (hc : Y.calm = true) (hE : ∀ u s, Y.xe u s → False) (hv : ∀ i ∈ vs1, i ∈ vs) (hs1 : ∀ x, foldedSetIterable iter1 Y.env x = pure x)
    (pg : PG Y tg g) (pt : PTs Y ifs tt) (pi1 : PI Y tg1 iter1 wi1) (pg1 : PG Y tg1 g1) (pt1 : PTs Y ifs1 tt1) (pk : PE Y kx tk) (pv : PE Y vx tv)
    (T : Turn Y.prog Y.w Y.K tg J fp ita tn) (I0 : Inv Y [] (wipe σ0 vs) H0 s) (st0 : tn 0 s.heap) (n0 : ∀ b ∈ fp, H0 b = none) (fs : ∀ H', (∀ b ∈ fp, H' b = none) → ∀ b ∈ fp, FpOk Y [] H' b) (w0 : W 0 m0 H0)
    (turn : ∀ i m H, W i m H → (J.stop i H ∧ Qd H) ∨ (J.go i H ∧ ∃ Nx : Hp → Prop, (∀ H', Nx H' → ∃ m', m' < m ∧ W (i + 1) m' H') ∧ ∀ x H', J.yld i H x H' → g x (wipe σ0 vs) H' fun σ2 H2 => wipe σ2 vs = wipe σ0 vs ∧ tt σ2 H2 fun b H3 =>
      if b = true then wi1 σ2 H3 fun J1 H4 => ∃ W1 : Nat → Nat → Hp → Prop, (∃ m, W1 0 m H4) ∧ ∀ j k H, W1 j k H →
        (J1.stop j H ∧ Nx H) ∨ (J1.go j H ∧ ∃ Nx1 : Hp → Prop, (∀ H', Nx1 H' → ∃ k', k' < k ∧ W1 (j + 1) k' H') ∧ ∀ x H', J1.yld j H x H' → g1 x (wipe σ2 vs1) H' fun σ3 H5 => wipe σ3 vs1 = wipe σ2 vs1 ∧ tt1 σ3 H5 fun b H6 =>
          if b = true then tk σ3 H6 fun y H7 => tv σ3 H7 fun z H8 => ∃ kvs ky, y = kV ky ∧ H8 D = some (.dK kvs) ∧ kvs.length < sizeLine ∧ Nx1 (upd H8 D (.dK (putK kvs ky z))) else Nx1 H6)
      else Nx H3))
    (fin : ∀ H' s', Inv Y [] (wipe σ0 vs) H' s' → (∀ b ∈ fp, H' b = none) → Qd H' → R (.ok .next) s') :
    codeAny (model Y.prog Y.w) Y.A (.compLoop (dC2 kx vx tg iter tg1 iter1 ifs ifs1 scope pos) 0 (.ref ita) (.ref D) Y.env) R s := by
  refine dloop0 hs1 (fun n s' => ∃ i H', Inv Y [] (wipe σ0 vs) H' s' ∧ tn i s'.heap ∧ (∀ b ∈ fp, H' b = none) ∧ W i n H') ?_ m0 ⟨0, H0, I0, st0, n0, w0⟩
  rintro n s5 ⟨i, H5, I5, st5, n5, w5⟩
  have hEE : ∀ {E : Value → Shared → Prop} u s, Y.xe u s → E u s := fun u s z => (hE u s z).elim
  -- what the turn's end comes to
  have back : ∀ {pn : List (Addr × Obj)} {Nx : Hp → Prop} {σ9 : L2.St} {H' : Hp} {s' : Shared}, (∀ σ' H' s'', Inv Y ([] ++ pn) σ' H' s'' → Inv Y [] σ' H' s'' ∧ tn (i + 1) s''.heap ∧ ∀ b ∈ fp, H' b = none) → (∀ H', Nx H' → ∃ m', m' < n ∧ W (i + 1) m' H') → Inv Y ([] ++ pn) σ9 H' s' →
      (wipe σ0 vs).length = σ9.length → (∀ (j : Nat) v, (wipe σ0 vs)[j]? = some (some v) → σ9[j]? = some (some v)) → Nx H' → ∃ m, m < n ∧ ∃ i H', Inv Y [] (wipe σ0 vs) H' s' ∧ tn i s'.heap ∧ (∀ b ∈ fp, H' b = none) ∧ W i m H' := fun {pn Nx σ9 H' s'} un hNx I' hl hk nx => by
    obtain ⟨I2, t2, n2⟩ := un _ _ _ I'
    obtain ⟨m', hm, w'⟩ := hNx _ nx
    exact ⟨m', hm, i + 1, H', I2.weak hl hk, t2, n2, w'⟩
  rcases turn i n H5 w5 with ⟨stop, qq⟩ | ⟨go, Nx, hNx, step⟩
  · exact clT_run (Pw := fun _ => False) (Qt := fun _ _ _ => False) hc hEE T I5 (fs H5 n5) st5 pg pt (.inl ⟨stop, fun s' I' => fin H5 s' I' n5 qq⟩) fun _ _ _ _ _ z => z.elim
  · refine clT_run hc hEE T I5 (fs H5 n5) st5 pg pt (.inr ⟨go, step⟩) fun σ8 b H9 s9 pn hw8 q9 un I9 => ?_
    have hl8 : (wipe σ0 vs).length = σ8.length := by rw [← hw8, wipe_length]
    have hk8 : ∀ (j : Nat) v, (wipe σ0 vs)[j]? = some (some v) → σ8[j]? = some (some v) := fun j v e => by
      rw [← hw8] at e
      exact (wipe_some e).1
    have hk9 : ∀ (j : Nat) v, (wipe σ0 vs)[j]? = some (some v) → (wipe σ8 vs1)[j]? = some (some v) := fun j v e => by
      rw [← hw8] at e
      obtain ⟨e1, e2⟩ := wipe_some e
      rw [wipe_out fun z => e2 (hv j z)]
      exact e1
    cases b with
    | false =>
      simp only [Bool.false_eq_true, if_false] at q9 ⊢
      exact back un hNx I9 hl8 hk8 q9
    | true =>
      simp only [if_true] at q9 ⊢
      refine wpAny_mono (pi1.run _ s9 σ8 H9 _ I9 q9) (fun xv s10 hx => wpAny_mono hx (fun itv s11 h11 => ?_) hEE) hEE
      obtain ⟨it1, fp1, tn1, J1, H11, e1, I11, T1, st11, f11, W1, ⟨m1, w1⟩, turn1⟩ := h11
      subst e1
      have fs1 : ∀ {H' : Hp}, (∀ b ∈ fp1, H' b = none) → ∀ b ∈ fp1, FpOk Y ([] ++ pn) H' b := fun hn b hb => ⟨hn b hb, (f11 b hb).2⟩
      have loop1 : codeAny (model Y.prog Y.w) Y.A (.compLoop (dC2 kx vx tg iter tg1 iter1 ifs ifs1 scope pos) 1 (.ref it1) (.ref D) Y.env) (fun r s' => match r with
          | .ok _ => ∃ m, m < n ∧ ∃ i H', Inv Y [] (wipe σ0 vs) H' s' ∧ tn i s'.heap ∧ (∀ b ∈ fp, H' b = none) ∧ W i m H'
          | .error _ => False) s11 := by
        refine dloop1 (fun k s' => ∃ j H', Inv Y ([] ++ pn) (wipe σ8 vs1) H' s' ∧ tn1 j s'.heap ∧ (∀ b ∈ fp1, H' b = none) ∧ W1 j k H') ?_ m1 ⟨0, H11, I11.weak (wipe_length _ _) (fun j v e => (wipe_some e).1), st11, fun b hb => (f11 b hb).1, w1⟩
        rintro k s12 ⟨j, H12, I12, st12, n12, w12⟩
        rcases turn1 j k H12 w12 with ⟨stop1, nx1⟩ | ⟨go1, Nx1, hNx1, step1⟩
        · exact clT_run (Pw := fun _ => False) (Qt := fun _ _ _ => False) hc hEE T1 I12 (fs1 n12) st12 pg1 pt1 (.inl ⟨stop1, fun s' I' => back un hNx I' (hl8.trans (wipe_length σ8 vs1).symm) hk9 nx1⟩) fun _ _ _ _ _ z => z.elim
        · refine clT_run hc hEE T1 I12 (fs1 n12) st12 pg1 pt1 (.inr ⟨go1, step1⟩) fun σ15 b1 H16 s16 pn1 hw15 q16 un1 I16 => ?_
          have back1 : ∀ {s' : Shared} {H' : Hp}, Inv Y (([] ++ pn) ++ pn1) σ15 H' s' → Nx1 H' → ∃ m, m < k ∧ ∃ j H', Inv Y ([] ++ pn) (wipe σ8 vs1) H' s' ∧ tn1 j s'.heap ∧ (∀ b ∈ fp1, H' b = none) ∧ W1 j m H' := fun {s' H'} I' nx => by
            obtain ⟨I2, t2, n2⟩ := un1 _ _ _ I'
            obtain ⟨m', hm, w'⟩ := hNx1 _ nx
            exact ⟨m', hm, j + 1, H', I2.weak (by rw [← hw15, wipe_length]) (fun j v e => by rw [← hw15] at e; exact (wipe_some e).1), t2, n2, w'⟩
          cases b1 with
          | false =>
            simp only [Bool.false_eq_true, if_false] at q16 ⊢
            exact back1 I16 q16
          | true =>
            simp only [if_true] at q16 ⊢
            refine wpAny_mono (pk.run _ s16 σ15 H16 _ I16 q16) (fun z s17 ⟨yk, H17, I17, r17, q17⟩ => ?_) hEE
            refine wpAny_mono (pv.run _ s17 σ15 H17 _ I17 q17) (fun z2 s18 ⟨yv, H18, I18, r18, kvs, ky, ek, hD18, hz18, nx⟩ => ?_) hEE
            subst ek
            exact d_dictSet I18 hD18 hz18 r17 r18 fun s19 I19 => back1 I19 nx
      exact dstart1 loop1 (T1.self Y.A 0 _ _ _ st11 loop1)
/-- as a value -/
theorem pe_dc2 {kx vx tg iter tg1 iter1 : Expr} {ifs ifs1 : List Expr} {scope : Scope} {own : List (Str × Nat)} {vs1 : List Nat} {pos : Pos} {wi wi1 : TI} {g g1 : TG} {tt tt1 : TT} {tk tv : TE} (hc : X.calm = true) (hN : X.N.Nodup) (hi : PI X tg iter wi) (ok : BlkOk X.N X.env.scope scope own) (hv : ∀ i ∈ vs1, i ∈ own.map (·.2))
    (hg : ∀ (s : Shared) (H : Hp) (C : Addr) (cl : List (Str × Addr)) (fp : List Addr), PG (X.blk s H scope (compEnvC scope cl C X.env) fp) tg g) (ht : ∀ (s : Shared) (H : Hp) (C : Addr) (cl : List (Str × Addr)) (fp : List Addr), PTs (X.blk s H scope (compEnvC scope cl C X.env) fp) ifs tt)
    (hi1 : ∀ (s : Shared) (H : Hp) (C : Addr) (cl : List (Str × Addr)) (fp : List Addr), PI (X.blk s H scope (compEnvC scope cl C X.env) fp) tg1 iter1 wi1)
    (hg1 : ∀ (s : Shared) (H : Hp) (C : Addr) (cl : List (Str × Addr)) (fp : List Addr), PG (X.blk s H scope (compEnvC scope cl C X.env) fp) tg1 g1) (ht1 : ∀ (s : Shared) (H : Hp) (C : Addr) (cl : List (Str × Addr)) (fp : List Addr), PTs (X.blk s H scope (compEnvC scope cl C X.env) fp) ifs1 tt1)
    (hk : ∀ (s : Shared) (H : Hp) (C : Addr) (cl : List (Str × Addr)) (fp : List Addr), PE (X.blk s H scope (compEnvC scope cl C X.env) fp) kx tk) (he : ∀ (s : Shared) (H : Hp) (C : Addr) (cl : List (Str × Addr)) (fp : List Addr), PE (X.blk s H scope (compEnvC scope cl C X.env) fp) vx tv)
    (hs : ∀ x, foldedSetIterable iter X.env x = pure x := by intro _; rfl) (hs1 : ∀ env x, foldedSetIterable iter1 env x = pure x := by intro _ _; rfl) :
    PE X (dC2 kx vx tg iter tg1 iter1 ifs ifs1 scope pos) (tDc2 wi g tt wi1 g1 tt1 tk tv (own.map (·.2)) vs1) := by
  refine ⟨fun pins s σ H Q I h => ?_⟩
  have hfree : ∀ y ∈ scope.names, y.2 = .free → ∃ c, X.env.cells.lookup y.1 = some c := fun y hy e => (ok.free y hy e).elim (fun k => I.ok.has _ (.inl k)) fun k => I.ok.has _ (.inr k)
  rw [arm_eval_DictComp]
  refine wpAny_comprehension_free (use := none) rfl hs (closure_ok hfree) ok.kind (fun y hy e => by rw [ok.uniq y hy, e]) (thn (hi.run pins s σ H _ I h) fun xv s1 hx => thn hx fun itv s2 h2 => ?_)
  obtain ⟨ita, fp, tn, J, H2, rfl, I2, T, st2, f2, q⟩ := h2
  refine wpAny_newObj_type (newEnv_comp ?_)
  obtain ⟨W, ⟨m0, w0⟩, turn⟩ := q s2.heap.objs.size (I2.hok.fresh (Nat.le_refl _))
  -- the new dict lies behind all that there is
  have I3 : Inv X pins σ (upd H2 s2.heap.objs.size (.dK [])) { s2 with heap := s2.heap.push { cls := .type "dict", data := .dict #[] } } :=
    I2.laid (t' := s2.toks) (fun b o e => Heap.get?_push_of_some _ e) (Nat.le_refl _) (dk_empty s2.heap I2.big)
  have old : ∀ b ∈ fp, b < s2.heap.objs.size := fun b hb => by
    obtain ⟨o, e, _⟩ := T.obj _ _ st2 b hb
    exact Heap.lt_size e
  have f3 : ∀ b ∈ fp, FpOk X pins (upd H2 s2.heap.objs.size (.dK [])) b ∧ b < (s2.heap.push { cls := .type "dict", data := .dict #[] }).objs.size := fun b hb =>
    ⟨⟨by rw [upd_ne (Nat.ne_of_lt (old b hb))]; exact (f2 b hb).1, (f2 b hb).2⟩, by rw [Heap.size_push]; exact Nat.lt_succ_of_lt (old b hb)⟩
  have st3 : tn 0 (s2.heap.push { cls := .type "dict", data := .dict #[] }) := T.keep _ _ _ st2 fun b _ o e => Heap.get?_push_of_some _ e
  generalize s2.heap.objs.size = D at I3 f3 w0 turn ⊢
  generalize upd H2 D (.dK []) = H3 at I3 f3 w0
  generalize s2.heap.push { cls := .type "dict", data := .dict #[] } = h3 at I3 f3 st3 ⊢
  generalize hs3 : ({ s2 with heap := h3 } : Shared) = s3 at I3 ⊢
  have eh : s3.heap = h3 := by rw [← hs3]
  rw [← eh] at f3 st3
  have I4 := block_start I3 ok hN f3
  have pg := hg s3 H3 s3.heap.objs.size (cellsFrom (s3.heap.objs.size + 1) scope.names (cloFrom X.env.cells scope.names [])) fp
  have pt := ht s3 H3 s3.heap.objs.size (cellsFrom (s3.heap.objs.size + 1) scope.names (cloFrom X.env.cells scope.names [])) fp
  have pi1 := hi1 s3 H3 s3.heap.objs.size (cellsFrom (s3.heap.objs.size + 1) scope.names (cloFrom X.env.cells scope.names [])) fp
  have pg1 := hg1 s3 H3 s3.heap.objs.size (cellsFrom (s3.heap.objs.size + 1) scope.names (cloFrom X.env.cells scope.names [])) fp
  have pt1 := ht1 s3 H3 s3.heap.objs.size (cellsFrom (s3.heap.objs.size + 1) scope.names (cloFrom X.env.cells scope.names [])) fp
  have pk := hk s3 H3 s3.heap.objs.size (cellsFrom (s3.heap.objs.size + 1) scope.names (cloFrom X.env.cells scope.names [])) fp
  have pv := he s3 H3 s3.heap.objs.size (cellsFrom (s3.heap.objs.size + 1) scope.names (cloFrom X.env.cells scope.names [])) fp
  show codeAny _ _ (.compStart (dC2 kx vx tg iter tg1 iter1 ifs ifs1 scope pos) 0 (.ref ita) (.ref D) (compEnvC scope (cellsFrom (s3.heap.objs.size + 1) scope.names (cloFrom X.env.cells scope.names [])) s3.heap.objs.size X.env)) (compPost (model X.prog X.w) X.A X.xe none (EP X pins σ Q) (.ref D) s3.heap.objs.size) { s3 with heap := pushCells (s3.heap.push { cls := .type "dict", data := .dict #[] }) scope.names }
  have st4 : tn 0 (pushCells (s3.heap.push { cls := .type "dict", data := .dict #[] }) scope.names) := T.keep _ _ _ st3 fun b _ o e => pushCells_keeps _ _ _ _ (Heap.get?_push_of_some _ e)
  generalize hce : compEnvC scope (cellsFrom (s3.heap.objs.size + 1) scope.names (cloFrom X.env.cells scope.names [])) s3.heap.objs.size X.env = ce at I4 pg pt pi1 pg1 pt1 pk pv ⊢
  have cL : ce.locals = s3.heap.objs.size := by rw [← hce]; rfl
  generalize hs4 : ({ s3 with heap := pushCells (s3.heap.push { cls := .type "dict", data := .dict #[] }) scope.names } : Shared) = s4 at I4 ⊢
  have st4' : tn 0 s4.heap := by rw [← hs4]; exact st4
  have fs : ∀ H', (∀ b ∈ fp, H' b = none) → ∀ b ∈ fp, FpOk (X.blk s3 H3 scope ce fp) [] H' b := fun H' hn b hb =>
    ⟨hn b hb, (I4.ok.exf b hb).1, I4.ok.exfs b hb, .inl hb, fun x c e => (I4.ok.exf b hb).2 x c e, fun p hp => nomatch hp⟩
  -- back in the def's context
  have fin : ∀ H5 s6, Inv (X.blk s3 H3 scope ce fp) [] (wipe σ (own.map (·.2))) H5 s6 → (∀ b ∈ fp, H5 b = none) → Q (.ref D) H5 → compPost (model X.prog X.w) X.A X.xe none (EP X pins σ Q) (.ref D) s3.heap.objs.size (.ok .next) s6 := fun H5 s6 I6 n6 qq => by
    have I7 : Inv X pins σ H5 s6 := I3.call' (ch := fp) I6.os I6.base I6.hok I6.bare fun b hb => ⟨(f3 b hb).1.2.2.2.1, (f3 b hb).1.2.1, (f3 b hb).1.2.2.2.2.1, (f3 b hb).1.2.2.2.2.2⟩
    have nC : H5 s3.heap.objs.size = none := by
      rw [← cL]
      exact I6.free
    obtain ⟨m, hn, _⟩ := I6.loc
    have hn' : s6.heap.Ns s3.heap.objs.size m := by
      rw [← cL]
      exact hn
    obtain ⟨f0, f1, f2', f3', f4, f5⟩ := I3.fpOk (H' := H5) (Nat.le_refl _) nC
    exact ⟨m, hn', fun h'' sb => ⟨.ref D, H5, I7.turned (t' := s6.toks) (fun b o hb e => (sb.2 b hb).trans e) f0 f1 f3' f4 f5, rfl, qq⟩⟩
  have lp := dc2_loop (Y := X.blk s3 H3 scope ce fp) (R := compPost (model X.prog X.w) X.A X.xe none (EP X pins σ Q) (.ref D) s3.heap.objs.size) (iter := iter) (pos := pos) (scope := scope) (σ0 := σ) hc (fun _ _ z => z) hv (hs1 ce) pg pt pi1 pg1 pt1 pk pv T I4 st4' (fun b hb => (f3 b hb).1.1) fs w0 turn fin
  exact codeAny_compStart_dict lp (T.self X.A 0 _ _ _ st4' lp)
end
end Sm
set_option maxHeartbeats 1000000
/-! Sm63: {k: v for x in a for y in b}: its mirror; zip as the inner source. -/
namespace Sm
open PySem PySem.Spec PyProof.Rows L2
section
variable {X : Cx} {G : Gs} {W : WX} {kk : Nat} {kx vx tg iter tg1 iter1 : Expr} {ifs ifs1 : List Expr} {scope : Scope} {own : List (Str × Nat)} {pos : Pos} {it it1 : M (List Dt)} {g g1 : GM} {t t1 : TG} {L L1 : List Nat} {cm cm1 : M Bool} {ek ev : M Dv}
/-- the loop from any start -/
theorem dc_loopG {σ : L2.St} {H1 H0 Hb : Hp} {A1 A0 Ab : Al} {ρ : Env} {S0 : Sto} {ts : List Dt} {J : It} {D : Addr} {E : XK} {vs : List Nat} {Fin : Hp → Prop} {ds0 : List Dv} {kvs0 : List (Key × V)} {β : Type} (hgs : TgS G t g L) (hL : ∀ i ∈ L, i ∈ vs) (wk : Wk G J A1 H1 ts) (he : EnvR G A1 H1 ρ σ) (hD : H1 D = none)
    (s0 : StR G A0 S0 H0) (x0 : ExtB D A1 H1 A0 H0) (hD0 : H0 D = some (.dK kvs0)) (r0 : RDs G A0 H0 ds0 (kvs0.map (·.2))) (hlen : kvs0.length + ts.length ≤ 16777216)
    {kf : List Key → List Dv → Sto → Rz β} {Qf : Al → Hp → β → Prop}
    (p : Po G E Ab Hb ((dcL g cm ek ev (wipeE ρ vs) ts (kvs0.map (·.1)) ds0 S0).bind fun q S2 => kf q.1 q.2 S2) Qf)
    (hfin : ∀ ds kvs S' A' H', StR G A' S' H' → ExtB D A1 H1 A' H' → H' D = some (.dK kvs) → RDs G A' H' ds (kvs.map (·.2)) → kvs.length ≤ kvs0.length + ts.length → Po G E Ab Hb (kf (kvs.map (·.1)) ds S') Qf → Fin H') :
    ∃ W : Nat → Nat → Hp → Prop, (∃ m, W 0 m H0) ∧ ∀ i m H, W i m H →
      (J.stop i H ∧ Fin H) ∨ (J.go i H ∧ ∃ Nx : Hp → Prop, (∀ H', Nx H' → ∃ m', m' < m ∧ W (i + 1) m' H') ∧ ∀ x H', J.yld i H x H' → t x (wipe σ vs) H' fun σ2 H2 => wipe σ2 vs = wipe σ vs ∧ tMT G W0 cm σ2 H2 fun b H3 =>
        if b = true then tM G W0 ek σ2 H3 fun y H4 => tM G W0 ev σ2 H4 fun z H5 => ∃ kvs k, y = kV k ∧ H5 D = some (.dK kvs) ∧ kvs.length < sizeLine ∧ Nx (upd H5 D (.dK (putK kvs k z))) else Nx H3) := by
  let Inw : Nat → Hp → Prop := fun i H' => ∃ A' S' ds kvs, StR G A' S' H' ∧ ExtB D A1 H1 A' H' ∧ H' D = some (.dK kvs) ∧ RDs G A' H' ds (kvs.map (·.2)) ∧ kvs.length ≤ kvs0.length + i ∧ i ≤ ts.length ∧
    Po G E Ab Hb ((dcL g cm ek ev (wipeE ρ vs) (ts.drop i) (kvs.map (·.1)) ds S').bind fun q S2 => kf q.1 q.2 S2) Qf
  refine ⟨fun i m H' => m = ts.length - i ∧ Inw i H', ⟨_, rfl, A0, S0, ds0, kvs0, s0, x0, hD0, r0, Nat.le_refl _, Nat.zero_le _, by simpa using p⟩, fun i m H' hW => ?_⟩
  obtain ⟨hm, A', S', ds, kvs, s', x', hDw, rds, hwl, hi, q⟩ := hW
  by_cases hlt : i < ts.length
  · refine .inr ⟨wk.go i A' H' hlt (.ofB x' hD), Inw (i + 1), fun H2 hN => ⟨ts.length - (i + 1), by omega, rfl, hN⟩, fun x H2 hy => ?_⟩
    obtain ⟨d, ed, xy, sy, rv⟩ := wk.yld i A' H' S' x H2 hlt (.ofB x' hD) s' hy
    have hd : ts.drop i = d :: ts.drop (i + 1) := by
      rw [List.drop_eq_getElem_cons hlt]
      rw [List.getElem?_eq_getElem hlt] at ed
      cases ed
      rfl
    rw [hd] at q
    unfold dcL at q
    cases eg : g (.d d) (wipeE ρ vs) with
    | none => rw [eg] at q; exact q.elim
    | some ρ1 =>
      rw [eg] at q
      have x2 := x'.step xy s'
      have hw : EnvR G A' H2 (wipeE ρ vs) (wipe σ vs) := (he.kp (Ext.ofB x2 hD).kp).wipe vs
      refine hgs A' S' _ ρ1 (wipe σ vs) H2 (.d d) x _ hw sy rv eg fun σ2 he2 hk2 hl2 => ?_
      refine ⟨by rw [wipe_same (σ := wipe σ vs) (σ' := σ2) hL hk2 hl2, wipe_wipe], ?_⟩
      have hDH2 : H2 D = some (.dK kvs) := (hid_keep s' x'.inH xy).trans hDw
      have rds2 := rds.kp xy.kp
      refine ⟨A', ρ1, S', he2, sy, ?_⟩
      simp only [bz] at q
      cases ec : cm ρ1 S' with
      | bad => rw [ec] at q; exact q.elim
      | er c0 t0 S0 => rw [ec] at q; exact q.elim
      | ok k S2 =>
        rw [ec] at q
        simp only [nox_ok, bind_ok] at q
        intro A3 H3 x3 s3
        have xb3 := x2.step x3 sy
        have hD3 : H3 D = some (.dK kvs) := (hid_keep sy x2.inH x3).trans hDH2
        cases k with
        | false =>
          simp only [Bool.false_eq_true, if_false] at q ⊢
          exact ⟨A3, S2, ds, kvs, s3, xb3, hD3, rds2.kp x3.kp, by omega, by omega, q⟩
        | true =>
          simp only [if_true] at q ⊢
          refine ⟨A3, ρ1, S2, he2.kp x3.kp, s3, ?_⟩
          cases ee : ek ρ1 S2 with
          | bad => rw [ee] at q; exact q.elim
          | er c0 t0 S0 => rw [ee] at q; exact q.elim
          | ok kd S4 =>
            rw [ee] at q
            simp only [nox_ok, bind_ok] at q
            intro A4 H4 x4 s4 y ry
            have xb4 := xb3.step x4 s3
            have hD4 : H4 D = some (.dK kvs) := (hid_keep s3 xb3.inH x4).trans hD3
            refine ⟨A4, ρ1, S4, (he2.kp x3.kp).kp x4.kp, s4, ?_⟩
            cases ev' : ev ρ1 S4 with
            | bad => rw [ev'] at q; exact q.elim
            | er c0 t0 S0 => rw [ev'] at q; exact q.elim
            | ok dv S5 =>
              rw [ev'] at q
              simp only [nox_ok, bind_ok] at q
              intro A5 H5 x5 s5 z rz
              have xb5 := xb4.step x5 s4
              have hD5 : H5 D = some (.dK kvs) := (hid_keep s4 xb4.inH x5).trans hD4
              cases ek' : kOf kd with
              | none => rw [ek'] at q; exact q.elim
              | some k =>
                rw [ek'] at q
                have rds5 := (((rds2.kp x3.kp).kp x4.kp).kp x5.kp)
                refine ⟨kvs, k, kOf_rd ek' ry, hD5, Nat.lt_of_lt_of_le (show kvs.length < 16777216 by omega) (line_of (Nat.le_refl _)), A5, S5, _, putK kvs k z, s5.poke xb5.inH, xb5.poke, upd_same, (dput_rds rds5 rz).kp (kp_poke xb5.inH), ?_, by omega, ?_⟩
                · have := length_putK kvs k z
                  omega
                · rw [dput_keys]
                  exact q
  · have hz : i = ts.length := by omega
    subst hz
    rw [List.drop_length] at q
    exact .inl ⟨wk.stop A' H' (.ofB x' hD), hfin ds kvs S' A' H' s' x' hDw rds hwl q⟩
def dc2L (g : GM) (c : M Bool) (it1 : M (List Dt)) (g1 : GM) (c1 : M Bool) (ek ev : M Dv) (vs1 : List Nat) (ρ : Env) : List Dt → List Key → List Dv → Sto → Rz (List Key × List Dv)
  | [], ks, xs, S => .ok (ks, xs) S
  | t :: ts, ks, xs, S => bz (g (.d t) ρ) fun ρ1 => (nox (c ρ1 S)).bind fun b S1 => if b = true then (nox (it1 ρ1 S1)).bind fun us S2 => if ks.length + us.length ≤ 16777216 then (dcL g1 c1 ek ev (wipeE ρ1 vs1) us ks xs S2).bind fun q S3 => dc2L g c it1 g1 c1 ek ev vs1 ρ ts q.1 q.2 S3 else .bad
    else dc2L g c it1 g1 c1 ek ev vs1 ρ ts ks xs S1
def mDc2 (pe : PD) (vs vs1 : List Nat) (it : M (List Dt)) (g : GM) (c : M Bool) (it1 : M (List Dt)) (g1 : GM) (c1 : M Bool) (ek ev : M Dv) : M Dv := fun ρ S => (it ρ S).bind fun ts S1 => if ts.length ≤ 16777216 then (dc2L g c it1 g1 c1 ek ev vs1 (wipeE ρ vs) ts [] [] S1).bind fun q S2 => pe q.1 q.2 S2 else .bad
theorem hid_in {A A' : Al} {S : Sto} {H H' : Hp} {D : Addr} (s : StR G A S H) (hD : D ∈ A.hid) (x : Ext A H A' H') : D ∈ A'.hid := by
  obtain ⟨u, e⟩ := s.alive D (List.mem_append_right _ hD)
  have hn := s.nd
  unfold Al.all at hn
  exact (x.hid D u e fun z => (List.nodup_append.mp hn).2.2 D z D hD rfl).mpr hD
/-- an inner source, read beside a hidden D -/
def RdB (G : Gs) (wi1 : TI) (m : M (List Dt)) : Prop := ∀ (D : Addr) (σ : L2.St) (H : Hp) (A : Al) (ρ : Env) (S : Sto) (R : It → Hp → Prop), D ∈ A.hid → EnvR G A H ρ σ → StR G A S H →
  Po G (Wa W0 σ) A H (m ρ S) (fun A' H' ts => D ∈ A'.hid → ∀ J, Wk G J (A'.show_ D) (lackH H' D) ts → R J H') → wi1 σ H R
theorem dc2_read {wi wi1 : TI} {pe : PD} {vs vs1 : List Nat} (hpe : DEnd G pe) (hw : ∀ (σ : L2.St) (H : Hp) (A : Al) (ρ : Env) (S : Sto) (R : It → Hp → Prop), EnvR G A H ρ σ → StR G A S H → Po G (Wa W σ) A H (it ρ S) (fun A' H' ts => ∀ J, Wk G J A' H' ts → R J H') → wi σ H R)
    (hgs : TgS G t g L) (hL : ∀ i ∈ L, i ∈ vs) (hw1 : RdB G wi1 it1) (hgs1 : TgS G t1 g1 L1) (hL1 : ∀ i ∈ L1, i ∈ vs1) (σ : L2.St) (H : Hp) (Q : VK) (h : tM G W (mDc2 pe vs vs1 it g cm it1 g1 cm1 ek ev) σ H Q) :
    tDc2 wi t (tMT G W0 cm) wi1 t1 (tMT G W0 cm1) (tM G W0 ek) (tM G W0 ev) vs vs1 σ H Q := by
  obtain ⟨A, ρ, S, he, hs, p⟩ := h
  refine hw σ H A ρ S _ he hs ?_
  unfold mDc2 at p
  refine Po.step p fun ts S1 A1 H1 x1 s1 p1 J wk D hD => ?_
  by_cases hl : ts.length ≤ 16777216
  case neg =>
    simp only [hl, if_false] at p1
    exact p1.elim
  simp only [hl, if_true] at p1
  have he1 := he.kp x1.kp
  let Inw : Nat → Hp → Prop := fun i H' => ∃ A' S' ds kvs, StR G A' S' H' ∧ ExtB D A1 H1 A' H' ∧ H' D = some (.dK kvs) ∧ RDs G A' H' ds (kvs.map (·.2)) ∧ i ≤ ts.length ∧
    Po G (Wa W σ) A1 H1 ((dc2L g cm it1 g1 cm1 ek ev vs1 (wipeE ρ vs) (ts.drop i) (kvs.map (·.1)) ds S').bind fun q S'' => pe q.1 q.2 S'') (kD G Q)
  refine ⟨fun i m H' => m = ts.length - i ∧ Inw i H', ⟨_, rfl, A1.hide D, S1, [], [], s1.hide hD, .start, upd_same, .nil, Nat.zero_le _, by simpa using p1⟩, fun i m H' hW => ?_⟩
  obtain ⟨hm, A', S', ds, kvs, s', x', hDw, rds, hi, q⟩ := hW
  by_cases hlt : i < ts.length
  case neg =>
    have hz : i = ts.length := by omega
    subst hz
    rw [List.drop_length] at q
    simp only [dc2L, bind_ok] at q
    exact .inl ⟨wk.stop A' H' (.ofB x' hD), hpe s' x' hD hDw rds q⟩
  refine .inr ⟨wk.go i A' H' hlt (.ofB x' hD), Inw (i + 1), fun H2 hN => ⟨ts.length - (i + 1), by omega, rfl, hN⟩, fun x H2 hy => ?_⟩
  obtain ⟨d, ed, xy, sy, rv⟩ := wk.yld i A' H' S' x H2 hlt (.ofB x' hD) s' hy
  have hd : ts.drop i = d :: ts.drop (i + 1) := by
    rw [List.drop_eq_getElem_cons hlt]
    rw [List.getElem?_eq_getElem hlt] at ed
    cases ed
    rfl
  rw [hd] at q
  unfold dc2L at q
  cases eg : g (.d d) (wipeE ρ vs) with
  | none => rw [eg] at q; exact q.elim
  | some ρ1 =>
    rw [eg] at q
    have x2 := x'.step xy s'
    have hw' : EnvR G A' H2 (wipeE ρ vs) (wipe σ vs) := (he1.kp (Ext.ofB x2 hD).kp).wipe vs
    refine hgs A' S' _ ρ1 (wipe σ vs) H2 (.d d) x _ hw' sy rv eg fun σ2 he2 hk2 hl2 => ?_
    refine ⟨?_, ?_⟩
    · rw [wipe_same (σ := wipe σ vs) (σ' := σ2) hL hk2 hl2]
      exact wipe_twice σ vs
    · have hDH2 : H2 D = some (.dK kvs) := (hid_keep s' x'.inH xy).trans hDw
      have rds2 := rds.kp xy.kp
      refine ⟨A', ρ1, S', he2, sy, ?_⟩
      simp only [bz] at q
      cases ec : cm ρ1 S' with
      | bad => rw [ec] at q; exact q.elim
      | er c0 t0 S0 => rw [ec] at q; exact q.elim
      | ok k S2 =>
        rw [ec] at q
        simp only [nox_ok, bind_ok] at q
        intro A3 H3 x3 s3
        have xb3 := x2.step x3 sy
        have hD3 : H3 D = some (.dK kvs) := (hid_keep sy x2.inH x3).trans hDH2
        cases k with
        | false =>
          simp only [Bool.false_eq_true, if_false] at q ⊢
          exact ⟨A3, S2, ds, kvs, s3, xb3, hD3, rds2.kp x3.kp, by omega, q⟩
        | true =>
          simp only [if_true] at q ⊢
          refine hw1 D σ2 H3 A3 ρ1 S2 _ xb3.inH (he2.kp x3.kp) s3 ?_
          cases ei : it1 ρ1 S2 with
          | bad => rw [ei] at q; exact q.elim
          | er c0 t0 S0 => rw [ei] at q; exact q.elim
          | ok us S4 =>
            rw [ei] at q
            simp only [nox_ok, bind_ok] at q
            intro A4 H4 x4 s4 hD4' J1 wk1
            have xb4 := xb3.step x4 s3
            have hD4 : H4 D = some (.dK kvs) := (hid_keep s3 xb3.inH x4).trans hD3
            by_cases hz : (kvs.map (·.1)).length + us.length ≤ 16777216
            case neg =>
              simp only [hz, if_false] at q
              exact q.elim
            simp only [hz, if_true] at q
            have rds4 := (rds2.kp x3.kp).kp x4.kp
            have he4 : EnvR G (A4.show_ D) (lackH H4 D) ρ1 σ2 := (((he2.kp x3.kp).kp x4.kp).kp (lack_kp xb4.inH))
            exact dc_loopG (G := G) (D := D) (Fin := Inw (i + 1)) (Ab := A1) (Hb := H1) (E := Wa W σ) (cm := cm1) (ek := ek) (ev := ev) (β := Dv) (kvs0 := kvs) (ds0 := ds) (S0 := S4) (A0 := A4) (H0 := H4)
              (kf := fun ks xs S5 => (dc2L g cm it1 g1 cm1 ek ev vs1 (wipeE ρ vs) (ts.drop (i + 1)) ks xs S5).bind fun q S'' => pe q.1 q.2 S'') (Qf := kD G Q) hgs1 hL1 wk1 he4 lack_same s4 (lack_ext xb4.inH) hD4 rds4 (by rw [List.length_map] at hz; exact hz)
              (by rw [bind_assoc] at q; exact q)
              (fun ds' kvs' S5 A5 H5 s5 x5 hD5 r5 _ q5 => ⟨A5, S5, ds', kvs', s5, xb4.join x5, hD5, r5, by omega, q5⟩)
/-- {kx: vx for tg in iter if .. for tg1 in iter1 if ..} -/
theorem ydc2 (own : List (Str × Nat)) (vs1 : List Nat) {wi1 : TI} {pe : PD} (hpe : DEnd G pe) (B : Bx X G W kk) (hi : PIS X G W tg iter it) (hg : ∀ (s : Shared) (H : Hp) (C : Addr) (cl : List (Str × Addr)) (fp : List Addr), PG (X.blk s H scope (compEnvC scope cl C X.env) fp) tg t) (hgs : TgS G t g L)
    (ht : ∀ (s : Shared) (H : Hp) (C : Addr) (cl : List (Str × Addr)) (fp : List Addr), PTs (X.blk s H scope (compEnvC scope cl C X.env) fp) ifs (tMT G W0 cm))
    (hi1 : ∀ (s : Shared) (H : Hp) (C : Addr) (cl : List (Str × Addr)) (fp : List Addr), PI (X.blk s H scope (compEnvC scope cl C X.env) fp) tg1 iter1 wi1) (hw1 : RdB G wi1 it1)
    (hg1 : ∀ (s : Shared) (H : Hp) (C : Addr) (cl : List (Str × Addr)) (fp : List Addr), PG (X.blk s H scope (compEnvC scope cl C X.env) fp) tg1 t1) (hgs1 : TgS G t1 g1 L1)
    (ht1 : ∀ (s : Shared) (H : Hp) (C : Addr) (cl : List (Str × Addr)) (fp : List Addr), PTs (X.blk s H scope (compEnvC scope cl C X.env) fp) ifs1 (tMT G W0 cm1))
    (hk : ∀ (s : Shared) (H : Hp) (C : Addr) (cl : List (Str × Addr)) (fp : List Addr), PE (X.blk s H scope (compEnvC scope cl C X.env) fp) kx (tM G W0 ek)) (he : ∀ (s : Shared) (H : Hp) (C : Addr) (cl : List (Str × Addr)) (fp : List Addr), PE (X.blk s H scope (compEnvC scope cl C X.env) fp) vx (tM G W0 ev))
    (ok : blkC X.N X.env.scope scope own = true := by rfl) (hL : ∀ i ∈ L, i ∈ own.map (·.2) := by decide) (hL1 : ∀ i ∈ L1, i ∈ vs1 := by decide) (hv : ∀ i ∈ vs1, i ∈ own.map (·.2) := by decide)
    (hs : ∀ x, foldedSetIterable iter X.env x = pure x := by exact fun _ => rfl) (hs1 : ∀ env x, foldedSetIterable iter1 env x = pure x := by exact fun _ _ => rfl) :
    PE X (.DictComp kx vx [⟨tg, iter, ifs, 0⟩, ⟨tg1, iter1, ifs1, 0⟩] scope pos) (tM G W (mDc2 pe (own.map (·.2)) vs1 it g cm it1 g1 cm1 ek ev)) := by
  obtain ⟨wi, pi, hw⟩ := hi
  exact (pe_dc2 B.calm B.nd pi (blkOk_by ok) hv hg ht hi1 hg1 ht1 hk he hs hs1).sm fun σ H Q h => dc2_read hpe hw hgs hL hw1 hgs1 hL1 σ H Q h
/-! ### zip as the inner source -/
theorem rdb_zip {ma : M (List Dv)} : RdB G (RZ.iZipA G.K (tMA G W0 ma)) (iRg zp2 ma) := fun D σ H A ρ S R hD he hs p => by
  refine ⟨A, ρ, S, he, hs, Po.step p fun ds S1 A1 H1 x1 s1 p1 vs rv => ?_⟩
  obtain ⟨ts, e1, k⟩ := li_po p1 s1
  have hD1 := hid_in hs hD x1
  have kl : Kp A1 H1 (A1.show_ D) (lackH H1 D) := lack_kp hD1
  unfold zp2 at e1
  split at e1
  · cases e1
    cases rv with
    | cons r1 r2 =>
      cases r2 with
      | cons r2 r3 =>
        cases r3
        obtain ⟨a, us, rfl, ha, ru⟩ := tup_at rfl (RD.kp kl r1)
        obtain ⟨b, ws, rfl, hb, rw'⟩ := tup_at rfl (RD.kp kl r2)
        exact ⟨a, b, us, ws, rfl, .inr ⟨sqT_up (ha _ _ .refl), sqT_up (hb _ _ .refl), k hD1 _ (wk_zipT ha ru hb rw')⟩⟩
  · rename_i d e _
    cases ed : lstOf d with
    | none => rw [ed] at e1; cases e1
    | some xs =>
      cases ee : lstOf e with
      | none => rw [ed, ee] at e1; cases e1
      | some ys =>
        rw [ed, ee] at e1
        cases e1
        cases rv with
        | cons r1 r2 =>
          cases r2 with
          | cons r2 r3 =>
            cases r3
            obtain ⟨a, us, rfl, ha, ru⟩ := lst_at ed (RD.kp kl r1)
            obtain ⟨b, ws, rfl, hb, rw'⟩ := lst_at ee (RD.kp kl r2)
            exact ⟨a, b, us, ws, rfl, .inl ⟨sqL_up (ha _ _ .refl), sqL_up (hb _ _ .refl), k hD1 _ (wk_zipL ha ru hb rw')⟩⟩
  · cases e1
theorem pi_zipB {Y : Cx} {a b : Expr} {ma : M (List Dv)} {p pos tpos : Pos} {elts : List Expr} {k0 : Nat} (hK : G.K = Y.K) (z : Y.mg "zip" = none) (ha : PA Y [a, b] (tMA G W0 ma)) (hg : Gl Y "zip" := by rfl)
    (hs : starEach [a, b] Y.env = (false, eval a Y.env) :: starEach [b] Y.env := by rfl) (hpl : (backTo pos (starEach [b] Y.env)).any (·.1) = false := by rfl) : PI Y (.Tuple elts k0 tpos) (.Call (.Name "zip" p) [a, b] [] pos) (RZ.iZipA G.K (tMA G W0 ma)) := by
  rw [hK]
  exact RZ.pi_zipA hg z ha hs hpl
end
end Sm
/-! Sm64: l.extend(t) of a tuple; d.get(k); an instance called by a keyword. -/
namespace Sm
open PySem PySem.Spec PyProof.Rows L2
open Sem (wp)
theorem ext_tup (l : Addr) (items : Array Value) (n : Nat) (b : Addr) (items2 : Array Value) (n2 : Nat) (dd : Option Addr) (sl : Array (Option Value)) (hs0 : ¬(!items.isEmpty && Builtin.List.listTooLong (items.size + items2.size)) = true) (hs1 : items.size ≤ sizeLine) (hs2 : items.size + items2.size ≤ sizeLine + 1) :
    Meets (Builtin.«list.extend» ⟨[.ref l, .ref b], []⟩) (fun _ R s => s.heap.get? l = some { cls := .type "list", dict := none, data := .seq items n, slots := #[] } ∧ s.heap.get? b = some { cls := .type "tuple", dict := dd, data := .seq items2 n2, slots := sl } ∧ R (.ok (.ret Value.none)) { s with heap := s.heap.update l (Obj.mapSeq fun x => x ++ items2), toks := s.toks }) :=
  .of_wp fun prog w A R s h => by
    obtain ⟨hp, g, d, tk, os⟩ := s; obtain ⟨hl, hb, h⟩ := h; have f1 := AutoSeq1.idx_int; have f2 := AutoSeq1.sub_tuple_tuple; have f3 := AutoSeq1.sub_list_list; have f4 := AutoSeq1.sub_tuple_list; have f5 := AutoSeq1.sub_list_tuple;
    have hz' : (items ++ items2).size ≤ sizeLine + 1 := by rw [Array.size_append]; exact hs2
    wp_walk using (wpAny_updateSeq hl rfl (hz := hs1) (_hz' := hz')), AutoSeq1.wpAny_loadPart' hl, AutoSeq1.wpAny_loadPart' hb; exact ⟨_, rfl, h⟩
section
variable {X : Cx} {G : Gs}
def rExtT (K : PySem.W.Frag) : V → List V → Hp → VK → Prop := fun x vs H Q => ∃ l b xs zs, x = .ref l ∧ vs = [.ref b] ∧ H l = some (.lst xs) ∧ SqT K H b zs ∧ xs.length + zs.length ≤ sizeLine ∧ Q .non (upd H l (.lst (xs ++ zs)))
theorem mt_extT : MtR X "list.extend" (rExtT X.K) := by
  intro pins s σ H x vs v us Q I rx rv h
  obtain ⟨l, b, xs, zs, rfl, rfl, hH, hB, hz, q⟩ := h
  cases rx
  obtain ⟨u, rfl, ru⟩ := rv.one
  cases ru
  obtain ⟨z, its, n, r, hl, e⟩ := I.lstM hH
  obtain ⟨its2, r2, ⟨⟨cls, dd, data, sl⟩, e2, hc, n2, hd⟩, hz2⟩ := I.tuple hB
  simp only at hc hd
  subst hc hd
  have l1 := r.length
  have l2 := r2.length
  have hsz : its.toArray.size + its2.toArray.size ≤ sizeLine := by rw [List.size_toArray, List.size_toArray]; omega
  have hlong : ¬ (!its.toArray.isEmpty && Builtin.List.listTooLong (its.toArray.size + its2.toArray.size)) = true := by
    rw [notLongL hsz, Bool.and_false]
    exact Bool.false_ne_true
  refine call_meets PySem.F.slot_list_extend ⟨_, e, rfl⟩ PySem.F.entry_list_extend (PySem.F.args_list_extend_2 _ _)
    (ext_tup l its.toArray n b its2.toArray n2 dd sl hlong (by rw [List.size_toArray]; omega) (by omega)) ⟨e, e2, ?_⟩
  refine ⟨.non, _, I.lset (its' := its ++ its2) hH e (by simp) (r.append r2) ?_, rfl, q⟩
  rw [List.length_append]
  omega
def pExtendA : PM := fun o ds S => match o, ds with
  | .loc n, [.d (.tup ts)] => (match S[n]? with
    | some (.lst xs) => if xs.length + ts.length ≤ 16777216 then some (.d .non, S.set n (.lst (xs ++ ts.map .d))) else none
    | _ => none)
  | _, _ => pExtend o ds S
theorem m_extendA (hK : G.K = X.K) : MtR X "list.extend" (qM G pExtendA) := by
  have both : MtR X "list.extend" (fun x xs H Q => rExtT X.K x xs H Q ∨ qM G pExtend x xs H Q) := fun pins s σ H x xs v us Q I rx rv h => h.elim (mt_extT pins s σ H x xs v us Q I rx rv) (m_extend pins s σ H x xs v us Q I rx rv)
  refine L2.MtR.sm both fun x xs H Q h => ?_
  obtain ⟨A, S, d, ds, rd, rds, s, p⟩ := h
  unfold pExtendA at p
  split at p
  · rename_i n ts
    obtain ⟨v, rfl, r⟩ := RDs.one rds
    split at p
    · rename_i e1
      split at p
      · rename_i hz
        obtain ⟨a, vs, rfl, hl, ha, hvs⟩ := loc_lst s rd e1
        obtain ⟨b, ws, rfl, hb, hws⟩ := (show RV G A H (.tup ts) v from r)
        obtain ⟨x2, s2⟩ := set_lst s hl (hvs.append hws.rds)
        have hb' := hb.sq (K := G.K)
        rw [hK] at hb'
        exact .inl ⟨a, b, vs, ws, rfl, rfl, ha, hb', by rw [← Paired.length hvs, ← hws.length]; exact line_of hz, Po.at p x2 s2 _ rfl⟩
      · exact p.elim
    · exact p.elim
  · exact .inr ⟨A, S, d, ds, rd, rds, s, p⟩
end
/-! ### d.get(k) -/
section
variable {X : Cx} {G : Gs} {W : WX} {kk : Nat} {e e2 : Expr}
end
end Sm
/-! Sm65: an instance called by keywords alone. -/
namespace Sm
open PySem PySem.Spec PyProof.Rows L2
/-- __call__ by keywords -/
structure CalDK (P : Program) (w : World) (G : Gs) (mg : Str → Option Value) (base : Heap) (k c : Nat) (x : Str) (ks : List Str) (F : FM) : Prop where
  ex : ∃ f, SlX.SCls G.K (G.cls c) ∧ Meth G.K (G.cls c) x f ∧ PySem.W.fnIn G.K f = true ∧ CallW P w G mg base k f 1 ks F
section
variable {X : Cx} {G : Gs} {W : WX} {k : Nat} {f : Addr} {F : FM} {c : Nat} {pos : Pos} {fe : Expr} {mo : M Dv} {mk : M (List Dv)} {kws : List Keyword} {ks : List Str}
end
end Sm
/-! HeW: the mirrors shared so far and all rules; for the Plan family. -/
/-! HkM: mirrors of plans and of drawn parts. -/
namespace Hk
open PySem PySem.Spec PyProof.Rows L2 Sm Hn
def b_turned : SM := sSeq (sAsg (gT (gsCons (gN 1) (gsCons (gN 2) (gsNil)))) (m1 pWk (mV 0)))
    (sSeq (sSet 3 (mIf (mTst (m2 pEq (mV 2) (mC (.str ("" : Str))))) (mTm pIndexT (mV 1) (aCons (mN pMinT (aCons (m1 pWk (mV 1)) (aNil))) (aNil))) (mC (.int 0))))
    (sRet (mN pTup (aCons (m2 pAdd (mSl pSl (m1 pWk (mV 1)) (oPt (mV 3)) (oNo)) (mSl pSl (m1 pWk (mV 1)) (oNo) (oPt (mV 3)))) (aCons (mV 2) (aNil))))))
def R_turned : FM := runB 4 1 b_turned
def F_turned : FM := iso (R_turned)
def b_goals_of : SM := sSeq (sAsg (gT (gsCons (gN 1) (gsCons (gN 2) (gsNil)))) (mV 0))
    (sRet (mN pTup (aStar (mSl pSl (mV 1) (oPt (mC (.int 1))) (oNo)) (aCons (mIf (mTst (m2 pEq (mV 2) (mC (.str ("" : Str))))) (m2 pIx (mV 1) (mC (.int 0))) (mV 2)) (aNil)))))
def R_goals_of : FM := runB 3 1 b_goals_of
def F_goals_of : FM := iso (R_goals_of)
abbrev l1_names_in : SM := sDrop (mLm pExtendA (mV 1) (aCons (mIf (mTst (m2 pEq (mV 3) (mC (.str ("" : Str))))) (mV 2) (mN pTup (aStar (mV 2) (aCons (mV 3) (aNil))))) (aNil)))
def b_names_in : SM := sSeq (sSet 1 (mN pLstB (aNil)))
    (sSeq (sFor (iSeq (mV 0)) (gT (gsCons (gN 2) (gsCons (gN 3) (gsNil)))) (l1_names_in))
    (sRet (mFrz (mV 1))))
def R_names_in : FM := runB 4 1 b_names_in
def F_names_in : FM := iso (R_names_in)
def b_goals_in : SM := sRet (mDc2 pDct [1, 2, 3] [2, 3] (iSeq (mV 0)) (gN 1) (cYes) (iRg zp2 (aCons (m2 pIx (mV 1) (mC (.int 0))) (aCons (mF F_goals_of (aCons (mV 1) (aNil))) (aNil)))) (gT (gsCons (gN 2) (gsCons (gN 3) (gsNil)))) (cYes) (mV 2) (mV 3))
def R_goals_in : FM := runB 4 1 b_goals_in
def F_goals_in : FM := iso (R_goals_in)
def b_tupledN (self : FM) : SM := sRet (mIf (mTru pTru (m1 (pIsa ["list", "tuple"]) (mV 0))) (mN pTupleN (aCons (mN pLst (mLcI [1] (iSeq (mV 0)) (gN 1) (cYes) (mF self (aCons (mV 1) (aNil))))) (aNil))) (mV 0))
def F_tupledN : Nat → FM
  | 0 => fun _ _ => .bad
  | n + 1 => iso (runB 2 1 (b_tupledN (F_tupledN n)))
def b_Plan_init : SM := sSeq (sSet 2 (mN pSorted (aCons (mN pLst (mLcI [3] (iSeq (m1 pWk (mF (F_tupledN 8) (aCons (mV 1) (aNil))))) (gN 3) (cYes) (mF F_turned (aCons (mV 3) (aNil))))) (aNil))))
    (sSeq (sSet 4 (mF F_names_in (aCons (mV 2) (aNil))))
    (sSeq (sSet 5 (mN pLst (mLcI [6] (iSeq (mV 4)) (gN 6) (mTst (m2 pGt (mLm pCount (mV 4) (aCons (mV 6) (aNil))) (mC (.int 1)))) (mV 6))))
    (sSeq (sIf (mTst (m2 pGt (mN pLen (aCons (mV 5) (aNil))) (mC (.int 0)))) (sRaise 0 (mN pMinT (aCons (mV 5) (aNil)))) (sNil))
    (sSeq (sFld 2 1 (mV 0) (mN pTuple (aCons (mV 2) (aNil))))
    (sFld 2 0 (mV 0) (mF F_goals_in (aCons (mV 2) (aNil))))))))
def R_Plan_init : FM := starF 1 (runB 7 2 b_Plan_init)
def F_Plan_init : FM := R_Plan_init
def b_Plan_of : SM := sRet (mF (isoMk 2 F_Plan_init) (aStar (mV 1) aNil))
def R_Plan_of : FM := runC 2 1 b_Plan_of
def F_Plan_of : FM := iso (R_Plan_of)
def b_Plan_parts : SM := sRet (m1 (pFld 2 1) (mV 0))
def R_Plan_parts : FM := runB 1 1 b_Plan_parts
def F_Plan_parts : FM := iso (R_Plan_parts)
end Hk
/-! Sm66: sorted(.., reverse=True) of whole numbers. -/
namespace Sm
open PySem PySem.Spec PyProof.Rows L2
theorem desc_eq : ∀ {l m : List Int}, l.Pairwise (· ≥ ·) → m.Pairwise (· ≥ ·) → l.Perm m → l = m
  | [], m, _, _, p => (List.Perm.nil_eq p).symm ▸ rfl
  | a :: l, [], _, _, p => absurd p.length_eq (by simp)
  | a :: l, b :: m, h1, h2, p => by
    obtain ⟨q1, q2⟩ := List.pairwise_cons.mp h1
    obtain ⟨r1, r2⟩ := List.pairwise_cons.mp h2
    have e : a = b := by
      have ha := p.mem_iff.mp (List.mem_cons_self (a := a) (l := l))
      have hb := p.mem_iff.mpr (List.mem_cons_self (a := b) (l := m))
      rcases List.mem_cons.mp ha with e | ha
      · exact e
      · rcases List.mem_cons.mp hb with e | hb
        · exact e.symm
        · have := q1 b hb
          have := r1 a ha
          omega
    subst e
    rw [desc_eq q2 r2 (List.Perm.cons_inv p)]
section
variable {X : Cx} {G : Gs} {W : WX} {k : Nat} {a : Expr} {p pos q kp : Pos} {j : Nat} {m : M Dv}
theorem ints_back {G : Gs} {A : Al} {H : Hp} : ∀ l : List Int, RVs G A H (l.map .int) (l.map V.int)
  | [] => rfl
  | a :: l => ⟨_, _, rfl, rfl, ints_back l⟩
end
end Sm
/-! Sm67: max(.., default=0) of whole numbers; min of tuples of texts. -/
namespace Sm
open PySem PySem.Spec PyProof.Rows L2
theorem toPys_ints : ∀ l : List Int, toPys (l.map .int) = some (l.map .int)
  | [] => rfl
  | a :: l => by
    rw [List.map_cons, List.map_cons]
    unfold toPys
    rw [toPys_ints l]
    rfl
theorem dep_ints : ∀ l : List Int, PyData.depthAll (l.map .int) ≤ 1
  | [] => by decide
  | a :: l => by
    have := dep_ints l
    rw [List.map_cons]
    unfold PyData.depthAll
    have h : PyData.depth (.int a) ≤ 1 := by
      unfold PyData.depth
      decide
    omega
theorem foldmax (l : List Int) : ∀ x : Int, l.foldl max x ∈ x :: l ∧ ∀ y ∈ x :: l, y ≤ l.foldl max x := by
  induction l with
  | nil => intro x; exact ⟨List.mem_cons_self, fun y hy => by rw [List.mem_singleton.mp hy]; exact Int.le_refl _⟩
  | cons y l ih =>
    intro x
    rw [List.foldl_cons]
    obtain ⟨e2, e3⟩ := ih (max x y)
    have h0 := e3 _ List.mem_cons_self
    refine ⟨?_, fun z hz => ?_⟩
    · rcases List.mem_cons.mp e2 with e | e
      · rw [e]
        by_cases h : x ≤ y
        · rw [Int.max_eq_right h]
          exact List.mem_cons_of_mem _ List.mem_cons_self
        · rw [Int.max_eq_left (by omega)]
          exact List.mem_cons_self
      · exact List.mem_cons_of_mem _ (List.mem_cons_of_mem _ e)
    · rcases List.mem_cons.mp hz with rfl | hz
      · omega
      · rcases List.mem_cons.mp hz with rfl | hz
        · omega
        · exact e3 z (List.mem_cons_of_mem _ hz)
theorem maxD_I (x : Int) (l : List Int) : PySem.W.maxD (.int x) (l.map .int) = .int (maxI (x :: l)) := by
  rw [PySem.W.maxD_ints]
  obtain ⟨e2, e3⟩ := foldmax l x
  rw [maxI_is e2 e3]
section
variable {X : Cx} {G : Gs} {W : WX} {k : Nat} {a : Expr} {p pos q kp : Pos} {j : Nat} {m : M Dv}
/-- max(l, default=0) -/
def pMaxD0 : P1 := fun d S => match (lstT S d).bind intsOf with
  | some l => some (.d (.int (maxI l)), S)
  | none => none
def rMaxD0 (G : Gs) : List V → List V → Hp → VK → Prop := fun xs zs H Q => ∃ (A : Al) (b : Addr) (l : List Int), xs = [V.ref b] ∧ zs = [V.int 0] ∧ SqL G.K H b (l.map V.int) ∧ Q (.int (maxI l)) H
theorem cr_maxD0 (hc : X.calm = true) (hK : G.K = X.K) (hu : X.A.units + 64 < cLine) : CallRK X (.builtin "max") [Str.ofString "default"] (rMaxD0 G) := by
  intro pins s σ H xs zs us ws Q I rx rz h
  obtain ⟨A, b, l, rfl, rfl, hs, hq⟩ := h
  rw [hK] at hs
  obtain rfl := Vals.ref1 rx
  cases rz with
  | cons r0 t0 =>
  rename_i w ws
  cases t0
  obtain ⟨its, rv, pl, _⟩ := I.list hs
  have dp := RVs.dp (toPys_ints l) (ints_back (G := G) (A := A) (H := H) l)
  rw [hK] at dp
  obtain ⟨as, ra⟩ := Dp.readsAll I _ _ _ dp rv
  have al : PySem.W.AlikeAll (l.map PyData.int) := by
    refine ⟨fun d hd d' hd' => ?_, fun d hd z => ?_⟩
    · obtain ⟨u, _, rfl⟩ := List.mem_map.mp hd
      obtain ⟨u', _, rfl⟩ := List.mem_map.mp hd'
      rfl
    · obtain ⟨u, _, rfl⟩ := List.mem_map.mp hd
      cases z
  have dd := dep_ints l
  refine PySem.W.max_list_default (xs := l.map .int) (d := w) (I.ok.hd hc) pl.isList (by simpa using ra) al (by omega) (fun e h' tk hk => ?_) fun y ys i v h' tk bs e hi hr hk => ?_
  · obtain rfl := List.map_eq_nil_iff.mp e
    exact ⟨.int 0, H, I.kept hk, r0, hq⟩
  · cases l with
    | nil => cases e
    | cons x l =>
      rw [List.map_cons] at e
      injection e with e1 e2
      subst e1 e2
      rw [maxD_I] at hr
      cases hr
      exact ⟨.int (maxI (x :: l)), H, I.kept hk, ⟨_, rfl⟩, hq⟩
theorem xmaxD0 (B : Bx X G W k) (z : X.mg "max" = none) (ha : PE X a (tM G W m)) (hg : Gl X "max" := by rfl) (hs : starEach [a] X.env = (false, eval a X.env) :: starEach [] X.env := by rfl)
    (he : backTo pos (starEach [a] X.env) = (false, eval a X.env) :: backTo pos (starEach [] X.env) := by rfl) (hpl : (backTo pos (starEach [a] X.env)).any (·.1) = false := by rfl)
    (hall : (backToKw pos (keywordEach [⟨some "default", .Constant (.int 0) j q, kp⟩] X.env)).all (·.1.isSome) = true := by rfl) (hnone : (backToKw pos (keywordEach [⟨some "default", .Constant (.int 0) j q, kp⟩] X.env)).any (·.1.isNone) = false := by rfl) (hks : (backToKw pos (keywordEach [⟨some "default", .Constant (.int 0) j q, kp⟩] X.env)).filterMap (·.1) = [Str.ofString "default"] := by rfl) :
    PE X (.Call (.Name "max" p) [a] [⟨some "default", .Constant (.int 0) j q, kp⟩] pos) (tM G W (m1 pMaxD0 m)) := by
  refine (pe_callBK (cr_maxD0 B.calm B.hK B.room.units) hg z PyProof.Rows.boot_max (pa_cons ha pa_nil hs) (pk_cons pe_int pk_nil) (by decide) (by decide) he hpl hall hnone hks).sm fun σ H Q h => ?_
  obtain ⟨A, ρ, S, he', st, p0⟩ := h
  refine ⟨A, ρ, S, he', st, Po.step p0 fun d S1 A1 H1 x1 s1 p1 v rv => ?_⟩
  unfold pMaxD0 at p1
  split at p1
  · rename_i l e1
    obtain ⟨ts, e2, e3⟩ := Option.bind_eq_some_iff.mp e1
    obtain ⟨b, vs, ev, hq, hvs⟩ := lstT_rd s1 rv e2
    rw [intsOf_eq e3] at hvs
    rw [rvs_intsI hvs] at hq
    subst ev
    exact ⟨A1, b, l, rfl, rfl, hq, Po.now p1 s1 _ rfl⟩
  · exact p1.elim
end
end Sm
/-! Sm68: min of tuples of texts. -/
namespace Sm
open PySem PySem.Spec PyProof.Rows L2
def strsTs : List Dt → Option (List (List Str))
  | [] => some []
  | .tup xs :: r => (match strsOf xs, strsTs r with
    | some l, some m => some (l :: m)
    | _, _ => none)
  | _ => none
abbrev encL (l : List Str) : PyData := .tuple (l.map .str)
theorem strsTs_map : ∀ L : List (List Str), strsTs (L.map fun l => .tup (l.map .str)) = some L
  | [] => rfl
  | l :: L => by
    have e : ∀ l : List Str, strsOf (l.map .str) = some l := fun l => by
      induction l with
      | nil => rfl
      | cons a l ih =>
        show (strsOf (l.map .str)).map (a :: ·) = _
        rw [ih]
        rfl
    show (match strsOf (l.map .str), strsTs (L.map fun l => .tup (l.map .str)) with
      | some l, some m => some (l :: m)
      | _, _ => none) = _
    rw [e, strsTs_map L]
theorem strsTs_eq : ∀ {ts : List Dt} {L : List (List Str)}, strsTs ts = some L → ts = L.map fun l => .tup (l.map .str)
  | [], L, e => by
    cases e
    rfl
  | t :: ts, L, e => by
    cases t with
    | tup xs =>
      unfold strsTs at e
      split at e
      · rename_i l m e1 e2
        cases e
        rw [strsTs_eq e2, strsOf_eq e1]
        rfl
      · cases e
    | _ => cases e
theorem toPys_tups : ∀ L : List (List Str), toPys (L.map fun l => .tup (l.map .str)) = some (L.map encL)
  | [] => rfl
  | l :: L => by
    rw [List.map_cons, List.map_cons]
    have e : toPy (.tup (l.map .str)) = some (encL l) := by
      show (toPys (l.map .str)).map PyData.tuple = _
      rw [toPys_strs]
      rfl
    simp only [toPys, e, toPys_tups L]
def minLs (x : List Str) (L : List (List Str)) : List Str := L.foldl (fun a y => if PySem.W.dataLt (encL y) (encL a) then y else a) x
theorem minLs_D (x : List Str) : ∀ L : List (List Str), PySem.W.minD (encL x) (L.map encL) = encL (minLs x L) := by
  intro L
  unfold PySem.W.minD minLs
  induction L generalizing x with
  | nil => rfl
  | cons y L ih =>
    rw [List.map_cons, List.foldl_cons, List.foldl_cons, ← ih]
    split <;> rfl
theorem encL_inj {a b : List Str} (h : encL a = encL b) : a = b := by
  injection h with h
  exact List.map_inj_right (fun _ _ e => by injection e) |>.mp h
theorem dep_tups : ∀ L : List (List Str), PyData.depthAll (L.map encL) ≤ 2
  | [] => by decide
  | l :: L => by
    have h1 := dep_tups L
    have h2 := dep_strs l
    rw [List.map_cons]
    unfold PyData.depthAll
    have h : PyData.depth (encL l) ≤ 2 := by
      simp only [PyData.depth]
      omega
    omega
theorem alike_sts : ∀ a b : List Str, PySem.W.alikeAll (a.map .str) (b.map .str) = true
  | [], [] => rfl
  | [], _ :: _ => rfl
  | _ :: _, [] => rfl
  | a :: l, b :: m => by
    show (PySem.W.alike (.str a) (.str b) && PySem.W.alikeAll (l.map .str) (m.map .str)) = true
    rw [alike_sts l m]
    rfl
def pMinN : PN := fun ds S => match ds with
  | [d] => (match (lstT S d).bind strsTs with
    | some (x :: l) => some (.d (.tup ((minLs x l).map .str)), S)
    | _ => none)
  | _ => none
theorem rvs_get {G : Gs} {A : Al} {H : Hp} : ∀ {ts : List Dt} {vs : List V} {i : Nat} {t : Dt}, RVs G A H ts vs → ts[i]? = some t → ∃ v, vs[i]? = some v ∧ RV G A H t v
  | t :: ts, _, 0, u, ⟨v, vs, rfl, r1, r2⟩, h => by
    cases h
    exact ⟨v, rfl, r1⟩
  | t :: ts, _, i + 1, u, ⟨v, vs, rfl, r1, r2⟩, h => rvs_get (i := i) r2 (by simpa using h)
section
variable {X : Cx} {G : Gs} {W : WX} {k : Nat}
theorem b_minN (hc : X.calm = true) (hK : G.K = X.K) (hu : X.A.units + 64 < cLine) : CallR X (.builtin "min") (qN G pMinN) := by
  intro pins s σ H xs us Q I rx h
  obtain ⟨A, S, ds, rd, st, p⟩ := h
  unfold pMinN at p
  split at p
  · obtain ⟨v, rfl, r⟩ := RDs.one rd
    split at p
    · rename_i x l e
      obtain ⟨ts, e0, e9⟩ := Option.bind_eq_some_iff.mp e
      obtain ⟨a, vs, rfl, hs, hv⟩ := lstT_rd st r e0
      rw [hK] at hs
      obtain rfl := Vals.ref1 rx
      have ets := strsTs_eq e9
      subst ets
      have dp := RVs.dp (toPys_tups (x :: l)) hv
      rw [hK] at dp
      have al : PySem.W.AlikeAll ((x :: l).map encL) := by
        refine ⟨fun d hd d' hd' => ?_, fun d hd z => ?_⟩
        · obtain ⟨u, _, rfl⟩ := List.mem_map.mp hd
          obtain ⟨u', _, rfl⟩ := List.mem_map.mp hd'
          exact alike_sts u u'
        · obtain ⟨u, _, rfl⟩ := List.mem_map.mp hd
          cases z
      have dd := dep_tups (x :: l)
      obtain ⟨its, rv, pl, _⟩ := I.list hs
      obtain ⟨as, ra⟩ := Dp.readsAll I _ _ _ dp rv
      refine PySem.W.min_list_data (x := encL x) (xs := l.map encL) (I.ok.hd hc) pl.isList (by simpa using ra) al (by rw [List.map_cons] at dd; omega) fun i v h' tk bs hi hr hk => ?_
      rw [minLs_D] at hr
      obtain ⟨bs2, rb, il, _, _⟩ := PySem.W.readsAll_at (vs := its) ra i v (by simpa using hi)
      have hlen : i < (x :: l).length := by simpa using il
      have eu := (PySem.Reads.unique (PyProof.Rows.Reads.keeps hk rb) _ _ hr).1
      have ed : ((x :: l).map encL).getD i .none = encL ((x :: l)[i]) := by
        rw [List.getD_eq_getElem?_getD, List.getElem?_map, List.getElem?_eq_getElem hlen]
        rfl
      rw [ed] at eu
      have ex := encL_inj eu
      obtain ⟨w, hw, rw1⟩ := rvs_get (i := i) (t := .tup (((x :: l)[i]).map .str)) hv (by rw [List.getElem?_map, List.getElem?_eq_getElem hlen]; rfl)
      obtain ⟨u, hu1, hu2⟩ := Vals.get rv hw
      have : u = v := by
        have hi' : its[i]? = some v := by simpa using hi
        rw [hi'] at hu1
        exact (Option.some.inj hu1).symm
      subst this
      rw [ex] at rw1
      exact ⟨w, H, I.kept hk, hu2, Po.now p st _ rw1⟩
    · exact p.elim
  · exact p.elim
end
end Sm
/-! HeY: plans, drawn parts, sorted reverse, max with default, min of tuples. -/
/-! the mirrors -/
namespace K67
open PySem PySem.Spec PyProof.Rows L2 Sm Hn
def b_ender : SM := sSeq (sAsg (gT (gsCons (gN 1) (gsCons (gN 2) (gsNil)))) (mV 0))
    (sRet (mIf (mTst (m2 pEq (mV 2) (mC (.str ("" : Str))))) (m2 pIx (mV 1) (mC (.int 0))) (m2 pIx (mV 1) (m1 pNeg (mC (.int 1))))))
def R_ender : FM := runB 3 1 b_ender
def F_ender : FM := iso (R_ender)

def b_worst_gone : SM := sSeq (sSet 2 (mN pSorted (aCons (mN pLst (mLcI [3] (iSeq (mPropM 2 Hk.F_Plan_parts (mV 0))) (gN 3) (cYes) (mN pTup (aCons (m1 pNeg (mN pLen (aCons (m2 pIx (mV 3) (mC (.int 0))) (aNil)))) (aCons (mF F_ender (aCons (mV 3) (aNil))) (aNil)))))) (aNil))))
    (sRet (mF F_as_set (aCons (mN pLst (mLcI [4, 5] (iSeq (mSl pSl (mV 2) (oNo) (oPt (mV 1)))) (gT (gsCons (gN 4) (gsCons (gN 5) (gsNil)))) (cYes) (mV 5))) (aNil))))
def R_worst_gone : FM := runB 6 2 b_worst_gone
def F_worst_gone : FM := iso (R_worst_gone)

abbrev l1_weak_ones : SM := sIf (mTst (m2 pEq (mN pLen (aCons (mV 3) (aNil))) (mV 2))) (sDrop (mLm pExtendA (mV 1) (aCons (mIf (mTst (m2 pEq (mV 4) (mC (.str ("" : Str))))) (mV 3) (mSl pSl (mV 3) (oPt (m1 pNeg (mC (.int 1)))) (oNo))) (aNil)))) (sNil)

def b_weak_ones : SM := sSeq (sPars [1, 2] (aCons (mN pLstB (aNil)) (aCons (m1 pMaxD0 (mN pLst (mLcI [3, 4] (iSeq (mPropM 2 Hk.F_Plan_parts (mV 0))) (gT (gsCons (gN 3) (gsCons (gN 4) (gsNil)))) (cYes) (mN pLen (aCons (mV 3) (aNil)))))) (aNil))))
    (sSeq (sFor (iSeq (mPropM 2 Hk.F_Plan_parts (mV 0))) (gT (gsCons (gN 3) (gsCons (gN 4) (gsNil)))) (l1_weak_ones))
    (sRet (mF F_as_set (aCons (mFrz (mV 1)) (aNil)))))
def R_weak_ones : FM := runB 5 1 b_weak_ones
def F_weak_ones : FM := iso (R_weak_ones)

abbrev b__law_box : SM := boxM 1771
abbrev R__law_box : FM := runB 3 2 b__law_box
abbrev F__law_box : FM := R__law_box

abbrev l1__law_drawn : SM := sSeq (sSet 4 (m2 pAdd (mC (.int 1)) (mF F__law_take (aCons (mV 0) (aCons (mN pMin2 (aCons (mC (.int 4)) (aCons (mN pLen (aCons (mV 3) (aNil))) (aNil)))) (aNil))))))
    (sSeq (sPars [5, 3] (aCons (mSl pSl (mV 3) (oNo) (oPt (mV 4))) (aCons (mSl pSl (mV 3) (oPt (mV 4)) (oNo)) (aNil))))
    (sIf (cAnd (mTst (m2 pGt (mV 4) (mC (.int 1)))) (cOr (mTst (m2 pEq (mV 1) (mN pLst (aNil)))) (mTst (m2 pEq (mF F__law_take (aCons (mV 0) (aCons (mC (.int 2)) (aNil)))) (mC (.int 0)))))) (sSeq (sSet 6 (mLm pIndex (mV 5) (aCons (mN pMinT (aCons (mV 5) (aNil))) (aNil))))
    (sDrop (mLm pAppend (mV 2) (aCons (mN pTup (aCons (mN pTuple (aCons (m2 pAdd (mSl pSl (mV 5) (oPt (mV 6)) (oNo)) (mSl pSl (mV 5) (oNo) (oPt (mV 6)))) (aNil))) (aCons (mC (.str ("" : Str))) (aNil)))) (aNil))))) (sIf (mTst (m2 pNe (mV 1) (mN pLst (aNil)))) (sDrop (mLm pAppend (mV 2) (aCons (mN pTup (aCons (mN pTuple (aCons (mV 5) (aNil))) (aCons (mLm pPop (mV 1) aNil) (aNil)))) (aNil)))) (sNil))))

def b__law_drawn : SM := sSeq (sPars [1, 2] (aCons (mN pLstB (aCons (mC (.str ("new" : Str))) (aCons (mC (.str ("old" : Str))) (aCons (mC (.str ("y" : Str))) (aNil))))) (aCons (mN pLstB (aNil)) (aNil))))
    (sSeq (sSet 3 (mN pList (aCons (mF F__law_mixed (aCons (mV 0) (aCons (mN pLst (aCons (mC (.str ("a" : Str))) (aCons (mC (.str ("ann" : Str))) (aCons (mC (.str ("bob" : Str))) (aCons (mC (.str ("cat" : Str))) (aCons (mC (.str ("dan" : Str))) (aCons (mC (.str ("eve" : Str))) (aCons (mC (.str ("fay" : Str))) (aCons (mC (.str ("x" : Str))) (aNil)))))))))) (aNil)))) (aNil))))
    (sSeq (sSet 3 (mSl pSl (mV 3) (oNo) (oPt (mF F__law_take (aCons (mV 0) (aCons (mC (.int 9)) (aNil)))))))
    (sSeq (sWh 64 (mTst (m2 pNe (mV 3) (mN pLst (aNil)))) (l1__law_drawn))
    (sRet (mN pTuple (aCons (mN pSorted (aCons (mV 2) (aNil))) (aNil)))))))
def R__law_drawn : FM := runB 7 1 b__law_drawn
def F__law_drawn : FM := view (R__law_drawn)

abbrev l1__law_rest_of : SM := sSeq (sSet 5 (mN pLst (mLcI [6] (iRg rg1 (aCons (mN pLen (aCons (mV 3) (aNil))) (aNil))) (gN 6) (mTst (m2 pIn (m2 pIx (mV 3) (mV 6)) (mV 1))) (mV 6))))
    (sIf (mTst (m2 pEq (mV 5) (mN pLst (aNil)))) (sDrop (mLm pAppend (mV 2) (aCons (mN pTup (aCons (mV 3) (aCons (mV 4) (aNil)))) (aNil)))) (sIf (cAnd (mTst (m2 pNe (mV 4) (mC (.str ("" : Str))))) (mTst (m2 pLt (m2 pAdd (m2 pIx (mV 5) (m1 pNeg (mC (.int 1)))) (mC (.int 1))) (mN pLen (aCons (mV 3) (aNil)))))) (sDrop (mLm pAppend (mV 2) (aCons (mN pTup (aCons (mSl pSl (mV 3) (oPt (m2 pAdd (m2 pIx (mV 5) (m1 pNeg (mC (.int 1)))) (mC (.int 1)))) (oNo)) (aCons (mV 4) (aNil)))) (aNil)))) (sNil)))

def b__law_rest_of : SM := sSeq (sSet 2 (mN pLstB (aNil)))
    (sSeq (sFor (iSeq (mV 0)) (gT (gsCons (gN 3) (gsCons (gN 4) (gsNil)))) (l1__law_rest_of))
    (sRet (mN pTuple (aCons (mV 2) (aNil)))))
def R__law_rest_of : FM := runB 7 2 b__law_rest_of
def F__law_rest_of : FM := iso (R__law_rest_of)

def b__law_count : SM := sRet (mN pSum (aCons (mN pLst (mLcI [1] (iSeq (mV 0)) (gN 1) (cYes) (mN pLen (aCons (m2 pIx (mV 1) (mC (.int 0))) (aNil))))) (aNil)))
def R__law_count : FM := runB 2 1 b__law_count
def F__law_count : FM := iso (R__law_count)

abbrev l1__law_all_in : SM := sDrop (mLm pExtendA (mV 1) (aCons (mV 2) (aNil)))

def b__law_all_in : SM := sSeq (sSet 1 (mN pLstB (aNil)))
    (sSeq (sFor (iSeq (mV 0)) (gT (gsCons (gN 2) (gsCons (gN 3) (gsNil)))) (l1__law_all_in))
    (sRet (mN pSorted (aCons (mV 1) (aNil)))))
def R__law_all_in : FM := runB 4 1 b__law_all_in
def F__law_all_in : FM := iso (R__law_all_in)

abbrev l1__law_sets : SM := sSet 2 (m2 pAdd (mV 2) (mN pLst (mLcI [4] (iSeq (mV 2)) (gN 4) (mTst (m2 pLt (mN pLen (aCons (mV 4) (aNil))) (mV 1))) (m2 pAdd (mV 4) (mN pTup (aCons (mV 3) (aNil)))))))

def b__law_sets : SM := sSeq (sSet 2 (mN pLst (aCons (mN pTup (aNil)) (aNil))))
    (sSeq (sFor (iSeq (mV 0)) (gN 3) (l1__law_sets))
    (sRet (mV 2)))
def R__law_sets : FM := runB 5 2 b__law_sets
def F__law_sets : FM := iso (R__law_sets)

def b__law_six : SM := sSeq (sSet 0 (mN pTup (aCons (mN pTup (aCons (mC (.str ("ann" : Str))) (aCons (mN pTup (aCons (mC (.str ("bob" : Str))) (aNil))) (aNil)))) (aCons (mN pTup (aCons (mC (.str ("bob" : Str))) (aCons (mN pTup (aCons (mC (.str ("ann" : Str))) (aCons (mC (.str ("cat" : Str))) (aNil)))) (aNil)))) (aCons (mN pTup (aCons (mC (.str ("cat" : Str))) (aCons (mN pTup (aCons (mC (.str ("bob" : Str))) (aCons (mC (.str ("dan" : Str))) (aCons (mC (.str ("eve" : Str))) (aNil))))) (aNil)))) (aNil))))))
    (sSeq (sSet 0 (m2 pAdd (mV 0) (mN pTup (aCons (mN pTup (aCons (mC (.str ("dan" : Str))) (aCons (mN pTup (aCons (mC (.str ("cat" : Str))) (aCons (mC (.str ("eve" : Str))) (aNil)))) (aNil)))) (aCons (mN pTup (aCons (mC (.str ("eve" : Str))) (aCons (mN pTup (aCons (mC (.str ("cat" : Str))) (aCons (mC (.str ("dan" : Str))) (aNil)))) (aNil)))) (aCons (mN pTup (aCons (mC (.str ("fay" : Str))) (aCons (mN pTup (aCons (mC (.str ("cat" : Str))) (aCons (mC (.str ("new" : Str))) (aNil)))) (aNil)))) (aNil)))))))
    (sSeq (sSet 1 (mN pTup (aCons (mN pTup (aCons (mN pTup (aCons (mC (.str ("ann" : Str))) (aCons (mC (.str ("bob" : Str))) (aNil)))) (aCons (mC (.str ("" : Str))) (aNil)))) (aCons (mN pTup (aCons (mN pTup (aCons (mC (.str ("cat" : Str))) (aCons (mC (.str ("dan" : Str))) (aCons (mC (.str ("eve" : Str))) (aNil))))) (aCons (mC (.str ("" : Str))) (aNil)))) (aCons (mN pTup (aCons (mN pTup (aCons (mC (.str ("fay" : Str))) (aNil))) (aCons (mC (.str ("new" : Str))) (aNil)))) (aNil))))))
    (sRet (mN pTup (aCons (mN pTup (aCons (mV 0) (aCons (mN pTup (aCons (mC (.str ("new" : Str))) (aNil))) (aNil)))) (aCons (mV 1) (aCons (mN pTup (aCons (mN pTup (aCons (mN pTup (aCons (mC (.str ("bob" : Str))) (aCons (mC (.str ("cat" : Str))) (aNil)))) (aCons (mC (.str ("" : Str))) (aNil)))) (aNil))) (aNil))))))))
def R__law_six : FM := runB 2 0 b__law_six
def F__law_six : FM := iso (R__law_six)

def b__law_worst : SM := sSeq (sSet 2 (mF F__law_sets (aCons (mF F__law_all_in (aCons (mV 0) (aNil))) (aCons (mV 1) (aNil)))))
    (sSeq (sSet 3 (mN pMin1 (aCons (mN pLst (mLcI [4] (iSeq (mV 2)) (gN 4) (cYes) (mF F__law_count (aCons (mF F__law_rest_of (aCons (mV 0) (aCons (mV 4) (aNil)))) (aNil))))) (aNil))))
    (sSeq (sSet 5 (mN pLst (mLcI [4] (iSeq (mV 2)) (gN 4) (mTst (m2 pEq (mF F__law_count (aCons (mF F__law_rest_of (aCons (mV 0) (aCons (mV 4) (aNil)))) (aNil))) (mV 3))) (mV 4))))
    (sSeq (sSet 6 (mN pMin1 (aCons (mN pLst (mLcI [4] (iSeq (mV 5)) (gN 4) (cYes) (mN pLen (aCons (mV 4) (aNil))))) (aNil))))
    (sRet (mN pMinN (aCons (mN pLst (mLcI [4] (iSeq (mV 5)) (gN 4) (mTst (m2 pEq (mN pLen (aCons (mV 4) (aNil))) (mV 6))) (mV 4))) (aNil)))))))
def R__law_worst : FM := runB 7 2 b__law_worst
def F__law_worst : FM := iso (R__law_worst)

def b__law_weak : SM := sSeq (sSet 1 (mF F__law_all_in (aCons (mV 0) (aNil))))
    (sSeq (sSet 2 (mN pLst (mLcI [3] (iSeq (mV 1)) (gN 3) (cYes) (mF F__law_count (aCons (mF F__law_rest_of (aCons (mV 0) (aCons (mN pTup (aCons (mV 3) (aNil))) (aNil)))) (aNil))))))
    (sRet (mN pTuple (aCons (mN pLst (mLcI [4] (iRg rg1 (aCons (mN pLen (aCons (mV 1) (aNil))) (aNil))) (gN 4) (mTst (m2 pEq (m2 pIx (mV 2) (mV 4)) (mN pMin1 (aCons (mV 2) (aNil))))) (m2 pIx (mV 1) (mV 4)))) (aNil)))))
def R__law_weak : FM := runB 5 1 b__law_weak
def F__law_weak : FM := iso (R__law_weak)

def b__law_hand_right : SM := sSeq (sPars [0, 1] (aCons (m2 pIx (mF F__law_six aNil) (mC (.int 1))) (aCons (mN pTup (aCons (mN pTup (aCons (mN pTup (aCons (mC (.str ("b" : Str))) (aCons (mC (.str ("a" : Str))) (aNil)))) (aCons (mC (.str ("x" : Str))) (aNil)))) (aCons (mN pTup (aCons (mN pTup (aCons (mC (.str ("c" : Str))) (aCons (mC (.str ("d" : Str))) (aNil)))) (aCons (mC (.str ("" : Str))) (aNil)))) (aNil)))) (aNil))))
    (sSeq (sSet 2 (m2 pAdd (mN pLst (mLcI [3] (iSeq (mN pTup (aCons (mC (.int 0)) (aCons (mC (.int 1)) (aCons (mC (.int 2)) (aCons (mC (.int 9)) (aNil))))))) (gN 3) (cYes) (mF F_worst_gone (aCons (mF Hk.F_Plan_of (aCons (mV 0) (aNil))) (aCons (mV 3) (aNil)))))) (mN pLst (aCons (mF F_weak_ones (aCons (mF Hk.F_Plan_of (aCons (mV 0) (aNil))) (aNil))) (aNil)))))
    (sSeq (sSet 4 (mN pLst (aCons (mN pTup (aNil)) (aCons (mN pTup (aCons (mC (.str ("cat" : Str))) (aNil))) (aCons (mN pTup (aCons (mC (.str ("ann" : Str))) (aCons (mC (.str ("cat" : Str))) (aNil)))) (aCons (mN pTup (aCons (mC (.str ("ann" : Str))) (aCons (mC (.str ("cat" : Str))) (aCons (mC (.str ("fay" : Str))) (aNil))))) (aCons (mN pTup (aCons (mC (.str ("cat" : Str))) (aCons (mC (.str ("dan" : Str))) (aCons (mC (.str ("eve" : Str))) (aNil))))) (aNil))))))))
    (sSeq (sSet 2 (m2 pAdd (m2 pAdd (mV 2) (mN pLst (mLcI [3] (iSeq (mN pTup (aCons (mC (.int 1)) (aCons (mC (.int 2)) (aNil))))) (gN 3) (cYes) (mF F_worst_gone (aCons (mF Hk.F_Plan_of (aCons (mV 1) (aNil))) (aCons (mV 3) (aNil))))))) (mN pLst (aCons (mF F_weak_ones (aCons (mF Hk.F_Plan_of (aCons (mV 1) (aNil))) (aNil))) (aNil)))))
    (sSeq (sSet 4 (m2 pAdd (mV 4) (mN pLst (aCons (mN pTup (aCons (mC (.str ("a" : Str))) (aNil))) (aCons (mN pTup (aCons (mC (.str ("a" : Str))) (aCons (mC (.str ("c" : Str))) (aNil)))) (aCons (mN pTup (aCons (mC (.str ("a" : Str))) (aCons (mC (.str ("c" : Str))) (aCons (mC (.str ("d" : Str))) (aNil))))) (aNil)))))))
    (sSeq (sSet 5 (mN pTup (aCons (mN pTup (aCons (mN pTup (aCons (mC (.str ("a" : Str))) (aCons (mC (.str ("z" : Str))) (aNil)))) (aCons (mC (.str ("x" : Str))) (aNil)))) (aCons (mN pTup (aCons (mN pTup (aCons (mC (.str ("c" : Str))) (aCons (mC (.str ("d" : Str))) (aNil)))) (aCons (mC (.str ("" : Str))) (aNil)))) (aNil)))))
    (sSeq (sSet 2 (m2 pAdd (mV 2) (mN pLst (aCons (mF F_worst_gone (aCons (mF Hk.F_Plan_of (aCons (mV 5) (aNil))) (aCons (mC (.int 1)) (aNil)))) (aCons (mF F_weak_ones (aCons (mF Hk.F_Plan_of (aCons (mV 5) (aNil))) (aNil))) (aCons (mF F_weak_ones (aCons (mF Hk.F_Plan_of (aCons (mN pTup (aNil)) (aNil))) (aNil))) (aNil)))))))
    (sRet (mF (F__law_same 8) (aCons (m2 pAdd (mV 2) (mN pLst (aCons (mF F_worst_gone (aCons (mF Hk.F_Plan_of (aCons (mN pTup (aNil)) (aNil))) (aCons (mC (.int 3)) (aNil)))) (aNil)))) (aCons (m2 pAdd (mV 4) (mN pLst (aCons (mN pTup (aCons (mC (.str ("c" : Str))) (aNil))) (aCons (mN pTup (aCons (mC (.str ("c" : Str))) (aCons (mC (.str ("d" : Str))) (aCons (mC (.str ("z" : Str))) (aNil))))) (aCons (mN pTup (aNil)) (aCons (mN pTup (aNil)) (aNil))))))) (aNil)))))))))))
def R__law_hand_right : FM := runB 6 0 b__law_hand_right
def F__law_hand_right : FM := iso (R__law_hand_right)

abbrev l1__law_right : SM := sSeq (sSet 5 (mF F__law_worst (aCons (mV 2) (aCons (mV 4) (aNil)))))
    (sIf (cNot (mTru pTru (mF (F__law_same 8) (aCons (mN pLst (aCons (mF F_worst_gone (aCons (mV 3) (aCons (mV 4) (aNil)))) (aCons (mF (kwF [1, 0] [] F_worst_gone) (aCons (mV 4) (aCons (mV 3) (aNil)))) (aNil)))) (aCons (mN pLst (aCons (mV 5) (aCons (mV 5) (aNil)))) (aNil)))))) (sRet (mC (.bl false))) (sNil))

abbrev l2__law_right : SM := sSeq (sSet 2 (mF F__law_drawn (aCons (mV 0) (aNil))))
    (sSeq (sSet 3 (mF Hk.F_Plan_of (aCons (mF (F__law_lists 8) (aCons (mV 2) (aNil))) (aNil))))
    (sSeq (sFor (iRg rg1 (aCons (mC (.int 4)) (aNil))) (gN 4) (l1__law_right))
    (sIf (cNot (mTru pTru (mF (F__law_same 8) (aCons (mN pLst (aCons (mF F_weak_ones (aCons (mV 3) (aNil))) (aCons (mF (kwF [0] [] F_weak_ones) (aCons (mV 3) (aNil))) (aCons (mPropM 2 Hk.F_Plan_parts (mV 3)) (aNil))))) (aCons (m2 pAdd (m2 pMul (mN pLst (aCons (mF F__law_weak (aCons (mV 2) (aNil))) (aNil))) (mC (.int 2))) (mN pLst (aCons (mV 2) (aNil)))) (aNil)))))) (sRet (mC (.bl false))) (sNil))))

def b__law_right : SM := sSeq (sIf (cNot (mTru pTru (mF F__law_hand_right aNil))) (sRet (mC (.bl false))) (sNil))
    (sSeq (sFor (iRg rg1 (aCons (mC (.int 6)) (aNil))) (gN 1) (l2__law_right))
    (sRet (mC (.bl true))))
def R__law_right : FM := runB 6 1 b__law_right
def F__law_right : FM := view (R__law_right)

abbrev b_law : SM := lawMF 3 F__law_box F__law_right
abbrev R_law : FM := runB 3 1 b_law
abbrev F_law : FM := R_law
end K67
/-! the walk -/
namespace K67
open PySem PySem.Spec PyProof.Rows L2 Sm Hn
def topS (i : Nat) : Stmt := PySem.Challenge.pw_crosshomes_k67_whose_withdrawal_costs_mo.main.body.getD i (.Pass ⟨0, 0, 0, 0⟩)
section
variable {P : Program} {w : World} {G : Gs} {mg : Str → Option Value} {base : Heap}
abbrev s_tupled : Stmt := topS 4
theorem sc_tupled : FnScope ["thing", "part"] ["thing"] (defScope s_tupled) := ⟨rfl, rfl, rfl, by decide +kernel, rfl, by decide +kernel, by decide +kernel⟩
theorem w_tupled (z_isinstance : mg "isinstance" = none) (z_list : mg "list" = none) (z_tuple : mg "tuple" = none) {f : Addr} {fd : FuncData} (Fu : Fun G.K "tupled" "tupled" s_tupled f fd) (hmg : mg "tupled" = some (.ref f)) : ∀ n : Nat, Cal P w G mg base (0 + n) "tupled" 1 [] (F_tupled n)
  | 0 => Cal.bad hmg Fu.kp
  | n + 1 => by
    have hself := w_tupled z_isinstance z_list z_tuple Fu hmg n
    refine (Cal.fn hmg Fu (show FnOk P w G.K mg base (L2.CX P w) (0 + n + 1) f fd ["thing"] (SpM G (runB 2 1 (b_tupled (F_tupled n)))) from fn_ok2 rfl rfl Fu sc_tupled ?_) (Fu.binds (ps := ["thing"]) fun _ _ _ _ _ _ us hl => match us, hl with | [_], _ => rfl)).isoC
    exact fun cdv A outer s H E B hp =>
        ss_one (s_ret (e_if (xtru B (xisaT B z_isinstance ["list", "tuple"] (xv 0) (pa_cons (xty z_list PyProof.Rows.boot_list) (pa_cons (xty z_tuple PyProof.Rows.boot_tuple) (pa_nil))))) (xt (b_tuple B.hK B.calm) z_tuple PyProof.Rows.boot_tuple (xa (ylc [("part", 1)] lEnd B (i_seq (Bx.hK B) (xv 0)) (fun s1 H1 C1 cl1 fp1 => yname 1 (B.blk s1 H1 _ _ fp1)) (g_name) (fun s1 H1 C1 cl1 fp1 => ts_nil) (fun s1 H1 C1 cl1 fp1 => xcall hself ((B.blk s1 H1 _ _ fp1).le (by omega)) (xa (xv 1) (a_nil)))) (a_nil))) (xv 0)))
abbrev s_as_set : Stmt := topS 5
theorem sc_as_set : FnScope ["names"] ["names"] (defScope s_as_set) := ⟨rfl, rfl, rfl, by decide +kernel, rfl, by decide +kernel, by decide +kernel⟩
theorem w_as_set (z_set : mg "set" = none) (z_sorted : mg "sorted" = none) (z_tuple : mg "tuple" = none) {f : Addr} {fd : FuncData} (Fu : Fun G.K "as_set" "as_set" s_as_set f fd) : FnOk P w G.K mg base (L2.CX P w) 1 f fd ["names"] (SpM G R_as_set) := by
  show FnOk P w G.K mg base (L2.CX P w) (0 + 1) f fd ["names"] (SpM G (runB 1 1 b_as_set))
  refine fn_ok2 rfl rfl Fu sc_as_set ?_
  exact fun cdv A outer s H E B hp =>
    ss_one (s_ret (xt (b_tuple B.hK B.calm) z_tuple PyProof.Rows.boot_tuple (xa (xss B z_sorted z_set (xv 0)) (a_nil))))
theorem bd_as_set {f : Addr} {fd : FuncData} (Fu : Fun G.K "as_set" "as_set" s_as_set f fd) : Binds G.K fd ["names"] [] := Fu.binds (ps := ["names"]) fun _ _ _ _ _ _ us hl => match us, hl with | [_], _ => rfl
abbrev s_turned : Stmt := topS 8
theorem sc_turned : FnScope ["part", "names", "end", "at"] ["part"] (defScope s_turned) := ⟨rfl, rfl, rfl, by decide +kernel, rfl, by decide +kernel, by decide +kernel⟩
theorem w_turned (z_min : mg "min" = none) {tk_RING : Tok} (gb_RING : mg "RING" = some (.str ("" : Str) tk_RING)) (hN : G.tk = false) {f : Addr} {fd : FuncData} (Fu : Fun G.K "turned" "turned" s_turned f fd) : FnOk P w G.K mg base (L2.CX P w) 1 f fd ["part"] (SpM G Hk.R_turned) := by
  show FnOk P w G.K mg base (L2.CX P w) (0 + 1) f fd ["part"] (SpM G (runB 4 1 Hk.b_turned))
  refine fn_ok2 rfl rfl Fu sc_turned ?_
  exact fun cdv A outer s H E B hp =>
    ss_cons (yasg (ytup B (pgs_cons (yname 1 B) (pgs_cons (yname 2 B) (pgs_nil)))) (ytupS (Bx.hK B) (glen_cons (glen_cons (glen_nil))) (gs_cons (g_name) (gs_cons (g_name) (gs_nil)))) (e_wk hN (xv 0)))
    (ss_cons (yset 3 B (e_if (xcmpT (o_eq B.room.units B.hK) (xv 2) (xglobS gb_RING)) (e_tm PySem.F.slot_tuple_index PySem.F.type_tuple_index (m_indexT B.hK) (xv 1) (xa (xb (b_minT B.calm B.hK B.room.units) z_min PyProof.Rows.boot_min (xa (e_wk hN (xv 1)) (a_nil))) (a_nil))) (e_int)))
    (ss_one (s_ret (e_tup (xa (e_op (o_add B.hK) (e_sl (sl_any B.hK) (e_wk hN (xv 1)) (o_pt (xv 3)) (o_no)) (e_sl (sl_any B.hK) (e_wk hN (xv 1)) (o_no) (o_pt (xv 3)))) (xa (xv 2) (a_nil)))))))
theorem bd_turned {f : Addr} {fd : FuncData} (Fu : Fun G.K "turned" "turned" s_turned f fd) : Binds G.K fd ["part"] [] := Fu.binds (ps := ["part"]) fun _ _ _ _ _ _ us hl => match us, hl with | [_], _ => rfl
abbrev s_goals_of : Stmt := topS 9
theorem sc_goals_of : FnScope ["part", "names", "end"] ["part"] (defScope s_goals_of) := ⟨rfl, rfl, rfl, by decide +kernel, rfl, by decide +kernel, by decide +kernel⟩
theorem w_goals_of {tk_RING : Tok} (gb_RING : mg "RING" = some (.str ("" : Str) tk_RING)) {f : Addr} {fd : FuncData} (Fu : Fun G.K "goals_of" "goals_of" s_goals_of f fd) : FnOk P w G.K mg base (L2.CX P w) 1 f fd ["part"] (SpM G Hk.R_goals_of) := by
  show FnOk P w G.K mg base (L2.CX P w) (0 + 1) f fd ["part"] (SpM G (runB 3 1 Hk.b_goals_of))
  refine fn_ok2 rfl rfl Fu sc_goals_of ?_
  exact fun cdv A outer s H E B hp =>
    ss_cons (yasg (ytup B (pgs_cons (yname 1 B) (pgs_cons (yname 2 B) (pgs_nil)))) (ytupS (Bx.hK B) (glen_cons (glen_cons (glen_nil))) (gs_cons (g_name) (gs_cons (g_name) (gs_nil)))) (xv 0))
    (ss_one (s_ret (e_tup (a_star (Bx.hK B) (e_sl (sl_any B.hK) (xv 1) (o_pt (e_int)) (o_no)) (xa (e_if (xcmpT (o_eq B.room.units B.hK) (xv 2) (xglobS gb_RING)) (xix B (xv 1) (e_int)) (xv 2)) (a_nil))))))
theorem bd_goals_of {f : Addr} {fd : FuncData} (Fu : Fun G.K "goals_of" "goals_of" s_goals_of f fd) : Binds G.K fd ["part"] [] := Fu.binds (ps := ["part"]) fun _ _ _ _ _ _ us hl => match us, hl with | [_], _ => rfl
abbrev s_names_in : Stmt := topS 10
theorem sc_names_in : FnScope ["parts", "found", "names", "end"] ["parts"] (defScope s_names_in) := ⟨rfl, rfl, rfl, by decide +kernel, rfl, by decide +kernel, by decide +kernel⟩
theorem w_names_in {tk_RING : Tok} (gb_RING : mg "RING" = some (.str ("" : Str) tk_RING)) {f : Addr} {fd : FuncData} (Fu : Fun G.K "names_in" "names_in" s_names_in f fd) : FnOk P w G.K mg base (L2.CX P w) 1 f fd ["parts"] (SpM G Hk.R_names_in) := by
  show FnOk P w G.K mg base (L2.CX P w) (0 + 1) f fd ["parts"] (SpM G (runB 4 1 Hk.b_names_in))
  refine fn_ok2 rfl rfl Fu sc_names_in ?_
  exact fun cdv A outer s H E B hp =>
    ss_cons (yset 1 B (e_lstB (a_nil)))
    (ss_cons (yfor hp B (i_seq (Bx.hK B) (xv 0)) (ytup B (pgs_cons (yname 2 B) (pgs_cons (yname 3 B) (pgs_nil)))) (ytupS (Bx.hK B) (glen_cons (glen_cons (glen_nil))) (gs_cons (g_name) (gs_cons (g_name) (gs_nil)))) (ss_one (yexpr (xlm B PySem.F.slot_list_extend PySem.F.type_list_extend (m_extendA (Bx.hK B)) (xv 1) (xa (e_if (xcmpT (o_eq B.room.units B.hK) (xv 3) (xglobS gb_RING)) (xv 2) (e_tup (a_star (Bx.hK B) (xv 2) (xa (xv 3) (a_nil))))) (a_nil))))))
    (ss_one (s_ret (e_frz (xv 1)))))
theorem bd_names_in {f : Addr} {fd : FuncData} (Fu : Fun G.K "names_in" "names_in" s_names_in f fd) : Binds G.K fd ["parts"] [] := Fu.binds (ps := ["parts"]) fun _ _ _ _ _ _ us hl => match us, hl with | [_], _ => rfl
abbrev s_goals_in : Stmt := topS 11
theorem sc_goals_in : FnScope ["parts", "part", "name", "goal"] ["parts"] (defScope s_goals_in) := ⟨rfl, rfl, rfl, by decide +kernel, rfl, by decide +kernel, by decide +kernel⟩
theorem w_goals_in (z_zip : mg "zip" = none) (c_goals_of : Cal P w G mg base 1 "goals_of" 1 [] Hk.F_goals_of) {f : Addr} {fd : FuncData} (Fu : Fun G.K "goals_in" "goals_in" s_goals_in f fd) : FnOk P w G.K mg base (L2.CX P w) 2 f fd ["parts"] (SpM G Hk.R_goals_in) := by
  show FnOk P w G.K mg base (L2.CX P w) (1 + 1) f fd ["parts"] (SpM G (runB 4 1 Hk.b_goals_in))
  refine fn_ok2 rfl rfl Fu sc_goals_in ?_
  exact fun cdv A outer s H E B hp =>
    ss_one (s_ret (ydc2 [("part", 1), ("name", 2), ("goal", 3)] [2, 3] dEnd B (i_seq (Bx.hK B) (xv 0)) (fun s1 H1 C1 cl1 fp1 => yname 1 (B.blk s1 H1 _ _ fp1)) (g_name) (fun s1 H1 C1 cl1 fp1 => ts_nil) (fun s1 H1 C1 cl1 fp1 => pi_zipB (Bx.hK (B.blk s1 H1 _ _ fp1)) z_zip (xa (xix (B.blk s1 H1 _ _ fp1) (xv 1) (e_int)) (xa (xcall c_goals_of ((B.blk s1 H1 _ _ fp1).le (by omega)) (xa (xv 1) (a_nil))) (a_nil)))) rdb_zip (fun s1 H1 C1 cl1 fp1 => ytup (B.blk s1 H1 _ _ fp1) (pgs_cons (yname 2 (B.blk s1 H1 _ _ fp1)) (pgs_cons (yname 3 (B.blk s1 H1 _ _ fp1)) (pgs_nil)))) (ytupS (Bx.hK B) (glen_cons (glen_cons (glen_nil))) (gs_cons (g_name) (gs_cons (g_name) (gs_nil)))) (fun s1 H1 C1 cl1 fp1 => ts_nil) (fun s1 H1 C1 cl1 fp1 => xv 2) (fun s1 H1 C1 cl1 fp1 => xv 3)))
theorem bd_goals_in {f : Addr} {fd : FuncData} (Fu : Fun G.K "goals_in" "goals_in" s_goals_in f fd) : Binds G.K fd ["parts"] [] := Fu.binds (ps := ["parts"]) fun _ _ _ _ _ _ us hl => match us, hl with | [_], _ => rfl
abbrev s_tupledN : Stmt := topS 4
theorem sc_tupledN : FnScope ["thing", "part"] ["thing"] (defScope s_tupledN) := ⟨rfl, rfl, rfl, by decide +kernel, rfl, by decide +kernel, by decide +kernel⟩
theorem w_tupledN (z_isinstance : mg "isinstance" = none) (z_list : mg "list" = none) (z_tuple : mg "tuple" = none) {f : Addr} {fd : FuncData} (Fu : Fun G.K "tupled" "tupled" s_tupledN f fd) (hmg : mg "tupled" = some (.ref f)) : ∀ n : Nat, Cal P w G mg base (0 + n) "tupled" 1 [] (Hk.F_tupledN n)
  | 0 => Cal.bad hmg Fu.kp
  | n + 1 => by
    have hself := w_tupledN z_isinstance z_list z_tuple Fu hmg n
    refine (Cal.fn hmg Fu (show FnOk P w G.K mg base (L2.CX P w) (0 + n + 1) f fd ["thing"] (SpM G (runB 2 1 (Hk.b_tupledN (Hk.F_tupledN n)))) from fn_ok2 rfl rfl Fu sc_tupledN ?_) (Fu.binds (ps := ["thing"]) fun _ _ _ _ _ _ us hl => match us, hl with | [_], _ => rfl)).isoC
    exact fun cdv A outer s H E B hp =>
        ss_one (s_ret (e_if (xtru B (xisaT B z_isinstance ["list", "tuple"] (xv 0) (pa_cons (xty z_list PyProof.Rows.boot_list) (pa_cons (xty z_tuple PyProof.Rows.boot_tuple) (pa_nil))))) (xt (b_tupleN B.hK) z_tuple PyProof.Rows.boot_tuple (xa (ylc [("part", 1)] lEnd B (i_seq (Bx.hK B) (xv 0)) (fun s1 H1 C1 cl1 fp1 => yname 1 (B.blk s1 H1 _ _ fp1)) (g_name) (fun s1 H1 C1 cl1 fp1 => ts_nil) (fun s1 H1 C1 cl1 fp1 => xcall hself ((B.blk s1 H1 _ _ fp1).le (by omega)) (xa (xv 1) (a_nil)))) (a_nil))) (xv 0)))
abbrev s_Plan_init : Stmt := inClass (topS 17) 1
theorem sc_Plan_init : FnScope ["self", "parts", "found", "part", "names", "twice", "name"] ["self", "parts"] (defScope s_Plan_init) := ⟨rfl, rfl, rfl, by decide +kernel, rfl, by decide +kernel, by decide +kernel⟩
theorem w_Plan_init (hc_Plan : SlX.SCls G.K (G.cls 2)) {pp_own_goals : Addr} (sl_own_goals : SlX.Slot1 G.K (G.cls 2) "own_goals" pp_own_goals 0) {pp_own_parts : Addr} (sl_own_parts : SlX.Slot1 G.K (G.cls 2) "own_parts" pp_own_parts 1) (z_len : mg "len" = none) (z_min : mg "min" = none) (z_sorted : mg "sorted" = none) (z_tuple : mg "tuple" = none) (rs_Clash : Rsx P G mg "Clash" 0) (hN : G.tk = false) (c_goals_in : Cal P w G mg base 2 "goals_in" 1 [] Hk.F_goals_in) (c_names_in : Cal P w G mg base 1 "names_in" 1 [] Hk.F_names_in) (c_tupledN : ∀ n : Nat, Cal P w G mg base (0 + n) "tupled" 1 [] (Hk.F_tupledN n)) (c_turned : Cal P w G mg base 1 "turned" 1 [] Hk.F_turned) {f : Addr} {fd : FuncData} (Fu : Fun G.K "__init__" "Plan.__init__" s_Plan_init f fd) : CallR' P w G mg base 9 f Hk.R_Plan_init := by
  show CallR' P w G mg base (8 + 1) f (starF 1 (runB 7 (1 + 1) Hk.b_Plan_init))
  refine fn_okS (ps := ["self"]) (pv := "parts") rfl rfl Fu sc_Plan_init (fun _ _ _ _ _ _ us rest hl => match us, rest, hl with | [_], [], _ => rfl | [_], _ :: _, _ => rfl) ?_
  exact fun cdv A outer s H E B hp =>
    ss_cons (yset 2 B (xb (b_sorted B.hK B.room.units) z_sorted PyProof.Rows.boot_sorted (xa (ylc [("part", 3)] lEnd B (i_seq (Bx.hK B) (e_wk hN (xcall (c_tupledN 8) (B.le (by omega)) (xa (xv 1) (a_nil))))) (fun s1 H1 C1 cl1 fp1 => yname 3 (B.blk s1 H1 _ _ fp1)) (g_name) (fun s1 H1 C1 cl1 fp1 => ts_nil) (fun s1 H1 C1 cl1 fp1 => xcall c_turned ((B.blk s1 H1 _ _ fp1).le (by omega)) (xa (xv 3) (a_nil)))) (a_nil))))
    (ss_cons (yset 4 B (xcall c_names_in (B.le (by omega)) (xa (xv 2) (a_nil))))
    (ss_cons (ysetLc 5 [("name", 6)] lEnd B (i_seq (Bx.hK B) (xv 4)) (fun s1 H1 C1 cl1 fp1 => yname 6 (B.blk s1 H1 _ _ fp1)) (g_name) (fun s1 H1 C1 cl1 fp1 => ts_one (xcmpT (o_gt) (xlm (B.blk s1 H1 _ _ fp1) PySem.F.slot_list_count PySem.F.type_list_count (m_count (B.blk s1 H1 _ _ fp1).hK) (xv 4) (xa (xv 6) (a_nil))) (e_int))) (fun s1 H1 C1 cl1 fp1 => xv 6))
    (ss_cons (s_if (xcmpT (o_gt) (xb (b_len B.hK) z_len PySem.boot_len (xa (xv 5) (a_nil))) (e_int)) (ss_one (yraise B (by omega) rs_Clash (xb (b_minT B.calm B.hK B.room.units) z_min PyProof.Rows.boot_min (xa (xv 5) (a_nil))))) (ss_nil))
    (ss_cons (yfld B hc_Plan sl_own_parts (xv 0) (xt (b_tuple B.hK B.calm) z_tuple PyProof.Rows.boot_tuple (xa (xv 2) (a_nil))))
    (ss_one (yfld B hc_Plan sl_own_goals (xv 0) (xcall c_goals_in (B.le (by omega)) (xa (xv 2) (a_nil)))))))))
abbrev s_Plan_of : Stmt := inClass (topS 17) 2
theorem sc_Plan_of : FnScope ["cls", "parts"] ["cls", "parts"] (defScope s_Plan_of) := ⟨rfl, rfl, rfl, by decide +kernel, rfl, by decide +kernel, by decide +kernel⟩
theorem w_Plan_of (c_Plan_init : CalIV P w G mg base 9 2 "Plan" Hk.F_Plan_init) {f : Addr} {fd : FuncData} (Fu : Fun G.K "of" "Plan.of" s_Plan_of f fd) : FnOk P w G.K mg base (L2.CX P w) 11 f fd ["cls", "parts"] (SpC G Hk.R_Plan_of) := by
  show FnOk P w G.K mg base (L2.CX P w) (10 + 1) f fd ["cls", "parts"] (SpC G (runC 2 1 Hk.b_Plan_of))
  refine fn_okC rfl rfl Fu sc_Plan_of ?_
  exact fun cdv A outer s H E B hp =>
    ss_one (s_ret (ymakeDS c_Plan_init (B.le (by omega)) (xv 1)))
theorem bd_Plan_of {f : Addr} {fd : FuncData} (Fu : Fun G.K "of" "Plan.of" s_Plan_of f fd) : Binds G.K fd ["cls", "parts"] [] := Fu.binds (ps := ["cls", "parts"]) fun _ _ _ _ _ _ us hl => match us, hl with | [_, _], _ => rfl
abbrev s_Plan_parts : Stmt := inClass (topS 17) 5
theorem sc_Plan_parts : FnScope ["self"] ["self"] (defScope s_Plan_parts) := ⟨rfl, rfl, rfl, by decide +kernel, rfl, by decide +kernel, by decide +kernel⟩
theorem w_Plan_parts (hc_Plan : SlX.SCls G.K (G.cls 2)) {pp_own_parts : Addr} (sl_own_parts : SlX.Slot1 G.K (G.cls 2) "own_parts" pp_own_parts 1) {f : Addr} {fd : FuncData} (Fu : Fun G.K "parts" "Plan.parts" s_Plan_parts f fd) : FnOk P w G.K mg base (L2.CX P w) 1 f fd ["self"] (SpM G Hk.R_Plan_parts) := by
  show FnOk P w G.K mg base (L2.CX P w) (0 + 1) f fd ["self"] (SpM G (runB 1 1 Hk.b_Plan_parts))
  refine fn_ok2 rfl rfl Fu sc_Plan_parts ?_
  exact fun cdv A outer s H E B hp =>
    ss_one (s_ret (xfld B hc_Plan sl_own_parts (xv 0)))
theorem bd_Plan_parts {f : Addr} {fd : FuncData} (Fu : Fun G.K "parts" "Plan.parts" s_Plan_parts f fd) : Binds G.K fd ["self"] [] := Fu.binds (ps := ["self"]) fun _ _ _ _ _ _ us hl => match us, hl with | [_], _ => rfl
abbrev s_ender : Stmt := topS 19
theorem sc_ender : FnScope ["part", "names", "end"] ["part"] (defScope s_ender) := ⟨rfl, rfl, rfl, by decide +kernel, rfl, by decide +kernel, by decide +kernel⟩
theorem w_ender {tk_RING : Tok} (gb_RING : mg "RING" = some (.str ("" : Str) tk_RING)) {f : Addr} {fd : FuncData} (Fu : Fun G.K "ender" "ender" s_ender f fd) : FnOk P w G.K mg base (L2.CX P w) 1 f fd ["part"] (SpM G R_ender) := by
  show FnOk P w G.K mg base (L2.CX P w) (0 + 1) f fd ["part"] (SpM G (runB 3 1 b_ender))
  refine fn_ok2 rfl rfl Fu sc_ender ?_
  exact fun cdv A outer s H E B hp =>
    ss_cons (yasg (ytup B (pgs_cons (yname 1 B) (pgs_cons (yname 2 B) (pgs_nil)))) (ytupS (Bx.hK B) (glen_cons (glen_cons (glen_nil))) (gs_cons (g_name) (gs_cons (g_name) (gs_nil)))) (xv 0))
    (ss_one (s_ret (e_if (xcmpT (o_eq B.room.units B.hK) (xv 2) (xglobS gb_RING)) (xix B (xv 1) (e_int)) (xix B (xv 1) (e_un u_neg (e_int))))))
theorem bd_ender {f : Addr} {fd : FuncData} (Fu : Fun G.K "ender" "ender" s_ender f fd) : Binds G.K fd ["part"] [] := Fu.binds (ps := ["part"]) fun _ _ _ _ _ _ us hl => match us, hl with | [_], _ => rfl
abbrev s_worst_gone : Stmt := topS 20
theorem sc_worst_gone : FnScope ["plan", "many", "rows", "part", "size", "name"] ["plan", "many"] (defScope s_worst_gone) := ⟨rfl, rfl, rfl, by decide +kernel, rfl, by decide +kernel, by decide +kernel⟩
theorem w_worst_gone (z_len : mg "len" = none) (z_sorted : mg "sorted" = none) (c_Plan_parts : CalP P w G mg base 1 2 "parts" Hk.F_Plan_parts) (c_as_set : Cal P w G mg base 1 "as_set" 1 [] F_as_set) (c_ender : Cal P w G mg base 1 "ender" 1 [] F_ender) {f : Addr} {fd : FuncData} (Fu : Fun G.K "worst_gone" "worst_gone" s_worst_gone f fd) : FnOk P w G.K mg base (L2.CX P w) 3 f fd ["plan", "many"] (SpM G R_worst_gone) := by
  show FnOk P w G.K mg base (L2.CX P w) (2 + 1) f fd ["plan", "many"] (SpM G (runB 6 2 b_worst_gone))
  refine fn_ok2 rfl rfl Fu sc_worst_gone ?_
  exact fun cdv A outer s H E B hp =>
    ss_cons (yset 2 B (xb (b_sorted B.hK B.room.units) z_sorted PyProof.Rows.boot_sorted (xa (ylc [("part", 3)] lEnd B (i_seq (Bx.hK B) (yprop c_Plan_parts (B.le (by omega)) (xv 0))) (fun s1 H1 C1 cl1 fp1 => yname 3 (B.blk s1 H1 _ _ fp1)) (g_name) (fun s1 H1 C1 cl1 fp1 => ts_nil) (fun s1 H1 C1 cl1 fp1 => e_tup (xa (e_un u_neg (xb (b_len (B.blk s1 H1 _ _ fp1).hK) z_len PySem.boot_len (xa (xix (B.blk s1 H1 _ _ fp1) (xv 3) (e_int)) (a_nil)))) (xa (xcall c_ender ((B.blk s1 H1 _ _ fp1).le (by omega)) (xa (xv 3) (a_nil))) (a_nil))))) (a_nil))))
    (ss_one (s_ret (xcall c_as_set (B.le (by omega)) (xa (ylc [("size", 4), ("name", 5)] lEnd B (i_seq (Bx.hK B) (e_sl (sl_any B.hK) (xv 2) (o_no) (o_pt (xv 1)))) (fun s1 H1 C1 cl1 fp1 => ytup (B.blk s1 H1 _ _ fp1) (pgs_cons (yname 4 (B.blk s1 H1 _ _ fp1)) (pgs_cons (yname 5 (B.blk s1 H1 _ _ fp1)) (pgs_nil)))) (ytupS (Bx.hK B) (glen_cons (glen_cons (glen_nil))) (gs_cons (g_name) (gs_cons (g_name) (gs_nil)))) (fun s1 H1 C1 cl1 fp1 => ts_nil) (fun s1 H1 C1 cl1 fp1 => xv 5)) (a_nil)))))
theorem bd_worst_gone {f : Addr} {fd : FuncData} (Fu : Fun G.K "worst_gone" "worst_gone" s_worst_gone f fd) : Binds G.K fd ["plan", "many"] [] := Fu.binds (ps := ["plan", "many"]) fun _ _ _ _ _ _ us hl => match us, hl with | [_, _], _ => rfl
abbrev s_weak_ones : Stmt := topS 21
theorem sc_weak_ones : FnScope ["plan", "found", "most", "names", "end"] ["plan"] (defScope s_weak_ones) := ⟨rfl, rfl, rfl, by decide +kernel, rfl, by decide +kernel, by decide +kernel⟩
theorem w_weak_ones (z_len : mg "len" = none) (z_max : mg "max" = none) {tk_RING : Tok} (gb_RING : mg "RING" = some (.str ("" : Str) tk_RING)) (c_Plan_parts : CalP P w G mg base 1 2 "parts" Hk.F_Plan_parts) (c_as_set : Cal P w G mg base 1 "as_set" 1 [] F_as_set) {f : Addr} {fd : FuncData} (Fu : Fun G.K "weak_ones" "weak_ones" s_weak_ones f fd) : FnOk P w G.K mg base (L2.CX P w) 3 f fd ["plan"] (SpM G R_weak_ones) := by
  show FnOk P w G.K mg base (L2.CX P w) (2 + 1) f fd ["plan"] (SpM G (runB 5 1 b_weak_ones))
  refine fn_ok2 rfl rfl Fu sc_weak_ones ?_
  exact fun cdv A outer s H E B hp =>
    ss_cons (s_par2 B (xa (e_lstB (a_nil)) (xa (xmaxD0 B z_max (ylc [("names", 3), ("end", 4)] lEnd B (i_seq (Bx.hK B) (yprop c_Plan_parts (B.le (by omega)) (xv 0))) (fun s1 H1 C1 cl1 fp1 => ytup (B.blk s1 H1 _ _ fp1) (pgs_cons (yname 3 (B.blk s1 H1 _ _ fp1)) (pgs_cons (yname 4 (B.blk s1 H1 _ _ fp1)) (pgs_nil)))) (ytupS (Bx.hK B) (glen_cons (glen_cons (glen_nil))) (gs_cons (g_name) (gs_cons (g_name) (gs_nil)))) (fun s1 H1 C1 cl1 fp1 => ts_nil) (fun s1 H1 C1 cl1 fp1 => xb (b_len (B.blk s1 H1 _ _ fp1).hK) z_len PySem.boot_len (xa (xv 3) (a_nil))))) (a_nil))))
    (ss_cons (yfor hp B (i_seq (Bx.hK B) (yprop c_Plan_parts (B.le (by omega)) (xv 0))) (ytup B (pgs_cons (yname 3 B) (pgs_cons (yname 4 B) (pgs_nil)))) (ytupS (Bx.hK B) (glen_cons (glen_cons (glen_nil))) (gs_cons (g_name) (gs_cons (g_name) (gs_nil)))) (ss_one (s_if (xcmpT (o_eq B.room.units B.hK) (xb (b_len B.hK) z_len PySem.boot_len (xa (xv 3) (a_nil))) (xv 2)) (ss_one (yexpr (xlm B PySem.F.slot_list_extend PySem.F.type_list_extend (m_extendA (Bx.hK B)) (xv 1) (xa (e_if (xcmpT (o_eq B.room.units B.hK) (xv 4) (xglobS gb_RING)) (xv 3) (e_sl (sl_any B.hK) (xv 3) (o_pt (e_un u_neg (e_int))) (o_no))) (a_nil))))) (ss_nil))))
    (ss_one (s_ret (xcall c_as_set (B.le (by omega)) (xa (e_frz (xv 1)) (a_nil))))))
theorem bd_weak_ones {f : Addr} {fd : FuncData} (Fu : Fun G.K "weak_ones" "weak_ones" s_weak_ones f fd) : Binds G.K fd ["plan"] [] := Fu.binds (ps := ["plan"]) fun _ _ _ _ _ _ us hl => match us, hl with | [_], _ => rfl
abbrev s__law_box : Stmt := topS 23
theorem sc__law_box : FnScope ["_law_script", "_law_k", "_law_cell"] ["_law_script", "_law_k"] (defScope s__law_box) := ⟨rfl, rfl, rfl, by decide +kernel, rfl, by decide +kernel, by decide +kernel⟩
theorem w__law_box (z_abs : mg "abs" = none) (z_int : mg "int" = none) (z_len : mg "len" = none) {f : Addr} {fd : FuncData} (Fu : Fun G.K "_law_box" "_law_box" s__law_box f fd) : FnOk P w G.K mg base (L2.CX P w) 1 f fd ["_law_script", "_law_k"] (SpM G R__law_box) := by
  show FnOk P w G.K mg base (L2.CX P w) (0 + 1) f fd ["_law_script", "_law_k"] (SpM G (runB 3 2 b__law_box))
  refine fn_ok2 rfl rfl Fu sc__law_box ?_
  exact fun cdv A outer s H E B hp =>
    ss_cons (yset 2 B (e_if (xcmpT (o_lt) (xv 1) (xb (b_len B.hK) z_len PySem.boot_len (xa (xv 0) (a_nil)))) (xix B (xv 0) (xv 1)) (e_int)))
    (ss_one (s_ret (e_lstB (xa (e_op (o_mul) (xb (b_abs) z_abs PyProof.Rows.boot_abs (xa (xv 2) (a_nil))) (xt (b_int) z_int PyProof.Rows.boot_int (xa (xcmp (o_ge) (xb (b_abs) z_abs PyProof.Rows.boot_abs (xa (xv 2) (a_nil))) (e_op (o_pow) (e_int) (e_int))) (a_nil)))) (xa (e_op (o_add B.hK) (e_op (o_add B.hK) (e_op (o_mod) (xt (b_int) z_int PyProof.Rows.boot_int (xa (xv 2) (a_nil))) (e_int)) (e_op (o_mul) (e_int) (xv 1))) (e_int)) (xa (e_int) (a_nil)))))))
theorem bd__law_box {f : Addr} {fd : FuncData} (Fu : Fun G.K "_law_box" "_law_box" s__law_box f fd) : Binds G.K fd ["_law_script", "_law_k"] [] := Fu.binds (ps := ["_law_script", "_law_k"]) fun _ _ _ _ _ _ us hl => match us, hl with | [_, _], _ => rfl
abbrev s__law_take : Stmt := topS 24
theorem sc__law_take : FnScope ["_law_urn", "_law_low_so", "_law_drawn_here", "_law_once", "_law_far", "_law_twice"] ["_law_urn", "_law_low_so"] (defScope s__law_take) := ⟨rfl, rfl, rfl, by decide +kernel, rfl, by decide +kernel, by decide +kernel⟩
theorem w__law_take (z_int : mg "int" = none) {f : Addr} {fd : FuncData} (Fu : Fun G.K "_law_take" "_law_take" s__law_take f fd) : FnOk P w G.K mg base (L2.CX P w) 1 f fd ["_law_urn", "_law_low_so"] (SpM G R__law_take) := by
  show FnOk P w G.K mg base (L2.CX P w) (0 + 1) f fd ["_law_urn", "_law_low_so"] (SpM G (runB 6 2 b__law_take))
  refine fn_ok2 rfl rfl Fu sc__law_take ?_
  exact fun cdv A outer s H E B hp =>
    ss_cons (s_if (xcmpT (o_gt) (xix B (xv 0) (e_int)) (e_int)) (ss_cons (yset 2 B (e_op (o_mod) (xt (b_int) z_int PyProof.Rows.boot_int (xa (xix B (xv 0) (e_int)) (a_nil))) (xv 1)))
    (ss_cons (ysub B (xv 0) (e_int) (e_op (o_div) (xix B (xv 0) (e_int)) (xv 1)))
    (ss_one (s_ret (xv 2))))) (ss_nil))
    (ss_cons (ysub B (xv 0) (e_int) (e_op (o_add B.hK) (xix B (xv 0) (e_int)) (e_int)))
    (ss_cons (yset 3 B (e_op (o_mod) (xt (b_int) z_int PyProof.Rows.boot_int (xa (e_op (o_mul) (e_op (o_add B.hK) (xix B (xv 0) (e_int)) (e_op (o_mul) (e_int) (xix B (xv 0) (e_int)))) (e_op (o_add B.hK) (e_int) (xix B (xv 0) (e_int)))) (a_nil))) (e_int)))
    (ss_cons (yset 4 B (e_op (o_add B.hK) (e_op (o_mod) (xt (b_int) z_int PyProof.Rows.boot_int (xa (xv 3) (a_nil))) (e_int)) (e_int)))
    (ss_cons (yset 5 B (e_op (o_mod) (xt (b_int) z_int PyProof.Rows.boot_int (xa (e_op (o_mul) (e_op (o_add B.hK) (e_op (o_add B.hK) (xv 3) (xix B (xv 0) (e_int))) (e_op (o_div) (xix B (xv 0) (e_int)) (e_int))) (xv 4)) (a_nil))) (e_int)))
    (ss_one (s_ret (e_op (o_mod) (xt (b_int) z_int PyProof.Rows.boot_int (xa (e_op (o_div) (e_op (o_mod) (xt (b_int) z_int PyProof.Rows.boot_int (xa (e_op (o_add B.hK) (e_op (o_mul) (xv 5) (e_int)) (xv 3)) (a_nil))) (e_int)) (e_int)) (a_nil))) (xv 1))))))))
theorem bd__law_take {f : Addr} {fd : FuncData} (Fu : Fun G.K "_law_take" "_law_take" s__law_take f fd) : Binds G.K fd ["_law_urn", "_law_low_so"] [] := Fu.binds (ps := ["_law_urn", "_law_low_so"]) fun _ _ _ _ _ _ us hl => match us, hl with | [_, _], _ => rfl
abbrev s__law_cells : Stmt := topS 25
theorem sc__law_cells : FnScope ["_law_script", "_law_top", "_law_cells_here", "_law_k", "_law_cell", "_law_at_so"] ["_law_script", "_law_top"] (defScope s__law_cells) := ⟨rfl, rfl, rfl, by decide +kernel, rfl, by decide +kernel, by decide +kernel⟩
theorem w__law_cells (z_enumerate : mg "enumerate" = none) (z_int : mg "int" = none) (z_list : mg "list" = none) {f : Addr} {fd : FuncData} (Fu : Fun G.K "_law_cells" "_law_cells" s__law_cells f fd) : FnOk P w G.K mg base (L2.CX P w) 1 f fd ["_law_script", "_law_top"] (SpM G R__law_cells) := by
  show FnOk P w G.K mg base (L2.CX P w) (0 + 1) f fd ["_law_script", "_law_top"] (SpM G (runB 6 2 b__law_cells))
  refine fn_ok2 rfl rfl Fu sc__law_cells ?_
  exact fun cdv A outer s H E B hp =>
    ss_cons (yset 2 B (xorT B (xt (b_listB B.hK B.calm) z_list PyProof.Rows.boot_list (xa (e_sl (sl_any B.hK) (xv 0) (o_no) (o_pt (xv 1))) (a_nil))) (e_one (e_lstB (xa (e_int) (a_nil))))))
    (ss_cons (yfor hp B (yenum B z_enumerate (xa (e_sl (sl_any B.hK) (xv 0) (o_pt (xv 1)) (o_pt (e_int))) (a_nil))) (ytup B (pgs_cons (yname 3 B) (pgs_cons (yname 4 B) (pgs_nil)))) (ytupS (Bx.hK B) (glen_cons (glen_cons (glen_nil))) (gs_cons (g_name) (gs_cons (g_name) (gs_nil)))) (ss_cons (yset 5 B (e_op (o_mod) (xt (b_int) z_int PyProof.Rows.boot_int (xa (xv 3) (a_nil))) (xv 1)))
    (ss_one (ysub B (xv 2) (xv 5) (e_op (o_add B.hK) (xix B (xv 2) (xv 5)) (e_op (o_mul) (xv 4) (e_op (o_add B.hK) (xv 3) (e_int))))))))
    (ss_one (s_ret (e_frz (xv 2)))))
theorem bd__law_cells {f : Addr} {fd : FuncData} (Fu : Fun G.K "_law_cells" "_law_cells" s__law_cells f fd) : Binds G.K fd ["_law_script", "_law_top"] [] := Fu.binds (ps := ["_law_script", "_law_top"]) fun _ _ _ _ _ _ us hl => match us, hl with | [_, _], _ => rfl
abbrev s__law_lists : Stmt := topS 26
theorem sc__law_lists : FnScope ["_law_matter", "_law_bit"] ["_law_matter"] (defScope s__law_lists) := ⟨rfl, rfl, rfl, by decide +kernel, rfl, by decide +kernel, by decide +kernel⟩
theorem w__law_lists (z_isinstance : mg "isinstance" = none) (z_list : mg "list" = none) (z_tuple : mg "tuple" = none) {f : Addr} {fd : FuncData} (Fu : Fun G.K "_law_lists" "_law_lists" s__law_lists f fd) (hmg : mg "_law_lists" = some (.ref f)) : ∀ n : Nat, Cal P w G mg base (0 + n) "_law_lists" 1 [] (F__law_lists n)
  | 0 => Cal.bad hmg Fu.kp
  | n + 1 => by
    have hself := w__law_lists z_isinstance z_list z_tuple Fu hmg n
    refine (Cal.fn hmg Fu (show FnOk P w G.K mg base (L2.CX P w) (0 + n + 1) f fd ["_law_matter"] (SpM G (runB 2 1 (b__law_lists (F__law_lists n)))) from fn_ok2 rfl rfl Fu sc__law_lists ?_) (Fu.binds (ps := ["_law_matter"]) fun _ _ _ _ _ _ us hl => match us, hl with | [_], _ => rfl)).isoC
    exact fun cdv A outer s H E B hp =>
        ss_one (s_ret (e_if (xtru B (xisaT B z_isinstance ["list", "tuple"] (xv 0) (pa_cons (xty z_list PyProof.Rows.boot_list) (pa_cons (xty z_tuple PyProof.Rows.boot_tuple) (pa_nil))))) (ylc [("_law_bit", 1)] lEnd B (i_seq (Bx.hK B) (xv 0)) (fun s1 H1 C1 cl1 fp1 => yname 1 (B.blk s1 H1 _ _ fp1)) (g_name) (fun s1 H1 C1 cl1 fp1 => ts_nil) (fun s1 H1 C1 cl1 fp1 => xcall hself ((B.blk s1 H1 _ _ fp1).le (by omega)) (xa (xv 1) (a_nil)))) (xv 0)))
abbrev s__law_same : Stmt := topS 27
theorem sc__law_same : FnScope ["_law_got", "_law_goal", "_law_mine_so", "_law_own"] ["_law_got", "_law_goal"] (defScope s__law_same) := ⟨rfl, rfl, rfl, by decide +kernel, rfl, by decide +kernel, by decide +kernel⟩
theorem w__law_same (z_all : mg "all" = none) (z_bool : mg "bool" = none) (z_int : mg "int" = none) (z_isinstance : mg "isinstance" = none) (z_len : mg "len" = none) (z_list : mg "list" = none) (z_str : mg "str" = none) (z_tuple : mg "tuple" = none) (z_zip : mg "zip" = none) {f : Addr} {fd : FuncData} (Fu : Fun G.K "_law_same" "_law_same" s__law_same f fd) (hmg : mg "_law_same" = some (.ref f)) : ∀ n : Nat, Cal P w G mg base (0 + n) "_law_same" 2 [] (F__law_same n)
  | 0 => Cal.bad hmg Fu.kp
  | n + 1 => by
    have hself := w__law_same z_all z_bool z_int z_isinstance z_len z_list z_str z_tuple z_zip Fu hmg n
    refine (Cal.fn hmg Fu (show FnOk P w G.K mg base (L2.CX P w) (0 + n + 1) f fd ["_law_got", "_law_goal"] (SpM G (runB 4 2 (b__law_same (F__law_same n)))) from fn_ok2 rfl rfl Fu sc__law_same ?_) (Fu.binds (ps := ["_law_got", "_law_goal"]) fun _ _ _ _ _ _ us hl => match us, hl with | [_, _], _ => rfl)).isoC
    exact fun cdv A outer s H E B hp =>
        ss_cons (s_if (xtru B (xisaT B z_isinstance ["list", "tuple"] (xv 1) (pa_cons (xty z_list PyProof.Rows.boot_list) (pa_cons (xty z_tuple PyProof.Rows.boot_tuple) (pa_nil))))) (ss_cons (s_if (L2.PW.pt (w_or (xcmpT (o_ne B.room.units B.hK) (xisa B z_isinstance (xv 0) (xty z_list PyProof.Rows.boot_list)) (xisa B z_isinstance (xv 1) (xty z_list PyProof.Rows.boot_list))) (w_or1 (xcmpT (o_ne B.room.units B.hK) (xisa B z_isinstance (xv 0) (xty z_tuple PyProof.Rows.boot_tuple)) (xisa B z_isinstance (xv 1) (xty z_tuple PyProof.Rows.boot_tuple)))))) (ss_one (s_ret (e_bl))) (ss_nil))
        (ss_one (s_ret (e_and (xcmp (o_eq B.room.units B.hK) (xb (b_len B.hK) z_len PySem.boot_len (xa (xv 0) (a_nil))) (xb (b_len B.hK) z_len PySem.boot_len (xa (xv 1) (a_nil)))) (e_one (xb (b_all B.hK B.calm) z_all PyProof.Rows.boot_all (xa (ylc [("_law_mine_so", 2), ("_law_own", 3)] lEnd B (yzip B z_zip (xa (xv 0) (xa (xv 1) (a_nil)))) (fun s1 H1 C1 cl1 fp1 => ytup (B.blk s1 H1 _ _ fp1) (pgs_cons (yname 2 (B.blk s1 H1 _ _ fp1)) (pgs_cons (yname 3 (B.blk s1 H1 _ _ fp1)) (pgs_nil)))) (ytupS (Bx.hK B) (glen_cons (glen_cons (glen_nil))) (gs_cons (g_name) (gs_cons (g_name) (gs_nil)))) (fun s1 H1 C1 cl1 fp1 => ts_nil) (fun s1 H1 C1 cl1 fp1 => xcall hself ((B.blk s1 H1 _ _ fp1).le (by omega)) (xa (xv 2) (xa (xv 3) (a_nil))))) (a_nil)))))))) (ss_nil))
        (ss_cons (s_if (L2.PW.pt (w_or (xcmpT (o_is) (xv 1) (e_non)) (w_or1 (xtru B (xisaT B z_isinstance ["bool", "str"] (xv 1) (pa_cons (xty z_bool PyProof.Rows.boot_bool) (pa_cons (xty z_str PyProof.Rows.boot_str) (pa_nil)))))))) (ss_one (s_ret (e_and (xcmp (o_eq B.room.units B.hK) (xv 0) (xv 1)) (e_and (xcmp (o_eq B.room.units B.hK) (xisa B z_isinstance (xv 0) (xty z_bool PyProof.Rows.boot_bool)) (xisa B z_isinstance (xv 1) (xty z_bool PyProof.Rows.boot_bool))) (e_one (xcmp (o_eq B.room.units B.hK) (xcmp (o_is) (xv 0) (e_non)) (xcmp (o_is) (xv 1) (e_non)))))))) (ss_nil))
        (ss_one (s_ret (e_and (xisa B z_isinstance (xv 0) (xty z_int PyProof.Rows.boot_int)) (e_and (e_not (xisa B z_isinstance (xv 0) (xty z_bool PyProof.Rows.boot_bool))) (e_one (xcmp (o_eq B.room.units B.hK) (xv 0) (xv 1))))))))
abbrev s__law_mixed : Stmt := topS 28
theorem sc__law_mixed : FnScope ["_law_urn", "_law_pool", "_law_left", "_law_found", "_law_turn"] ["_law_urn", "_law_pool"] (defScope s__law_mixed) := ⟨rfl, rfl, rfl, by decide +kernel, rfl, by decide +kernel, by decide +kernel⟩
theorem w__law_mixed (z_len : mg "len" = none) (z_list : mg "list" = none) (z_range : mg "range" = none) (z_tuple : mg "tuple" = none) (c__law_take : Cal P w G mg base 1 "_law_take" 2 [] F__law_take) {f : Addr} {fd : FuncData} (Fu : Fun G.K "_law_mixed" "_law_mixed" s__law_mixed f fd) : FnOk P w G.K mg base (L2.CX P w) 2 f fd ["_law_urn", "_law_pool"] (SpM G R__law_mixed) := by
  show FnOk P w G.K mg base (L2.CX P w) (1 + 1) f fd ["_law_urn", "_law_pool"] (SpM G (runB 5 2 b__law_mixed))
  refine fn_ok2 rfl rfl Fu sc__law_mixed ?_
  exact fun cdv A outer s H E B hp =>
    ss_cons (s_par2 B (xa (xt (b_listB B.hK B.calm) z_list PyProof.Rows.boot_list (xa (xv 1) (a_nil))) (xa (e_lstB (a_nil)) (a_nil))))
    (ss_cons (yfor hp B (yrg1 z_range (xa (xb (b_len B.hK) z_len PySem.boot_len (xa (xv 1) (a_nil))) (a_nil))) (yname 4 B) (g_name) (ss_one (yexpr (xlm B PySem.F.slot_list_append PySem.F.type_list_append m_append (xv 3) (xa (xlm B PySem.F.slot_list_pop PySem.F.type_list_pop m_popAt (xv 2) (xa (xcall c__law_take (B.le (by omega)) (xa (xv 0) (xa (xb (b_len B.hK) z_len PySem.boot_len (xa (xv 2) (a_nil))) (a_nil)))) (a_nil))) (a_nil))))))
    (ss_one (s_ret (xt (b_tuple B.hK B.calm) z_tuple PyProof.Rows.boot_tuple (xa (xv 3) (a_nil))))))
theorem bd__law_mixed {f : Addr} {fd : FuncData} (Fu : Fun G.K "_law_mixed" "_law_mixed" s__law_mixed f fd) : Binds G.K fd ["_law_urn", "_law_pool"] [] := Fu.binds (ps := ["_law_urn", "_law_pool"]) fun _ _ _ _ _ _ us hl => match us, hl with | [_, _], _ => rfl
abbrev s__law_drawn : Stmt := topS 29
theorem sc__law_drawn : FnScope ["_law_urn", "_law_free", "_law_found", "_law_line", "_law_size", "_law_part", "_law_k"] ["_law_urn"] (defScope s__law_drawn) := ⟨rfl, rfl, rfl, by decide +kernel, rfl, by decide +kernel, by decide +kernel⟩
theorem w__law_drawn (z_len : mg "len" = none) (z_list : mg "list" = none) (z_min : mg "min" = none) (z_sorted : mg "sorted" = none) (z_tuple : mg "tuple" = none) (c__law_mixed : Cal P w G mg base 2 "_law_mixed" 2 [] F__law_mixed) (c__law_take : Cal P w G mg base 1 "_law_take" 2 [] F__law_take) {f : Addr} {fd : FuncData} (Fu : Fun G.K "_law_drawn" "_law_drawn" s__law_drawn f fd) : FnOk P w G.K mg base (L2.CX P w) 3 f fd ["_law_urn"] (SpM G R__law_drawn) := by
  show FnOk P w G.K mg base (L2.CX P w) (2 + 1) f fd ["_law_urn"] (SpM G (runB 7 1 b__law_drawn))
  refine fn_ok2 rfl rfl Fu sc__law_drawn ?_
  exact fun cdv A outer s H E B hp =>
    ss_cons (s_par2 B (xa (e_lstB (xa (e_str) (xa (e_str) (xa (e_str) (a_nil))))) (xa (e_lstB (a_nil)) (a_nil))))
    (ss_cons (yset 3 B (xt (b_list B.hK B.calm) z_list PyProof.Rows.boot_list (xa (xcall c__law_mixed (B.le (by omega)) (xa (xv 0) (xa (e_lst (xa (e_str) (xa (e_str) (xa (e_str) (xa (e_str) (xa (e_str) (xa (e_str) (xa (e_str) (xa (e_str) (a_nil)))))))))) (a_nil)))) (a_nil))))
    (ss_cons (yset 3 B (e_sl (sl_any B.hK) (xv 3) (o_no) (o_pt (xcall c__law_take (B.le (by omega)) (xa (xv 0) (xa (e_int) (a_nil)))))))
    (ss_cons (s_while (n := 64) hp (xcmpT (o_ne B.room.units B.hK) (xv 3) (e_lst (a_nil))) (ss_cons (yset 4 B (e_op (o_add B.hK) (e_int) (xcall c__law_take (B.le (by omega)) (xa (xv 0) (xa (xb (b_min2 B.calm) z_min PyProof.Rows.boot_min (xa (e_int) (xa (xb (b_len B.hK) z_len PySem.boot_len (xa (xv 3) (a_nil))) (a_nil)))) (a_nil))))))
    (ss_cons (s_par2 B (xa (e_sl (sl_any B.hK) (xv 3) (o_no) (o_pt (xv 4))) (xa (e_sl (sl_any B.hK) (xv 3) (o_pt (xv 4)) (o_no)) (a_nil))))
    (ss_one (s_if (L2.PW.pt (w_and (xcmpT (o_gt) (xv 4) (e_int)) (w_and1 (L2.PW.pt (w_or (xcmpT (o_eq B.room.units B.hK) (xv 1) (e_lst (a_nil))) (w_or1 (xcmpT (o_eq B.room.units B.hK) (xcall c__law_take (B.le (by omega)) (xa (xv 0) (xa (e_int) (a_nil)))) (e_int)))))))) (ss_cons (yset 6 B (xlm B PySem.F.slot_list_index PySem.F.type_list_index (m_index B.hK) (xv 5) (xa (xb (b_minT B.calm B.hK B.room.units) z_min PyProof.Rows.boot_min (xa (xv 5) (a_nil))) (a_nil))))
    (ss_one (yexpr (xlm B PySem.F.slot_list_append PySem.F.type_list_append m_append (xv 2) (xa (e_tup (xa (xt (b_tuple B.hK B.calm) z_tuple PyProof.Rows.boot_tuple (xa (e_op (o_add B.hK) (e_sl (sl_any B.hK) (xv 5) (o_pt (xv 6)) (o_no)) (e_sl (sl_any B.hK) (xv 5) (o_no) (o_pt (xv 6)))) (a_nil))) (xa (e_str) (a_nil)))) (a_nil)))))) (ss_one (s_if (xcmpT (o_ne B.room.units B.hK) (xv 1) (e_lst (a_nil))) (ss_one (yexpr (xlm B PySem.F.slot_list_append PySem.F.type_list_append m_append (xv 2) (xa (e_tup (xa (xt (b_tuple B.hK B.calm) z_tuple PyProof.Rows.boot_tuple (xa (xv 5) (a_nil))) (xa (xlm0 B PySem.F.slot_list_pop PySem.F.type_list_pop m_pop (xv 1)) (a_nil)))) (a_nil))))) (ss_nil))))))))
    (ss_one (s_ret (xt (b_tuple B.hK B.calm) z_tuple PyProof.Rows.boot_tuple (xa (xb (b_sorted B.hK B.room.units) z_sorted PyProof.Rows.boot_sorted (xa (xv 2) (a_nil))) (a_nil))))))))
theorem bd__law_drawn {f : Addr} {fd : FuncData} (Fu : Fun G.K "_law_drawn" "_law_drawn" s__law_drawn f fd) : Binds G.K fd ["_law_urn"] [] := Fu.binds (ps := ["_law_urn"]) fun _ _ _ _ _ _ us hl => match us, hl with | [_], _ => rfl
abbrev s__law_rest_of : Stmt := topS 30
theorem sc__law_rest_of : FnScope ["_law_deed", "_law_off", "_law_found", "_law_line", "_law_flat", "_law_hits", "_law_k"] ["_law_deed", "_law_off"] (defScope s__law_rest_of) := ⟨rfl, rfl, rfl, by decide +kernel, rfl, by decide +kernel, by decide +kernel⟩
theorem w__law_rest_of (z_len : mg "len" = none) (z_range : mg "range" = none) (z_tuple : mg "tuple" = none) {f : Addr} {fd : FuncData} (Fu : Fun G.K "_law_rest_of" "_law_rest_of" s__law_rest_of f fd) : FnOk P w G.K mg base (L2.CX P w) 1 f fd ["_law_deed", "_law_off"] (SpM G R__law_rest_of) := by
  show FnOk P w G.K mg base (L2.CX P w) (0 + 1) f fd ["_law_deed", "_law_off"] (SpM G (runB 7 2 b__law_rest_of))
  refine fn_ok2 rfl rfl Fu sc__law_rest_of ?_
  exact fun cdv A outer s H E B hp =>
    ss_cons (yset 2 B (e_lstB (a_nil)))
    (ss_cons (yfor hp B (i_seq (Bx.hK B) (xv 0)) (ytup B (pgs_cons (yname 3 B) (pgs_cons (yname 4 B) (pgs_nil)))) (ytupS (Bx.hK B) (glen_cons (glen_cons (glen_nil))) (gs_cons (g_name) (gs_cons (g_name) (gs_nil)))) (ss_cons (ysetLc 5 [("_law_k", 6)] lEnd B (yrg1 z_range (xa (xb (b_len B.hK) z_len PySem.boot_len (xa (xv 3) (a_nil))) (a_nil))) (fun s1 H1 C1 cl1 fp1 => yname 6 (B.blk s1 H1 _ _ fp1)) (g_name) (fun s1 H1 C1 cl1 fp1 => ts_one (xcmpT (o_in (B.blk s1 H1 _ _ fp1).room.units66 (B.blk s1 H1 _ _ fp1).hK) (xix (B.blk s1 H1 _ _ fp1) (xv 3) (xv 6)) (xv 1))) (fun s1 H1 C1 cl1 fp1 => xv 6))
    (ss_one (s_if (xcmpT (o_eq B.room.units B.hK) (xv 5) (e_lst (a_nil))) (ss_one (yexpr (xlm B PySem.F.slot_list_append PySem.F.type_list_append m_append (xv 2) (xa (e_tup (xa (xv 3) (xa (xv 4) (a_nil)))) (a_nil))))) (ss_one (s_if (L2.PW.pt (w_and (xcmpT (o_ne B.room.units B.hK) (xv 4) (e_str)) (w_and1 (xcmpT (o_lt) (e_op (o_add B.hK) (xix B (xv 5) (e_un u_neg (e_int))) (e_int)) (xb (b_len B.hK) z_len PySem.boot_len (xa (xv 3) (a_nil))))))) (ss_one (yexpr (xlm B PySem.F.slot_list_append PySem.F.type_list_append m_append (xv 2) (xa (e_tup (xa (e_sl (sl_any B.hK) (xv 3) (o_pt (e_op (o_add B.hK) (xix B (xv 5) (e_un u_neg (e_int))) (e_int))) (o_no)) (xa (xv 4) (a_nil)))) (a_nil))))) (ss_nil)))))))
    (ss_one (s_ret (xt (b_tuple B.hK B.calm) z_tuple PyProof.Rows.boot_tuple (xa (xv 2) (a_nil))))))
theorem bd__law_rest_of {f : Addr} {fd : FuncData} (Fu : Fun G.K "_law_rest_of" "_law_rest_of" s__law_rest_of f fd) : Binds G.K fd ["_law_deed", "_law_off"] [] := Fu.binds (ps := ["_law_deed", "_law_off"]) fun _ _ _ _ _ _ us hl => match us, hl with | [_, _], _ => rfl
abbrev s__law_count : Stmt := topS 31
theorem sc__law_count : FnScope ["_law_deed", "_law_own"] ["_law_deed"] (defScope s__law_count) := ⟨rfl, rfl, rfl, by decide +kernel, rfl, by decide +kernel, by decide +kernel⟩
theorem w__law_count (z_len : mg "len" = none) (z_sum : mg "sum" = none) {f : Addr} {fd : FuncData} (Fu : Fun G.K "_law_count" "_law_count" s__law_count f fd) : FnOk P w G.K mg base (L2.CX P w) 1 f fd ["_law_deed"] (SpM G R__law_count) := by
  show FnOk P w G.K mg base (L2.CX P w) (0 + 1) f fd ["_law_deed"] (SpM G (runB 2 1 b__law_count))
  refine fn_ok2 rfl rfl Fu sc__law_count ?_
  exact fun cdv A outer s H E B hp =>
    ss_one (s_ret (xb (b_sum B.hK B.calm) z_sum PyProof.Rows.boot_sum (xa (ylc [("_law_own", 1)] lEnd B (i_seq (Bx.hK B) (xv 0)) (fun s1 H1 C1 cl1 fp1 => yname 1 (B.blk s1 H1 _ _ fp1)) (g_name) (fun s1 H1 C1 cl1 fp1 => ts_nil) (fun s1 H1 C1 cl1 fp1 => xb (b_len (B.blk s1 H1 _ _ fp1).hK) z_len PySem.boot_len (xa (xix (B.blk s1 H1 _ _ fp1) (xv 1) (e_int)) (a_nil)))) (a_nil))))
theorem bd__law_count {f : Addr} {fd : FuncData} (Fu : Fun G.K "_law_count" "_law_count" s__law_count f fd) : Binds G.K fd ["_law_deed"] [] := Fu.binds (ps := ["_law_deed"]) fun _ _ _ _ _ _ us hl => match us, hl with | [_], _ => rfl
abbrev s__law_all_in : Stmt := topS 32
theorem sc__law_all_in : FnScope ["_law_deed", "_law_found", "_law_line", "_law_flat"] ["_law_deed"] (defScope s__law_all_in) := ⟨rfl, rfl, rfl, by decide +kernel, rfl, by decide +kernel, by decide +kernel⟩
theorem w__law_all_in (z_sorted : mg "sorted" = none) {f : Addr} {fd : FuncData} (Fu : Fun G.K "_law_all_in" "_law_all_in" s__law_all_in f fd) : FnOk P w G.K mg base (L2.CX P w) 1 f fd ["_law_deed"] (SpM G R__law_all_in) := by
  show FnOk P w G.K mg base (L2.CX P w) (0 + 1) f fd ["_law_deed"] (SpM G (runB 4 1 b__law_all_in))
  refine fn_ok2 rfl rfl Fu sc__law_all_in ?_
  exact fun cdv A outer s H E B hp =>
    ss_cons (yset 1 B (e_lstB (a_nil)))
    (ss_cons (yfor hp B (i_seq (Bx.hK B) (xv 0)) (ytup B (pgs_cons (yname 2 B) (pgs_cons (yname 3 B) (pgs_nil)))) (ytupS (Bx.hK B) (glen_cons (glen_cons (glen_nil))) (gs_cons (g_name) (gs_cons (g_name) (gs_nil)))) (ss_one (yexpr (xlm B PySem.F.slot_list_extend PySem.F.type_list_extend (m_extendA (Bx.hK B)) (xv 1) (xa (xv 2) (a_nil))))))
    (ss_one (s_ret (xb (b_sorted B.hK B.room.units) z_sorted PyProof.Rows.boot_sorted (xa (xv 1) (a_nil))))))
theorem bd__law_all_in {f : Addr} {fd : FuncData} (Fu : Fun G.K "_law_all_in" "_law_all_in" s__law_all_in f fd) : Binds G.K fd ["_law_deed"] [] := Fu.binds (ps := ["_law_deed"]) fun _ _ _ _ _ _ us hl => match us, hl with | [_], _ => rfl
abbrev s__law_sets : Stmt := topS 33
theorem sc__law_sets : FnScope ["_law_pool", "_law_most_so", "_law_found", "_law_own", "_law_row_so"] ["_law_pool", "_law_most_so"] (defScope s__law_sets) := ⟨rfl, rfl, rfl, by decide +kernel, rfl, by decide +kernel, by decide +kernel⟩
theorem w__law_sets (z_len : mg "len" = none) {f : Addr} {fd : FuncData} (Fu : Fun G.K "_law_sets" "_law_sets" s__law_sets f fd) : FnOk P w G.K mg base (L2.CX P w) 1 f fd ["_law_pool", "_law_most_so"] (SpM G R__law_sets) := by
  show FnOk P w G.K mg base (L2.CX P w) (0 + 1) f fd ["_law_pool", "_law_most_so"] (SpM G (runB 5 2 b__law_sets))
  refine fn_ok2 rfl rfl Fu sc__law_sets ?_
  exact fun cdv A outer s H E B hp =>
    ss_cons (yset 2 B (e_lst (xa (e_tup (a_nil)) (a_nil))))
    (ss_cons (yfor hp B (i_seq (Bx.hK B) (xv 0)) (yname 3 B) (g_name) (ss_one (yset 2 B (e_op (o_add B.hK) (xv 2) (ylc [("_law_row_so", 4)] lEnd B (i_seq (Bx.hK B) (xv 2)) (fun s1 H1 C1 cl1 fp1 => yname 4 (B.blk s1 H1 _ _ fp1)) (g_name) (fun s1 H1 C1 cl1 fp1 => ts_one (xcmpT (o_lt) (xb (b_len (B.blk s1 H1 _ _ fp1).hK) z_len PySem.boot_len (xa (xv 4) (a_nil))) (xv 1))) (fun s1 H1 C1 cl1 fp1 => e_op (o_add (B.blk s1 H1 _ _ fp1).hK) (xv 4) (e_tup (xa (xv 3) (a_nil)))))))))
    (ss_one (s_ret (xv 2))))
theorem bd__law_sets {f : Addr} {fd : FuncData} (Fu : Fun G.K "_law_sets" "_law_sets" s__law_sets f fd) : Binds G.K fd ["_law_pool", "_law_most_so"] [] := Fu.binds (ps := ["_law_pool", "_law_most_so"]) fun _ _ _ _ _ _ us hl => match us, hl with | [_, _], _ => rfl
abbrev s__law_six : Stmt := topS 34
theorem sc__law_six : FnScope ["_law_rows_so", "_law_full"] [] (defScope s__law_six) := ⟨rfl, rfl, rfl, by decide +kernel, rfl, by decide +kernel, by decide +kernel⟩
theorem w__law_six  {f : Addr} {fd : FuncData} (Fu : Fun G.K "_law_six" "_law_six" s__law_six f fd) : FnOk P w G.K mg base (L2.CX P w) 1 f fd [] (SpM G R__law_six) := by
  show FnOk P w G.K mg base (L2.CX P w) (0 + 1) f fd [] (SpM G (runB 2 0 b__law_six))
  refine fn_ok2 rfl rfl Fu sc__law_six ?_
  exact fun cdv A outer s H E B hp =>
    ss_cons (yset 0 B (e_tup (xa (e_tup (xa (e_str) (xa (e_tup (xa (e_str) (a_nil))) (a_nil)))) (xa (e_tup (xa (e_str) (xa (e_tup (xa (e_str) (xa (e_str) (a_nil)))) (a_nil)))) (xa (e_tup (xa (e_str) (xa (e_tup (xa (e_str) (xa (e_str) (xa (e_str) (a_nil))))) (a_nil)))) (a_nil))))))
    (ss_cons (yset 0 B (e_op (o_add B.hK) (xv 0) (e_tup (xa (e_tup (xa (e_str) (xa (e_tup (xa (e_str) (xa (e_str) (a_nil)))) (a_nil)))) (xa (e_tup (xa (e_str) (xa (e_tup (xa (e_str) (xa (e_str) (a_nil)))) (a_nil)))) (xa (e_tup (xa (e_str) (xa (e_tup (xa (e_str) (xa (e_str) (a_nil)))) (a_nil)))) (a_nil)))))))
    (ss_cons (yset 1 B (e_tup (xa (e_tup (xa (e_tup (xa (e_str) (xa (e_str) (a_nil)))) (xa (e_str) (a_nil)))) (xa (e_tup (xa (e_tup (xa (e_str) (xa (e_str) (xa (e_str) (a_nil))))) (xa (e_str) (a_nil)))) (xa (e_tup (xa (e_tup (xa (e_str) (a_nil))) (xa (e_str) (a_nil)))) (a_nil))))))
    (ss_one (s_ret (e_tup (xa (e_tup (xa (xv 0) (xa (e_tup (xa (e_str) (a_nil))) (a_nil)))) (xa (xv 1) (xa (e_tup (xa (e_tup (xa (e_tup (xa (e_str) (xa (e_str) (a_nil)))) (xa (e_str) (a_nil)))) (a_nil))) (a_nil)))))))))
theorem bd__law_six {f : Addr} {fd : FuncData} (Fu : Fun G.K "_law_six" "_law_six" s__law_six f fd) : Binds G.K fd [] [] := Fu.binds (ps := []) fun _ _ _ _ _ _ us hl => match us, hl with | [], _ => rfl
abbrev s__law_worst : Stmt := topS 35
theorem sc__law_worst : FnScope ["_law_deed", "_law_many_so", "_law_pool", "_law_few", "_law_off", "_law_some", "_law_size"] ["_law_deed", "_law_many_so"] (defScope s__law_worst) := ⟨rfl, rfl, rfl, by decide +kernel, rfl, by decide +kernel, by decide +kernel⟩
theorem w__law_worst (z_len : mg "len" = none) (z_min : mg "min" = none) (c__law_all_in : Cal P w G mg base 1 "_law_all_in" 1 [] F__law_all_in) (c__law_count : Cal P w G mg base 1 "_law_count" 1 [] F__law_count) (c__law_rest_of : Cal P w G mg base 1 "_law_rest_of" 2 [] F__law_rest_of) (c__law_sets : Cal P w G mg base 1 "_law_sets" 2 [] F__law_sets) {f : Addr} {fd : FuncData} (Fu : Fun G.K "_law_worst" "_law_worst" s__law_worst f fd) : FnOk P w G.K mg base (L2.CX P w) 2 f fd ["_law_deed", "_law_many_so"] (SpM G R__law_worst) := by
  show FnOk P w G.K mg base (L2.CX P w) (1 + 1) f fd ["_law_deed", "_law_many_so"] (SpM G (runB 7 2 b__law_worst))
  refine fn_ok2 rfl rfl Fu sc__law_worst ?_
  exact fun cdv A outer s H E B hp =>
    ss_cons (yset 2 B (xcall c__law_sets (B.le (by omega)) (xa (xcall c__law_all_in (B.le (by omega)) (xa (xv 0) (a_nil))) (xa (xv 1) (a_nil)))))
    (ss_cons (yset 3 B (xb (b_min1 B.hK B.calm) z_min PyProof.Rows.boot_min (xa (ylc [("_law_off", 4)] lEnd B (i_seq (Bx.hK B) (xv 2)) (fun s1 H1 C1 cl1 fp1 => yname 4 (B.blk s1 H1 _ _ fp1)) (g_name) (fun s1 H1 C1 cl1 fp1 => ts_nil) (fun s1 H1 C1 cl1 fp1 => xcall c__law_count ((B.blk s1 H1 _ _ fp1).le (by omega)) (xa (xcall c__law_rest_of ((B.blk s1 H1 _ _ fp1).le (by omega)) (xa (xv 0) (xa (xv 4) (a_nil)))) (a_nil)))) (a_nil))))
    (ss_cons (ysetLc 5 [("_law_off", 4)] lEnd B (i_seq (Bx.hK B) (xv 2)) (fun s1 H1 C1 cl1 fp1 => yname 4 (B.blk s1 H1 _ _ fp1)) (g_name) (fun s1 H1 C1 cl1 fp1 => ts_one (xcmpT (o_eq (B.blk s1 H1 _ _ fp1).room.units (B.blk s1 H1 _ _ fp1).hK) (xcall c__law_count ((B.blk s1 H1 _ _ fp1).le (by omega)) (xa (xcall c__law_rest_of ((B.blk s1 H1 _ _ fp1).le (by omega)) (xa (xv 0) (xa (xv 4) (a_nil)))) (a_nil))) (xv 3))) (fun s1 H1 C1 cl1 fp1 => xv 4))
    (ss_cons (yset 6 B (xb (b_min1 B.hK B.calm) z_min PyProof.Rows.boot_min (xa (ylc [("_law_off", 4)] lEnd B (i_seq (Bx.hK B) (xv 5)) (fun s1 H1 C1 cl1 fp1 => yname 4 (B.blk s1 H1 _ _ fp1)) (g_name) (fun s1 H1 C1 cl1 fp1 => ts_nil) (fun s1 H1 C1 cl1 fp1 => xb (b_len (B.blk s1 H1 _ _ fp1).hK) z_len PySem.boot_len (xa (xv 4) (a_nil)))) (a_nil))))
    (ss_one (s_ret (xb (b_minN B.calm B.hK B.room.units) z_min PyProof.Rows.boot_min (xa (ylc [("_law_off", 4)] lEnd B (i_seq (Bx.hK B) (xv 5)) (fun s1 H1 C1 cl1 fp1 => yname 4 (B.blk s1 H1 _ _ fp1)) (g_name) (fun s1 H1 C1 cl1 fp1 => ts_one (xcmpT (o_eq (B.blk s1 H1 _ _ fp1).room.units (B.blk s1 H1 _ _ fp1).hK) (xb (b_len (B.blk s1 H1 _ _ fp1).hK) z_len PySem.boot_len (xa (xv 4) (a_nil))) (xv 6))) (fun s1 H1 C1 cl1 fp1 => xv 4)) (a_nil))))))))
theorem bd__law_worst {f : Addr} {fd : FuncData} (Fu : Fun G.K "_law_worst" "_law_worst" s__law_worst f fd) : Binds G.K fd ["_law_deed", "_law_many_so"] [] := Fu.binds (ps := ["_law_deed", "_law_many_so"]) fun _ _ _ _ _ _ us hl => match us, hl with | [_, _], _ => rfl
abbrev s__law_weak : Stmt := topS 36
theorem sc__law_weak : FnScope ["_law_deed", "_law_pool", "_law_counts", "_law_own", "_law_k"] ["_law_deed"] (defScope s__law_weak) := ⟨rfl, rfl, rfl, by decide +kernel, rfl, by decide +kernel, by decide +kernel⟩
theorem w__law_weak (z_len : mg "len" = none) (z_min : mg "min" = none) (z_range : mg "range" = none) (z_tuple : mg "tuple" = none) (c__law_all_in : Cal P w G mg base 1 "_law_all_in" 1 [] F__law_all_in) (c__law_count : Cal P w G mg base 1 "_law_count" 1 [] F__law_count) (c__law_rest_of : Cal P w G mg base 1 "_law_rest_of" 2 [] F__law_rest_of) {f : Addr} {fd : FuncData} (Fu : Fun G.K "_law_weak" "_law_weak" s__law_weak f fd) : FnOk P w G.K mg base (L2.CX P w) 2 f fd ["_law_deed"] (SpM G R__law_weak) := by
  show FnOk P w G.K mg base (L2.CX P w) (1 + 1) f fd ["_law_deed"] (SpM G (runB 5 1 b__law_weak))
  refine fn_ok2 rfl rfl Fu sc__law_weak ?_
  exact fun cdv A outer s H E B hp =>
    ss_cons (yset 1 B (xcall c__law_all_in (B.le (by omega)) (xa (xv 0) (a_nil))))
    (ss_cons (yset 2 B (ylc [("_law_own", 3)] lEnd B (i_seq (Bx.hK B) (xv 1)) (fun s1 H1 C1 cl1 fp1 => yname 3 (B.blk s1 H1 _ _ fp1)) (g_name) (fun s1 H1 C1 cl1 fp1 => ts_nil) (fun s1 H1 C1 cl1 fp1 => xcall c__law_count ((B.blk s1 H1 _ _ fp1).le (by omega)) (xa (xcall c__law_rest_of ((B.blk s1 H1 _ _ fp1).le (by omega)) (xa (xv 0) (xa (e_tup (xa (xv 3) (a_nil))) (a_nil)))) (a_nil)))))
    (ss_one (s_ret (xt (b_tuple B.hK B.calm) z_tuple PyProof.Rows.boot_tuple (xa (ylc [("_law_k", 4)] lEnd B (yrg1 z_range (xa (xb (b_len B.hK) z_len PySem.boot_len (xa (xv 1) (a_nil))) (a_nil))) (fun s1 H1 C1 cl1 fp1 => yname 4 (B.blk s1 H1 _ _ fp1)) (g_name) (fun s1 H1 C1 cl1 fp1 => ts_one (xcmpT (o_eq (B.blk s1 H1 _ _ fp1).room.units (B.blk s1 H1 _ _ fp1).hK) (xix (B.blk s1 H1 _ _ fp1) (xv 2) (xv 4)) (xb (b_min1 (B.blk s1 H1 _ _ fp1).hK (B.blk s1 H1 _ _ fp1).calm) z_min PyProof.Rows.boot_min (xa (xv 2) (a_nil))))) (fun s1 H1 C1 cl1 fp1 => xix (B.blk s1 H1 _ _ fp1) (xv 1) (xv 4))) (a_nil))))))
theorem bd__law_weak {f : Addr} {fd : FuncData} (Fu : Fun G.K "_law_weak" "_law_weak" s__law_weak f fd) : Binds G.K fd ["_law_deed"] [] := Fu.binds (ps := ["_law_deed"]) fun _ _ _ _ _ _ us hl => match us, hl with | [_], _ => rfl
abbrev s__law_hand_right : Stmt := topS 37
theorem sc__law_hand_right : FnScope ["_law_full", "_law_pair", "_law_told", "_law_many_so", "_law_due", "_law_late"] [] (defScope s__law_hand_right) := ⟨rfl, rfl, rfl, by decide +kernel, rfl, by decide +kernel, by decide +kernel⟩
theorem w__law_hand_right (c_Plan_of : CalC P w G mg base 11 2 "Plan" "of" 1 Hk.F_Plan_of) (c__law_same : ∀ n : Nat, Cal P w G mg base (0 + n) "_law_same" 2 [] (F__law_same n)) (c__law_six : Cal P w G mg base 1 "_law_six" 0 [] F__law_six) (c_weak_ones : Cal P w G mg base 3 "weak_ones" 1 [] F_weak_ones) (c_worst_gone : Cal P w G mg base 3 "worst_gone" 2 [] F_worst_gone) {f : Addr} {fd : FuncData} (Fu : Fun G.K "_law_hand_right" "_law_hand_right" s__law_hand_right f fd) : FnOk P w G.K mg base (L2.CX P w) 12 f fd [] (SpM G R__law_hand_right) := by
  show FnOk P w G.K mg base (L2.CX P w) (11 + 1) f fd [] (SpM G (runB 6 0 b__law_hand_right))
  refine fn_ok2 rfl rfl Fu sc__law_hand_right ?_
  exact fun cdv A outer s H E B hp =>
    ss_cons (s_parT B (xa (xix B (xcall0 c__law_six (B.le (by omega))) (e_int)) (xa (e_tup (xa (e_tup (xa (e_tup (xa (e_str) (xa (e_str) (a_nil)))) (xa (e_str) (a_nil)))) (xa (e_tup (xa (e_tup (xa (e_str) (xa (e_str) (a_nil)))) (xa (e_str) (a_nil)))) (a_nil)))) (a_nil))) (ytup B (pgs_cons (yname 0 B) (pgs_cons (yname 1 B) (pgs_nil)))) (nm_cons (nm_cons (nm_nil))))
    (ss_cons (yset 2 B (e_op (o_add B.hK) (ylc [("_law_many_so", 3)] lEnd B (i_seq (Bx.hK B) (e_tup (xa (e_int) (xa (e_int) (xa (e_int) (xa (e_int) (a_nil))))))) (fun s1 H1 C1 cl1 fp1 => yname 3 (B.blk s1 H1 _ _ fp1)) (g_name) (fun s1 H1 C1 cl1 fp1 => ts_nil) (fun s1 H1 C1 cl1 fp1 => xcall c_worst_gone ((B.blk s1 H1 _ _ fp1).le (by omega)) (xa (yclsm c_Plan_of ((B.blk s1 H1 _ _ fp1).le (by omega)) (xa (xv 0) (a_nil))) (xa (xv 3) (a_nil))))) (e_lst (xa (xcall c_weak_ones (B.le (by omega)) (xa (yclsm c_Plan_of (B.le (by omega)) (xa (xv 0) (a_nil))) (a_nil))) (a_nil)))))
    (ss_cons (yset 4 B (e_lst (xa (e_tup (a_nil)) (xa (e_tup (xa (e_str) (a_nil))) (xa (e_tup (xa (e_str) (xa (e_str) (a_nil)))) (xa (e_tup (xa (e_str) (xa (e_str) (xa (e_str) (a_nil))))) (xa (e_tup (xa (e_str) (xa (e_str) (xa (e_str) (a_nil))))) (a_nil))))))))
    (ss_cons (yset 2 B (e_op (o_add B.hK) (e_op (o_add B.hK) (xv 2) (ylc [("_law_many_so", 3)] lEnd B (i_seq (Bx.hK B) (e_tup (xa (e_int) (xa (e_int) (a_nil))))) (fun s1 H1 C1 cl1 fp1 => yname 3 (B.blk s1 H1 _ _ fp1)) (g_name) (fun s1 H1 C1 cl1 fp1 => ts_nil) (fun s1 H1 C1 cl1 fp1 => xcall c_worst_gone ((B.blk s1 H1 _ _ fp1).le (by omega)) (xa (yclsm c_Plan_of ((B.blk s1 H1 _ _ fp1).le (by omega)) (xa (xv 1) (a_nil))) (xa (xv 3) (a_nil)))))) (e_lst (xa (xcall c_weak_ones (B.le (by omega)) (xa (yclsm c_Plan_of (B.le (by omega)) (xa (xv 1) (a_nil))) (a_nil))) (a_nil)))))
    (ss_cons (yset 4 B (e_op (o_add B.hK) (xv 4) (e_lst (xa (e_tup (xa (e_str) (a_nil))) (xa (e_tup (xa (e_str) (xa (e_str) (a_nil)))) (xa (e_tup (xa (e_str) (xa (e_str) (xa (e_str) (a_nil))))) (a_nil)))))))
    (ss_cons (yset 5 B (e_tup (xa (e_tup (xa (e_tup (xa (e_str) (xa (e_str) (a_nil)))) (xa (e_str) (a_nil)))) (xa (e_tup (xa (e_tup (xa (e_str) (xa (e_str) (a_nil)))) (xa (e_str) (a_nil)))) (a_nil)))))
    (ss_cons (yset 2 B (e_op (o_add B.hK) (xv 2) (e_lst (xa (xcall c_worst_gone (B.le (by omega)) (xa (yclsm c_Plan_of (B.le (by omega)) (xa (xv 5) (a_nil))) (xa (e_int) (a_nil)))) (xa (xcall c_weak_ones (B.le (by omega)) (xa (yclsm c_Plan_of (B.le (by omega)) (xa (xv 5) (a_nil))) (a_nil))) (xa (xcall c_weak_ones (B.le (by omega)) (xa (yclsm c_Plan_of (B.le (by omega)) (xa (e_tup (a_nil)) (a_nil))) (a_nil))) (a_nil)))))))
    (ss_one (s_ret (xcall (c__law_same 8) (B.le (by omega)) (xa (e_op (o_add B.hK) (xv 2) (e_lst (xa (xcall c_worst_gone (B.le (by omega)) (xa (yclsm c_Plan_of (B.le (by omega)) (xa (e_tup (a_nil)) (a_nil))) (xa (e_int) (a_nil)))) (a_nil)))) (xa (e_op (o_add B.hK) (xv 4) (e_lst (xa (e_tup (xa (e_str) (a_nil))) (xa (e_tup (xa (e_str) (xa (e_str) (xa (e_str) (a_nil))))) (xa (e_tup (a_nil)) (xa (e_tup (a_nil)) (a_nil))))))) (a_nil))))))))))))
theorem bd__law_hand_right {f : Addr} {fd : FuncData} (Fu : Fun G.K "_law_hand_right" "_law_hand_right" s__law_hand_right f fd) : Binds G.K fd [] [] := Fu.binds (ps := []) fun _ _ _ _ _ _ us hl => match us, hl with | [], _ => rfl
abbrev s__law_right : Stmt := topS 38
theorem sc__law_right : FnScope ["_law_urn", "_law_turn", "_law_deed", "_law_held", "_law_many_so", "_law_due"] ["_law_urn"] (defScope s__law_right) := ⟨rfl, rfl, rfl, by decide +kernel, rfl, by decide +kernel, by decide +kernel⟩
theorem w__law_right (z_range : mg "range" = none) (c_Plan_of : CalC P w G mg base 11 2 "Plan" "of" 1 Hk.F_Plan_of) (c_Plan_parts : CalP P w G mg base 1 2 "parts" Hk.F_Plan_parts) (c__law_drawn : Cal P w G mg base 3 "_law_drawn" 1 [] F__law_drawn) (c__law_hand_right : Cal P w G mg base 12 "_law_hand_right" 0 [] F__law_hand_right) (c__law_lists : ∀ n : Nat, Cal P w G mg base (0 + n) "_law_lists" 1 [] (F__law_lists n)) (c__law_same : ∀ n : Nat, Cal P w G mg base (0 + n) "_law_same" 2 [] (F__law_same n)) (c__law_weak : Cal P w G mg base 2 "_law_weak" 1 [] F__law_weak) (c__law_worst : Cal P w G mg base 2 "_law_worst" 2 [] F__law_worst) (c_weak_ones : Cal P w G mg base 3 "weak_ones" 1 [] F_weak_ones) (ck_weak_ones_0_plan : Cal P w G mg base 3 "weak_ones" 0 ["plan"] (kwF [0] [] F_weak_ones)) (c_worst_gone : Cal P w G mg base 3 "worst_gone" 2 [] F_worst_gone) (ck_worst_gone_0_many_plan : Cal P w G mg base 3 "worst_gone" 0 ["many", "plan"] (kwF [1, 0] [] F_worst_gone)) {f : Addr} {fd : FuncData} (Fu : Fun G.K "_law_right" "_law_right" s__law_right f fd) : FnOk P w G.K mg base (L2.CX P w) 13 f fd ["_law_urn"] (SpM G R__law_right) := by
  show FnOk P w G.K mg base (L2.CX P w) (12 + 1) f fd ["_law_urn"] (SpM G (runB 6 1 b__law_right))
  refine fn_ok2 rfl rfl Fu sc__law_right ?_
  exact fun cdv A outer s H E B hp =>
    ss_cons (s_if (c_not (xtru B (xcall0 c__law_hand_right (B.le (by omega))))) (ss_one (s_ret (e_bl))) (ss_nil))
    (ss_cons (yfor hp B (yrg1 z_range (xa (e_int) (a_nil))) (yname 1 B) (g_name) (ss_cons (yset 2 B (xcall c__law_drawn (B.le (by omega)) (xa (xv 0) (a_nil))))
    (ss_cons (yset 3 B (yclsm c_Plan_of (B.le (by omega)) (xa (xcall (c__law_lists 8) (B.le (by omega)) (xa (xv 2) (a_nil))) (a_nil))))
    (ss_cons (yfor hp B (yrg1 z_range (xa (e_int) (a_nil))) (yname 4 B) (g_name) (ss_cons (yset 5 B (xcall c__law_worst (B.le (by omega)) (xa (xv 2) (xa (xv 4) (a_nil)))))
    (ss_one (s_if (c_not (xtru B (xcall (c__law_same 8) (B.le (by omega)) (xa (e_lst (xa (xcall c_worst_gone (B.le (by omega)) (xa (xv 3) (xa (xv 4) (a_nil)))) (xa (xcallK0 ck_worst_gone_0_many_plan (B.le (by omega)) (k_cons (xv 4) (k_cons (xv 3) (k_nil)))) (a_nil)))) (xa (e_lst (xa (xv 5) (xa (xv 5) (a_nil)))) (a_nil)))))) (ss_one (s_ret (e_bl))) (ss_nil)))))
    (ss_one (s_if (c_not (xtru B (xcall (c__law_same 8) (B.le (by omega)) (xa (e_lst (xa (xcall c_weak_ones (B.le (by omega)) (xa (xv 3) (a_nil))) (xa (xcallK0 ck_weak_ones_0_plan (B.le (by omega)) (k_cons (xv 3) (k_nil))) (xa (yprop c_Plan_parts (B.le (by omega)) (xv 3)) (a_nil))))) (xa (e_op (o_add B.hK) (e_op (o_mul) (e_lst (xa (xcall c__law_weak (B.le (by omega)) (xa (xv 2) (a_nil))) (a_nil))) (e_int)) (e_lst (xa (xv 2) (a_nil)))) (a_nil)))))) (ss_one (s_ret (e_bl))) (ss_nil)))))))
    (ss_one (s_ret (e_bl))))
theorem bd__law_right {f : Addr} {fd : FuncData} (Fu : Fun G.K "_law_right" "_law_right" s__law_right f fd) : Binds G.K fd ["_law_urn"] [] := Fu.binds (ps := ["_law_urn"]) fun _ _ _ _ _ _ us hl => match us, hl with | [_], _ => rfl
abbrev s_law : Stmt := topS 39
theorem sc_law : FnScope ["_law_script", "_law_cells_here", "_law_k"] ["_law_script"] (defScope s_law) := ⟨rfl, rfl, rfl, by decide +kernel, rfl, by decide +kernel, by decide +kernel⟩
theorem w_law (z_len : mg "len" = none) (z_range : mg "range" = none) (c__law_box : Cal P w G mg base 1 "_law_box" 2 [] F__law_box) (c__law_cells : Cal P w G mg base 1 "_law_cells" 2 [] F__law_cells) (c__law_right : Cal P w G mg base 13 "_law_right" 1 [] F__law_right) {f : Addr} {fd : FuncData} (Fu : Fun G.K "law" "law" s_law f fd) : FnOk P w G.K mg base (L2.CX P w) 14 f fd ["_law_script"] (SpM G R_law) := by
  show FnOk P w G.K mg base (L2.CX P w) (13 + 1) f fd ["_law_script"] (SpM G (runB 3 1 b_law))
  refine fn_ok2 rfl rfl Fu sc_law ?_
  exact fun cdv A outer s H E B hp =>
    ss_cons (yset 1 B (xcall c__law_cells (B.le (by omega)) (xa (xv 0) (xa (e_int) (a_nil)))))
    (ss_cons (yfor hp B (yrg1 z_range (xa (xb (b_len B.hK) z_len PySem.boot_len (xa (xv 1) (a_nil))) (a_nil))) (yname 2 B) (g_name) (ss_one (s_if (c_not (xtru B (xcall c__law_right (B.le (by omega)) (xa (xcall c__law_box (B.le (by omega)) (xa (xv 1) (xa (xv 2) (a_nil)))) (a_nil))))) (ss_one (s_ret (e_bl))) (ss_nil))))
    (ss_one (s_ret (e_bl))))
end
end K67
/-! the end -/
namespace K67
open PySem PySem.Spec PyProof.Rows L2 Sm Hn
def GG (K : PySem.W.Frag) (C2 : Addr) (XA_Clash : Addr) : Gs := ⟨K, fun c => match c with
  | 2 => C2
  | _ => 0, fun c => match c with
  | 0 => .ref XA_Clash
  | _ => .none, fun c => match c with
  | 0 => some "name"
  | _ => none, false⟩
set_option maxHeartbeats 4000000 in
theorem all_mk (hT : LawTrue F_law) {l : PySem.W.OpenLaw} {w : World} {K : PySem.W.Frag} {h : Heap} {mg : Str → Option Value} {fa : Addr} (X : K.In h) (Gn : h.Ns mainGlobals mg) (hfa : mg "law" = some (.ref fa)) {C2 : Addr}  {XA_Clash : Addr} {nmC_Clash qC_Clash : Str} {NC_Clash fX_Clash cdX_Clash ccX_Clash : Addr} {bsC_Clash subC_Clash : List Value} {snC_Clash : List Str} {abC_Clash : Bool} {colC_Clash : Option Bool} {ddC_Clash odX_Clash anX_Clash cddX_Clash cldX_Clash : Option Addr} {k0_Clash k1_Clash k2_Clash k3_Clash k5_Clash : Option Value} {ocX_Clash kVX_Clash docX_Clash pmX_Clash ctX_Clash cclX_Clash clX_Clash : Value} {osX_Clash ccsX_Clash cslX_Clash } {flX_Clash : Str} {tfX_Clash : Tok} {pp_own_goals : Addr} {pp_own_parts : Addr} {tk_RING : Tok} {f_tupled : Addr} {oc_tupled dc_tupled pm_tupled cd_tupled ct_tupled kV_tupled : Value} {od_tupled an_tupled : Option Addr} {os_tupled : Array (Option Value)} {f_as_set : Addr} {oc_as_set dc_as_set pm_as_set cd_as_set ct_as_set kV_as_set : Value} {od_as_set an_as_set : Option Addr} {os_as_set : Array (Option Value)} {f_turned : Addr} {oc_turned dc_turned pm_turned cd_turned ct_turned kV_turned : Value} {od_turned an_turned : Option Addr} {os_turned : Array (Option Value)} {f_goals_of : Addr} {oc_goals_of dc_goals_of pm_goals_of cd_goals_of ct_goals_of kV_goals_of : Value} {od_goals_of an_goals_of : Option Addr} {os_goals_of : Array (Option Value)} {f_names_in : Addr} {oc_names_in dc_names_in pm_names_in cd_names_in ct_names_in kV_names_in : Value} {od_names_in an_names_in : Option Addr} {os_names_in : Array (Option Value)} {f_goals_in : Addr} {oc_goals_in dc_goals_in pm_goals_in cd_goals_in ct_goals_in kV_goals_in : Value} {od_goals_in an_goals_in : Option Addr} {os_goals_in : Array (Option Value)} {f_tupledN : Addr} {oc_tupledN dc_tupledN pm_tupledN cd_tupledN ct_tupledN kV_tupledN : Value} {od_tupledN an_tupledN : Option Addr} {os_tupledN : Array (Option Value)} {f_Plan_init : Addr} {oc_Plan_init dc_Plan_init pm_Plan_init cd_Plan_init ct_Plan_init kV_Plan_init : Value} {od_Plan_init an_Plan_init : Option Addr} {os_Plan_init : Array (Option Value)} {f_Plan_of : Addr} {oc_Plan_of dc_Plan_of pm_Plan_of cd_Plan_of ct_Plan_of kV_Plan_of : Value} {od_Plan_of an_Plan_of : Option Addr} {os_Plan_of : Array (Option Value)} {pr_Plan_of : Addr} {rs_Plan_of : List Value} {f_Plan_parts : Addr} {oc_Plan_parts dc_Plan_parts pm_Plan_parts cd_Plan_parts ct_Plan_parts kV_Plan_parts : Value} {od_Plan_parts an_Plan_parts : Option Addr} {os_Plan_parts : Array (Option Value)} {pr_Plan_parts : Addr} {rs_Plan_parts : List Value} {f_ender : Addr} {oc_ender dc_ender pm_ender cd_ender ct_ender kV_ender : Value} {od_ender an_ender : Option Addr} {os_ender : Array (Option Value)} {f_worst_gone : Addr} {oc_worst_gone dc_worst_gone pm_worst_gone cd_worst_gone ct_worst_gone kV_worst_gone : Value} {od_worst_gone an_worst_gone : Option Addr} {os_worst_gone : Array (Option Value)} {f_weak_ones : Addr} {oc_weak_ones dc_weak_ones pm_weak_ones cd_weak_ones ct_weak_ones kV_weak_ones : Value} {od_weak_ones an_weak_ones : Option Addr} {os_weak_ones : Array (Option Value)} {f__law_box : Addr} {oc__law_box dc__law_box pm__law_box cd__law_box ct__law_box kV__law_box : Value} {od__law_box an__law_box : Option Addr} {os__law_box : Array (Option Value)} {f__law_take : Addr} {oc__law_take dc__law_take pm__law_take cd__law_take ct__law_take kV__law_take : Value} {od__law_take an__law_take : Option Addr} {os__law_take : Array (Option Value)} {f__law_cells : Addr} {oc__law_cells dc__law_cells pm__law_cells cd__law_cells ct__law_cells kV__law_cells : Value} {od__law_cells an__law_cells : Option Addr} {os__law_cells : Array (Option Value)} {f__law_lists : Addr} {oc__law_lists dc__law_lists pm__law_lists cd__law_lists ct__law_lists kV__law_lists : Value} {od__law_lists an__law_lists : Option Addr} {os__law_lists : Array (Option Value)} {f__law_same : Addr} {oc__law_same dc__law_same pm__law_same cd__law_same ct__law_same kV__law_same : Value} {od__law_same an__law_same : Option Addr} {os__law_same : Array (Option Value)} {f__law_mixed : Addr} {oc__law_mixed dc__law_mixed pm__law_mixed cd__law_mixed ct__law_mixed kV__law_mixed : Value} {od__law_mixed an__law_mixed : Option Addr} {os__law_mixed : Array (Option Value)} {f__law_drawn : Addr} {oc__law_drawn dc__law_drawn pm__law_drawn cd__law_drawn ct__law_drawn kV__law_drawn : Value} {od__law_drawn an__law_drawn : Option Addr} {os__law_drawn : Array (Option Value)} {f__law_rest_of : Addr} {oc__law_rest_of dc__law_rest_of pm__law_rest_of cd__law_rest_of ct__law_rest_of kV__law_rest_of : Value} {od__law_rest_of an__law_rest_of : Option Addr} {os__law_rest_of : Array (Option Value)} {f__law_count : Addr} {oc__law_count dc__law_count pm__law_count cd__law_count ct__law_count kV__law_count : Value} {od__law_count an__law_count : Option Addr} {os__law_count : Array (Option Value)} {f__law_all_in : Addr} {oc__law_all_in dc__law_all_in pm__law_all_in cd__law_all_in ct__law_all_in kV__law_all_in : Value} {od__law_all_in an__law_all_in : Option Addr} {os__law_all_in : Array (Option Value)} {f__law_sets : Addr} {oc__law_sets dc__law_sets pm__law_sets cd__law_sets ct__law_sets kV__law_sets : Value} {od__law_sets an__law_sets : Option Addr} {os__law_sets : Array (Option Value)} {f__law_six : Addr} {oc__law_six dc__law_six pm__law_six cd__law_six ct__law_six kV__law_six : Value} {od__law_six an__law_six : Option Addr} {os__law_six : Array (Option Value)} {f__law_worst : Addr} {oc__law_worst dc__law_worst pm__law_worst cd__law_worst ct__law_worst kV__law_worst : Value} {od__law_worst an__law_worst : Option Addr} {os__law_worst : Array (Option Value)} {f__law_weak : Addr} {oc__law_weak dc__law_weak pm__law_weak cd__law_weak ct__law_weak kV__law_weak : Value} {od__law_weak an__law_weak : Option Addr} {os__law_weak : Array (Option Value)} {f__law_hand_right : Addr} {oc__law_hand_right dc__law_hand_right pm__law_hand_right cd__law_hand_right ct__law_hand_right kV__law_hand_right : Value} {od__law_hand_right an__law_hand_right : Option Addr} {os__law_hand_right : Array (Option Value)} {f__law_right : Addr} {oc__law_right dc__law_right pm__law_right cd__law_right ct__law_right kV__law_right : Value} {od__law_right an__law_right : Option Addr} {os__law_right : Array (Option Value)} {f_law : Addr} {oc_law dc_law pm_law cd_law ct_law kV_law : Value} {od_law an_law : Option Addr} {os_law : Array (Option Value)}
    (aC2 : PySem.W.nsIn K mainGlobals "Plan" = some (some (.ref C2)))
    (a_tupled : PySem.W.nsIn K mainGlobals "tupled" = some (some (.ref f_tupled)))
    (l_tupled : K.lookup f_tupled = some ⟨oc_tupled, od_tupled, .func (PySem.W.fnOf "tupled" "tupled" (defArgs s_tupled) (defBody s_tupled) (defScope s_tupled) .none kV_tupled dc_tupled pm_tupled an_tupled cd_tupled ct_tupled), os_tupled⟩)
    (co_tupled : PySem.W.codeIn K cd_tupled "tupled" = true)
    (k_tupled : PySem.W.keepIn K (.ref f_tupled) = true)
    (a_as_set : PySem.W.nsIn K mainGlobals "as_set" = some (some (.ref f_as_set)))
    (l_as_set : K.lookup f_as_set = some ⟨oc_as_set, od_as_set, .func (PySem.W.fnOf "as_set" "as_set" (defArgs s_as_set) (defBody s_as_set) (defScope s_as_set) .none kV_as_set dc_as_set pm_as_set an_as_set cd_as_set ct_as_set), os_as_set⟩)
    (co_as_set : PySem.W.codeIn K cd_as_set "as_set" = true)
    (k_as_set : PySem.W.keepIn K (.ref f_as_set) = true)
    (a_turned : PySem.W.nsIn K mainGlobals "turned" = some (some (.ref f_turned)))
    (l_turned : K.lookup f_turned = some ⟨oc_turned, od_turned, .func (PySem.W.fnOf "turned" "turned" (defArgs s_turned) (defBody s_turned) (defScope s_turned) .none kV_turned dc_turned pm_turned an_turned cd_turned ct_turned), os_turned⟩)
    (co_turned : PySem.W.codeIn K cd_turned "turned" = true)
    (k_turned : PySem.W.keepIn K (.ref f_turned) = true)
    (a_goals_of : PySem.W.nsIn K mainGlobals "goals_of" = some (some (.ref f_goals_of)))
    (l_goals_of : K.lookup f_goals_of = some ⟨oc_goals_of, od_goals_of, .func (PySem.W.fnOf "goals_of" "goals_of" (defArgs s_goals_of) (defBody s_goals_of) (defScope s_goals_of) .none kV_goals_of dc_goals_of pm_goals_of an_goals_of cd_goals_of ct_goals_of), os_goals_of⟩)
    (co_goals_of : PySem.W.codeIn K cd_goals_of "goals_of" = true)
    (k_goals_of : PySem.W.keepIn K (.ref f_goals_of) = true)
    (a_names_in : PySem.W.nsIn K mainGlobals "names_in" = some (some (.ref f_names_in)))
    (l_names_in : K.lookup f_names_in = some ⟨oc_names_in, od_names_in, .func (PySem.W.fnOf "names_in" "names_in" (defArgs s_names_in) (defBody s_names_in) (defScope s_names_in) .none kV_names_in dc_names_in pm_names_in an_names_in cd_names_in ct_names_in), os_names_in⟩)
    (co_names_in : PySem.W.codeIn K cd_names_in "names_in" = true)
    (k_names_in : PySem.W.keepIn K (.ref f_names_in) = true)
    (a_goals_in : PySem.W.nsIn K mainGlobals "goals_in" = some (some (.ref f_goals_in)))
    (l_goals_in : K.lookup f_goals_in = some ⟨oc_goals_in, od_goals_in, .func (PySem.W.fnOf "goals_in" "goals_in" (defArgs s_goals_in) (defBody s_goals_in) (defScope s_goals_in) .none kV_goals_in dc_goals_in pm_goals_in an_goals_in cd_goals_in ct_goals_in), os_goals_in⟩)
    (co_goals_in : PySem.W.codeIn K cd_goals_in "goals_in" = true)
    (k_goals_in : PySem.W.keepIn K (.ref f_goals_in) = true)
    (a_tupledN : PySem.W.nsIn K mainGlobals "tupled" = some (some (.ref f_tupledN)))
    (l_tupledN : K.lookup f_tupledN = some ⟨oc_tupledN, od_tupledN, .func (PySem.W.fnOf "tupled" "tupled" (defArgs s_tupledN) (defBody s_tupledN) (defScope s_tupledN) .none kV_tupledN dc_tupledN pm_tupledN an_tupledN cd_tupledN ct_tupledN), os_tupledN⟩)
    (co_tupledN : PySem.W.codeIn K cd_tupledN "tupled" = true)
    (k_tupledN : PySem.W.keepIn K (.ref f_tupledN) = true)
    (a_Plan_init : PySem.W.findIn K (.ref C2) "__init__" = some (some (.ref f_Plan_init)))
    (i_Plan_init : PySem.W.isFn K (.ref f_Plan_init) = true)
    (l_Plan_init : K.lookup f_Plan_init = some ⟨oc_Plan_init, od_Plan_init, .func (PySem.W.fnOf "__init__" "Plan.__init__" (defArgs s_Plan_init) (defBody s_Plan_init) (defScope s_Plan_init) .none kV_Plan_init dc_Plan_init pm_Plan_init an_Plan_init cd_Plan_init ct_Plan_init), os_Plan_init⟩)
    (co_Plan_init : PySem.W.codeIn K cd_Plan_init "Plan.__init__" = true)
    (k_Plan_init : PySem.W.keepIn K (.ref f_Plan_init) = true)
    (a_Plan_of : PySem.W.findCls K (.ref C2) (.type "type") "of" = some (.get (.builtin "classmethod.__get__") (.ref pr_Plan_of) .none (.ref C2)))
    (p1_Plan_of : PySem.W.readsIn K C2 (.type "type") = true)
    (p2_Plan_of : PySem.W.specialIn K (.ref C2) "__getattribute__" = some (some (.builtin "type.__getattribute__")))
    (p3_Plan_of : PySem.W.recIn K pr_Plan_of "classmethod" = some (.ref f_Plan_of :: rs_Plan_of))
    (g3_Plan_of : PySem.W.fnIn K f_Plan_of = true)
    (l_Plan_of : K.lookup f_Plan_of = some ⟨oc_Plan_of, od_Plan_of, .func (PySem.W.fnOf "of" "Plan.of" (defArgs s_Plan_of) (defBody s_Plan_of) (defScope s_Plan_of) .none kV_Plan_of dc_Plan_of pm_Plan_of an_Plan_of cd_Plan_of ct_Plan_of), os_Plan_of⟩)
    (co_Plan_of : PySem.W.codeIn K cd_Plan_of "Plan.of" = true)
    (k_Plan_of : PySem.W.keepIn K (.ref f_Plan_of) = true)
    (a_Plan_parts : PySem.W.findIn K (.ref C2) "parts" = some (some (.ref pr_Plan_parts)))
    (p1_Plan_parts : PySem.W.specialIn K (.ref pr_Plan_parts) "__get__" = some (some (.builtin "property.__get__")))
    (p2_Plan_parts : PySem.W.takesIn K (.ref pr_Plan_parts) = some true)
    (p3_Plan_parts : PySem.W.recIn K pr_Plan_parts "property" = some (.ref f_Plan_parts :: rs_Plan_parts))
    (l_Plan_parts : K.lookup f_Plan_parts = some ⟨oc_Plan_parts, od_Plan_parts, .func (PySem.W.fnOf "parts" "Plan.parts" (defArgs s_Plan_parts) (defBody s_Plan_parts) (defScope s_Plan_parts) .none kV_Plan_parts dc_Plan_parts pm_Plan_parts an_Plan_parts cd_Plan_parts ct_Plan_parts), os_Plan_parts⟩)
    (co_Plan_parts : PySem.W.codeIn K cd_Plan_parts "Plan.parts" = true)
    (k_Plan_parts : PySem.W.keepIn K (.ref f_Plan_parts) = true)
    (a_ender : PySem.W.nsIn K mainGlobals "ender" = some (some (.ref f_ender)))
    (l_ender : K.lookup f_ender = some ⟨oc_ender, od_ender, .func (PySem.W.fnOf "ender" "ender" (defArgs s_ender) (defBody s_ender) (defScope s_ender) .none kV_ender dc_ender pm_ender an_ender cd_ender ct_ender), os_ender⟩)
    (co_ender : PySem.W.codeIn K cd_ender "ender" = true)
    (k_ender : PySem.W.keepIn K (.ref f_ender) = true)
    (a_worst_gone : PySem.W.nsIn K mainGlobals "worst_gone" = some (some (.ref f_worst_gone)))
    (l_worst_gone : K.lookup f_worst_gone = some ⟨oc_worst_gone, od_worst_gone, .func (PySem.W.fnOf "worst_gone" "worst_gone" (defArgs s_worst_gone) (defBody s_worst_gone) (defScope s_worst_gone) .none kV_worst_gone dc_worst_gone pm_worst_gone an_worst_gone cd_worst_gone ct_worst_gone), os_worst_gone⟩)
    (co_worst_gone : PySem.W.codeIn K cd_worst_gone "worst_gone" = true)
    (k_worst_gone : PySem.W.keepIn K (.ref f_worst_gone) = true)
    (a_weak_ones : PySem.W.nsIn K mainGlobals "weak_ones" = some (some (.ref f_weak_ones)))
    (l_weak_ones : K.lookup f_weak_ones = some ⟨oc_weak_ones, od_weak_ones, .func (PySem.W.fnOf "weak_ones" "weak_ones" (defArgs s_weak_ones) (defBody s_weak_ones) (defScope s_weak_ones) .none kV_weak_ones dc_weak_ones pm_weak_ones an_weak_ones cd_weak_ones ct_weak_ones), os_weak_ones⟩)
    (co_weak_ones : PySem.W.codeIn K cd_weak_ones "weak_ones" = true)
    (k_weak_ones : PySem.W.keepIn K (.ref f_weak_ones) = true)
    (a__law_box : PySem.W.nsIn K mainGlobals "_law_box" = some (some (.ref f__law_box)))
    (l__law_box : K.lookup f__law_box = some ⟨oc__law_box, od__law_box, .func (PySem.W.fnOf "_law_box" "_law_box" (defArgs s__law_box) (defBody s__law_box) (defScope s__law_box) .none kV__law_box dc__law_box pm__law_box an__law_box cd__law_box ct__law_box), os__law_box⟩)
    (co__law_box : PySem.W.codeIn K cd__law_box "_law_box" = true)
    (k__law_box : PySem.W.keepIn K (.ref f__law_box) = true)
    (a__law_take : PySem.W.nsIn K mainGlobals "_law_take" = some (some (.ref f__law_take)))
    (l__law_take : K.lookup f__law_take = some ⟨oc__law_take, od__law_take, .func (PySem.W.fnOf "_law_take" "_law_take" (defArgs s__law_take) (defBody s__law_take) (defScope s__law_take) .none kV__law_take dc__law_take pm__law_take an__law_take cd__law_take ct__law_take), os__law_take⟩)
    (co__law_take : PySem.W.codeIn K cd__law_take "_law_take" = true)
    (k__law_take : PySem.W.keepIn K (.ref f__law_take) = true)
    (a__law_cells : PySem.W.nsIn K mainGlobals "_law_cells" = some (some (.ref f__law_cells)))
    (l__law_cells : K.lookup f__law_cells = some ⟨oc__law_cells, od__law_cells, .func (PySem.W.fnOf "_law_cells" "_law_cells" (defArgs s__law_cells) (defBody s__law_cells) (defScope s__law_cells) .none kV__law_cells dc__law_cells pm__law_cells an__law_cells cd__law_cells ct__law_cells), os__law_cells⟩)
    (co__law_cells : PySem.W.codeIn K cd__law_cells "_law_cells" = true)
    (k__law_cells : PySem.W.keepIn K (.ref f__law_cells) = true)
    (a__law_lists : PySem.W.nsIn K mainGlobals "_law_lists" = some (some (.ref f__law_lists)))
    (l__law_lists : K.lookup f__law_lists = some ⟨oc__law_lists, od__law_lists, .func (PySem.W.fnOf "_law_lists" "_law_lists" (defArgs s__law_lists) (defBody s__law_lists) (defScope s__law_lists) .none kV__law_lists dc__law_lists pm__law_lists an__law_lists cd__law_lists ct__law_lists), os__law_lists⟩)
    (co__law_lists : PySem.W.codeIn K cd__law_lists "_law_lists" = true)
    (k__law_lists : PySem.W.keepIn K (.ref f__law_lists) = true)
    (a__law_same : PySem.W.nsIn K mainGlobals "_law_same" = some (some (.ref f__law_same)))
    (l__law_same : K.lookup f__law_same = some ⟨oc__law_same, od__law_same, .func (PySem.W.fnOf "_law_same" "_law_same" (defArgs s__law_same) (defBody s__law_same) (defScope s__law_same) .none kV__law_same dc__law_same pm__law_same an__law_same cd__law_same ct__law_same), os__law_same⟩)
    (co__law_same : PySem.W.codeIn K cd__law_same "_law_same" = true)
    (k__law_same : PySem.W.keepIn K (.ref f__law_same) = true)
    (a__law_mixed : PySem.W.nsIn K mainGlobals "_law_mixed" = some (some (.ref f__law_mixed)))
    (l__law_mixed : K.lookup f__law_mixed = some ⟨oc__law_mixed, od__law_mixed, .func (PySem.W.fnOf "_law_mixed" "_law_mixed" (defArgs s__law_mixed) (defBody s__law_mixed) (defScope s__law_mixed) .none kV__law_mixed dc__law_mixed pm__law_mixed an__law_mixed cd__law_mixed ct__law_mixed), os__law_mixed⟩)
    (co__law_mixed : PySem.W.codeIn K cd__law_mixed "_law_mixed" = true)
    (k__law_mixed : PySem.W.keepIn K (.ref f__law_mixed) = true)
    (a__law_drawn : PySem.W.nsIn K mainGlobals "_law_drawn" = some (some (.ref f__law_drawn)))
    (l__law_drawn : K.lookup f__law_drawn = some ⟨oc__law_drawn, od__law_drawn, .func (PySem.W.fnOf "_law_drawn" "_law_drawn" (defArgs s__law_drawn) (defBody s__law_drawn) (defScope s__law_drawn) .none kV__law_drawn dc__law_drawn pm__law_drawn an__law_drawn cd__law_drawn ct__law_drawn), os__law_drawn⟩)
    (co__law_drawn : PySem.W.codeIn K cd__law_drawn "_law_drawn" = true)
    (k__law_drawn : PySem.W.keepIn K (.ref f__law_drawn) = true)
    (a__law_rest_of : PySem.W.nsIn K mainGlobals "_law_rest_of" = some (some (.ref f__law_rest_of)))
    (l__law_rest_of : K.lookup f__law_rest_of = some ⟨oc__law_rest_of, od__law_rest_of, .func (PySem.W.fnOf "_law_rest_of" "_law_rest_of" (defArgs s__law_rest_of) (defBody s__law_rest_of) (defScope s__law_rest_of) .none kV__law_rest_of dc__law_rest_of pm__law_rest_of an__law_rest_of cd__law_rest_of ct__law_rest_of), os__law_rest_of⟩)
    (co__law_rest_of : PySem.W.codeIn K cd__law_rest_of "_law_rest_of" = true)
    (k__law_rest_of : PySem.W.keepIn K (.ref f__law_rest_of) = true)
    (a__law_count : PySem.W.nsIn K mainGlobals "_law_count" = some (some (.ref f__law_count)))
    (l__law_count : K.lookup f__law_count = some ⟨oc__law_count, od__law_count, .func (PySem.W.fnOf "_law_count" "_law_count" (defArgs s__law_count) (defBody s__law_count) (defScope s__law_count) .none kV__law_count dc__law_count pm__law_count an__law_count cd__law_count ct__law_count), os__law_count⟩)
    (co__law_count : PySem.W.codeIn K cd__law_count "_law_count" = true)
    (k__law_count : PySem.W.keepIn K (.ref f__law_count) = true)
    (a__law_all_in : PySem.W.nsIn K mainGlobals "_law_all_in" = some (some (.ref f__law_all_in)))
    (l__law_all_in : K.lookup f__law_all_in = some ⟨oc__law_all_in, od__law_all_in, .func (PySem.W.fnOf "_law_all_in" "_law_all_in" (defArgs s__law_all_in) (defBody s__law_all_in) (defScope s__law_all_in) .none kV__law_all_in dc__law_all_in pm__law_all_in an__law_all_in cd__law_all_in ct__law_all_in), os__law_all_in⟩)
    (co__law_all_in : PySem.W.codeIn K cd__law_all_in "_law_all_in" = true)
    (k__law_all_in : PySem.W.keepIn K (.ref f__law_all_in) = true)
    (a__law_sets : PySem.W.nsIn K mainGlobals "_law_sets" = some (some (.ref f__law_sets)))
    (l__law_sets : K.lookup f__law_sets = some ⟨oc__law_sets, od__law_sets, .func (PySem.W.fnOf "_law_sets" "_law_sets" (defArgs s__law_sets) (defBody s__law_sets) (defScope s__law_sets) .none kV__law_sets dc__law_sets pm__law_sets an__law_sets cd__law_sets ct__law_sets), os__law_sets⟩)
    (co__law_sets : PySem.W.codeIn K cd__law_sets "_law_sets" = true)
    (k__law_sets : PySem.W.keepIn K (.ref f__law_sets) = true)
    (a__law_six : PySem.W.nsIn K mainGlobals "_law_six" = some (some (.ref f__law_six)))
    (l__law_six : K.lookup f__law_six = some ⟨oc__law_six, od__law_six, .func (PySem.W.fnOf "_law_six" "_law_six" (defArgs s__law_six) (defBody s__law_six) (defScope s__law_six) .none kV__law_six dc__law_six pm__law_six an__law_six cd__law_six ct__law_six), os__law_six⟩)
    (co__law_six : PySem.W.codeIn K cd__law_six "_law_six" = true)
    (k__law_six : PySem.W.keepIn K (.ref f__law_six) = true)
    (a__law_worst : PySem.W.nsIn K mainGlobals "_law_worst" = some (some (.ref f__law_worst)))
    (l__law_worst : K.lookup f__law_worst = some ⟨oc__law_worst, od__law_worst, .func (PySem.W.fnOf "_law_worst" "_law_worst" (defArgs s__law_worst) (defBody s__law_worst) (defScope s__law_worst) .none kV__law_worst dc__law_worst pm__law_worst an__law_worst cd__law_worst ct__law_worst), os__law_worst⟩)
    (co__law_worst : PySem.W.codeIn K cd__law_worst "_law_worst" = true)
    (k__law_worst : PySem.W.keepIn K (.ref f__law_worst) = true)
    (a__law_weak : PySem.W.nsIn K mainGlobals "_law_weak" = some (some (.ref f__law_weak)))
    (l__law_weak : K.lookup f__law_weak = some ⟨oc__law_weak, od__law_weak, .func (PySem.W.fnOf "_law_weak" "_law_weak" (defArgs s__law_weak) (defBody s__law_weak) (defScope s__law_weak) .none kV__law_weak dc__law_weak pm__law_weak an__law_weak cd__law_weak ct__law_weak), os__law_weak⟩)
    (co__law_weak : PySem.W.codeIn K cd__law_weak "_law_weak" = true)
    (k__law_weak : PySem.W.keepIn K (.ref f__law_weak) = true)
    (a__law_hand_right : PySem.W.nsIn K mainGlobals "_law_hand_right" = some (some (.ref f__law_hand_right)))
    (l__law_hand_right : K.lookup f__law_hand_right = some ⟨oc__law_hand_right, od__law_hand_right, .func (PySem.W.fnOf "_law_hand_right" "_law_hand_right" (defArgs s__law_hand_right) (defBody s__law_hand_right) (defScope s__law_hand_right) .none kV__law_hand_right dc__law_hand_right pm__law_hand_right an__law_hand_right cd__law_hand_right ct__law_hand_right), os__law_hand_right⟩)
    (co__law_hand_right : PySem.W.codeIn K cd__law_hand_right "_law_hand_right" = true)
    (k__law_hand_right : PySem.W.keepIn K (.ref f__law_hand_right) = true)
    (a__law_right : PySem.W.nsIn K mainGlobals "_law_right" = some (some (.ref f__law_right)))
    (l__law_right : K.lookup f__law_right = some ⟨oc__law_right, od__law_right, .func (PySem.W.fnOf "_law_right" "_law_right" (defArgs s__law_right) (defBody s__law_right) (defScope s__law_right) .none kV__law_right dc__law_right pm__law_right an__law_right cd__law_right ct__law_right), os__law_right⟩)
    (co__law_right : PySem.W.codeIn K cd__law_right "_law_right" = true)
    (k__law_right : PySem.W.keepIn K (.ref f__law_right) = true)
    (a_law : PySem.W.nsIn K mainGlobals "law" = some (some (.ref f_law)))
    (l_law : K.lookup f_law = some ⟨oc_law, od_law, .func (PySem.W.fnOf "law" "law" (defArgs s_law) (defBody s_law) (defScope s_law) .none kV_law dc_law pm_law an_law cd_law ct_law), os_law⟩)
    (co_law : PySem.W.codeIn K cd_law "law" = true)
    (k_law : PySem.W.keepIn K (.ref f_law) = true)
    (pg2 : PySem.W.plainGet K C2 Str.empty = true)
    (ic2 : PySem.W.isClsIn K C2 = true)
    (po2 : PySem.W.plainOver K C2 = true)
    (sa2 : PySem.W.findIn K (.ref C2) "__setattr__" = some (some (.builtin "object.__setattr__")))
    (mk2 : PySem.W.makesIn K C2 = true)
    (kc2 : PySem.W.keepIn K (.ref C2) = true)
    (s1_own_goals : PySem.W.findIn K (.ref C2) "own_goals" = some (some (.ref pp_own_goals)))
    (s2_own_goals : PySem.W.specialIn K (.ref pp_own_goals) "__get__" = some (some (.builtin "member_descriptor.__get__")))
    (s3_own_goals : PySem.W.takesIn K (.ref pp_own_goals) = some true)
    (s4_own_goals : PySem.W.typeIn K (.ref pp_own_goals) = some (.type "member_descriptor"))
    (s5_own_goals : PySem.W.slotIn K pp_own_goals C2 = some 0)
    (s1_own_parts : PySem.W.findIn K (.ref C2) "own_parts" = some (some (.ref pp_own_parts)))
    (s2_own_parts : PySem.W.specialIn K (.ref pp_own_parts) "__get__" = some (some (.builtin "member_descriptor.__get__")))
    (s3_own_parts : PySem.W.takesIn K (.ref pp_own_parts) = some true)
    (s4_own_parts : PySem.W.typeIn K (.ref pp_own_parts) = some (.type "member_descriptor"))
    (s5_own_parts : PySem.W.slotIn K pp_own_parts C2 = some 1)
    (xa_Clash : PySem.W.nsIn K mainGlobals "Clash" = some (some (.ref XA_Clash)))
    (xd_Clash : PySem.W.hasDictIn K XA_Clash = true)
    (xt_Clash : PySem.W.typeIn K (.ref XA_Clash) = some (.type "type"))
    (xb_Clash : PySem.W.subIn K (.ref XA_Clash) (.type "BaseException") = some true)
    (xs_Clash : PySem.W.subIn K (.ref XA_Clash) (.ref XA_Clash) = some true)
    (xn_Clash : PySem.W.subIn K (.type "NoneType") (.ref XA_Clash) = some false)
    (xr_Clash_Clash : PySem.W.subIn K (.ref XA_Clash) (.ref XA_Clash) = some true)
    (xl_Clash : K.lookup XA_Clash = some (excClassObj nmC_Clash qC_Clash XA_Clash NC_Clash bsC_Clash [.type "ValueError", .type "Exception", .type "BaseException", .type "object"] true snC_Clash subC_Clash abC_Clash colC_Clash ddC_Clash k0_Clash k1_Clash k2_Clash k3_Clash k5_Clash "ValueError.__new__"))
    (xsa_Clash : PySem.W.findIn K (.ref XA_Clash) "__setattr__" = some (some (.builtin "object.__setattr__")))
    (xm_Clash : PySem.W.mroIn K XA_Clash (.ref XA_Clash) = some true)
    (xkp_Clash : PySem.W.keepIn K (.ref XA_Clash) = true)
    (xi_Clash : PySem.W.findIn K (.ref XA_Clash) "__init__" = some (some (.ref fX_Clash)))
    (xit_Clash : PySem.W.typeIn K (.ref fX_Clash) = some (.type "function"))
    (xf_Clash : K.lookup fX_Clash = some ⟨ocX_Clash, odX_Clash, .func (PySem.W.ksFn "__init__" "Clash.__init__" (defArgs (inClass (topS 2) 0)) (defBody (inClass (topS 2) 0)) (defScope (inClass (topS 2) 0)) .none kVX_Clash docX_Clash pmX_Clash anX_Clash (.ref cdX_Clash) ctX_Clash ccX_Clash), osX_Clash⟩)
    (xco_Clash : PySem.W.codeIn K (.ref cdX_Clash) "Clash.__init__" = true)
    (xcd_Clash : K.lookup cdX_Clash = some ⟨cclX_Clash, cddX_Clash, .fields vsX_Clash, ccsX_Clash⟩)
    (xvs_Clash : vsX_Clash[2]? = some (.str flX_Clash tfX_Clash))
    (xfl_Clash : ((l.prog.main.file : Str) == flX_Clash) = true)
    (xcc_Clash : K.lookup ccX_Clash = some ⟨clX_Clash, cldX_Clash, .cell (some (.ref XA_Clash)), cslX_Clash⟩)
    (xop_Clash : PySem.W.nsIn K cStatics "thirdparty.any" = some none)
    (xtop_Clash : (l.prog.main.scope.names.lookup ("super" : Str)).isSome = false)
    (xsb_Clash : PySem.W.subIn K (.ref XA_Clash) (.type "ValueError") = some true)
    (xno_Clash : PySem.W.findIn K (.ref XA_Clash) "name" = some none)
    (xga_Clash : PySem.W.findIn K (.ref XA_Clash) "__getattribute__" = some (some (.builtin "BaseException.__getattribute__")))
    (xgg_Clash : PySem.W.findIn K (.ref XA_Clash) "__getattr__" = some none)
    (xca_Clash : PySem.W.findIn K (.ref XA_Clash) "__class__" = some (some (.builtin "object.__class__")))
    (xob_Clash : PySem.W.mroIn K XA_Clash (.type "object") = some true)
    (xgs : PySem.W.specialIn K (.builtin "object.__class__") "__get__" = some (some (.builtin "getset_descriptor.__get__")))
    (xgt : PySem.W.takesIn K (.builtin "object.__class__") = some true)
    (xsu : PySem.W.nsIn K mainGlobals "super" = some none)
    (zz_abs : PySem.W.nsIn K mainGlobals "abs" = some none)
    (zz_all : PySem.W.nsIn K mainGlobals "all" = some none)
    (zz_bool : PySem.W.nsIn K mainGlobals "bool" = some none)
    (zz_enumerate : PySem.W.nsIn K mainGlobals "enumerate" = some none)
    (zz_int : PySem.W.nsIn K mainGlobals "int" = some none)
    (zz_isinstance : PySem.W.nsIn K mainGlobals "isinstance" = some none)
    (zz_len : PySem.W.nsIn K mainGlobals "len" = some none)
    (zz_list : PySem.W.nsIn K mainGlobals "list" = some none)
    (zz_max : PySem.W.nsIn K mainGlobals "max" = some none)
    (zz_min : PySem.W.nsIn K mainGlobals "min" = some none)
    (zz_range : PySem.W.nsIn K mainGlobals "range" = some none)
    (zz_set : PySem.W.nsIn K mainGlobals "set" = some none)
    (zz_sorted : PySem.W.nsIn K mainGlobals "sorted" = some none)
    (zz_str : PySem.W.nsIn K mainGlobals "str" = some none)
    (zz_sum : PySem.W.nsIn K mainGlobals "sum" = some none)
    (zz_tuple : PySem.W.nsIn K mainGlobals "tuple" = some none)
    (zz_zip : PySem.W.nsIn K mainGlobals "zip" = some none)
    (gg_RING : PySem.W.nsIn K mainGlobals "RING" = some (some (.str ("" : Str) tk_RING))) :
    ∃ fd : FuncData, (∀ (s : Shared) (v : Value), BindsTo s fd ⟨[v], []⟩ [("_law_script", v)]) ∧ ∀ base : Heap, K.In base → base.Ns mainGlobals mg → FnOk l.prog w K mg base (L2.CX l.prog w) 14 fa fd ["_law_script"] (spLaw K) := by
  have e := hfa.symm.trans (PySem.W.mg_of X Gn a_law)
  cases e
  have Fu_tupled : Fun (GG K C2 XA_Clash).K "tupled" "tupled" s_tupled f_tupled _ := fun_mk (st := s_tupled) l_tupled co_tupled k_tupled
  have Fu_as_set : Fun (GG K C2 XA_Clash).K "as_set" "as_set" s_as_set f_as_set _ := fun_mk (st := s_as_set) l_as_set co_as_set k_as_set
  have Fu_turned : Fun (GG K C2 XA_Clash).K "turned" "turned" s_turned f_turned _ := fun_mk (st := s_turned) l_turned co_turned k_turned
  have Fu_goals_of : Fun (GG K C2 XA_Clash).K "goals_of" "goals_of" s_goals_of f_goals_of _ := fun_mk (st := s_goals_of) l_goals_of co_goals_of k_goals_of
  have Fu_names_in : Fun (GG K C2 XA_Clash).K "names_in" "names_in" s_names_in f_names_in _ := fun_mk (st := s_names_in) l_names_in co_names_in k_names_in
  have Fu_goals_in : Fun (GG K C2 XA_Clash).K "goals_in" "goals_in" s_goals_in f_goals_in _ := fun_mk (st := s_goals_in) l_goals_in co_goals_in k_goals_in
  have Fu_tupledN : Fun (GG K C2 XA_Clash).K "tupled" "tupled" s_tupledN f_tupledN _ := fun_mk (st := s_tupledN) l_tupledN co_tupledN k_tupledN
  have Fu_Plan_init : Fun (GG K C2 XA_Clash).K "__init__" "Plan.__init__" s_Plan_init f_Plan_init _ := fun_mk (st := s_Plan_init) l_Plan_init co_Plan_init k_Plan_init
  have Fu_Plan_of : Fun (GG K C2 XA_Clash).K "of" "Plan.of" s_Plan_of f_Plan_of _ := fun_mk (st := s_Plan_of) l_Plan_of co_Plan_of k_Plan_of
  have Fu_Plan_parts : Fun (GG K C2 XA_Clash).K "parts" "Plan.parts" s_Plan_parts f_Plan_parts _ := fun_mk (st := s_Plan_parts) l_Plan_parts co_Plan_parts k_Plan_parts
  have Fu_ender : Fun (GG K C2 XA_Clash).K "ender" "ender" s_ender f_ender _ := fun_mk (st := s_ender) l_ender co_ender k_ender
  have Fu_worst_gone : Fun (GG K C2 XA_Clash).K "worst_gone" "worst_gone" s_worst_gone f_worst_gone _ := fun_mk (st := s_worst_gone) l_worst_gone co_worst_gone k_worst_gone
  have Fu_weak_ones : Fun (GG K C2 XA_Clash).K "weak_ones" "weak_ones" s_weak_ones f_weak_ones _ := fun_mk (st := s_weak_ones) l_weak_ones co_weak_ones k_weak_ones
  have Fu__law_box : Fun (GG K C2 XA_Clash).K "_law_box" "_law_box" s__law_box f__law_box _ := fun_mk (st := s__law_box) l__law_box co__law_box k__law_box
  have Fu__law_take : Fun (GG K C2 XA_Clash).K "_law_take" "_law_take" s__law_take f__law_take _ := fun_mk (st := s__law_take) l__law_take co__law_take k__law_take
  have Fu__law_cells : Fun (GG K C2 XA_Clash).K "_law_cells" "_law_cells" s__law_cells f__law_cells _ := fun_mk (st := s__law_cells) l__law_cells co__law_cells k__law_cells
  have Fu__law_lists : Fun (GG K C2 XA_Clash).K "_law_lists" "_law_lists" s__law_lists f__law_lists _ := fun_mk (st := s__law_lists) l__law_lists co__law_lists k__law_lists
  have Fu__law_same : Fun (GG K C2 XA_Clash).K "_law_same" "_law_same" s__law_same f__law_same _ := fun_mk (st := s__law_same) l__law_same co__law_same k__law_same
  have Fu__law_mixed : Fun (GG K C2 XA_Clash).K "_law_mixed" "_law_mixed" s__law_mixed f__law_mixed _ := fun_mk (st := s__law_mixed) l__law_mixed co__law_mixed k__law_mixed
  have Fu__law_drawn : Fun (GG K C2 XA_Clash).K "_law_drawn" "_law_drawn" s__law_drawn f__law_drawn _ := fun_mk (st := s__law_drawn) l__law_drawn co__law_drawn k__law_drawn
  have Fu__law_rest_of : Fun (GG K C2 XA_Clash).K "_law_rest_of" "_law_rest_of" s__law_rest_of f__law_rest_of _ := fun_mk (st := s__law_rest_of) l__law_rest_of co__law_rest_of k__law_rest_of
  have Fu__law_count : Fun (GG K C2 XA_Clash).K "_law_count" "_law_count" s__law_count f__law_count _ := fun_mk (st := s__law_count) l__law_count co__law_count k__law_count
  have Fu__law_all_in : Fun (GG K C2 XA_Clash).K "_law_all_in" "_law_all_in" s__law_all_in f__law_all_in _ := fun_mk (st := s__law_all_in) l__law_all_in co__law_all_in k__law_all_in
  have Fu__law_sets : Fun (GG K C2 XA_Clash).K "_law_sets" "_law_sets" s__law_sets f__law_sets _ := fun_mk (st := s__law_sets) l__law_sets co__law_sets k__law_sets
  have Fu__law_six : Fun (GG K C2 XA_Clash).K "_law_six" "_law_six" s__law_six f__law_six _ := fun_mk (st := s__law_six) l__law_six co__law_six k__law_six
  have Fu__law_worst : Fun (GG K C2 XA_Clash).K "_law_worst" "_law_worst" s__law_worst f__law_worst _ := fun_mk (st := s__law_worst) l__law_worst co__law_worst k__law_worst
  have Fu__law_weak : Fun (GG K C2 XA_Clash).K "_law_weak" "_law_weak" s__law_weak f__law_weak _ := fun_mk (st := s__law_weak) l__law_weak co__law_weak k__law_weak
  have Fu__law_hand_right : Fun (GG K C2 XA_Clash).K "_law_hand_right" "_law_hand_right" s__law_hand_right f__law_hand_right _ := fun_mk (st := s__law_hand_right) l__law_hand_right co__law_hand_right k__law_hand_right
  have Fu__law_right : Fun (GG K C2 XA_Clash).K "_law_right" "_law_right" s__law_right f__law_right _ := fun_mk (st := s__law_right) l__law_right co__law_right k__law_right
  have Fu_law : Fun (GG K C2 XA_Clash).K "law" "law" s_law fa _ := fun_mk (st := s_law) l_law co_law k_law
  have hN : (GG K C2 XA_Clash).tk = false := rfl
  refine ⟨PySem.W.fnOf "law" "law" (defArgs s_law) (defBody s_law) (defScope s_law) .none kV_law dc_law pm_law an_law cd_law ct_law, fun s v => .of_eq rfl, fun base _ _ => ?_⟩
  have z_abs := PySem.W.mg_none_of X Gn zz_abs
  have z_all := PySem.W.mg_none_of X Gn zz_all
  have z_bool := PySem.W.mg_none_of X Gn zz_bool
  have z_enumerate := PySem.W.mg_none_of X Gn zz_enumerate
  have z_int := PySem.W.mg_none_of X Gn zz_int
  have z_isinstance := PySem.W.mg_none_of X Gn zz_isinstance
  have z_len := PySem.W.mg_none_of X Gn zz_len
  have z_list := PySem.W.mg_none_of X Gn zz_list
  have z_max := PySem.W.mg_none_of X Gn zz_max
  have z_min := PySem.W.mg_none_of X Gn zz_min
  have z_range := PySem.W.mg_none_of X Gn zz_range
  have z_set := PySem.W.mg_none_of X Gn zz_set
  have z_sorted := PySem.W.mg_none_of X Gn zz_sorted
  have z_str := PySem.W.mg_none_of X Gn zz_str
  have z_sum := PySem.W.mg_none_of X Gn zz_sum
  have z_tuple := PySem.W.mg_none_of X Gn zz_tuple
  have z_zip := PySem.W.mg_none_of X Gn zz_zip
  have gb_RING := PySem.W.mg_of X Gn gg_RING
  have xms := PySem.W.mg_none_of X Gn xsu
  have gx_Clash := PySem.W.mg_of X Gn xa_Clash
  have XK_Clash : XcCls (GG K C2 XA_Clash).K XA_Clash "ValueError.__new__" _ := ⟨⟨_, _, _, _, _, _, _, _, _, _, _, _, _, _, xl_Clash⟩, xsa_Clash, xm_Clash, xb_Clash, xt_Clash, xkp_Clash⟩
  have XI_Clash : XcInit l.prog (GG K C2 XA_Clash).K XA_Clash fX_Clash "ValueError" "ValueError.__init__" _ "name" "Clash.__init__" "name" (defArgs (inClass (topS 2) 0)) (defBody (inClass (topS 2) 0)) (defScope (inClass (topS 2) 0)) cdX_Clash ccX_Clash := ⟨⟨_, _, _, _, _, _, _, _, _, _, xf_Clash, fun s a b => .of_eq rfl⟩, xco_Clash, ⟨_, _, _, _, _, _, xcd_Clash, xvs_Clash, xfl_Clash⟩, ⟨_, _, _, xcc_Clash⟩, xop_Clash, ⟨_, _, _, _, _, _, _, _, _, _, rfl, rfl⟩, ⟨_, rfl, rfl⟩, xtop_Clash, rfl, rfl, rfl, by decide +kernel, by decide +kernel, by decide +kernel, by decide +kernel, by decide +kernel, by decide, by decide, along_V _, xsb_Clash, xno_Clash⟩
  have rs_Clash : Rsx l.prog (GG K C2 XA_Clash) mg "Clash" 0 := ⟨⟨_, _, _, _, _, _, _, _, _, _, _, _, _, _, rfl, rfl, bsV, XK_Clash, XI_Clash, xi_Clash, xit_Clash, gx_Clash⟩, xms⟩
  have xk_Clash : Exk (GG K C2 XA_Clash) 0 "name" := ⟨⟨_, rfl, ⟨xga_Clash, xgg_Clash, xb_Clash, xd_Clash, xca_Clash, xgs, xgt, xob_Clash⟩, xno_Clash⟩, rfl⟩
  have xk : ExkR (GG K C2 XA_Clash) 1 ["name"] := fun c hc => match c, hc with | 0, _ => ⟨_, rfl, xk_Clash⟩
  have hc_Plan : SlX.SCls (GG K C2 XA_Clash).K ((GG K C2 XA_Clash).cls 2) := ⟨pg2, ic2, po2, sa2⟩
  have sl_own_goals : SlX.Slot1 (GG K C2 XA_Clash).K ((GG K C2 XA_Clash).cls 2) "own_goals" pp_own_goals 0 := ⟨s1_own_goals, s2_own_goals, s3_own_goals, s4_own_goals, s5_own_goals, by decide⟩
  have sl_own_parts : SlX.Slot1 (GG K C2 XA_Clash).K ((GG K C2 XA_Clash).cls 2) "own_parts" pp_own_parts 1 := ⟨s1_own_parts, s2_own_parts, s3_own_parts, s4_own_parts, s5_own_parts, by decide⟩
  have c_tupled : ∀ n : Nat, Cal l.prog w (GG K C2 XA_Clash) mg base (0 + n) "tupled" 1 [] (F_tupled n) := w_tupled z_isinstance z_list z_tuple Fu_tupled (PySem.W.mg_of X Gn a_tupled)
  have o_as_set := w_as_set (P := l.prog) (w := w) (G := (GG K C2 XA_Clash)) (mg := mg) (base := base) z_set z_sorted z_tuple Fu_as_set
  have c_as_set : Cal l.prog w (GG K C2 XA_Clash) mg base 1 "as_set" 1 [] F_as_set := (Cal.fn (PySem.W.mg_of X Gn a_as_set) Fu_as_set o_as_set (bd_as_set Fu_as_set)).isoC
  have o_turned := w_turned (P := l.prog) (w := w) (G := (GG K C2 XA_Clash)) (mg := mg) (base := base) z_min gb_RING hN Fu_turned
  have c_turned : Cal l.prog w (GG K C2 XA_Clash) mg base 1 "turned" 1 [] Hk.F_turned := (Cal.fn (PySem.W.mg_of X Gn a_turned) Fu_turned o_turned (bd_turned Fu_turned)).isoC
  have o_goals_of := w_goals_of (P := l.prog) (w := w) (G := (GG K C2 XA_Clash)) (mg := mg) (base := base) gb_RING Fu_goals_of
  have c_goals_of : Cal l.prog w (GG K C2 XA_Clash) mg base 1 "goals_of" 1 [] Hk.F_goals_of := (Cal.fn (PySem.W.mg_of X Gn a_goals_of) Fu_goals_of o_goals_of (bd_goals_of Fu_goals_of)).isoC
  have o_names_in := w_names_in (P := l.prog) (w := w) (G := (GG K C2 XA_Clash)) (mg := mg) (base := base) gb_RING Fu_names_in
  have c_names_in : Cal l.prog w (GG K C2 XA_Clash) mg base 1 "names_in" 1 [] Hk.F_names_in := (Cal.fn (PySem.W.mg_of X Gn a_names_in) Fu_names_in o_names_in (bd_names_in Fu_names_in)).isoC
  have o_goals_in := w_goals_in (P := l.prog) (w := w) (G := (GG K C2 XA_Clash)) (mg := mg) (base := base) z_zip c_goals_of Fu_goals_in
  have c_goals_in : Cal l.prog w (GG K C2 XA_Clash) mg base 2 "goals_in" 1 [] Hk.F_goals_in := (Cal.fn (PySem.W.mg_of X Gn a_goals_in) Fu_goals_in o_goals_in (bd_goals_in Fu_goals_in)).isoC
  have c_tupledN : ∀ n : Nat, Cal l.prog w (GG K C2 XA_Clash) mg base (0 + n) "tupled" 1 [] (Hk.F_tupledN n) := w_tupledN z_isinstance z_list z_tuple Fu_tupledN (PySem.W.mg_of X Gn a_tupledN)
  have o_Plan_init := w_Plan_init (P := l.prog) (w := w) (G := (GG K C2 XA_Clash)) (mg := mg) (base := base) hc_Plan sl_own_goals sl_own_parts z_len z_min z_sorted z_tuple rs_Clash hN c_goals_in c_names_in c_tupledN c_turned Fu_Plan_init
  have c_Plan_init : CalIV l.prog w (GG K C2 XA_Clash) mg base 9 2 "Plan" Hk.F_Plan_init := ⟨f_Plan_init, PySem.W.mg_of X Gn aC2, ⟨mk2, a_Plan_init, i_Plan_init, kc2⟩, o_Plan_init⟩
  have o_Plan_of := w_Plan_of (P := l.prog) (w := w) (G := (GG K C2 XA_Clash)) (mg := mg) (base := base) c_Plan_init Fu_Plan_of
  have c_Plan_of : CalC l.prog w (GG K C2 XA_Clash) mg base 11 2 "Plan" "of" 1 Hk.F_Plan_of := ⟨_, pr_Plan_of, f_Plan_of, PySem.W.mg_of X Gn aC2, ⟨p1_Plan_of, p2_Plan_of⟩, ⟨a_Plan_of, ⟨_, p3_Plan_of⟩, g3_Plan_of⟩, FnR.isoC (FnOk.cls o_Plan_of (bd_Plan_of Fu_Plan_of))⟩
  have o_Plan_parts := w_Plan_parts (P := l.prog) (w := w) (G := (GG K C2 XA_Clash)) (mg := mg) (base := base) hc_Plan sl_own_parts Fu_Plan_parts
  have c_Plan_parts : CalP l.prog w (GG K C2 XA_Clash) mg base 1 2 "parts" Hk.F_Plan_parts := ⟨pr_Plan_parts, f_Plan_parts, hc_Plan, ⟨a_Plan_parts, p1_Plan_parts, p2_Plan_parts, ⟨_, p3_Plan_parts⟩⟩, (CallW.of0 o_Plan_parts (bd_Plan_parts Fu_Plan_parts)).isoF⟩
  have o_ender := w_ender (P := l.prog) (w := w) (G := (GG K C2 XA_Clash)) (mg := mg) (base := base) gb_RING Fu_ender
  have c_ender : Cal l.prog w (GG K C2 XA_Clash) mg base 1 "ender" 1 [] F_ender := (Cal.fn (PySem.W.mg_of X Gn a_ender) Fu_ender o_ender (bd_ender Fu_ender)).isoC
  have o_worst_gone := w_worst_gone (P := l.prog) (w := w) (G := (GG K C2 XA_Clash)) (mg := mg) (base := base) z_len z_sorted c_Plan_parts c_as_set c_ender Fu_worst_gone
  have c_worst_gone : Cal l.prog w (GG K C2 XA_Clash) mg base 3 "worst_gone" 2 [] F_worst_gone := (Cal.fn (PySem.W.mg_of X Gn a_worst_gone) Fu_worst_gone o_worst_gone (bd_worst_gone Fu_worst_gone)).isoC
  have ck_worst_gone_0_many_plan : Cal l.prog w (GG K C2 XA_Clash) mg base 3 "worst_gone" 0 ["many", "plan"] (kwF [1, 0] [] F_worst_gone) := Cal.kp (PySem.W.mg_of X Gn a_worst_gone) o_worst_gone.isoS (funA_mk (st := s_worst_gone) l_worst_gone co_worst_gone k_worst_gone) [1, 0] (fun _ _ _ _ _ us ws h1 h2 => match us, ws, h1, h2 with | [], [_, _], _, _ => rfl)
  have o_weak_ones := w_weak_ones (P := l.prog) (w := w) (G := (GG K C2 XA_Clash)) (mg := mg) (base := base) z_len z_max gb_RING c_Plan_parts c_as_set Fu_weak_ones
  have c_weak_ones : Cal l.prog w (GG K C2 XA_Clash) mg base 3 "weak_ones" 1 [] F_weak_ones := (Cal.fn (PySem.W.mg_of X Gn a_weak_ones) Fu_weak_ones o_weak_ones (bd_weak_ones Fu_weak_ones)).isoC
  have ck_weak_ones_0_plan : Cal l.prog w (GG K C2 XA_Clash) mg base 3 "weak_ones" 0 ["plan"] (kwF [0] [] F_weak_ones) := Cal.kp (PySem.W.mg_of X Gn a_weak_ones) o_weak_ones.isoS (funA_mk (st := s_weak_ones) l_weak_ones co_weak_ones k_weak_ones) [0] (fun _ _ _ _ _ us ws h1 h2 => match us, ws, h1, h2 with | [], [_], _, _ => rfl)
  have o__law_box := w__law_box (P := l.prog) (w := w) (G := (GG K C2 XA_Clash)) (mg := mg) (base := base) z_abs z_int z_len Fu__law_box
  have c__law_box : Cal l.prog w (GG K C2 XA_Clash) mg base 1 "_law_box" 2 [] F__law_box := (Cal.fn (PySem.W.mg_of X Gn a__law_box) Fu__law_box o__law_box (bd__law_box Fu__law_box))
  have o__law_take := w__law_take (P := l.prog) (w := w) (G := (GG K C2 XA_Clash)) (mg := mg) (base := base) z_int Fu__law_take
  have c__law_take : Cal l.prog w (GG K C2 XA_Clash) mg base 1 "_law_take" 2 [] F__law_take := (Cal.fn (PySem.W.mg_of X Gn a__law_take) Fu__law_take o__law_take (bd__law_take Fu__law_take)).viewC
  have o__law_cells := w__law_cells (P := l.prog) (w := w) (G := (GG K C2 XA_Clash)) (mg := mg) (base := base) z_enumerate z_int z_list Fu__law_cells
  have c__law_cells : Cal l.prog w (GG K C2 XA_Clash) mg base 1 "_law_cells" 2 [] F__law_cells := (Cal.fn (PySem.W.mg_of X Gn a__law_cells) Fu__law_cells o__law_cells (bd__law_cells Fu__law_cells)).isoC
  have c__law_lists : ∀ n : Nat, Cal l.prog w (GG K C2 XA_Clash) mg base (0 + n) "_law_lists" 1 [] (F__law_lists n) := w__law_lists z_isinstance z_list z_tuple Fu__law_lists (PySem.W.mg_of X Gn a__law_lists)
  have c__law_same : ∀ n : Nat, Cal l.prog w (GG K C2 XA_Clash) mg base (0 + n) "_law_same" 2 [] (F__law_same n) := w__law_same z_all z_bool z_int z_isinstance z_len z_list z_str z_tuple z_zip Fu__law_same (PySem.W.mg_of X Gn a__law_same)
  have o__law_mixed := w__law_mixed (P := l.prog) (w := w) (G := (GG K C2 XA_Clash)) (mg := mg) (base := base) z_len z_list z_range z_tuple c__law_take Fu__law_mixed
  have c__law_mixed : Cal l.prog w (GG K C2 XA_Clash) mg base 2 "_law_mixed" 2 [] F__law_mixed := (Cal.fn (PySem.W.mg_of X Gn a__law_mixed) Fu__law_mixed o__law_mixed (bd__law_mixed Fu__law_mixed)).viewC
  have o__law_drawn := w__law_drawn (P := l.prog) (w := w) (G := (GG K C2 XA_Clash)) (mg := mg) (base := base) z_len z_list z_min z_sorted z_tuple c__law_mixed c__law_take Fu__law_drawn
  have c__law_drawn : Cal l.prog w (GG K C2 XA_Clash) mg base 3 "_law_drawn" 1 [] F__law_drawn := (Cal.fn (PySem.W.mg_of X Gn a__law_drawn) Fu__law_drawn o__law_drawn (bd__law_drawn Fu__law_drawn)).viewC
  have o__law_rest_of := w__law_rest_of (P := l.prog) (w := w) (G := (GG K C2 XA_Clash)) (mg := mg) (base := base) z_len z_range z_tuple Fu__law_rest_of
  have c__law_rest_of : Cal l.prog w (GG K C2 XA_Clash) mg base 1 "_law_rest_of" 2 [] F__law_rest_of := (Cal.fn (PySem.W.mg_of X Gn a__law_rest_of) Fu__law_rest_of o__law_rest_of (bd__law_rest_of Fu__law_rest_of)).isoC
  have o__law_count := w__law_count (P := l.prog) (w := w) (G := (GG K C2 XA_Clash)) (mg := mg) (base := base) z_len z_sum Fu__law_count
  have c__law_count : Cal l.prog w (GG K C2 XA_Clash) mg base 1 "_law_count" 1 [] F__law_count := (Cal.fn (PySem.W.mg_of X Gn a__law_count) Fu__law_count o__law_count (bd__law_count Fu__law_count)).isoC
  have o__law_all_in := w__law_all_in (P := l.prog) (w := w) (G := (GG K C2 XA_Clash)) (mg := mg) (base := base) z_sorted Fu__law_all_in
  have c__law_all_in : Cal l.prog w (GG K C2 XA_Clash) mg base 1 "_law_all_in" 1 [] F__law_all_in := (Cal.fn (PySem.W.mg_of X Gn a__law_all_in) Fu__law_all_in o__law_all_in (bd__law_all_in Fu__law_all_in)).isoC
  have o__law_sets := w__law_sets (P := l.prog) (w := w) (G := (GG K C2 XA_Clash)) (mg := mg) (base := base) z_len Fu__law_sets
  have c__law_sets : Cal l.prog w (GG K C2 XA_Clash) mg base 1 "_law_sets" 2 [] F__law_sets := (Cal.fn (PySem.W.mg_of X Gn a__law_sets) Fu__law_sets o__law_sets (bd__law_sets Fu__law_sets)).isoC
  have o__law_six := w__law_six (P := l.prog) (w := w) (G := (GG K C2 XA_Clash)) (mg := mg) (base := base)  Fu__law_six
  have c__law_six : Cal l.prog w (GG K C2 XA_Clash) mg base 1 "_law_six" 0 [] F__law_six := (Cal.fn (PySem.W.mg_of X Gn a__law_six) Fu__law_six o__law_six (bd__law_six Fu__law_six)).isoC
  have o__law_worst := w__law_worst (P := l.prog) (w := w) (G := (GG K C2 XA_Clash)) (mg := mg) (base := base) z_len z_min c__law_all_in c__law_count c__law_rest_of c__law_sets Fu__law_worst
  have c__law_worst : Cal l.prog w (GG K C2 XA_Clash) mg base 2 "_law_worst" 2 [] F__law_worst := (Cal.fn (PySem.W.mg_of X Gn a__law_worst) Fu__law_worst o__law_worst (bd__law_worst Fu__law_worst)).isoC
  have o__law_weak := w__law_weak (P := l.prog) (w := w) (G := (GG K C2 XA_Clash)) (mg := mg) (base := base) z_len z_min z_range z_tuple c__law_all_in c__law_count c__law_rest_of Fu__law_weak
  have c__law_weak : Cal l.prog w (GG K C2 XA_Clash) mg base 2 "_law_weak" 1 [] F__law_weak := (Cal.fn (PySem.W.mg_of X Gn a__law_weak) Fu__law_weak o__law_weak (bd__law_weak Fu__law_weak)).isoC
  have o__law_hand_right := w__law_hand_right (P := l.prog) (w := w) (G := (GG K C2 XA_Clash)) (mg := mg) (base := base) c_Plan_of c__law_same c__law_six c_weak_ones c_worst_gone Fu__law_hand_right
  have c__law_hand_right : Cal l.prog w (GG K C2 XA_Clash) mg base 12 "_law_hand_right" 0 [] F__law_hand_right := (Cal.fn (PySem.W.mg_of X Gn a__law_hand_right) Fu__law_hand_right o__law_hand_right (bd__law_hand_right Fu__law_hand_right)).isoC
  have o__law_right := w__law_right (P := l.prog) (w := w) (G := (GG K C2 XA_Clash)) (mg := mg) (base := base) z_range c_Plan_of c_Plan_parts c__law_drawn c__law_hand_right c__law_lists c__law_same c__law_weak c__law_worst c_weak_ones ck_weak_ones_0_plan c_worst_gone ck_worst_gone_0_many_plan Fu__law_right
  have c__law_right : Cal l.prog w (GG K C2 XA_Clash) mg base 13 "_law_right" 1 [] F__law_right := (Cal.fn (PySem.W.mg_of X Gn a__law_right) Fu__law_right o__law_right (bd__law_right Fu__law_right)).viewC
  exact law_ok (w_law z_len z_range c__law_box c__law_cells c__law_right Fu_law) hT
end K67
/-! Hn1: what the shared helpers compute. -/
namespace Hn
open PySem PySem.Spec PyProof.Rows L2 Sm

/-- the urn, with room for m drawings more -/
def Urn (o : Bo) (m : Nat) : Prop := ∃ a b c : Int, o = .lst [.d (.int a), .d (.int b), .d (.int c)] ∧ 0 ≤ a ∧ 0 ≤ b ∧ b < 2 ^ 62 ∧ 0 ≤ c ∧ c + m < 2 ^ 40
theorem Urn.pure {o : Bo} {m : Nat} (u : Urn o m) : pureB o = true := by
  obtain ⟨a, b, c, rfl, _⟩ := u
  rfl
theorem Urn.less {o : Bo} {m k : Nat} (u : Urn o m) (h : k ≤ m) : Urn o k := by
  obtain ⟨a, b, c, e, h1, h2, h3, h4, h5⟩ := u
  exact ⟨a, b, c, e, h1, h2, h3, h4, by omega⟩
theorem small_mul {i j : Int} (h : -(2 ^ 64) < j ∧ j < 2 ^ 64) : mulOk i j = true := by
  unfold mulOk smallI
  simp only [Bool.or_eq_true, decide_eq_true_eq]
  exact .inl (.inr h)
theorem small_mul' {i j : Int} (h : -(2 ^ 64) < i ∧ i < 2 ^ 64) : mulOk i j = true := by
  unfold mulOk smallI
  simp only [Bool.or_eq_true, decide_eq_true_eq]
  exact .inl (.inl h)
theorem small_div {j : Int} (h : 0 < j) (h2 : j < 1073741824) : divOk j = true := by
  unfold divOk
  simp [h, h2]
/-- a drawing: from the box itself -/
theorem take_raw {o : Bo} {m : Nat} {low : Int} (u : Urn o (m + 1)) (h0 : 0 < low) (h1 : low < 1000000) : ∃ (r : Int) (o' : Bo), R__law_take [.loc 0, .d (.int low)] [o] = .ok (.d (.int r)) [o'] ∧ 0 ≤ r ∧ r < low ∧ Urn o' m := by
  obtain ⟨a, b, c, rfl, ha, hb, hb2, hc, hm⟩ := u
  unfold R__law_take runB b__law_take
  by_cases h : 0 < a
  · refine ⟨a % low, .lst [.d (.int (a / low)), .d (.int b), .d (.int c)], ?_, Int.emod_nonneg _ (by omega), Int.emod_lt_of_pos _ h0, a / low, b, c, rfl, Int.ediv_nonneg ha (by omega), hb, hb2, hc, by omega⟩
    simp [sSeq, sqz, sIf, sSet, sSub, sRet, mTst, m2, mN, mV, mC, aCons, aNil, Rz.to, Rz.bind, pIx, pGt, pCmp, pInt, pMod, pDiv, dctAt, seqAt, lstAt, toB, li, lift, Sm.lift, atI, ixN, h, h0, small_div h0 (by omega), stSub, oz]
  · have e1 : mulOk 48271 (c + 1) = true := small_mul' (by omega)
    have e2 : mulOk (b + 48271 * (c + 1)) (39373 + (c + 1)) = true := small_mul (by omega)
    generalize hv : (b + 48271 * (c + 1)) * (39373 + (c + 1)) % 2147483647 = v at *
    have hv0 : 0 ≤ v := by
      rw [← hv]
      exact Int.emod_nonneg _ (by omega)
    have hv1 : v < 2147483647 := by
      rw [← hv]
      exact Int.emod_lt_of_pos _ (by omega)
    have e3 : mulOk (v + (c + 1) + b / 1000003) (v % 40009 + 7) = true := small_mul (by omega)
    generalize hw : (v + (c + 1) + b / 1000003) * (v % 40009 + 7) % 2147483629 = x at *
    have hw0 : 0 ≤ x := by
      rw [← hw]
      exact Int.emod_nonneg _ (by omega)
    have hw1 : x < 2147483629 := by
      rw [← hw]
      exact Int.emod_lt_of_pos _ (by omega)
    have e4 : mulOk x 48271 = true := small_mul (by omega)
    have e5 : divOk 1000003 = true := by decide
    have e6 : divOk 64 = true := by decide
    refine ⟨(x * 48271 + v) % 2147483587 / 64 % low, .lst [.d (.int a), .d (.int b), .d (.int (c + 1))], ?_, Int.emod_nonneg _ (by omega), Int.emod_lt_of_pos _ h0, a, b, c + 1, rfl, ha, hb, hb2, by omega, by omega⟩
    simp [sSeq, sqz, sIf, sSet, sSub, sRet, sNil, mTst, m2, mN, mV, mC, aCons, aNil, Rz.to, Rz.bind, pIx, pGt, pCmp, pInt, pMod, pDiv, pAdd, pMul, dctAt, seqAt, lstAt, toB, li, lift, Sm.lift, atI, ixN, h, h0, e1, e2, e3, e4, e5, e6, hv, hw, stSub, oz]
end Hn
/-! Hn2: take in any store, few, mixed. -/
namespace Hn
open PySem PySem.Spec PyProof.Rows L2 Sm
@[simp] theorem pures_d : ∀ ts : List Dt, pures (ts.map Dv.d) = some ts
  | [] => rfl
  | t :: ts => by
    show (pures (ts.map Dv.d)).map (t :: ·) = _
    rw [pures_d ts]
    rfl
theorem view_ok {F : FM} {ts : List Dt} {n : Nat} {S : Sto} {o o' : Bo} {r : Dt} {rest : Sto} (hS : S[n]? = some o) (hp : pureB o = true) (hF : F (.loc 0 :: ts.map .d) [o] = .ok (.d r) (o' :: rest)) (hp' : pureB o' = true) : view F (.loc n :: ts.map .d) S = .ok (.d r) (S.set n o') := by
  show (match pures (ts.map Dv.d), S[n]? with
    | some _, some o => if pureB o = true then (match F (.loc 0 :: ts.map .d) [o] with
      | .ok (.d t) (o' :: _) => if pureB o' = true then Rz.ok (Dv.d t) (S.set n o') else .bad
      | .er c t (o' :: _) => if pureB o' = true then .er c t (S.set n o') else .bad
      | _ => .bad) else .bad
    | _, _ => .bad) = _
  rw [pures_d, hS]
  simp [hp, hF, hp']
theorem iso_ok {F : FM} {ts : List Dt} {S S' : Sto} {r : Dt} (hF : F (ts.map .d) [] = .ok (.d r) S') : iso F (ts.map .d) S = .ok (.d r) S := by
  show (match pures (ts.map Dv.d) with
    | some _ => (match F (ts.map .d) [] with
      | .ok (.d t) _ => Rz.ok (Dv.d t) S
      | .er c t _ => .er c t S
      | _ => .bad)
    | none => .bad) = _
  rw [pures_d, hF]
theorem runB_rt {n p : Nat} {b : SM} {ds : List Dv} {S S' : Sto} {d : Dv} (hl : ds.length = p) (hb : b (ds.map some ++ List.replicate (n - p) none) S = .rt d S') : runB n p b ds S = .ok d S' := by
  unfold runB
  rw [if_pos hl, hb]
theorem take_ok {S : Sto} {n : Nat} {o : Bo} {m : Nat} {low : Int} (hS : S[n]? = some o) (u : Urn o (m + 1)) (h0 : 0 < low) (h1 : low < 1000000) : ∃ (r : Int) (o' : Bo), F__law_take [.loc n, .d (.int low)] S = .ok (.d (.int r)) (S.set n o') ∧ 0 ≤ r ∧ r < low ∧ Urn o' m := by
  obtain ⟨r, o', e, a, b, u'⟩ := take_raw u h0 h1
  exact ⟨r, o', view_ok (ts := [.int low]) hS u.pure e u'.pure, a, b, u'⟩
theorem er_map {α β : Type} (f : α → β) : ∀ (l : List α) (i : Nat), (l.map f).eraseIdx i = (l.eraseIdx i).map f
  | [], _ => by simp
  | a :: l, 0 => rfl
  | a :: l, i + 1 => by
    show f a :: (l.map f).eraseIdx i = _
    rw [er_map f l i]
    rfl
/-- a pool in another order -/
theorem mixed_loop : ∀ (ts : List Dt) (P : Dt) (L R : List Dt) (m : Nat) (o : Bo) (z : Option Dv), ts.length = L.length → L.length < 1000 → R.length + L.length < 1000 → Urn o (L.length + m) →
    ∃ (R' : List Dt) (o' : Bo) (z' : Option Dv), forL (gN 4) (sDrop (mLm pAppend (mV 3) (aCons (mLm pPopAt (mV 2) (aCons (mF F__law_take (aCons (mV 0) (aCons (mN pLen (aCons (mV 2) (aNil))) (aNil)))) (aNil))) (aNil)))) ts [some (.loc 0), some (.d P), some (.loc 1), some (.loc 2), z] [o, .lst (L.map .d), .lst (R.map .d)]
      = .nx [some (.loc 0), some (.d P), some (.loc 1), some (.loc 2), z'] [o', .lst [], .lst (R'.map .d)] ∧ R'.Perm (R ++ L) ∧ Urn o' m
  | [], P, L, R, m, o, z, hl, _, _, u => by
    have e : L = [] := List.eq_nil_of_length_eq_zero (by simpa using hl.symm)
    subst e
    exact ⟨R, o, z, rfl, by simp, by simpa using u⟩
  | t :: ts, P, L, R, m, o, z, hl, hz, hz2, u => by
    have hpos : 0 < L.length := by
      rw [← hl]
      simp
    obtain ⟨x, o1, e1, x0, x1, u1⟩ := take_ok (S := [o, .lst (L.map .d), .lst (R.map .d)]) (n := 0) (m := L.length - 1 + m) (low := (L.length : Int)) rfl (u.less (by omega)) (by omega) (by omega)
    have hj : x.toNat < L.length := by omega
    have e1' : F__law_take [.loc 0, .d (.int (L.length : Int))] [o, .lst (L.map .d), .lst (R.map .d)] = .ok (.d (.int x)) [o1, .lst (L.map .d), .lst (R.map .d)] := e1
    have hlen : (L.eraseIdx x.toNat).length = L.length - 1 := by
      rw [List.length_eraseIdx_of_lt hj]
    obtain ⟨R', o2, z', e2, hp, u2⟩ := mixed_loop ts P (L.eraseIdx x.toNat) (R ++ [L[x.toNat]]) m o1 (some (.d t)) (by rw [hlen, ← hl]; simp) (by omega) (by simp; omega) (by rw [hlen]; exact u1)
    have hix : seqIndex? x L.length = some x.toNat := by
      have := (ixN_seq (n := L.length) (i := x) (j := x.toNat) (by unfold ixN; rw [if_pos x0, if_pos x1])).1
      exact this
    have hpr : (R ++ [L[x.toNat]] ++ L.eraseIdx x.toNat).Perm (R ++ L) := by
      rw [List.append_assoc]
      refine List.Perm.append_left R ?_
      exact L2.erase_perm L x.toNat L[x.toNat] (List.getElem?_eq_getElem hj)
    refine ⟨R', o2, z', ?_, hp.trans hpr, u2⟩
    have hR : R.length < 16777216 := by omega
    have hb : (-9223372036854775808 ≤ x ∧ x < 9223372036854775808) := by omega
    unfold forL
    simp only [gN_s, oz_some]
    have step : sDrop (mLm pAppend (mV 3) (aCons (mLm pPopAt (mV 2) (aCons (mF F__law_take (aCons (mV 0) (aCons (mN pLen (aCons (mV 2) (aNil))) (aNil)))) (aNil))) (aNil))) [some (.loc 0), some (.d P), some (.loc 1), some (.loc 2), some (.d t)] [o, .lst (L.map .d), .lst (R.map .d)]
        = .nx [some (.loc 0), some (.d P), some (.loc 1), some (.loc 2), some (.d t)] [o1, .lst ((L.eraseIdx x.toNat).map .d), .lst ((R ++ [L[x.toNat]]).map .d)] := by
      simp [isLs, lstAt, pLen, dctAt, seqAt, e1', pPopAt, hb, hix, List.getElem?_eq_getElem hj, pAppend, hR, er_map]
    show (match sDrop _ [some (.loc 0), some (.d P), some (.loc 1), some (.loc 2), some (.d t)] _ with
      | .nx ρ2 S2 => _
      | .ct ρ2 S2 => _
      | .bk ρ2 S2 => _
      | r => _) = _
    rw [step]
    exact e2
theorem pLstB_nil {S : Sto} : pLstB [] S = some (.loc S.length, S ++ [.lst []]) := if_pos (Nat.zero_le _)
theorem rgOk0 {j : Int} (h0 : 0 ≤ j) (h1 : j < 16777216) : rgOk 0 j = true := decide_eq_true ⟨by omega, by omega, by omega, by omega⟩
theorem iRg_ok {f : List Dv → Option (List Dt)} {as : M (List Dv)} {ρ : Sm.Env} {S S1 : Sto} {ds : List Dv} {ts : List Dt} (h1 : as ρ S = .ok ds S1) (h2 : f ds = some ts) : iRg f as ρ S = .ok ts S1 := by
  show (as ρ S).bind (fun ds S1 => li (f ds) S1) = _
  rw [h1, bind_ok, h2, li_some]
theorem q_rg {n : Nat} (h : n < 1000) : rg1 [.d (.int (n : Int))] = some (rgL 0 n) := by
  show (if rgOk 0 (n : Int) = true then some (rgL 0 (n : Int).toNat) else none) = _
  rw [if_pos (rgOk0 (by omega) (by omega)), Int.toNat_natCast]
abbrev eL (L : List Dt) : Sm.Env := [some (.loc 0), some (.d (.lst L)), some (.loc 1), some (.loc 2), none]
theorem q_len {L : List Dt} {S : Sto} : pLen [.d (.lst L)] S = some (.d (.int (L.length : Int)), S) := by
  simp [pLen, dctAt, seqAt, lstAt]
theorem q_i {L : List Dt} {S : Sto} (h : L.length < 1000) : iRg rg1 (aCons (mN pLen (aCons (mV 1) (aNil))) (aNil)) (eL L) S = .ok (rgL 0 L.length) S := by
  exact iRg_ok (ds := [.d (.int (L.length : Int))]) (by simp only [aCons_s, mN_s, mV_s, aNil_s, List.getElem?_cons_zero, List.getElem?_cons_succ, bind_ok, q_len, Sm.lift_some]) (q_rg h)
theorem q_1 {L : List Dt} {o : Bo} : sPars [2, 3] (aCons (mN pListB (aCons (mV 1) (aNil))) (aCons (mN pLstB (aNil)) (aNil))) [some (.loc 0), some (.d (.lst L)), none, none, none] [o] = .nx (eL L) [o, .lst (L.map .d), .lst []] := by
  have p1 : pListB [.d (.lst L)] [o] = some (.loc 1, [o, .lst (L.map .d)]) := by
    simp [pListB, itemsOf, dctAt, seqAt, lstAt]
  simp only [sPars_s, aCons_s, mN_s, mV_s, aNil_s, List.getElem?_cons_zero, List.getElem?_cons_succ, bind_ok, p1, Sm.lift_some, pLstB_nil, to_ok]
  rfl
theorem q_3 {L r : List Dt} {o' : Bo} {z' : Option Dv} : sRet (mN pTuple (aCons (mV 3) (aNil))) [some (.loc 0), some (.d (.lst L)), some (.loc 1), some (.loc 2), z'] [o', .lst [], .lst (r.map .d)] = .rt (.d (.tup r)) [o', .lst [], .lst (r.map .d)] := by
  have e1 : pTuple [.loc 2] [o', .lst [], .lst (r.map .d)] = some (.d (.tup r), [o', .lst [], .lst (r.map .d)]) := by
    simp [pTuple, dctAt, lstT, lstAt]
  simp only [sRet_s, mN_s, aCons_s, mV_s, aNil_s, List.getElem?_cons_zero, List.getElem?_cons_succ, bind_ok, e1, Sm.lift_some, to_ok]
theorem mixed_raw {o : Bo} {m : Nat} {L : List Dt} (hz : L.length < 1000) (u : Urn o (L.length + m)) :
    ∃ (r : List Dt) (o' : Bo), R__law_mixed [.loc 0, .d (.lst L)] [o] = .ok (.d (.tup r)) [o', .lst [], .lst (r.map .d)] ∧ r.Perm L ∧ Urn o' m := by
  obtain ⟨r, o', z', e, hp, u'⟩ := mixed_loop (rgL 0 L.length) (.lst L) L [] m o none (by unfold rgL; rw [List.length_map, List.length_range]) hz (by rw [List.length_nil, Nat.zero_add]; exact hz) u
  refine ⟨r, o', ?_, hp, u'⟩
  refine runB_rt (ds := [.loc 0, .d (.lst L)]) rfl ?_
  show b__law_mixed [some (.loc 0), some (.d (.lst L)), none, none, none] [o] = _
  unfold b__law_mixed
  rw [sSeq_s, q_1, sqz_nx, sSeq_s, sFor_s, q_i hz, to_ok]
  rw [show forL (gN 4) _ (rgL 0 L.length) (eL L) [o, .lst (L.map .d), .lst []] = _ from e, sqz_nx, q_3]
theorem mixed_ok {S : Sto} {n : Nat} {o : Bo} {m : Nat} {L : List Dt} (hz : L.length < 1000) (hS : S[n]? = some o) (u : Urn o (L.length + m)) :
    ∃ (r : List Dt) (o' : Bo), F__law_mixed [.loc n, .d (.lst L)] S = .ok (.d (.tup r)) (S.set n o') ∧ r.Perm L ∧ Urn o' m := by
  obtain ⟨r, o', e, hp, u'⟩ := mixed_raw hz u
  exact ⟨r, o', view_ok (ts := [.lst L]) hS u.pure e u'.pure, hp, u'⟩
end Hn
/-! Hn3: cells. -/
namespace Hn
open PySem PySem.Spec PyProof.Rows L2 Sm
/-- ints as data -/
def dI (l : List Int) : List Dt := l.map .int
def dvI (l : List Int) : List Dv := l.map fun i => .d (.int i)
theorem dvI_get {l : List Int} {j : Nat} (h : j < l.length) : (dvI l)[j]? = some (.d (.int l[j])) := by
  unfold dvI
  rw [List.getElem?_map, List.getElem?_eq_getElem h]
  rfl
theorem dvI_len {l : List Int} : (dvI l).length = l.length := by
  unfold dvI
  simp
theorem dvI_set {l : List Int} {j : Nat} {x : Int} : (dvI l).set j (.d (.int x)) = dvI (l.set j x) := by
  unfold dvI
  rw [List.map_set]
theorem ixN_at {n : Nat} {x : Int} (h0 : 0 ≤ x) (h1 : x < n) : ixN n x = some x.toNat := by
  unfold ixN
  rw [if_pos h0, if_pos h1]
def cBody : SM := sSeq (sSet 5 (m2 pMod (mN pInt (aCons (mV 3) (aNil))) (mV 1))) (sSub (mV 2) (mV 5) (m2 pAdd (m2 pIx (mV 2) (mV 5)) (m2 pMul (mV 4) (m2 pAdd (mV 3) (mC (.int 2))))))
theorem cells_turn {P : Dt} {l : List Int} {i c : Int} {z : Option Dv} (hl : l.length = 3) (h0 : 0 ≤ i) (h1 : i < 2 ^ 40) : ∃ (l' : List Int) (z' : Option Dv), cBody [some (.d P), some (.d (.int 3)), some (.loc 0), some (.d (.int i)), some (.d (.int c)), z] [.lst (dvI l)] = .nx [some (.d P), some (.d (.int 3)), some (.loc 0), some (.d (.int i)), some (.d (.int c)), z'] [.lst (dvI l')] ∧ l'.length = 3 := by
  have m0 : 0 ≤ i % 3 := Int.emod_nonneg _ (by omega)
  have m1' : i % 3 < 3 := Int.emod_lt_of_pos _ (by omega)
  have hj : (i % 3).toNat < l.length := by omega
  have hm : mulOk c (i + 2) = true := small_mul (by omega)
  have hix : ixN (dvI l).length (i % 3) = some (i % 3).toNat := ixN_at m0 (by rw [dvI_len, hl]; exact m1')
  have hat : atI (dvI l) (i % 3) = some (.d (.int l[(i % 3).toNat])) := by
    unfold atI
    rw [hix]
    exact dvI_get hj
  refine ⟨l.set (i % 3).toNat (l[(i % 3).toNat] + c * (i + 2)), some (.d (.int (i % 3))), ?_, by rw [List.length_set]; exact hl⟩
  unfold cBody
  simp [pInt, pMod, pAdd, pMul, hm, pIx, dctAt, seqAt, lstAt, hat, stSub, hix, dvI_set]
theorem cells_loop {P : Dt} : ∀ (ts : List Dt), (∀ t ∈ ts, ∃ i c : Int, t = .tup [.int i, .int c] ∧ 0 ≤ i ∧ i < 2 ^ 40) → ∀ (l : List Int) (z3 z4 z5 : Option Dv), l.length = 3 →
    ∃ (l' : List Int) (z3' z4' z5' : Option Dv), forL (gT (gsCons (gN 3) (gsCons (gN 4) (gsNil)))) cBody ts [some (.d P), some (.d (.int 3)), some (.loc 0), z3, z4, z5] [.lst (dvI l)] = .nx [some (.d P), some (.d (.int 3)), some (.loc 0), z3', z4', z5'] [.lst (dvI l')] ∧ l'.length = 3
  | [], _, l, z3, z4, z5, hl => ⟨l, z3, z4, z5, rfl, hl⟩
  | t :: ts, h, l, z3, z4, z5, hl => by
    obtain ⟨i, c, rfl, h0, h1⟩ := h t List.mem_cons_self
    obtain ⟨l1, z1, e1, hl1⟩ := cells_turn (P := P) (l := l) (c := c) (z := z5) hl h0 h1
    obtain ⟨l2, a, b, d, e2, hl2⟩ := cells_loop ts (fun t ht => h t (List.mem_cons_of_mem _ ht)) l1 (some (.d (.int i))) (some (.d (.int c))) z1 hl1
    refine ⟨l2, a, b, d, ?_, hl2⟩
    unfold forL
    show (match cBody [some (.d P), some (.d (.int 3)), some (.loc 0), some (.d (.int i)), some (.d (.int c)), z5] [.lst (dvI l)] with
      | .nx ρ2 S2 => forL (gT (gsCons (gN 3) (gsCons (gN 4) (gsNil)))) cBody ts ρ2 S2
      | .ct ρ2 S2 => forL (gT (gsCons (gN 3) (gsCons (gN 4) (gsNil)))) cBody ts ρ2 S2
      | .bk ρ2 S2 => .nx ρ2 S2
      | r => r) = _
    rw [e1]
    exact e2
theorem enL_mem {ns : List Int} (hz : ns.length < 1000) : ∀ t ∈ enL (dI ns), ∃ i c : Int, t = .tup [.int i, .int c] ∧ 0 ≤ i ∧ i < 2 ^ 40 := fun t ht => by
  unfold enL at ht
  obtain ⟨j, hj, e⟩ := List.mem_filterMap.mp ht
  have hj' := List.mem_range.mp hj
  unfold dI at hj' e
  rw [List.length_map] at hj'
  rw [List.getElem?_map, List.getElem?_eq_getElem hj'] at e
  cases e
  exact ⟨j, ns[j], rfl, by omega, by omega⟩
theorem cut0 {xs : List Dt} {k : Nat} : cutL xs none (some (k : Int)) = xs.take k := by
  unfold cutL
  rw [HT.sIx_none, HT.sIx_nat, List.drop_zero, Nat.sub_zero, ← List.take_eq_take_min]
theorem cut1 {xs : List Dt} {k n : Nat} : ∃ a b : Nat, cutL xs (some (k : Int)) (some (n : Int)) = (xs.drop a).take b ∧ (xs.length ≤ k → (xs.drop a).take b = []) := by
  refine ⟨min k xs.length, min n xs.length - min k xs.length, ?_, fun h => ?_⟩
  · unfold cutL
    rw [HT.sIx_nat, HT.sIx_nat]
  · rw [Nat.min_eq_right h, List.drop_length]
    simp
end Hn
/-! Hn4: cells, whole. -/
namespace Hn
open PySem PySem.Spec PyProof.Rows L2 Sm
def cSlice : M (List Dt) := iRg en1 (aCons (mSl pSl (mV 0) (oPt (mV 1)) (oPt (mC (.int 63)))) (aNil))
theorem cells_it {ns : List Int} {z : Option Dv} {S : Sto} : ∃ ms : List Int, cSlice [some (.d (.scr (dI ns))), some (.d (.int 3)), z, none, none, none] S = .ok (enL (dI ms)) S ∧ ms.length ≤ ns.length ∧ (ns.length ≤ 3 → ms = []) := by
  obtain ⟨a, b, e, he⟩ := cut1 (xs := dI ns) (k := 3) (n := 63)
  refine ⟨(ns.drop a).take b, ?_, ?_, fun h => ?_⟩
  · refine iRg_ok (ds := [.d (.lst (dI ((ns.drop a).take b)))]) ?_ rfl
    have e' : pSl (some 3) (some 63) (.d (.scr (dI ns))) S = some (.d (.lst (dI ((ns.drop a).take b))), S) := by
      have : cutL (dI ns) (some (3 : Int)) (some (63 : Int)) = dI ((ns.drop a).take b) := by
        refine e.trans ?_
        unfold dI
        rw [List.map_take, List.map_drop]
      show some (Dv.d (.lst (cutL (dI ns) (some 3) (some 63))), S) = _
      rw [this]
    simp only [aCons_s, mSl_s, mV_s, mC_s, oPt_s, aNil_s, List.getElem?_cons_zero, List.getElem?_cons_succ, bind_ok, e', Sm.lift_some]
  · rw [List.length_take, List.length_drop]
    omega
  · have := he (by unfold dI; rw [List.length_map]; exact h)
    unfold dI at this
    rw [← List.map_drop, ← List.map_take] at this
    exact List.map_eq_nil_iff.mp this
def cHead : M Dv := mOrT pTru (mN pListB (aCons (mSl pSl (mV 0) (oNo) (oPt (mV 1))) (aNil))) (mN pLstB (aCons (mC (.int 0)) (aNil)))
theorem dI_d (l : List Int) : (dI l).map Dv.d = dvI l := by
  unfold dI dvI
  rw [List.map_map]
  rfl
theorem cells_head (ns : List Int) : cHead [some (.d (.scr (dI ns))), some (.d (.int 3)), none, none, none, none] [] = (if ns = [] then .ok (.loc 1) [.lst [], .lst (dvI [0])] else .ok (.loc 0) [.lst (dvI (ns.take 3))]) := by
  have e' : pSl none (some 3) (.d (.scr (dI ns))) [] = some (.d (.lst (dI (ns.take 3))), []) := by
    have : cutL (dI ns) none (some (3 : Int)) = dI (ns.take 3) := by
      refine (cut0 (xs := dI ns) (k := 3)).trans ?_
      unfold dI
      rw [List.map_take]
    show some (Dv.d (.lst (cutL (dI ns) none (some 3))), ([] : Sto)) = _
    rw [this]
  have p1 : pListB [.d (.lst (dI (ns.take 3)))] [] = some (.loc 0, [.lst (dvI (ns.take 3))]) := by
    have : itemsOf [] (.d (.lst (dI (ns.take 3)))) = some (dI (ns.take 3)) := by
      simp [itemsOf, dctAt, seqAt, lstAt]
    show (match itemsOf [] (.d (.lst (dI (ns.take 3)))) with
      | some ts => some (Dv.loc ([] : Sto).length, ([] : Sto) ++ [Bo.lst (ts.map Dv.d)])
      | none => none) = _
    rw [this]
    simp only [dI_d]
    rfl
  have t1 : pTru (.loc 0) [.lst (dvI (ns.take 3))] = some (!(dvI (ns.take 3)).isEmpty) := rfl
  unfold cHead
  simp only [mOrT_s, mN_s, aCons_s, mSl_s, mV_s, oNo_s, oPt_s, aNil_s, List.getElem?_cons_zero, List.getElem?_cons_succ, bind_ok, e', Sm.lift_some, p1, t1, li_some]
  cases ns with
  | nil => rfl
  | cons a r => rfl
theorem frz_dvI {l : List Int} {S : Sto} {n : Nat} (h : S[n]? = some (.lst (dvI l))) : frz (.loc n) S = some (.d (.lst (dI l)), S.set n .dead) := by
  unfold frz
  simp only [h, ← dI_d, pures_d]
theorem cells_ok {ns : List Int} (hz : ns.length ≤ 63) {S : Sto} : ∃ cs : List Int, F__law_cells [.d (.scr (dI ns)), .d (.int 3)] S = .ok (.d (.lst (dI cs))) S ∧ cs.length ≤ 3 := by
  have go : ∃ (cs : List Int) (S' : Sto), b__law_cells [some (.d (.scr (dI ns))), some (.d (.int 3)), none, none, none, none] [] = .rt (.d (.lst (dI cs))) S' ∧ cs.length ≤ 3 := by
    have hb : b__law_cells = sSeq (sSet 2 cHead) (sSeq (sFor cSlice (gT (gsCons (gN 3) (gsCons (gN 4) (gsNil)))) cBody) (sRet (mFrz (mV 2)))) := rfl
    rw [hb, sSeq_s, sSet_s, cells_head]
    by_cases h : ns = []
    · rw [if_pos h, to_ok, sqz_nx, sSeq_s, sFor_s]
      obtain ⟨ms, e, _, e0⟩ := cells_it (ns := ns) (z := some (.loc 1)) (S := [.lst [], .lst (dvI [0])])
      have hms := e0 (by rw [h]; exact Nat.zero_le _)
      subst hms
      show ∃ (cs : List Int) (S' : Sto), sqz ((cSlice [some (.d (.scr (dI ns))), some (.d (.int 3)), some (.loc 1), none, none, none] [.lst [], .lst (dvI [0])]).to _ _) _ = .rt (.d (.lst (dI cs))) S' ∧ cs.length ≤ 3
      rw [e]
      exact ⟨[0], _, rfl, by decide⟩
    · rw [if_neg h, to_ok, sqz_nx, sSeq_s, sFor_s]
      obtain ⟨ms, e, hm, e0⟩ := cells_it (ns := ns) (z := some (.loc 0)) (S := [.lst (dvI (ns.take 3))])
      show ∃ (cs : List Int) (S' : Sto), sqz ((cSlice [some (.d (.scr (dI ns))), some (.d (.int 3)), some (.loc 0), none, none, none] [.lst (dvI (ns.take 3))]).to _ _) _ = .rt (.d (.lst (dI cs))) S' ∧ cs.length ≤ 3
      rw [e, to_ok]
      show ∃ (cs : List Int) (S' : Sto), sqz (forL (gT (gsCons (gN 3) (gsCons (gN 4) (gsNil)))) cBody (enL (dI ms)) [some (.d (.scr (dI ns))), some (.d (.int 3)), some (.loc 0), none, none, none] [.lst (dvI (ns.take 3))]) (sRet (mFrz (mV 2))) = .rt (.d (.lst (dI cs))) S' ∧ cs.length ≤ 3
      by_cases h3 : ns.length ≤ 3
      · have hms := e0 h3
        subst hms
        refine ⟨ns.take 3, [.dead], ?_, by rw [List.length_take]; omega⟩
        show sRet (mFrz (mV 2)) [some (.d (.scr (dI ns))), some (.d (.int 3)), some (.loc 0), none, none, none] [.lst (dvI (ns.take 3))] = _
        simp only [sRet_s, mFrz_s, mV_s, List.getElem?_cons_zero, List.getElem?_cons_succ, bind_ok, frz_dvI (S := [.lst (dvI (ns.take 3))]) (n := 0) rfl, Sm.lift_some, to_ok]
        rfl
      · obtain ⟨l', a, b, d, e2, hl'⟩ := cells_loop (P := .scr (dI ns)) (enL (dI ms)) (enL_mem (by omega)) (ns.take 3) none none none (by rw [List.length_take]; omega)
        rw [e2, sqz_nx]
        refine ⟨l', [.dead], ?_, by omega⟩
        simp only [sRet_s, mFrz_s, mV_s, List.getElem?_cons_zero, List.getElem?_cons_succ, bind_ok, frz_dvI (S := [.lst (dvI l')]) (n := 0) rfl, Sm.lift_some, to_ok]
        rfl
  obtain ⟨cs, S', e, hc⟩ := go
  exact ⟨cs, iso_ok (ts := [.scr (dI ns), .int 3]) (runB_rt (ds := [.d (.scr (dI ns)), .d (.int 3)]) rfl e), hc⟩
end Hn
/-! Hn5: nested texts, tupled, lists. -/
namespace Hn
open PySem PySem.Spec PyProof.Rows L2 Sm
/-- texts in lists and tuples, of nesting at most n -/
def Tx : Nat → Dt → Prop
  | 0, t => ∃ s, PyData.strOk s = true ∧ t = .str s
  | n + 1, t => (∃ s, PyData.strOk s = true ∧ t = .str s) ∨ ∃ xs, (t = .tup xs ∨ t = .lst xs) ∧ xs.length ≤ 1000 ∧ ∀ x ∈ xs, Tx n x
theorem Tx.up : ∀ {n : Nat} {t : Dt}, Tx n t → Tx (n + 1) t
  | 0, t, h => .inl h
  | n + 1, t, .inl h => .inl h
  | n + 1, t, .inr ⟨xs, h, hz, hx⟩ => .inr ⟨xs, h, hz, fun x m => (hx x m).up⟩
mutual
/-- all lists made tuples -/
def tp : Dt → Dt
  | .tup xs => .tup (tps xs)
  | .lst xs => .tup (tps xs)
  | t => t
def tps : List Dt → List Dt
  | [] => []
  | x :: xs => tp x :: tps xs
end
mutual
/-- all tuples made lists -/
def tl : Dt → Dt
  | .tup xs => .lst (tls xs)
  | .lst xs => .lst (tls xs)
  | t => t
def tls : List Dt → List Dt
  | [] => []
  | x :: xs => tl x :: tls xs
end
theorem tls_len : ∀ xs : List Dt, (tls xs).length = xs.length
  | [] => rfl
  | x :: xs => by
    show (tls xs).length + 1 = xs.length + 1
    rw [tls_len xs]
/-- a comprehension that turns each item by F -/
theorem map_loop {F : FM} {f : Dt → Dt} {P : Dt} : ∀ (xs : List Dt), (∀ x ∈ xs, ∀ S, F [.d x] S = .ok (.d (f x)) S) → ∀ S : Sto, lcL (gN 1) cYes (mF F (aCons (mV 1) (aNil))) [some (.d P), none] xs S = .ok ((xs.map f).map .d) S
  | [], _, S => rfl
  | x :: xs, h, S => by
    show bz (some ([some (Dv.d P), some (Dv.d x)] : Sm.Env)) _ = _
    simp only [bz_some, cYes_s, nox_ok, bind_ok, if_true, mF_s, aCons_s, mV_s, aNil_s, List.getElem?_cons_zero, List.getElem?_cons_succ, h x List.mem_cons_self S, map_loop xs (fun y hy => h y (List.mem_cons_of_mem _ hy)) S]
    rfl
theorem pLst_d {ts : List Dt} {S : Sto} (h : ts.length ≤ 16777216) : pLst (ts.map .d) S = some (.d (.lst ts), S) := by
  unfold pLst
  rw [pures_d]
  exact if_pos h
theorem pTuple_lst {ts : List Dt} {S : Sto} : pTuple [.d (.lst ts)] S = some (.d (.tup ts), S) := by
  simp [pTuple, dctAt, lstT, lstAt]
theorem comp_ok {F : FM} {f : Dt → Dt} {P : Dt} {xs : List Dt} (hP : seqOf (.d P) = some xs) (hz : xs.length ≤ 1000) (h : ∀ x ∈ xs, ∀ S, F [.d x] S = .ok (.d (f x)) S) (S : Sto) : mN pLst (mLcI [1] (iSeq (mV 0)) (gN 1) cYes (mF F (aCons (mV 1) (aNil)))) [some (.d P), none] S = .ok (.d (.lst (xs.map f))) S := by
  have h1 : mLcI [1] (iSeq (mV 0)) (gN 1) cYes (mF F (aCons (mV 1) (aNil))) [some (.d P), none] S = .ok ((xs.map f).map .d) S := by
    rw [mLcI_s, iSeq_s, mV_s]
    show ((li (seqOf (.d P)) S).bind fun ts S1 => if ts.length ≤ 16777216 then _ else _) = _
    rw [hP, li_some, bind_ok, if_pos (by omega)]
    exact map_loop xs h S
  rw [mN_s, h1, bind_ok, pLst_d (by rw [List.length_map]; omega), Sm.lift_some]
theorem tps_map : ∀ xs : List Dt, tps xs = xs.map tp
  | [] => rfl
  | x :: xs => by
    show tp x :: tps xs = tp x :: xs.map tp
    rw [tps_map xs]
theorem tls_map : ∀ xs : List Dt, tls xs = xs.map tl
  | [] => rfl
  | x :: xs => by
    show tl x :: tls xs = tl x :: xs.map tl
    rw [tls_map xs]
theorem isa_seq {t : Dt} {xs : List Dt} {S : Sto} (h : t = .tup xs ∨ t = .lst xs) : pIsa ["list", "tuple"] (.d t) S = some (.d (.bl true), S) := by
  rcases h with rfl | rfl <;> rfl
theorem tupled_ok : ∀ (n : Nat) (t : Dt) (S : Sto), Tx n t → F_tupled (n + 1) [.d t] S = .ok (.d (tp t)) S := by
  have str : ∀ (n : Nat) (s : Str) (S : Sto), F_tupled (n + 1) [.d (.str s)] S = .ok (.d (tp (.str s))) S := fun n s S => iso_ok (ts := [.str s]) (S' := []) rfl
  have seq : ∀ (n : Nat) (t : Dt) (xs : List Dt) (S : Sto), (t = .tup xs ∨ t = .lst xs) → xs.length ≤ 1000 → (∀ x ∈ xs, ∀ S, F_tupled n [.d x] S = .ok (.d (tp x)) S) → F_tupled (n + 1) [.d t] S = .ok (.d (tp t)) S := fun n t xs S ht hz hx => by
    have hP : seqOf (.d t) = some xs := by rcases ht with rfl | rfl <;> rfl
    have e := comp_ok (P := t) hP hz hx []
    have et : tp t = .tup (xs.map tp) := by
      rw [← tps_map]
      rcases ht with rfl | rfl <;> rfl
    refine iso_ok (ts := [t]) (S' := []) (runB_rt (ds := [.d t]) rfl ?_)
    show b_tupled (F_tupled n) [some (.d t), none] [] = _
    unfold b_tupled
    have c : mTru pTru (m1 (pIsa ["list", "tuple"]) (mV 0)) [some (.d t), none] [] = .ok true [] := by
      simp only [mTru_s, m1_s, mV_s, List.getElem?_cons_zero, bind_ok, isa_seq ht, Sm.lift_some]
      rfl
    rw [sRet_s, mIf_s, c, bind_ok, if_pos rfl, mN_s, aCons_s, e, bind_ok, aNil_s, bind_ok, bind_ok, et, pTuple_lst]
    rfl
  intro n
  induction n with
  | zero =>
    intro t S h
    obtain ⟨s, hs, rfl⟩ := h
    exact str 0 s S
  | succ n ih =>
    intro t S h
    rcases h with ⟨s, hs, rfl⟩ | ⟨xs, ht, hz, hx⟩
    · exact str (n + 1) s S
    · exact seq (n + 1) t xs S ht hz fun x m S => ih x S (hx x m)
theorem lists_ok : ∀ (n : Nat) (t : Dt) (S : Sto), Tx n t → F__law_lists (n + 1) [.d t] S = .ok (.d (tl t)) S := by
  have str : ∀ (n : Nat) (s : Str) (S : Sto), F__law_lists (n + 1) [.d (.str s)] S = .ok (.d (tl (.str s))) S := fun n s S => iso_ok (ts := [.str s]) (S' := []) rfl
  have seq : ∀ (n : Nat) (t : Dt) (xs : List Dt) (S : Sto), (t = .tup xs ∨ t = .lst xs) → xs.length ≤ 1000 → (∀ x ∈ xs, ∀ S, F__law_lists n [.d x] S = .ok (.d (tl x)) S) → F__law_lists (n + 1) [.d t] S = .ok (.d (tl t)) S := fun n t xs S ht hz hx => by
    have hP : seqOf (.d t) = some xs := by rcases ht with rfl | rfl <;> rfl
    have e := comp_ok (P := t) hP hz hx []
    have et : tl t = .lst (xs.map tl) := by
      rw [← tls_map]
      rcases ht with rfl | rfl <;> rfl
    refine iso_ok (ts := [t]) (S' := []) (runB_rt (ds := [.d t]) rfl ?_)
    show b__law_lists (F__law_lists n) [some (.d t), none] [] = _
    unfold b__law_lists
    have c : mTru pTru (m1 (pIsa ["list", "tuple"]) (mV 0)) [some (.d t), none] [] = .ok true [] := by
      simp only [mTru_s, m1_s, mV_s, List.getElem?_cons_zero, bind_ok, isa_seq ht, Sm.lift_some]
      rfl
    rw [sRet_s, mIf_s, c, bind_ok, if_pos rfl, e, et]
    rfl
  intro n
  induction n with
  | zero =>
    intro t S h
    obtain ⟨s, hs, rfl⟩ := h
    exact str 0 s S
  | succ n ih =>
    intro t S h
    rcases h with ⟨s, hs, rfl⟩ | ⟨xs, ht, hz, hx⟩
    · exact str (n + 1) s S
    · exact seq (n + 1) t xs S ht hz fun x m S => ih x S (hx x m)
end Hn
/-! Hn6: same. -/
namespace Hn
open PySem PySem.Spec PyProof.Rows L2 Sm
theorem eq_bl {a b : Bool} {S : Sto} : eqDv S (.d (.bl a)) (.d (.bl b)) = some (a == b) := by
  show (if SeqAt.shaped (.bool a) = true ∧ SeqAt.shaped (.bool b) = true then some (PyData.eqv (.bool a) (.bool b)) else none) = _
  rw [if_pos ⟨rfl, rfl⟩]
  cases a <;> cases b <;> rfl
theorem eqv_str (s : Str) : PyData.eqv (.str s) (.str s) = true := by
  simp [PyData.eqv]
theorem eq_str {s : Str} {S : Sto} (hs : PyData.strOk s = true) : eqDv S (.d (.str s)) (.d (.str s)) = some true := by
  show (if SeqAt.shaped (.str s) = true ∧ SeqAt.shaped (.str s) = true then some (PyData.eqv (.str s) (.str s)) else none) = _
  have h : SeqAt.shaped (.str s) = true := by
    unfold SeqAt.shaped
    simp [PyData.canLay0, hs, PyData.depth]
  rw [if_pos ⟨h, h⟩, eqv_str]
theorem pNe_bl {a : Bool} {S : Sto} : pNe (.d (.bl a)) (.d (.bl a)) S = some (.d (.bl false), S) := by
  unfold pNe
  rw [eq_bl]
  cases a <;> rfl
theorem pEq_bl {a : Bool} {S : Sto} : pEq (.d (.bl a)) (.d (.bl a)) S = some (.d (.bl true), S) := by
  unfold pEq
  rw [eq_bl]
  cases a <;> rfl
theorem pEq_int {i : Int} {S : Sto} : pEq (.d (.int i)) (.d (.int i)) S = some (.d (.bl true), S) := by
  unfold pEq
  rw [eqDv_int]
  simp
theorem pEq_str {s : Str} {S : Sto} (hs : PyData.strOk s = true) : pEq (.d (.str s)) (.d (.str s)) S = some (.d (.bl true), S) := by
  unfold pEq
  rw [eq_str hs]
def zEl (F : FM) : M Dv := mF F (aCons (mV 2) (aCons (mV 3) (aNil)))
theorem zip_loop {F : FM} {P R : Dt} : ∀ (xs : List Dt), (∀ x ∈ xs, ∀ S, F [.d x, .d x] S = .ok (.d (.bl true)) S) → ∀ S : Sto, lcL (gT (gsCons (gN 2) (gsCons (gN 3) (gsNil)))) cYes (zEl F) [some (.d P), some (.d R), none, none] (zpL xs xs) S = .ok (xs.map fun _ => Dv.d (.bl true)) S
  | [], _, S => rfl
  | x :: xs, h, S => by
    show bz (some ([some (Dv.d P), some (Dv.d R), some (Dv.d x), some (Dv.d x)] : Sm.Env)) _ = _
    unfold zEl
    simp only [bz_some, cYes_s, nox_ok, bind_ok, if_true, mF_s, aCons_s, mV_s, aNil_s, List.getElem?_cons_zero, List.getElem?_cons_succ, h x List.mem_cons_self S]
    show ((lcL (gT (gsCons (gN 2) (gsCons (gN 3) (gsNil)))) cYes (zEl F) [some (.d P), some (.d R), none, none] (zpL xs xs) S).bind fun ds S3 => Rz.ok (Dv.d (.bl true) :: ds) S3) = _
    rw [zip_loop xs (fun y hy => h y (List.mem_cons_of_mem _ hy)) S]
    rfl
theorem all_true (l : List Dt) (S : Sto) : pAll [.d (.lst (l.map fun _ => .bl true))] S = some (.d (.bl true), S) := by
  have hb : ∀ l : List Dt, blsOf (l.map fun _ => Dt.bl true) = some (l.map fun _ => true) := fun l => by
    induction l with
    | nil => rfl
    | cons a l ih =>
      show (blsOf (l.map fun _ => Dt.bl true)).map (true :: ·) = _
      rw [ih]
      rfl
  have e : (lstT S (.d (.lst (l.map fun _ => .bl true)))).bind blsOf = some (l.map fun _ => true) := by
    show ((some ((l.map fun _ => Dt.bl true).map Dv.d)).bind pures).bind blsOf = _
    rw [Option.bind_some, pures_d, Option.bind_some, hb]
  unfold pAll
  simp only [e]
  simp
theorem len_seq {t : Dt} {xs : List Dt} {S : Sto} (h : t = .tup xs ∨ t = .lst xs) : pLen [.d t] S = some (.d (.int (xs.length : Int)), S) := by
  rcases h with rfl | rfl
  · simp [pLen, dctAt, seqAt, lstAt]
  · simp [pLen, dctAt, seqAt, lstAt]
theorem isa_l {t : Dt} {xs : List Dt} {S : Sto} (h : t = .tup xs ∨ t = .lst xs) : ∃ b, pIsa ["list"] (.d t) S = some (.d (.bl b), S) := by
  rcases h with rfl | rfl <;> exact ⟨_, rfl⟩
theorem isa_t {t : Dt} {xs : List Dt} {S : Sto} (h : t = .tup xs ∨ t = .lst xs) : ∃ b, pIsa ["tuple"] (.d t) S = some (.d (.bl b), S) := by
  rcases h with rfl | rfl <;> exact ⟨_, rfl⟩
end Hn
/-! Hn7: dicts of distinct texts. -/
namespace Hn
open PySem PySem.Spec PyProof.Rows L2 Sm
abbrev kS (l : List Str) : List Key := l.map Sum.inr
theorem dput_new {ks : List Key} {xs : List Dv} {j : Key} {y : Dv} (h : hasK ks j = false) : dputK ks j = ks ++ [j] ∧ dputX ks xs j y = xs ++ [y] := by
  unfold dputK dputX
  simp [h]
theorem hasK_new {l : List Str} {x : Str} (h : x ∉ l) : hasK (kS l) (.inr x) = false := by
  cases e : hasK (kS l) (.inr x) with
  | false => rfl
  | true => exact absurd (hasK_inr.mp e) h
/-- sorted(set(..)) of distinct texts -/
theorem ddS_id : ∀ {l : List Str}, l.Nodup → ddS l = l
  | [], _ => rfl
  | a :: l, h => by
    obtain ⟨h1, h2⟩ := List.nodup_cons.mp h
    unfold ddS
    rw [ddS_id h2, if_neg (by simpa using h1)]
end Hn
/-! Hn8: turns of lists of texts that are sorted. -/
namespace Hn
open PySem PySem.Spec PyProof.Rows L2 Sm
theorem alike_strs : ∀ a b : Str, PySem.W.alike (encT (.str a)) (encT (.str b)) = true := fun a b => by
  show PySem.W.alike (.str a) (.str b) = true
  simp only [PySem.W.alike]
theorem sortChk_strs {l : List Str} (h : l.length ≤ 1000) : sortChk (l.map .str) = true := by
  unfold sortChk
  simp only [Bool.and_eq_true, decide_eq_true_eq, Bool.or_eq_true, List.all_eq_true]
  refine ⟨⟨⟨fun t ht => ?_, fun t ht u hu => ?_⟩, .inr (.inl fun t ht => ?_)⟩, by rw [List.length_map]; omega⟩
  · obtain ⟨a, _, rfl⟩ := List.mem_map.mp ht
    refine ⟨rfl, ?_⟩
    show PyData.depth (.str a) ≤ 60
    simp only [PyData.depth]
    omega
  · obtain ⟨a, _, rfl⟩ := List.mem_map.mp ht
    obtain ⟨b, _, rfl⟩ := List.mem_map.mp hu
    exact alike_strs a b
  · obtain ⟨a, _, rfl⟩ := List.mem_map.mp ht
    rfl
theorem seqT_lst {ts : List Dt} {S : Sto} : seqT S (.d (.lst ts)) = some ts := by
  unfold seqT seqAt lstAt
  simp
end Hn
/-! Hn9: rows of a sheet, sorted. -/
namespace Hn
open PySem PySem.Spec PyProof.Rows L2 Sm
def row (e : Str × List Str) : Dt := .tup [.str e.1, .tup (e.2.map .str)]
theorem toPys_strs : ∀ l : List Str, toPys (l.map .str) = some (l.map PyData.str)
  | [] => rfl
  | a :: l => by
    show (match toPy (.str a), toPys (l.map .str) with
      | some a, some b => some (a :: b)
      | _, _ => none) = _
    rw [toPys_strs l]
    rfl
theorem alikeAll_strs : ∀ l m : List Str, PySem.W.alikeAll (l.map PyData.str) (m.map PyData.str) = true
  | [], m => by
    simp only [List.map_nil, PySem.W.alikeAll]
  | a :: l, [] => by
    simp only [List.map_nil, List.map_cons, PySem.W.alikeAll]
  | a :: l, b :: m => by
    simp only [List.map_cons, PySem.W.alikeAll, PySem.W.alike, alikeAll_strs l m, Bool.and_self]
theorem depth_strs : ∀ l : List Str, PyData.depthAll (l.map PyData.str) = 0
  | [] => by simp only [List.map_nil, PyData.depthAll]
  | a :: l => by
    simp only [List.map_cons, PyData.depthAll, PyData.depth, depth_strs l]
    rfl
end Hn
/-! Hn10: nested texts compare equal to themselves. -/
namespace Hn
open PySem PySem.Spec PyProof.Rows L2 Sm
theorem Tx.tl : ∀ {n : Nat} {t : Dt}, Tx n t → Tx n (tl t)
  | 0, t, h => by
    obtain ⟨s, hs, rfl⟩ := h
    exact ⟨s, hs, rfl⟩
  | n + 1, t, h => by
    rcases h with ⟨s, hs, rfl⟩ | ⟨xs, ht, hz, hx⟩
    · exact .inl ⟨s, hs, rfl⟩
    · refine .inr ⟨tls xs, ?_, by rw [tls_len]; exact hz, fun y hy => ?_⟩
      · rcases ht with rfl | rfl <;> exact .inr rfl
      · rw [tls_map] at hy
        obtain ⟨x, hm, rfl⟩ := List.mem_map.mp hy
        exact (hx x hm).tl
end Hn
/-! Hn11: small steps that many loops need. -/
namespace Hn
open PySem PySem.Spec PyProof.Rows L2 Sm
theorem perm_map_inv {α β : Type} {f : α → β} {g : β → α} (hg : ∀ a, g (f a) = a) {r : List β} {l : List α} (h : r.Perm (l.map f)) : ∃ m : List α, r = m.map f ∧ m.Perm l := by
  refine ⟨r.map g, ?_, ?_⟩
  · rw [List.map_map]
    have : ∀ x ∈ r, (f ∘ g) x = id x := fun x hx => by
      obtain ⟨a, _, rfl⟩ := List.mem_map.mp (h.mem_iff.mp hx)
      show f (g (f a)) = f a
      rw [hg]
    rw [List.map_congr_left this, List.map_id]
  · have := h.map g
    rw [List.map_map, show (g ∘ f) = id from funext hg, List.map_id] at this
    exact this
def unS : Dt → Str
  | .str s => s
  | _ => Str.empty
theorem perm_strs {r : List Dt} {l : List Str} (h : r.Perm (l.map .str)) : ∃ m : List Str, r = m.map .str ∧ m.Perm l := perm_map_inv (g := unS) (fun _ => rfl) h
theorem pList_t {ts : List Dt} {S : Sto} : pList [.d (.tup ts)] S = some (.d (.lst ts), S) := by
  simp [pList, itemsOf, dctAt, seqAt]
theorem ix_lst {ts : List Dt} {i : Nat} {t : Dt} {S : Sto} (h : ts[i]? = some t) : pIx (.d (.lst ts)) (.d (.int (i : Nat))) S = some (.d t, S) := by
  have : atI (ts.map Dv.d) ((i : Nat) : Int) = some (.d t) := atI_nat (by rw [List.getElem?_map, h]; rfl)
  simp only [pIx, dctAt, seqAt, lstAt, this]
theorem ix_tup {ts : List Dt} {i : Nat} {t : Dt} {S : Sto} (h : ts[i]? = some t) : pIx (.d (.tup ts)) (.d (.int (i : Nat))) S = some (.d t, S) := by
  have : atI (ts.map Dv.d) ((i : Nat) : Int) = some (.d t) := atI_nat (by rw [List.getElem?_map, h]; rfl)
  simp only [pIx, dctAt, seqAt, lstAt, this]
theorem dlook_at {α : Type} {f : Nat → α} : ∀ {l : List Str} {i a : Nat} {s : Str}, l.Nodup → l[i]? = some s → dlook (kS l) ((List.range' a l.length).map f) (.inr s) = some (f (a + i))
  | [], i, a, s, _, h => by simp at h
  | x :: l, 0, a, s, nd, h => by
    simp at h
    subst h
    show (if (Sum.inr x : Key) = .inr x then some (f a) else _) = _
    rw [if_pos rfl]
    rfl
  | x :: l, i + 1, a, s, nd, h => by
    have h' : l[i]? = some s := by simpa using h
    obtain ⟨n1, n2⟩ := List.nodup_cons.mp nd
    have hne : ¬ (Sum.inr x : Key) = .inr s := fun z => by
      cases z
      exact n1 (List.mem_of_getElem? h')
    show (if (Sum.inr x : Key) = .inr s then _ else dlook (kS l) ((List.range' (a + 1) l.length).map f) (.inr s)) = _
    rw [if_neg hne, dlook_at n2 h']
    congr 1
    congr 1
    omega
theorem forL_nx {g : GM} {b : SM} {t : Dt} {ts : List Dt} {ρ ρ1 ρ2 : Sm.Env} {S S2 : Sto} (hg : g (.d t) ρ = some ρ1) (h : b ρ1 S = .nx ρ2 S2) : forL g b (t :: ts) ρ S = forL g b ts ρ2 S2 := by
  show oz (g (.d t) ρ) _ = _
  rw [hg, oz_some, h]
theorem add_l {a b : List Dt} {S : Sto} (h : a.length + b.length ≤ 16777216) : pAdd (.d (.lst a)) (.d (.lst b)) S = some (.d (.lst (a ++ b)), S) := if_pos h
theorem add_t {a b : List Dt} {S : Sto} (h : a.length + b.length ≤ 16777216) : pAdd (.d (.tup a)) (.d (.tup b)) S = some (.d (.tup (a ++ b)), S) := if_pos h
theorem eq_i {i j : Int} {S : Sto} : pEq (.d (.int i)) (.d (.int j)) S = some (.d (.bl (decide (i = j))), S) := by
  unfold pEq
  rw [eqDv_int]
theorem gt_i {i j : Int} {S : Sto} : pGt (.d (.int i)) (.d (.int j)) S = some (.d (.bl (decide (j < i))), S) := rfl
theorem lt_i {i j : Int} {S : Sto} : pLt (.d (.int i)) (.d (.int j)) S = some (.d (.bl (decide (i < j))), S) := rfl
theorem shaped_str {s : Str} (h : PyData.strOk s = true) : SeqAt.shaped (.str s) = true := by
  unfold SeqAt.shaped
  simp [PyData.canLay0, h, PyData.depth]
theorem eqv_strs (a b : Str) : PyData.eqv (.str a) (.str b) = decide (a = b) := by
  show (a == b) = _
  cases e : a == b with
  | true => exact (decide_eq_true (by simpa using e)).symm
  | false => exact (decide_eq_false (by simpa using e)).symm
theorem eqDv_str {a b : Str} {S : Sto} (h1 : PyData.strOk a = true) (h2 : PyData.strOk b = true) : eqDv S (.d (.str a)) (.d (.str b)) = some (decide (a = b)) := by
  show (if SeqAt.shaped (.str a) = true ∧ SeqAt.shaped (.str b) = true then some (PyData.eqv (.str a) (.str b)) else none) = _
  rw [if_pos ⟨shaped_str h1, shaped_str h2⟩, eqv_strs]
theorem eq_s {a b : Str} {S : Sto} (h1 : PyData.strOk a = true) (h2 : PyData.strOk b = true) : pEq (.d (.str a)) (.d (.str b)) S = some (.d (.bl (decide (a = b))), S) := by
  unfold pEq
  rw [eqDv_str h1 h2]
theorem ne_s {a b : Str} {S : Sto} (h1 : PyData.strOk a = true) (h2 : PyData.strOk b = true) : pNe (.d (.str a)) (.d (.str b)) S = some (.d (.bl (!decide (a = b))), S) := by
  unfold pNe
  rw [eqDv_str h1 h2]
theorem cut_to {α : Type} {xs : List α} {k : Nat} : cutL xs none (some (k : Int)) = xs.take k := by
  unfold cutL
  rw [HT.sIx_none, HT.sIx_nat, List.drop_zero, Nat.sub_zero, ← List.take_eq_take_min]
theorem cut_from {α : Type} {xs : List α} {k : Nat} : cutL xs (some (k : Int)) none = xs.drop k := by
  unfold cutL
  rw [HT.sIx_none, HT.sIx_nat, List.take_of_length_le (by rw [List.length_drop]; omega)]
  by_cases h : k ≤ xs.length
  · rw [Nat.min_eq_left h]
  · rw [Nat.min_eq_right (by omega), List.drop_length, List.drop_eq_nil_of_le (by omega)]
theorem cut_map {α β : Type} {f : α → β} {xs : List α} {lo hi : Option Int} : cutL (xs.map f) lo hi = (cutL xs lo hi).map f := by
  unfold cutL
  rw [List.length_map, List.map_take, List.map_drop]
theorem sl_l {ts : List Dt} {lo hi : Option Int} {S : Sto} : pSl lo hi (.d (.lst ts)) S = some (.d (.lst (cutL ts lo hi)), S) := rfl
theorem sl_t {ts : List Dt} {lo hi : Option Int} {S : Sto} : pSl lo hi (.d (.tup ts)) S = some (.d (.tup (cutL ts lo hi)), S) := rfl
/-- one turn of a comprehension that keeps the item -/
theorem lc_yes {g : GM} {c : M Bool} {e : M Dv} {ρ ρ1 : Sm.Env} {t : Dt} {ts : List Dt} {S S1 S2 S3 : Sto} {d : Dv} {ds : List Dv} (hg : g (.d t) ρ = some ρ1) (hc : c ρ1 S = .ok true S1) (he : e ρ1 S1 = .ok d S2) (hr : lcL g c e ρ ts S2 = .ok ds S3) : lcL g c e ρ (t :: ts) S = .ok (d :: ds) S3 := by
  show bz (g (.d t) ρ) _ = _
  rw [hg, bz_some, hc, nox_ok, bind_ok, if_pos rfl, he, nox_ok, bind_ok, hr, bind_ok]
theorem lc_no {g : GM} {c : M Bool} {e : M Dv} {ρ ρ1 : Sm.Env} {t : Dt} {ts : List Dt} {S S1 S3 : Sto} {ds : List Dv} (hg : g (.d t) ρ = some ρ1) (hc : c ρ1 S = .ok false S1) (hr : lcL g c e ρ ts S1 = .ok ds S3) : lcL g c e ρ (t :: ts) S = .ok ds S3 := by
  show bz (g (.d t) ρ) _ = _
  rw [hg, bz_some, hc, nox_ok, bind_ok, if_neg (by decide), hr]
theorem mLcI_ok {vs : List Nat} {it : M (List Dt)} {g : GM} {c : M Bool} {e : M Dv} {ρ : Sm.Env} {S S1 S2 : Sto} {ts : List Dt} {ds : List Dv} (hi : it ρ S = .ok ts S1) (hz : ts.length ≤ 16777216) (h : lcL g c e (wipeE ρ vs) ts S1 = .ok ds S2) : mLcI vs it g c e ρ S = .ok ds S2 := by
  rw [mLcI_s, hi, bind_ok, if_pos hz, h]
end Hn
/-! Hn12: a drawn sheet: the table is filled. -/
namespace Hn
open PySem PySem.Spec PyProof.Rows L2 Sm
def pool : List Str := ["a", "ann", "bob", "cat", "dan", "eve", "fay", "new", "old", "x", "zzzzzzzz"]
abbrev bx (l : List Str) : Bo := .lst (l.map fun s => Dv.d (.str s))
abbrev locs (n : Nat) : List Dv := (List.range' 2 n).map Dv.loc
abbrev eT (P1 P2 P5 : Dt) (L : List Str) (n : Nat) (folk emp : List Str) (st wd : Int) (z11 z12 z13 z14 : Option Dv) : Sm.Env :=
  [some (.loc 0), some (.d P1), some (.d P2), some (.d (.lst (L.map .str))), some (.d (.int (n : Int))), some (.d P5), some (.d (.lst (folk.map .str))), some (.d (.lst (emp.map .str))), some (.loc 1), some (.d (.int st)), some (.d (.int wd)), z11, z12, z13, z14, none, none, none]
section
variable {P1 P2 P5 : Dt} {L : List Str} {n : Nat} {folk emp : List Str} {st wd : Int} {z11 z12 z13 z14 : Option Dv}
/-- what the boxes hold -/
def Gd (folk : List Str) (c : Nat) (bs : List (List Str)) : Prop := ∀ l ∈ bs, l.length ≤ c ∧ ∀ x ∈ l, x ∈ pool
end
end Hn
/-! Hn13: a drawn sheet: wishes of both sides, of one. -/
namespace Hn
open PySem PySem.Spec PyProof.Rows L2 Sm
def tAppA : SM := sDrop (mLm pAppend (m2 pIx (mV 8) (m2 pIx (mV 6) (mV 11))) (aCons (mV 13) (aNil)))
def tAppB : SM := sDrop (mLm pAppend (m2 pIx (mV 8) (mV 13)) (aCons (m2 pIx (mV 6) (mV 11)) (aNil)))
def tB : SM := sSeq (sSet 14 (mF F__law_take (aCons (mV 0) (aCons (mV 10) (aNil)))))
    (sSeq (sIf (cOr (mTst (m2 pEq (mV 14) (mC (.int 0)))) (cAnd (mTst (m2 pEq (mV 14) (mC (.int 1)))) (mTst (m2 pGt (mV 9) (mC (.int 0)))))) tAppA (sNil))
    (sIf (cOr (mTst (m2 pEq (mV 14) (mC (.int 0)))) (cAnd (mTst (m2 pEq (mV 14) (mC (.int 2)))) (mTst (m2 pGt (mV 9) (mC (.int 0)))))) tAppB (sNil)))
section
variable {P1 P2 P5 : Dt} {L : List Str} {n : Nat} {folk emp : List Str} {st wd : Int} {z11 z12 z13 z14 : Option Dv}
theorem Gd.up {c d : Nat} {bs : List (List Str)} (g : Gd folk c bs) (h : c ≤ d) : Gd folk d bs := fun m hm => ⟨Nat.le_trans (g m hm).1 h, (g m hm).2⟩
theorem cond_ok {x a b s c : Int} {ρ : Sm.Env} {S : Sto} {i j : Nat} (h1 : ρ[i]? = some (some (.d (.int x)))) (h2 : ρ[j]? = some (some (.d (.int s)))) : ∃ t, cOr (mTst (m2 pEq (mV i) (mC (.int a)))) (cAnd (mTst (m2 pEq (mV i) (mC (.int b)))) (mTst (m2 pGt (mV j) (mC (.int c))))) ρ S = .ok t S := by
  simp only [cOr_s, cAnd_s, mTst_s, m2_s, mV_s, mC_s, h1, h2, bind_ok, eq_i, gt_i, Sm.lift_some, toB_s, li_some]
  by_cases h : x = a
  · exact ⟨true, by simp [h]⟩
  · by_cases h' : x = b
    · exact ⟨_, by rw [if_neg (by simpa using h), if_pos (by simpa using h')]⟩
    · exact ⟨false, by rw [if_neg (by simpa using h), if_neg (by simpa using h')]⟩
def tC : SM := sFor (iSeq (mSl pSl (mV 6) (oPt (m2 pAdd (mV 11) (mC (.int 1)))) (oNo))) (gN 13) tB
end
end Hn
/-! Hn14: a drawn sheet: its rows, sorted. -/
namespace Hn
open PySem PySem.Spec PyProof.Rows L2 Sm
/-- the wishes of a row -/
def ws (s : Str) (l : List Str) : List Str := sortS (ddS (l.filter fun x => !decide (x = s)))
abbrev eR (P1 P2 P5 : Dt) (L : List Str) (n : Nat) (folk emp : List Str) (st wd : Int) (z11 z12 z13 z14 z16 z17 : Option Dv) : Sm.Env :=
  [some (.loc 0), some (.d P1), some (.d P2), some (.d (.lst (L.map .str))), some (.d (.int (n : Int))), some (.d P5), some (.d (.lst (folk.map .str))), some (.d (.lst (emp.map .str))), some (.loc 1), some (.d (.int st)), some (.d (.int wd)), z11, z12, z13, z14, none, z16, z17]
structure Kept (folk : List Str) (bs : List (List Str)) (o : Bo) (k : Nat) (S : Sto) : Prop where
  o0 : S[0]? = some o
  o1 : S[1]? = some (.dct (kS folk) (locs folk.length))
  bx : ∀ (j : Nat) (l : List Str), k ≤ j → bs[j]? = some l → S[2 + j]? = some (bx l)
section
variable {P1 P2 P5 : Dt} {L : List Str} {n : Nat} {folk emp : List Str} {st wd : Int} {z11 z12 z13 z14 z16 z17 : Option Dv}
theorem Kept.next {o : Bo} {bs : List (List Str)} {k : Nat} {S : Sto} (K : Kept folk bs o k S) : Kept folk bs o (k + 1) (S.set (2 + k) .dead) := by
  refine ⟨?_, ?_, fun j l hj hl => ?_⟩
  · rw [List.getElem?_set_ne (by omega)]
    exact K.o0
  · rw [List.getElem?_set_ne (by omega)]
    exact K.o1
  · rw [List.getElem?_set_ne (by omega)]
    exact K.bx j l (by omega) hl
end
/-! sorted -/
def Asc (l : List Str) : Prop := l.Pairwise fun a b => ltS a b = true
theorem asc_of {l : List Str} (h : l.Pairwise fun a b => leS a b = true) (nd : l.Nodup) : Asc l := by
  refine List.Pairwise.imp₂ (fun {a b} h1 h2 => ?_) h nd
  by_cases hl : a.cps.toList < b.cps.toList
  · exact decide_eq_true hl
  · exfalso
    have : leS b a = true := by
      unfold leS
      simp [hl]
    exact h2 (leS_anti h1 this)
theorem asc_sort {l : List Str} (nd : l.Nodup) : Asc (sortS l) := asc_of (sortS_sorted l) ((sortS_perm l).nodup_iff.mpr nd)
end Hn
/-! Hn15: a drawn sheet. -/
namespace Hn
open PySem PySem.Spec PyProof.Rows L2 Sm
structure Tome (t : Dt) (rows : List (Str × List Str)) (emps : List Str) (most free : Nat) : Prop where
  eq : t = .tup [.tup (rows.map row), .tup (emps.map .str)]
  pn : ∀ e ∈ rows, e.1 ∈ pool
  pw : ∀ e ∈ rows, ∀ x ∈ e.2, x ∈ pool ∧ x ≠ e.1
  sw : ∀ e ∈ rows, Asc e.2
  sn : Asc (rows.map (·.1))
  se : Asc emps
  pe : ∀ x ∈ emps, x ∈ pool
  nd : (rows.map (·.1) ++ emps).Nodup
  z0 : 0 < rows.length
  z1 : rows.length ≤ most
  z2 : emps.length ≤ free
abbrev e3 (P1 P2 : Dt) (z3 z4 z5 z6 z7 z8 z9 z10 : Option Dv) : Sm.Env := [some (.loc 0), some (.d P1), some (.d P2), z3, z4, z5, z6, z7, z8, z9, z10, none, none, none, none, none, none, none]
end Hn
/-! Hs1: comprehensions without side effects; texts in sequences and dicts. -/
namespace Hn
open PySem PySem.Spec PyProof.Rows L2 Sm
theorem lc_pure {α : Type} (enc : α → Dt) (p : α → Bool) (f : α → Dt) {g : GM} {c : M Bool} {e : M Dv} {ρ : Sm.Env} {S : Sto} : ∀ (l : List α), (∀ a ∈ l, ∃ ρ1, g (.d (enc a)) ρ = some ρ1 ∧ c ρ1 S = .ok (p a) S ∧ (p a = true → e ρ1 S = .ok (.d (f a)) S)) → lcL g c e ρ (l.map enc) S = .ok (((l.filter p).map f).map .d) S
  | [], _ => rfl
  | a :: l, h => by
    obtain ⟨ρ1, hg, hc, he⟩ := h a List.mem_cons_self
    have ih := lc_pure enc p f l fun b hb => h b (List.mem_cons_of_mem _ hb)
    by_cases hp : p a = true
    · rw [List.filter_cons_of_pos hp, List.map_cons]
      rw [hp] at hc
      exact lc_yes hg hc (he hp) ih
    · have hf : p a = false := by simpa using hp
      rw [List.filter_cons_of_neg hp, List.map_cons]
      rw [hf] at hc
      exact lc_no hg hc ih
theorem mLcI_pure {α : Type} (enc : α → Dt) (l : List α) (p : α → Bool) (f : α → Dt) {vs : List Nat} {it : M (List Dt)} {g : GM} {c : M Bool} {e : M Dv} {ρ : Sm.Env} {S : Sto} (hi : it ρ S = .ok (l.map enc) S) (hz : l.length ≤ 16777216) (h : ∀ a ∈ l, ∃ ρ1, g (.d (enc a)) (wipeE ρ vs) = some ρ1 ∧ c ρ1 S = .ok (p a) S ∧ (p a = true → e ρ1 S = .ok (.d (f a)) S)) : mLcI vs it g c e ρ S = .ok (((l.filter p).map f).map .d) S :=
  mLcI_ok hi (by rw [List.length_map]; exact hz) (lc_pure enc p f l h)
/-- the whole display -/
theorem mLc_pure {α : Type} (enc : α → Dt) (l : List α) (p : α → Bool) (f : α → Dt) {vs : List Nat} {it : M (List Dt)} {g : GM} {c : M Bool} {e : M Dv} {ρ : Sm.Env} {S : Sto} (hi : it ρ S = .ok (l.map enc) S) (hz : l.length ≤ 16777216) (h : ∀ a ∈ l, ∃ ρ1, g (.d (enc a)) (wipeE ρ vs) = some ρ1 ∧ c ρ1 S = .ok (p a) S ∧ (p a = true → e ρ1 S = .ok (.d (f a)) S)) : mN pLst (mLcI vs it g c e) ρ S = .ok (.d (.lst ((l.filter p).map f))) S := by
  rw [mN_s, mLcI_pure enc l p f hi hz h, bind_ok, pLst_d (by rw [List.length_map]; exact Nat.le_trans (List.length_filter_le _ _) hz), Sm.lift_some]
theorem filter_yes {α : Type} (l : List α) : l.filter (fun _ => true) = l := List.filter_eq_self.mpr fun _ _ => rfl
/-- a dict over distinct texts -/
theorem dc_pure {α : Type} (enc : α → Dt) (key : α → Str) (f : α → Dt) {g : GM} {c : M Bool} {ek ev : M Dv} {ρ : Sm.Env} {S : Sto} : ∀ (l : List α) (l0 : List Str) (xs : List Dv), (l0 ++ l.map key).Nodup → (∀ a ∈ l, ∃ ρ1, g (.d (enc a)) ρ = some ρ1 ∧ c ρ1 S = .ok true S ∧ ek ρ1 S = .ok (.d (.str (key a))) S ∧ ev ρ1 S = .ok (.d (f a)) S) →
    dcL g c ek ev ρ (l.map enc) (kS l0) xs S = .ok (kS (l0 ++ l.map key), xs ++ (l.map f).map .d) S
  | [], l0, xs, _, _ => by
    simp [dcL]
  | a :: l, l0, xs, nd, h => by
    obtain ⟨ρ1, hg, hc, hk, hv⟩ := h a List.mem_cons_self
    have hne : key a ∉ l0 := fun z => by
      rw [List.nodup_append] at nd
      exact nd.2.2 (key a) z (key a) (by simp) rfl
    obtain ⟨k1, k2⟩ := dput_new (xs := xs) (y := .d (f a)) (hasK_new hne)
    have ih := dc_pure enc key f (g := g) (c := c) (ek := ek) (ev := ev) (ρ := ρ) (S := S) l (l0 ++ [key a]) (xs ++ [.d (f a)]) (by simpa using nd) fun b hb => h b (List.mem_cons_of_mem _ hb)
    rw [show kS (l0 ++ [key a]) = kS l0 ++ [Sum.inr (key a)] by simp [kS]] at ih
    show bz (g (.d (enc a)) ρ) _ = _
    rw [hg, bz_some, hc, nox_ok, bind_ok, if_pos rfl, hk, nox_ok, bind_ok, hv, nox_ok, bind_ok]
    show dcL g c ek ev ρ (l.map enc) (dputK (kS l0) (.inr (key a))) (dputX (kS l0) xs (.inr (key a)) (.d (f a))) S = _
    rw [k1, k2, ih]
    simp
theorem eqF_strs (a b : Str) : eqF (.str a) (.str b) = decide (a = b) := by
  cases e : decide (a = b) <;> simp_all [eqF]
theorem inSeq_strs {l : List Str} {x : Str} : inSeq (.d (.str x)) ((l.map .str).map .d) = some (decide (x ∈ l)) := by
  have h1 : (l.map Dt.str).all flatT = true := List.all_eq_true.mpr fun t ht => by
    obtain ⟨s, _, rfl⟩ := List.mem_map.mp ht
    rfl
  have h2 : ((l.map Dt.str).any fun t => eqF t (.str x)) = decide (x ∈ l) := by
    rw [List.any_map]
    induction l with
    | nil => simp
    | cons a l ih =>
      have ih' := ih (List.all_eq_true.mpr fun t ht => by
        obtain ⟨s, _, rfl⟩ := List.mem_map.mp ht
        rfl)
      rw [List.any_cons, ih']
      show (eqF (.str a) (.str x) || decide (x ∈ l)) = _
      rw [eqF_strs]
      by_cases h : a = x
      · simp [h]
      · have h' : ¬ x = a := fun z => h z.symm
        simp [h, h']
  show (if flatT (.str x) = true then (match pures ((l.map Dt.str).map .d) with
      | some ts => if ts.all flatT = true then some (ts.any fun t => eqF t (.str x)) else none
      | none => none) else none) = _
  rw [if_pos (show flatT (.str x) = true from rfl), pures_d]
  simp only [h1, if_true, h2]
theorem inDv_t {l : List Str} {x : Str} {S : Sto} : inDv S (.d (.str x)) (.d (.tup (l.map .str))) = some (decide (x ∈ l)) := inSeq_strs
theorem in_t {l : List Str} {x : Str} {S : Sto} : pIn (.d (.str x)) (.d (.tup (l.map .str))) S = some (.d (.bl (decide (x ∈ l))), S) := by
  unfold pIn
  rw [inDv_t]
end Hn
/-! Hs2: sheets: what the methods of Sheet compute. -/
namespace Hn
open PySem PySem.Spec PyProof.Rows L2 Sm
theorem sFld_is {S : Sto} {n c i : Nat} {fs : List (Option Dv)} {d : Dv} {mo mv : M Dv} {ρ : Sm.Env} (h : S[n]? = some (.ins c fs)) (hv : mv ρ S = .ok d S) (ho : mo ρ S = .ok (.loc n) S) : sFld c i mo mv ρ S = .nx ρ (S.set n (.ins c (putF i d fs))) := by
  have e : stFld c i (.loc n) d S = some (S.set n (.ins c (putF i d fs))) := by
    unfold stFld
    simp only [h, if_true]
  rw [sFld_s, hv, to_ok, ho, to_ok, e, oz_some]
theorem set_at {S : Sto} {n : Nat} {o o' : Bo} (h : S[n]? = some o) : (S.set n o')[n]? = some o' := by
  have : n < S.length := by
    have := List.getElem?_eq_some_iff.mp h
    exact this.1
  exact List.getElem?_set_self this
/-- the row of x -/
def lk : List (Str × List Str) → Str → List Str
  | [], _ => []
  | e :: r, x => if e.1 = x then e.2 else lk r x
theorem lk_mem : ∀ {rows : List (Str × List Str)} {x : Str}, x ∈ rows.map (·.1) → (x, lk rows x) ∈ rows
  | [], x, h => absurd h List.not_mem_nil
  | a :: r, x, h => by
    show (x, if a.1 = x then a.2 else lk r x) ∈ _
    by_cases e : a.1 = x
    · subst e
      rw [if_pos rfl]
      exact List.mem_cons_self
    · rw [if_neg e]
      rcases List.mem_cons.mp h with h | h
      · exact absurd h.symm e
      · exact List.mem_cons_of_mem _ (lk_mem h)
abbrev folk (rows : List (Str × List Str)) : List Str := rows.map (·.1)
abbrev tupS (l : List Str) : Dt := .tup (l.map .str)
abbrev shD (l : List (Str × List Str)) (m : List Str) : Dt := .tup [.tup (l.map row), .tup (m.map .str)]
/-- t, whatever its lists and tuples, is the sheet of these rows and empty homes -/
structure Sd (t : Dt) (rows : List (Str × List Str)) (emps : List Str) : Prop where
  tx : Tx 7 t
  eq : tp t = shD rows emps
  nd : (folk rows ++ emps).Nodup
  z1 : rows.length ≤ 100
  z2 : emps.length ≤ 100
  z3 : ∀ r ∈ rows, r.2.length ≤ 100
section
variable {t : Dt} {rows : List (Str × List Str)} {emps : List Str} {S : Sto} {n : Nat}
/-- g, whatever its lists and tuples, is a row of these names -/
structure Nm (g : Dt) (l : List Str) : Prop where
  tp : ∀ S : Sto, F_tupled 8 [.d g] S = .ok (.d (tupS l)) S
  z : l.length ≤ 1000
theorem Nm.of {g : Dt} {l : List Str} (tx : Tx 7 g) (eq : Hn.tp g = tupS l) (z : l.length ≤ 1000) : Nm g l := ⟨fun S => by
  rw [← eq]
  exact tupled_ok 7 g S tx, z⟩
theorem Nm.none : Nm (.ltp []) [] := ⟨fun S => iso_ok (ts := [.ltp []]) (S' := []) rfl, Nat.zero_le _⟩
/-- the one wants the other's home, and the other its own -/
def suits (rows : List (Str × List Str)) (a b : Str) : Bool := decide (b ∈ lk rows a) && decide (a ∈ lk rows b)
def suited (rows : List (Str × List Str)) (a : Str) : List Str := (lk rows a).filter fun b => decide (b ∈ folk rows) && suits rows a b
end
end Hn
/-! Hs3: Swapping: what its making computes. -/
namespace Hn
open PySem PySem.Spec PyProof.Rows L2 Sm
abbrev prD (p : Str × Str) : Dt := .tup [.str p.1, .str p.2]
def nms (rows : List (Str × List Str)) (gone : List Str) : List Str := (folk rows).filter fun x => !decide (x ∈ gone)
def near (rows : List (Str × List Str)) (gone : List Str) (a : Str) : List Str := (suited rows a).filter fun x => !decide (x ∈ gone)
def prs (rows : List (Str × List Str)) (gone : List Str) : List (Str × Str) := (nms rows gone).flatMap fun a => ((near rows gone a).filter (ltS a)).map fun b => (a, b)
abbrev nearO (rows : List (Str × List Str)) (gone : List Str) : Dt := .dct (kS (nms rows gone)) ((nms rows gone).map fun x => tupS (near rows gone x))
def insW (n : Nat) (rows : List (Str × List Str)) (gone : List Str) : Bo := .ins 1 [some (.loc (n + 2)), some (.d (tupS (nms rows gone))), some (.d (nearO rows gone)), some (.d (.lst ((prs rows gone).map prD)))]
theorem st0 {S0 : Sto} {x x' : Bo} {r : List Bo} : (S0 ++ x :: r).set S0.length x' = S0 ++ x' :: r := by
  rw [List.set_append_right _ _ (Nat.le_refl _), Nat.sub_self]
  rfl
section
variable {S0 : Sto} {t g : Dt} {rows : List (Str × List Str)} {emps gone : List Str}
end
end Hn
/-! Hs4: most: what it computes, with what it keeps. -/
namespace Hn
open PySem PySem.Spec PyProof.Rows L2 Sm
/-- as many as there can be, by trying -/
def mostF (nr : Str → List Str) : Nat → List Str → Int
  | 0, _ => 0
  | _ + 1, [] => 0
  | n + 1, a :: rest => maxI (mostF nr n rest :: ((nr a).filter fun o => decide (o ∈ rest)).map fun o => 1 + mostF nr n (rest.filter fun y => !decide (y = o)))
abbrev less (rest : List Str) (o : Str) : List Str := rest.filter fun y => !decide (y = o)
def mostV (nr : Str → List Str) (l : List Str) : Int := mostF nr l.length l
/-- so many entries at the most -/
def tk (K : Nat) : Nat → Nat
  | 0 => 0
  | 1 => 0
  | n + 2 => 1 + tk K (n + 1) + K * tk K n
abbrev kL (l : List Str) : List Key := l.map Sum.inr
section
variable {v : List Str → Dv} {es : List (List Str)} {l : List Str}
end
section
variable {S : Sto} {n : Nat} {rows : List (Str × List Str)} {gone : List Str} {K : Nat}
abbrev vL (rows : List (Str × List Str)) (gone : List Str) (l : List Str) : Dv := .d (.int (mostV (near rows gone) l))
abbrev dcW (rows : List (Str × List Str)) (gone : List Str) (es : List (List Str)) : Bo := .dcT (es.map kL) (es.map (vL rows gone))
/-- S, but for what is known -/
def StW (S : Sto) (n : Nat) (rows : List (Str × List Str)) (gone : List Str) (es : List (List Str)) : Sto := S.set (n + 2) (dcW rows gone es)
/-- a Swapping stands at n -/
structure Bs (S : Sto) (n : Nat) (rows : List (Str × List Str)) (gone : List Str) : Prop where
  i0 : S[n]? = some (insW n rows gone)
  i2 : n + 2 < S.length
theorem Bs.a0 (B : Bs S n rows gone) {es : List (List Str)} : (StW S n rows gone es)[n]? = some (insW n rows gone) := by
  unfold StW
  rw [List.getElem?_set_ne (by omega)]
  exact B.i0
theorem Bs.a2 (B : Bs S n rows gone) {es : List (List Str)} : (StW S n rows gone es)[n + 2]? = some (dcW rows gone es) := List.getElem?_set_self B.i2
theorem intsOf_map : ∀ l : List Int, intsOf (l.map .int) = some l
  | [] => rfl
  | a :: l => by
    show (intsOf (l.map .int)).map (a :: ·) = _
    rw [intsOf_map l]
    rfl
end
end Hn
/-! Hs5: sets of pairs without a common name: the greatest, by going through the names. -/
namespace Hn
open PySem PySem.Spec PyProof.Rows L2 Sm
/-- two pairs without a common name -/
def Dj (p q : Str × Str) : Prop := p.1 ≠ q.1 ∧ p.1 ≠ q.2 ∧ p.2 ≠ q.1 ∧ p.2 ≠ q.2
theorem Dj.symm {p q : Str × Str} (h : Dj p q) : Dj q p := ⟨fun z => h.1 z.symm, fun z => h.2.2.1 z.symm, fun z => h.2.1 z.symm, fun z => h.2.2.2 z.symm⟩
structure Mt (P : List (Str × Str)) (left : List Str) (m : List (Str × Str)) : Prop where
  pw : m.Pairwise Dj
  all : ∀ p ∈ m, p ∈ P ∧ p.1 ∈ left ∧ p.2 ∈ left
section
variable {P : List (Str × Str)} {nr : Str → List Str} {names : List Str}
/-- who suits whom, by pairs and by rows -/
structure Fit (P : List (Str × Str)) (nr : Str → List Str) (names : List Str) : Prop where
  ne : ∀ p ∈ P, p.1 ≠ p.2
  iff : ∀ a ∈ names, ∀ o ∈ names, a ≠ o → (o ∈ nr a ↔ ((a, o) ∈ P ∨ (o, a) ∈ P))
/-- all lists of pairs of P, in its order, without a common name -/
def tch (p q : Str × Str) : Bool := decide (q.1 ∈ [p.1, p.2]) || decide (q.2 ∈ [p.1, p.2])
def free (p : Str × Str) (m : List (Str × Str)) : Bool := (m.filter (tch p)).isEmpty
def stepM (found : List (List (Str × Str))) (p : Str × Str) : List (List (Str × Str)) := found ++ (found.filter (free p)).map fun m => m ++ [p]
def allM (P : List (Str × Str)) : List (List (Str × Str)) := P.foldl stepM [[]]
end
end Hn
/-! Hs6: the law's own trying of all sets of pairs. -/
namespace Hn
open PySem PySem.Spec PyProof.Rows L2 Sm
def cnt (j : Nat) (L : List (List (Str × Str))) : Nat := (L.filter fun m => decide (m.length = j)).length
def ch : Nat → Nat → Nat
  | 0, 0 => 1
  | 0, _ + 1 => 0
  | _ + 1, 0 => 1
  | n + 1, j + 1 => ch n (j + 1) + ch n j
def okP (p : Str × Str) : Prop := PyData.strOk p.1 = true ∧ PyData.strOk p.2 = true
section
variable {P0 : Dt}
end
end Hn
/-! Hs7: the law's own look at a sheet: folk, wants, suits. -/
namespace Hn
open PySem PySem.Spec PyProof.Rows L2 Sm
section
variable {rows : List (Str × List Str)} {emps : List Str}
abbrev lstS (l : List Str) : Dt := .lst (l.map .str)
/-! sorted pairs -/
abbrev sB : SM := sSet 2 (m2 pAdd (mV 2) (mN pLst (mLcI [4] (iSeq (m2 pIx (mV 1) (mV 3))) (gN 4) (cAnd (mTst (m2 pLt (mV 3) (mV 4))) (cAnd (mTst (m2 pIn (mV 4) (mV 1))) (mTst (m2 pIn (mV 3) (m2 pIx (mV 1) (mV 4)))))) (mN pTup (aCons (mV 3) (aCons (mV 4) (aNil)))))))
end
end Hn
/-! Hs8: sheets of the laws, and what most tells of them. -/
namespace Hn
open PySem PySem.Spec PyProof.Rows L2 Sm
/-- all names that are drawn -/
def allN : List Str := ["a", "ann", "b", "bob", "c", "cat", "dan", "eve", "fay", "new", "old", "x", "zzzzzzzz"]
/-- a sheet of few households -/
structure Gs8 (rows : List (Str × List Str)) (emps : List Str) : Prop where
  nd : (folk rows ++ emps).Nodup
  ok : ∀ r ∈ rows, PyData.strOk r.1 = true ∧ ∀ x ∈ r.2, PyData.strOk x = true
  oke : ∀ x ∈ emps, PyData.strOk x = true
  wn : ∀ r ∈ rows, r.2.Nodup
  wl : ∀ r ∈ rows, r.2.length ≤ 11
  z : rows.length ≤ 8
  ze : emps.length ≤ 20
  af : Asc (folk rows)
  aw : ∀ r ∈ rows, Asc r.2
  ns : ∀ r ∈ rows, r.1 ∉ r.2
  nm : ∀ r ∈ rows, r.1 ∈ allN
theorem tps_strs' : ∀ l : List Str, tps (l.map .str) = l.map .str
  | [] => rfl
  | a :: l => by
    show Dt.str a :: tps (l.map .str) = _
    rw [tps_strs' l]
    rfl
theorem tps_rows' : ∀ l : List (Str × List Str), tps (l.map row) = l.map row
  | [] => rfl
  | a :: l => by
    show tp (row a) :: tps (l.map row) = _
    rw [tps_rows' l]
    show Dt.tup [.str a.1, .tup (tps (a.2.map .str))] :: _ = _
    rw [tps_strs']
    rfl
theorem tx_strs' {l : List Str} (h : ∀ s ∈ l, PyData.strOk s = true) (hz : l.length ≤ 1000) : Tx 1 (tupS l) :=
  .inr ⟨_, .inl rfl, by rw [List.length_map]; exact hz, fun x hx => by
    obtain ⟨s, hs, rfl⟩ := List.mem_map.mp hx
    exact ⟨s, h s hs, rfl⟩⟩
theorem Tx.ups {n m : Nat} {t : Dt} (h : Tx n t) (hm : n ≤ m) : Tx m t := by
  induction hm with
  | refl => exact h
  | step _ ih => exact ih.up
section
variable {rows : List (Str × List Str)} {emps gone : List Str}
theorem Gs8.tx (h : Gs8 rows emps) : Tx 4 (shD rows emps) := by
  have t1 : Tx 3 (tupS emps) := (tx_strs' h.oke (by have := h.ze; omega)).ups (by omega)
  have t2 : ∀ e ∈ rows, Tx 2 (row e) := fun e he => by
    obtain ⟨a, c⟩ := h.ok e he
    refine .inr ⟨_, .inl rfl, by show 2 ≤ 1000; omega, fun x hx => ?_⟩
    rcases List.mem_cons.mp hx with rfl | hx
    · exact .inl ⟨e.1, a, rfl⟩
    · rcases List.mem_cons.mp hx with rfl | hx
      · exact tx_strs' c (by have := h.wl e he; omega)
      · exact absurd hx List.not_mem_nil
  have t3 : Tx 3 (.tup (rows.map row)) := .inr ⟨_, .inl rfl, by rw [List.length_map]; have := h.z; omega, fun x hx => by
    obtain ⟨e, he, rfl⟩ := List.mem_map.mp hx
    exact t2 e he⟩
  exact .inr ⟨_, .inl rfl, by show 2 ≤ 1000; omega, fun x hx => by
    rcases List.mem_cons.mp hx with rfl | hx
    · exact t3
    · rcases List.mem_cons.mp hx with rfl | hx
      · exact t1
      · exact absurd hx List.not_mem_nil⟩
theorem Gs8.tp (h : Gs8 rows emps) : tp (shD rows emps) = shD rows emps := by
  show Dt.tup [.tup (tps (rows.map row)), .tup (tps (emps.map .str))] = _
  rw [tps_rows', tps_strs']
theorem Gs8.sd (h : Gs8 rows emps) : Sd (shD rows emps) rows emps := ⟨h.tx.ups (by omega), h.tp, h.nd, by have := h.z; omega, by have := h.ze; omega, fun r hr => by have := h.wl r hr; omega⟩
theorem Nm.tup {l : List Str} (h : ∀ s ∈ l, PyData.strOk s = true) (hz : l.length ≤ 1000) : Nm (tupS l) l := .of ((tx_strs' h hz).ups (by omega)) (by
  show Dt.tup (tps (l.map .str)) = _
  rw [tps_strs']) hz
theorem Nm.lst {l : List Str} (h : ∀ s ∈ l, PyData.strOk s = true) (hz : l.length ≤ 1000) : Nm (lstS l) l := .of ((show Tx 1 (lstS l) from .inr ⟨_, .inr rfl, by rw [List.length_map]; exact hz, fun x hx => by
    obtain ⟨s, hs, rfl⟩ := List.mem_map.mp hx
    exact ⟨s, h s hs, rfl⟩⟩).ups (by omega)) (by
  show Dt.tup (tps (l.map .str)) = _
  rw [tps_strs']) hz
theorem lt_tri {a b : Str} (h : a ≠ b) : ltS a b = true ∨ ltS b a = true := by
  by_cases h1 : a.cps.toList < b.cps.toList
  · exact .inl (decide_eq_true h1)
  · by_cases h2 : b.cps.toList < a.cps.toList
    · exact .inr (decide_eq_true h2)
    · refine absurd (leS_anti (a := a) (b := b) ?_ ?_) h
      · unfold leS
        simp [h2]
      · unfold leS
        simp [h1]
structure Best (P : List (Str × Str)) (k : Int) : Prop where
  top : (∀ m ∈ allM P, (m.length : Int) ≤ k) ∧ ∃ m ∈ allM P, (m.length : Int) = k
  len : (allM P).length ≤ 16777216
  ok : ∀ p ∈ P, okP p
  z : P.length ≤ 64
end
end Hn
/-! Ht1: more of Swapping: behind, firsts, least, open ones, partners. -/
namespace Hn
open PySem PySem.Spec PyProof.Rows L2 Sm
section
variable {S : Sto} {n : Nat} {rows : List (Str × List Str)} {emps gone : List Str}
/-- a sheet few enough, with its Swapping -/
structure Sw8 (rows : List (Str × List Str)) (gone : List Str) : Prop where
  wl : ∀ r ∈ rows, r.2.length ≤ 11
  z : rows.length ≤ 8
  ok : ∀ r ∈ rows, PyData.strOk r.1 = true
theorem Gs8.sw (h : Gs8 rows emps) : Sw8 rows gone := ⟨h.wl, h.z, fun r hr => (h.ok r hr).1⟩
end
end Hn
/-! Ht2: least, open ones, partners. -/
namespace Hn
open PySem PySem.Spec PyProof.Rows L2 Sm
section
variable {S : Sto} {n : Nat} {rows : List (Str × List Str)} {gone : List Str}
theorem Bs.app (B : Bs S n rows gone) (o : Bo) : Bs (S ++ [o]) n rows gone := ⟨by
  have := B.i2
  rw [List.getElem?_append_left (by omega)]
  exact B.i0, by
  have := B.i2
  rw [List.length_append]
  omega⟩
end
end Hn
/-! Ht3: the order of pairs and of lists of pairs. -/
namespace Hn
open PySem PySem.Spec PyProof.Rows L2 Sm
def ltQ (p q : Str × Str) : Bool := if p.1 = q.1 then ltS p.2 q.2 else ltS p.1 q.1
theorem ltS_asymm {a b : Str} (h : ltS a b = true) : ltS b a = false := by
  cases e : ltS b a with
  | false => rfl
  | true => exact absurd (of_decide_eq_true e) (List.lt_asymm (of_decide_eq_true h))
section
variable {rows : List (Str × List Str)} {gone : List Str}
end
end Hn
/-! Ht4: the least way is the least of all. -/
namespace Hn
open PySem PySem.Spec PyProof.Rows L2 Sm
section
variable {rows : List (Str × List Str)} {gone : List Str}
end
end Hn
/-! Hl1: sheets by pairs: linked. -/
namespace Hn
open PySem PySem.Spec PyProof.Rows L2 Sm
abbrev evens (a n : Nat) : List Dv := (List.range' a n).map fun i => .loc (2 * i)
/-- the table: its boxes by name -/
structure Tb (L : List Str) (adj : Str → List Str) (S : Sto) : Prop where
  d : S[2 * L.length + 1]? = some (.dct (kS L) (evens 0 L.length))
  b : ∀ i s, L[i]? = some s → S[2 * i]? = some (bx (adj s))
section
variable {L : List Str} {adj : Str → List Str} {S : Sto}
theorem Tb.ix (T : Tb L adj S) (nd : L.Nodup) {i : Nat} {s : Str} (h : L[i]? = some s) : pIx (.loc (2 * L.length + 1)) (.d (.str s)) S = some (.loc (2 * i), S) := by
  have e : dctAt S (.loc (2 * L.length + 1)) = some (kS L, evens 0 L.length) := by
    unfold dctAt
    simp only [T.d]
  have e2 := dlook_at (f := fun i => Dv.loc (2 * i)) (a := 0) nd h
  rw [Nat.zero_add] at e2
  unfold pIx
  simp only [e, show kOf (.d (.str s)) = some (.inr s) from rfl, e2]
theorem Tb.app (T : Tb L adj S) (nd : L.Nodup) {i : Nat} {s y : Str} (h : L[i]? = some s) (hz : (adj s).length < 1000) : isLs S (.loc (2 * i)) = true ∧ ∃ S', pAppend (.loc (2 * i)) [.d (.str y)] S = some (.d .non, S') ∧ Tb L (fun x => if x = s then adj x ++ [y] else adj x) S' := by
  have hb := T.b i s h
  have hi : i < L.length := (List.getElem?_eq_some_iff.mp h).1
  have l1 : lstAt S (.loc (2 * i)) = some ((adj s).map fun s => Dv.d (.str s)) := by
    unfold lstAt
    simp only [hb]
  refine ⟨by unfold isLs; rw [l1], S.set (2 * i) (.lst ((adj s).map (fun s => Dv.d (.str s)) ++ [.d (.str y)])), ?_, ?_, fun j t ht => ?_⟩
  · unfold pAppend
    simp only [hb]
    rw [if_pos (by rw [List.length_map]; omega)]
  · rw [List.getElem?_set_ne (by omega)]
    exact T.d
  · by_cases hj : j = i
    · subst hj
      rw [h] at ht
      cases ht
      rw [set_at hb, if_pos rfl]
      show some (Bo.lst _) = some (Bo.lst _)
      rw [List.map_append]
      rfl
    · have hne : ¬ t = s := fun z => by
        subst z
        exact hj ((List.getElem?_inj (List.getElem?_eq_some_iff.mp ht).1 nd).mp (ht.trans h.symm))
      rw [List.getElem?_set_ne (by omega), if_neg hne]
      exact T.b j t ht
/-- pairs put into the table -/
def addP (adj : Str → List Str) (p : Str × Str) : Str → List Str := fun x => if x = p.2 then (if x = p.1 then adj x ++ [p.2] else adj x) ++ [p.1] else if x = p.1 then adj x ++ [p.2] else adj x
def linkR (L : List Str) (ps : List (Str × Str)) : List (Str × List Str) := (sortS L).map fun x => (x, sortS (ps.foldl addP (fun _ => []) x))
/-- the line is a text, or a list of texts -/
structure Ln (line : Dt) (L : List Str) : Prop where
  any : anyOf (.d line) = some (L.map .str)
  srt : ∀ S : Sto, pSortedA [.d line] S = some (.d (.lst ((sortS L).map .str)), S)
end
end Hn
/-! Hl2: sheets by pairs are sheets; sorting by putting in. -/
namespace Hn
open PySem PySem.Spec PyProof.Rows L2 Sm
def putS (a : Str) : List Str → List Str
  | [] => [a]
  | b :: l => if leS a b = true then a :: b :: l else b :: putS a l
theorem Ln.lst {L : List Str} (hz : L.length ≤ 1000) : Ln (lstS L) L := ⟨rfl, fun S => by
  have e : srtOf S (.d (lstS L)) = some (L.map .str) := seqT_lst
  unfold pSortedA
  simp only [e]
  rw [if_pos (sortChk_strs hz), sort_strs]⟩
theorem Ln.str {z : Str} {L : List Str} (h : Sm.signs z = L.map .str) (hz : z.length ≤ 16777216) (hz2 : L.length ≤ 1000) : Ln (.str z) L := ⟨by
  show some (Sm.signs z) = _
  rw [h], fun S => by
  have e : srtOf S (.d (.str z)) = some (L.map .str) := by
    show (if z.length ≤ 16777216 then some (Sm.signs z) else none) = _
    rw [if_pos hz, h]
  unfold pSortedA
  simp only [e]
  rw [if_pos (sortChk_strs hz2), sort_strs]⟩
def oth (x : Str) (p : Str × Str) : Option Str := if x = p.1 then some p.2 else if x = p.2 then some p.1 else none
structure Pr (L : List Str) (ps : List (Str × Str)) : Prop where
  nd : L.Nodup
  ok : ∀ x ∈ L, PyData.strOk x = true
  nm : ∀ x ∈ L, x ∈ allN
  mem : ∀ p ∈ ps, p.1 ∈ L ∧ p.2 ∈ L ∧ p.1 ≠ p.2
  sep : ps.Pairwise fun p q => p ≠ q ∧ p ≠ (q.2, q.1)
  z : L.length ≤ 8
  z2 : ps.length ≤ 400
theorem adj_is (x : Str) : ∀ (ps : List (Str × Str)) (adj : Str → List Str), (∀ p ∈ ps, p.1 ≠ p.2) → ps.foldl addP adj x = adj x ++ ps.filterMap (oth x)
  | [], adj, _ => by simp
  | p :: ps, adj, h => by
    have ih := adj_is x ps (addP adj p) fun q hq => h q (List.mem_cons_of_mem _ hq)
    show ps.foldl addP (addP adj p) x = _
    rw [ih, List.filterMap_cons]
    have hne := h p List.mem_cons_self
    unfold oth addP
    by_cases h1 : x = p.1
    · have h2 : ¬ x = p.2 := fun z => hne (h1.symm.trans z)
      simp [h1, hne]
    · by_cases h2 : x = p.2
      · have h3 : ¬ p.2 = p.1 := fun z => hne z.symm
        simp [h2, h3]
      · simp [h1, h2]
theorem oth_some {x y : Str} {p : Str × Str} (h : oth x p = some y) : p = (x, y) ∨ p = (y, x) := by
  unfold oth at h
  split at h
  · rename_i e
    cases h
    exact .inl (by rw [e])
  · split at h
    · rename_i e
      cases h
      exact .inr (by rw [e])
    · cases h
section
variable {L : List Str} {ps : List (Str × Str)}
theorem Pr.adj_nodup (h : Pr L ps) (x : Str) : (ps.filterMap (oth x)).Nodup := by
  refine List.Pairwise.filterMap (oth x) (fun p q hpq y hy y' hy' e => ?_) h.sep
  subst e
  rcases oth_some hy with rfl | rfl <;> rcases oth_some hy' with rfl | rfl
  · exact hpq.1 rfl
  · exact hpq.2 rfl
  · exact hpq.2 rfl
  · exact hpq.1 rfl
theorem Pr.adj_sub (h : Pr L ps) {x y : Str} (hy : y ∈ ps.filterMap (oth x)) : y ∈ L := by
  obtain ⟨p, hp, e⟩ := List.mem_filterMap.mp hy
  obtain ⟨h1, h2, _⟩ := h.mem p hp
  rcases oth_some e with rfl | rfl
  · exact h2
  · exact h1
theorem Pr.gs (h : Pr L ps) : Gs8 (linkR L ps) [] := by
  have ef : folk (linkR L ps) = sortS L := by
    unfold linkR folk
    rw [List.map_map]
    exact List.map_id _
  have hr : ∀ r ∈ linkR L ps, r.1 ∈ L ∧ r.2 = sortS (ps.filterMap (oth r.1)) := fun r hr => by
    obtain ⟨x, hx, rfl⟩ := List.mem_map.mp hr
    refine ⟨(sortS_perm L).mem_iff.mp hx, ?_⟩
    show sortS (ps.foldl addP (fun _ => []) x) = _
    rw [adj_is x ps _ fun p hp => (h.mem p hp).2.2, List.nil_append]
  refine ⟨?_, fun r hr' => ?_, fun x hx => absurd hx List.not_mem_nil, fun r hr' => ?_, fun r hr' => ?_, ?_, Nat.zero_le _, by rw [ef]; exact asc_sort h.nd, fun r hr' => by rw [(hr r hr').2]; exact asc_sort (h.adj_nodup _), fun r hr' z => ?_, fun r hr' => h.nm _ (hr r hr').1⟩
  · rw [List.append_nil, ef]
    exact (sortS_perm L).nodup_iff.mpr h.nd
  · obtain ⟨h1, h2⟩ := hr r hr'
    refine ⟨h.ok _ h1, fun y hy => ?_⟩
    rw [h2] at hy
    exact h.ok _ (h.adj_sub ((sortS_perm _).mem_iff.mp hy))
  · rw [(hr r hr').2]
    exact (sortS_perm _).nodup_iff.mpr (h.adj_nodup _)
  · rw [(hr r hr').2, (sortS_perm _).length_eq]
    have := List.Nodup.length_le_of_subset (h.adj_nodup r.1) fun y hy => h.adj_sub hy
    have := h.z
    omega
  · unfold linkR
    rw [List.length_map, (sortS_perm L).length_eq]
    exact h.z
  · rw [(hr r hr').2] at z
    obtain ⟨p, hp, e⟩ := List.mem_filterMap.mp ((sortS_perm _).mem_iff.mp z)
    rcases oth_some e with rfl | rfl
    · exact (h.mem _ hp).2.2 rfl
    · exact (h.mem _ hp).2.2 rfl
end
end Hn
/-! Hl3: same, of all plain things. -/
namespace Hn
open PySem PySem.Spec PyProof.Rows L2 Sm
def Atm (t : Dt) : Prop := (∃ s, PyData.strOk s = true ∧ t = .str s) ∨ (∃ i : Int, t = .int i) ∨ (∃ b : Bool, t = .bl b) ∨ t = .non
/-- plain things in lists and tuples, of nesting at most n -/
def Ty : Nat → Dt → Prop
  | 0, t => Atm t
  | n + 1, t => Atm t ∨ ∃ xs, (t = .tup xs ∨ t = .lst xs) ∧ xs.length ≤ 1000 ∧ ∀ x ∈ xs, Ty n x
theorem Ty.up : ∀ {n : Nat} {t : Dt}, Ty n t → Ty (n + 1) t
  | 0, t, h => .inl h
  | n + 1, t, .inl h => .inl h
  | n + 1, t, .inr ⟨xs, h, hz, hx⟩ => .inr ⟨xs, h, hz, fun x m => (hx x m).up⟩
theorem Ty.ups {n m : Nat} {t : Dt} (h : Ty n t) (hm : n ≤ m) : Ty m t := by
  induction hm with
  | refl => exact h
  | step _ ih => exact ih.up
theorem same_atm : ∀ (n : Nat) (t : Dt) (S : Sto), Atm t → F__law_same (n + 1) [.d t, .d t] S = .ok (.d (.bl true)) S := fun n t S h => by
  refine iso_ok (ts := [t, t]) (S' := []) (runB_rt (ds := [.d t, .d t]) rfl ?_)
  show b__law_same (F__law_same n) [some (.d t), some (.d t), none, none] [] = _
  have t0 : ∀ (b : Bool) (S : Sto), pTru (.d (.bl b)) S = some b := fun _ _ => rfl
  rcases h with ⟨s, hs, rfl⟩ | ⟨i, rfl⟩ | ⟨b, rfl⟩ | rfl
  · have i1 : ∀ S : Sto, pIsa ["list", "tuple"] (.d (.str s)) S = some (.d (.bl false), S) := fun _ => rfl
    have i2 : ∀ S : Sto, pIsa ["bool", "str"] (.d (.str s)) S = some (.d (.bl true), S) := fun _ => rfl
    have i3 : ∀ S : Sto, pIsa ["bool"] (.d (.str s)) S = some (.d (.bl false), S) := fun _ => rfl
    have n1 : ∀ S : Sto, pIsN (.d (.str s)) (.d .non) S = some (.d (.bl false), S) := fun _ => rfl
    unfold b__law_same
    simp only [sSeq_s, sIf_s, mTru_s, m1_s, m2_s, mC_s, mV_s, List.getElem?_cons_zero, List.getElem?_cons_succ, bind_ok, i1, Sm.lift_some, t0, li_some, to_ok, Bool.false_eq_true, if_false, sNil_s, sqz_nx, cOr_s, mTst_s, n1, toB_s, i2, if_true, sRet_s, mAnd_s, pEq_str hs, i3, pEq_bl, sqz_rt]
  · have i1 : ∀ S : Sto, pIsa ["list", "tuple"] (.d (.int i)) S = some (.d (.bl false), S) := fun _ => rfl
    have i2 : ∀ S : Sto, pIsa ["bool", "str"] (.d (.int i)) S = some (.d (.bl false), S) := fun _ => rfl
    have i3 : ∀ S : Sto, pIsa ["bool"] (.d (.int i)) S = some (.d (.bl false), S) := fun _ => rfl
    have i4 : ∀ S : Sto, pIsa ["int"] (.d (.int i)) S = some (.d (.bl true), S) := fun _ => rfl
    have n1 : ∀ S : Sto, pIsN (.d (.int i)) (.d .non) S = some (.d (.bl false), S) := fun _ => rfl
    unfold b__law_same
    simp only [sSeq_s, sIf_s, mTru_s, m1_s, m2_s, mC_s, mV_s, List.getElem?_cons_zero, List.getElem?_cons_succ, bind_ok, i1, Sm.lift_some, t0, li_some, to_ok, Bool.false_eq_true, if_false, sNil_s, sqz_nx, cOr_s, mTst_s, n1, toB_s, i2, if_true, sRet_s, mAnd_s, mNot_s, pEq_int, i3, i4, Bool.not_false, sqz_rt]
  · have i1 : ∀ S : Sto, pIsa ["list", "tuple"] (.d (.bl b)) S = some (.d (.bl false), S) := fun _ => rfl
    have i2 : ∀ S : Sto, pIsa ["bool", "str"] (.d (.bl b)) S = some (.d (.bl true), S) := fun _ => rfl
    have i3 : ∀ S : Sto, pIsa ["bool"] (.d (.bl b)) S = some (.d (.bl true), S) := fun _ => rfl
    have n1 : ∀ S : Sto, pIsN (.d (.bl b)) (.d .non) S = some (.d (.bl false), S) := fun _ => rfl
    unfold b__law_same
    simp only [sSeq_s, sIf_s, mTru_s, m1_s, m2_s, mC_s, mV_s, List.getElem?_cons_zero, List.getElem?_cons_succ, bind_ok, i1, Sm.lift_some, t0, li_some, to_ok, Bool.false_eq_true, if_false, sNil_s, sqz_nx, cOr_s, mTst_s, n1, toB_s, i2, if_true, sRet_s, mAnd_s, i3, pEq_bl, sqz_rt]
  · have i1 : ∀ S : Sto, pIsa ["list", "tuple"] (.d .non) S = some (.d (.bl false), S) := fun _ => rfl
    have i3 : ∀ S : Sto, pIsa ["bool"] (.d .non) S = some (.d (.bl false), S) := fun _ => rfl
    have n1 : ∀ S : Sto, pIsN (.d .non) (.d .non) S = some (.d (.bl true), S) := fun _ => rfl
    have q1 : ∀ S : Sto, pEq (.d .non) (.d .non) S = some (.d (.bl true), S) := fun S => by
      have : eqDv S (.d .non) (.d .non) = some true := by
        show (if SeqAt.shaped .none = true ∧ SeqAt.shaped .none = true then some (PyData.eqv .none .none) else none) = _
        rw [if_pos ⟨rfl, rfl⟩]
        simp [PyData.eqv]
      unfold pEq
      rw [this]
    unfold b__law_same
    simp only [sSeq_s, sIf_s, mTru_s, m1_s, m2_s, mC_s, mV_s, List.getElem?_cons_zero, List.getElem?_cons_succ, bind_ok, i1, Sm.lift_some, t0, li_some, to_ok, Bool.false_eq_true, if_false, sNil_s, sqz_nx, cOr_s, mTst_s, n1, toB_s, if_true, sRet_s, mAnd_s, q1, i3, pEq_bl, sqz_rt]
theorem same_ty : ∀ (n : Nat) (t : Dt) (S : Sto), Ty n t → F__law_same (n + 1) [.d t, .d t] S = .ok (.d (.bl true)) S := by
  have seq : ∀ (n : Nat) (t : Dt) (xs : List Dt) (S : Sto), (t = .tup xs ∨ t = .lst xs) → xs.length ≤ 1000 → (∀ x ∈ xs, ∀ S, F__law_same n [.d x, .d x] S = .ok (.d (.bl true)) S) → F__law_same (n + 1) [.d t, .d t] S = .ok (.d (.bl true)) S := fun n t xs S ht hz hx => by
    refine iso_ok (ts := [t, t]) (S' := []) (runB_rt (ds := [.d t, .d t]) rfl ?_)
    show b__law_same (F__law_same n) [some (.d t), some (.d t), none, none] [] = _
    obtain ⟨b1, l1⟩ := isa_l (S := []) ht
    obtain ⟨b2, l2⟩ := isa_t (S := []) ht
    have i1 := isa_seq (S := []) ht
    have hl := len_seq (S := []) ht
    have t0 : ∀ (b : Bool) (S : Sto), pTru (.d (.bl b)) S = some b := fun _ _ => rfl
    have hzip : zp2 [.d t, .d t] = some (zpL xs xs) := by rcases ht with rfl | rfl <;> rfl
    have hzl : (zpL xs xs).length ≤ 16777216 := by
      rw [zpL_length]
      omega
    have c1 : mLcI [2, 3] (iRg zp2 (aCons (mV 0) (aCons (mV 1) (aNil)))) (gT (gsCons (gN 2) (gsCons (gN 3) (gsNil)))) (cYes) (mF (F__law_same n) (aCons (mV 2) (aCons (mV 3) (aNil)))) [some (.d t), some (.d t), none, none] [] = .ok (xs.map fun _ => Dv.d (.bl true)) [] := by
      rw [mLcI_s, iRg_ok (ds := [.d t, .d t]) (S1 := []) (by simp only [aCons_s, mV_s, aNil_s, List.getElem?_cons_zero, List.getElem?_cons_succ, bind_ok]) hzip, bind_ok, if_pos hzl]
      exact zip_loop xs hx []
    have p1 : pLst (xs.map fun _ => Dv.d (.bl true)) [] = some (.d (.lst (xs.map fun _ => .bl true)), []) := by
      have e : (xs.map fun _ => Dv.d (.bl true)) = (xs.map fun _ => Dt.bl true).map Dv.d := by
        rw [List.map_map]
        rfl
      rw [e]
      exact pLst_d (by rw [List.length_map]; omega)
    unfold b__law_same
    simp only [sSeq_s, sIf_s, mTru_s, m1_s, m2_s, mN_s, mC_s, mV_s, aCons_s, aNil_s, List.getElem?_cons_zero, List.getElem?_cons_succ, bind_ok, i1, Sm.lift_some, t0, li_some, to_ok, if_true, cOr_s, mTst_s, l1, l2, pNe_bl, toB_s, Bool.false_eq_true, if_false, sNil_s, sqz_nx, sRet_s, mAnd_s, hl, pEq_int, c1, p1, all_true, sqz_rt]
  intro n
  induction n with
  | zero => exact fun t S h => same_atm 0 t S h
  | succ n ih =>
    intro t S h
    rcases h with h | ⟨xs, ht, hz, hx⟩
    · exact same_atm (n + 1) t S h
    · exact seq (n + 1) t xs S ht hz fun x m S => ih x S (hx x m)
end Hn
/-! Hu1: the law's own best. -/
namespace Hn
open PySem PySem.Spec PyProof.Rows L2 Sm
section
variable {rows : List (Str × List Str)} {emps gone : List Str}
end
end Hn
/-! Hu2: sheets by hand, and what is asked of plain things. -/
namespace Hn
open PySem PySem.Spec PyProof.Rows L2 Sm
theorem app_now {mo : M Dv} {ma : M (List Dv)} {ρ : Sm.Env} {S : Sto} {n : Nat} {xs : List Dv} {d : Dv} (h1 : mo ρ S = .ok (.loc n) S) (h2 : ma ρ S = .ok [d] S) (h3 : S[n]? = some (.lst xs)) (h4 : xs.length < 16777216) : sDrop (mLm pAppend mo ma) ρ S = .nx ρ (S.set n (.lst (xs ++ [d]))) := by
  have e1 : isLs S (.loc n) = true := by
    unfold isLs lstAt
    simp only [h3]
  have e2 : pAppend (.loc n) [d] S = some (.d .non, S.set n (.lst (xs ++ [d]))) := by
    unfold pAppend
    simp only [h3]
    rw [if_pos h4]
  rw [sDrop_s, mLm_s, h1, bind_ok, if_pos e1, h2, bind_ok, e2, Sm.lift_some, to_ok]
theorem pt1 {a : Dt} {S : Sto} : pTup [.d a] S = some (.d (.tup [a]), S) := rfl
theorem pt2 {a b : Dt} {S : Sto} : pTup [.d a, .d b] S = some (.d (.tup [a, b]), S) := rfl
end Hn
/-! Hv1: open ones, partners; comprehensions that go on knowing. -/
namespace Hn
open PySem PySem.Spec PyProof.Rows L2 Sm
section
variable {S : Sto} {n : Nat} {rows : List (Str × List Str)} {emps gone : List Str}
end
end Hn
/-! Hv2: plain things compared with []; who is moved; open ones by the law's own look. -/
namespace Hn
open PySem PySem.Spec PyProof.Rows L2 Sm
theorem atm_py {t : Dt} (h : Atm t) : ∃ d, toPy t = some d ∧ d.canLay0 = true ∧ d.depth = 0 := by
  rcases h with ⟨s, hs, rfl⟩ | ⟨i, rfl⟩ | ⟨b, rfl⟩ | rfl
  · exact ⟨.str s, rfl, by simp only [PyData.canLay0, hs], by simp only [PyData.depth]⟩
  · exact ⟨.int i, rfl, by simp only [PyData.canLay0], by simp only [PyData.depth]⟩
  · exact ⟨.bool b, rfl, by simp only [PyData.canLay0], by simp only [PyData.depth]⟩
  · exact ⟨.none, rfl, by simp only [PyData.canLay0], by simp only [PyData.depth]⟩
theorem py_all {n : Nat} (h : ∀ t, Ty n t → ∃ d, toPy t = some d ∧ d.canLay0 = true ∧ d.depth ≤ n) : ∀ ys : List Dt, (∀ y ∈ ys, Ty n y) → ∃ ds, toPys ys = some ds ∧ PyData.canLayAll0 ds = true ∧ PyData.depthAll ds ≤ n ∧ ds.length = ys.length
  | [], _ => ⟨[], rfl, by simp only [PyData.canLayAll0], by simp only [PyData.depthAll]; omega, rfl⟩
  | y :: ys, hy => by
    obtain ⟨d, e1, c1, p1⟩ := h y (hy y List.mem_cons_self)
    obtain ⟨ds, e2, c2, p2, l2⟩ := py_all h ys fun z hz => hy z (List.mem_cons_of_mem _ hz)
    refine ⟨d :: ds, ?_, by simp only [PyData.canLayAll0, c1, c2, Bool.and_self], ?_, by rw [List.length_cons, List.length_cons, l2]⟩
    · simp only [toPys, e1, e2]
    · simp only [PyData.depthAll]
      omega
theorem ty_py : ∀ (n : Nat) (t : Dt), Ty n t → ∃ d, toPy t = some d ∧ d.canLay0 = true ∧ d.depth ≤ n
  | 0, t, h => by
    obtain ⟨d, a, b, c⟩ := atm_py h
    exact ⟨d, a, b, by omega⟩
  | n + 1, t, h => by
    rcases h with h | ⟨xs, ht, hz, hx⟩
    · obtain ⟨d, a, b, c⟩ := atm_py h
      exact ⟨d, a, b, by omega⟩
    · obtain ⟨ds, e, c, p, _⟩ := py_all (ty_py n) xs hx
      rcases ht with rfl | rfl
      · refine ⟨.tuple ds, ?_, by simp only [PyData.canLay0, c], ?_⟩
        · show (toPys xs).map PyData.tuple = _
          rw [e]
          rfl
        · simp only [PyData.depth]
          omega
      · refine ⟨.list ds, ?_, by simp only [PyData.canLay0, c], ?_⟩
        · show (toPys xs).map PyData.list = _
          rw [e]
          rfl
        · simp only [PyData.depth]
          omega
theorem eq_nil_ty {n : Nat} {xs : List Dt} (h : ∀ x ∈ xs, Ty n x) (hn : n ≤ 60) (S : Sto) : eqDv S (.d (.lst xs)) (.d (.lst [])) = some xs.isEmpty := by
  obtain ⟨ds, e, c, p, hl⟩ := py_all (ty_py n) xs h
  have e1 : toPy (.lst xs) = some (.list ds) := by
    show (toPys xs).map PyData.list = _
    rw [e]
    rfl
  have s1 : SeqAt.shaped (.list ds) = true := by
    have d1 : PyData.depth (.list ds) ≤ n + 1 := by
      simp only [PyData.depth]
      exact Nat.succ_le_succ p
    unfold SeqAt.shaped
    simp only [PyData.canLay0, c, Bool.true_and, decide_eq_true_eq]
    omega
  show (match toPy (.lst xs), toPy (.lst []) with
    | some x, some y => if SeqAt.shaped x = true ∧ SeqAt.shaped y = true then some (PyData.eqv x y) else none
    | _, _ => none) = _
  rw [e1]
  show (if SeqAt.shaped (.list ds) = true ∧ SeqAt.shaped (.list []) = true then some (PyData.eqv (.list ds) (.list [])) else none) = _
  rw [if_pos ⟨s1, by decide +kernel⟩]
  cases xs with
  | nil =>
    have : ds = [] := List.eq_nil_of_length_eq_zero hl
    subst this
    simp [PyData.eqv, PyData.eqvAll]
  | cons x xs =>
    cases ds with
    | nil => simp at hl
    | cons d ds => simp [PyData.eqv, PyData.eqvAll]
theorem ne_nil {n : Nat} {xs : List Dt} (h : ∀ x ∈ xs, Ty n x) (hn : n ≤ 60) (S : Sto) : pNe (.d (.lst xs)) (.d (.lst [])) S = some (.d (.bl (!xs.isEmpty)), S) := by
  unfold pNe
  rw [eq_nil_ty h hn]
theorem eq_nil' {n : Nat} {xs : List Dt} (h : ∀ x ∈ xs, Ty n x) (hn : n ≤ 60) (S : Sto) : pEq (.d (.lst xs)) (.d (.lst [])) S = some (.d (.bl xs.isEmpty), S) := by
  unfold pEq
  rw [eq_nil_ty h hn]
section
variable {rows : List (Str × List Str)} {gone : List Str}
end
end Hn
/-! Hx0: how many ways there are: at most 764. -/
namespace Hn
open PySem PySem.Spec PyProof.Rows L2 Sm
theorem sum_le {κ : Type} (g : κ → Nat) (b : Nat) : ∀ C : List κ, (∀ c ∈ C, g c ≤ b) → (C.map g).sum ≤ C.length * b
  | [], _ => Nat.zero_le _
  | c :: C, h => by
    have := sum_le g b C fun d hd => h d (List.mem_cons_of_mem _ hd)
    have h1 := h c List.mem_cons_self
    rw [List.map_cons, List.sum_cons, List.length_cons, Nat.succ_mul]
    omega
/-- a way over V, in order -/
structure Wy (V : List Str) (m : List (Str × Str)) : Prop where
  dj : m.Pairwise Dj
  ri : m.Pairwise fun a b => ltQ a b = true
  all : ∀ p ∈ m, p.1 ∈ V ∧ p.2 ∈ V ∧ ltS p.1 p.2 = true
end Hn
/-! Hv3: the law's own best, with its order; who is met. -/
namespace Hn
open PySem PySem.Spec PyProof.Rows L2 Sm
section
variable {rows : List (Str × List Str)} {emps gone : List Str}
end
end Hn
/-! Hv4: with whom one swaps in some best choice. -/
namespace Hn
open PySem PySem.Spec PyProof.Rows L2 Sm
section
variable {rows : List (Str × List Str)} {emps gone : List Str}
abbrev two (rows : List (Str × List Str)) (gone : List Str) (a b : Str) : List Str := (nms rows gone).filter fun y => !decide (y ∈ [a, b])
end
end Hn
/-! Hb: the source of draws, and a law from its right half. -/
namespace Hn
open PySem PySem.Spec PyProof.Rows L2 Sm
theorem b2i_small (b : Bool) : -(2 ^ 64) < (if b then (1 : Int) else 0) ∧ (if b then (1 : Int) else 0) < 2 ^ 64 := by
  cases b <;> decide
theorem box_ok {c : Int} (hc0 : 0 ≤ c) (hc1 : c < 1000000000) {cs : List Int} {k : Nat} (hk : k < 100) {S : Sto} : ∃ o : Bo, runB 3 2 (boxM c) [.d (.lst (dI cs)), .d (.int (k : Int))] S = .ok (.loc S.length) (S ++ [o]) ∧ Urn o 1000000 := by
  have hcell : ∃ x : Int, mIf (mTst (m2 pLt (mV 1) (mN pLen (aCons (mV 0) (aNil))))) (m2 pIx (mV 0) (mV 1)) (mC (.int 0)) [some (.d (.lst (dI cs))), some (.d (.int (k : Int))), none] S = .ok (.d (.int x)) S := by
    have hl : pLen [.d (.lst (dI cs))] S = some (.d (.int ((dI cs).length : Int)), S) := by
      simp [pLen, dctAt, seqAt, lstAt]
    by_cases h : k < cs.length
    · refine ⟨cs[k], ?_⟩
      have hx : pIx (.d (.lst (dI cs))) (.d (.int (k : Int))) S = some (.d (.int cs[k]), S) := by
        have : atI ((dI cs).map Dv.d) (k : Int) = some (.d (.int cs[k])) := by
          rw [dI_d]
          exact atI_nat (dvI_get h)
        simp only [pIx, dctAt, seqAt, lstAt, this]
      have hc : pLt (.d (.int (k : Int))) (.d (.int ((dI cs).length : Int))) S = some (.d (.bl true), S) := by
        unfold pLt pCmp dI
        simp [h]
      simp only [mIf_s, mTst_s, m2_s, mN_s, mV_s, aCons_s, aNil_s, List.getElem?_cons_zero, List.getElem?_cons_succ, bind_ok, hl, Sm.lift_some, hc, toB_s, li_some, if_true, hx]
    · refine ⟨0, ?_⟩
      have hc : pLt (.d (.int (k : Int))) (.d (.int ((dI cs).length : Int))) S = some (.d (.bl false), S) := by
        unfold pLt pCmp dI
        simp [h]
      simp only [mIf_s, mTst_s, m2_s, mN_s, mV_s, mC_s, aCons_s, aNil_s, List.getElem?_cons_zero, List.getElem?_cons_succ, bind_ok, hl, Sm.lift_some, hc, toB_s, li_some]
      rfl
  obtain ⟨x, hx⟩ := hcell
  have e1 : mulOk (if x < 0 then -x else x) (if decide (10 ^ 18 ≤ (if x < 0 then -x else x)) = true then 1 else 0) = true := small_mul (b2i_small _)
  have e2 : mulOk 39373 (k : Int) = true := small_mul (by omega)
  have h0 : 0 ≤ x % 2305843009213693951 := Int.emod_nonneg _ (by omega)
  have h1 : x % 2305843009213693951 < 2305843009213693951 := Int.emod_lt_of_pos _ (by omega)
  refine ⟨.lst [.d (.int ((if x < 0 then -x else x) * (if decide (10 ^ 18 ≤ (if x < 0 then -x else x)) = true then 1 else 0))), .d (.int (x % 2305843009213693951 + 39373 * k + c)), .d (.int 0)], ?_, _, _, 0, rfl, ?_, by omega, by omega, by omega, by omega⟩
  · refine runB_rt (ds := [.d (.lst (dI cs)), .d (.int (k : Int))]) rfl ?_
    show boxM c [some (.d (.lst (dI cs))), some (.d (.int (k : Int))), none] S = _
    unfold boxM
    rw [sSeq_s, sSet_s, hx, to_ok, sqz_nx]
    have hp : pPow (.d (.int 10)) (.d (.int 18)) S = some (.d (.int (10 ^ 18)), S) := by
      have hd : decide (0 ≤ (18 : Int) ∧ (18 : Int) ≤ 1000000 ∧ (10 : Int).natAbs < 2 ^ 64) = true := by decide
      show (if decide (0 ≤ (18 : Int) ∧ (18 : Int) ≤ 1000000 ∧ (10 : Int).natAbs < 2 ^ 64) = true then some (Dv.d (.int (10 ^ (18 : Int).toNat)), S) else none) = _
      rw [if_pos hd]
      rfl
    have ha : pAbs [.d (.int x)] S = some (.d (.int (if x < 0 then -x else x)), S) := rfl
    generalize hy : (if x < 0 then -x else x) = y at *
    have hg : pGe (.d (.int y)) (.d (.int (10 ^ 18))) S = some (.d (.bl (decide (10 ^ 18 ≤ y))), S) := rfl
    have hi : pInt [.d (.bl (decide (10 ^ 18 ≤ y)))] S = some (.d (.int (if decide (10 ^ 18 ≤ y) = true then 1 else 0)), S) := rfl
    have hm1 : pMul (.d (.int y)) (.d (.int (if decide (10 ^ 18 ≤ y) = true then 1 else 0))) S = some (.d (.int (y * (if decide (10 ^ 18 ≤ y) = true then 1 else 0))), S) := if_pos e1
    have hm2 : pMul (.d (.int 39373)) (.d (.int (k : Int))) S = some (.d (.int (39373 * k)), S) := show (if mulOk 39373 (k : Int) = true then some (Dv.d (Dt.int (39373 * k)), S) else none) = _ from if_pos e2
    have hii : pInt [.d (.int x)] S = some (.d (.int x), S) := rfl
    have hmd : pMod (.d (.int x)) (.d (.int 2305843009213693951)) S = some (.d (.int (x % 2305843009213693951)), S) := show (if (0 : Int) < 2305843009213693951 then some (Dv.d (Dt.int (x % 2305843009213693951)), S) else none) = _ from if_pos (by omega)
    have ha1 : ∀ i j : Int, pAdd (.d (.int i)) (.d (.int j)) S = some (.d (.int (i + j)), S) := fun _ _ => rfl
    have hB : ∀ a b c : Dv, pLstB [a, b, c] S = some (.loc S.length, S ++ [.lst [a, b, c]]) := fun a b c => if_pos (show 3 ≤ 16777216 by omega)
    have hset : ([some (Dv.d (.lst (dI cs))), some (Dv.d (.int (k : Int))), none] : Sm.Env).set 2 (some (.d (.int x))) = [some (Dv.d (.lst (dI cs))), some (Dv.d (.int (k : Int))), some (.d (.int x))] := rfl
    rw [hset]
    simp only [sRet_s, mN_s, m2_s, mC_s, aCons_s, mV_s, aNil_s, List.getElem?_cons_zero, List.getElem?_cons_succ, bind_ok, ha, Sm.lift_some, hp, hg, hi, hm1, hm2, hii, hmd, ha1, hB, to_ok]
  · refine Int.mul_nonneg (by split <;> omega) (by split <;> omega)
end Hn
/-! Hx1: walking on from statement to statement; by hand, by the kernel; the turns of a law. -/
namespace Hn
open PySem PySem.Spec PyProof.Rows L2 Sm
theorem wipe0 {ρ : Sm.Env} : wipeE ρ [] = ρ := rfl
theorem wipe1 {ρ : Sm.Env} {v : Nat} {vs : List Nat} : wipeE ρ (v :: vs) = (wipeE ρ vs).set v none := rfl
theorem setA0 {ρ : Sm.Env} : setAll [] [] ρ = ρ := rfl
theorem setA1 {ρ : Sm.Env} {i : Nat} {is : List Nat} {d : Dv} {ds : List Dv} : setAll (i :: is) (d :: ds) ρ = setAll is ds (ρ.set i (some d)) := rfl
def okT (r : Rz Dv) : Bool := match r with
  | .ok (.d (.bl b)) _ => b
  | _ => false
/-- a check without arguments that the kernel has run -/
theorem hand_of {F : FM} (h : okT (iso F [] []) = true) (S : Sto) : iso F [] S = .ok (.d (.bl true)) S := by
  have e : ∀ S, iso F [] S = (match F [] [] with
      | .ok (.d t) _ => Rz.ok (Dv.d t) S
      | .er c t _ => .er c t S
      | _ => .bad) := fun S => rfl
  rw [e] at h ⊢
  cases hF : F [] [] with
  | ok d S1 =>
    rw [hF] at h
    cases d with
    | d t =>
      cases t with
      | bl b =>
        have : b = true := h
        subst this
        rfl
      | _ => cases h
    | loc n => cases h
  | er c t S1 =>
    rw [hF] at h
    cases h
  | bad =>
    rw [hF] at h
    cases h
/-- what a statement leads to -/
def Wq (Q : Sz → Prop) (r : Sz) : Prop := Q r
section
variable {Q : Sz → Prop} {a b c : SM} {ρ ρ1 ρ2 : Sm.Env} {S S1 S2 : Sto} {r : Sz} {g : GM} {it : M (List Dt)} {ts : List Dt} {ζ : Type}
theorem Wq.seq (h : a ρ S = .nx ρ1 S1) (k : Wq Q (b ρ1 S1)) : Wq Q (sSeq a b ρ S) := by
  unfold Wq at *
  rw [sSeq_s, h, sqz_nx]
  exact k
theorem Wq.one (h : a ρ S = r) (k : Q r) : Wq Q (a ρ S) := by
  unfold Wq
  rw [h]
  exact k
theorem st_set {i : Nat} {m : M Dv} {d : Dv} (h : m ρ S = .ok d S1) : sSet i m ρ S = .nx (ρ.set i (some d)) S1 := by
  rw [sSet_s, h, to_ok]
theorem st_ret {m : M Dv} {d : Dv} (h : m ρ S = .ok d S1) : sRet m ρ S = .rt d S1 := by
  rw [sRet_s, h, to_ok]
theorem st_pars {is : List Nat} {m : M (List Dv)} {ds : List Dv} (h : m ρ S = .ok ds S1) (hl : ds.length = is.length) : sPars is m ρ S = .nx (setAll is ds ρ) S1 := by
  show (m ρ S).to ρ _ = _
  rw [h, to_ok, if_pos hl]
theorem st_if_t {k : M Bool} (h : k ρ S = .ok true S1) (e : a ρ S1 = r) : sIf k a b ρ S = r := by
  rw [sIf_s, h, to_ok, if_pos rfl, e]
theorem st_if_f {k : M Bool} (h : k ρ S = .ok false S1) (e : b ρ S1 = r) : sIf k a b ρ S = r := by
  rw [sIf_s, h, to_ok, if_neg (by decide), e]
theorem ex_m2 {p : P2} {x y : M Dv} {d e r : Dv} {S3 : Sto} (hx : x ρ S = .ok d S1) (hy : y ρ S1 = .ok e S2) (hp : p d e S2 = some (r, S3)) : m2 p x y ρ S = .ok r S3 := by
  rw [m2_s, hx, bind_ok, hy, bind_ok, hp, Sm.lift_some]
theorem ex_mN {p : PN} {x : M (List Dv)} {ds : List Dv} {r : Dv} (hx : x ρ S = .ok ds S1) (hp : p ds S1 = some (r, S2)) : mN p x ρ S = .ok r S2 := by
  rw [mN_s, hx, bind_ok, hp, Sm.lift_some]
theorem ex_mF {F : FM} {x : M (List Dv)} {ds : List Dv} {r : Rz Dv} (hx : x ρ S = .ok ds S1) (hp : F ds S1 = r) : mF F x ρ S = r := by
  rw [mF_s, hx, bind_ok, hp]
theorem ex_a1 {x : M Dv} {d : Dv} (hx : x ρ S = .ok d S1) : aCons x aNil ρ S = .ok [d] S1 := by
  rw [aCons_s, hx, bind_ok, aNil_s, bind_ok]
theorem st_for (hi : it ρ S = .ok ts S1) (h : forL g b ts ρ S1 = r) : sFor it g b ρ S = r := by
  rw [sFor_s, hi, to_ok, h]
end
end Hn
/-! Hw1: a drawn sheet, in the other order: its steps. -/
namespace Hw
open PySem PySem.Spec PyProof.Rows L2 Sm Hn
abbrev eT (P1 P2 P5 : Dt) (L : List Str) (n : Nat) (folk emp : List Str) (st wd : Int) (z11 z12 z13 z14 : Option Dv) : Sm.Env :=
  [some (.loc 0), some (.d P1), some (.d P2), some (.d (.lst (L.map .str))), some (.d (.int (n : Int))), some (.d P5), some (.loc 1), some (.d (.lst (folk.map .str))), some (.d (.lst (emp.map .str))), some (.d (.int st)), some (.d (.int wd)), z11, z12, z13, z14, none, none, none]
def tAppA : SM := sDrop (mLm pAppend (m2 pIx (mV 6) (m2 pIx (mV 7) (mV 11))) (aCons (mV 13) (aNil)))
def tAppB : SM := sDrop (mLm pAppend (m2 pIx (mV 6) (mV 13)) (aCons (m2 pIx (mV 7) (mV 11)) (aNil)))
def tB : SM := sSeq (sSet 14 (mF F__law_take (aCons (mV 0) (aCons (mV 10) (aNil)))))
    (sSeq (sIf (cOr (mTst (m2 pEq (mV 14) (mC (.int 0)))) (cAnd (mTst (m2 pEq (mV 14) (mC (.int 1)))) (mTst (m2 pGt (mV 9) (mC (.int 0)))))) tAppA (sNil))
    (sIf (cOr (mTst (m2 pEq (mV 14) (mC (.int 0)))) (cAnd (mTst (m2 pEq (mV 14) (mC (.int 2)))) (mTst (m2 pGt (mV 9) (mC (.int 0)))))) tAppB (sNil)))
def tC : SM := sFor (iSeq (mSl pSl (mV 7) (oPt (m2 pAdd (mV 11) (mC (.int 1)))) (oNo))) (gN 13) tB
abbrev eR (P1 P2 P5 : Dt) (L : List Str) (n : Nat) (folk emp : List Str) (st wd : Int) (z11 z12 z13 z14 z16 z17 : Option Dv) : Sm.Env :=
  [some (.loc 0), some (.d P1), some (.d P2), some (.d (.lst (L.map .str))), some (.d (.int (n : Int))), some (.d P5), some (.loc 1), some (.d (.lst (folk.map .str))), some (.d (.lst (emp.map .str))), some (.d (.int st)), some (.d (.int wd)), z11, z12, z13, z14, none, z16, z17]
section
variable {P1 P2 P5 : Dt} {L : List Str} {n : Nat} {folk emp : List Str} {st wd : Int} {z11 z12 z13 z14 z16 z17 : Option Dv}
end
end Hw
/-! Hw2: a drawn sheet, in the other order. -/
namespace Hw
open PySem PySem.Spec PyProof.Rows L2 Sm Hn
end Hw
/-! Hw3: a woven sheet. -/
namespace Hw
open PySem PySem.Spec PyProof.Rows L2 Sm Hn
section
variable {ln : List Str} {wd : Int}
abbrev eW (ln : List Str) (wd : Int) (ps : List (Str × Str)) (z4 z5 : Option Dv) : Sm.Env := [some (.loc 0), some (.d (lstS ln)), some (.d (.int wd)), some (.d (.lst (ps.map prD))), z4, z5]
/-- the pairs so far -/
structure Wv (ln : List Str) (k : Nat) (ps : List (Str × Str)) : Prop where
  nd : ps.Nodup
  mem : ∀ p ∈ ps, p.1 ∈ ln.take k ∧ p.2 ∈ ln ∧ ltS p.1 p.2 = true
  z : ps.length ≤ 8 * k
end
end Hw
/-! Hx2: what most turns of the swaps family need. -/
namespace Hn
open PySem PySem.Spec PyProof.Rows L2 Sm
section
variable {rows : List (Str × List Str)} {emps : List Str}
theorem mem_ddS {l : List Str} {x : Str} : x ∈ ddS l ↔ x ∈ l := ddS_mem
theorem setSorted {l : List Str} {S : Sto} (h : l.length ≤ 4000) : pSortSet (.d (lstS l)) S = some (.d (lstS (sortS (ddS l))), S) := by
  have e : (itemsOf S (.d (lstS l))).bind strsOf = some l := by
    have e1 : itemsOf S (.d (lstS l)) = some (l.map Dt.str) := pures_d _
    rw [e1, Option.bind_some, strsOf_map]
  unfold pSortSet
  rw [e]
  simp only
  rw [if_pos h]
theorem ty_names {l : List Str} (h : ∀ x ∈ l, PyData.strOk x = true) (hz : l.length ≤ 1000) : Ty 1 (tupS l) := .inr ⟨_, .inl rfl, by rw [List.length_map]; exact hz, fun x hx => by
  obtain ⟨s, hs, rfl⟩ := List.mem_map.mp hx
  exact .inl ⟨s, h s hs, rfl⟩⟩
end
end Hn
/-! Hx3: == and in on things without bools. -/
namespace Hn
open PySem PySem.Spec PyProof.Rows L2 Sm
def Atz (t : Dt) : Prop := (∃ s, PyData.strOk s = true ∧ t = .str s) ∨ (∃ i : Int, t = .int i) ∨ t = .non
/-- texts, ints, None, in lists and tuples of nesting at most n -/
def Tz : Nat → Dt → Prop
  | 0, t => Atz t
  | n + 1, t => Atz t ∨ ∃ xs, (t = .tup xs ∨ t = .lst xs) ∧ ∀ x ∈ xs, Tz n x
theorem Tz.up : ∀ {n : Nat} {t : Dt}, Tz n t → Tz (n + 1) t
  | 0, t, h => .inl h
  | n + 1, t, h => h.imp id fun ⟨xs, a, b⟩ => ⟨xs, a, fun x hx => (b x hx).up⟩
theorem Tz.ups {n m : Nat} {t : Dt} (h : Tz n t) (hm : n ≤ m) : Tz m t := by
  induction hm with
  | refl => exact h
  | step _ ih => exact ih.up
theorem Tz.at {n : Nat} {t : Dt} (h : Tz n t) : Atz t ∨ ∃ k xs, n = k + 1 ∧ (t = .tup xs ∨ t = .lst xs) ∧ ∀ x ∈ xs, Tz k x := by
  cases n with
  | zero => exact .inl h
  | succ n => exact h.imp id fun ⟨xs, a, b⟩ => ⟨n, xs, rfl, a, b⟩
theorem Tz.str {s : Str} (h : PyData.strOk s = true) : Tz 0 (.str s) := .inl ⟨s, h, rfl⟩
theorem Tz.int (i : Int) : Tz 0 (.int i) := .inr (.inl ⟨i, rfl⟩)
theorem Tz.non : Tz 0 .non := .inr (.inr rfl)
theorem Tz.tup {n : Nat} {xs : List Dt} (h : ∀ x ∈ xs, Tz n x) : Tz (n + 1) (.tup xs) := .inr ⟨xs, .inl rfl, h⟩
theorem Tz.lst {n : Nat} {xs : List Dt} (h : ∀ x ∈ xs, Tz n x) : Tz (n + 1) (.lst xs) := .inr ⟨xs, .inr rfl, h⟩
theorem Tz.pr {p : Str × Str} (h : okP p) : Tz 1 (prD p) := .tup fun x hx => by
  simp only [List.mem_cons, List.not_mem_nil, or_false] at hx
  rcases hx with rfl | rfl
  · exact .str h.1
  · exact .str h.2
theorem Tz.names {l : List Str} (h : ∀ x ∈ l, PyData.strOk x = true) : Tz 1 (tupS l) := .tup fun x hx => by
  obtain ⟨s, hs, rfl⟩ := List.mem_map.mp hx
  exact .str (h s hs)
end Hn
/-! Hx4: fresh lists, snapshots. -/
namespace Hn
open PySem PySem.Spec PyProof.Rows L2 Sm
section
variable {F : FM} {ts xs : List Dt} {S S1 : Sto} {n : Nat}
end
end Hn
namespace Hn
open PySem PySem.Spec PyProof.Rows L2 Sm
/-- the turns of a law that leave boxes behind -/
theorem turns_ofJ {c k : Nat} {body : SM} (ht : ∀ (z : List (Option Dv)) (o : Bo) (J : Sto) (m : Nat), z.length = k → Urn o (c + m) → ∃ o', Urn o' m ∧ Wq (fun w => ∃ z' J', z'.length = k ∧ w = .nx (some (.loc 0) :: z') (o' :: J')) (body (some (.loc 0) :: z) (o :: J))) : ∀ (ts : List Dt) (z : List (Option Dv)) (o : Bo) (J : Sto) (m : Nat), z.length = k → Urn o (c * ts.length + m) → ∃ (z' : List (Option Dv)) (o' : Bo) (J' : Sto), z'.length = k ∧ Urn o' m ∧ forL (gN 1) body ts (some (.loc 0) :: z) (o :: J) = .nx (some (.loc 0) :: z') (o' :: J')
  | [], z, o, J, m, hz, u => ⟨z, o, J, hz, u.less (by omega), rfl⟩
  | t :: ts, z, o, J, m, hz, u => by
    have hm : c * (t :: ts).length = c + c * ts.length := by
      rw [List.length_cons, Nat.mul_add, Nat.mul_one, Nat.add_comm]
    obtain ⟨o1, u1, z1, J1, hz1, e1⟩ := ht (z.set 0 (some (.d t))) o J (c * ts.length + m) (by rw [List.length_set]; exact hz) (u.less (by omega))
    obtain ⟨z2, o2, J2, hz2, u2, e2⟩ := turns_ofJ ht ts z1 o1 J1 m hz1 u1
    refine ⟨z2, o2, J2, hz2, u2, ?_⟩
    rw [forL_nx (ρ1 := some (.loc 0) :: z.set 0 (some (.d t))) rfl e1, e2]
theorem right_ofJ {c k n : Nat} {hand : FM} {body : SM} {o : Bo} (hh : ∀ S, hand [] S = .ok (.d (.bl true)) S) (hn : n < 1000) (hc : c * n ≤ 1000000)
    (ht : ∀ (z : List (Option Dv)) (o : Bo) (J : Sto) (m : Nat), z.length = k → Urn o (c + m) → ∃ o', Urn o' m ∧ Wq (fun w => ∃ z' J', z'.length = k ∧ w = .nx (some (.loc 0) :: z') (o' :: J')) (body (some (.loc 0) :: z) (o :: J))) (u : Urn o 1000000) :
    ∃ o' J', runB (k + 1) 1 (sSeq (sIf (cNot (mTru pTru (mF hand aNil))) (sRet (mC (.bl false))) sNil) (sSeq (sFor (iRg rg1 (aCons (mC (.int (n : Int))) aNil)) (gN 1) body) (sRet (mC (.bl true))))) [.loc 0] [o] = .ok (.d (.bl true)) (o' :: J') ∧ Urn o' 0 := by
  have tr : ∀ (b : Bool) (S : Sto), pTru (.d (.bl b)) S = some b := fun _ _ => rfl
  have hl : (rgL 0 n).length = n := by
    unfold rgL
    rw [List.length_map, List.length_range]
  obtain ⟨z', o', J', hz, u', e⟩ := turns_ofJ ht (rgL 0 n) (List.replicate k none) o [] 0 List.length_replicate (u.less (by rw [hl]; omega))
  refine ⟨o', J', runB_rt (ds := [.loc 0]) rfl ?_, u'⟩
  show sSeq _ _ (some (.loc 0) :: List.replicate k none) [o] = _
  have s0 : sIf (cNot (mTru pTru (mF hand aNil))) (sRet (mC (.bl false))) sNil (some (.loc 0) :: List.replicate k none) [o] = .nx (some (.loc 0) :: List.replicate k none) [o] := by
    simp only [sSeq_s, sSet_s, sRet_s, sDrop_s, sIf_s, sFor_s, sPars_s, sNil_s, sqz_nx, sqz_rt, m1_s, m2_s, mN_s, mF_s, mV_s, mC_s, aCons_s, aNil_s, aApp_s, mIf_s, mTst_s, toB_s, mTru_s, cAnd_s, cOr_s, cNot_s, cYes_s, mAnd_s, mSl_s, oPt_s, oNo_s, mFrz_s, gN_s, gT_s, List.getElem?_cons_zero, List.getElem?_cons_succ, bind_ok, to_ok, Sm.lift_some, li_some, oz_some, bz_some, nox_ok, hh, tr]
    rfl
  rw [sSeq_s, s0, sqz_nx, sSeq_s, st_for (iRg_ok (ds := [.d (.int (n : Int))]) rfl (q_rg hn)) e, sqz_nx]
  rfl
section
variable {B L : Sto} {k : Nat}
end
theorem st_drop {m : M Dv} {ρ : Sm.Env} {S S1 : Sto} {d : Dv} (h : m ρ S = .ok d S1) : sDrop m ρ S = .nx ρ S1 := by
  rw [sDrop_s, h, to_ok]
end Hn
namespace Hn
open PySem PySem.Spec PyProof.Rows L2 Sm
end Hn
namespace Hn
open PySem PySem.Spec PyProof.Rows L2 Sm
end Hn
namespace Hn
open PySem PySem.Spec PyProof.Rows L2 Sm
end Hn
/-! Hx5: drawn sets of households. -/
namespace Hn
open PySem PySem.Spec PyProof.Rows L2 Sm
structure Gone (rows : List (Str × List Str)) (gone : List Str) : Prop where
  sub : gone.Sublist (folk rows)
  z : gone.length ≤ 8
  mem : ∀ x ∈ gone, x ∈ folk rows
  ok : ∀ x ∈ gone, PyData.strOk x = true
theorem Gs8.gone {rows : List (Str × List Str)} {emps gone : List Str} (G : Gs8 rows emps) (h : gone.Sublist (folk rows)) : Gone rows gone :=
  ⟨h, Nat.le_trans h.length_le (by rw [List.length_map]; exact G.z), fun x hx => h.subset hx, fun x hx => (G.ok _ (lk_mem (h.subset hx))).1⟩
theorem Gone.tup {rows : List (Str × List Str)} {gone : List Str} (g : Gone rows gone) : Nm (tupS gone) gone := Nm.tup g.ok (by have := g.z; omega)
theorem Gone.lst {rows : List (Str × List Str)} {gone : List Str} (g : Gone rows gone) : Nm (lstS gone) gone := Nm.lst g.ok (by have := g.z; omega)
theorem runB_nx {n p : Nat} {b : SM} {ds : List Dv} {S S' : Sto} {ρ' : Sm.Env} (hl : ds.length = p) (hb : b (ds.map some ++ List.replicate (n - p) none) S = .nx ρ' S') : runB n p b ds S = .ok (.d .non) S' := by
  unfold runB
  rw [if_pos hl, hb]
theorem len_t {l : List Str} {S : Sto} : pLen [.d (tupS l)] S = some (.d (.int (l.length : Int)), S) := by
  simp [pLen, dctAt, seqAt]
end Hn
/-! Hy1: parts of a set, by going on from one to the next; plain. -/
namespace Hn
open PySem PySem.Spec PyProof.Rows L2 Sm
def setS (l : List Str) : List Str := sortS (ddS l)
theorem mem_setS {l : List Str} {x : Str} : x ∈ setS l ↔ x ∈ l := by
  unfold setS
  rw [(sortS_perm _).mem_iff, mem_ddS]
/-- who is met next -/
def nxt (adj : Str → List Str) (T found new : List Str) : List Str := (setS (new.flatMap adj)).filter fun y => decide (y ∈ T) && !decide (y ∈ found)
/-- going on; n: turns -/
def bfs (adj : Str → List Str) (T : List Str) : Nat → List Str → List Str → List Str
  | 0, found, _ => found
  | n + 1, found, new => if new.isEmpty = true then found else bfs adj T n (found ++ nxt adj T found new) (nxt adj T found new)
/-- what is still to be met -/
def left (T found : List Str) : List Str := T.filter fun y => !decide (y ∈ found)
/-- one leads to the other within T -/
inductive Rc (adj : Str → List Str) (T : List Str) : Str → Str → Prop
  | refl (x : Str) : Rc adj T x x
  | step {x y z : Str} : Rc adj T x y → z ∈ adj y → z ∈ T → Rc adj T x z
/-- the part of x in T -/
def part (adj : Str → List Str) (T : List Str) (x : Str) : List Str := setS (bfs adj T (T.length + 3) [x] [x])
theorem Rc.trans {adj : Str → List Str} {T : List Str} {x y z : Str} (h : Rc adj T x y) (k : Rc adj T y z) : Rc adj T x z := by
  induction k with
  | refl => exact h
  | step _ a b ih => exact .step ih a b
theorem Rc.mem {adj : Str → List Str} {T : List Str} {x y : Str} (h : Rc adj T x y) (hx : x ∈ T) : y ∈ T := by
  cases h with
  | refl => exact hx
  | step _ _ b => exact b
theorem Rc.symm {adj : Str → List Str} {T : List Str} (sy : ∀ x ∈ T, ∀ y ∈ T, y ∈ adj x → x ∈ adj y) {x y : Str} (hx : x ∈ T) (h : Rc adj T x y) : Rc adj T y x := by
  induction h with
  | refl => exact .refl _
  | step r a b ih => exact Rc.trans (.step (.refl _) (sy _ (r.mem hx) _ b a) (r.mem hx)) ih
/-- all parts, as they are met going along l -/
def goAll (adj : Str → List Str) (T : List Str) : List Str → List (List Str) → List (List Str)
  | [], acc => acc
  | x :: l, acc => if (acc.any fun p => decide (x ∈ p)) = true then goAll adj T l acc else goAll adj T l (acc ++ [part adj T x])
def rest (T : List Str) (acc : List (List Str)) : List Str := T.filter fun y => !acc.any fun p => decide (y ∈ p)
/-- the parts of T -/
def parts (adj : Str → List Str) (T : List Str) : List (List Str) := goAll adj T T []
end Hn
/-! Hy2: parts by the program's way. -/
namespace Hn
open PySem PySem.Spec PyProof.Rows L2 Sm
theorem as_setL {l : List Str} (hz : l.length ≤ 4000) (S : Sto) : F_as_set [.d (lstS l)] S = .ok (.d (tupS (setS l))) S := by
  refine iso_ok (ts := [lstS l]) (S' := []) (runB_rt (ds := [.d (lstS l)]) rfl ?_)
  show b_as_set [some (.d (lstS l))] [] = _
  have e1 := setSorted (l := l) (S := []) hz
  unfold b_as_set
  simp only [sSeq_s, sSet_s, sRet_s, sDrop_s, sIf_s, sFor_s, sPars_s, sNil_s, sqz_nx, sqz_rt, m1_s, m2_s, mN_s, mF_s, mV_s, mC_s, aCons_s, aNil_s, aApp_s, mIf_s, mTst_s, toB_s, mTru_s, cAnd_s, cOr_s, cNot_s, cYes_s, mAnd_s, mSl_s, oPt_s, oNo_s, mFrz_s, gN_s, gT_s, List.getElem?_cons_zero, List.getElem?_cons_succ, bind_ok, to_ok, Sm.lift_some, li_some, oz_some, bz_some, nox_ok, List.set_cons_zero, List.set_cons_succ, wipe0, wipe1, setA0, setA1, e1, pTuple_lst]
  rfl
theorem frz_box {xs : List Dt} {S : Sto} {k : Nat} (h : S[k]? = some (.lst (xs.map .d))) : frz (.loc k) S = some (.d (.lst xs), S.set k .dead) := by
  unfold frz
  simp only [h, pures_d]
theorem wh_stop {c : M Bool} {b : SM} {n : Nat} {ρ : Sm.Env} {S S1 : Sto} (h : c ρ S = .ok false S1) : whL c b (n + 1) ρ S = .nx ρ S1 := by
  show (c ρ S).to ρ _ = _
  rw [h, to_ok, if_neg (by decide)]
theorem wh_go {c : M Bool} {b : SM} {n : Nat} {ρ ρ2 : Sm.Env} {S S1 S2 : Sto} (h : c ρ S = .ok true S1) (e : b ρ S1 = .nx ρ2 S2) : whL c b (n + 1) ρ S = whL c b n ρ2 S2 := by
  show (c ρ S).to ρ _ = _
  rw [h, to_ok, if_pos rfl, e]
section
variable {S0 : Sto} {n m : Nat} {rows : List (Str × List Str)} {gone : List Str}
end
end Hn
/-! Rg1: relaxing edges: what is reached, how one goes back; rings along which something is gained. -/
namespace Rg
section
variable {α : Type} [DecidableEq α]
/-- an edge: from, to, gain -/
abbrev Ed (α : Type) := α × α × Int
def setF {β : Type} (f : α → β) (v : α) (x : β) : α → β := fun y => if y = v then x else f y
@[simp] theorem setF_same {β : Type} {f : α → β} {v : α} {x : β} : setF f v x v = x := if_pos rfl
theorem setF_ne {β : Type} {f : α → β} {v y : α} {x : β} (h : y ≠ v) : setF f v x y = f y := if_neg h
/-- the way back from x: the nodes passed ahead of y -/
inductive Bk (b : α → Option (α × Int)) : α → List α → α → Prop where
  | nil (x : α) : Bk b x [] x
  | cons {x u y : α} {g : Int} {l : List α} : b x = some (u, g) → Bk b u l y → Bk b x (x :: l) y
def gn (b : α → Option (α × Int)) (x : α) : Int := match b x with
  | some (_, g) => g
  | none => 0
def sumI : List Int → Int
  | [] => 0
  | a :: r => a + sumI r
def sg (b : α → Option (α × Int)) (l : List α) : Int := sumI (l.map (gn b))
theorem Bk.split {b : α → Option (α × Int)} {y z : α} : ∀ {l m : List α} {x : α}, Bk b x (l ++ z :: m) y → Bk b x l z ∧ Bk b z (z :: m) y
  | [], m, x, h => by
    cases h with
    | cons e k => exact ⟨.nil _, .cons e k⟩
  | w :: l, m, x, h => by
    cases h with
    | cons e k =>
      obtain ⟨k1, k2⟩ := Bk.split k
      exact ⟨.cons e k1, k2⟩
theorem Bk.at {b : α → Option (α × Int)} {y : α} : ∀ {l : List α} {x : α}, Bk b x l y → ∀ (i : Nat) (v : α), l[i]? = some v → ∃ u g, b v = some (u, g) ∧ (l ++ [y])[i + 1]? = some u
  | [], x, h, i, v, e => by simp at e
  | w :: l, x, h, 0, v, e => by
    cases h with
    | cons e1 k =>
      simp at e
      subst e
      refine ⟨_, _, e1, ?_⟩
      cases k with
      | nil => rfl
      | cons _ _ => rfl
  | w :: l, x, h, i + 1, v, e => by
    cases h with
    | cons e1 k =>
      obtain ⟨u, g, h1, h2⟩ := Bk.at k i v (by simpa using e)
      exact ⟨u, g, h1, by simpa using h2⟩
structure Inv (E : List (Ed α)) (r : α → Int) (b : α → Option (α × Int)) : Prop where
  ed : ∀ v u g, b v = some (u, g) → (u, v, g) ∈ E ∧ r v ≤ r u + g
  root : ∀ v, b v = none → r v = 0
  pos : ∀ x l, l ≠ [] → Bk b x l x → 0 < sg b l
variable {E : List (Ed α)} {r : α → Int} {b : α → Option (α × Int)} {u v : α} {g : Int}
theorem Bk.sum (h : ∀ v u g, b v = some (u, g) → r v ≤ r u + g) {x y : α} {l : List α} (k : Bk b x l y) : r x ≤ r y + sg b l := by
  induction k with
  | nil x => simp [sg, sumI]
  | @cons x u y g l e _ ih =>
    have h1 := h _ _ _ e
    have e2 : sg b (x :: l) = g + sg b l := by
      unfold sg
      simp [sumI, gn, e]
    omega
theorem Bk.keep {b' : α → Option (α × Int)} {x y : α} {l : List α} (k : Bk b x l y) (h : ∀ z ∈ l, b' z = b z) : Bk b' x l y ∧ sg b' l = sg b l := by
  induction k with
  | nil x => exact ⟨.nil _, rfl⟩
  | @cons x u y g l e k ih =>
    obtain ⟨h1, h2⟩ := ih fun z hz => h z (List.mem_cons_of_mem _ hz)
    refine ⟨.cons ((h x List.mem_cons_self).trans e) h1, ?_⟩
    have e1 := h x List.mem_cons_self
    unfold sg at h2 ⊢
    simp [sumI, gn, e1] at h2 ⊢
    omega
/-- a node of a way with a first place -/
theorem first_at {l : List α} (h : v ∈ l) : ∃ l1 l2, l = l1 ++ v :: l2 ∧ v ∉ l1 := by
  induction l with
  | nil => cases h
  | cons a l ih =>
    by_cases e : v = a
    · exact ⟨[], l, by rw [e]; rfl, List.not_mem_nil⟩
    · obtain ⟨l1, l2, e1, e2⟩ := ih ((List.mem_cons.mp h).resolve_left e)
      exact ⟨a :: l1, l2, by rw [e1]; rfl, fun z => (List.mem_cons.mp z).elim e e2⟩
theorem sumI_append : ∀ a c : List Int, sumI (a ++ c) = sumI a + sumI c
  | [], c => by simp [sumI]
  | x :: a, c => by
    have := sumI_append a c
    simp [sumI] at this ⊢
    omega
theorem sg_append {a c : List α} : sg b (a ++ c) = sg b a + sg b c := by
  unfold sg
  rw [List.map_append, sumI_append]
theorem Bk.app {x y z : α} {l m : List α} (h : Bk b x l y) (k : Bk b y m z) : Bk b x (l ++ m) z := by
  induction h with
  | nil x => exact k
  | cons e _ ih => exact .cons e (ih k)
/-- one edge better -/
theorem Inv.relax (I : Inv E r b) (he : (u, v, g) ∈ E) (h : r v < r u + g) : Inv E (setF r v (r u + g)) (setF b v (some (u, g))) := by
  have mono : ∀ y, r y ≤ setF r v (r u + g) y := fun y => by
    by_cases e : y = v
    · subst e
      rw [setF_same]
      omega
    · rw [setF_ne e]
      exact Int.le_refl _
  -- a ring through v
  have thr : ∀ l y, Bk (setF b v (some (u, g))) y l v → v ∉ l → r y ≤ r v + sg (setF b v (some (u, g))) l := fun l y k n => by
    obtain ⟨k1, k2⟩ := Bk.keep (b' := b) k fun z hz => (setF_ne fun e : z = v => n (by rw [← e]; exact hz)).symm
    rw [← k2]
    exact k1.sum fun v u g e => (I.ed v u g e).2
  have self : u = v → 0 < g := fun e => by
    subst e
    omega
  have ring : ∀ n l, l.length ≤ n → Bk (setF b v (some (u, g))) v (v :: l) v → 0 < sg (setF b v (some (u, g))) (v :: l) := by
    intro n
    induction n with
    | zero =>
      intro l hl k
      have : l = [] := List.eq_nil_of_length_eq_zero (by omega)
      subst this
      cases k with
      | cons e k =>
        rw [setF_same] at e
        cases e
        cases k
        have := self rfl
        simp [sg, sumI, gn]
        omega
    | succ n ih =>
      intro l hl k
      cases k with
      | cons e k =>
        rw [setF_same] at e
        cases e
        have e2 : ∀ m, sg (setF b v (some (u, g))) (v :: m) = g + sg (setF b v (some (u, g))) m := fun m => by
          unfold sg
          simp [sumI, gn]
        by_cases hv : v ∈ l
        · obtain ⟨l1, l2, rfl, n1⟩ := first_at hv
          obtain ⟨k1, k2⟩ := Bk.split k
          have s1 := thr _ _ k1 n1
          have s2 := ih l2 (by simp at hl; omega) k2
          rw [e2, sg_append]
          omega
        · have s1 := thr _ _ k hv
          rw [e2]
          omega
  refine ⟨fun y p gg e => ?_, fun y e => ?_, fun x l hl k => ?_⟩
  · by_cases hy : y = v
    · subst hy
      rw [setF_same] at e
      cases e
      refine ⟨he, ?_⟩
      rw [setF_same]
      have := mono u
      omega
    · rw [setF_ne hy] at e
      obtain ⟨h1, h2⟩ := I.ed y p gg e
      refine ⟨h1, ?_⟩
      rw [setF_ne hy]
      have := mono p
      omega
  · by_cases hy : y = v
    · subst hy
      rw [setF_same] at e
      cases e
    · rw [setF_ne hy] at e
      rw [setF_ne hy]
      exact I.root y e
  · by_cases hv : v ∈ l
    · obtain ⟨l1, l2, rfl, n1⟩ := first_at hv
      obtain ⟨k1, k2⟩ := Bk.split k
      have k3 := k2.app k1
      have := ring _ (l2 ++ l1) (Nat.le_refl _) k3
      rw [← List.cons_append, sg_append] at this
      rw [sg_append]
      omega
    · obtain ⟨k1, k2⟩ := Bk.keep (b' := b) k fun z hz => (setF_ne fun e : z = v => hv (by rw [← e]; exact hz)).symm
      rw [← k2]
      exact I.pos x l hl k1
theorem Inv.start : Inv E (fun _ => 0) (fun _ => none) := ⟨(fun _ _ _ e => nomatch e), fun _ _ => rfl, fun x l hl k => by
  cases k with
  | nil => exact absurd rfl hl
  | cons e _ => cases e⟩
/-- who is reached over a way back without a ring: bounded -/
theorem sg_le {M : Int} (h0 : 0 ≤ M) (hb : ∀ v u g, b v = some (u, g) → g ≤ M) : ∀ l : List α, sg b l ≤ l.length * M
  | [] => by simp [sg, sumI]
  | x :: l => by
    have ih := sg_le h0 hb l
    have e : sg b (x :: l) = gn b x + sg b l := rfl
    have h1 : gn b x ≤ M := by
      unfold gn
      cases e1 : b x with
      | none => exact h0
      | some p => exact hb x p.1 p.2 e1
    rw [e, List.length_cons]
    have : ((l.length + 1 : Nat) : Int) * M = l.length * M + M := by
      rw [Int.natCast_add, Int.add_mul]
      simp
    omega
end
end Rg
/-! Rg2: a pass over the edges; the ring to which one goes back; how often; a turned ring; the best choice. -/
namespace Rg
section
variable {α : Type} [DecidableEq α] {E : List (Ed α)} {r r0 : α → Int} {b : α → Option (α × Int)} {u v : α} {g : Int}
/-- within a pass: d is done -/
structure Ps (E d : List (Ed α)) (r0 r : α → Int) (b : α → Option (α × Int)) (last : Option α) : Prop where
  inv : Inv E r b
  mono : ∀ y, r0 y ≤ r y
  non : last = none → ∀ e ∈ d, r e.1 + e.2.2 ≤ r e.2.1
  som : ∀ v, last = some v → r0 v < r v ∧ b v ≠ none
theorem Ps.start (I : Inv E r b) : Ps E [] r r b none := ⟨I, fun _ => Int.le_refl _, (fun _ e h => absurd h List.not_mem_nil), (fun _ h => nomatch h)⟩
theorem Ps.yes {d : List (Ed α)} {last : Option α} (p : Ps E d r0 r b last) (he : (u, v, g) ∈ E) (h : r v < r u + g) : Ps E (d ++ [(u, v, g)]) r0 (setF r v (r u + g)) (setF b v (some (u, g))) (some v) := by
  refine ⟨p.inv.relax he h, fun y => ?_, (fun z => nomatch z), fun w z => ?_⟩
  · have := p.mono y
    by_cases e : y = v
    · subst e
      rw [setF_same]
      omega
    · rw [setF_ne e]
      exact this
  · cases z
    rw [setF_same, setF_same]
    have := p.mono v
    exact ⟨by omega, fun z => nomatch z⟩
theorem Ps.no {d : List (Ed α)} {last : Option α} (p : Ps E d r0 r b last) (h : ¬ r v < r u + g) : Ps E (d ++ [(u, v, g)]) r0 r b last := by
  refine ⟨p.inv, p.mono, fun z e he => ?_, p.som⟩
  rcases List.mem_append.mp he with he | he
  · exact p.non z e he
  · rw [List.mem_singleton.mp he]
    show r u + g ≤ r v
    omega
/-! ### how often -/
def mu (V : List α) (B : Int) (r : α → Int) : Nat := (V.map fun x => (B - r x).toNat).sum
theorem mu_le {V : List α} {B : Int} (m : ∀ y, r0 y ≤ r y) : mu V B r ≤ mu V B r0 := by
  unfold mu
  induction V with
  | nil => simp
  | cons x V ih =>
    simp only [List.map_cons, List.sum_cons]
    have := m x
    omega
theorem mu_lt {V : List α} {B : Int} (m : ∀ y, r0 y ≤ r y) (hv : v ∈ V) (h1 : r0 v < r v) (h2 : r v ≤ B) : mu V B r < mu V B r0 := by
  induction V with
  | nil => cases hv
  | cons x V ih =>
    have e : ∀ q : α → Int, mu (x :: V) B q = (B - q x).toNat + mu V B q := fun q => by
      unfold mu
      simp only [List.map_cons, List.sum_cons]
    rw [e, e]
    have := m x
    rcases List.mem_cons.mp hv with rfl | hv
    · have := mu_le (V := V) (B := B) m
      omega
    · have := ih hv
      omega
theorem nodup_le {V : List α} : ∀ {l : List α}, l.Nodup → (∀ x ∈ l, x ∈ V) → l.length ≤ V.length := by
  intro l
  induction l generalizing V with
  | nil => intro _ _; exact Nat.zero_le _
  | cons a l ih =>
    intro hn hs
    rw [List.nodup_cons] at hn
    have ha := hs a List.mem_cons_self
    have := ih (V := V.erase a) hn.2 fun x hx => (List.mem_erase_of_ne fun e : x = a => hn.1 (by rw [← e]; exact hx)).mpr (hs x (List.mem_cons_of_mem _ hx))
    have h2 := List.length_erase_of_mem ha
    have h3 : 0 < V.length := List.length_pos_of_mem ha
    simp only [List.length_cons]
    omega
theorem Bk.dom {x y : α} {l : List α} (k : Bk b x l y) : ∀ z ∈ l, b z ≠ none := by
  induction k with
  | nil x => intro z h; cases h
  | cons e _ ih =>
    intro z h
    rcases List.mem_cons.mp h with rfl | h
    · rw [e]
      exact fun z => nomatch z
    · exact ih z h
/-- one from whom the way back ends at a root is not reached by more -/
theorem Inv.bound (I : Inv E r b) {V l : List α} {M : Int} {x y : α} (h0 : 0 ≤ M) (hM : ∀ e ∈ E, e.2.2 ≤ M) (k : Bk b x l y) (hn : l.Nodup) (hV : ∀ z, b z ≠ none → z ∈ V) (e : b y = none) : r x ≤ V.length * M := by
  have h1 := k.sum fun v u g e => (I.ed v u g e).2
  have h2 := sg_le h0 (fun v u g e => hM _ (I.ed v u g e).1) l
  have h3 := I.root y e
  have h4 := nodup_le hn fun z hz => hV z (k.dom z hz)
  have h5 : (l.length : Int) * M ≤ V.length * M := Int.mul_le_mul_of_nonneg_right (by omega) h0
  omega
theorem Ps.less {V l : List α} {M : Int} {x y : α} (p : Ps E E r0 r b (some x)) (h0 : 0 ≤ M) (hM : ∀ e ∈ E, e.2.2 ≤ M) (k : Bk b x l y) (hn : l.Nodup) (hV : ∀ z, b z ≠ none → z ∈ V) (e : b y = none) : mu V (V.length * M) r < mu V (V.length * M) r0 :=
  mu_lt p.mono (hV x (p.som x rfl).2) (p.som x rfl).1 (p.inv.bound h0 hM k hn hV e)
/-! ### sums over sets -/
theorem sumI_perm {a c : List Int} (h : a.Perm c) : sumI a = sumI c := by
  induction h with
  | nil => rfl
  | cons x _ ih => simp [sumI, ih]
  | swap x y l => simp only [sumI]; omega
  | trans _ _ i1 i2 => exact i1.trans i2
theorem sum_le {f : α → Int} : ∀ {A B : List α}, A.Nodup → B.Nodup → (∀ x ∈ A, x ∉ B → f x ≤ 0) → (∀ x ∈ B, x ∉ A → 0 ≤ f x) → sumI (A.map f) ≤ sumI (B.map f)
  | [], B, _, _, _, h2 => by
    have : ∀ {B : List α}, (∀ x ∈ B, 0 ≤ f x) → 0 ≤ sumI (B.map f) := by
      intro B
      induction B with
      | nil => intro _; simp [sumI]
      | cons b B ih =>
        intro h
        have h1 := h b List.mem_cons_self
        have h2 := ih fun x hx => h x (List.mem_cons_of_mem _ hx)
        simp only [List.map_cons, sumI]
        omega
    simpa [sumI] using this fun x hx => h2 x hx List.not_mem_nil
  | a :: A, B, n1, n2, h1, h2 => by
    rw [List.nodup_cons] at n1
    by_cases ha : a ∈ B
    · have pr := List.perm_cons_erase ha
      have := sumI_perm (pr.map f)
      rw [this]
      simp only [List.map_cons, sumI]
      have ih := sum_le (f := f) (A := A) (B := B.erase a) n1.2 (n2.erase a) (fun x hx hn => ?_) (fun x hx hn => ?_)
      · omega
      · refine h1 x (List.mem_cons_of_mem _ hx) fun hb => hn ?_
        exact (List.mem_erase_of_ne fun e : x = a => n1.1 (by rw [← e]; exact hx)).mpr hb
      · have hx2 := (n2.mem_erase_iff).mp hx
        exact h2 x hx2.2 fun z => (List.mem_cons.mp z).elim hx2.1 hn
    · simp only [List.map_cons, sumI]
      have := h1 a List.mem_cons_self ha
      have ih := sum_le (f := f) (A := A) (B := B) n1.2 n2 (fun x hx hn => h1 x (List.mem_cons_of_mem _ hx) hn) (fun x hx hn => h2 x hx fun z => (List.mem_cons.mp z).elim (fun e => ha (by rw [← e]; exact hx)) hn)
      omega
theorem sum_eq {f : α → Int} {A B : List α} (n1 : A.Nodup) (n2 : B.Nodup) (h1 : ∀ x ∈ A, x ∉ B → f x = 0) (h2 : ∀ x ∈ B, x ∉ A → f x = 0) : sumI (A.map f) = sumI (B.map f) := by
  have a := sum_le (f := f) n1 n2 (fun x p q => by rw [h1 x p q]; exact Int.le_refl _) (fun x p q => by rw [h2 x p q]; exact Int.le_refl _)
  have c := sum_le (f := f) n2 n1 (fun x p q => by rw [h2 x p q]; exact Int.le_refl _) (fun x p q => by rw [h1 x p q]; exact Int.le_refl _)
  omega
theorem sumI_sub {β : Type} (f h : β → Int) : ∀ l : List β, sumI (l.map fun x => f x - h x) = sumI (l.map f) - sumI (l.map h)
  | [] => rfl
  | a :: l => by
    have := sumI_sub f h l
    simp only [List.map_cons, sumI]
    omega
theorem sumI_cong {β : Type} {f h : β → Int} {l : List β} (k : ∀ x ∈ l, f x = h x) : sumI (l.map f) = sumI (l.map h) := by
  rw [List.map_congr_left k]
/-! ### a choice of homes and what can be done -/
/-- names, what each home is worth to each, all homes, the one that is none -/
structure Tab (α : Type) [DecidableEq α] where
  ns : List α
  W : α → α → Option Int
  hs : List α
  free : α
def Tab.w (t : Tab α) (n h : α) : Int := (t.W n h).getD 0
structure Tab.Ok (t : Tab α) : Prop where
  nn : t.ns.Nodup
  hn : t.hs.Nodup
  fr : t.free ∉ t.hs
  sub : ∀ n ∈ t.ns, ∀ h w, t.W n h = some w → h ∈ t.hs
/-- T gives homes -/
structure Asg (t : Tab α) (T : α → α) : Prop where
  ok : ∀ n ∈ t.ns, t.W n (T n) ≠ none
  inj : (t.ns.map T).Nodup
def val (t : Tab α) (T : α → α) : Int := sumI (t.ns.map fun n => t.w n (T n))
/-- what can be done at T -/
structure Stp (t : Tab α) (T : α → α) (E : List (Ed α)) : Prop where
  fwd : ∀ u v g, (u, v, g) ∈ E → (u ∈ t.hs ∧ u ∉ t.ns.map T ∧ v = t.free ∧ g = 0) ∨ (∃ n ∈ t.ns, u = t.free ∧ v = T n ∧ g = 0) ∨ (∃ n ∈ t.ns, ∃ w, u = T n ∧ v ≠ T n ∧ t.W n v = some w ∧ g = w - t.w n (T n))
  go : ∀ n ∈ t.ns, ∀ h w, t.W n h = some w → h ≠ T n → (T n, h, w - t.w n (T n)) ∈ E
  out : ∀ h ∈ t.hs, h ∉ t.ns.map T → (h, t.free, 0) ∈ E
  inn : ∀ n ∈ t.ns, (t.free, T n, 0) ∈ E
variable {t : Tab α} {T : α → α}
theorem Asg.home (ok : t.Ok) (a : Asg t T) {n : α} (hn : n ∈ t.ns) : T n ∈ t.hs := by
  cases e : t.W n (T n) with
  | none => exact absurd e (a.ok n hn)
  | some w => exact ok.sub n hn _ w e
theorem w_some {n h : α} {x : Int} (e : t.W n h = some x) : t.w n h = x := by
  unfold Tab.w
  rw [e]
  rfl
/-- a ring in the order of its steps, who comes next on it -/
structure Rng (E : List (Ed α)) (b : α → Option (α × Int)) (ring : List α) (nx : α → Option α) : Prop where
  nd : ring.Nodup
  ed : ∀ v u g, b v = some (u, g) → (u, v, g) ∈ E
  next : ∀ u ∈ ring, ∃ v g, nx u = some v ∧ b v = some (u, g)
  out : ∀ u, u ∉ ring → nx u = none
  rot : (ring.map fun u => (nx u).getD u).Perm ring
  pos : 0 < sg b ring
def turned (t : Tab α) (nx : α → Option α) (T : α → α) (n : α) : α := match nx (T n) with
  | some v => if v = t.free then T n else v
  | none => T n
theorem turn (ok : t.Ok) (a : Asg t T) (s : Stp t T E) {ring : List α} {nx : α → Option α} (R : Rng E b ring nx) : Asg t (turned t nx T) ∧ val t T < val t (turned t nx T) := by
  -- a home of the ring that is taken
  have key : ∀ n ∈ t.ns, T n ∈ ring → ∃ v w, nx (T n) = some v ∧ turned t nx T n = v ∧ t.W n v = some w ∧ v ∈ t.hs ∧ gn b v = w - t.w n (T n) ∧ ∃ g, b v = some (T n, g) := fun n hn hr => by
    obtain ⟨v, g, e1, e2⟩ := R.next _ hr
    have hE := R.ed _ _ _ e2
    rcases s.fwd _ _ _ hE with ⟨_, h, _⟩ | ⟨m, hm, h, _⟩ | ⟨m, hm, w, h1, h2, h3, h4⟩
    · exact absurd (List.mem_map.mpr ⟨n, hn, rfl⟩) h
    · exact absurd (h ▸ a.home ok hn) ok.fr
    · have em : m = n := by
        have hi := a.inj
        have : ∀ {l : List α}, (l.map T).Nodup → m ∈ l → n ∈ l → T n = T m → m = n := by
          intro l
          induction l with
          | nil => intro _ h; cases h
          | cons x l ih =>
            intro hd h1 h2 e
            rw [List.map_cons, List.nodup_cons] at hd
            rcases List.mem_cons.mp h1 with p1 | p1
            · rcases List.mem_cons.mp h2 with p2 | p2
              · exact p1.trans p2.symm
              · exact absurd (List.mem_map.mpr ⟨n, p2, e.trans (congrArg T p1)⟩) hd.1
            · rcases List.mem_cons.mp h2 with p2 | p2
              · exact absurd (List.mem_map.mpr ⟨m, p1, e.symm.trans (congrArg T p2)⟩) hd.1
              · exact ih hd.2 p1 p2 e
        exact this hi hm hn h1
      subst em
      have hv := ok.sub m hm v w h3
      have hvf : v ≠ t.free := fun e => ok.fr (e ▸ hv)
      refine ⟨v, w, e1, ?_, h3, hv, ?_, g, e2⟩
      · unfold turned
        rw [e1]
        exact if_neg hvf
      · unfold gn
        rw [e2]
        exact h4
  have stay : ∀ n, T n ∉ ring → turned t nx T n = T n := fun n h => by
    unfold turned
    rw [R.out _ h]
  have ringE : ∀ n ∈ t.ns, T n ∈ ring → turned t nx T n ∈ ring := fun n hn hr => by
    obtain ⟨v, w, e1, e2, _⟩ := key n hn hr
    rw [e2]
    refine R.rot.mem_iff.mp (List.mem_map.mpr ⟨T n, hr, ?_⟩)
    rw [e1]
    rfl
  refine ⟨⟨fun n hn => ?_, ?_⟩, ?_⟩
  · by_cases hr : T n ∈ ring
    · obtain ⟨v, w, _, e2, e3, _⟩ := key n hn hr
      rw [e2, e3]
      exact fun z => nomatch z
    · rw [stay n hr]
      exact a.ok n hn
  · have hi := a.inj
    have inj : ∀ n ∈ t.ns, ∀ m ∈ t.ns, turned t nx T n = turned t nx T m → T n = T m := fun n hn m hm e => by
      by_cases hr : T n ∈ ring
      · by_cases hq : T m ∈ ring
        · obtain ⟨v, w, _, e2, _, _, _, g, e4⟩ := key n hn hr
          obtain ⟨v', w', _, e2', _, _, _, g', e4'⟩ := key m hm hq
          rw [e2, e2'] at e
          subst e
          exact (Prod.mk.inj (Option.some.inj (e4.symm.trans e4'))).1
        · have := ringE n hn hr
          rw [e, stay m hq] at this
          exact absurd this hq
      · by_cases hq : T m ∈ ring
        · have := ringE m hm hq
          rw [← e, stay n hr] at this
          exact absurd this hr
        · rw [stay n hr, stay m hq] at e
          exact e
    have : ∀ {l : List α}, (∀ x ∈ l, x ∈ t.ns) → (l.map T).Nodup → (l.map (turned t nx T)).Nodup := by
      intro l
      induction l with
      | nil => intro _ _; exact List.nodup_nil
      | cons x l ih =>
        intro hs hd
        rw [List.map_cons, List.nodup_cons] at hd ⊢
        refine ⟨fun z => ?_, ih (fun y hy => hs y (List.mem_cons_of_mem _ hy)) hd.2⟩
        obtain ⟨m, hm, e⟩ := List.mem_map.mp z
        exact hd.1 (List.mem_map.mpr ⟨m, hm, inj m (hs m (List.mem_cons_of_mem _ hm)) x (hs x List.mem_cons_self) e⟩)
    exact this (fun _ h => h) hi
  · -- the sums
    let D : α → Int := fun u => match nx u with
      | some v => gn b v
      | none => 0
    have d1 : ∀ n ∈ t.ns, t.w n (turned t nx T n) - t.w n (T n) = D (T n) := fun n hn => by
      by_cases hr : T n ∈ ring
      · obtain ⟨v, w, e1, e2, e3, _, e5, _⟩ := key n hn hr
        show _ = (match nx (T n) with | some v => gn b v | none => 0)
        rw [e1, e2, w_some e3]
        exact e5.symm
      · show _ = (match nx (T n) with | some v => gn b v | none => 0)
        rw [R.out _ hr, stay n hr]
        simp
    have d2 : sumI ((t.ns.map T).map D) = sumI (ring.map D) := by
      refine sum_eq a.inj R.nd (fun x _ hn => ?_) fun x hx hn => ?_
      · show (match nx x with | some v => gn b v | none => 0) = 0
        rw [R.out _ hn]
      · obtain ⟨v, g, e1, e2⟩ := R.next x hx
        show (match nx x with | some v => gn b v | none => 0) = 0
        rw [e1]
        have hE := R.ed _ _ _ e2
        have : g = 0 := by
          rcases s.fwd _ _ _ hE with ⟨_, _, _, h⟩ | ⟨m, hm, _, _, h⟩ | ⟨m, hm, w, h1, _⟩
          · exact h
          · exact h
          · exact absurd (List.mem_map.mpr ⟨m, hm, h1.symm⟩) hn
        show gn b v = 0
        unfold gn
        rw [e2]
        exact this
    have d3 : sumI (ring.map D) = sg b ring := by
      unfold sg
      rw [← sumI_perm (R.rot.map (gn b)), List.map_map]
      refine sumI_cong fun u hu => ?_
      obtain ⟨v, g, e1, _⟩ := R.next u hu
      show (match nx u with | some v => gn b v | none => 0) = gn b ((nx u).getD u)
      rw [e1]
      rfl
    have d4 := sumI_cong (l := t.ns) d1
    rw [sumI_sub] at d4
    rw [List.map_map] at d2
    have e : sumI (t.ns.map (D ∘ T)) = sumI (t.ns.map fun n => D (T n)) := rfl
    have := R.pos
    unfold val
    omega
end
end Rg
/-! Rs1: a sheet as data: what Sheet's methods tell. -/
namespace Hr
open PySem PySem.Spec PyProof.Rows L2 Sm Hn
section
variable {t : Dt} {rows : List (Str × List Str)} {emps : List Str}
/-! ### the worths -/
end
end Hr
/-! Pk1: parts and what is told of them. -/
namespace Hk
open PySem PySem.Spec PyProof.Rows L2 Sm Hn
abbrev Part := List Str × Str
/-- the part turned -/
def rot (row : List Str) (e : Str) : List Str := if e = "" then row.drop (row.idxOf (minTx (row.headD "") row.tail)) ++ row.take (row.idxOf (minTx (row.headD "") row.tail)) else row
abbrev ptD (p : Part) : Dt := .tup [tupS p.1, .str p.2]
abbrev ntS (l : List Str) : Dt := .ntp (l.map .str)
abbrev ptN (p : Part) : Dt := .ntp [ntS p.1, .str p.2]
def turnP (p : Part) : Part := (rot p.1 p.2, p.2)
theorem minTx_mem (x : Str) : ∀ l : List Str, minTx x l ∈ x :: l := by
  intro l
  unfold minTx
  induction l generalizing x with
  | nil => exact List.mem_cons_self
  | cons y l ih =>
    rw [List.foldl_cons]
    have := ih (if PySem.W.dataLt (.str y) (.str x) then y else x)
    rcases List.mem_cons.mp this with h | h
    · rw [h]
      split
      · exact List.mem_cons_of_mem _ List.mem_cons_self
      · exact List.mem_cons_self
    · exact List.mem_cons_of_mem _ (List.mem_cons_of_mem _ h)
theorem min_s {d : Dt} {x : Str} {l : List Str} {S : Sto} (h : d = tupS (x :: l) ∨ d = lstS (x :: l)) : pMinT [.d d] S = some (.d (.str (minTx x l)), S) := by
  have e : (seqT S (.d d)).bind strsOf = some (x :: l) := by
    rcases h with rfl | rfl <;>
    · unfold seqT
      show ((some (((x :: l).map Dt.str).map Dv.d)).bind pures).bind strsOf = _
      rw [Option.bind_some, pures_d, Option.bind_some, strsOf_map]
  show (match (seqT S (.d d)).bind strsOf with
    | some (x :: l) => some (Dv.d (.str (minTx x l)), S)
    | _ => none) = _
  rw [e]
theorem index_n {l : List Str} {y : Str} {S : Sto} (h : y ∈ l) : pIndexT (.d (ntS l)) [.d (.str y)] S = some (.d (.int (l.idxOf y : Nat)), S) := by
  show (match strsOf (l.map .str) with
    | some l => if y ∈ l then some (Dv.d (.int (l.idxOf y : Nat)), S) else none
    | none => none) = _
  rw [strsOf_map]
  exact if_pos h
theorem turned_ok {p : Part} (hr : p.1 ≠ []) (hz : p.1.length ≤ 1000) (he : PyData.strOk p.2 = true) (S : Sto) : F_turned [.d (ptN p)] S = .ok (.d (ptD (turnP p))) S := by
  obtain ⟨row, e⟩ := p
  refine iso_ok (ts := [ptN (row, e)]) (S' := []) (runB_rt (ds := [.d (ptN (row, e))]) rfl ?_)
  show b_turned [some (.d (ptN (row, e))), none, none, none] [] = _
  match row, hr with
  | x :: l, _ =>
  have q1 : ∀ S, pEq (.d (.str e)) (.d (.str ("" : Str))) S = some (.d (.bl (decide (e = ("" : Str)))), S) := fun S => eq_s he (by decide +kernel)
  have mt1 : ∀ S, pMinT [.d (tupS (x :: l))] S = some (.d (.str (minTx x l)), S) := fun S => min_s (.inl rfl)
  have ix : ∀ S, pIndexT (.d (ntS (x :: l))) [.d (.str (minTx x l))] S = some (.d (.int ((x :: l).idxOf (minTx x l) : Nat)), S) := fun S => index_n (minTx_mem x l)
  have wk : ∀ S, pWk (.d (ntS (x :: l))) S = some (.d (tupS (x :: l)), S) := fun S => rfl
  have s1 : sAsg (gT (gsCons (gN 1) (gsCons (gN 2) (gsNil)))) (m1 pWk (mV 0)) [some (.d (ptN (x :: l, e))), none, none, none] [] = .nx [some (.d (ptN (x :: l, e))), some (.d (ntS (x :: l))), some (.d (.str e)), none] [] := rfl
  have s2 : ∀ S, ∃ k : Nat, k ≤ (x :: l).length ∧ rot (x :: l) e = (x :: l).drop k ++ (x :: l).take k ∧ sSet 3 (mIf (mTst (m2 pEq (mV 2) (mC (.str ("" : Str))))) (mTm pIndexT (mV 1) (aCons (mN pMinT (aCons (m1 pWk (mV 1)) (aNil))) (aNil))) (mC (.int 0))) [some (.d (ptN (x :: l, e))), some (.d (ntS (x :: l))), some (.d (.str e)), none] S = .nx [some (.d (ptN (x :: l, e))), some (.d (ntS (x :: l))), some (.d (.str e)), some (.d (.int (k : Nat)))] S := fun S => by
    by_cases h : e = ""
    · refine ⟨(x :: l).idxOf (minTx x l), List.idxOf_le_length, if_pos h, ?_⟩
      have t1 : mTm pIndexT (mV 1) (aCons (mN pMinT (aCons (m1 pWk (mV 1)) (aNil))) (aNil)) [some (.d (ptN (x :: l, e))), some (.d (ntS (x :: l))), some (.d (.str e)), none] S = .ok (.d (.int ((x :: l).idxOf (minTx x l) : Nat))) S := by
        unfold mTm
        simp only [mV_s, List.getElem?_cons_zero, List.getElem?_cons_succ, bind_ok]
        rw [if_pos (show isNtp (.d (ntS (x :: l))) = true from rfl)]
        simp only [sSeq_s, sSet_s, sRet_s, sDrop_s, sIf_s, sFor_s, sPars_s, sNil_s, sqz_nx, sqz_rt, m1_s, m2_s, mN_s, mF_s, mV_s, mC_s, aCons_s, aNil_s, aApp_s, mIf_s, mTst_s, toB_s, mTru_s, cAnd_s, cOr_s, cNot_s, cYes_s, mAnd_s, mSl_s, oPt_s, oNo_s, mFrz_s, gN_s, gT_s, List.getElem?_cons_zero, List.getElem?_cons_succ, bind_ok, to_ok, Sm.lift_some, li_some, oz_some, bz_some, nox_ok, wk, mt1, ix]
      simp only [sSeq_s, sSet_s, sRet_s, sDrop_s, sIf_s, sFor_s, sPars_s, sNil_s, sqz_nx, sqz_rt, m1_s, m2_s, mN_s, mF_s, mV_s, mC_s, aCons_s, aNil_s, aApp_s, mIf_s, mTst_s, toB_s, mTru_s, cAnd_s, cOr_s, cNot_s, cYes_s, mAnd_s, mSl_s, oPt_s, oNo_s, mFrz_s, gN_s, gT_s, List.getElem?_cons_zero, List.getElem?_cons_succ, bind_ok, to_ok, Sm.lift_some, li_some, oz_some, bz_some, nox_ok, q1, decide_eq_true h, if_true, t1]
      rfl
    · refine ⟨0, Nat.zero_le _, by simp [rot, h], ?_⟩
      simp only [sSeq_s, sSet_s, sRet_s, sDrop_s, sIf_s, sFor_s, sPars_s, sNil_s, sqz_nx, sqz_rt, m1_s, m2_s, mN_s, mF_s, mV_s, mC_s, aCons_s, aNil_s, aApp_s, mIf_s, mTst_s, toB_s, mTru_s, cAnd_s, cOr_s, cNot_s, cYes_s, mAnd_s, mSl_s, oPt_s, oNo_s, mFrz_s, gN_s, gT_s, List.getElem?_cons_zero, List.getElem?_cons_succ, bind_ok, to_ok, Sm.lift_some, li_some, oz_some, bz_some, nox_ok, q1, decide_eq_false h]
      rfl
  obtain ⟨k, hk, er, s2⟩ := s2 []
  have hz' : (x :: l).length ≤ 1000 := hz
  have c1 : ∀ S, pSl (some ((k : Nat) : Int)) none (.d (tupS (x :: l))) S = some (.d (tupS ((x :: l).drop k)), S) := fun S => by
    rw [sl_t, cut_map, cut_from]
  have c2 : ∀ S, pSl none (some ((k : Nat) : Int)) (.d (tupS (x :: l))) S = some (.d (tupS ((x :: l).take k)), S) := fun S => by
    rw [sl_t, cut_map, cut_to]
  have ad : ∀ S, pAdd (.d (tupS ((x :: l).drop k))) (.d (tupS ((x :: l).take k))) S = some (.d (tupS (rot (x :: l) e)), S) := fun S => by
    rw [add_t (by rw [List.length_map, List.length_map, List.length_drop, List.length_take]; omega), er, ← List.map_append]
  unfold b_turned
  rw [sSeq_s, s1, sqz_nx, sSeq_s, s2, sqz_nx]
  simp only [sSeq_s, sSet_s, sRet_s, sDrop_s, sIf_s, sFor_s, sPars_s, sNil_s, sqz_nx, sqz_rt, m1_s, m2_s, mN_s, mF_s, mV_s, mC_s, aCons_s, aNil_s, aApp_s, mIf_s, mTst_s, toB_s, mTru_s, cAnd_s, cOr_s, cNot_s, cYes_s, mAnd_s, mSl_s, oPt_s, oNo_s, mFrz_s, gN_s, gT_s, List.getElem?_cons_zero, List.getElem?_cons_succ, bind_ok, to_ok, Sm.lift_some, li_some, oz_some, bz_some, nox_ok, wk, c1, c2, ad]
  rfl
/-! ### where they move -/
def goalsP (p : Part) : List Str := p.1.tail ++ [if p.2 = "" then p.1.headD "" else p.2]
def namesP (p : Part) : List Str := if p.2 = "" then p.1 else p.1 ++ [p.2]
def namesA (ps : List Part) : List Str := ps.flatMap namesP
def moversA (ps : List Part) : List Str := ps.flatMap (·.1)
def goalsA (ps : List Part) : List Str := ps.flatMap goalsP
theorem goals_of_ok {p : Part} (hr : p.1 ≠ []) (hz : p.1.length ≤ 1000) (he : PyData.strOk p.2 = true) (S : Sto) : F_goals_of [.d (ptD p)] S = .ok (.d (tupS (goalsP p))) S := by
  obtain ⟨row, e⟩ := p
  refine iso_ok (ts := [ptD (row, e)]) (S' := []) (runB_rt (ds := [.d (ptD (row, e))]) rfl ?_)
  show b_goals_of [some (.d (ptD (row, e))), none, none] [] = _
  match row, hr with
  | x :: l, _ =>
  have q1 : ∀ S, pEq (.d (.str e)) (.d (.str ("" : Str))) S = some (.d (.bl (decide (e = ("" : Str)))), S) := fun S => eq_s he (by decide +kernel)
  have s1 : sAsg (gT (gsCons (gN 1) (gsCons (gN 2) (gsNil)))) (mV 0) [some (.d (ptD (x :: l, e))), none, none] [] = .nx [some (.d (ptD (x :: l, e))), some (.d (tupS (x :: l))), some (.d (.str e))] [] := rfl
  have c1 : ∀ S, pSl (some (1 : Int)) none (.d (tupS (x :: l))) S = some (.d (tupS l), S) := fun S => by
    have h : cutL ((x :: l).map Dt.str) (some ((1 : Nat) : Int)) none = l.map Dt.str := by
      rw [cut_map, cut_from]
      rfl
    rw [sl_t, show (some (1 : Int)) = some ((1 : Nat) : Int) from rfl, h]
  have i0 : ∀ S, pIx (.d (tupS (x :: l))) (.d (.int 0)) S = some (.d (.str x), S) := fun S => ix_tup (i := 0) rfl
  let g : Str := if e = "" then x else e
  have v1 : ∀ S, mIf (mTst (m2 pEq (mV 2) (mC (.str ("" : Str))))) (m2 pIx (mV 1) (mC (.int 0))) (mV 2) [some (.d (ptD (x :: l, e))), some (.d (tupS (x :: l))), some (.d (.str e))] S = .ok (.d (.str g)) S := fun S => by
    by_cases h : e = ""
    · simp only [sSeq_s, sSet_s, sRet_s, sDrop_s, sIf_s, sFor_s, sPars_s, sNil_s, sqz_nx, sqz_rt, m1_s, m2_s, mN_s, mF_s, mV_s, mC_s, aCons_s, aNil_s, aApp_s, mIf_s, mTst_s, toB_s, mTru_s, cAnd_s, cOr_s, cNot_s, cYes_s, mAnd_s, mSl_s, oPt_s, oNo_s, mFrz_s, gN_s, gT_s, List.getElem?_cons_zero, List.getElem?_cons_succ, bind_ok, to_ok, Sm.lift_some, li_some, oz_some, bz_some, nox_ok, q1, decide_eq_true h, if_true, i0, g, if_pos h]
    · simp only [sSeq_s, sSet_s, sRet_s, sDrop_s, sIf_s, sFor_s, sPars_s, sNil_s, sqz_nx, sqz_rt, m1_s, m2_s, mN_s, mF_s, mV_s, mC_s, aCons_s, aNil_s, aApp_s, mIf_s, mTst_s, toB_s, mTru_s, cAnd_s, cOr_s, cNot_s, cYes_s, mAnd_s, mSl_s, oPt_s, oNo_s, mFrz_s, gN_s, gT_s, List.getElem?_cons_zero, List.getElem?_cons_succ, bind_ok, to_ok, Sm.lift_some, li_some, oz_some, bz_some, nox_ok, q1, decide_eq_false h, g, if_neg h]
      rfl
  have a1 : aStar (mSl pSl (mV 1) (oPt (mC (.int 1))) (oNo)) (aCons (mIf (mTst (m2 pEq (mV 2) (mC (.str ("" : Str))))) (m2 pIx (mV 1) (mC (.int 0))) (mV 2)) (aNil)) [some (.d (ptD (x :: l, e))), some (.d (tupS (x :: l))), some (.d (.str e))] [] = .ok (((l ++ [g]).map Dt.str).map .d) [] := by
    have m1 : mSl pSl (mV 1) (oPt (mC (.int 1))) (oNo) [some (.d (ptD (x :: l, e))), some (.d (tupS (x :: l))), some (.d (.str e))] [] = .ok (.d (tupS l)) [] := by
      simp only [sSeq_s, sSet_s, sRet_s, sDrop_s, sIf_s, sFor_s, sPars_s, sNil_s, sqz_nx, sqz_rt, m1_s, m2_s, mN_s, mF_s, mV_s, mC_s, aCons_s, aNil_s, aApp_s, mIf_s, mTst_s, toB_s, mTru_s, cAnd_s, cOr_s, cNot_s, cYes_s, mAnd_s, mSl_s, oPt_s, oNo_s, mFrz_s, gN_s, gT_s, List.getElem?_cons_zero, List.getElem?_cons_succ, bind_ok, to_ok, Sm.lift_some, li_some, oz_some, bz_some, nox_ok, c1]
    unfold aStar
    rw [m1, bind_ok]
    show (li (some (l.map Dt.str)) []).bind _ = _
    rw [li_some, bind_ok, ex_a1 (v1 _), bind_ok, List.map_append, List.map_append]
    rfl
  have pt : pTup (((l ++ [g]).map Dt.str).map .d) [] = some (.d (tupS (l ++ [g])), []) := by
    show (match pures (((l ++ [g]).map Dt.str).map .d) with
      | some ts => if ts.length ≤ 16777216 then some (Dv.d (.tup ts), ([] : Sto)) else none
      | none => none) = _
    rw [pures_d]
    have hz' : (x :: l).length ≤ 1000 := hz
    rw [List.length_cons] at hz'
    exact if_pos (by rw [List.length_map, List.length_append]; simp; omega)
  unfold b_goals_of
  rw [sSeq_s, s1, sqz_nx]
  exact st_ret (ex_mN a1 pt)
end Hk
/-! Pk2: the names and the goals of parts; tuples in place of lists. -/
namespace Hk
open PySem PySem.Spec PyProof.Rows L2 Sm Hn
abbrev sB (k : List Str) : Bo := .lst ((k.map Dt.str).map .d)
theorem names_loop {P : Dt} : ∀ (ps : List Part) (k : List Str) (z2 z3 : Option Dv), k.length + (namesA ps).length ≤ 100000 → (∀ p ∈ ps, PyData.strOk p.2 = true) →
    ∃ y2 y3, forL (gT (gsCons (gN 2) (gsCons (gN 3) (gsNil)))) l1_names_in (ps.map ptD) [some (.d P), some (.loc 0), z2, z3] [sB k] = .nx [some (.d P), some (.loc 0), y2, y3] [sB (k ++ namesA ps)]
  | [], k, z2, z3, _, _ => ⟨z2, z3, by
    rw [show namesA ([] : List Part) = [] from rfl, List.append_nil]
    rfl⟩
  | p :: ps, k, z2, z3, hz, he => by
    obtain ⟨row, e⟩ := p
    have hn : namesA ((row, e) :: ps) = namesP (row, e) ++ namesA ps := rfl
    rw [hn, List.length_append] at hz
    have hl : (namesP (row, e)).length ≥ row.length := by
      unfold namesP
      split
      · exact Nat.le_refl _
      · simp
    have he1 := he _ List.mem_cons_self
    let ρ : Sm.Env := [some (.d P), some (.loc 0), some (.d (tupS row)), some (.d (.str e))]
    have q1 : ∀ S, pEq (.d (.str e)) (.d (.str ("" : Str))) S = some (.d (.bl (decide (e = ("" : Str)))), S) := fun S => eq_s he1 (by decide +kernel)
    have v1 : mIf (mTst (m2 pEq (mV 3) (mC (.str ("" : Str))))) (mV 2) (mN pTup (aStar (mV 2) (aCons (mV 3) (aNil)))) ρ [sB k] = .ok (.d (tupS (namesP (row, e)))) [sB k] := by
      have c1 : mTst (m2 pEq (mV 3) (mC (.str ("" : Str)))) ρ [sB k] = .ok (decide (e = ("" : Str))) [sB k] := by
        simp only [ρ, sSeq_s, sSet_s, sRet_s, sDrop_s, sIf_s, sFor_s, sPars_s, sNil_s, sqz_nx, sqz_rt, m1_s, m2_s, mN_s, mF_s, mV_s, mC_s, aCons_s, aNil_s, aApp_s, mIf_s, mTst_s, toB_s, mTru_s, cAnd_s, cOr_s, cNot_s, cYes_s, mAnd_s, mSl_s, oPt_s, oNo_s, mFrz_s, gN_s, gT_s, List.getElem?_cons_zero, List.getElem?_cons_succ, bind_ok, to_ok, Sm.lift_some, li_some, oz_some, bz_some, nox_ok, q1]
      rw [mIf_s, c1, bind_ok]
      by_cases h : e = ""
      · rw [if_pos (decide_eq_true h)]
        show _ = Rz.ok (Dv.d (tupS (if e = "" then row else row ++ [e]))) _
        rw [if_pos h]
        rfl
      · rw [if_neg (by simp [h])]
        show _ = Rz.ok (Dv.d (tupS (if e = "" then row else row ++ [e]))) _
        rw [if_neg h]
        have a1 : aStar (mV 2) (aCons (mV 3) (aNil)) ρ [sB k] = .ok (((row ++ [e]).map Dt.str).map .d) [sB k] := by
          show Rz.ok ((row.map Dt.str).map Dv.d ++ [Dv.d (.str e)]) _ = _
          rw [List.map_append, List.map_append]
          rfl
        refine ex_mN a1 ?_
        show (match pures (((row ++ [e]).map Dt.str).map .d) with
          | some ts => if ts.length ≤ 16777216 then some (Dv.d (.tup ts), [sB k]) else none
          | none => none) = _
        rw [pures_d]
        exact if_pos (by rw [List.length_map, List.length_append]; simp; omega)
    have st : l1_names_in ρ [sB k] = .nx ρ [sB (k ++ namesP (row, e))] := by
      unfold l1_names_in
      refine st_drop (d := .d .non) ?_
      show (mV 1 ρ _).bind _ = _
      rw [show mV 1 ρ [sB k] = .ok (.loc 0) [sB k] from rfl, bind_ok, if_pos (show isLs [sB k] (.loc 0) = true from rfl), ex_a1 v1, bind_ok]
      show lift (if ((k.map Dt.str).map Dv.d).length + ((namesP (row, e)).map Dt.str).length ≤ 16777216 then some (Dv.d .non, [Bo.lst ((k.map Dt.str).map Dv.d ++ ((namesP (row, e)).map Dt.str).map Dv.d)]) else none) = _
      rw [if_pos (by rw [List.length_map, List.length_map, List.length_map]; omega), ← List.map_append, ← List.map_append]
      rfl
    obtain ⟨y2, y3, ih⟩ := names_loop ps (k ++ namesP (row, e)) (some (.d (tupS row))) (some (.d (.str e))) (by rw [List.length_append]; omega) fun p hp => he p (List.mem_cons_of_mem _ hp)
    refine ⟨y2, y3, ?_⟩
    rw [List.map_cons, forL_nx (ρ1 := ρ) rfl st, hn, ← List.append_assoc]
    exact ih
theorem names_in_ok {ps : List Part} {t : Dt} (ht : seqOf (.d t) = some (ps.map ptD)) (hz : (namesA ps).length ≤ 100000) (he : ∀ p ∈ ps, PyData.strOk p.2 = true) (S : Sto) : F_names_in [.d t] S = .ok (.d (lstS (namesA ps))) S := by
  obtain ⟨y2, y3, el⟩ := names_loop (P := t) ps [] none none (by simpa using hz) he
  have fz : mFrz (mV 1) [some (.d t), some (.loc 0), y2, y3] [sB (namesA ps)] = .ok (.d (lstS (namesA ps))) [.dead] := by
    show (mV 1 _ _).bind _ = _
    rw [mV_s]
    show lift (frz (.loc 0) [sB (namesA ps)]) = _
    rw [frz_box (xs := (namesA ps).map Dt.str) rfl]
    rfl
  refine iso_ok (ts := [t]) (S' := [.dead]) (runB_rt (ds := [.d t]) rfl ?_)
  show b_names_in [some (.d t), none, none, none] [] = _
  have s1 : sSet 1 (mN pLstB (aNil)) [some (.d t), none, none, none] [] = .nx [some (.d t), some (.loc 0), none, none] [sB []] := rfl
  have it : iSeq (mV 0) [some (.d t), some (.loc 0), none, none] [sB []] = .ok (ps.map ptD) [sB []] := by
    rw [iSeq_s, mV_s]
    show (li (seqOf (.d t)) _) = _
    rw [ht, li_some]
  unfold b_names_in
  rw [sSeq_s, s1, sqz_nx, sSeq_s, st_for it el, sqz_nx]
  exact st_ret fz
/-! ### two clauses -/
theorem dc2_pure {α β : Type} (enc : α → Dt) (us : α → List β) (encB : β → Dt) (key : β → Str) (f : β → Dt) {g g1 : GM} {c c1 : M Bool} {it1 : M (List Dt)} {ek ev : M Dv} {vs1 : List Nat} {ρ : Sm.Env} {S : Sto} : ∀ (l : List α) (l0 : List Str) (xs : List Dv), (l0 ++ (l.flatMap us).map key).Nodup → l0.length + (l.flatMap us).length ≤ 16777216 →
    (∀ a ∈ l, ∃ ρ1, g (.d (enc a)) ρ = some ρ1 ∧ c ρ1 S = .ok true S ∧ it1 ρ1 S = .ok ((us a).map encB) S ∧ ∀ b ∈ us a, ∃ ρ2, g1 (.d (encB b)) (wipeE ρ1 vs1) = some ρ2 ∧ c1 ρ2 S = .ok true S ∧ ek ρ2 S = .ok (.d (.str (key b))) S ∧ ev ρ2 S = .ok (.d (f b)) S) →
    dc2L g c it1 g1 c1 ek ev vs1 ρ (l.map enc) (kS l0) xs S = .ok (kS (l0 ++ (l.flatMap us).map key), xs ++ ((l.flatMap us).map f).map .d) S
  | [], l0, xs, _, _, _ => by
    simp [dc2L]
  | a :: l, l0, xs, nd, hz, h => by
    obtain ⟨ρ1, hg, hc, hi, hb⟩ := h a List.mem_cons_self
    rw [List.flatMap_cons] at nd hz ⊢
    rw [List.length_append] at hz
    rw [List.map_append] at nd
    have e := dc_pure encB key f (g := g1) (c := c1) (ek := ek) (ev := ev) (ρ := wipeE ρ1 vs1) (S := S) (us a) l0 xs (by
      rw [← List.append_assoc] at nd
      exact (List.nodup_append.mp nd).1) hb
    have ih := dc2_pure enc us encB key f (g := g) (g1 := g1) (c := c) (c1 := c1) (it1 := it1) (ek := ek) (ev := ev) (vs1 := vs1) (ρ := ρ) (S := S) l (l0 ++ (us a).map key) (xs ++ ((us a).map f).map .d) (by rw [List.append_assoc]; exact nd) (by rw [List.length_append, List.length_map]; omega) fun b hb => h b (List.mem_cons_of_mem _ hb)
    show bz (g (.d (enc a)) ρ) _ = _
    rw [hg, bz_some, hc, nox_ok, bind_ok, if_pos rfl, hi, nox_ok, bind_ok]
    rw [if_pos (by rw [show (kS l0).length = l0.length from List.length_map _, List.length_map]; omega), e, bind_ok]
    show dc2L g c it1 g1 c1 ek ev vs1 ρ (l.map enc) (kS (l0 ++ (us a).map key)) (xs ++ ((us a).map f).map .d) S = _
    rw [ih]
    simp
theorem mDc2_pure {α β : Type} (enc : α → Dt) (us : α → List β) (encB : β → Dt) (key : β → Str) (f : β → Dt) (l : List α) {vs vs1 : List Nat} {it : M (List Dt)} {g g1 : GM} {c c1 : M Bool} {it1 : M (List Dt)} {ek ev : M Dv} {ρ : Sm.Env} {S : Sto} (hi : it ρ S = .ok (l.map enc) S) (hz0 : l.length ≤ 16777216) (nd : ((l.flatMap us).map key).Nodup) (hz : (l.flatMap us).length ≤ 16777216)
    (h : ∀ a ∈ l, ∃ ρ1, g (.d (enc a)) (wipeE ρ vs) = some ρ1 ∧ c ρ1 S = .ok true S ∧ it1 ρ1 S = .ok ((us a).map encB) S ∧ ∀ b ∈ us a, ∃ ρ2, g1 (.d (encB b)) (wipeE ρ1 vs1) = some ρ2 ∧ c1 ρ2 S = .ok true S ∧ ek ρ2 S = .ok (.d (.str (key b))) S ∧ ev ρ2 S = .ok (.d (f b)) S) :
    mDc2 pDct vs vs1 it g c it1 g1 c1 ek ev ρ S = .ok (.d (.dct (kS ((l.flatMap us).map key)) ((l.flatMap us).map f))) S := by
  show (it ρ S).bind _ = _
  rw [hi, bind_ok, if_pos (by rw [List.length_map]; exact hz0)]
  have e := dc2_pure enc us encB key f (g := g) (g1 := g1) (c := c) (c1 := c1) (it1 := it1) (ek := ek) (ev := ev) (vs1 := vs1) (ρ := wipeE ρ vs) (S := S) l [] [] (by simpa using nd) (by simpa using hz) h
  rw [List.nil_append, List.nil_append] at e
  have e' : dc2L g c it1 g1 c1 ek ev vs1 (wipeE ρ vs) (l.map enc) [] [] S = _ := e
  rw [e', bind_ok]
  show pDct (kS ((l.flatMap us).map key)) (((l.flatMap us).map f).map .d) S = _
  unfold pDct
  rw [pures_d]
theorem zpL_s : ∀ l w : List Str, zpL (l.map .str) (w.map .str) = (l.zip w).map fun p => Dt.tup [.str p.1, .str p.2]
  | [], _ => by simp [zpL]
  | _ :: _, [] => by simp [zpL]
  | a :: l, b :: w => by
    show Dt.tup [.str a, .str b] :: zpL (l.map .str) (w.map .str) = _
    rw [zpL_s l w]
    rfl
theorem goalsP_len {p : Part} (h : p.1 ≠ []) : (goalsP p).length = p.1.length := by
  unfold goalsP
  cases e : p.1 with
  | nil => exact absurd e h
  | cons x l => simp
theorem zip_keys : ∀ {ps : List Part}, (∀ p ∈ ps, p.1 ≠ []) → (ps.flatMap fun p => p.1.zip (goalsP p)).map (·.1) = moversA ps ∧ (ps.flatMap fun p => p.1.zip (goalsP p)).map (·.2) = goalsA ps
  | [], _ => ⟨rfl, rfl⟩
  | p :: ps, h => by
    have ih := zip_keys (ps := ps) fun q hq => h q (List.mem_cons_of_mem _ hq)
    have hl := goalsP_len (h p List.mem_cons_self)
    constructor
    · rw [List.flatMap_cons, List.map_append, ih.1, List.map_fst_zip (by omega)]
      rfl
    · rw [List.flatMap_cons, List.map_append, ih.2, List.map_snd_zip (by omega)]
      rfl
/-- the dict of goals -/
abbrev goD (ps : List Part) : Dt := .dct (kS (moversA ps)) ((goalsA ps).map .str)
theorem movers_sub {ps : List Part} : (moversA ps).Sublist (namesA ps) := by
  induction ps with
  | nil => exact List.Sublist.refl _
  | cons p ps ih =>
    show (p.1 ++ moversA ps).Sublist (namesP p ++ namesA ps)
    refine List.Sublist.append ?_ ih
    unfold namesP
    split
    · exact List.Sublist.refl _
    · exact List.sublist_append_left _ _
theorem part_len {p : Part} : ∀ {ps : List Part}, p ∈ ps → p.1.length ≤ (moversA ps).length
  | q :: ps, h => by
    rw [show moversA (q :: ps) = q.1 ++ moversA ps from rfl, List.length_append]
    rcases List.mem_cons.mp h with rfl | h
    · omega
    · have := part_len h
      omega
theorem goals_in_ok {ps : List Part} {t : Dt} (ht : seqOf (.d t) = some (ps.map ptD)) (hne : ∀ p ∈ ps, p.1 ≠ []) (nd : (namesA ps).Nodup) (hz : (namesA ps).length ≤ 1000) (hz2 : ps.length ≤ 1000) (he : ∀ p ∈ ps, PyData.strOk p.2 = true) (S : Sto) : F_goals_in [.d t] S = .ok (.d (goD ps)) S := by
  obtain ⟨k1, k2⟩ := zip_keys hne
  have hm : (moversA ps).length ≤ 1000 := Nat.le_trans movers_sub.length_le hz
  have hzz : (ps.flatMap fun p => p.1.zip (goalsP p)).length ≤ 1000 := by
    rw [← List.length_map (f := (·.1)), k1]
    exact hm
  have hp : ∀ p ∈ ps, p.1.length ≤ 1000 := fun p h => by
    exact Nat.le_trans (part_len h) hm
  refine iso_ok (ts := [t]) (S' := []) (runB_rt (ds := [.d t]) rfl ?_)
  show b_goals_in [some (.d t), none, none, none] [] = _
  have d1 := mDc2_pure (vs := [1, 2, 3]) (vs1 := [2, 3]) (g := gN 1) (c := cYes) (it := iSeq (mV 0)) (it1 := iRg zp2 (aCons (m2 pIx (mV 1) (mC (.int 0))) (aCons (mF F_goals_of (aCons (mV 1) (aNil))) (aNil)))) (g1 := gT (gsCons (gN 2) (gsCons (gN 3) (gsNil)))) (c1 := cYes) (ek := mV 2) (ev := mV 3) (ρ := [some (.d t), none, none, none]) (S := [])
    ptD (fun p => p.1.zip (goalsP p)) (fun q => Dt.tup [.str q.1, .str q.2]) (·.1) (fun q => Dt.str q.2) ps (by
      rw [iSeq_s, mV_s]
      show (li (seqOf (.d t)) _) = _
      rw [ht, li_some]) (by omega) (by rw [k1]; exact nd.sublist movers_sub) (by omega) fun p hpm => by
      have go := goals_of_ok (hne p hpm) (hp p hpm) (he p hpm) []
      refine ⟨[some (.d t), some (.d (ptD p)), none, none], rfl, rfl, ?_, fun q _ => ⟨[some (.d t), some (.d (ptD p)), some (.d (.str q.1)), some (.d (.str q.2))], rfl, rfl, rfl, rfl⟩⟩
      have i0 : ∀ S, pIx (.d (ptD p)) (.d (.int 0)) S = some (.d (tupS p.1), S) := fun S => ix_tup (i := 0) rfl
      refine iRg_ok (ds := [.d (tupS p.1), .d (tupS (goalsP p))]) (by simp only [sSeq_s, sSet_s, sRet_s, sDrop_s, sIf_s, sFor_s, sPars_s, sNil_s, sqz_nx, sqz_rt, m1_s, m2_s, mN_s, mF_s, mV_s, mC_s, aCons_s, aNil_s, aApp_s, mIf_s, mTst_s, toB_s, mTru_s, cAnd_s, cOr_s, cNot_s, cYes_s, mAnd_s, mSl_s, oPt_s, oNo_s, mFrz_s, gN_s, gT_s, List.getElem?_cons_zero, List.getElem?_cons_succ, bind_ok, to_ok, Sm.lift_some, li_some, oz_some, bz_some, nox_ok, i0, go]) ?_
      show some (zpL (p.1.map .str) ((goalsP p).map .str)) = _
      rw [zpL_s]
  unfold b_goals_in
  rw [sRet_s, d1, k1]
  have e2 : (ps.flatMap fun p => p.1.zip (goalsP p)).map (fun q => Dt.str q.2) = (goalsA ps).map .str := by
    rw [← k2, List.map_map]
    rfl
  rw [e2]
  rfl
end Hk
/-! Pk3: a Plan is made. -/
namespace Hk
open PySem PySem.Spec PyProof.Rows L2 Sm Hn
/-! ### tuples without a dict -/
theorem tn_str {n : Nat} {s : Str} (S : Sto) : F_tupledN (n + 1) [.d (.str s)] S = .ok (.d (.str s)) S := iso_ok (ts := [.str s]) (S' := []) rfl
theorem lstT_lx {ts : List Dt} {S : Sto} : lstT S (.d (.lst ts)) = some ts := by
  show (some (ts.map Dv.d)).bind pures = _
  rw [Option.bind_some, pures_d]
theorem tn_seq {n : Nat} {t : Dt} {xs : List Dt} {g : Dt → Dt} (ht : t = .tup xs ∨ t = .lst xs) (hz : xs.length ≤ 1000) (h : ∀ x ∈ xs, ∀ S, F_tupledN n [.d x] S = .ok (.d (g x)) S) (S : Sto) : F_tupledN (n + 1) [.d t] S = .ok (.d (.ntp (xs.map g))) S := by
  refine iso_ok (ts := [t]) (S' := []) (runB_rt (ds := [.d t]) rfl ?_)
  show b_tupledN (F_tupledN n) [some (.d t), none] [] = _
  have c1 := comp_ok (P := t) (xs := xs) (by rcases ht with rfl | rfl <;> rfl) hz h []
  have p1 : pTupleN [.d (.lst (xs.map g))] [] = some (.d (.ntp (xs.map g)), []) := by
    show (match lstT [] (Dv.d (Dt.lst (xs.map g))) with
      | some ts => some (Dv.d (Dt.ntp ts), ([] : Sto))
      | none => none) = _
    rw [lstT_lx]
  unfold b_tupledN
  refine st_ret ?_
  show mIf _ _ _ _ _ = _
  have t1 : mTru pTru (m1 (pIsa ["list", "tuple"]) (mV 0)) [some (.d t), none] [] = .ok true [] := by rcases ht with rfl | rfl <;> rfl
  have m1 := ex_mN (ex_a1 c1) p1
  rw [mIf_s, t1, bind_ok, if_pos rfl, m1]
theorem tn_strs {n : Nat} {l : List Str} {t : Dt} (ht : t = tupS l ∨ t = lstS l) (hz : l.length ≤ 1000) (S : Sto) : F_tupledN (n + 2) [.d t] S = .ok (.d (ntS l)) S := by
  have h := tn_seq (n := n + 1) (t := t) (xs := l.map .str) (g := id) ht (by rw [List.length_map]; exact hz) (fun x hx S => by
    obtain ⟨s, _, rfl⟩ := List.mem_map.mp hx
    exact tn_str S) S
  rw [List.map_id] at h
  exact h
/-! ### parts sorted -/
theorem toPys_s : ∀ l : List Str, toPys (l.map .str) = some (l.map .str)
  | [] => rfl
  | a :: l => by
    rw [List.map_cons, List.map_cons]
    simp only [toPys, toPys_s l]
    rfl
theorem toPy_pt (p : Part) : toPy (ptD p) = some (.tuple [.tuple (p.1.map .str), .str p.2]) := by
  have e : toPy (tupS p.1) = some (.tuple (p.1.map .str)) := by
    show (toPys (p.1.map .str)).map PyData.tuple = _
    rw [toPys_s]
    rfl
  show (toPys [tupS p.1, .str p.2]).map PyData.tuple = _
  simp only [toPys, e]
  rfl
theorem enc_pt (p : Part) : encT (ptD p) = .tuple [.tuple (p.1.map .str), .str p.2] := by
  unfold encT
  rw [toPy_pt]
  rfl
theorem sortChk_pts {l : List Part} (h : l.length ≤ 16777216) : sortChk (l.map ptD) = true := by
  unfold sortChk
  simp only [Bool.and_eq_true, decide_eq_true_eq, Bool.or_eq_true, List.all_eq_true]
  refine ⟨⟨⟨fun t ht => ?_, fun t ht u hu => ?_⟩, .inl fun t ht => ?_⟩, by rw [List.length_map]; omega⟩
  · obtain ⟨a, _, rfl⟩ := List.mem_map.mp ht
    refine ⟨by rw [toPy_pt]; rfl, ?_⟩
    rw [enc_pt]
    simp only [PyData.depth, PyData.depthAll, depth_strs]
    omega
  · obtain ⟨a, _, rfl⟩ := List.mem_map.mp ht
    obtain ⟨b, _, rfl⟩ := List.mem_map.mp hu
    rw [enc_pt, enc_pt]
    simp only [PySem.W.alike, PySem.W.alikeAll, alikeAll_strs, Bool.and_self]
  · obtain ⟨a, _, rfl⟩ := List.mem_map.mp ht
    rw [enc_pt]
    rfl
abbrev leP (a b : Part) : Bool := leT (ptD a) (ptD b)
def sortP (l : List Part) : List Part := l.mergeSort leP
theorem sortP_perm (l : List Part) : (sortP l).Perm l := List.mergeSort_perm _ _
theorem sortP_pw (l : List Part) : (sortP l).Pairwise fun a b => leP a b = true := List.pairwise_mergeSort (le := leP) (fun _ _ _ h h2 => leT_trans h h2) (fun _ _ => leT_total _ _) l
theorem sortP_id {l : List Part} (h : l.Pairwise fun a b => leP a b = true) : sortP l = l := List.mergeSort_of_pairwise h
theorem pSorted_pts {d : Dv} {l : List Part} (S : Sto) (hd : seqT S d = some (l.map ptD)) (h : l.length ≤ 16777216) : pSorted [d] S = some (.d (.lst ((sortP l).map ptD)), S) := by
  unfold pSorted sortP
  simp only [hd]
  rw [if_pos (sortChk_pts h), isort_leT, List.map_mergeSort (f := ptD) (r := leP) (s := leT) fun a _ b _ => rfl]
/-! ### names that stand once -/
theorem count_once {l : List Str} (nd : l.Nodup) {x : Str} (h : x ∈ l) : l.count x = 1 := by
  rw [nd.count, if_pos h]
/-- a Plan's object -/
def plO (ps : List Part) : Dt := .obj 2 [goD ps, .tup (ps.map ptD)]
/-- parts of which a Plan can be made -/
structure Wp (ps : List Part) : Prop where
  ne : ∀ p ∈ ps, p.1 ≠ []
  nd : (namesA ps).Nodup
  so : ∀ x ∈ namesA ps, PyData.strOk x = true ∧ x ≠ ""
  z : (namesA ps).length ≤ 1000
theorem turn_names {p : Part} : (namesP (turnP p)).Perm (namesP p) := by
  obtain ⟨row, e⟩ := p
  unfold namesP turnP rot
  by_cases h : e = ""
  · simp only [h, if_true]
    exact List.perm_append_comm.trans (by rw [List.take_append_drop])
  · simp only [if_neg h]
    exact List.Perm.refl _
theorem names_turn : ∀ ps : List Part, (namesA (ps.map turnP)).Perm (namesA ps)
  | [] => List.Perm.refl _
  | p :: ps => (turn_names (p := p)).append (names_turn ps)
theorem names_perm {ps qs : List Part} (h : ps.Perm qs) : (namesA ps).Perm (namesA qs) := h.flatMap_right _
theorem Wp.perm {ps qs : List Part} (w : Wp ps) (h : qs.Perm ps) : Wp qs := ⟨fun p hp => w.ne p (h.mem_iff.mp hp), (names_perm h).nodup_iff.mpr w.nd, fun x hx => w.so x ((names_perm h).mem_iff.mp hx), by rw [(names_perm h).length_eq]; exact w.z⟩
theorem Wp.turn {ps : List Part} (w : Wp ps) : Wp (ps.map turnP) := ⟨fun p hp => by
  obtain ⟨q, hq, rfl⟩ := List.mem_map.mp hp
  have h := w.ne q hq
  intro z
  have hl : (rot q.1 q.2).length = q.1.length := by
    unfold rot
    split
    · rw [List.length_append, List.length_drop, List.length_take]
      omega
    · rfl
  rw [show rot q.1 q.2 = [] from z] at hl
  exact h (List.eq_nil_of_length_eq_zero hl.symm), (names_turn ps).nodup_iff.mpr w.nd, fun x hx => w.so x ((names_turn ps).mem_iff.mp hx), by rw [(names_turn ps).length_eq]; exact w.z⟩
theorem part_sub {p : Part} {ps : List Part} (h : p ∈ ps) : ∀ x ∈ namesP p, x ∈ namesA ps := fun x hx => List.mem_flatMap.mpr ⟨p, h, hx⟩
theorem Wp.pz {ps : List Part} (w : Wp ps) {p : Part} (h : p ∈ ps) : p.1.length ≤ 1000 := Nat.le_trans (part_len h) (Nat.le_trans movers_sub.length_le w.z)
theorem Wp.pe {ps : List Part} (w : Wp ps) {p : Part} (h : p ∈ ps) : PyData.strOk p.2 = true := by
  by_cases e : p.2 = ""
  · rw [e]
    decide +kernel
  · exact (w.so p.2 (part_sub h _ (by unfold namesP; rw [if_neg e]; simp))).1
theorem Wp.zl {ps : List Part} (w : Wp ps) : ps.length ≤ 1000 := by
  have : ∀ qs : List Part, (∀ p ∈ qs, p.1 ≠ []) → qs.length ≤ (moversA qs).length := by
    intro qs
    induction qs with
    | nil => intro _; simp
    | cons p qs ih =>
      intro h
      have h1 := ih fun q hq => h q (List.mem_cons_of_mem _ hq)
      have h2 : 0 < p.1.length := List.length_pos_iff.mpr (h p List.mem_cons_self)
      rw [show moversA (p :: qs) = p.1 ++ moversA qs from rfl, List.length_append, List.length_cons]
      omega
  exact Nat.le_trans (this ps w.ne) (Nat.le_trans movers_sub.length_le w.z)
/-- the Plan of some parts -/
def planL (ps : List Part) : List Part := sortP (ps.map turnP)
theorem Wp.plan {ps : List Part} (w : Wp ps) : Wp (planL ps) := w.turn.perm (sortP_perm _)
theorem init_okF {f : Part → Dt} {ps : List Part} (w : Wp ps) (tn : ∀ S, F_tupledN 8 [.d (.tup (ps.map f))] S = .ok (.d (.ntp (ps.map ptN))) S) : F_Plan_init (.loc 0 :: (ps.map f).map .d) [.ins 2 []] = .ok (.d .non) [.ins 2 [some (.d (goD (planL ps))), some (.d (.tup ((planL ps).map ptD)))]] := by
  have wt := w.plan
  have zl := w.zl
  have zt := wt.zl
  let T : Dt := .tup (ps.map f)
  let S0 : Sto := [.ins 2 []]
  have t1 := tn
  have hb : b_Plan_init [some (.loc 0), some (.d T), none, none, none, none, none] S0 = .nx [some (.loc 0), some (.d T), some (.d (.lst ((planL ps).map ptD))), none, some (.d (lstS (namesA (planL ps)))), some (.d (.lst [])), none] [.ins 2 [some (.d (goD (planL ps))), some (.d (.tup ((planL ps).map ptD)))]] := by
    have q : Wq (fun v => v = .nx [some (.loc 0), some (.d T), some (.d (.lst ((planL ps).map ptD))), none, some (.d (lstS (namesA (planL ps)))), some (.d (.lst [])), none] [.ins 2 [some (.d (goD (planL ps))), some (.d (.tup ((planL ps).map ptD)))]]) (b_Plan_init [some (.loc 0), some (.d T), none, none, none, none, none] S0) := by
      unfold b_Plan_init
      -- found
      have l1 := mLc_pure (vs := [3]) (g := gN 3) (c := cYes) (e := mF F_turned (aCons (mV 3) (aNil))) (it := iSeq (m1 pWk (mF (F_tupledN 8) (aCons (mV 1) (aNil))))) (ρ := [some (.loc 0), some (.d T), none, none, none, none, none]) (S := S0) ptN ps (fun _ => true) (fun p => ptD (turnP p)) (by
        have wk : ∀ S, pWk (.d (.ntp (ps.map ptN))) S = some (.d (.tup (ps.map ptN)), S) := fun S => rfl
        simp only [iSeq_s, sSeq_s, sSet_s, sRet_s, sDrop_s, sIf_s, sFor_s, sPars_s, sNil_s, sqz_nx, sqz_rt, m1_s, m2_s, mN_s, mF_s, mV_s, mC_s, aCons_s, aNil_s, aApp_s, mIf_s, mTst_s, toB_s, mTru_s, cAnd_s, cOr_s, cNot_s, cYes_s, mAnd_s, mSl_s, oPt_s, oNo_s, mFrz_s, gN_s, gT_s, List.getElem?_cons_zero, List.getElem?_cons_succ, bind_ok, to_ok, Sm.lift_some, li_some, oz_some, bz_some, nox_ok, t1, T, wk]
        rfl) (by omega) fun p hp => ⟨[some (.loc 0), some (.d T), none, some (.d (ptN p)), none, none, none], rfl, rfl, fun _ => by
        have tu := turned_ok (w.ne p hp) (w.pz hp) (w.pe hp)
        simp only [sSeq_s, sSet_s, sRet_s, sDrop_s, sIf_s, sFor_s, sPars_s, sNil_s, sqz_nx, sqz_rt, m1_s, m2_s, mN_s, mF_s, mV_s, mC_s, aCons_s, aNil_s, aApp_s, mIf_s, mTst_s, toB_s, mTru_s, cAnd_s, cOr_s, cNot_s, cYes_s, mAnd_s, mSl_s, oPt_s, oNo_s, mFrz_s, gN_s, gT_s, List.getElem?_cons_zero, List.getElem?_cons_succ, bind_ok, to_ok, Sm.lift_some, li_some, oz_some, bz_some, nox_ok, tu]⟩
      rw [filter_yes, show (ps.map fun p => ptD (turnP p)) = (ps.map turnP).map ptD by rw [List.map_map]; rfl] at l1
      refine Wq.seq (ρ1 := [some (.loc 0), some (.d T), some (.d (.lst ((planL ps).map ptD))), none, none, none, none]) (S1 := S0) (st_set (ex_mN (ex_a1 l1) (pSorted_pts S0 seqT_lst (by rw [List.length_map]; omega)))) ?_
      have ni := fun S => names_in_ok (ps := planL ps) (t := .lst ((planL ps).map ptD)) rfl (by have := wt.z; omega) (fun p hp => wt.pe hp) S
      refine Wq.seq (ρ1 := [some (.loc 0), some (.d T), some (.d (.lst ((planL ps).map ptD))), none, some (.d (lstS (namesA (planL ps)))), none, none]) (S1 := S0) (st_set (by simp only [sSeq_s, sSet_s, sRet_s, sDrop_s, sIf_s, sFor_s, sPars_s, sNil_s, sqz_nx, sqz_rt, m1_s, m2_s, mN_s, mF_s, mV_s, mC_s, aCons_s, aNil_s, aApp_s, mIf_s, mTst_s, toB_s, mTru_s, cAnd_s, cOr_s, cNot_s, cYes_s, mAnd_s, mSl_s, oPt_s, oNo_s, mFrz_s, gN_s, gT_s, List.getElem?_cons_zero, List.getElem?_cons_succ, bind_ok, to_ok, Sm.lift_some, li_some, oz_some, bz_some, nox_ok, ni])) ?_
      -- none twice
      have l2 := mLc_pure (vs := [6]) (g := gN 6) (c := mTst (m2 pGt (mLm pCount (mV 4) (aCons (mV 6) (aNil))) (mC (.int 1)))) (e := mV 6) (it := iSeq (mV 4)) (ρ := [some (.loc 0), some (.d T), some (.d (.lst ((planL ps).map ptD))), none, some (.d (lstS (namesA (planL ps)))), none, none]) (S := S0) Dt.str (namesA (planL ps)) (fun _ => false) Dt.str rfl (by have := wt.z; omega) fun x hx => ⟨[some (.loc 0), some (.d T), some (.d (.lst ((planL ps).map ptD))), none, some (.d (lstS (namesA (planL ps)))), none, some (.d (.str x))], rfl, by
        have hc := count_once wt.nd hx
        have c1 : ∀ S, pCount (.d (lstS (namesA (planL ps)))) [.d (.str x)] S = some (.d (.int (1 : Nat)), S) := fun S => by
          show (match ((lstAt S (.d (lstS (namesA (planL ps))))).bind pures).bind strsOf with
            | some l => some (Dv.d (.int (l.count x : Nat)), S)
            | none => none) = _
          rw [show lstAt S (.d (lstS (namesA (planL ps)))) = some (((namesA (planL ps)).map Dt.str).map .d) from rfl, Option.bind_some, pures_d, Option.bind_some, strsOf_map]
          show some (Dv.d (.int ((namesA (planL ps)).count x : Nat)), S) = _
          rw [hc]
        let ρ6 : Sm.Env := [some (.loc 0), some (.d T), some (.d (.lst ((planL ps).map ptD))), none, some (.d (lstS (namesA (planL ps)))), none, some (.d (.str x))]
        have v4 : mV 4 ρ6 S0 = .ok (.d (lstS (namesA (planL ps)))) S0 := rfl
        have cm : mLm pCount (mV 4) (aCons (mV 6) (aNil)) ρ6 S0 = .ok (.d (.int (1 : Nat))) S0 := by
          show (mV 4 ρ6 S0).bind _ = _
          rw [v4, bind_ok, if_pos (show isLs S0 (.d (lstS (namesA (planL ps)))) = true from rfl), ex_a1 (show mV 6 ρ6 S0 = .ok (.d (.str x)) S0 from rfl), bind_ok, c1]
          rfl
        have g1 : ∀ S, pGt (.d (.int (1 : Nat))) (.d (.int 1)) S = some (.d (.bl false), S) := fun S => by
          rw [gt_i]
          rfl
        have e2 : m2 pGt (mLm pCount (mV 4) (aCons (mV 6) (aNil))) (mC (.int 1)) ρ6 S0 = .ok (.d (.bl false)) S0 := ex_m2 cm rfl (g1 S0)
        show mTst (m2 pGt (mLm pCount (mV 4) (aCons (mV 6) (aNil))) (mC (.int 1))) ρ6 S0 = _
        rw [mTst_s, e2]
        rfl, fun z => by cases z⟩
      have fe : ((namesA (planL ps)).filter fun _ => false) = [] := List.filter_eq_nil_iff.mpr fun _ _ => by simp
      rw [fe] at l2
      refine Wq.seq (ρ1 := [some (.loc 0), some (.d T), some (.d (.lst ((planL ps).map ptD))), none, some (.d (lstS (namesA (planL ps)))), some (.d (.lst [])), none]) (S1 := S0) (st_set l2) ?_
      refine Wq.seq (ρ1 := [some (.loc 0), some (.d T), some (.d (.lst ((planL ps).map ptD))), none, some (.d (lstS (namesA (planL ps)))), some (.d (.lst [])), none]) (S1 := S0) (st_if_f (S1 := S0) rfl rfl) ?_
      have tp : ∀ S, pTuple [.d (.lst ((planL ps).map ptD))] S = some (.d (.tup ((planL ps).map ptD)), S) := fun S => pTuple_lst
      refine Wq.seq (ρ1 := [some (.loc 0), some (.d T), some (.d (.lst ((planL ps).map ptD))), none, some (.d (lstS (namesA (planL ps)))), some (.d (.lst [])), none]) (S1 := [.ins 2 [none, some (.d (.tup ((planL ps).map ptD)))]]) (sFld_is (n := 0) (c := 2) (i := 1) (d := .d (.tup ((planL ps).map ptD))) (fs := []) rfl (ex_mN (ex_a1 rfl) (tp _)) rfl) ?_
      have gi := goals_in_ok (ps := planL ps) (t := .lst ((planL ps).map ptD)) rfl wt.ne wt.nd wt.z zt (fun p hp => wt.pe hp)
      let ρL : Sm.Env := [some (.loc 0), some (.d T), some (.d (.lst ((planL ps).map ptD))), none, some (.d (lstS (namesA (planL ps)))), some (.d (.lst [])), none]
      let SL : Sto := [.ins 2 [none, some (.d (.tup ((planL ps).map ptD)))]]
      have hg : mF F_goals_in (aCons (mV 2) (aNil)) ρL SL = .ok (.d (goD (planL ps))) SL := ex_mF (ex_a1 (d := .d (.lst ((planL ps).map ptD))) rfl) (gi _)
      exact Wq.one (sFld_is (S := SL) (ρ := ρL) (n := 0) (c := 2) (i := 0) (d := .d (goD (planL ps))) (fs := [none, some (.d (.tup ((planL ps).map ptD)))]) rfl hg rfl) rfl
    exact q
  have hr : runB 7 2 b_Plan_init [.loc 0, .d T] S0 = .ok (.d .non) [.ins 2 [some (.d (goD (planL ps))), some (.d (.tup ((planL ps).map ptD)))]] := runB_nx (ds := [.loc 0, .d T]) rfl hb
  show (match pures ((ps.map f).map .d) with
    | some ts => if 1 ≤ ((ps.map f).map Dv.d).length + 1 ∧ ts.length ≤ 16777216 then runB 7 2 b_Plan_init [.loc 0, .d (.tup ts)] S0 else .bad
    | none => .bad) = _
  rw [pures_d]
  show (if 1 ≤ ((ps.map f).map Dv.d).length + 1 ∧ (ps.map f).length ≤ 16777216 then _ else _) = _
  rw [if_pos ⟨by omega, by rw [List.length_map]; omega⟩]
  exact hr
theorem make_okF {f : Part → Dt} {ps : List Part} (w : Wp ps) (tn : ∀ S, F_tupledN 8 [.d (.tup (ps.map f))] S = .ok (.d (.ntp (ps.map ptN))) S) (S : Sto) : isoMk 2 F_Plan_init ((ps.map f).map .d) S = .ok (.d (plO (planL ps))) S := by
  refine iso_ok (ts := ps.map f) (S' := [.dead]) ?_
  show (Rz.bind (F_Plan_init (.loc 0 :: (ps.map f).map .d) [.ins 2 []]) _).bind _ = _
  rw [init_okF w tn]
  rfl
theorem of_okF {f : Part → Dt} {ps : List Part} {t : Dt} (ht : seqOf (.d t) = some (ps.map f)) (w : Wp ps) (tn : ∀ S, F_tupledN 8 [.d (.tup (ps.map f))] S = .ok (.d (.ntp (ps.map ptN))) S) (S : Sto) : F_Plan_of [.d t] S = .ok (.d (plO (planL ps))) S := by
  refine iso_ok (ts := [t]) (S' := []) ?_
  show (match b_Plan_of [none, some (.d t)] [] with
    | .nx _ S' => (Rz.ok (Dv.d .non) S' : Rz Dv)
    | .rt d S' => .ok d S'
    | .er c t _ S' => .er c t S'
    | _ => .bad) = _
  have a1 : aStar (mV 1) aNil [none, some (.d t)] [] = .ok ((ps.map f).map .d) [] := by
    show (li (seqOf (.d t)) []).bind _ = _
    rw [ht, li_some, bind_ok]
    show Rz.ok ((ps.map f).map Dv.d ++ []) _ = _
    rw [List.append_nil]
  have e : b_Plan_of [none, some (.d t)] [] = .rt (.d (plO (planL ps))) [] := by
    unfold b_Plan_of
    exact st_ret (ex_mF a1 (make_okF w tn []))
  rw [e]
/-! ### parts told as lists -/
abbrev ptL (p : Part) : Dt := .lst [lstS p.1, .str p.2]
theorem tn_partL {n : Nat} {p : Part} (hz : p.1.length ≤ 1000) (S : Sto) : F_tupledN (n + 3) [.d (ptL p)] S = .ok (.d (ptN p)) S := by
  have h := tn_seq (n := n + 2) (t := ptL p) (xs := [lstS p.1, .str p.2]) (g := fun t => match t with | .lst xs => .ntp xs | t => t) (.inr rfl) (by show 2 ≤ 1000; omega) (fun x hx S => by
    rcases List.mem_cons.mp hx with rfl | hx
    · exact tn_strs (.inr rfl) hz S
    · rw [List.mem_singleton.mp hx]
      exact tn_str S) S
  exact h
theorem tn_partsL {ps : List Part} (hz : ps.length ≤ 1000) (hp : ∀ p ∈ ps, p.1.length ≤ 1000) (S : Sto) : F_tupledN 8 [.d (.tup (ps.map ptL))] S = .ok (.d (.ntp (ps.map ptN))) S := by
  have h := tn_seq (n := 7) (t := .tup (ps.map ptL)) (xs := ps.map ptL) (g := fun t => match t with | .lst [.lst a, e] => .ntp [.ntp a, e] | t => t) (.inl rfl) (by rw [List.length_map]; exact hz) (fun x hx S => by
    obtain ⟨p, hpm, rfl⟩ := List.mem_map.mp hx
    exact tn_partL (n := 4) (hp p hpm) S) S
  rw [List.map_map] at h
  exact h
theorem of_lists {ps : List Part} (w : Wp ps) (S : Sto) : F_Plan_of [.d (.lst (ps.map ptL))] S = .ok (.d (plO (planL ps))) S := of_okF (f := ptL) rfl w (tn_partsL w.zl fun p hp => w.pz hp) S
end Hk
/-! Pk4: what a Plan tells. -/
namespace Hk
open PySem PySem.Spec PyProof.Rows L2 Sm Hn
section
variable {ps : List Part}
theorem is_pl {S : Sto} : isIns 2 (.d (plO ps)) S = true := rfl
theorem parts_ok (S : Sto) : F_Plan_parts [.d (plO ps)] S = .ok (.d (.tup (ps.map ptD))) S := by
  refine iso_ok (ts := [plO ps]) (S' := []) (runB_rt (ds := [.d (plO ps)]) rfl ?_)
  rfl
end
end Hk
/-! Pk5: drawn parts. -/
namespace Hk
open PySem PySem.Spec PyProof.Rows L2 Sm Hn
/-! ### a ring turned twice -/
theorem dlt {a b : Str} : PySem.W.dataLt (.str a) (.str b) = !leS b a := by
  rw [← leT_str b a]
  show _ = !(!PySem.W.dataLt (.str a) (.str b))
  rw [Bool.not_not]
theorem minTx_le : ∀ (l : List Str) (x : Str), ∀ y ∈ x :: l, leS (minTx x l) y = true
  | [], x, y, hy => by
    rw [List.mem_singleton.mp hy]
    exact leS_refl x
  | z :: l, x, y, hy => by
    have e : minTx x (z :: l) = minTx (if PySem.W.dataLt (.str z) (.str x) then z else x) l := rfl
    rw [e]
    have ih := minTx_le l (if PySem.W.dataLt (.str z) (.str x) then z else x)
    have h0 := ih _ List.mem_cons_self
    rcases List.mem_cons.mp hy with rfl | hy
    · refine leS_trans h0 ?_
      rw [dlt]
      by_cases q : leS y z = true
      · rw [q]
        exact leS_refl _
      · have q' : leS y z = false := by simpa using q
        rw [q']
        have := leS_total y z
        rw [q', Bool.false_or] at this
        exact this
    · rcases List.mem_cons.mp hy with rfl | hy
      · refine leS_trans h0 ?_
        rw [dlt]
        by_cases q : leS x y = true
        · rw [q]
          exact q
        · have q' : leS x y = false := by simpa using q
          rw [q']
          exact leS_refl _
      · exact ih y (List.mem_cons_of_mem _ hy)
theorem rot_perm (row : List Str) (e : Str) : (rot row e).Perm row := by
  unfold rot
  split
  · exact List.perm_append_comm.trans (by rw [List.take_append_drop])
  · exact List.Perm.refl _
theorem rot_twice (row : List Str) (e : Str) : rot (rot row e) e = rot row e := by
  by_cases h : e = ""
  · subst h
    cases hr : row with
    | nil => rfl
    | cons x l =>
      have hk : (x :: l).idxOf (minTx x l) < (x :: l).length := List.idxOf_lt_length_iff.mpr (minTx_mem x l)
      have e1 : rot (x :: l) "" = (x :: l).drop ((x :: l).idxOf (minTx x l)) ++ (x :: l).take ((x :: l).idxOf (minTx x l)) := if_pos rfl
      have e2 : (x :: l).drop ((x :: l).idxOf (minTx x l)) = minTx x l :: (x :: l).drop ((x :: l).idxOf (minTx x l) + 1) := by
        rw [List.drop_eq_getElem_cons hk, List.getElem_idxOf]
      rw [e2] at e1
      have hp := rot_perm (x :: l) ""
      rw [e1] at hp ⊢
      rw [List.cons_append] at hp ⊢
      generalize (x :: l).drop ((x :: l).idxOf (minTx x l) + 1) ++ (x :: l).take ((x :: l).idxOf (minTx x l)) = rest at hp ⊢
      have em : minTx (minTx x l) rest = minTx x l := by
        refine leS_anti (minTx_le rest (minTx x l) _ List.mem_cons_self) ?_
        exact minTx_le l x _ (hp.mem_iff.mp (minTx_mem _ _))
      show (if ("" : Str) = "" then _ else _) = _
      rw [if_pos rfl]
      show List.drop ((minTx x l :: rest).idxOf (minTx (minTx x l) rest)) (minTx x l :: rest) ++ List.take ((minTx x l :: rest).idxOf (minTx (minTx x l) rest)) (minTx x l :: rest) = _
      rw [em, List.idxOf_cons_self]
      simp
  · unfold rot
    simp only [if_neg h]
/-! ### the law's own turning -/
/-! ### the last of a list -/
theorem lastD {l : List Str} (h : l ≠ []) : l.getLastD "" = l.getLast h := by
  match l, h with
  | x :: l, _ => simp [List.getLastD]
theorem ix_last {l : List Str} (h : l ≠ []) {S : Sto} : pIx (.d (lstS l)) (.d (.int (-1))) S = some (.d (.str (l.getLastD "")), S) := by
  have hp : 0 < l.length := List.length_pos_iff.mpr h
  have e : L2.atI ((l.map Dt.str).map Dv.d) (-1) = some (.d (.str (l.getLastD ""))) := by
    have e1 : L2.ixN ((l.map Dt.str).map Dv.d).length (-1) = some (l.length - 1) := by
      rw [List.length_map, List.length_map]
      unfold L2.ixN
      rw [if_neg (by decide), if_pos (by omega)]
      congr 1
      omega
    unfold L2.atI
    rw [e1, Option.bind_some, List.getElem?_map, List.getElem?_map, List.getElem?_eq_getElem (by omega), lastD h, List.getLast_eq_getElem]
    rfl
  show (match L2.atI ((l.map Dt.str).map Dv.d) (-1) with
    | some x => some (x, S)
    | none => none) = _
  rw [e]
/-! ### drawn parts -/
/-- parts found so far, the names that are left -/
structure Fnd (pool : List Str) (fs : List Part) (left : List Str) : Prop where
  ne : ∀ p ∈ fs, p.1 ≠ []
  nd : (namesA fs ++ left).Nodup
  sub : ∀ x ∈ namesA fs ++ left, x ∈ pool
  tr : ∀ p ∈ fs, turnP p = p
abbrev pB (fs : List Part) : Bo := .lst ((fs.map ptD).map .d)
end Hk
/-! Pk6: the law's own of drawn parts. -/
namespace Hk
open PySem PySem.Spec PyProof.Rows L2 Sm Hn
/-- what is known of drawn parts -/
structure Bits (pool : List Str) (ps : List Part) : Prop where
  w : Wp ps
  sub : ∀ x ∈ namesA ps, x ∈ pool
  tr : ∀ p ∈ ps, turnP p = p
  asc : ps.Pairwise fun a b => leP a b = true
theorem Bits.plan {pool : List Str} {ps : List Part} (b : Bits pool ps) : planL ps = ps := by
  have e : ps.map turnP = ps := by
    rw [List.map_congr_left b.tr, List.map_id']
  unfold planL
  rw [e]
  exact sortP_id b.asc
end Hk
/-! K66A: how many still move, in plain mathematics. -/
namespace K66
open PySem PySem.Spec PyProof.Rows L2 Sm Hn Hk
abbrev sz (ps : List Part) : List Nat := ps.map fun p => p.1.length
abbrev cnt (ps : List Part) : Nat := (sz ps).sum
def hits (off l : List Str) : List Nat := (List.range l.length).filter fun k => decide ((l[k]?).getD ("" : Str) ∈ off)
def restP (off : List Str) (p : Part) : List Part := if hits off p.1 = [] then [p] else if p.2 ≠ "" ∧ (hits off p.1).getLastD 0 + 1 < p.1.length then [(p.1.drop ((hits off p.1).getLastD 0 + 1), p.2)] else []
abbrev restA (off : List Str) (ps : List Part) : List Part := ps.flatMap (restP off)
def hit (off : List Str) (p : Part) : Bool := p.1.any fun x => decide (x ∈ off)
theorem drop_step : ∀ (s : List Nat) (m a : Nat), (∀ x ∈ s, x ≤ a) → (s.drop m).sum ≤ a + (s.drop (m + 1)).sum := by
  intro s m a h
  by_cases q : m < s.length
  · rw [List.drop_eq_getElem_cons q, List.sum_cons]
    have := h _ (List.getElem_mem q)
    omega
  · rw [List.drop_of_length_le (by omega)]
    simp
theorem sum_drop_le {q s : List Nat} (h : q.Sublist s) : s.Pairwise (· ≥ ·) → ∀ m, s.length ≤ q.length + m → (s.drop m).sum ≤ q.sum := by
  induction h with
  | slnil =>
    intro _ m _
    simp
  | @cons q s a h ih =>
    intro pw m hl
    have hq := h.length_le
    rw [List.length_cons] at hl
    match m with
    | 0 => omega
    | m + 1 =>
      rw [List.drop_succ_cons]
      exact ih (List.pairwise_cons.mp pw).2 m (by omega)
  | @cons_cons q s a h ih =>
    intro pw m hl
    rw [List.length_cons, List.length_cons] at hl
    have pc := List.pairwise_cons.mp pw
    match m with
    | 0 =>
      have := ih pc.2 0 (by omega)
      rw [List.drop_zero] at this ⊢
      rw [List.sum_cons, List.sum_cons]
      omega
    | m + 1 =>
      rw [List.drop_succ_cons, List.sum_cons]
      have h1 := ih pc.2 (m + 1) (by omega)
      have h2 := drop_step s m a fun x hx => pc.1 x hx
      omega
theorem hits_nil {off l : List Str} : hits off l = [] ↔ ∀ x ∈ l, x ∉ off := by
  unfold hits
  rw [List.filter_eq_nil_iff]
  constructor
  · intro h x hx q
    obtain ⟨i, hi, rfl⟩ := List.mem_iff_getElem.mp hx
    refine h i (List.mem_range.mpr hi) ?_
    rw [List.getElem?_eq_getElem hi]
    exact decide_eq_true q
  · intro h k hk q
    have hk' := List.mem_range.mp hk
    rw [List.getElem?_eq_getElem hk'] at q
    exact h _ (List.getElem_mem hk') (of_decide_eq_true q)
theorem hit_f {off : List Str} {p : Part} : hit off p = false ↔ ∀ x ∈ p.1, x ∉ off := by
  unfold hit
  rw [List.any_eq_false]
  constructor
  · intro h x hx q
    exact h x hx (decide_eq_true q)
  · intro h x hx q
    exact h x hx (of_decide_eq_true q)
theorem rest_un {off : List Str} {p : Part} (h : ∀ x ∈ p.1, x ∉ off) : restP off p = [p] := if_pos (hits_nil.mpr h)
theorem rest_low (off : List Str) : ∀ ps : List Part, cnt (ps.filter fun p => !hit off p) ≤ cnt (restA off ps)
  | [] => Nat.le_refl _
  | p :: ps => by
    have ih := rest_low off ps
    have e : cnt (restA off (p :: ps)) = cnt (restP off p) + cnt (restA off ps) := by
      show (List.map _ (restP off p ++ restA off ps)).sum = _
      rw [List.map_append, List.sum_append]
    rw [e, List.filter_cons]
    by_cases h : hit off p = false
    · rw [h]
      show cnt (p :: _) ≤ _
      rw [rest_un (hit_f.mp h)]
      show p.1.length + cnt _ ≤ (p.1.length + 0) + _
      omega
    · rw [if_neg (by simpa using h)]
      omega
theorem hit_few (off : List Str) : ∀ ps : List Part, (ps.filter fun p => hit off p).length ≤ ((moversA ps).filter fun x => decide (x ∈ off)).length
  | [] => Nat.le_refl _
  | p :: ps => by
    have ih := hit_few off ps
    rw [show moversA (p :: ps) = p.1 ++ moversA ps from rfl, List.filter_append, List.length_append, List.filter_cons]
    by_cases h : hit off p = true
    · rw [if_pos h, List.length_cons]
      have : 0 < (p.1.filter fun x => decide (x ∈ off)).length := by
        obtain ⟨x, hx, q⟩ := List.any_eq_true.mp h
        exact List.length_pos_of_mem (List.mem_filter.mpr ⟨hx, q⟩)
      omega
    · rw [if_neg h]
      omega
theorem low {ps : List Part} (nd : (moversA ps).Nodup) (ds : (sz ps).Pairwise (· ≥ ·)) {off : List Str} {m : Nat} (h : off.length ≤ m) : ((sz ps).drop m).sum ≤ cnt (restA off ps) := by
  have h1 := hit_few off ps
  have h2 : ((moversA ps).filter fun x => decide (x ∈ off)).length ≤ off.length := List.Nodup.length_le_of_subset (nd.sublist List.filter_sublist) fun x hx => of_decide_eq_true (List.mem_filter.mp hx).2
  have h3 : (ps.filter fun p => hit off p).length + (ps.filter fun p => !hit off p).length = ps.length := by
    have := (List.filter_append_perm (fun p => hit off p) ps).length_eq
    rwa [List.length_append] at this
  refine Nat.le_trans (sum_drop_le (q := sz (ps.filter fun p => !hit off p)) (List.filter_sublist.map _) ds m ?_) (rest_low off ps)
  rw [List.length_map, List.length_map]
  omega
theorem hits_last {off l : List Str} (h : l ≠ []) (q : l.getLastD "" ∈ off) : hits off l ≠ [] ∧ (hits off l).getLastD 0 + 1 = l.length := by
  have hp : 0 < l.length := List.length_pos_iff.mpr h
  have e : hits off l = ((List.range (l.length - 1)).filter fun k => decide ((l[k]?).getD ("" : Str) ∈ off)) ++ [l.length - 1] := by
    unfold hits
    rw [show List.range l.length = List.range (l.length - 1) ++ [l.length - 1] by rw [← List.range_succ]; congr 1; omega, List.filter_append]
    congr 1
    rw [List.filter_cons, if_pos, List.filter_nil]
    rw [List.getElem?_eq_getElem (by omega)]
    refine decide_eq_true ?_
    rw [lastD h, List.getLast_eq_getElem] at q
    exact q
  rw [e]
  refine ⟨by simp, ?_⟩
  simp
  omega
theorem rest_hit {off : List Str} {p : Part} (h : p.1 ≠ []) (q : p.1.getLastD "" ∈ off) : restP off p = [] := by
  obtain ⟨h1, h2⟩ := hits_last h q
  unfold restP
  rw [if_neg h1, if_neg (by omega)]
theorem rest_same {o1 o2 : List Str} {ps : List Part} (h : ∀ x ∈ moversA ps, x ∈ o1 ↔ x ∈ o2) : restA o1 ps = restA o2 ps := by
  have : ∀ p ∈ ps, restP o1 p = restP o2 p := fun p hp => by
    have e : hits o1 p.1 = hits o2 p.1 := by
      unfold hits
      refine List.filter_congr fun k hk => ?_
      have hk' := List.mem_range.mp hk
      rw [List.getElem?_eq_getElem hk']
      exact decide_eq_decide.mpr (h _ (List.mem_flatMap.mpr ⟨p, hp, List.getElem_mem hk'⟩))
    unfold restP
    rw [e]
  show ps.flatMap _ = ps.flatMap _
  rw [List.flatMap_def, List.flatMap_def, List.map_congr_left this]
/-- parts by their size, greatest first -/
def byS (ps : List Part) : List Part := ps.mergeSort fun a b => decide (b.1.length ≤ a.1.length)
theorem byS_perm (ps : List Part) : (byS ps).Perm ps := List.mergeSort_perm _ _
theorem byS_desc (ps : List Part) : (sz (byS ps)).Pairwise (· ≥ ·) := by
  have := List.pairwise_mergeSort (le := fun a b : Part => decide (b.1.length ≤ a.1.length)) (fun a b c h1 h2 => decide_eq_true (by have := of_decide_eq_true h1; have := of_decide_eq_true h2; omega)) (fun a b => by
    by_cases h : b.1.length ≤ a.1.length
    · simp [h]
    · have : a.1.length ≤ b.1.length := by omega
      simp [this]) ps
  exact List.pairwise_map.mpr (this.imp fun h => of_decide_eq_true h)
theorem movers_perm {ps qs : List Part} (h : ps.Perm qs) : (moversA ps).Perm (moversA qs) := h.flatMap_right _
theorem cnt_perm {ps qs : List Part} (h : ps.Perm qs) : cnt ps = cnt qs := (h.map _).sum_nat
/-- how many still move -/
def safe (ps : List Part) (m : Nat) : Nat := ((sz (byS ps)).drop m).sum
theorem safe_low {ps : List Part} (nd : (moversA ps).Nodup) {off : List Str} {m : Nat} (h : off.length ≤ m) : safe ps m ≤ cnt (restA off ps) := by
  have p := byS_perm ps
  have := low (off := off) (m := m) ((movers_perm p).nodup_iff.mpr nd) (byS_desc ps) h
  rw [cnt_perm (p.flatMap_right (restP off))] at this
  exact this
/-! ### the sets -/
def setsL (m : Nat) : List Str → List (List Str) → List (List Str)
  | [], f => f
  | x :: l, f => setsL m l (f ++ (f.filter fun a => decide (a.length < m)).map (· ++ [x]))
theorem sets_in {m : Nat} : ∀ {l : List Str} {f : List (List Str)} {a t : List Str}, a ∈ f → t.Sublist l → (a ++ t).length ≤ m → a ++ t ∈ setsL m l f
  | [], f, a, t, ha, ht, hl => by
    rw [List.sublist_nil.mp ht, List.append_nil]
    exact ha
  | x :: l, f, a, t, ha, ht, hl => by
    cases ht with
    | cons _ ht =>
      show a ++ t ∈ setsL m l (f ++ (f.filter fun a => decide (a.length < m)).map (· ++ [x]))
      exact sets_in (List.mem_append_left _ ha) ht hl
    | @cons_cons t' _ _ ht =>
      rw [show a ++ x :: t' = (a ++ [x]) ++ t' by simp] at hl ⊢
      show (a ++ [x]) ++ t' ∈ setsL m l (f ++ (f.filter fun a => decide (a.length < m)).map (· ++ [x]))
      refine sets_in (List.mem_append_right _ (List.mem_map.mpr ⟨a, List.mem_filter.mpr ⟨ha, decide_eq_true ?_⟩, rfl⟩)) ht hl
      rw [List.length_append, List.length_append, List.length_singleton] at hl
      omega
theorem sets_len {m : Nat} : ∀ {l : List Str} {f : List (List Str)}, (∀ a ∈ f, a.length ≤ m) → ∀ a ∈ setsL m l f, a.length ≤ m
  | [], f, h => h
  | x :: l, f, h => sets_len (l := l) fun a ha => by
    rcases List.mem_append.mp ha with q | q
    · exact h a q
    · obtain ⟨b, hb, rfl⟩ := List.mem_map.mp q
      have := of_decide_eq_true (List.mem_filter.mp hb).2
      rw [List.length_append, List.length_singleton]
      omega
theorem sets_z {m : Nat} : ∀ {l : List Str} {f : List (List Str)}, (setsL m l f).length ≤ f.length * 2 ^ l.length
  | [], f => by simp [setsL]
  | x :: l, f => by
    refine Nat.le_trans (sets_z (l := l)) ?_
    have h : (f.filter fun a => decide (a.length < m)).length ≤ f.length := List.length_filter_le _ _
    rw [List.length_append, List.length_map, List.length_cons, Nat.pow_succ, Nat.mul_comm (2 ^ l.length) 2, ← Nat.mul_assoc]
    exact Nat.mul_le_mul_right _ (by omega)
end K66
/-! K67P: what the program and the law compute. -/
namespace K67
open PySem PySem.Spec PyProof.Rows L2 Sm Hn Hk K66
abbrev inD (n : Nat) : Dt := .int (n : Int)
theorem sum_ok {l : List Int} {S : Sto} : pSum [.d (.lst (l.map .int))] S = some (.d (.int l.sum), S) := by
  show (match ((some ((l.map Dt.int).map Dv.d)).bind pures).bind intsOf with
    | some bs => some (Dv.d (.int bs.sum), S)
    | none => none) = _
  rw [Option.bind_some, pures_d, Option.bind_some, Hn.intsOf_map]
theorem sum_nat : ∀ l : List Nat, (l.map fun n : Nat => (n : Int)).sum = ((l.sum : Nat) : Int)
  | [] => rfl
  | a :: l => by
    rw [List.map_cons, List.sum_cons, List.sum_cons, sum_nat l]
    omega
theorem count_ok {ps : List Part} (hz : ps.length ≤ 1000) (S : Sto) : F__law_count [.d (.tup (ps.map ptD))] S = .ok (.d (inD (cnt ps))) S := by
  refine iso_ok (ts := [.tup (ps.map ptD)]) (S' := []) (runB_rt (ds := [.d (.tup (ps.map ptD))]) rfl ?_)
  show b__law_count [some (.d (.tup (ps.map ptD))), none] [] = _
  have h := mLc_pure (vs := [1]) (g := gN 1) (c := cYes) (e := mN pLen (aCons (m2 pIx (mV 1) (mC (.int 0))) (aNil))) (it := iSeq (mV 0)) (ρ := [some (.d (.tup (ps.map ptD))), none]) (S := []) ptD ps (fun _ => true) (fun p => inD p.1.length) rfl (by omega) fun p _ => ⟨[some (.d (.tup (ps.map ptD))), some (.d (ptD p))], rfl, rfl, fun _ => ex_mN (ex_a1 (d := .d (tupS p.1)) rfl) len_t⟩
  rw [filter_yes, show (ps.map fun p => inD p.1.length) = ((sz ps).map fun n : Nat => (n : Int)).map Dt.int by rw [List.map_map, List.map_map]; rfl] at h
  have su : pSum [.d (.lst (((sz ps).map fun n : Nat => (n : Int)).map Dt.int))] [] = some (.d (inD (cnt ps)), []) := by
    rw [sum_ok, sum_nat]
  unfold b__law_count
  exact st_ret (ex_mN (ex_a1 h) su)
theorem sorted_seq {d : Dv} {l : List Str} {S : Sto} (hd : seqT S d = some (l.map .str)) (h : l.length ≤ 1000) : pSorted [d] S = some (.d (lstS (sortS l)), S) := by
  unfold pSorted
  simp only [hd]
  rw [if_pos (sortChk_strs h), sort_strs]
/-! ### all names -/
theorem all_loop {P : Dt} : ∀ (ps : List Part) (k : List Str) (z2 z3 : Option Dv), k.length + (moversA ps).length ≤ 100000 →
    ∃ y2 y3, forL (gT (gsCons (gN 2) (gsCons (gN 3) (gsNil)))) l1__law_all_in (ps.map ptD) [some (.d P), some (.loc 0), z2, z3] [sB k] = .nx [some (.d P), some (.loc 0), y2, y3] [sB (k ++ moversA ps)]
  | [], k, z2, z3, _ => ⟨z2, z3, by
    rw [show moversA ([] : List Part) = [] from rfl, List.append_nil]
    rfl⟩
  | p :: ps, k, z2, z3, hz => by
    have hn : moversA (p :: ps) = p.1 ++ moversA ps := rfl
    rw [hn, List.length_append] at hz
    let ρ : Sm.Env := [some (.d P), some (.loc 0), some (.d (tupS p.1)), some (.d (.str p.2))]
    have st : l1__law_all_in ρ [sB k] = .nx ρ [sB (k ++ p.1)] := by
      unfold l1__law_all_in
      refine st_drop (d := .d .non) ?_
      show (mV 1 ρ _).bind _ = _
      rw [show mV 1 ρ [sB k] = .ok (.loc 0) [sB k] from rfl, bind_ok, if_pos (show isLs [sB k] (.loc 0) = true from rfl), ex_a1 (d := .d (tupS p.1)) (S1 := [sB k]) rfl, bind_ok]
      show lift (if ((k.map Dt.str).map Dv.d).length + (p.1.map Dt.str).length ≤ 16777216 then some (Dv.d .non, [Bo.lst ((k.map Dt.str).map Dv.d ++ (p.1.map Dt.str).map Dv.d)]) else none) = _
      rw [if_pos (by rw [List.length_map, List.length_map, List.length_map]; omega), ← List.map_append, ← List.map_append]
      rfl
    obtain ⟨y2, y3, ih⟩ := all_loop ps (k ++ p.1) (some (.d (tupS p.1))) (some (.d (.str p.2))) (by rw [List.length_append]; omega)
    refine ⟨y2, y3, ?_⟩
    rw [List.map_cons, forL_nx (ρ1 := ρ) rfl st, hn, ← List.append_assoc]
    exact ih
theorem all_ok {ps : List Part} (hz : (moversA ps).length ≤ 1000) (S : Sto) : F__law_all_in [.d (.tup (ps.map ptD))] S = .ok (.d (lstS (sortS (moversA ps)))) S := by
  obtain ⟨y2, y3, el⟩ := all_loop (P := .tup (ps.map ptD)) ps [] none none (by simp; omega)
  refine iso_ok (ts := [.tup (ps.map ptD)]) (S' := [sB (moversA ps)]) (runB_rt (ds := [.d (.tup (ps.map ptD))]) rfl ?_)
  show b__law_all_in [some (.d (.tup (ps.map ptD))), none, none, none] [] = _
  have s1 : sSet 1 (mN pLstB (aNil)) [some (.d (.tup (ps.map ptD))), none, none, none] [] = .nx [some (.d (.tup (ps.map ptD))), some (.loc 0), none, none] [sB []] := rfl
  have it : iSeq (mV 0) [some (.d (.tup (ps.map ptD))), some (.loc 0), none, none] [sB []] = .ok (ps.map ptD) [sB []] := rfl
  have so : pSorted [.loc 0] [sB (moversA ps)] = some (.d (lstS (sortS (moversA ps))), [sB (moversA ps)]) := sorted_seq (l := moversA ps) (by
    show (some (((moversA ps).map Dt.str).map Dv.d)).bind pures = _
    rw [Option.bind_some, pures_d]) (by omega)
  unfold b__law_all_in
  rw [sSeq_s, s1, sqz_nx, sSeq_s, st_for it el, sqz_nx]
  exact st_ret (ex_mN (ex_a1 (d := .loc 0) rfl) so)
/-! ### the sets -/
theorem sets_loop {m : Nat} {P : Dt} : ∀ (l : List Str) (f : List (List Str)) (z3 z4 : Option Dv), f.length * 2 ^ l.length ≤ 100000 → (∀ a ∈ f, a.length ≤ m) → m ≤ 1000 →
    ∃ y3 y4, forL (gN 3) l1__law_sets (l.map .str) [some (.d P), some (.d (inD m)), some (.d (.lst (f.map tupS))), z3, z4] [] = .nx [some (.d P), some (.d (inD m)), some (.d (.lst ((setsL m l f).map tupS))), y3, y4] []
  | [], f, z3, z4, _, _, _ => ⟨z3, z4, rfl⟩
  | x :: l, f, z3, z4, hz, hf, hm => by
    rw [List.length_cons, Nat.pow_succ, Nat.mul_comm (2 ^ l.length) 2, ← Nat.mul_assoc] at hz
    have hp : 0 < 2 ^ l.length := Nat.two_pow_pos _
    have hfz : f.length * 2 ≤ 100000 := Nat.le_trans (Nat.le_mul_of_pos_right _ hp) hz
    let ρ : Sm.Env := [some (.d P), some (.d (inD m)), some (.d (.lst (f.map tupS))), some (.d (.str x)), z4]
    have h := mLc_pure (vs := [4]) (g := gN 4) (c := mTst (m2 pLt (mN pLen (aCons (mV 4) (aNil))) (mV 1))) (e := m2 pAdd (mV 4) (mN pTup (aCons (mV 3) (aNil)))) (it := iSeq (mV 2)) (ρ := ρ) (S := []) tupS f (fun a => decide (a.length < m)) (fun a => tupS (a ++ [x])) rfl (by omega) fun a ha => ⟨[some (.d P), some (.d (inD m)), some (.d (.lst (f.map tupS))), some (.d (.str x)), some (.d (tupS a))], rfl, by
      have ln : ∀ S, pLen [.d (tupS a)] S = some (.d (.int (a.length : Int)), S) := fun S => len_t
      have lt : ∀ S, pLt (.d (.int (a.length : Int))) (.d (inD m)) S = some (.d (.bl (decide (a.length < m))), S) := fun S => by
        rw [lt_i]
        congr 4
        exact decide_eq_decide.mpr (by omega)
      simp only [sSeq_s, sSet_s, sRet_s, sDrop_s, sIf_s, sFor_s, sPars_s, sNil_s, sqz_nx, sqz_rt, m1_s, m2_s, mN_s, mF_s, mV_s, mC_s, aCons_s, aNil_s, aApp_s, mIf_s, mTst_s, toB_s, mTru_s, cAnd_s, cOr_s, cNot_s, cYes_s, mAnd_s, mSl_s, oPt_s, oNo_s, mFrz_s, gN_s, gT_s, List.getElem?_cons_zero, List.getElem?_cons_succ, bind_ok, to_ok, Sm.lift_some, li_some, oz_some, bz_some, nox_ok, ln, lt], fun _ => by
      have az := hf a ha
      have ad : ∀ S, pAdd (.d (tupS a)) (.d (.tup [.str x])) S = some (.d (tupS (a ++ [x])), S) := fun S => by
        rw [add_t (by rw [List.length_map]; show _ + 1 ≤ _; omega)]
        rw [show tupS (a ++ [x]) = .tup (a.map Dt.str ++ [.str x]) by show Dt.tup _ = _; rw [List.map_append]; rfl]
      exact ex_m2 (d := .d (tupS a)) (e := .d (.tup [.str x])) rfl rfl (ad _)⟩
    have ad : pAdd (.d (.lst (f.map tupS))) (.d (.lst ((f.filter fun a => decide (a.length < m)).map fun a => tupS (a ++ [x])))) [] = some (.d (.lst ((f ++ (f.filter fun a => decide (a.length < m)).map (· ++ [x])).map tupS)), []) := by
      have := List.length_filter_le (fun a : List Str => decide (a.length < m)) f
      rw [add_l (by rw [List.length_map, List.length_map]; omega), List.map_append, List.map_map]
      rfl
    have st : l1__law_sets ρ [] = .nx [some (.d P), some (.d (inD m)), some (.d (.lst ((f ++ (f.filter fun a => decide (a.length < m)).map (· ++ [x])).map tupS))), some (.d (.str x)), z4] [] := by
      unfold l1__law_sets
      exact st_set (ex_m2 (d := .d (.lst (f.map tupS))) rfl h ad)
    obtain ⟨y3, y4, ih⟩ := sets_loop (P := P) l (f ++ (f.filter fun a => decide (a.length < m)).map (· ++ [x])) (some (.d (.str x))) z4 (by
      have := List.length_filter_le (fun a : List Str => decide (a.length < m)) f
      refine Nat.le_trans (Nat.mul_le_mul_right _ ?_) hz
      rw [List.length_append, List.length_map]
      omega) (fun a ha => by
      rcases List.mem_append.mp ha with q | q
      · exact hf a q
      · obtain ⟨b, hb, rfl⟩ := List.mem_map.mp q
        have := of_decide_eq_true (List.mem_filter.mp hb).2
        rw [List.length_append, List.length_singleton]
        omega) hm
    refine ⟨y3, y4, ?_⟩
    rw [List.map_cons, forL_nx (ρ1 := ρ) rfl st]
    exact ih
theorem sets_ok {l : List Str} (hl : l.length ≤ 8) {m : Nat} (hm : m ≤ 1000) (S : Sto) : F__law_sets [.d (lstS l), .d (inD m)] S = .ok (.d (.lst ((setsL m l [[]]).map tupS))) S := by
  have h8 : 2 ^ l.length ≤ 2 ^ 8 := Nat.pow_le_pow_right (by decide) hl
  obtain ⟨y3, y4, el⟩ := sets_loop (m := m) (P := lstS l) l [[]] none none (by
    show 1 * 2 ^ l.length ≤ _
    omega) (fun a ha => by rw [List.mem_singleton.mp ha]; exact Nat.zero_le _) hm
  refine iso_ok (ts := [lstS l, inD m]) (S' := []) (runB_rt (ds := [.d (lstS l), .d (inD m)]) rfl ?_)
  show b__law_sets [some (.d (lstS l)), some (.d (inD m)), none, none, none] [] = _
  have s1 : sSet 2 (mN pLst (aCons (mN pTup (aNil)) (aNil))) [some (.d (lstS l)), some (.d (inD m)), none, none, none] [] = .nx [some (.d (lstS l)), some (.d (inD m)), some (.d (.lst ([[]].map tupS))), none, none] [] := rfl
  have it : iSeq (mV 0) [some (.d (lstS l)), some (.d (inD m)), some (.d (.lst ([[]].map tupS))), none, none] [] = .ok (l.map .str) [] := rfl
  unfold b__law_sets
  rw [sSeq_s, s1, sqz_nx, sSeq_s, st_for it el, sqz_nx]
  exact st_ret rfl
end K67
/-! K67Q: what is left of parts; what is due. -/
namespace K67
open PySem PySem.Spec PyProof.Rows L2 Sm Hn Hk K66
theorem ix_lastN {l : List Nat} (h : l ≠ []) {S : Sto} : pIx (.d (.lst (l.map inD))) (.d (.int (-1))) S = some (.d (inD (l.getLastD 0)), S) := by
  have hp : 0 < l.length := List.length_pos_iff.mpr h
  have e : L2.atI ((l.map inD).map Dv.d) (-1) = some (.d (inD (l.getLastD 0))) := by
    have e1 : L2.ixN ((l.map inD).map Dv.d).length (-1) = some (l.length - 1) := by
      rw [List.length_map, List.length_map]
      unfold L2.ixN
      rw [if_neg (by decide), if_pos (by omega)]
      congr 1
      omega
    have e2 : l.getLastD 0 = l.getLast h := by
      match l, h with
      | x :: l, _ => simp [List.getLastD]
    unfold L2.atI
    rw [e1, Option.bind_some, List.getElem?_map, List.getElem?_map, List.getElem?_eq_getElem (by omega), e2, List.getLast_eq_getElem]
    rfl
  show (match L2.atI ((l.map inD).map Dv.d) (-1) with
    | some x => some (x, S)
    | none => none) = _
  rw [e]
abbrev eR (P : Dt) (off : List Str) (z3 z4 z5 z6 : Option Dv) : Sm.Env := [some (.d P), some (.d (tupS off)), some (.loc 0), z3, z4, z5, z6]
theorem pB_app (fs : List Part) (q : Part) : pB (fs ++ [q]) = .lst ((fs.map ptD).map .d ++ [.d (ptD q)]) := by
  unfold pB
  rw [List.map_append, List.map_append]
  rfl
theorem rest_turn {P : Dt} {off : List Str} {p : Part} (hz : p.1.length < 1000) (he : PyData.strOk p.2 = true) {fs : List Part} (hf : fs.length ≤ 1000) (z5 z6 : Option Dv) :
    ∃ y5, l1__law_rest_of (eR P off (some (.d (tupS p.1))) (some (.d (.str p.2))) z5 z6) [pB fs] = .nx (eR P off (some (.d (tupS p.1))) (some (.d (.str p.2))) y5 z6) [pB (fs ++ restP off p)] := by
  let E : Option Dv → Option Dv → Sm.Env := fun a b => eR P off (some (.d (tupS p.1))) (some (.d (.str p.2))) a b
  let S : Sto := [pB fs]
  let hs := hits off p.1
  have ln : ∀ S, pLen [.d (tupS p.1)] S = some (.d (.int (p.1.length : Int)), S) := fun S => len_t
  have er : rgL 0 p.1.length = (List.range p.1.length).map inD := by
    unfold rgL
    refine List.map_congr_left fun i _ => ?_
    rw [Int.zero_add]
  have it : iRg rg1 (aCons (mN pLen (aCons (mV 3) (aNil))) (aNil)) (E z5 z6) S = .ok ((List.range p.1.length).map inD) S := by
    rw [← er]
    exact iRg_ok (ds := [.d (.int (p.1.length : Int))]) (by simp only [E, eR, sSeq_s, sSet_s, sRet_s, sDrop_s, sIf_s, sFor_s, sPars_s, sNil_s, sqz_nx, sqz_rt, m1_s, m2_s, mN_s, mF_s, mV_s, mC_s, aCons_s, aNil_s, aApp_s, mIf_s, mTst_s, toB_s, mTru_s, cAnd_s, cOr_s, cNot_s, cYes_s, mAnd_s, mSl_s, oPt_s, oNo_s, mFrz_s, gN_s, gT_s, List.getElem?_cons_zero, List.getElem?_cons_succ, bind_ok, to_ok, Sm.lift_some, li_some, oz_some, bz_some, nox_ok, ln]) (q_rg hz)
  have h := mLc_pure (vs := [6]) (g := gN 6) (c := mTst (m2 pIn (m2 pIx (mV 3) (mV 6)) (mV 1))) (e := mV 6) (it := iRg rg1 (aCons (mN pLen (aCons (mV 3) (aNil))) (aNil))) (ρ := E z5 z6) (S := S) inD (List.range p.1.length) (fun k => decide ((p.1[k]?).getD ("" : Str) ∈ off)) inD it (by rw [List.length_range]; omega) fun k hk => ⟨E z5 (some (.d (inD k))), rfl, by
    have hk' := List.mem_range.mp hk
    have ix : ∀ S, pIx (.d (tupS p.1)) (.d (inD k)) S = some (.d (.str ((p.1[k]?).getD ("" : Str))), S) := fun S => ix_tup (by rw [List.getElem?_map, List.getElem?_eq_getElem hk']; rfl)
    have i2 : ∀ x S, pIn (.d (.str x)) (.d (tupS off)) S = some (.d (.bl (decide (x ∈ off))), S) := fun x S => in_t
    simp only [E, eR, sSeq_s, sSet_s, sRet_s, sDrop_s, sIf_s, sFor_s, sPars_s, sNil_s, sqz_nx, sqz_rt, m1_s, m2_s, mN_s, mF_s, mV_s, mC_s, aCons_s, aNil_s, aApp_s, mIf_s, mTst_s, toB_s, mTru_s, cAnd_s, cOr_s, cNot_s, cYes_s, mAnd_s, mSl_s, oPt_s, oNo_s, mFrz_s, gN_s, gT_s, List.getElem?_cons_zero, List.getElem?_cons_succ, bind_ok, to_ok, Sm.lift_some, li_some, oz_some, bz_some, nox_ok, ix, i2], fun _ => rfl⟩
  have s1 : sSet 5 (mN pLst (mLcI [6] (iRg rg1 (aCons (mN pLen (aCons (mV 3) (aNil))) (aNil))) (gN 6) (mTst (m2 pIn (m2 pIx (mV 3) (mV 6)) (mV 1))) (mV 6))) (E z5 z6) S = .nx (E (some (.d (.lst (hs.map inD)))) z6) S := st_set h
  have hzs : hs.length ≤ p.1.length := by
    have := List.length_filter_le (fun k => decide ((p.1[k]?).getD ("" : Str) ∈ off)) (List.range p.1.length)
    rw [List.length_range] at this
    exact this
  have q1 : ∀ S, pEq (.d (.lst (hs.map inD))) (.d (.lst [])) S = some (.d (.bl (hs.map inD).isEmpty), S) := fun S => eq_nil' (n := 0) (fun x hx => by
    obtain ⟨k, _, rfl⟩ := List.mem_map.mp hx
    exact .inr (.inl ⟨_, rfl⟩)) (by omega) S
  have pl : ∀ S, pLst [] S = some (.d (.lst []), S) := fun S => rfl
  let ρ := E (some (.d (.lst (hs.map inD)))) z6
  refine ⟨some (.d (.lst (hs.map inD))), ?_⟩
  show sSeq _ _ (E z5 z6) S = _
  rw [sSeq_s, s1, sqz_nx]
  have c1 : mTst (m2 pEq (mV 5) (mN pLst (aNil))) ρ S = .ok ((hs.map inD).isEmpty) S := by
    simp only [ρ, E, eR, sSeq_s, sSet_s, sRet_s, sDrop_s, sIf_s, sFor_s, sPars_s, sNil_s, sqz_nx, sqz_rt, m1_s, m2_s, mN_s, mF_s, mV_s, mC_s, aCons_s, aNil_s, aApp_s, mIf_s, mTst_s, toB_s, mTru_s, cAnd_s, cOr_s, cNot_s, cYes_s, mAnd_s, mSl_s, oPt_s, oNo_s, mFrz_s, gN_s, gT_s, List.getElem?_cons_zero, List.getElem?_cons_succ, bind_ok, to_ok, Sm.lift_some, li_some, oz_some, bz_some, nox_ok, q1, pl]
  have tp : ∀ l S, pTup [.d (tupS l), .d (.str p.2)] S = some (.d (ptD (l, p.2)), S) := fun l S => rfl
  by_cases hn : hs = []
  · refine st_if_t (S1 := S) (by rw [c1, hn]; rfl) ?_
    have ap := app_now (mo := mV 2) (ma := aCons (mN pTup (aCons (mV 3) (aCons (mV 4) (aNil)))) (aNil)) (ρ := ρ) (n := 0) (xs := (fs.map ptD).map .d) (d := .d (ptD p)) (S := S) rfl (ex_a1 (ex_mN (ds := [.d (tupS p.1), .d (.str p.2)]) (S1 := S) rfl (tp p.1 S))) rfl (by rw [List.length_map, List.length_map]; omega)
    rw [ap]
    have : restP off p = [p] := if_pos hn
    rw [this, pB_app]
    rfl
  · have hne : (hs.map inD).isEmpty = false := by
      cases hh : hs with
      | nil => exact absurd hh hn
      | cons a l => rfl
    refine st_if_f (S1 := S) (by rw [c1, hne]) ?_
    let k := hs.getLastD 0
    have ix : ∀ S, pIx (.d (.lst (hs.map inD))) (.d (.int (-1))) S = some (.d (inD k), S) := fun S => ix_lastN hn
    have ng : ∀ S, pNeg (.d (.int 1)) S = some (.d (.int (-1)), S) := fun S => rfl
    have ad : ∀ S, pAdd (.d (inD k)) (.d (.int 1)) S = some (.d (inD (k + 1)), S) := fun S => rfl
    have lt : ∀ S, pLt (.d (inD (k + 1))) (.d (.int (p.1.length : Int))) S = some (.d (.bl (decide (k + 1 < p.1.length))), S) := fun S => by
      have e : decide (((k + 1 : Nat) : Int) < (p.1.length : Int)) = decide (k + 1 < p.1.length) := decide_eq_decide.mpr (by omega)
      rw [lt_i, e]
    have ne : ∀ S, pNe (.d (.str p.2)) (.d (.str ("" : Str))) S = some (.d (.bl (!decide (p.2 = ("" : Str)))), S) := fun S => ne_s he (by decide +kernel)
    have sl : ∀ S, pSl (some ((k + 1 : Nat) : Int)) none (.d (tupS p.1)) S = some (.d (tupS (p.1.drop (k + 1))), S) := fun S => by
      rw [sl_t, cut_map, cut_from]
    have c2 : cAnd (mTst (m2 pNe (mV 4) (mC (.str ("" : Str))))) (mTst (m2 pLt (m2 pAdd (m2 pIx (mV 5) (m1 pNeg (mC (.int 1)))) (mC (.int 1))) (mN pLen (aCons (mV 3) (aNil))))) ρ S = .ok (decide (p.2 ≠ "" ∧ k + 1 < p.1.length)) S := by
      have a1 : mTst (m2 pNe (mV 4) (mC (.str ("" : Str)))) ρ S = .ok (!decide (p.2 = ("" : Str))) S := by
        simp only [ρ, E, eR, sSeq_s, sSet_s, sRet_s, sDrop_s, sIf_s, sFor_s, sPars_s, sNil_s, sqz_nx, sqz_rt, m1_s, m2_s, mN_s, mF_s, mV_s, mC_s, aCons_s, aNil_s, aApp_s, mIf_s, mTst_s, toB_s, mTru_s, cAnd_s, cOr_s, cNot_s, cYes_s, mAnd_s, mSl_s, oPt_s, oNo_s, mFrz_s, gN_s, gT_s, List.getElem?_cons_zero, List.getElem?_cons_succ, bind_ok, to_ok, Sm.lift_some, li_some, oz_some, bz_some, nox_ok, ne]
      have a2 : mTst (m2 pLt (m2 pAdd (m2 pIx (mV 5) (m1 pNeg (mC (.int 1)))) (mC (.int 1))) (mN pLen (aCons (mV 3) (aNil)))) ρ S = .ok (decide (k + 1 < p.1.length)) S := by
        simp only [ρ, E, eR, sSeq_s, sSet_s, sRet_s, sDrop_s, sIf_s, sFor_s, sPars_s, sNil_s, sqz_nx, sqz_rt, m1_s, m2_s, mN_s, mF_s, mV_s, mC_s, aCons_s, aNil_s, aApp_s, mIf_s, mTst_s, toB_s, mTru_s, cAnd_s, cOr_s, cNot_s, cYes_s, mAnd_s, mSl_s, oPt_s, oNo_s, mFrz_s, gN_s, gT_s, List.getElem?_cons_zero, List.getElem?_cons_succ, bind_ok, to_ok, Sm.lift_some, li_some, oz_some, bz_some, nox_ok, ix, ng, ad, ln, lt]
      rw [cAnd_s, a1, bind_ok]
      by_cases h : p.2 = ""
      · rw [decide_eq_true h, decide_eq_false (show ¬(p.2 ≠ "" ∧ k + 1 < p.1.length) from fun q => q.1 h)]
        rfl
      · rw [decide_eq_false h, if_pos (show (!false) = true from rfl), a2]
        exact congrArg (fun b => Rz.ok b S) (decide_eq_decide.mpr ⟨fun q => ⟨h, q⟩, fun q => q.2⟩)
    by_cases hc : p.2 ≠ "" ∧ k + 1 < p.1.length
    · refine st_if_t (S1 := S) (by rw [c2, decide_eq_true hc]) ?_
      have ap := app_now (mo := mV 2) (ma := aCons (mN pTup (aCons (mSl pSl (mV 3) (oPt (m2 pAdd (m2 pIx (mV 5) (m1 pNeg (mC (.int 1)))) (mC (.int 1)))) (oNo)) (aCons (mV 4) (aNil)))) (aNil)) (ρ := ρ) (n := 0) (xs := (fs.map ptD).map .d) (d := .d (ptD (p.1.drop (k + 1), p.2))) (S := S) rfl (by
        have : mSl pSl (mV 3) (oPt (m2 pAdd (m2 pIx (mV 5) (m1 pNeg (mC (.int 1)))) (mC (.int 1)))) (oNo) ρ S = .ok (.d (tupS (p.1.drop (k + 1)))) S := by
          simp only [ρ, E, eR, sSeq_s, sSet_s, sRet_s, sDrop_s, sIf_s, sFor_s, sPars_s, sNil_s, sqz_nx, sqz_rt, m1_s, m2_s, mN_s, mF_s, mV_s, mC_s, aCons_s, aNil_s, aApp_s, mIf_s, mTst_s, toB_s, mTru_s, cAnd_s, cOr_s, cNot_s, cYes_s, mAnd_s, mSl_s, oPt_s, oNo_s, mFrz_s, gN_s, gT_s, List.getElem?_cons_zero, List.getElem?_cons_succ, bind_ok, to_ok, Sm.lift_some, li_some, oz_some, bz_some, nox_ok, ix, ng, ad, sl]
        rw [ex_a1 (ex_mN (ds := [.d (tupS (p.1.drop (k + 1))), .d (.str p.2)]) (S1 := S) (by
          rw [aCons_s, this, bind_ok]
          rfl) (tp _ S))]) rfl (by rw [List.length_map, List.length_map]; omega)
      rw [ap]
      have : restP off p = [(p.1.drop (k + 1), p.2)] := by
        show (if hs = [] then _ else if p.2 ≠ "" ∧ k + 1 < p.1.length then _ else _) = _
        rw [if_neg hn, if_pos hc]
      rw [this, pB_app]
      rfl
    · refine st_if_f (S1 := S) (by rw [c2, decide_eq_false hc]) ?_
      have : restP off p = [] := by
        show (if hs = [] then _ else if p.2 ≠ "" ∧ k + 1 < p.1.length then _ else _) = _
        rw [if_neg hn, if_neg hc]
      rw [this, List.append_nil]
      rfl
theorem restP_len (off : List Str) (p : Part) : (restP off p).length ≤ 1 := by
  unfold restP
  split
  · exact Nat.le_refl _
  · split
    · exact Nat.le_refl _
    · exact Nat.zero_le _
theorem restA_len (off : List Str) : ∀ ps : List Part, (restA off ps).length ≤ ps.length
  | [] => Nat.le_refl _
  | p :: ps => by
    have h1 := restP_len off p
    have h2 := restA_len off ps
    show (restP off p ++ restA off ps).length ≤ _
    rw [List.length_append, List.length_cons]
    omega
theorem rest_loop {P : Dt} {off : List Str} : ∀ (ps fs : List Part) (z3 z4 z5 z6 : Option Dv), (∀ p ∈ ps, p.1.length < 1000 ∧ PyData.strOk p.2 = true) → fs.length + ps.length ≤ 1000 →
    ∃ y3 y4 y5 y6, forL (gT (gsCons (gN 3) (gsCons (gN 4) (gsNil)))) l1__law_rest_of (ps.map ptD) (eR P off z3 z4 z5 z6) [pB fs] = .nx (eR P off y3 y4 y5 y6) [pB (fs ++ restA off ps)]
  | [], fs, z3, z4, z5, z6, _, _ => ⟨z3, z4, z5, z6, by
    rw [show restA off [] = [] from rfl, List.append_nil]
    rfl⟩
  | p :: ps, fs, z3, z4, z5, z6, h, hz => by
    rw [List.length_cons] at hz
    obtain ⟨y5, st⟩ := rest_turn (P := P) (off := off) (h p List.mem_cons_self).1 (h p List.mem_cons_self).2 (fs := fs) (by omega) z5 z6
    have h1 := restP_len off p
    obtain ⟨a3, a4, a5, a6, ih⟩ := rest_loop (P := P) (off := off) ps (fs ++ restP off p) (some (.d (tupS p.1))) (some (.d (.str p.2))) y5 z6 (fun q hq => h q (List.mem_cons_of_mem _ hq)) (by rw [List.length_append]; omega)
    refine ⟨a3, a4, a5, a6, ?_⟩
    rw [List.map_cons, forL_nx (ρ1 := eR P off (some (.d (tupS p.1))) (some (.d (.str p.2))) z5 z6) rfl st, show restA off (p :: ps) = restP off p ++ restA off ps from rfl, ← List.append_assoc]
    exact ih
theorem rest_ok {off : List Str} {ps : List Part} (h : ∀ p ∈ ps, p.1.length < 1000 ∧ PyData.strOk p.2 = true) (hz : ps.length ≤ 1000) (S : Sto) : F__law_rest_of [.d (.tup (ps.map ptD)), .d (tupS off)] S = .ok (.d (.tup ((restA off ps).map ptD))) S := by
  obtain ⟨y3, y4, y5, y6, el⟩ := rest_loop (P := .tup (ps.map ptD)) (off := off) ps [] none none none none h (by simpa using hz)
  have hl := restA_len off ps
  refine iso_ok (ts := [.tup (ps.map ptD), tupS off]) (S' := [pB (restA off ps)]) (runB_rt (ds := [.d (.tup (ps.map ptD)), .d (tupS off)]) rfl ?_)
  show b__law_rest_of [some (.d (.tup (ps.map ptD))), some (.d (tupS off)), none, none, none, none, none] [] = _
  have s1 : sSet 2 (mN pLstB (aNil)) [some (.d (.tup (ps.map ptD))), some (.d (tupS off)), none, none, none, none, none] [] = .nx (eR (.tup (ps.map ptD)) off none none none none) [pB []] := rfl
  have it : iSeq (mV 0) (eR (.tup (ps.map ptD)) off none none none none) [pB []] = .ok (ps.map ptD) [pB []] := rfl
  have tp : pTuple [.loc 0] [pB (restA off ps)] = some (.d (.tup ((restA off ps).map ptD)), [pB (restA off ps)]) := by
    show (match (some (((restA off ps).map ptD).map Dv.d)).bind pures with
      | some ts => some (Dv.d (.tup ts), [pB (restA off ps)])
      | none => none) = _
    rw [Option.bind_some, pures_d]
  unfold b__law_rest_of
  rw [sSeq_s, s1, sqz_nx, sSeq_s, st_for it el, sqz_nx]
  exact st_ret (ex_mN (ex_a1 (d := .loc 0) rfl) tp)
theorem pmin_ints {l : List Int} {S : Sto} (h : l ≠ []) : pMin1 [.d (.lst (l.map .int))] S = some (.d (.int (minI l)), S) := by
  have e : (lstT S (.d (.lst (l.map .int)))).bind intsOf = some l := by
    show ((some ((l.map Dt.int).map Dv.d)).bind pures).bind intsOf = some l
    rw [Option.bind_some, pures_d, Option.bind_some, Hn.intsOf_map]
  show (match (lstT S (.d (.lst (l.map .int)))).bind intsOf with
    | some l => if l.isEmpty = true then none else some (Dv.d (.int (minI l)), S)
    | none => none) = _
  rw [e]
  cases l with
  | nil => exact absurd rfl h
  | cons a l => rfl
end K67
/-! K67R: drawn parts. -/
namespace K67
open PySem PySem.Spec PyProof.Rows L2 Sm Hn Hk K66
theorem eq_box {S : Sto} {n : Nat} {ts : List Dt} {e : Dv} (h : S[n]? = some (.lst (ts.map .d))) : eqDv S (.loc n) e = eqDv S (.d (.lst ts)) e := by
  have : pyDv S (.loc n) = pyDv S (.d (.lst ts)) := by
    show (match S[n]? with
      | some (.lst ds) => ((pures ds).bind toPys).map PyData.list
      | _ => none) = toPy (.lst ts)
    rw [h]
    show ((pures (ts.map Dv.d)).bind toPys).map PyData.list = _
    rw [pures_d]
    rfl
  unfold eqDv
  rw [this]
def ends0 : List Str := ["new", "old", "y"]
def folk8 : List Str := ["a", "ann", "bob", "cat", "dan", "eve", "fay", "x"]
def all11 : List Str := folk8 ++ ends0
theorem all11_ok : ∀ x ∈ all11, PyData.strOk x = true ∧ x ≠ "" := by decide +kernel
theorem all11_nd : all11.Nodup := by decide +kernel
abbrev eD (line : List Str) (z4 z5 z6 : Option Dv) : Sm.Env := [some (.loc 0), some (.loc 1), some (.loc 2), some (.d (lstS line)), z4, z5, z6]
abbrev sD (o : Bo) (free : List Str) (fs : List Part) : Sto := [o, sB free, pB fs]
theorem ty_str {l : List Str} (h : ∀ x ∈ l, PyData.strOk x = true) : ∀ t ∈ l.map Dt.str, Ty 0 t := fun t ht => by
  obtain ⟨x, hx, rfl⟩ := List.mem_map.mp ht
  exact .inl ⟨x, h x hx, rfl⟩
theorem emp_s (l : List Str) : (l.map Dt.str).isEmpty = decide (l = []) := by
  cases l <;> simp
theorem fnd_add {fs : List Part} {p : Part} {line free left' free' : List Str} (F : Fnd all11 fs (line ++ free)) (hp : (namesP p ++ (left' ++ free')).Perm (line ++ free)) (hne : p.1 ≠ []) (ht : turnP p = p) : Fnd all11 (fs ++ [p]) (left' ++ free') := by
  have hA : (namesA (fs ++ [p]) ++ (left' ++ free')).Perm (namesA fs ++ (line ++ free)) := by
    unfold namesA
    rw [List.flatMap_append, List.append_assoc]
    refine List.Perm.append_left _ ?_
    rw [List.flatMap_cons, List.flatMap_nil, List.append_nil]
    exact hp
  exact ⟨fun q hq => by
    rcases List.mem_append.mp hq with h | h
    · exact F.ne q h
    · rw [List.mem_singleton.mp h]
      exact hne, hA.nodup_iff.mpr F.nd, fun x hx => F.sub x (hA.mem_iff.mp hx), fun q hq => by
    rcases List.mem_append.mp hq with h | h
    · exact F.tr q h
    · rw [List.mem_singleton.mp h]
      exact ht⟩
theorem mov_app (fs : List Part) (p : Part) : (moversA (fs ++ [p])).length = (moversA fs).length + p.1.length := by
  unfold moversA
  rw [List.flatMap_append, List.length_append, List.flatMap_cons, List.flatMap_nil, List.append_nil]
theorem drawn_turn {fs : List Part} {line free : List Str} (F : Fnd all11 fs (line ++ free)) (hm : (moversA fs).length + line.length ≤ 8) (hl : line ≠ []) (hf : fs.length ≤ 100) {o : Bo} {k : Nat} (u : Urn o (2 + k)) (z4 z5 z6 : Option Dv) :
    ∃ fs' line' free' o' y4 y5 y6, Fnd all11 fs' (line' ++ free') ∧ (moversA fs').length + line'.length ≤ 8 ∧ line'.length < line.length ∧ fs'.length ≤ fs.length + 1 ∧ Urn o' k ∧ l1__law_drawn (eD line z4 z5 z6) (sD o free fs) = .nx (eD line' y4 y5 y6) (sD o' free' fs') := by
  have lp : 0 < line.length := List.length_pos_iff.mpr hl
  let lim : Int := if (line.length : Int) < 4 then (line.length : Int) else 4
  have l0 : 0 < lim := by
    show 0 < (if (line.length : Int) < 4 then (line.length : Int) else 4)
    split <;> omega
  have l1 : lim ≤ 4 ∧ lim ≤ line.length := by
    show (if (line.length : Int) < 4 then (line.length : Int) else 4) ≤ 4 ∧ (if (line.length : Int) < 4 then (line.length : Int) else 4) ≤ line.length
    split <;> omega
  obtain ⟨a, o1, e1, a0, a1, u1⟩ := take_ok (S := sD o free fs) (n := 0) (o := o) (m := 1 + k) (low := lim) rfl (u.less (by omega)) l0 (by omega)
  have e1' : F__law_take [.loc 0, .d (.int lim)] (sD o free fs) = .ok (.d (.int a)) (sD o1 free fs) := e1
  obtain ⟨n, hn⟩ : ∃ n : Nat, 1 + a = (n : Int) := ⟨(1 + a).toNat, by omega⟩
  have n1 : 1 ≤ n := by omega
  have n2 : n ≤ line.length := by omega
  let part := line.take n
  let left' := line.drop n
  have hll : part ++ left' = line := List.take_append_drop n line
  have pz : part.length = n := by
    show (line.take n).length = n
    rw [List.length_take]
    omega
  have lz : left'.length = line.length - n := List.length_drop
  have pne : part ≠ [] := fun z => by rw [z] at pz; simp at pz; omega
  let S1 : Sto := sD o1 free fs
  have lnl : ∀ S, pLen [.d (lstS line)] S = some (.d (.int (line.length : Int)), S) := fun S => by
    rw [q_len, List.length_map]
  have mi : ∀ S, pMin2 [.d (.int 4), .d (.int (line.length : Int))] S = some (.d (.int lim), S) := fun S => rfl
  have ad : ∀ S, pAdd (.d (.int 1)) (.d (.int a)) S = some (.d (.int (n : Int)), S) := fun S => by
    rw [← hn]
    rfl
  have s1 : sSet 4 (m2 pAdd (mC (.int 1)) (mF F__law_take (aCons (mV 0) (aCons (mN pMin2 (aCons (mC (.int 4)) (aCons (mN pLen (aCons (mV 3) (aNil))) (aNil)))) (aNil))))) (eD line z4 z5 z6) (sD o free fs) = .nx (eD line (some (.d (.int (n : Int)))) z5 z6) S1 := by
    refine st_set ?_
    simp only [eD, S1, sSeq_s, sSet_s, sRet_s, sDrop_s, sIf_s, sFor_s, sPars_s, sNil_s, sqz_nx, sqz_rt, m1_s, m2_s, mN_s, mF_s, mV_s, mC_s, aCons_s, aNil_s, aApp_s, mIf_s, mTst_s, toB_s, mTru_s, cAnd_s, cOr_s, cNot_s, cYes_s, mAnd_s, mSl_s, oPt_s, oNo_s, mFrz_s, gN_s, gT_s, List.getElem?_cons_zero, List.getElem?_cons_succ, bind_ok, to_ok, Sm.lift_some, li_some, oz_some, bz_some, nox_ok, lnl, mi, e1', ad]
  have c1 : ∀ S, pSl none (some ((n : Nat) : Int)) (.d (lstS line)) S = some (.d (lstS part), S) := fun S => by
    rw [sl_l, cut_map, cut_to]
  have c2 : ∀ S, pSl (some ((n : Nat) : Int)) none (.d (lstS line)) S = some (.d (lstS left'), S) := fun S => by
    rw [sl_l, cut_map, cut_from]
  have s2 : sPars [5, 3] (aCons (mSl pSl (mV 3) (oNo) (oPt (mV 4))) (aCons (mSl pSl (mV 3) (oPt (mV 4)) (oNo)) (aNil))) (eD line (some (.d (.int (n : Int)))) z5 z6) S1 = .nx (eD left' (some (.d (.int (n : Int)))) (some (.d (lstS part))) z6) S1 := by
    refine st_pars (ds := [.d (lstS part), .d (lstS left')]) (S1 := S1) ?_ rfl
    simp only [eD, sSeq_s, sSet_s, sRet_s, sDrop_s, sIf_s, sFor_s, sPars_s, sNil_s, sqz_nx, sqz_rt, m1_s, m2_s, mN_s, mF_s, mV_s, mC_s, aCons_s, aNil_s, aApp_s, mIf_s, mTst_s, toB_s, mTru_s, cAnd_s, cOr_s, cNot_s, cYes_s, mAnd_s, mSl_s, oPt_s, oNo_s, mFrz_s, gN_s, gT_s, List.getElem?_cons_zero, List.getElem?_cons_succ, bind_ok, to_ok, Sm.lift_some, li_some, oz_some, bz_some, nox_ok, c1, c2]
  let ρ : Sm.Env := eD left' (some (.d (.int (n : Int)))) (some (.d (lstS part))) z6
  have fok : ∀ x ∈ free, PyData.strOk x = true := fun x hx => (all11_ok x (F.sub x (List.mem_append_right _ (List.mem_append_right _ hx)))).1
  have fne : ∀ x ∈ free, x ≠ "" := fun x hx => (all11_ok x (F.sub x (List.mem_append_right _ (List.mem_append_right _ hx)))).2
  have q0 : ∀ o', eqDv (sD o' free fs) (.loc 1) (.d (.lst [])) = some (decide (free = [])) := fun o' => by
    rw [eq_box (ts := free.map .str) rfl, eq_nil_ty (n := 0) (ty_str fok) (by omega), emp_s]
  have qe : ∀ o', pEq (.loc 1) (.d (.lst [])) (sD o' free fs) = some (.d (.bl (decide (free = []))), sD o' free fs) := fun o' => by
    unfold pEq
    rw [q0]
  have qn : ∀ o', pNe (.loc 1) (.d (.lst [])) (sD o' free fs) = some (.d (.bl (!decide (free = []))), sD o' free fs) := fun o' => by
    unfold pNe
    rw [q0]
  have pl : ∀ S, pLst [] S = some (.d (.lst []), S) := fun S => rfl
  have g1 : mTst (m2 pGt (mV 4) (mC (.int 1))) ρ S1 = .ok (decide (1 < n)) S1 := by
    have e : decide ((1 : Int) < (n : Int)) = decide (1 < n) := decide_eq_decide.mpr (by omega)
    rw [← e]
    simp only [ρ, eD, sSeq_s, sSet_s, sRet_s, sDrop_s, sIf_s, sFor_s, sPars_s, sNil_s, sqz_nx, sqz_rt, m1_s, m2_s, mN_s, mF_s, mV_s, mC_s, aCons_s, aNil_s, aApp_s, mIf_s, mTst_s, toB_s, mTru_s, cAnd_s, cOr_s, cNot_s, cYes_s, mAnd_s, mSl_s, oPt_s, oNo_s, mFrz_s, gN_s, gT_s, List.getElem?_cons_zero, List.getElem?_cons_succ, bind_ok, to_ok, Sm.lift_some, li_some, oz_some, bz_some, nox_ok, gt_i]
  have g2 : mTst (m2 pEq (mV 1) (mN pLst (aNil))) ρ S1 = .ok (decide (free = [])) S1 := by
    simp only [ρ, eD, S1, sSeq_s, sSet_s, sRet_s, sDrop_s, sIf_s, sFor_s, sPars_s, sNil_s, sqz_nx, sqz_rt, m1_s, m2_s, mN_s, mF_s, mV_s, mC_s, aCons_s, aNil_s, aApp_s, mIf_s, mTst_s, toB_s, mTru_s, cAnd_s, cOr_s, cNot_s, cYes_s, mAnd_s, mSl_s, oPt_s, oNo_s, mFrz_s, gN_s, gT_s, List.getElem?_cons_zero, List.getElem?_cons_succ, bind_ok, to_ok, Sm.lift_some, li_some, oz_some, bz_some, nox_ok, pl, qe]
  -- the condition
  obtain ⟨t, o2, ec, ht, u2⟩ : ∃ (t : Bool) (o2 : Bo), cAnd (mTst (m2 pGt (mV 4) (mC (.int 1)))) (cOr (mTst (m2 pEq (mV 1) (mN pLst (aNil)))) (mTst (m2 pEq (mF F__law_take (aCons (mV 0) (aCons (mC (.int 2)) (aNil)))) (mC (.int 0))))) ρ S1 = .ok t (sD o2 free fs) ∧ (t = false → True) ∧ Urn o2 k := by
    rw [cAnd_s, g1, bind_ok]
    by_cases h : 1 < n
    · rw [decide_eq_true h, if_pos rfl, cOr_s, g2, bind_ok]
      by_cases hfr : free = []
      · rw [decide_eq_true hfr]
        exact ⟨true, o1, rfl, fun _ => trivial, u1.less (by omega)⟩
      · obtain ⟨b, o2, e2, b0, b1, u2⟩ := take_ok (S := S1) (n := 0) (o := o1) (m := k) (low := 2) rfl (u1.less (by omega)) (by omega) (by omega)
        have e2' : F__law_take [.loc 0, .d (.int 2)] S1 = .ok (.d (.int b)) (sD o2 free fs) := e2
        rw [decide_eq_false hfr, if_neg (by decide)]
        refine ⟨decide (b = 0), o2, ?_, fun _ => trivial, u2⟩
        simp only [ρ, eD, sSeq_s, sSet_s, sRet_s, sDrop_s, sIf_s, sFor_s, sPars_s, sNil_s, sqz_nx, sqz_rt, m1_s, m2_s, mN_s, mF_s, mV_s, mC_s, aCons_s, aNil_s, aApp_s, mIf_s, mTst_s, toB_s, mTru_s, cAnd_s, cOr_s, cNot_s, cYes_s, mAnd_s, mSl_s, oPt_s, oNo_s, mFrz_s, gN_s, gT_s, List.getElem?_cons_zero, List.getElem?_cons_succ, bind_ok, to_ok, Sm.lift_some, li_some, oz_some, bz_some, nox_ok, e2', eq_i]
    · rw [decide_eq_false h, if_neg (by decide)]
      exact ⟨false, o1, rfl, fun _ => trivial, u1.less (by omega)⟩
  let S2 : Sto := sD o2 free fs
  have body : ∀ r, sIf (cAnd (mTst (m2 pGt (mV 4) (mC (.int 1)))) (cOr (mTst (m2 pEq (mV 1) (mN pLst (aNil)))) (mTst (m2 pEq (mF F__law_take (aCons (mV 0) (aCons (mC (.int 2)) (aNil)))) (mC (.int 0)))))) (sSeq (sSet 6 (mLm pIndex (mV 5) (aCons (mN pMinT (aCons (mV 5) (aNil))) (aNil))))
    (sDrop (mLm pAppend (mV 2) (aCons (mN pTup (aCons (mN pTuple (aCons (m2 pAdd (mSl pSl (mV 5) (oPt (mV 6)) (oNo)) (mSl pSl (mV 5) (oNo) (oPt (mV 6)))) (aNil))) (aCons (mC (.str ("" : Str))) (aNil)))) (aNil))))) (sIf (mTst (m2 pNe (mV 1) (mN pLst (aNil)))) (sDrop (mLm pAppend (mV 2) (aCons (mN pTup (aCons (mN pTuple (aCons (mV 5) (aNil))) (aCons (mLm pPop (mV 1) aNil) (aNil)))) (aNil)))) (sNil)) ρ S1 = r → l1__law_drawn (eD line z4 z5 z6) (sD o free fs) = r := fun r hr => by
    show sSeq _ _ _ _ = _
    rw [sSeq_s, s1, sqz_nx, sSeq_s, s2, sqz_nx]
    exact hr
  cases t with
  | true =>
    let j := part.idxOf (minTx (part.headD "") part.tail)
    have hj : j ≤ part.length := List.idxOf_le_length
    have er : rot part "" = part.drop j ++ part.take j := if_pos rfl
    have hx : part.headD "" :: part.tail = part := by
      cases hh : part with
      | nil => exact absurd hh pne
      | cons x l => rfl
    have mt1 : ∀ S, pMinT [.d (lstS part)] S = some (.d (.str (minTx (part.headD "") part.tail)), S) := fun S => min_s (.inr (by rw [hx]))
    have ix : ∀ S, pIndex (.d (lstS part)) [.d (.str (minTx (part.headD "") part.tail))] S = some (.d (.int (j : Nat)), S) := fun S => by
      show (match ((lstAt S (.d (lstS part))).bind pures).bind strsOf with
        | some l' => if minTx (part.headD "") part.tail ∈ l' then some (Dv.d (.int (l'.idxOf (minTx (part.headD "") part.tail) : Nat)), S) else none
        | none => none) = _
      rw [show lstAt S (.d (lstS part)) = some ((part.map .str).map .d) from rfl, Option.bind_some, pures_d, Option.bind_some, strsOf_map]
      exact if_pos (by
        have := minTx_mem (part.headD "") part.tail
        rwa [hx] at this)
    let ρ2 : Sm.Env := eD left' (some (.d (.int (n : Int)))) (some (.d (lstS part))) (some (.d (.int (j : Nat))))
    have w1 : sSet 6 (mLm pIndex (mV 5) (aCons (mN pMinT (aCons (mV 5) (aNil))) (aNil))) ρ S2 = .nx ρ2 S2 := by
      refine st_set (d := .d (.int (j : Nat))) ?_
      show (mV 5 ρ S2).bind _ = _
      rw [show mV 5 ρ S2 = .ok (.d (lstS part)) S2 from rfl, bind_ok, if_pos (show isLs S2 (.d (lstS part)) = true from rfl), ex_a1 (ex_mN (ex_a1 (d := .d (lstS part)) rfl) (mt1 _)), bind_ok, ix]
      rfl
    have k1 : ∀ S, pSl (some ((j : Nat) : Int)) none (.d (lstS part)) S = some (.d (lstS (part.drop j)), S) := fun S => by
      rw [sl_l, cut_map, cut_from]
    have k2 : ∀ S, pSl none (some ((j : Nat) : Int)) (.d (lstS part)) S = some (.d (lstS (part.take j)), S) := fun S => by
      rw [sl_l, cut_map, cut_to]
    have k3 : ∀ S, pAdd (.d (lstS (part.drop j))) (.d (lstS (part.take j))) S = some (.d (lstS (rot part "")), S) := fun S => by
      have d1 : (part.drop j).length = part.length - j := List.length_drop
      have d2 : (part.take j).length = min j part.length := List.length_take
      rw [add_l (by rw [List.length_map, List.length_map]; omega), er, ← List.map_append]
    have tp : ∀ S, pTuple [.d (lstS (rot part ""))] S = some (.d (tupS (rot part "")), S) := fun S => pTuple_lst
    have tq : ∀ S, pTup [.d (tupS (rot part "")), .d (.str ("" : Str))] S = some (.d (ptD (rot part "", "")), S) := fun S => rfl
    have ar : aCons (mN pTup (aCons (mN pTuple (aCons (m2 pAdd (mSl pSl (mV 5) (oPt (mV 6)) (oNo)) (mSl pSl (mV 5) (oNo) (oPt (mV 6)))) (aNil))) (aCons (mC (.str ("" : Str))) (aNil)))) (aNil) ρ2 S2 = .ok [.d (ptD (rot part "", ""))] S2 := by
      simp only [ρ2, eD, sSeq_s, sSet_s, sRet_s, sDrop_s, sIf_s, sFor_s, sPars_s, sNil_s, sqz_nx, sqz_rt, m1_s, m2_s, mN_s, mF_s, mV_s, mC_s, aCons_s, aNil_s, aApp_s, mIf_s, mTst_s, toB_s, mTru_s, cAnd_s, cOr_s, cNot_s, cYes_s, mAnd_s, mSl_s, oPt_s, oNo_s, mFrz_s, gN_s, gT_s, List.getElem?_cons_zero, List.getElem?_cons_succ, bind_ok, to_ok, Sm.lift_some, li_some, oz_some, bz_some, nox_ok, k1, k2, k3, tp, tq]
    have w2 := app_now (mo := mV 2) (ma := aCons (mN pTup (aCons (mN pTuple (aCons (m2 pAdd (mSl pSl (mV 5) (oPt (mV 6)) (oNo)) (mSl pSl (mV 5) (oNo) (oPt (mV 6)))) (aNil))) (aCons (mC (.str ("" : Str))) (aNil)))) (aNil)) (ρ := ρ2) (n := 2) (xs := (fs.map ptD).map .d) (d := .d (ptD (rot part "", ""))) (S := S2) rfl ar rfl (by rw [List.length_map, List.length_map]; omega)
    have rl : (rot part "").length = part.length := (rot_perm part "").length_eq
    let p : Part := (rot part "", "")
    refine ⟨fs ++ [p], left', free, o2, some (.d (.int (n : Int))), some (.d (lstS part)), some (.d (.int (j : Nat))), fnd_add F ?_ ?_ ?_, ?_, by omega, by rw [List.length_append]; simp, u2, body _ ?_⟩
    · rw [← hll, List.append_assoc]
      exact List.Perm.append_right _ (rot_perm part "")
    · intro z
      rw [show rot part "" = [] from z] at rl
      simp at rl
      omega
    · show ((rot (rot part "") "", "") : Part) = ((rot part "", "") : Part)
      rw [rot_twice]
    · rw [mov_app]
      show _ + (rot part "").length + _ ≤ _
      omega
    · refine st_if_t (S1 := S2) ec ?_
      rw [sSeq_s, w1, sqz_nx, w2]
      show Sz.nx ρ2 [o2, sB free, .lst ((fs.map ptD).map .d ++ [.d (ptD (rot part "", ""))])] = Sz.nx ρ2 [o2, sB free, pB (fs ++ [p])]
      rw [pB_app]
  | false =>
    have g3 : mTst (m2 pNe (mV 1) (mN pLst (aNil))) ρ S2 = .ok (!decide (free = [])) S2 := by
      simp only [ρ, eD, S2, sSeq_s, sSet_s, sRet_s, sDrop_s, sIf_s, sFor_s, sPars_s, sNil_s, sqz_nx, sqz_rt, m1_s, m2_s, mN_s, mF_s, mV_s, mC_s, aCons_s, aNil_s, aApp_s, mIf_s, mTst_s, toB_s, mTru_s, cAnd_s, cOr_s, cNot_s, cYes_s, mAnd_s, mSl_s, oPt_s, oNo_s, mFrz_s, gN_s, gT_s, List.getElem?_cons_zero, List.getElem?_cons_succ, bind_ok, to_ok, Sm.lift_some, li_some, oz_some, bz_some, nox_ok, pl, qn]
    by_cases hfr : free = []
    · refine ⟨fs, left', free, o2, some (.d (.int (n : Int))), some (.d (lstS part)), z6, ⟨F.ne, ?_, fun x hx => F.sub x ?_, F.tr⟩, by omega, by omega, by omega, u2, body _ ?_⟩
      · refine F.nd.sublist (List.Sublist.append_left (List.Sublist.append_right ?_ _) _)
        exact List.drop_sublist _ _
      · refine (List.Sublist.append_left (List.Sublist.append_right ?_ _) _).subset hx
        exact List.drop_sublist _ _
      · refine st_if_f (S1 := S2) ec (st_if_f (S1 := S2) (by rw [g3, decide_eq_true hfr]; rfl) rfl)
    · have hlast : free.dropLast ++ [free.getLastD ""] = free := by
        rw [lastD hfr]
        exact List.dropLast_concat_getLast hfr
      have hin : free.getLastD "" ∈ free := by
        rw [lastD hfr]
        exact List.getLast_mem hfr
      have hee := fne _ hin
      let p : Part := (part, free.getLastD "")
      have fp : 0 < free.length := List.length_pos_iff.mpr hfr
      let S3 : Sto := sD o2 free.dropLast fs
      have pop : mLm pPop (mV 1) aNil ρ S2 = .ok (.d (.str (free.getLastD ""))) S3 := by
        show (mV 1 ρ S2).bind _ = _
        rw [show mV 1 ρ S2 = .ok (.loc 1) S2 from rfl, bind_ok, if_pos (show isLs S2 (.loc 1) = true from rfl), aNil_s, bind_ok]
        have e : (((free.map Dt.str).map Dv.d)[((free.map Dt.str).map Dv.d).length - 1]?) = some (.d (.str (free.getLastD ""))) := by
          rw [List.getElem?_map, List.getElem?_map, List.length_map, List.length_map, List.getElem?_eq_getElem (by omega), lastD hfr, List.getLast_eq_getElem]
          rfl
        show lift (match ((free.map Dt.str).map Dv.d)[((free.map Dt.str).map Dv.d).length - 1]? with
          | some x => some (x, [o2, .lst ((free.map Dt.str).map Dv.d).dropLast, pB fs])
          | none => none) = _
        rw [e]
        show Rz.ok _ [o2, Bo.lst ((free.map Dt.str).map Dv.d).dropLast, pB fs] = Rz.ok _ [o2, Bo.lst ((free.dropLast.map Dt.str).map Dv.d), pB fs]
        rw [List.map_dropLast, List.map_dropLast]
      have tp : ∀ S, pTuple [.d (lstS part)] S = some (.d (tupS part), S) := fun S => pTuple_lst
      have tq : ∀ S, pTup [.d (tupS part), .d (.str (free.getLastD ""))] S = some (.d (ptD p), S) := fun S => rfl
      have ar : aCons (mN pTup (aCons (mN pTuple (aCons (mV 5) (aNil))) (aCons (mLm pPop (mV 1) aNil) (aNil)))) (aNil) ρ S2 = .ok [.d (ptD p)] S3 := by
        refine ex_a1 (ex_mN (ds := [.d (tupS part), .d (.str (free.getLastD ""))]) (S1 := S3) ?_ (tq S3))
        rw [aCons_s, ex_mN (ex_a1 (d := .d (lstS part)) (S1 := S2) rfl) (tp S2), bind_ok, ex_a1 pop, bind_ok]
      have w2 : sDrop (mLm pAppend (mV 2) (aCons (mN pTup (aCons (mN pTuple (aCons (mV 5) (aNil))) (aCons (mLm pPop (mV 1) aNil) (aNil)))) (aNil))) ρ S2 = .nx ρ (sD o2 free.dropLast (fs ++ [p])) := by
        refine st_drop (d := .d .non) ?_
        show (mV 2 ρ S2).bind _ = _
        rw [show mV 2 ρ S2 = .ok (.loc 2) S2 from rfl, bind_ok, if_pos (show isLs S2 (.loc 2) = true from rfl), ar, bind_ok]
        show lift (if ((fs.map ptD).map Dv.d).length < 16777216 then some (Dv.d .non, [o2, sB free.dropLast, Bo.lst ((fs.map ptD).map Dv.d ++ [.d (ptD p)])]) else none) = Rz.ok _ [o2, sB free.dropLast, pB (fs ++ [p])]
        rw [if_pos (by rw [List.length_map, List.length_map]; omega), pB_app]
        rfl
      refine ⟨fs ++ [p], left', free.dropLast, o2, some (.d (.int (n : Int))), some (.d (lstS part)), z6, fnd_add F ?_ pne ?_, ?_, by omega, by rw [List.length_append]; simp, u2, body _ (st_if_f (S1 := S2) ec (st_if_t (S1 := S2) (by rw [g3, decide_eq_false hfr]; rfl) w2))⟩
      · have e : namesP p = part ++ [free.getLastD ""] := if_neg hee
        rw [e, List.append_assoc, ← hll, List.append_assoc]
        refine List.Perm.append_left _ ?_
        have h2 : ([free.getLastD ""] ++ (left' ++ free.dropLast)).Perm (left' ++ (free.dropLast ++ [free.getLastD ""])) := by
          rw [← List.append_assoc left']
          exact List.perm_append_comm
        rw [hlast] at h2
        exact h2
      · show ((rot part (free.getLastD ""), free.getLastD "") : Part) = (part, free.getLastD "")
        unfold rot
        rw [if_neg hee]
      · rw [mov_app]
        show _ + part.length + _ ≤ _
        omega
theorem cond_ok {line : List Str} (h : ∀ x ∈ line, PyData.strOk x = true) {z4 z5 z6 : Option Dv} {S : Sto} : mTst (m2 pNe (mV 3) (mN pLst (aNil))) (eD line z4 z5 z6) S = .ok (!decide (line = [])) S := by
  have q : ∀ S, pNe (.d (lstS line)) (.d (.lst [])) S = some (.d (.bl (!decide (line = []))), S) := fun S => by
    rw [ne_nil (n := 0) (ty_str h) (by omega), emp_s]
  have pl : ∀ S, pLst [] S = some (.d (.lst []), S) := fun S => rfl
  simp only [eD, sSeq_s, sSet_s, sRet_s, sDrop_s, sIf_s, sFor_s, sPars_s, sNil_s, sqz_nx, sqz_rt, m1_s, m2_s, mN_s, mF_s, mV_s, mC_s, aCons_s, aNil_s, aApp_s, mIf_s, mTst_s, toB_s, mTru_s, cAnd_s, cOr_s, cNot_s, cYes_s, mAnd_s, mSl_s, oPt_s, oNo_s, mFrz_s, gN_s, gT_s, List.getElem?_cons_zero, List.getElem?_cons_succ, bind_ok, to_ok, Sm.lift_some, li_some, oz_some, bz_some, nox_ok, pl, q]
theorem drawn_loop : ∀ (n : Nat) {fs : List Part} {line free : List Str} {o : Bo} {k : Nat} (z4 z5 z6 : Option Dv), Fnd all11 fs (line ++ free) → (moversA fs).length + line.length ≤ 8 → line.length ≤ n → fs.length + n ≤ 100 → Urn o (2 * n + k) →
    ∀ i, ∃ fs' free' o' y4 y5 y6, Fnd all11 fs' free' ∧ (moversA fs').length ≤ 8 ∧ fs'.length ≤ 100 ∧ Urn o' k ∧ whL (mTst (m2 pNe (mV 3) (mN pLst (aNil)))) (l1__law_drawn) (n + 1 + i) (eD line z4 z5 z6) (sD o free fs) = .nx (eD [] y4 y5 y6) (sD o' free' fs') := by
  intro n
  induction n with
  | zero =>
    intro fs line free o k z4 z5 z6 F hm hl hf u i
    have e : line = [] := List.eq_nil_of_length_eq_zero (by omega)
    subst e
    refine ⟨fs, free, o, z4, z5, z6, F, by simpa using hm, by omega, u.less (by omega), ?_⟩
    rw [show 0 + 1 + i = i + 1 by omega]
    exact wh_stop (by rw [cond_ok (line := []) (fun x hx => nomatch hx)]; rfl)
  | succ n ih =>
    intro fs line free o k z4 z5 z6 F hm hl hf u i
    have sok : ∀ x ∈ line, PyData.strOk x = true := fun x hx => (all11_ok x (F.sub x (List.mem_append_right _ (List.mem_append_left _ hx)))).1
    by_cases h : line = []
    · subst h
      refine ⟨fs, free, o, z4, z5, z6, F, by simpa using hm, by omega, u.less (by omega), ?_⟩
      rw [show n + 1 + 1 + i = (n + 1 + i) + 1 by omega]
      exact wh_stop (by rw [cond_ok (line := []) (fun x hx => nomatch hx)]; rfl)
    · obtain ⟨fs1, line1, free1, o1, y4, y5, y6, F1, m1, l1, f1, u1, e1⟩ := drawn_turn F hm h (by omega) (o := o) (k := 2 * n + k) (u.less (by omega)) z4 z5 z6
      obtain ⟨fs2, free2, o2, a4, a5, a6, F2, m2, f2, u2, e2⟩ := ih y4 y5 y6 F1 m1 (by omega) (by omega) u1 i
      refine ⟨fs2, free2, o2, a4, a5, a6, F2, m2, f2, u2, ?_⟩
      rw [show n + 1 + 1 + i = (n + 1 + i) + 1 by omega, wh_go (by rw [cond_ok sok, decide_eq_false h]; rfl) e1]
      exact e2
theorem drawn_ok {S : Sto} {n : Nat} {o : Bo} {k : Nat} (hS : S[n]? = some o) (u : Urn o (25 + k)) : ∃ ps o', F__law_drawn [.loc n] S = .ok (.d (.tup (ps.map ptD))) (S.set n o') ∧ Bits all11 ps ∧ (moversA ps).length ≤ 8 ∧ Urn o' k := by
  obtain ⟨r, o1, e1, hp, u1⟩ := mixed_ok (S := [o, sB ends0, pB []]) (n := 0) (o := o) (m := 17 + k) (L := folk8.map .str) (by decide) rfl (u.less (by show 8 + (17 + k) ≤ _; omega))
  obtain ⟨l, rfl, pl⟩ := perm_strs hp
  have e1' : F__law_mixed [.loc 0, .d (lstS folk8)] [o, sB ends0, pB []] = .ok (.d (tupS l)) [o1, sB ends0, pB []] := e1
  obtain ⟨a, o2, e2, a0, a1, u2⟩ := take_ok (S := [o1, sB ends0, pB []]) (n := 0) (o := o1) (m := 16 + k) (low := 9) rfl (u1.less (by omega)) (by omega) (by omega)
  have e2' : F__law_take [.loc 0, .d (.int 9)] [o1, sB ends0, pB []] = .ok (.d (.int a)) [o2, sB ends0, pB []] := e2
  obtain ⟨j, rfl⟩ : ∃ j : Nat, a = (j : Int) := ⟨a.toNat, by omega⟩
  let line := l.take j
  have lz : l.length = 8 := pl.length_eq
  have llz : line.length ≤ 8 := by
    have : line.length = min j l.length := List.length_take
    omega
  have F0 : Fnd all11 [] (line ++ ends0) := by
    have sub : (line ++ ends0).Sublist (l ++ ends0) := List.Sublist.append_right (List.take_sublist _ _) _
    have pm : (l ++ ends0).Perm all11 := List.Perm.append_right _ pl
    exact ⟨(fun p hp => nomatch hp), (pm.nodup_iff.mpr all11_nd).sublist sub, fun x hx => pm.mem_iff.mp (sub.subset hx), (fun p hp => nomatch hp)⟩
  obtain ⟨fs, free, o3, y4, y5, y6, F, mz, fz, u3, ew⟩ := drawn_loop 8 (k := k) none none none F0 (by simpa [moversA] using llz) llz (by simp) (u2.less (by omega)) 55
  have ndA : (namesA fs).Nodup := (List.nodup_append.mp F.nd).1
  have subA : ∀ x ∈ namesA fs, x ∈ all11 := fun x hx => F.sub x (List.mem_append_left _ hx)
  have zA : (namesA fs).length ≤ 1000 := by
    have := List.Nodup.length_le_of_subset ndA subA
    have h11 : all11.length = 11 := rfl
    omega
  have w : Wp fs := ⟨F.ne, ndA, fun x hx => all11_ok x (subA x hx), zA⟩
  have hq := sortP_perm fs
  refine ⟨sortP fs, o3, ?_, ⟨w.perm hq, fun x hx => subA x ((names_perm hq).mem_iff.mp hx), fun p q => F.tr p (hq.mem_iff.mp q), sortP_pw fs⟩, by rw [(movers_perm hq).length_eq]; exact mz, u3⟩
  have t3 : ∀ S, pList [.d (tupS l)] S = some (.d (lstS l), S) := fun S => pList_t
  have c1 : ∀ S, pSl none (some ((j : Nat) : Int)) (.d (lstS l)) S = some (.d (lstS line), S) := fun S => by
    rw [sl_l, cut_map, cut_to]
  have so : pSorted [.loc 2] (sD o3 free fs) = some (.d (.lst ((sortP fs).map ptD)), sD o3 free fs) := pSorted_pts _ (by
    show (some ((fs.map ptD).map Dv.d)).bind pures = _
    rw [Option.bind_some, pures_d]) (by omega)
  refine view_ok (ts := []) (rest := [sB free, pB fs]) hS u.pure (runB_rt (ds := [.loc 0]) rfl ?_) u3.pure
  show b__law_drawn [some (.loc 0), none, none, none, none, none, none] [o] = _
  have s1 : sPars [1, 2] (aCons (mN pLstB (aCons (mC (.str ("new" : Str))) (aCons (mC (.str ("old" : Str))) (aCons (mC (.str ("y" : Str))) (aNil))))) (aCons (mN pLstB (aNil)) (aNil))) [some (.loc 0), none, none, none, none, none, none] [o] = .nx [some (.loc 0), some (.loc 1), some (.loc 2), none, none, none, none] [o, sB ends0, pB []] := rfl
  have lf : mN pLst (aCons (mC (.str ("a" : Str))) (aCons (mC (.str ("ann" : Str))) (aCons (mC (.str ("bob" : Str))) (aCons (mC (.str ("cat" : Str))) (aCons (mC (.str ("dan" : Str))) (aCons (mC (.str ("eve" : Str))) (aCons (mC (.str ("fay" : Str))) (aCons (mC (.str ("x" : Str))) (aNil))))))))) [some (.loc 0), some (.loc 1), some (.loc 2), none, none, none, none] [o, sB ends0, pB []] = .ok (.d (lstS folk8)) [o, sB ends0, pB []] := rfl
  have s2 : sSet 3 (mN pList (aCons (mF F__law_mixed (aCons (mV 0) (aCons (mN pLst (aCons (mC (.str ("a" : Str))) (aCons (mC (.str ("ann" : Str))) (aCons (mC (.str ("bob" : Str))) (aCons (mC (.str ("cat" : Str))) (aCons (mC (.str ("dan" : Str))) (aCons (mC (.str ("eve" : Str))) (aCons (mC (.str ("fay" : Str))) (aCons (mC (.str ("x" : Str))) (aNil)))))))))) (aNil)))) (aNil))) [some (.loc 0), some (.loc 1), some (.loc 2), none, none, none, none] [o, sB ends0, pB []] = .nx (eD l none none none) [o1, sB ends0, pB []] := by
    refine st_set (ex_mN (ex_a1 (ex_mF (ds := [.loc 0, .d (lstS folk8)]) (S1 := [o, sB ends0, pB []]) ?_ e1')) (t3 _))
    rw [aCons_s, show mV 0 [some (.loc 0), some (.loc 1), some (.loc 2), none, none, none, none] [o, sB ends0, pB []] = .ok (.loc 0) [o, sB ends0, pB []] from rfl, bind_ok, ex_a1 lf, bind_ok]
  have s3 : sSet 3 (mSl pSl (mV 3) (oNo) (oPt (mF F__law_take (aCons (mV 0) (aCons (mC (.int 9)) (aNil)))))) (eD l none none none) [o1, sB ends0, pB []] = .nx (eD line none none none) (sD o2 ends0 []) := by
    refine st_set ?_
    simp only [eD, sSeq_s, sSet_s, sRet_s, sDrop_s, sIf_s, sFor_s, sPars_s, sNil_s, sqz_nx, sqz_rt, m1_s, m2_s, mN_s, mF_s, mV_s, mC_s, aCons_s, aNil_s, aApp_s, mIf_s, mTst_s, toB_s, mTru_s, cAnd_s, cOr_s, cNot_s, cYes_s, mAnd_s, mSl_s, oPt_s, oNo_s, mFrz_s, gN_s, gT_s, List.getElem?_cons_zero, List.getElem?_cons_succ, bind_ok, to_ok, Sm.lift_some, li_some, oz_some, bz_some, nox_ok, e2', c1]
  unfold b__law_drawn
  rw [sSeq_s, s1, sqz_nx, sSeq_s, s2, sqz_nx, sSeq_s, s3, sqz_nx, sSeq_s, show sWh 64 (mTst (m2 pNe (mV 3) (mN pLst (aNil)))) (l1__law_drawn) (eD line none none none) (sD o2 ends0 []) = _ from ew, sqz_nx]
  exact st_ret (ex_mN (ex_a1 (ex_mN (ex_a1 (d := .loc 2) rfl) so)) pTuple_lst)
end K67
/-! K67A: the orders of rows and of sets. -/
namespace K67
open PySem PySem.Spec PyProof.Rows L2 Sm Hn Hk K66
def ltI (p q : Int × Str) : Bool := if p.1 = q.1 then ltS p.2 q.2 else decide (p.1 < q.1)
abbrev rwD (k : Int × Str) : Dt := .tup [.int k.1, .str k.2]
theorem leT_rw (p q : Int × Str) : leT (rwD p) (rwD q) = !ltI q p := by
  unfold leT
  rw [show PySem.W.dataLt (encT (rwD q)) (encT (rwD p)) = ltI q p from PySem.W.DatumOrd.lt_eq q p]
def ltL : List Str → List Str → Bool
  | [], [] => false
  | [], _ :: _ => true
  | _ :: _, [] => false
  | p :: a, q :: b => if p = q then ltL a b else ltS p q
theorem ltL_is : ∀ a b : List Str, PySem.W.listLt a b = ltL a b
  | [], [] => rfl
  | [], _ :: _ => rfl
  | _ :: _, [] => rfl
  | p :: a, q :: b => by
    show (if p = q then PySem.W.listLt a b else PySem.W.DatumOrd.lt p q) = if p = q then ltL a b else ltS p q
    rw [ltL_is a b]
    rfl
theorem encL_lt (a b : List Str) : PySem.W.dataLt (encL a) (encL b) = ltL a b := by
  rw [← ltL_is]
  exact (PySem.W.dataLt_tuple _ _).trans (PySem.W.lexAll_map a b)
theorem ltL_irrefl : ∀ a : List Str, ltL a a = false
  | [] => rfl
  | p :: a => by
    show (if p = p then ltL a a else ltS p p) = false
    rw [if_pos rfl]
    exact ltL_irrefl a
theorem ltL_asymm : ∀ {a b : List Str}, ltL a b = true → ltL b a = false
  | [], [], h => rfl
  | [], _ :: _, _ => rfl
  | _ :: _, [], h => by cases h
  | p :: a, q :: b, h => by
    have h' : (if p = q then ltL a b else ltS p q) = true := h
    show (if q = p then ltL b a else ltS q p) = false
    by_cases e : p = q
    · rw [if_pos e] at h'
      rw [if_pos e.symm]
      exact ltL_asymm h'
    · rw [if_neg e] at h'
      rw [if_neg fun z => e z.symm]
      exact ltS_asymm h'
theorem minLs_is {E : List Str} : ∀ (L : List (List Str)) (x : List Str), E ∈ x :: L → (∀ y ∈ x :: L, y ≠ E → ltL E y = true) → minLs x L = E := by
  intro L
  induction L with
  | nil =>
    intro x h _
    exact (List.mem_singleton.mp h).symm
  | cons y L ih =>
    intro x h hm
    have e : minLs x (y :: L) = minLs (if ltL y x = true then y else x) L := by
      show List.foldl _ (if PySem.W.dataLt (encL y) (encL x) = true then y else x) L = _
      rw [encL_lt]
      rfl
    rw [e]
    refine ih _ ?_ fun z hz hne => ?_
    · rcases List.mem_cons.mp h with rfl | h
      · have : ltL y E = false := by
          by_cases q : y = E
          · rw [q]
            exact ltL_irrefl _
          · exact ltL_asymm (hm y (List.mem_cons_of_mem _ List.mem_cons_self) q)
        rw [this, if_neg (by decide)]
        exact List.mem_cons_self
      · rcases List.mem_cons.mp h with rfl | h
        · by_cases q : x = E
          · rw [q, ltL_irrefl, if_neg (by decide)]
            exact List.mem_cons_self
          · rw [if_pos (hm x List.mem_cons_self q)]
            exact List.mem_cons_self
        · exact List.mem_cons_of_mem _ h
    · refine hm z ?_ hne
      rcases List.mem_cons.mp hz with rfl | hz
      · split
        · exact List.mem_cons_of_mem _ List.mem_cons_self
        · exact List.mem_cons_self
      · exact List.mem_cons_of_mem _ (List.mem_cons_of_mem _ hz)
/-- as many up to each text: no later -/
theorem lex_dom : ∀ {a b : List Str}, a.length = b.length → a.Pairwise (fun x y => leS x y = true) → (∀ x, (b.filter fun y => leS y x).length ≤ (a.filter fun y => leS y x).length) → a = b ∨ ltL a b = true
  | [], [], _, _, _ => .inl rfl
  | [], _ :: _, h, _, _ => by simp at h
  | _ :: _, [], h, _, _ => by simp at h
  | a0 :: a, b0 :: b, h, pa, hd => by
    obtain ⟨p1, p2⟩ := List.pairwise_cons.mp pa
    have h0 : leS a0 b0 = true := by
      have q := hd b0
      have : 0 < ((b0 :: b).filter fun y => leS y b0).length := List.length_pos_of_mem (List.mem_filter.mpr ⟨List.mem_cons_self, leS_refl b0⟩)
      obtain ⟨y, hy⟩ := List.exists_mem_of_length_pos (Nat.lt_of_lt_of_le this q)
      obtain ⟨hy1, hy2⟩ := List.mem_filter.mp hy
      rcases List.mem_cons.mp hy1 with rfl | hy1
      · exact hy2
      · exact leS_trans (p1 y hy1) hy2
    by_cases e : a0 = b0
    · subst e
      have ih := lex_dom (a := a) (b := b) (by simpa using h) p2 fun x => by
        have q := hd x
        rw [List.filter_cons, List.filter_cons] at q
        by_cases c : leS a0 x = true
        · rw [if_pos c, if_pos c, List.length_cons, List.length_cons] at q
          omega
        · rw [if_neg c, if_neg c] at q
          exact q
      rcases ih with rfl | ih
      · exact .inl rfl
      · right
        show (if a0 = a0 then ltL a b else ltS a0 a0) = true
        rw [if_pos rfl]
        exact ih
    · right
      show (if a0 = b0 then ltL a b else ltS a0 b0) = true
      rw [if_neg e]
      rcases lt_tri e with q | q
      · exact q
      · exfalso
        rw [show leS a0 b0 = !ltS b0 a0 from rfl, q] at h0
        cases h0
/-! ### a row of a sorted list -/
inductive Two {α : Type} (le : α → α → Prop) : List α → List α → Prop
  | nil : Two le [] []
  | cons {a b : α} {s t : List α} : le a b → Two le s t → Two le (a :: s) (b :: t)
theorem shift {α : Type} {le : α → α → Prop} : ∀ {a : α} {s : List α}, (a :: s).Pairwise le → ∀ r, r ≤ s.length → Two le ((a :: s).take r) (s.take r)
  | a, s, h, 0, _ => by
    rw [List.take_zero, List.take_zero]
    exact .nil
  | a, [], h, r + 1, hr => by simp at hr
  | a, b :: s, h, r + 1, hr => by
    rw [List.take_succ_cons, List.take_succ_cons]
    obtain ⟨h1, h2⟩ := List.pairwise_cons.mp h
    exact .cons (h1 b List.mem_cons_self) (shift h2 r (by simpa using hr))
theorem Two.trans {α : Type} {le : α → α → Prop} (ht : ∀ a b c, le a b → le b c → le a c) : ∀ {l m n : List α}, Two le l m → Two le m n → Two le l n
  | _, _, _, .nil, .nil => .nil
  | _, _, _, .cons h1 t1, .cons h2 t2 => .cons (ht _ _ _ h1 h2) (Two.trans ht t1 t2)
/-- a sublist of a sorted list is no earlier than its beginning -/
theorem sub_two {α : Type} {le : α → α → Prop} (hr : ∀ a, le a a) (ht : ∀ a b c, le a b → le b c → le a c) {q s : List α} (h : q.Sublist s) : s.Pairwise le → Two le (s.take q.length) q := by
  induction h with
  | slnil => intro _; exact .nil
  | @cons q s a h ih =>
    intro pw
    exact Two.trans ht (shift pw q.length h.length_le) (ih (List.pairwise_cons.mp pw).2)
  | @cons_cons q s a h ih =>
    intro pw
    rw [List.length_cons, List.take_succ_cons]
    exact .cons (hr a) (ih (List.pairwise_cons.mp pw).2)
end K67
/-! K67B: the parts in the order of their size and their ender. -/
namespace K67
open PySem PySem.Spec PyProof.Rows L2 Sm Hn Hk K66
def endS (p : Part) : Str := if p.2 = "" then p.1.headD "" else p.1.getLastD ""
def kp (p : Part) : Int × Str := (-(p.1.length : Int), endS p)
theorem leI_iff {p q : Int × Str} : (!ltI q p) = true ↔ p.1 < q.1 ∨ (p.1 = q.1 ∧ leS p.2 q.2 = true) := by
  unfold ltI
  by_cases e : q.1 = p.1
  · rw [if_pos e, show (!ltS q.2 p.2) = leS p.2 q.2 from rfl]
    constructor
    · exact fun h => .inr ⟨e.symm, h⟩
    · rintro (h | h)
      · omega
      · exact h.2
  · rw [if_neg e]
    constructor
    · intro h
      left
      have : ¬ q.1 < p.1 := fun z => by rw [decide_eq_true z] at h; cases h
      omega
    · rintro (h | h)
      · rw [decide_eq_false (by omega)]
        rfl
      · exact absurd h.1.symm e
abbrev leK (a b : Part) : Prop := (!ltI (kp b) (kp a)) = true
theorem leK_refl (a : Part) : leK a a := leI_iff.mpr (.inr ⟨rfl, leS_refl _⟩)
theorem leK_trans (a b c : Part) (h : leK a b) (h2 : leK b c) : leK a c := by
  rcases leI_iff.mp h with q | q
  · rcases leI_iff.mp h2 with q2 | q2
    · exact leI_iff.mpr (.inl (by omega))
    · exact leI_iff.mpr (.inl (by omega))
  · rcases leI_iff.mp h2 with q2 | q2
    · exact leI_iff.mpr (.inl (by omega))
    · exact leI_iff.mpr (.inr ⟨q.1.trans q2.1, leS_trans q.2 q2.2⟩)
theorem leK_total (a b : Part) : ((!ltI (kp b) (kp a)) || (!ltI (kp a) (kp b))) = true := by
  rw [Bool.or_eq_true, leI_iff, leI_iff]
  have t := leS_total (kp a).2 (kp b).2
  rw [Bool.or_eq_true] at t
  by_cases e : (kp a).1 = (kp b).1
  · rcases t with t | t
    · exact .inl (.inr ⟨e, t⟩)
    · exact .inr (.inr ⟨e.symm, t⟩)
  · by_cases l : (kp a).1 < (kp b).1
    · exact .inl (.inl l)
    · exact .inr (.inl (by omega))
def byK (ps : List Part) : List Part := ps.mergeSort fun a b => !ltI (kp b) (kp a)
theorem byK_perm (ps : List Part) : (byK ps).Perm ps := List.mergeSort_perm _ _
theorem byK_pw (ps : List Part) : (byK ps).Pairwise leK := List.pairwise_mergeSort (le := fun a b => !ltI (kp b) (kp a)) (fun a b c h h2 => leK_trans a b c h h2) leK_total ps
theorem leK_sz {a b : Part} (h : leK a b) : b.1.length ≤ a.1.length ∧ (a.1.length = b.1.length → leS (endS a) (endS b) = true) := by
  rcases leI_iff.mp h with q | q
  · have q' : (-(a.1.length : Int)) < -(b.1.length : Int) := q
    exact ⟨by omega, fun e => by omega⟩
  · have q' : (-(a.1.length : Int)) = -(b.1.length : Int) := q.1
    exact ⟨by omega, fun _ => q.2⟩
theorem byK_desc (ps : List Part) : (sz (byK ps)).Pairwise (· ≥ ·) := List.pairwise_map.mpr ((byK_pw ps).imp fun h => (leK_sz h).1)
theorem desc_nat {l m : List Nat} (h1 : l.Pairwise (· ≥ ·)) (h2 : m.Pairwise (· ≥ ·)) (p : l.Perm m) : l = m := by
  have := desc_eq (l := l.map fun n : Nat => (n : Int)) (m := m.map fun n : Nat => (n : Int)) (List.pairwise_map.mpr (h1.imp fun h => by omega)) (List.pairwise_map.mpr (h2.imp fun h => by omega)) (p.map _)
  exact (List.map_inj_right fun a b e => by omega).mp this
theorem safe_K (ps : List Part) (m : Nat) : safe ps m = ((sz (byK ps)).drop m).sum := by
  unfold safe
  rw [desc_nat (byS_desc ps) (byK_desc ps) (((byS_perm ps).trans (byK_perm ps).symm).map _)]
theorem endS_mem {p : Part} (h : p.1 ≠ []) : endS p ∈ p.1 := by
  unfold endS
  split
  · cases e : p.1 with
    | nil => exact absurd e h
    | cons x l => exact List.mem_cons_self
  · rw [lastD h]
    exact List.getLast_mem h
theorem rest_end {off : List Str} {p : Part} (h : p.1 ≠ []) (q : endS p ∈ off) : restP off p = [] := by
  by_cases e : p.2 = ""
  · have hn : hits off p.1 ≠ [] := fun z => hits_nil.mp z _ (endS_mem h) q
    unfold restP
    rw [if_neg hn, if_neg fun z => z.1 e]
  · unfold endS at q
    rw [if_neg e] at q
    exact rest_hit h q
theorem rest_topE {ps : List Part} (ne : ∀ p ∈ ps, p.1 ≠ []) (nd : (moversA ps).Nodup) (m : Nat) : restA ((ps.take m).map endS) ps = ps.drop m := by
  have e : ps = ps.take m ++ ps.drop m := (List.take_append_drop m ps).symm
  have em : moversA ps = moversA (ps.take m) ++ moversA (ps.drop m) := by
    unfold moversA
    rw [← List.flatMap_append, ← e]
  rw [em] at nd
  have a1 : restA ((ps.take m).map endS) (ps.take m) = [] := by
    refine List.flatMap_eq_nil_iff.mpr fun p hp => rest_end (ne p (List.mem_of_mem_take hp)) ?_
    exact List.mem_map.mpr ⟨p, hp, rfl⟩
  have a2 : restA ((ps.take m).map endS) (ps.drop m) = ps.drop m := by
    have : ∀ qs : List Part, (∀ p ∈ qs, restP ((ps.take m).map endS) p = [p]) → restA ((ps.take m).map endS) qs = qs := fun qs => by
      induction qs with
      | nil => intro _; rfl
      | cons q qs ih =>
        intro h
        show restP _ q ++ restA _ qs = _
        rw [h q List.mem_cons_self, ih fun p hp => h p (List.mem_cons_of_mem _ hp)]
        rfl
    refine this _ fun p hp => rest_un fun x hx q => ?_
    obtain ⟨r, hr, rfl⟩ := List.mem_map.mp q
    exact (List.nodup_append.mp nd).2.2 (endS r) (List.mem_flatMap.mpr ⟨r, hr, endS_mem (ne r (List.mem_of_mem_take hr))⟩) _ (List.mem_flatMap.mpr ⟨p, hp, hx⟩) rfl
  have e2 : restA ((ps.take m).map endS) ps = restA ((ps.take m).map endS) (ps.take m) ++ restA ((ps.take m).map endS) (ps.drop m) := by
    rw [← List.flatMap_append, ← e]
  rw [e2, a1, a2, List.nil_append]
/-- one name at most of each part -/
theorem one_each {off : List Str} : ∀ {ps : List Part}, ((moversA ps).filter fun x => decide (x ∈ off)).length ≤ (ps.filter fun p => hit off p).length → ∀ p ∈ ps, (p.1.filter fun x => decide (x ∈ off)).length ≤ 1
  | [], _, p, hp => nomatch hp
  | q :: ps, h, p, hp => by
    have hf := hit_few off ps
    rw [show moversA (q :: ps) = q.1 ++ moversA ps from rfl, List.filter_append, List.length_append, List.filter_cons] at h
    by_cases c : hit off q = true
    · rw [if_pos c, List.length_cons] at h
      have : 0 < (q.1.filter fun x => decide (x ∈ off)).length := by
        obtain ⟨x, hx, z⟩ := List.any_eq_true.mp c
        exact List.length_pos_of_mem (List.mem_filter.mpr ⟨hx, z⟩)
      rcases List.mem_cons.mp hp with rfl | hp
      · omega
      · exact one_each (ps := ps) (by omega) p hp
    · rw [if_neg c] at h
      rcases List.mem_cons.mp hp with rfl | hp
      · omega
      · exact one_each (ps := ps) (by omega) p hp
/-- as many names up to x as parts hit whose ender is up to x -/
theorem count_le {off : List Str} {x : Str} : ∀ {ps : List Part}, (∀ p ∈ ps, (p.1.filter fun x => decide (x ∈ off)).length ≤ 1) → (∀ p ∈ ps, ∀ y ∈ p.1, y ∈ off → leS (endS p) y = true) → (((moversA ps).filter fun x => decide (x ∈ off)).filter fun y => leS y x).length ≤ ((ps.filter fun p => hit off p).filter fun p => leS (endS p) x).length
  | [], _, _ => Nat.le_refl _
  | p :: ps, h1, h2 => by
    have ih := count_le (off := off) (x := x) (ps := ps) (fun q hq => h1 q (List.mem_cons_of_mem _ hq)) fun q hq => h2 q (List.mem_cons_of_mem _ hq)
    rw [show moversA (p :: ps) = p.1 ++ moversA ps from rfl, List.filter_append, List.filter_append, List.length_append, List.filter_cons]
    have hl : ((p.1.filter fun x => decide (x ∈ off)).filter fun y => leS y x).length ≤ 1 := Nat.le_trans (List.length_filter_le _ _) (h1 p List.mem_cons_self)
    by_cases c : hit off p = true ∧ leS (endS p) x = true
    · rw [if_pos c.1, List.filter_cons, if_pos c.2, List.length_cons]
      omega
    · have e : ((p.1.filter fun x => decide (x ∈ off)).filter fun y => leS y x) = [] := by
        refine List.eq_nil_iff_forall_not_mem.mpr fun y hy => c ?_
        obtain ⟨hy, hx⟩ := List.mem_filter.mp hy
        obtain ⟨hy, ho⟩ := List.mem_filter.mp hy
        exact ⟨List.any_eq_true.mpr ⟨y, hy, ho⟩, leS_trans (h2 p List.mem_cons_self y hy (of_decide_eq_true ho)) hx⟩
      rw [e, List.length_nil, Nat.zero_add]
      refine Nat.le_trans ih ?_
      split
      · rw [List.filter_cons]
        split
        · rw [List.length_cons]
          omega
        · exact Nat.le_refl _
      · exact Nat.le_refl _
end K67
/-! K67C: the worst set. -/
namespace K67
open PySem PySem.Spec PyProof.Rows L2 Sm Hn Hk K66
theorem ends_nd : ∀ {ps : List Part}, (∀ p ∈ ps, p.1 ≠ []) → (moversA ps).Nodup → (ps.map endS).Nodup
  | [], _, _ => List.nodup_nil
  | p :: ps, ne, nd => by
    have nd' : (p.1 ++ moversA ps).Nodup := nd
    obtain ⟨_, n2, n3⟩ := List.nodup_append.mp nd'
    rw [List.map_cons, List.nodup_cons]
    refine ⟨fun z => ?_, ends_nd (fun q hq => ne q (List.mem_cons_of_mem _ hq)) n2⟩
    obtain ⟨q, hq, e⟩ := List.mem_map.mp z
    exact n3 (endS p) (endS_mem (ne p List.mem_cons_self)) (endS q) (List.mem_flatMap.mpr ⟨q, hq, endS_mem (ne q (List.mem_cons_of_mem _ hq))⟩) e.symm
theorem set_sub {l pool : List Str} (nd : l.Nodup) (pn : pool.Nodup) (pa : pool.Pairwise fun a b => leS a b = true) (hs : ∀ x ∈ l, x ∈ pool) : (sortS l).Sublist pool := by
  have e : sortS l = pool.filter fun x => decide (x ∈ l) := by
    refine sorted_eq (sortS_sorted l) (pa.sublist List.filter_sublist) ((sortS_perm l).trans ?_)
    refine (List.perm_ext_iff_of_nodup nd (pn.sublist List.filter_sublist)).mpr fun x => ⟨fun h => List.mem_filter.mpr ⟨hs x h, decide_eq_true h⟩, fun h => of_decide_eq_true (List.mem_filter.mp h).2⟩
  rw [e]
  exact List.filter_sublist
abbrev EN (ps : List Part) (m : Nat) : List Str := sortS (((byK ps).take m).map endS)
section
variable {ps : List Part} {pool : List Str}
theorem K_ne (ne : ∀ p ∈ ps, p.1 ≠ []) : ∀ p ∈ byK ps, p.1 ≠ [] := fun p hp => ne p ((byK_perm ps).mem_iff.mp hp)
theorem K_nd (nd : (moversA ps).Nodup) : (moversA (byK ps)).Nodup := (movers_perm (byK_perm ps)).nodup_iff.mpr nd
theorem worst_top (ne : ∀ p ∈ ps, p.1 ≠ []) (nd : (moversA ps).Nodup) (pp : pool.Perm (moversA ps)) (pa : pool.Pairwise fun a b => leS a b = true) (m : Nat) : (EN ps m).Sublist pool ∧ (EN ps m).length = min m ps.length ∧ cnt (restA (EN ps m) ps) = safe ps m := by
  have kn := ends_nd (K_ne ne) (K_nd nd)
  have sub : ((byK ps).take m).map endS |>.Sublist ((byK ps).map endS) := (List.take_sublist _ _).map _
  have nn := kn.sublist sub
  refine ⟨set_sub nn (pp.nodup_iff.mpr nd) pa fun x hx => ?_, ?_, ?_⟩
  · obtain ⟨p, hp, rfl⟩ := List.mem_map.mp hx
    have hp' := List.mem_of_mem_take hp
    exact pp.mem_iff.mpr ((movers_perm (byK_perm ps)).mem_iff.mp (List.mem_flatMap.mpr ⟨p, hp', endS_mem (K_ne ne p hp')⟩))
  · rw [(sortS_perm _).length_eq, List.length_map, List.length_take, (byK_perm ps).length_eq]
  · rw [rest_same (o2 := ((byK ps).take m).map endS) fun x _ => (sortS_perm _).mem_iff, ← cnt_perm ((byK_perm ps).flatMap_right (restP _)), show List.flatMap (restP (((byK ps).take m).map endS)) (byK ps) = _ from rest_topE (K_ne ne) (K_nd nd) m, safe_K, show cnt ((byK ps).drop m) = (List.map _ ((byK ps).drop m)).sum from rfl, List.map_drop]
end
theorem sum_drop (s : List Nat) (n : Nat) : (s.drop n).sum ≤ s.sum := by
  have : s.sum = (s.take n).sum + (s.drop n).sum := by rw [← List.sum_append, List.take_append_drop]
  omega
theorem drop_lt {s : List Nat} (h : ∀ x ∈ s, 1 ≤ x) {k m : Nat} (hk : k < m) (hs : k < s.length) : (s.drop m).sum < (s.drop k).sum := by
  rw [List.drop_eq_getElem_cons hs, List.sum_cons]
  have h1 := h _ (List.getElem_mem hs)
  have h2 := sum_drop (s.drop (k + 1)) (m - (k + 1))
  rw [List.drop_drop, show k + 1 + (m - (k + 1)) = m by omega] at h2
  omega
theorem safe_lt {ps : List Part} (ne : ∀ p ∈ ps, p.1 ≠ []) {k m : Nat} (hk : k < m) (hs : k < ps.length) : safe ps m < safe ps k := by
  rw [safe_K, safe_K]
  refine drop_lt (fun x hx => ?_) hk (by rw [List.length_map, (byK_perm ps).length_eq]; exact hs)
  obtain ⟨p, hp, rfl⟩ := List.mem_map.mp hx
  exact List.length_pos_iff.mpr (K_ne ne p hp)
theorem safe_min (ps : List Part) (m : Nat) : safe ps (min m ps.length) = safe ps m := by
  by_cases h : m ≤ ps.length
  · rw [Nat.min_eq_left h]
  · have e : (sz (byK ps)).length = ps.length := by rw [List.length_map, (byK_perm ps).length_eq]
    rw [Nat.min_eq_right (by omega), safe_K, safe_K, List.drop_of_length_le (by omega), List.drop_of_length_le (by omega)]
theorem rest_zero {off : List Str} : ∀ {ps : List Part}, cnt (restA off ps) ≤ cnt (ps.filter fun p => !hit off p) → ∀ p ∈ ps, hit off p = true → cnt (restP off p) = 0
  | [], _, p, hp, _ => nomatch hp
  | q :: ps, h, p, hp, hh => by
    have hl := rest_low off ps
    have e : cnt (restA off (q :: ps)) = cnt (restP off q) + cnt (restA off ps) := by
      show (List.map _ (restP off q ++ restA off ps)).sum = _
      rw [List.map_append, List.sum_append]
    rw [e, List.filter_cons] at h
    by_cases c : hit off q = true
    · rw [c, show (!true) = false from rfl, if_neg (by decide)] at h
      rcases List.mem_cons.mp hp with rfl | hp
      · omega
      · exact rest_zero (ps := ps) (by omega) p hp hh
    · have c' : hit off q = false := by simpa using c
      rw [c', show (!false) = true from rfl, if_pos rfl] at h
      have h' : cnt (restP off q) + cnt (restA off ps) ≤ q.1.length + cnt (ps.filter fun p => !hit off p) := h
      have e2 : cnt (restP off q) = q.1.length := by
        rw [rest_un (hit_f.mp c')]
        show q.1.length + 0 = _
        omega
      rcases List.mem_cons.mp hp with rfl | hp
      · exact absurd hh c
      · exact rest_zero (ps := ps) (by omega) p hp hh
theorem row_last {off : List Str} {p : Part} (hh : hit off p = true) (h0 : cnt (restP off p) = 0) (he : p.2 ≠ "") : p.1.getLastD "" ∈ off := by
  have hn : hits off p.1 ≠ [] := fun z => by
    have := hit_f.mpr (hits_nil.mp z)
    rw [hh] at this
    cases this
  unfold restP at h0
  rw [if_neg hn] at h0
  by_cases c : p.2 ≠ "" ∧ (hits off p.1).getLastD 0 + 1 < p.1.length
  · rw [if_pos c] at h0
    have : (p.1.drop ((hits off p.1).getLastD 0 + 1)).length + 0 = 0 := h0
    rw [List.length_drop] at this
    omega
  · have c2 : ¬ (hits off p.1).getLastD 0 + 1 < p.1.length := fun z => c ⟨he, z⟩
    have hm : (hits off p.1).getLastD 0 ∈ hits off p.1 := by
      cases e : hits off p.1 with
      | nil => exact absurd e hn
      | cons a l =>
        simp only [List.getLastD]
        exact List.getLast_mem (by simp)
    obtain ⟨h1, h2⟩ := List.mem_filter.mp hm
    have h1 := List.mem_range.mp h1
    have h2 := of_decide_eq_true h2
    have hp : p.1 ≠ [] := fun z => by rw [z] at h1; simp at h1
    rw [lastD hp, List.getLast_eq_getElem]
    rw [List.getElem?_eq_getElem h1] at h2
    have e : (hits off p.1).getLastD 0 = p.1.length - 1 := by omega
    have e2 : p.1[(hits off p.1).getLastD 0] = p.1[p.1.length - 1] := by congr 1
    rw [← e2]
    exact h2
theorem two_ends : ∀ {T Q : List Part}, Two leK T Q → cnt Q ≤ cnt T ∧ (cnt T ≤ cnt Q → Two (fun a b => leS (endS a) (endS b) = true) T Q)
  | _, _, .nil => ⟨Nat.le_refl _, fun _ => .nil⟩
  | _, _, .cons (a := a) (b := b) (s := s) (t := t) h r => by
    obtain ⟨i1, i2⟩ := two_ends r
    obtain ⟨k1, k2⟩ := leK_sz h
    have ea : cnt (a :: s) = a.1.length + cnt s := rfl
    have eb : cnt (b :: t) = b.1.length + cnt t := rfl
    rw [ea, eb]
    exact ⟨by omega, fun z => .cons (k2 (by omega)) (i2 (by omega))⟩
theorem two_count {x : Str} : ∀ {T Q : List Part}, Two (fun a b => leS (endS a) (endS b) = true) T Q → (Q.filter fun p => leS (endS p) x).length ≤ (T.filter fun p => leS (endS p) x).length
  | _, _, .nil => Nat.le_refl _
  | _, _, .cons (a := a) (b := b) (s := s) (t := t) h r => by
    have ih := two_count (x := x) r
    rw [List.filter_cons, List.filter_cons]
    by_cases c : leS (endS b) x = true
    · rw [if_pos c, if_pos (leS_trans h c), List.length_cons, List.length_cons]
      omega
    · rw [if_neg c]
      split
      · rw [List.length_cons]
        omega
      · exact ih
end K67
/-! K67D: no other set is as bad and as small and earlier. -/
namespace K67
open PySem PySem.Spec PyProof.Rows L2 Sm Hn Hk K66
theorem cnt_split (f : Part → Bool) : ∀ ps : List Part, cnt (ps.filter f) + cnt (ps.filter fun p => !f p) = cnt ps
  | [] => rfl
  | p :: ps => by
    have ih := cnt_split f ps
    have e : cnt (p :: ps) = p.1.length + cnt ps := rfl
    rw [List.filter_cons, List.filter_cons, e]
    by_cases c : f p = true
    · rw [c, if_pos rfl, show (!true) = false from rfl, if_neg (by decide)]
      show (p.1.length + cnt (ps.filter f)) + _ = _
      omega
    · have c' : f p = false := by simpa using c
      rw [c', if_neg (by decide), show (!false) = true from rfl, if_pos rfl]
      show _ + (p.1.length + cnt (ps.filter fun p => !f p)) = _
      omega
theorem two_mem {l : List Str} {a b : Str} (h : l.length ≤ 1) (ha : a ∈ l) (hb : b ∈ l) : a = b := by
  match l, h with
  | [], _ => cases ha
  | [c], _ => rw [List.mem_singleton.mp ha, List.mem_singleton.mp hb]
theorem worst_low {ps : List Part} (ne : ∀ p ∈ ps, p.1 ≠ []) (nd : (moversA ps).Nodup) (rg : ∀ p ∈ ps, p.2 = "" → ∀ y ∈ p.1, leS (p.1.headD "") y = true) {m : Nat} {off : List Str} (on : off.Nodup) (os : ∀ x ∈ off, x ∈ moversA ps) (h : cnt (restA off ps) = safe ps m) : min m ps.length ≤ off.length ∧ (off.length = min m ps.length → EN ps m = off ∨ ltL (EN ps m) off = true) := by
  constructor
  · refine Nat.le_of_not_lt fun z => ?_
    have h1 := safe_low nd (off := off) (m := off.length) (Nat.le_refl _)
    have h2 := safe_lt ne (k := off.length) (m := min m ps.length) z (by omega)
    rw [safe_min] at h2
    omega
  · intro hr
    let r := min m ps.length
    have hs := hit_few off ps
    have hn : ((moversA ps).filter fun x => decide (x ∈ off)).length ≤ off.length := List.Nodup.length_le_of_subset (nd.sublist List.filter_sublist) fun x hx => of_decide_eq_true (List.mem_filter.mp hx).2
    have lo := rest_low off ps
    have kp := byK_perm ps
    have cu : cnt ((byK ps).filter fun p => !hit off p) = cnt (ps.filter fun p => !hit off p) := cnt_perm (kp.filter _)
    have hq : ((byK ps).filter fun p => hit off p).length = (ps.filter fun p => hit off p).length := (kp.filter _).length_eq
    have hall : ((byK ps).filter fun p => hit off p).length + ((byK ps).filter fun p => !hit off p).length = (byK ps).length := by
      have := (List.filter_append_perm (fun p => hit off p) (byK ps)).length_eq
      rwa [List.length_append] at this
    have sd := sum_drop_le (q := sz ((byK ps).filter fun p => !hit off p)) (s := sz (byK ps)) (List.filter_sublist.map _) (byK_desc ps) (ps.filter fun p => hit off p).length (by rw [List.length_map, List.length_map]; omega)
    rw [← safe_K] at sd
    have sd' : safe ps (ps.filter fun p => hit off p).length ≤ cnt ((byK ps).filter fun p => !hit off p) := sd
    have hH : (ps.filter fun p => hit off p).length = r := by
      refine Nat.le_antisymm (by show _ ≤ min m ps.length; omega) (Nat.le_of_not_lt fun z => ?_)
      have h2 := safe_lt ne (k := (ps.filter fun p => hit off p).length) (m := min m ps.length) z (by have : r ≤ ps.length := Nat.min_le_right _ _; omega)
      rw [safe_min] at h2
      omega
    rw [hH, show safe ps r = safe ps m from safe_min ps m] at sd'
    have eu : cnt (ps.filter fun p => !hit off p) = safe ps m := by omega
    have oe := one_each (off := off) (ps := ps) (by rw [hH]; show _ ≤ min m ps.length; omega)
    have rz := rest_zero (off := off) (ps := ps) (by omega)
    have ey : ∀ p ∈ ps, ∀ y ∈ p.1, y ∈ off → leS (endS p) y = true := fun p hp y hy ho => by
      by_cases e : p.2 = ""
      · unfold endS
        rw [if_pos e]
        exact rg p hp e y hy
      · have hh : hit off p = true := List.any_eq_true.mpr ⟨y, hy, decide_eq_true ho⟩
        have hl := row_last hh (rz p hp hh) e
        have hlm : p.1.getLastD "" ∈ p.1 := by
          rw [lastD (ne p hp)]
          exact List.getLast_mem (ne p hp)
        have : endS p = y := by
          unfold endS
          rw [if_neg e]
          exact two_mem (oe p hp) (List.mem_filter.mpr ⟨hlm, decide_eq_true hl⟩) (List.mem_filter.mpr ⟨hy, decide_eq_true ho⟩)
        rw [this]
        exact leS_refl _
    have hQl : ((byK ps).filter fun p => hit off p).length = r := hq.trans hH
    have tw := sub_two (le := leK) leK_refl leK_trans (q := (byK ps).filter fun p => hit off p) (s := byK ps) List.filter_sublist (byK_pw ps)
    rw [hQl] at tw
    have cT : cnt ((byK ps).take r) + safe ps m = cnt (byK ps) := by
      rw [← safe_min, safe_K]
      show (List.map _ ((byK ps).take r)).sum + ((List.map _ (byK ps)).drop r).sum = (List.map _ (byK ps)).sum
      rw [List.map_take, ← List.sum_append, List.take_append_drop]
    have cQ := cnt_split (fun p => hit off p) (byK ps)
    have te := (two_ends tw).2 (by omega)
    have dom : ∀ x, (off.filter fun y => leS y x).length ≤ ((EN ps m).filter fun y => leS y x).length := fun x => by
      have d1 : (off.filter fun y => leS y x).length ≤ (((moversA ps).filter fun x => decide (x ∈ off)).filter fun y => leS y x).length := by
        refine List.Nodup.length_le_of_subset (on.sublist List.filter_sublist) fun y hy => ?_
        obtain ⟨h1, h2⟩ := List.mem_filter.mp hy
        exact List.mem_filter.mpr ⟨List.mem_filter.mpr ⟨os y h1, decide_eq_true h1⟩, h2⟩
      have d2 := count_le (off := off) (x := x) (ps := ps) oe ey
      have d3 : ((ps.filter fun p => hit off p).filter fun p => leS (endS p) x).length = (((byK ps).filter fun p => hit off p).filter fun p => leS (endS p) x).length := (((kp.filter _).filter _).length_eq).symm
      have d4 := two_count (x := x) te
      have d5 : ((EN ps m).filter fun y => leS y x).length = (((byK ps).take r).filter fun p => leS (endS p) x).length := by
        rw [((sortS_perm _).filter _).length_eq, List.filter_map, List.length_map]
        have : (byK ps).take m = (byK ps).take r := by
          by_cases c : m ≤ ps.length
          · rw [show r = m from Nat.min_eq_left c]
          · rw [show r = ps.length from Nat.min_eq_right (by omega), List.take_of_length_le (by rw [kp.length_eq]; omega), List.take_of_length_le (by rw [kp.length_eq]; omega)]
        rw [this]
        rfl
      omega
    refine lex_dom ?_ (sortS_sorted _) dom
    rw [(sortS_perm _).length_eq, List.length_map, List.length_take, kp.length_eq, hr]
end K67
/-! K67S: worst_gone. -/
namespace K67
open PySem PySem.Spec PyProof.Rows L2 Sm Hn Hk K66
theorem toPy_rw (k : Int × Str) : toPy (rwD k) = some (.tuple [.int k.1, .str k.2]) := by
  show (toPys [.int k.1, .str k.2]).map PyData.tuple = _
  simp only [toPys]
  rfl
theorem enc_rw (k : Int × Str) : encT (rwD k) = .tuple [.int k.1, .str k.2] := by
  unfold encT
  rw [toPy_rw]
  rfl
theorem sortChk_rws {l : List (Int × Str)} (h : l.length ≤ 16777216) : sortChk (l.map rwD) = true := by
  unfold sortChk
  simp only [Bool.and_eq_true, decide_eq_true_eq, Bool.or_eq_true, List.all_eq_true]
  refine ⟨⟨⟨fun t ht => ?_, fun t ht u hu => ?_⟩, .inl fun t ht => ?_⟩, by rw [List.length_map]; omega⟩
  · obtain ⟨a, _, rfl⟩ := List.mem_map.mp ht
    refine ⟨by rw [toPy_rw]; rfl, ?_⟩
    rw [enc_rw]
    simp only [PyData.depth, PyData.depthAll]
    omega
  · obtain ⟨a, _, rfl⟩ := List.mem_map.mp ht
    obtain ⟨b, _, rfl⟩ := List.mem_map.mp hu
    rw [enc_rw, enc_rw]
    simp only [PySem.W.alike, PySem.W.alikeAll, Bool.and_self]
  · obtain ⟨a, _, rfl⟩ := List.mem_map.mp ht
    rw [enc_rw]
    rfl
theorem sorted_rw {ps : List Part} (h : ps.length ≤ 16777216) (S : Sto) : pSorted [.d (.lst (ps.map fun p => rwD (kp p)))] S = some (.d (.lst ((byK ps).map fun p => rwD (kp p))), S) := by
  have e : ps.map (fun p => rwD (kp p)) = (ps.map kp).map rwD := by rw [List.map_map]; rfl
  unfold pSorted byK
  simp only [seqT_lst]
  rw [if_pos (by rw [e]; exact sortChk_rws (by rw [List.length_map]; exact h)), isort_leT, List.map_mergeSort (f := fun p => rwD (kp p)) (r := fun a b => !ltI (kp b) (kp a)) (s := leT) fun a _ b _ => (leT_rw (kp a) (kp b)).symm]
theorem ender_ok {p : Part} (hne : p.1 ≠ []) (he : PyData.strOk p.2 = true) (S : Sto) : F_ender [.d (ptD p)] S = .ok (.d (.str (endS p))) S := by
  refine iso_ok (ts := [ptD p]) (S' := []) (runB_rt (ds := [.d (ptD p)]) rfl ?_)
  show b_ender [some (.d (ptD p)), none, none] [] = _
  let ρ : Sm.Env := [some (.d (ptD p)), some (.d (tupS p.1)), some (.d (.str p.2))]
  have s1 : sAsg (gT (gsCons (gN 1) (gsCons (gN 2) (gsNil)))) (mV 0) [some (.d (ptD p)), none, none] [] = .nx ρ [] := rfl
  have q1 : ∀ S, pEq (.d (.str p.2)) (.d (.str ("" : Str))) S = some (.d (.bl (decide (p.2 = ("" : Str)))), S) := fun S => eq_s he (by decide +kernel)
  have i0 : ∀ S, pIx (.d (tupS p.1)) (.d (.int 0)) S = some (.d (.str (p.1.headD "")), S) := fun S => by
    cases e : p.1 with
    | nil => exact absurd e hne
    | cons x l => exact ix_tup (i := 0) rfl
  have il : ∀ S, pIx (.d (tupS p.1)) (.d (.int (-1))) S = some (.d (.str (p.1.getLastD "")), S) := fun S => ix_last hne
  have ng : ∀ S, pNeg (.d (.int 1)) S = some (.d (.int (-1)), S) := fun S => rfl
  have c1 : mTst (m2 pEq (mV 2) (mC (.str ("" : Str)))) ρ [] = .ok (decide (p.2 = ("" : Str))) [] := by
    simp only [ρ, sSeq_s, sSet_s, sRet_s, sDrop_s, sIf_s, sFor_s, sPars_s, sNil_s, sqz_nx, sqz_rt, m1_s, m2_s, mN_s, mF_s, mV_s, mC_s, aCons_s, aNil_s, aApp_s, mIf_s, mTst_s, toB_s, mTru_s, cAnd_s, cOr_s, cNot_s, cYes_s, mAnd_s, mSl_s, oPt_s, oNo_s, mFrz_s, gN_s, gT_s, List.getElem?_cons_zero, List.getElem?_cons_succ, bind_ok, to_ok, Sm.lift_some, li_some, oz_some, bz_some, nox_ok, q1]
  unfold b_ender
  rw [sSeq_s, s1, sqz_nx]
  refine st_ret ?_
  rw [mIf_s, c1, bind_ok]
  unfold endS
  by_cases h : p.2 = ""
  · rw [if_pos (decide_eq_true h), if_pos h]
    simp only [ρ, sSeq_s, sSet_s, sRet_s, sDrop_s, sIf_s, sFor_s, sPars_s, sNil_s, sqz_nx, sqz_rt, m1_s, m2_s, mN_s, mF_s, mV_s, mC_s, aCons_s, aNil_s, aApp_s, mIf_s, mTst_s, toB_s, mTru_s, cAnd_s, cOr_s, cNot_s, cYes_s, mAnd_s, mSl_s, oPt_s, oNo_s, mFrz_s, gN_s, gT_s, List.getElem?_cons_zero, List.getElem?_cons_succ, bind_ok, to_ok, Sm.lift_some, li_some, oz_some, bz_some, nox_ok, i0]
  · rw [decide_eq_false h, if_neg (by decide), if_neg h]
    simp only [ρ, sSeq_s, sSet_s, sRet_s, sDrop_s, sIf_s, sFor_s, sPars_s, sNil_s, sqz_nx, sqz_rt, m1_s, m2_s, mN_s, mF_s, mV_s, mC_s, aCons_s, aNil_s, aApp_s, mIf_s, mTst_s, toB_s, mTru_s, cAnd_s, cOr_s, cNot_s, cYes_s, mAnd_s, mSl_s, oPt_s, oNo_s, mFrz_s, gN_s, gT_s, List.getElem?_cons_zero, List.getElem?_cons_succ, bind_ok, to_ok, Sm.lift_some, li_some, oz_some, bz_some, nox_ok, ng, il]
theorem worst_gone_ok {ps : List Part} (w : Wp ps) (m : Nat) (S : Sto) : F_worst_gone [.d (plO ps), .d (inD m)] S = .ok (.d (tupS (EN ps m))) S := by
  refine iso_ok (ts := [plO ps, inD m]) (S' := []) (runB_rt (ds := [.d (plO ps), .d (inD m)]) rfl ?_)
  show b_worst_gone [some (.d (plO ps)), some (.d (inD m)), none, none, none, none] [] = _
  have zl := w.zl
  have nd := w.nd.sublist movers_sub
  let E : Option Dv → Option Dv → Option Dv → Option Dv → Sm.Env := fun a b c d => [some (.d (plO ps)), some (.d (inD m)), a, b, c, d]
  have pr : ∀ a b c d, mPropM 2 Hk.F_Plan_parts (mV 0) (E a b c d) [] = .ok (.d (.tup (ps.map ptD))) [] := fun a b c d => by
    unfold mPropM
    rw [show mV 0 (E a b c d) [] = .ok (.d (plO ps)) [] from rfl, bind_ok, if_pos is_pl, parts_ok, nox_ok]
  have l1 := mLc_pure (vs := [3]) (g := gN 3) (c := cYes) (e := mN pTup (aCons (m1 pNeg (mN pLen (aCons (m2 pIx (mV 3) (mC (.int 0))) (aNil)))) (aCons (mF F_ender (aCons (mV 3) (aNil))) (aNil)))) (it := iSeq (mPropM 2 Hk.F_Plan_parts (mV 0))) (ρ := E none none none none) (S := []) ptD ps (fun _ => true) (fun p => rwD (kp p)) (by
    rw [iSeq_s, pr, bind_ok]
    rfl) (by omega) fun p hp => ⟨E none (some (.d (ptD p))) none none, rfl, rfl, fun _ => by
    have en := fun S => ender_ok (w.ne p hp) (w.pe hp) S
    have i0 : ∀ S, pIx (.d (ptD p)) (.d (.int 0)) S = some (.d (tupS p.1), S) := fun S => ix_tup (i := 0) rfl
    have ln : ∀ S, pLen [.d (tupS p.1)] S = some (.d (.int (p.1.length : Int)), S) := fun S => len_t
    have ng : ∀ S, pNeg (.d (.int (p.1.length : Int))) S = some (.d (.int (-(p.1.length : Int))), S) := fun S => rfl
    have tp : ∀ S, pTup [.d (.int (-(p.1.length : Int))), .d (.str (endS p))] S = some (.d (rwD (kp p)), S) := fun S => rfl
    simp only [E, sSeq_s, sSet_s, sRet_s, sDrop_s, sIf_s, sFor_s, sPars_s, sNil_s, sqz_nx, sqz_rt, m1_s, m2_s, mN_s, mF_s, mV_s, mC_s, aCons_s, aNil_s, aApp_s, mIf_s, mTst_s, toB_s, mTru_s, cAnd_s, cOr_s, cNot_s, cYes_s, mAnd_s, mSl_s, oPt_s, oNo_s, mFrz_s, gN_s, gT_s, List.getElem?_cons_zero, List.getElem?_cons_succ, bind_ok, to_ok, Sm.lift_some, li_some, oz_some, bz_some, nox_ok, en, i0, ln, ng, tp]⟩
  rw [filter_yes] at l1
  have s1 : sSet 2 (mN pSorted (aCons (mN pLst (mLcI [3] (iSeq (mPropM 2 Hk.F_Plan_parts (mV 0))) (gN 3) (cYes) (mN pTup (aCons (m1 pNeg (mN pLen (aCons (m2 pIx (mV 3) (mC (.int 0))) (aNil)))) (aCons (mF F_ender (aCons (mV 3) (aNil))) (aNil)))))) (aNil))) (E none none none none) [] = .nx (E (some (.d (.lst ((byK ps).map fun p => rwD (kp p))))) none none none) [] := st_set (ex_mN (ex_a1 l1) (sorted_rw (by omega) []))
  let T := (byK ps).take m
  have tz : T.length ≤ 1000 := by
    have h1 : T.length = min m (byK ps).length := List.length_take
    have h2 := (byK_perm ps).length_eq
    omega
  have c1 : ∀ S, pSl none (some ((m : Nat) : Int)) (.d (.lst ((byK ps).map fun p => rwD (kp p)))) S = some (.d (.lst (T.map fun p => rwD (kp p))), S) := fun S => by
    rw [sl_l, cut_map, cut_to]
  have l2 := mLc_pure (vs := [4, 5]) (g := gT (gsCons (gN 4) (gsCons (gN 5) (gsNil)))) (c := cYes) (e := mV 5) (it := iSeq (mSl pSl (mV 2) (oNo) (oPt (mV 1)))) (ρ := E (some (.d (.lst ((byK ps).map fun p => rwD (kp p))))) none none none) (S := []) (fun p => rwD (kp p)) T (fun _ => true) (fun p => Dt.str (endS p)) (by
    have sl : mSl pSl (mV 2) (oNo) (oPt (mV 1)) (E (some (.d (.lst ((byK ps).map fun p => rwD (kp p))))) none none none) [] = .ok (.d (.lst (T.map fun p => rwD (kp p)))) [] := by
      simp only [E, sSeq_s, sSet_s, sRet_s, sDrop_s, sIf_s, sFor_s, sPars_s, sNil_s, sqz_nx, sqz_rt, m1_s, m2_s, mN_s, mF_s, mV_s, mC_s, aCons_s, aNil_s, aApp_s, mIf_s, mTst_s, toB_s, mTru_s, cAnd_s, cOr_s, cNot_s, cYes_s, mAnd_s, mSl_s, oPt_s, oNo_s, mFrz_s, gN_s, gT_s, List.getElem?_cons_zero, List.getElem?_cons_succ, bind_ok, to_ok, Sm.lift_some, li_some, oz_some, bz_some, nox_ok, c1]
    rw [iSeq_s, sl, bind_ok]
    rfl) (by omega) fun p hp => ⟨E (some (.d (.lst ((byK ps).map fun p => rwD (kp p))))) none (some (.d (.int (kp p).1))) (some (.d (.str (endS p)))), rfl, rfl, fun _ => rfl⟩
  rw [filter_yes, show (T.map fun p => Dt.str (endS p)) = (T.map endS).map .str by rw [List.map_map]; rfl] at l2
  have kn : (T.map endS).Nodup := (ends_nd (K_ne w.ne) (K_nd nd)).sublist ((List.take_sublist _ _).map _)
  have as := as_setL (l := T.map endS) (by rw [List.length_map]; omega) []
  rw [show setS (T.map endS) = sortS (ddS (T.map endS)) from rfl, ddS_id kn] at as
  unfold b_worst_gone
  rw [sSeq_s, s1, sqz_nx]
  exact st_ret (ex_mF (ex_a1 l2) as)
end K67
/-! K67V: the law's worst set. -/
namespace K67
open PySem PySem.Spec PyProof.Rows L2 Sm Hn Hk K66
theorem sets_form {m : Nat} : ∀ {l : List Str} {f : List (List Str)} {o : List Str}, o ∈ setsL m l f → ∃ a ∈ f, ∃ t : List Str, t.Sublist l ∧ o = a ++ t
  | [], f, o, h => ⟨o, h, [], List.Sublist.slnil, (List.append_nil o).symm⟩
  | x :: l, f, o, h => by
    obtain ⟨a, ha, t, ht, e⟩ := sets_form (l := l) h
    rcases List.mem_append.mp ha with q | q
    · exact ⟨a, q, t, ht.cons x, e⟩
    · obtain ⟨b, hb, e2⟩ := List.mem_map.mp q
      refine ⟨b, (List.mem_filter.mp hb).1, x :: t, ht.cons_cons x, ?_⟩
      rw [e, ← e2, List.append_assoc]
      rfl
theorem pminN {L : List (List Str)} {E : List Str} {S : Sto} (h : E ∈ L) (hm : ∀ y ∈ L, y ≠ E → ltL E y = true) : pMinN [.d (.lst (L.map tupS))] S = some (.d (tupS E), S) := by
  have e : (lstT S (.d (.lst (L.map tupS)))).bind strsTs = some L := by
    show ((some ((L.map tupS).map Dv.d)).bind pures).bind strsTs = some L
    rw [Option.bind_some, pures_d, Option.bind_some]
    exact strsTs_map L
  show (match (lstT S (.d (.lst (L.map tupS)))).bind strsTs with
    | some (x :: l) => some (Dv.d (.tup ((minLs x l).map .str)), S)
    | _ => none) = _
  rw [e]
  cases L with
  | nil => cases h
  | cons x l =>
    show some (Dv.d (.tup ((minLs x l).map .str)), S) = _
    rw [minLs_is l x h hm]
theorem lworst_ok {ps : List Part} (ne : ∀ p ∈ ps, p.1 ≠ []) (nd : (moversA ps).Nodup) (rg : ∀ p ∈ ps, p.2 = "" → ∀ y ∈ p.1, leS (p.1.headD "") y = true) (mz : (moversA ps).length ≤ 8) (hz : ps.length ≤ 100) (he : ∀ p ∈ ps, PyData.strOk p.2 = true) {m : Nat} (hm : m ≤ 1000) (S : Sto) : F__law_worst [.d (.tup (ps.map ptD)), .d (inD m)] S = .ok (.d (tupS (EN ps m))) S := by
  have pz : ∀ p ∈ ps, p.1.length < 1000 := fun p hp => by
    have : p.1.length ≤ (moversA ps).length := part_len hp
    omega
  let pool := sortS (moversA ps)
  have pp : pool.Perm (moversA ps) := sortS_perm _
  have pa : pool.Pairwise fun a b => leS a b = true := sortS_sorted _
  have plz : pool.length ≤ 8 := by rw [pp.length_eq]; exact mz
  let L := setsL m pool [[]]
  have Lz : L.length ≤ 256 := by
    have h1 := sets_z (m := m) (l := pool) (f := [[]])
    have h8 : 2 ^ pool.length ≤ 2 ^ 8 := Nat.pow_le_pow_right (by decide) plz
    have : L.length ≤ 1 * 2 ^ pool.length := h1
    omega
  let f : List Str → Nat := fun off => cnt (restA off ps)
  obtain ⟨t1, t2, t3⟩ := worst_top ne nd pp pa m
  have EL : EN ps m ∈ L := by
    have := sets_in (m := m) (l := pool) (f := [[]]) (a := []) (t := EN ps m) List.mem_cons_self t1 (by
      show (EN ps m).length ≤ m
      rw [t2]
      exact Nat.min_le_left _ _)
    simpa using this
  have Lsub : ∀ o ∈ L, o.Sublist pool := fun o ho => by
    obtain ⟨a, ha, t, ht, e⟩ := sets_form ho
    rw [List.mem_singleton.mp ha, List.nil_append] at e
    rw [e]
    exact ht
  have Llow : ∀ o ∈ L, safe ps m ≤ f o := fun o ho => safe_low nd (off := o) (sets_len (m := m) (l := pool) (f := [[]]) (fun a ha => by rw [List.mem_singleton.mp ha]; exact Nat.zero_le _) o ho)
  have Lw : ∀ o ∈ L, f o = safe ps m → min m ps.length ≤ o.length ∧ (o.length = min m ps.length → EN ps m = o ∨ ltL (EN ps m) o = true) := fun o ho e => worst_low ne nd rg ((pp.nodup_iff.mpr nd).sublist (Lsub o ho)) (fun x hx => pp.mem_iff.mp ((Lsub o ho).subset hx)) e
  refine iso_ok (ts := [.tup (ps.map ptD), inD m]) (S' := []) (runB_rt (ds := [.d (.tup (ps.map ptD)), .d (inD m)]) rfl ?_)
  show b__law_worst [some (.d (.tup (ps.map ptD))), some (.d (inD m)), none, none, none, none, none] [] = _
  have a1 := all_ok (ps := ps) (by omega) []
  have a2 := sets_ok (l := pool) plz (m := m) hm []
  let E : Option Dv → Option Dv → Option Dv → Option Dv → Sm.Env := fun a b c d => [some (.d (.tup (ps.map ptD))), some (.d (inD m)), some (.d (.lst (L.map tupS))), a, b, c, d]
  have s1 : sSet 2 (mF F__law_sets (aCons (mF F__law_all_in (aCons (mV 0) (aNil))) (aCons (mV 1) (aNil)))) [some (.d (.tup (ps.map ptD))), some (.d (inD m)), none, none, none, none, none] [] = .nx (E none none none none) [] := by
    refine st_set (ex_mF (ds := [.d (lstS pool), .d (inD m)]) (S1 := []) ?_ a2)
    rw [aCons_s, ex_mF (ex_a1 (d := .d (.tup (ps.map ptD))) (S1 := []) rfl) a1, bind_ok]
    rfl
  have ev : ∀ a c d off, mF F__law_count (aCons (mF F__law_rest_of (aCons (mV 0) (aCons (mV 4) (aNil)))) (aNil)) (E a (some (.d (tupS off))) c d) [] = .ok (.d (inD (f off))) [] := fun a c d off => by
    have r1 := rest_ok (off := off) (ps := ps) (fun p hp => ⟨pz p hp, he p hp⟩) (by omega) []
    have rl := restA_len off ps
    have c1 := count_ok (ps := restA off ps) (by omega) []
    exact ex_mF (ex_a1 (ex_mF (ds := [.d (.tup (ps.map ptD)), .d (tupS off)]) (S1 := []) rfl r1)) c1
  have h := mLc_pure (vs := [4]) (g := gN 4) (c := cYes) (e := mF F__law_count (aCons (mF F__law_rest_of (aCons (mV 0) (aCons (mV 4) (aNil)))) (aNil))) (it := iSeq (mV 2)) (ρ := E none none none none) (S := []) tupS L (fun _ => true) (fun off => inD (f off)) rfl (by omega) fun off _ => ⟨E none (some (.d (tupS off))) none none, rfl, rfl, fun _ => ev _ _ _ off⟩
  rw [filter_yes, show (L.map fun off => inD (f off)) = (L.map fun off => ((f off : Nat) : Int)).map Dt.int by rw [List.map_map]; rfl] at h
  have mi : minI (L.map fun off => ((f off : Nat) : Int)) = ((safe ps m : Nat) : Int) := by
    refine minI_is (List.mem_map.mpr ⟨EN ps m, EL, by show ((f (EN ps m) : Nat) : Int) = _; rw [show f (EN ps m) = safe ps m from t3]⟩) fun y hy => ?_
    obtain ⟨o2, ho, rfl⟩ := List.mem_map.mp hy
    have := Llow o2 ho
    show ((safe ps m : Nat) : Int) ≤ ((f o2 : Nat) : Int)
    omega
  have pm := pmin_ints (l := L.map fun off => ((f off : Nat) : Int)) (S := []) (fun z => by rw [List.map_eq_nil_iff.mp z] at EL; cases EL)
  rw [mi] at pm
  have s2 : sSet 3 (mN pMin1 (aCons (mN pLst (mLcI [4] (iSeq (mV 2)) (gN 4) (cYes) (mF F__law_count (aCons (mF F__law_rest_of (aCons (mV 0) (aCons (mV 4) (aNil)))) (aNil))))) (aNil))) (E none none none none) [] = .nx (E (some (.d (inD (safe ps m)))) none none none) [] := st_set (ex_mN (ex_a1 h) pm)
  let Z := L.filter fun off => decide (f off = safe ps m)
  have Zz : Z.length ≤ 256 := Nat.le_trans (List.length_filter_le _ _) Lz
  have EZ : EN ps m ∈ Z := List.mem_filter.mpr ⟨EL, decide_eq_true t3⟩
  have Zw : ∀ o ∈ Z, min m ps.length ≤ o.length ∧ (o.length = min m ps.length → EN ps m = o ∨ ltL (EN ps m) o = true) := fun o ho => Lw o (List.mem_filter.mp ho).1 (of_decide_eq_true (List.mem_filter.mp ho).2)
  have h3 := mLc_pure (vs := [4]) (g := gN 4) (c := mTst (m2 pEq (mF F__law_count (aCons (mF F__law_rest_of (aCons (mV 0) (aCons (mV 4) (aNil)))) (aNil))) (mV 3))) (e := mV 4) (it := iSeq (mV 2)) (ρ := E (some (.d (inD (safe ps m)))) none none none) (S := []) tupS L (fun off => decide (f off = safe ps m)) tupS rfl (by omega) fun off _ => ⟨E (some (.d (inD (safe ps m)))) (some (.d (tupS off))) none none, rfl, by
    have q : pEq (.d (inD (f off))) (.d (inD (safe ps m))) [] = some (.d (.bl (decide (f off = safe ps m))), []) := by
      have e : decide (((f off : Nat) : Int) = ((safe ps m : Nat) : Int)) = decide (f off = safe ps m) := decide_eq_decide.mpr (by omega)
      rw [eq_i, e]
    rw [mTst_s, ex_m2 (ev _ _ _ off) (e := .d (inD (safe ps m))) (S2 := []) rfl q]
    rfl, fun _ => rfl⟩
  have s3 := st_set (i := 5) h3
  have h4 := mLc_pure (vs := [4]) (g := gN 4) (c := cYes) (e := mN pLen (aCons (mV 4) (aNil))) (it := iSeq (mV 5)) (ρ := E (some (.d (inD (safe ps m)))) none (some (.d (.lst (Z.map tupS)))) none) (S := []) tupS Z (fun _ => true) (fun off => inD off.length) rfl (by omega) fun off _ => ⟨E (some (.d (inD (safe ps m)))) (some (.d (tupS off))) (some (.d (.lst (Z.map tupS)))) none, rfl, rfl, fun _ => ex_mN (ex_a1 (d := .d (tupS off)) rfl) len_t⟩
  rw [filter_yes, show (Z.map fun off => inD off.length) = (Z.map fun off => ((off.length : Nat) : Int)).map Dt.int by rw [List.map_map]; rfl] at h4
  have mi2 : minI (Z.map fun off => ((off.length : Nat) : Int)) = ((min m ps.length : Nat) : Int) := by
    refine minI_is (List.mem_map.mpr ⟨EN ps m, EZ, by rw [t2]⟩) fun y hy => ?_
    obtain ⟨o2, ho, rfl⟩ := List.mem_map.mp hy
    have := (Zw o2 ho).1
    show ((min m ps.length : Nat) : Int) ≤ ((o2.length : Nat) : Int)
    omega
  have pm2 := pmin_ints (l := Z.map fun off => ((off.length : Nat) : Int)) (S := []) (fun z => by rw [List.map_eq_nil_iff.mp z] at EZ; cases EZ)
  rw [mi2] at pm2
  let ρ5 := E (some (.d (inD (safe ps m)))) none (some (.d (.lst (Z.map tupS)))) (some (.d (inD (min m ps.length))))
  let Y := Z.filter fun off => decide (off.length = min m ps.length)
  have h5 := mLc_pure (vs := [4]) (g := gN 4) (c := mTst (m2 pEq (mN pLen (aCons (mV 4) (aNil))) (mV 6))) (e := mV 4) (it := iSeq (mV 5)) (ρ := ρ5) (S := []) tupS Z (fun off => decide (off.length = min m ps.length)) tupS rfl (by omega) fun off _ => ⟨E (some (.d (inD (safe ps m)))) (some (.d (tupS off))) (some (.d (.lst (Z.map tupS)))) (some (.d (inD (min m ps.length)))), rfl, by
    have q : pEq (.d (.int (off.length : Int))) (.d (inD (min m ps.length))) [] = some (.d (.bl (decide (off.length = min m ps.length))), []) := by
      have e : decide ((off.length : Int) = ((min m ps.length : Nat) : Int)) = decide (off.length = min m ps.length) := decide_eq_decide.mpr (by omega)
      rw [eq_i, e]
    rw [mTst_s, ex_m2 (ex_mN (ex_a1 (d := .d (tupS off)) (S1 := []) rfl) len_t) (e := .d (inD (min m ps.length))) (S2 := []) rfl q]
    rfl, fun _ => rfl⟩
  have pn := pminN (L := Y) (E := EN ps m) (S := []) (List.mem_filter.mpr ⟨EZ, decide_eq_true t2⟩) fun y hy hne => by
    obtain ⟨y1, y2⟩ := List.mem_filter.mp hy
    rcases (Zw y y1).2 (of_decide_eq_true y2) with q | q
    · exact absurd q.symm hne
    · exact q
  unfold b__law_worst
  rw [sSeq_s, s1, sqz_nx, sSeq_s, s2, sqz_nx, sSeq_s, s3, sqz_nx, sSeq_s]
  have s4 : sSet 6 (mN pMin1 (aCons (mN pLst (mLcI [4] (iSeq (mV 5)) (gN 4) (cYes) (mN pLen (aCons (mV 4) (aNil))))) (aNil))) (E (some (.d (inD (safe ps m)))) none (some (.d (.lst (Z.map tupS)))) none) [] = .nx ρ5 [] := st_set (ex_mN (ex_a1 h4) pm2)
  show (sqz (sSet 6 _ (E (some (.d (inD (safe ps m)))) none (some (.d (.lst (Z.map tupS)))) none) []) _) = _
  rw [s4, sqz_nx]
  exact st_ret (ex_mN (ex_a1 h5) pn)
end K67
/-! K67X: the weak ones, in plain mathematics. -/
namespace K67
open PySem PySem.Spec PyProof.Rows L2 Sm Hn Hk K66
theorem one_hit {x : Str} : ∀ {ps : List Part} {p : Part}, (moversA ps).Nodup → p ∈ ps → x ∈ p.1 → cnt (restA [x] ps) + p.1.length = cnt ps + cnt (restP [x] p)
  | [], p, _, hp, _ => nomatch hp
  | q :: ps, p, nd, hp, hx => by
    have nd' : (q.1 ++ moversA ps).Nodup := nd
    obtain ⟨n1, n2, n3⟩ := List.nodup_append.mp nd'
    have e : cnt (restA [x] (q :: ps)) = cnt (restP [x] q) + cnt (restA [x] ps) := by
      show (List.map _ (restP [x] q ++ restA [x] ps)).sum = _
      rw [List.map_append, List.sum_append]
    have e2 : cnt (q :: ps) = q.1.length + cnt ps := rfl
    rw [e, e2]
    rcases List.mem_cons.mp hp with rfl | hp
    · have un : restA [x] ps = ps := by
        have : ∀ qs : List Part, (∀ r ∈ qs, restP [x] r = [r]) → restA [x] qs = qs := fun qs => by
          induction qs with
          | nil => intro _; rfl
          | cons r qs ih =>
            intro h
            show restP _ r ++ restA _ qs = _
            rw [h r List.mem_cons_self, ih fun p hp => h p (List.mem_cons_of_mem _ hp)]
            rfl
        refine this ps fun r hr => rest_un fun y hy z => ?_
        rw [List.mem_singleton.mp z] at hy
        exact n3 x hx x (List.mem_flatMap.mpr ⟨r, hr, hy⟩) rfl
      rw [un]
      omega
    · have ih := one_hit (x := x) n2 hp hx
      have un : restP [x] q = [q] := rest_un fun y hy z => by
        rw [List.mem_singleton.mp z] at hy
        exact n3 x hy x (List.mem_flatMap.mpr ⟨p, hp, hx⟩) rfl
      rw [un]
      show (q.1.length + 0) + _ + _ = _
      omega
def mx (ps : List Part) : Nat := (sz ps).foldl max 0
theorem foldmax0 : ∀ (l : List Nat) (a : Nat), a ≤ l.foldl max a ∧ (∀ y ∈ l, y ≤ l.foldl max a) ∧ (l.foldl max a = a ∨ l.foldl max a ∈ l)
  | [], a => ⟨Nat.le_refl _, (fun y hy => nomatch hy), .inl rfl⟩
  | b :: l, a => by
    obtain ⟨h1, h2, h3⟩ := foldmax0 l (max a b)
    rw [List.foldl_cons]
    refine ⟨by omega, fun y hy => ?_, ?_⟩
    · rcases List.mem_cons.mp hy with rfl | hy
      · omega
      · exact h2 y hy
    · rcases h3 with h | h
      · by_cases c : a ≤ b
        · rw [Nat.max_eq_right c] at h
          right
          rw [Nat.max_eq_right c, h]
          exact List.mem_cons_self
        · rw [Nat.max_eq_left (by omega)] at h
          left
          rw [Nat.max_eq_left (by omega), h]
      · exact .inr (List.mem_cons_of_mem _ h)
theorem mx_le {ps : List Part} {p : Part} (h : p ∈ ps) : p.1.length ≤ mx ps := (foldmax0 (sz ps) 0).2.1 _ (List.mem_map.mpr ⟨p, h, rfl⟩)
theorem mx_has {ps : List Part} (ne : ∀ p ∈ ps, p.1 ≠ []) (h : ps ≠ []) : ∃ p ∈ ps, p.1.length = mx ps := by
  rcases (foldmax0 (sz ps) 0).2.2 with e | e
  · cases hp : ps with
    | nil => exact absurd hp h
    | cons p qs =>
      have h1 : p ∈ ps := by rw [hp]; exact List.mem_cons_self
      have h2 := mx_le h1
      have h3 : 0 < p.1.length := List.length_pos_iff.mpr (ne p h1)
      have e' : mx ps = 0 := e
      omega
  · obtain ⟨p, hp, q⟩ := List.mem_map.mp e
    exact ⟨p, hp, q⟩
def weakP (ps : List Part) (p : Part) : List Str := if p.1.length = mx ps then (if p.2 = "" then p.1 else p.1.drop (p.1.length - 1)) else []
def weakL (ps : List Part) : List Str := ps.flatMap (weakP ps)
theorem drop_last {l : List Str} (h : l ≠ []) : l.drop (l.length - 1) = [l.getLastD ""] := by
  have hp : 0 < l.length := List.length_pos_iff.mpr h
  rw [List.drop_eq_getElem_cons (by omega), lastD h, List.getLast_eq_getElem, List.drop_of_length_le (by omega)]
theorem zero_iff {p : Part} {x : Str} (hne : p.1 ≠ []) (hx : x ∈ p.1) : cnt (restP [x] p) = 0 ↔ (p.2 = "" ∨ x = p.1.getLastD "") := by
  have hh : hit [x] p = true := List.any_eq_true.mpr ⟨x, hx, by simp⟩
  constructor
  · intro h
    by_cases e : p.2 = ""
    · exact .inl e
    · exact .inr (List.mem_singleton.mp (row_last hh h e)).symm
  · intro h
    by_cases e : p.2 = ""
    · have hn : hits [x] p.1 ≠ [] := fun z => hits_nil.mp z x hx (List.mem_singleton.mpr rfl)
      unfold restP
      rw [if_neg hn, if_neg fun z => z.1 e]
      rfl
    · rcases h with h | h
      · exact absurd h e
      · rw [rest_hit hne (by rw [h]; exact List.mem_singleton.mpr rfl)]
        rfl
theorem weak_mem {ps : List Part} (ne : ∀ p ∈ ps, p.1 ≠ []) (nd : (moversA ps).Nodup) {x : Str} : x ∈ weakL ps ↔ x ∈ moversA ps ∧ cnt (restA [x] ps) + mx ps = cnt ps := by
  constructor
  · intro h
    obtain ⟨p, hp, hx⟩ := List.mem_flatMap.mp h
    unfold weakP at hx
    by_cases c : p.1.length = mx ps
    · rw [if_pos c] at hx
      have hx' : x ∈ p.1 ∧ (p.2 = "" ∨ x = p.1.getLastD "") := by
        by_cases e : p.2 = ""
        · rw [if_pos e] at hx
          exact ⟨hx, .inl e⟩
        · rw [if_neg e] at hx
          have : x = p.1.getLastD "" := by
            rw [drop_last (ne p hp)] at hx
            exact List.mem_singleton.mp hx
          exact ⟨List.mem_of_mem_drop hx, .inr this⟩
      refine ⟨List.mem_flatMap.mpr ⟨p, hp, hx'.1⟩, ?_⟩
      have h1 := one_hit nd hp hx'.1
      have h2 := (zero_iff (ne p hp) hx'.1).mpr hx'.2
      omega
    · rw [if_neg c] at hx
      cases hx
  · rintro ⟨h, e⟩
    obtain ⟨p, hp, hx⟩ := List.mem_flatMap.mp h
    have h1 := one_hit nd hp hx
    have h2 := mx_le hp
    have c : p.1.length = mx ps := by omega
    have h3 := (zero_iff (ne p hp) hx).mp (by omega)
    refine List.mem_flatMap.mpr ⟨p, hp, ?_⟩
    unfold weakP
    rw [if_pos c]
    by_cases e2 : p.2 = ""
    · rw [if_pos e2]
      exact hx
    · rw [if_neg e2, drop_last (ne p hp)]
      rcases h3 with h3 | h3
      · exact absurd h3 e2
      · exact List.mem_singleton.mpr h3
theorem weak_low {ps : List Part} (nd : (moversA ps).Nodup) {x : Str} (h : x ∈ moversA ps) : cnt ps ≤ cnt (restA [x] ps) + mx ps := by
  obtain ⟨p, hp, hx⟩ := List.mem_flatMap.mp h
  have h1 := one_hit nd hp hx
  have h2 := mx_le hp
  omega
theorem weak_ex {ps : List Part} (ne : ∀ p ∈ ps, p.1 ≠ []) (nd : (moversA ps).Nodup) (h : ps ≠ []) : ∃ x ∈ moversA ps, cnt (restA [x] ps) + mx ps = cnt ps := by
  obtain ⟨p, hp, e⟩ := mx_has ne h
  have hm := endS_mem (ne p hp)
  refine ⟨endS p, List.mem_flatMap.mpr ⟨p, hp, hm⟩, ?_⟩
  have h1 := one_hit nd hp hm
  rw [rest_end (ne p hp) (List.mem_singleton.mpr rfl)] at h1
  have : cnt ([] : List Part) = 0 := rfl
  omega
end K67
/-! K67Y: weak_ones, and the law's. -/
namespace K67
open PySem PySem.Spec PyProof.Rows L2 Sm Hn Hk K66
theorem cut_end {l : List Dt} : cutL l (some (-1)) none = l.drop (l.length - 1) := by
  unfold cutL
  have e : HT.sIx l.length 0 (some (-1)) = l.length - 1 := by
    show (if (-1 : Int) < 0 then ((-1 : Int) + (l.length : Int)).toNat else min ((-1 : Int)).toNat l.length) = _
    rw [if_pos (by decide)]
    omega
  have e0 : HT.sIx l.length l.length none = l.length := rfl
  rw [e, e0]
  exact List.take_of_length_le (by rw [List.length_drop]; omega)
theorem maxI_nat (l : List Nat) : maxI (l.map fun n : Nat => (n : Int)) = ((l.foldl max 0 : Nat) : Int) := by
  cases l with
  | nil => rfl
  | cons a l =>
    obtain ⟨_, h2, h3⟩ := foldmax0 (a :: l) 0
    refine maxI_is (List.mem_map.mpr ⟨(a :: l).foldl max 0, ?_, rfl⟩) fun y hy => ?_
    · rcases h3 with h | h
      · have := h2 a List.mem_cons_self
        rw [h] at this ⊢
        have e : a = 0 := by omega
        rw [e]
        exact List.mem_cons_self
      · exact h
    · obtain ⟨n, hn, rfl⟩ := List.mem_map.mp hy
      have := h2 n hn
      show (n : Int) ≤ _
      omega
theorem maxD0_ok {l : List Int} {S : Sto} : pMaxD0 (.d (.lst (l.map .int))) S = some (.d (.int (maxI l)), S) := by
  show (match ((some ((l.map Dt.int).map Dv.d)).bind pures).bind intsOf with
    | some l => some (Dv.d (.int (maxI l)), S)
    | none => none) = _
  rw [Option.bind_some, pures_d, Option.bind_some, Hn.intsOf_map]
abbrev eW (ps : List Part) (z3 z4 : Option Dv) : Sm.Env := [some (.d (plO ps)), some (.loc 0), some (.d (inD (mx ps))), z3, z4]
theorem weak_loop {ps : List Part} : ∀ (qs : List Part) (k : List Str) (z3 z4 : Option Dv), (∀ p ∈ qs, PyData.strOk p.2 = true) → k.length + (moversA qs).length ≤ 4000 →
    ∃ y3 y4, forL (gT (gsCons (gN 3) (gsCons (gN 4) (gsNil)))) l1_weak_ones (qs.map ptD) (eW ps z3 z4) [sB k] = .nx (eW ps y3 y4) [sB (k ++ qs.flatMap (weakP ps))]
  | [], k, z3, z4, _, _ => ⟨z3, z4, by
    rw [List.flatMap_nil, List.append_nil]
    rfl⟩
  | p :: qs, k, z3, z4, he, hz => by
    rw [show moversA (p :: qs) = p.1 ++ moversA qs from rfl, List.length_append] at hz
    let ρ := eW ps (some (.d (tupS p.1))) (some (.d (.str p.2)))
    have hl : (weakP ps p).length ≤ p.1.length := by
      unfold weakP
      split
      · split
        · exact Nat.le_refl _
        · rw [List.length_drop]
          omega
      · exact Nat.zero_le _
    have ln : ∀ S, pLen [.d (tupS p.1)] S = some (.d (.int (p.1.length : Int)), S) := fun S => len_t
    have q0 : ∀ S, pEq (.d (.int (p.1.length : Int))) (.d (inD (mx ps))) S = some (.d (.bl (decide (p.1.length = mx ps))), S) := fun S => by
      have e : decide ((p.1.length : Int) = ((mx ps : Nat) : Int)) = decide (p.1.length = mx ps) := decide_eq_decide.mpr (by omega)
      rw [eq_i, e]
    have q1 : ∀ S, pEq (.d (.str p.2)) (.d (.str ("" : Str))) S = some (.d (.bl (decide (p.2 = ("" : Str)))), S) := fun S => eq_s (he p List.mem_cons_self) (by decide +kernel)
    have ng : ∀ S, pNeg (.d (.int 1)) S = some (.d (.int (-1)), S) := fun S => rfl
    have sl : ∀ S, pSl (some (-1)) none (.d (tupS p.1)) S = some (.d (tupS (p.1.drop (p.1.length - 1))), S) := fun S => by
      rw [sl_t, cut_end, List.length_map, ← List.map_drop]
    have c0 : mTst (m2 pEq (mN pLen (aCons (mV 3) (aNil))) (mV 2)) ρ [sB k] = .ok (decide (p.1.length = mx ps)) [sB k] := by
      simp only [ρ, eW, sSeq_s, sSet_s, sRet_s, sDrop_s, sIf_s, sFor_s, sPars_s, sNil_s, sqz_nx, sqz_rt, m1_s, m2_s, mN_s, mF_s, mV_s, mC_s, aCons_s, aNil_s, aApp_s, mIf_s, mTst_s, toB_s, mTru_s, cAnd_s, cOr_s, cNot_s, cYes_s, mAnd_s, mSl_s, oPt_s, oNo_s, mFrz_s, gN_s, gT_s, List.getElem?_cons_zero, List.getElem?_cons_succ, bind_ok, to_ok, Sm.lift_some, li_some, oz_some, bz_some, nox_ok, ln, q0]
    have st : l1_weak_ones ρ [sB k] = .nx ρ [sB (k ++ weakP ps p)] := by
      unfold weakP
      by_cases c : p.1.length = mx ps
      · rw [if_pos c]
        refine st_if_t (S1 := [sB k]) (by rw [c0, decide_eq_true c]) (st_drop (d := .d .non) ?_)
        have v1 : mIf (mTst (m2 pEq (mV 4) (mC (.str ("" : Str))))) (mV 3) (mSl pSl (mV 3) (oPt (m1 pNeg (mC (.int 1)))) (oNo)) ρ [sB k] = .ok (.d (tupS (if p.2 = "" then p.1 else p.1.drop (p.1.length - 1)))) [sB k] := by
          have c1 : mTst (m2 pEq (mV 4) (mC (.str ("" : Str)))) ρ [sB k] = .ok (decide (p.2 = ("" : Str))) [sB k] := by
            simp only [ρ, eW, sSeq_s, sSet_s, sRet_s, sDrop_s, sIf_s, sFor_s, sPars_s, sNil_s, sqz_nx, sqz_rt, m1_s, m2_s, mN_s, mF_s, mV_s, mC_s, aCons_s, aNil_s, aApp_s, mIf_s, mTst_s, toB_s, mTru_s, cAnd_s, cOr_s, cNot_s, cYes_s, mAnd_s, mSl_s, oPt_s, oNo_s, mFrz_s, gN_s, gT_s, List.getElem?_cons_zero, List.getElem?_cons_succ, bind_ok, to_ok, Sm.lift_some, li_some, oz_some, bz_some, nox_ok, q1]
          rw [mIf_s, c1, bind_ok]
          by_cases h : p.2 = ""
          · rw [if_pos (decide_eq_true h), if_pos h]
            rfl
          · rw [decide_eq_false h, if_neg (by decide), if_neg h]
            simp only [ρ, eW, sSeq_s, sSet_s, sRet_s, sDrop_s, sIf_s, sFor_s, sPars_s, sNil_s, sqz_nx, sqz_rt, m1_s, m2_s, mN_s, mF_s, mV_s, mC_s, aCons_s, aNil_s, aApp_s, mIf_s, mTst_s, toB_s, mTru_s, cAnd_s, cOr_s, cNot_s, cYes_s, mAnd_s, mSl_s, oPt_s, oNo_s, mFrz_s, gN_s, gT_s, List.getElem?_cons_zero, List.getElem?_cons_succ, bind_ok, to_ok, Sm.lift_some, li_some, oz_some, bz_some, nox_ok, ng, sl]
        show (mV 1 ρ _).bind _ = _
        rw [show mV 1 ρ [sB k] = .ok (.loc 0) [sB k] from rfl, bind_ok, if_pos (show isLs [sB k] (.loc 0) = true from rfl), ex_a1 v1, bind_ok]
        have hl2 : (if p.2 = "" then p.1 else p.1.drop (p.1.length - 1)).length ≤ p.1.length := by
          split
          · exact Nat.le_refl _
          · rw [List.length_drop]
            omega
        generalize (if p.2 = "" then p.1 else p.1.drop (p.1.length - 1)) = w at hl2 ⊢
        show lift (if ((k.map Dt.str).map Dv.d).length + (w.map Dt.str).length ≤ 16777216 then some (Dv.d .non, [Bo.lst ((k.map Dt.str).map Dv.d ++ (w.map Dt.str).map Dv.d)]) else none) = _
        rw [if_pos (by rw [List.length_map, List.length_map, List.length_map]; omega), ← List.map_append, ← List.map_append]
        rfl
      · rw [if_neg c, List.append_nil]
        exact st_if_f (S1 := [sB k]) (by rw [c0, decide_eq_false c]) rfl
    obtain ⟨y3, y4, ih⟩ := weak_loop (ps := ps) qs (k ++ weakP ps p) (some (.d (tupS p.1))) (some (.d (.str p.2))) (fun q hq => he q (List.mem_cons_of_mem _ hq)) (by rw [List.length_append]; omega)
    refine ⟨y3, y4, ?_⟩
    rw [List.map_cons, forL_nx (ρ1 := ρ) rfl st, List.flatMap_cons, ← List.append_assoc]
    exact ih
end K67
/-! K67Z: weak_ones told. -/
namespace K67
open PySem PySem.Spec PyProof.Rows L2 Sm Hn Hk K66
theorem weak_ok {ps : List Part} (w : Wp ps) (S : Sto) : F_weak_ones [.d (plO ps)] S = .ok (.d (tupS (setS (weakL ps)))) S := by
  have zl := w.zl
  have mz : (moversA ps).length ≤ 1000 := Nat.le_trans movers_sub.length_le w.z
  refine iso_ok (ts := [plO ps]) (S' := [.dead]) (runB_rt (ds := [.d (plO ps)]) rfl ?_)
  show b_weak_ones [some (.d (plO ps)), none, none, none, none] [] = _
  have pr : ∀ a b c d S, mPropM 2 Hk.F_Plan_parts (mV 0) [some (.d (plO ps)), a, b, c, d] S = .ok (.d (.tup (ps.map ptD))) S := fun a b c d S => by
    unfold mPropM
    rw [show mV 0 [some (.d (plO ps)), a, b, c, d] S = .ok (.d (plO ps)) S from rfl, bind_ok, if_pos is_pl, parts_ok, nox_ok]
  have l1 := mLc_pure (vs := [3, 4]) (g := gT (gsCons (gN 3) (gsCons (gN 4) (gsNil)))) (c := cYes) (e := mN pLen (aCons (mV 3) (aNil))) (it := iSeq (mPropM 2 Hk.F_Plan_parts (mV 0))) (ρ := [some (.d (plO ps)), none, none, none, none]) (S := [Hk.sB []]) ptD ps (fun _ => true) (fun p => inD p.1.length) (by
    rw [iSeq_s, pr, bind_ok]
    rfl) (by omega) fun p _ => ⟨[some (.d (plO ps)), none, none, some (.d (tupS p.1)), some (.d (.str p.2))], rfl, rfl, fun _ => ex_mN (ex_a1 (d := .d (tupS p.1)) rfl) len_t⟩
  rw [filter_yes, show (ps.map fun p => inD p.1.length) = ((sz ps).map fun n : Nat => (n : Int)).map Dt.int by rw [List.map_map, List.map_map]; rfl] at l1
  have md : pMaxD0 (.d (.lst (((sz ps).map fun n : Nat => (n : Int)).map Dt.int))) [Hk.sB []] = some (Dv.d (inD (mx ps)), [Hk.sB []]) := by
    rw [maxD0_ok, maxI_nat]
    rfl
  have s1 : sPars [1, 2] (aCons (mN pLstB (aNil)) (aCons (m1 pMaxD0 (mN pLst (mLcI [3, 4] (iSeq (mPropM 2 Hk.F_Plan_parts (mV 0))) (gT (gsCons (gN 3) (gsCons (gN 4) (gsNil)))) (cYes) (mN pLen (aCons (mV 3) (aNil)))))) (aNil))) [some (.d (plO ps)), none, none, none, none] [] = .nx (eW ps none none) [Hk.sB []] := by
    refine st_pars (ds := [.loc 0, .d (inD (mx ps))]) (S1 := [Hk.sB []]) ?_ rfl
    have m1' : m1 pMaxD0 (mN pLst (mLcI [3, 4] (iSeq (mPropM 2 Hk.F_Plan_parts (mV 0))) (gT (gsCons (gN 3) (gsCons (gN 4) (gsNil)))) (cYes) (mN pLen (aCons (mV 3) (aNil))))) [some (.d (plO ps)), none, none, none, none] [Hk.sB []] = .ok (.d (inD (mx ps))) [Hk.sB []] := by
      rw [m1_s, l1, bind_ok, md]
      rfl
    rw [aCons_s, show mN pLstB (aNil) [some (.d (plO ps)), none, none, none, none] [] = .ok (.loc 0) [Hk.sB []] from rfl, bind_ok, ex_a1 m1', bind_ok]
  obtain ⟨y3, y4, el⟩ := weak_loop (ps := ps) ps [] none none (fun p hp => w.pe hp) (by simp; omega)
  have it : iSeq (mPropM 2 Hk.F_Plan_parts (mV 0)) (eW ps none none) [Hk.sB []] = .ok (ps.map ptD) [Hk.sB []] := by
    rw [iSeq_s, pr, bind_ok]
    rfl
  have wz : (weakL ps).length ≤ 4000 := by
    have : ∀ qs : List Part, (qs.flatMap (weakP ps)).length ≤ (moversA qs).length := fun qs => by
      induction qs with
      | nil => exact Nat.le_refl _
      | cons q qs ih =>
        have hl : (weakP ps q).length ≤ q.1.length := by
          unfold weakP
          split
          · split
            · exact Nat.le_refl _
            · rw [List.length_drop]
              omega
          · exact Nat.zero_le _
        rw [List.flatMap_cons, List.length_append, show moversA (q :: qs) = q.1 ++ moversA qs from rfl, List.length_append]
        omega
    exact Nat.le_trans (this ps) (by omega)
  have fz : mFrz (mV 1) (eW ps y3 y4) [Hk.sB (weakL ps)] = .ok (.d (lstS (weakL ps))) [.dead] := by
    show (mV 1 _ _).bind _ = _
    rw [mV_s]
    show lift (frz (.loc 0) [Hk.sB (weakL ps)]) = _
    rw [frz_box (xs := (weakL ps).map Dt.str) rfl]
    rfl
  unfold b_weak_ones
  rw [sSeq_s, s1, sqz_nx, sSeq_s, st_for it el, sqz_nx]
  exact st_ret (ex_mF (ex_a1 fz) (as_setL wz _))
end K67
/-! K67J: the law's weak ones. -/
namespace K67
open PySem PySem.Spec PyProof.Rows L2 Sm Hn Hk K66
theorem range_get (l : List Str) : (List.range l.length).map (fun k => (l[k]?).getD ("" : Str)) = l := by
  refine List.ext_getElem (by simp) fun i h1 h2 => ?_
  simp [List.getElem?_eq_getElem h2]
theorem range_filter (l : List Str) (P : Str → Bool) : ((List.range l.length).filter fun k => P ((l[k]?).getD ("" : Str))).map (fun k => (l[k]?).getD ("" : Str)) = l.filter P := by
  have h := List.filter_map (f := fun k => (l[k]?).getD ("" : Str)) (p := P) (l := List.range l.length)
  rw [range_get] at h
  exact h.symm
theorem weak_set {ps : List Part} (ne : ∀ p ∈ ps, p.1 ≠ []) (nd : (moversA ps).Nodup) : setS (weakL ps) = (sortS (moversA ps)).filter fun x => decide (((cnt (restA [x] ps) : Nat) : Int) = minI ((sortS (moversA ps)).map fun x => ((cnt (restA [x] ps) : Nat) : Int))) := by
  have pp : (sortS (moversA ps)).Perm (moversA ps) := sortS_perm _
  have key : ∀ x ∈ moversA ps, (((cnt (restA [x] ps) : Nat) : Int) = minI ((sortS (moversA ps)).map fun x => ((cnt (restA [x] ps) : Nat) : Int)) ↔ cnt (restA [x] ps) + mx ps = cnt ps) := fun x hx => by
    have hne : ps ≠ [] := fun z => by rw [z] at hx; cases hx
    obtain ⟨y, hy, ey⟩ := weak_ex ne nd hne
    have mi : minI ((sortS (moversA ps)).map fun x => ((cnt (restA [x] ps) : Nat) : Int)) = ((cnt (restA [y] ps) : Nat) : Int) := minI_is (List.mem_map.mpr ⟨y, pp.mem_iff.mpr hy, rfl⟩) fun z hz => by
      obtain ⟨u, hu, rfl⟩ := List.mem_map.mp hz
      have := weak_low nd (pp.mem_iff.mp hu)
      show ((cnt (restA [y] ps) : Nat) : Int) ≤ ((cnt (restA [u] ps) : Nat) : Int)
      omega
    rw [mi]
    omega
  refine sorted_eq (sortS_sorted _) ((sortS_sorted _).sublist List.filter_sublist) ?_
  have nds : (setS (weakL ps)).Nodup := (sortS_perm _).nodup_iff.mpr (ddS_nodup _)
  refine (List.perm_ext_iff_of_nodup nds ((pp.nodup_iff.mpr nd).sublist List.filter_sublist)).mpr fun x => ?_
  rw [mem_setS, weak_mem ne nd, List.mem_filter, pp.mem_iff]
  constructor
  · rintro ⟨h1, h2⟩
    exact ⟨h1, decide_eq_true ((key x h1).mpr h2)⟩
  · rintro ⟨h1, h2⟩
    exact ⟨h1, (key x h1).mp (of_decide_eq_true h2)⟩
end K67
/-! K67K: the law's weak ones told. -/
namespace K67
open PySem PySem.Spec PyProof.Rows L2 Sm Hn Hk K66
theorem lweak_ok {ps : List Part} (ne : ∀ p ∈ ps, p.1 ≠ []) (nd : (moversA ps).Nodup) (mz : (moversA ps).length ≤ 8) (hz : ps.length ≤ 100) (he : ∀ p ∈ ps, PyData.strOk p.2 = true) (S : Sto) : F__law_weak [.d (.tup (ps.map ptD))] S = .ok (.d (tupS (setS (weakL ps)))) S := by
  have pz : ∀ p ∈ ps, p.1.length < 1000 := fun p hp => by
    have : p.1.length ≤ (moversA ps).length := part_len hp
    omega
  let pool := sortS (moversA ps)
  have plz : pool.length ≤ 8 := by rw [(sortS_perm (moversA ps)).length_eq]; exact mz
  let f : Str → Int := fun x => ((cnt (restA [x] ps) : Nat) : Int)
  refine iso_ok (ts := [.tup (ps.map ptD)]) (S' := []) (runB_rt (ds := [.d (.tup (ps.map ptD))]) rfl ?_)
  show b__law_weak [some (.d (.tup (ps.map ptD))), none, none, none, none] [] = _
  have a1 := all_ok (ps := ps) (by omega) []
  let E : Option Dv → Option Dv → Option Dv → Sm.Env := fun a b c => [some (.d (.tup (ps.map ptD))), some (.d (lstS pool)), a, b, c]
  have s1 : sSet 1 (mF F__law_all_in (aCons (mV 0) (aNil))) [some (.d (.tup (ps.map ptD))), none, none, none, none] [] = .nx (E none none none) [] := st_set (ex_mF (ex_a1 (d := .d (.tup (ps.map ptD))) (S1 := []) rfl) a1)
  have h := mLc_pure (vs := [3]) (g := gN 3) (c := cYes) (e := mF F__law_count (aCons (mF F__law_rest_of (aCons (mV 0) (aCons (mN pTup (aCons (mV 3) (aNil))) (aNil)))) (aNil))) (it := iSeq (mV 1)) (ρ := E none none none) (S := []) Dt.str pool (fun _ => true) (fun x => Dt.int (f x)) rfl (by omega) fun x _ => ⟨E none (some (.d (.str x))) none, rfl, rfl, fun _ => by
    have r1 := rest_ok (off := [x]) (ps := ps) (fun p hp => ⟨pz p hp, he p hp⟩) (by omega) []
    have rl := restA_len [x] ps
    have c1 := count_ok (ps := restA [x] ps) (by omega) []
    exact ex_mF (ex_a1 (ex_mF (ds := [.d (.tup (ps.map ptD)), .d (tupS [x])]) (S1 := []) rfl r1)) c1⟩
  rw [filter_yes, show (pool.map fun x => Dt.int (f x)) = (pool.map f).map Dt.int by rw [List.map_map]; rfl] at h
  have s2 := st_set (i := 2) h
  let ρ2 := E (some (.d (.lst ((pool.map f).map Dt.int)))) none none
  have ln : ∀ S, pLen [.d (lstS pool)] S = some (.d (.int (pool.length : Int)), S) := fun S => by
    rw [q_len, List.length_map]
  have er : rgL 0 pool.length = (List.range pool.length).map inD := by
    unfold rgL
    refine List.map_congr_left fun i _ => ?_
    rw [Int.zero_add]
  have it : iRg rg1 (aCons (mN pLen (aCons (mV 1) (aNil))) (aNil)) ρ2 [] = .ok ((List.range pool.length).map inD) [] := by
    rw [← er]
    exact iRg_ok (ds := [.d (.int (pool.length : Int))]) (by simp only [ρ2, E, sSeq_s, sSet_s, sRet_s, sDrop_s, sIf_s, sFor_s, sPars_s, sNil_s, sqz_nx, sqz_rt, m1_s, m2_s, mN_s, mF_s, mV_s, mC_s, aCons_s, aNil_s, aApp_s, mIf_s, mTst_s, toB_s, mTru_s, cAnd_s, cOr_s, cNot_s, cYes_s, mAnd_s, mSl_s, oPt_s, oNo_s, mFrz_s, gN_s, gT_s, List.getElem?_cons_zero, List.getElem?_cons_succ, bind_ok, to_ok, Sm.lift_some, li_some, oz_some, bz_some, nox_ok, ln]) (q_rg (by omega))
  have h2 := mLc_pure (vs := [4]) (g := gN 4) (c := mTst (m2 pEq (m2 pIx (mV 2) (mV 4)) (mN pMin1 (aCons (mV 2) (aNil))))) (e := m2 pIx (mV 1) (mV 4)) (it := iRg rg1 (aCons (mN pLen (aCons (mV 1) (aNil))) (aNil))) (ρ := ρ2) (S := []) inD (List.range pool.length) (fun k => decide (f ((pool[k]?).getD ("" : Str)) = minI (pool.map f))) (fun k => Dt.str ((pool[k]?).getD ("" : Str))) it (by rw [List.length_range]; omega) fun k hk => ⟨E (some (.d (.lst ((pool.map f).map Dt.int)))) none (some (.d (inD k))), rfl, by
    have hk' := List.mem_range.mp hk
    have ix : ∀ S, pIx (.d (.lst ((pool.map f).map Dt.int))) (.d (inD k)) S = some (.d (.int (f ((pool[k]?).getD ("" : Str)))), S) := fun S => ix_lst (by rw [List.getElem?_map, List.getElem?_map, List.getElem?_eq_getElem hk']; rfl)
    have pm : ∀ S, pMin1 [.d (.lst ((pool.map f).map Dt.int))] S = some (.d (.int (minI (pool.map f))), S) := fun S => pmin_ints fun z => by
      rw [List.map_eq_nil_iff.mp z] at hk'
      simp at hk'
    simp only [E, sSeq_s, sSet_s, sRet_s, sDrop_s, sIf_s, sFor_s, sPars_s, sNil_s, sqz_nx, sqz_rt, m1_s, m2_s, mN_s, mF_s, mV_s, mC_s, aCons_s, aNil_s, aApp_s, mIf_s, mTst_s, toB_s, mTru_s, cAnd_s, cOr_s, cNot_s, cYes_s, mAnd_s, mSl_s, oPt_s, oNo_s, mFrz_s, gN_s, gT_s, List.getElem?_cons_zero, List.getElem?_cons_succ, bind_ok, to_ok, Sm.lift_some, li_some, oz_some, bz_some, nox_ok, ix, pm, eq_i], fun _ => by
    have hk' := List.mem_range.mp hk
    have ix : ∀ S, pIx (.d (lstS pool)) (.d (inD k)) S = some (.d (.str ((pool[k]?).getD ("" : Str))), S) := fun S => ix_lst (by rw [List.getElem?_map, List.getElem?_eq_getElem hk']; rfl)
    simp only [E, sSeq_s, sSet_s, sRet_s, sDrop_s, sIf_s, sFor_s, sPars_s, sNil_s, sqz_nx, sqz_rt, m1_s, m2_s, mN_s, mF_s, mV_s, mC_s, aCons_s, aNil_s, aApp_s, mIf_s, mTst_s, toB_s, mTru_s, cAnd_s, cOr_s, cNot_s, cYes_s, mAnd_s, mSl_s, oPt_s, oNo_s, mFrz_s, gN_s, gT_s, List.getElem?_cons_zero, List.getElem?_cons_succ, bind_ok, to_ok, Sm.lift_some, li_some, oz_some, bz_some, nox_ok, ix]⟩
  have e : ((List.range pool.length).filter fun k => decide (f ((pool[k]?).getD ("" : Str)) = minI (pool.map f))).map (fun k => Dt.str ((pool[k]?).getD ("" : Str))) = (setS (weakL ps)).map .str := by
    rw [weak_set ne nd, ← range_filter pool fun x => decide (f x = minI (pool.map f)), List.map_map]
    rfl
  rw [e] at h2
  unfold b__law_weak
  rw [sSeq_s, s1, sqz_nx, sSeq_s, s2, sqz_nx]
  exact st_ret (ex_mN (ex_a1 h2) pTuple_lst)
end K67
/-! K67H: what is checked by hand. -/
namespace K67
open PySem PySem.Spec PyProof.Rows L2 Sm Hn
theorem hand_ok (S : Sto) : F__law_hand_right [] S = .ok (.d (.bl true)) S := hand_of (F := R__law_hand_right) (by decide +kernel) S
end K67
/-! HzB: a law of two numbers that is a loop. -/
namespace Hn
open PySem PySem.Spec PyProof.Rows L2 Sm
theorem law_loopF {c : Int} (hc0 : 0 ≤ c) (hc1 : c < 1000000000) {R : FM} (hR : ∀ (S : Sto) (n : Nat) (o : Bo), S[n]? = some o → Urn o 1000000 → ∃ o', R [.loc n] S = .ok (.d (.bl true)) (S.set n o')) (P : Dt) (cs : List Int) : ∀ (ks : List Nat) (z : Option Dv), (∀ k ∈ ks, k < 100) → ∀ S : Sto, ∃ (z' : Option Dv) (S' : Sto), forL (gN 2) (sIf (cNot (mTru pTru (mF R (aCons (mF (runB 3 2 (boxM c)) (aCons (mV 1) (aCons (mV 2) (aNil)))) (aNil))))) (sRet (mC (.bl false))) (sNil)) (ks.map fun k => Dt.int ((k : Nat) : Int)) [some (.d P), some (.d (.lst (dI cs))), z] S = .nx [some (.d P), some (.d (.lst (dI cs))), z'] S'
  | [], z, _, S => ⟨z, S, rfl⟩
  | k :: ks, z, h, S => by
    obtain ⟨o, e1, u⟩ := box_ok hc0 hc1 (cs := cs) (h k List.mem_cons_self) (S := S)
    obtain ⟨o', e2⟩ := hR (S ++ [o]) S.length o (by rw [List.getElem?_append_right (Nat.le_refl _), Nat.sub_self]; rfl) u
    obtain ⟨z', S', e3⟩ := law_loopF hc0 hc1 hR P cs ks (some (.d (.int (k : Int)))) (fun j hj => h j (List.mem_cons_of_mem _ hj)) ((S ++ [o]).set S.length o')
    refine ⟨z', S', ?_⟩
    have tr : ∀ (b : Bool) (S : Sto), pTru (.d (.bl b)) S = some b := fun _ _ => rfl
    rw [List.map_cons, forL_nx (ρ1 := [some (.d P), some (.d (.lst (dI cs))), some (.d (.int (k : Int)))]) rfl (ρ2 := [some (.d P), some (.d (.lst (dI cs))), some (.d (.int (k : Int)))]) (S2 := (S ++ [o]).set S.length o') ?_, e3]
    simp only [sIf_s, cNot_s, mTru_s, mF_s, aCons_s, mV_s, aNil_s, List.getElem?_cons_zero, List.getElem?_cons_succ, bind_ok, e1, e2, tr, li_some, to_ok, Bool.not_true, Bool.false_eq_true, if_false, sNil_s]
end Hn
/-! HzC: a law of three numbers that is a loop. -/
namespace Hn
open PySem PySem.Spec PyProof.Rows L2 Sm
theorem law_ofF3 {c : Int} (hc0 : 0 ≤ c) (hc1 : c < 1000000000) {R : FM} (hR : ∀ (S : Sto) (n : Nat) (o : Bo), S[n]? = some o → Urn o 1000000 → ∃ o', R [.loc n] S = .ok (.d (.bl true)) (S.set n o')) : LawTrue (runB 3 1 (lawMF 3 (runB 3 2 (boxM c)) R)) := fun ns hl hb => by
  obtain ⟨cs, ec, hc⟩ := cells_ok (ns := ns) hl (S := [])
  obtain ⟨z', S', el⟩ := law_loopF hc0 hc1 hR (.scr (dI ns)) cs (List.range cs.length) none (fun k hk => by have := List.mem_range.mp hk; omega) []
  refine ⟨S', runB_rt (ds := [.d (.scr (dI ns))]) rfl ?_⟩
  show lawMF 3 (runB 3 2 (boxM c)) R [some (.d (.scr (dI ns))), none, none] [] = _
  have hit : iRg rg1 (aCons (mN pLen (aCons (mV 1) (aNil))) (aNil)) [some (.d (.scr (dI ns))), some (.d (.lst (dI cs))), none] [] = .ok ((List.range cs.length).map fun k => Dt.int ((k : Nat) : Int)) [] := by
    have hl2 : pLen [.d (.lst (dI cs))] [] = some (.d (.int (cs.length : Int)), []) := by
      simp [pLen, dctAt, seqAt, lstAt, dI]
    refine iRg_ok (ds := [.d (.int (cs.length : Int))]) (by simp only [aCons_s, mN_s, mV_s, aNil_s, List.getElem?_cons_zero, List.getElem?_cons_succ, bind_ok, hl2, Sm.lift_some]) ?_
    rw [q_rg (by omega)]
    unfold rgL
    simp
  have hcs : F__law_cells [.d (.scr (dI ns)), .d (.int 3)] [] = .ok (.d (.lst (dI cs))) [] := ec
  have s1 : sSet 1 (mF F__law_cells (aCons (mV 0) (aCons (mC (.int 3)) (aNil)))) [some (.d (.scr (dI ns))), none, none] [] = .nx [some (.d (.scr (dI ns))), some (.d (.lst (dI cs))), none] [] := by
    simp only [sSet_s, mF_s, aCons_s, mV_s, mC_s, aNil_s, List.getElem?_cons_zero, List.getElem?_cons_succ, bind_ok, hcs, to_ok]
    rfl
  unfold lawMF
  rw [sSeq_s, s1, sqz_nx, sSeq_s, sFor_s, hit, to_ok, el, sqz_nx]
  rfl
end Hn
/-! K67N: whose withdrawal costs most. -/
namespace K67
open PySem PySem.Spec PyProof.Rows L2 Sm Hn Hk K66
theorem tx_str {l : List Str} (h : ∀ x ∈ l, PyData.strOk x = true) (hz : l.length ≤ 1000) : Tx 1 (tupS l) := .inr ⟨_, .inl rfl, by rw [List.length_map]; exact hz, fun t ht => by
  obtain ⟨x, hx, rfl⟩ := List.mem_map.mp ht
  exact ⟨x, h x hx, rfl⟩⟩
theorem tx_part {ps : List Part} (w : Wp ps) {p : Part} (hp : p ∈ ps) : Tx 2 (ptD p) := .inr ⟨_, .inl rfl, by show 2 ≤ 1000; omega, fun t ht => by
  rcases List.mem_cons.mp ht with rfl | ht
  · exact tx_str (fun x hx => (w.so x (movers_sub.subset (List.mem_flatMap.mpr ⟨p, hp, hx⟩))).1) (w.pz hp)
  · rw [List.mem_singleton.mp ht]
    exact .inl ⟨_, w.pe hp, rfl⟩⟩
theorem tx_parts {ps : List Part} (w : Wp ps) : Tx 3 (.tup (ps.map ptD)) := .inr ⟨_, .inl rfl, by rw [List.length_map]; exact w.zl, fun t ht => by
  obtain ⟨p, hp, rfl⟩ := List.mem_map.mp ht
  exact tx_part w hp⟩
theorem tls_str : ∀ l : List Str, tls (l.map .str) = l.map .str
  | [] => rfl
  | x :: l => by
    show tl (.str x) :: tls (l.map .str) = _
    rw [tls_str l]
    rfl
theorem tl_part (p : Part) : tl (ptD p) = ptL p := by
  show Dt.lst (tls [tupS p.1, .str p.2]) = _
  show Dt.lst [Dt.lst (tls (p.1.map .str)), .str p.2] = _
  rw [tls_str]
theorem tls_parts : ∀ ps : List Part, tls (ps.map ptD) = ps.map ptL
  | [] => rfl
  | p :: ps => by
    show tl (ptD p) :: tls (ps.map ptD) = _
    rw [tls_parts ps, tl_part]
    rfl
theorem lists_p {ps : List Part} (w : Wp ps) (S : Sto) : F__law_lists 8 [.d (.tup (ps.map ptD))] S = .ok (.d (.lst (ps.map ptL))) S := by
  rw [lists_ok 7 _ S ((tx_parts w).ups (by omega))]
  show Rz.ok (Dv.d (Dt.lst (tls (ps.map ptD)))) S = _
  rw [tls_parts]
theorem ty_parts {ps : List Part} (w : Wp ps) : Ty 3 (.tup (ps.map ptD)) := .inr ⟨_, .inl rfl, by rw [List.length_map]; exact w.zl, fun y hy => by
  obtain ⟨p, hp, rfl⟩ := List.mem_map.mp hy
  exact .inr ⟨_, .inl rfl, by show 2 ≤ 1000; omega, fun x hx => by
    rcases List.mem_cons.mp hx with rfl | hx
    · exact (ty_names (fun x hx => (w.so x (movers_sub.subset (List.mem_flatMap.mpr ⟨p, hp, hx⟩))).1) (w.pz hp))
    · rw [List.mem_singleton.mp hx]
      exact (show Ty 0 (.str p.2) from .inl ⟨_, w.pe hp, rfl⟩).ups (by omega)⟩⟩
theorem few_parts : ∀ {ps : List Part}, (∀ p ∈ ps, p.1 ≠ []) → ps.length ≤ (moversA ps).length
  | [], _ => Nat.le_refl _
  | p :: ps, h => by
    have h1 := few_parts (ps := ps) fun q hq => h q (List.mem_cons_of_mem _ hq)
    have h2 : 0 < p.1.length := List.length_pos_iff.mpr (h p List.mem_cons_self)
    rw [show moversA (p :: ps) = p.1 ++ moversA ps from rfl, List.length_append, List.length_cons]
    omega
theorem ring_min {ps : List Part} (ht : ∀ p ∈ ps, turnP p = p) (hne : ∀ p ∈ ps, p.1 ≠ []) : ∀ p ∈ ps, p.2 = "" → ∀ y ∈ p.1, leS (p.1.headD "") y = true := fun p hp he y hy => by
  have h := ht p hp
  have hn := hne p hp
  have h1 : rot p.1 p.2 = p.1 := congrArg Prod.fst h
  have hx : p.1.headD "" :: p.1.tail = p.1 := by
    cases e : p.1 with
    | nil => exact absurd e hn
    | cons x l => rfl
  let mn := minTx (p.1.headD "") p.1.tail
  have hm : mn ∈ p.1 := by
    have := minTx_mem (p.1.headD "") p.1.tail
    rwa [hx] at this
  have hk : p.1.idxOf mn < p.1.length := List.idxOf_lt_length_iff.mpr hm
  have er : rot p.1 p.2 = p.1.drop (p.1.idxOf mn) ++ p.1.take (p.1.idxOf mn) := if_pos he
  have e2 : p.1.drop (p.1.idxOf mn) = mn :: p.1.drop (p.1.idxOf mn + 1) := by
    rw [List.drop_eq_getElem_cons hk, List.getElem_idxOf]
  have e3 : p.1.headD "" = mn := by
    rw [er, e2, List.cons_append] at h1
    rw [← h1]
    rfl
  rw [e3]
  have := minTx_le p.1.tail (p.1.headD "") y
  rw [hx] at this
  exact this hy
abbrev eT (ps : List Part) (z1 z4 z5 : Option Dv) : Sm.Env := [some (.loc 0), z1, some (.d (.tup (ps.map ptD))), some (.d (plO ps)), z4, z5]
theorem ty_tup {l : List Str} (h : ∀ x ∈ l, PyData.strOk x = true) (hz : l.length ≤ 1000) : Ty 1 (tupS l) := ty_names h hz
theorem case_ok {pool : List Str} {ps : List Part} (b : Bits pool ps) (mz : (moversA ps).length ≤ 8) (m : Nat) (hm : m ≤ 100) (z1 z5 : Option Dv) (S : Sto) : ∃ y5, l1__law_right (eT ps z1 (some (.d (inD m))) z5) S = .nx (eT ps z1 (some (.d (inD m))) y5) S := by
  have w := b.w
  have fz := few_parts w.ne
  have nd := w.nd.sublist (movers_sub (ps := ps))
  have du := fun S => lworst_ok w.ne nd (ring_min b.tr w.ne) mz (by omega) (fun p hp => w.pe hp) (m := m) (by omega) S
  have sf := fun S => worst_gone_ok w m S
  have kw : ∀ S, kwF [1, 0] [] F_worst_gone [.d (inD m), .d (plO ps)] S = .ok (.d (tupS (EN ps m))) S := fun S => sf S
  obtain ⟨t1, t2, _⟩ := worst_top w.ne nd (sortS_perm (moversA ps)) (sortS_sorted _) m
  have ta : Ty 1 (tupS (EN ps m)) := ty_tup (fun x hx => (w.so x (movers_sub.subset ((sortS_perm _).mem_iff.mp (t1.subset hx)))).1) (by
    rw [t2]
    have := Nat.min_le_right m ps.length
    omega)
  have l2 : ∀ S, pLst [.d (tupS (EN ps m)), .d (tupS (EN ps m))] S = some (.d (.lst [(tupS (EN ps m)), (tupS (EN ps m))]), S) := fun S => rfl
  have ty : Ty 2 (.lst [(tupS (EN ps m)), (tupS (EN ps m))]) := .inr ⟨_, .inr rfl, by show 2 ≤ 1000; omega, fun x hx => by
    simp only [List.mem_cons, List.not_mem_nil, or_false, or_self] at hx
    rw [hx]
    exact ta⟩
  have sm : ∀ S, F__law_same 8 [.d (.lst [(tupS (EN ps m)), (tupS (EN ps m))]), .d (.lst [(tupS (EN ps m)), (tupS (EN ps m))])] S = .ok (.d (.bl true)) S := fun S => same_ty 7 _ S (ty.ups (by omega))
  have tr : ∀ (b : Bool) (S : Sto), pTru (.d (.bl b)) S = some b := fun _ _ => rfl
  have s1 : sSet 5 (mF F__law_worst (aCons (mV 2) (aCons (mV 4) (aNil)))) (eT ps z1 (some (.d (inD m))) z5) S = .nx (eT ps z1 (some (.d (inD m))) (some (.d (tupS (EN ps m))))) S := by
    refine st_set ?_
    simp only [eT, sSeq_s, sSet_s, sRet_s, sDrop_s, sIf_s, sFor_s, sPars_s, sNil_s, sqz_nx, sqz_rt, m1_s, m2_s, mN_s, mF_s, mV_s, mC_s, aCons_s, aNil_s, aApp_s, mIf_s, mTst_s, toB_s, mTru_s, cAnd_s, cOr_s, cNot_s, cYes_s, mAnd_s, mSl_s, oPt_s, oNo_s, mFrz_s, gN_s, gT_s, List.getElem?_cons_zero, List.getElem?_cons_succ, bind_ok, to_ok, Sm.lift_some, li_some, oz_some, bz_some, nox_ok, du]
  refine ⟨some (.d (tupS (EN ps m))), ?_⟩
  unfold l1__law_right
  rw [sSeq_s, s1, sqz_nx]
  refine st_if_f (S1 := S) ?_ rfl
  simp only [eT, sSeq_s, sSet_s, sRet_s, sDrop_s, sIf_s, sFor_s, sPars_s, sNil_s, sqz_nx, sqz_rt, m1_s, m2_s, mN_s, mF_s, mV_s, mC_s, aCons_s, aNil_s, aApp_s, mIf_s, mTst_s, toB_s, mTru_s, cAnd_s, cOr_s, cNot_s, cYes_s, mAnd_s, mSl_s, oPt_s, oNo_s, mFrz_s, gN_s, gT_s, List.getElem?_cons_zero, List.getElem?_cons_succ, bind_ok, to_ok, Sm.lift_some, li_some, oz_some, bz_some, nox_ok, sf, kw, l2, sm, tr, Bool.not_true]
theorem case_loop {pool : List Str} {ps : List Part} (b : Bits pool ps) (mz : (moversA ps).length ≤ 8) (z1 : Option Dv) (S : Sto) : ∀ (ms : List Nat) (z4 z5 : Option Dv), (∀ m ∈ ms, m ≤ 100) → ∃ y4 y5, forL (gN 4) l1__law_right (ms.map inD) (eT ps z1 z4 z5) S = .nx (eT ps z1 y4 y5) S
  | [], z4, z5, _ => ⟨z4, z5, rfl⟩
  | m :: ms, z4, z5, h => by
    obtain ⟨y5, e⟩ := case_ok b mz m (h m List.mem_cons_self) z1 z5 S
    obtain ⟨a4, a5, ih⟩ := case_loop b mz z1 S ms (some (.d (inD m))) y5 fun q hq => h q (List.mem_cons_of_mem _ hq)
    refine ⟨a4, a5, ?_⟩
    rw [List.map_cons, forL_nx (ρ1 := eT ps z1 (some (.d (inD m))) z5) rfl e]
    exact ih
end K67
/-! K67U: whose withdrawal costs most. -/
namespace K67
open PySem PySem.Spec PyProof.Rows L2 Sm Hn Hk K66
theorem turn_ok (z : List (Option Dv)) (o : Bo) (J : Sto) (m : Nat) (hzl : z.length = 5) (u : Urn o (25 + m)) : ∃ o', Urn o' m ∧ Wq (fun w => ∃ z' J', z'.length = 5 ∧ w = .nx (some (.loc 0) :: z') (o' :: J')) (l2__law_right (some (.loc 0) :: z) (o :: J)) := by
  match z, hzl with
  | [z1, z2, z3, z4, z5], _ =>
  obtain ⟨ps, o1, e1, b, mz, u1⟩ := drawn_ok (S := o :: J) (n := 0) (k := m) rfl u
  have e1' : F__law_drawn [.loc 0] (o :: J) = .ok (.d (.tup (ps.map ptD))) (o1 :: J) := e1
  have w := b.w
  have fz := few_parts w.ne
  have nd := w.nd.sublist (movers_sub (ps := ps))
  let S1 : Sto := o1 :: J
  have li := fun S => lists_p w S
  have of1 : ∀ S, Hk.F_Plan_of [.d (.lst (ps.map ptL))] S = .ok (.d (plO ps)) S := fun S => by
    have h := of_lists w S
    rw [b.plan] at h
    exact h
  refine ⟨o1, u1, ?_⟩
  unfold l2__law_right
  refine Wq.seq (ρ1 := [some (.loc 0), z1, some (.d (.tup (ps.map ptD))), z3, z4, z5]) (S1 := S1) (st_set (d := .d (.tup (ps.map ptD))) (S1 := S1) (by simp only [S1, sSeq_s, sSet_s, sRet_s, sDrop_s, sIf_s, sFor_s, sPars_s, sNil_s, sqz_nx, sqz_rt, m1_s, m2_s, mN_s, mF_s, mV_s, mC_s, aCons_s, aNil_s, aApp_s, mIf_s, mTst_s, toB_s, mTru_s, cAnd_s, cOr_s, cNot_s, cYes_s, mAnd_s, mSl_s, oPt_s, oNo_s, mFrz_s, gN_s, gT_s, List.getElem?_cons_zero, List.getElem?_cons_succ, bind_ok, to_ok, Sm.lift_some, li_some, oz_some, bz_some, nox_ok, e1'])) ?_
  refine Wq.seq (ρ1 := eT ps z1 z4 z5) (S1 := S1) (st_set (d := .d (plO ps)) (S1 := S1) (by simp only [sSeq_s, sSet_s, sRet_s, sDrop_s, sIf_s, sFor_s, sPars_s, sNil_s, sqz_nx, sqz_rt, m1_s, m2_s, mN_s, mF_s, mV_s, mC_s, aCons_s, aNil_s, aApp_s, mIf_s, mTst_s, toB_s, mTru_s, cAnd_s, cOr_s, cNot_s, cYes_s, mAnd_s, mSl_s, oPt_s, oNo_s, mFrz_s, gN_s, gT_s, List.getElem?_cons_zero, List.getElem?_cons_succ, bind_ok, to_ok, Sm.lift_some, li_some, oz_some, bz_some, nox_ok, li, of1])) ?_
  obtain ⟨y4, y5, el⟩ := case_loop b mz z1 S1 [0, 1, 2, 3] z4 z5 (by intro q hq; simp at hq; omega)
  have it : iRg rg1 (aCons (mC (.int 4)) (aNil)) (eT ps z1 z4 z5) S1 = .ok ([0, 1, 2, 3].map inD) S1 := rfl
  refine Wq.seq (ρ1 := eT ps z1 y4 y5) (S1 := S1) (st_for it el) ?_
  have wk := fun S => weak_ok w S
  have kw : ∀ S, kwF [0] [] F_weak_ones [.d (plO ps)] S = .ok (.d (tupS (setS (weakL ps)))) S := fun S => wk S
  have lw := fun S => lweak_ok w.ne nd mz (by omega) (fun p hp => w.pe hp) S
  have pr : ∀ S, mPropM 2 Hk.F_Plan_parts (mV 3) (eT ps z1 y4 y5) S = .ok (.d (.tup (ps.map ptD))) S := fun S => by
    unfold mPropM
    rw [show mV 3 (eT ps z1 y4 y5) S = .ok (.d (plO ps)) S from rfl, bind_ok, if_pos is_pl, parts_ok, nox_ok]
  have hsub : ∀ x ∈ setS (weakL ps), x ∈ moversA ps := fun x hx => ((weak_mem w.ne nd).mp (mem_setS.mp hx)).1
  have hlen : (setS (weakL ps)).length ≤ 1000 := by
    have := List.Nodup.length_le_of_subset (show (setS (weakL ps)).Nodup from (sortS_perm _).nodup_iff.mpr (ddS_nodup _)) hsub
    omega
  have ta : Ty 1 (tupS (setS (weakL ps))) := ty_tup (fun x hx => (w.so x (movers_sub.subset (hsub x hx))).1) hlen
  generalize setS (weakL ps) = W at *
  have ty : Ty 4 (.lst [tupS W, tupS W, .tup (ps.map ptD)]) := .inr ⟨_, .inr rfl, by show 3 ≤ 1000; omega, fun x hx => by
    simp only [List.mem_cons, List.not_mem_nil, or_false] at hx
    rcases hx with rfl | rfl | rfl
    · exact ta.ups (m := 3) (by omega)
    · exact ta.ups (m := 3) (by omega)
    · exact ty_parts w⟩
  have sm : ∀ S, F__law_same 8 [.d (.lst [tupS W, tupS W, .tup (ps.map ptD)]), .d (.lst [tupS W, tupS W, .tup (ps.map ptD)])] S = .ok (.d (.bl true)) S := fun S => same_ty 7 _ S (ty.ups (by omega))
  have tr : ∀ (b : Bool) (S : Sto), pTru (.d (.bl b)) S = some b := fun _ _ => rfl
  have x1 : mN pLst (aCons (mF F_weak_ones (aCons (mV 3) (aNil))) (aCons (mF (kwF [0] [] F_weak_ones) (aCons (mV 3) (aNil))) (aCons (mPropM 2 Hk.F_Plan_parts (mV 3)) (aNil)))) (eT ps z1 y4 y5) S1 = .ok (.d (.lst [tupS W, tupS W, .tup (ps.map ptD)])) S1 := by
    refine ex_mN (ds := [.d (tupS W), .d (tupS W), .d (.tup (ps.map ptD))]) (S1 := S1) ?_ rfl
    rw [aCons_s, ex_mF (ex_a1 (d := .d (plO ps)) (S1 := S1) rfl) (wk S1), bind_ok, aCons_s, ex_mF (ex_a1 (d := .d (plO ps)) (S1 := S1) rfl) (kw S1), bind_ok, ex_a1 (pr S1), bind_ok, bind_ok]
  have x2 : m2 pAdd (m2 pMul (mN pLst (aCons (mF F__law_weak (aCons (mV 2) (aNil))) (aNil))) (mC (.int 2))) (mN pLst (aCons (mV 2) (aNil))) (eT ps z1 y4 y5) S1 = .ok (.d (.lst [tupS W, tupS W, .tup (ps.map ptD)])) S1 := by
    have q1 : mN pLst (aCons (mF F__law_weak (aCons (mV 2) (aNil))) (aNil)) (eT ps z1 y4 y5) S1 = .ok (.d (.lst [tupS W])) S1 := ex_mN (ex_a1 (ex_mF (ex_a1 (d := .d (.tup (ps.map ptD))) (S1 := S1) rfl) (lw S1))) rfl
    exact ex_m2 (d := .d (.lst [tupS W, tupS W])) (e := .d (.lst [.tup (ps.map ptD)])) (S1 := S1) (S2 := S1) (ex_m2 q1 (e := .d (.int 2)) (S2 := S1) rfl rfl) rfl (add_l (by show 2 + 1 ≤ _; omega))
  have x3 : mF (F__law_same 8) (aCons (mN pLst (aCons (mF F_weak_ones (aCons (mV 3) (aNil))) (aCons (mF (kwF [0] [] F_weak_ones) (aCons (mV 3) (aNil))) (aCons (mPropM 2 Hk.F_Plan_parts (mV 3)) (aNil))))) (aCons (m2 pAdd (m2 pMul (mN pLst (aCons (mF F__law_weak (aCons (mV 2) (aNil))) (aNil))) (mC (.int 2))) (mN pLst (aCons (mV 2) (aNil)))) (aNil))) (eT ps z1 y4 y5) S1 = .ok (.d (.bl true)) S1 := by
    refine ex_mF (ds := [.d (.lst [tupS W, tupS W, .tup (ps.map ptD)]), .d (.lst [tupS W, tupS W, .tup (ps.map ptD)])]) (S1 := S1) ?_ (sm S1)
    rw [aCons_s, x1, bind_ok, ex_a1 x2, bind_ok]
  refine Wq.one (st_if_f (S1 := S1) (r := .nx (eT ps z1 y4 y5) S1) (by
    rw [cNot_s, mTru_s, x3, bind_ok, tr, li_some, bind_ok]
    rfl) rfl) ⟨_, _, rfl, rfl⟩
theorem law_true : LawTrue F_law := law_ofF3 (c := 1771) (by decide) (by decide) fun S n o hS u => by
  obtain ⟨o', J', e, u'⟩ := right_ofJ (c := 25) (k := 5) (n := 6) hand_ok (by omega) (by omega) turn_ok u
  exact ⟨o', view_ok (ts := []) (rest := J') hS u.pure e u'.pure⟩
end K67
open PySem PySem.W PyProof.Rows
set_option maxHeartbeats 0 in
theorem PySem.Challenge.cw_crosshomes_k67_whose_withdrawal_costs_mo_holds : PySem.Challenge.rw_crosshomes_k67_whose_withdrawal_costs_mo.Holds := by
  w_on; o_law; k_head; (case hw => w_witness2)
  k_fill
  refine L2.walk_ofB (l := PySem.Challenge.rw_crosshomes_k67_whose_withdrawal_costs_mo) (n := 63) (k := 14) (x := "_law_script") (CX := fun w => L2.CX PySem.Challenge.pw_crosshomes_k67_whose_withdrawal_costs_mo w) (sp := fun w => Sm.spLaw _) rfl (by decide) rfl ⟨rfl, by decide, by decide⟩ (fun w h Y => PySem.W.kIn_of Y) ?F (fun _ _ a ns hl hb _ hS => Sm.law_hsp hl hb hS) (fun _ _ _ _ _ h => Sm.law_cx h)
  case F =>
    intro w mg fa h KX Gn hmg
    refine' K67.all_mk K67.law_true KX Gn hmg ?aC2 ?a_tupled ?l_tupled ?co_tupled ?k_tupled ?a_as_set ?l_as_set ?co_as_set ?k_as_set ?a_turned ?l_turned ?co_turned ?k_turned ?a_goals_of ?l_goals_of ?co_goals_of ?k_goals_of ?a_names_in ?l_names_in ?co_names_in ?k_names_in ?a_goals_in ?l_goals_in ?co_goals_in ?k_goals_in ?a_tupledN ?l_tupledN ?co_tupledN ?k_tupledN ?a_Plan_init ?i_Plan_init ?l_Plan_init ?co_Plan_init ?k_Plan_init ?a_Plan_of ?p1_Plan_of ?p2_Plan_of ?p3_Plan_of ?g3_Plan_of ?l_Plan_of ?co_Plan_of ?k_Plan_of ?a_Plan_parts ?p1_Plan_parts ?p2_Plan_parts ?p3_Plan_parts ?l_Plan_parts ?co_Plan_parts ?k_Plan_parts ?a_ender ?l_ender ?co_ender ?k_ender ?a_worst_gone ?l_worst_gone ?co_worst_gone ?k_worst_gone ?a_weak_ones ?l_weak_ones ?co_weak_ones ?k_weak_ones ?a__law_box ?l__law_box ?co__law_box ?k__law_box ?a__law_take ?l__law_take ?co__law_take ?k__law_take ?a__law_cells ?l__law_cells ?co__law_cells ?k__law_cells ?a__law_lists ?l__law_lists ?co__law_lists ?k__law_lists ?a__law_same ?l__law_same ?co__law_same ?k__law_same ?a__law_mixed ?l__law_mixed ?co__law_mixed ?k__law_mixed ?a__law_drawn ?l__law_drawn ?co__law_drawn ?k__law_drawn ?a__law_rest_of ?l__law_rest_of ?co__law_rest_of ?k__law_rest_of ?a__law_count ?l__law_count ?co__law_count ?k__law_count ?a__law_all_in ?l__law_all_in ?co__law_all_in ?k__law_all_in ?a__law_sets ?l__law_sets ?co__law_sets ?k__law_sets ?a__law_six ?l__law_six ?co__law_six ?k__law_six ?a__law_worst ?l__law_worst ?co__law_worst ?k__law_worst ?a__law_weak ?l__law_weak ?co__law_weak ?k__law_weak ?a__law_hand_right ?l__law_hand_right ?co__law_hand_right ?k__law_hand_right ?a__law_right ?l__law_right ?co__law_right ?k__law_right ?a_law ?l_law ?co_law ?k_law ?pg2 ?ic2 ?po2 ?sa2 ?mk2 ?kc2 ?s1_own_goals ?s2_own_goals ?s3_own_goals ?s4_own_goals ?s5_own_goals ?s1_own_parts ?s2_own_parts ?s3_own_parts ?s4_own_parts ?s5_own_parts ?xa_Clash ?xd_Clash ?xt_Clash ?xb_Clash ?xs_Clash ?xn_Clash ?xr_Clash_Clash ?xl_Clash ?xsa_Clash ?xm_Clash ?xkp_Clash ?xi_Clash ?xit_Clash ?xf_Clash ?xco_Clash ?xcd_Clash ?xvs_Clash ?xfl_Clash ?xcc_Clash ?xop_Clash ?xtop_Clash ?xsb_Clash ?xno_Clash ?xga_Clash ?xgg_Clash ?xca_Clash ?xob_Clash ?xgs ?xgt ?xsu ?zz_abs ?zz_all ?zz_bool ?zz_enumerate ?zz_int ?zz_isinstance ?zz_len ?zz_list ?zz_max ?zz_min ?zz_range ?zz_set ?zz_sorted ?zz_str ?zz_sum ?zz_tuple ?zz_zip ?gg_RING
    (case aC2 => k_is)
    (case a_tupled => k_is)
    (case l_tupled => k_is)
    (case co_tupled => k_is)
    (case k_tupled => k_is)
    (case a_as_set => k_is)
    (case l_as_set => k_is)
    (case co_as_set => k_is)
    (case k_as_set => k_is)
    (case a_turned => k_is)
    (case l_turned => k_is)
    (case co_turned => k_is)
    (case k_turned => k_is)
    (case a_goals_of => k_is)
    (case l_goals_of => k_is)
    (case co_goals_of => k_is)
    (case k_goals_of => k_is)
    (case a_names_in => k_is)
    (case l_names_in => k_is)
    (case co_names_in => k_is)
    (case k_names_in => k_is)
    (case a_goals_in => k_is)
    (case l_goals_in => k_is)
    (case co_goals_in => k_is)
    (case k_goals_in => k_is)
    (case a_tupledN => k_is)
    (case l_tupledN => k_is)
    (case co_tupledN => k_is)
    (case k_tupledN => k_is)
    (case a_Plan_init => k_is)
    (case i_Plan_init => k_is)
    (case l_Plan_init => k_is)
    (case co_Plan_init => k_is)
    (case k_Plan_init => k_is)
    (case a_Plan_of => k_is)
    (case p1_Plan_of => k_is)
    (case p2_Plan_of => k_is)
    (case p3_Plan_of => k_is)
    (case g3_Plan_of => k_is)
    (case l_Plan_of => k_is)
    (case co_Plan_of => k_is)
    (case k_Plan_of => k_is)
    (case a_Plan_parts => k_is)
    (case p1_Plan_parts => k_is)
    (case p2_Plan_parts => k_is)
    (case p3_Plan_parts => k_is)
    (case l_Plan_parts => k_is)
    (case co_Plan_parts => k_is)
    (case k_Plan_parts => k_is)
    (case a_ender => k_is)
    (case l_ender => k_is)
    (case co_ender => k_is)
    (case k_ender => k_is)
    (case a_worst_gone => k_is)
    (case l_worst_gone => k_is)
    (case co_worst_gone => k_is)
    (case k_worst_gone => k_is)
    (case a_weak_ones => k_is)
    (case l_weak_ones => k_is)
    (case co_weak_ones => k_is)
    (case k_weak_ones => k_is)
    (case a__law_box => k_is)
    (case l__law_box => k_is)
    (case co__law_box => k_is)
    (case k__law_box => k_is)
    (case a__law_take => k_is)
    (case l__law_take => k_is)
    (case co__law_take => k_is)
    (case k__law_take => k_is)
    (case a__law_cells => k_is)
    (case l__law_cells => k_is)
    (case co__law_cells => k_is)
    (case k__law_cells => k_is)
    (case a__law_lists => k_is)
    (case l__law_lists => k_is)
    (case co__law_lists => k_is)
    (case k__law_lists => k_is)
    (case a__law_same => k_is)
    (case l__law_same => k_is)
    (case co__law_same => k_is)
    (case k__law_same => k_is)
    (case a__law_mixed => k_is)
    (case l__law_mixed => k_is)
    (case co__law_mixed => k_is)
    (case k__law_mixed => k_is)
    (case a__law_drawn => k_is)
    (case l__law_drawn => k_is)
    (case co__law_drawn => k_is)
    (case k__law_drawn => k_is)
    (case a__law_rest_of => k_is)
    (case l__law_rest_of => k_is)
    (case co__law_rest_of => k_is)
    (case k__law_rest_of => k_is)
    (case a__law_count => k_is)
    (case l__law_count => k_is)
    (case co__law_count => k_is)
    (case k__law_count => k_is)
    (case a__law_all_in => k_is)
    (case l__law_all_in => k_is)
    (case co__law_all_in => k_is)
    (case k__law_all_in => k_is)
    (case a__law_sets => k_is)
    (case l__law_sets => k_is)
    (case co__law_sets => k_is)
    (case k__law_sets => k_is)
    (case a__law_six => k_is)
    (case l__law_six => k_is)
    (case co__law_six => k_is)
    (case k__law_six => k_is)
    (case a__law_worst => k_is)
    (case l__law_worst => k_is)
    (case co__law_worst => k_is)
    (case k__law_worst => k_is)
    (case a__law_weak => k_is)
    (case l__law_weak => k_is)
    (case co__law_weak => k_is)
    (case k__law_weak => k_is)
    (case a__law_hand_right => k_is)
    (case l__law_hand_right => k_is)
    (case co__law_hand_right => k_is)
    (case k__law_hand_right => k_is)
    (case a__law_right => k_is)
    (case l__law_right => k_is)
    (case co__law_right => k_is)
    (case k__law_right => k_is)
    (case a_law => k_is)
    (case l_law => k_is)
    (case co_law => k_is)
    (case k_law => k_is)
    (case pg2 => k_is)
    (case ic2 => k_is)
    (case po2 => k_is)
    (case sa2 => k_is)
    (case mk2 => k_is)
    (case kc2 => k_is)
    (case s1_own_goals => k_is)
    (case s2_own_goals => k_is)
    (case s3_own_goals => k_is)
    (case s4_own_goals => k_is)
    (case s5_own_goals => k_is)
    (case s1_own_parts => k_is)
    (case s2_own_parts => k_is)
    (case s3_own_parts => k_is)
    (case s4_own_parts => k_is)
    (case s5_own_parts => k_is)
    (case xa_Clash => k_is)
    (case xd_Clash => k_is)
    (case xt_Clash => k_is)
    (case xb_Clash => k_is)
    (case xs_Clash => k_is)
    (case xn_Clash => k_is)
    (case xr_Clash_Clash => k_is)
    (case xl_Clash => k_is)
    (case xsa_Clash => k_is)
    (case xm_Clash => k_is)
    (case xkp_Clash => k_is)
    (case xi_Clash => k_is)
    (case xit_Clash => k_is)
    (case xf_Clash => k_is)
    (case xco_Clash => k_is)
    (case xcd_Clash => k_is)
    (case xvs_Clash => first | rfl | decide +kernel)
    (case xfl_Clash => first | rfl | decide +kernel)
    (case xcc_Clash => k_is)
    (case xop_Clash => k_is)
    (case xtop_Clash => first | rfl | decide +kernel)
    (case xsb_Clash => k_is)
    (case xno_Clash => k_is)
    (case xga_Clash => k_is)
    (case xgg_Clash => k_is)
    (case xca_Clash => k_is)
    (case xob_Clash => k_is)
    (case xgs => k_is)
    (case xgt => k_is)
    (case xsu => k_is)
    (case zz_abs => k_is)
    (case zz_all => k_is)
    (case zz_bool => k_is)
    (case zz_enumerate => k_is)
    (case zz_int => k_is)
    (case zz_isinstance => k_is)
    (case zz_len => k_is)
    (case zz_list => k_is)
    (case zz_max => k_is)
    (case zz_min => k_is)
    (case zz_range => k_is)
    (case zz_set => k_is)
    (case zz_sorted => k_is)
    (case zz_str => k_is)
    (case zz_sum => k_is)
    (case zz_tuple => k_is)
    (case zz_zip => k_is)
    (case gg_RING => k_is)
