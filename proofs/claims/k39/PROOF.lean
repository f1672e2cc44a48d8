import PyProof.Rows.All
import Wide.All
import OpenK.AllK
import Wide.FinOn
import HandS.ForMost
import HandS.Exc
import HandS.TryOnly
import HandS.ExcOwn
import HandS.WordsExc
import HandS.More
import HandS.Slots
import HandS.SlotsOwn
import HandS.Star
import HandS.Flow
import HandS.Style
import HandS.TupAny
import HandS.Zip
import HandS.IsInst
import HandS.Conv
import HandS.Defaults
import HandS.DictComp
import HandS.Deep
import HandS.Wide
import KE.SortData
import HandS.Small
import HandS.SetFor
import HandS.SetKeys
import HandS.TupSets
import HandS.Strs
import HandS.Words
import HandS.EndBits
import PyProof.CollectStr
import KE.KTryMore
import HandS.ExcInit
import HandS.ExcSuper
import HandS.ExcField
import HandS.ExcIs
import KE.KExcSuper
import KE.KExcInit
import OpenK.KMeth
import OpenK.KOps
import PyProof.Rows.SortStr
import PyProof.Rows.StrMeet
import HandS.NoneIn
import KE.KDictZip
import KE.GoesZip
import KE.GoesMore
import KE.KItemsList
import HandS.DictTup
import HandS.ExcValue
import PyProof.FactsAll.tuple_0
import PyProof.FactsAll.tuple_2
import KE.DataMinMax
import KE.KDictPairs
import KE.KCallOwn
import KE.KDictSum
import KE.KIsNot
import HandS.ClsMeth
import PyProof.AutoSeq1
import HandS.SortKw
import PyProof.Claim2Refuses
import KE.KOpsOwn
import KE.DatumOrd
import PySem.Challenge.RW_crosshomes_k39_an_order_that_changes
set_option Elab.async false
set_option linter.all false
set_option maxRecDepth 100000
/-! Sm0: plain data over the hand layer: values without a heap, a store of boxes, how both lie in the abstract heap. -/
namespace Sm
open PySem PySem.Spec PyProof.Rows L2

/-- data that never changes -/
inductive Dt where
  | non | bl (b : Bool) | int (i : Int) | str (s : Str)
  | tup (xs : List Dt) | lst (xs : List Dt) | dct (ks : List Key) (xs : List Dt) | obj (c : Nat) (xs : List Dt)
  /-- a list of the outside, read alone -/
  | scr (xs : List Dt)
  /-- a tuple of the written part -/
  | ltp (xs : List Dt)
  /-- a caught exception: its class, its one field -/
  | exc (c : Nat) (xs : List Dt)
  /-- a tuple that surely has no dict of its own -/
  | ntp (xs : List Dt)
/-- a value: data, or a box of the store -/
inductive Dv where
  | d (t : Dt) | loc (n : Nat)
/-- what a box holds -/
inductive Bo where
  | lst (xs : List Dv) | dct (ks : List Key) (xs : List Dv) | ins (c : Nat) (fs : List (Option Dv)) | dead
  /-- a tuple that holds boxes; a dict with tuples as keys -/
  | tp (xs : List Dv) | dcT (ks : List (List Key)) (xs : List Dv)
abbrev Sto := List Bo
abbrev Env := List (Option Dv)

/-- what stays the same through a law: the written part, where the classes stand -/
structure Gs where
  K : PySem.W.Frag
  cls : Nat → Addr
  exc : Nat → Value
  fld : Nat → Option Str
  /-- tuples are keys of dicts (true), or tuples without a dict are told apart (false) -/
  tk : Bool
/-- where the boxes lie (each box its addresses; none: let go), and addresses that are out of reach meanwhile -/
structure Al where
  live : List (List Addr)
  hid : List Addr
def Al.all (A : Al) : List Addr := A.live.flatten ++ A.hid

/-- a tuple, a list, read and never changed -/
def TupA (tk : Bool) (A : Al) (H : Hp) (a : Addr) (vs : List V) : Prop := (H a = some (.tup vs) ∨ (tk = false ∧ ∃ o, H a = some (.frz o (.tup vs)))) ∧ a ∉ A.all
def NtpA (A : Al) (H : Hp) (a : Addr) (vs : List V) : Prop := (∃ o : Obj, H a = some (.frz o (.tup vs)) ∧ o.dict = none ∧ o.cls = .type "tuple") ∧ a ∉ A.all
def LstA (A : Al) (H : Hp) (a : Addr) (vs : List V) : Prop := H a = some (.lst vs) ∧ a ∉ A.all
def ScrA (K : PySem.W.Frag) (A : Al) (H : Hp) (a : Addr) (vs : List V) : Prop := (Rd H a (.lst vs) ∧ a ∉ A.all) ∨ ∀ H', SqL K H' a vs
def SlIs (ws : List (Option V)) (vs : List V) : Prop := ∀ (i : Nat) (v : V), vs[i]? = some v → ws[i]? = some (some v)

/-- the caught exception at a, of the class cls, its dict at d -/
def XoH (a : Addr) (cls : Value) (d : Addr) : HO := .ext fun h => ∃ o vs, h.get? a = some o ∧ o.cls = cls ∧ o.dict = some d ∧ o.data = .fields vs
mutual
/-- data t lies as the value v -/
def RV (G : Gs) (A : Al) (H : Hp) : Dt → V → Prop
  | .non, v => v = .non
  | .bl b, v => v = .bl b
  | .int i, v => v = .int i
  | .str s, v => v = .str s
  | .tup xs, v => ∃ a vs, v = .ref a ∧ TupA G.tk A H a vs ∧ RVs G A H xs vs
  | .lst xs, v => ∃ a vs, v = .ref a ∧ LstA A H a vs ∧ RVs G A H xs vs
  | .scr xs, v => ∃ a vs, v = .ref a ∧ ScrA G.K A H a vs ∧ RVs G A H xs vs
  | .ltp xs, v => ∃ a vs, v = .ref a ∧ (∀ H', SqT G.K H' a vs) ∧ RVs G A H xs vs
  | .exc c xs, v => ∃ a d f u, v = .ref a ∧ a ∉ A.all ∧ d ∉ A.all ∧ H a = some (XoH a (G.exc c) d) ∧ H d = some (.xd [(f, u)]) ∧ G.fld c = some f ∧ RVs G A H xs [u]
  | .ntp xs, v => ∃ a vs, v = .ref a ∧ NtpA A H a vs ∧ RVs G A H xs vs
  | .dct ks xs, v => ∃ a kvs, v = .ref a ∧ a ∉ A.all ∧ Rd H a (.dK kvs) ∧ kvs.map (·.1) = ks ∧ RVs G A H xs (kvs.map (·.2))
  | .obj c xs, v => ∃ a dx ws vs, v = .ref a ∧ a ∉ A.all ∧ dx ∉ A.all ∧ (∃ u, H dx = some u) ∧ SlX.Slt H a (G.cls c) dx ws ∧ SlIs ws vs ∧ RVs G A H xs vs
def RVs (G : Gs) (A : Al) (H : Hp) : List Dt → List V → Prop
  | [], vs => vs = []
  | t :: ts, vs => ∃ v r, vs = v :: r ∧ RV G A H t v ∧ RVs G A H ts r
end
def RD (G : Gs) (A : Al) (H : Hp) : Dv → V → Prop
  | .d t, v => RV G A H t v
  | .loc n, v => ∃ l, A.live[n]? = some l ∧ ∀ a r, l = a :: r → v = .ref a
abbrev RDs (G : Gs) (A : Al) (H : Hp) : List Dv → List V → Prop := Paired (RD G A H)
def RF (G : Gs) (A : Al) (H : Hp) (fs : List (Option Dv)) (ws : List (Option V)) : Prop := ∀ (i : Nat) (d : Dv), fs[i]? = some (some d) → ∃ v, ws[i]? = some (some v) ∧ RD G A H d v
/-- the box o lies at the addresses l -/
def RB (G : Gs) (A : Al) (H : Hp) (l : List Addr) : Bo → Prop
  | .lst xs => ∃ a vs, l = [a] ∧ H a = some (.lst vs) ∧ RDs G A H xs vs
  | .dct ks xs => ∃ a kvs, l = [a] ∧ H a = some (.dK kvs) ∧ kvs.map (·.1) = ks ∧ RDs G A H xs (kvs.map (·.2))
  | .ins c fs => ∃ a dx ws, l = [a, dx] ∧ SlX.Slt H a (G.cls c) dx ws ∧ RF G A H fs ws
  | .dead => True
  | .tp xs => ∃ a vs, l = [a] ∧ H a = some (.tup vs) ∧ RDs G A H xs vs
  | .dcT ks xs => ∃ a kvs, l = [a] ∧ H a = some (.dT kvs) ∧ kvs.map (·.1) = ks ∧ RDs G A H xs (kvs.map (·.2))
structure StR (G : Gs) (A : Al) (S : Sto) (H : Hp) : Prop where
  len : A.live.length = S.length
  nd : A.all.Nodup
  alive : ∀ a ∈ A.all, ∃ o, H a = some o
  box : ∀ (i : Nat) (l : List Addr) (o : Bo), A.live[i]? = some l → S[i]? = some o → RB G A H l o
structure EnvR (G : Gs) (A : Al) (H : Hp) (ρ : Env) (σ : L2.St) : Prop where
  len : ρ.length = σ.length
  at_ : ∀ (i : Nat) (d : Dv), ρ[i]? = some (some d) → ∃ v, σ[i]? = some (some v) ∧ RD G A H d v

/-- u still stands there; a dict may have been locked -/
def Fz (u : HO) (r : Option HO) : Prop := r = some u ∨ ((∃ kvs, u = .dK kvs) ∧ ∃ o, r = some (.frz o u))
/-- what may have happened: boxes changed, were made, were let go; all else stands -/
structure Ext (A : Al) (H : Hp) (A' : Al) (H' : Hp) : Prop where
  live : ∀ (i : Nat) (l : List Addr), A.live[i]? = some l → A'.live[i]? = some l ∨ A'.live[i]? = some []
  hid : ∀ a u, H a = some u → a ∉ A.live.flatten → (a ∈ A'.hid ↔ a ∈ A.hid)
  keep : ∀ a u, H a = some u → a ∉ A.live.flatten → Fz u (H' a) ∧ a ∉ A'.live.flatten
  keepH : ∀ a u, H a = some u → a ∉ A.live.flatten → a ∈ A.hid → H' a = some u

section
variable {G : Gs} {A A' A1 : Al} {H H' H1 : Hp} {S S' : Sto}
theorem mem_all {a : Addr} : a ∉ A.all ↔ a ∉ A.live.flatten ∧ a ∉ A.hid := by
  unfold Al.all
  rw [List.mem_append]
  exact ⟨fun h => ⟨fun z => h (.inl z), fun z => h (.inr z)⟩, fun h z => z.elim h.1 h.2⟩
theorem Fz.there {u : HO} {r : Option HO} (h : Fz u r) : ∃ v, r = some v := by
  rcases h with h | ⟨_, o, h⟩
  · exact ⟨_, h⟩
  · exact ⟨_, h⟩
theorem Fz.eq {u : HO} {r : Option HO} (h : Fz u r) (n : ¬ ∃ kvs, u = .dK kvs) : r = some u := by
  rcases h with h | ⟨z, _⟩
  · exact h
  · exact absurd z n
theorem Fz.step {u v : HO} {r : Option HO} (h : Fz u (some v)) (k : Fz v r) : Fz u r := by
  rcases h with h | ⟨z, o, h⟩
  · cases h
    exact k
  · cases h
    exact .inr ⟨z, o, k.eq fun ⟨_, z⟩ => by cases z⟩
theorem Ext.refl : Ext A H A H := ⟨fun _ _ h => .inl h, fun _ _ _ _ => Iff.rfl, fun _ _ h n => ⟨.inl h, n⟩, fun _ _ h _ _ => h⟩
theorem Ext.trans (x : Ext A H A1 H1) (y : Ext A1 H1 A' H') : Ext A H A' H' := by
  refine ⟨fun i l h => ?_, fun a u h n => ?_, fun a u h n => ?_, fun a u h n m => ?_⟩
  · rcases x.live i l h with h | h
    · exact y.live i l h
    · rcases y.live i [] h with h | h
      · exact .inr h
      · exact .inr h
  · obtain ⟨h1, n1⟩ := x.keep a u h n
    obtain ⟨v, hv⟩ := h1.there
    exact (y.hid a v hv n1).trans (x.hid a u h n)
  · obtain ⟨h1, n1⟩ := x.keep a u h n
    obtain ⟨v, hv⟩ := h1.there
    obtain ⟨h2, n2⟩ := y.keep a v hv n1
    rw [hv] at h1
    exact ⟨h1.step h2, n2⟩
  · have h1 := x.keepH a u h n m
    have n1 := (x.keep a u h n).2
    exact y.keepH a u h1 n1 ((x.hid a u h n).mpr m)
theorem Ext.all {a : Addr} {u : HO} (x : Ext A H A' H') (h : H a = some u) (n : a ∉ A.all) : Fz u (H' a) ∧ a ∉ A'.all := by
  obtain ⟨n1, n2⟩ := mem_all.mp n
  obtain ⟨h1, m1⟩ := x.keep a u h n1
  exact ⟨h1, mem_all.mpr ⟨m1, fun z => n2 ((x.hid a u h n1).mp z)⟩⟩
end

/-- plain: no lock -/
def Nf (u : HO) : Prop := ∀ o u', u ≠ .frz o u'
/-- may be locked -/
def Lk (u : HO) : Prop := ∃ kvs, u = .dK kvs
/-- what data leans on is kept -/
structure Kq (A : Al) (H : Hp) (A' : Al) (H' : Hp) : Prop where
  rd : ∀ a u, Nf u → a ∉ A.all → Rd H a u → Rd H' a u ∧ a ∉ A'.all
  ex : ∀ a u, Nf u → ¬ Lk u → a ∉ A.all → H a = some u → H' a = some u ∧ a ∉ A'.all
  there : ∀ a u, a ∉ A.all → H a = some u → (∃ u', H' a = some u') ∧ a ∉ A'.all
  ef : ∀ a o vs, a ∉ A.all → H a = some (.frz o (.tup vs)) → H' a = some (.frz o (.tup vs)) ∧ a ∉ A'.all
structure Kp (A : Al) (H : Hp) (A' : Al) (H' : Hp) : Prop extends Kq A H A' H' where
  live : ∀ (i : Nat) (l : List Addr), A.live[i]? = some l → A'.live[i]? = some l ∨ A'.live[i]? = some []
section
variable {G : Gs} {A A' A1 : Al} {H H' H1 : Hp} {S S' : Sto}
theorem nf_tup {xs : List V} : Nf (.tup xs) := fun _ _ z => by cases z
theorem nf_lst {xs : List V} : Nf (.lst xs) := fun _ _ z => by cases z
theorem nf_dK {xs : List (Key × V)} : Nf (.dK xs) := fun _ _ z => by cases z
theorem nf_ins {C dx : Addr} {xs : List (Str × V)} : Nf (.ins C dx xs) := fun _ _ z => by cases z
theorem nf_slo {a C dx : Addr} {xs : List (Option V)} : Nf (SlX.SlO a C dx xs) := fun _ _ z => by cases z
theorem nf_xd {xs : List (Str × V)} : Nf (.xd xs) := fun _ _ z => by cases z
theorem lk_ins {C dx : Addr} {xs : List (Str × V)} : ¬ Lk (.ins C dx xs) := fun z => by
  obtain ⟨_, z⟩ := z
  cases z
theorem lk_slo {a C dx : Addr} {xs : List (Option V)} : ¬ Lk (SlX.SlO a C dx xs) := fun z => by
  obtain ⟨_, z⟩ := z
  cases z
theorem lk_xd {xs : List (Str × V)} : ¬ Lk (.xd xs) := fun z => by
  obtain ⟨_, z⟩ := z
  cases z
theorem Ext.kp (x : Ext A H A' H') : Kp A H A' H' := by
  refine ⟨⟨fun a u nf n h => ?_, fun a u nf lk n h => ?_, fun a u n h => ⟨(x.all h n).1.there, (x.all h n).2⟩, fun a o vs n h => ⟨(x.all h n).1.eq (fun ⟨_, z⟩ => by cases z), (x.all h n).2⟩⟩, x.live⟩
  · rcases h with h | ⟨o, h⟩
    · obtain ⟨h1, n1⟩ := x.all h n
      rcases h1 with h1 | ⟨_, o, h1⟩
      · exact ⟨.inl h1, n1⟩
      · exact ⟨.inr ⟨o, h1⟩, n1⟩
    · obtain ⟨h1, n1⟩ := x.all h n
      exact ⟨.inr ⟨o, h1.eq fun ⟨_, z⟩ => by cases z⟩, n1⟩
  · obtain ⟨h1, n1⟩ := x.all h n
    exact ⟨h1.eq lk, n1⟩
theorem lk_tup {xs : List V} : ¬ Lk (.tup xs) := fun z => by
  obtain ⟨_, z⟩ := z
  cases z
theorem TupA.kp {tk : Bool} {a : Addr} {vs : List V} (x : Kq A H A' H') (h : TupA tk A H a vs) : TupA tk A' H' a vs := by
  obtain ⟨h | ⟨e, o, h⟩, n⟩ := h
  · obtain ⟨k, m⟩ := x.ex a _ nf_tup lk_tup n h
    exact ⟨.inl k, m⟩
  · obtain ⟨k, m⟩ := x.ef a o vs n h
    exact ⟨.inr ⟨e, o, k⟩, m⟩
theorem NtpA.kp {a : Addr} {vs : List V} (x : Kq A H A' H') (h : NtpA A H a vs) : NtpA A' H' a vs := by
  obtain ⟨⟨o, h1, h2⟩, n⟩ := h
  obtain ⟨k, m⟩ := x.ef a o vs n h1
  exact ⟨⟨o, k, h2⟩, m⟩
theorem NtpA.tup {a : Addr} {vs : List V} (h : NtpA A H a vs) : TupA false A H a vs := ⟨.inr ⟨rfl, _, h.1.choose_spec.1⟩, h.2⟩
theorem lk_lst {xs : List V} : ¬ Lk (.lst xs) := fun z => by
  obtain ⟨_, z⟩ := z
  cases z
theorem LstA.kp {a : Addr} {vs : List V} (x : Kq A H A' H') (h : LstA A H a vs) : LstA A' H' a vs := x.ex a _ nf_lst lk_lst h.2 h.1
theorem ScrA.kp {K : PySem.W.Frag} {a : Addr} {vs : List V} (x : Kq A H A' H') (h : ScrA K A H a vs) : ScrA K A' H' a vs := by
  rcases h with ⟨h, n⟩ | h
  · exact .inl (x.rd a _ nf_lst n h)
  · exact .inr h
theorem ScrA.sq {K : PySem.W.Frag} {a : Addr} {vs : List V} (h : ScrA K A H a vs) : SqL K H a vs := by
  rcases h with ⟨h, _⟩ | h
  · exact .inl h
  · exact h H
theorem LstA.sq {K : PySem.W.Frag} {a : Addr} {vs : List V} (h : LstA A H a vs) : SqL K H a vs := .inl (.inl h.1)
theorem TupA.rd {tk : Bool} {a : Addr} {vs : List V} (h : TupA tk A H a vs) : Rd H a (.tup vs) := h.1.elim .inl fun z => .inr z.2
theorem TupA.sq {tk : Bool} {K : PySem.W.Frag} {a : Addr} {vs : List V} (h : TupA tk A H a vs) : SqT K H a vs := .inl h.rd
theorem slt_kp {a C dx : Addr} {ws : List (Option V)} (x : Kq A H A' H') (h : SlX.Slt H a C dx ws) (n : a ∉ A.all) (n2 : dx ∉ A.all) : SlX.Slt H' a C dx ws ∧ a ∉ A'.all := by
  rcases h with ⟨h, hw⟩ | ⟨h, h2⟩
  · obtain ⟨e, m⟩ := x.ex a _ nf_ins lk_ins n h
    exact ⟨.inl ⟨e, hw⟩, m⟩
  · obtain ⟨e, m⟩ := x.ex a _ nf_slo lk_slo n h
    obtain ⟨e2, m2⟩ := x.ex dx _ nf_xd lk_xd n2 h2
    exact ⟨.inr ⟨e, e2⟩, m⟩
theorem nf_xo {a d : Addr} {cls : Value} : Nf (XoH a cls d) := fun o v z => by
  unfold XoH at z
  cases z
theorem lk_xo {a d : Addr} {cls : Value} : ¬ Lk (XoH a cls d) := fun z => by
  obtain ⟨_, z⟩ := z
  unfold XoH at z
  cases z
mutual
theorem RV.kq (x : Kq A H A' H') : ∀ {t : Dt} {v : V}, RV G A H t v → RV G A' H' t v
  | .non, _, h => h
  | .bl _, _, h => h
  | .int _, _, h => h
  | .str _, _, h => h
  | .tup xs, v, h => by
    obtain ⟨a, vs, e, ht, hs⟩ := h
    exact ⟨a, vs, e, ht.kp x, RVs.kq x hs⟩
  | .lst xs, v, h => by
    obtain ⟨a, vs, e, ht, hs⟩ := h
    exact ⟨a, vs, e, ht.kp x, RVs.kq x hs⟩
  | .scr xs, v, h => by
    obtain ⟨a, vs, e, ht, hs⟩ := h
    exact ⟨a, vs, e, ht.kp x, RVs.kq x hs⟩
  | .ltp xs, v, h => by
    obtain ⟨a, vs, e, ht, hs⟩ := h
    exact ⟨a, vs, e, ht, RVs.kq x hs⟩
  | .exc c xs, v, h => by
    obtain ⟨a, d, f, u, e, n1, n2, h1, h2, ef, hs⟩ := h
    obtain ⟨k1, m1⟩ := x.ex a _ nf_xo lk_xo n1 h1
    obtain ⟨k2, m2⟩ := x.ex d _ nf_xd lk_xd n2 h2
    exact ⟨a, d, f, u, e, m1, m2, k1, k2, ef, RVs.kq x hs⟩
  | .ntp xs, v, h => by
    obtain ⟨a, vs, e, ht, hs⟩ := h
    exact ⟨a, vs, e, ht.kp x, RVs.kq x hs⟩
  | .dct ks xs, v, h => by
    obtain ⟨a, kvs, e, n, r, ek, hs⟩ := h
    obtain ⟨r1, n1⟩ := x.rd a _ nf_dK n r
    exact ⟨a, kvs, e, n1, r1, ek, RVs.kq x hs⟩
  | .obj c xs, v, h => by
    obtain ⟨a, dx, ws, vs, e, n, n2, ⟨u, hu⟩, hsl, hi, hs⟩ := h
    obtain ⟨h1, n1⟩ := slt_kp x hsl n n2
    obtain ⟨h3, n3⟩ := x.there dx u n2 hu
    exact ⟨a, dx, ws, vs, e, n1, n3, h3, h1, hi, RVs.kq x hs⟩
theorem RVs.kq (x : Kq A H A' H') : ∀ {t : List Dt} {v : List V}, RVs G A H t v → RVs G A' H' t v
  | [], _, h => h
  | t :: ts, vs, h => by
    obtain ⟨v, r, e, h1, h2⟩ := h
    exact ⟨v, r, e, RV.kq x h1, RVs.kq x h2⟩
end
theorem RV.kp {t : Dt} {v : V} (h : RV G A H t v) (x : Kp A H A' H') : RV G A' H' t v := RV.kq x.toKq h
theorem RVs.kp {t : List Dt} {v : List V} (h : RVs G A H t v) (x : Kp A H A' H') : RVs G A' H' t v := RVs.kq x.toKq h
theorem RD.kp (x : Kp A H A' H') {d : Dv} {v : V} (h : RD G A H d v) : RD G A' H' d v := by
  cases d with
  | d t => exact RV.kp (t := t) h x
  | loc n =>
    obtain ⟨l, e, f⟩ := h
    rcases x.live n l e with e | e
    · exact ⟨l, e, f⟩
    · exact ⟨[], e, fun a r z => by cases z⟩
theorem RDs.kp (x : Kp A H A' H') {ds : List Dv} {vs : List V} (h : RDs G A H ds vs) : RDs G A' H' ds vs := Paired.mapP h fun _ _ z => RD.kp x z
theorem EnvR.kp (x : Kp A H A' H') {ρ : Env} {σ : L2.St} (h : EnvR G A H ρ σ) : EnvR G A' H' ρ σ :=
  ⟨h.len, fun i d e => let ⟨v, e1, r⟩ := h.at_ i d e; ⟨v, e1, RD.kp x r⟩⟩
theorem RF.kp (x : Kp A H A' H') {fs : List (Option Dv)} {ws : List (Option V)} (h : RF G A H fs ws) : RF G A' H' fs ws :=
  fun i d e => let ⟨v, e1, r⟩ := h i d e; ⟨v, e1, RD.kp x r⟩
theorem RVs.paired : ∀ {ts : List Dt} {vs : List V}, RVs G A H ts vs ↔ Paired (RV G A H) ts vs
  | [], vs => ⟨fun h => by
      have e : vs = [] := h
      subst e
      exact .nil, fun h => by
      cases h
      exact (rfl : ([] : List V) = [])⟩
  | t :: ts, vs => ⟨fun h => by
      obtain ⟨v, r, e, h1, h2⟩ := h
      subst e
      exact .cons h1 (RVs.paired.mp h2), fun h => by
      cases h with
      | cons h1 h2 => exact ⟨_, _, rfl, h1, RVs.paired.mpr h2⟩⟩
theorem RVs.rds {ts : List Dt} {vs : List V} (h : RVs G A H ts vs) : RDs G A H (ts.map .d) vs := by
  have p := RVs.paired.mp h
  induction p with
  | nil => exact .nil
  | cons r _ ih => exact .cons r (ih (RVs.paired.mpr ‹_›))
theorem RVs.length {ts : List Dt} {vs : List V} (h : RVs G A H ts vs) : ts.length = vs.length := (RVs.paired.mp h).length
theorem RVs.get : ∀ {ts : List Dt} {vs : List V} {i : Nat} {t : Dt}, RVs G A H ts vs → ts[i]? = some t → ∃ v, vs[i]? = some v ∧ RV G A H t v
  | [], _, i, t, _, e => by simp at e
  | t :: ts, _, 0, _, h, e => by
    obtain ⟨v, r, rfl, h1, h2⟩ := h
    simp at e
    subst e
    exact ⟨v, rfl, h1⟩
  | t :: ts, _, i + 1, _, h, e => by
    obtain ⟨v, r, rfl, h1, h2⟩ := h
    obtain ⟨u, e1, r1⟩ := RVs.get (i := i) h2 (by simpa using e)
    exact ⟨u, by simpa using e1, r1⟩
theorem RVs.get' : ∀ {ts : List Dt} {vs : List V} {i : Nat} {v : V}, RVs G A H ts vs → vs[i]? = some v → ∃ t, ts[i]? = some t ∧ RV G A H t v
  | [], vs, i, v, h, e => by
    have z : vs = [] := h
    subst z
    simp at e
  | t :: ts, _, 0, _, h, e => by
    obtain ⟨v, r, rfl, h1, h2⟩ := h
    simp at e
    subst e
    exact ⟨t, rfl, h1⟩
  | t :: ts, _, i + 1, _, h, e => by
    obtain ⟨v, r, rfl, h1, h2⟩ := h
    obtain ⟨u, e1, r1⟩ := RVs.get' (i := i) h2 (by simpa using e)
    exact ⟨u, by simpa using e1, r1⟩
theorem RVs.append : ∀ {ts us : List Dt} {vs ws : List V}, RVs G A H ts vs → RVs G A H us ws → RVs G A H (ts ++ us) (vs ++ ws)
  | [], _, _, _, h, h2 => by
    have z : _ = [] := h
    subst z
    exact h2
  | t :: ts, _, _, _, h, h2 => by
    obtain ⟨v, r, rfl, h1, h3⟩ := h
    exact ⟨v, r ++ _, rfl, h1, RVs.append h3 h2⟩
theorem RVs.take {ts : List Dt} {vs : List V} (n : Nat) (h : RVs G A H ts vs) : RVs G A H (ts.take n) (vs.take n) := by
  induction ts generalizing vs n with
  | nil =>
    have z : vs = [] := h
    subst z
    simp [RVs]
  | cons t ts ih =>
    obtain ⟨v, r, rfl, h1, h2⟩ := h
    cases n with
    | zero => exact (rfl : ([] : List V) = [])
    | succ n => exact ⟨v, r.take n, rfl, h1, ih n h2⟩
theorem RVs.drop {ts : List Dt} {vs : List V} (n : Nat) (h : RVs G A H ts vs) : RVs G A H (ts.drop n) (vs.drop n) := by
  induction ts generalizing vs n with
  | nil =>
    have z : vs = [] := h
    subst z
    simp [RVs]
  | cons t ts ih =>
    obtain ⟨v, r, rfl, h1, h2⟩ := h
    cases n with
    | zero => exact ⟨v, r, rfl, h1, h2⟩
    | succ n => exact ih n h2
theorem RDs.get {ds : List Dv} {vs : List V} {i : Nat} {d : Dv} (h : RDs G A H ds vs) (e : ds[i]? = some d) : ∃ v, vs[i]? = some v ∧ RD G A H d v := L2.paired_get h e
theorem RDs.get' : ∀ {ds : List Dv} {vs : List V} {i : Nat} {v : V}, RDs G A H ds vs → vs[i]? = some v → ∃ d, ds[i]? = some d ∧ RD G A H d v
  | _, _, _, _, .nil, e => by simp at e
  | _, _, 0, _, .cons r _, e => by
    simp at e
    subst e
    exact ⟨_, rfl, r⟩
  | _, _, i + 1, _, .cons _ t, e => by
    obtain ⟨d, e1, r1⟩ := RDs.get' (i := i) t (by simpa using e)
    exact ⟨d, by simpa using e1, r1⟩
theorem RDs.append : ∀ {ds es : List Dv} {vs ws : List V}, RDs G A H ds vs → RDs G A H es ws → RDs G A H (ds ++ es) (vs ++ ws)
  | _, _, _, _, .nil, h => h
  | _, _, _, _, .cons r t, h => .cons r (RDs.append t h)
theorem RDs.set : ∀ {ds : List Dv} {vs : List V} (i : Nat) {d : Dv} {v : V}, RDs G A H ds vs → RD G A H d v → RDs G A H (ds.set i d) (vs.set i v)
  | _, _, _, _, _, .nil, _ => .nil
  | _, _, 0, _, _, .cons _ t, r => .cons r t
  | _, _, i + 1, _, _, .cons q t, r => .cons q (RDs.set i t r)
theorem RDs.eraseIdx : ∀ {ds : List Dv} {vs : List V} (i : Nat), RDs G A H ds vs → RDs G A H (ds.eraseIdx i) (vs.eraseIdx i)
  | _, _, _, .nil => .nil
  | _, _, 0, .cons _ t => t
  | _, _, i + 1, .cons q t => .cons q (RDs.eraseIdx i t)
end
end Sm
/-! Sm1: what a step does to the store. -/
namespace Sm
open PySem PySem.Spec PyProof.Rows L2
section
variable {G : Gs} {A A' A1 : Al} {H H' H1 : Hp} {S S' : Sto} {p a : Addr} {o u : HO}
theorem StR.out (s : StR G A S H) (h : H p = none) : p ∉ A.all := fun z => by
  obtain ⟨o, e⟩ := s.alive p z
  rw [h] at e
  cases e
theorem upd_old (h : H p = none) (e : H a = some u) : upd H p o a = some u := by
  rw [upd_ne (ne_of_none e h)]
  exact e
/-- a new object outside of the boxes -/
theorem Ext.new (h : H p = none) : Ext A H A (upd H p o) := ⟨fun _ _ e => .inl e, fun _ _ _ _ => Iff.rfl, fun _ _ e n => ⟨.inl (upd_old h e), n⟩, fun _ _ e _ _ => upd_old h e⟩
theorem live_set {i : Nat} {x : List Addr} (h : A.live[i]? = some x) : ∀ a ∈ x, a ∈ A.live.flatten := fun a ha => List.mem_flatten.mpr ⟨x, List.mem_of_getElem? h, ha⟩
/-- a box is kept -/
theorem RB.keep {l : List Addr} {b : Bo} (k : Kp A H A' H') (hl : ∀ a ∈ l, H' a = H a) (h : RB G A H l b) : RB G A' H' l b := by
  cases b with
  | lst xs =>
    obtain ⟨a, vs, rfl, e, r⟩ := h
    exact ⟨a, vs, rfl, (hl a (by simp)).trans e, r.kp k⟩
  | dct ks xs =>
    obtain ⟨a, vs, rfl, e, ek, r⟩ := h
    exact ⟨a, vs, rfl, (hl a (by simp)).trans e, ek, r.kp k⟩
  | ins c fs =>
    obtain ⟨a, dx, ws, rfl, e, r⟩ := h
    refine ⟨a, dx, ws, rfl, ?_, r.kp k⟩
    rcases e with ⟨e, hw⟩ | ⟨e, e2⟩
    · exact .inl ⟨(hl a (by simp)).trans e, hw⟩
    · exact .inr ⟨(hl a (by simp)).trans e, (hl dx (by simp)).trans e2⟩
  | dead => trivial
  | tp xs =>
    obtain ⟨a, vs, rfl, e, r⟩ := h
    exact ⟨a, vs, rfl, (hl a (by simp)).trans e, r.kp k⟩
  | dcT ks xs =>
    obtain ⟨a, vs, rfl, e, ek, r⟩ := h
    exact ⟨a, vs, rfl, (hl a (by simp)).trans e, ek, r.kp k⟩
theorem StR.new (s : StR G A S H) (h : H p = none) : StR G A S (upd H p o) := by
  refine ⟨s.len, s.nd, fun a ha => ?_, fun i l b e1 e2 => (s.box i l b e1 e2).keep (Ext.new h).kp fun a ha => ?_⟩
  · obtain ⟨u, e⟩ := s.alive a ha
    exact ⟨u, upd_old h e⟩
  · have z : a ∈ A.all := List.mem_append_left _ (live_set e1 a ha)
    obtain ⟨u, e⟩ := s.alive a z
    rw [upd_old h e, e]
/-- a tuple, a list that stays -/
theorem RV.tup_new {ts : List Dt} {vs : List V} (s : StR G A S H) (h : H p = none) (r : RVs G A H ts vs) : RV G A (upd H p (.tup vs)) (.tup ts) (.ref p) :=
  ⟨p, vs, rfl, ⟨.inl upd_same, s.out h⟩, r.kp (Ext.new h).kp⟩
theorem RV.lst_new {ts : List Dt} {vs : List V} (s : StR G A S H) (h : H p = none) (r : RVs G A H ts vs) : RV G A (upd H p (.lst vs)) (.lst ts) (.ref p) :=
  ⟨p, vs, rfl, ⟨upd_same, s.out h⟩, r.kp (Ext.new h).kp⟩
/-! ### new boxes -/
def Al.push (A : Al) (l : List Addr) : Al := ⟨A.live ++ [l], A.hid⟩
theorem push_all {l : List Addr} {b : Addr} : b ∈ (A.push l).all ↔ b ∈ A.all ∨ b ∈ l := by
  unfold Al.push Al.all
  simp only [List.flatten_append, List.mem_append, List.flatten_cons, List.flatten_nil, List.append_nil]
  constructor
  · rintro ((h | h) | h)
    · exact .inl (.inl h)
    · exact .inr h
    · exact .inl (.inr h)
  · rintro ((h | h) | h)
    · exact .inl (.inl h)
    · exact .inr h
    · exact .inl (.inr h)
theorem push_old {l x : List Addr} {i : Nat} (h : A.live[i]? = some x) : (A.push l).live[i]? = some x := by
  unfold Al.push
  have := (List.getElem?_eq_some_iff.mp h).1
  rw [List.getElem?_append_left this]
  exact h
theorem push_at {l x : List Addr} {i : Nat} (h : (A.push l).live[i]? = some x) : A.live[i]? = some x ∨ (i = A.live.length ∧ x = l) := by
  unfold Al.push at h
  simp only at h
  by_cases hi : i < A.live.length
  · rw [List.getElem?_append_left hi] at h
    exact .inl h
  · rw [List.getElem?_append_right (by omega)] at h
    by_cases h0 : i - A.live.length = 0
    · rw [h0] at h
      simp at h
      exact .inr ⟨by omega, h.symm⟩
    · obtain ⟨k, hk⟩ : ∃ k, i - A.live.length = k + 1 := ⟨i - A.live.length - 1, by omega⟩
      rw [hk] at h
      simp at h
theorem push_nd {l : List Addr} (hn : A.all.Nodup) (hl : l.Nodup) (hx : ∀ b ∈ l, b ∉ A.all) : (A.push l).all.Nodup := by
  unfold Al.push Al.all at *
  simp only [List.flatten_append, List.flatten_cons, List.flatten_nil, List.append_nil]
  rw [List.nodup_append] at hn
  obtain ⟨n1, n2, n3⟩ := hn
  rw [List.nodup_append, List.nodup_append]
  refine ⟨⟨n1, hl, fun x hx1 y hy e => ?_⟩, n2, fun x hx1 y hy e => ?_⟩
  · subst e
    exact hx x hy (List.mem_append_left _ hx1)
  · subst e
    rcases List.mem_append.mp hx1 with z | z
    · exact n3 x z x hy rfl
    · exact hx x z (List.mem_append_right _ hy)
theorem Ext.push {l : List Addr} (hk : ∀ b v, H b = some v → H' b = some v) (hl : ∀ b ∈ l, H b = none) : Ext A H (A.push l) H' := by
  refine ⟨fun i x h => .inl (push_old h), fun _ _ _ _ => Iff.rfl, fun b v h n => ⟨.inl (hk b v h), fun z => ?_⟩, fun b v h _ _ => hk b v h⟩
  unfold Al.push at z
  simp only [List.flatten_append, List.mem_append, List.flatten_cons, List.flatten_nil, List.append_nil] at z
  rcases z with z | z
  · exact n z
  · rw [hl b z] at h
    cases h
theorem StR.push {l : List Addr} {b : Bo} (s : StR G A S H) (hk : ∀ b v, H b = some v → H' b = some v) (hl : ∀ b ∈ l, H b = none) (hl' : ∀ b ∈ l, ∃ v, H' b = some v) (hn : l.Nodup) (hb : RB G (A.push l) H' l b) : StR G (A.push l) (S ++ [b]) H' := by
  have x : Ext A H (A.push l) H' := Ext.push hk hl
  refine ⟨by simp [Al.push, s.len], push_nd s.nd hn fun c hc => s.out (hl c hc), fun c hc => ?_, fun i k o e1 e2 => ?_⟩
  · rcases push_all.mp hc with z | z
    · obtain ⟨v, e⟩ := s.alive c z
      exact ⟨v, hk c v e⟩
    · exact hl' c z
  · rcases push_at e1 with z | ⟨z, rfl⟩
    · have hi : i < S.length := by
        rw [← s.len]
        exact (List.getElem?_eq_some_iff.mp z).1
      rw [List.getElem?_append_left hi] at e2
      refine (s.box i k o z e2).keep x.kp fun c hc => ?_
      obtain ⟨v, e⟩ := s.alive c (List.mem_append_left _ (live_set z c hc))
      rw [hk c v e, e]
    · subst z
      rw [s.len, List.getElem?_append_right (Nat.le_refl _)] at e2
      simp at e2
      subst e2
      exact hb
theorem push_loc {l : List Addr} (s : StR G A S H) : (A.push l).live[S.length]? = some l := by
  unfold Al.push
  simp only
  rw [← s.len, List.getElem?_append_right (Nat.le_refl _)]
  simp
theorem RD.loc_new {r : List Addr} (s : StR G A S H) : RD G (A.push (p :: r)) H' (.loc S.length) (.ref p) :=
  ⟨p :: r, push_loc s, fun b q z => by
    injection z with z1 z2
    rw [z1]⟩
/-- a new list as a box -/
theorem box_lst {ds : List Dv} {vs : List V} (s : StR G A S H) (h : H p = none) (r : RDs G A H ds vs) :
    Ext A H (A.push [p]) (upd H p (.lst vs)) ∧ StR G (A.push [p]) (S ++ [.lst ds]) (upd H p (.lst vs)) ∧ RD G (A.push [p]) (upd H p (.lst vs)) (.loc S.length) (.ref p) := by
  have hk : ∀ b v, H b = some v → upd H p (.lst vs) b = some v := fun b v e => upd_old h e
  have hl : ∀ b ∈ [p], H b = none := fun b hb => by
    simp at hb
    rw [hb]
    exact h
  have x : Ext A H (A.push [p]) (upd H p (.lst vs)) := Ext.push hk hl
  refine ⟨x, s.push hk hl (fun b hb => ?_) (by simp) ⟨p, vs, rfl, upd_same, r.kp x.kp⟩, RD.loc_new s⟩
  simp at hb
  rw [hb]
  exact ⟨_, upd_same⟩
/-- a new instance with slots -/
theorem box_ins {c : Nat} {dx : Addr} (s : StR G A S H) (h : H p = none) (h2 : H dx = none) (ne : dx ≠ p) :
    Ext A H (A.push [p, dx]) (upd (upd H dx (.own p)) p (.ins (G.cls c) dx [])) ∧ StR G (A.push [p, dx]) (S ++ [.ins c []]) (upd (upd H dx (.own p)) p (.ins (G.cls c) dx [])) ∧
      RD G (A.push [p, dx]) (upd (upd H dx (.own p)) p (.ins (G.cls c) dx [])) (.loc S.length) (.ref p) := by
  have h3 : upd H dx (.own p) p = none := by
    rw [upd_ne ne.symm]
    exact h
  have hk : ∀ b v, H b = some v → upd (upd H dx (.own p)) p (.ins (G.cls c) dx []) b = some v := fun b v e => upd_old h3 (upd_old h2 e)
  have hl : ∀ b ∈ [p, dx], H b = none := fun b hb => by
    simp at hb
    rcases hb with rfl | rfl
    · exact h
    · exact h2
  have x : Ext A H (A.push [p, dx]) (upd (upd H dx (.own p)) p (.ins (G.cls c) dx [])) := Ext.push hk hl
  refine ⟨x, s.push hk hl (fun b hb => ?_) (by simp [ne.symm]) ⟨p, dx, [], rfl, .inl ⟨upd_same, rfl⟩, fun i d e => by simp at e⟩, RD.loc_new s⟩
  simp at hb
  rcases hb with rfl | rfl
  · exact ⟨_, upd_same⟩
  · rw [upd_ne ne, upd_same]
    exact ⟨_, rfl⟩
/-! ### a box changes -/
theorem nd_flat : ∀ {L : List (List Addr)}, L.flatten.Nodup → (∀ x ∈ L, x.Nodup) ∧ ∀ (i j : Nat) (x y : List Addr) (b : Addr), L[i]? = some x → L[j]? = some y → b ∈ x → b ∈ y → i = j
  | [], _ => ⟨fun x z => by simp at z, fun i j x y b h => by simp at h⟩
  | l :: L, h => by
    rw [List.flatten_cons, List.nodup_append] at h
    obtain ⟨h1, h2, h3⟩ := h
    obtain ⟨i1, i2⟩ := nd_flat h2
    have mem : ∀ {k : Nat} {z : List Addr} {b : Addr}, L[k]? = some z → b ∈ z → b ∈ L.flatten := fun e hb => List.mem_flatten.mpr ⟨_, List.mem_of_getElem? e, hb⟩
    refine ⟨fun x hx => ?_, fun i j x y b e1 e2 b1 b2 => ?_⟩
    · rcases List.mem_cons.mp hx with rfl | hx
      · exact h1
      · exact i1 x hx
    · cases i with
      | zero =>
        cases j with
        | zero => rfl
        | succ j =>
          simp at e1 e2
          subst e1
          exact absurd rfl (h3 b b1 b (mem e2 b2))
      | succ i =>
        cases j with
        | zero =>
          simp at e1 e2
          subst e2
          exact absurd rfl (h3 b b2 b (mem e1 b1))
        | succ j =>
          simp at e1 e2
          rw [i2 i j x y b e1 e2 b1 b2]
theorem nd_live {i j : Nat} {x y : List Addr} {b : Addr} (hn : A.all.Nodup) (h1 : A.live[i]? = some x) (h2 : A.live[j]? = some y) (b1 : b ∈ x) (b2 : b ∈ y) : i = j := by
  unfold Al.all at hn
  rw [List.nodup_append] at hn
  exact (nd_flat hn.1).2 i j x y b h1 h2 b1 b2
/-- the box i gets another content; all but its addresses stands -/
theorem Ext.box {i : Nat} {l : List Addr} (h : A.live[i]? = some l) (hk : ∀ b, b ∉ l → H' b = H b) : Ext A H A H' :=
  ⟨fun _ _ e => .inl e, fun _ _ _ _ => Iff.rfl, fun b v e n => ⟨.inl (by rw [hk b fun z => n (live_set h b z)]; exact e), n⟩, fun b v e n _ => by rw [hk b fun z => n (live_set h b z)]; exact e⟩
theorem StR.setBox {i : Nat} {l : List Addr} {b : Bo} (s : StR G A S H) (h : A.live[i]? = some l) (hk : ∀ c, c ∉ l → H' c = H c) (ha : ∀ c ∈ l, ∃ v, H' c = some v) (hb : RB G A H' l b) : StR G A (S.set i b) H' := by
  have x : Ext A H A H' := Ext.box h hk
  refine ⟨by simp [s.len], s.nd, fun c hc => ?_, fun j k o e1 e2 => ?_⟩
  · by_cases hcl : c ∈ l
    · exact ha c hcl
    · rw [hk c hcl]
      exact s.alive c hc
  · by_cases hj : j = i
    · subst hj
      have hi : j < S.length := by
        rw [← s.len]
        exact (List.getElem?_eq_some_iff.mp h).1
      rw [List.getElem?_set_self hi] at e2
      cases e2
      rw [h] at e1
      cases e1
      exact hb
    · rw [List.getElem?_set_ne (fun z => hj z.symm)] at e2
      exact (s.box j k o e1 e2).keep x.kp fun c hc => hk c fun z => hj (nd_live s.nd e1 h hc z)
theorem loc_lst {n : Nat} {xs : List Dv} {v : V} (s : StR G A S H) (r : RD G A H (.loc n) v) (e : S[n]? = some (.lst xs)) : ∃ a vs, v = .ref a ∧ A.live[n]? = some [a] ∧ H a = some (.lst vs) ∧ RDs G A H xs vs := by
  obtain ⟨l, h, f⟩ := r
  obtain ⟨a, vs, rfl, e1, r1⟩ := s.box n l _ h e
  exact ⟨a, vs, f a [] rfl, h, e1, r1⟩
theorem loc_dct {n : Nat} {ks : List Key} {xs : List Dv} {v : V} (s : StR G A S H) (r : RD G A H (.loc n) v) (e : S[n]? = some (.dct ks xs)) :
    ∃ a kvs, v = .ref a ∧ A.live[n]? = some [a] ∧ H a = some (.dK kvs) ∧ kvs.map (·.1) = ks ∧ RDs G A H xs (kvs.map (·.2)) := by
  obtain ⟨l, h, f⟩ := r
  obtain ⟨a, kvs, rfl, e1, ek, r1⟩ := s.box n l _ h e
  exact ⟨a, kvs, f a [] rfl, h, e1, ek, r1⟩
theorem loc_ins {n c : Nat} {fs : List (Option Dv)} {v : V} (s : StR G A S H) (r : RD G A H (.loc n) v) (e : S[n]? = some (.ins c fs)) :
    ∃ a dx ws, v = .ref a ∧ A.live[n]? = some [a, dx] ∧ dx ≠ a ∧ SlX.Slt H a (G.cls c) dx ws ∧ RF G A H fs ws := by
  obtain ⟨l, h, f⟩ := r
  obtain ⟨a, dx, ws, rfl, e1, r1⟩ := s.box n l _ h e
  refine ⟨a, dx, ws, f a [dx] rfl, h, fun z => ?_, e1, r1⟩
  subst z
  have hn := s.nd
  unfold Al.all at hn
  rw [List.nodup_append] at hn
  have := (nd_flat hn.1).1 _ (List.mem_of_getElem? h)
  simp at this
theorem set_lst {n : Nat} {a : Addr} {xs' : List Dv} {vs' : List V} (s : StR G A S H) (h : A.live[n]? = some [a]) (r : RDs G A H xs' vs') :
    Ext A H A (upd H a (.lst vs')) ∧ StR G A (S.set n (.lst xs')) (upd H a (.lst vs')) := by
  have hk : ∀ c, c ∉ [a] → upd H a (.lst vs') c = H c := fun c hc => upd_ne (by simpa using hc)
  have x : Ext A H A (upd H a (.lst vs')) := Ext.box h hk
  refine ⟨x, s.setBox h hk (fun c hc => ?_) ⟨a, vs', rfl, upd_same, r.kp x.kp⟩⟩
  simp at hc
  rw [hc]
  exact ⟨_, upd_same⟩
theorem set_dct {n : Nat} {a : Addr} {ks' : List Key} {xs' : List Dv} {kvs' : List (Key × V)} (s : StR G A S H) (h : A.live[n]? = some [a]) (ek : kvs'.map (·.1) = ks') (r : RDs G A H xs' (kvs'.map (·.2))) :
    Ext A H A (upd H a (.dK kvs')) ∧ StR G A (S.set n (.dct ks' xs')) (upd H a (.dK kvs')) := by
  have hk : ∀ c, c ∉ [a] → upd H a (.dK kvs') c = H c := fun c hc => upd_ne (by simpa using hc)
  have x : Ext A H A (upd H a (.dK kvs')) := Ext.box h hk
  refine ⟨x, s.setBox h hk (fun c hc => ?_) ⟨a, kvs', rfl, upd_same, ek, r.kp x.kp⟩⟩
  simp at hc
  rw [hc]
  exact ⟨_, upd_same⟩
theorem set_ins {n c : Nat} {a dx : Addr} {fs' : List (Option Dv)} {ws' : List (Option V)} (s : StR G A S H) (h : A.live[n]? = some [a, dx]) (ne : dx ≠ a) (r : RF G A H fs' ws') :
    Ext A H A (SlX.slH H a (G.cls c) dx ws') ∧ StR G A (S.set n (.ins c fs')) (SlX.slH H a (G.cls c) dx ws') := by
  have hk : ∀ b, b ∉ [a, dx] → SlX.slH H a (G.cls c) dx ws' b = H b := fun b hb => by
    simp at hb
    exact SlX.slH_ne hb.1 hb.2
  have x : Ext A H A (SlX.slH H a (G.cls c) dx ws') := Ext.box h hk
  refine ⟨x, s.setBox h hk (fun b hb => ?_) ⟨a, dx, ws', rfl, SlX.slH_slt ne, r.kp x.kp⟩⟩
  simp at hb
  unfold SlX.slH
  rcases hb with rfl | rfl
  · exact ⟨_, upd_same⟩
  · rw [upd_ne ne, upd_same]
    exact ⟨_, rfl⟩
end
end Sm
/-! Sm2: results, readings by mirrors, expressions, tests, arguments. -/
namespace Sm
open PySem PySem.Spec PyProof.Rows L2

inductive Rz (α : Type) where
  | ok (a : α) (S : Sto) | er (c : Nat) (t : Dt) (S : Sto) | bad
def Rz.bind {α β : Type} (r : Rz α) (f : α → Sto → Rz β) : Rz β := match r with
  | .ok a S => f a S
  | .er c t S => .er c t S
  | .bad => .bad
abbrev M (α : Type) := Env → Sto → Rz α
@[simp] theorem bind_ok {α β : Type} {a : α} {S : Sto} {f : α → Sto → Rz β} : (Rz.ok a S).bind f = f a S := rfl
@[simp] theorem bind_bad {α β : Type} {f : α → Sto → Rz β} : (Rz.bad : Rz α).bind f = .bad := rfl
@[simp] theorem bind_er {α β : Type} {c : Nat} {t : Dt} {S : Sto} {f : α → Sto → Rz β} : (Rz.er c t S : Rz α).bind f = .er c t S := rfl

/-- an exception as it lies: its class, its own dict -/
def ExR (G : Gs) (A : Al) (H : Hp) (c : Nat) (t : Dt) (cls : Value) (d : Option Addr) : Prop :=
  cls = G.exc c ∧ ((G.fld c = none ∧ t = .non ∧ d = none) ∨ ∃ a f v, G.fld c = some f ∧ d = some a ∧ a ∉ A.all ∧ H a = some (.xd [(f, v)]) ∧ RV G A H t v)
def Po {α : Type} (G : Gs) (E : XK) (A : Al) (H : Hp) (r : Rz α) (k : Al → Hp → α → Prop) : Prop := match r with
  | .ok a S' => ∀ A' H', Ext A H A' H' → StR G A' S' H' → k A' H' a
  | .er c t S' => ∀ A' H' cls d, Ext A H A' H' → StR G A' S' H' → ExR G A' H' c t cls d → E cls d H'
  | .bad => False
section
variable {G : Gs} {E : XK} {A A' A1 : Al} {H H' H1 : Hp} {S S' S1 : Sto}
theorem Po.mono {α : Type} {r : Rz α} {k : Al → Hp → α → Prop} (x : Ext A H A1 H1) (h : Po G E A H r k) : Po G E A1 H1 r k := by
  cases r with
  | ok a S => exact fun A' H' y s => h A' H' (x.trans y) s
  | er c t S => exact fun A' H' cls d y s e => h A' H' cls d (x.trans y) s e
  | bad => exact h
theorem Po.imp {α : Type} {r : Rz α} {k k' : Al → Hp → α → Prop} (h : Po G E A H r k) (f : ∀ a S' A' H', r = .ok a S' → Ext A H A' H' → StR G A' S' H' → k A' H' a → k' A' H' a) : Po G E A H r k' := by
  cases r with
  | ok a S => exact fun A' H' y s => f a S A' H' rfl y s (h A' H' y s)
  | er c t S => exact h
  | bad => exact h
/-- one step, then the rest -/
theorem Po.step {α β : Type} {r : Rz α} {f : α → Sto → Rz β} {k : Al → Hp → β → Prop} {k' : Al → Hp → α → Prop} (h : Po G E A H (r.bind f) k)
    (q : ∀ a S1 A1 H1, Ext A H A1 H1 → StR G A1 S1 H1 → Po G E A1 H1 (f a S1) k → k' A1 H1 a) : Po G E A H r k' := by
  cases r with
  | ok a S => exact fun A' H' y s => q a S A' H' y s (Po.mono y h)
  | er c t S => exact h
  | bad => exact h
theorem Po.now {α : Type} {a : α} {k : Al → Hp → α → Prop} (h : Po G E A H (.ok a S) k) (s : StR G A S H) : k A H a := h A H .refl s
theorem Po.at {α : Type} {a : α} {k : Al → Hp → α → Prop} (h : Po G E A H (.ok a S1) k) (x : Ext A H A1 H1) (s : StR G A1 S1 H1) : k A1 H1 a := h A1 H1 x s
end

/-! ### readings by mirrors -/
abbrev kD (G : Gs) (Q : VK) : Al → Hp → Dv → Prop := fun A' H' d => ∀ v, RD G A' H' d v → Q v H'
/-- the wish at these slots -/
abbrev Wa (W : WX) (σ : L2.St) : XK := fun c d H => W c d σ H
def tM (G : Gs) (W : WX) (m : M Dv) : TE := fun σ H Q => ∃ A ρ S, EnvR G A H ρ σ ∧ StR G A S H ∧ Po G (Wa W σ) A H (m ρ S) (kD G Q)
def tMT (G : Gs) (W : WX) (m : M Bool) : TT := fun σ H Q => ∃ A ρ S, EnvR G A H ρ σ ∧ StR G A S H ∧ Po G (Wa W σ) A H (m ρ S) fun _ H' b => Q b H'
def tMA (G : Gs) (W : WX) (m : M (List Dv)) : TA := fun σ H Q => ∃ A ρ S, EnvR G A H ρ σ ∧ StR G A S H ∧ Po G (Wa W σ) A H (m ρ S) fun A' H' ds => ∀ vs, RDs G A' H' ds vs → Q vs H'
/-- a step that raises nothing -/
abbrev Pz (α : Type) := Option (α × Sto)
def lift {α : Type} : Pz α → Rz α
  | some (a, S) => .ok a S
  | none => .bad
@[simp] theorem lift_some {α : Type} {a : α} {S : Sto} : lift (some (a, S)) = .ok a S := rfl
@[simp] theorem lift_none {α : Type} : lift (none : Pz α) = .bad := rfl
theorem Po.lift {α : Type} {G : Gs} {E E' : XK} {A : Al} {H : Hp} {o : Pz α} {k : Al → Hp → α → Prop} (h : Po G E A H (lift o) k) : Po G E' A H (Sm.lift o) k := by
  cases o with
  | none => exact h
  | some p => exact h
abbrev P1 := Dv → Sto → Pz Dv
abbrev P2 := Dv → Dv → Sto → Pz Dv
abbrev PN := List Dv → Sto → Pz Dv
abbrev PT1 := Dv → Sto → Option Bool
/-- no exception -/
abbrev Ez : XK := fun _ _ _ => False
def q1 (G : Gs) (p : P1) : V → Hp → VK → Prop := fun x H Q => ∃ A S d, RD G A H d x ∧ StR G A S H ∧ Po G Ez A H (lift (p d S)) (kD G Q)
def q2 (G : Gs) (p : P2) : R2 := fun x y H Q => ∃ A S d e, RD G A H d x ∧ RD G A H e y ∧ StR G A S H ∧ Po G Ez A H (lift (p d e S)) (kD G Q)
def qN (G : Gs) (p : PN) : List V → Hp → VK → Prop := fun xs H Q => ∃ A S ds, RDs G A H ds xs ∧ StR G A S H ∧ Po G Ez A H (lift (p ds S)) (kD G Q)
def li {α : Type} (o : Option α) (S : Sto) : Rz α := match o with
  | some a => .ok a S
  | none => .bad
@[simp] theorem li_some {α : Type} {a : α} {S : Sto} : li (some a) S = .ok a S := rfl
@[simp] theorem li_none {α : Type} {S : Sto} : li (none : Option α) S = .bad := rfl

/-! ### the mirrors' combinators -/
def mV (i : Nat) : M Dv := fun ρ S => match ρ[i]? with
  | some (some d) => .ok d S
  | _ => .bad
def mC (t : Dt) : M Dv := fun _ S => .ok (.d t) S
def m1 (p : P1) (a : M Dv) : M Dv := fun ρ S => (a ρ S).bind fun x S1 => lift (p x S1)
def m2 (p : P2) (a b : M Dv) : M Dv := fun ρ S => (a ρ S).bind fun x S1 => (b ρ S1).bind fun y S2 => lift (p x y S2)
def mN (p : PN) (a : M (List Dv)) : M Dv := fun ρ S => (a ρ S).bind fun xs S1 => lift (p xs S1)
def aNil : M (List Dv) := fun _ S => .ok [] S
def aCons (a : M Dv) (r : M (List Dv)) : M (List Dv) := fun ρ S => (a ρ S).bind fun x S1 => (r ρ S1).bind fun xs S2 => .ok (x :: xs) S2
def toB (d : Dv) : Option Bool := match d with
  | .d (.bl b) => some b
  | _ => none
def mTst (a : M Dv) : M Bool := fun ρ S => (a ρ S).bind fun d S1 => li (toB d) S1
def mTru (p : PT1) (a : M Dv) : M Bool := fun ρ S => (a ρ S).bind fun d S1 => li (p d S1) S1
def cAnd (a b : M Bool) : M Bool := fun ρ S => (a ρ S).bind fun c S1 => if c = true then b ρ S1 else .ok false S1
def cOr (a b : M Bool) : M Bool := fun ρ S => (a ρ S).bind fun c S1 => if c = true then .ok true S1 else b ρ S1
def cNot (a : M Bool) : M Bool := fun ρ S => (a ρ S).bind fun c S1 => .ok (!c) S1
def mIf (c : M Bool) (a b : M Dv) : M Dv := fun ρ S => (c ρ S).bind fun k S1 => if k = true then a ρ S1 else b ρ S1
def mAnd (a b : M Dv) : M Dv := fun ρ S => (a ρ S).bind fun x S1 => (li (toB x) S1).bind fun c S2 => if c = true then b ρ S2 else .ok (.d (.bl false)) S2
def mOr (a b : M Dv) : M Dv := fun ρ S => (a ρ S).bind fun x S1 => (li (toB x) S1).bind fun c S2 => if c = true then .ok (.d (.bl true)) S2 else b ρ S2
def mNot (a : M Dv) : M Dv := fun ρ S => (a ρ S).bind fun x S1 => (li (toB x) S1).bind fun c S2 => .ok (.d (.bl (!c))) S2
def mOrT (p : PT1) (a b : M Dv) : M Dv := fun ρ S => (a ρ S).bind fun x S1 => (li (p x S1) S1).bind fun c S2 => if c = true then .ok x S2 else b ρ S2
def mNotT (p : PT1) (a : M Dv) : M Dv := fun ρ S => (a ρ S).bind fun x S1 => (li (p x S1) S1).bind fun c S2 => .ok (.d (.bl (!c))) S2

theorem _root_.L2.PE.sm {X : Cx} {e : Expr} {t t' : TE} (h : PE X e t) (f : ∀ σ H Q, t' σ H Q → t σ H Q) : PE X e t' := ⟨fun pins s σ H Q I q => h.run pins s σ H Q I (f σ H Q q)⟩
theorem _root_.L2.PT.sm {X : Cx} {e : Expr} {t t' : TT} (h : PT X e t) (f : ∀ σ H Q, t' σ H Q → t σ H Q) : PT X e t' := ⟨fun pins s σ H Q I q => h.run pins s σ H Q I (f σ H Q q)⟩
theorem _root_.L2.PW.sm {X : Cx} {e : Expr} {t t' : TT} (h : PW X e t) (f : ∀ σ H Q, t' σ H Q → t σ H Q) : PW X e t' := ⟨fun wh pins s σ H Q I q => h.run wh pins s σ H Q I (f σ H Q q)⟩
theorem _root_.L2.PA.sm {X : Cx} {e : List Expr} {t t' : TA} (h : PA X e t) (f : ∀ σ H Q, t' σ H Q → t σ H Q) : PA X e t' := ⟨fun pos pins s σ H Q I q => h.run pos pins s σ H Q I (f σ H Q q)⟩
theorem _root_.L2.OpR.sm {X : Cx} {f : Value → Value → Sem Value} {r r' : R2} (h : OpR X f r) (k : ∀ x y H Q, r' x y H Q → r x y H Q) : OpR X f r' :=
  fun pins s σ H x y v u Q I rx ry q => h pins s σ H x y v u Q I rx ry (k x y H Q q)
theorem _root_.L2.UnR.sm {X : Cx} {f : Value → Sem Value} {r r' : V → Hp → VK → Prop} (h : UnR X f r) (k : ∀ x H Q, r' x H Q → r x H Q) : UnR X f r' :=
  fun pins s σ H x v Q I rx q => h pins s σ H x v Q I rx (k x H Q q)
theorem _root_.L2.CallR.sm {X : Cx} {f : Value} {r r' : List V → Hp → VK → Prop} (h : CallR X f r) (k : ∀ x H Q, r' x H Q → r x H Q) : CallR X f r' :=
  fun pins s σ H x v Q I rx q => h pins s σ H x v Q I rx (k x H Q q)
theorem _root_.L2.IxR.sm {X : Cx} {r r' : R2} (h : IxR X r) (k : ∀ x y H Q, r' x y H Q → r x y H Q) : IxR X r' :=
  fun a b pins s σ H x y v u Q I rx ry q => h a b pins s σ H x y v u Q I rx ry (k x y H Q q)
theorem _root_.L2.MtR.sm {X : Cx} {id : String} {r r' : V → List V → Hp → VK → Prop} (h : MtR X id r) (k : ∀ x xs H Q, r' x xs H Q → r x xs H Q) : MtR X id r' :=
  fun pins s σ H x xs v us Q I rx rxs q => h pins s σ H x xs v us Q I rx rxs (k x xs H Q q)
section
variable {X : Cx} {G : Gs} {E : XK} {W : WX} {a b c e : Expr} {es : List Expr} {pos : Pos} {ma mb : M Dv} {ca cb : M Bool}
theorem e_var {i : Nat} {x : Str} (hN : X.N[i]? = some x) (hv : Vis X.env.scope x) (hd : (x == ("__debug__" : Str)) = false) (hcd : (x == ("__classdict__" : Str)) = false) : PE X (.Name x pos) (tM G W (mV i)) := by
  refine (pe_var hN hv hd hcd).sm fun σ H Q h => ?_
  obtain ⟨A, ρ, S, he, hs, p⟩ := h
  unfold mV at p
  cases e1 : ρ[i]? with
  | none =>
    rw [e1] at p
    exact p.elim
  | some o =>
    cases o with
    | none =>
      rw [e1] at p
      exact p.elim
    | some d =>
      rw [e1] at p
      obtain ⟨v, e2, r⟩ := he.at_ i d e1
      exact ⟨v, e2, Po.now p hs v r⟩
/-- a value that leans on nothing -/
theorem e_of {t : Dt} {v : V} (h : PE X e (tC v)) (r : ∀ A H, RV G A H t v) : PE X e (tM G W (mC t)) := by
  refine h.sm fun σ H Q h => ?_
  obtain ⟨A, ρ, S, he, hs, p⟩ := h
  exact Po.now p hs v (r A H)
theorem e_int {i : Int} {j : Nat} : PE X (.Constant (.int i) j pos) (tM G W (mC (.int i))) := e_of pe_int fun _ _ => rfl
theorem e_bl {b : Bool} {j : Nat} : PE X (.Constant (.bool b) j pos) (tM G W (mC (.bl b))) := e_of pe_bl fun _ _ => rfl
theorem e_non {j : Nat} : PE X (.Constant .none j pos) (tM G W (mC .non)) := e_of pe_non fun _ _ => rfl
theorem e_str {x : Str} {j : Nat} : PE X (.Constant (.str x) j pos) (tM G W (mC (.str x))) := e_of pe_str fun _ _ => rfl
theorem then2 {σ : L2.St} {H : Hp} {ta tb : TE} {p : P2} {Q : VK} {r : R2} (ha : ta = tM G W ma) (hb : tb = tM G W mb) (h : tM G W (m2 p ma mb) σ H Q) (hr : ∀ x y H, q2 G p x y H Q → r x y H Q) :
    ta σ H fun x H1 => tb σ H1 fun y H2 => r x y H2 Q := by
  subst ha hb
  obtain ⟨A, ρ, S, he, hs, p0⟩ := h
  refine ⟨A, ρ, S, he, hs, Po.step p0 fun d S1 A1 H1 x1 s1 p1 v rv => ?_⟩
  refine ⟨A1, ρ, S1, he.kp x1.kp, s1, Po.step p1 fun d2 S2 A2 H2 x2 s2 p2 v2 rv2 => ?_⟩
  exact hr v v2 H2 ⟨A2, S2, d, d2, rv.kp x2.kp, rv2, s2, Po.lift p2⟩
theorem e_op {op : Operator} {p : P2} (ho : OpR X (binaryOp op) (q2 G p)) (ha : PE X a (tM G W ma)) (hb : PE X b (tM G W mb)) : PE X (.BinOp a op b pos) (tM G W (m2 p ma mb)) :=
  (pe_op ho ha hb).sm fun _ _ _ h => then2 rfl rfl h fun _ _ _ q => q
theorem e_cmp {op : CmpOp} {p : P2} (ho : OpR X (compareOp op) (q2 G p)) (ha : PE X a (tM G W ma)) (hb : PE X b (tM G W mb)) (hm : behindInMarks op b = false) : PE X (.Compare a [op] [b] pos) (tM G W (m2 p ma mb)) :=
  (pe_cmpR ho ha hb hm).sm fun _ _ _ h => then2 rfl rfl h fun _ _ _ q => q
theorem toB_po {d : Dv} {S : Sto} {A : Al} {H : Hp} {v : V} {k : Al → Hp → Bool → Prop} (h : Po G E A H (li (toB d) S) k) (s : StR G A S H) (r : RD G A H d v) : ∃ b, v = .bl b ∧ k A H b := by
  cases d with
  | loc n => exact h.elim
  | d t =>
    cases t with
    | bl b => exact ⟨b, r, Po.now h s⟩
    | _ => exact h.elim
theorem c_cmp {op : CmpOp} {p : P2} (ho : OpR X (compareOp op) (q2 G p)) (ha : PE X a (tM G W ma)) (hb : PE X b (tM G W mb)) (hm : behindInMarks op b = false) : PT X (.Compare a [op] [b] pos) (tMT G W (mTst (m2 p ma mb))) := by
  refine (pt_cmpR ho ha hb hm).sm fun σ H Q h => ?_
  obtain ⟨A, ρ, S, he, hs, p0⟩ := h
  refine then2 (Q := fun x H' => ∃ k, x = .bl k ∧ Q k H') rfl rfl ⟨A, ρ, S, he, hs, Po.step p0 fun d S1 A1 H1 x1 s1 p1 v rv => ?_⟩ fun _ _ _ q => q
  exact toB_po p1 s1 rv
/-- a value's truth -/
def TruS (G : Gs) (p : PT1) : Prop := ∀ (A : Al) (S : Sto) (H : Hp) (d : Dv) (v : V) (b : Bool), RD G A H d v → StR G A S H → p d S = some b → TruV G.K v H b
theorem c_tru {p : PT1} (hp : TruS G p) (hK : G.K = X.K) (ha : PE X a (tM G W ma)) (he : ∀ whole, isTrue a X.env whole = (do let v ← whole; standAt a.pos; holding [v] (truthy v))) : PT X a (tMT G W (mTru p ma)) := by
  refine (pt_truth ha he).sm fun σ H Q h => ?_
  obtain ⟨A, ρ, S, he, hs, p0⟩ := h
  refine ⟨A, ρ, S, he, hs, Po.step p0 fun d S1 A1 H1 x1 s1 p1 v rv => ?_⟩
  rw [← hK]
  cases e1 : p d S1 with
  | none =>
    rw [e1] at p1
    exact p1.elim
  | some b =>
    rw [e1] at p1
    exact ⟨b, hp A1 S1 H1 d v b rv s1 e1, Po.now p1 s1⟩
theorem w_and1 (ha : PT X a (tMT G W ca)) : PW X (.BoolOp .And [a] pos) (tMT G W ca) := pw_and1 ha
theorem w_or1 (ha : PT X a (tMT G W ca)) : PW X (.BoolOp .Or [a] pos) (tMT G W ca) := pw_or1 ha
theorem w_and (ha : PT X a (tMT G W ca)) (hb : PW X (.BoolOp .And (b :: es) pos) (tMT G W cb)) : PW X (.BoolOp .And (a :: b :: es) pos) (tMT G W (cAnd ca cb)) := by
  refine (pw_and ha hb).sm fun σ H Q h => ?_
  obtain ⟨A, ρ, S, he, hs, p0⟩ := h
  refine ⟨A, ρ, S, he, hs, Po.step p0 fun c S1 A1 H1 x1 s1 p1 => ?_⟩
  cases c with
  | true => exact ⟨A1, ρ, S1, he.kp x1.kp, s1, p1⟩
  | false => exact Po.now p1 s1
theorem w_or (ha : PT X a (tMT G W ca)) (hb : PW X (.BoolOp .Or (b :: es) pos) (tMT G W cb)) : PW X (.BoolOp .Or (a :: b :: es) pos) (tMT G W (cOr ca cb)) := by
  refine (pw_or ha hb).sm fun σ H Q h => ?_
  obtain ⟨A, ρ, S, he, hs, p0⟩ := h
  refine ⟨A, ρ, S, he, hs, Po.step p0 fun c S1 A1 H1 x1 s1 p1 => ?_⟩
  cases c with
  | true => exact Po.now p1 s1
  | false => exact ⟨A1, ρ, S1, he.kp x1.kp, s1, p1⟩
theorem c_not (ha : PT X a (tMT G W ca)) : PT X (.UnaryOp .Not a pos) (tMT G W (cNot ca)) := by
  refine (pt_not ha).sm fun σ H Q h => ?_
  obtain ⟨A, ρ, S, he, hs, p0⟩ := h
  exact ⟨A, ρ, S, he, hs, Po.step p0 fun c S1 A1 H1 x1 s1 p1 => Po.now p1 s1⟩
theorem e_if (hc : PT X c (tMT G W ca)) (ha : PE X a (tM G W ma)) (hb : PE X b (tM G W mb)) : PE X (.IfExp c a b pos) (tM G W (mIf ca ma mb)) := by
  refine (pe_ifExp hc ha hb).sm fun σ H Q h => ?_
  obtain ⟨A, ρ, S, he, hs, p0⟩ := h
  refine ⟨A, ρ, S, he, hs, Po.step p0 fun c S1 A1 H1 x1 s1 p1 => ?_⟩
  cases c with
  | true => exact ⟨A1, ρ, S1, he.kp x1.kp, s1, p1⟩
  | false => exact ⟨A1, ρ, S1, he.kp x1.kp, s1, p1⟩
theorem e_one {op : BoolOp} {t : TE} (h : PE X a t) : PE X (.BoolOp op [a] pos) t := pe_one h
theorem e_and (ha : PE X a (tM G W ma)) (hb : PE X (.BoolOp .And (b :: es) pos) (tM G W mb)) : PE X (.BoolOp .And (a :: b :: es) pos) (tM G W (mAnd ma mb)) := by
  refine (pe_and ha hb).sm fun σ H Q h => ?_
  obtain ⟨A, ρ, S, he, hs, p0⟩ := h
  refine ⟨A, ρ, S, he, hs, Po.step p0 fun d S1 A1 H1 x1 s1 p1 v rv => ?_⟩
  cases d with
  | loc n => exact p1.elim
  | d t =>
    cases t with
    | bl b =>
      refine ⟨b, rv, ?_⟩
      cases b with
      | true => exact ⟨A1, ρ, S1, he.kp x1.kp, s1, p1⟩
      | false => exact Po.now p1 s1 _ rfl
    | _ => exact p1.elim
theorem e_not (ha : PE X a (tM G W ma)) : PE X (.UnaryOp .Not a pos) (tM G W (mNot ma)) := by
  refine (pe_not ha).sm fun σ H Q h => ?_
  obtain ⟨A, ρ, S, he, hs, p0⟩ := h
  refine ⟨A, ρ, S, he, hs, Po.step p0 fun d S1 A1 H1 x1 s1 p1 v rv => ?_⟩
  cases d with
  | loc n => exact p1.elim
  | d t =>
    cases t with
    | bl b => exact ⟨b, rv, Po.now p1 s1 _ rfl⟩
    | _ => exact p1.elim
theorem e_orT {p : PT1} (hp : TruS G p) (hK : G.K = X.K) (ha : PE X a (tM G W ma)) (hb : PE X (.BoolOp .Or (b :: es) pos) (tM G W mb)) : PE X (.BoolOp .Or (a :: b :: es) pos) (tM G W (mOrT p ma mb)) := by
  refine (pe_orT ha hb).sm fun σ H Q h => ?_
  obtain ⟨A, ρ, S, he, hs, p0⟩ := h
  refine ⟨A, ρ, S, he, hs, Po.step p0 fun d S1 A1 H1 x1 s1 p1 v rv => ?_⟩
  rw [← hK]
  cases e1 : p d S1 with
  | none =>
    rw [e1] at p1
    exact p1.elim
  | some k =>
    rw [e1] at p1
    refine ⟨k, hp A1 S1 H1 d v k rv s1 e1, ?_⟩
    cases k with
    | true => exact Po.now p1 s1 v rv
    | false => exact ⟨A1, ρ, S1, he.kp x1.kp, s1, p1⟩
theorem a_nil : PA X [] (tMA G W aNil) := by
  refine pa_nil.sm fun σ H Q h => ?_
  obtain ⟨A, ρ, S, he, hs, p0⟩ := h
  exact Po.now p0 hs [] .nil
theorem a_cons {mr : M (List Dv)} (ha : PE X e (tM G W ma)) (hr : PA X es (tMA G W mr)) (hs : starEach (e :: es) X.env = (false, eval e X.env) :: starEach es X.env) : PA X (e :: es) (tMA G W (aCons ma mr)) := by
  refine (pa_cons ha hr hs).sm fun σ H Q h => ?_
  obtain ⟨A, ρ, S, he, hs, p0⟩ := h
  refine ⟨A, ρ, S, he, hs, Po.step p0 fun d S1 A1 H1 x1 s1 p1 v rv => ?_⟩
  refine ⟨A1, ρ, S1, he.kp x1.kp, s1, Po.step p1 fun ds S2 A2 H2 x2 s2 p2 vs rvs => ?_⟩
  exact Po.now p2 s2 _ (.cons (rv.kp x2.kp) rvs)
theorem e_callB {x : Str} {p' : Pos} {p : PN} {id : String} {ma : M (List Dv)} (hc : CallR X (.builtin id) (qN G p)) (hg : Gl X x) (hm : X.mg x = none) (hv : bootBuiltins x = some (.builtin id)) (ha : PA X (e :: es) (tMA G W ma)) (hn : x ≠ "__name__") (hdb : (x == ("__debug__" : Str)) = false)
    (he : starEach (e :: es) X.env = (false, eval e X.env) :: starEach es X.env) (hpl : (backTo pos (starEach es X.env)).any (·.1) = false) : PE X (.Call (.Name x p') (e :: es) [] pos) (tM G W (mN p ma)) := by
  refine (pe_callB hc hg hm hv ha hn hdb he hpl).sm fun σ H Q h => ?_
  obtain ⟨A, ρ, S, he, hs, p0⟩ := h
  exact ⟨A, ρ, S, he, hs, Po.step p0 fun ds S1 A1 H1 x1 s1 p1 vs rvs => ⟨A1, S1, ds, rvs, s1, Po.lift p1⟩⟩
theorem e_callT {x : Str} {p' : Pos} {p : PN} {T : String} {ma : M (List Dv)} (hc : CallR X (.type T) (qN G p)) (hg : Gl X x) (hm : X.mg x = none) (hv : bootBuiltins x = some (.type T)) (ha : PA X (e :: es) (tMA G W ma)) (hn : x ≠ "__name__") (hdb : (x == ("__debug__" : Str)) = false)
    (he : starEach (e :: es) X.env = (false, eval e X.env) :: starEach es X.env) (hpl : (backTo pos (starEach es X.env)).any (·.1) = false) : PE X (.Call (.Name x p') (e :: es) [] pos) (tM G W (mN p ma)) := by
  refine (pe_callTy hc hg hm hv ha hn hdb he hpl).sm fun σ H Q h => ?_
  obtain ⟨A, ρ, S, he, hs, p0⟩ := h
  exact ⟨A, ρ, S, he, hs, Po.step p0 fun ds S1 A1 H1 x1 s1 p1 vs rvs => ⟨A1, S1, ds, rvs, s1, Po.lift p1⟩⟩
theorem e_ix {p : P2} (hr : IxR X (q2 G p)) (ha : PE X a (tM G W ma)) (hb : PE X b (tM G W mb)) (hs : PlainIx b) : PE X (.Subscript a b pos) (tM G W (m2 p ma mb)) :=
  (pe_ix hr ha hb hs).sm fun _ _ _ h => then2 rfl rfl h fun _ _ _ q => q
/-- displays -/
def pures : List Dv → Option (List Dt)
  | [] => some []
  | .d t :: r => (pures r).map (t :: ·)
  | .loc _ :: _ => none
theorem line_of {n : Nat} (h : n ≤ 16777216) : n ≤ sizeLine := by rw [sizeLine_eq]; exact h
def pTup : PN := fun ds S => match pures ds with
  | some ts => if ts.length ≤ 16777216 then some (.d (.tup ts), S) else none
  | none => none
def pLst : PN := fun ds S => match pures ds with
  | some ts => if ts.length ≤ 16777216 then some (.d (.lst ts), S) else none
  | none => none
def pLstB : PN := fun ds S => if ds.length ≤ 16777216 then some (.loc S.length, S ++ [.lst ds]) else none
theorem pures_rvs {A : Al} {H : Hp} : ∀ {ds : List Dv} {ts : List Dt} {vs : List V}, pures ds = some ts → RDs G A H ds vs → RVs G A H ts vs
  | [], ts, vs, e, r => by
    cases e
    cases r
    exact (rfl : ([] : List V) = [])
  | .d t :: ds, ts, vs, e, r => by
    unfold pures at e
    cases e1 : pures ds with
    | none =>
      rw [e1] at e
      cases e
    | some us =>
      rw [e1] at e
      cases e
      cases r with
      | cons r1 r2 => exact ⟨_, _, rfl, r1, pures_rvs e1 r2⟩
  | .loc n :: ds, ts, vs, e, r => by
    cases e
theorem tup_po {A : Al} {S : Sto} {H : Hp} {ds : List Dv} {vs : List V} {Q : VK} (s : StR G A S H) (r : RDs G A H ds vs) (p : Po G E A H (lift (pTup ds S)) (kD G Q)) : vs.length ≤ sizeLine ∧ ∀ q, H q = none → Q (.ref q) (upd H q (.tup vs)) := by
  unfold pTup at p
  cases e1 : pures ds with
  | none =>
    rw [e1] at p
    exact p.elim
  | some ts =>
    rw [e1] at p
    have r1 := pures_rvs e1 r
    by_cases hl : ts.length ≤ 16777216
    · simp only [hl, if_true] at p
      refine ⟨by rw [← r1.length]; exact line_of hl, fun q hq => Po.at p (Ext.new hq) (s.new hq) _ (RV.tup_new s hq r1)⟩
    · simp only [hl, if_false] at p
      exact p.elim
theorem lst_po {A : Al} {S : Sto} {H : Hp} {ds : List Dv} {vs : List V} {Q : VK} (s : StR G A S H) (r : RDs G A H ds vs) (p : Po G E A H (lift (pLst ds S)) (kD G Q)) : vs.length ≤ sizeLine ∧ ∀ q, H q = none → Q (.ref q) (upd H q (.lst vs)) := by
  unfold pLst at p
  cases e1 : pures ds with
  | none =>
    rw [e1] at p
    exact p.elim
  | some ts =>
    rw [e1] at p
    have r1 := pures_rvs e1 r
    by_cases hl : ts.length ≤ 16777216
    · simp only [hl, if_true] at p
      refine ⟨by rw [← r1.length]; exact line_of hl, fun q hq => Po.at p (Ext.new hq) (s.new hq) _ (RV.lst_new s hq r1)⟩
    · simp only [hl, if_false] at p
      exact p.elim
theorem lstB_po {A : Al} {S : Sto} {H : Hp} {ds : List Dv} {vs : List V} {Q : VK} (s : StR G A S H) (r : RDs G A H ds vs) (p : Po G E A H (lift (pLstB ds S)) (kD G Q)) : vs.length ≤ sizeLine ∧ ∀ q, H q = none → Q (.ref q) (upd H q (.lst vs)) := by
  unfold pLstB at p
  by_cases hl : ds.length ≤ 16777216
  · simp only [hl, if_true] at p
    refine ⟨by rw [← Paired.length r]; exact line_of hl, fun q hq => ?_⟩
    obtain ⟨x1, s1, r1⟩ := box_lst s hq r
    exact Po.at p x1 s1 _ r1
  · simp only [hl, if_false] at p
    exact p.elim
theorem e_tup {k : Nat} {ma : M (List Dv)} (h : PA X es (tMA G W ma)) : PE X (.Tuple es k pos) (tM G W (mN pTup ma)) := by
  refine (pe_tup h).sm fun σ H Q h => ?_
  obtain ⟨A, ρ, S, he, hs, p0⟩ := h
  exact ⟨A, ρ, S, he, hs, Po.step p0 fun ds S1 A1 H1 x1 s1 p1 vs rvs => tup_po s1 rvs p1⟩
theorem e_lst {ma : M (List Dv)} (h : PA X es (tMA G W ma)) : PE X (.List es pos) (tM G W (mN pLst ma)) := by
  refine (pe_lst h).sm fun σ H Q h => ?_
  obtain ⟨A, ρ, S, he, hs, p0⟩ := h
  exact ⟨A, ρ, S, he, hs, Po.step p0 fun ds S1 A1 H1 x1 s1 p1 vs rvs => lst_po s1 rvs p1⟩
theorem e_lstB {ma : M (List Dv)} (h : PA X es (tMA G W ma)) : PE X (.List es pos) (tM G W (mN pLstB ma)) := by
  refine (pe_lst h).sm fun σ H Q h => ?_
  obtain ⟨A, ρ, S, he, hs, p0⟩ := h
  exact ⟨A, ρ, S, he, hs, Po.step p0 fun ds S1 A1 H1 x1 s1 p1 vs rvs => lstB_po s1 rvs p1⟩
end
end Sm
/-! Sm3: statements, targets, loops. -/
namespace Sm
open PySem PySem.Spec PyProof.Rows L2

inductive Sz where
  | nx (ρ : Env) (S : Sto) | rt (d : Dv) (S : Sto) | bk (ρ : Env) (S : Sto) | ct (ρ : Env) (S : Sto) | er (c : Nat) (t : Dt) (ρ : Env) (S : Sto) | bad
abbrev SM := Env → Sto → Sz
/-- an expression's result, then a statement's -/
def Rz.to {α : Type} (r : Rz α) (ρ : Env) (f : α → Sto → Sz) : Sz := match r with
  | .ok a S => f a S
  | .er c t S => .er c t ρ S
  | .bad => .bad
@[simp] theorem to_ok {α : Type} {a : α} {S : Sto} {ρ : Env} {f : α → Sto → Sz} : (Rz.ok a S).to ρ f = f a S := rfl
@[simp] theorem to_bad {α : Type} {ρ : Env} {f : α → Sto → Sz} : (Rz.bad : Rz α).to ρ f = .bad := rfl
@[simp] theorem to_er {α : Type} {c : Nat} {t : Dt} {S : Sto} {ρ : Env} {f : α → Sto → Sz} : (Rz.er c t S : Rz α).to ρ f = .er c t ρ S := rfl

def PoS (G : Gs) (W : WX) (A : Al) (H : Hp) (r : Sz) (D : Ends) : Prop := match r with
  | .nx ρ S => ∀ A' H' σ', Ext A H A' H' → StR G A' S H' → EnvR G A' H' ρ σ' → D.nx σ' H'
  | .rt d S => ∀ A' H' v, Ext A H A' H' → StR G A' S H' → RD G A' H' d v → D.rt v H'
  | .bk ρ S => ∀ A' H' σ', Ext A H A' H' → StR G A' S H' → EnvR G A' H' ρ σ' → D.bk σ' H'
  | .ct ρ S => ∀ A' H' σ', Ext A H A' H' → StR G A' S H' → EnvR G A' H' ρ σ' → D.ct σ' H'
  | .er c t ρ S => ∀ A' H' σ' cls d, Ext A H A' H' → StR G A' S H' → EnvR G A' H' ρ σ' → ExR G A' H' c t cls d → W cls d σ' H'
  | .bad => False
section
variable {G : Gs} {W : WX} {A A' A1 : Al} {H H' H1 : Hp} {S S' S1 : Sto}
theorem PoS.mono {r : Sz} {D : Ends} (x : Ext A H A1 H1) (h : PoS G W A H r D) : PoS G W A1 H1 r D := by
  cases r with
  | nx ρ S => exact fun A' H' σ' y s e => h A' H' σ' (x.trans y) s e
  | rt d S => exact fun A' H' σ' y s e => h A' H' σ' (x.trans y) s e
  | bk ρ S => exact fun A' H' σ' y s e => h A' H' σ' (x.trans y) s e
  | ct ρ S => exact fun A' H' σ' y s e => h A' H' σ' (x.trans y) s e
  | er c t ρ S => exact fun A' H' σ' cls d y s e r => h A' H' σ' cls d (x.trans y) s e r
  | bad => exact h
/-- an expression, then the rest of a statement -/
theorem PoS.step {α : Type} {r : Rz α} {ρ : Env} {σ : L2.St} {f : α → Sto → Sz} {D : Ends} {k' : Al → Hp → α → Prop} (he : EnvR G A H ρ σ) (h : PoS G W A H (r.to ρ f) D)
    (q : ∀ a S1 A1 H1, Ext A H A1 H1 → StR G A1 S1 H1 → EnvR G A1 H1 ρ σ → PoS G W A1 H1 (f a S1) D → k' A1 H1 a) : Po G (Wa W σ) A H r k' := by
  cases r with
  | ok a S => exact fun A' H' y s => q a S A' H' y s (he.kp y.kp) (PoS.mono y h)
  | er c t S => exact fun A' H' cls d y s e => h A' H' σ cls d y s (he.kp y.kp) e
  | bad => exact h
theorem PoS.nx_now {ρ : Env} {σ : L2.St} {D : Ends} (h : PoS G W A H (.nx ρ S) D) (s : StR G A S H) (e : EnvR G A H ρ σ) : D.nx σ H := h A H σ .refl s e
/-- two statements -/
def sqz (r : Sz) (f : Env → Sto → Sz) : Sz := match r with
  | .nx ρ S => f ρ S
  | r => r
theorem PoS.sq {r : Sz} {f : Env → Sto → Sz} {D D' : Ends} (h : PoS G W A H (sqz r f) D) (hr : D'.rt = D.rt) (hb : D'.bk = D.bk) (hc : D'.ct = D.ct)
    (q : ∀ ρ S1 A1 H1 σ1, Ext A H A1 H1 → StR G A1 S1 H1 → EnvR G A1 H1 ρ σ1 → PoS G W A1 H1 (f ρ S1) D → D'.nx σ1 H1) : PoS G W A H r D' := by
  cases r with
  | nx ρ S => exact fun A' H' σ' y s e => q ρ S A' H' σ' y s e (PoS.mono y h)
  | rt d S =>
    show ∀ A' H' v, Ext A H A' H' → StR G A' S H' → RD G A' H' d v → D'.rt v H'
    rw [hr]
    exact h
  | bk ρ S =>
    show ∀ A' H' σ', Ext A H A' H' → StR G A' S H' → EnvR G A' H' ρ σ' → D'.bk σ' H'
    rw [hb]
    exact h
  | ct ρ S =>
    show ∀ A' H' σ', Ext A H A' H' → StR G A' S H' → EnvR G A' H' ρ σ' → D'.ct σ' H'
    rw [hc]
    exact h
  | er c t ρ S => exact h
  | bad => exact h
end
def tMS (G : Gs) (W : WX) (m : SM) : TS := fun D σ H => ∃ A ρ S, EnvR G A H ρ σ ∧ StR G A S H ∧ PoS G W A H (m ρ S) D
theorem _root_.L2.PS.sm {X : Cx} {e : Stmt} {t t' : TS} (h : PS X e t) (f : ∀ D σ H, t' D σ H → t D σ H) : PS X e t' := ⟨fun pins s σ H D I q => h.run pins s σ H D I (f D σ H q)⟩
theorem _root_.L2.PSs.sm {X : Cx} {e : List Stmt} {t t' : TS} (h : PSs X e t) (f : ∀ D σ H, t' D σ H → t D σ H) : PSs X e t' := ⟨fun pins s σ H D I q => h.run pins s σ H D I (f D σ H q)⟩
/-! ### combinators -/
def sNil : SM := fun ρ S => .nx ρ S
def sSeq (a b : SM) : SM := fun ρ S => sqz (a ρ S) b
def sSet (i : Nat) (m : M Dv) : SM := fun ρ S => (m ρ S).to ρ fun d S1 => .nx (ρ.set i (some d)) S1
def sIf (c : M Bool) (a b : SM) : SM := fun ρ S => (c ρ S).to ρ fun k S1 => if k = true then a ρ S1 else b ρ S1
def sRet (m : M Dv) : SM := fun ρ S => (m ρ S).to ρ fun d S1 => .rt d S1
def sDrop (m : M Dv) : SM := fun ρ S => (m ρ S).to ρ fun _ S1 => .nx ρ S1
/-- targets: what a piece of data is stored into -/
abbrev GM := Dv → Env → Option Env
def gN (i : Nat) : GM := fun d ρ => some (ρ.set i (some d))
abbrev GMs := List Dt → Env → Option Env
def gsNil : GMs := fun ts ρ => match ts with
  | [] => some ρ
  | _ => none
def gsCons (g : GM) (r : GMs) : GMs := fun ts ρ => match ts with
  | [] => none
  | t :: ts => match g (.d t) ρ with
    | some ρ1 => r ts ρ1
    | none => none
def gT (gs : GMs) : GM := fun d ρ => match d with
  | .d (.tup ts) => gs ts ρ
  | _ => none
def oz {α : Type} (o : Option α) (f : α → Sz) : Sz := match o with
  | some a => f a
  | none => .bad
def sAsg (g : GM) (m : M Dv) : SM := fun ρ S => (m ρ S).to ρ fun d S1 => oz (g d ρ) fun ρ1 => .nx ρ1 S1
def forL (g : GM) (b : SM) : List Dt → SM
  | [], ρ, S => .nx ρ S
  | t :: ts, ρ, S => oz (g (.d t) ρ) fun ρ1 => match b ρ1 S with
    | .nx ρ2 S2 => forL g b ts ρ2 S2
    | .ct ρ2 S2 => forL g b ts ρ2 S2
    | .bk ρ2 S2 => .nx ρ2 S2
    | r => r
def sFor (it : M (List Dt)) (g : GM) (b : SM) : SM := fun ρ S => (it ρ S).to ρ fun ts S1 => forL g b ts ρ S1
section
variable {X : Cx} {G : Gs} {W : WX} {a b c e : Expr} {es : List Expr} {pos : Pos} {ma mb : M Dv} {ca cb : M Bool} {st : Stmt} {sts : List Stmt} {sa sb : SM}
theorem ss_nil : PSs X [] (tMS G W sNil) := by
  refine pss_nil.sm fun D σ H h => ?_
  obtain ⟨A, ρ, S, he, hs, p⟩ := h
  exact PoS.nx_now p hs he
theorem ss_cons (h1 : PS X st (tMS G W sa)) (h2 : PSs X sts (tMS G W sb)) : PSs X (st :: sts) (tMS G W (sSeq sa sb)) := by
  refine (pss_cons h1 h2).sm fun D σ H h => ?_
  obtain ⟨A, ρ, S, he, hs, p⟩ := h
  exact ⟨A, ρ, S, he, hs, PoS.sq p rfl rfl rfl fun ρ1 S1 A1 H1 σ1 x s e q => ⟨A1, ρ1, S1, e, s, q⟩⟩
theorem ss_one (h1 : PS X st (tMS G W sa)) : PSs X [st] (tMS G W sa) := pss_one h1
theorem s_expr (h : PE X e (tM G W ma)) (hs : swapsWith e none pos.line X.env = pure false) : PS X (.Expr e pos) (tMS G W (sDrop ma)) := by
  refine (ps_expr h hs).sm fun D σ H h => ?_
  obtain ⟨A, ρ, S, he, hs, p⟩ := h
  exact ⟨A, ρ, S, he, hs, PoS.step he p fun d S1 A1 H1 x s e q v rv => PoS.nx_now q s e⟩
theorem s_ret (h : PE X e (tM G W ma)) : PS X (.Return (some e) pos) (tMS G W (sRet ma)) := by
  refine (ps_ret h).sm fun D σ H h => ?_
  obtain ⟨A, ρ, S, he, hs, p⟩ := h
  exact ⟨A, ρ, S, he, hs, PoS.step he p fun d S1 A1 H1 x s e q v rv => q A1 H1 v .refl s rv⟩
theorem s_if (hc : PT X c (tMT G W ca)) (ha : PSs X sts (tMS G W sa)) {sts' : List Stmt} (hb : PSs X sts' (tMS G W sb)) : PS X (.If c sts sts' pos) (tMS G W (sIf ca sa sb)) := by
  refine (ps_if hc ha hb).sm fun D σ H h => ?_
  obtain ⟨A, ρ, S, he, hs, p⟩ := h
  refine ⟨A, ρ, S, he, hs, PoS.step he p fun k S1 A1 H1 x s e q => ?_⟩
  cases k with
  | true => exact ⟨A1, ρ, S1, e, s, q⟩
  | false => exact ⟨A1, ρ, S1, e, s, q⟩
theorem EnvR.set {A : Al} {H : Hp} {ρ : Env} {σ : L2.St} {i : Nat} {d : Dv} {v : V} (h : EnvR G A H ρ σ) (r : RD G A H d v) : EnvR G A H (ρ.set i (some d)) (σ.set i (some v)) := by
  refine ⟨by simp [h.len], fun j d' e => ?_⟩
  by_cases hj : i = j
  · subst hj
    have hi : i < ρ.length := by
      have := (List.getElem?_eq_some_iff.mp e).1
      simpa using this
    rw [List.getElem?_set_self hi] at e
    cases e
    exact ⟨v, by rw [List.getElem?_set_self (by rw [← h.len]; exact hi)], r⟩
  · rw [List.getElem?_set_ne hj] at e
    obtain ⟨u, e1, r1⟩ := h.at_ j d' e
    exact ⟨u, by rw [List.getElem?_set_ne hj]; exact e1, r1⟩
theorem s_set {i : Nat} {x : Str} {pos' : Pos} (hN : X.N.Nodup) (hi : X.N[i]? = some x) (hx : Loc X.env.scope x) (h : PE X e (tM G W ma)) (hs : swapsWith e (some (.Name x pos')) pos.line X.env = pure false) (hf : X.fn x = true ∨ X.env.scope.names.lookup x = some .local) :
    PS X (.Assign [.Name x pos'] e pos) (tMS G W (sSet i ma)) := by
  refine (ps_set hN hi hx h hs hf).sm fun D σ H h => ?_
  obtain ⟨A, ρ, S, he, hs, p⟩ := h
  exact ⟨A, ρ, S, he, hs, PoS.step he p fun d S1 A1 H1 x s e q v rv => PoS.nx_now q s (e.set rv)⟩
/-- a target that only stores into slots L -/
def TgS (G : Gs) (t : TG) (g : GM) (L : List Nat) : Prop := ∀ (A : Al) (S : Sto) (ρ ρ' : Env) (σ : L2.St) (H : Hp) (d : Dv) (v : V) (Q : L2.St → Hp → Prop), EnvR G A H ρ σ → StR G A S H → RD G A H d v → g d ρ = some ρ' →
  (∀ σ', EnvR G A H ρ' σ' → (∀ j : Nat, j ∉ L → σ'[j]? = σ[j]?) → σ'.length = σ.length → Q σ' H) → t v σ H Q
def TgSs (G : Gs) (t : TGs) (g : GMs) (L : List Nat) : Prop := ∀ (A : Al) (S : Sto) (ρ ρ' : Env) (σ : L2.St) (H : Hp) (ts : List Dt) (vs : List V) (Q : L2.St → Hp → Prop), EnvR G A H ρ σ → StR G A S H → RVs G A H ts vs → g ts ρ = some ρ' →
  (∀ σ', EnvR G A H ρ' σ' → (∀ j : Nat, j ∉ L → σ'[j]? = σ[j]?) → σ'.length = σ.length → Q σ' H) → t vs σ H Q
theorem g_name {i : Nat} : TgS G (gName i) (gN i) [i] := by
  intro A S ρ ρ' σ H d v Q he hs r e q
  cases e
  refine q _ (he.set r) (fun j hj => ?_) (by simp)
  simp at hj
  rw [List.getElem?_set_ne (fun z => hj z.symm)]
theorem gs_nil : TgSs G gNil gsNil [] := by
  intro A S ρ ρ' σ H ts vs Q he hs r e q
  cases ts with
  | nil =>
    have z : vs = [] := r
    subst z
    cases e
    exact ⟨rfl, q σ he (fun _ _ => rfl) rfl⟩
  | cons t ts => cases e
theorem gs_cons {t : TG} {u : TGs} {g : GM} {gs : GMs} {L L' : List Nat} (h1 : TgS G t g L) (h2 : TgSs G u gs L') : TgSs G (gCons t u) (gsCons g gs) (L ++ L') := by
  intro A S ρ ρ' σ H ts vs Q he hs r e q
  cases ts with
  | nil => cases e
  | cons x ts =>
    obtain ⟨v, w, rfl, r1, r2⟩ := r
    unfold gsCons at e
    simp only at e
    cases e1 : g (.d x) ρ with
    | none =>
      rw [e1] at e
      cases e
    | some ρ1 =>
      rw [e1] at e
      refine ⟨v, w, rfl, h1 A S ρ ρ1 σ H (.d x) v _ he hs r1 e1 fun σ1 he1 k1 l1 => ?_⟩
      exact h2 A S ρ1 ρ' σ1 H ts w _ he1 hs r2 e fun σ2 he2 k2 l2 => q σ2 he2 (fun j hj => by
        rw [List.mem_append] at hj
        rw [k2 j fun z => hj (.inr z), k1 j fun z => hj (.inl z)]) (l2.trans l1)
/-- the number of items that a pattern takes -/
def GLen (gs : GMs) (n : Nat) : Prop := ∀ ts ρ ρ', gs ts ρ = some ρ' → ts.length = n
theorem glen_nil : GLen gsNil 0 := fun ts ρ ρ' e => by
  cases ts with
  | nil => rfl
  | cons => cases e
theorem glen_cons {g : GM} {gs : GMs} {n : Nat} (h : GLen gs n) : GLen (gsCons g gs) (n + 1) := fun ts ρ ρ' e => by
  cases ts with
  | nil => cases e
  | cons x ts =>
    unfold gsCons at e
    simp only at e
    cases e1 : g (.d x) ρ with
    | none =>
      rw [e1] at e
      cases e
    | some ρ1 =>
      rw [e1] at e
      simp [h ts ρ1 ρ' e]
theorem g_tup {u : TGs} {gs : GMs} {L : List Nat} {n : Nat} (hl : GLen gs n) (h : TgSs G u gs L) : TgS G (gTup G.K n u) (gT gs) L := by
  intro A S ρ ρ' σ H d v Q he hs r e q
  cases d with
  | loc k => cases e
  | d t =>
    cases t with
    | tup ts =>
      obtain ⟨a, vs, rfl, ht, hv⟩ := r
      refine ⟨a, vs, rfl, ht.sq, ?_, h A S ρ ρ' σ H ts vs Q he hs hv e q⟩
      rw [← hv.length]
      exact hl ts ρ ρ' e
    | _ => cases e
theorem oz_po {A : Al} {H : Hp} {α : Type} {o : Option α} {f : α → Sz} {D : Ends} (h : PoS G W A H (oz o f) D) : ∃ a, o = some a ∧ PoS G W A H (f a) D := by
  cases o with
  | none => exact h.elim
  | some a => exact ⟨a, rfl, h⟩
theorem s_asg {tg : Expr} {t : TG} {g : GM} {L : List Nat} (hg : PG X tg t) (hgs : TgS G t g L) (h : PE X e (tM G W ma)) (hs : swapsWithSole [tg] e pos.line X.env = pure false) (hw : swappedStores [tg] e X.env = pure none) (h1 : (assignEach [tg] X.env).map (·.2) = [assign tg X.env]) :
    PS X (.Assign [tg] e pos) (tMS G W (sAsg g ma)) := by
  refine (ps_asg h hg hs hw h1).sm fun D σ H h => ?_
  obtain ⟨A, ρ, S, he, hs, p⟩ := h
  refine ⟨A, ρ, S, he, hs, PoS.step he p fun d S1 A1 H1 x s e q v rv => ?_⟩
  obtain ⟨ρ1, e1, q1⟩ := oz_po q
  exact hgs A1 S1 ρ ρ1 σ H1 d v _ e s rv e1 fun σ' he' _ _ => PoS.nx_now q1 s he'
end
/-! ### what is walked -/
/-- J, at A H, gives the data ts one behind the other -/
structure Wk (G : Gs) (J : It) (A : Al) (H : Hp) (ts : List Dt) : Prop where
  go : ∀ (i : Nat) A' H', i < ts.length → Ext A H A' H' → J.go i H'
  yld : ∀ (i : Nat) A' H' S x H2, i < ts.length → Ext A H A' H' → StR G A' S H' → J.yld i H' x H2 → ∃ t, ts[i]? = some t ∧ Ext A' H' A' H2 ∧ StR G A' S H2 ∧ RV G A' H2 t x
  stop : ∀ A' H', Ext A H A' H' → J.stop ts.length H'
/-- the iterable's mirror -/
def PIS (X : Cx) (G : Gs) (W : WX) (tg iter : Expr) (m : M (List Dt)) : Prop := ∃ wi : TI, PI X tg iter wi ∧ ∀ (σ : L2.St) (H : Hp) (A : Al) (ρ : Env) (S : Sto) (R : It → Hp → Prop), EnvR G A H ρ σ → StR G A S H →
  Po G (Wa W σ) A H (m ρ S) (fun A' H' ts => ∀ J, Wk G J A' H' ts → R J H') → wi σ H R
section
variable {X : Cx} {G : Gs} {W : WX} {tg iter : Expr} {pos : Pos} {it : M (List Dt)} {g : GM} {sb : SM} {t : TG} {L : List Nat} {body : List Stmt}
theorem s_for (hp : PassesOwn (model X.prog X.w) X.A X.env X.xe) (hc : X.calm = true) (hi : PIS X G W tg iter it) (hg : PG X tg t) (hgs : TgS G t g L) (hb : PSs X body (tMS G W sb)) (hs : ∀ x, foldedSetIterable iter X.env x = pure x) :
    PS X (.For tg iter body [] pos) (tMS G W (sFor it g sb)) := by
  obtain ⟨wi, pi, hw⟩ := hi
  refine (ps_for hp hc pi hg hb hs).sm fun D σ H h => ?_
  obtain ⟨A, ρ, S, he, hs, p⟩ := h
  refine hw σ H A ρ S _ he hs (PoS.step he p fun ts S1 A1 H1 x1 s1 e1 p1 J wk => ?_)
  refine ⟨fun i m σ' H' => ∃ A' ρ' S', Ext A1 H1 A' H' ∧ EnvR G A' H' ρ' σ' ∧ StR G A' S' H' ∧ i ≤ ts.length ∧ m = ts.length - i ∧ PoS G W A' H' (forL g sb (ts.drop i) ρ' S') D, ⟨_, A1, ρ, S1, .refl, e1, s1, Nat.zero_le _, rfl, p1⟩, fun i m σ' H' hW => ?_⟩
  obtain ⟨A', ρ', S', x', e', s', hi, hm, q⟩ := hW
  by_cases hlt : i < ts.length
  · refine .inr ⟨wk.go i A' H' hlt x', fun σ2 H2 => ∃ A2 ρ2 S2, Ext A1 H1 A2 H2 ∧ EnvR G A2 H2 ρ2 σ2 ∧ StR G A2 S2 H2 ∧ PoS G W A2 H2 (forL g sb (ts.drop (i + 1)) ρ2 S2) D, fun σ2 H2 hN => ?_, fun v H2 hy => ?_⟩
    · obtain ⟨A2, ρ2, S2, x2, e2, s2, q2⟩ := hN
      exact ⟨ts.length - (i + 1), by omega, A2, ρ2, S2, x2, e2, s2, by omega, rfl, q2⟩
    · obtain ⟨d, ed, xy, sy, rv⟩ := wk.yld i A' H' S' v H2 hlt x' s' hy
      have hd : ts.drop i = d :: ts.drop (i + 1) := by
        rw [List.drop_eq_getElem_cons hlt]
        rw [List.getElem?_eq_getElem hlt] at ed
        cases ed
        rfl
      rw [hd] at q
      unfold forL at q
      obtain ⟨ρ1, eg, q1⟩ := oz_po q
      refine hgs A' S' ρ' ρ1 σ' H2 (.d d) v _ (e'.kp xy.kp) sy rv eg fun σ2 e2 _ _ => ?_
      refine ⟨A', ρ1, S', e2, sy, ?_⟩
      have q1 := PoS.mono xy q1
      cases eb : sb ρ1 S' with
      | nx ρ2 S2 =>
        rw [eb] at q1
        exact fun A2 H3 σ3 y s e => ⟨A2, ρ2, S2, (x'.trans xy).trans y, e, s, PoS.mono y q1⟩
      | ct ρ2 S2 =>
        rw [eb] at q1
        exact fun A2 H3 σ3 y s e => ⟨A2, ρ2, S2, (x'.trans xy).trans y, e, s, PoS.mono y q1⟩
      | bk ρ2 S2 =>
        rw [eb] at q1
        exact q1
      | rt d S2 =>
        rw [eb] at q1
        exact q1
      | er c t ρ2 S2 =>
        rw [eb] at q1
        exact q1
      | bad =>
        rw [eb] at q1
        exact q1.elim
  · have hz : i = ts.length := by omega
    subst hz
    rw [List.drop_length] at q
    exact .inl ⟨wk.stop A' H' x', q A' H' σ' .refl s' e'⟩
end
end Sm
/-! Sm4: defs, calls, new instances, methods, fields. -/
namespace Sm
open PySem PySem.Spec PyProof.Rows L2

abbrev FM := List Dv → Sto → Rz Dv
def SpM (G : Gs) (F : FM) : Sp := fun vs H Q E => ∃ A S ds, RDs G A H ds vs ∧ StR G A S H ∧ Po G E A H (F ds S) (kD G Q)
/-- what a def's body gives: n names, the first p its parameters -/
def runB (n p : Nat) (b : SM) : FM := fun ds S => if ds.length = p then (match b (ds.map some ++ List.replicate (n - p) none) S with
  | .nx _ S' => .ok (.d .non) S'
  | .rt d S' => .ok d S'
  | .er c t _ S' => .er c t S'
  | _ => .bad) else .bad
/-- a context: nothing is handled, names apart, exceptions that W wishes are taken, room for k calls -/
structure Bx (X : Cx) (G : Gs) (W : WX) (k : Nat) : Prop where
  calm : X.calm = true
  nd : X.N.Nodup
  tk : Takes X W
  hK : G.K = X.K
  room : Room k X.A
abbrev W0 : WX := fun _ _ _ _ => False
theorem Bx.blk {X : Cx} {G : Gs} {W : WX} {k : Nat} (B : Bx X G W k) (s : Shared) (H : Hp) (scope : Scope) (cenv : PySem.Env) (fp : List Addr) : Bx (X.blk s H scope cenv fp) G W0 k := ⟨B.calm, B.nd, takes0, B.hK, B.room⟩
theorem Bx.le {X : Cx} {G : Gs} {W : WX} {k j : Nat} (B : Bx X G W k) (h : j ≤ k) : Bx X G W j := ⟨B.calm, B.nd, B.tk, B.hK, B.room.mono h⟩
section
variable {P : Program} {w : World} {G : Gs} {mg : Str → Option Value} {base : Heap}
theorem start_rds {A : Al} {H : Hp} : ∀ {ds : List Dv} {vs : List V} (n : Nat), RDs G A H ds vs → EnvR G A H (ds.map some ++ List.replicate n none) (vs.map some ++ List.replicate n none) := by
  intro ds vs n r
  refine ⟨by simp [Paired.length r], fun i d e => ?_⟩
  by_cases hi : i < ds.length
  · have hi2 : i < vs.length := by rw [← Paired.length r]; exact hi
    rw [List.getElem?_append_left (by simpa using hi)] at e
    simp at e
    obtain ⟨v, ev, rv⟩ := r.get e
    refine ⟨v, ?_, rv⟩
    rw [List.getElem?_append_left (by simpa using hi2)]
    simp [ev]
  · rw [List.getElem?_append_right (by simp; omega)] at e
    rw [List.getElem?_replicate] at e
    split at e
    · cases e
    · cases e
/-- THE RULE for a def -/
theorem fn_ok {x qual : Str} {st : Stmt} {f : Addr} {fd : FuncData} {N ps : List Str} {k : Nat} {b : SM} (F : Fun G.K x qual st f fd) (S : FnScope N ps (defScope st)) 
    (hbody : ∀ (cdv : Value) (A : Around) (outer : List PySem.Env) (s : Shared) (H : Hp) (E : XK), Bx (cxOf (L2.CX P w) P w G.K mg base N qual (defScope st) f cdv A outer s H E) G (fun c d _ H' => E c d H') k →
      PassesOwn (model P w) (A.deeper (envOfC qual (defScope st) s.heap.objs.size f cdv)) (envOfC qual (defScope st) s.heap.objs.size f cdv) (cxOf (L2.CX P w) P w G.K mg base N qual (defScope st) f cdv A outer s H E).xe →
      PSs (cxOf (L2.CX P w) P w G.K mg base N qual (defScope st) f cdv A outer s H E) (defBody st) (tMS G (fun c d _ H' => E c d H') b)) :
    FnOk P w G.K mg base (L2.CX P w) (k + 1) f fd ps (SpM G (runB N.length ps.length b)) := by
  refine F.okX S (fun vs H Q E h => ?_) (fun cdv A outer s H vs Q E hr h => ?_)
  · obtain ⟨A, S', ds, r, s, p⟩ := h
    unfold runB at p
    split at p
    · rename_i e
      rw [← Paired.length r]
      exact e
    · exact p.elim
  · refine ⟨_, hbody cdv A outer s H E ⟨rfl, S.nd, takes_of rfl rfl rfl rfl, rfl, hr⟩ (passes_of rfl), ?_⟩
    obtain ⟨A', S', ds, r, s', p⟩ := h
    unfold runB at p
    split at p
    · rename_i e
      refine ⟨A', ds.map some ++ List.replicate (N.length - ps.length) none, S', ?_, s', ?_⟩
      · have := start_rds (N.length - vs.length) r
        rw [show N.length - ps.length = N.length - vs.length by rw [← e, Paired.length r]]
        exact this
      · cases eb : b (ds.map some ++ List.replicate (N.length - ps.length) none) S' with
        | nx ρ S1 =>
          rw [eb] at p
          exact fun A1 H1 σ1 y s1 e1 => p A1 H1 y s1 .non rfl
        | rt d S1 =>
          rw [eb] at p
          exact fun A1 H1 v y s1 e1 => p A1 H1 y s1 v e1
        | er c t ρ S1 =>
          rw [eb] at p
          exact fun A1 H1 σ1 cls d y s1 e1 x1 => p A1 H1 cls d y s1 x1
        | bk ρ S1 =>
          rw [eb] at p
          exact p.elim
        | ct ρ S1 =>
          rw [eb] at p
          exact p.elim
        | bad =>
          rw [eb] at p
          exact p.elim
    · exact p.elim
/-- a call of a certain form: n positional values, keywords named ks -/
def CallW (P : Program) (w : World) (G : Gs) (mg : Str → Option Value) (base : Heap) (k : Nat) (f : Addr) (n : Nat) (ks : List Str) (F : FM) : Prop :=
  ∀ (A : Around) (outer : List PySem.Env) (s : Shared) (H : Hp) (us ws : List Value) (vs zs : List V) (Q : VK) (E : XK), Room k A → Env0 P w G.K mg base A outer s H → Vals vs us → Vals zs ws → vs.length = n → zs.length = ks.length → SpM G F (vs ++ zs) H Q E →
    codeAny (model P w) A (.call (.ref f) ⟨us, ks.zip ws⟩) (CR (L2.CX P w) outer P w H s Q E) s
theorem CallW.mono {k j : Nat} {f : Addr} {n : Nat} {ks : List Str} {F : FM} (h : CallW P w G mg base j f n ks F) (l : j ≤ k) : CallW P w G mg base k f n ks F :=
  fun A outer s H us ws vs zs Q E hr e0 r rz l1 l2 q => h A outer s H us ws vs zs Q E (hr.mono l) e0 r rz l1 l2 q
/-- another function that promises less -/
theorem CallW.imp {k : Nat} {f : Addr} {n : Nat} {ks : List Str} {F F' : FM} (h : CallW P w G mg base k f n ks F) (i : ∀ vs H Q E, SpM G F' vs H Q E → SpM G F vs H Q E) : CallW P w G mg base k f n ks F' :=
  fun A outer s H us ws vs zs Q E hr e0 r rz l1 l2 q => h A outer s H us ws vs zs Q E hr e0 r rz l1 l2 (i _ _ _ _ q)
/-- all values written, or the defaults dds behind -/
theorem CallW.of {k : Nat} {f : Addr} {fd : FuncData} {ps : List Str} {n : Nat} {F : FM} {ds : List Value} {dvs : List V} {dds : List Dt} (h : FnOk P w G.K mg base (L2.CX P w) k f fd ps (SpM G F)) (b : Binds G.K fd ps ds) (hd : Vals dvs ds) (hr : ∀ A H, RVs G A H dds dvs) :
    CallW P w G mg base k f n [] (fun xs => F (xs ++ dds.map .d)) := by
  intro A outer s H us ws vs zs Q E hr' e0 r rz l1 l2 q
  have hz : zs = [] := by
    cases zs with
    | nil => rfl
    | cons z zs => simp at l2
  subst hz
  rw [List.append_nil] at q
  obtain ⟨A', S', es, rd, s', p⟩ := q
  have q2 : SpM G F (vs ++ dvs) H Q E := ⟨A', S', es ++ dds.map .d, rd.append (hr A' H).rds, s', p⟩
  have hl := h.len _ _ _ _ q2
  have hV := Vals.append r hd
  exact h.run A outer s H ⟨us, []⟩ (us ++ ds) (vs ++ dvs) Q E hr' e0 (b s us (e0.mod.kin.keeps fun b o e => (e0.bs b o e).1) (by rw [← hl, hV.length])) hV q2
theorem CallW.of0 {k : Nat} {f : Addr} {fd : FuncData} {ps : List Str} {n : Nat} {F : FM} (h : FnOk P w G.K mg base (L2.CX P w) k f fd ps (SpM G F)) (b : Binds G.K fd ps []) : CallW P w G mg base k f n [] F := by
  have := CallW.of (n := n) (dds := []) h b .nil (fun _ _ => (rfl : ([] : List V) = []))
  simpa using this
/-- keywords -/
theorem CallW.kw {k : Nat} {f : Addr} {fd : FuncData} {ps ks : List Str} {n : Nat} {F F' : FM} {g : List Value → List Value → List Value} {gV : List V → List V → List V} (h : FnOk P w G.K mg base (L2.CX P w) k f fd ps (SpM G F)) (b : KBn G.K fd ps n ks g gV)
    (hF : ∀ A H (xs : List Dv) (vs zs : List V), RDs G A H xs (vs ++ zs) → vs.length = n → zs.length = ks.length → ∃ ys, RDs G A H ys (gV vs zs) ∧ ∀ S, F ys S = F' xs S) : CallW P w G mg base k f n ks F' := by
  intro A outer s H us ws vs zs Q E hr' e0 r rz l1 l2 q
  obtain ⟨A', S', es, rd, s', p⟩ := q
  obtain ⟨ys, ry, ey⟩ := hF A' H es vs zs rd l1 l2
  have q2 : SpM G F (gV vs zs) H Q E := ⟨A', S', ys, ry, s', by rw [ey]; exact p⟩
  exact h.run A outer s H ⟨us, ks.zip ws⟩ (g us ws) (gV vs zs) Q E hr' e0 (b.to s us ws (e0.mod.kin.keeps fun b o e => (e0.bs b o e).1) (by rw [← r.length, l1]) (by rw [← rz.length, l2])) (b.rel r rz) q2
end

def mF (F : FM) (a : M (List Dv)) : M Dv := fun ρ S => (a ρ S).bind F
def aApp (a b : M (List Dv)) : M (List Dv) := fun ρ S => (a ρ S).bind fun xs S1 => (b ρ S1).bind fun ys S2 => .ok (xs ++ ys) S2
section
variable {X : Cx} {G : Gs} {W : WX} {k : Nat} {f : Addr} {n : Nat} {ks : List Str} {F : FM}
/-- the callee runs -/
theorem runF {pins : List (Addr × Obj)} {σ : L2.St} {H : Hp} {s : Shared} {Q : VK} {us ws : List Value} {vs zs : List V} (R : CallW X.prog X.w G X.mg X.base k f n ks F) (B : Bx X G W k) (I : Inv X pins σ H s) (r : Vals vs us) (rz : Vals zs ws) (l1 : vs.length = n) (l2 : zs.length = ks.length)
    (h : SpM G F (vs ++ zs) H Q (Wa W σ)) : wpAny (model X.prog X.w) X.A (call (.ref f) us (ks.zip ws)) (EP X pins σ Q) X.xe s := by
  refine wpAny_call (codeAny_mono (R X.A X.stack s H us ws vs zs Q (Wa W σ) B.room (by rw [B.hK]; exact I.env0) r rz l1 l2 h) fun r s' hq => ?_)
  cases r with
  | error e => exact passAt B.tk σ pins H s e s' I hq
  | ok fl =>
    cases fl with
    | ret u => exact I.after hq
    | next => exact False.elim hq
    | brk => exact False.elim hq
    | cont => exact False.elim hq
variable {x : Str} {p pos : Pos} {e : Expr} {es : List Expr} {kws : List Keyword} {ma mk : M (List Dv)}
theorem _root_.L2.PK.sm {X : Cx} {e : List Keyword} {t t' : TA} (h : PK X e t) (f : ∀ σ H Q, t' σ H Q → t σ H Q) : PK X e t' := ⟨fun pos pins s σ H Q I q => h.run pos pins s σ H Q I (f σ H Q q)⟩
theorem k_nil : PK X [] (tMA G W aNil) := by
  refine pk_nil.sm fun σ H Q h => ?_
  obtain ⟨A, ρ, S, he, hs, p0⟩ := h
  exact Po.now p0 hs [] .nil
theorem k_cons {m : M Dv} {mr : M (List Dv)} {nm : Option Str} {kpos : Pos} (ha : PE X e (tM G W m)) (hr : PK X kws (tMA G W mr)) : PK X (⟨nm, e, kpos⟩ :: kws) (tMA G W (aCons m mr)) := by
  refine (pk_cons ha hr).sm fun σ H Q h => ?_
  obtain ⟨A, ρ, S, he, hs, p0⟩ := h
  refine ⟨A, ρ, S, he, hs, Po.step p0 fun d S1 A1 H1 x1 s1 p1 v rv => ?_⟩
  refine ⟨A1, ρ, S1, he.kp x1.kp, s1, Po.step p1 fun ds S2 A2 H2 x2 s2 p2 vs rvs => ?_⟩
  exact Po.now p2 s2 _ (.cons (rv.kp x2.kp) rvs)
/-- lengths that a mirror of arguments always has -/
def ALen (m : M (List Dv)) (n : Nat) : Prop := ∀ ρ S ds S', m ρ S = .ok ds S' → ds.length = n
theorem al_nil : ALen aNil 0 := fun ρ S ds S' e => by cases e; rfl
theorem al_cons {m : M Dv} {mr : M (List Dv)} {n : Nat} (h : ALen mr n) : ALen (aCons m mr) (n + 1) := fun ρ S ds S' e => by
  unfold aCons at e
  cases e1 : m ρ S with
  | bad => rw [e1] at e; cases e
  | er c t S1 => rw [e1] at e; cases e
  | ok d S1 =>
    rw [e1] at e
    simp only [bind_ok] at e
    cases e2 : mr ρ S1 with
    | bad => rw [e2] at e; cases e
    | er c t S2 => rw [e2] at e; cases e
    | ok ds2 S2 =>
      rw [e2] at e
      cases e
      simp [h ρ S1 ds2 S' e2]
theorem Po.step' {α β : Type} {G : Gs} {E : XK} {A : Al} {H : Hp} {r : Rz α} {f : α → Sto → Rz β} {k : Al → Hp → β → Prop} {k' : Al → Hp → α → Prop} (h : Po G E A H (r.bind f) k)
    (q : ∀ a S1 A1 H1, r = .ok a S1 → Ext A H A1 H1 → StR G A1 S1 H1 → Po G E A1 H1 (f a S1) k → k' A1 H1 a) : Po G E A H r k' := by
  cases r with
  | ok a S => exact fun A' H' y s => q a S A' H' rfl y s (Po.mono y h)
  | er c t S => exact h
  | bad => exact h
theorem e_call (R : CallW X.prog X.w G X.mg X.base k f n [] F) (B : Bx X G W k) (hg : Gl X x) (hm : X.mg x = some (.ref f)) (hk : PySem.W.keepIn X.K (.ref f) = true) (ha : PA X (e :: es) (tMA G W ma)) (al : ALen ma n) (hdb : (x == ("__debug__" : Str)) = false)
    (he : starEach (e :: es) X.env = (false, eval e X.env) :: starEach es X.env) (hpl : (backTo pos (starEach es X.env)).any (·.1) = false) : PE X (.Call (.Name x p) (e :: es) [] pos) (tM G W (mF F ma)) := by
  refine ⟨fun pins s σ H Q I h => ?_⟩
  obtain ⟨A, ρ, S, he', hs, p0⟩ := h
  refine wpAny_Call_Name_kw (ld_glob I hg hm ?_ hdb)
  refine PySem.W.callWith_K (h₀ := X.base) I.ok.mod.kin hk (thn (ha.run pos pins s σ H (fun vs H' => vs.length = n ∧ SpM G F (vs ++ []) H' Q (Wa W σ)) I ⟨A, ρ, S, he', hs, Po.step' p0 fun ds S1 A1 H1 e0 x1 s1 p1 vs rvs => ⟨by rw [← Paired.length rvs]; exact al ρ S ds S1 e0, A1, S1, ds, by rw [List.append_nil]; exact rvs, s1, p1⟩⟩) fun us s1 ⟨vs, H1, I1, r, l, q⟩ => ⟨I1.kIn, ?_⟩) he hpl
  exact runF (ws := []) (zs := []) R B I1 r .nil l rfl q
theorem e_call0 (R : CallW X.prog X.w G X.mg X.base k f 0 [] F) (B : Bx X G W k) (hg : Gl X x) (hm : X.mg x = some (.ref f)) (hk : PySem.W.keepIn X.K (.ref f) = true) (hdb : (x == ("__debug__" : Str)) = false) : PE X (.Call (.Name x p) [] [] pos) (tM G W (mF F aNil)) := by
  refine ⟨fun pins s σ H Q I h => ?_⟩
  obtain ⟨A, ρ, S, he', hs, p0⟩ := h
  refine wpAny_Call_Name_kw (ld_glob I hg hm ?_ hdb)
  exact PySem.W.callWith_K0 I.kIn hk (runF (us := []) (ws := []) (vs := []) (zs := []) R B I .nil .nil rfl rfl ⟨A, S, [], .nil, hs, p0⟩)
end
end Sm
/-! Sm5: instances with slots, letting boxes go, calls in a world of their own, comprehensions. -/
namespace Sm
open PySem PySem.Spec PyProof.Rows L2

/-! ### instances -/
/-- d is an instance of the class c -/
def isIns (c : Nat) (d : Dv) (S : Sto) : Bool := match d with
  | .d (.obj c' _) => c' == c
  | .loc n => (match S[n]? with
    | some (.ins c' _) => c' == c
    | _ => false)
  | _ => false
theorem isIns_slt {G : Gs} {A : Al} {S : Sto} {H : Hp} {c : Nat} {d : Dv} {v : V} (s : StR G A S H) (r : RD G A H d v) (h : isIns c d S = true) : ∃ a dx ws, v = .ref a ∧ SlX.Slt H a (G.cls c) dx ws := by
  cases d with
  | d t =>
    cases t with
    | obj c' xs =>
      obtain ⟨a, dx, ws, vs, e, _, _, _, hs, _⟩ := r
      have : c' = c := by simpa [isIns] using h
      subst this
      exact ⟨a, dx, ws, e, hs⟩
    | _ => simp [isIns] at h
  | loc n =>
    cases e : S[n]? with
    | none => simp [isIns, e] at h
    | some o =>
      cases o with
      | ins c' fs =>
        have : c' = c := by simpa [isIns, e] using h
        subst this
        obtain ⟨a, dx, ws, e1, _, _, hs, _⟩ := loc_ins s r e
        exact ⟨a, dx, ws, e1, hs⟩
      | _ => simp [isIns, e] at h
def pFld (c i : Nat) : P1 := fun d S => match d with
  | .d (.obj c' xs) => if c' = c then (match xs[i]? with
    | some t => some (.d t, S)
    | none => none) else none
  | .loc n => (match S[n]? with
    | some (.ins c' fs) => if c' = c then (match fs[i]? with
      | some (some d) => some (d, S)
      | _ => none) else none
    | _ => none)
  | _ => none
theorem fld_at {G : Gs} {A : Al} {S S' : Sto} {H : Hp} {c i : Nat} {d d' : Dv} {v : V} (s : StR G A S H) (r : RD G A H d v) (h : pFld c i d S = some (d', S')) : S' = S ∧ ∃ a dx ws u, v = .ref a ∧ SlX.Slt H a (G.cls c) dx ws ∧ ws[i]? = some (some u) ∧ RD G A H d' u := by
  cases d with
  | d t =>
    cases t with
    | obj c' xs =>
      obtain ⟨a, dx, ws, vs, e, _, _, _, hs, hi, hv⟩ := r
      unfold pFld at h
      simp only at h
      split at h
      · rename_i hc
        subst hc
        cases ex : xs[i]? with
        | none => rw [ex] at h; cases h
        | some t =>
          rw [ex] at h
          cases h
          obtain ⟨u, eu, ru⟩ := hv.get ex
          exact ⟨rfl, a, dx, ws, u, e, hs, hi i u eu, ru⟩
      · cases h
    | _ => cases h
  | loc n =>
    unfold pFld at h
    simp only at h
    cases e : S[n]? with
    | none => rw [e] at h; cases h
    | some o =>
      rw [e] at h
      cases o with
      | ins c' fs =>
        simp only at h
        split at h
        · rename_i hc
          subst hc
          obtain ⟨a, dx, ws, e1, _, _, hs, hf⟩ := loc_ins s r e
          cases ex : fs[i]? with
          | none => rw [ex] at h; cases h
          | some o =>
            rw [ex] at h
            cases o with
            | none => cases h
            | some d2 =>
              cases h
              obtain ⟨u, eu, ru⟩ := hf i d' ex
              exact ⟨rfl, a, dx, ws, u, e1, hs, eu, ru⟩
        · cases h
      | _ => cases h
/-- o.f = d -/
def putF (i : Nat) (d : Dv) (fs : List (Option Dv)) : List (Option Dv) := (fs ++ List.replicate (i + 1 - fs.length) none).set i (some d)
def stFld (c i : Nat) (o d : Dv) (S : Sto) : Option Sto := match o with
  | .loc n => (match S[n]? with
    | some (.ins c' fs) => if c' = c then some (S.set n (.ins c (putF i d fs))) else none
    | _ => none)
  | _ => none
theorem putF_rf {G : Gs} {A : Al} {H : Hp} {i : Nat} {d : Dv} {v : V} {fs : List (Option Dv)} {ws : List (Option V)} (h : RF G A H fs ws) (r : RD G A H d v) : RF G A H (putF i d fs) (SlX.putS i v ws) := by
  intro j e he
  by_cases hj : i = j
  · subst hj
    have hl : i < (fs ++ List.replicate (i + 1 - fs.length) (none : Option Dv)).length := by simp; omega
    unfold putF at he
    rw [List.getElem?_set_self hl] at he
    cases he
    exact ⟨v, SlX.putS_get i v ws, r⟩
  · unfold putF at he
    rw [List.getElem?_set_ne hj] at he
    have h2 : fs[j]? = some (some e) := by
      by_cases hlt : j < fs.length
      · rw [List.getElem?_append_left hlt] at he
        exact he
      · rw [List.getElem?_append_right (by omega), List.getElem?_replicate] at he
        split at he <;> cases he
    obtain ⟨u, eu, ru⟩ := h j e h2
    exact ⟨u, (SlX.putS_ne (fun z => hj z.symm)).mpr eu, ru⟩
def sFld (c i : Nat) (mo mv : M Dv) : SM := fun ρ S => (mv ρ S).to ρ fun d S1 => (mo ρ S1).to ρ fun o S2 => oz (stFld c i o d S2) fun S3 => .nx ρ S3
def mMeth (c : Nat) (F : FM) (mo : M Dv) (ma : M (List Dv)) : M Dv := fun ρ S => (mo ρ S).bind fun o S1 => if isIns c o S1 = true then (ma ρ S1).bind fun ds S2 => F (o :: ds) S2 else .bad
def mMake (c : Nat) (F : FM) (ma : M (List Dv)) : M Dv := fun ρ S => (ma ρ S).bind fun ds S1 => (F (.loc S1.length :: ds) (S1 ++ [.ins c []])).bind fun r S2 => match r with
  | .d .non => .ok (.loc S1.length) S2
  | _ => .bad
section
variable {X : Cx} {G : Gs} {W : WX} {k n : Nat} {f g C : Addr} {ks : List Str} {F : FM} {x m : Str} {p pos pos' apos : Pos} {o e value : Expr} {es : List Expr} {kws : List Keyword} {mo mv : M Dv} {ma mk : M (List Dv)} {c i : Nat}
theorem e_fld {pp : Addr} (B : Bx X G W k) (cl : SlX.SCls X.K (G.cls c)) (sl : SlX.Slot1 X.K (G.cls c) m pp i) (he : PE X e (tM G W mo)) (hb : attributeBase e m X.env (eval e X.env) = eval e X.env) : PE X (.Attribute e m pos) (tM G W (m1 (pFld c i) mo)) := by
  refine (SlX.pe_sl he hb).sm fun σ H Q h => ?_
  obtain ⟨A, ρ, S, he, hs, p0⟩ := h
  refine ⟨A, ρ, S, he, hs, Po.step p0 fun d S1 A1 H1 x1 s1 p1 v rv => ?_⟩
  cases e1 : pFld c i d S1 with
  | none => rw [e1] at p1; exact p1.elim
  | some q =>
    obtain ⟨d', S2⟩ := q
    rw [e1] at p1
    obtain ⟨e2, a, dx, ws, u, ev, hsl, hw, ru⟩ := fld_at s1 rv e1
    subst e2
    exact ⟨a, G.cls c, dx, pp, ws, i, u, ev, hsl, cl, sl, hw, Po.now p1 s1 u ru⟩
theorem s_fld {pp : Addr} (B : Bx X G W k) (cl : SlX.SCls X.K (G.cls c)) (sl : SlX.Slot1 X.K (G.cls c) m pp i) (ho : PE X o (tM G W mo)) (hv : PE X value (tM G W mv)) (hs : swapsWith value (some (.Attribute o m pos')) pos.line X.env = pure false) :
    PS X (.Assign [.Attribute o m pos'] value pos) (tMS G W (sFld c i mo mv)) := by
  refine (SlX.ps_sl ho hv hs).sm fun D σ H h => ?_
  obtain ⟨A, ρ, S, he, hs, p0⟩ := h
  refine ⟨A, ρ, S, he, hs, PoS.step he p0 fun d S1 A1 H1 x1 s1 e1 p1 v rv => ?_⟩
  refine ⟨A1, ρ, S1, e1, s1, PoS.step e1 p1 fun o' S2 A2 H2 x2 s2 e2 p2 y ry => ?_⟩
  obtain ⟨S3, e3, p3⟩ := oz_po p2
  unfold stFld at e3
  cases o' with
  | d t => cases e3
  | loc n =>
    simp only at e3
    cases es : S2[n]? with
    | none => rw [es] at e3; cases e3
    | some b =>
      rw [es] at e3
      cases b with
      | ins c' fs =>
        simp only at e3
        split at e3
        · rename_i hc
          subst hc
          cases e3
          obtain ⟨a, dx, ws, ey, hl, ne, hsl, hf⟩ := loc_ins s2 ry es
          obtain ⟨x3, s3⟩ := set_ins s2 hl ne (putF_rf (i := i) hf (rv.kp x2.kp))
          exact ⟨a, G.cls c', dx, pp, ws, i, ey, hsl, cl, sl, p3 A2 _ σ x3 s3 (e2.kp x3.kp)⟩
        · cases e3
      | _ => cases e3
theorem e_meth {pl : Sem Bool} (R : CallW X.prog X.w G X.mg X.base k g (n + 1) [] F) (B : Bx X G W k) (cl : SlX.SCls X.K (G.cls c)) (hm : Meth X.K (G.cls c) m g) (ho : PE X o (tM G W mo)) (ha : PA X (e :: es) (tMA G W ma)) (al : ALen ma n)
    (hst : starEach (e :: es) X.env = (false, eval e X.env) :: starEach es X.env) (hpl : (backTo pos (starEach es X.env)).any (·.1) = false)
    (ht : eval (.Call (.Attribute o m apos) (e :: es) [] pos) X.env = (do
      let ov ← eval o X.env
      standAt apos.atName
      let (f, first) ← holding [ov] (getMethod ov m pl)
      callWith pos f first (backTo pos (starEach (e :: es) X.env)) (backToKw pos (keywordEach [] X.env)))) :
    PE X (.Call (.Attribute o m apos) (e :: es) [] pos) (tM G W (mMeth c F mo ma)) := by
  refine ⟨fun pins s σ H Q I h => ?_⟩
  obtain ⟨A, ρ, S, he', hs, p0⟩ := h
  refine PySem.W.methodCall_KW (pl := pl) (thn (ho.run pins s σ H (fun y H1 => ∃ a dx ws, y = .ref a ∧ SlX.Slt H1 a (G.cls c) dx ws ∧ tMA G W ma σ H1 fun vs H2 => vs.length = n ∧ SpM G F ((V.ref a :: vs) ++ []) H2 Q (Wa W σ)) I ⟨A, ρ, S, he', hs, Po.step p0 fun d S1 A1 H1 x1 s1 p1 v rv => ?_⟩) fun u s1 ⟨y, H1, I1, rx, a, dx, ws, ex, hsl, q⟩ => ?_) ht
  · by_cases hi : isIns c d S1 = true
    · simp only [hi, if_true] at p1
      obtain ⟨a, dx, ws, ev, hsl⟩ := isIns_slt s1 rv hi
      subst ev
      refine ⟨a, dx, ws, rfl, hsl, A1, ρ, S1, he'.kp x1.kp, s1, Po.step' p1 fun ds S2 A2 H2 e0 x2 s2 p2 vs rvs => ?_⟩
      exact ⟨by rw [← Paired.length rvs]; exact al ρ S1 ds S2 e0, A2, S2, d :: ds, by rw [List.append_nil]; exact .cons (rv.kp x2.kp) rvs, s2, p2⟩
    · simp only [hi] at p1
      exact p1.elim
  · subst ex
    obtain rfl : u = Value.ref a := rx
    refine SlX.getmethsl_ok I1 hsl cl hm ?_
    refine PySem.W.callWith_K (first := [.ref a]) (h₀ := X.base) I.ok.mod.kin hm.kp (thn (ha.run pos pins s1 σ H1 _ I1 q) fun us s2 ⟨vs, H2, I2, r, l, q2⟩ => ⟨I2.kIn, ?_⟩) hst hpl
    exact runF (us := .ref a :: us) (vs := .ref a :: vs) (ws := []) (zs := []) R B I2 (.cons rfl r) .nil (by simp [l]) rfl q2
/-- a new instance, then its __init__ -/
theorem runMake {pins : List (Addr × Obj)} {σ : L2.St} {H : Hp} {s : Shared} {Q : VK} {us ws : List Value} {vs zs : List V} (M : Mk X.K (G.cls c) f) (R : CallW X.prog X.w G X.mg X.base k f (n + 1) ks F) (B : Bx X G W (k + 1)) (I : Inv X pins σ H s) (r : Vals vs us) (rz : Vals zs ws) (l1 : vs.length = n) (l2 : zs.length = ks.length)
    (h : ∀ x dx, H x = none → H dx = none → dx ≠ x → SpM G F (V.ref x :: (vs ++ zs)) (upd (upd H dx (.own x)) x (.ins (G.cls c) dx [])) (fun v H2 => v = .non ∧ Q (.ref x) H2) (Wa W σ)) :
    wpAny (model X.prog X.w) X.A (call (.ref (G.cls c)) us (ks.zip ws)) (EP X pins σ Q) X.xe s := by
  have hq := h (s.heap.objs.size + 1) s.heap.objs.size (I.hok.fresh (Nat.le_succ _)) (I.hok.fresh (Nat.le_refl _)) (Nat.ne_of_lt (Nat.lt_succ_self _))
  have I2 := Inv.made (C := G.cls c) I
  have r2 : Vals (V.ref (s.heap.objs.size + 1) :: vs) (Value.ref (s.heap.objs.size + 1) :: us) := .cons rfl r
  refine wpAny_call (make_map (f := f) I.kIn M.makes M.init (beq_iff_eq.mp M.fn) (codeAny_mono (R _ X.stack _ _ (Value.ref (s.heap.objs.size + 1) :: us) ws _ zs _ (Wa W σ) (B.room.make (G.cls c) us (ks.zip ws)) (by rw [B.hK]; exact I2.env0.make (G.cls c) us (ks.zip ws)) r2 rz (by simp [l1]) l2 hq) fun r s' hq' => ?_))
  cases r with
  | error e => exact passAt B.tk σ pins _ _ e s' I2 hq'
  | ok fl =>
    cases fl with
    | ret u =>
      obtain ⟨v, H', I3, rv, ev, q3⟩ := I2.after hq'
      subst ev
      exact ⟨rv, ⟨V.ref (s.heap.objs.size + 1), H', I3, rfl, q3⟩⟩
    | next => exact False.elim hq'
    | brk => exact False.elim hq'
    | cont => exact False.elim hq'
theorem make_po {A : Al} {σ : L2.St} {S1 : Sto} {H1 : Hp} {ds : List Dv} {vs : List V} {Q : VK} (s1 : StR G A S1 H1) (rvs : RDs G A H1 ds vs)
    (p1 : Po G (Wa W σ) A H1 ((F (.loc S1.length :: ds) (S1 ++ [.ins c []])).bind fun r S2 => match r with
      | .d .non => .ok (.loc S1.length) S2
      | _ => .bad) (kD G Q)) : ∀ x dx, H1 x = none → H1 dx = none → dx ≠ x → SpM G F (V.ref x :: vs) (upd (upd H1 dx (.own x)) x (.ins (G.cls c) dx [])) (fun v H2 => v = .non ∧ Q (.ref x) H2) (Wa W σ) := by
  intro x dx hx hdx ne
  obtain ⟨x3, s3, r3⟩ := box_ins (c := c) s1 hx hdx ne
  refine ⟨A.push [x, dx], S1 ++ [.ins c []], .loc S1.length :: ds, .cons r3 (rvs.kp x3.kp), s3, Po.step (Po.mono x3 p1) fun r S2 A2 H2 x2 s2 p2 v rv => ?_⟩
  cases r with
  | loc n => exact p2.elim
  | d t =>
    cases t with
    | non => exact ⟨rv, Po.now p2 s2 _ (r3.kp x2.kp)⟩
    | _ => exact p2.elim
theorem e_make (M : Mk X.K (G.cls c) f) (R : CallW X.prog X.w G X.mg X.base k f (n + 1) [] F) (B : Bx X G W (k + 1)) (hg : Gl X x) (hm : X.mg x = some (.ref (G.cls c))) (ha : PA X (e :: es) (tMA G W ma)) (al : ALen ma n) (hdb : (x == ("__debug__" : Str)) = false)
    (he : starEach (e :: es) X.env = (false, eval e X.env) :: starEach es X.env) (hpl : (backTo pos (starEach es X.env)).any (·.1) = false) : PE X (.Call (.Name x p) (e :: es) [] pos) (tM G W (mMake c F ma)) := by
  refine ⟨fun pins s σ H Q I h => ?_⟩
  obtain ⟨A, ρ, S, he', hs, p0⟩ := h
  refine wpAny_Call_Name_kw (ld_glob I hg hm ?_ hdb)
  refine PySem.W.callWith_K (h₀ := X.base) I.ok.mod.kin M.kp (thn (ha.run pos pins s σ H (fun vs H1 => vs.length = n ∧ ∀ x dx, H1 x = none → H1 dx = none → dx ≠ x → SpM G F (V.ref x :: (vs ++ [])) (upd (upd H1 dx (.own x)) x (.ins (G.cls c) dx [])) (fun v H2 => v = .non ∧ Q (.ref x) H2) (Wa W σ)) I
    ⟨A, ρ, S, he', hs, Po.step' p0 fun ds S1 A1 H1 e0 x1 s1 p1 vs rvs => ⟨by rw [← Paired.length rvs]; exact al ρ S ds S1 e0, by rw [List.append_nil]; exact make_po s1 rvs p1⟩⟩) fun us s1 ⟨vs, H1, I1, r, l, q⟩ => ⟨I1.kIn, ?_⟩) he hpl
  exact runMake (ws := []) (zs := []) M R B I1 r .nil l rfl q
end

/-! ### a box is let go -/
def dpures : List (Option Dv) → Option (List Dt)
  | [] => some []
  | some (.d t) :: r => (dpures r).map (t :: ·)
  | _ :: _ => none
/-- a list or an instance that nobody will change: from here on data -/
def frz (d : Dv) (S : Sto) : Pz Dv := match d with
  | .loc n => (match S[n]? with
    | some (.lst xs) => (match pures xs with
      | some ts => some (.d (.lst ts), S.set n .dead)
      | none => none)
    | some (.ins c fs) => (match dpures fs with
      | some ts => some (.d (.obj c ts), S.set n .dead)
      | none => none)
    | some (.dct ks xs) => (match pures xs with
      | some ts => some (.d (.dct ks ts), S.set n .dead)
      | none => none)
    | _ => none)
  | .d t => some (.d t, S)
def Al.drop (A : Al) (n : Nat) : Al := ⟨A.live.set n [], A.hid⟩
section
variable {G : Gs} {A : Al} {H : Hp} {S : Sto} {n : Nat} {l : List Addr}
theorem drop_flat (A : Al) (n : Nat) : ∀ b, b ∈ (A.drop n).live.flatten → b ∈ A.live.flatten := by
  intro b hb
  obtain ⟨x, hx, hb⟩ := List.mem_flatten.mp hb
  unfold Al.drop at hx
  obtain ⟨i, hi⟩ := List.mem_iff_getElem?.mp hx
  simp only at hi
  by_cases e : n = i
  · subst e
    by_cases hl : n < A.live.length
    · rw [List.getElem?_set_self hl] at hi
      cases hi
      cases hb
    · rw [List.getElem?_eq_none (by simp; omega)] at hi
      cases hi
  · rw [List.getElem?_set_ne e] at hi
    exact List.mem_flatten.mpr ⟨x, List.mem_of_getElem? hi, hb⟩
theorem Ext.drop : Ext A H (A.drop n) H := by
  refine ⟨fun i x e => ?_, fun _ _ _ _ => Iff.rfl, fun a u h m => ⟨.inl h, fun z => m (drop_flat A n a z)⟩, fun _ _ h _ _ => h⟩
  unfold Al.drop
  simp only
  by_cases ei : n = i
  · subst ei
    rw [List.getElem?_set_self (List.getElem?_eq_some_iff.mp e).1]
    exact .inr rfl
  · rw [List.getElem?_set_ne ei]
    exact .inl e
theorem drop_nd (hn : A.all.Nodup) : (A.drop n).all.Nodup := by
  have key : ∀ {L : List (List Addr)} {n : Nat}, L.flatten.Nodup → (L.set n []).flatten.Nodup := by
    intro L
    induction L with
    | nil => intro n h; simpa using h
    | cons x L ih =>
      intro n h
      rw [List.flatten_cons, List.nodup_append] at h
      obtain ⟨h1, h2, h3⟩ := h
      cases n with
      | zero =>
        simpa using h2
      | succ n =>
        rw [List.set_cons_succ, List.flatten_cons, List.nodup_append]
        refine ⟨h1, ih h2, fun a ha b hb => h3 a ha b ?_⟩
        obtain ⟨y, hy, hb⟩ := List.mem_flatten.mp hb
        obtain ⟨i, hi⟩ := List.mem_iff_getElem?.mp hy
        by_cases e : n = i
        · subst e
          by_cases hl : n < L.length
          · rw [List.getElem?_set_self hl] at hi
            cases hi
            cases hb
          · rw [List.getElem?_eq_none (by simp; omega)] at hi
            cases hi
        · rw [List.getElem?_set_ne e] at hi
          exact List.mem_flatten.mpr ⟨y, List.mem_of_getElem? hi, hb⟩
  unfold Al.all at *
  rw [List.nodup_append] at *
  obtain ⟨h1, h2, h3⟩ := hn
  exact ⟨key h1, h2, fun a ha b hb => h3 a (drop_flat A n a ha) b hb⟩
theorem StR.drop (s : StR G A S H) : StR G (A.drop n) (S.set n .dead) H := by
  refine ⟨by simp [Al.drop, s.len], drop_nd s.nd, fun a ha => ?_, fun i k o e1 e2 => ?_⟩
  · refine s.alive a ?_
    unfold Al.all at *
    rcases List.mem_append.mp ha with z | z
    · exact List.mem_append_left _ (drop_flat A n a z)
    · exact List.mem_append_right _ z
  · by_cases ei : n = i
    · subst ei
      by_cases hl : n < S.length
      · rw [List.getElem?_set_self hl] at e2
        cases e2
        trivial
      · rw [List.getElem?_eq_none (by simp; omega)] at e2
        cases e2
    · rw [List.getElem?_set_ne ei] at e2
      unfold Al.drop at e1
      simp only at e1
      rw [List.getElem?_set_ne ei] at e1
      exact (s.box i k o e1 e2).keep Ext.drop.kp fun _ _ => rfl
theorem drop_out (hn : A.all.Nodup) (h : A.live[n]? = some l) : ∀ a ∈ l, a ∉ (A.drop n).all := by
  intro a ha z
  have hn' := hn
  unfold Al.all at hn z
  rw [List.nodup_append] at hn
  rcases List.mem_append.mp z with z | z
  · obtain ⟨x, hx, hb⟩ := List.mem_flatten.mp z
    obtain ⟨i, hi⟩ := List.mem_iff_getElem?.mp hx
    unfold Al.drop at hi
    simp only at hi
    by_cases e : n = i
    · subst e
      rw [List.getElem?_set_self (List.getElem?_eq_some_iff.mp h).1] at hi
      cases hi
      cases hb
    · rw [List.getElem?_set_ne e] at hi
      exact e (nd_live hn' h hi ha hb)
  · exact hn.2.2 a (live_set h a ha) a z rfl
theorem dpures_rvs {fs : List (Option Dv)} {ts : List Dt} {ws : List (Option V)} (e : dpures fs = some ts) (h : RF G A H fs ws) : ∃ vs, SlIs ws vs ∧ RVs G A H ts vs := by
  induction fs generalizing ts ws with
  | nil =>
    cases e
    exact ⟨[], fun i v z => by simp at z, (rfl : ([] : List V) = [])⟩
  | cons f fs ih =>
    cases f with
    | none => cases e
    | some d =>
      cases d with
      | loc n => cases e
      | d t =>
        unfold dpures at e
        cases e1 : dpures fs with
        | none => rw [e1] at e; cases e
        | some us =>
          rw [e1] at e
          cases e
          obtain ⟨v, ev, rv⟩ := h 0 (.d t) rfl
          cases ws with
          | nil => simp at ev
          | cons w0 ws =>
            obtain ⟨vs, hi, hv⟩ := ih (ws := ws) e1 fun i d he => by
              have := h (i + 1) d (by simpa using he)
              simpa using this
            refine ⟨v :: vs, fun i u z => ?_, v, vs, rfl, rv, hv⟩
            cases i with
            | zero =>
              simp at z ev
              subst z
              simpa using ev
            | succ i =>
              have := hi i u (by simpa using z)
              simpa using this
theorem frz_po {d d' : Dv} {S' : Sto} {v : V} (s : StR G A S H) (r : RD G A H d v) (e : frz d S = some (d', S')) : ∃ A', Ext A H A' H ∧ StR G A' S' H ∧ RD G A' H d' v := by
  cases d with
  | d t =>
    cases e
    exact ⟨A, .refl, s, r⟩
  | loc n =>
    unfold frz at e
    simp only at e
    cases es : S[n]? with
    | none => rw [es] at e; cases e
    | some o =>
      rw [es] at e
      cases o with
      | lst xs =>
        simp only at e
        cases ep : pures xs with
        | none => rw [ep] at e; cases e
        | some ts =>
          rw [ep] at e
          cases e
          obtain ⟨a, vs, rfl, hl, ha, rv⟩ := loc_lst s r es
          exact ⟨A.drop n, .drop, s.drop, a, vs, rfl, ⟨ha, drop_out s.nd hl a (by simp)⟩, (pures_rvs ep rv).kp Ext.drop.kp⟩
      | dct ks xs =>
        simp only at e
        cases ep : pures xs with
        | none => rw [ep] at e; cases e
        | some ts =>
          rw [ep] at e
          cases e
          obtain ⟨a, kvs, rfl, hl, ha, ek, rv⟩ := loc_dct s r es
          exact ⟨A.drop n, .drop, s.drop, a, kvs, rfl, drop_out s.nd hl a (by simp), .inl ha, ek, (pures_rvs ep rv).kp Ext.drop.kp⟩
      | ins c fs =>
        simp only at e
        cases ep : dpures fs with
        | none => rw [ep] at e; cases e
        | some ts =>
          rw [ep] at e
          cases e
          obtain ⟨a, dx, ws, rfl, hl, ne, hs, hf⟩ := loc_ins s r es
          obtain ⟨vs, hi, hv⟩ := dpures_rvs ep hf
          obtain ⟨u, hu⟩ := s.alive dx (List.mem_append_left _ (live_set hl dx (by simp)))
          exact ⟨A.drop n, .drop, s.drop, a, dx, ws, vs, rfl, drop_out s.nd hl a (by simp), drop_out s.nd hl dx (by simp), ⟨u, hu⟩, hs, hi, hv.kp Ext.drop.kp⟩
      | dead => cases e
      | tp xs => cases e
      | dcT ks xs => cases e
end
def mFrz (m : M Dv) : M Dv := fun ρ S => (m ρ S).bind fun d S1 => lift (frz d S1)
theorem e_frz {X : Cx} {G : Gs} {W : WX} {e : Expr} {m : M Dv} (h : PE X e (tM G W m)) : PE X e (tM G W (mFrz m)) := by
  refine h.sm fun σ H Q h => ?_
  obtain ⟨A, ρ, S, he, hs, p0⟩ := h
  refine ⟨A, ρ, S, he, hs, Po.step p0 fun d S1 A1 H1 x1 s1 p1 v rv => ?_⟩
  cases e1 : frz d S1 with
  | none => rw [e1] at p1; exact p1.elim
  | some q =>
    obtain ⟨d', S2⟩ := q
    rw [e1] at p1
    obtain ⟨A2, x2, s2, r2⟩ := frz_po s1 rv e1
    exact Po.at p1 x2 s2 v r2
end Sm
/-! Sm6: a call sees only what it is given; comprehensions. -/
namespace Sm
open PySem PySem.Spec PyProof.Rows L2

section
variable {G : Gs} {A A' A0 : Al} {H H' : Hp} {S S' : Sto}
/-- another reading of the same heap -/
theorem Kq.same (h : ∀ a, a ∉ A.all → a ∉ A'.all) : Kq A H A' H :=
  ⟨fun a u _ n r => ⟨r, h a n⟩, fun a u _ _ n r => ⟨r, h a n⟩, fun a u n r => ⟨⟨u, r⟩, h a n⟩, fun a o vs n r => ⟨r, h a n⟩⟩
theorem ExR.kq (x : Kq A H A' H') {c : Nat} {t : Dt} {cls : Value} {d : Option Addr} (h : ExR G A H c t cls d) : ExR G A' H' c t cls d := by
  obtain ⟨e, h⟩ := h
  refine ⟨e, ?_⟩
  rcases h with h | ⟨a, f, v, e1, e2, n, e3, r⟩
  · exact .inl h
  · obtain ⟨h1, n1⟩ := x.ex a _ nf_xd lk_xd n e3
    exact .inr ⟨a, f, v, e1, e2, n1, h1, RV.kq x r⟩
theorem pures_map : ∀ {ds : List Dv} {ts : List Dt}, pures ds = some ts → ds = ts.map .d
  | [], ts, e => by cases e; rfl
  | .d t :: ds, ts, e => by
    unfold pures at e
    cases e1 : pures ds with
    | none => rw [e1] at e; cases e
    | some us =>
      rw [e1] at e
      cases e
      simp [pures_map e1]
  | .loc n :: ds, ts, e => by cases e
theorem rds_pure {xs : List Dv} {vs : List V} (h : (pures xs).isSome = true) (x : Kq A H A' H') (r : RDs G A H xs vs) : RDs G A' H' xs vs := by
  cases e : pures xs with
  | none => rw [e] at h; cases h
  | some ts =>
    have r2 := RVs.kq x (pures_rvs e r)
    rw [pures_map e]
    exact r2.rds
theorem StR.alive' (s : StR G A S H) {a : Addr} {i : Nat} {l : List Addr} (h : A.live[i]? = some l) (ha : a ∈ l) : ∃ u, H a = some u := s.alive a (List.mem_append_left _ (live_set h a ha))
end
/-! ### alone -/
def iso (F : FM) : FM := fun ds S => match pures ds with
  | some _ => (match F ds [] with
    | .ok (.d t) _ => .ok (.d t) S
    | .er c t _ => .er c t S
    | _ => .bad)
  | none => .bad
theorem SpM.iso {G : Gs} {F : FM} {vs : List V} {H : Hp} {Q : VK} {E : XK} (h : SpM G (iso F) vs H Q E) : SpM G F vs H Q E := by
  obtain ⟨A, S, ds, r, s, p⟩ := h
  unfold Sm.iso at p
  cases ep : pures ds with
  | none => rw [ep] at p; exact p.elim
  | some ts =>
    rw [ep] at p
    have eall : ∀ a, a ∈ (⟨[], A.all⟩ : Al).all ↔ a ∈ A.all := fun a => by simp [Al.all]
    have s0 : StR G ⟨[], A.all⟩ [] H := ⟨rfl, by simpa [Al.all] using s.nd, fun a ha => s.alive a ((eall a).mp ha), fun i l o e => by simp at e⟩
    have r0 : RDs G ⟨[], A.all⟩ H ds vs := rds_pure (by rw [ep]; rfl) (Kq.same fun a n z => n ((eall a).mp z)) r
    refine ⟨⟨[], A.all⟩, [], ds, r0, s0, ?_⟩
    have key : ∀ A' H', Ext ⟨[], A.all⟩ H A' H' → Ext A H A H' ∧ StR G A S H' ∧ ∀ a, a ∉ A'.all → a ∉ A.all := by
      intro A' H' x
      have kp : ∀ a u, H a = some u → a ∈ A.all → H' a = some u := fun a u e m => x.keepH a u e (by simp) m
      have x1 : Ext A H A H' := ⟨fun _ _ e => .inl e, fun _ _ _ _ => Iff.rfl, fun a u e n => ⟨(x.keep a u e (by simp)).1, n⟩, fun a u e n m => kp a u e (List.mem_append_right _ m)⟩
      refine ⟨x1, ⟨s.len, s.nd, fun a ha => ?_, fun i l o e1 e2 => (s.box i l o e1 e2).keep x1.kp fun a ha => ?_⟩, fun a n z => ?_⟩
      · obtain ⟨u, e⟩ := s.alive a ha
        exact ⟨u, kp a u e ha⟩
      · obtain ⟨u, e⟩ := s.alive' e1 ha
        rw [kp a u e (List.mem_append_left _ (live_set e1 a ha)), e]
      · obtain ⟨u, e⟩ := s.alive a z
        exact (mem_all.mp n).2 ((x.hid a u e (by simp)).mpr z)
    cases eF : F ds [] with
    | bad => rw [eF] at p; exact p.elim
    | er c t S1 =>
      rw [eF] at p
      intro A' H' cls d x s1 e
      obtain ⟨x1, s2, sub⟩ := key A' H' x
      exact p A H' cls d x1 s2 (e.kq (Kq.same sub))
    | ok d S1 =>
      rw [eF] at p
      cases d with
      | loc n => exact p.elim
      | d t =>
        intro A' H' x s1 v rv
        obtain ⟨x1, s2, sub⟩ := key A' H' x
        exact p A H' x1 s2 v (RV.kq (t := t) (Kq.same sub) rv)
/-! ### one box is handed on -/
def pureB (b : Bo) : Bool := match b with
  | .lst xs => (pures xs).isSome
  | .dct _ xs => (pures xs).isSome
  | .ins _ fs => fs.all fun o => match o with
    | none => true
    | some (.d _) => true
    | _ => false
  | .dead => false
  | .tp xs => (pures xs).isSome
  | .dcT _ xs => (pures xs).isSome
theorem rb_pure {G : Gs} {A A' : Al} {H H' : Hp} {l : List Addr} {b : Bo} (hp : pureB b = true) (x : Kq A H A' H') (hl : ∀ a ∈ l, H' a = H a) (h : RB G A H l b) : RB G A' H' l b := by
  cases b with
  | lst xs =>
    obtain ⟨a, vs, rfl, e, r⟩ := h
    exact ⟨a, vs, rfl, (hl a (by simp)).trans e, rds_pure hp x r⟩
  | dct ks xs =>
    obtain ⟨a, vs, rfl, e, ek, r⟩ := h
    exact ⟨a, vs, rfl, (hl a (by simp)).trans e, ek, rds_pure hp x r⟩
  | ins c fs =>
    obtain ⟨a, dx, ws, rfl, e, r⟩ := h
    refine ⟨a, dx, ws, rfl, ?_, fun i d hd => ?_⟩
    · rcases e with ⟨e, hw⟩ | ⟨e, e2⟩
      · exact .inl ⟨(hl a (by simp)).trans e, hw⟩
      · exact .inr ⟨(hl a (by simp)).trans e, (hl dx (by simp)).trans e2⟩
    · obtain ⟨v, ev, rv⟩ := r i d hd
      refine ⟨v, ev, ?_⟩
      have hm : some d ∈ fs := List.mem_of_getElem? hd
      have := List.all_eq_true.mp hp _ hm
      cases d with
      | d t => exact RV.kq (t := t) x rv
      | loc n => simp at this
  | dead => cases hp
  | tp xs =>
    obtain ⟨a, vs, rfl, e, r⟩ := h
    exact ⟨a, vs, rfl, (hl a (by simp)).trans e, rds_pure hp x r⟩
  | dcT ks xs =>
    obtain ⟨a, vs, rfl, e, ek, r⟩ := h
    exact ⟨a, vs, rfl, (hl a (by simp)).trans e, ek, rds_pure hp x r⟩
def view (F : FM) : FM := fun ds S => match ds with
  | .loc n :: r => (match pures r, S[n]? with
    | some _, some o => if pureB o = true then (match F (.loc 0 :: r) [o] with
      | .ok (.d t) (o' :: _) => if pureB o' = true then .ok (.d t) (S.set n o') else .bad
      | .er c t (o' :: _) => if pureB o' = true then .er c t (S.set n o') else .bad
      | _ => .bad) else .bad
    | _, _ => .bad)
  | _ => .bad
theorem SpM.view {G : Gs} {F : FM} {vs : List V} {H : Hp} {Q : VK} {E : XK} (h : SpM G (view F) vs H Q E) : SpM G F vs H Q E := by
  obtain ⟨A, S, ds, r, s, p⟩ := h
  cases r with
  | nil => exact p.elim
  | @cons d v ds' vs' rd rr =>
    cases d with
    | d t => exact p.elim
    | loc n =>
      unfold Sm.view at p
      simp only at p
      cases ep : pures ds' with
      | none => rw [ep] at p; exact p.elim
      | some ts =>
        cases eo : S[n]? with
        | none => rw [ep, eo] at p; exact p.elim
        | some o =>
          rw [ep, eo] at p
          simp only at p
          by_cases hpo : pureB o = true
          · simp only [hpo, if_true] at p
            obtain ⟨l, hl, fl⟩ := rd
            have hbox := s.box n l o hl eo
            have hin : ∀ a, a ∈ (⟨[l], (A.drop n).all⟩ : Al).all ↔ a ∈ A.all := by
              intro a
              unfold Al.all
              simp only [List.flatten_cons, List.flatten_nil, List.append_nil, List.mem_append]
              constructor
              · rintro (h | h | h)
                · exact .inl (live_set hl a h)
                · exact .inl (drop_flat A n a h)
                · exact .inr h
              · rintro (h | h)
                · obtain ⟨x, hx, hb⟩ := List.mem_flatten.mp h
                  obtain ⟨i, hi⟩ := List.mem_iff_getElem?.mp hx
                  by_cases e : n = i
                  · subst e
                    rw [hl] at hi
                    cases hi
                    exact .inl hb
                  · refine .inr (.inl (List.mem_flatten.mpr ⟨x, ?_, hb⟩))
                    unfold Al.drop
                    simp only
                    exact List.mem_of_getElem? (i := i) (by rw [List.getElem?_set_ne e]; exact hi)
                · exact .inr (.inr h)
            have hlnd : l.Nodup := by
              have hn := s.nd
              unfold Al.all at hn
              rw [List.nodup_append] at hn
              exact (nd_flat hn.1).1 _ (List.mem_of_getElem? hl)
            have hnd : (⟨[l], (A.drop n).all⟩ : Al).all.Nodup := by
              show (([l] : List (List Addr)).flatten ++ (A.drop n).all).Nodup
              simp only [List.flatten_cons, List.flatten_nil, List.append_nil]
              rw [List.nodup_append]
              exact ⟨hlnd, drop_nd s.nd, fun a ha b hb e => drop_out s.nd hl a ha (by rw [e]; exact hb)⟩
            have k0 : Kq A H ⟨[l], (A.drop n).all⟩ H := Kq.same fun a n z => n ((hin a).mp z)
            have s0 : StR G ⟨[l], (A.drop n).all⟩ [o] H := by
              refine ⟨rfl, hnd, fun a ha => s.alive a ((hin a).mp ha), fun i l' o' e1 e2 => ?_⟩
              cases i with
              | zero =>
                simp at e1 e2
                subst e1 e2
                exact rb_pure hpo k0 (fun _ _ => rfl) hbox
              | succ i => simp at e1
            have r0 : RDs G ⟨[l], (A.drop n).all⟩ H (.loc 0 :: ds') (v :: vs') := .cons ⟨l, rfl, fl⟩ (rds_pure (by rw [ep]; rfl) k0 rr)
            refine ⟨_, [o], _, r0, s0, ?_⟩
            have key : ∀ A' H' o' rest, Ext ⟨[l], (A.drop n).all⟩ H A' H' → StR G A' (o' :: rest) H' → pureB o' = true → Ext A H A H' ∧ StR G A (S.set n o') H' ∧ ∀ a, a ∉ A'.all → a ∉ A.all := by
              intro A' H' o' rest x s1 hp'
              have kp : ∀ a u, H a = some u → a ∉ l → a ∈ A.all → H' a = some u := fun a u e hn hm => x.keepH a u e (by simpa using hn) (by
                have z := (hin a).mpr hm
                rcases List.mem_append.mp z with z | z
                · simp at z
                  exact absurd z hn
                · exact z)
              have x1 : Ext A H A H' := ⟨fun _ _ e => .inl e, fun _ _ _ _ => Iff.rfl, fun a u e m => ⟨(x.keep a u e (by simpa using fun z => m (live_set hl a z))).1, m⟩, fun a u e m hm => kp a u e (fun z => m (live_set hl a z)) (List.mem_append_right _ hm)⟩
              have hl' : A'.live[0]? = some l := by
                rcases x.live 0 l rfl with z | z
                · exact z
                · exfalso
                  have b0 := s1.box 0 [] o' z rfl
                  cases o' with
                  | lst xs => obtain ⟨a, vs, e, _⟩ := b0; cases e
                  | dct ks xs => obtain ⟨a, vs, e, _⟩ := b0; cases e
                  | ins c fs => obtain ⟨a, dx, vs, e, _⟩ := b0; cases e
                  | dead => cases hp'
                  | tp xs => obtain ⟨a, vs, e, _⟩ := b0; cases e
                  | dcT ks xs => obtain ⟨a, vs, e, _⟩ := b0; cases e
              have sub : ∀ a, a ∉ A'.all → a ∉ A.all := by
                intro a m z
                have z2 := (hin a).mpr z
                rcases List.mem_append.mp z2 with z3 | z3
                · simp at z3
                  exact m (List.mem_append_left _ (live_set hl' a z3))
                · obtain ⟨u, e⟩ := s.alive a z
                  by_cases hal : a ∈ l
                  · exact m (List.mem_append_left _ (live_set hl' a hal))
                  · exact (mem_all.mp m).2 ((x.hid a u e (by simpa using hal)).mpr z3)
              have hbox' : RB G A H' l o' := rb_pure hp' (Kq.same sub) (fun _ _ => rfl) (s1.box 0 l o' hl' rfl)
              refine ⟨x1, ⟨by simp [s.len], s.nd, fun a ha => ?_, fun i k b e1 e2 => ?_⟩, sub⟩
              · by_cases hal : a ∈ l
                · exact s1.alive' hl' hal
                · obtain ⟨u, e⟩ := s.alive a ha
                  exact ⟨u, kp a u e hal ha⟩
              · by_cases ei : n = i
                · subst ei
                  have hlt : n < S.length := (List.getElem?_eq_some_iff.mp eo).1
                  rw [List.getElem?_set_self hlt] at e2
                  cases e2
                  rw [hl] at e1
                  cases e1
                  exact hbox'
                · rw [List.getElem?_set_ne ei] at e2
                  refine (s.box i k b e1 e2).keep x1.kp fun a ha => ?_
                  obtain ⟨u, e⟩ := s.alive' e1 ha
                  rw [kp a u e (fun z => ei (nd_live s.nd hl e1 z ha)) (List.mem_append_left _ (live_set e1 a ha)), e]
            cases eF : F (.loc 0 :: ds') [o] with
            | bad => rw [eF] at p; exact p.elim
            | er c t S1 =>
              rw [eF] at p
              cases S1 with
              | nil => exact p.elim
              | cons o' rest =>
                simp only at p
                by_cases hp' : pureB o' = true
                · simp only [hp', if_true] at p
                  intro A' H' cls d x s1 e
                  obtain ⟨x1, s2, sub⟩ := key A' H' o' rest x s1 hp'
                  exact p A H' cls d x1 s2 (e.kq (Kq.same sub))
                · simp only [hp'] at p
                  exact p.elim
            | ok d S1 =>
              rw [eF] at p
              cases d with
              | loc m => exact p.elim
              | d t =>
                cases S1 with
                | nil => exact p.elim
                | cons o' rest =>
                  simp only at p
                  by_cases hp' : pureB o' = true
                  · simp only [hp', if_true] at p
                    intro A' H' x s1 v' rv
                    obtain ⟨x1, s2, sub⟩ := key A' H' o' rest x s1 hp'
                    exact p A H' x1 s2 v' (RV.kq (t := t) (Kq.same sub) rv)
                  · simp only [hp'] at p
                    exact p.elim
          · simp only [hpo] at p
            exact p.elim
theorem CallW.isoF {P : Program} {w : World} {G : Gs} {mg : Str → Option Value} {base : Heap} {k : Nat} {f : Addr} {n : Nat} {ks : List Str} {F : FM} (h : CallW P w G mg base k f n ks F) : CallW P w G mg base k f n ks (iso F) := h.imp fun _ _ _ _ q => q.iso
theorem CallW.viewF {P : Program} {w : World} {G : Gs} {mg : Str → Option Value} {base : Heap} {k : Nat} {f : Addr} {n : Nat} {ks : List Str} {F : FM} (h : CallW P w G mg base k f n ks F) : CallW P w G mg base k f n ks (view F) := h.imp fun _ _ _ _ q => q.view
/-- another function, equal wherever it promises something -/
def FLe (F' F : FM) : Prop := ∀ ds S, F' ds S = .bad ∨ F' ds S = F ds S
theorem CallW.le {P : Program} {w : World} {G : Gs} {mg : Str → Option Value} {base : Heap} {k : Nat} {f : Addr} {n : Nat} {ks : List Str} {F F' : FM} (h : CallW P w G mg base k f n ks F) (l : FLe F' F) : CallW P w G mg base k f n ks F' := h.imp fun vs H Q E q => by
  obtain ⟨A, S, ds, r, s, p⟩ := q
  rcases l ds S with e | e
  · rw [e] at p
    exact p.elim
  · rw [e] at p
    exact ⟨A, S, ds, r, s, p⟩
end Sm
/-! Sm7: comprehensions. -/
namespace Sm
open PySem PySem.Spec PyProof.Rows L2

/-- no exception leaves a comprehension -/
def nox {α : Type} (r : Rz α) : Rz α := match r with
  | .ok a S => .ok a S
  | _ => .bad
@[simp] theorem nox_ok {α : Type} {a : α} {S : Sto} : nox (.ok a S) = .ok a S := rfl
@[simp] theorem nox_bad {α : Type} : nox (.bad : Rz α) = .bad := rfl
theorem Po.nox {α : Type} {G : Gs} {E E' : XK} {A : Al} {H : Hp} {r : Rz α} {k : Al → Hp → α → Prop} (h : Po G E A H (nox r) k) : Po G E' A H r k := by
  cases r with
  | ok a S => exact h
  | er c t S => exact h.elim
  | bad => exact h
def wipeE (ρ : Env) : List Nat → Env
  | [] => ρ
  | v :: vs => (wipeE ρ vs).set v none
theorem EnvR.wipe {G : Gs} {A : Al} {H : Hp} {ρ : Env} {σ : L2.St} (h : EnvR G A H ρ σ) : ∀ vs, EnvR G A H (wipeE ρ vs) (wipe σ vs)
  | [] => h
  | v :: vs => by
    have ih := EnvR.wipe h vs
    refine ⟨by show ((wipeE ρ vs).set v none).length = ((L2.wipe σ vs).set v none).length; simp [ih.len], fun i d e => ?_⟩
    have e' : ((wipeE ρ vs).set v none)[i]? = some (some d) := e
    by_cases hv : v = i
    · subst hv
      by_cases hl : v < (wipeE ρ vs).length
      · rw [List.getElem?_set_self hl] at e'
        cases e'
      · rw [List.getElem?_eq_none (by simp; omega)] at e'
        cases e'
    · rw [List.getElem?_set_ne hv] at e'
      obtain ⟨u, eu, r⟩ := ih.at_ i d e'
      exact ⟨u, by show ((L2.wipe σ vs).set v none)[i]? = _; rw [List.getElem?_set_ne hv]; exact eu, r⟩
/-- slots outside of L alone are kept: the wiped slots are the same -/
theorem wipe_same {σ σ' : L2.St} {vs L : List Nat} (hL : ∀ i ∈ L, i ∈ vs) (hk : ∀ j : Nat, j ∉ L → σ'[j]? = σ[j]?) (hl : σ'.length = σ.length) : L2.wipe σ' vs = L2.wipe σ vs := by
  apply List.ext_getElem?
  intro j
  by_cases hj : j ∈ vs
  · have key : ∀ (τ : L2.St) (ws : List Nat), j ∈ ws → j < τ.length → (L2.wipe τ ws)[j]? = some none := by
      intro τ ws
      induction ws with
      | nil => intro h; cases h
      | cons w ws ih =>
        intro h hlt
        show ((L2.wipe τ ws).set w none)[j]? = some none
        by_cases e : w = j
        · subst e
          rw [List.getElem?_set_self (by rw [wipe_length]; exact hlt)]
        · rw [List.getElem?_set_ne e]
          exact ih (by rcases List.mem_cons.mp h with z | z; exact absurd z.symm e; exact z) hlt
    by_cases hlt : j < σ.length
    · rw [key σ vs hj hlt, key σ' vs hj (by rw [hl]; exact hlt)]
    · rw [List.getElem?_eq_none (by rw [wipe_length]; omega), List.getElem?_eq_none (by rw [wipe_length]; omega)]
  · rw [wipe_out hj, wipe_out hj]
    exact hk j fun z => hj (hL j z)
/-! ### hiding -/
def Al.hide (A : Al) (D : Addr) : Al := ⟨A.live, D :: A.hid⟩
def Al.show_ (A : Al) (D : Addr) : Al := ⟨A.live, A.hid.filter fun a => decide (a ≠ D)⟩
section
variable {G : Gs} {A A' : Al} {H H' : Hp} {S : Sto} {D : Addr} {o : HO}
theorem Ext.hide (h : H D = none) : Ext A H (A.hide D) (upd H D o) :=
  ⟨fun _ _ e => .inl e, fun a u e _ => ⟨fun z => by
    rcases List.mem_cons.mp z with z | z
    · exact absurd z (ne_of_none e h)
    · exact z, fun z => List.mem_cons_of_mem _ z⟩, fun a u e n => ⟨.inl (upd_old h e), n⟩, fun a u e _ _ => upd_old h e⟩
theorem hide_all {a : Addr} : a ∈ (A.hide D).all ↔ a = D ∨ a ∈ A.all := by
  unfold Al.hide Al.all
  simp only [List.mem_append, List.mem_cons]
  constructor
  · rintro (h | h | h)
    · exact .inr (.inl h)
    · exact .inl h
    · exact .inr (.inr h)
  · rintro (h | h | h)
    · exact .inr (.inl h)
    · exact .inl h
    · exact .inr (.inr h)
theorem StR.hide (s : StR G A S H) (h : H D = none) : StR G (A.hide D) S (upd H D o) := by
  have hD := s.out h
  refine ⟨s.len, ?_, fun a ha => ?_, fun i l b e1 e2 => (s.box i l b e1 e2).keep (Ext.hide h).kp fun a ha => ?_⟩
  · have hn := s.nd
    unfold Al.hide Al.all at *
    simp only at *
    rw [List.nodup_append] at *
    obtain ⟨n1, n2, n3⟩ := hn
    refine ⟨n1, List.nodup_cons.mpr ⟨fun z => hD (List.mem_append_right _ z), n2⟩, fun a ha b hb e => ?_⟩
    rcases List.mem_cons.mp hb with z | z
    · subst e z
      exact hD (List.mem_append_left _ ha)
    · exact n3 a ha b z e
  · rcases hide_all.mp ha with z | z
    · subst z
      exact ⟨_, upd_same⟩
    · obtain ⟨u, e⟩ := s.alive a z
      exact ⟨u, upd_old h e⟩
  · obtain ⟨u, e⟩ := s.alive' e1 ha
    rw [upd_old h e, e]
/-- what is hidden changes -/
theorem kp_poke (hD : D ∈ A.hid) : Kp A H A (upd H D o) := by
  have hne : ∀ a, a ∉ A.all → a ≠ D := fun a n z => n (by rw [z]; exact List.mem_append_right _ hD)
  refine ⟨⟨fun a u _ n r => ⟨?_, n⟩, fun a u _ _ n r => ⟨by rw [upd_ne (hne a n)]; exact r, n⟩, fun a u n r => ⟨⟨u, by rw [upd_ne (hne a n)]; exact r⟩, n⟩, fun a o vs n r => ⟨by rw [upd_ne (hne a n)]; exact r, n⟩⟩, fun _ _ e => .inl e⟩
  rcases r with r | ⟨ob, r⟩
  · exact .inl (by rw [upd_ne (hne a n)]; exact r)
  · exact .inr ⟨ob, by rw [upd_ne (hne a n)]; exact r⟩
theorem StR.poke (s : StR G A S H) (hD : D ∈ A.hid) : StR G A S (upd H D o) := by
  refine ⟨s.len, s.nd, fun a ha => ?_, fun i l b e1 e2 => (s.box i l b e1 e2).keep (kp_poke hD) fun a ha => ?_⟩
  · by_cases e : a = D
    · subst e
      exact ⟨_, upd_same⟩
    · rw [upd_ne e]
      exact s.alive a ha
  · have hn := s.nd
    unfold Al.all at hn
    rw [List.nodup_append] at hn
    exact upd_ne (hn.2.2 a (live_set e1 a ha) D hD)
theorem show_all {a : Addr} : a ∈ (A.show_ D).all → a ∈ A.all := by
  unfold Al.show_ Al.all
  simp only [List.mem_append, List.mem_filter]
  rintro (h | ⟨h, _⟩)
  · exact .inl h
  · exact .inr h
theorem kp_show : Kp A H (A.show_ D) H :=
  ⟨Kq.same fun a n z => n (show_all z), fun _ _ e => .inl e⟩
theorem StR.show_ (s : StR G A S H) : StR G (A.show_ D) S H := by
  refine ⟨s.len, ?_, fun a ha => s.alive a (show_all ha), fun i l b e1 e2 => (s.box i l b e1 e2).keep kp_show fun _ _ => rfl⟩
  have hn := s.nd
  unfold Al.show_ Al.all at *
  simp only at *
  rw [List.nodup_append] at *
  obtain ⟨n1, n2, n3⟩ := hn
  exact ⟨n1, n2.filter _, fun a ha b hb => n3 a ha b (List.mem_filter.mp hb).1⟩
theorem show_out (s : StR G A S H) (hD : D ∈ A.hid) : D ∉ (A.show_ D).all := by
  intro z
  have hn := s.nd
  unfold Al.show_ Al.all at z
  unfold Al.all at hn
  rw [List.nodup_append] at hn
  simp only [List.mem_append, List.mem_filter] at z
  rcases z with z | ⟨_, z⟩
  · exact hn.2.2 D z D hD rfl
  · simp at z
/-- all that happened but at D, which was new -/
structure ExtB (D : Addr) (A : Al) (H : Hp) (A' : Al) (H' : Hp) : Prop where
  live : ∀ (i : Nat) (l : List Addr), A.live[i]? = some l → A'.live[i]? = some l ∨ A'.live[i]? = some []
  hid : ∀ a u, a ≠ D → H a = some u → a ∉ A.live.flatten → (a ∈ A'.hid ↔ a ∈ A.hid)
  keep : ∀ a u, a ≠ D → H a = some u → a ∉ A.live.flatten → Fz u (H' a) ∧ a ∉ A'.live.flatten
  keepH : ∀ a u, a ≠ D → H a = some u → a ∉ A.live.flatten → a ∈ A.hid → H' a = some u
  inH : D ∈ A'.hid
theorem ExtB.start : ExtB D A H (A.hide D) (upd H D o) :=
  ⟨fun _ _ e => .inl e, fun a u ne e _ => ⟨fun z => by
    rcases List.mem_cons.mp z with z | z
    · exact absurd z ne
    · exact z, fun z => List.mem_cons_of_mem _ z⟩, fun a u ne e n => ⟨.inl (by rw [upd_ne ne]; exact e), n⟩, fun a u ne e _ _ => by rw [upd_ne ne]; exact e, List.mem_cons_self⟩
theorem ExtB.step {A1 : Al} {H1 : Hp} (x : ExtB D A H A1 H1) (y : Ext A1 H1 A' H') (s : StR G A1 S H1) : ExtB D A H A' H' := by
  refine ⟨fun i l e => ?_, fun a u ne e n => ?_, fun a u ne e n => ?_, fun a u ne e n m => ?_, ?_⟩
  · rcases x.live i l e with z | z
    · exact y.live i l z
    · rcases y.live i [] z with z | z
      · exact .inr z
      · exact .inr z
  · obtain ⟨h1, n1⟩ := x.keep a u ne e n
    obtain ⟨v, hv⟩ := h1.there
    exact (y.hid a v hv n1).trans (x.hid a u ne e n)
  · obtain ⟨h1, n1⟩ := x.keep a u ne e n
    obtain ⟨v, hv⟩ := h1.there
    obtain ⟨h2, n2⟩ := y.keep a v hv n1
    rw [hv] at h1
    exact ⟨h1.step h2, n2⟩
  · exact y.keepH a u (x.keepH a u ne e n m) (x.keep a u ne e n).2 ((x.hid a u ne e n).mpr m)
  · obtain ⟨u, e⟩ := s.alive D (List.mem_append_right _ x.inH)
    have hn := s.nd
    unfold Al.all at hn
    rw [List.nodup_append] at hn
    exact (y.hid D u e fun z => hn.2.2 D z D x.inH rfl).mpr x.inH
theorem ExtB.poke {A1 : Al} {H1 : Hp} (x : ExtB D A H A1 H1) : ExtB D A H A1 (upd H1 D o) :=
  ⟨x.live, x.hid, fun a u ne e n => ⟨by rw [upd_ne ne]; exact (x.keep a u ne e n).1, (x.keep a u ne e n).2⟩, fun a u ne e n m => by rw [upd_ne ne]; exact x.keepH a u ne e n m, x.inH⟩
theorem ExtB.done {A1 : Al} {H1 : Hp} (x : ExtB D A H A1 H1) (h : H D = none) : Ext A H (A1.show_ D) H1 :=
  ⟨x.live, fun a u e n => by
    have ne := ne_of_none e h
    unfold Al.show_
    simp only [List.mem_filter]
    exact ⟨fun z => (x.hid a u ne e n).mp z.1, fun z => ⟨(x.hid a u ne e n).mpr z, by simpa using ne⟩⟩, fun a u e n => x.keep a u (ne_of_none e h) e n, fun a u e n m => x.keepH a u (ne_of_none e h) e n m⟩
/-- a walk goes on beside D -/
theorem Ext.ofB {A1 : Al} {H1 : Hp} (x : ExtB D A H A1 H1) (h : H D = none) : Ext A H A1 H1 :=
  ⟨x.live, fun a u e n => x.hid a u (ne_of_none e h) e n, fun a u e n => x.keep a u (ne_of_none e h) e n, fun a u e n m => x.keepH a u (ne_of_none e h) e n m⟩
/-- D stands while it is hidden -/
theorem hid_keep (s : StR G A S H) (hD : D ∈ A.hid) (x : Ext A H A' H') : H' D = H D := by
  obtain ⟨u, e⟩ := s.alive D (List.mem_append_right _ hD)
  have hn := s.nd
  unfold Al.all at hn
  rw [List.nodup_append] at hn
  rw [x.keepH D u e (fun z => hn.2.2 D z D hD rfl) hD, e]
end
/-! ### list comprehensions -/
def bz {α β : Type} (o : Option α) (f : α → Rz β) : Rz β := match o with
  | some a => f a
  | none => .bad
def lcL (g : GM) (c : M Bool) (e : M Dv) (ρ : Env) : List Dt → Sto → Rz (List Dv)
  | [], S => .ok [] S
  | t :: ts, S => bz (g (.d t) ρ) fun ρ1 => (nox (c ρ1 S)).bind fun k S1 => if k = true then (nox (e ρ1 S1)).bind fun d S2 => (lcL g c e ρ ts S2).bind fun ds S3 => .ok (d :: ds) S3 else lcL g c e ρ ts S1
def cYes : M Bool := fun _ S => .ok true S
/-- the items of the new list -/
def mLcI (vs : List Nat) (it : M (List Dt)) (g : GM) (c : M Bool) (e : M Dv) : M (List Dv) := fun ρ S => (it ρ S).bind fun ts S1 => if ts.length ≤ 16777216 then lcL g c e (wipeE ρ vs) ts S1 else .bad
theorem Po.bz {α β : Type} {G : Gs} {E : XK} {A : Al} {H : Hp} {o : Option α} {f : α → Rz β} {k : Al → Hp → β → Prop} (h : Po G E A H (bz o f) k) : ∃ a, o = some a ∧ Po G E A H (f a) k := by
  cases o with
  | none => exact h.elim
  | some a => exact ⟨a, rfl, h⟩
section
variable {X : Cx} {G : Gs} {W : WX} {kk : Nat} {elt tg iter : Expr} {ifs : List Expr} {scope : Scope} {own : List (Str × Nat)} {pos : Pos} {it : M (List Dt)} {g : GM} {t : TG} {L : List Nat} {cm : M Bool} {em : M Dv}
theorem ts_nil {X : Cx} : PTs X [] (tMT G W0 cYes) := by
  refine ⟨fun pins s σ H Q I h => ?_⟩
  obtain ⟨A, ρ, S, he, hs, p⟩ := h
  exact pts_nil.run pins s σ H Q I (Po.now p hs)
theorem ts_one {X : Cx} {c : Expr} (h : PT X c (tMT G W0 cm)) : PTs X [c] (tMT G W0 cm) := pts_one h
/-- the loop: what it asks, by a mirror whose end is k -/
theorem lc_loop {σ : L2.St} {H1 : Hp} {A1 : Al} {ρ : Env} {S1 : Sto} {ts : List Dt} {J : It} {D : Addr} {E : XK} {vs : List Nat} {Fin : Hp → Prop} (hgs : TgS G t g L) (hL : ∀ i ∈ L, i ∈ vs) (wk : Wk G J A1 H1 ts) (he : EnvR G A1 H1 ρ σ) (hs : StR G A1 S1 H1) (hD : H1 D = none) (hlen : ts.length ≤ 16777216)
    {kf : List Dv → Sto → Rz Dv} {Qf : Al → Hp → Dv → Prop}
    (p : Po G E A1 H1 ((lcL g cm em (wipeE ρ vs) ts S1).bind kf) Qf)
    (hfin : ∀ ds ws S' A' H', StR G A' S' H' → ExtB D A1 H1 A' H' → H' D = some (.lst ws) → RDs G A' H' ds ws → Po G E A1 H1 (kf ds S') Qf → Fin H') :
    ∃ W : Nat → Nat → Hp → Prop, (∃ m, W 0 m (upd H1 D (.lst []))) ∧ ∀ i m H, W i m H →
      (J.stop i H ∧ Fin H) ∨ (J.go i H ∧ ∃ Nx : Hp → Prop, (∀ H', Nx H' → ∃ m', m' < m ∧ W (i + 1) m' H') ∧ ∀ x H', J.yld i H x H' → t x (wipe σ vs) H' fun σ2 H2 => wipe σ2 vs = wipe σ vs ∧ tMT G W0 cm σ2 H2 fun b H3 =>
        if b = true then tM G W0 em σ2 H3 fun y H4 => ∃ acc, H4 D = some (.lst acc) ∧ acc.length < sizeLine ∧ Nx (upd H4 D (.lst (acc ++ [y]))) else Nx H3) := by
  let Inw : Nat → Hp → Prop := fun i H' => ∃ A' S' ds ws, StR G A' S' H' ∧ ExtB D A1 H1 A' H' ∧ H' D = some (.lst ws) ∧ RDs G A' H' ds ws ∧ ws.length ≤ i ∧ i ≤ ts.length ∧
    Po G E A1 H1 ((lcL g cm em (wipeE ρ vs) (ts.drop i) S').bind fun es S'' => kf (ds ++ es) S'') Qf
  refine ⟨fun i m H' => m = ts.length - i ∧ Inw i H', ⟨_, rfl, A1.hide D, S1, [], [], hs.hide hD, .start, upd_same, .nil, Nat.le_refl _, Nat.zero_le _, ?_⟩, fun i m H' hW => ?_⟩
  · simpa using p
  · obtain ⟨hm, A', S', ds, ws, s', x', hDw, rds, hwl, hi, q⟩ := hW
    by_cases hlt : i < ts.length
    · refine .inr ⟨wk.go i A' H' hlt (.ofB x' hD), Inw (i + 1), fun H2 hN => ⟨ts.length - (i + 1), by omega, rfl, hN⟩, fun x H2 hy => ?_⟩
      obtain ⟨d, ed, xy, sy, rv⟩ := wk.yld i A' H' S' x H2 hlt (.ofB x' hD) s' hy
      have hd : ts.drop i = d :: ts.drop (i + 1) := by
        rw [List.drop_eq_getElem_cons hlt]
        rw [List.getElem?_eq_getElem hlt] at ed
        cases ed
        rfl
      rw [hd] at q
      unfold lcL at q
      cases eg : g (.d d) (wipeE ρ vs) with
      | none => rw [eg] at q; exact q.elim
      | some ρ1 =>
        rw [eg] at q
        have x2 := x'.step xy s'
        have hw : EnvR G A' H2 (wipeE ρ vs) (wipe σ vs) := (he.kp (Ext.ofB x2 hD).kp).wipe vs
        refine hgs A' S' _ ρ1 (wipe σ vs) H2 (.d d) x _ hw sy rv eg fun σ2 he2 hk2 hl2 => ?_
        refine ⟨?_, ?_⟩
        · have z := wipe_same (σ := wipe σ vs) (σ' := σ2) hL hk2 hl2
          rw [z]
          apply List.ext_getElem?
          intro j
          by_cases hj : j ∈ vs
          · have key : ∀ (τ : L2.St) (us : List Nat), j ∈ us → j < τ.length → (L2.wipe τ us)[j]? = some none := by
              intro τ us
              induction us with
              | nil => intro h; cases h
              | cons w us ih =>
                intro h hlt
                show ((L2.wipe τ us).set w none)[j]? = some none
                by_cases e : w = j
                · subst e
                  rw [List.getElem?_set_self (by rw [wipe_length]; exact hlt)]
                · rw [List.getElem?_set_ne e]
                  exact ih (by rcases List.mem_cons.mp h with z | z; exact absurd z.symm e; exact z) hlt
            by_cases hl : j < σ.length
            · rw [key σ vs hj hl, key (L2.wipe σ vs) vs hj (by rw [wipe_length]; exact hl)]
            · rw [List.getElem?_eq_none (by rw [wipe_length, wipe_length]; omega), List.getElem?_eq_none (by rw [wipe_length]; omega)]
          · rw [wipe_out hj]
        · have hDH2 : H2 D = some (.lst ws) := (hid_keep s' x'.inH xy).trans hDw
          have rds2 := rds.kp xy.kp
          -- the test
          refine ⟨A', ρ1, S', he2, sy, ?_⟩
          simp only [bz] at q
          cases ec : cm ρ1 S' with
          | bad => rw [ec] at q; exact q.elim
          | er c0 t0 S0 => rw [ec] at q; exact q.elim
          | ok k S2 =>
            rw [ec] at q
            simp only [nox_ok, bind_ok] at q
            intro A3 H3 x3 s3
            have xb3 := x2.step x3 sy
            have hD3 : H3 D = some (.lst ws) := (hid_keep sy x2.inH x3).trans hDH2
            cases k with
            | false =>
              simp only [Bool.false_eq_true, if_false] at q ⊢
              exact ⟨A3, S2, ds, ws, s3, xb3, hD3, rds2.kp x3.kp, by omega, by omega, q⟩
            | true =>
              simp only [if_true] at q ⊢
              refine ⟨A3, ρ1, S2, he2.kp x3.kp, s3, ?_⟩
              cases ee : em ρ1 S2 with
              | bad => rw [ee] at q; exact q.elim
              | er c0 t0 S0 => rw [ee] at q; exact q.elim
              | ok dv S4 =>
                rw [ee] at q
                simp only [nox_ok, bind_ok] at q
                intro A4 H4 x4 s4 y ry
                have xb4 := xb3.step x4 s3
                have hD4 : H4 D = some (.lst ws) := (hid_keep s3 xb3.inH x4).trans hD3
                refine ⟨ws, hD4, Nat.lt_of_lt_of_le (show ws.length < 16777216 by omega) (line_of (Nat.le_refl _)), A4, S4, ds ++ [dv], ws ++ [y], s4.poke xb4.inH, xb4.poke, upd_same, ?_, by simp; omega, by omega, ?_⟩
                · exact (((rds2.kp x3.kp).kp x4.kp).append (.cons ry .nil)).kp (kp_poke xb4.inH)
                · have e1 : ((lcL g cm em (wipeE ρ vs) (ts.drop (i + 1)) S4).bind fun es S'' => kf (ds ++ [dv] ++ es) S'') = (((lcL g cm em (wipeE ρ vs) (ts.drop (i + 1)) S4).bind fun ds S3 => .ok (dv :: ds) S3).bind fun es S'' => kf (ds ++ es) S'') := by
                    cases lcL g cm em (wipeE ρ vs) (ts.drop (i + 1)) S4 with
                    | ok a b => simp
                    | er c0 t0 S0 => rfl
                    | bad => rfl
                  rw [e1]
                  exact q
    · have hz : i = ts.length := by omega
      subst hz
      rw [List.drop_length] at q
      simp only [lcL, bind_ok, List.append_nil] at q
      exact .inl ⟨wk.stop A' H' (.ofB x' hD), hfin ds ws S' A' H' s' x' hDw rds q⟩
theorem bind_assoc {α β γ : Type} (r : Rz α) (f : α → Sto → Rz β) (h : β → Sto → Rz γ) : (r.bind f).bind h = r.bind fun a S => (f a S).bind h := by
  cases r <;> rfl
theorem lst_end {A A1 : Al} {S : Sto} {H H1 : Hp} {D : Addr} {ds : List Dv} {ws : List V} {E : XK} {Q : VK} (s : StR G A S H) (x : ExtB D A1 H1 A H) (h : H1 D = none) (hw : H D = some (.lst ws)) (r : RDs G A H ds ws) (p : Po G E A1 H1 (lift (pLst ds S)) (kD G Q)) : Q (.ref D) H := by
  unfold pLst at p
  cases ep : pures ds with
  | none => rw [ep] at p; exact p.elim
  | some ts =>
    rw [ep] at p
    by_cases hl : ts.length ≤ 16777216
    · simp only [hl, if_true] at p
      exact Po.at p (x.done h) s.show_ _ ⟨D, ws, rfl, ⟨hw, show_out s x.inH⟩, (pures_rvs ep r).kp kp_show⟩
    · simp only [hl, if_false] at p
      exact p.elim
/-- the end of a list comprehension, as data or as a box -/
def LEnd (G : Gs) (pe : PN) : Prop := ∀ {A A1 : Al} {S : Sto} {H H1 : Hp} {D : Addr} {ds : List Dv} {ws : List V} {E : XK} {Q : VK}, StR G A S H → ExtB D A1 H1 A H → H1 D = none → H D = some (.lst ws) → RDs G A H ds ws → Po G E A1 H1 (lift (pe ds S)) (kD G Q) → Q (.ref D) H
theorem lEnd : LEnd G pLst := fun s x h hw r p => lst_end s x h hw r p
theorem lc_read {wi : TI} {pe : PN} {vs : List Nat} (hpe : LEnd G pe) (hw : ∀ (σ : L2.St) (H : Hp) (A : Al) (ρ : Env) (S : Sto) (R : It → Hp → Prop), EnvR G A H ρ σ → StR G A S H → Po G (Wa W σ) A H (it ρ S) (fun A' H' ts => ∀ J, Wk G J A' H' ts → R J H') → wi σ H R)
    (hgs : TgS G t g L) (hL : ∀ i ∈ L, i ∈ vs) (σ : L2.St) (H : Hp) (Q : VK) (h : tM G W (mN pe (mLcI vs it g cm em)) σ H Q) : tLc wi t (tMT G W0 cm) (tM G W0 em) vs σ H Q := by
  obtain ⟨A, ρ, S, he, hs, p⟩ := h
  refine hw σ H A ρ S _ he hs ?_
  unfold mN mLcI at p
  rw [bind_assoc] at p
  refine Po.step p fun ts S1 A1 H1 x1 s1 p1 J wk D hD => ?_
  by_cases hl : ts.length ≤ 16777216
  · simp only [hl, if_true] at p1
    exact lc_loop (Fin := fun H => Q (.ref D) H) hgs hL wk (he.kp x1.kp) s1 hD hl p1 fun ds ws S' A' H' s' x' hDw r q => hpe s' x' hD hDw r q
  · simp only [hl, if_false] at p1
    exact p1.elim
theorem e_lc' {pe : PN} (hpe : LEnd G pe) (B : Bx X G W kk) (hi : PIS X G W tg iter it) (ok : BlkOk X.N X.env.scope scope own) (hg : ∀ (s : Shared) (H : Hp) (C : Addr) (cl : List (Str × Addr)) (fp : List Addr), PG (X.blk s H scope (compEnvC scope cl C X.env) fp) tg t) (hgs : TgS G t g L) (hL : ∀ i ∈ L, i ∈ own.map (·.2))
    (ht : ∀ (s : Shared) (H : Hp) (C : Addr) (cl : List (Str × Addr)) (fp : List Addr), PTs (X.blk s H scope (compEnvC scope cl C X.env) fp) ifs (tMT G W0 cm)) (he : ∀ (s : Shared) (H : Hp) (C : Addr) (cl : List (Str × Addr)) (fp : List Addr), PE (X.blk s H scope (compEnvC scope cl C X.env) fp) elt (tM G W0 em))
    (hs : ∀ x, foldedSetIterable iter X.env x = pure x) : PE X (.ListComp elt [⟨tg, iter, ifs, 0⟩] scope pos) (tM G W (mN pe (mLcI (own.map (·.2)) it g cm em))) := by
  obtain ⟨wi, pi, hw⟩ := hi
  exact (pe_lc B.calm B.nd pi ok hg ht he hs).sm fun σ H Q h => lc_read hpe hw hgs hL σ H Q h
/-- name = [..] -/
theorem s_setLc {pe : PN} {i : Nat} {y : Str} {py spos : Pos} (hpe : LEnd G pe) (B : Bx X G W kk) (hy : X.N[i]? = some y) (hyl : X.env.scope.names.lookup y = some .local) (hsw : swapsWith (.ListComp elt [⟨tg, iter, ifs, 0⟩] scope pos) (some (.Name y py)) spos.line X.env = pure true)
    (hi : PIS X G W tg iter it) (ok : BlkOk X.N X.env.scope scope own) (hg : ∀ (s : Shared) (H : Hp) (C : Addr) (cl : List (Str × Addr)) (fp : List Addr), PG (X.blk s H scope (compEnvC scope cl C X.env) fp) tg t) (hgs : TgS G t g L) (hL : ∀ i ∈ L, i ∈ own.map (·.2))
    (ht : ∀ (s : Shared) (H : Hp) (C : Addr) (cl : List (Str × Addr)) (fp : List Addr), PTs (X.blk s H scope (compEnvC scope cl C X.env) fp) ifs (tMT G W0 cm)) (he : ∀ (s : Shared) (H : Hp) (C : Addr) (cl : List (Str × Addr)) (fp : List Addr), PE (X.blk s H scope (compEnvC scope cl C X.env) fp) elt (tM G W0 em))
    (hs : ∀ x, foldedSetIterable iter X.env x = pure x) : PS X (.Assign [.Name y py] (.ListComp elt [⟨tg, iter, ifs, 0⟩] scope pos) spos) (tMS G W (sSet i (mN pe (mLcI (own.map (·.2)) it g cm em)))) := by
  obtain ⟨wi, pi, hw⟩ := hi
  refine (ps_setLc (i := i) B.calm B.nd hy hyl hsw pi ok hg ht he hs).sm fun D σ H h => ?_
  obtain ⟨A, ρ, S, he', hs', p⟩ := h
  refine lc_read (W := W) hpe hw hgs hL σ H _ ⟨A, ρ, S, he', hs', PoS.step he' p fun d S1 A1 H1 x s e q v rv => PoS.nx_now q s (e.set rv)⟩
/-! ### dict comprehensions -/
def kOf (d : Dv) : Option Key := match d with
  | .d (.int i) => some (.inl i)
  | .d (.str s) => some (.inr s)
  | _ => none
theorem kOf_rd {A : Al} {H : Hp} {d : Dv} {k : Key} {v : V} (h : kOf d = some k) (r : RD G A H d v) : v = kV k := by
  cases d with
  | loc n => cases h
  | d t =>
    cases t with
    | int i =>
      cases h
      exact r
    | str s =>
      cases h
      exact r
    | _ => cases h
end
end Sm
/-! Sm8: dict comprehensions, what is walked. -/
namespace Sm
open PySem PySem.Spec PyProof.Rows L2

def hasK (ks : List Key) (j : Key) : Bool := ks.any fun k => decide (k = j)
/-- d[j] = y on keys and values -/
def dputX {α : Type} (ks : List Key) (xs : List α) (j : Key) (y : α) : List α := if hasK ks j = true then List.zipWith (fun k x => if k = j then y else x) ks xs else xs ++ [y]
def dputK (ks : List Key) (j : Key) : List Key := if hasK ks j = true then ks else ks ++ [j]
def dlook {α : Type} : List Key → List α → Key → Option α
  | k :: ks, x :: xs, j => if k = j then some x else dlook ks xs j
  | _, _, _ => none
section
variable {G : Gs} {A : Al} {H : Hp}
theorem any_key {kvs : List (Key × V)} {j : Key} : (kvs.any fun kv => decide (kv.1 = j)) = hasK (kvs.map (·.1)) j := by
  unfold hasK
  rw [List.any_map]
  rfl
theorem dput_keys {kvs : List (Key × V)} {j : Key} {y : V} : (putK kvs j y).map (·.1) = dputK (kvs.map (·.1)) j := by
  unfold putK dputK
  rw [any_key]
  by_cases h : hasK (kvs.map (·.1)) j = true
  · rw [if_pos h, if_pos h, List.map_map]
    apply List.map_congr_left
    intro kv _
    simp only [Function.comp]
    split <;> rfl
  · rw [if_neg h, if_neg h]
    simp
theorem dput_rds {kvs : List (Key × V)} {j : Key} {y : V} {xs : List Dv} {d : Dv} (h : RDs G A H xs (kvs.map (·.2))) (r : RD G A H d y) : RDs G A H (dputX (kvs.map (·.1)) xs j d) ((putK kvs j y).map (·.2)) := by
  unfold putK dputX
  rw [any_key]
  by_cases hj : hasK (kvs.map (·.1)) j = true
  · rw [if_pos hj, if_pos hj]
    clear hj
    induction kvs generalizing xs with
    | nil =>
      cases h
      exact .nil
    | cons kv kvs ih =>
      cases h with
      | cons q t =>
        refine .cons ?_ (ih t)
        by_cases e : kv.1 = j
        · simp only [e, if_true]
          exact r
        · simp only [e, if_false]
          exact q
  · rw [if_neg hj, if_neg hj]
    rw [List.map_append]
    exact h.append (.cons r .nil)
theorem dlook_val {kvs : List (Key × V)} {j : Key} : ∀ {xs : List Dv}, RDs G A H xs (kvs.map (·.2)) → (∀ d, dlook (kvs.map (·.1)) xs j = some d → ∃ v, valV kvs j = some v ∧ RD G A H d v) ∧ (dlook (kvs.map (·.1)) xs j = none → valV kvs j = none) := by
  induction kvs with
  | nil =>
    intro xs h
    cases h
    exact ⟨fun d e => by simp [dlook] at e, fun _ => rfl⟩
  | cons kv kvs ih =>
    intro xs h
    cases h with
    | cons q t =>
      rename_i x xs
      by_cases e : kv.1 = j
      · rw [valV_pos e]
        simp only [List.map_cons, dlook, e, if_true]
        refine ⟨fun d ed => ?_, fun z => by cases z⟩
        cases ed
        exact ⟨_, rfl, q⟩
      · rw [valV_neg e]
        simp only [List.map_cons, dlook, e, if_false]
        exact ih t
end
/-! ### dict comprehensions -/
def dcL (g : GM) (c : M Bool) (ek ev : M Dv) (ρ : Env) : List Dt → List Key → List Dv → Sto → Rz (List Key × List Dv)
  | [], ks, xs, S => .ok (ks, xs) S
  | t :: ts, ks, xs, S => bz (g (.d t) ρ) fun ρ1 => (nox (c ρ1 S)).bind fun b S1 => if b = true then (nox (ek ρ1 S1)).bind fun kd S2 => (nox (ev ρ1 S2)).bind fun d S3 => bz (kOf kd) fun k => dcL g c ek ev ρ ts (dputK ks k) (dputX ks xs k d) S3
    else dcL g c ek ev ρ ts ks xs S1
def pDct (ks : List Key) (ds : List Dv) (S : Sto) : Rz Dv := match pures ds with
  | some ts => .ok (.d (.dct ks ts)) S
  | none => .bad
abbrev PD := List Key → List Dv → Sto → Rz Dv
def mDc (pe : PD) (vs : List Nat) (it : M (List Dt)) (g : GM) (c : M Bool) (ek ev : M Dv) : M Dv := fun ρ S => (it ρ S).bind fun ts S1 => if ts.length ≤ 16777216 then (dcL g c ek ev (wipeE ρ vs) ts [] [] S1).bind fun q S2 => pe q.1 q.2 S2 else .bad
section
variable {X : Cx} {G : Gs} {W : WX} {kk : Nat} {kx vx tg iter : Expr} {ifs : List Expr} {scope : Scope} {own : List (Str × Nat)} {pos : Pos} {it : M (List Dt)} {g : GM} {t : TG} {L : List Nat} {cm : M Bool} {ek ev : M Dv}
end
/-! ### what is walked -/
/-- a list or a tuple -/
def iSq (K : PySem.W.Frag) (tl : TE) : TI := fun σ H R => tl σ H fun x H1 => ∃ a, x = .ref a ∧ (((∃ xs, SqL K H1 a xs) ∧ R (Itl K a) H1) ∨ ((∃ xs, SqT K H1 a xs) ∧ R (Itt K a) H1))
theorem pi_sq {X : Cx} {tg l : Expr} {tl : TE} (hl : PE X l tl) : PI X tg l (iSq X.K tl) := by
  refine ⟨fun pins s σ H R I h => ?_⟩
  refine thn (hl.run pins s σ H _ I h) fun v s1 ⟨x, H1, I1, r1, q1⟩ => ?_
  obtain ⟨a, e, q⟩ := q1
  subst e
  cases r1
  rcases q with ⟨⟨xs, hq⟩, q⟩ | ⟨⟨xs, hq⟩, q⟩
  · obtain ⟨its, rv, p, hz⟩ := I1.list hq
    refine wpAny_pyIter_list p.isList ?_
    refine ⟨s1.heap.objs.size, [s1.heap.objs.size], _, _, H1, rfl, I1.kept (t' := s1.toks) fun b o e => Heap.get?_push_of_some _ e, turn_list a _, ⟨_, Heap.get?_push_size _ rfl, rfl, rfl⟩, fun b hb => ?_, q⟩
    have e : b = s1.heap.objs.size := by simpa using hb
    subst e
    exact I1.fpOk (Nat.le_refl _) (I1.hok.fresh (Nat.le_refl _))
  · obtain ⟨its, rv, p, hz⟩ := I1.tuple hq
    refine wpAny_pyIter_tuple (show s1.heap.IsTuple a its.toArray from p) ?_
    refine ⟨s1.heap.objs.size, [s1.heap.objs.size], _, _, H1, rfl, I1.kept (t' := s1.toks) fun b o e => Heap.get?_push_of_some _ e, turn_tuple a _, ⟨_, Heap.get?_push_size _ rfl, rfl, rfl⟩, fun b hb => ?_, q⟩
    have e : b = s1.heap.objs.size := by simpa using hb
    subst e
    exact I1.fpOk (Nat.le_refl _) (I1.hok.fresh (Nat.le_refl _))
/-- the data of a sequence; a box's list is put out of reach while it is walked -/
def seqOf (d : Dv) : Option (List Dt) := match d with
  | .d (.tup ts) => some ts
  | .d (.lst ts) => some ts
  | .d (.scr ts) => some ts
  | .d (.ltp ts) => some ts
  | _ => none
def iSeq (m : M Dv) : M (List Dt) := fun ρ S => (m ρ S).bind fun d S1 => li (seqOf d) S1
section
variable {X : Cx} {G : Gs} {W : WX} {kk : Nat} {tg iter e : Expr} {m : M Dv}
theorem wk_list {A : Al} {H : Hp} {a : Addr} {vs : List V} {ts : List Dt} (h : ∀ A' H', Ext A H A' H' → SqL G.K H' a vs) (r : RVs G A H ts vs) : Wk G (Itl G.K a) A H ts := by
  refine ⟨fun i A' H' hi x => ?_, fun i A' H' S v H2 hi x s hy => ?_, fun A' H' x => ?_⟩
  · obtain ⟨v, ev, _⟩ := r.get (List.getElem?_eq_getElem hi)
    exact ⟨vs, v, h A' H' x, ev⟩
  · obtain ⟨rfl, hv⟩ := hy
    obtain ⟨t, et, rt⟩ := r.get' (hv vs (h A' H2 x))
    exact ⟨t, et, .refl, s, rt.kp x.kp⟩
  · exact ⟨vs, h A' H' x, by rw [r.length]; exact Nat.le_refl _⟩
theorem wk_tup {A : Al} {H : Hp} {a : Addr} {vs : List V} {ts : List Dt} (h : ∀ A' H', Ext A H A' H' → SqT G.K H' a vs) (r : RVs G A H ts vs) : Wk G (Itt G.K a) A H ts := by
  refine ⟨fun i A' H' hi x => ?_, fun i A' H' S v H2 hi x s hy => ?_, fun A' H' x => ?_⟩
  · obtain ⟨v, ev, _⟩ := r.get (List.getElem?_eq_getElem hi)
    exact ⟨vs, v, h A' H' x, ev⟩
  · obtain ⟨rfl, hv⟩ := hy
    obtain ⟨t, et, rt⟩ := r.get' (hv vs (h A' H2 x))
    exact ⟨t, et, .refl, s, rt.kp x.kp⟩
  · exact ⟨vs, h A' H' x, by rw [r.length]; exact Nat.le_refl _⟩
theorem li_po {α : Type} {E : XK} {A : Al} {H : Hp} {S : Sto} {o : Option α} {k : Al → Hp → α → Prop} (h : Po G E A H (li o S) k) (s : StR G A S H) : ∃ a, o = some a ∧ k A H a := by
  cases o with
  | none => exact h.elim
  | some a => exact ⟨a, rfl, Po.now h s⟩
/-- how a sequence is walked -/
theorem seq_wk {A : Al} {H : Hp} {d : Dv} {v : V} {ts : List Dt} (h : seqOf d = some ts) (r : RD G A H d v) : ∃ a, v = .ref a ∧ (((∃ xs, SqL G.K H a xs) ∧ Wk G (Itl G.K a) A H ts) ∨ ((∃ xs, SqT G.K H a xs) ∧ Wk G (Itt G.K a) A H ts)) := by
  cases d with
  | loc n => cases h
  | d t =>
    cases t with
    | tup xs =>
      cases h
      obtain ⟨a, vs, e, ht, hv⟩ := r
      exact ⟨a, e, .inr ⟨⟨vs, ht.sq⟩, wk_tup (fun A' H' x => (ht.kp x.kp.toKq).sq) hv⟩⟩
    | lst xs =>
      cases h
      obtain ⟨a, vs, e, ht, hv⟩ := r
      exact ⟨a, e, .inl ⟨⟨vs, ht.sq⟩, wk_list (fun A' H' x => (ht.kp x.kp.toKq).sq) hv⟩⟩
    | scr xs =>
      cases h
      obtain ⟨a, vs, e, ht, hv⟩ := r
      exact ⟨a, e, .inl ⟨⟨vs, ht.sq⟩, wk_list (fun A' H' x => (ht.kp x.kp.toKq).sq) hv⟩⟩
    | ltp xs =>
      cases h
      obtain ⟨a, vs, e, ht, hv⟩ := r
      exact ⟨a, e, .inr ⟨⟨vs, ht H⟩, wk_tup (fun A' H' x => ht H') hv⟩⟩
    | _ => cases h
theorem i_seq (hK : G.K = X.K) (he : PE X e (tM G W m)) : PIS X G W tg e (iSeq m) := by
  refine ⟨_, pi_sq he, fun σ H A ρ S R he hs p => ?_⟩
  refine ⟨A, ρ, S, he, hs, Po.step p fun d S1 A1 H1 x1 s1 p1 v rv => ?_⟩
  obtain ⟨ts, e1, k⟩ := li_po p1 s1
  obtain ⟨a, ev, h⟩ := seq_wk e1 rv
  rw [← hK]
  rcases h with ⟨h, w⟩ | ⟨h, w⟩
  · exact ⟨a, ev, .inl ⟨h, k _ w⟩⟩
  · exact ⟨a, ev, .inr ⟨h, k _ w⟩⟩
/-! ranges -/
def rgOk (i j : Int) : Bool := decide (-(2 ^ 62) ≤ i ∧ i < 2 ^ 62 ∧ -(2 ^ 62) ≤ j ∧ j < 2 ^ 62)
def rgL (lo : Int) (n : Nat) : List Dt := (List.range n).map fun i => .int (lo + (i : Nat))
def rg1 (ds : List Dv) : Option (List Dt) := match ds with
  | [.d (.int j)] => if rgOk 0 j = true then some (rgL 0 j.toNat) else none
  | _ => none
def iRg (f : List Dv → Option (List Dt)) (ma : M (List Dv)) : M (List Dt) := fun ρ S => (ma ρ S).bind fun ds S1 => li (f ds) S1
theorem wk_range {A : Al} {H : Hp} {lo : Int} {n : Nat} : Wk G (Itr lo n) A H (rgL lo n) := by
  have hl : (rgL lo n).length = n := by simp [rgL]
  refine ⟨fun i A' H' hi x => by rw [hl] at hi; exact hi, fun i A' H' S v H2 hi x s hy => ?_, fun A' H' x => by rw [hl]; exact Nat.le_refl n⟩
  obtain ⟨rfl, rfl⟩ := hy
  rw [hl] at hi
  refine ⟨.int (lo + (i : Nat)), ?_, .refl, s, rfl⟩
  unfold rgL
  rw [List.getElem?_map, List.getElem?_range hi]
  rfl
theorem i_rg1 {a : Expr} {ma : M (List Dv)} {p pos : Pos} (hg : Gl X "range") (hm : X.mg "range" = none) (ha : PA X [a] (tMA G W ma)) (hs : starEach [a] X.env = [(false, eval a X.env)]) : PIS X G W tg (.Call (.Name "range" p) [a] [] pos) (iRg rg1 ma) := by
  refine ⟨_, pi_range1 hg hm ha hs, fun σ H A ρ S R he hs p => ?_⟩
  refine ⟨A, ρ, S, he, hs, Po.step p fun ds S1 A1 H1 x1 s1 p1 vs rv => ?_⟩
  obtain ⟨ts, e1, k⟩ := li_po p1 s1
  unfold rg1 at e1
  split at e1
  · rename_i j
    split at e1
    · rename_i hb
      cases e1
      cases rv with
      | cons r1 r2 =>
        cases r2
        have hb := of_decide_eq_true hb
        exact ⟨j, by rw [show _ = V.int j from r1], hb.2.2.1, hb.2.2.2, k _ wk_range⟩
    · cases e1
  · cases e1
/-! enumerate, zip -/
def lstOf (d : Dv) : Option (List Dt) := match d with
  | .d (.lst ts) => some ts
  | .d (.scr ts) => some ts
  | _ => none
def enL (ts : List Dt) : List Dt := (List.range ts.length).filterMap fun i => (ts[i]?).map fun t => .tup [.int (i : Nat), t]
def en1 (ds : List Dv) : Option (List Dt) := match ds with
  | [d] => (lstOf d).map enL
  | _ => none
theorem range_fm {α : Type} (f : Nat → Option α) : ∀ n i : Nat, (∀ j, j < n → (f j).isSome = true) → i < n → ((List.range n).filterMap f)[i]? = f i := by
  intro n
  induction n with
  | zero => intro i _ hi; omega
  | succ n ih =>
    intro i hf hi
    rw [List.range_succ, List.filterMap_append]
    have hl : ((List.range n).filterMap f).length = n := by
      have : ∀ m, m ≤ n → ((List.range m).filterMap f).length = m := by
        intro m
        induction m with
        | zero => intro _; rfl
        | succ m ihm =>
          intro hm
          rw [List.range_succ, List.filterMap_append, List.length_append, ihm (by omega)]
          have hs := hf m (by omega)
          cases e : f m with
          | none => rw [e] at hs; cases hs
          | some y => simp [e]
      exact this n (Nat.le_refl n)
    by_cases h : i < n
    · rw [List.getElem?_append_left (by omega)]
      exact ih i (fun j hj => hf j (by omega)) h
    · have : i = n := by omega
      subst this
      rw [List.getElem?_append_right (by omega), hl]
      have hs := hf i (by omega)
      cases e : f i with
      | none => rw [e] at hs; cases hs
      | some y => simp [e]
theorem fm_length {α : Type} (f : Nat → Option α) : ∀ n : Nat, (∀ j, j < n → (f j).isSome = true) → ((List.range n).filterMap f).length = n := by
  intro n
  induction n with
  | zero => intro _; rfl
  | succ n ih =>
    intro hf
    rw [List.range_succ, List.filterMap_append, List.length_append, ih (fun j hj => hf j (by omega))]
    have hs := hf n (by omega)
    cases e : f n with
    | none => rw [e] at hs; cases hs
    | some y => simp [e]
theorem enL_get {ts : List Dt} {i : Nat} (h : i < ts.length) : (enL ts)[i]? = some (.tup [.int (i : Nat), ts[i]]) := by
  unfold enL
  rw [range_fm _ _ _ (fun j hj => by simp [List.getElem?_eq_getElem hj]) h]
  simp [List.getElem?_eq_getElem h]
theorem enL_length (ts : List Dt) : (enL ts).length = ts.length := by
  unfold enL
  rw [fm_length _ _ (fun j hj => by simp [List.getElem?_eq_getElem hj])]
theorem lst_at {A : Al} {H : Hp} {d : Dv} {v : V} {ts : List Dt} (h : lstOf d = some ts) (r : RD G A H d v) : ∃ a vs, v = .ref a ∧ (∀ A' H', Ext A H A' H' → SqL G.K H' a vs) ∧ RVs G A H ts vs := by
  cases d with
  | loc n => cases h
  | d t =>
    cases t with
    | lst xs =>
      cases h
      obtain ⟨a, vs, e, ht, hv⟩ := r
      exact ⟨a, vs, e, fun A' H' x => (ht.kp x.kp.toKq).sq, hv⟩
    | scr xs =>
      cases h
      obtain ⟨a, vs, e, ht, hv⟩ := r
      exact ⟨a, vs, e, fun A' H' x => (ht.kp x.kp.toKq).sq, hv⟩
    | _ => cases h
theorem tup_at {A : Al} {H : Hp} {t : Dt} {v : V} {ts : List Dt} (h : t = .tup ts) (r : RV G A H t v) : ∃ a vs, v = .ref a ∧ (∀ A' H', Ext A H A' H' → SqT G.K H' a vs) ∧ RVs G A H ts vs := by
  subst h
  obtain ⟨a, vs, e, ht, hv⟩ := r
  exact ⟨a, vs, e, fun A' H' x => (ht.kp x.kp.toKq).sq, hv⟩
theorem wk_enum {A : Al} {H : Hp} {a : Addr} {vs : List V} {ts : List Dt} (h : ∀ A' H', Ext A H A' H' → SqL G.K H' a vs) (r : RVs G A H ts vs) : Wk G (Ite G.K a) A H (enL ts) := by
  have hl := enL_length ts
  refine ⟨fun i A' H' hi x => ?_, fun i A' H' S v H2 hi x s hy => ?_, fun A' H' x => ?_⟩
  · rw [hl] at hi
    obtain ⟨v, ev, _⟩ := r.get (List.getElem?_eq_getElem hi)
    exact ⟨vs, v, h A' H' x, ev⟩
  · rw [hl] at hi
    obtain ⟨T, y, rfl, hT, rfl, hv⟩ := hy
    obtain ⟨t, et, rt⟩ := r.get' (hv vs (h A' H' x))
    rw [List.getElem?_eq_getElem hi] at et
    cases et
    exact ⟨_, enL_get hi, .new hT, s.new hT, RV.tup_new s hT ⟨_, _, rfl, rfl, _, _, rfl, rt.kp x.kp, rfl⟩⟩
  · exact ⟨vs, h A' H' x, by rw [hl, r.length]; exact Nat.le_refl _⟩
theorem i_enum {a : Expr} {ma : M (List Dv)} {p pos tpos : Pos} {elts : List Expr} {kk : Nat} (hK : G.K = X.K) (hg : Gl X "enumerate") (hm : X.mg "enumerate" = none) (ha : PA X [a] (tMA G W ma)) (hs : starEach [a] X.env = [(false, eval a X.env)]) : PIS X G W (.Tuple elts kk tpos) (.Call (.Name "enumerate" p) [a] [] pos) (iRg en1 ma) := by
  refine ⟨_, pi_enum hg hm ha hs, fun σ H A ρ S R he hs p => ?_⟩
  refine ⟨A, ρ, S, he, hs, Po.step p fun ds S1 A1 H1 x1 s1 p1 vs rv => ?_⟩
  obtain ⟨ts, e1, k⟩ := li_po p1 s1
  cases rv with
  | nil => cases e1
  | cons r1 r2 =>
    cases r2 with
    | cons => cases e1
    | nil =>
      rename_i d v
      unfold en1 at e1
      simp only at e1
      cases el : lstOf d with
      | none => rw [el] at e1; cases e1
      | some us =>
        rw [el] at e1
        cases e1
        obtain ⟨a, ws, rfl, hq, hv⟩ := lst_at el r1
        rw [← hK]
        exact ⟨a, ws, rfl, hq A1 H1 .refl, k _ (wk_enum hq hv)⟩
def zpL (xs ys : List Dt) : List Dt := (List.zip xs ys).map fun p => .tup [p.1, p.2]
def zp2 (ds : List Dv) : Option (List Dt) := match ds with
  | [.d (.tup xs), .d (.tup ys)] => some (zpL xs ys)
  | [d, e] => (match lstOf d, lstOf e with
    | some xs, some ys => some (zpL xs ys)
    | _, _ => none)
  | _ => none
theorem zpL_length (xs ys : List Dt) : (zpL xs ys).length = min xs.length ys.length := by simp [zpL]
theorem zpL_get {xs ys : List Dt} {i : Nat} {x y : Dt} (hx : xs[i]? = some x) (hy : ys[i]? = some y) : (zpL xs ys)[i]? = some (.tup [x, y]) := by
  unfold zpL
  rw [List.getElem?_map, List.zip, List.getElem?_zipWith, hx, hy]
  rfl
theorem wk_zipL {A : Al} {H : Hp} {a b : Addr} {vs ws : List V} {xs ys : List Dt} (h : ∀ A' H', Ext A H A' H' → SqL G.K H' a vs) (r : RVs G A H xs vs) (h2 : ∀ A' H', Ext A H A' H' → SqL G.K H' b ws) (r2 : RVs G A H ys ws) : Wk G (Itz G.K a b) A H (zpL xs ys) := by
  have hl := zpL_length xs ys
  refine ⟨fun i A' H' hi x => ?_, fun i A' H' S v H2 hi x s hy => ?_, fun A' H' x => ?_⟩
  · rw [hl] at hi
    obtain ⟨v, ev, _⟩ := r.get (List.getElem?_eq_getElem (show i < xs.length by omega))
    obtain ⟨w, ew, _⟩ := r2.get (List.getElem?_eq_getElem (show i < ys.length by omega))
    exact ⟨vs, ws, v, w, h A' H' x, h2 A' H' x, ev, ew⟩
  · obtain ⟨T, x1, y1, rfl, hT, rfl, hv, hw⟩ := hy
    obtain ⟨t, et, rt⟩ := r.get' (hv vs (h A' H' x))
    obtain ⟨u, eu, ru⟩ := r2.get' (hw ws (h2 A' H' x))
    exact ⟨_, zpL_get et eu, .new hT, s.new hT, RV.tup_new s hT ⟨_, _, rfl, rt.kp x.kp, _, _, rfl, ru.kp x.kp, rfl⟩⟩
  · refine ⟨vs, ws, h A' H' x, h2 A' H' x, ?_⟩
    rw [hl, r.length, r2.length]
    omega
theorem wk_zipT {A : Al} {H : Hp} {a b : Addr} {vs ws : List V} {xs ys : List Dt} (h : ∀ A' H', Ext A H A' H' → SqT G.K H' a vs) (r : RVs G A H xs vs) (h2 : ∀ A' H', Ext A H A' H' → SqT G.K H' b ws) (r2 : RVs G A H ys ws) : Wk G (RZ.ItzT G.K a b) A H (zpL xs ys) := by
  have hl := zpL_length xs ys
  refine ⟨fun i A' H' hi x => ?_, fun i A' H' S v H2 hi x s hy => ?_, fun A' H' x => ?_⟩
  · rw [hl] at hi
    obtain ⟨v, ev, _⟩ := r.get (List.getElem?_eq_getElem (show i < xs.length by omega))
    obtain ⟨w, ew, _⟩ := r2.get (List.getElem?_eq_getElem (show i < ys.length by omega))
    exact ⟨vs, ws, v, w, h A' H' x, h2 A' H' x, ev, ew⟩
  · obtain ⟨T, x1, y1, rfl, hT, rfl, hv, hw⟩ := hy
    obtain ⟨t, et, rt⟩ := r.get' (hv vs (h A' H' x))
    obtain ⟨u, eu, ru⟩ := r2.get' (hw ws (h2 A' H' x))
    exact ⟨_, zpL_get et eu, .new hT, s.new hT, RV.tup_new s hT ⟨_, _, rfl, rt.kp x.kp, _, _, rfl, ru.kp x.kp, rfl⟩⟩
  · refine ⟨vs, ws, h A' H' x, h2 A' H' x, ?_⟩
    rw [hl, r.length, r2.length]
    omega
theorem i_zip {a b : Expr} {ma : M (List Dv)} {p pos tpos : Pos} {elts : List Expr} {kk : Nat} (hK : G.K = X.K) (hg : Gl X "zip") (hm : X.mg "zip" = none) (ha : PA X [a, b] (tMA G W ma)) (hs : starEach [a, b] X.env = (false, eval a X.env) :: starEach [b] X.env) (hpl : (backTo pos (starEach [b] X.env)).any (·.1) = false) :
    PIS X G W (.Tuple elts kk tpos) (.Call (.Name "zip" p) [a, b] [] pos) (iRg zp2 ma) := by
  refine ⟨_, RZ.pi_zipA hg hm ha hs hpl, fun σ H A ρ S R he hs p => ?_⟩
  refine ⟨A, ρ, S, he, hs, Po.step p fun ds S1 A1 H1 x1 s1 p1 vs rv => ?_⟩
  obtain ⟨ts, e1, k⟩ := li_po p1 s1
  rw [← hK]
  unfold zp2 at e1
  split at e1
  · rename_i xs ys
    cases e1
    cases rv with
    | cons r1 r2 =>
      cases r2 with
      | cons r2 r3 =>
        cases r3
        obtain ⟨a, us, rfl, ha, ru⟩ := tup_at rfl r1
        obtain ⟨b, ws, rfl, hb, rw'⟩ := tup_at rfl r2
        exact ⟨a, b, us, ws, rfl, .inr ⟨ha A1 H1 .refl, hb A1 H1 .refl, k _ (wk_zipT ha ru hb rw')⟩⟩
  · rename_i d e _
    cases ed : lstOf d with
    | none => rw [ed] at e1; cases e1
    | some xs =>
      cases ee : lstOf e with
      | none => rw [ed, ee] at e1; cases e1
      | some ys =>
        rw [ed, ee] at e1
        cases e1
        cases rv with
        | cons r1 r2 =>
          cases r2 with
          | cons r2 r3 =>
            cases r3
            obtain ⟨a, us, rfl, ha, ru⟩ := lst_at ed r1
            obtain ⟨b, ws, rfl, hb, rw'⟩ := lst_at ee r2
            exact ⟨a, b, us, ws, rfl, .inl ⟨ha A1 H1 .refl, hb A1 H1 .refl, k _ (wk_zipL ha ru hb rw')⟩⟩
  · cases e1
/-! dicts -/
def kT (k : Key) : Dt := match k with
  | .inl i => .int i
  | .inr s => .str s
def iDc (f : Dv → Option (List Dt)) (m : M Dv) : M (List Dt) := fun ρ S => (m ρ S).bind fun d S1 => li (f d) S1
theorem kT_rv {A : Al} {H : Hp} (k : Key) : RV G A H (kT k) (kV k) := by
  cases k with
  | inl i => exact (rfl : V.int i = V.int i)
  | inr s => exact (rfl : V.str s = V.str s)
/-! a text, sign by sign -/
end
end Sm
/-! Sm9: operators, subscripts, the builtins, by data. -/
namespace Sm
open PySem PySem.Spec PyProof.Rows L2
section
variable {G : Gs} {E : XK} {A : Al} {S : Sto} {H : Hp} {Q : VK} {ts : List Dt} {vs : List V}
theorem poT (p : Po G E A H (lift (some (Dv.d (.tup ts), S))) (kD G Q)) (s : StR G A S H) (r : RVs G A H ts vs) : ∀ q, H q = none → Q (.ref q) (upd H q (.tup vs)) :=
  fun _ hq => Po.at p (Ext.new hq) (s.new hq) _ (RV.tup_new s hq r)
theorem poL (p : Po G E A H (lift (some (Dv.d (.lst ts), S))) (kD G Q)) (s : StR G A S H) (r : RVs G A H ts vs) : ∀ q, H q = none → Q (.ref q) (upd H q (.lst vs)) :=
  fun _ hq => Po.at p (Ext.new hq) (s.new hq) _ (RV.lst_new s hq r)
theorem poB {ds : List Dv} (p : Po G E A H (lift (some (Dv.loc S.length, S ++ [.lst ds]))) (kD G Q)) (s : StR G A S H) (r : RDs G A H ds vs) : ∀ q, H q = none → Q (.ref q) (upd H q (.lst vs)) := fun _ hq => by
  obtain ⟨x1, s1, r1⟩ := box_lst s hq r
  exact Po.at p x1 s1 _ r1
end
/-- what a list (a box or not) has -/
def lstAt (S : Sto) (d : Dv) : Option (List Dv) := match d with
  | .d (.lst ts) => some (ts.map .d)
  | .loc n => (match S[n]? with
    | some (.lst ds) => some ds
    | _ => none)
  | _ => none
theorem lstAt_rd {G : Gs} {A : Al} {S : Sto} {H : Hp} {d : Dv} {v : V} {ds : List Dv} (s : StR G A S H) (r : RD G A H d v) (h : lstAt S d = some ds) : ∃ a vs, v = .ref a ∧ H a = some (.lst vs) ∧ RDs G A H ds vs := by
  cases d with
  | d t =>
    cases t with
    | lst ts =>
      obtain ⟨a, vs, e, hl, hv⟩ := r
      cases h
      exact ⟨a, vs, e, hl.1, hv.rds⟩
    | _ => cases h
  | loc n =>
    unfold lstAt at h
    simp only at h
    cases e : S[n]? with
    | none => rw [e] at h; cases h
    | some o =>
      rw [e] at h
      cases o with
      | lst xs =>
        cases h
        obtain ⟨a, vs, ev, _, hl, hv⟩ := loc_lst s r e
        exact ⟨a, vs, ev, hl, hv⟩
      | _ => cases h
/-- any sequence: what it has -/
def seqAt (S : Sto) (d : Dv) : Option (List Dv) := match d with
  | .d (.tup ts) => some (ts.map .d)
  | .d (.scr ts) => some (ts.map .d)
  | .d (.ltp ts) => some (ts.map .d)
  | d => lstAt S d
theorem seqAt_rd {G : Gs} {A : Al} {S : Sto} {H : Hp} {d : Dv} {v : V} {ds : List Dv} (s : StR G A S H) (r : RD G A H d v) (h : seqAt S d = some ds) : ∃ a vs, v = .ref a ∧ (SqL G.K H a vs ∨ SqT G.K H a vs) ∧ RDs G A H ds vs := by
  unfold seqAt at h
  split at h
  · obtain ⟨a, vs, e, ht, hv⟩ := r
    cases h
    exact ⟨a, vs, e, .inr ht.sq, hv.rds⟩
  · obtain ⟨a, vs, e, ht, hv⟩ := r
    cases h
    exact ⟨a, vs, e, .inl ht.sq, hv.rds⟩
  · obtain ⟨a, vs, e, ht, hv⟩ := r
    cases h
    exact ⟨a, vs, e, .inr (ht H), hv.rds⟩
  · obtain ⟨a, vs, e, hl, hv⟩ := lstAt_rd s r h
    exact ⟨a, vs, e, .inl (.inl (.inl hl)), hv⟩
theorem RDs.pure {G : Gs} {A : Al} {H : Hp} {ts : List Dt} {ds : List Dv} {vs : List V} (e : pures ds = some ts) (r : RDs G A H ds vs) : RVs G A H ts vs := pures_rvs e r

/-! ### operators -/
def pAdd : P2 := fun d e S => match d, e with
  | .d (.int i), .d (.int j) => some (.d (.int (i + j)), S)
  | .d (.str a), .d (.str b) => if a.length + b.length ≤ 16777216 then some (.d (.str (a ++ b)), S) else none
  | .d (.tup a), .d (.tup b) => if a.length + b.length ≤ 16777216 then some (.d (.tup (a ++ b)), S) else none
  | .d (.lst a), .d (.lst b) => if a.length + b.length ≤ 16777216 then some (.d (.lst (a ++ b)), S) else none
  | _, _ => none
/-- the sum of two lists, a box -/
def pAddB : P2 := fun d e S => match lstAt S d, lstAt S e with
  | some a, some b => if a.length + b.length ≤ 16777216 then some (.loc S.length, S ++ [.lst (a ++ b)]) else none
  | _, _ => none
def smallI (i : Int) : Bool := decide (-(2 ^ 64) < i ∧ i < 2 ^ 64)
def mulOk (i j : Int) : Bool := smallI i || smallI j || decide (i.natAbs.log2 + j.natAbs.log2 < 1000000)
def divOk (j : Int) : Bool := decide (0 < j ∧ j < 1073741824) || decide (0 < j ∧ j.natAbs.log2 < 9000)
def pMul : P2 := fun d e S => match d, e with
  | .d (.int i), .d (.int j) => if mulOk i j = true then some (.d (.int (i * j)), S) else none
  | .d (.lst a), .d (.int j) => if decide (-(2 ^ 63) ≤ j ∧ j < 2 ^ 63 ∧ a.length * j.toNat ≤ 16777216) = true then some (.d (.lst (List.replicate j.toNat a).flatten), S) else none
  | _, _ => none
def pDiv : P2 := fun d e S => match d, e with
  | .d (.int i), .d (.int j) => if divOk j = true then some (.d (.int (i / j)), S) else none
  | _, _ => none
def pMod : P2 := fun d e S => match d, e with
  | .d (.int i), .d (.int j) => if 0 < j then some (.d (.int (i % j)), S) else none
  | _, _ => none
def pPow : P2 := fun d e S => match d, e with
  | .d (.int i), .d (.int j) => if decide (0 ≤ j ∧ j ≤ 1000000 ∧ i.natAbs < 2 ^ 64) = true then some (.d (.int (i ^ j.toNat)), S) else none
  | _, _ => none
theorem rvs_rep {G : Gs} {A : Al} {H : Hp} {ts : List Dt} {vs : List V} (r : RVs G A H ts vs) : ∀ k : Nat, RVs G A H (List.replicate k ts).flatten (List.replicate k vs).flatten
  | 0 => (rfl : ([] : List V) = [])
  | k + 1 => by
    simp only [List.replicate_succ, List.flatten_cons]
    exact r.append (rvs_rep r k)
section
variable {X : Cx} {G : Gs} {W : WX} {k : Nat}
theorem o_add (hK : G.K = X.K) : OpR X (binaryOp .Add) (q2 G pAdd) := by
  refine (op_add.or (op_add_str.or (op_catA.or op_cat))).sm fun x y H Q h => ?_
  obtain ⟨A, S, d, e, rd, re, s, p⟩ := h
  unfold pAdd at p
  split at p
  · exact .inl ⟨_, _, rd, re, Po.now p s _ rfl⟩
  · split at p
    · rename_i hl
      exact .inr (.inl ⟨_, _, rd, re, line_of hl, Po.now p s _ rfl⟩)
    · exact p.elim
  · split at p
    · rename_i hl
      obtain ⟨a, vs, rfl, ha, hv⟩ := rd
      obtain ⟨b, ws, rfl, hb, hw⟩ := re
      refine .inr (.inr (.inl ⟨a, b, vs, ws, rfl, rfl, ?_, ?_, ?_, fun e => ?_, fun ne e => ?_, fun ne ne2 q hq => poT p s (hv.append hw) q hq⟩))
      · rw [← hK]; exact ha.sq
      · rw [← hK]; exact hb.sq
      · rw [← hv.length, ← hw.length]; exact line_of hl
      · subst e
        have z := hv.length
        simp at z
        subst z
        exact Po.now p s (.ref b) ⟨b, ws, rfl, hb, hw⟩
      · subst e
        have z := hw.length
        simp at z
        subst z
        rw [List.append_nil] at p
        exact Po.now p s (.ref a) ⟨a, vs, rfl, ha, hv⟩
    · exact p.elim
  · split at p
    · rename_i hl
      obtain ⟨a, vs, rfl, ha, hv⟩ := rd
      obtain ⟨b, ws, rfl, hb, hw⟩ := re
      refine .inr (.inr (.inr ⟨a, b, vs, ws, rfl, rfl, ha.1, hb.1, ?_, poL p s (hv.append hw)⟩))
      rw [← hv.length, ← hw.length]; exact line_of hl
    · exact p.elim
  · exact p.elim
theorem o_addB : OpR X (binaryOp .Add) (q2 G pAddB) := by
  refine op_cat.sm fun x y H Q h => ?_
  obtain ⟨A, S, d, e, rd, re, s, p⟩ := h
  unfold pAddB at p
  split at p
  · rename_i a b e1 e2
    split at p
    · rename_i hl
      obtain ⟨a, vs, rfl, ha, hv⟩ := lstAt_rd s rd e1
      obtain ⟨b, ws, rfl, hb, hw⟩ := lstAt_rd s re e2
      refine ⟨a, b, vs, ws, rfl, rfl, ha, hb, ?_, poB p s (hv.append hw)⟩
      rw [← Paired.length hv, ← Paired.length hw]; exact line_of hl
    · exact p.elim
  · exact p.elim
theorem o_mul : OpR X (binaryOp .Mult) (q2 G pMul) := by
  refine (op_mul.or (op_mulW.or op_rep)).sm fun x y H Q h => ?_
  obtain ⟨A, S, d, e, rd, re, s, p⟩ := h
  unfold pMul at p
  split at p
  · split at p
    · rename_i hl
      unfold mulOk smallI at hl
      simp only [Bool.or_eq_true, decide_eq_true_eq] at hl
      rcases hl with (hl | hl) | hl
      · exact .inl ⟨_, _, rd, re, .inl hl, Po.now p s _ rfl⟩
      · exact .inl ⟨_, _, rd, re, .inr hl, Po.now p s _ rfl⟩
      · exact .inr (.inl ⟨_, _, rd, re, hl, Po.now p s _ rfl⟩)
    · exact p.elim
  · split at p
    · rename_i hl
      have hl := of_decide_eq_true hl
      obtain ⟨a, vs, rfl, ha, hv⟩ := rd
      refine .inr (.inr ⟨a, _, vs, rfl, re, ha.1, hl.1, hl.2.1, ?_, poL p s (rvs_rep hv _)⟩)
      rw [← hv.length]; exact line_of hl.2.2
    · exact p.elim
  · exact p.elim
theorem o_div : OpR X (binaryOp .FloorDiv) (q2 G pDiv) := by
  refine (op_fdiv.or op_fdivW).sm fun x y H Q h => ?_
  obtain ⟨A, S, d, e, rd, re, s, p⟩ := h
  unfold pDiv at p
  split at p
  · split at p
    · rename_i hl
      unfold divOk at hl
      simp only [Bool.or_eq_true, decide_eq_true_eq] at hl
      rcases hl with hl | hl
      · exact .inl ⟨_, _, rd, re, hl, Po.now p s _ rfl⟩
      · exact .inr ⟨_, _, rd, re, hl, Po.now p s _ rfl⟩
    · exact p.elim
  · exact p.elim
theorem o_mod : OpR X (binaryOp .Mod) (q2 G pMod) := by
  refine op_mod.sm fun x y H Q h => ?_
  obtain ⟨A, S, d, e, rd, re, s, p⟩ := h
  unfold pMod at p
  split at p
  · split at p
    · rename_i hl
      exact ⟨_, _, rd, re, hl, Po.now p s _ rfl⟩
    · exact p.elim
  · exact p.elim
theorem o_pow : OpR X (binaryOp .Pow) (q2 G pPow) := by
  refine op_pow.sm fun x y H Q h => ?_
  obtain ⟨A, S, d, e, rd, re, s, p⟩ := h
  unfold pPow at p
  split at p
  · split at p
    · rename_i hl
      have hl := of_decide_eq_true hl
      exact ⟨_, _, rd, re, hl, Po.now p s _ rfl⟩
    · exact p.elim
  · exact p.elim
end

/-! ### deep data -/
mutual
def toPy : Dt → Option PyData
  | .non => some .none
  | .bl b => some (.bool b)
  | .int i => some (.int i)
  | .str s => some (.str s)
  | .tup xs => (toPys xs).map .tuple
  | .lst xs => (toPys xs).map .list
  | .scr xs => (toPys xs).map .list
  | .ltp xs => (toPys xs).map .tuple
  | .dct _ _ => none
  | .obj _ _ => none
  | .exc _ _ => none
  | .ntp _ => none
def toPys : List Dt → Option (List PyData)
  | [] => some []
  | t :: ts => match toPy t, toPys ts with
    | some a, some b => some (a :: b)
    | _, _ => none
end
mutual
theorem RV.dp {G : Gs} {A : Al} {H : Hp} : ∀ {t : Dt} {v : V} {d : PyData}, toPy t = some d → RV G A H t v → Dp G.K H v d
  | .non, v, d, e, r => by
    cases e
    obtain rfl : v = .non := r
    exact .non
  | .bl b, v, d, e, r => by
    cases e
    obtain rfl : v = .bl b := r
    exact .bl b
  | .int i, v, d, e, r => by
    cases e
    obtain rfl : v = .int i := r
    exact .int i
  | .str x, v, d, e, r => by
    cases e
    obtain rfl : v = .str x := r
    exact .str x
  | .tup xs, v, d, e, r => by
    obtain ⟨a, vs, rfl, h, hv⟩ := r
    unfold toPy at e
    cases e1 : toPys xs with
    | none => rw [e1] at e; cases e
    | some ds =>
      rw [e1] at e
      cases e
      exact .tup h.sq (RVs.dp e1 hv)
  | .lst xs, v, d, e, r => by
    obtain ⟨a, vs, rfl, h, hv⟩ := r
    unfold toPy at e
    cases e1 : toPys xs with
    | none => rw [e1] at e; cases e
    | some ds =>
      rw [e1] at e
      cases e
      exact .lst h.sq (RVs.dp e1 hv)
  | .scr xs, v, d, e, r => by
    obtain ⟨a, vs, rfl, h, hv⟩ := r
    unfold toPy at e
    cases e1 : toPys xs with
    | none => rw [e1] at e; cases e
    | some ds =>
      rw [e1] at e
      cases e
      exact .lst h.sq (RVs.dp e1 hv)
  | .ltp xs, v, d, e, r => by
    obtain ⟨a, vs, rfl, h, hv⟩ := r
    unfold toPy at e
    cases e1 : toPys xs with
    | none => rw [e1] at e; cases e
    | some ds =>
      rw [e1] at e
      cases e
      exact .tup (h H) (RVs.dp e1 hv)
  | .dct ks xs, v, d, e, r => by cases e
  | .obj c xs, v, d, e, r => by cases e
  | .exc c xs, v, d, e, r => by cases e
  | .ntp xs, v, d, e, r => by cases e
theorem RVs.dp {G : Gs} {A : Al} {H : Hp} : ∀ {ts : List Dt} {vs : List V} {ds : List PyData}, toPys ts = some ds → RVs G A H ts vs → DpAll G.K H vs ds
  | [], vs, ds, e, r => by
    cases e
    obtain rfl : vs = [] := r
    exact .nil
  | t :: ts, vs, ds, e, r => by
    obtain ⟨v, w, rfl, r1, r2⟩ := r
    unfold toPys at e
    cases e1 : toPy t with
    | none => rw [e1] at e; cases e
    | some a =>
      cases e2 : toPys ts with
      | none => rw [e1, e2] at e; cases e
      | some b =>
        rw [e1, e2] at e
        cases e
        exact .cons (RV.dp e1 r1) (RVs.dp e2 r2)
end
def pyDv (S : Sto) (d : Dv) : Option PyData := match d with
  | .d t => toPy t
  | .loc n => (match S[n]? with
    | some (.lst ds) => ((pures ds).bind toPys).map .list
    | _ => none)
theorem pyDv_dp {G : Gs} {A : Al} {S : Sto} {H : Hp} {d : Dv} {v : V} {y : PyData} (s : StR G A S H) (r : RD G A H d v) (h : pyDv S d = some y) : Dp G.K H v y := by
  cases d with
  | d t => exact RV.dp h r
  | loc n =>
    unfold pyDv at h
    simp only at h
    cases e : S[n]? with
    | none => rw [e] at h; cases h
    | some o =>
      rw [e] at h
      cases o with
      | lst xs =>
        obtain ⟨a, vs, rfl, _, hl, hv⟩ := loc_lst s r e
        simp only at h
        cases e1 : pures xs with
        | none => rw [e1] at h; cases h
        | some ts =>
          rw [e1] at h
          simp only [Option.bind_some] at h
          cases e2 : toPys ts with
          | none => rw [e2] at h; cases h
          | some ds =>
            rw [e2] at h
            cases h
            exact .lst (.inl (.inl hl)) (RVs.dp e2 (pures_rvs e1 hv))
      | _ => cases h
def eqDv (S : Sto) (d e : Dv) : Option Bool := match pyDv S d, pyDv S e with
  | some x, some y => if SeqAt.shaped x = true ∧ SeqAt.shaped y = true then some (PyData.eqv x y) else none
  | _, _ => none
theorem eqDv_to {S : Sto} {d e : Dv} {b : Bool} (h : eqDv S d e = some b) : ∃ x y, pyDv S d = some x ∧ pyDv S e = some y ∧ SeqAt.shaped x = true ∧ SeqAt.shaped y = true ∧ b = PyData.eqv x y := by
  unfold eqDv at h
  split at h
  · rename_i x y e1 e2
    split at h
    · rename_i hs
      cases h
      exact ⟨x, y, e1, e2, hs.1, hs.2, rfl⟩
    · cases h
  · cases h
def pEq : P2 := fun d e S => match eqDv S d e with
  | some b => some (.d (.bl b), S)
  | none => none
def pNe : P2 := fun d e S => match eqDv S d e with
  | some b => some (.d (.bl (!b)), S)
  | none => none
def pCmp (f : Int → Int → Bool) (g : Str → Str → Bool) : P2 := fun d e S => match d, e with
  | .d (.int i), .d (.int j) => some (.d (.bl (f i j)), S)
  | .d (.str i), .d (.str j) => some (.d (.bl (g i j)), S)
  | _, _ => none
def ltS (i j : Str) : Bool := decide (i.cps.toList < j.cps.toList)
def pLt : P2 := pCmp (fun i j => decide (i < j)) ltS
def pGt : P2 := pCmp (fun i j => decide (j < i)) fun i j => ltS j i
def pGe : P2 := pCmp (fun i j => decide (j ≤ i)) fun i j => !ltS i j
section
variable {X : Cx} {G : Gs} {W : WX} {k : Nat}
theorem o_eq (hu : X.A.units + 64 < cLine) (hK : G.K = X.K) : OpR X (compareOp .Eq) (q2 G pEq) := by
  refine (op_eqD hu).sm fun x y H Q h => ?_
  obtain ⟨A, S, d, e, rd, re, s, p⟩ := h
  unfold pEq at p
  split at p
  · rename_i b hb
    obtain ⟨u, v, e1, e2, s1, s2, eb⟩ := eqDv_to hb
    subst eb
    rw [← hK]
    exact ⟨u, v, pyDv_dp s rd e1, pyDv_dp s re e2, s1, s2, Po.now p s _ rfl⟩
  · exact p.elim
theorem o_ne (hu : X.A.units + 64 < cLine) (hK : G.K = X.K) : OpR X (compareOp .NotEq) (q2 G pNe) := by
  refine (op_neD hu).sm fun x y H Q h => ?_
  obtain ⟨A, S, d, e, rd, re, s, p⟩ := h
  unfold pNe at p
  split at p
  · rename_i b hb
    obtain ⟨u, v, e1, e2, s1, s2, eb⟩ := eqDv_to hb
    subst eb
    rw [← hK]
    exact ⟨u, v, pyDv_dp s rd e1, pyDv_dp s re e2, s1, s2, Po.now p s _ rfl⟩
  · exact p.elim
theorem cmp_read {f : Int → Int → Bool} {g : Str → Str → Bool} {x y : V} {H : Hp} {Q : VK} (h : q2 G (pCmp f g) x y H Q) : (∃ i j, x = .int i ∧ y = .int j ∧ Q (.bl (f i j)) H) ∨ ∃ i j, x = .str i ∧ y = .str j ∧ Q (.bl (g i j)) H := by
  obtain ⟨A, S, d, e, rd, re, s, p⟩ := h
  unfold pCmp at p
  split at p
  · exact .inl ⟨_, _, rd, re, Po.now p s _ rfl⟩
  · exact .inr ⟨_, _, rd, re, Po.now p s _ rfl⟩
  · exact p.elim
theorem o_lt : OpR X (compareOp .Lt) (q2 G pLt) := (op_lt.or op_lt_str).sm fun _ _ _ _ h => cmp_read h
theorem o_gt : OpR X (compareOp .Gt) (q2 G pGt) := (op_gt.or op_gt_str).sm fun _ _ _ _ h => cmp_read h
theorem o_ge : OpR X (compareOp .GtE) (q2 G pGe) := (op_ge.or op_ge_str).sm fun _ _ _ _ h => cmp_read h
theorem isN_rd {A : Al} {H : Hp} {t : Dt} {v : V} (r : RV G A H t v) : decide (v = .non) = (match t with | .non => true | _ => false) := by
  cases t with
  | non => obtain rfl : v = .non := r; rfl
  | bl b => obtain rfl : v = .bl b := r; rfl
  | int i => obtain rfl : v = .int i := r; rfl
  | str i => obtain rfl : v = .str i := r; rfl
  | tup xs => obtain ⟨a, vs, rfl, _⟩ := r; rfl
  | lst xs => obtain ⟨a, vs, rfl, _⟩ := r; rfl
  | scr xs => obtain ⟨a, vs, rfl, _⟩ := r; rfl
  | ltp xs => obtain ⟨a, vs, rfl, _⟩ := r; rfl
  | dct ks xs => obtain ⟨a, vs, rfl, _⟩ := r; rfl
  | obj c xs => obtain ⟨a, _, _, _, rfl, _⟩ := r; rfl
  | exc c xs => obtain ⟨a, _, _, _, rfl, _⟩ := r; rfl
  | ntp xs => obtain ⟨a, vs, rfl, _⟩ := r; rfl
end
end Sm
/-! Sm10: in, subscripts, slices, len, list, tuple, int, abs, isinstance, stores, list methods. -/
namespace Sm
open PySem PySem.Spec PyProof.Rows L2

/-! ### is None -/
def isNon : Dt → Bool
  | .non => true
  | _ => false
def pIsN : P2 := fun d e S => match d, e with
  | .d t, .d .non => some (.d (.bl (isNon t)), S)
  | _, _ => none
/-! ### flat items, keys -/
def flatT : Dt → Bool
  | .non => true
  | .bl _ => true
  | .int _ => true
  | .str _ => true
  | _ => false
def eqF : Dt → Dt → Bool
  | .non, .non => true
  | .bl a, .bl b => a == b
  | .bl a, .int b => (if a then 1 else 0) == b
  | .int a, .bl b => a == (if b then 1 else 0)
  | .int a, .int b => a == b
  | .str a, .str b => a == b
  | _, _ => false
section
variable {G : Gs} {A : Al} {H : Hp}
theorem flat_rv {t : Dt} {v : V} (r : RV G A H t v) (f : flatT t = true) : flatV v = true := by
  cases t with
  | non => obtain rfl : v = .non := r; rfl
  | bl b => obtain rfl : v = .bl b := r; rfl
  | int i => obtain rfl : v = .int i := r; rfl
  | str i => obtain rfl : v = .str i := r; rfl
  | _ => cases f
theorem eqF_rv {t u : Dt} {v w : V} (r : RV G A H t v) (r2 : RV G A H u w) (f : flatT t = true) (f2 : flatT u = true) : eqV v w = eqF t u := by
  cases t with
  | non =>
    obtain rfl : v = .non := r
    cases u with
    | non => obtain rfl : w = .non := r2; rfl
    | bl b => obtain rfl : w = .bl b := r2; rfl
    | int i => obtain rfl : w = .int i := r2; rfl
    | str i => obtain rfl : w = .str i := r2; rfl
    | _ => cases f2
  | bl b =>
    obtain rfl : v = .bl b := r
    cases u with
    | non => obtain rfl : w = .non := r2; rfl
    | bl b => obtain rfl : w = .bl b := r2; rfl
    | int i => obtain rfl : w = .int i := r2; rfl
    | str i => obtain rfl : w = .str i := r2; rfl
    | _ => cases f2
  | int i =>
    obtain rfl : v = .int i := r
    cases u with
    | non => obtain rfl : w = .non := r2; rfl
    | bl b => obtain rfl : w = .bl b := r2; rfl
    | int i => obtain rfl : w = .int i := r2; rfl
    | str i => obtain rfl : w = .str i := r2; rfl
    | _ => cases f2
  | str i =>
    obtain rfl : v = .str i := r
    cases u with
    | non => obtain rfl : w = .non := r2; rfl
    | bl b => obtain rfl : w = .bl b := r2; rfl
    | int i => obtain rfl : w = .int i := r2; rfl
    | str i => obtain rfl : w = .str i := r2; rfl
    | _ => cases f2
  | _ => cases f
theorem all_flat : ∀ {ts : List Dt} {vs : List V}, RVs G A H ts vs → ts.all flatT = true → vs.all flatV = true
  | [], vs, r, _ => by
    obtain rfl : vs = [] := r
    rfl
  | t :: ts, vs, r, f => by
    obtain ⟨v, w, rfl, r1, r2⟩ := r
    rw [List.all_cons, Bool.and_eq_true] at f
    rw [List.all_cons, Bool.and_eq_true]
    exact ⟨flat_rv r1 f.1, all_flat r2 f.2⟩
theorem any_flat {u : Dt} {w : V} (ru : RV G A H u w) (fu : flatT u = true) : ∀ {ts : List Dt} {vs : List V}, RVs G A H ts vs → ts.all flatT = true → inV w vs = ts.any fun t => eqF t u
  | [], vs, r, _ => by
    obtain rfl : vs = [] := r
    rfl
  | t :: ts, vs, r, f => by
    obtain ⟨v, w', rfl, r1, r2⟩ := r
    rw [List.all_cons, Bool.and_eq_true] at f
    have ih := any_flat ru fu r2 f.2
    unfold inV at ih ⊢
    rw [List.any_cons, List.any_cons, eqF_rv r1 ru f.1 fu, ih]
end
/-- the keys of a dict (a box or not) -/
def dctAt (S : Sto) (d : Dv) : Option (List Key × List Dv) := match d with
  | .d (.dct ks xs) => some (ks, xs.map .d)
  | .loc n => (match S[n]? with
    | some (.dct ks xs) => some (ks, xs)
    | _ => none)
  | _ => none
theorem dctAt_rd {G : Gs} {A : Al} {S : Sto} {H : Hp} {d : Dv} {v : V} {ks : List Key} {xs : List Dv} (s : StR G A S H) (r : RD G A H d v) (h : dctAt S d = some (ks, xs)) : ∃ a kvs, v = .ref a ∧ Rd H a (.dK kvs) ∧ kvs.map (·.1) = ks ∧ RDs G A H xs (kvs.map (·.2)) := by
  cases d with
  | d t =>
    cases t with
    | dct ks' xs' =>
      obtain ⟨a, kvs, e, _, hl, ek, hv⟩ := r
      cases h
      exact ⟨a, kvs, e, hl, ek, hv.rds⟩
    | _ => cases h
  | loc n =>
    unfold dctAt at h
    simp only at h
    cases e : S[n]? with
    | none => rw [e] at h; cases h
    | some o =>
      rw [e] at h
      cases o with
      | dct ks' xs' =>
        cases h
        obtain ⟨a, kvs, ev, _, hl, ek, hv⟩ := loc_dct s r e
        exact ⟨a, kvs, ev, .inl hl, ek, hv⟩
      | _ => cases h
def inSeq (x : Dv) (ds : List Dv) : Option Bool := match x with
  | .d u => if flatT u = true then (match pures ds with
    | some ts => if ts.all flatT = true then some (ts.any fun t => eqF t u) else none
    | none => none) else none
  | _ => none
def inDv (S : Sto) (x e : Dv) : Option Bool := match dctAt S e with
  | some (ks, _) => (kOf x).map (hasK ks)
  | none => (match seqAt S e with
    | some ds => inSeq x ds
    | none => none)
/-- .. where items are data of any depth -/
def inDat (S : Sto) (x e : Dv) : Option Bool := match pyDv S x, pyDv S e with
  | some d, some (.list ds) => if SeqAt.shaped d = true ∧ SeqAt.shaped (.list ds) = true then some (ds.any fun z => PyData.eqv z d) else none
  | some d, some (.tuple ds) => if SeqAt.shaped d = true ∧ SeqAt.shaped (.tuple ds) = true then some (ds.any fun z => PyData.eqv z d) else none
  | _, _ => none
def pIn : P2 := fun d e S => match inDv S d e with
  | some b => some (.d (.bl b), S)
  | none => (match inDat S d e with
    | some b => some (.d (.bl b), S)
    | none => none)
def pNotIn : P2 := fun d e S => match inDv S d e with
  | some b => some (.d (.bl (!b)), S)
  | none => (match inDat S d e with
    | some b => some (.d (.bl (!b)), S)
    | none => none)
theorem valV_has {kvs : List (Key × V)} {k : Key} : (valV kvs k).isSome = hasK (kvs.map (·.1)) k := by
  induction kvs with
  | nil => rfl
  | cons p r ih =>
    unfold hasK at ih ⊢
    rw [List.map_cons, List.any_cons]
    by_cases e : p.1 = k
    · rw [valV_pos e]
      simp [e]
    · have : valV (p :: r) k = valV r k := by
        unfold valV
        rw [List.find?_cons_of_neg (by simpa using e)]
      rw [this, ih]
      simp [e]
section
variable {X : Cx} {G : Gs} {W : WX} {k : Nat}
theorem op_inDct (hu : X.A.units + 1 < cLine) : OpR X (compareOp .In) (fun x y H Q => ∃ a o, y = .ref a ∧ DGet H a x o ∧ Q (.bl o.isSome) H) := by
  intro pins s σ H x y v u Q I rx ry h
  obtain ⟨a, o, rfl, g, q⟩ := h
  obtain rfl : u = Value.ref a := ry
  exact d_in hu I g rx fun s3 I3 => ⟨.bl o.isSome, H, I3, rfl, q⟩
theorem op_notInDct (hu : X.A.units + 1 < cLine) : OpR X (compareOp .NotIn) (fun x y H Q => ∃ a o, y = .ref a ∧ DGet H a x o ∧ Q (.bl (!o.isSome)) H) := by
  intro pins s σ H x y v u Q I rx ry h
  obtain ⟨a, o, rfl, g, q⟩ := h
  obtain rfl : u = Value.ref a := ry
  exact d_notIn hu I g rx fun s3 I3 => ⟨.bl (!o.isSome), H, I3, rfl, q⟩
theorem in_read {x y : V} {H : Hp} {A : Al} {S : Sto} {d e : Dv} {b : Bool} (hK : G.K = X.K) (rd : RD G A H d x) (re : RD G A H e y) (s : StR G A S H) (h : inDv S d e = some b) :
    (∃ p xs, y = .ref p ∧ (SqL X.K H p xs ∨ SqT X.K H p xs) ∧ flatV x = true ∧ xs.all flatV = true ∧ inV x xs = b) ∨ ∃ a o, y = .ref a ∧ DGet H a x o ∧ o.isSome = b := by
  unfold inDv at h
  split at h
  · rename_i ks xs e1
    obtain ⟨a, kvs, ev, hl, ek, hv⟩ := dctAt_rd s re e1
    cases ek2 : kOf d with
    | none => rw [ek2] at h; cases h
    | some j =>
      rw [ek2] at h
      cases h
      have ex := kOf_rd ek2 rd
      exact .inr ⟨a, valV kvs j, ev, .inl ⟨kvs, j, hl, ex, rfl⟩, by rw [valV_has, ek]⟩
  · split at h
    · rename_i ds e2
      obtain ⟨a, vs, ev, hs, hv⟩ := seqAt_rd s re e2
      unfold inSeq at h
      split at h
      · rename_i u
        split at h
        · rename_i fu
          split at h
          · rename_i ts e3
            split at h
            · rename_i ft
              cases h
              have rv := pures_rvs e3 hv
              rw [hK] at hs
              exact .inl ⟨a, vs, ev, hs, flat_rv rd fu, all_flat rv ft, any_flat rd fu rv ft⟩
            · cases h
          · cases h
        · cases h
      · cases h
    · cases h
theorem _root_.L2.Room.units66 {k : Nat} {A : Around} (r : Room k A) : A.units + 66 < cLine := by have := r.un; omega
def rInT (K : PySem.W.Frag) : R2 := fun x y H Q => ∃ d ds, Dp K H x d ∧ Dp K H y (.tuple ds) ∧ SeqAt.shaped d = true ∧ SeqAt.shaped (.tuple ds) = true ∧ Q (.bl (ds.any fun z => PyData.eqv z d)) H
def rNotInT (K : PySem.W.Frag) : R2 := fun x y H Q => ∃ d ds, Dp K H x d ∧ Dp K H y (.tuple ds) ∧ SeqAt.shaped d = true ∧ SeqAt.shaped (.tuple ds) = true ∧ Q (.bl (!ds.any fun z => PyData.eqv z d)) H
theorem op_inT (hu : X.A.units + 65 < cLine) : OpR X (compareOp .In) (rInT X.K) := by
  intro pins s σ H x y v u Q I rx ry h
  obtain ⟨d, ds, hd, he, sd, se, q⟩ := h
  obtain ⟨as, r1⟩ := Dp.reads I d x v hd rx
  obtain ⟨bs, r2⟩ := Dp.reads I (.tuple ds) y u he ry
  exact SeqAt.in_tuple_reads r2 r1 (SeqAt.canLay_of_shaped se) (SeqAt.canLay_of_shaped sd) (room_in_shaped sd hu) ⟨.bl _, H, I, rfl, q⟩
theorem op_notInT (hu : X.A.units + 65 < cLine) : OpR X (compareOp .NotIn) (rNotInT X.K) := by
  intro pins s σ H x y v u Q I rx ry h
  obtain ⟨d, ds, hd, he, sd, se, q⟩ := h
  obtain ⟨as, r1⟩ := Dp.reads I d x v hd rx
  obtain ⟨bs, r2⟩ := Dp.reads I (.tuple ds) y u he ry
  exact SeqAt.notIn_tuple_reads r2 r1 (SeqAt.canLay_of_shaped se) (SeqAt.canLay_of_shaped sd) (room_in_shaped sd hu) ⟨.bl _, H, I, rfl, q⟩
theorem inDat_read {x y : V} {H : Hp} {A : Al} {S : Sto} {d e : Dv} {b : Bool} (hK : G.K = X.K) (rd : RD G A H d x) (re : RD G A H e y) (s : StR G A S H) (h : inDat S d e = some b) :
    ∃ z ds, Dp X.K H x z ∧ SeqAt.shaped z = true ∧ (ds.any fun u => PyData.eqv u z) = b ∧ ((Dp X.K H y (.list ds) ∧ SeqAt.shaped (.list ds) = true) ∨ (Dp X.K H y (.tuple ds) ∧ SeqAt.shaped (.tuple ds) = true)) := by
  unfold inDat at h
  split at h
  · rename_i z ds e1 e2
    split at h
    · rename_i hs
      cases h
      rw [← hK]
      exact ⟨z, ds, pyDv_dp s rd e1, hs.1, rfl, .inl ⟨pyDv_dp s re e2, hs.2⟩⟩
    · cases h
  · rename_i z ds e1 e2
    split at h
    · rename_i hs
      cases h
      rw [← hK]
      exact ⟨z, ds, pyDv_dp s rd e1, hs.1, rfl, .inr ⟨pyDv_dp s re e2, hs.2⟩⟩
    · cases h
  · cases h
theorem o_in (hu : X.A.units + 66 < cLine) (hK : G.K = X.K) : OpR X (compareOp .In) (q2 G pIn) := by
  refine ((op_in_seq.or (op_inDct (by omega))).or ((op_inD (by omega)).or (op_inT (by omega)))).sm fun x y H Q h => ?_
  obtain ⟨A, S, d, e, rd, re, s, p⟩ := h
  unfold pIn at p
  split at p
  · rename_i b hb
    have q := Po.now p s _ rfl
    rcases in_read hK rd re s hb with ⟨a, xs, e1, e2, e3, e4, e5⟩ | ⟨a, o, e1, e2, e3⟩
    · exact .inl (.inl ⟨a, xs, e1, e2, e3, e4, by simp only [Bool.false_eq_true, if_false]; rw [e5]; exact q⟩)
    · exact .inl (.inr ⟨a, o, e1, e2, by rw [e3]; exact q⟩)
  · split at p
    · rename_i b hb
      have q := Po.now p s _ rfl
      obtain ⟨z, ds, h1, h2, h3, h4 | h4⟩ := inDat_read hK rd re s hb
      · exact .inr (.inl ⟨z, ds, h1, h4.1, h2, h4.2, by rw [h3]; exact q⟩)
      · exact .inr (.inr ⟨z, ds, h1, h4.1, h2, h4.2, by rw [h3]; exact q⟩)
    · exact p.elim
theorem o_notIn (hu : X.A.units + 66 < cLine) (hK : G.K = X.K) : OpR X (compareOp .NotIn) (q2 G pNotIn) := by
  refine ((op_notIn_seq.or (op_notInDct (by omega))).or ((op_notInD (by omega)).or (op_notInT (by omega)))).sm fun x y H Q h => ?_
  obtain ⟨A, S, d, e, rd, re, s, p⟩ := h
  unfold pNotIn at p
  split at p
  · rename_i b hb
    have q := Po.now p s _ rfl
    rcases in_read hK rd re s hb with ⟨a, xs, e1, e2, e3, e4, e5⟩ | ⟨a, o, e1, e2, e3⟩
    · exact .inl (.inl ⟨a, xs, e1, e2, e3, e4, by simp only [if_true]; rw [e5]; exact q⟩)
    · exact .inl (.inr ⟨a, o, e1, e2, by rw [e3]; exact q⟩)
  · split at p
    · rename_i b hb
      have q := Po.now p s _ rfl
      obtain ⟨z, ds, h1, h2, h3, h4 | h4⟩ := inDat_read hK rd re s hb
      · exact .inr (.inl ⟨z, ds, h1, h4.1, h2, h4.2, by rw [h3]; exact q⟩)
      · exact .inr (.inr ⟨z, ds, h1, h4.1, h2, h4.2, by rw [h3]; exact q⟩)
    · exact p.elim
theorem o_is : OpR X (compareOp .Is) (q2 G pIsN) := by
  refine op_isN.sm fun x y H Q h => ?_
  obtain ⟨A, S, d, e, rd, re, s, p⟩ := h
  unfold pIsN at p
  split at p
  · rename_i t
    refine ⟨re, ?_⟩
    rw [isN_rd rd]
    exact Po.now p s _ (by cases t <;> rfl)
  · exact p.elim
end

/-! ### subscripts -/
def pIx : P2 := fun d e S => match dctAt S d with
  | some (ks, xs) => (match kOf e with
    | some j => (match dlook ks xs j with
      | some x => some (x, S)
      | none => none)
    | none => none)
  | none => (match e with
    | .d (.int i) => (match d with
      | .d (.str z) => if z.length ≤ 16777216 then (match atI z.cps.toList i with
        | some c => some (.d (.str ⟨#[c]⟩), S)
        | none => none) else none
      | d => (match seqAt S d with
        | some ds => (match atI ds i with
          | some x => some (x, S)
          | none => none)
        | none => none))
    | _ => none)
theorem atI_rd {G : Gs} {A : Al} {H : Hp} {ds : List Dv} {vs : List V} {i : Int} {x : Dv} (r : RDs G A H ds vs) (h : atI ds i = some x) : ∃ v, atI vs i = some v ∧ RD G A H x v := by
  unfold atI at h ⊢
  rw [← Paired.length r]
  cases e : ixN ds.length i with
  | none => rw [e] at h; cases h
  | some j =>
    rw [e] at h
    exact r.get h
section
variable {X : Cx} {G : Gs} {W : WX} {k : Nat}
theorem ix_dct (hu : X.A.units + 1 < cLine) : IxR X (fun x y H Q => ∃ a v, x = .ref a ∧ DGet H a y (some v) ∧ Q v H) := by
  intro value slice pins s σ H x y o i Q I rx ry h hs
  obtain ⟨a, v, rfl, g, q⟩ := h
  obtain rfl : o = Value.ref a := rx
  have hT := dict_typeIs I g
  have h2 : wpAny (model X.prog X.w) X.A (getItem (.ref a) i) (EP X pins σ Q) X.xe s := d_getItem hu I g ry fun w' s3 I3 rw' => ⟨v, H, I3, rw', q⟩
  unfold subscriptTail
  refine wpAny_bind ?_
  rw [getitemInPython_of_ne hT.not_modules]
  refine wpAny_bind (wpAny_specialOf hT PySem.F.slot_dict_getitem.lookup ?_)
  have h3 : wpAny (model X.prog X.w) X.A (subscripted slice false (.ref a) i) (fun r s' => wpAny (model X.prog X.w) X.A (letTemporaryGo value (.ref a) r >>= fun _ => pure r) (EP X pins σ Q) X.xe s') X.xe s := by
    rw [hs]
    exact wpAny_operating (thn h2 fun r s' z => wpAny_bind (wpAny_letTemporaryGo (wpAny_pure z)))
  first
    | exact wpAny_pure (wpAny_bind h3)
    | exact wpAny_bind (wpAny_pure (wpAny_bind h3))
    | exact wpAny_bind h3
theorem i_ix (hu : X.A.units + 64 < cLine) (hK : G.K = X.K) : IxR X (q2 G pIx) := by
  refine (ix_seq.or (ix_dct (by omega))).sm fun x y H Q h => ?_
  obtain ⟨A, S, d, e, rd, re, s, p⟩ := h
  unfold pIx at p
  split at p
  · rename_i ks xs e1
    obtain ⟨a, kvs, ev, hl, ek, hv⟩ := dctAt_rd s rd e1
    split at p
    · rename_i j ej
      split at p
      · rename_i w ew
        have ex := kOf_rd ej re
        rw [← ek] at ew
        obtain ⟨v, e2, rv⟩ := (dlook_val (j := j) hv).1 w ew
        exact .inr ⟨a, v, ev, .inl ⟨kvs, j, hl, ex, e2.symm⟩, Po.now p s v rv⟩
      · exact p.elim
    · exact p.elim
  · split at p
    · rename_i i
      split at p
      · rename_i z
        split at p
        · rename_i hl
          split at p
          · rename_i c ec
            exact .inl (.inr (.inr ⟨_, i, c, rd, re, line_of hl, ec, Po.now p s _ rfl⟩))
          · exact p.elim
        · exact p.elim
      · split at p
        · rename_i ds e1
          split at p
          · rename_i w ew
            obtain ⟨a, vs, ev, hs, hv⟩ := seqAt_rd s rd e1
            obtain ⟨v, e2, rv⟩ := atI_rd hv ew
            rw [hK] at hs
            rcases hs with hs | hs
            · exact .inl (.inl ⟨a, vs, i, v, ev, re, hs, e2, Po.now p s v rv⟩)
            · exact .inl (.inr (.inl ⟨a, vs, i, v, ev, re, hs, e2, Po.now p s v rv⟩))
          · exact p.elim
        · exact p.elim
    · exact p.elim
end

/-! ### slices -/
def tMO (G : Gs) (W : WX) (m : M (Option Int)) : TO := fun σ H Q => ∃ A ρ S, EnvR G A H ρ σ ∧ StR G A S H ∧ Po G (Wa W σ) A H (m ρ S) fun _ H' o => Q o H'
def oNo : M (Option Int) := fun _ S => .ok none S
def oPt (m : M Dv) : M (Option Int) := fun ρ S => (m ρ S).bind fun d S1 => match d with
  | .d (.int i) => .ok (some i) S1
  | _ => .bad
def cutL {α : Type} (xs : List α) (lo hi : Option Int) : List α := (xs.drop (HT.sIx xs.length 0 lo)).take (HT.sIx xs.length xs.length hi - HT.sIx xs.length 0 lo)
abbrev PSl := Option Int → Option Int → P1
def pSl : PSl := fun lo hi d S => match d with
  | .d (.lst xs) => some (.d (.lst (cutL xs lo hi)), S)
  | .d (.scr xs) => some (.d (.lst (cutL xs lo hi)), S)
  | .d (.tup xs) => some (.d (.tup (cutL xs lo hi)), S)
  | .d (.str z) => if z.length ≤ 16777216 then some (.d (.str (cutS z lo hi)), S) else none
  | .loc n => (match S[n]? with
    | some (.lst ds) => (match pures ds with
      | some xs => some (.d (.lst (cutL xs lo hi)), S)
      | none => none)
    | _ => none)
  | _ => none
def mSl (p : PSl) (m : M Dv) (l h : M (Option Int)) : M Dv := fun ρ S => (m ρ S).bind fun d S1 => (l ρ S1).bind fun lo S2 => (h ρ S2).bind fun hi S3 => lift (p lo hi d S3)
def qSl (G : Gs) (p : PSl) : V → Option Int → Option Int → Hp → VK → Prop := fun x lo hi H Q => ∃ A S d, RD G A H d x ∧ StR G A S H ∧ Po G Ez A H (lift (p lo hi d S)) (kD G Q)
theorem cut_rvs {G : Gs} {A : Al} {H : Hp} {ts : List Dt} {vs : List V} {lo hi : Option Int} (r : RVs G A H ts vs) : RVs G A H (cutL ts lo hi) (cutV vs lo hi) := by
  unfold cutL cutV
  rw [← r.length]
  exact (r.drop _).take _
theorem cut_all {α : Type} {xs : List α} {lo hi : Option Int} (h : HT.sIx xs.length 0 lo = 0 ∧ HT.sIx xs.length xs.length hi = xs.length) : cutL xs lo hi = xs := by
  unfold cutL
  rw [h.1, h.2]
  simp
section
variable {X : Cx} {G : Gs} {W : WX} {k : Nat} {e : Expr} {m : M Dv} {lo hi : Option Expr} {ml mh : M (Option Int)} {pos p2 : Pos} {p : PSl}
theorem o_no : PO X none (tMO G W oNo) := ⟨fun pins s σ H Q I h => by
  obtain ⟨A, ρ, S, he, hs, p⟩ := h
  exact po_none.run pins s σ H Q I (Po.now p hs)⟩
theorem o_pt (h : PE X e (tM G W m)) : PO X (some e) (tMO G W (oPt m)) := ⟨fun pins s σ H Q I q => by
  obtain ⟨A, ρ, S, he, hs, p⟩ := q
  refine (po_some h).run pins s σ H Q I ⟨A, ρ, S, he, hs, Po.step p fun d S1 A1 H1 x1 s1 p1 v rv => ?_⟩
  split at p1
  · exact ⟨_, rv, Po.now p1 s1⟩
  · exact p1.elim⟩
theorem _root_.L2.SlR.sm {X : Cx} {r r' : V → Option Int → Option Int → Hp → VK → Prop} (h : SlR X r) (f : ∀ x lo hi H Q, r' x lo hi H Q → r x lo hi H Q) : SlR X r' :=
  fun pins s σ H x v vl vu lo hi sl Q I rx a b c q => h pins s σ H x v vl vu lo hi sl Q I rx a b c (f x lo hi H Q q)
theorem e_sl (hr : SlR X (qSl G p)) (he : PE X e (tM G W m)) (hl : PO X lo (tMO G W ml)) (hh : PO X hi (tMO G W mh)) : PE X (.Subscript e (.Slice lo hi none p2) pos) (tM G W (mSl p m ml mh)) := by
  refine (pe_slice hr he hl hh).sm fun σ H Q h => ?_
  obtain ⟨A, ρ, S, he, hs, p0⟩ := h
  refine ⟨A, ρ, S, he, hs, Po.step p0 fun d S1 A1 H1 x1 s1 p1 v rv => ?_⟩
  refine ⟨A1, ρ, S1, he.kp x1.kp, s1, Po.step p1 fun l S2 A2 H2 x2 s2 p2 => ?_⟩
  refine ⟨A2, ρ, S2, (he.kp x1.kp).kp x2.kp, s2, Po.step p2 fun h S3 A3 H3 x3 s3 p3 => ?_⟩
  exact ⟨A3, S3, d, (rv.kp x2.kp).kp x3.kp, s3, Po.lift p3⟩
theorem sl_any (hK : G.K = X.K) : SlR X (qSl G pSl) := by
  refine (sl_list.or (sl_tupA.or sl_str)).sm fun x lo hi H Q h => ?_
  obtain ⟨A, S, d, rd, s, p⟩ := h
  unfold pSl at p
  split at p
  · obtain ⟨a, vs, rfl, ha, hv⟩ := rd
    refine .inl ⟨a, vs, rfl, ?_, poL p s (cut_rvs hv)⟩
    rw [← hK]; exact ha.sq
  · obtain ⟨a, vs, rfl, ha, hv⟩ := rd
    refine .inl ⟨a, vs, rfl, ?_, poL p s (cut_rvs hv)⟩
    rw [← hK]; exact ha.sq
  · obtain ⟨a, vs, rfl, ha, hv⟩ := rd
    refine .inr (.inl ⟨a, vs, rfl, ?_, fun hw => ?_, fun _ => poT p s (cut_rvs hv)⟩)
    · rw [← hK]; exact ha.sq
    · rw [← hv.length] at hw
      rw [cut_all hw] at p
      exact Po.now p s _ ⟨a, vs, rfl, ha, hv⟩
  · split at p
    · rename_i hl
      exact .inr (.inr ⟨_, rd, line_of hl, Po.now p s _ rfl⟩)
    · exact p.elim
  · rename_i n
    split at p
    · rename_i ds e1
      split at p
      · rename_i xs e2
        obtain ⟨a, vs, rfl, _, hl, hv⟩ := loc_lst s rd e1
        exact .inl ⟨a, vs, rfl, .inl (.inl hl), poL p s (cut_rvs (pures_rvs e2 hv))⟩
      · exact p.elim
    · exact p.elim
  · exact p.elim
end
end Sm
/-! Sm11: the builtins, stores, list methods. -/
namespace Sm
open PySem PySem.Spec PyProof.Rows L2
section
variable {G : Gs} {A : Al} {H : Hp}
theorem RDs.one {d : Dv} {vs : List V} (r : RDs G A H [d] vs) : ∃ v, vs = [v] ∧ RD G A H d v := by
  cases r with
  | cons h t =>
    cases t
    exact ⟨_, rfl, h⟩
theorem RDs.two {d e : Dv} {vs : List V} (r : RDs G A H [d, e] vs) : ∃ v w, vs = [v, w] ∧ RD G A H d v ∧ RD G A H e w := by
  cases r with
  | cons h t =>
    obtain ⟨w, rfl, h2⟩ := RDs.one t
    exact ⟨_, _, rfl, h, h2⟩
theorem keys_rvs : ∀ {kvs : List (Key × V)}, RVs G A H ((kvs.map (·.1)).map kT) (kvs.map fun kv => kV kv.1)
  | [] => (rfl : ([] : List V) = [])
  | kv :: r => ⟨_, _, rfl, kT_rv kv.1, keys_rvs⟩
end
/-! ### len, list, tuple -/
def pLen : PN := fun ds S => match ds with
  | [.d (.str z)] => if z.length ≤ 16777216 then some (.d (.int (z.length : Nat)), S) else none
  | [d] => (match dctAt S d with
    | some (ks, _) => some (.d (.int (ks.length : Nat)), S)
    | none => (match seqAt S d with
      | some xs => some (.d (.int (xs.length : Nat)), S)
      | none => none))
  | _ => none
/-- what list(..), tuple(..) take: the items, by data -/
def itemsOf (S : Sto) (d : Dv) : Option (List Dt) := match dctAt S d with
  | some (ks, _) => some (ks.map kT)
  | none => (match seqAt S d with
    | some xs => pures xs
    | none => none)
def pList : PN := fun ds S => match ds with
  | [d] => (match itemsOf S d with
    | some ts => some (.d (.lst ts), S)
    | none => none)
  | _ => none
def pListB : PN := fun ds S => match ds with
  | [d] => (match itemsOf S d with
    | some ts => some (.loc S.length, S ++ [.lst (ts.map .d)])
    | none => none)
  | _ => none
def pInt : PN := fun ds S => match ds with
  | [.d (.int i)] => some (.d (.int i), S)
  | [.d (.bl b)] => some (.d (.int (if b then 1 else 0)), S)
  | _ => none
def pAbs : PN := fun ds S => match ds with
  | [.d (.int i)] => some (.d (.int (if i < 0 then -i else i)), S)
  | _ => none
def blsOf : List Dt → Option (List Bool)
  | [] => some []
  | .bl b :: r => (blsOf r).map (b :: ·)
  | _ => none
/-- a list by data -/
def lstT (S : Sto) (d : Dv) : Option (List Dt) := match d with
  | .d (.scr xs) => some xs
  | d => (lstAt S d).bind pures
def pTuple : PN := fun ds S => match ds with
  | [.d (.tup ts)] => some (.d (.tup ts), S)
  | [d] => (match dctAt S d with
    | some (ks, _) => some (.d (.tup (ks.map kT)), S)
    | none => (match lstT S d with
      | some ts => some (.d (.tup ts), S)
      | none => none))
  | _ => none
def pAll : PN := fun ds S => match ds with
  | [d] => (match (lstT S d).bind blsOf with
    | some bs => some (.d (.bl (bs.all id)), S)
    | none => none)
  | _ => none
theorem lstT_rd {G : Gs} {A : Al} {S : Sto} {H : Hp} {d : Dv} {v : V} {ts : List Dt} (s : StR G A S H) (r : RD G A H d v) (h : lstT S d = some ts) : ∃ a vs, v = .ref a ∧ SqL G.K H a vs ∧ RVs G A H ts vs := by
  unfold lstT at h
  split at h
  · cases h
    obtain ⟨a, vs, rfl, ha, hv⟩ := r
    exact ⟨a, vs, rfl, ha.sq, hv⟩
  · cases e : lstAt S d with
    | none => rw [e] at h; cases h
    | some ds =>
      rw [e] at h
      obtain ⟨a, vs, rfl, hl, hv⟩ := lstAt_rd s r e
      exact ⟨a, vs, rfl, .inl (.inl hl), pures_rvs h hv⟩
theorem bls_rv {G : Gs} {A : Al} {H : Hp} : ∀ {ts : List Dt} {bs : List Bool} {vs : List V}, blsOf ts = some bs → RVs G A H ts vs → vs = bs.map V.bl
  | [], bs, vs, e, r => by
    cases e
    exact r
  | t :: ts, bs, vs, e, r => by
    obtain ⟨v, w, rfl, r1, r2⟩ := r
    cases t with
    | bl b =>
      unfold blsOf at e
      cases e1 : blsOf ts with
      | none => rw [e1] at e; cases e
      | some cs =>
        rw [e1] at e
        cases e
        obtain rfl : v = .bl b := r1
        rw [bls_rv e1 r2]
        rfl
    | _ => cases e
/-- tuple(d), d a dict: its keys -/
theorem collect_src {prog : Program} {w : World} {A : Around} {E : Value → Shared → Prop} {s : Shared} {T : String} {r d : Addr} {n : Nat} {P : Nat → Value → Prop} {OK : Heap → Prop} {Q : List Value → Shared → Prop}
    (K : PySem.W.KdlSrc prog w T r d n P OK) (hh : A.handled = none) (hok : OK s.heap) (hn : n ≤ sizeLine)
    (hQ : ∀ (h' : Heap) (tk : Nat) (acc : Array Value), (∀ b o, s.heap.get? b = some o → h'.get? b = some o) → ItemsOf P acc n → Q acc.toList { s with heap := h', toks := tk }) : wpAny (model prog w) A (collect (.ref r)) Q E s := by
  unfold collect
  refine wpAny_bind (wpAny_runValue (codeAny_builtin F.entry_proto_collect ?_))
  rw [Around.under_plainId F.plain_proto_collect _]
  show wpAny _ A.in1 (newList [] >>= fun z => again (.builtin "list.__iadd__" ⟨[z, .ref r], []⟩)) _ _ s
  refine wpAny_bind (wpAny_newObj_type ?_)
  refine wpAny_pure ⟨plainId_quiet F.plain_list_iadd _, codeAny_builtin F.entry_list_iadd ?_⟩
  rw [Around.under_plainId F.plain_list_iadd _]
  have hS : (s.heap.push { cls := .type "list", data := .seq ([] : List Value).toArray }).get? s.heap.objs.size = some { cls := .type "list", data := .seq #[] 0 } := Heap.get?_push_size _ rfl
  have hlt := K.there _ hok
  refine wpAny_mono (PySem.W.kdl_extend (A := A) (R := fun z s' => z = .ok (.ret (.ref s.heap.objs.size)) ∧ wpAny (model prog w) A (load s.heap.objs.size >>= fun o => match o.data with
      | Data.seq xs _ => pure xs.toList
      | _ => unsupported "internal:collect") Q E s') (s := { s with heap := s.heap.push { cls := .type "list", data := .seq ([] : List Value).toArray } }) K hh (K.keep _ _ hok fun b _ o e => Heap.get?_push_of_some _ e) s.heap.objs.size (Nat.ne_of_gt hlt.1) (Nat.ne_of_gt hlt.2) _ 0 hS (fun h' tk acc c k1 e1 hi => ?_) hn) (fun fin s' h => ?_) fun e s' h => ?_
  · refine ⟨rfl, wpAny_bind (wpAny_load e1 ?_)⟩
    exact wpAny_pure (hQ h' tk acc (fun b o e => k1 b o (Nat.ne_of_lt (Heap.lt_size e)) (Heap.get?_push_of_some _ e)) hi)
  · cases fin with
    | done f =>
      obtain ⟨e, h⟩ := h
      cases e
      exact h
    | again c' => exact ⟨h.1, codeAny_mono h.2 fun r s'' hr => by
        obtain ⟨rfl, hr⟩ := hr
        exact hr⟩
  · exact absurd h.1 (by simp)
theorem call_tuple_src {prog : Program} {w : World} {A : Around} {E : Value → Shared → Prop} {s : Shared} {r d : Addr} {n : Nat} {P : Nat → Value → Prop} {OK : Heap → Prop} {Q : Value → Shared → Prop}
    (K : PySem.W.KdlSrc prog w "dict" r d n P OK) (hh : A.handled = none) (hok : OK s.heap) (hn : n ≤ sizeLine)
    (hQ : ∀ (h' : Heap) (tk : Nat) (acc : Array Value), (∀ b o, s.heap.get? b = some o → h'.get? b = some o) → ItemsOf P acc n → Q (.ref h'.objs.size) { s with heap := h'.push { cls := .type "tuple", data := .seq acc }, toks := tk }) : wpAny (model prog w) A (call (.type "tuple") [.ref r]) Q E s := by
  have hnew : codeAny (model prog w) A.in1 (.call (.builtin "tuple.__new__") ⟨[.type "tuple", .ref r], []⟩) (wants (fun obj s₁ => s₁.TypeIs obj "tuple" ∧ Q obj s₁) E) s := by
    refine codeAny_of_tree ?_
    show wpAny _ A.in1.in1 (do checkBuiltinCall "tuple.__new__" ⟨[.type "tuple", .ref r], []⟩; again (.builtin "tuple.__new__" ⟨[.type "tuple", .ref r], []⟩)) _ _ s
    refine wpAny_bind (wpAny_of_eq (F.newCall_tuple_1 _) (wpAny_pure ⟨plainId_quiet F.plain_tuple_new _, codeAny_builtin F.entry_tuple_new ?_⟩))
    rw [Around.under_plainId F.plain_tuple_new _]
    have hsub := sub_tuple_self
    have hinit := init_tuple_lookup
    have hmh := madeHere_tuple
    have hTI : s.TypeIs (.ref r) "dict" := K.type s hok
    have hh1 : A.in1.in1.handled = none := hh
    wp_walk using wpAny_typeOf hTI, collect_src (A := A.in1.in1) K hh1 hok hn
    intro h' tk acc hk hacc
    show wpAny _ _ (Builtin.Tuple.tupleExact acc.toList.toArray >>= fun v => ret v) _ _ _
    unfold Builtin.Tuple.tupleExact
    refine wpAny_bind (wpAny_newObj_type ?_ (by show acc.toList.toArray.size ≤ sizeLine; simp only [Array.toArray_toList]; rw [hacc.1]; exact hn))
    refine wpAny_pure ?_
    rw [show acc.toList.toArray = acc by simp]
    exact ⟨⟨_, Heap.get?_push_size _ rfl, rfl⟩, hQ h' tk acc hk hacc⟩
  refine callType_codes (Q₁ := fun obj s₁ => s₁.TypeIs obj "tuple" ∧ Q obj s₁) F.called_tuple (F.typeCall_tuple_1 _) F.entry_object_init hnew fun obj s₁ h₁ => ?_
  exact ⟨h₁.1, F.args_object_init_2 obj _, object_init_meets F.called_tuple.init.lookup F.called_tuple.made (by decide) prog w A.in1 _ s₁ ⟨h₁.1, rfl, h₁.2⟩⟩
section
variable {X : Cx} {G : Gs} {W : WX} {k : Nat}
theorem keys_vals {kvs : List (Key × V)} {vs : List (Key × Value)} {P : Program} {w : World} (rk : KV kvs vs) {acc : Array Value} (h : ItemsOf (fun i v => ∃ k x, vs[i]? = some (k, x) ∧ (mixKind P w).is k v = true) acc vs.length) : Vals (kvs.map fun kv => kV kv.1) acc.toList := by
  have hl : kvs.length = vs.length := Paired.length rk
  refine vals_of_at (by simp [h.1, hl]) fun j x w h1 h2 => ?_
  obtain ⟨k, y, hky, hi⟩ := h.2 j w (by rw [← Array.getElem?_toList]; exact h2)
  have e1 : (kvs.map (·.1))[j]? = some k := by
    rw [KV.keys rk, List.getElem?_map, hky]
    rfl
  have e2 : (kvs.map fun kv => kV kv.1)[j]? = some (kV k) := by
    rw [show (kvs.map fun kv => kV kv.1) = (kvs.map (·.1)).map kV by rw [List.map_map]; rfl, List.getElem?_map, e1]
    rfl
  rw [e2] at h1
  cases h1
  exact keyIs_rel hi
theorem call_list_dR (hc : X.calm = true) : CallR X (.type "list") (fun xs H Q => ∃ p kvs, xs = [.ref p] ∧ Rd H p (.dK kvs) ∧ ∀ q, H q = none → Q (.ref q) (upd H q (.lst (kvs.map fun kv => kV kv.1)))) := by
  intro pins s σ H xs us Q I r h
  obtain ⟨p, kvs, rfl, hk, q⟩ := h
  obtain rfl := Vals.ref1 r
  obtain ⟨z, lo, vs, rk, hd⟩ := dk_rd I.hok hk
  obtain ⟨ep, hat⟩ := hd.dictAt
  have hl : kvs.length = vs.length := Paired.length rk
  refine PySem.W.kdl_call (PySem.W.kdl_dict (knd := mixKind X.prog X.w) (kvs := vs) (ep := ep) lo) (I.ok.hd hc) hat (by rw [← hl]; exact z) fun h' tk acc c' hkeep hS hacc => ?_
  exact ⟨.ref s.heap.objs.size, upd H s.heap.objs.size (.lst (kvs.map fun kv => kV kv.1)), I.laid hkeep (Nat.le_refl _) (show ObjOk X.prog X.w _ _ _ (.lst (kvs.map fun kv => kV kv.1)) from ⟨by rw [List.length_map]; exact z, acc.toList, c', keys_vals rk hacc, by rw [Array.toArray_toList]; exact hS⟩), rfl, q _ (I.hok.fresh (Nat.le_refl _))⟩
theorem call_tuple_dR (hc : X.calm = true) : CallR X (.type "tuple") (fun xs H Q => ∃ p kvs, xs = [.ref p] ∧ Rd H p (.dK kvs) ∧ ∀ q, H q = none → Q (.ref q) (upd H q (.tup (kvs.map fun kv => kV kv.1)))) := by
  intro pins s σ H xs us Q I r h
  obtain ⟨p, kvs, rfl, hk, q⟩ := h
  obtain rfl := Vals.ref1 r
  obtain ⟨z, lo, vs, rk, hd⟩ := dk_rd I.hok hk
  obtain ⟨ep, hat⟩ := hd.dictAt
  have hl : kvs.length = vs.length := Paired.length rk
  refine call_tuple_src (PySem.W.kdl_dict (knd := mixKind X.prog X.w) (kvs := vs) (ep := ep) lo) (I.ok.hd hc) hat (by rw [← hl]; exact z) fun h' tk acc hkeep hacc => ?_
  have I2 : Inv X pins σ H { s with heap := h', toks := tk } := I.kept hkeep
  exact ⟨.ref h'.objs.size, upd H h'.objs.size (.tup (kvs.map fun kv => kV kv.1)), I2.laid (t' := tk) (fun c o e => Heap.get?_push_of_some _ e) (Nat.le_refl _) (show ObjOk X.prog X.w _ _ _ (.tup (kvs.map fun kv => kV kv.1)) from ⟨by rw [List.length_map]; exact z, acc.toList, keys_vals rk hacc, by rw [Array.toArray_toList]; exact IsTup.new _ _⟩), rfl, q _ (I2.hok.fresh (Nat.le_refl _))⟩
theorem call_len_dR : CallR X (.builtin "len") (fun xs H Q => ∃ a kvs, xs = [.ref a] ∧ Rd H a (.dK kvs) ∧ Q (.int (kvs.length : Nat)) H) := by
  intro pins s σ H xs us Q I r h
  obtain ⟨p, kvs, rfl, hk, q⟩ := h
  obtain rfl := Vals.ref1 r
  exact d_len I hk fun t s' I' => ⟨.int (kvs.length : Nat), H, I', ⟨t, rfl⟩, q⟩
theorem items_rd {A : Al} {S : Sto} {H : Hp} {d : Dv} {v : V} {ts : List Dt} (s : StR G A S H) (r : RD G A H d v) (h : itemsOf S d = some ts) :
    (∃ a kvs, v = .ref a ∧ Rd H a (.dK kvs) ∧ ts = (kvs.map (·.1)).map kT) ∨ ∃ a vs, v = .ref a ∧ (SqL G.K H a vs ∨ SqT G.K H a vs) ∧ RVs G A H ts vs := by
  unfold itemsOf at h
  split at h
  · rename_i ks xs e1
    obtain ⟨a, kvs, ev, hl, ek, hv⟩ := dctAt_rd s r e1
    cases h
    exact .inl ⟨a, kvs, ev, hl, by rw [ek]⟩
  · split at h
    · rename_i ds e2
      obtain ⟨a, vs, ev, hs, hv⟩ := seqAt_rd s r e2
      exact .inr ⟨a, vs, ev, hs, pures_rvs h hv⟩
    · cases h
theorem b_len (hK : G.K = X.K) : CallR X (.builtin "len") (qN G pLen) := by
  refine (call_len_seq.or (call_len_str.or call_len_dR)).sm fun xs H Q h => ?_
  obtain ⟨A, S, ds, rd, s, p⟩ := h
  unfold pLen at p
  split at p
  · obtain ⟨v, rfl, r⟩ := RDs.one rd
    split at p
    · rename_i z hl
      obtain rfl : v = .str _ := r
      exact .inr (.inl ⟨_, rfl, line_of hl, Po.now p s _ rfl⟩)
    · exact p.elim
  · obtain ⟨v, rfl, r⟩ := RDs.one rd
    split at p
    · rename_i ks xs e1
      obtain ⟨a, kvs, rfl, hl, ek, hv⟩ := dctAt_rd s r e1
      refine .inr (.inr ⟨a, kvs, rfl, hl, ?_⟩)
      rw [show kvs.length = ks.length by rw [← ek, List.length_map]]
      exact Po.now p s _ rfl
    · split at p
      · rename_i xs e2
        obtain ⟨a, vs, rfl, hs, hv⟩ := seqAt_rd s r e2
        refine .inl ⟨a, vs, rfl, by rw [← hK]; exact hs, ?_⟩
        rw [← Paired.length hv]
        exact Po.now p s _ rfl
      · exact p.elim
  · exact p.elim
theorem b_list (hK : G.K = X.K) (hc : X.calm = true) : CallR X (.type "list") (qN G pList) := by
  refine (call_list_of.or (call_list_dR hc)).sm fun xs H Q h => ?_
  obtain ⟨A, S, ds, rd, s, p⟩ := h
  unfold pList at p
  split at p
  · obtain ⟨v, rfl, r⟩ := RDs.one rd
    split at p
    · rename_i ts e1
      rcases items_rd s r e1 with ⟨a, kvs, rfl, hl, rfl⟩ | ⟨a, vs, rfl, hs, hv⟩
      · exact .inr ⟨a, kvs, rfl, hl, poL p s keys_rvs⟩
      · exact .inl ⟨a, vs, rfl, by rw [← hK]; exact hs, poL p s hv⟩
    · exact p.elim
  · exact p.elim
theorem b_listB (hK : G.K = X.K) (hc : X.calm = true) : CallR X (.type "list") (qN G pListB) := by
  refine (call_list_of.or (call_list_dR hc)).sm fun xs H Q h => ?_
  obtain ⟨A, S, ds, rd, s, p⟩ := h
  unfold pListB at p
  split at p
  · obtain ⟨v, rfl, r⟩ := RDs.one rd
    split at p
    · rename_i ts e1
      rcases items_rd s r e1 with ⟨a, kvs, rfl, hl, rfl⟩ | ⟨a, vs, rfl, hs, hv⟩
      · exact .inr ⟨a, kvs, rfl, hl, poB p s keys_rvs.rds⟩
      · exact .inl ⟨a, vs, rfl, by rw [← hK]; exact hs, poB p s hv.rds⟩
    · exact p.elim
  · exact p.elim
theorem b_tuple (hK : G.K = X.K) (hc : X.calm = true) : CallR X (.type "tuple") (qN G pTuple) := by
  refine (call_tuple_of.or (call_tuple_dR hc)).sm fun xs H Q h => ?_
  obtain ⟨A, S, ds, rd, s, p⟩ := h
  unfold pTuple at p
  split at p
  · obtain ⟨v, rfl, r⟩ := RDs.one rd
    obtain ⟨a, vs, rfl, ha, hv⟩ := r
    exact .inl ⟨a, vs, rfl, .inr ⟨by rw [← hK]; exact ha.sq, Po.now p s _ ⟨a, vs, rfl, ha, hv⟩⟩⟩
  · obtain ⟨v, rfl, r⟩ := RDs.one rd
    split at p
    · rename_i ks xs e1
      obtain ⟨a, kvs, rfl, hl, ek, hv⟩ := dctAt_rd s r e1
      subst ek
      exact .inr ⟨a, kvs, rfl, hl, poT p s keys_rvs⟩
    · split at p
      · rename_i ts e2
        obtain ⟨a, vs, rfl, hs, hv⟩ := lstT_rd s r e2
        exact .inl ⟨a, vs, rfl, .inl ⟨by rw [← hK]; exact hs, poT p s hv⟩⟩
      · exact p.elim
  · exact p.elim
theorem b_int : CallR X (.type "int") (qN G pInt) := by
  refine call_int1.sm fun xs H Q h => ?_
  obtain ⟨A, S, ds, rd, s, p⟩ := h
  unfold pInt at p
  split at p
  · obtain ⟨v, rfl, r⟩ := RDs.one rd
    obtain rfl : v = .int _ := r
    exact .inl ⟨_, rfl, Po.now p s _ rfl⟩
  · obtain ⟨v, rfl, r⟩ := RDs.one rd
    obtain rfl : v = .bl _ := r
    exact .inr ⟨_, rfl, Po.now p s _ rfl⟩
  · exact p.elim
theorem b_abs : CallR X (.builtin "abs") (qN G pAbs) := by
  refine call_abs.sm fun xs H Q h => ?_
  obtain ⟨A, S, ds, rd, s, p⟩ := h
  unfold pAbs at p
  split at p
  · obtain ⟨v, rfl, r⟩ := RDs.one rd
    obtain rfl : v = .int _ := r
    exact ⟨_, rfl, Po.now p s _ rfl⟩
  · exact p.elim
theorem b_all (hK : G.K = X.K) (hc : X.calm = true) : CallR X (.builtin "all") (qN G pAll) := by
  refine (cr_all hc).sm fun xs H Q h => ?_
  obtain ⟨A, S, ds, rd, s, p⟩ := h
  unfold pAll at p
  split at p
  · obtain ⟨v, rfl, r⟩ := RDs.one rd
    split at p
    · rename_i bs e
      obtain ⟨ts, e1, e2⟩ := Option.bind_eq_some_iff.mp e
      obtain ⟨a, vs, rfl, hs, hv⟩ := lstT_rd s r e1
      obtain rfl := bls_rv e2 hv
      exact ⟨a, bs, rfl, by rw [← hK]; exact hs, Po.now p s _ rfl⟩
    · exact p.elim
  · exact p.elim
end
end Sm
/-! Sm12: isinstance, stores, list methods, sorted. -/
namespace Sm
open PySem PySem.Spec PyProof.Rows L2

/-! ### isinstance -/
def isaT (a b : String) : Bool := a == b || (a == "bool" && b == "int")
def tyL : List String := ["NoneType", "bool", "int", "str", "tuple", "list", "dict"]
def tyR : List String := ["bool", "int", "str", "tuple", "list", "dict"]
theorem kit_all : ∀ a ∈ tyL, ∀ b ∈ tyR, kitB a b = some (isaT a b) := by decide +kernel
theorem kit_any {K : PySem.W.Frag} {a : String} (ha : a ∈ tyL) : ∀ {bs : List String}, (∀ b ∈ bs, b ∈ tyR) → PySem.W.kitAny K (.type a) (bs.map Value.type) = some (bs.any (isaT a))
  | [], _ => kitAny_nil
  | b :: bs, h => by
    have h1 := kit_ty (K := K) (kit_all a ha b (h b List.mem_cons_self))
    have h2 := kit_any (K := K) ha (bs := bs) fun c hc => h c (List.mem_cons_of_mem _ hc)
    refine kitAny_cons h1 (fun e => ?_) fun e => ?_
    · rw [List.any_cons, e]
      exact h2
    · rw [List.any_cons, e]
      rfl
def tyDv (S : Sto) (d : Dv) : Option String := match d with
  | .d .non => some "NoneType"
  | .d (.bl _) => some "bool"
  | .d (.int _) => some "int"
  | .d (.str _) => some "str"
  | .d (.tup _) => some "tuple"
  | .d (.lst _) => some "list"
  | .d (.scr _) => some "list"
  | .d (.ltp _) => some "tuple"
  | .d (.dct _ _) => some "dict"
  | .loc n => (match S[n]? with
    | some (.lst _) => some "list"
    | some (.dct _ _) => some "dict"
    | _ => none)
  | _ => none
theorem tyDv_rd {G : Gs} {A : Al} {S : Sto} {H : Hp} {d : Dv} {v : V} {T : String} (s : StR G A S H) (r : RD G A H d v) (h : tyDv S d = some T) : T ∈ tyL ∧ TyX G.K H v (.type T) := by
  unfold tyDv at h
  split at h
  · cases h
    obtain rfl : v = .non := r
    exact ⟨by decide, .base .non⟩
  · cases h
    obtain rfl : v = .bl _ := r
    exact ⟨by decide, .base (.bl _)⟩
  · cases h
    obtain rfl : v = .int _ := r
    exact ⟨by decide, .base (.int _)⟩
  · cases h
    obtain rfl : v = .str _ := r
    exact ⟨by decide, .base (.str _)⟩
  · cases h
    obtain ⟨a, vs, rfl, ha, _⟩ := r
    refine ⟨by decide, ?_⟩
    rcases ha.sq with (h | ⟨o, h⟩) | ⟨o, its, n, h1, h2, _⟩
    · exact .base (.tup h)
    · exact .fTuple h
    · exact .kTuple h1 h2
  · cases h
    obtain ⟨a, vs, rfl, ha, _⟩ := r
    exact ⟨by decide, .base (.lst ha.1)⟩
  · cases h
    obtain ⟨a, vs, rfl, ha, _⟩ := r
    refine ⟨by decide, ?_⟩
    rcases ha.sq with (h | ⟨o, h⟩) | ⟨o, its, n, h1, h2, _⟩
    · exact .base (.lst h)
    · exact .base (.frz h)
    · exact .kList h1 h2
  · cases h
    obtain ⟨a, vs, rfl, ha, _⟩ := r
    refine ⟨by decide, ?_⟩
    rcases ha H with (h | ⟨o, h⟩) | ⟨o, its, n, h1, h2, _⟩
    · exact .base (.tup h)
    · exact .fTuple h
    · exact .kTuple h1 h2
  · cases h
    obtain ⟨a, kvs, rfl, _, h, _⟩ := r
    refine ⟨by decide, ?_⟩
    rcases h with h | ⟨o, h⟩
    · exact .base (.dK h)
    · exact .fDict h
  · rename_i n
    split at h
    · rename_i e
      cases h
      obtain ⟨a, vs, rfl, _, hl, _⟩ := loc_lst s r e
      exact ⟨by decide, .base (.lst hl)⟩
    · rename_i e
      cases h
      obtain ⟨a, vs, rfl, _, hl, _⟩ := loc_dct s r e
      exact ⟨by decide, .base (.dK hl)⟩
    · cases h
  · cases h
def pIsa (bs : List String) : P1 := fun d S => match tyDv S d with
  | some T => some (.d (.bl (bs.any (isaT T))), S)
  | none => none
theorem clsv_all : ∀ bs : List String, Paired ClsV (bs.map V.ty) (bs.map Value.type)
  | [] => .nil
  | b :: bs => .cons (.ty b) (clsv_all bs)
section
variable {X : Cx} {G : Gs} {W : WX} {k : Nat} {e T : Expr} {es : List Expr} {p pos tpos : Pos} {m : M Dv} {bs : List String} {b : String}
theorem e_isa (hK : G.K = X.K) (hg : Gl X "isinstance") (hm : X.mg "isinstance" = none) (hb : b ∈ tyR) (he : PE X e (tM G W m)) (hT : PE X T (tC (.ty b))) (hs : starEach [e, T] X.env = (false, eval e X.env) :: starEach [T] X.env) (hs2 : starEach [T] X.env = (false, eval T X.env) :: starEach [] X.env)
    (hpl : (backTo pos (starEach [T] X.env)).any (·.1) = false) : PE X (.Call (.Name "isinstance" p) [e, T] [] pos) (tM G W (m1 (pIsa [b]) m)) := by
  refine (pe_callB call_isi hg hm PyProof.Rows.boot_isinstance (pa_cons he (pa_cons hT pa_nil hs2) hs) (by decide) (by decide) hs hpl).sm fun σ H Q h => ?_
  obtain ⟨A, ρ, S, he, hs, p0⟩ := h
  refine ⟨A, ρ, S, he, hs, Po.step p0 fun d S1 A1 H1 x1 s1 p1 v rv => ?_⟩
  unfold pIsa at p1
  split at p1
  · rename_i U hU
    obtain ⟨hL, ty⟩ := tyDv_rd s1 rv hU
    rw [hK] at ty
    have h1 := kit_ty (K := X.K) (kit_all U hL b hb)
    refine ⟨v, .ty b, .type U, .type b, _, rfl, .ty b, ty, h1, ?_⟩
    have := Po.now p1 s1 (.bl ([b].any (isaT U))) rfl
    simpa using this
  · exact p1.elim
theorem e_isaT (hK : G.K = X.K) (hg : Gl X "isinstance") (hm : X.mg "isinstance" = none) (bs : List String) (hb : ∀ b ∈ bs, b ∈ tyR) (hz : bs.length ≤ 100) (he : PE X e (tM G W m)) (hes : PA X es (fun σ H Q => Q (bs.map V.ty) H)) {kk : Nat} (hs : starEach [e, .Tuple es kk tpos] X.env = (false, eval e X.env) :: starEach [.Tuple es kk tpos] X.env)
    (hs2 : starEach [.Tuple es kk tpos] X.env = (false, eval (.Tuple es kk tpos) X.env) :: starEach [] X.env) (hpl : (backTo pos (starEach [.Tuple es kk tpos] X.env)).any (·.1) = false) : PE X (.Call (.Name "isinstance" p) [e, .Tuple es kk tpos] [] pos) (tM G W (m1 (pIsa bs) m)) := by
  refine (pe_callB call_isiT hg hm PyProof.Rows.boot_isinstance (pa_cons he (pa_cons (pe_tup hes) pa_nil hs2) hs) (by decide) (by decide) hs hpl).sm fun σ H Q h => ?_
  obtain ⟨A, ρ, S, he, hs, p0⟩ := h
  refine ⟨A, ρ, S, he, hs, Po.step p0 fun d S1 A1 H1 x1 s1 p1 v rv => ⟨by rw [List.length_map]; exact line_of (by omega), fun q hq => ?_⟩⟩
  unfold pIsa at p1
  split at p1
  · rename_i U hU
    obtain ⟨hL, ty⟩ := tyDv_rd (s1.new (o := .tup (bs.map V.ty)) hq) (RD.kp (Ext.new hq).kp rv) hU
    rw [hK] at ty
    exact ⟨v, q, bs.map V.ty, .type U, bs.map Value.type, _, rfl, upd_same, clsv_all bs, ty, kit_any hL hb, Po.at p1 (Ext.new hq) (s1.new hq) _ rfl⟩
  · exact p1.elim
end

/-! ### o[i] = d -/
def stSub (o i d : Dv) (S : Sto) : Option Sto := match o with
  | .loc n => (match S[n]? with
    | some (.lst xs) => (match i with
      | .d (.int k) => (match ixN xs.length k with
        | some j => some (S.set n (.lst (xs.set j d)))
        | none => none)
      | _ => none)
    | some (.dct ks xs) => (match kOf i with
      | some j => if ks.length < 16777216 then some (S.set n (.dct (dputK ks j) (dputX ks xs j d))) else none
      | none => none)
    | _ => none)
  | _ => none
def sSub (mo mi mv : M Dv) : SM := fun ρ S => (mv ρ S).to ρ fun d S1 => (mo ρ S1).to ρ fun o S2 => (mi ρ S2).to ρ fun i S3 => oz (stSub o i d S3) fun S4 => .nx ρ S4
section
variable {X : Cx} {G : Gs} {W : WX} {k : Nat} {o i value : Expr} {p pos pos' : Pos} {mo mi mv : M Dv}
theorem line_lt {n : Nat} (h : n < 16777216) : n < sizeLine := by rw [sizeLine_eq]; exact h
theorem s_sub (hu : X.A.units + 64 < cLine) (ho : PE X o (tM G W mo)) (hi : PE X i (tM G W mi)) (hv : PE X value (tM G W mv)) (hs : swapsWith value (some (.Subscript o i pos')) pos.line X.env = pure false) : PS X (.Assign [.Subscript o i pos'] value pos) (tMS G W (sSub mo mi mv)) := by
  refine ⟨fun pins s σ H D I h => ?_⟩
  obtain ⟨A, ρ, S, he, st, p0⟩ := h
  refine wpAny_Assign_Subscript (thn (hv.run pins s σ H (fun v H1 => tM G W mo σ H1 fun x H2 => tM G W mi σ H2 fun y H3 => (rSetL x y v H3 (fun H4 => D.nx σ H4)) ∨ rSetD x y v H3 (fun H4 => D.nx σ H4)) I ⟨A, ρ, S, he, st, PoS.step he p0 fun d S1 A1 H1 x1 s1 e1 p1 v rv => ?_⟩)
    fun r s1 ⟨v, H1, I1, rv, q1⟩ => thn (ho.run pins s1 σ H1 _ I1 q1) fun u s2 ⟨x, H2, I2, rx, q2⟩ => thn (hi.run pins s2 σ H2 _ I2 q2) fun iv s3 ⟨y, H3, I3, ry, q3⟩ => ?_) hs
  · refine ⟨A1, ρ, S1, e1, s1, PoS.step e1 p1 fun o' S2 A2 H2 x2 s2 e2 p2 x rx => ?_⟩
    refine ⟨A2, ρ, S2, e2, s2, PoS.step e2 p2 fun i' S3 A3 H3 x3 s3 e3 p3 y ry => ?_⟩
    obtain ⟨S4, es, p4⟩ := oz_po p3
    have rx := RD.kp x3.kp rx
    have rv := RD.kp x3.kp (RD.kp x2.kp rv)
    unfold stSub at es
    split at es
    · rename_i n
      split at es
      · rename_i xs eo
        obtain ⟨a, vs, rfl, hl, ha, hvs⟩ := loc_lst s3 rx eo
        split at es
        · rename_i kk
          split at es
          · rename_i j ej
            cases es
            obtain ⟨x4, s4⟩ := set_lst s3 hl (hvs.set j rv)
            obtain rfl : y = .int kk := ry
            refine .inl ⟨a, vs, kk, j, rfl, rfl, ha, by rw [← Paired.length hvs]; exact ej, p4 A3 _ σ x4 s4 (e3.kp x4.kp)⟩
          · cases es
        · cases es
      · rename_i ks xs eo
        obtain ⟨a, kvs, rfl, hl, ha, ek, hvs⟩ := loc_dct s3 rx eo
        split at es
        · rename_i j ej
          split at es
          · rename_i hz
            cases es
            subst ek
            obtain ⟨x4, s4⟩ := set_dct s3 hl (dput_keys (kvs := kvs) (j := j) (y := v)) (dput_rds hvs rv)
            refine .inr ⟨a, _, rfl, .inl ⟨kvs, j, ha, kOf_rd ej ry, line_lt (by simpa using hz), rfl⟩, p4 A3 _ σ x4 s4 (e3.kp x4.kp)⟩
          · cases es
        · cases es
      · cases es
    · cases es
  · rcases q3 with q3 | q3
    · exact thn (set_list pins s3 σ H3 x y v u iv r _ I3 rx ry rv q3) fun _ s4 ⟨H4, I4, q4⟩ => ⟨σ, H4, I4, q4⟩
    · exact thn (set_dict (by omega) pins s3 σ H3 x y v u iv r _ I3 rx ry rv q3) fun _ s4 ⟨H4, I4, q4⟩ => ⟨σ, H4, I4, q4⟩
end

/-! ### methods of list boxes -/
abbrev PM := Dv → List Dv → Sto → Pz Dv
def isLs (S : Sto) (d : Dv) : Bool := match lstAt S d with
  | some _ => true
  | none => false
def mLm (p : PM) (mo : M Dv) (ma : M (List Dv)) : M Dv := fun ρ S => (mo ρ S).bind fun o S1 => if isLs S1 o = true then (ma ρ S1).bind fun ds S2 => lift (p o ds S2) else .bad
def pAppend : PM := fun o ds S => match o, ds with
  | .loc n, [x] => (match S[n]? with
    | some (.lst xs) => if xs.length < 16777216 then some (.d .non, S.set n (.lst (xs ++ [x]))) else none
    | _ => none)
  | _, _ => none
def pPopAt : PM := fun o ds S => match o, ds with
  | .loc n, [.d (.int i)] => (match S[n]? with
    | some (.lst xs) => if -(2 ^ 63) ≤ i ∧ i < 2 ^ 63 then (match seqIndex? i xs.length with
      | some j => (match xs[j]? with
        | some x => some (x, S.set n (.lst (xs.eraseIdx j)))
        | none => none)
      | none => none) else none
    | _ => none)
  | _, _ => none
def qM (G : Gs) (p : PM) : V → List V → Hp → VK → Prop := fun x xs H Q => ∃ A S d ds, RD G A H d x ∧ RDs G A H ds xs ∧ StR G A S H ∧ Po G Ez A H (lift (p d ds S)) (kD G Q)
section
variable {X : Cx} {G : Gs} {W : WX} {k : Nat} {o e : Expr} {es : List Expr} {name : Str} {id : String} {apos cpos : Pos} {mo : M Dv} {ma : M (List Dv)} {p : PM}
theorem isLs_ty (hK : G.K = X.K) {A : Al} {S : Sto} {H : Hp} {d : Dv} {v : V} (s : StR G A S H) (r : RD G A H d v) (h : isLs S d = true) : tyV X.K "list" v H := by
  unfold isLs at h
  split at h
  · rename_i ds e
    obtain ⟨a, vs, rfl, hl, _⟩ := lstAt_rd s r e
    exact .inl ⟨rfl, vs, .inl (.inl hl)⟩
  · cases h
theorem e_lm (hK : G.K = X.K) (slot : Slot "list" name id) (hty : typeOf (.builtin id) = pure (.type "method_descriptor")) (hm : MtR X id (qM G p)) (ho : PE X o (tM G W mo)) (ha : PA X (e :: es) (tMA G W ma)) (hbase : attributeBase o name X.env (eval o X.env) = eval o X.env)
    (hfew : ((backTo cpos (starEach (e :: es) X.env)).all (fun x => !x.1) && (backToKw cpos (keywordEach [] X.env)).all (fun x => x.1.isSome) && decide ((e :: es).length + ([] : List Keyword).length + (if ([] : List Keyword).isEmpty then 0 else 1) < 30)) = true)
    (hline : (apos.endLine == cpos.line) = true) (hs : starEach (e :: es) X.env = (false, eval e X.env) :: starEach es X.env) (hplain : (backTo cpos (starEach es X.env)).any (·.1) = false) : PE X (.Call (.Attribute o name apos) (e :: es) [] cpos) (tM G W (mLm p mo ma)) := by
  refine (pe_bm PySem.F.plainAttrs_list slot hty hm ho ha hbase hfew hline hs hplain).sm fun σ H Q h => ?_
  obtain ⟨A, ρ, S, he, st, p0⟩ := h
  refine ⟨A, ρ, S, he, st, Po.step p0 fun d S1 A1 H1 x1 s1 p1 v rv => ?_⟩
  by_cases hi : isLs S1 d = true
  · simp only [hi, if_true] at p1
    refine ⟨isLs_ty hK s1 rv hi, A1, ρ, S1, he.kp x1.kp, s1, Po.step p1 fun ds S2 A2 H2 x2 s2 p2 vs rvs => ?_⟩
    exact ⟨A2, S2, d, ds, RD.kp x2.kp rv, rvs, s2, Po.lift p2⟩
  · simp only [hi] at p1
    exact p1.elim
theorem m_append : MtR X "list.append" (qM G pAppend) := by
  refine L2.MtR.sm (show MtR X "list.append" rAppend from mt_append) fun x xs H Q h => ?_
  obtain ⟨A, S, d, ds, rd, rds, s, p⟩ := h
  unfold pAppend at p
  split at p
  · obtain ⟨v, rfl, r⟩ := RDs.one rds
    split at p
    · rename_i e
      split at p
      · rename_i hz
        obtain ⟨a, vs, rfl, hl, ha, hvs⟩ := loc_lst s rd e
        obtain ⟨x2, s2⟩ := set_lst s hl (hvs.append (.cons r .nil))
        exact ⟨a, vs, v, rfl, rfl, ha, by rw [← Paired.length hvs]; exact line_lt hz, Po.at p x2 s2 _ rfl⟩
      · exact p.elim
    · exact p.elim
  · exact p.elim
theorem m_popAt : MtR X "list.pop" (qM G pPopAt) := by
  refine L2.MtR.sm (show MtR X "list.pop" rPopAt from mt_popAt) fun x xs H Q h => ?_
  obtain ⟨A, S, d, ds, rd, rds, s, p⟩ := h
  unfold pPopAt at p
  split at p
  · obtain ⟨v, rfl, r⟩ := RDs.one rds
    obtain rfl : v = .int _ := r
    split at p
    · rename_i e1
      split at p
      · rename_i hi
        split at p
        · rename_i j ej
          split at p
          · rename_i y ey
            obtain ⟨a, vs, rfl, hl, ha, hvs⟩ := loc_lst s rd e1
            obtain ⟨x2, s2⟩ := set_lst s hl (hvs.eraseIdx j)
            obtain ⟨v, e2, rv⟩ := hvs.get ey
            rw [Paired.length hvs] at ej
            exact ⟨a, vs, _, j, v, rfl, rfl, ha, hi.1, hi.2, ej, e2, Po.at p x2 s2 _ (RD.kp x2.kp rv)⟩
          · exact p.elim
        · exact p.elim
      · exact p.elim
    · exact p.elim
  · exact p.elim
end
end Sm
/-! Sm13: sorted, by data. -/
namespace Sm
open PySem PySem.Spec PyProof.Rows L2
open PySem.W (EachIs dataLe dataLt alike AllAlike Sortable)

def encT (t : Dt) : PyData := (toPy t).getD .none
def leT (a b : Dt) : Bool := !dataLt (encT b) (encT a)
/-- the items that gather: each with its data -/
def ColR (X : Cx) (G : Gs) (A : Al) (H : Hp) (pins : List (Addr × Obj)) (σ : L2.St) (s : Shared) (x : Value) (C : List Dt → Prop) : Prop :=
  ∀ Q' : List Value → Shared → Prop, (∀ s' us (bs : List (Dt × V)), L2.Inv X pins σ H s' → Vals (bs.map (·.2)) us → (∀ b ∈ bs, RV G A H b.1 b.2) → C (bs.map (·.1)) → Q' us s') → wpAny (model X.prog X.w) X.A.in1 (collect x) Q' X.xe s
structure SortOk (ts : List Dt) : Prop where
  py : ∀ t ∈ ts, ∃ d, toPy t = some d
  al : AllAlike (ts.map encT)
  so : Sortable (ts.map encT) ∨ (ts.length ≤ 1 ∧ ∀ t ∈ ts, encT t ≠ .none)
  dp : ∀ t ∈ ts, (encT t).depth ≤ 60
  sz : ts.length ≤ 16777216
theorem each_of_vals {G : Gs} {A : Al} {H : Hp} : ∀ {bs : List (Dt × V)} {us : List Value}, Vals (bs.map (·.2)) us → (∀ b ∈ bs, RV G A H b.1 b.2) → EachIs (fun (u : Value) (b : Dt × V) => RelV b.2 u ∧ RV G A H b.1 b.2) us bs
  | [], us, r, _ => by
    cases r
    exact .nil
  | b :: bs, us, r, h => by
    cases r with
    | cons r1 r2 => exact .cons ⟨r1, h b List.mem_cons_self⟩ (each_of_vals r2 fun c hc => h c (List.mem_cons_of_mem _ hc))
theorem vals_of_each {G : Gs} {A : Al} {H : Hp} : ∀ {bs : List (Dt × V)} {us : List Value}, EachIs (fun (u : Value) (b : Dt × V) => RelV b.2 u ∧ RV G A H b.1 b.2) us bs → Vals (bs.map (·.2)) us ∧ RVs G A H (bs.map (·.1)) (bs.map (·.2))
  | [], us, r => by
    cases r
    exact ⟨.nil, (rfl : ([] : List V) = [])⟩
  | b :: bs, us, r => by
    cases r with
    | cons r1 r2 =>
      obtain ⟨h1, h2⟩ := vals_of_each r2
      exact ⟨.cons r1.1 h1, _, _, rfl, r1.2, h2⟩
/-- values that read as alike data, one at most or of a kind that can be sorted -/
theorem sortsAt {prog : Program} {w : World} {A : Around} {s : Shared} {vs : List Value} {ds : List PyData} (e : EachIs (fun v d => ∃ as, Reads s.heap v d as) vs ds) (hal : AllAlike ds) (hk : Sortable ds ∨ (ds.length ≤ 1 ∧ ∀ d ∈ ds, d ≠ .none)) (hu : ∀ d, d ∈ ds → A.units + d.depth < cLine) : PySem.W.SortsAt prog w A s (PySem.W.dataKind s.heap ds) vs := by
  rcases hk with hk | ⟨h1, h2⟩
  · exact PySem.W.SortsAt.data e hal hk hu
  · refine ⟨fun v hv => ?_, general', fun E x y a b Q ha hb hq => ?_, fun h => ?_⟩
    · obtain ⟨d, hd, as, r⟩ := e.left v hv
      exact ⟨_, PySem.W.dataKind_some hal hd r⟩
    · obtain ⟨d, as, hd, ra, rfl⟩ := PySem.W.dataKind_inv ha
      obtain ⟨d', as', hd', rb, rfl⟩ := PySem.W.dataKind_inv hb
      show wpAny _ _ (oneLt' false x y) _ _ _
      exact PySem.W.oneLt_alike (fun hb => by cases hb) ra rb (hal d hd d' hd') (h2 d hd) (Nat.lt_of_le_of_lt (Nat.add_le_add_left (Nat.min_le_left _ _) _) (hu d hd)) hq
    · have len : ∀ {us : List Value} {es : List PyData}, EachIs (fun v d => ∃ as, Reads s.heap v d as) us es → us.length = es.length := by
        intro us es h
        induction h with
        | nil => rfl
        | cons _ _ ih => simp [ih]
      rw [len e] at h
      omega
section
variable {X : Cx} {G : Gs}
theorem sorted_col {pins : List (Addr × Obj)} {σ : L2.St} {s : Shared} {H : Hp} {A : Al} {x : Value} {C : List Dt → Prop} {Q : VK} (hK : G.K = X.K) (hu : X.A.units + 64 < cLine) (hc : ColR X G A H pins σ s x C) (hok : ∀ ts, C ts → SortOk ts)
    (q : ∀ ts vs, C ts → RVs G A H (ts.mergeSort leT) vs → ∀ p, H p = none → Q (.ref p) (upd H p (.lst vs))) : wpAny (model X.prog X.w) X.A (call (.builtin "sorted") [x]) (EP X pins σ Q) X.xe s := by
  refine Calls.call_function_entry kind_sorted plain_sorted entry_sorted (args_sorted1 _) ?_
  unfold Builtin.«sorted»
  refine wpAny_bind (m := checkCount "sorted" 1 1 _) (wpAny_pure ?_)
  refine wpAny_bind (hc _ fun s1 us bs I1 rv rb hC => ?_)
  have ok := hok _ hC
  have hl : us.length = bs.length := by rw [← rv.length, List.length_map]
  have hz : bs.length ≤ sizeLine := by
    have := ok.sz
    rw [List.length_map] at this
    exact line_of this
  refine wpAny_bind (wpAny_newList ?_ (by rw [hl]; exact hz))
  have hoL : (s1.heap.push (seqObj "list" us.toArray 0)).get? s1.heap.objs.size = some (seqObj "list" us.toArray 0) := Heap.get?_push_size _ rfl
  have e0 := each_of_vals rv rb
  have er : EachIs (fun v (b : Dt × V) => ∃ as, Reads (PySem.W.sortingHeap (s1.heap.push (seqObj "list" us.toArray 0)) s1.heap.objs.size us) v (encT b.1) as) us bs := by
    refine (PySem.W.each_mem e0).mono fun v b hb => ?_
    obtain ⟨⟨r1, r2⟩, hm⟩ := hb
    obtain ⟨d, hd⟩ := ok.py b.1 (List.mem_map.mpr ⟨b, hm, rfl⟩)
    have dp := RV.dp hd r2
    rw [hK] at dp
    obtain ⟨as, ra⟩ := Dp.reads I1 d b.2 v dp r1
    have ee : encT b.1 = d := by
      unfold encT
      rw [hd]
      rfl
    rw [ee]
    exact ⟨as, PyProof.Rows.Reads.keeps (fun c o hc => PySem.W.sortingHeap_old (Nat.ne_of_lt (Heap.lt_size hc)) (Heap.get?_push_of_some _ hc)) ra⟩
  have em : bs.map (fun b => encT b.1) = (bs.map (·.1)).map encT := by
    rw [List.map_map]
    rfl
  have hal : AllAlike (bs.map fun b => encT b.1) := by
    rw [em]
    exact ok.al
  have hso : Sortable (bs.map fun b => encT b.1) ∨ ((bs.map fun b => encT b.1).length ≤ 1 ∧ ∀ d ∈ bs.map (fun b => encT b.1), d ≠ .none) := by
    rw [em]
    rcases ok.so with h | ⟨h1, h2⟩
    · exact .inl h
    · refine .inr ⟨by rw [List.length_map]; exact h1, fun d hd => ?_⟩
      obtain ⟨t, ht, rfl⟩ := List.mem_map.mp hd
      exact h2 t ht
  have hdp : ∀ b, b ∈ bs → X.A.in1.units + 1 + (encT b.1).depth < cLine := fun b hb => by
    have := ok.dp b.1 (List.mem_map.mpr ⟨b, hb, rfl⟩)
    have hi : X.A.in1.units = X.A.units + 1 := rfl
    omega
  refine wpAny_bind (wpAny_holding (wpAny_call_entry slot_list_sort ⟨_, hoL, rfl⟩ entry_list_sort (PySem.W.list_sort_vals (κ := PySem.W.dataKind (PySem.W.sortingHeap (s1.heap.push (seqObj "list" us.toArray 0)) s1.heap.objs.size us) (bs.map fun b => encT b.1)) hoL
    (sortsAt (s := { s1 with heap := PySem.W.sortingHeap (s1.heap.push (seqObj "list" us.toArray 0)) s1.heap.objs.size us }) (PySem.W.each_map (R := fun v d => ∃ as, Reads (PySem.W.sortingHeap (s1.heap.push (seqObj "list" us.toArray 0)) s1.heap.objs.size us) v d as) (fun b : Dt × V => encT b.1) er) hal hso (PySem.W.bound_map hdp)) (by rw [hl]; exact hz) ⟨.none, rfl, ?_⟩) (args_list_sort _)))
  have eo := PySem.W.sortVals_data false e0 er hal
  have el : (PySem.W.sortVals (PySem.W.dataKind (PySem.W.sortingHeap (s1.heap.push (seqObj "list" us.toArray 0)) s1.heap.objs.size us) (bs.map fun b => encT b.1)) false us us).length = bs.length := by
    rw [PySem.W.sortVals_length false rfl]
    exact hl
  generalize PySem.W.sortVals (PySem.W.dataKind (PySem.W.sortingHeap (s1.heap.push (seqObj "list" us.toArray 0)) s1.heap.objs.size us) (bs.map fun b => encT b.1)) false us us = out at eo el
  obtain ⟨c, hcL⟩ := sortedHeap_at (vs := us) (out := out.toArray) hoL
  obtain ⟨h1, h2⟩ := vals_of_each eo
  have hm : (bs.mergeSort (dataLe false fun b => encT b.1)).map (·.1) = (bs.map (·.1)).mergeSort leT := List.map_mergeSort fun a _ b _ => rfl
  rw [hm] at h2
  have keep : ∀ b o, s1.heap.get? b = some o → (sortedHeap (s1.heap.push (seqObj "list" us.toArray 0)) s1.heap.objs.size us out.toArray).get? b = some o := fun b o e => by
    have hlt := Heap.lt_size e
    rw [sortedHeap_old (Nat.ne_of_lt hlt) (by rw [size_push']; exact Nat.lt_succ_of_lt hlt)]
    exact Heap.get?_push_of_some _ e
  have hfin := q _ _ hC h2 s1.heap.objs.size (I1.hok.fresh (Nat.le_refl _))
  refine wpAny_pure ⟨_, rfl, .ref s1.heap.objs.size, _, I1.laid keep (Nat.le_refl _) (show ObjOk X.prog X.w _ _ _ (.lst ((bs.mergeSort (dataLe false fun b => encT b.1)).map (·.2))) from ⟨?_, out, c, h1, hcL⟩), rfl, hfin⟩
  rw [List.length_map, List.length_mergeSort]
  exact hz
/-- a list, a tuple: its items in order -/
theorem col_seq {pins : List (Addr × Obj)} {σ : L2.St} {s : Shared} {H : Hp} {A : Al} {a : Addr} {vs : List V} {ts : List Dt} (I : L2.Inv X pins σ H s) (hs : SqL X.K H a vs ∨ SqT X.K H a vs) (hv : RVs G A H ts vs) : ColR X G A H pins σ s (.ref a) fun us => us = ts := by
  intro Q' hq
  have fin : ∀ (its : List Value) (h' : Heap), Vals vs its → (∀ b o', s.heap.get? b = some o' → h'.get? b = some o') → Q' its { s with heap := h' } := fun its h' r k => by
    have hl := hv.length
    refine hq _ its (ts.zip vs) (I.kept (t' := s.toks) k) ?_ (fun b hb => ?_) ?_
    · rw [List.map_snd_zip (by omega)]
      exact r
    · obtain ⟨i, hi⟩ := List.mem_iff_getElem?.mp hb
      obtain ⟨e1, e2⟩ := List.getElem?_zip_eq_some.mp hi
      obtain ⟨v, e3, r3⟩ := hv.get e1
      rw [e2] at e3
      cases e3
      exact r3
    · exact List.map_fst_zip (by omega)
  rcases hs with hs | hs
  · obtain ⟨its, r, pl, hz⟩ := I.list hs
    obtain ⟨o, ho, hc, n, hd⟩ := pl.isList
    refine wpAny_collect_seq a (.inl rfl) ho hc hd (fun h' k => fin its h' r k) ?_
    rw [List.size_toArray, ← r.length]
    exact hz
  · obtain ⟨its, r, pl, hz⟩ := I.tuple hs
    obtain ⟨o, ho, hc, n, hd⟩ := pl
    refine wpAny_collect_seq a (.inr rfl) ho hc hd (fun h' k => fin its h' r k) ?_
    rw [List.size_toArray, ← r.length]
    exact hz
end
/-! ### sorted(x), x a list or a tuple -/
def isTupP : PyData → Bool
  | .tuple (_ :: _) => true
  | _ => false
def isAtom : PyData → Bool
  | .none => false
  | .tuple _ => false
  | _ => true
def isNoneP : PyData → Bool
  | .none => true
  | _ => false
def sortChk (ts : List Dt) : Bool := ts.all (fun t => (toPy t).isSome && decide ((encT t).depth ≤ 60)) && (ts.all fun t => ts.all fun u => alike (encT t) (encT u)) && ((ts.all fun t => isTupP (encT t)) || ((ts.all fun t => isAtom (encT t)) || (decide (ts.length ≤ 1) && ts.all fun t => !isNoneP (encT t)))) && decide (ts.length ≤ 16777216)
theorem sortChk_ok {ts : List Dt} (h : sortChk ts = true) : SortOk ts := by
  unfold sortChk at h
  simp only [Bool.and_eq_true, decide_eq_true_eq, Bool.or_eq_true, List.all_eq_true] at h
  obtain ⟨⟨⟨h1, h2⟩, h3⟩, h4⟩ := h
  refine ⟨fun t ht => Option.isSome_iff_exists.mp (h1 t ht).1, fun d hd d' hd' => ?_, ?_, fun t ht => (h1 t ht).2, h4⟩
  · obtain ⟨t, ht, rfl⟩ := List.mem_map.mp hd
    obtain ⟨t', ht', rfl⟩ := List.mem_map.mp hd'
    exact h2 t ht t' ht'
  · rcases h3 with h3 | h3 | ⟨h5, h6⟩
    · refine .inl (.inl fun d hd => ?_)
      obtain ⟨t, ht, rfl⟩ := List.mem_map.mp hd
      have := h3 t ht
      unfold isTupP at this
      split at this
      · rename_i x r e
        exact ⟨x, r, e⟩
      · cases this
    · refine .inl (.inr fun d hd => ?_)
      obtain ⟨t, ht, rfl⟩ := List.mem_map.mp hd
      have := h3 t ht
      unfold isAtom at this
      split at this
      · cases this
      · cases this
      · rename_i n1 n2
        exact ⟨n1, fun xs => n2 xs⟩
    · refine .inr ⟨h5, fun t ht z => ?_⟩
      have := h6 t ht
      rw [z] at this
      cases this
/-- sorting by putting in -/
def putL {α : Type} (le : α → α → Bool) (a : α) : List α → List α
  | [] => [a]
  | b :: l => if le a b = true then a :: b :: l else b :: putL le a l
def isortL {α : Type} (le : α → α → Bool) : List α → List α
  | [] => []
  | a :: l => putL le a (isortL le l)
theorem putL_app {α : Type} {le : α → α → Bool} {a : α} : ∀ (l m : List α), (∀ b ∈ l, le a b = false) → (∀ b ∈ m, le a b = true) → putL le a (l ++ m) = l ++ a :: m
  | [], [], _, _ => rfl
  | [], b :: m, _, h => by
    show (if le a b = true then a :: b :: m else b :: putL le a m) = _
    rw [if_pos (h b List.mem_cons_self)]
    rfl
  | b :: l, m, h, h2 => by
    show (if le a b = true then a :: b :: (l ++ m) else b :: putL le a (l ++ m)) = _
    rw [if_neg (by rw [h b List.mem_cons_self]; decide), putL_app l m (fun c hc => h c (List.mem_cons_of_mem _ hc)) h2]
    rfl
theorem isortL_is {α : Type} {le : α → α → Bool} (tr : ∀ a b c, le a b = true → le b c = true → le a c = true) (tot : ∀ a b, (le a b || le b a) = true) : ∀ l : List α, isortL le l = l.mergeSort le
  | [] => by simp [isortL]
  | a :: l => by
    obtain ⟨l1, l2, e1, e2, h⟩ := List.mergeSort_cons tr tot a l
    have s := List.pairwise_mergeSort tr tot (a :: l)
    rw [e1, List.pairwise_append] at s
    rw [e1]
    show putL le a (isortL le l) = _
    rw [isortL_is tr tot l, e2]
    exact putL_app l1 l2 (fun b hb => by simpa using h b hb) (List.pairwise_cons.mp s.2.1).1
theorem leT_total (a b : Dt) : (leT a b || leT b a) = true := by
  unfold leT
  cases h1 : PySem.W.dataLt (encT b) (encT a) with
  | false => rfl
  | true =>
    cases h2 : PySem.W.dataLt (encT a) (encT b) with
    | false => rfl
    | true =>
      have := lex_trans _ _ _ h1 h2
      rw [lex_irrefl] at this
      cases this
theorem leT_trans {a b c : Dt} (h : leT a b = true) (h2 : leT b c = true) : leT a c = true := by
  unfold leT at *
  cases h3 : PySem.W.dataLt (encT c) (encT a) with
  | false => rfl
  | true =>
    rcases lex_negTrans _ (PySem.W.keyToks (encT b)) _ h3 with h4 | h4
    · rw [show PySem.W.dataLt (encT c) (encT b) = true from h4] at h2
      cases h2
    · rw [show PySem.W.dataLt (encT b) (encT a) = true from h4] at h
      cases h
theorem isort_leT (ts : List Dt) : isortL leT ts = ts.mergeSort leT := isortL_is (le := leT) (fun _ _ _ h h2 => leT_trans h h2) leT_total ts
def seqT (S : Sto) (d : Dv) : Option (List Dt) := (seqAt S d).bind pures
def pSorted : PN := fun ds S => match ds with
  | [d] => (match seqT S d with
    | some ts => if sortChk ts = true then some (.d (.lst (isortL leT ts)), S) else none
    | none => none)
  | _ => none
section
variable {X : Cx} {G : Gs}
theorem b_sorted (hK : G.K = X.K) (hu : X.A.units + 64 < cLine) : CallR X (.builtin "sorted") (qN G pSorted) := by
  intro pins s σ H xs us Q I rx h
  obtain ⟨A, S, ds, rd, st, p⟩ := h
  unfold pSorted at p
  split at p
  · obtain ⟨v, rfl, r⟩ := RDs.one rd
    split at p
    · rename_i ts e
      split at p
      · rename_i hz
        obtain ⟨ds, e1, e2⟩ := Option.bind_eq_some_iff.mp e
        obtain ⟨a, vs, rfl, hs, hv⟩ := seqAt_rd st r e1
        rw [hK] at hs
        obtain rfl := Vals.ref1 rx
        exact sorted_col hK hu (col_seq I hs (pures_rvs e2 hv)) (fun us eu => by rw [eu]; exact sortChk_ok hz) fun us vs' eu hv' => by
          subst eu
          exact poL p st (by rw [isort_leT]; exact hv')
      · exact p.elim
    · exact p.elim
  · exact p.elim
end
end Sm
/-! Sm14: sets of keys, made from a list, a tuple, a dict, and sorted. -/
namespace Sm
open PySem PySem.Spec PyProof.Rows L2

def keyX (e : Int × Value) : Key := match e.2 with
  | .int i _ => .inl i
  | .str z _ => .inr z
  | _ => .inl 0
def GoodX (P : Program) (w : World) (e : Int × Value) : Prop := (mixKind P w).is (keyX e) e.2 = true ∧ e.1 = (mixKind P w).hash (keyX e)
/-- entries es, in the table t, have the keys S, n of them -/
structure SetC (P : Program) (w : World) (es : Array (Int × Value)) (t : SetTable) (S : Key → Bool) (n : Nat) : Prop where
  good : ∀ e ∈ es.toList, GoodX P w e
  nd : (es.toList.map keyX).Nodup
  mem : ∀ k, S k = true ↔ k ∈ es.toList.map keyX
  lt : es.size < scanBound
  fit : t.fits es.size = true
  sz : es.size = n
  ris : Ris t.place.toList
  led : w.params.followText "set-order" = true ∨ t.led = true
def SetX (P : Program) (w : World) (h : Heap) (a : Addr) (S : Key → Bool) (n : Nat) : Prop := ∃ o es ep t, h.get? a = some o ∧ o.ExactSet ∧ o.data = .set es ep t ∧ SetC P w es t S n
section
variable {P : Program} {w : World} {A : Around} {E : Value → Shared → Prop} {s : Shared} {h h' : Heap} {a : Addr} {S S' : Key → Bool} {n : Nat} {es es' : Array (Int × Value)} {t t' : SetTable}
theorem SetX.at (R : SetX P w h a S n) (k : ∀ o, h.get? a = some o → h'.get? a = some o) : SetX P w h' a S n := by
  obtain ⟨o, es, ep, t, ho, q⟩ := R
  exact ⟨o, es, ep, t, k o ho, q⟩
theorem SetX.congr (R : SetX P w h a S n) (e : ∀ k, S' k = S k) : SetX P w h a S' n := by
  rw [show S' = S from funext e]
  exact R
theorem SetC.perm (c : SetC P w es t S n) (p : es'.toList.Perm es.toList) (f : t'.fits es'.size = true) (r : Ris t'.place.toList) (l : t'.led = t.led) : SetC P w es' t' S n := by
  have z : es'.size = es.size := by rw [← Array.length_toList, p.length_eq, Array.length_toList]
  exact ⟨fun e he => c.good e (p.mem_iff.mp he), (p.map keyX).nodup_iff.mpr c.nd, fun k => (c.mem k).trans (p.map keyX).mem_iff.symm, by rw [z]; exact c.lt, f, z.trans c.sz, r, c.led.imp id fun q => l.trans q⟩
end
end Sm
/-! Sm15: set(x) of a list, a tuple, a dict of keys; sorted(set(x)). -/
namespace Sm
open PySem PySem.Spec PyProof.Rows L2

section
variable {P : Program} {w : World} {A : Around} {E : Value → Shared → Prop} {s : Shared} {l : Addr} {ks : List Key}
end
end Sm
/-! Sm16: set(x) of a list, a tuple, a dict; sorted(set(x)). -/
namespace Sm
open PySem PySem.Spec PyProof.Rows L2
section
variable {P : Program} {w : World} {A : Around} {E : Value → Shared → Prop} {s : Shared} {l : Addr} {ks : List Key}
end
end Sm
/-! Sm17: sorted(set(x)) of texts. -/
namespace Sm
open PySem PySem.Spec PyProof.Rows L2

def leS (a b : Str) : Bool := !decide (b.cps.toList < a.cps.toList)
theorem leS_iff {a b : Str} : leS a b = true ↔ a.cps.toList ≤ b.cps.toList := by
  unfold leS
  simp
theorem leS_trans {a b c : Str} (h : leS a b = true) (h2 : leS b c = true) : leS a c = true := leS_iff.mpr (List.le_trans (leS_iff.mp h) (leS_iff.mp h2))
theorem leS_total (a b : Str) : (leS a b || leS b a) = true := by
  rw [Bool.or_eq_true, leS_iff, leS_iff]
  exact List.le_total _ _
theorem leS_anti {a b : Str} (h : leS a b = true) (h2 : leS b a = true) : a = b := PySem.W.str_of_cps (List.le_antisymm (leS_iff.mp h) (leS_iff.mp h2))
def sortS (l : List Str) : List Str := isortL leS l
theorem sortS_ms (l : List Str) : sortS l = l.mergeSort leS := isortL_is (le := leS) (fun _ _ _ h h2 => leS_trans h h2) leS_total l
theorem sortS_perm (l : List Str) : (sortS l).Perm l := by
  rw [sortS_ms]
  exact List.mergeSort_perm l leS
theorem sortS_sorted (l : List Str) : (sortS l).Pairwise fun a b => leS a b = true := by
  rw [sortS_ms]
  exact List.pairwise_mergeSort (le := leS) (fun _ _ _ h h2 => leS_trans h h2) leS_total l
/-- each once -/
def ddS : List Str → List Str
  | [] => []
  | a :: l => if (ddS l).contains a = true then ddS l else a :: ddS l
theorem leT_str (a b : Str) : leT (.str a) (.str b) = leS a b := by
  show (!PySem.W.dataLt (.str b) (.str a)) = _
  rw [PySem.W.dataLt_str]
  rfl
theorem sort_strs (l : List Str) : isortL leT (l.map Dt.str) = (sortS l).map Dt.str := by
  rw [isort_leT, sortS_ms]
  exact (List.map_mergeSort (f := Dt.str) (r := leS) (s := leT) fun a _ b _ => (leT_str a b).symm).symm
def strsOf : List Dt → Option (List Str)
  | [] => some []
  | .str a :: r => (strsOf r).map (a :: ·)
  | _ => none
theorem strsOf_eq : ∀ {ts : List Dt} {l : List Str}, strsOf ts = some l → ts = l.map .str
  | [], l, e => by
    cases e
    rfl
  | t :: ts, l, e => by
    cases t with
    | str a =>
      unfold strsOf at e
      cases e1 : strsOf ts with
      | none => rw [e1] at e; cases e
      | some m =>
        rw [e1] at e
        cases e
        rw [strsOf_eq e1]
        rfl
    | _ => cases e
theorem strsOf_map : ∀ l : List Str, strsOf (l.map .str) = some l
  | [] => rfl
  | a :: l => by
    show (strsOf (l.map .str)).map (a :: ·) = _
    rw [strsOf_map l]
    rfl
/-- sorted(set(x)): x a list, a tuple, a dict of texts -/
def pSortSet : P1 := fun d S => match (itemsOf S d).bind strsOf with
  | some l => if l.length ≤ 4000 then some (.d (.lst ((sortS (ddS l)).map .str)), S) else none
  | none => none
theorem strs_rv {G : Gs} {A : Al} {H : Hp} : ∀ {l : List Str} {vs : List V}, RVs G A H (l.map .str) vs → vs = l.map V.str
  | [], vs, r => r
  | a :: l, vs, r => by
    obtain ⟨v, w, rfl, r1, r2⟩ := r
    obtain rfl : v = .str a := r1
    rw [strs_rv r2]
    rfl
section
variable {X : Cx} {G : Gs} {W : WX} {k : Nat}
theorem hasK_inr {l : List Str} {x : Str} : hasK (l.map Sum.inr) (Sum.inr x : Key) = true ↔ x ∈ l := by
  unfold hasK
  simp [List.any_eq_true]
end
end Sm
/-! Sm18: a, b = ..; {}; truth; the rules with their side conditions filled in. -/
namespace Sm
open PySem PySem.Spec PyProof.Rows L2

/-! ### a, b = e1, e2 -/
def setAll : List Nat → List Dv → Env → Env
  | i :: is, d :: ds, ρ => setAll is ds (ρ.set i (some d))
  | _, _, ρ => ρ
def setAllV : List Nat → List V → L2.St → L2.St
  | i :: is, v :: vs, σ => setAllV is vs (σ.set i (some v))
  | _, _, σ => σ
theorem setAll_env {G : Gs} {A : Al} {H : Hp} (is : List Nat) : ∀ {ds : List Dv} {vs : List V} {ρ : Env} {σ : L2.St}, EnvR G A H ρ σ → RDs G A H ds vs → EnvR G A H (setAll is ds ρ) (setAllV is vs σ) := by
  induction is with
  | nil =>
    intro ds vs ρ σ h r
    cases r <;> exact h
  | cons i is ih =>
    intro ds vs ρ σ h r
    cases r with
    | nil => exact h
    | cons r t => exact ih (h.set r) t
def sPars (is : List Nat) (ma : M (List Dv)) : SM := fun ρ S => (ma ρ S).to ρ fun ds S1 => if ds.length = is.length then .nx (setAll is ds ρ) S1 else .bad
section
variable {X : Cx} {G : Gs} {W : WX} {k : Nat}
theorem pars_po {A : Al} {H H' : Hp} {is : List Nat} {ds : List Dv} {vs : List V} {ρ : Env} {σ : L2.St} {S : Sto} {D : Ends} (e : EnvR G A H ρ σ) (s : StR G A S H) (r : RDs G A H ds vs) (p : PoS G W A H (if ds.length = is.length then Sz.nx (setAll is ds ρ) S else .bad) D) : vs.length = is.length ∧ D.nx (setAllV is vs σ) H := by
  split at p
  · rename_i hl
    exact ⟨by rw [← Paired.length r]; exact hl, PoS.nx_now p s (setAll_env is e r)⟩
  · exact p.elim
theorem s_par2 {i j : Nat} {x y : Str} {a b : Expr} {ma : M (List Dv)} {px py pt pos pt2 : Pos} {kt k2 : Nat} (B : Bx X G W k) (ha : PA X [a, b] (tMA G W ma)) (hi : X.N[i]? = some x := by rfl) (hj : X.N[j]? = some y := by rfl) (hij : i ≠ j := by decide) (hx : X.env.scope.names.lookup x = some .local := by rfl) (hy : X.env.scope.names.lookup y = some .local := by rfl)
    (hw : swappedStores [.Tuple [.Name x px, .Name y py] kt pt] (.Tuple [a, b] k2 pt2) X.env = pure (some [x, y]) := by rfl) (hs : swapsWithSole [.Tuple [.Name x px, .Name y py] kt pt] (.Tuple [a, b] k2 pt2) pos.line X.env = pure false := by rfl) :
    PS X (.Assign [.Tuple [.Name x px, .Name y py] kt pt] (.Tuple [a, b] k2 pt2) pos) (tMS G W (sPars [i, j] ma)) := by
  refine (ps_par B.calm B.nd hi hj hij hx hy ha hw hs).sm fun D σ H h => ?_
  obtain ⟨A, ρ, S, he, st, p⟩ := h
  refine ⟨A, ρ, S, he, st, PoS.step he p fun ds S1 A1 H1 x1 s1 e1 p1 vs rvs => ?_⟩
  obtain ⟨hl, q⟩ := pars_po (is := [i, j]) (H' := H1) e1 s1 rvs p1
  match vs, hl, q with
  | [v, w], _, q => exact ⟨v, w, rfl, q⟩
/-! ### {} -/
def mDnew : M Dv := fun _ S => .ok (.loc S.length) (S ++ [.dct [] []])
end
/-! ### truth -/
def pTru : PT1 := fun d S => match d with
  | .d .non => some false
  | .d (.bl b) => some b
  | .d (.int i) => some (i != 0)
  | .d (.str y) => if y.length ≤ 16777216 then some ((y.length : Int) != 0) else none
  | .d (.tup xs) => some (!xs.isEmpty)
  | .d (.lst xs) => some (!xs.isEmpty)
  | .d (.scr xs) => some (!xs.isEmpty)
  | .loc n => (match S[n]? with
    | some (.lst xs) => some (!xs.isEmpty)
    | some (.dct ks _) => some (!ks.isEmpty)
    | _ => none)
  | _ => none
theorem empty_len {α β : Type} {xs : List α} {ys : List β} (h : xs.length = ys.length) : xs.isEmpty = ys.isEmpty := by
  cases xs <;> cases ys <;> simp at h ⊢
theorem tru_ok' {G : Gs} : TruS G pTru := by
  intro A S H d v b r s h
  unfold pTru at h
  split at h
  · cases h
    obtain rfl : v = .non := r
    exact rfl
  · cases h
    obtain rfl : v = .bl _ := r
    exact rfl
  · cases h
    obtain rfl : v = .int _ := r
    exact rfl
  · split at h
    · rename_i hl
      cases h
      obtain rfl : v = .str _ := r
      exact ⟨line_of hl, rfl⟩
    · cases h
  · cases h
    obtain ⟨a, vs, rfl, ha, hv⟩ := r
    exact .inr (.inl ⟨vs, ha.sq, by rw [empty_len hv.length]⟩)
  · cases h
    obtain ⟨a, vs, rfl, ha, hv⟩ := r
    exact .inl ⟨vs, ha.sq, by rw [empty_len hv.length]⟩
  · cases h
    obtain ⟨a, vs, rfl, ha, hv⟩ := r
    exact .inl ⟨vs, ha.sq, by rw [empty_len hv.length]⟩
  · split at h
    · rename_i e
      cases h
      obtain ⟨a, vs, rfl, _, hl, hv⟩ := loc_lst s r e
      exact .inl ⟨vs, .inl (.inl hl), by rw [empty_len (Paired.length hv)]⟩
    · rename_i e
      cases h
      obtain ⟨a, kvs, rfl, _, hl, ek, hv⟩ := loc_dct s r e
      refine .inr (.inr ⟨kvs, hl, ?_⟩)
      rw [← ek]
      cases kvs <;> rfl
    · cases h
  · cases h

/-! ### calls of the module's defs, in one -/
structure Cal (P : Program) (w : World) (G : Gs) (mg : Str → Option Value) (base : Heap) (k : Nat) (x : Str) (n : Nat) (ks : List Str) (F : FM) : Prop where
  ex : ∃ f, mg x = some (.ref f) ∧ PySem.W.keepIn G.K (.ref f) = true ∧ CallW P w G mg base k f n ks F
theorem Cal.mono {P : Program} {w : World} {G : Gs} {mg : Str → Option Value} {base : Heap} {k j : Nat} {x : Str} {n : Nat} {ks : List Str} {F : FM} (h : Cal P w G mg base j x n ks F) (l : j ≤ k) : Cal P w G mg base k x n ks F := by
  obtain ⟨f, h1, h2, h3⟩ := h.ex
  exact ⟨f, h1, h2, h3.mono l⟩
theorem Cal.isoC {P : Program} {w : World} {G : Gs} {mg : Str → Option Value} {base : Heap} {k : Nat} {x : Str} {n : Nat} {ks : List Str} {F : FM} (h : Cal P w G mg base k x n ks F) : Cal P w G mg base k x n ks (iso F) := by
  obtain ⟨f, h1, h2, h3⟩ := h.ex
  exact ⟨f, h1, h2, h3.isoF⟩
theorem Cal.viewC {P : Program} {w : World} {G : Gs} {mg : Str → Option Value} {base : Heap} {k : Nat} {x : Str} {n : Nat} {ks : List Str} {F : FM} (h : Cal P w G mg base k x n ks F) : Cal P w G mg base k x n ks (view F) := by
  obtain ⟨f, h1, h2, h3⟩ := h.ex
  exact ⟨f, h1, h2, h3.viewF⟩
section
variable {X : Cx} {G : Gs} {W : WX} {k n : Nat} {x m : Str} {p pos pos' apos : Pos} {a b c e T : Expr} {es : List Expr} {kws : List Keyword} {ma mk : M (List Dv)} {mo m1' mb : M Dv} {F : FM} {ks : List Str} {id T' : String} {pn : PN}
theorem xv (i : Nat) (hN : X.N[i]? = some x := by rfl) (hv : Vis X.env.scope x := by first | exact Or.inl rfl | exact Or.inr (Or.inl rfl) | exact Or.inr (Or.inr rfl)) (hd : (x == ("__debug__" : Str)) = false := by decide) (hcd : (x == ("__classdict__" : Str)) = false := by decide) : PE X (.Name x pos) (tM G W (mV i)) := e_var hN hv hd hcd
theorem xa (h : PE X e (tM G W mo)) (r : PA X es (tMA G W ma)) (hs : starEach (e :: es) X.env = (false, eval e X.env) :: starEach es X.env := by rfl) : PA X (e :: es) (tMA G W (aCons mo ma)) := a_cons h r hs
theorem xcall (R : Cal X.prog X.w G X.mg X.base k x n [] F) (B : Bx X G W k) (ha : PA X (e :: es) (tMA G W ma)) (al : ALen ma n := by repeat (first | exact al_nil | refine al_cons ?_)) (hg : Gl X x := by rfl) (hdb : (x == ("__debug__" : Str)) = false := by decide)
    (he : starEach (e :: es) X.env = (false, eval e X.env) :: starEach es X.env := by rfl) (hpl : (backTo pos (starEach es X.env)).any (·.1) = false := by rfl) : PE X (.Call (.Name x p) (e :: es) [] pos) (tM G W (mF F ma)) := by
  obtain ⟨f, h1, h2, h3⟩ := R.ex
  exact e_call h3 B hg h1 (by rw [← B.hK]; exact h2) ha al hdb he hpl
theorem xcall0 (R : Cal X.prog X.w G X.mg X.base k x 0 [] F) (B : Bx X G W k) (hg : Gl X x := by rfl) (hdb : (x == ("__debug__" : Str)) = false := by decide) : PE X (.Call (.Name x p) [] [] pos) (tM G W (mF F aNil)) := by
  obtain ⟨f, h1, h2, h3⟩ := R.ex
  exact e_call0 h3 B hg h1 (by rw [← B.hK]; exact h2) hdb
theorem xb (hc : CallR X (.builtin id) (qN G pn)) (hm : X.mg x = none) (hv : bootBuiltins x = some (.builtin id)) (ha : PA X (e :: es) (tMA G W ma)) (hg : Gl X x := by rfl) (hn : x ≠ "__name__" := by decide) (hdb : (x == ("__debug__" : Str)) = false := by decide)
    (he : starEach (e :: es) X.env = (false, eval e X.env) :: starEach es X.env := by rfl) (hpl : (backTo pos (starEach es X.env)).any (·.1) = false := by rfl) : PE X (.Call (.Name x p) (e :: es) [] pos) (tM G W (mN pn ma)) := e_callB hc hg hm hv ha hn hdb he hpl
theorem xt (hc : CallR X (.type T') (qN G pn)) (hm : X.mg x = none) (hv : bootBuiltins x = some (.type T')) (ha : PA X (e :: es) (tMA G W ma)) (hg : Gl X x := by rfl) (hn : x ≠ "__name__" := by decide) (hdb : (x == ("__debug__" : Str)) = false := by decide)
    (he : starEach (e :: es) X.env = (false, eval e X.env) :: starEach es X.env := by rfl) (hpl : (backTo pos (starEach es X.env)).any (·.1) = false := by rfl) : PE X (.Call (.Name x p) (e :: es) [] pos) (tM G W (mN pn ma)) := e_callT hc hg hm hv ha hn hdb he hpl
theorem xty (hm : X.mg x = none) (hv : bootBuiltins x = some (.type T')) (hg : Gl X x := by rfl) (hn : x ≠ "__name__" := by decide) (hdb : (x == ("__debug__" : Str)) = false := by decide) : PE X (.Name x pos) (tC (.ty T')) := pe_bltn hg hm hv rfl hn hdb
theorem xcmp {op : CmpOp} {pp : P2} (ho : OpR X (compareOp op) (q2 G pp)) (ha : PE X a (tM G W mo)) (hb : PE X b (tM G W mb)) (hm : behindInMarks op b = false := by first | rfl | exact nomark _ | with_unfolding_all rfl) : PE X (.Compare a [op] [b] pos) (tM G W (m2 pp mo mb)) := e_cmp ho ha hb hm
theorem xcmpT {op : CmpOp} {pp : P2} (ho : OpR X (compareOp op) (q2 G pp)) (ha : PE X a (tM G W mo)) (hb : PE X b (tM G W mb)) (hm : behindInMarks op b = false := by first | rfl | exact nomark _ | with_unfolding_all rfl) : PT X (.Compare a [op] [b] pos) (tMT G W (mTst (m2 pp mo mb))) := c_cmp ho ha hb hm
/-- any value as a test -/
theorem xtru (B : Bx X G W k) (ha : PE X a (tM G W mo)) (he : ∀ whole, isTrue a X.env whole = (do let v ← whole; standAt a.pos; holding [v] (truthy v)) := by exact fun _ => rfl) : PT X a (tMT G W (mTru pTru mo)) := c_tru tru_ok' B.hK ha he
theorem xorT (B : Bx X G W k) (ha : PE X a (tM G W mo)) (hb : PE X (.BoolOp .Or (b :: es) pos) (tM G W mb)) : PE X (.BoolOp .Or (a :: b :: es) pos) (tM G W (mOrT pTru mo mb)) := e_orT tru_ok' B.hK ha hb
theorem xix (B : Bx X G W k) (ha : PE X a (tM G W mo)) (hb : PE X b (tM G W mb)) (hs : PlainIx b := by exact fun _ _ => rfl) : PE X (.Subscript a b pos) (tM G W (m2 pIx mo mb)) := e_ix (i_ix B.room.units B.hK) ha hb hs
theorem xisa (B : Bx X G W k) (hm : X.mg "isinstance" = none) {bt : String} (he : PE X e (tM G W mo)) (hT : PE X T (tC (.ty bt))) (hb : bt ∈ tyR := by decide) (hg : Gl X "isinstance" := by rfl) (hs : starEach [e, T] X.env = (false, eval e X.env) :: starEach [T] X.env := by rfl) (hs2 : starEach [T] X.env = (false, eval T X.env) :: starEach [] X.env := by rfl)
    (hpl : (backTo pos (starEach [T] X.env)).any (·.1) = false := by rfl) : PE X (.Call (.Name "isinstance" p) [e, T] [] pos) (tM G W (m1 (pIsa [bt]) mo)) := e_isa B.hK hg hm hb he hT hs hs2 hpl
theorem xisaT (B : Bx X G W k) (hm : X.mg "isinstance" = none) (bs : List String) {kk : Nat} {tpos : Pos} (he : PE X e (tM G W mo)) (hes : PA X es (fun σ H Q => Q (bs.map V.ty) H)) (hb : ∀ b ∈ bs, b ∈ tyR := by decide) (hz : bs.length ≤ 100 := by decide) (hg : Gl X "isinstance" := by rfl)
    (hs : starEach [e, .Tuple es kk tpos] X.env = (false, eval e X.env) :: starEach [.Tuple es kk tpos] X.env := by rfl) (hs2 : starEach [.Tuple es kk tpos] X.env = (false, eval (.Tuple es kk tpos) X.env) :: starEach [] X.env := by rfl)
    (hpl : (backTo pos (starEach [.Tuple es kk tpos] X.env)).any (·.1) = false := by rfl) : PE X (.Call (.Name "isinstance" p) [e, .Tuple es kk tpos] [] pos) (tM G W (m1 (pIsa bs) mo)) := e_isaT B.hK hg hm bs hb hz he hes hs hs2 hpl
theorem xlm {pm : PM} {name : Str} {o : Expr} {cpos : Pos} (B : Bx X G W k) (slot : Slot "list" name id) (hty : typeOf (.builtin id) = pure (.type "method_descriptor")) (hm : MtR X id (qM G pm)) (ho : PE X o (tM G W mo)) (ha : PA X (e :: es) (tMA G W ma)) (hbase : attributeBase o name X.env (eval o X.env) = eval o X.env := by rfl)
    (hfew : ((backTo cpos (starEach (e :: es) X.env)).all (fun x => !x.1) && (backToKw cpos (keywordEach [] X.env)).all (fun x => x.1.isSome) && decide ((e :: es).length + ([] : List Keyword).length + (if ([] : List Keyword).isEmpty then 0 else 1) < 30)) = true := by rfl)
    (hline : (apos.endLine == cpos.line) = true := by rfl) (hs : starEach (e :: es) X.env = (false, eval e X.env) :: starEach es X.env := by rfl) (hplain : (backTo cpos (starEach es X.env)).any (·.1) = false := by rfl) : PE X (.Call (.Attribute o name apos) (e :: es) [] cpos) (tM G W (mLm pm mo ma)) := e_lm B.hK slot hty hm ho ha hbase hfew hline hs hplain
theorem xfld {c i : Nat} {pp : Addr} (B : Bx X G W k) (cl : SlX.SCls X.K (G.cls c)) (sl : SlX.Slot1 X.K (G.cls c) m pp i) (he : PE X e (tM G W mo)) (hb : attributeBase e m X.env (eval e X.env) = eval e X.env := by rfl) : PE X (.Attribute e m pos) (tM G W (m1 (pFld c i) mo)) := e_fld B cl sl he hb
end
end Sm
/-! Sm19: statements, comprehensions, instances, defs with their side conditions filled in. -/
namespace Sm
open PySem PySem.Spec PyProof.Rows L2
section
variable {X : Cx} {G : Gs} {W : WX} {k n : Nat} {x m : Str} {p pos pos' apos cpos : Pos} {a b c e o tg iter elt value kx vx : Expr} {es ifs : List Expr} {kws : List Keyword} {ma mk : M (List Dv)} {mo mb ek ev : M Dv} {F : FM} {ks : List Str} {it : M (List Dt)} {g : GM} {t : TG} {L : List Nat} {sb : SM} {body : List Stmt} {cm : M Bool} {scope : Scope}
theorem yset (i : Nat) (B : Bx X G W k) (h : PE X e (tM G W mo)) (hi : X.N[i]? = some x := by rfl) (hx : Loc X.env.scope x := by first | exact Or.inl rfl | exact Or.inr rfl) (hs : swapsWith e (some (.Name x pos')) pos.line X.env = pure false := by rfl) (hf : X.fn x = true ∨ X.env.scope.names.lookup x = some .local := by first | exact Or.inl rfl | exact Or.inr rfl) :
    PS X (.Assign [.Name x pos'] e pos) (tMS G W (sSet i mo)) := s_set B.nd hi hx h hs hf
theorem yasg (hg : PG X tg t) (hgs : TgS G t g L) (h : PE X e (tM G W mo)) (hs : swapsWithSole [tg] e pos.line X.env = pure false := by rfl) (hw : swappedStores [tg] e X.env = pure none := by rfl) (h1 : (assignEach [tg] X.env).map (·.2) = [assign tg X.env] := by rfl) : PS X (.Assign [tg] e pos) (tMS G W (sAsg g mo)) := s_asg hg hgs h hs hw h1
theorem ysub {i' : Expr} {mi mv : M Dv} (B : Bx X G W k) (ho : PE X o (tM G W mo)) (hi : PE X i' (tM G W mi)) (hv : PE X value (tM G W mv)) (hs : swapsWith value (some (.Subscript o i' pos')) pos.line X.env = pure false := by rfl) : PS X (.Assign [.Subscript o i' pos'] value pos) (tMS G W (sSub mo mi mv)) := s_sub B.room.units ho hi hv hs
theorem yfld {cc i : Nat} {pp : Addr} {mv : M Dv} (B : Bx X G W k) (cl : SlX.SCls X.K (G.cls cc)) (sl : SlX.Slot1 X.K (G.cls cc) m pp i) (ho : PE X o (tM G W mo)) (hv : PE X value (tM G W mv)) (hs : swapsWith value (some (.Attribute o m pos')) pos.line X.env = pure false := by rfl) : PS X (.Assign [.Attribute o m pos'] value pos) (tMS G W (sFld cc i mo mv)) := s_fld B cl sl ho hv hs
theorem yfor (hp : PassesOwn (model X.prog X.w) X.A X.env X.xe) (B : Bx X G W k) (hi : PIS X G W tg iter it) (hg : PG X tg t) (hgs : TgS G t g L) (hb : PSs X body (tMS G W sb)) (hs : ∀ x, foldedSetIterable iter X.env x = pure x := by exact fun _ => rfl) : PS X (.For tg iter body [] pos) (tMS G W (sFor it g sb)) := s_for hp B.calm hi hg hgs hb hs
theorem yexpr (h : PE X e (tM G W mo)) (hs : swapsWith e none pos.line X.env = pure false := by rfl) : PS X (.Expr e pos) (tMS G W (sDrop mo)) := s_expr h hs
theorem yname (i : Nat) (B : Bx X G W k) (hi : X.N[i]? = some x := by rfl) (hx : Loc X.env.scope x := by first | exact Or.inl rfl | exact Or.inr rfl) (hf : X.fn x = true ∨ X.env.scope.names.lookup x = some .local := by first | exact Or.inl rfl | exact Or.inr rfl) : PG X (.Name x pos) (gName i) := pg_name B.nd hi hx hf
theorem ytup {es : List Expr} {kt : Nat} {u : TGs} {n : Nat} (B : Bx X G W k) (h : PGs X es u) (hn : (assignEach es X.env).length = n := by rfl) (hst : (assignEach es X.env).findIdx? (·.1) = none := by rfl) : PG X (.Tuple es kt pos) (gTup X.K n u) := pg_tup B.calm h hn hst
theorem ytupS {u : TGs} {gs : GMs} {L : List Nat} {n : Nat} (hK : G.K = X.K) (hl : GLen gs n) (h : TgSs G u gs L) : TgS G (gTup X.K n u) (gT gs) L := by
  rw [← hK]
  exact g_tup hl h
theorem yrg1 (z : X.mg "range" = none) (ha : PA X [a] (tMA G W ma)) (hg : Gl X "range" := by rfl) (hs : starEach [a] X.env = [(false, eval a X.env)] := by rfl) : PIS X G W tg (.Call (.Name "range" p) [a] [] pos) (iRg rg1 ma) := i_rg1 hg z ha hs
theorem yenum {tpos : Pos} {kk : Nat} (B : Bx X G W k) (z : X.mg "enumerate" = none) (ha : PA X [a] (tMA G W ma)) (hg : Gl X "enumerate" := by rfl) (hs : starEach [a] X.env = [(false, eval a X.env)] := by rfl) : PIS X G W (.Tuple es kk tpos) (.Call (.Name "enumerate" p) [a] [] pos) (iRg en1 ma) := i_enum B.hK hg z ha hs
theorem yzip {tpos : Pos} {kk : Nat} (B : Bx X G W k) (z : X.mg "zip" = none) (ha : PA X [a, b] (tMA G W ma)) (hg : Gl X "zip" := by rfl) (hs : starEach [a, b] X.env = (false, eval a X.env) :: starEach [b] X.env := by rfl) (hpl : (backTo pos (starEach [b] X.env)).any (·.1) = false := by rfl) : PIS X G W (.Tuple es kk tpos) (.Call (.Name "zip" p) [a, b] [] pos) (iRg zp2 ma) := i_zip B.hK hg z ha hs hpl
theorem ylc (own : List (Str × Nat)) {pe : PN} (hpe : LEnd G pe) (B : Bx X G W k) (hi : PIS X G W tg iter it) (hg : ∀ (s : Shared) (H : Hp) (C : Addr) (cl : List (Str × Addr)) (fp : List Addr), PG (X.blk s H scope (compEnvC scope cl C X.env) fp) tg t) (hgs : TgS G t g L)
    (ht : ∀ (s : Shared) (H : Hp) (C : Addr) (cl : List (Str × Addr)) (fp : List Addr), PTs (X.blk s H scope (compEnvC scope cl C X.env) fp) ifs (tMT G W0 cm)) (he : ∀ (s : Shared) (H : Hp) (C : Addr) (cl : List (Str × Addr)) (fp : List Addr), PE (X.blk s H scope (compEnvC scope cl C X.env) fp) elt (tM G W0 mo))
    (ok : blkC X.N X.env.scope scope own = true := by rfl) (hL : ∀ i ∈ L, i ∈ own.map (·.2) := by decide) (hs : ∀ x, foldedSetIterable iter X.env x = pure x := by exact fun _ => rfl) : PE X (.ListComp elt [⟨tg, iter, ifs, 0⟩] scope pos) (tM G W (mN pe (mLcI (own.map (·.2)) it g cm mo))) := e_lc' hpe B hi (blkOk_by ok) hg hgs hL ht he hs
theorem ysetLc (i : Nat) (own : List (Str × Nat)) {y : Str} {py spos : Pos} {pe : PN} (hpe : LEnd G pe) (B : Bx X G W k) (hi : PIS X G W tg iter it) (hg : ∀ (s : Shared) (H : Hp) (C : Addr) (cl : List (Str × Addr)) (fp : List Addr), PG (X.blk s H scope (compEnvC scope cl C X.env) fp) tg t) (hgs : TgS G t g L)
    (ht : ∀ (s : Shared) (H : Hp) (C : Addr) (cl : List (Str × Addr)) (fp : List Addr), PTs (X.blk s H scope (compEnvC scope cl C X.env) fp) ifs (tMT G W0 cm)) (he : ∀ (s : Shared) (H : Hp) (C : Addr) (cl : List (Str × Addr)) (fp : List Addr), PE (X.blk s H scope (compEnvC scope cl C X.env) fp) elt (tM G W0 mo))
    (hy : X.N[i]? = some y := by rfl) (hyl : X.env.scope.names.lookup y = some .local := by rfl) (hk : X.env.scope.kind = .function := by rfl) (hl : (py.line == pos.line) = true := by rfl) (hn : (scope.names.any fun (n, k) => n == y && (k == .local || k == .cell)) = false := by rfl)
    (ok : blkC X.N X.env.scope scope own = true := by rfl) (hL : ∀ i ∈ L, i ∈ own.map (·.2) := by decide) (hs : ∀ x, foldedSetIterable iter X.env x = pure x := by exact fun _ => rfl) : PS X (.Assign [.Name y py] (.ListComp elt [⟨tg, iter, ifs, 0⟩] scope pos) spos) (tMS G W (sSet i (mN pe (mLcI (own.map (·.2)) it g cm mo)))) :=
  s_setLc hpe B hy hyl (sw_true hk hyl hl hn) hi (blkOk_by ok) hg hgs hL ht he hs
/-- a class, called; its __init__ -/
structure CalI (P : Program) (w : World) (G : Gs) (mg : Str → Option Value) (base : Heap) (k c : Nat) (x : Str) (n : Nat) (F : FM) : Prop where
  ex : ∃ f, mg x = some (.ref (G.cls c)) ∧ Mk G.K (G.cls c) f ∧ CallW P w G mg base k f (n + 1) [] F
theorem ymake {cc : Nat} (R : CalI X.prog X.w G X.mg X.base k cc x n F) (B : Bx X G W (k + 1)) (ha : PA X (e :: es) (tMA G W ma)) (al : ALen ma n := by repeat (first | exact al_nil | refine al_cons ?_)) (hg : Gl X x := by rfl) (hdb : (x == ("__debug__" : Str)) = false := by decide)
    (he : starEach (e :: es) X.env = (false, eval e X.env) :: starEach es X.env := by rfl) (hpl : (backTo pos (starEach es X.env)).any (·.1) = false := by rfl) : PE X (.Call (.Name x p) (e :: es) [] pos) (tM G W (mMake cc F ma)) := by
  obtain ⟨f, h1, h2, h3⟩ := R.ex
  exact e_make (by rw [← B.hK]; exact h2) h3 B hg h1 ha al hdb he hpl
/-- a method -/
structure CalM (P : Program) (w : World) (G : Gs) (mg : Str → Option Value) (base : Heap) (k c : Nat) (x : Str) (n : Nat) (F : FM) : Prop where
  ex : ∃ f, SlX.SCls G.K (G.cls c) ∧ Meth G.K (G.cls c) x f ∧ CallW P w G mg base k f (n + 1) [] F
theorem ymeth {cc : Nat} {pl : Sem Bool} (R : CalM X.prog X.w G X.mg X.base k cc m n F) (B : Bx X G W k) (ho : PE X o (tM G W mo)) (ha : PA X (e :: es) (tMA G W ma)) (al : ALen ma n := by repeat (first | exact al_nil | refine al_cons ?_)) (ht : eval (.Call (.Attribute o m apos) (e :: es) [] pos) X.env = (do
      let ov ← eval o X.env
      standAt apos.atName
      let (f, first) ← holding [ov] (getMethod ov m pl)
      callWith pos f first (backTo pos (starEach (e :: es) X.env)) (backToKw pos (keywordEach [] X.env))) := by rfl) (hst : starEach (e :: es) X.env = (false, eval e X.env) :: starEach es X.env := by rfl) (hpl : (backTo pos (starEach es X.env)).any (·.1) = false := by rfl) : PE X (.Call (.Attribute o m apos) (e :: es) [] pos) (tM G W (mMeth cc F mo ma)) := by
  obtain ⟨f, h1, h2, h3⟩ := R.ex
  exact e_meth h3 B (by rw [← B.hK]; exact h1) (by rw [← B.hK]; exact h2) ho ha al hst hpl ht
end
section
variable {P : Program} {w : World} {G : Gs} {mg : Str → Option Value} {base : Heap} {k : Nat} {x qual : Str} {st : Stmt} {f : Addr} {fd : FuncData} {ps ks : List Str} {F : FM} {n : Nat}
theorem Cal.bad (h : mg x = some (.ref f)) (kp : PySem.W.keepIn G.K (.ref f) = true) : Cal P w G mg base k x n ks fun _ _ => .bad :=
  ⟨f, h, kp, fun A outer s H us ws vs zs Q E hr e0 r rz l1 l2 q => by
    obtain ⟨_, _, _, _, _, p⟩ := q
    exact p.elim⟩
theorem Cal.fn (h : mg x = some (.ref f)) (Fu : Fun G.K x qual st f fd) (ok : FnOk P w G.K mg base (L2.CX P w) k f fd ps (SpM G F)) (b : Binds G.K fd ps []) : Cal P w G mg base k x n [] F := ⟨f, h, Fu.kp, CallW.of0 ok b⟩
theorem kbn_of (Fu : Fun G.K x qual st f fd) (h : ∀ (kV doc pm : Value) (an : Option Addr) (cdv ct : Value) (us ws : List Value), us.length = n → ws.length = ks.length → bindArgs (PySem.W.fnOf x qual (defArgs st) (defBody st) (defScope st) .none kV doc pm an cdv ct) ⟨us, ks.zip ws⟩ = pure (ps.zip (us ++ ws))) :
    KBn G.K fd ps n ks (fun us ws => us ++ ws) fun vs zs => vs ++ zs := by
  obtain ⟨oc, od, kV, doc, pm, an, cdv, ct, osl, rfl, lk, hcd⟩ := Fu.ex
  exact ⟨fun s us ws _ h1 h2 => .of_eq (h kV doc pm an cdv ct us ws h1 h2), fun r rz => Vals.append r rz⟩
theorem Cal.kw (h : mg x = some (.ref f)) (Fu : Fun G.K x qual st f fd) (ok : FnOk P w G.K mg base (L2.CX P w) k f fd ps (SpM G F)) (b : KBn G.K fd ps n ks (fun us ws => us ++ ws) fun vs zs => vs ++ zs) : Cal P w G mg base k x n ks F :=
  ⟨f, h, Fu.kp, CallW.kw ok b fun A H xs vs zs r _ _ => ⟨xs, r, fun S => rfl⟩⟩
theorem fn_ok2 {x qual : Str} {st : Stmt} {f : Addr} {fd : FuncData} {N ps : List Str} {k n p : Nat} {b : SM} (hn : N.length = n) (hps : ps.length = p) (F : Fun G.K x qual st f fd) (S : FnScope N ps (defScope st)) 
    (hbody : ∀ (cdv : Value) (A : Around) (outer : List PySem.Env) (s : Shared) (H : Hp) (E : XK), Bx (cxOf (L2.CX P w) P w G.K mg base N qual (defScope st) f cdv A outer s H E) G (fun c d _ H' => E c d H') k →
      PassesOwn (model P w) (A.deeper (envOfC qual (defScope st) s.heap.objs.size f cdv)) (envOfC qual (defScope st) s.heap.objs.size f cdv) (cxOf (L2.CX P w) P w G.K mg base N qual (defScope st) f cdv A outer s H E).xe →
      PSs (cxOf (L2.CX P w) P w G.K mg base N qual (defScope st) f cdv A outer s H E) (defBody st) (tMS G (fun c d _ H' => E c d H') b)) :
    FnOk P w G.K mg base (L2.CX P w) (k + 1) f fd ps (SpM G (runB n p b)) := by
  subst hn hps
  exact fn_ok F S hbody
end
end Sm
/-! Sm20: the law's end. -/
namespace Sm
open PySem PySem.Spec PyProof.Rows L2
/-- what the law promises -/
def spLaw (K : PySem.W.Frag) : Sp := fun vs H Q _ => ∃ (a : Addr) (ns : List Int), vs = [.ref a] ∧ SqL K H a (ns.map V.int) ∧ ns.length ≤ 63 ∧ (∀ z ∈ ns, Builtin.Int.intBits z ≤ 1048576) ∧ ∀ H', Q (.bl true) H'
def LawTrue (F : FM) : Prop := ∀ ns : List Int, ns.length ≤ 63 → (∀ z ∈ ns, Builtin.Int.intBits z ≤ 1048576) → ∃ S', F [.d (.scr (ns.map Dt.int))] [] = .ok (.d (.bl true)) S'
theorem rvs_ints {G : Gs} {A : Al} {H : Hp} : ∀ l : List Int, RVs G A H (l.map .int) (l.map V.int)
  | [] => (rfl : ([] : List V) = [])
  | a :: l => ⟨_, _, rfl, rfl, rvs_ints l⟩
theorem law_sp {G : Gs} {F : FM} (h : LawTrue F) {vs : List V} {H : Hp} {Q : VK} {E : XK} (q : spLaw G.K vs H Q E) : SpM G F vs H Q E := by
  obtain ⟨a, ns, rfl, hS, hl, hb, q⟩ := q
  obtain ⟨S', e⟩ := h ns hl hb
  refine ⟨⟨[], []⟩, [], [.d (.scr (ns.map .int))], .cons ⟨a, ns.map V.int, rfl, ?_, rvs_ints ns⟩ .nil, ⟨rfl, List.nodup_nil, fun b hb => absurd hb (List.not_mem_nil), fun i l o e => by simp at e⟩, ?_⟩
  · rcases hS with hS | hS
    · exact .inl ⟨hS, List.not_mem_nil⟩
    · exact .inr fun H' => .inr hS
  · rw [e]
    intro A' H' x s v r
    obtain rfl : v = .bl true := r
    exact q H'
theorem law_ok {P : Program} {w : World} {G : Gs} {mg : Str → Option Value} {base : Heap} {k : Nat} {f : Addr} {fd : FuncData} {ps : List Str} {F : FM} (ok : FnOk P w G.K mg base (L2.CX P w) k f fd ps (SpM G F)) (h : LawTrue F) : FnOk P w G.K mg base (L2.CX P w) k f fd ps (spLaw G.K) :=
  ⟨fun vs H Q E q => ok.len vs H Q E (law_sp h q), fun A outer s H args us vs Q E hr e0 b r q => ok.run A outer s H args us vs Q E hr e0 b r (law_sp h q)⟩
theorem law_hsp {K : PySem.W.Frag} {H : Hp} {a : Addr} {ns : List Int} (hl : ns.length ≤ 63) (hb : ∀ z ∈ ns, Builtin.Int.intBits z ≤ 1048576) (hS : SqL K H a (ns.map V.int)) : spLaw K [.ref a] H (fun v _ => v = .bl true) fun _ _ _ => False := ⟨a, ns, rfl, hS, hl, hb, fun _ => rfl⟩
theorem law_cx {P : Program} {w : World} {H : Hp} {s : Shared} {e : Value} {s' : Shared} (h : L2.CX P w [] H s (fun _ _ _ => False) e s') : False := by
  obtain ⟨_, _, _, _, _, _, _, _, _, _, _, _, z⟩ := h
  exact z
end Sm
/-! Sm21: the mirrors' steps as rewriting rules. -/
namespace Sm
open PySem PySem.Spec PyProof.Rows L2
section
variable {ρ : Env} {S S' : Sto} {d x y : Dv} {t : Dt} {i : Nat} {a b : SM} {m ma mb : M Dv} {c ca cb : M Bool} {as : M (List Dv)} {it : M (List Dt)} {g : GM} {gs : GMs}
@[simp] theorem sSeq_s : sSeq a b ρ S = sqz (a ρ S) b := rfl
@[simp] theorem sqz_nx {ρ' : Env} : sqz (.nx ρ' S) b = b ρ' S := rfl
@[simp] theorem sqz_rt : sqz (.rt d S) b = .rt d S := rfl
@[simp] theorem sNil_s : sNil ρ S = .nx ρ S := rfl
@[simp] theorem sSet_s : sSet i m ρ S = (m ρ S).to ρ fun d S1 => .nx (ρ.set i (some d)) S1 := rfl
@[simp] theorem sIf_s : sIf c a b ρ S = (c ρ S).to ρ fun k S1 => if k = true then a ρ S1 else b ρ S1 := rfl
@[simp] theorem sRet_s : sRet m ρ S = (m ρ S).to ρ fun d S1 => .rt d S1 := rfl
@[simp] theorem sDrop_s : sDrop m ρ S = (m ρ S).to ρ fun _ S1 => .nx ρ S1 := rfl
@[simp] theorem sAsg_s : sAsg g m ρ S = (m ρ S).to ρ fun d S1 => oz (g d ρ) fun ρ1 => .nx ρ1 S1 := rfl
@[simp] theorem oz_some {α : Type} {v : α} {f : α → Sz} : oz (some v) f = f v := rfl
@[simp] theorem sFor_s : sFor it g b ρ S = (it ρ S).to ρ fun ts S1 => forL g b ts ρ S1 := rfl
@[simp] theorem forL_nil : forL g b [] ρ S = .nx ρ S := rfl
@[simp] theorem sSub_s {mo mi mv : M Dv} : sSub mo mi mv ρ S = (mv ρ S).to ρ fun d S1 => (mo ρ S1).to ρ fun o S2 => (mi ρ S2).to ρ fun i S3 => oz (stSub o i d S3) fun S4 => .nx ρ S4 := rfl
@[simp] theorem sFld_s {cc : Nat} {mo mv : M Dv} : sFld cc i mo mv ρ S = (mv ρ S).to ρ fun d S1 => (mo ρ S1).to ρ fun o S2 => oz (stFld cc i o d S2) fun S3 => .nx ρ S3 := rfl
@[simp] theorem sPars_s {is : List Nat} : sPars is as ρ S = (as ρ S).to ρ fun ds S1 => if ds.length = is.length then .nx (setAll is ds ρ) S1 else .bad := rfl
@[simp] theorem mV_s : mV i ρ S = (match ρ[i]? with
  | some (some d) => .ok d S
  | _ => .bad) := rfl
@[simp] theorem mC_s : mC t ρ S = .ok (.d t) S := rfl
@[simp] theorem m1_s {p : P1} : m1 p m ρ S = (m ρ S).bind fun x S1 => lift (p x S1) := rfl
@[simp] theorem m2_s {p : P2} : m2 p ma mb ρ S = (ma ρ S).bind fun x S1 => (mb ρ S1).bind fun y S2 => lift (p x y S2) := rfl
@[simp] theorem mN_s {p : PN} : mN p as ρ S = (as ρ S).bind fun xs S1 => lift (p xs S1) := rfl
@[simp] theorem mF_s {F : FM} : mF F as ρ S = (as ρ S).bind F := rfl
@[simp] theorem aNil_s : aNil ρ S = .ok [] S := rfl
@[simp] theorem aCons_s : aCons m as ρ S = (m ρ S).bind fun x S1 => (as ρ S1).bind fun xs S2 => .ok (x :: xs) S2 := rfl
@[simp] theorem aApp_s {bs : M (List Dv)} : aApp as bs ρ S = (as ρ S).bind fun xs S1 => (bs ρ S1).bind fun ys S2 => .ok (xs ++ ys) S2 := rfl
@[simp] theorem mTst_s : mTst m ρ S = (m ρ S).bind fun d S1 => li (toB d) S1 := rfl
@[simp] theorem toB_s {k : Bool} : toB (.d (.bl k)) = some k := rfl
@[simp] theorem mTru_s {p : PT1} : mTru p m ρ S = (m ρ S).bind fun d S1 => li (p d S1) S1 := rfl
@[simp] theorem cAnd_s : cAnd ca cb ρ S = (ca ρ S).bind fun c S1 => if c = true then cb ρ S1 else .ok false S1 := rfl
@[simp] theorem cOr_s : cOr ca cb ρ S = (ca ρ S).bind fun c S1 => if c = true then .ok true S1 else cb ρ S1 := rfl
@[simp] theorem cNot_s : cNot ca ρ S = (ca ρ S).bind fun c S1 => .ok (!c) S1 := rfl
@[simp] theorem cYes_s : cYes ρ S = .ok true S := rfl
@[simp] theorem mIf_s : mIf c ma mb ρ S = (c ρ S).bind fun k S1 => if k = true then ma ρ S1 else mb ρ S1 := rfl
@[simp] theorem mAnd_s : mAnd ma mb ρ S = (ma ρ S).bind fun x S1 => (li (toB x) S1).bind fun c S2 => if c = true then mb ρ S2 else .ok (.d (.bl false)) S2 := rfl
@[simp] theorem mOr_s : mOr ma mb ρ S = (ma ρ S).bind fun x S1 => (li (toB x) S1).bind fun c S2 => if c = true then .ok (.d (.bl true)) S2 else mb ρ S2 := rfl
@[simp] theorem mNot_s : mNot ma ρ S = (ma ρ S).bind fun x S1 => (li (toB x) S1).bind fun c S2 => .ok (.d (.bl (!c))) S2 := rfl
@[simp] theorem mOrT_s {p : PT1} : mOrT p ma mb ρ S = (ma ρ S).bind fun x S1 => (li (p x S1) S1).bind fun c S2 => if c = true then .ok x S2 else mb ρ S2 := rfl
@[simp] theorem mNotT_s {p : PT1} : mNotT p ma ρ S = (ma ρ S).bind fun x S1 => (li (p x S1) S1).bind fun c S2 => .ok (.d (.bl (!c))) S2 := rfl
@[simp] theorem mFrz_s : mFrz m ρ S = (m ρ S).bind fun d S1 => lift (frz d S1) := rfl
@[simp] theorem mSl_s {p : PSl} {l h : M (Option Int)} : mSl p m l h ρ S = (m ρ S).bind fun d S1 => (l ρ S1).bind fun lo S2 => (h ρ S2).bind fun hi S3 => lift (p lo hi d S3) := rfl
@[simp] theorem oNo_s : oNo ρ S = .ok none S := rfl
@[simp] theorem oPt_s : oPt m ρ S = (m ρ S).bind fun d S1 => (match d with
  | .d (.int i) => .ok (some i) S1
  | _ => .bad) := rfl
@[simp] theorem mLm_s {p : PM} : mLm p m as ρ S = (m ρ S).bind fun o S1 => if isLs S1 o = true then (as ρ S1).bind fun ds S2 => lift (p o ds S2) else .bad := rfl
@[simp] theorem mDnew_s : mDnew ρ S = .ok (.loc S.length) (S ++ [.dct [] []]) := rfl
@[simp] theorem iSeq_s : iSeq m ρ S = (m ρ S).bind fun d S1 => li (seqOf d) S1 := rfl
@[simp] theorem iRg_s {f : List Dv → Option (List Dt)} : iRg f as ρ S = (as ρ S).bind fun ds S1 => li (f ds) S1 := rfl
@[simp] theorem iDc_s {f : Dv → Option (List Dt)} : iDc f m ρ S = (m ρ S).bind fun d S1 => li (f d) S1 := rfl
@[simp] theorem mLcI_s {vs : List Nat} : mLcI vs it g c m ρ S = (it ρ S).bind fun ts S1 => if ts.length ≤ 16777216 then lcL g c m (wipeE ρ vs) ts S1 else .bad := rfl
@[simp] theorem gN_s : gN i d ρ = some (ρ.set i (some d)) := rfl
@[simp] theorem gT_s {ts : List Dt} : gT gs (.d (.tup ts)) ρ = gs ts ρ := rfl
@[simp] theorem gsNil_s : gsNil [] ρ = some ρ := rfl
@[simp] theorem bz_some {α β : Type} {v : α} {f : α → Rz β} : bz (some v) f = f v := rfl
@[simp] theorem wipe_nil : wipeE ρ [] = ρ := rfl
@[simp] theorem wipe_cons {v : Nat} {vs : List Nat} : wipeE ρ (v :: vs) = (wipeE ρ vs).set v none := rfl
@[simp] theorem lcL_nil : lcL g c m ρ [] S = .ok [] S := rfl
@[simp] theorem pures_nil : pures [] = some [] := rfl
@[simp] theorem pures_cons {ds : List Dv} : pures (.d t :: ds) = (pures ds).map (t :: ·) := rfl
@[simp] theorem shaped_int (i : Int) : SeqAt.shaped (.int i) = true := rfl
@[simp] theorem eqDv_int {i j : Int} : eqDv S (.d (.int i)) (.d (.int j)) = some (decide (i = j)) := by
  show (if SeqAt.shaped (.int i) = true ∧ SeqAt.shaped (.int j) = true then some (PyData.eqv (.int i) (.int j)) else none) = _
  rw [if_pos ⟨shaped_int i, shaped_int j⟩]
  congr 1
end
end Sm
/-! Sm22: what is never reached; defs with a star parameter, calls with stars. -/
namespace Sm
open PySem PySem.Spec PyProof.Rows L2
/-- a statement, an expression that is never reached -/
def sBad : SM := fun _ _ => .bad
abbrev CallR' (P : Program) (w : World) (G : Gs) (mg : Str → Option Value) (base : Heap) (k : Nat) (f : Addr) (F : FM) : Prop := FnR P w G.K mg base (L2.CX P w) k f (SpM G F)
section
variable {P : Program} {w : World} {G : Gs} {mg : Str → Option Value} {base : Heap}
theorem RDs.drop {G : Gs} {A : Al} {H : Hp} : ∀ (n : Nat) {ds : List Dv} {vs : List V}, RDs G A H ds vs → RDs G A H (ds.drop n) (vs.drop n)
  | 0, _, _, h => h
  | n + 1, _, _, .nil => .nil
  | n + 1, _, _, .cons _ r => RDs.drop n r
theorem RDs.take {G : Gs} {A : Al} {H : Hp} : ∀ (n : Nat) {ds : List Dv} {vs : List V}, RDs G A H ds vs → RDs G A H (ds.take n) (vs.take n)
  | 0, _, _, h => .nil
  | n + 1, _, _, .nil => .nil
  | n + 1, _, _, .cons q r => .cons q (RDs.take n r)
end
/-! calls by position -/
structure CalV (P : Program) (w : World) (G : Gs) (mg : Str → Option Value) (base : Heap) (k : Nat) (x : Str) (F : FM) : Prop where
  ex : ∃ f, mg x = some (.ref f) ∧ PySem.W.keepIn G.K (.ref f) = true ∧ CallR' P w G mg base k f F
structure CalMV (P : Program) (w : World) (G : Gs) (mg : Str → Option Value) (base : Heap) (k c : Nat) (x : Str) (F : FM) : Prop where
  ex : ∃ f, SlX.SCls G.K (G.cls c) ∧ BMeth G.K (G.cls c) x f ∧ CallR' P w G mg base k f F
section
variable {X : Cx} {G : Gs} {W : WX} {k c : Nat} {x m : Str} {p pos apos : Pos} {e o : Expr} {es : List Expr} {ma : M (List Dv)} {mo : M Dv} {F : FM}
/-! methods -/
end
end Sm
/-! Sm23: defs with defaults, called by position, by name, with a default left away. -/
namespace Sm
open PySem PySem.Spec PyProof.Rows L2
/-- places in another order -/
def permL {α : Type} (ix : List Nat) (xs : List α) : List α := ix.filterMap fun i => xs[i]?
def kwF (ix : List Nat) (dds : List Dt) (F : FM) : FM := fun xs => F (permL ix (xs ++ dds.map .d))
theorem perm_rds {G : Gs} {A : Al} {H : Hp} {ds : List Dv} {vs : List V} (r : RDs G A H ds vs) : ∀ ix : List Nat, RDs G A H (permL ix ds) (permL ix vs)
  | [] => .nil
  | i :: ix => by
    have ih := perm_rds r ix
    unfold permL at ih ⊢
    rw [List.filterMap_cons, List.filterMap_cons]
    by_cases hi : i < ds.length
    · have hi2 : i < vs.length := by rw [← Paired.length r]; exact hi
      obtain ⟨v, ev, rv⟩ := r.get (List.getElem?_eq_getElem hi)
      rw [List.getElem?_eq_getElem hi, ev]
      exact .cons rv ih
    · have hi2 : ¬ i < vs.length := by rw [← Paired.length r]; exact hi
      rw [List.getElem?_eq_none (by omega), List.getElem?_eq_none (by omega)]
      exact ih
theorem perm_vals {vs : List V} {us : List Value} (r : Vals vs us) : ∀ ix : List Nat, Vals (permL ix vs) (permL ix us)
  | [] => .nil
  | i :: ix => by
    have ih := perm_vals r ix
    unfold permL at ih ⊢
    rw [List.filterMap_cons, List.filterMap_cons]
    have key : ∀ {vs : List V} {us : List Value} (i : Nat), Vals vs us → (vs[i]? = none ∧ us[i]? = none) ∨ ∃ v u, vs[i]? = some v ∧ us[i]? = some u ∧ RelV v u := by
      intro vs us i r
      induction r generalizing i with
      | nil => exact .inl ⟨by simp, by simp⟩
      | cons a b ih =>
        cases i with
        | zero => exact .inr ⟨_, _, rfl, rfl, a⟩
        | succ i => simpa using ih i
    rcases key i r with ⟨e1, e2⟩ | ⟨v, u, e1, e2, rv⟩
    · rw [e1, e2]
      exact ih
    · rw [e1, e2]
      exact .cons rv ih
structure FunA (K : PySem.W.Frag) (x qual : Str) (st : Stmt) (f : Addr) (dV kV : Value) (fd : FuncData) : Prop where
  ex : ∃ (oc : Value) (od : Option Addr) (doc pm : Value) (an : Option Addr) (cdv ct : Value) (osl : Array (Option Value)),
    fd = PySem.W.fnOf x qual (defArgs st) (defBody st) (defScope st) dV kV doc pm an cdv ct ∧ K.lookup f = some ⟨oc, od, .func fd, osl⟩ ∧ PySem.W.codeIn K cdv qual = true
  kp : PySem.W.keepIn K (.ref f) = true
theorem funA_mk {K : PySem.W.Frag} {x qual : Str} {st : Stmt} {f : Addr} {oc : Value} {od an : Option Addr} {osl : Array (Option Value)} {dV kV doc pm cdv ct : Value} (l : K.lookup f = some ⟨oc, od, .func (PySem.W.fnOf x qual (defArgs st) (defBody st) (defScope st) dV kV doc pm an cdv ct), osl⟩)
    (c : PySem.W.codeIn K cdv qual = true) (k : PySem.W.keepIn K (.ref f) = true) : FunA K x qual st f dV kV (PySem.W.fnOf x qual (defArgs st) (defBody st) (defScope st) dV kV doc pm an cdv ct) := ⟨⟨oc, od, doc, pm, an, cdv, ct, osl, rfl, l, c⟩, k⟩
section
variable {P : Program} {w : World} {G : Gs} {mg : Str → Option Value} {base : Heap} {x qual : Str} {st : Stmt} {f : Addr} {dV kV : Value} {fd : FuncData} {ps ks : List Str} {k n : Nat} {F : FM}
/-- all is given, in whatever order -/
theorem CallW.kp (ok : FnOk P w G.K mg base (L2.CX P w) k f fd ps (SpM G F)) (Fu : FunA G.K x qual st f dV kV fd) (ix : List Nat)
    (hb : ∀ (doc pm : Value) (an : Option Addr) (cdv ct : Value) (us ws : List Value), us.length = n → ws.length = ks.length → bindArgs (PySem.W.fnOf x qual (defArgs st) (defBody st) (defScope st) dV kV doc pm an cdv ct) ⟨us, ks.zip ws⟩ = pure (ps.zip (permL ix (us ++ ws)))) :
    CallW P w G mg base k f n ks (kwF ix [] F) := by
  intro A outer s H us ws vs zs Q E hr e0 r rz l1 l2 q
  obtain ⟨A', S', ds, rd, s', p⟩ := q
  obtain ⟨oc, od, doc, pm, an, cdv, ct, osl, rfl, lk, hcd⟩ := Fu.ex
  have q2 : SpM G F (permL ix (vs ++ zs)) H Q E := ⟨A', S', permL ix ds, perm_rds rd ix, s', by unfold kwF at p; simpa using p⟩
  refine ok.run A outer s H ⟨us, ks.zip ws⟩ (permL ix (us ++ ws)) (permL ix (vs ++ zs)) Q E hr e0 ?_ (perm_vals (Vals.append r rz) ix) q2
  exact .of_eq (hb doc pm an cdv ct us ws (by rw [← r.length, l1]) (by rw [← rz.length, l2]))
theorem Cal.kp (h : mg x = some (.ref f)) (ok : FnOk P w G.K mg base (L2.CX P w) k f fd ps (SpM G F)) (Fu : FunA G.K x qual st f dV kV fd) (ix : List Nat)
    (hb : ∀ (doc pm : Value) (an : Option Addr) (cdv ct : Value) (us ws : List Value), us.length = n → ws.length = ks.length → bindArgs (PySem.W.fnOf x qual (defArgs st) (defBody st) (defScope st) dV kV doc pm an cdv ct) ⟨us, ks.zip ws⟩ = pure (ps.zip (permL ix (us ++ ws)))) : Cal P w G mg base k x n ks (kwF ix [] F) :=
  ⟨f, h, Fu.kp, CallW.kp ok Fu ix hb⟩
end
end Sm
/-! Sm24: list comprehensions of two clauses. -/
namespace Sm
open PySem PySem.Spec PyProof.Rows L2
section
variable {G : Gs} {A A' A1 A2 : Al} {H H' H1 H2 : Hp} {S : Sto} {D : Addr}
end
section
variable {X : Cx} {G : Gs} {W : WX} {kk : Nat} {elt tg iter tg1 iter1 : Expr} {ifs ifs1 : List Expr} {scope : Scope} {own : List (Str × Nat)} {pos : Pos} {it : M (List Dt)} {g g1 : GM} {t t1 : TG} {L L1 : List Nat} {cm cm1 em' : M Bool} {em it1 : M Dv}
end
end Sm
/-! Sm25: dicts with tuples as keys; dict(pairs); max, min of a list; range of three. -/
namespace Sm
open PySem PySem.Spec PyProof.Rows L2
section
variable {κ : Type} [DecidableEq κ]
variable {G : Gs} {A : Al} {H : Hp}
end
section
variable {G : Gs} {A : Al} {H : Hp} {S : Sto}
end
section
variable {X : Cx} {G : Gs} {W : WX} {k : Nat} {o i e value : Expr} {es : List Expr} {p pos pos' : Pos} {mo mi mv : M Dv} {ma : M (List Dv)}
end
end Sm
/-! Sm26: texts as what is walked, sorted; tuples with boxes; dict(pairs); max, min of a list; range downwards. -/
namespace Sm
open PySem PySem.Spec PyProof.Rows L2
def signs (s : Str) : List Dt := s.cps.toList.map fun c => .str ⟨#[c]⟩
/-- a sequence, or a text sign by sign -/
def anyOf (d : Dv) : Option (List Dt) := match d with
  | .d (.str s) => some (signs s)
  | d => seqOf d
section
variable {X : Cx} {G : Gs} {W : WX} {kk : Nat} {tg iter e : Expr} {m : M Dv}
/-! sorted(x), x a sequence or a text -/
def srtOf (S : Sto) (d : Dv) : Option (List Dt) := match d with
  | .d (.str z) => if z.length ≤ 16777216 then some (signs z) else none
  | d => seqT S d
def pSortedA : PN := fun ds S => match ds with
  | [d] => (match srtOf S d with
    | some ts => if sortChk ts = true then some (.d (.lst (isortL leT ts)), S) else none
    | none => none)
  | _ => none
end
end Sm
/-! Sm27: tuples with boxes; dict(pairs); max, min of a list; range downwards. -/
namespace Sm
open PySem PySem.Spec PyProof.Rows L2
section
variable {G : Gs} {A : Al} {H : Hp} {S : Sto}
end
section
variable {X : Cx} {G : Gs} {W : WX} {k : Nat} {es : List Expr} {pos p : Pos} {ma : M (List Dv)} {tg a b c : Expr}
/-! max, min of a list of numbers -/
def maxI : List Int → Int
  | [] => 0
  | [a] => a
  | a :: b :: r => max a (maxI (b :: r))
/-! range(i, j, -1) -/
end
end Sm
/-! Sm28: methods that call themselves. -/
namespace Sm
open PySem PySem.Spec PyProof.Rows L2
theorem CalM.bad {P : Program} {w : World} {G : Gs} {mg : Str → Option Value} {base : Heap} {k c n : Nat} {x : Str} {f : Addr} (h1 : SlX.SCls G.K (G.cls c)) (h2 : Meth G.K (G.cls c) x f) : CalM P w G mg base k c x n fun _ _ => .bad :=
  ⟨f, h1, h2, fun A outer s H us ws vs zs Q E hr e0 r rz l1 l2 q => by
    obtain ⟨_, _, _, _, _, p⟩ := q
    exact p.elim⟩
end Sm
/-! Sm29: a class made with its defaults. -/
namespace Sm
open PySem PySem.Spec PyProof.Rows L2
end Sm
/-! the mirrors that many laws share -/
namespace Hn
open PySem PySem.Spec PyProof.Rows L2 Sm
def b_tupled (self : FM) : SM := sRet (mIf (mTru pTru (m1 (pIsa ["list", "tuple"]) (mV 0))) (mN pTuple (aCons (mN pLst (mLcI [1] (iSeq (mV 0)) (gN 1) (cYes) (mF self (aCons (mV 1) (aNil))))) (aNil))) (mV 0))
def F_tupled : Nat → FM
  | 0 => fun _ _ => .bad
  | n + 1 => iso (runB 2 1 (b_tupled (F_tupled n)))
def b__law_take : SM := sSeq (sIf (mTst (m2 pGt (m2 pIx (mV 0) (mC (.int 0))) (mC (.int 0)))) (sSeq (sSet 2 (m2 pMod (mN pInt (aCons (m2 pIx (mV 0) (mC (.int 0))) (aNil))) (mV 1)))
    (sSeq (sSub (mV 0) (mC (.int 0)) (m2 pDiv (m2 pIx (mV 0) (mC (.int 0))) (mV 1)))
    (sRet (mV 2)))) (sNil))
    (sSeq (sSub (mV 0) (mC (.int 2)) (m2 pAdd (m2 pIx (mV 0) (mC (.int 2))) (mC (.int 1))))
    (sSeq (sSet 3 (m2 pMod (mN pInt (aCons (m2 pMul (m2 pAdd (m2 pIx (mV 0) (mC (.int 1))) (m2 pMul (mC (.int 48271)) (m2 pIx (mV 0) (mC (.int 2))))) (m2 pAdd (mC (.int 39373)) (m2 pIx (mV 0) (mC (.int 2))))) (aNil))) (mC (.int 2147483647))))
    (sSeq (sSet 4 (m2 pAdd (m2 pMod (mN pInt (aCons (mV 3) (aNil))) (mC (.int 40009))) (mC (.int 7))))
    (sSeq (sSet 5 (m2 pMod (mN pInt (aCons (m2 pMul (m2 pAdd (m2 pAdd (mV 3) (m2 pIx (mV 0) (mC (.int 2)))) (m2 pDiv (m2 pIx (mV 0) (mC (.int 1))) (mC (.int 1000003)))) (mV 4)) (aNil))) (mC (.int 2147483629))))
    (sRet (m2 pMod (mN pInt (aCons (m2 pDiv (m2 pMod (mN pInt (aCons (m2 pAdd (m2 pMul (mV 5) (mC (.int 48271))) (mV 3)) (aNil))) (mC (.int 2147483587))) (mC (.int 64))) (aNil))) (mV 1)))))))
def R__law_take : FM := runB 6 2 b__law_take
def F__law_take : FM := view (R__law_take)
def b__law_cells : SM := sSeq (sSet 2 (mOrT pTru (mN pListB (aCons (mSl pSl (mV 0) (oNo) (oPt (mV 1))) (aNil))) (mN pLstB (aCons (mC (.int 0)) (aNil)))))
    (sSeq (sFor (iRg en1 (aCons (mSl pSl (mV 0) (oPt (mV 1)) (oPt (mC (.int 63)))) (aNil))) (gT (gsCons (gN 3) (gsCons (gN 4) (gsNil)))) (sSeq (sSet 5 (m2 pMod (mN pInt (aCons (mV 3) (aNil))) (mV 1)))
    (sSub (mV 2) (mV 5) (m2 pAdd (m2 pIx (mV 2) (mV 5)) (m2 pMul (mV 4) (m2 pAdd (mV 3) (mC (.int 2))))))))
    (sRet (mFrz (mV 2))))
def R__law_cells : FM := runB 6 2 b__law_cells
def F__law_cells : FM := iso (R__law_cells)
def b__law_same (self : FM) : SM := sSeq (sIf (mTru pTru (m1 (pIsa ["list", "tuple"]) (mV 1))) (sSeq (sIf (cOr (mTst (m2 pNe (m1 (pIsa ["list"]) (mV 0)) (m1 (pIsa ["list"]) (mV 1)))) (mTst (m2 pNe (m1 (pIsa ["tuple"]) (mV 0)) (m1 (pIsa ["tuple"]) (mV 1))))) (sRet (mC (.bl false))) (sNil))
    (sRet (mAnd (m2 pEq (mN pLen (aCons (mV 0) (aNil))) (mN pLen (aCons (mV 1) (aNil)))) (mN pAll (aCons (mN pLst (mLcI [2, 3] (iRg zp2 (aCons (mV 0) (aCons (mV 1) (aNil)))) (gT (gsCons (gN 2) (gsCons (gN 3) (gsNil)))) (cYes) (mF self (aCons (mV 2) (aCons (mV 3) (aNil)))))) (aNil)))))) (sNil))
    (sSeq (sIf (cOr (mTst (m2 pIsN (mV 1) (mC .non))) (mTru pTru (m1 (pIsa ["bool", "str"]) (mV 1)))) (sRet (mAnd (m2 pEq (mV 0) (mV 1)) (mAnd (m2 pEq (m1 (pIsa ["bool"]) (mV 0)) (m1 (pIsa ["bool"]) (mV 1))) (m2 pEq (m2 pIsN (mV 0) (mC .non)) (m2 pIsN (mV 1) (mC .non)))))) (sNil))
    (sRet (mAnd (m1 (pIsa ["int"]) (mV 0)) (mAnd (mNot (m1 (pIsa ["bool"]) (mV 0))) (m2 pEq (mV 0) (mV 1))))))
def F__law_same : Nat → FM
  | 0 => fun _ _ => .bad
  | n + 1 => iso (runB 4 2 (b__law_same (F__law_same n)))
def b__law_few : SM := sRet (mN pTuple (aCons (mN pLst (mLcI [3] (iSeq (mV 1)) (gN 3) (mTst (m2 pEq (mF F__law_take (aCons (mV 0) (aCons (mV 2) (aNil)))) (mC (.int 0)))) (mV 3))) (aNil)))
def R__law_few : FM := runB 4 3 b__law_few
def F__law_few : FM := view (R__law_few)
def b__law_mixed : SM := sSeq (sPars [2, 3] (aCons (mN pListB (aCons (mV 1) (aNil))) (aCons (mN pLstB (aNil)) (aNil))))
    (sSeq (sFor (iRg rg1 (aCons (mN pLen (aCons (mV 1) (aNil))) (aNil))) (gN 4) (sDrop (mLm pAppend (mV 3) (aCons (mLm pPopAt (mV 2) (aCons (mF F__law_take (aCons (mV 0) (aCons (mN pLen (aCons (mV 2) (aNil))) (aNil)))) (aNil))) (aNil)))))
    (sRet (mN pTuple (aCons (mV 3) (aNil)))))
def R__law_mixed : FM := runB 5 2 b__law_mixed
def F__law_mixed : FM := view (R__law_mixed)
end Hn
/-! mirrors of sheets, swaps, and of what the laws on them share -/
namespace Hn
open PySem PySem.Spec PyProof.Rows L2 Sm
/-- the source of draws, with the law's own number -/
def boxM (c : Int) : SM := sSeq (sSet 2 (mIf (mTst (m2 pLt (mV 1) (mN pLen (aCons (mV 0) (aNil))))) (m2 pIx (mV 0) (mV 1)) (mC (.int 0))))
    (sRet (mN pLstB (aCons (m2 pMul (mN pAbs (aCons (mV 2) (aNil))) (mN pInt (aCons (m2 pGe (mN pAbs (aCons (mV 2) (aNil))) (m2 pPow (mC (.int 10)) (mC (.int 18)))) (aNil)))) (aCons (m2 pAdd (m2 pAdd (m2 pMod (mN pInt (aCons (mV 2) (aNil))) (mC (.int 2305843009213693951))) (m2 pMul (mC (.int 39373)) (mV 1))) (mC (.int c))) (aCons (mC (.int 0)) (aNil))))))
def lawM (top : Int) (B R : FM) : SM := sSeq (sSet 1 (mF F__law_cells (aCons (mV 0) (aCons (mC (.int top)) (aNil)))))
    (sRet (mN pAll (aCons (mN pLst (mLcI [2] (iRg rg1 (aCons (mN pLen (aCons (mV 1) (aNil))) (aNil))) (gN 2) (cYes) (mF R (aCons (mF B (aCons (mV 1) (aCons (mV 2) (aNil)))) (aNil))))) (aNil))))
end Hn
namespace Hw
open PySem PySem.Spec PyProof.Rows L2 Sm Hn
end Hw
/-! Ex1: except (A, B, ..): a tuple of any number of classes. -/
namespace Sm
open PySem PySem.Spec PySem.W
section
variable {M : Model} {A : Around} {E : Value → Shared → Prop} {s : Shared} {α β : Type}
/-- a loop whose turns change nothing -/
theorem turns_idle {f : α → β → Sem (ForInStep β)} {u : β} : ∀ (cs : List α), (∀ c ∈ cs, ∀ Q : ForInStep β → Shared → Prop, Q (.yield u) s → wpAny M A (f c u) Q E s) → ∀ Q : β → Shared → Prop, Q u s → wpAny M A (forIn cs u f) Q E s
  | [], _, Q, q => by
    rw [List.forIn_nil]
    exact wpAny_pure q
  | c :: cs, h, Q, q => by
    rw [List.forIn_cons]
    refine wpAny_bind (h c List.mem_cons_self _ ?_)
    exact turns_idle cs (fun x hx => h x (List.mem_cons_of_mem _ hx)) Q q
/-- a loop that stops with d at the first of them that is hit -/
theorem turns_hit {f : α → β → Sem (ForInStep β)} {u d : β} {v : α → Bool} : ∀ (cs : List α), (∀ c ∈ cs, ∀ Q : ForInStep β → Shared → Prop, Q (if v c = true then .done d else .yield u) s → wpAny M A (f c u) Q E s) → ∀ Q : β → Shared → Prop, Q (if cs.any v = true then d else u) s → wpAny M A (forIn cs u f) Q E s
  | [], _, Q, q => by
    rw [List.forIn_nil]
    exact wpAny_pure q
  | c :: cs, h, Q, q => by
    rw [List.forIn_cons]
    refine wpAny_bind (h c List.mem_cons_self _ ?_)
    rw [List.any_cons] at q
    cases hv : v c with
    | true =>
      rw [hv] at q
      exact wpAny_pure q
    | false =>
      rw [hv] at q
      exact turns_hit cs (fun x hx => h x (List.mem_cons_of_mem _ hx)) Q q
end
theorem any_each {K : Frag} {cls : Value} : ∀ {cs : List Value} {b : Bool}, exmAny K cls cs = some b → (∀ c ∈ cs, ∃ v, exmOne K cls c = some v) ∧ cs.any (fun c => exmOne K cls c == some true) = b
  | [], b, h => by
    cases h
    exact ⟨fun c hc => absurd hc List.not_mem_nil, rfl⟩
  | c :: cs, b, h => by
    obtain ⟨b1, d1, h1, h2, rfl⟩ := exmAny_cons h
    obtain ⟨k1, k2⟩ := any_each h2
    refine ⟨fun x hx => ?_, ?_⟩
    · rcases List.mem_cons.mp hx with rfl | hx
      · exact ⟨b1, h1⟩
      · exact k1 x hx
    · rw [List.any_cons, h1, k2]
      cases b1 <;> rfl
theorem exm_all {M : Model} {K : Frag} {cs : List Value} {cls : Value} {tp e : Addr} {b : Bool} {h : Heap} (X : K.In h) (LT : Looks M h (typeOf (.ref e)) cls) (hp : h.get? tp = some { cls := .type "tuple", data := .seq cs.toArray }) (hx : exmAny K cls cs = some b) :
    Looks M h (excMatches (.ref e) (.ref tp)) b := by
  intro A Q E s k q
  obtain ⟨ev, an⟩ := any_each hx
  have isT : Looks M h (isInstance (.ref tp) (.type "tuple")) true := ((Looks.ld hp).andThen .now).andThen (Looks.of_pure isSubtype_tuple_tuple)
  unfold excMatches
  refine wpAny_bind ((isT.keeps k).here ?_)
  dsimp only
  rw [if_pos rfl]
  have there := k _ _ hp
  first
    | refine wpAny_bind (wpAny_seqItems there rfl ?_)
    | refine wpAny_bind (wpAny_bind (wpAny_seqItems there rfl (wpAny_pure ?_)))
  dsimp only [Option.getD_some, Option.getD]
  refine wpAny_bind (wpAny_pure ?_)
  refine wpAny_bind (turns_idle _ (fun c hc Q hQ => ?_) _ ?_)
  · obtain ⟨v, hv⟩ := ev c (by simpa using hc)
    refine wpAny_bind (((exm_cls (M := M) X hv).1.keeps k).here ?_)
    simp only [Bool.not_true, Bool.false_eq_true, if_false]
    exact wpAny_pure hQ
  refine wpAny_bind ((LT.keeps k).here ?_)
  refine wpAny_bind (turns_hit (v := fun c => exmOne K cls c == some true) (d := (some true, ())) _ (fun c hc Q hQ => ?_) _ ?_)
  · obtain ⟨v, hv⟩ := ev c (by simpa using hc)
    refine wpAny_bind (((exm_cls (M := M) X hv).2.keeps k).here ?_)
    simp only [hv] at hQ
    cases v
    · simp only [Bool.false_eq_true, if_false]
      exact wpAny_pure hQ
    · simp only [if_true]
      exact wpAny_pure hQ
  rw [an]
  cases b
  · exact wpAny_pure q
  · exact wpAny_pure q
end Sm
set_option maxHeartbeats 1000000
/-! Ex2: an exception of an own class over LookupError or ValueError is made: its __init__ says super().__init__(x) and keeps x. -/
namespace Sm
open PySem PySem.Spec PyProof.Rows PySem.W PySem.Calls Builtin.ObjectAttr
/-- what is known of the base -/
structure Bsx (B nw ni : String) (tl : List Value) : Prop where
  fb : ExcBaseFacts B nw ni tl
  ks : KxsFacts B ni
  st : StoreFacts B tl "object.__setattr__" "object"
theorem bsL : Bsx "LookupError" "LookupError.__new__" "LookupError.__init__" [.type "LookupError", .type "Exception", .type "BaseException", .type "object"] := ⟨F.excBase_LookupError, kxs_LookupError, F.store_LookupError⟩
/-- the class as it stands -/
structure XcCls (K : Frag) (C : Addr) (nw : String) (tl : List Value) : Prop where
  at_ : ∃ nm q N bs sn sub ab col dd k0 k1 k2 k3 k5, K.lookup C = some (excClassObj nm q C N bs tl true sn sub ab col dd k0 k1 k2 k3 k5 nw)
  sa : findIn K (.ref C) "__setattr__" = some (some (.builtin "object.__setattr__"))
  self_ : mroIn K C (.ref C) = some true
  exC : subIn K (.ref C) (.type "BaseException") = some true
  tyC : typeIn K (.ref C) = some (.type "type")
  kC : keepIn K (.ref C) = true
abbrev eo (C t : Addr) (d : Option Addr) : Obj := { cls := .ref C, dict := d, data := .fields #[.ref t, .none, .none, .none, .bool false, .none] }
section
variable {prog : Program} {w : World} {A : Around} {E : Value → Shared → Prop} {h : Heap} {g : Array GenState} {dr : Drawn} {tk : Nat} {os : OsState} {K : Frag} {C : Addr} {B nw ni : String} {tl : List Value}
theorem XcCls.cd (T : XcCls K C nw tl) : ∃ cd, clsIn K C = some cd ∧ cd.mro = .ref C :: tl ∧ cd.hasDict = true := by
  obtain ⟨nm, q, N, bs, sn, sub, ab, col, dd, k0, k1, k2, k3, k5, hC⟩ := T.at_
  exact ⟨_, by unfold clsIn; rw [hC] <;> rfl, rfl, rfl⟩
/-- the base's __init__, bound, is called -/
theorem mw_call (Y : Bsx B nw ni tl) (T : XcCls K C nw tl) (X : K.In h) {u e t0 : Addr} {rest : List Value} {Q : Value → Shared → Prop} (he : h.get? e = some (eo C t0 none)) (hu : h.get? u = some (kxs_mw ni e)) (hr : rest.length ≤ sizeLine)
    (hq : ∀ h' t1, (∀ b o, b ≠ e → h.get? b = some o → h'.get? b = some o) → h'.get? e = some (eo C t1 none) → Q .none ⟨h', g, dr, tk, os⟩) :
    wpAny (model prog w) A (call (.ref u) rest) Q E ⟨h, g, dr, tk, os⟩ := by
  obtain ⟨nm, q, N, bs, sn, sub, ab, col, dd, k0, k1, k2, k3, k5, hC⟩ := T.at_
  refine wpAny_call (codeAny_of_tree ?_)
  show wpAny _ A.in1 (callAny (.ref u) ⟨rest, []⟩) _ _ _
  simp only [callAny]
  refine wpAny_bind (wpAny_load hu ?_)
  have ty : (Value.type "method-wrapper" == Value.type "method" || Value.type "method-wrapper" == Value.type "builtin_function_or_method" || Value.type "method-wrapper" == Value.type "method-wrapper") = true := by decide
  simp only [kxs_mw, ty, if_true]
  refine KFB.if_so (by decide) (wpAny_bind (ESX.check_bound Y.fb (X _ _ hC) he rfl (wpAny_bind (wpAny_pure (wpAny_pure ?_)))))
  refine ⟨plainId_quiet Y.fb.init.plain _, codeAny_builtin Y.fb.initEntry ?_⟩
  exact exc_init_tree (cls := .ref C) (t0 := t0) (dv := none) (c2 := .none) (c3 := .none) (b4 := .bool false) he hr fun h' k e' _ => hq h' _ k e'
/-- its first field -/
theorem fst_fld (Y : Bsx B nw ni tl) (T : XcCls K C nw tl) (X : K.In h) {x t0 : Addr} {f : Str} {v : Value} {Q : Unit → Shared → Prop} (hx : h.get? x = some (eo C t0 none)) (ha : findIn K (.ref C) f = some none)
    (hq : ∀ h' tk' dx, (∀ b o, b ≠ x → h.get? b = some o → h'.get? b = some o) → h.objs.size ≤ dx → dx ≠ x → h'.get? x = some (eo C t0 (some dx)) → h'.Ns1 dx (fun y => if y = f then some v else none) → Q () ⟨h', g, dr, tk', os⟩) :
    wpAny (model prog w) A (setAttr (.ref x) f v) Q E ⟨h, g, dr, tk, os⟩ := by
  obtain ⟨cd, hcd, hm, hh⟩ := T.cd
  have I : InstAt h x (eo C t0 none) C none := ⟨hx, rfl, rfl, trivial⟩
  have hxs : x ≠ h.objs.size := Nat.ne_of_lt (Heap.lt_size hx)
  refine set_plain X I T.sa ?_
  have ob : (Value.ref C :: tl).contains (.type "object") = true := by rw [List.contains_cons, Y.st.hasOwner, Bool.or_true]
  have mr : mroIn K C (.type "object") = some true := by
    unfold mroIn
    rw [hcd, Option.bind_some, hm, if_neg (show ¬ ((Value.ref C :: tl).isEmpty = true) from Bool.false_ne_true), ob]
  have sub : Looks (model prog w) h (isInstance (.ref x) (.type "object")) true := I.type.andThen (looks_mroIn X mr)
  have SO := F.store_object
  refine codeAny_call_builtin SO.slot.plain SO.entry (@check_slot (model prog w) _ _ ⟨h, g, dr, tk + 1, os⟩ "object.__setattr__" "object" "__setattr__" (.ref x) [.str f tk, v] [] _ SO.kind SO.split sub (SO.args (.ref x) (.str f tk) v) ?_)
  have hmr : Looks (model prog w) h (mroOf (.ref C)) cd.mro := (looks_clsIn X hcd).andThen .now
  have tkr : Looks (model prog w) h (storeTaker? none) none := .now
  have pass : refuseLoop (.ref x) "__setattr__" cd.mro = pure () := by
    rw [hm, refuseLoop_ref]
    exact Y.st.passes _
  rw [osa_eq, refuse_eq]
  refine wpAny_bind (wpAny_bind (I.type.at (wpAny_bind (hmr.at ?_))))
  rw [pass]
  refine wpAny_pure (wpAny_bind (I.type.at (wpAny_bind ((looks_findIn X ha).at (wpAny_bind (tkr.at ?_))))))
  have hcls : Looks (model prog w) h (classData C) cd := looks_clsIn X hcd
  show wpAny _ _ (Builtin.ObjectAttr.storeInOwnDict (.ref x) (.ref C) (.str f tk) f v false) _ _ _
  obtain ⟨nm, bs, mro, ns, qn, hd, sn, sb, ab, col, del⟩ := cd
  dsimp only at hh
  subst hh
  unfold Builtin.ObjectAttr.storeInOwnDict Builtin.ObjectAttr.ownDictForStores
  repeat (first | with_reducible refine HandSPX.store_in_new ?_ ?_ | with_reducible refine wpAny_loadPart_at hx ?_ | with_reducible refine hcls.at ?_ | wp_step)
  · exact ⟨_, #[], _, (Heap.get?_update_ne _ _ _ _ hxs.symm).trans (Heap.get?_push_at rfl rfl), rfl, fun e he => absurd he (by simp), fun _ => rfl⟩
  · intro h' tk' hn' hs
    have hx1 : (h.push { cls := .type "dict", data := .dict #[] }).get? x = some (eo C t0 none) := Heap.get?_push_of_some _ hx
    refine hq h' tk' h.objs.size (fun b o hb ho => ?_) (Nat.le_refl _) hxs.symm ?_ hn'
    · exact (hs.2 b (Nat.ne_of_lt (Heap.lt_size ho))).trans ((Heap.get?_update_ne _ _ _ _ hb).trans (Heap.get?_push_of_some _ ho))
    · exact (hs.2 x hxs).trans (Heap.get?_update_self _ hx1 rfl)
end
section
variable {prog : Program} {w : World} {A : Around} {h : Heap} {g : Array GenState} {dr : Drawn} {tk : Nat} {os : OsState} {K : Frag} {C fI : Addr} {B nw ni : String} {tl : List Value} {f : Str}
theorem mcall_eq {o : Expr} {name x : Str} {apos p3 pos : Pos} {env : PySem.Env} (hp : (apos.endLine == pos.line) = true) : eval (.Call (.Attribute o name apos) [.Name x p3] [] pos) env = (do
      let ov ← attributeBase o name env (eval o env)
      standAt apos.atName
      let (f, first) ← holding [ov] (getMethod ov name (do return (← importBound o env).getD true))
      callWith pos f first (backTo pos (starEach [.Name x p3] env)) []) := by
  show (do
      let ov ← attributeBase o name env (eval o env)
      standAt apos.atName
      methodCall o name apos pos env ov 1 (backTo pos (starEach [.Name x p3] env)) []) = _
  have e : ∀ ov, methodCall o name apos pos env ov 1 (backTo pos (starEach [.Name x p3] env)) [] = (do
      let (f, first) ← holding [ov] (getMethod ov name (do return (← importBound o env).getD true))
      callWith pos f first (backTo pos (starEach [.Name x p3] env)) []) := fun ov => by
    unfold methodCall methodCallPos
    simp only [hp, Bool.or_true, if_true, pure_bind]
    rfl
  simp only [e]
/-- what the written part says of the class's __init__ -/
structure XcInit (prog : Program) (K : Frag) (C fI : Addr) (B ni : String) (tl : List Value) (f : Str) (q p : Str) (params : Arguments) (body : List Stmt) (scope : Scope) (cda cc : Addr) : Prop where
  fn : ∃ nm dV kV doc pm an ct oc od osl, K.lookup fI = some ⟨oc, od, .func (ksFn nm q params body scope dV kV doc pm an (.ref cda) ct cc), osl⟩ ∧ ∀ s a b, BindsTo s (ksFn nm q params body scope dV kV doc pm an (.ref cda) ct cc) ⟨[a, b], []⟩ [("self", a), (p, b)]
  code : codeIn K (.ref cda) q = true
  file : ∃ ccl cdd vs ccs fl tf, K.lookup cda = some ⟨ccl, cdd, .fields vs, ccs⟩ ∧ vs[2]? = some (.str fl tf) ∧ ((prog.main.file : Str) == fl) = true
  cell : ∃ cl cld csl, K.lookup cc = some ⟨cl, cld, .cell (some (.ref C)), csl⟩
  open_ : nsIn K cStatics "thirdparty.any" = some none
  body_ : ∃ p0 p1 p2 p3 p4 p5 p6 p7 p8 p9, body = [.Expr (.Call (.Attribute (.Call (.Name "super" p0) [] [] p1) "__init__" p2) [.Name p p3] [] p4) p5, .Assign [.Attribute (.Name "self" p6) f p7] (.Name p p8) p9] ∧ (p2.endLine == p4.line) = true
  head : ∃ ar, (params.posonlyargs ++ params.args).head? = some ar ∧ ar.arg = "self"
  top : (prog.main.scope.names.lookup ("super" : Str)).isSome = false
  kind : scope.kind = .function
  co : scope.isCoroutine = false
  gen : scope.isGenerator = false
  noc : ∀ x ∈ scope.names, x.2 ≠ .cell
  kself : scope.names.lookup ("self" : Str) = some .local
  kp : scope.names.lookup p = some .local
  ksup : scope.names.lookup ("super" : Str) = some .globalImplicit
  kcls : scope.names.lookup ("__class__" : Str) = some .free
  ne : (p == ("self" : Str)) = false
  nd : (p == ("__debug__" : Str)) = false
  along : alongIn K "__init__" tl = some (some (.builtin ni))
  sub : subIn K (.ref C) (.type B) = some true
  none_ : findIn K (.ref C) f = some none
theorem init_run {q p : Str} {params : Arguments} {body : List Stmt} {scope : Scope} {cda cc : Addr} {mg mb : Str → Option Value} {e t0 : Addr} {v : Value} {R : Result → Shared → Prop} (Y : Bsx B nw ni tl) (T : XcCls K C nw tl) (J : XcInit prog K C fI B ni tl f q p params body scope cda cc)
    (X : K.In h) (lim : h.NoLimit) (room : A.depth < recursionLimit) (Gn : h.Ns mainGlobals mg) (Bn : h.Ns builtinsNs mb) (ms : mg "super" = none) (mbs : mb "super" = some (.type "super")) (he : h.get? e = some (eo C t0 none)) (hKe : ∀ o, K.lookup e ≠ some o)
    (hq : ∀ h' tk' t1 dx, (∀ b o, b ≠ e → h.get? b = some o → h'.get? b = some o) → h.objs.size ≤ dx → dx ≠ e → h'.get? e = some (eo C t1 (some dx)) → h'.Ns1 dx (fun y => if y = f then some v else none) → R (.ok (.ret .none)) ⟨h', g, dr, tk', os⟩) :
    codeAny (model prog w) A (.call (.ref fI) ⟨[.ref e, v], []⟩) R ⟨h, g, dr, tk, os⟩ := by
  obtain ⟨nm, dV, kV, doc, pm, an, ct, oc, od, osl, lk, hb⟩ := J.fn
  obtain ⟨ccl, cdd, vs, ccs, fl, tf, lc, hvs, hfile⟩ := J.file
  obtain ⟨cl, cld, csl, lcc⟩ := J.cell
  obtain ⟨p0, p1, p2, p3, p4, p5, p6, p7, p8, p9, rfl, hps⟩ := J.body_
  obtain ⟨ar, hhead, har⟩ := J.head
  obtain ⟨nmC, qC, N, bs, sn, sub, ab, col, dd, k0, k1, k2, k3, k5, hC⟩ := T.at_
  obtain ⟨cd, hcd, hm, _⟩ := T.cd
  refine ks_codeAny_call_defAt (fd := ksFn nm q params _ scope dV kV doc pm an (.ref cda) ct cc) (binds := [("self", .ref e), (p, v)]) room (X _ _ lk) rfl lim (codeRec_of X J.code) rfl (hb _ _ _) J.noc (fun x hx => ?_) (fun h1 hns kp1 => ?_) J.co J.gen J.kind
  · rcases List.mem_cons.mp hx with rfl | hx
    · exact J.kself
    · rcases List.mem_cons.mp hx with rfl | hx
      · exact J.kp
      · exact absurd hx List.not_mem_nil
  have mself : ([("self", Value.ref e), (p, v)] : List (Str × Value)).reverse.lookup ("self" : Str) = some (.ref e) := by
    have z : (("self" : Str) == p) = false := by
      have := J.ne
      simp only [beq_eq_false_iff_ne, ne_eq] at this ⊢
      exact fun y => this y.symm
    simp [List.lookup, z]
  have mp : ([("self", Value.ref e), (p, v)] : List (Str × Value)).reverse.lookup p = some v := by simp [List.lookup]
  have X1 := X.keeps kp1
  have he1 := kp1 _ _ he
  have hL : h.objs.size ≠ e := Nat.ne_of_gt (Heap.lt_size he)
  have hni : ∀ L, interactive (callEnv (ksFn nm q params [.Expr (.Call (.Attribute (.Call (.Name "super" p0) [] [] p1) "__init__" p2) [.Name p p3] [] p4) p5, .Assign [.Attribute (.Name "self" p6) f p7] (.Name p p8) p9] scope dV kV doc pm an (.ref cda) ct cc) L fI) = false := fun L => by
    show (scope.kind == .module && _) = false
    rw [J.kind]
    rfl
  refine ks_wpAt_execs_cons (ks_wpAt_Expr_any (hi := hni _) (ks_wpAt_MethodCall (he := mcall_eq hps) (ks_wpAt_super_base (env := ksEnv q scope h.objs.size fI (.ref cda) cc) J.ksup J.kcls (by decide) rfl (X1 _ _ lk) rfl hhead rfl (X1 _ _ lc) rfl hvs hfile J.top ?_)))
  refine ks_loadName_global J.kind J.ksup (loadGlobal_builtin (env := ksEnv q scope h.objs.size fI (.ref cda) cc) (Gn.keeps kp1) ms (Bn.keeps kp1) mbs ⟨rfl, ?_⟩)
  refine wpAny_loadName_free J.kind J.kcls rfl ⟨_, X1 _ _ lcc, rfl⟩ ?_
  rw [har]
  refine wpAny_loadName_local J.kind J.kself hns mself ?_
  refine ks_wpAny_isType_cls (X1 _ _ hC) rfl ⟨rfl, ?_⟩
  refine ks_wpAny_call_super (X1 _ _ hC) rfl he1 rfl (fun c z => by cases z) (looks_mroIn X1 T.self_) (fun h2 hso kp2 => ?_)
  have X2 := X1.keeps kp2
  have he2 := kp2 _ _ he1
  have I2 : InstAt h2 e (eo C t0 none) C none := ⟨he2, rfl, rfl, trivial⟩
  have mro2 : Looks (model prog w) h2 (mroOf (.ref C)) (.ref C :: tl) := by
    rw [← hm]
    exact (looks_clsIn X2 hcd).andThen .now
  refine kxs_getMethod Y.ks hso (looks_opaque X2 J.open_) mro2 (l := tl) (ESX.drop_own C tl) X2 J.along (I2.type.andThen (looks_subIn X2 J.sub)) (ks_ne X2 I2 hcd) (by decide) ?_
  have hns2 := hns.keeps kp2
  have kp3 : ∀ b o, h2.get? b = some o → (h2.push (kxs_mw ni e)).get? b = some o := fun b o z => Heap.get?_push_of_some _ z
  have hns3 := hns2.keeps kp3
  have X3 := X2.keeps kp3
  refine kxs_callWith (i := ni) (x := e) rfl (evalArgs_plain (spliced_cons (wpAny_Name (wpAny_loadName_local J.kind J.kp hns3 mp (spliced_nil ⟨Heap.get?_push_size _ rfl, ?_⟩)) J.nd)))
  refine mw_call Y T X3 (kp3 _ _ he2) (Heap.get?_push_size _ rfl) (by rw [sizeLine_eq]; simp) fun h4 t1 kp4 he4 => ?_
  have neL : ∀ b, b ≠ e → ∀ o, h1.get? b = some o → h4.get? b = some o := fun b hb o z => kp4 b o hb (kp3 b o (kp2 b o z))
  have hns4 : h4.Ns h.objs.size (fun x => ([("self", Value.ref e), (p, v)] : List (Str × Value)).reverse.lookup x) := by
    obtain ⟨o, es, ep, ho, r⟩ := hns
    exact ⟨o, es, ep, neL _ hL o ho, r⟩
  have X4 : K.In h4 := fun b o z => neL b (fun y => hKe o (y ▸ z)) o (X1 _ _ z)
  refine ks_wpAt_execs_cons (ks_wpAt_Assign_Attr ?_)
  refine wpAt_of_wpAny (wpAny_Name (env := ksEnv q scope h.objs.size fI (.ref cda) cc) ?_ J.nd)
  refine wpAny_loadName_local (m := fun x => ([("self", Value.ref e), (p, v)] : List (Str × Value)).reverse.lookup x) J.kind J.kp hns4 mp ?_
  refine wpAny_Name (env := ksEnv q scope h.objs.size fI (.ref cda) cc) ?_ (by decide)
  refine wpAny_loadName_local (m := fun x => ([("self", Value.ref e), (p, v)] : List (Str × Value)).reverse.lookup x) J.kind J.kself hns4 mself ?_
  refine fst_fld Y T X4 he4 J.none_ fun h5 tk5 dx kp5 hdx ndx he5 hn5 => ?_
  refine wpAt_of_wpAny (wpAny_execs_nil ?_)
  refine hq h5 tk5 t1 dx (fun b o hb z => kp5 b o hb (neL b hb o (kp1 b o z))) ?_ ndx he5 hn5
  exact Nat.le_trans (Nat.le_of_lt (Heap.lt_size (neL _ hL _ (hns.choose_spec.choose_spec.choose_spec.1)))) hdx
end
end Sm
/-! Sm30: a fresh list that the caller may change; boxes that are read alone; instances that are data at once. -/
namespace Sm
open PySem PySem.Spec PyProof.Rows L2
section
variable {G : Gs} {A A' A0 : Al} {H H' : Hp} {S S' : Sto}
/-! ### a fresh list is handed back as a box -/
/-! ### boxes that are read alone -/
def opts {α : Type} : List (Option α) → Option (List α)
  | [] => some []
  | some a :: r => (opts r).map (a :: ·)
  | none :: _ => none
/-- what a value holds, boxes within boxes too -/
def deepR (S : Sto) : Nat → Dv → Option Dt
  | _, .d t => some t
  | 0, .loc _ => none
  | n + 1, .loc i => match S[i]? with
    | some (.lst xs) => (opts (xs.map (deepR S n))).map .lst
    | _ => none
def snap (F : FM) : FM := fun ds S => match opts (ds.map (deepR S 3)) with
  | some ts => (match F (ts.map .d) [] with
    | .ok (.d t) _ => if flatT t = true then .ok (.d t) S else .bad
    | _ => .bad)
  | none => .bad
def nonL (H : Hp) (a : Addr) : Bool := match H a with
  | some (.lst _) => false
  | _ => true
theorem deep_rvs {B : Al} (hB : ∀ a, a ∉ A.all → a ∉ B.all) (hL : ∀ a vs, H a = some (.lst vs) → a ∉ B.all) (s : StR G A S H) : ∀ (n : Nat) (d : Dv) (v : V) (t : Dt), RD G A H d v → deepR S n d = some t → RV G B H t v := by
  intro n
  induction n with
  | zero =>
    intro d v t r e
    cases d with
    | d u =>
      cases e
      exact RV.kq (t := t) (Kq.same hB) r
    | loc i => cases e
  | succ n ih =>
    intro d v t r e
    cases d with
    | d u =>
      cases e
      exact RV.kq (t := t) (Kq.same hB) r
    | loc i =>
      unfold deepR at e
      cases es : S[i]? with
      | none => rw [es] at e; cases e
      | some o =>
        rw [es] at e
        cases o with
        | lst xs =>
          simp only at e
          obtain ⟨a, vs, rfl, hl, ha, rx⟩ := loc_lst s r es
          cases eo : opts (xs.map (deepR S n)) with
          | none => rw [eo] at e; cases e
          | some ts =>
            rw [eo] at e
            cases e
            refine ⟨a, vs, rfl, ⟨ha, hL a vs ha⟩, ?_⟩
            clear es ha hl
            induction rx generalizing ts with
            | nil =>
              cases eo
              exact (rfl : ([] : List V) = [])
            | cons r1 r2 ihx =>
              rename_i d1 v1 ds1 vs1
              rw [List.map_cons] at eo
              cases e1 : deepR S n d1 with
              | none => rw [e1] at eo; cases eo
              | some t1 =>
                rw [e1] at eo
                unfold opts at eo
                cases e2 : opts (ds1.map (deepR S n)) with
                | none => rw [e2] at eo; cases eo
                | some ts1 =>
                  rw [e2] at eo
                  cases eo
                  exact ⟨v1, vs1, rfl, ih d1 v1 t1 r1 e1, ihx ts1 e2⟩
        | _ => cases e
theorem rv_flat {B : Al} {t : Dt} {v : V} (h : flatT t = true) (r : RV G A H t v) : RV G B H' t v := by
  cases t <;> first | exact r | cases h
theorem SpM.snap {F : FM} {vs : List V} {Q : VK} {E : XK} (h : SpM G (snap F) vs H Q E) : SpM G F vs H Q E := by
  obtain ⟨A, S, ds, r, s, p⟩ := h
  unfold Sm.snap at p
  cases ep : opts (ds.map (deepR S 3)) with
  | none => rw [ep] at p; exact p.elim
  | some ts =>
    rw [ep] at p
    simp only at p
    have eB : ∀ a, a ∈ (⟨[], A.all.filter (nonL H)⟩ : Al).all ↔ a ∈ A.all ∧ nonL H a = true := fun a => by
      show a ∈ ([] : List (List Addr)).flatten ++ A.all.filter (nonL H) ↔ _
      rw [List.flatten_nil, List.nil_append, List.mem_filter]
    have hB : ∀ a, a ∉ A.all → a ∉ (⟨[], A.all.filter (nonL H)⟩ : Al).all := fun a n z => n ((eB a).mp z).1
    have hL : ∀ a vs, H a = some (.lst vs) → a ∉ (⟨[], A.all.filter (nonL H)⟩ : Al).all := fun a vs e z => by
      have := ((eB a).mp z).2
      unfold nonL at this
      rw [e] at this
      cases this
    have s0 : StR G ⟨[], A.all.filter (nonL H)⟩ [] H := ⟨rfl, by
      show (([] : List (List Addr)).flatten ++ A.all.filter (nonL H)).Nodup
      rw [List.flatten_nil, List.nil_append]
      exact List.Pairwise.filter _ s.nd, fun a ha => s.alive a ((eB a).mp ha).1, fun i l o e => by simp at e⟩
    have r0 : RDs G ⟨[], A.all.filter (nonL H)⟩ H (ts.map .d) vs := by
      refine RVs.rds ?_
      clear p
      induction r generalizing ts with
      | nil =>
        cases ep
        exact (rfl : ([] : List V) = [])
      | cons r1 r2 ihx =>
        rename_i d1 v1 ds1 vs1
        rw [List.map_cons] at ep
        cases e1 : deepR S 3 d1 with
        | none => rw [e1] at ep; cases ep
        | some t1 =>
          rw [e1] at ep
          unfold opts at ep
          cases e2 : opts (ds1.map (deepR S 3)) with
          | none => rw [e2] at ep; cases ep
          | some ts1 =>
            rw [e2] at ep
            cases ep
            exact ⟨v1, vs1, rfl, deep_rvs hB hL s 3 d1 v1 t1 r1 e1, ihx ts1 e2⟩
    refine ⟨_, [], ts.map .d, r0, s0, ?_⟩
    have kp : ∀ A' H', Ext ⟨[], A.all.filter (nonL H)⟩ H A' H' → ∀ a u, H a = some u → a ∈ A.all → H' a = some u := fun A' H' x a u e m => by
      by_cases hn : nonL H a = true
      · exact x.keepH a u e (by simp) (List.mem_filter.mpr ⟨m, hn⟩)
      · refine (x.keep a u e (by simp)).1.eq fun ⟨kvs, z⟩ => ?_
        subst z
        unfold nonL at hn
        rw [e] at hn
        exact hn rfl
    have key : ∀ A' H', Ext ⟨[], A.all.filter (nonL H)⟩ H A' H' → Ext A H A H' ∧ StR G A S H' := by
      intro A' H' x
      have x1 : Ext A H A H' := ⟨fun _ _ e => .inl e, fun _ _ _ _ => Iff.rfl, fun a u e n => ⟨(x.keep a u e (by simp)).1, n⟩, fun a u e n m => kp A' H' x a u e (List.mem_append_right _ m)⟩
      refine ⟨x1, ⟨s.len, s.nd, fun a ha => ?_, fun i l o e1 e2 => (s.box i l o e1 e2).keep x1.kp fun a ha => ?_⟩⟩
      · obtain ⟨u, e⟩ := s.alive a ha
        exact ⟨u, kp A' H' x a u e ha⟩
      · obtain ⟨u, e⟩ := s.alive' e1 ha
        rw [kp A' H' x a u e (List.mem_append_left _ (live_set e1 a ha)), e]
    cases eF : F (ts.map .d) [] with
    | bad => rw [eF] at p; exact p.elim
    | er c t S1 => rw [eF] at p; exact p.elim
    | ok d S1 =>
      rw [eF] at p
      cases d with
      | loc n => exact p.elim
      | d t =>
        simp only at p
        split at p
        · rename_i hf
          intro A' H' x s1 v rv
          obtain ⟨x1, s2⟩ := key A' H' x
          exact p A H' x1 s2 v (rv_flat (t := t) hf rv)
        · exact p.elim
end
/-! ### an instance that is data at once -/
def makeF (c : Nat) (F : FM) : FM := fun ds S => (F (.loc S.length :: ds) (S ++ [.ins c []])).bind fun r S2 => match r with
  | .d .non => .ok (.loc S.length) S2
  | _ => .bad
def makeD (c : Nat) (F : FM) : FM := fun ds S => (makeF c F ds S).bind fun d S1 => lift (frz d S1)
/-- C(..) as data -/
abbrev isoMk (c : Nat) (F : FM) : FM := iso (makeD c F)
section
variable {X : Cx} {G : Gs} {W : WX} {k n : Nat} {f : Addr} {F : FM} {x : Str} {p pos : Pos} {e : Expr} {es : List Expr} {ma : M (List Dv)} {c : Nat}
end
section
variable {P : Program} {w : World} {G : Gs} {mg : Str → Option Value} {base : Heap} {k c : Nat} {x : Str} {n : Nat} {ks : List Str} {F : FM} {f : Addr} {fd : FuncData} {ps : List Str}
theorem Cal.snapC (h : Cal P w G mg base k x n ks F) : Cal P w G mg base k x n ks (snap F) := by
  obtain ⟨f, h1, h2, h3⟩ := h.ex
  exact ⟨f, h1, h2, h3.imp fun _ _ _ _ q => q.snap⟩
end
end Sm
/-! Sm31: chains of comparisons, `is` of bools, texts in texts, texts of the module. -/
namespace Sm
open PySem PySem.Spec PyProof.Rows L2
section
variable {X : Cx} {G : Gs} {W : WX} {a b c e : Expr} {pos : Pos} {mo mb mc : M Dv} {x : Str}
end
end Sm
namespace Sm
open PySem PySem.Spec PyProof.Rows L2
end Sm
/-! Sm32: a comprehension over a box. -/
namespace Sm
open PySem PySem.Spec PyProof.Rows L2
section
variable {G : Gs} {A A' : Al} {H H' : Hp} {S S' : Sto} {n : Nat} {a D : Addr} {vs : List V} {xs : List Dv}
/-- it is put back -/
def Al.ret (A : Al) (n : Nat) (a : Addr) : Al := ⟨A.live.set n [a], A.hid.filter fun b => decide (b ≠ a)⟩
def isLoc (n : Nat) : Dv → Bool
  | .loc m => m == n
  | .d _ => false
/-- no mention of the box n -/
def noL (n : Nat) : Bo → Bool
  | .lst xs => xs.all fun d => !isLoc n d
  | .dct _ xs => xs.all fun d => !isLoc n d
  | .ins _ fs => fs.all fun f => match f with
    | none => true
    | some d => !isLoc n d
  | .dead => true
  | .tp xs => xs.all fun d => !isLoc n d
  | .dcT _ xs => xs.all fun d => !isLoc n d
theorem RD.ret {d : Dv} {v : V} (hn : A'.live[n]? = some []) (sub : ∀ b, b ∉ A'.all → b ∉ (A'.ret n a).all) (h : isLoc n d = false) (r : RD G A' H' d v) : RD G (A'.ret n a) H' d v := by
  cases d with
  | d t => exact RV.kq (t := t) (Kq.same sub) r
  | loc m =>
    obtain ⟨l, e, f⟩ := r
    have hm : n ≠ m := fun z => by
      subst z
      simp [isLoc] at h
    exact ⟨l, by show (A'.live.set n [a])[m]? = _; rw [List.getElem?_set_ne hm]; exact e, f⟩
theorem RDs.ret {ds : List Dv} {ws : List V} (hn : A'.live[n]? = some []) (sub : ∀ b, b ∉ A'.all → b ∉ (A'.ret n a).all) (h : (ds.all fun d => !isLoc n d) = true) (r : RDs G A' H' ds ws) : RDs G (A'.ret n a) H' ds ws := by
  induction r with
  | nil => exact .nil
  | cons r1 r2 ih =>
    rw [List.all_cons, Bool.and_eq_true] at h
    exact .cons (RD.ret hn sub (by simpa using h.1) r1) (ih h.2)
theorem RB.ret {l : List Addr} {b : Bo} (hn : A'.live[n]? = some []) (sub : ∀ b, b ∉ A'.all → b ∉ (A'.ret n a).all) (h : noL n b = true) (r : RB G A' H' l b) : RB G (A'.ret n a) H' l b := by
  cases b with
  | lst ys =>
    obtain ⟨c, ws, rfl, ec, rc⟩ := r
    exact ⟨c, ws, rfl, ec, rc.ret hn sub h⟩
  | dct ks ys =>
    obtain ⟨c, ws, rfl, ec, ek, rc⟩ := r
    exact ⟨c, ws, rfl, ec, ek, rc.ret hn sub h⟩
  | ins c fs =>
    obtain ⟨c1, dx, ws, rfl, ec, rc⟩ := r
    refine ⟨c1, dx, ws, rfl, ec, fun i d e => ?_⟩
    obtain ⟨v, ev, rv⟩ := rc i d e
    refine ⟨v, ev, RD.ret hn sub ?_ rv⟩
    have := List.all_eq_true.mp h (some d) (List.mem_of_getElem? e)
    simpa using this
  | dead => trivial
  | tp ys =>
    obtain ⟨c, ws, rfl, ec, rc⟩ := r
    exact ⟨c, ws, rfl, ec, rc.ret hn sub h⟩
  | dcT ks ys =>
    obtain ⟨c, ws, rfl, ec, ek, rc⟩ := r
    exact ⟨c, ws, rfl, ec, ek, rc.ret hn sub h⟩
end
section
variable {X : Cx} {G : Gs} {W : WX} {kk : Nat} {elt tg iter : Expr} {ifs : List Expr} {scope : Scope} {own : List (Str × Nat)} {pos : Pos} {it : M (List Dt)} {g : GM} {t : TG} {L : List Nat} {cm : M Bool} {em : M Dv}
end
end Sm
/-! Sm33: properties; x[i], x in y by methods of own classes. -/
namespace Sm
open PySem PySem.Spec PyProof.Rows L2
/-- o[i], o an instance: its own method -/
def mIxM (c : Nat) (F : FM) (mo mi : M Dv) : M Dv := fun ρ S => (mo ρ S).bind fun o S1 => (mi ρ S1).bind fun i S2 => if isIns c o S2 = true then F [o, i] S2 else .bad
/-- o.f, a property whose getter raises nothing -/
def mPropM (c : Nat) (F : FM) (mo : M Dv) : M Dv := fun ρ S => (mo ρ S).bind fun o S1 => if isIns c o S1 = true then nox (F [o] S1) else .bad
/-- x in y, y an instance: its own method; neg: not in -/
def mInM (c : Nat) (F : FM) (neg : Bool) (mx mo : M Dv) : M Dv := fun ρ S => (mx ρ S).bind fun x S1 => (mo ρ S1).bind fun o S2 => if isIns c o S2 = true then (F [o, x] S2).bind fun r S3 => match r with
  | .d (.bl b) => .ok (.d (.bl (if neg = true then !b else b))) S3
  | _ => .bad else .bad
section
variable {X : Cx} {G : Gs} {W : WX} {k n : Nat} {f : Addr} {ks : List Str} {F : FM} {c : Nat} {m : Str} {pos : Pos} {o i e : Expr} {mo mi mx : M Dv}
/-- the callee runs, one frame of the kit's below -/
theorem runF1 {pins : List (Addr × Obj)} {σ : L2.St} {H : Hp} {s : Shared} {Q : VK} {us ws : List Value} {vs zs : List V} (R : CallW X.prog X.w G X.mg X.base k f n ks F) (B : Bx X G W (k + 1)) (I : Inv X pins σ H s) (r : Vals vs us) (rz : Vals zs ws) (l1 : vs.length = n) (l2 : zs.length = ks.length)
    (h : SpM G F (vs ++ zs) H Q (Wa W σ)) : codeAny (model X.prog X.w) X.A.in1 (.call (.ref f) ⟨us, ks.zip ws⟩) (fun r s' => match r with | .ok (.ret v) => EP X pins σ Q v s' | .ok _ => False | .error e => X.xe e s') s := by
  refine codeAny_mono (R X.A.in1 X.stack s H us ws vs zs Q (Wa W σ) B.room.in1 (by rw [B.hK]; exact I.env0.in1) r rz l1 l2 h) fun r s' hq => ?_
  cases r with
  | error e => exact passAt B.tk σ pins H s e s' I hq
  | ok fl =>
    cases fl with
    | ret u => exact I.after hq
    | next => exact False.elim hq
    | brk => exact False.elim hq
    | cont => exact False.elim hq
/-- .. that raises nothing -/
theorem runF1z {pins : List (Addr × Obj)} {σ : L2.St} {H : Hp} {s : Shared} {Q : VK} {us ws : List Value} {vs zs : List V} (R : CallW X.prog X.w G X.mg X.base k f n ks F) (B : Bx X G W (k + 1)) (I : Inv X pins σ H s) (r : Vals vs us) (rz : Vals zs ws) (l1 : vs.length = n) (l2 : zs.length = ks.length)
    (h : SpM G F (vs ++ zs) H Q Ez) : codeAny (model X.prog X.w) X.A.in1 (.call (.ref f) ⟨us, ks.zip ws⟩) (fun r s' => match r with | .ok (.ret v) => EP X pins σ Q v s' | _ => False) s := by
  refine codeAny_mono (R X.A.in1 X.stack s H us ws vs zs Q Ez B.room.in1 (by rw [B.hK]; exact I.env0.in1) r rz l1 l2 h) fun r s' hq => ?_
  cases r with
  | error e =>
    obtain ⟨_, _, _, _, _, _, _, _, _, _, _, _, _, _, _, w⟩ := hq
  | ok fl =>
    cases fl with
    | ret u => exact I.after hq
    | next => exact False.elim hq
    | brk => exact False.elim hq
    | cont => exact False.elim hq
/-- a property: p lies in the class, its getter is the def at g -/
structure PropS (K : PySem.W.Frag) (C : Addr) (f : Str) (p g : Addr) : Prop where
  at_ : PySem.W.findIn K (.ref C) f = some (some (.ref p))
  get : PySem.W.specialIn K (.ref p) "__get__" = some (some (.builtin "property.__get__"))
  tk : PySem.W.takesIn K (.ref p) = some true
  rc : ∃ rest, PySem.W.recIn K p "property" = some (.ref g :: rest)
theorem e_propM {p : Addr} (R : CallW X.prog X.w G X.mg X.base k f 1 [] F) (B : Bx X G W (k + 1)) (cl : SlX.SCls X.K (G.cls c)) (hp : PropS X.K (G.cls c) m p f) (ho : PE X o (tM G W mo)) (hb : attributeBase o m X.env (eval o X.env) = eval o X.env) :
    PE X (.Attribute o m pos) (tM G W (mPropM c F mo)) := by
  refine ⟨fun pins s σ H Q I h => ?_⟩
  obtain ⟨A, ρ, S, he', hs, p0⟩ := h
  refine attr_of hb (thn (ho.run pins s σ H (fun y H1 => ∃ a dx ws, y = .ref a ∧ SlX.Slt H1 a (G.cls c) dx ws ∧ SpM G F ([V.ref a] ++ []) H1 Q Ez) I ⟨A, ρ, S, he', hs, Po.step p0 fun d S1 A1 H1 x1 s1 p1 v rv => ?_⟩) fun u s1 ⟨y, H1, I1, rx, a, dx, ws, ex, hsl, q⟩ => ?_)
  · by_cases hi : isIns c d S1 = true
    · simp only [hi, if_true] at p1
      obtain ⟨a, dx, ws, ev, hsl⟩ := isIns_slt s1 rv hi
      subst ev
      exact ⟨a, dx, ws, rfl, hsl, A1, S1, [d], .cons rv .nil, s1, p1.nox⟩
    · simp only [hi] at p1
      exact p1.elim
  · subst ex
    obtain rfl : u = Value.ref a := rx
    obtain ⟨sl, od, _, J, _⟩ := SlX.slt_inst I1 hsl
    obtain ⟨rest, hrec⟩ := hp.rc
    have I2 : Inv X pins σ H1 { s1 with toks := s1.toks + 1 } := I1.tok (s1.toks + 1)
    refine PySem.W.get_bind I1.kIn J (PySem.W.plainGet_of (cl.get m)).1 (PySem.W.findObj_data cl.ic hp.at_ hp.get hp.tk) (PySem.W.plainGet_of (cl.get m)).2 (wpAny_call (PySem.W.prop_get (s := { s1 with toks := s1.toks + 1 }) I1.kIn hrec ?_))
    refine codeAny_mono (runF1z (us := [.ref a]) (vs := [.ref a]) (ws := []) (zs := []) R B I2 (.cons rfl .nil) .nil rfl rfl q) fun r s' hq => ?_
    cases r with
    | error e => exact False.elim hq
    | ok fl =>
      cases fl with
      | ret u =>
        obtain ⟨v, H', I3, rv, q⟩ := hq
        exact wpAny_of_eq (PySem.W.handedOut_of (handed_of rv)) ⟨v, H', I3, rv, q⟩
      | next => exact False.elim hq
      | brk => exact False.elim hq
      | cont => exact False.elim hq
/-- o[i] -/
theorem e_ixM (R : CallW X.prog X.w G X.mg X.base k f 2 [] F) (B : Bx X G W (k + 1)) (hm : Meth X.K (G.cls c) "__getitem__" f) (hf : PySem.W.fnIn X.K f = true) (ho : PE X o (tM G W mo)) (hi : PE X i (tM G W mi))
    (hsl : ∀ a u, subscripted i true (.ref a) u = runValue (.builtin "lifetime.subscript" ⟨[.ref a, u], []⟩)) : PE X (.Subscript o i pos) (tM G W (mIxM c F mo mi)) := by
  refine ⟨fun pins s σ H Q I h => ?_⟩
  obtain ⟨A, ρ, S, he', hs, p0⟩ := h
  refine Subscript_ (binT (R := fun x y H2 => ∃ a dx ws, x = .ref a ∧ SlX.Slt H2 a (G.cls c) dx ws ∧ SpM G F ([V.ref a, y] ++ []) H2 Q (Wa W σ)) ho hi I ⟨A, ρ, S, he', hs, Po.step p0 fun d S1 A1 H1 x1 s1 p1 v rv => ?_⟩ fun v u s2 x y H2 I2 rx ry ⟨a, dx, ws, ex, hsl', q⟩ => ?_)
  · refine ⟨A1, ρ, S1, he'.kp x1.kp, s1, Po.step p1 fun t S2 A2 H2 x2 s2 p2 y ry => ?_⟩
    have rv2 := rv.kp x2.kp
    by_cases hi : isIns c d S2 = true
    · simp only [hi, if_true] at p2
      obtain ⟨a, dx, ws, ev, hsl⟩ := isIns_slt s2 rv2 hi
      subst ev
      exact ⟨a, dx, ws, rfl, hsl, A2, S2, [d, t], .cons rv2 (.cons ry .nil), s2, p2⟩
    · simp only [hi] at p2
      exact p2.elim
  · subst ex
    obtain rfl : v = Value.ref a := rx
    obtain ⟨sl, od, _, J, _⟩ := SlX.slt_inst I2 hsl'
    obtain ⟨m', hF⟩ := I2.fr
    exact PySem.W.sub_K hF I2.ok.mod.kin J hm.at_ hf hm.fn (wpAny_call (runF1 (us := [.ref a, u]) (vs := [.ref a, y]) (ws := []) (zs := []) R B I2 (.cons rfl (.cons ry .nil)) .nil rfl rfl q)) (hsl a u)
/-- x in o, x not in o -/
theorem in_pc (R : CallW X.prog X.w G X.mg X.base k f 2 [] F) (B : Bx X G W k) (hm : Meth X.K (G.cls c) "__contains__" f) (he : PE X e (tM G W mx)) (ho : PE X o (tM G W mo)) (neg : Bool) :
    PC X (if neg = true then .NotIn else .In) e o (tM G W (mInM c F neg mx mo)) := by
  refine ⟨fun pins s σ H Q I h => ?_⟩
  obtain ⟨A, ρ, S, he', hs, p0⟩ := h
  refine binT (R := fun x y H2 => ∃ a dx ws, y = .ref a ∧ SlX.Slt H2 a (G.cls c) dx ws ∧ SpM G F ([V.ref a, x] ++ []) H2 (fun z H' => ∃ b, z = .bl b ∧ Q (.bl (if neg = true then !b else b)) H') (Wa W σ)) he ho I ⟨A, ρ, S, he', hs, Po.step p0 fun d S1 A1 H1 x1 s1 p1 v rv => ?_⟩ fun v u s2 x y H2 I2 rx ry ⟨a, dx, ws, ex, hsl', q⟩ => ?_
  · refine ⟨A1, ρ, S1, he'.kp x1.kp, s1, Po.step p1 fun t S2 A2 H2 x2 s2 p2 y ry => ?_⟩
    have rv2 := rv.kp x2.kp
    by_cases hi : isIns c t S2 = true
    · simp only [hi, if_true] at p2
      obtain ⟨a, dx, ws, ev, hsl⟩ := isIns_slt s2 ry hi
      subst ev
      refine ⟨a, dx, ws, rfl, hsl, A2, S2, [t, d], .cons ry (.cons rv2 .nil), s2, Po.step p2 fun r S3 A3 H3 x3 s3 p3 z rz => ?_⟩
      cases r with
      | loc n => exact p3.elim
      | d w =>
        cases w with
        | bl b => exact ⟨b, rz, Po.now p3 s3 _ rfl⟩
        | _ => exact p3.elim
    · simp only [hi] at p2
      exact p2.elim
  · subst ex
    obtain rfl : u = Value.ref a := ry
    obtain ⟨sl, od, _, J, _⟩ := SlX.slt_inst I2 hsl'
    obtain ⟨m', hF⟩ := I2.fr
    have run := runF (us := [.ref a, v]) (vs := [.ref a, x]) (ws := []) (zs := []) R B I2 (.cons rfl (.cons rx .nil)) .nil rfl rfl q
    cases neg with
    | true =>
      refine PySem.W.notIn_K hF I2.ok.mod.kin J hm.at_ hm.fn (wpAny_mono run (fun r s' z => ?_) fun _ _ z => z)
      obtain ⟨z', H', I', rz, b, ez, qz⟩ := z
      subst ez
      obtain rfl : r = Value.bool b := rz
      exact wpAny_truthy_bool ⟨V.bl (!b), H', I', rfl, qz⟩
    | false =>
      refine PySem.W.in_K hF I2.ok.mod.kin J hm.at_ hm.fn (wpAny_mono run (fun r s' z => ?_) fun _ _ z => z)
      obtain ⟨z', H', I', rz, b, ez, qz⟩ := z
      subst ez
      obtain rfl : r = Value.bool b := rz
      exact wpAny_truthy_bool ⟨V.bl b, H', I', rfl, qz⟩
end
/-- what a law's end hands on: a property; a method of an own name -/
structure CalP (P : Program) (w : World) (G : Gs) (mg : Str → Option Value) (base : Heap) (k c : Nat) (x : Str) (F : FM) : Prop where
  ex : ∃ p f, SlX.SCls G.K (G.cls c) ∧ PropS G.K (G.cls c) x p f ∧ CallW P w G mg base k f 1 [] F
structure CalD (P : Program) (w : World) (G : Gs) (mg : Str → Option Value) (base : Heap) (k c : Nat) (x : Str) (n : Nat) (F : FM) : Prop where
  ex : ∃ f, SlX.SCls G.K (G.cls c) ∧ Meth G.K (G.cls c) x f ∧ PySem.W.fnIn G.K f = true ∧ CallW P w G mg base k f (n + 1) [] F
section
variable {X : Cx} {G : Gs} {W : WX} {k : Nat} {F : FM} {c : Nat} {m : Str} {pos : Pos} {o i e : Expr} {mo mi mx : M Dv}
theorem yprop (R : CalP X.prog X.w G X.mg X.base k c m F) (B : Bx X G W (k + 1)) (ho : PE X o (tM G W mo)) (hb : attributeBase o m X.env (eval o X.env) = eval o X.env := by rfl) : PE X (.Attribute o m pos) (tM G W (mPropM c F mo)) := by
  obtain ⟨p, f, h1, h2, h3⟩ := R.ex
  exact e_propM h3 B (by rw [← B.hK]; exact h1) (by rw [← B.hK]; exact h2) ho hb
theorem yixM (R : CalD X.prog X.w G X.mg X.base k c "__getitem__" 1 F) (B : Bx X G W (k + 1)) (ho : PE X o (tM G W mo)) (hi : PE X i (tM G W mi)) (hsl : ∀ a u, subscripted i true (.ref a) u = runValue (.builtin "lifetime.subscript" ⟨[.ref a, u], []⟩) := by exact fun _ _ => rfl) :
    PE X (.Subscript o i pos) (tM G W (mIxM c F mo mi)) := by
  obtain ⟨f, h1, h2, h3, h4⟩ := R.ex
  exact e_ixM h4 B (by rw [← B.hK]; exact h2) (by rw [← B.hK]; exact h3) ho hi hsl
theorem yinM (R : CalD X.prog X.w G X.mg X.base k c "__contains__" 1 F) (B : Bx X G W k) (he : PE X e (tM G W mx)) (ho : PE X o (tM G W mo)) (hm : behindInMarks .In o = false := by first | rfl | exact nomark _ | with_unfolding_all rfl) :
    PE X (.Compare e [.In] [o] pos) (tM G W (mInM c F false mx mo)) := by
  obtain ⟨f, h1, h2, h3, h4⟩ := R.ex
  exact pe_cmp (in_pc h4 B (by rw [← B.hK]; exact h2) he ho false) hm
end
end Sm
/-! Sm34: several keyword-only defaults; clear; sorted of a dict of texts. -/
namespace Sm
open PySem PySem.Spec PyProof.Rows L2
section
variable {P : Program} {w : World} {G : Gs} {mg : Str → Option Value} {base : Heap} {x qual : Str} {st : Stmt} {f : Addr} {dV kV : Value} {fd : FuncData} {ps ks : List Str} {k n : Nat} {F : FM}
end
section
variable {X : Cx} {G : Gs}
end
section
variable {X : Cx} {G : Gs}
end
end Sm
/-! Sm35: tests of own `in`; boxes read alone by a call that hands back tuples. -/
namespace Sm
open PySem PySem.Spec PyProof.Rows L2
section
variable {X : Cx} {G : Gs} {W : WX} {k : Nat} {F : FM} {c : Nat} {pos : Pos} {o e : Expr} {mo mx : M Dv}
end
/-! flat things in tuples -/
mutual
def tupT : Dt → Bool
  | .tup xs => tupTs xs
  | t => flatT t
def tupTs : List Dt → Bool
  | [] => true
  | t :: ts => tupT t && tupTs ts
end
def snapT (F : FM) : FM := fun ds S => match opts (ds.map (deepR S 3)) with
  | some ts => (match F (ts.map .d) [] with
    | .ok (.d t) _ => if tupT t = true then .ok (.d t) S else .bad
    | _ => .bad)
  | none => .bad
section
variable {G : Gs} {A B : Al} {H : Hp}
mutual
theorem rv_tup (hk : ∀ a us, Rd H a (.tup us) → a ∉ A.all → a ∉ B.all) : ∀ {t : Dt} {v : V}, tupT t = true → RV G A H t v → RV G B H t v
  | .tup xs, v, h, r => by
    obtain ⟨a, us, e, ⟨h1, h2⟩, h3⟩ := r
    exact ⟨a, us, e, ⟨h1, hk a us (TupA.rd ⟨h1, h2⟩) h2⟩, rvs_tup hk h h3⟩
  | .non, v, h, r => r
  | .bl _, v, h, r => r
  | .int _, v, h, r => r
  | .str _, v, h, r => r
  | .lst _, v, h, r => by cases h
  | .dct _ _, v, h, r => by cases h
  | .obj _ _, v, h, r => by cases h
  | .scr _, v, h, r => by cases h
  | .ltp _, v, h, r => by cases h
  | .exc _ _, v, h, r => by cases h
  | .ntp _, v, h, r => by cases h
theorem rvs_tup (hk : ∀ a us, Rd H a (.tup us) → a ∉ A.all → a ∉ B.all) : ∀ {ts : List Dt} {vs : List V}, tupTs ts = true → RVs G A H ts vs → RVs G B H ts vs
  | [], vs, _, r => r
  | t :: ts, vs, h, r => by
    obtain ⟨h1, h2⟩ := Bool.and_eq_true_iff.mp (show (tupT t && tupTs ts) = true from h)
    obtain ⟨v, w, e, r1, r2⟩ := r
    exact ⟨v, w, e, rv_tup hk h1 r1, rvs_tup hk h2 r2⟩
end
end
section
variable {G : Gs} {A A' A0 : Al} {H H' : Hp} {S S' : Sto}
theorem SpM.snapT {F : FM} {vs : List V} {Q : VK} {E : XK} (h : SpM G (snapT F) vs H Q E) : SpM G F vs H Q E := by
  obtain ⟨A, S, ds, r, s, p⟩ := h
  unfold Sm.snapT at p
  cases ep : opts (ds.map (deepR S 3)) with
  | none => rw [ep] at p; exact p.elim
  | some ts =>
    rw [ep] at p
    simp only at p
    have eB : ∀ a, a ∈ (⟨[], A.all.filter (nonL H)⟩ : Al).all ↔ a ∈ A.all ∧ nonL H a = true := fun a => by
      show a ∈ ([] : List (List Addr)).flatten ++ A.all.filter (nonL H) ↔ _
      rw [List.flatten_nil, List.nil_append, List.mem_filter]
    have hB : ∀ a, a ∉ A.all → a ∉ (⟨[], A.all.filter (nonL H)⟩ : Al).all := fun a n z => n ((eB a).mp z).1
    have hL : ∀ a vs, H a = some (.lst vs) → a ∉ (⟨[], A.all.filter (nonL H)⟩ : Al).all := fun a vs e z => by
      have := ((eB a).mp z).2
      unfold nonL at this
      rw [e] at this
      cases this
    have s0 : StR G ⟨[], A.all.filter (nonL H)⟩ [] H := ⟨rfl, by
      show (([] : List (List Addr)).flatten ++ A.all.filter (nonL H)).Nodup
      rw [List.flatten_nil, List.nil_append]
      exact List.Pairwise.filter _ s.nd, fun a ha => s.alive a ((eB a).mp ha).1, fun i l o e => by simp at e⟩
    have r0 : RDs G ⟨[], A.all.filter (nonL H)⟩ H (ts.map .d) vs := by
      refine RVs.rds ?_
      clear p
      induction r generalizing ts with
      | nil =>
        cases ep
        exact (rfl : ([] : List V) = [])
      | cons r1 r2 ihx =>
        rename_i d1 v1 ds1 vs1
        rw [List.map_cons] at ep
        cases e1 : deepR S 3 d1 with
        | none => rw [e1] at ep; cases ep
        | some t1 =>
          rw [e1] at ep
          unfold opts at ep
          cases e2 : opts (ds1.map (deepR S 3)) with
          | none => rw [e2] at ep; cases ep
          | some ts1 =>
            rw [e2] at ep
            cases ep
            exact ⟨v1, vs1, rfl, deep_rvs hB hL s 3 d1 v1 t1 r1 e1, ihx ts1 e2⟩
    refine ⟨_, [], ts.map .d, r0, s0, ?_⟩
    have kp : ∀ A' H', Ext ⟨[], A.all.filter (nonL H)⟩ H A' H' → ∀ a u, H a = some u → a ∈ A.all → H' a = some u := fun A' H' x a u e m => by
      by_cases hn : nonL H a = true
      · exact x.keepH a u e (by simp) (List.mem_filter.mpr ⟨m, hn⟩)
      · refine (x.keep a u e (by simp)).1.eq fun ⟨kvs, z⟩ => ?_
        subst z
        unfold nonL at hn
        rw [e] at hn
        exact hn rfl
    have key : ∀ A' H', Ext ⟨[], A.all.filter (nonL H)⟩ H A' H' → Ext A H A H' ∧ StR G A S H' := by
      intro A' H' x
      have x1 : Ext A H A H' := ⟨fun _ _ e => .inl e, fun _ _ _ _ => Iff.rfl, fun a u e n => ⟨(x.keep a u e (by simp)).1, n⟩, fun a u e n m => kp A' H' x a u e (List.mem_append_right _ m)⟩
      refine ⟨x1, ⟨s.len, s.nd, fun a ha => ?_, fun i l o e1 e2 => (s.box i l o e1 e2).keep x1.kp fun a ha => ?_⟩⟩
      · obtain ⟨u, e⟩ := s.alive a ha
        exact ⟨u, kp A' H' x a u e ha⟩
      · obtain ⟨u, e⟩ := s.alive' e1 ha
        rw [kp A' H' x a u e (List.mem_append_left _ (live_set e1 a ha)), e]
    cases eF : F (ts.map .d) [] with
    | bad => rw [eF] at p; exact p.elim
    | er c t S1 => rw [eF] at p; exact p.elim
    | ok d S1 =>
      rw [eF] at p
      cases d with
      | loc n => exact p.elim
      | d t =>
        simp only at p
        split at p
        · rename_i hf
          intro A' H' x s1 v rv
          obtain ⟨x1, s2⟩ := key A' H' x
          refine p A H' x1 s2 v ?_
          refine rv_tup (A := A') (fun a us ha n z => ?_) hf rv
          obtain ⟨u, e⟩ := s.alive a z
          have e' := kp A' H' x a u e z
          by_cases hn : nonL H a = true
          · exact (mem_all.mp n).2 ((x.hid a u e (by simp)).mpr (List.mem_filter.mpr ⟨z, hn⟩))
          · rcases ha with ha | ⟨_, ha⟩
            all_goals
              rw [ha] at e'
              cases e'
              unfold nonL at hn
              rw [e] at hn
              exact hn rfl
        · exact p.elim
end
section
variable {P : Program} {w : World} {G : Gs} {mg : Str → Option Value} {base : Heap} {k : Nat} {x : Str} {n : Nat} {ks : List Str} {F : FM}
theorem Cal.snapTC (h : Cal P w G mg base k x n ks F) : Cal P w G mg base k x n ks (snapT F) := by
  obtain ⟨f, h1, h2, h3⟩ := h.ex
  exact ⟨f, h1, h2, h3.imp fun _ _ _ _ q => q.snapT⟩
end
end Sm
/-! Sm36: sorted(set(..)) of whole numbers. -/
namespace Sm
open PySem PySem.Spec PyProof.Rows L2
section
variable {X : Cx} {G : Gs} {W : WX} {k : Nat}
end
section
variable {X : Cx} {G : Gs} {W : WX} {k : Nat} {a : Expr} {p p2 q pos : Pos} {mo : M Dv}
end
end Sm
/-! Sm37: lists and instances read alone by a call. -/
namespace Sm
open PySem PySem.Spec PyProof.Rows L2
section
variable {G : Gs} {A A' A0 : Al} {H H' : Hp} {S S' : Sto}
end
section
variable {P : Program} {w : World} {G : Gs} {mg : Str → Option Value} {base : Heap} {k : Nat} {x : Str} {n : Nat} {ks : List Str} {F : FM}
end
end Sm
/-! Sm38: len(x), the truth of x, x(..) by methods of own classes. -/
namespace Sm
open PySem PySem.Spec PyProof.Rows L2
def mLenM (c : Nat) (F : FM) (mo : M Dv) : M Dv := fun ρ S => (mo ρ S).bind fun o S1 => if isIns c o S1 = true then (nox (F [o] S1)).bind fun r S2 => match r with
  | .d (.int i) => if decide (0 ≤ i ∧ i < 2 ^ 63) = true then .ok (.d (.int i)) S2 else .bad
  | _ => .bad else .bad
section
variable {X : Cx} {G : Gs} {W : WX} {k : Nat} {f : Addr} {F : FM} {c : Nat} {p pos : Pos} {o : Expr} {mo : M Dv}
def rLenM (G : Gs) (c : Nat) (F : FM) : List V → Hp → VK → Prop := fun xs H Q => ∃ a dx ws, xs = [V.ref a] ∧ SlX.Slt H a (G.cls c) dx ws ∧ SpM G F ([V.ref a] ++ []) H (fun z H' => ∃ i, z = .int i ∧ (0 ≤ i ∧ i < 2 ^ 63) ∧ Q (.int i) H') Ez
theorem cr_lenM (R : CallW X.prog X.w G X.mg X.base k f 1 [] F) (B : Bx X G W (k + 1)) (hm : Meth X.K (G.cls c) "__len__" f) : CallR X (.builtin "len") (rLenM G c F) := by
  intro pins s σ H xs us Q I r h
  obtain ⟨a, dx, ws, rfl, hsl, q⟩ := h
  obtain rfl := Vals.ref1 r
  obtain ⟨sl, od, _, J, _⟩ := SlX.slt_inst I hsl
  obtain ⟨m', hF⟩ := I.fr
  refine PySem.W.len_K hF I.ok.mod.kin J hm.at_ hm.fn (wpAny_call (codeAny_mono (runF1z (us := [.ref a]) (vs := [.ref a]) (ws := []) (zs := []) R B I (.cons rfl .nil) .nil rfl rfl q) fun r s' hq => ?_))
  cases r with
  | error e => exact False.elim hq
  | ok fl =>
    cases fl with
    | ret u =>
      obtain ⟨v, H', I', rv, i, ei, hi, q⟩ := hq
      subst ei
      obtain ⟨t, e⟩ := (show ∃ t, u = Value.int i t from rv)
      subst e
      exact ⟨hi, .int i, H', I'.tok _, ⟨_, rfl⟩, q⟩
    | next => exact False.elim hq
    | brk => exact False.elim hq
    | cont => exact False.elim hq
theorem ylenM (R : CalD X.prog X.w G X.mg X.base k c "__len__" 0 F) (B : Bx X G W (k + 1)) (z : X.mg "len" = none) (ho : PE X o (tM G W mo)) (hg : Gl X "len" := by rfl)
    (hs : starEach [o] X.env = (false, eval o X.env) :: starEach [] X.env := by rfl) (hpl : (backTo pos (starEach [] X.env)).any (·.1) = false := by rfl) : PE X (.Call (.Name "len" p) [o] [] pos) (tM G W (mLenM c F mo)) := by
  obtain ⟨f, h1, h2, h3, h4⟩ := R.ex
  refine (pe_callB (p := p) (pos := pos) (cr_lenM h4 B (by rw [← B.hK]; exact h2)) hg z PySem.boot_len (pa_cons ho pa_nil hs) (by decide) (by decide) hs hpl).sm fun σ H Q h => ?_
  obtain ⟨A, ρ, S, he', hs', p0⟩ := h
  refine ⟨A, ρ, S, he', hs', Po.step p0 fun d S1 A1 H1 x1 s1 p1 v rv => ?_⟩
  by_cases hi : isIns c d S1 = true
  · simp only [hi, if_true] at p1
    obtain ⟨a, dx, ws, ev, hsl⟩ := isIns_slt s1 rv hi
    subst ev
    refine ⟨a, dx, ws, rfl, hsl, A1, S1, [d], .cons rv .nil, s1, ?_⟩
    refine Po.step (r := F [d] S1) (k := kD G Q) (f := fun r S2 => match r with
      | .d (.int i) => if decide (0 ≤ i ∧ i < 2 ^ 63) = true then Rz.ok (Dv.d (.int i)) S2 else .bad
      | _ => .bad) ?_ fun r S2 A2 H2 x2 s2 p2 z rz => ?_
    · cases eF : F [d] S1 with
      | ok a S =>
        rw [eF, nox_ok, bind_ok] at p1
        rw [bind_ok]
        cases a with
        | loc n => exact p1.elim
        | d t =>
          cases t with
          | int i =>
            simp only at p1 ⊢
            split at p1
            · rename_i hb
              rw [if_pos hb]
              exact p1
            · exact p1.elim
          | _ => exact p1.elim
      | er c t S => rw [eF] at p1; exact p1.elim
      | bad => rw [eF] at p1; exact p1.elim
    · cases r with
      | loc n => exact p2.elim
      | d t =>
        cases t with
        | int i =>
          simp only at p2
          split at p2
          · rename_i hb
            exact ⟨i, rz, of_decide_eq_true hb, Po.now p2 s2 _ rfl⟩
          · exact p2.elim
        | _ => exact p2.elim
  · simp only [hi] at p1
    exact p1.elim
end
end Sm
/-! Sm39: {k: v, **m}: a displayed entry, then all of a dict. -/
namespace Sm
open PySem PySem.Spec PyProof.Rows L2
section
variable {prog : Program} {w : World} {K : Type} [DecidableEq K] {knd : KeyKind prog w K} {A : Around} {E : Value → Shared → Prop} {s : Shared}
end

theorem PoB.step {α β : Type} {G : Gs} {E : XK} {A A1 : Al} {H H1 : Hp} {S : Sto} {D : Addr} {r : Rz α} {f : α → Sto → Rz β} {k : Al → Hp → β → Prop} {k' : Al → Hp → α → Prop} (x : ExtB D A H A1 H1) (hD : H D = none) (s : StR G A1 S H1) (h : Po G E A H (r.bind f) k)
    (q : ∀ a S2 A2 H2, Ext A1 H1 A2 H2 → StR G A2 S2 H2 → ExtB D A H A2 H2 → Po G E A H (f a S2) k → k' A2 H2 a) : Po G E A1 H1 r k' := by
  cases r with
  | ok a S2 => exact fun A' H' y s2 => q a S2 A' H' y s2 (x.step y s) h
  | er c t S2 => exact fun A' H' cls d y s2 e => h A' H' cls d (Ext.ofB (x.step y s) hD) s2 e
  | bad => exact h
end Sm
/-! Sm40: a, b[i], .. = x, y, ..: places of boxes among the targets. -/
namespace Sm
open PySem PySem.Spec PyProof.Rows L2
section
variable {X : Cx} {G : Gs} {W : WX} {kk : Nat}
end
end Sm
/-! Sm41: list(d.values()), dict(zip(a, b)), d.get(k, x), None in d, l.index(x), l[::-1]. -/
namespace Sm
open PySem PySem.Spec PyProof.Rows L2
/-! ### list(d.values()) -/
section
variable {X : Cx} {G : Gs} {W : WX} {kk : Nat} {e : Expr} {apos cpos : Pos}
/-! ### dict(zip(a, b)) -/
end
end Sm
/-! Sm42: mirrors of dict(zip(a, b)), d.get(k, x), x in d (x perhaps None), l.index(x), l[::-1]. -/
namespace Sm
open PySem PySem.Spec PyProof.Rows L2
section
variable {X : Cx} {G : Gs} {W : WX} {kk : Nat} {e e2 e3 : Expr}
/-! ### dict(zip(a, b)) -/
/-! ### d.get(k, x) -/
/-! ### x in d, x perhaps None -/
/-! ### l.index(x), texts -/
def pIndex : PM := fun o ds S => match ds with
  | [.d (.str y)] => (match ((lstAt S o).bind pures).bind strsOf with
    | some l => if y ∈ l then some (.d (.int (l.idxOf y : Nat)), S) else none
    | none => none)
  | _ => none
theorem flat_strs (l : List Str) : (l.map V.str).all flatV = true := by
  rw [List.all_eq_true]
  intro v hv
  obtain ⟨a, _, rfl⟩ := List.mem_map.mp hv
  rfl
theorem m_index (hK : G.K = X.K) : MtR X "list.index" (qM G pIndex) := by
  refine L2.MtR.sm (show MtR X "list.index" (rIndex X.K) from mt_index) fun x xs H Q h => ?_
  obtain ⟨A, S, d, ds, rd, rds, s, p⟩ := h
  unfold pIndex at p
  split at p
  · rename_i y
    split at p
    · rename_i l e1
      split at p
      · rename_i hy
        obtain ⟨v, rfl, rv⟩ := RDs.one rds
        obtain rfl : v = .str y := rv
        obtain ⟨ts, e2, e3⟩ := Option.bind_eq_some_iff.mp e1
        obtain ⟨zs, e4, e5⟩ := Option.bind_eq_some_iff.mp e2
        obtain ⟨a, vs, rfl, hq, hvs⟩ := lstAt_rd s rd e4
        have ets := strsOf_eq e3
        subst ets
        have evs := strs_rv (pures_rvs e5 hvs)
        subst evs
        have hlt := List.idxOf_lt_length_of_mem hy
        refine ⟨a, l.map V.str, .str y, l.idxOf y, .str y, rfl, rfl, .inl (.inl hq), rfl, flat_strs l, ?_, by show (y == y) = true; simp, fun m z' hm hz => ?_, Po.now p s _ rfl⟩
        · rw [List.getElem?_map, List.getElem?_eq_getElem hlt]
          simp
        · rw [List.getElem?_map] at hz
          cases e6 : l[m]? with
          | none =>
            rw [e6] at hz
            cases hz
          | some c =>
            rw [e6] at hz
            cases hz
            show (c == y) = false
            have := List.not_of_lt_findIdx (p := (· == y)) (xs := l) (i := m) (by simpa [List.idxOf] using hm)
            obtain ⟨h1, h2⟩ := List.getElem?_eq_some_iff.mp e6
            rw [h2] at this
            simpa using this
      · exact p.elim
    · exact p.elim
  · exact p.elim
/-! ### l[::-1] -/
end
end Sm
/-! Sm43: name = {k: v for ..}, the name a local, on one line. -/
namespace Sm
open PySem PySem.Spec PyProof.Rows L2
section
variable {X : Cx} {G : Gs} {W : WX} {kk : Nat}
variable {kx vx tg iter : Expr} {ifs : List Expr} {scope : Scope} {pos spos py : Pos} {y : Str} {it : M (List Dt)} {g : GM} {t : TG} {L : List Nat} {cm : M Bool} {ek ev : M Dv} {pe : PD}
end
end Sm
/-! Sm44: zip of a list and a tuple. -/
namespace Sm
open PySem PySem.Spec PyProof.Rows L2
end Sm
/-! Sm45: tuple(d.items()). -/
namespace Sm
open PySem PySem.Spec PyProof.Rows L2
section
variable {X : Cx} {G : Gs} {W : WX} {kk : Nat} {e : Expr} {apos cpos : Pos}
theorem Ext.mono {A : Al} {H H' : Hp} (hk : ∀ b o, H b = some o → H' b = some o) : Ext A H A H' := ⟨fun _ _ e => .inl e, fun _ _ _ _ => Iff.rfl, fun _ _ e n => ⟨.inl (hk _ _ e), n⟩, fun _ _ e _ _ => hk _ _ e⟩
theorem StR.mono {A : Al} {H H' : Hp} {S : Sto} (s : StR G A S H) (hk : ∀ b o, H b = some o → H' b = some o) : StR G A S H' := by
  refine ⟨s.len, s.nd, fun a ha => ?_, fun i l b e1 e2 => (s.box i l b e1 e2).keep (Ext.mono hk).kp fun a ha => ?_⟩
  · obtain ⟨u, e⟩ := s.alive a ha
    exact ⟨u, hk _ _ e⟩
  · have z : a ∈ A.all := List.mem_append_left _ (live_set e1 a ha)
    obtain ⟨u, e⟩ := s.alive a z
    rw [hk _ _ e, e]
/-! ### list(text) -/
end
end Sm
/-! Sm46: name = [..] over a box, on one line. -/
namespace Sm
open PySem PySem.Spec PyProof.Rows L2
section
variable {X : Cx} {G : Gs} {W : WX} {kk : Nat} {elt tg iter : Expr} {ifs : List Expr} {scope : Scope} {own : List (Str × Nat)} {pos : Pos} {it : M (List Dt)} {g : GM} {t : TG} {L : List Nat} {cm : M Bool} {em : M Dv}
end
end Sm
/-! Sm47: {k: v}; l.count(x) of texts. -/
namespace Sm
open PySem PySem.Spec PyProof.Rows L2
/-! ### l.count(x) -/
section
variable {X : Cx} {G : Gs}
end
end Sm
/-! Sm48: sorted(..) as a new box. -/
namespace Sm
open PySem PySem.Spec PyProof.Rows L2
section
variable {X : Cx} {G : Gs}
end
/-! ### a fresh list, lists within, handed back as data -/
section
variable {G : Gs} {A A' A0 : Al} {H H' : Hp} {S S' : Sto}
end
end Sm
set_option maxHeartbeats 1000000
/-! Ex3: raise C(x), told by a mirror. -/
namespace Sm
open PySem PySem.Spec PyProof.Rows L2
theorem boot_super : bootBuiltins ("super" : Str) = some (.type "super") := by kernel_rfl
/-- C(e): the exception of the class C whose field f is e -/
def tXmk (C : Addr) (f : Str) (ta : TA) : L2.St → Hp → XK → Prop := fun σ H Q => ta σ H fun vs H1 => ∃ v, vs = [v] ∧ ∀ dx, H1 dx = none → Q (.ref C) (some dx) (upd H1 dx (.xd [(f, v)]))
theorem pmk_x {X : Cx} {e : Expr} {x : Str} {p pos : Pos} {ta : TA} {k : Nat} {C fI cda cc : Addr} {B nw ni : String} {tl : List Value} {f q pr : Str} {params : Arguments} {body : List Stmt} {scope : Scope} (Y : Bsx B nw ni tl) (T : XcCls X.K C nw tl) (J : XcInit X.prog X.K C fI B ni tl f q pr params body scope cda cc)
    (iC : PySem.W.findIn X.K (.ref C) "__init__" = some (some (.ref fI))) (tI : PySem.W.typeIn X.K (.ref fI) = some (.type "function")) (ms : X.mg "super" = none) (hr : Room (k + 1) X.A) (hg : Gl X x) (hm : X.mg x = some (.ref C)) (ha : PA X [e] ta) (hdb : (x == ("__debug__" : Str)) = false := by decide)
    (he : starEach [e] X.env = (false, eval e X.env) :: starEach [] X.env := by rfl) : PMk X (.Call (.Name x p) [e] [] pos) (tXmk C f ta) := by
  intro pins s σ H Q I h
  obtain ⟨nm, q', N, bs, sn, sub, ab, col, dd, k0, k1, k2, k3, k5, hC⟩ := T.at_
  refine wpAny_Call_Name_kw (ld_glob I hg hm ?_ hdb)
  refine PySem.W.callWith_K (h₀ := X.base) I.ok.mod.kin T.kC (thn (ha.run pos pins s σ H _ I h) fun us s1 ⟨vs, H1, I1, r1, v, ev, q1⟩ => ⟨I1.kIn, ?_⟩) he rfl
  subst ev
  cases r1 with
  | @cons _ u _ ur ru rr =>
    cases rr
    show wpAny _ _ (call (.ref C) [u]) _ _ _
    obtain ⟨hp, g, dr, tk, os⟩ := s1
    have kk : ∀ b o, hp.get? b = some o → ((hp.push (PySem.W.kdv_tup [u])).push (PySem.HandSPX.excO C hp.objs.size)).get? b = some o := fun b o z => Heap.get?_push_of_some _ (Heap.get?_push_of_some _ z)
    have ge : ((hp.push (PySem.W.kdv_tup [u])).push (PySem.HandSPX.excO C hp.objs.size)).get? (hp.objs.size + 1) = some (eo C hp.objs.size none) := by heap_get
    obtain ⟨mb, hb1, hb2⟩ := I1.mod.blt
    have kb : ∀ b o, X.base.get? b = some o → ((hp.push (PySem.W.kdv_tup [u])).push (PySem.HandSPX.excO C hp.objs.size)).get? b = some o := fun b o z => kk b o (I1.bk b o z)
    have nK : ∀ o, X.K.lookup (hp.objs.size + 1) ≠ some o := fun o z => by
      have := Heap.lt_size (I1.kIn _ _ z)
      exact absurd (show hp.objs.size + 1 < hp.objs.size from this) (by omega)
    refine wpAny_call (PySem.HandSPX.call_own Y.fb (fun _ => rfl) (I1.kIn _ _ hC) (PySem.W.looks_findIn I1.kIn iC) (fun self => PySem.W.bind_fn I1.kIn self tI) (by rw [sizeLine_eq]; simp)
      (init_run Y T J (I1.kIn.keeps kk) (I1.nolimit.keeps kk) (hr.make C [u] []).depth (I1.mod.glob.keeps kb) (hb1.keeps kb) ms ((hb2 "super" (by decide)).trans boot_super) ge nK fun h' tk' t1 dx kp hdx ndx he' hn' => ⟨rfl, ?_⟩))
    have hd0 : hp.objs.size + 2 ≤ dx := by
      have e2 : ((hp.push (PySem.W.kdv_tup [u])).push (PySem.HandSPX.excO C hp.objs.size)).objs.size = hp.objs.size + 2 := by rw [Heap.size_push, Heap.size_push]
      rw [e2] at hdx
      exact hdx
    obtain ⟨G, g1, g2⟩ := restrict h' fun b => decide (b ≠ hp.objs.size + 1)
    have gk : ∀ b, b ≠ hp.objs.size + 1 → G.get? b = h'.get? b := fun b hb => g1 b (decide_eq_true hb)
    have gn : G.get? (hp.objs.size + 1) = none := g2 _ (by simp)
    have lt : ∀ {b : Addr} {o : Obj}, hp.get? b = some o → b ≠ hp.objs.size + 1 := fun {b o} z => by
      have h0 : b < hp.objs.size := Heap.lt_size z
      exact Nat.ne_of_lt (show b < hp.objs.size + 1 from Nat.lt_succ_of_lt h0)
    have hd1 : H1 dx = none := I1.hok.fresh (show hp.objs.size ≤ dx by omega)
    have ha1 : H1 (hp.objs.size + 1) = none := I1.hok.fresh (show hp.objs.size ≤ hp.objs.size + 1 by omega)
    have ok : ObjOk X.prog X.w (upd H1 dx (.xd [(f, v)])) G dx (.xd [(f, v)]) := by
      refine ⟨_, hn'.at fun o y => (gk dx ndx).trans y, fun z => relO_put (fs := []) (mA := fun _ => none) ru (fun _ => True.intro) z⟩
    have I2 : Inv X pins σ (upd H1 dx (.xd [(f, v)])) ⟨G, g, dr, tk', os⟩ := I1.laid (t' := tk') (a := dx) (o := .xd [(f, v)]) (h' := G) (fun b o z => (gk b (lt z)).trans (kp b o (lt z) (kk b o z))) (show hp.objs.size ≤ dx by omega) ok
    refine ⟨hp.objs.size + 1, _, _, ⟨G, g, dr, tk', os⟩, _, .ref C, some dx, rfl, I2, fun b o z => ?_, gn, he', ⟨rfl, rfl⟩, rfl, rfl, ?_, rfl, I2.bare, raises_own T.exC T.tyC, q1 dx hd1⟩
    · have z' : G.get? b = some o := z
      by_cases hb : b = hp.objs.size + 1
      · rw [hb, gn] at z'
        cases z'
      · exact (gk b hb).symm.trans z'
    · rw [upd_ne (Ne.symm ndx)]
      exact ha1
def sRaise (c : Nat) (m : M Dv) : SM := fun ρ S => (m ρ S).to ρ fun d S1 => match d with
  | .d t => .er c t ρ S1
  | .loc _ => .bad
/-- a class that may be raised: what a def's walk asks -/
structure Rsx (P : Program) (G : Gs) (mg : Str → Option Value) (x : Str) (c : Nat) : Prop where
  cl : ∃ C B nw ni tl f fI q pr params body scope cda cc, G.exc c = .ref C ∧ G.fld c = some f ∧ Bsx B nw ni tl ∧ XcCls G.K C nw tl ∧ XcInit P G.K C fI B ni tl f q pr params body scope cda cc ∧
    PySem.W.findIn G.K (.ref C) "__init__" = some (some (.ref fI)) ∧ PySem.W.typeIn G.K (.ref fI) = some (.type "function") ∧ mg x = some (.ref C)
  ms : mg "super" = none
theorem ps_raiseX {X : Cx} {G : Gs} {W : WX} {k c : Nat} {e : Expr} {x : Str} {p pos pos' : Pos} {m : M Dv} (B : Bx X G W (k + 1)) (Z : Rsx X.prog G X.mg x c) (hg : Gl X x) (he : PE X e (tM G W m)) (hdb : (x == ("__debug__" : Str)) = false := by decide)
    (hs : starEach [e] X.env = (false, eval e X.env) :: starEach [] X.env := by rfl) : PS X (.Raise (some (.Call (.Name x p) [e] [] pos)) none pos') (tMS G W (sRaise c m)) := by
  obtain ⟨⟨C, Bn, nw, ni, tl, f, fI, q, pr, params, body, scope, cda, cc, eC, ef, Y, T, J, iC, tI, hm⟩, ms⟩ := Z
  rw [B.hK] at T J iC tI
  have ha : PA X [e] (tMA G W (aCons m aNil)) := a_cons he a_nil hs
  refine (ps_raise B.calm B.tk (pmk_x Y T J iC tI ms B.room hg hm ha hdb hs)).sm fun D σ H h => ?_
  obtain ⟨A, ρ, S, er, sr, h⟩ := h
  refine ⟨A, ρ, S, er, sr, ?_⟩
  unfold sRaise at h
  show Po G (Wa W σ) A H ((m ρ S).bind fun x S1 => Rz.bind (.ok [] S1) fun xs S2 => .ok (x :: xs) S2) _
  cases em : m ρ S with
  | bad => rw [em] at h; exact h.elim
  | er c' t S1 =>
    rw [em] at h
    exact fun A' H' cls d y s z => h A' H' σ cls d y s (er.kp y.kp) z
  | ok d S1 =>
    rw [em] at h
    cases d with
    | loc n => exact h.elim
    | d t =>
      intro A1 H1 y1 s1 vs rv
      cases rv with
      | @cons _ v _ vr r1 r2 =>
        cases r2
        refine ⟨v, rfl, fun dx hd => ?_⟩
        have y2 : Ext A1 H1 A1 (upd H1 dx (.xd [(f, v)])) := Ext.new hd
        refine h A1 _ σ _ _ (y1.trans y2) (s1.new hd) (er.kp (y1.trans y2).kp) ⟨eC.symm, .inr ⟨dx, f, v, ef, rfl, s1.out hd, upd_same, RV.kp r1 y2.kp⟩⟩
end Sm
set_option maxHeartbeats 1000000
/-! Ex4: try: .. except (A, B, ..) as n: v = n, the exception kept in v behind the suite. -/
namespace Sm
open PySem PySem.Spec PyProof.Rows L2
/-- the classes that a clause names -/
inductive NmL (X : Cx) : List Expr → List Value → Prop
  | nil : NmL X [] []
  | cons {x : Str} {c : Value} {p : Pos} {es : List Expr} {cs : List Value} : Names X x c → NmL X es cs → NmL X (.Name x p :: es) (c :: cs)
section
variable {X : Cx} {pins : List (Addr × Obj)} {σ : L2.St} {H : Hp} {s : Shared}
theorem hush (I : Inv X pins σ H s) (a : Addr) : Inv (X.suite a (X.pn ++ pins)) [] σ H s :=
  ⟨I.ok.suite a (X.pn ++ pins), I.os, I.bare, I.base, I.loc, I.cell, I.free, I.freeC, fun p hp => I.pin p (by simpa using hp), I.hok, I.len⟩
theorem loud {a : Addr} (I : Inv (X.suite a (X.pn ++ pins)) [] σ H s) (ok : X.Ok) : Inv X pins σ H s :=
  ⟨ok, I.os, I.bare, I.base, I.loc, I.cell, I.free, I.freeC, fun p hp => I.pin p (by simpa using hp), I.hok, I.len⟩
theorem nml_len {es : List Expr} {cs : List Value} (h : NmL X es cs) : cs.length = es.length := by
  induction h with
  | nil => rfl
  | cons _ _ ih => rw [List.length_cons, List.length_cons, ih]
/-- the names are looked up: nothing changes -/
theorem nml_run {E : Value → Shared → Prop} {a : Addr} {pos : Pos} {es : List Expr} {cs : List Value} (n : NmL X es cs) (I : Inv (X.suite a (X.pn ++ pins)) [] σ H s) : ∀ {Q : List Value → Shared → Prop}, Q cs s →
    wpAny (model X.prog X.w) (X.A.mark (some (.ref a))) (spliced (backTo pos (starEach es X.env))) Q E s := by
  induction n with
  | nil => exact fun q => Calls.spliced_nil q
  | @cons x c p es cs hx _ ih =>
    intro Q q
    show wpAny _ _ (spliced ((false, eval (.Name x p) X.env) :: backTo pos (starEach es X.env))) _ _ _
    refine Calls.spliced_cons ?_
    have nx : wpAny (model X.prog X.w) (X.A.mark (some (.ref a))) (spliced (backTo pos (starEach es X.env))) (fun vs s2 => Q (c :: vs) s2) E s := ih q
    obtain ⟨hg, hd, hm | ⟨hm, hv, hn⟩⟩ := hx
    · exact ld_glob (X := X.suite a (X.pn ++ pins)) I hg hm nx hd
    · exact ld_blt (X := X.suite a (X.pn ++ pins)) I hg hm hv nx hn hd
/-- the air is kept where the heap grows -/
theorem flies_on {B h h' : Heap} {l : List PySem.Env} {a : Addr} {Z : Obj → Prop} (f : HandSPX.FlyingZ B l a Z h) (k : ∀ b o, h.get? b = some o → h'.get? b = some o) : HandSPX.FlyingZ B l a Z h' := by
  obtain ⟨f1, f2, f3, oe, vs, T, oT, ts, e1, e2, e3, e4, e5, e6, e7, e8, e9⟩ := f
  exact ⟨fun b o z => k b o (f1 b o z), f2, Heap.FunFrames.of_keeps (fun b o z _ => ⟨o, k b o z, rfl⟩) f3, oe, vs, T, oT, ts, k _ _ e1, e2, e3, e4, e5, e6, k _ _ e7, e8, e9⟩
/-- the caught exception is tracked from now on -/
theorem track {B : Heap} {sI s' : Shared} {a d : Addr} {cls : Value} (I : Inv X pins σ H sI) (nb : ∀ b o, sI.heap.get? b = some o → b ∉ frs X.stack → B.get? b = some o) (fl : HandSPX.FlyingZ B X.stack a (Zc cls (some d)) s'.heap) (up : sI.heap.UpToSlots s'.heap)
    (na : H a = none) (os : s'.os = sI.os) (ag : AllBare s'.gens) : Inv X pins σ (upd H a (XoH a cls d)) s' := by
  obtain ⟨f1, f2, f3, f4⟩ := id fl
  obtain ⟨oe, vs, T, oT, ts, e1, e2, e3, _⟩ := f4
  obtain ⟨G, g1, g2⟩ := restrict s'.heap fun b => decide (b ≠ a)
  have gk : ∀ b, b ≠ a → G.get? b = s'.heap.get? b := fun b hb => g1 b (decide_eq_true hb)
  have gn : G.get? a = none := g2 a (by simp)
  have J : Inv X pins σ H { s' with heap := G } := by
    refine I.landed nb (s' := { s' with heap := G }) (fun b o z => ?_) (fun b o z nf => ?_) os ag
    · refine (gk b fun y => ?_).trans (f1 b o z)
      rw [y, f2] at z
      cases z
    · obtain ⟨sl, z2⟩ := up b o z nf
      refine ⟨sl, (gk b fun y => ?_).trans z2⟩
      rw [y, e1] at z2
      have z3 := Option.some.inj z2
      exact nf vs (by rw [z3] at e3; exact e3)
  have ok : ObjOk X.prog X.w (upd H a (XoH a cls d)) s'.heap a (XoH a cls d) := by
    refine ⟨⟨oe, vs, e1, e2.1, e2.2, e3⟩, ⟨oe, e1⟩, fun h1 h2 z k => ?_⟩
    obtain ⟨o, w, z1, z2⟩ := z
    exact ⟨o, w, k o z1, z2⟩
  obtain ⟨hp, g, dr, tk, os'⟩ := s'
  refine J.laidN (t' := tk) (h' := hp) (fun b o z => ?_) gn na ok
  have z' : G.get? b = some o := z
  by_cases hb : b = a
  · rw [hb, gn] at z'
    cases z'
  · exact (gk b hb).symm.trans z'
end
/-- what the try wishes of an exception of its body: slot i is n's, slot j is v's -/
def wT (K : PySem.W.Frag) (cs : List Value) (i j : Nat) (W : WX) (D : Ends) : WX := fun cls d σ H => ∃ b, PySem.W.exmAny K cls cs = some b ∧
  (b = true → ∃ dd, d = some dd ∧ ∀ a, H a = none → D.nx (((σ.set i (some (.ref a))).set j (some (.ref a))).set i none) (upd H a (XoH a cls dd))) ∧ (b = false → W cls d σ H)
section
variable {X : Cx} {es : List Expr} {cs : List Value} {n v : Str} {i j kx : Nat} {body : List Stmt} {np pos pos' p1 p2 p3 : Pos} {tb : WX → TS} {W : WX}
theorem ps_tryH (hs : X.stack = X.env :: X.outer) (hf : X.env.frame = some X.env.locals) (hN : X.N.Nodup) (hi : X.N[i]? = some n) (hln : X.env.kindOf n = some .local) (hj : X.N[j]? = some v) (hlv : X.env.kindOf v = some .local) (nn : (n == ("__debug__" : Str)) = false) (ncd : (n == ("__classdict__" : Str)) = false)
    (hsw : swapsWith (.Name n p2) (some (.Name v p1)) p3.line X.env = pure false) (hi' : i < X.N.length) (hle : es.length ≤ 1000) (nm : NmL X es cs) (tk : Takes X W)
    (hb : ∀ (W' : WX) (pn : List (Addr × Obj)) (xe : Value → Shared → Prop), Takes (X.tr pn xe) W' → PassesOwn (model X.prog X.w) X.A X.env xe → PSs (X.tr pn xe) body (tb W')) :
    PS X (.Try body [.ExceptHandler (some (.Tuple es kx np)) (some n) [.Assign [.Name v p1] (.Name n p2) p3] pos'] [] [] pos) (fun D σ H => tb (wT X.K cs i j W D) D σ H) := by
  refine ⟨fun pins s σ H D I h => ?_⟩
  have ok := I.ok
  have fr : X.A.frames = some (X.env :: X.outer) := by rw [ok.frames, hs]
  refine wpAny_Try_except (wpAny_mono ((hb (wT X.K cs i j W D) (X.pn ++ pins) _ (fun u s' xx => ?_) PassesOwn.looking).run [] s σ H D (I.toTry _) h) (fun f s1 hsp => ?_) fun e s1 he => he)
  · obtain ⟨a, B, sI, pins', σ', H', cls, d, rfl, J', nb, up, sky, na, os, ag, b, hb1, yes, no⟩ := xx
    have J : Inv X pins σ' H' sI := J'.ofTry ok
    have sky2 : Sky B (X.env :: X.outer) a (Zc cls d) X.env.locals s'.heap := hs ▸ sky
    show wpAny (model X.prog X.w) X.A (noteFrame (.ref a) X.env) _ _ _
    refine Sky.land Zc.steady fr hf sky2 fun h3 fl3 up3 => ?_
    have J3 : Inv X pins σ' H' { s' with heap := h3 } := J.landed nb fl3.1 (up.trans up3) os ag
    have S3 := hush J3 a
    obtain ⟨oe3, vs3, he3, hz3, hd3⟩ := fl3.there
    refine wpAny_handleBy_cons (codeAny_handlers_test ?_) (by intro z; cases z)
    refine wpAny_Tuple (nml_run nm S3 ⟨?_, ?_⟩)
    · rw [nml_len nm, sizeLine_eq]
      exact Nat.le_trans hle (by decide)
    have kt : ∀ b o, h3.get? b = some o → (h3.push { cls := .type "tuple", data := .seq cs.toArray }).get? b = some o := fun b o z => Heap.get?_push_of_some _ z
    have fl4 := flies_on fl3 kt
    have up4 : sI.heap.UpToSlots (h3.push { cls := .type "tuple", data := .seq cs.toArray }) := (up.trans up3).trans (Heap.UpToSlots.of_keeps kt)
    have LT : PySem.W.Looks (model X.prog X.w) (h3.push { cls := .type "tuple", data := .seq cs.toArray }) (typeOf (.ref a)) cls := fun A Q E s k q => wpAny_typeOf_ref (k _ _ (kt _ _ he3)) (by rw [hz3.1]; exact q)
    refine (exm_all (M := model X.prog X.w) (J3.kIn.keeps kt) LT (Heap.get?_push_size h3 rfl) hb1).here ?_
    cases b with
    | true =>
      obtain ⟨dd, rfl, yes2⟩ := yes rfl
      refine codeAny_handlers_suite_as ?_
      refine HandSPX.lands_againZ fl4 fun h5 fl5 up5 => ?_
      have I5 : Inv X pins σ' (upd H' a (XoH a cls dd)) { s' with heap := h5 } := track J nb (by rw [hs]; exact fl5) (up4.trans up5) na os ag
      refine store_ok (X := X.suite a (X.pn ++ pins)) (v := .ref a) (hush I5 a) hN hi (.inl hln) rfl (fun s6 S6 => ?_) (.inr hln)
      have li : i < (σ'.set i (some (V.ref a))).length := by
        rw [S6.len]
        exact hi'
      have pa : PSs (X.suite a (X.pn ++ pins)) [.Assign [.Name v p1] (.Name n p2) p3] _ := pss_one (ps_set hN hj (.inl hlv) (pe_var hi (.inl hln) nn ncd) hsw (.inr hlv))
      refine wpAny_mono (pa.run [] s6 _ _ { nx := fun σ2 H2 => D.nx (σ2.set i none) H2, rt := fun _ _ => False } S6 ⟨.ref a, by rw [List.getElem?_set_self (by simpa using li)], yes2 a na⟩) (fun f s7 hsp => ?_) fun _ _ z => z.elim
      cases f with
      | next =>
        obtain ⟨σ7, H7, S7, q7⟩ := hsp
        exact gone_ok (loud S7 ok) hN hi hln fun s8 J8 => ⟨_, _, J8, q7⟩
      | brk => obtain ⟨_, _, _, z⟩ := hsp; exact z.elim
      | cont => obtain ⟨_, _, _, z⟩ := hsp; exact z.elim
      | ret u => obtain ⟨_, _, _, _, _, z⟩ := hsp; exact z.elim
    | false =>
      refine wpAny_handleBy_nil ?_
      obtain ⟨k1, k2, k3, oe, vs, T, oT, ts', he, hz, hd, h1, hr⟩ := id fl4
      unfold PySem.passOn
      refine wpAny_bind (wpAny_field he hd h1 ?_)
      rw [if_neg (show ¬ ((Value.ref T == Value.none) = true) from by simp)]
      have fin : wpAny (model X.prog X.w) X.A (setFlight (.ref a) X.env.frame) (fun _ s5 => wpAny (model X.prog X.w) X.A (throw (.ref a) : Sem Flow) (SP X pins D) X.xe s5) X.xe { s' with heap := h3.push { cls := .type "tuple", data := .seq cs.toArray } } := by
        rw [hf]
        refine HandSPX.setFlight_upZ fl4 fun h5 hh5 up5 => wpAny_throw (tk _ _ ⟨a, B, sI, pins, σ', H', cls, d, rfl, J, nb, up4.trans up5, .inr (.inr ?_), na, os, ag, no rfl⟩)
        rw [hs]
        exact hh5
      first
        | exact wpAny_bind (wpAny_pure (wpAny_bind fin))
        | exact wpAny_bind fin
  · cases f with
    | next => obtain ⟨σ', H', J', q⟩ := hsp; exact wpAny_execs_nil ⟨σ', H', J'.ofTry ok, q⟩
    | brk => obtain ⟨σ', H', J', q⟩ := hsp; exact ⟨σ', H', J'.ofTry ok, q⟩
    | cont => obtain ⟨σ', H', J', q⟩ := hsp; exact ⟨σ', H', J'.ofTry ok, q⟩
    | ret u => obtain ⟨v, σ', H', J', r, q⟩ := hsp; exact ⟨v, σ', H', J'.ofTry ok, r, q⟩
end
end Sm
set_option maxHeartbeats 1000000
/-! Ex5: try by mirrors; isinstance of a kept exception, its field. -/
namespace Sm
open PySem PySem.Spec PyProof.Rows L2
/-- what is known of the class number c -/
structure Exk (G : Gs) (c : Nat) (f : Str) : Prop where
  cl : ∃ D, G.exc c = .ref D ∧ ExcC G.K D ∧ PySem.W.findIn G.K (.ref D) f = some none
  fl : G.fld c = some f
/-! ### try -/
def sTry (hit : Nat → Option Bool) (i j : Nat) (mb : SM) : SM := fun ρ S => match mb ρ S with
  | .er c t ρ1 S1 => (match hit c with
    | some true => .nx ((ρ1.set j (some (.d (.exc c [t])))).set i none) S1
    | some false => .er c t ρ1 S1
    | none => .bad)
  | r => r
section
variable {X : Cx} {G : Gs} {W : WX} {k : Nat} {es : List Expr} {cs : List Value} {n v : Str} {i j kx : Nat} {body : List Stmt} {np pos pos' p1 p2 p3 : Pos} {mb : SM} {hit : Nat → Option Bool}
theorem s_try (B : Bx X G W k) (hs : X.stack = X.env :: X.outer) (hf : X.env.frame = some X.env.locals) (hi : X.N[i]? = some n) (hln : X.env.kindOf n = some .local) (hj : X.N[j]? = some v) (hlv : X.env.kindOf v = some .local)
    (nm : NmL X es cs) (hle : es.length ≤ 1000) (hh : ∀ c b, hit c = some b → PySem.W.exmAny G.K (G.exc c) cs = some b) (hfl : ∀ c, hit c = some true → ∃ f, G.fld c = some f)
    (hb : ∀ (W' : WX) (pn : List (Addr × Obj)) (xe : Value → Shared → Prop), Bx (X.tr pn xe) G W' k → PassesOwn (model X.prog X.w) X.A X.env xe → PSs (X.tr pn xe) body (tMS G W' mb))
    (nn : (n == ("__debug__" : Str)) = false := by decide) (ncd : (n == ("__classdict__" : Str)) = false := by decide) (hsw : swapsWith (.Name n p2) (some (.Name v p1)) p3.line X.env = pure false := by rfl) :
    PS X (.Try body [.ExceptHandler (some (.Tuple es kx np)) (some n) [.Assign [.Name v p1] (.Name n p2) p3] pos'] [] [] pos) (tMS G W (sTry hit i j mb)) := by
  have hi' : i < X.N.length := (List.getElem?_eq_some_iff.mp hi).1
  refine (ps_tryH hs hf B.nd hi hln hj hlv nn ncd hsw hi' hle nm B.tk fun W' pn xe tk hp => hb W' pn xe ⟨B.calm, B.nd, tk, B.hK, B.room⟩ hp).sm fun D σ H h => ?_
  obtain ⟨A, ρ, S, er, sr, h⟩ := h
  refine ⟨A, ρ, S, er, sr, ?_⟩
  unfold sTry at h
  cases em : mb ρ S with
  | nx ρ1 S1 => rw [em] at h; exact h
  | rt d S1 => rw [em] at h; exact h
  | bk ρ1 S1 => rw [em] at h; exact h
  | ct ρ1 S1 => rw [em] at h; exact h
  | bad => rw [em] at h; exact h
  | er c t ρ1 S1 =>
    rw [em] at h
    intro A1 H1 σ1 cls d y1 s1 e1 z1
    dsimp only at h
    cases eh : hit c with
    | none => rw [eh] at h; exact h.elim
    | some b =>
      rw [eh] at h
      refine ⟨b, by rw [z1.1, ← B.hK]; exact hh c b eh, fun hb => ?_, fun hb => ?_⟩
      · subst hb
        obtain ⟨f0, ef0⟩ := hfl c eh
        rcases z1.2 with ⟨z, _⟩ | ⟨dd, f, u, ef, ed, nd, hd, rt⟩
        · rw [ef0] at z
          cases z
        · refine ⟨dd, ed, fun a na => ?_⟩
          have y2 : Ext A1 H1 A1 (upd H1 a (XoH a cls dd)) := Ext.new na
          have nad : dd ≠ a := fun z => by
            rw [← z, hd] at na
            cases na
          have rv : RD G A1 (upd H1 a (XoH a cls dd)) (.d (.exc c [t])) (.ref a) := ⟨a, dd, f, u, rfl, s1.out na, nd, by rw [upd_same, z1.1], by rw [upd_ne nad]; exact hd, ef, u, [], rfl, RV.kp rt y2.kp, rfl⟩
          refine h A1 _ _ (y1.trans y2) (s1.new na) ⟨?_, fun m d' em' => ?_⟩
          · simp only [List.length_set]
            exact e1.len
          · by_cases hmi : m = i
            · subst hmi
              rw [List.getElem?_set] at em'
              split at em'
              · split at em' <;> cases em'
              · rename_i z
                exact absurd rfl z
            · rw [List.getElem?_set_ne (Ne.symm hmi)] at em'
              rw [List.getElem?_set_ne (Ne.symm hmi)]
              by_cases hmj : m = j
              · subst hmj
                rw [List.getElem?_set] at em'
                rw [if_pos rfl] at em'
                split at em'
                · rename_i lt
                  cases em'
                  refine ⟨.ref a, ?_, rv⟩
                  rw [List.getElem?_set_self (by rw [List.length_set, ← e1.len]; exact lt)]
                · cases em'
              · rw [List.getElem?_set_ne (Ne.symm hmj)] at em'
                rw [List.getElem?_set_ne (Ne.symm hmj), List.getElem?_set_ne (Ne.symm hmi)]
                obtain ⟨w, ew, rw'⟩ := e1.at_ m d' em'
                exact ⟨w, ew, RD.kp y2.kp rw'⟩
      · subst hb
        exact h A1 H1 σ1 cls d y1 s1 e1 z1
end
/-! ### a kept exception asked -/
section
open PySem.W
variable {prog : Program} {w : World} {A : Around} {E : Value → Shared → Prop} {s : Shared} {K : Frag} {x D : Addr} {ox od : Obj}
theorem cls_of_exc {Q : Option Value → Shared → Prop} (C : ExcC K D) (X : K.In s.heap) (I : InstAt s.heap x ox D (some od)) (h : Q (some (.ref D)) { s with toks := s.toks + 1 }) : wpAny (model prog w) A (getAttr? (.ref x) "__class__") Q E s := by
  have hf : findObj K D (some od) "__class__" = some (.bind (.builtin "getset_descriptor.__get__") (.builtin "object.__class__")) := findObj_data (by obtain ⟨cd, hc, _⟩ := any_some C.hd; rw [hc]; rfl) C.ha C.hn C.ht
  obtain ⟨hp, g, d, t, os⟩ := s
  have l0 := I.type (M := model prog w)
  have l1 := looks_findIn (M := model prog w) X C.hg
  have l2 := looks_findIn (M := model prog w) X C.hk
  have l3 := looks_find (M := model prog w) X I hf
  have sub : Looks (model prog w) hp (isInstance (.ref x) (.type "BaseException")) true := l0.andThen (looks_subIn X C.hs)
  have e2 : (Value.builtin "BaseException.__getattribute__" == Value.builtin "object.__getattribute__") = false := by decide +kernel
  have e1 : (onTheHeap (Value.ref D) && Value.builtin "BaseException.__getattribute__" == Value.builtin "object.__getattribute__") = false := by rw [e2]; rfl
  have e0 : (false && onTheHeap (Value.builtin "BaseException.__getattribute__")) = false := rfl
  unfold getAttr?; unfold getAttrBy?; unfold getAttrBy
  refine wpAny_bind (wpAny_mkText (wpAny_bind (wpAny_attempt (wpAny_holding (wpAny_bind (l0.at (wpAny_bind (l1.at ?_))))))))
  show wpAny _ _ (if (onTheHeap (Value.ref D) && Value.builtin "BaseException.__getattribute__" == Value.builtin "object.__getattribute__") = true then _ else _) _ _ _
  rw [e1]; rw [if_neg Bool.false_ne_true]
  unfold getAttrByItsOwn; unfold hookBefore
  refine wpAny_bind ?_; rw [if_pos (show onTheHeap (Value.ref D) = true from rfl)]
  refine l2.at ?_
  refine wpAny_bind (wpAny_attempt (wpAny_holding ?_)); unfold callGetattribute
  rw [e0]; rw [if_neg Bool.false_ne_true]
  unfold boundAndCalled; rw [F.excAttr_ValueError.ga.bind (.ref x)]
  refine wpAny_bind (wpAny_pure ?_); show wpAny _ _ (call (.builtin "BaseException.__getattribute__") [.ref x, .str "__class__" t]) _ _ _
  refine wpAny_call (codeAny_call_builtin F.excAttr_ValueError.ga.plain F.entry_bexc_ga ?_)
  refine @check_slot (model prog w) _ _ ⟨hp, g, d, t + 1, os⟩ "BaseException.__getattribute__" "BaseException" "__getattribute__" (.ref x) [.str "__class__" t] [] _ (by decide +kernel) (by decide +kernel) sub (F.args_bexc_ga (.ref x) (.str "__class__" t)) ?_
  unfold Builtin.«object.__getattribute__»
  refine wpAny_bind (wpAny_of_eq (a := ((Value.ref x : Value), [Value.str "__class__" t])) (by first | rfl | (simp only [slotArgs]; rfl)) ?_)
  refine wpAny_bind (wpAny_pure (wpAny_bind (l0.at (wpAny_bind (l3.at ?_)))))
  show wpAny _ _ (holding [Value.builtin "object.__class__"] (call (.builtin "getset_descriptor.__get__") [.builtin "object.__class__", .ref x, .ref D]) >>= ret) _ _ _
  refine wpAny_bind (wpAny_holding (wpAny_call (class_get (s := ⟨hp, g, d, t + 1, os⟩) (ox := ox) (od := some od) X I C.hm ?_)))
  refine wpAny_pure ?_; show wpAny _ _ (handedOut (.ref D)) _ _ _
  rw [handedOut_of (v := .ref D) rfl]
  first
    | exact wpAny_pure (wpAny_pure h)
    | exact wpAny_pure h
    | exact wpAny_pure (wpAny_bind (wpAny_pure (wpAny_pure h)))
theorem kitx_exc (C : ExcC K D) : KitX K (.ref x) (.ref D) (fun h => InstAt h x ox D (some od)) where
  ty := fun _ _ _ I => I.type
  it := fun M h X _ => by
    obtain ⟨cd, hc, _⟩ := any_some C.hd
    unfold clsIn at hc
    split at hc
    · rename_i c' d' cd' sl' ho
      exact fun A' Q' E' s' k q => by
        unfold isType loadHead
        exact wpAny_bind (wpAny_loadPart (k _ _ (X _ _ ho)) (wpAny_pure q))
    · cases hc
  ne := fun h tp dd its n sl X htp => by
    obtain ⟨cd, hc, _⟩ := any_some C.hd
    refine Bool.eq_false_iff.mpr fun q => ?_
    have e : D = tp := Value.ref.inj (beq_iff_eq.mp q)
    subst e
    unfold clsIn at hc
    split at hc
    · rename_i c' d' cd' sl' ho
      have z := (X _ _ ho).symm.trans htp
      cases z
    · cases hc
  ca := fun X I k => cls_of_exc C X I k
end
/-- data, or a kept exception: its type -/
def TyE (K : PySem.W.Frag) (H : Hp) (x : V) (t : Value) : Prop := TyX K H x t ∨ ∃ a d D f u, x = .ref a ∧ H a = some (XoH a (.ref D) d) ∧ H d = some (.xd [(f, u)]) ∧ ExcC K D ∧ t = .ref D
section
variable {X : Cx} {pins : List (Addr × Obj)} {σ : L2.St} {H : Hp} {s : Shared}
theorem xo_inst {a d D : Addr} {f : Str} {u : V} (I : Inv X pins σ H s) (ha : H a = some (XoH a (.ref D) d)) (hd : H d = some (.xd [(f, u)])) : ∃ ox od, PySem.W.InstAt s.heap a ox D (some od) ∧ ∃ w, PySem.W.lookIn f od = some (some w) ∧ RelV u w := by
  obtain ⟨⟨ox, vs, e1, e2, e3, e4⟩, _⟩ := (show ObjOk X.prog X.w H s.heap a (XoH a (.ref D) d) from I.hok a _ ha)
  obtain ⟨mA, hn, hr⟩ := (show ObjOk X.prog X.w H s.heap d (.xd [(f, u)]) from I.hok d _ hd)
  obtain ⟨od, ho, hl⟩ := lookIn_ns hn
  have r := hr f
  have el : ([(f, u)] : List (Str × V)).lookup f = some u := by simp [List.lookup]
  rw [el] at r
  cases em : mA f with
  | none => rw [em] at r; exact r.elim
  | some w =>
    rw [em] at r
    refine ⟨ox, od, ⟨e1, e2, by unfold PySem.W.notCls; rw [e4] <;> rfl, by rw [e3]; exact ho⟩, w, by rw [hl f, em], r⟩
theorem kit_ofE {x : V} {u t : Value} (I : Inv X pins σ H s) (rx : RelV x u) (ty : TyE X.K H x t) : ∃ P : Heap → Prop, PySem.W.KitX X.K u t P ∧ P s.heap ∧ u ≠ .builtin "__main__.__loader__#opaque" := by
  rcases ty with ty | ⟨a, d, D, f, u', rfl, ha, hd, C, rfl⟩
  · exact kit_of I rx ty
  · cases (show u = Value.ref a from rx)
    obtain ⟨ox, od, J, _⟩ := xo_inst I ha hd
    exact ⟨_, kitx_exc C, J, fun z => nomatch z⟩
def rE1 (K : PySem.W.Frag) : List V → Hp → VK → Prop := fun xs H Q => ∃ (x c : V) (t u : Value) (b : Bool), xs = [x, c] ∧ ClsV c u ∧ TyE K H x t ∧ PySem.W.kitOne K t u = some b ∧ Q (.bl b) H
theorem call_e1 : CallR X (.builtin "isinstance") (rE1 X.K) := by
  intro pins s σ H xs us Q I r h
  obtain ⟨x, c, t, u, b, rfl, kc, ty, e, q⟩ := h
  obtain ⟨u1, u2, rfl, r1, r2⟩ := vals2 r
  have e2 := kc.eq r2
  subst e2
  obtain ⟨P, Z, p, hx⟩ := kit_ofE I r1 ty
  exact PySem.W.kia_one Z I.kIn p e hx fun tk => ⟨.bl b, H, I.tok tk, rfl, q⟩
end
/-- isinstance: of a kept exception, or of None -/
def pIsE (f : Nat → Option Bool) : P1 := fun d S => match d with
  | .d (.exc c _) => (match f c with
    | some b => some (.d (.bl b), S)
    | none => none)
  | .d .non => some (.d (.bl false), S)
  | _ => none
/-- the field of a kept exception -/
def pExf (f : Nat → Bool) : P1 := fun d S => match d with
  | .d (.exc c [t]) => if f c = true then some (.d t, S) else none
  | _ => none
section
variable {X : Cx} {G : Gs} {W : WX} {k : Nat} {e T : Expr} {es : List Expr} {p pos tpos : Pos} {m : M Dv} {f : Nat → Option Bool}
theorem ty_exc {A : Al} {H : Hp} {S : Sto} {c : Nat} {xs : List Dt} {v : V} {fn : Str} (r : RV G A H (.exc c xs) v) (hx : Exk G c fn) : TyE G.K H v (G.exc c) := by
  obtain ⟨a, d, f, u, rfl, _, _, ha, hd, _, _⟩ := r
  obtain ⟨D, eD, C, _⟩ := hx.cl
  rw [eD] at ha ⊢
  exact .inr ⟨a, d, D, f, u, rfl, ha, hd, C, rfl⟩
theorem e_isE {u : Value} {c0 : V} (hK : G.K = X.K) (hg : Gl X "isinstance") (hm : X.mg "isinstance" = none) (hc : ClsV c0 u) (hf : ∀ c b, f c = some b → (∃ fn, Exk G c fn) ∧ PySem.W.kitOne G.K (G.exc c) u = some b) (hnn : PySem.W.kitOne G.K (.type "NoneType") u = some false)
    (he : PE X e (tM G W m)) (hT : PE X T (tC c0)) (hs : starEach [e, T] X.env = (false, eval e X.env) :: starEach [T] X.env) (hs2 : starEach [T] X.env = (false, eval T X.env) :: starEach [] X.env)
    (hpl : (backTo pos (starEach [T] X.env)).any (·.1) = false) : PE X (.Call (.Name "isinstance" p) [e, T] [] pos) (tM G W (m1 (pIsE f) m)) := by
  refine (pe_callB call_e1 hg hm PyProof.Rows.boot_isinstance (pa_cons he (pa_cons hT pa_nil hs2) hs) (by decide) (by decide) hs hpl).sm fun σ H Q h => ?_
  obtain ⟨A, ρ, S, he, hs, p0⟩ := h
  refine ⟨A, ρ, S, he, hs, Po.step p0 fun d S1 A1 H1 x1 s1 q1 v rv => ?_⟩
  unfold pIsE at q1
  split at q1
  · rename_i c xs
    split at q1
    · rename_i b eb
      obtain ⟨⟨fn, hx⟩, hk⟩ := hf c b eb
      have ty := ty_exc (S := S1) rv hx
      rw [hK] at ty hk
      exact ⟨v, c0, _, u, b, rfl, hc, ty, hk, Po.now q1 s1 (.bl b) rfl⟩
    · exact q1.elim
  · obtain rfl : v = .non := rv
    rw [hK] at hnn
    exact ⟨.non, c0, _, u, false, rfl, hc, .inl (.base .non), hnn, Po.now q1 s1 (.bl false) rfl⟩
  · exact q1.elim
theorem e_exf {fn : Str} {g : Nat → Bool} (hK : G.K = X.K) (hf : ∀ c, g c = true → Exk G c fn) (he : PE X e (tM G W m)) (hb : attributeBase e fn X.env (eval e X.env) = eval e X.env) : PE X (.Attribute e fn pos) (tM G W (m1 (pExf g) m)) := by
  refine ⟨fun pins s σ H Q I h => ?_⟩
  obtain ⟨A, ρ, S, er, sr, p0⟩ := h
  refine attr_of hb (thn (he.run pins s σ H (fun v H1 => ∃ a d D u, v = .ref a ∧ H1 a = some (XoH a (.ref D) d) ∧ H1 d = some (.xd [(fn, u)]) ∧ ExcC G.K D ∧ PySem.W.findIn G.K (.ref D) fn = some none ∧ Q u H1) I ⟨A, ρ, S, er, sr, Po.step p0 fun d S1 A1 H1 x1 s1 q1 v rv => ?_⟩) fun u0 s1 hh => ?_)
  · unfold pExf at q1
    split at q1
    · rename_i c t
      split at q1
      · rename_i hg
        have hx := hf c hg
        obtain ⟨a, dd, f, u, rfl, na, nd, ha, hd, ef, rt⟩ := (show RV G A1 H1 (.exc c [t]) v from rv)
        rw [hx.fl] at ef
        cases ef
        obtain ⟨D, eD, C, hn⟩ := hx.cl
        rw [eD] at ha
        obtain ⟨u1, r1, e1, r2, r3⟩ := rt
        cases e1
        exact ⟨a, dd, D, u, rfl, ha, hd, C, hn, Po.now q1 s1 u r2⟩
      · exact q1.elim
    · exact q1.elim
  · obtain ⟨v, H1, I1, rx, a, d, D, u, rfl, ha, hd, C, hn, q⟩ := hh
    obtain rfl : u0 = Value.ref a := rx
    obtain ⟨ox, od, J, w, hl, rw'⟩ := xo_inst I1 ha hd
    rw [hK] at C hn
    exact HandSPX.exc_get I1.kIn J C.hg C.hk C.hs (PySem.W.findObj_own C.hd hn rfl hl) (handed_of rw') ⟨u, H1, I1.tok _, rw', q⟩
end
end Sm
set_option maxHeartbeats 1000000
/-! Ex6: the rules of exceptions as the printed walks use them. -/
namespace Sm
open PySem PySem.Spec PyProof.Rows L2
/-- answers by class number -/
def tbl (l : List Bool) : Nat → Option Bool := fun c => l[c]?
def tblT (l : List Bool) : Nat → Bool := fun c => l.getD c false
def orL (a b : List Bool) : List Bool := List.zipWith (· || ·) a b
/-- how an except clause answers for one class, for several -/
def ExmR (G : Gs) (bs : List Bool) (u : Value) : Prop := ∀ c b, tbl bs c = some b → PySem.W.exmOne G.K (G.exc c) u = some b
def HitR (G : Gs) (bs : List Bool) (us : List Value) : Prop := ∀ c b, tbl bs c = some b → PySem.W.exmAny G.K (G.exc c) us = some b
/-- how isinstance answers -/
def KitR (G : Gs) (bs : List Bool) (u : Value) : Prop := (∀ c b, tbl bs c = some b → PySem.W.kitOne G.K (G.exc c) u = some b) ∧ PySem.W.kitOne G.K (.type "NoneType") u = some false
def ExkR (G : Gs) (n : Nat) (fs : List Str) : Prop := ∀ c, c < n → ∃ f, fs[c]? = some f ∧ Exk G c f
section
variable {G : Gs} {a b : List Bool} {u : Value} {us : List Value}
theorem tbl_or {c : Nat} {x : Bool} (h : tbl (orL a b) c = some x) : ∃ y z, tbl a c = some y ∧ tbl b c = some z ∧ x = (y || z) := by
  unfold tbl orL at *
  rw [List.getElem?_zipWith] at h
  cases ea : a[c]? with
  | none => rw [ea] at h; cases h
  | some y =>
    cases eb : b[c]? with
    | none => rw [ea, eb] at h; cases h
    | some z =>
      rw [ea, eb] at h
      cases h
      exact ⟨y, z, rfl, rfl, rfl⟩
theorem hitR_nil {n : Nat} : HitR G (List.replicate n false) [] := fun c b h => by
  unfold tbl at h
  rw [List.getElem?_replicate] at h
  split at h
  · cases h
    rfl
  · cases h
theorem hitR_cons (h : ExmR G a u) (k : HitR G b us) : HitR G (orL a b) (u :: us) := fun c x e => by
  obtain ⟨y, z, e1, e2, rfl⟩ := tbl_or e
  have h1 := h c y e1
  have h2 := k c z e2
  unfold PySem.W.exmAny
  rw [h1, h2]
  try rfl
end
section
open PySem.W
variable {K : Frag} {t : Value} {C : Addr} {b : Bool}
theorem kit_own (hd : hasDictIn K C = true) (ht : typeIn K (.ref C) = some (.type "type")) (ss : subIn K (.ref C) (.ref C) = some true) (hs : subIn K t (.ref C) = some b) : kitOne K t (.ref C) = some b := by
  unfold kitOne
  by_cases q : (t == .ref C) = true
  · rw [if_pos q]
    have e : t = .ref C := beq_iff_eq.mp q
    rw [e, ss] at hs
    exact hs
  · rw [if_neg q]
    unfold kitCls
    obtain ⟨cd, hc, _⟩ := any_some hd
    have e2 : ((clsIn K C).isSome && typeIn K (.ref C) == some (.type "type")) = true := by rw [hc, ht] <;> rfl
    dsimp only
    rw [if_pos e2]
    exact hs
theorem kit_typ {T : String} (hm : kitMeta T = true) (hn : (t == .type T) = false) (hs : subIn K t (.type T) = some b) : kitOne K t (.type T) = some b := by
  unfold kitOne
  rw [if_neg (by rw [hn]; decide)]
  unfold kitCls
  dsimp only
  rw [if_pos hm]
  exact hs
theorem along_L (K : Frag) : alongIn K "__init__" [.type "LookupError", .type "Exception", .type "BaseException", .type "object"] = some (some (.builtin "LookupError.__init__")) := by kernel_rfl
end
section
variable {X : Cx} {G : Gs} {W : WX} {k : Nat} {e : Expr} {x : Str} {p pos pos' tpos : Pos} {m : M Dv} {bs : List Bool}
theorem yraise {c : Nat} (B : Bx X G W k) (hk : 1 ≤ k) (Z : Rsx X.prog G X.mg x c) (he : PE X e (tM G W m)) (hg : Gl X x := by rfl) (hdb : (x == ("__debug__" : Str)) = false := by decide)
    (hs : starEach [e] X.env = (false, eval e X.env) :: starEach [] X.env := by rfl) : PS X (.Raise (some (.Call (.Name x p) [e] [] pos)) none pos') (tMS G W (sRaise c m)) :=
  ps_raiseX (k := 0) (B.le hk) Z hg he hdb hs
theorem ynm {c : Value} (hm : X.mg x = some c) (hg : Gl X x := by rfl) (hd : (x == ("__debug__" : Str)) = false := by decide) : Names X x c := ⟨hg, hd, .inl hm⟩
theorem ytry {es : List Expr} {cs : List Value} {n v : Str} {kx : Nat} {body : List Stmt} {np p1 p2 p3 : Pos} {mb : SM} {fs : List Str} (i j : Nat) (B : Bx X G W k) (nm : NmL X es cs) (hh : HitR G bs cs) (hx : ExkR G bs.length fs)
    (hb : ∀ (W' : WX) (pn : List (Addr × Obj)) (xe : Value → Shared → Prop), Bx (X.tr pn xe) G W' k → PassesOwn (model X.prog X.w) X.A X.env xe → PSs (X.tr pn xe) body (tMS G W' mb))
    (hle : es.length ≤ 1000 := by decide) (hs : X.stack = X.env :: X.outer := by rfl) (hf : X.env.frame = some X.env.locals := by rfl) (hi : X.N[i]? = some n := by rfl) (hln : X.env.kindOf n = some .local := by rfl) (hj : X.N[j]? = some v := by rfl) (hlv : X.env.kindOf v = some .local := by rfl)
    (nn : (n == ("__debug__" : Str)) = false := by decide) (ncd : (n == ("__classdict__" : Str)) = false := by decide) (hsw : swapsWith (.Name n p2) (some (.Name v p1)) p3.line X.env = pure false := by rfl) :
    PS X (.Try body [.ExceptHandler (some (.Tuple es kx np)) (some n) [.Assign [.Name v p1] (.Name n p2) p3] pos'] [] [] pos) (tMS G W (sTry (tbl bs) i j mb)) := by
  refine s_try B hs hf hi hln hj hlv nm hle hh (fun c hc => ?_) hb nn ncd hsw
  unfold tbl at hc
  obtain ⟨f, _, z⟩ := hx c (List.getElem?_eq_some_iff.mp hc).1
  exact ⟨f, z.fl⟩
theorem xglR {C : Addr} (hm : X.mg x = some (.ref C)) (hg : Gl X x := by rfl) (hd : (x == ("__debug__" : Str)) = false := by decide) : PE X (.Name x p) (tC (.ref C)) := pe_glob hg hm rfl hd
theorem xisE {T : Expr} {u : Value} {c0 : V} {fs : List Str} (B : Bx X G W k) (hm : X.mg "isinstance" = none) (hc : ClsV c0 u) (hr : KitR G bs u) (hx : ExkR G bs.length fs) (he : PE X e (tM G W m)) (hT : PE X T (tC c0)) (hg : Gl X "isinstance" := by rfl)
    (hs : starEach [e, T] X.env = (false, eval e X.env) :: starEach [T] X.env := by rfl) (hs2 : starEach [T] X.env = (false, eval T X.env) :: starEach [] X.env := by rfl) (hpl : (backTo pos (starEach [T] X.env)).any (·.1) = false := by rfl) :
    PE X (.Call (.Name "isinstance" p) [e, T] [] pos) (tM G W (m1 (pIsE (tbl bs)) m)) := by
  refine e_isE B.hK hg hm hc (fun c b h => ⟨?_, hr.1 c b h⟩) hr.2 he hT hs hs2 hpl
  obtain ⟨f, _, z⟩ := hx c (List.getElem?_eq_some_iff.mp (show bs[c]? = some b from h)).1
  exact ⟨f, z⟩
theorem xexf {fn : Str} {fs : List Str} (B : Bx X G W k) (hx : ExkR G bs.length fs) (ht : ∀ c, tblT bs c = true → fs[c]? = some fn) (he : PE X e (tM G W m)) (hb : attributeBase e fn X.env (eval e X.env) = eval e X.env := by rfl) :
    PE X (.Attribute e fn pos) (tM G W (m1 (pExf (tblT bs)) m)) := by
  refine e_exf B.hK (fun c hc => ?_) he hb
  have lt : c < bs.length := by
    unfold tblT at hc
    by_cases h : c < bs.length
    · exact h
    · simp [List.getD, List.getElem?_eq_none (Nat.le_of_not_lt h)] at hc
  obtain ⟨f, ef, z⟩ := hx c lt
  have := ht c hc
  rw [ef] at this
  cases this
  exact z
end
end Sm
/-! HeM: a sheet that raises NoHousehold (class number 0). -/
namespace He
open PySem PySem.Spec PyProof.Rows L2 Sm Hn
end He
/-! more mirrors of swaps, and of what the laws on them share -/
namespace Hn
open PySem PySem.Spec PyProof.Rows L2 Sm
end Hn
/-! HyM: parts, shared. -/
namespace Hn
open PySem PySem.Spec PyProof.Rows L2 Sm
end Hn
/-! HzM: a law that is a loop. -/
namespace Hn
open PySem PySem.Spec PyProof.Rows L2 Sm
def b_Calendar_init : SM := sSeq (sSet 2 (mF (F_tupled 8) (aCons (mV 1) (aNil))))
    (sSeq (sSet 3 (mN pLst (mLcI [4, 5, 6] (iSeq (mV 2)) (gT (gsCons (gN 4) (gsCons (gN 5) (gsCons (gN 6) (gsNil))))) (mTst (m2 pLt (mV 6) (mV 5))) (mV 4))))
    (sSeq (sIf (mTst (m2 pGt (mN pLen (aCons (mV 3) (aNil))) (mC (.int 0)))) (sBad) (sNil))
    (sFld 2 0 (mV 0) (mDc pDct [4, 5, 6] (iSeq (mV 2)) (gT (gsCons (gN 4) (gsCons (gN 5) (gsCons (gN 6) (gsNil))))) (cYes) (mV 4) (mN pTup (aCons (mV 5) (aCons (mV 6) (aNil))))))))
def R_Calendar_init : FM := runB 7 2 b_Calendar_init
def F_Calendar_init : FM := R_Calendar_init
def b__law_of : SM := sRet (m2 pIx (mV 1) (mF F__law_take (aCons (mV 0) (aCons (mN pLen (aCons (mV 1) (aNil))) (aNil)))))
def R__law_of : FM := runB 2 2 b__law_of
def F__law_of : FM := view (R__law_of)
end Hn
/-! HrM: mirrors of rings and rows: Sheet as data, Choice, and what the laws on them share. -/
namespace Hr
open PySem PySem.Spec PyProof.Rows L2 Sm Hn
end Hr
/-! Sm49: len(set(x)) of texts. -/
namespace Sm
open PySem PySem.Spec PyProof.Rows L2
section
variable {X : Cx} {G : Gs} {W : WX} {k : Nat}
end
end Sm
/-! Sm50: zip of a tuple and a list. -/
namespace Sm
open PySem PySem.Spec PyProof.Rows L2
end Sm
/-! Sm51: tuples that surely have no dict of their own: their display, their methods. -/
namespace Sm
open PySem PySem.Spec PyProof.Rows L2
section
variable {X : Cx} {G : Gs} {W : WX} {k : Nat} {es : List Expr} {e o : Expr} {pos apos cpos : Pos}
/-! ### methods -/
end
end Sm
/-! Sm52: min of texts. -/
namespace Sm
open PySem PySem.Spec PyProof.Rows L2
section
variable {X : Cx} {G : Gs} {W : WX} {k : Nat}
end
end Sm
/-! Sm53: tuple(x) whose tuple has no dict. -/
namespace Sm
open PySem PySem.Spec PyProof.Rows L2
section
variable {X : Cx} {G : Gs} {W : WX} {k : Nat}
end
end Sm
/-! Sm54: dict(t), t a tuple of pairs without a dict of its own. -/
namespace Sm
open PySem PySem.Spec PyProof.Rows L2
section
variable {X : Cx} {G : Gs} {W : WX} {k : Nat}
end
end Sm
/-! Sm55: data with such tuples within, read as plain data. -/
namespace Sm
open PySem PySem.Spec PyProof.Rows L2
section
variable {X : Cx} {G : Gs} {W : WX} {k : Nat} {e : Expr} {A : Al} {H : Hp}
end
end Sm
/-! Sm56 (printed by Sm56.py from Sm45): tuple(d.items()) that makes a tuple without a dict. -/
namespace Sm
open PySem PySem.Spec PyProof.Rows L2
section
variable {X : Cx} {G : Gs} {W : WX} {kk : Nat} {e : Expr} {apos cpos : Pos}
end
end Sm
/-! Sm57: a tuple without a dict whose parts are read as plain data; a call whose answer is read as plain data. -/
namespace Sm
open PySem PySem.Spec PyProof.Rows L2
section
variable {X : Cx} {G : Gs} {W : WX} {k : Nat} {e : Expr} {A : Al} {H : Hp}
end
end Sm
/-! Sm58: call of an instance by its own method; isinstance of own classes; sum(d.values()). -/
namespace Sm
open PySem PySem.Spec PyProof.Rows L2
section
variable {X : Cx} {G : Gs} {W : WX} {k n : Nat} {f : Addr} {F : FM} {c : Nat} {pos : Pos} {e fe : Expr} {es : List Expr} {mo : M Dv} {ma : M (List Dv)}
end
/-! ### isinstance of own classes -/
/-- a slotted class whose instances may be asked for their class -/
structure ClK (K : PySem.W.Frag) (C : Addr) : Prop where
  cl : SlX.SCls K C
  ha : PySem.W.findIn K (.ref C) "__class__" = some (some (.builtin "object.__class__"))
  hn : PySem.W.specialIn K (.builtin "object.__class__") "__get__" = some (some (.builtin "getset_descriptor.__get__"))
  htk : PySem.W.takesIn K (.builtin "object.__class__") = some true
  hm : PySem.W.mroIn K C (.type "object") = some true
theorem kitx_slt {K : PySem.W.Frag} {x D : Addr} {ox od : Obj} (c : ClK K D) : PySem.W.KitX K (.ref x) (.ref D) (fun h => PySem.W.InstAt h x ox D (some od)) where
  ty := fun _ _ _ I => I.type
  it := fun _ _ X _ => by
    obtain ⟨cdD, hcD⟩ := Option.isSome_iff_exists.mp (show (PySem.W.clsIn K D).isSome = true from c.cl.ic)
    unfold PySem.W.clsIn at hcD
    split at hcD
    · rename_i c' d' cd' sl' ho
      intro A' Q' E' s' k q
      unfold isType loadHead
      exact wpAny_bind (wpAny_loadPart (k _ _ (X _ _ ho)) (wpAny_pure q))
    · cases hcD
  ne := fun h tp dd its n sl X htp => by
    obtain ⟨cdD, hcD⟩ := Option.isSome_iff_exists.mp (show (PySem.W.clsIn K D).isSome = true from c.cl.ic)
    refine Bool.eq_false_iff.mpr fun q => ?_
    have e : D = tp := Value.ref.inj (beq_iff_eq.mp q)
    subst e
    unfold PySem.W.clsIn at hcD
    split at hcD
    · rename_i c' d' cd' sl' ho
      have z := (X _ _ ho).symm.trans htp
      cases z
    · cases hcD
  ca := fun {prog w A E Q s} X I h => by
    have hf : PySem.W.findObj K D (some od) "__class__" = some (.bind (.builtin "getset_descriptor.__get__") (.builtin "object.__class__")) := PySem.W.findObj_data c.cl.ic c.ha c.hn c.htk
    exact PySem.W.kin_open X I (PySem.W.plainGet_of (c.cl.get "__class__")).1 (PySem.W.kin_hooked (s := { s with toks := s.toks + 1 }) X I hf (PySem.W.plainGet_of (c.cl.get "__class__")).2
      (wpAny_call (PySem.W.class_get (s := { s with toks := s.toks + 1 }) (ox := ox) (od := some od) X I c.hm (PySem.W.handed_on rfl h))))
/-- of n own classes: c among them -/
structure IsC (G : Gs) (n c : Nat) : Prop where
  own : ∀ c', c' < n → ClK G.K (G.cls c') ∧ PySem.W.kitOne G.K (.ref (G.cls c')) (.ref (G.cls c)) = some (c' == c)
  ty : ∀ T ∈ tyL, PySem.W.kitOne G.K (.type T) (.ref (G.cls c)) = some false
theorem kit_ownS {K : PySem.W.Frag} {C : Addr} {t : Value} {b : Bool} (ic : PySem.W.isClsIn K C = true) (ht : PySem.W.typeIn K (.ref C) = some (.type "type")) (ss : PySem.W.subIn K (.ref C) (.ref C) = some true) (hs : PySem.W.subIn K t (.ref C) = some b) : PySem.W.kitOne K t (.ref C) = some b := by
  unfold PySem.W.kitOne
  by_cases q : (t == .ref C) = true
  · rw [if_pos q]
    have e : t = .ref C := beq_iff_eq.mp q
    rw [e, ss] at hs
    exact hs
  · rw [if_neg q]
    unfold PySem.W.kitCls
    have e2 : ((PySem.W.clsIn K C).isSome && PySem.W.typeIn K (.ref C) == some (.type "type")) = true := by
      rw [ht, show (PySem.W.clsIn K C).isSome = true from ic]
      rfl
    dsimp only
    rw [if_pos e2]
    exact hs
def pIsaC (n c : Nat) : P1 := fun d S => match d with
  | .d (.obj c' _) => if c' < n then some (.d (.bl (c' == c)), S) else none
  | .d (.ntp _) => some (.d (.bl false), S)
  | .loc m => (match S[m]? with
    | some (.ins c' _) => if c' < n then some (.d (.bl (c' == c)), S) else none
    | some (.lst _) => some (.d (.bl false), S)
    | some (.dct _ _) => some (.d (.bl false), S)
    | _ => none)
  | d => (match tyDv S d with
    | some _ => some (.d (.bl false), S)
    | none => none)
section
variable {X : Cx} {G : Gs} {W : WX} {k n c : Nat} {p pos : Pos} {e T : Expr} {m : M Dv}
/-- x is of such a kind that isinstance(x, u) is b -/
def Isk (G : Gs) (H : Hp) (x : V) (u : Value) (b : Bool) : Prop := (∃ t, TyX G.K H x t ∧ PySem.W.kitOne G.K t u = some b) ∨ ∃ a C dx ws, x = .ref a ∧ SlX.Slt H a C dx ws ∧ ClK G.K C ∧ PySem.W.kitOne G.K (.ref C) u = some b
theorem call_isC (hK : G.K = X.K) : CallR X (.builtin "isinstance") (fun xs H Q => ∃ x c0 u b, xs = [x, c0] ∧ ClsV c0 u ∧ Isk G H x u b ∧ Q (.bl b) H) := by
  intro pins s σ H xs us Q I r h
  obtain ⟨x, c0, u, b, rfl, kk, ik, q⟩ := h
  obtain ⟨u1, u2, rfl, r1, r2⟩ := vals2 r
  have e2 := kk.eq r2
  subst e2
  rcases ik with ⟨t, ty, e⟩ | ⟨a, C, dx, ws, rfl, hsl, cl, e⟩
  · rw [hK] at ty e
    obtain ⟨P, Z, p, hx⟩ := kit_of I r1 ty
    exact PySem.W.kia_one Z I.kIn p e hx fun tk => ⟨.bl b, H, I.tok tk, rfl, q⟩
  · rw [hK] at cl e
    obtain rfl : u1 = Value.ref a := r1
    obtain ⟨sl, od, _, J, _⟩ := SlX.slt_inst I hsl
    exact PySem.W.kia_one (kitx_slt cl) I.kIn J e (fun z => nomatch z) fun tk => ⟨.bl b, H, I.tok tk, rfl, q⟩
theorem isc_rd {A : Al} {S : Sto} {H : Hp} {d : Dv} {v : V} {b : Bool} {r : Dv} {S' : Sto} (hc : IsC G n c) (s : StR G A S H) (rv : RD G A H d v) (h : pIsaC n c d S = some (r, S')) : ∃ b, r = .d (.bl b) ∧ S' = S ∧ Isk G H v (.ref (G.cls c)) b := by
  unfold pIsaC at h
  split at h
  · split at h
    · rename_i c' xs hlt
      cases h
      obtain ⟨a, dx, ws, vs, rfl, _, _, _, hsl, _⟩ := rv
      exact ⟨_, rfl, rfl, .inr ⟨a, _, dx, ws, rfl, hsl, (hc.own c' hlt).1, (hc.own c' hlt).2⟩⟩
    · cases h
  · cases h
    obtain ⟨a, vs, rfl, ⟨⟨o, h1, _⟩, _⟩, _⟩ := rv
    exact ⟨_, rfl, rfl, .inl ⟨_, .fTuple h1, hc.ty "tuple" (by decide)⟩⟩
  · rename_i m
    split at h
    · rename_i c' fs em
      split at h
      · rename_i hlt
        cases h
        obtain ⟨a, dx, ws, rfl, _, _, hsl, _⟩ := loc_ins s rv em
        exact ⟨_, rfl, rfl, .inr ⟨a, _, dx, ws, rfl, hsl, (hc.own c' hlt).1, (hc.own c' hlt).2⟩⟩
      · cases h
    · rename_i em
      cases h
      obtain ⟨a, vs, rfl, _, hl, _⟩ := loc_lst s rv em
      exact ⟨_, rfl, rfl, .inl ⟨_, .base (.lst hl), hc.ty "list" (by decide)⟩⟩
    · rename_i em
      cases h
      obtain ⟨a, vs, rfl, _, hl, _⟩ := loc_dct s rv em
      exact ⟨_, rfl, rfl, .inl ⟨_, .base (.dK hl), hc.ty "dict" (by decide)⟩⟩
    · cases h
  · split at h
    · rename_i T et
      cases h
      obtain ⟨hL, ty⟩ := tyDv_rd s rv et
      exact ⟨_, rfl, rfl, .inl ⟨_, ty, hc.ty _ hL⟩⟩
    · cases h
theorem xisC (B : Bx X G W k) (hm : X.mg "isinstance" = none) (hc : IsC G n c) (he : PE X e (tM G W m)) (hT : PE X T (tC (.ref (G.cls c)))) (hg : Gl X "isinstance" := by rfl)
    (hs : starEach [e, T] X.env = (false, eval e X.env) :: starEach [T] X.env := by rfl) (hs2 : starEach [T] X.env = (false, eval T X.env) :: starEach [] X.env := by rfl) (hpl : (backTo pos (starEach [T] X.env)).any (·.1) = false := by rfl) :
    PE X (.Call (.Name "isinstance" p) [e, T] [] pos) (tM G W (m1 (pIsaC n c) m)) := by
  refine (pe_callB (call_isC B.hK) hg hm PyProof.Rows.boot_isinstance (pa_cons he (pa_cons hT pa_nil hs2) hs) (by decide) (by decide) hs hpl).sm fun σ H Q h => ?_
  obtain ⟨A, ρ, S, he, hs, p0⟩ := h
  refine ⟨A, ρ, S, he, hs, Po.step p0 fun d S1 A1 H1 x1 s1 p1 v rv => ?_⟩
  cases ei : pIsaC n c d S1 with
  | none => rw [ei] at p1; exact p1.elim
  | some q =>
    obtain ⟨r, S'⟩ := q
    rw [ei] at p1
    obtain ⟨b, rfl, rfl, ik⟩ := isc_rd (b := true) hc s1 rv ei
    exact ⟨v, .ref (G.cls c), .ref (G.cls c), b, rfl, .own _, ik, Po.now p1 s1 (.bl b) rfl⟩
end
/-! ### sum(d.values()) -/
section
variable {X : Cx} {G : Gs} {W : WX} {kk : Nat} {e : Expr} {apos cpos : Pos}
end
end Sm
/-! Sm59: t[::-1] of a tuple. -/
namespace Sm
open PySem PySem.Spec PyProof.Rows L2
section
variable {prog : Program} {w : World} {A : Around} {E : Value → Shared → Prop} {s : Shared}
end
section
variable {X : Cx} {G : Gs} {W : WX} {kk : Nat} {e : Expr}
end
end Sm
/-! Sm60: [*box, ..] of a live box. -/
namespace Sm
open PySem PySem.Spec PyProof.Rows L2
section
variable {X : Cx} {G : Gs} {W : WX} {p : Pos} {e : Expr} {es : List Expr} {ma : M (List Dv)} {mo : M Dv}
end
end Sm
set_option maxHeartbeats 1000000
/-! Sm61: a class made with *parts; classmethods. -/
namespace Sm
open PySem PySem.Spec PyProof.Rows L2
/-- a class, called by position; its __init__ takes any number -/
structure CalIV (P : Program) (w : World) (G : Gs) (mg : Str → Option Value) (base : Heap) (k c : Nat) (x : Str) (F : FM) : Prop where
  ex : ∃ f, mg x = some (.ref (G.cls c)) ∧ Mk G.K (G.cls c) f ∧ CallR' P w G mg base k f F
section
variable {X : Cx} {G : Gs} {W : WX} {k n : Nat} {f : Addr} {F : FM} {x : Str} {p pos sp_ : Pos} {e : Expr} {es : List Expr} {ma : M (List Dv)} {mo : M Dv} {c : Nat}
end
/-! ### classmethods: the class itself is of no matter -/
def SpC (G : Gs) (F : FM) : Sp := fun vs H Q E => ∃ v0 ws, vs = v0 :: ws ∧ SpM G F ws H Q E
section
variable {P : Program} {w : World} {G : Gs} {mg : Str → Option Value} {base : Heap}
/-- C.m(..) -/
structure CalC (P : Program) (w : World) (G : Gs) (mg : Str → Option Value) (base : Heap) (k c : Nat) (x m : Str) (n : Nat) (F : FM) : Prop where
  ex : ∃ mc q g, mg x = some (.ref (G.cls c)) ∧ ClX.CRead G.K (G.cls c) mc ∧ ClX.CMet G.K (G.cls c) mc m q g ∧ FnR P w G.K mg base (L2.CX P w) k g (SpC G F)
theorem FnOk.cls {k : Nat} {f : Addr} {fd : FuncData} {ps : List Str} {F : FM} (h : FnOk P w G.K mg base (L2.CX P w) k f fd ps (SpC G F)) (hb : Binds G.K fd ps []) : FnR P w G.K mg base (L2.CX P w) k f (SpC G F) := by
  have := h.raw hb .nil
  simpa using this
theorem SpC.iso {F : FM} {vs : List V} {H : Hp} {Q : VK} {E : XK} (h : SpC G (iso F) vs H Q E) : SpC G F vs H Q E := by
  obtain ⟨v0, ws, e, q⟩ := h
  exact ⟨v0, ws, e, SpM.iso q⟩
theorem FnR.isoC {k : Nat} {f : Addr} {F : FM} (h : FnR P w G.K mg base (L2.CX P w) k f (SpC G F)) : FnR P w G.K mg base (L2.CX P w) k f (SpC G (Sm.iso F)) := h.imp fun _ _ _ _ q => q.iso
end
section
variable {X : Cx} {G : Gs} {W : WX} {k n : Nat} {f : Addr} {F : FM} {x m : Str} {p pos apos : Pos} {e : Expr} {es : List Expr} {ma : M (List Dv)} {c : Nat}
end
end Sm
set_option maxHeartbeats 1000000
/-! Sm62: {k: v for x in a for y in b}: the walk. -/
namespace Sm
open PySem PySem.Spec PyProof.Rows L2
section
variable {prog : Program} {w : World} {A : Around} {R : Result → Shared → Prop} {s : Shared} {kx vx t0 i0 t1 i1 : Expr} {ifs0 ifs1 : List Expr} {scope : Scope} {pos : Pos} {it : Value} {D : Addr} {env : PySem.Env}
end
section
variable {X : Cx}
end
end Sm
set_option maxHeartbeats 1000000
/-! Sm63: {k: v for x in a for y in b}: its mirror; zip as the inner source. -/
namespace Sm
open PySem PySem.Spec PyProof.Rows L2
section
variable {X : Cx} {G : Gs} {W : WX} {kk : Nat} {kx vx tg iter tg1 iter1 : Expr} {ifs ifs1 : List Expr} {scope : Scope} {own : List (Str × Nat)} {pos : Pos} {it it1 : M (List Dt)} {g g1 : GM} {t t1 : TG} {L L1 : List Nat} {cm cm1 : M Bool} {ek ev : M Dv}
/-! ### zip as the inner source -/
end
end Sm
/-! Sm64: l.extend(t) of a tuple; d.get(k); an instance called by a keyword. -/
namespace Sm
open PySem PySem.Spec PyProof.Rows L2
open Sem (wp)
section
variable {X : Cx} {G : Gs}
end
/-! ### d.get(k) -/
section
variable {X : Cx} {G : Gs} {W : WX} {kk : Nat} {e e2 : Expr}
end
end Sm
/-! Sm65: an instance called by keywords alone. -/
namespace Sm
open PySem PySem.Spec PyProof.Rows L2
/-- __call__ by keywords -/
structure CalDK (P : Program) (w : World) (G : Gs) (mg : Str → Option Value) (base : Heap) (k c : Nat) (x : Str) (ks : List Str) (F : FM) : Prop where
  ex : ∃ f, SlX.SCls G.K (G.cls c) ∧ Meth G.K (G.cls c) x f ∧ PySem.W.fnIn G.K f = true ∧ CallW P w G mg base k f 1 ks F
section
variable {X : Cx} {G : Gs} {W : WX} {k : Nat} {f : Addr} {F : FM} {c : Nat} {pos : Pos} {fe : Expr} {mo : M Dv} {mk : M (List Dv)} {kws : List Keyword} {ks : List Str}
end
end Sm
/-! Sm66: sorted(.., reverse=True) of whole numbers. -/
namespace Sm
open PySem PySem.Spec PyProof.Rows L2
section
variable {X : Cx} {G : Gs} {W : WX} {k : Nat} {a : Expr} {p pos q kp : Pos} {j : Nat} {m : M Dv}
end
end Sm
/-! Sm67: max(.., default=0) of whole numbers; min of tuples of texts. -/
namespace Sm
open PySem PySem.Spec PyProof.Rows L2
section
variable {X : Cx} {G : Gs} {W : WX} {k : Nat} {a : Expr} {p pos q kp : Pos} {j : Nat} {m : M Dv}
end
end Sm
/-! Sm68: min of tuples of texts. -/
namespace Sm
open PySem PySem.Spec PyProof.Rows L2
section
variable {X : Cx} {G : Gs} {W : WX} {k : Nat}
end
end Sm
/-! Sm78: min of pairs of whole numbers. -/
namespace Sm
open PySem PySem.Spec PyProof.Rows L2
section
variable {X : Cx} {G : Gs} {W : WX} {k : Nat}
end
end Sm
/-! Sm73: x = [.. for .. in .. for .. in ..]. -/
namespace Sm
open PySem PySem.Spec PyProof.Rows L2
section
variable {X : Cx} {G : Gs} {W : WX} {kk : Nat} {elt tg iter tg1 iter1 : Expr} {ifs ifs1 : List Expr} {scope : Scope} {own : List (Str × Nat)} {pos : Pos} {it : M (List Dt)} {g g1 : GM} {t t1 : TG} {L L1 : List Nat} {cm cm1 em' : M Bool} {em it1 : M Dv}
end
end Sm
/-! Sm74: {} as data. -/
namespace Sm
open PySem PySem.Spec PyProof.Rows L2
section
variable {X : Cx} {G : Gs} {W : WX}
end
end Sm
/-! Sm72: isinstance of an own class, the classes' numbers being any. -/
namespace Sm
open PySem PySem.Spec PyProof.Rows L2
/-- of some own classes: c among them -/
structure IsCL (G : Gs) (l : List Nat) (c : Nat) : Prop where
  own : ∀ c', c' ∈ l → ClK G.K (G.cls c') ∧ PySem.W.kitOne G.K (.ref (G.cls c')) (.ref (G.cls c)) = some (c' == c)
  ty : ∀ T ∈ tyL, PySem.W.kitOne G.K (.type T) (.ref (G.cls c)) = some false
def pIsaL (l : List Nat) (c : Nat) : P1 := fun d S => match d with
  | .d (.obj c' _) => if c' ∈ l then some (.d (.bl (c' == c)), S) else none
  | .d (.ntp _) => some (.d (.bl false), S)
  | .loc m => (match S[m]? with
    | some (.ins c' _) => if c' ∈ l then some (.d (.bl (c' == c)), S) else none
    | some (.lst _) => some (.d (.bl false), S)
    | some (.dct _ _) => some (.d (.bl false), S)
    | _ => none)
  | d => (match tyDv S d with
    | some _ => some (.d (.bl false), S)
    | none => none)
section
variable {X : Cx} {G : Gs} {W : WX} {k c : Nat} {l : List Nat} {p pos : Pos} {e T : Expr} {m : M Dv}
end
end Sm
set_option maxHeartbeats 1000000
/-! Sm79: x == y, x != y, x + y, x - y by methods of own classes; x[i] = v by an own method; methods and classes called by keywords alone. -/
namespace Sm
open PySem PySem.Spec PyProof.Rows L2
/-! ### the kit's side: != by an own __eq__ -/
section
variable {prog : Program} {w : World} {A : Around} {E : Value → Shared → Prop} {s : Shared} {K : PySem.W.Frag} {x C L f : Addr} {h₀ : Heap} {m : Str → Option Value} {ox : Obj} {od : Option Obj} {b tb : Value}
open PySem.W PySem.Calls in
theorem ne_own {Q : Value → Shared → Prop} (hu : A.units + 1 < cLine) (X : K.In s.heap) (I : InstAt s.heap x ox C od) (hb : Looks (model prog w) s.heap (typeOf b) tb) (hn : notFirst K C tb = true)
    (hs : findIn K (.ref C) "__eq__" = some (some (.ref f))) (hf : isFn K (.ref f) = true) (hne : findIn K (.ref C) "__ne__" = some (some (.builtin "object.__ne__"))) (hso : subIn K (.ref C) (.type "object") = some true)
    (h : wpAny (model prog w) A.in1 (call (.ref f) [.ref x, b]) (fun v s' => ∃ r, v = .bool r ∧ Q (.bool (!r)) s') E s) : wpAny (model prog w) A (richCompare .NotEq (.ref x) b) Q E s := by
  have hi : Looks (model prog w) s.heap (isInstance (.ref x) (.type "object")) true := fun A Q E s' k q => by
    unfold isInstance
    exact wpAny_bind ((I.type.keeps k).here ((looks_subIn (X.keeps k) hso).here q))
  have one : wpAny (model prog w) A (tryCompare (.ref x) "__ne__" b) (fun r s' => ∃ v, r = some v ∧ Q v s') E s := by
    have fin : wpAny (model prog w) A (call (.builtin "object.__ne__") [.ref x, b] >>= fun v => pure (some v)) (fun r s' => ∃ v, r = some (.bool v) ∧ Q (.bool v) s') E s := by
      refine wpAny_bind (wpAny_call (codeAny_call_builtin F.cmp_object.ne.plain F.cmpEntry_ne (check_slot F.cmpKind_ne F.cmpSplit_ne hi (F.cmpArgs_ne _ _) ?_)))
      have hu2 : A.in1.units < cLine := by
        have : A.in1.units ≤ A.units + 1 := by simp [Around.in1, Around.units]
        omega
      unfold Builtin.«object.__ne__»
      repeat (first
        | with_reducible refine wpAny_cRoomFor hu2 ?_
        | (refine wpAny_bind (m := callSpecialIfBound? (.ref x) (Str.ofString "__eq__") [b]) (ifBound_K X I hs hf (wpAny_mono h (fun r s' hr => by
            obtain ⟨z, rfl, hq⟩ := hr
            repeat (first | exact ⟨_, rfl, hq⟩ | exact wpAny_pure ⟨_, rfl, hq⟩ | (refine wpAny_bind (m := truthy (.bool _)) (wpAny_truthy_bool ?_)) | wp_step)) fun _ _ e => e)))
        | wp_step)
    unfold tryCompare
    simp only [callSpecialIfBound?, bindSpecialIfBound?]
    refine wpAny_bind (wpAny_holding (wpAny_bind (wpAny_bind (wpAny_bind (I.type.here ((looks_findIn X hne).here ?_))))))
    simp only [F.cmp_object.ne.bind]
    refine wpAny_bind (wpAny_askSetting (wpAny_ite ?_))
    have fin2 : wpAny (model prog w) A (call (.builtin "object.__ne__") ([.ref x] ++ [b]) >>= fun v => pure (some v)) (fun r s' => ∃ v, r = some (.bool v) ∧ Q (.bool v) s') E s := fin
    have out : ∀ (r : Option Value) (s' : Shared), (∃ v, r = some (.bool v) ∧ Q (.bool v) s') → ∃ v, r = some v ∧ Q v s' := fun r s' ⟨v, e, q⟩ => ⟨_, e, q⟩
    split
    · refine wpAny_bind (wpAny_pure (wpAny_pure (wpAny_mono fin2 (fun r s' hr => ?_) fun _ _ e => e)))
      obtain ⟨v, rfl, q⟩ := hr
      exact wpAny_pure ⟨_, rfl, q⟩
    · refine wpAny_tryCatch (wpAny_bind (wpAny_pure (wpAny_pure (wpAny_mono fin2 (fun r s' hr => ?_) fun _ _ e => e))))
      obtain ⟨v, rfl, q⟩ := hr
      exact wpAny_pure ⟨_, rfl, q⟩
  unfold richCompare
  simp only [oneThing_ref]
  refine wpAny_holding (wpAny_bind (wpAny_cRoomFor (by omega) ?_))
  refine wpAny_bind (I.type.here (wpAny_bind (hb.here ?_)))
  split
  · rename_i q
    have e : subIn K tb (.ref C) = some false := by
      rcases Bool.or_eq_true_iff.mp hn with e | e
      · rw [beq_iff_eq.mp e] at q; simp at q
      · exact beq_iff_eq.mp e
    refine wpAny_bind ((looks_subIn X e).here ?_)
    simp only [Bool.false_eq_true, if_false]
    refine wpAny_bind (wpAny_mono one (fun r s' z => ?_) fun _ _ e => e)
    obtain ⟨v, rfl, hq⟩ := z
    exact wpAny_pure hq
  · refine wpAny_bind (wpAny_pure ?_)
    simp only [Bool.false_eq_true, if_false]
    refine wpAny_bind (wpAny_mono one (fun r s' z => ?_) fun _ _ e => e)
    obtain ⟨v, rfl, hq⟩ := z
    exact wpAny_pure hq
end
/-! ### what a value is -/
/-- own classes l are known for not standing below the class c -/
structure NfC (G : Gs) (l : List Nat) (c : Nat) : Prop where
  own : ∀ c', c' ∈ l → PySem.W.notFirst G.K (G.cls c) (.ref (G.cls c')) = true
  ty : ∀ T ∈ tyL, PySem.W.subIn G.K (.type T) (.ref (G.cls c)) = some false
/-- its kind is known -/
def knd (l : List Nat) (d : Dv) (S : Sto) : Bool := (pIsaL l 0 d S).isSome
section
variable {X : Cx} {G : Gs} {W : WX} {k c : Nat} {l : List Nat}
theorem knd_rd {A : Al} {S : Sto} {H : Hp} {d : Dv} {v : V} (s : StR G A S H) (rv : RD G A H d v) (h : knd l d S = true) : (∃ T ∈ tyL, TyX G.K H v (.type T)) ∨ ∃ a c' dx ws, c' ∈ l ∧ v = .ref a ∧ SlX.Slt H a (G.cls c') dx ws := by
  unfold knd at h
  obtain ⟨z, hz⟩ := Option.isSome_iff_exists.mp h
  unfold pIsaL at hz
  split at hz
  · split at hz
    · rename_i c' xs hlt
      obtain ⟨a, dx, ws, vs, rfl, _, _, _, hsl, _⟩ := rv
      exact .inr ⟨a, c', dx, ws, hlt, rfl, hsl⟩
    · cases hz
  · obtain ⟨a, vs, rfl, ⟨⟨o, h1, _⟩, _⟩, _⟩ := rv
    exact .inl ⟨"tuple", by decide, .fTuple h1⟩
  · rename_i m
    split at hz
    · rename_i c' fs em
      split at hz
      · rename_i hlt
        obtain ⟨a, dx, ws, rfl, _, _, hsl, _⟩ := loc_ins s rv em
        exact .inr ⟨a, c', dx, ws, hlt, rfl, hsl⟩
      · cases hz
    · rename_i em
      obtain ⟨a, vs, rfl, _, hl, _⟩ := loc_lst s rv em
      exact .inl ⟨"list", by decide, .base (.lst hl)⟩
    · rename_i em
      obtain ⟨a, vs, rfl, _, hl, _⟩ := loc_dct s rv em
      exact .inl ⟨"dict", by decide, .base (.dK hl)⟩
    · cases hz
  · split at hz
    · rename_i T et
      obtain ⟨hL, ty⟩ := tyDv_rd s rv et
      exact .inl ⟨_, hL, ty⟩
    · cases hz
/-- .. so that its type can be looked up -/
theorem knd_ty {pins : List (Addr × Obj)} {σ : L2.St} {H : Hp} {s : Shared} {v : V} {u : Value} (I : Inv X pins σ H s) (hK : G.K = X.K) (nf : NfC G l c) (r : RelV v u)
    (h : (∃ T ∈ tyL, TyX G.K H v (.type T)) ∨ ∃ a c' dx ws, c' ∈ l ∧ v = .ref a ∧ SlX.Slt H a (G.cls c') dx ws) : ∃ tb, PySem.W.Looks (model X.prog X.w) s.heap (typeOf u) tb ∧ PySem.W.notFirst X.K (G.cls c) tb = true := by
  rcases h with ⟨T, hT, ty⟩ | ⟨a, c', dx, ws, hl, rfl, hsl⟩
  · rw [hK] at ty
    obtain ⟨P, Z, p, _⟩ := kit_of I r ty
    refine ⟨_, Z.ty _ _ I.kIn p, ?_⟩
    unfold PySem.W.notFirst
    rw [← hK, nf.ty T hT]
    simp
  · obtain rfl : u = Value.ref a := r
    obtain ⟨sl, od, _, J, _⟩ := SlX.slt_inst I hsl
    exact ⟨_, J.type, by rw [← hK]; exact nf.own c' hl⟩
end
/-! ### x == y, x != y -/
def mEqO (l : List Nat) (c : Nat) (F : FM) (neg : Bool) (mx my : M Dv) : M Dv := fun ρ S => (mx ρ S).bind fun x S1 => (my ρ S1).bind fun y S2 => if (isIns c x S2 && knd l y S2) = true then (F [x, y] S2).bind fun r S3 => match r with
  | .d (.bl b) => .ok (.d (.bl (if neg = true then !b else b))) S3
  | _ => .bad else .bad
section
variable {X : Cx} {G : Gs} {W : WX} {k n : Nat} {f : Addr} {F : FM} {c : Nat} {l : List Nat} {pos : Pos} {e o : Expr} {mx mo : M Dv}
/-- what != asks of the class besides -/
structure NeC (K : PySem.W.Frag) (C : Addr) : Prop where
  ne : PySem.W.findIn K (.ref C) "__ne__" = some (some (.builtin "object.__ne__"))
  so : PySem.W.subIn K (.ref C) (.type "object") = some true
theorem eq_pc (R : CallW X.prog X.w G X.mg X.base k f 2 [] F) (B : Bx X G W (k + 1)) (hm : Meth X.K (G.cls c) "__eq__" f) (nf : NfC G l c) (he : PE X e (tM G W mx)) (ho : PE X o (tM G W mo)) (neg : Bool) (hne : neg = true → NeC X.K (G.cls c)) :
    PC X (if neg = true then .NotEq else .Eq) e o (tM G W (mEqO l c F neg mx mo)) := by
  refine ⟨fun pins s σ H Q I h => ?_⟩
  obtain ⟨A, ρ, S, he', hs, p0⟩ := h
  refine binT (R := fun x y H2 => ∃ a dx ws, x = .ref a ∧ SlX.Slt H2 a (G.cls c) dx ws ∧ ((∃ T ∈ tyL, TyX G.K H2 y (.type T)) ∨ ∃ a c' dx ws, c' ∈ l ∧ y = .ref a ∧ SlX.Slt H2 a (G.cls c') dx ws) ∧ SpM G F ([V.ref a, y] ++ []) H2 (fun z H' => ∃ b, z = .bl b ∧ Q (.bl (if neg = true then !b else b)) H') (Wa W σ)) he ho I ⟨A, ρ, S, he', hs, Po.step p0 fun d S1 A1 H1 x1 s1 p1 v rv => ?_⟩ fun v u s2 x y H2 I2 rx ry ⟨a, dx, ws, ex, hsl, kn, q⟩ => ?_
  · refine ⟨A1, ρ, S1, he'.kp x1.kp, s1, Po.step p1 fun t S2 A2 H2 x2 s2 p2 y ry => ?_⟩
    have rv2 := rv.kp x2.kp
    by_cases hi : (isIns c d S2 && knd l t S2) = true
    · simp only [hi, if_true] at p2
      obtain ⟨hi1, hi2⟩ := Bool.and_eq_true_iff.mp hi
      obtain ⟨a, dx, ws, ev, hsl⟩ := isIns_slt s2 rv2 hi1
      subst ev
      refine ⟨a, dx, ws, rfl, hsl, knd_rd s2 ry hi2, A2, S2, [d, t], .cons rv2 (.cons ry .nil), s2, Po.step p2 fun r S3 A3 H3 x3 s3 p3 z rz => ?_⟩
      cases r with
      | loc n => exact p3.elim
      | d w =>
        cases w with
        | bl b => exact ⟨b, rz, Po.now p3 s3 _ rfl⟩
        | _ => exact p3.elim
    · simp only [hi] at p2
      exact p2.elim
  · subst ex
    obtain rfl : v = Value.ref a := rx
    obtain ⟨sl, od, _, J, _⟩ := SlX.slt_inst I2 hsl
    obtain ⟨m', hF⟩ := I2.fr
    obtain ⟨tb, hb, hn⟩ := knd_ty I2 B.hK nf ry kn
    have hu := B.room.units
    cases neg with
    | true =>
      refine PySem.W.cmp_ofNotEq (ne_own (by omega) I2.kIn J hb hn hm.at_ hm.fn (hne rfl).ne (hne rfl).so (wpAny_call (codeAny_mono (runF1 (us := [.ref a, u]) (vs := [.ref a, y]) (ws := []) (zs := []) R B I2 (.cons rfl (.cons ry .nil)) .nil rfl rfl q) fun r s' z => ?_)))
      cases r with
      | error e => exact z
      | ok fl =>
        cases fl with
        | ret r =>
          obtain ⟨z', H', I', rz, b, ez, qz⟩ := z
          subst ez
          obtain rfl : r = Value.bool b := rz
          exact ⟨b, rfl, V.bl (!b), H', I', rfl, qz⟩
        | next => exact z.elim
        | brk => exact z.elim
        | cont => exact z.elim
    | false =>
      have R' : CallW X.prog X.w G X.mg X.base (k + 1) f 2 [] F := R.mono (Nat.le_succ k)
      refine PySem.W.cmp_ofEq (PySem.W.cmp_K (op := .Eq) (by omega) hF I2.ok.mod.kin J hb hn hm.at_ hm.fn (wpAny_mono (runF (us := [.ref a, u]) (vs := [.ref a, y]) (ws := []) (zs := []) R' B I2 (.cons rfl (.cons ry .nil)) .nil rfl rfl q) (fun r s' z => ?_) fun _ _ z => z))
      obtain ⟨z', H', I', rz, b, ez, qz⟩ := z
      subst ez
      obtain rfl : r = Value.bool b := rz
      exact ⟨V.bl b, H', I', rfl, qz⟩
theorem yeqO (R : CalD X.prog X.w G X.mg X.base k c "__eq__" 1 F) (nf : NfC G l c) (B : Bx X G W (k + 1)) (he : PE X e (tM G W mx)) (ho : PE X o (tM G W mo)) (hm : behindInMarks .Eq o = false := by first | rfl | exact nomark _ | with_unfolding_all rfl) :
    PE X (.Compare e [.Eq] [o] pos) (tM G W (mEqO l c F false mx mo)) := by
  obtain ⟨f, h1, h2, h3, h4⟩ := R.ex
  exact pe_cmp (eq_pc h4 B (by rw [← B.hK]; exact h2) nf he ho false (fun z => nomatch z)) hm
theorem yneO (R : CalD X.prog X.w G X.mg X.base k c "__eq__" 1 F) (nf : NfC G l c) (ne : NeC G.K (G.cls c)) (B : Bx X G W (k + 1)) (he : PE X e (tM G W mx)) (ho : PE X o (tM G W mo)) (hm : behindInMarks .NotEq o = false := by first | rfl | exact nomark _ | with_unfolding_all rfl) :
    PE X (.Compare e [.NotEq] [o] pos) (tM G W (mEqO l c F true mx mo)) := by
  obtain ⟨f, h1, h2, h3, h4⟩ := R.ex
  exact pe_cmp (eq_pc h4 B (by rw [← B.hK]; exact h2) nf he ho true (fun _ => by rw [← B.hK]; exact ne)) hm
end
/-! ### x[i] = v -/
def sSubO (c : Nat) (F : FM) (mo mi mv : M Dv) : SM := fun ρ S => (mv ρ S).to ρ fun d S1 => (mo ρ S1).to ρ fun o S2 => (mi ρ S2).to ρ fun i S3 => if isIns c o S3 = true then (F [o, i, d] S3).to ρ fun _ S4 => .nx ρ S4 else .bad
section
variable {X : Cx} {G : Gs} {W : WX} {k n : Nat} {f : Addr} {F : FM} {c : Nat} {pos pos' : Pos} {o i value : Expr} {mo mi mv : M Dv}
theorem ysubO (R : CalD X.prog X.w G X.mg X.base k c "__setitem__" 2 F) (nq : PySem.W.noSeq G.K (G.cls c) = true) (B : Bx X G W k) (ho : PE X o (tM G W mo)) (hi : PE X i (tM G W mi)) (hv : PE X value (tM G W mv)) (hs : swapsWith value (some (.Subscript o i pos')) pos.line X.env = pure false := by rfl) :
    PS X (.Assign [.Subscript o i pos'] value pos) (tMS G W (sSubO c F mo mi mv)) := by
  obtain ⟨f, h1, hm, h3, h4⟩ := R.ex
  rw [B.hK] at hm nq
  refine ⟨fun pins s σ H D I h => ?_⟩
  obtain ⟨A, ρ, S, he, st, p0⟩ := h
  refine wpAny_Assign_Subscript (thn (hv.run pins s σ H (fun v H1 => tM G W mo σ H1 fun x H2 => tM G W mi σ H2 fun y H3 => ∃ a dx ws, x = .ref a ∧ SlX.Slt H3 a (G.cls c) dx ws ∧ SpM G F ([V.ref a, y, v] ++ []) H3 (fun _ H4 => D.nx σ H4) (Wa W σ)) I ⟨A, ρ, S, he, st, PoS.step he p0 fun d S1 A1 H1 x1 s1 e1 p1 v rv => ?_⟩)
    fun r s1 ⟨v, H1, I1, rv, q1⟩ => thn (ho.run pins s1 σ H1 _ I1 q1) fun u s2 ⟨x, H2, I2, rx, q2⟩ => thn (hi.run pins s2 σ H2 _ I2 q2) fun iv s3 ⟨y, H3, I3, ry, q3⟩ => ?_) hs
  · refine ⟨A1, ρ, S1, e1, s1, PoS.step e1 p1 fun o' S2 A2 H2 x2 s2 e2 p2 x rx => ?_⟩
    refine ⟨A2, ρ, S2, e2, s2, PoS.step e2 p2 fun i' S3 A3 H3 x3 s3 e3 p3 y ry => ?_⟩
    have rx := RD.kp x3.kp rx
    have rv := RD.kp x3.kp (RD.kp x2.kp rv)
    by_cases hi : isIns c o' S3 = true
    · simp only [hi, if_true] at p3
      obtain ⟨a, dx, ws, ev, hsl⟩ := isIns_slt s3 rx hi
      subst ev
      refine ⟨a, dx, ws, rfl, hsl, A3, S3, [o', i', d], .cons rx (.cons ry (.cons rv .nil)), s3, ?_⟩
      exact PoS.step e3 p3 fun z S4 A4 H4 x4 s4 e4 p4 z' rz => p4 A4 H4 σ .refl s4 e4
    · simp only [hi] at p3
      exact p3.elim
  · obtain ⟨a, dx, ws, ex, hsl, q⟩ := q3
    subst ex
    obtain rfl : u = Value.ref a := rx
    obtain ⟨sl, od, _, J, _⟩ := SlX.slt_inst I3 hsl
    obtain ⟨m', hF⟩ := I3.fr
    refine PySem.W.ksp_setItem hF I3.ok.mod.kin J nq hm.at_ hm.fn (wpAny_mono (runF (us := [.ref a, iv, r]) (vs := [.ref a, y, v]) (ws := []) (zs := []) h4 B I3 (.cons rfl (.cons ry (.cons rv .nil))) .nil rfl rfl q) (fun z s' hz => ?_) fun _ _ z => z)
    obtain ⟨z', H', I', rz, qz⟩ := hz
    exact ⟨σ, H', I', qz⟩
end
end Sm
set_option maxHeartbeats 1000000
/-! Sm69: a class made with *parts, parts being a box. -/
namespace Sm
open PySem PySem.Spec PyProof.Rows L2
section
variable {X : Cx} {G : Gs} {W : WX} {k n : Nat} {f : Addr} {F : FM} {x : Str} {p pos sp_ : Pos} {e : Expr} {es : List Expr} {ma : M (List Dv)} {mo : M Dv} {c : Nat}
end
end Sm
set_option maxHeartbeats 1000000
/-! Sm80: methods and classes called by keywords alone; list.insert. -/
namespace Sm
open PySem PySem.Spec PyProof.Rows L2
/-- a method called by keywords -/
structure CalMK (P : Program) (w : World) (G : Gs) (mg : Str → Option Value) (base : Heap) (k c : Nat) (x : Str) (ks : List Str) (F : FM) : Prop where
  ex : ∃ f, SlX.SCls G.K (G.cls c) ∧ Meth G.K (G.cls c) x f ∧ CallW P w G mg base k f 1 ks F
/-- a class called by keywords -/
structure CalIK (P : Program) (w : World) (G : Gs) (mg : Str → Option Value) (base : Heap) (k c : Nat) (x : Str) (ks : List Str) (F : FM) : Prop where
  ex : ∃ f, mg x = some (.ref (G.cls c)) ∧ Mk G.K (G.cls c) f ∧ CallW P w G mg base k f 1 ks F
section
variable {X : Cx} {G : Gs} {W : WX} {k : Nat} {F : FM} {c : Nat} {m x : Str} {pos apos p : Pos} {o : Expr} {mo : M Dv} {mk : M (List Dv)} {kws : List Keyword} {ks : List Str}
theorem ymethK0 {pl : Sem Bool} (R : CalMK X.prog X.w G X.mg X.base k c m ks F) (B : Bx X G W k) (ho : PE X o (tM G W mo)) (hkw : PK X kws (tMA G W mk)) (al2 : ALen mk ks.length := by repeat (first | exact al_nil | refine al_cons ?_))
    (hall : (backToKw pos (keywordEach kws X.env)).all (·.1.isSome) = true := by rfl) (hks : (backToKw pos (keywordEach kws X.env)).filterMap (·.1) = ks := by rfl)
    (hpl : ((backTo pos (starEach [] X.env)).any (·.1) || (backToKw pos (keywordEach kws X.env)).any (·.1.isNone)) = false := by rfl)
    (ht : eval (.Call (.Attribute o m apos) [] kws pos) X.env = (do
      let ov ← eval o X.env
      standAt apos.atName
      let (f, first) ← holding [ov] (getMethod ov m pl)
      callWith pos f first (backTo pos (starEach [] X.env)) (backToKw pos (keywordEach kws X.env))) := by rfl) :
    PE X (.Call (.Attribute o m apos) [] kws pos) (tM G W (mMeth c F mo mk)) := by
  obtain ⟨f, cl, hm, R⟩ := R.ex
  rw [B.hK] at cl hm
  refine ⟨fun pins s σ H Q I h => ?_⟩
  obtain ⟨A, ρ, S, he', hs, p0⟩ := h
  refine PySem.W.methodCall_KW (pl := pl) (thn (ho.run pins s σ H (fun y H1 => ∃ a dx ws, y = .ref a ∧ SlX.Slt H1 a (G.cls c) dx ws ∧ tMA G W mk σ H1 fun vs H2 => vs.length = ks.length ∧ SpM G F ([V.ref a] ++ vs) H2 Q (Wa W σ)) I ⟨A, ρ, S, he', hs, Po.step p0 fun d S1 A1 H1 x1 s1 p1 v rv => ?_⟩) fun u s1 ⟨y, H1, I1, rx, a, dx, ws, ex, hsl, q⟩ => ?_) ht
  · by_cases hi : isIns c d S1 = true
    · simp only [hi, if_true] at p1
      obtain ⟨a, dx, ws, ev, hsl⟩ := isIns_slt s1 rv hi
      subst ev
      refine ⟨a, dx, ws, rfl, hsl, A1, ρ, S1, he'.kp x1.kp, s1, Po.step' p1 fun ds S2 A2 H2 e0 x2 s2 p2 vs rvs => ?_⟩
      exact ⟨by rw [← Paired.length rvs]; exact al2 ρ S1 ds S2 e0, A2, S2, d :: ds, .cons (rv.kp x2.kp) rvs, s2, p2⟩
    · simp only [hi] at p1
      exact p1.elim
  · subst ex
    obtain rfl : u = Value.ref a := rx
    refine SlX.getmethsl_ok I1 hsl cl hm ?_
    refine PySem.W.callWith_KW0 (first := [.ref a]) (h₀ := X.base) I.ok.mod.kin hm.kp hall (thn (hkw.run pos pins s1 σ H1 _ I1 q) fun us s2 ⟨vs, H2, I2, r, l, q2⟩ => ⟨I2.kIn, ?_⟩) hpl
    rw [hks]
    exact runF (us := [.ref a]) (vs := [.ref a]) R B I2 (.cons rfl .nil) r rfl l q2
theorem ymakeK0 (R : CalIK X.prog X.w G X.mg X.base k c x ks F) (B : Bx X G W (k + 1)) (hkw : PK X kws (tMA G W mk)) (al2 : ALen mk ks.length := by repeat (first | exact al_nil | refine al_cons ?_)) (hg : Gl X x := by rfl)
    (hall : (backToKw pos (keywordEach kws X.env)).all (·.1.isSome) = true := by rfl) (hks : (backToKw pos (keywordEach kws X.env)).filterMap (·.1) = ks := by rfl) (hdb : (x == ("__debug__" : Str)) = false := by decide)
    (hpl : ((backTo pos (starEach [] X.env)).any (·.1) || (backToKw pos (keywordEach kws X.env)).any (·.1.isNone)) = false := by rfl) : PE X (.Call (.Name x p) [] kws pos) (tM G W (mMake c F mk)) := by
  obtain ⟨f, hm, M, R⟩ := R.ex
  rw [B.hK] at M
  refine ⟨fun pins s σ H Q I h => ?_⟩
  obtain ⟨A, ρ, S, he', hs, p0⟩ := h
  refine wpAny_Call_Name_kw (ld_glob I hg hm ?_ hdb)
  refine PySem.W.callWith_KW0 (h₀ := X.base) I.ok.mod.kin M.kp hall ?_ hpl
  refine thn (hkw.run pos pins s σ H (fun zs H1 => zs.length = ks.length ∧ ∀ x dx, H1 x = none → H1 dx = none → dx ≠ x → SpM G F (V.ref x :: ([] ++ zs)) (upd (upd H1 dx (.own x)) x (.ins (G.cls c) dx [])) (fun v H2 => v = .non ∧ Q (.ref x) H2) (Wa W σ)) I
    ⟨A, ρ, S, he', hs, Po.step' p0 fun ds S1 A1 H1 e0 x1 s1 p1 vs rvs => ⟨by rw [← Paired.length rvs]; exact al2 ρ S ds S1 e0, make_po s1 rvs p1⟩⟩) fun ws s2 ⟨zs, H2, I2, rz, l2, q2⟩ => ⟨I2.kIn, ?_⟩
  rw [hks]
  exact runMake (n := 0) (us := []) (vs := []) M R B I2 .nil rz rfl l2 q2
end
end Sm
set_option maxHeartbeats 1000000
/-! Sm81: list.insert; x + y, x - t, x & y, x | y by own methods. -/
namespace Sm
open PySem PySem.Spec PyProof.Rows L2
def pInsert : PM := fun o ds S => match o, ds with
  | .loc n, [.d (.int i), y] => (match S[n]? with
    | some (.lst xs) => if (0 ≤ i ∧ i < 2 ^ 63) ∧ xs.length < 16777216 then some (.d .non, S.set n (.lst (xs.take i.toNat ++ [y] ++ xs.drop i.toNat))) else none
    | _ => none)
  | _, _ => none
section
variable {X : Cx} {G : Gs}
theorem m_insert : MtR X "list.insert" (qM G pInsert) := by
  refine L2.MtR.sm mt_insert fun x xs H Q h => ?_
  obtain ⟨A, S, d, ds, rd, rds, s, p⟩ := h
  unfold pInsert at p
  split at p
  · rename_i n i y
    obtain ⟨u, v, rfl, r1, r⟩ : ∃ u v, xs = [u, v] ∧ RD G A H (.d (.int i)) u ∧ RD G A H y v := by
      cases rds with
      | cons r1 rr =>
        obtain ⟨v, e, r⟩ := RDs.one rr
        exact ⟨_, v, by rw [e], r1, r⟩
    obtain rfl : u = .int i := r1
    split at p
    · rename_i ys e1
      split at p
      · rename_i hi
        obtain ⟨a, vs, rfl, hl, ha, hvs⟩ := loc_lst s rd e1
        obtain ⟨x2, s2⟩ := set_lst s hl (((hvs.take i.toNat).append (.cons r .nil)).append (hvs.drop i.toNat))
        exact ⟨a, vs, i, v, rfl, rfl, ha, line_of (by rw [← Paired.length hvs]; omega), hi.1.1, hi.1.2, Po.at p x2 s2 _ rfl⟩
      · exact p.elim
    · exact p.elim
  · exact p.elim
end
/-! ### operators -/
structure BinC (K : PySem.W.Frag) (C : Addr) : Prop where
  sf : PySem.W.selfFirst K C = true
structure BinT (K : PySem.W.Frag) (C : Addr) (nm T : String) : Prop where
  sf : PySem.W.selfFirst K C = true
  rr : PySem.W.findIn K (.ref C) (PySem.dunderR nm) = some none
  t1 : ∃ fo, PySem.W.findIn K (.type T) (PySem.dunder nm) = some fo
  t2 : ∃ ro, PySem.W.findIn K (.type T) (PySem.dunderR nm) = some ro
  ts : PySem.W.subIn K (.type T) (.ref C) = some false
section
variable {X : Cx} {G : Gs} {W : WX} {k n : Nat} {f : Addr} {F : FM} {c : Nat} {pos : Pos} {e o : Expr} {mx mo : M Dv} {op : Operator}
end
end Sm
/-! HoA: orders that change. -/
/-! the mirrors -/
namespace K39
open PySem PySem.Spec PyProof.Rows L2 Sm Hn
def b_Order_init : SM := sFld 0 0 (mV 0) (mN pList (aCons (mF (snapT (F_tupled 8)) (aCons (mV 1) (aNil))) (aNil)))
def R_Order_init : FM := runB 2 2 b_Order_init
def F_Order_init : FM := R_Order_init

def b_Order_line : SM := sRet (mN pTuple (aCons (m1 (pFld 0 0) (mV 0)) (aNil)))
def R_Order_line : FM := runB 1 1 b_Order_line
def F_Order_line : FM := R_Order_line

def b_Order_check : SM := sIf (mTst (m2 pNotIn (mV 1) (m1 (pFld 0 0) (mV 0)))) (sRaise 0 (mV 1)) (sNil)
def R_Order_check : FM := runB 2 2 b_Order_check
def F_Order_check : FM := R_Order_check

def b_Order___len__ : SM := sRet (mN pLen (aCons (m1 (pFld 0 0) (mV 0)) (aNil)))
def R_Order___len__ : FM := runB 1 1 b_Order___len__
def F_Order___len__ : FM := R_Order___len__

def b_Order___contains__ : SM := sRet (m2 pIn (mV 1) (m1 (pFld 0 0) (mV 0)))
def R_Order___contains__ : FM := runB 2 2 b_Order___contains__
def F_Order___contains__ : FM := R_Order___contains__

def b_Order___getitem__ : SM := sSeq (sDrop (mMeth 0 F_Order_check (mV 0) (aCons (mV 1) (aNil))))
    (sRet (mLm pIndex (m1 (pFld 0 0) (mV 0)) (aCons (mV 1) (aNil))))
def R_Order___getitem__ : FM := runB 2 2 b_Order___getitem__
def F_Order___getitem__ : FM := R_Order___getitem__

def b_Order___setitem__ : SM := sSeq (sDrop (mMeth 0 F_Order_check (mV 0) (aCons (mV 1) (aNil))))
    (sSeq (sSet 3 (mN pLst (mLcI [4] (iSeq (m1 (pFld 0 0) (mV 0))) (gN 4) (mTst (m2 pNe (mV 4) (mV 1))) (mV 4))))
    (sFld 0 0 (mV 0) (m2 pAdd (m2 pAdd (mSl pSl (mV 3) (oNo) (oPt (mV 2))) (mN pLst (aCons (mV 1) (aNil)))) (mSl pSl (mV 3) (oPt (mV 2)) (oNo)))))
def R_Order___setitem__ : FM := runB 5 3 b_Order___setitem__
def F_Order___setitem__ : FM := R_Order___setitem__

def b_Order___eq__ : SM := sRet (mAnd (m1 (pIsaC 1 0) (mV 1)) (m2 pEq (m1 (pFld 0 0) (mV 0)) (m1 (pFld 0 0) (mV 1))))
def R_Order___eq__ : FM := runB 2 2 b_Order___eq__
def F_Order___eq__ : FM := R_Order___eq__

abbrev l1_Order_ahead : SM := sIf (mTst (m2 pNe (m2 pIn (mV 5) (mV 3)) (m2 pIn (mV 5) (mV 4)))) (sRet (m2 pIn (mV 5) (mV 3))) (sNil)

def b_Order_ahead : SM := sSeq (sPars [3, 4] (aCons (mF (snapT (F_tupled 8)) (aCons (mV 1) (aNil))) (aCons (mF (snapT (F_tupled 8)) (aCons (mV 2) (aNil))) (aNil))))
    (sSeq (sFor (iSeq (m1 (pFld 0 0) (mV 0))) (gN 5) (l1_Order_ahead))
    (sRet (mC (.bl false))))
def R_Order_ahead : FM := runB 6 3 b_Order_ahead
def F_Order_ahead : FM := R_Order_ahead

abbrev b__law_box : SM := boxM 1434
abbrev R__law_box : FM := runB 3 2 b__law_box
abbrev F__law_box : FM := R__law_box

def b__law_of : SM := sRet (m2 pIx (mV 1) (mF F__law_take (aCons (mV 0) (aCons (mN pLen (aCons (mV 1) (aNil))) (aNil)))))
def R__law_of : FM := runB 2 2 b__law_of
def F__law_of : FM := view (R__law_of)

def b__law_heard : SM := sSeq (sAsg (gT (gsCons (gN 4) (gsCons (gN 5) (gsNil)))) (mN pTup (aCons (mC .non) (aCons (mC .non) (aNil)))))
    (sSeq (sTry (tbl [true]) 6 5 (sIf (mTst (m2 pEq (mV 1) (mC (.str ("put" : Str))))) (sSubO 0 F_Order___setitem__ (mV 0) (mV 2) (mV 3)) (sSet 4 (mIxM 0 F_Order___getitem__ (mV 0) (mV 2)))))
    (sSeq (sIf (cAnd (mTru pTru (m1 (pIsE (tbl [true])) (mV 5))) (cAnd (mTru pTru (m1 (pIsE (tbl [true])) (mV 5))) (cNot (mTru pTru (m1 (pIsE (tbl [false])) (mV 5)))))) (sRet (mN pLst (aCons (mC (.str ("lost" : Str))) (aCons (m1 (pExf (tblT [true])) (mV 5)) (aNil))))) (sNil))
    (sRet (mIf (mTst (m2 pIsN (mV 5) (mC .non))) (mV 4) (mC (.str ("other" : Str)))))))
def R__law_heard : FM := runB 7 4 b__law_heard
def F__law_heard : FM := view (R__law_heard)

def b__law_ahead : SM := sSeq (sSet 3 (mN pLst (mLcI [4] (iSeq (mV 0)) (gN 4) (mTst (m2 pNe (m2 pIn (mV 4) (mV 1)) (m2 pIn (mV 4) (mV 2)))) (mV 4))))
    (sRet (mAnd (m2 pNe (mV 3) (mN pLst (aNil))) (m2 pIn (m2 pIx (mV 3) (mC (.int 0))) (mV 1))))
def R__law_ahead : FM := runB 5 3 b__law_ahead
def F__law_ahead : FM := iso (R__law_ahead)

def b__law_by_hand_right : SM := sSeq (sSet 0 (mMake 0 F_Order_init (aCons (mN pTup (aCons (mC (.str ("fay" : Str))) (aCons (mC (.str ("dan" : Str))) (aCons (mC (.str ("ann" : Str))) (aCons (mC (.str ("cat" : Str))) (aNil)))))) (aNil))))
    (sSeq (sSubO 0 F_Order___setitem__ (mV 0) (mC (.str ("cat" : Str))) (mC (.int 0)))
    (sSeq (sSet 1 (mN pLstB (aCons (mPropM 0 F_Order_line (mV 0)) (aCons (mIxM 0 F_Order___getitem__ (mV 0) (mC (.str ("dan" : Str)))) (aCons (mMeth 0 F_Order_ahead (mV 0) (aCons (mN pTup (aCons (mC (.str ("cat" : Str))) (aNil))) (aCons (mN pTup (aCons (mC (.str ("ann" : Str))) (aCons (mC (.str ("dan" : Str))) (aNil)))) (aNil)))) (aNil))))))
    (sSeq (sSet 1 (m2 pAddB (mV 1) (mN pLst (aCons (mMeth 0 F_Order_ahead (mV 0) (aCons (mN pTup (aCons (mC (.str ("ann" : Str))) (aNil))) (aCons (mN pTup (aCons (mC (.str ("dan" : Str))) (aNil))) (aNil)))) (aCons (mLenM 0 F_Order___len__ (mV 0)) (aNil))))))
    (sSeq (sSubO 0 F_Order___setitem__ (mV 0) (mC (.str ("cat" : Str))) (mC (.int 2)))
    (sSeq (sSubO 0 F_Order___setitem__ (mV 0) (mC (.str ("fay" : Str))) (mC (.int 3)))
    (sSeq (sSet 1 (m2 pAddB (mV 1) (mN pLst (aCons (mPropM 0 F_Order_line (mV 0)) (aCons (mMeth 0 F_Order_ahead (mV 0) (aCons (mN pTup (aCons (mC (.str ("ann" : Str))) (aNil))) (aCons (mN pTup (aCons (mC (.str ("ann" : Str))) (aNil))) (aNil)))) (aCons (mMeth 0 F_Order_ahead (mV 0) (aCons (mN pTup (aNil)) (aCons (mN pTup (aCons (mC (.str ("fay" : Str))) (aNil))) (aNil)))) (aCons (mInM 0 F_Order___contains__ false (mC (.str ("ann" : Str))) (mV 0)) (aNil))))))))
    (sSeq (sDrop (mLm pAppend (mV 1) (aCons (mInM 0 F_Order___contains__ false (mC (.str ("bob" : Str))) (mV 0)) (aNil))))
    (sSeq (sSet 2 (mN pLst (aCons (mN pTup (aCons (mC (.str ("cat" : Str))) (aCons (mC (.str ("fay" : Str))) (aCons (mC (.str ("dan" : Str))) (aCons (mC (.str ("ann" : Str))) (aNil)))))) (aCons (mC (.int 2)) (aCons (mC (.bl true)) (aCons (mC (.bl false)) (aCons (mC (.int 4)) (aCons (mN pTup (aCons (mC (.str ("dan" : Str))) (aCons (mC (.str ("cat" : Str))) (aCons (mC (.str ("ann" : Str))) (aCons (mC (.str ("fay" : Str))) (aNil)))))) (aCons (mC (.bl false)) (aNil))))))))))
    (sSeq (sSet 2 (m2 pAdd (mV 2) (mN pLst (aCons (mC (.bl false)) (aCons (mC (.bl true)) (aCons (mC (.bl false)) (aNil)))))))
    (sSeq (sSet 3 (mN pLst (aCons (mInM 0 F_Order___contains__ false (mN pLst (aCons (mC (.str ("ann" : Str))) (aNil))) (mV 0)) (aCons (mInM 0 F_Order___contains__ false (mN pTup (aCons (mN pLst (aCons (mC (.str ("ann" : Str))) (aNil))) (aNil))) (mV 0)) (aCons (mInM 0 F_Order___contains__ false (mC .non) (mV 0)) (aCons (mInM 0 F_Order___contains__ false (mN pTup (aCons (mC (.str ("ann" : Str))) (aNil))) (mV 0)) (aCons (mInM 0 F_Order___contains__ false (mC (.bl true)) (mV 0)) (aNil))))))))
    (sRet (mAnd (mF (F__law_same 8) (aCons (mFrz (m2 pAddB (mV 1) (mV 3))) (aCons (m2 pAdd (mV 2) (m2 pMul (mN pLst (aCons (mC (.bl false)) (aNil))) (mC (.int 5)))) (aNil)))) (mF (F__law_same 8) (aCons (mN pLst (aCons (mPropM 0 F_Order_line (mMake 0 F_Order_init (aCons (mN pTup (aNil)) (aNil)))) (aCons (mLenM 0 F_Order___len__ (mMake 0 F_Order_init (aCons (mN pLst (aNil)) (aNil)))) (aNil)))) (aCons (mN pLst (aCons (mN pTup (aNil)) (aCons (mC (.int 0)) (aNil)))) (aNil))))))))))))))))
def R__law_by_hand_right : FM := runB 4 0 b__law_by_hand_right
def F__law_by_hand_right : FM := iso (R__law_by_hand_right)

abbrev l1__law_right : SM := sSeq (sPars [8, 9] (aCons (mF F__law_of (aCons (mV 0) (aCons (mFrz (m2 pAddB (mV 3) (mN pLst (aCons (mC (.str ("none" : Str))) (aNil))))) (aNil)))) (aCons (mF F__law_take (aCons (mV 0) (aCons (mN pLen (aCons (mV 3) (aNil))) (aNil)))) (aNil))))
    (sSeq (sSet 10 (mIf (mTst (m2 pNotIn (mV 8) (mV 3))) (mN pLst (aCons (mC (.str ("lost" : Str))) (aCons (mV 8) (aNil)))) (mLm pIndex (mV 3) (aCons (mV 8) (aNil)))))
    (sSeq (sIf (cNot (mTru pTru (mF (F__law_same 8) (aCons (mF F__law_heard (aCons (mV 5) (aCons (mC (.str ("get" : Str))) (aCons (mV 8) (aCons (mC (.int 0)) (aNil)))))) (aCons (mV 10) (aNil)))))) (sRet (mC (.bl false))) (sNil))
    (sSeq (sSet 10 (mIf (mTst (m2 pNotIn (mV 8) (mV 3))) (mN pLst (aCons (mC (.str ("lost" : Str))) (aCons (mV 8) (aNil)))) (mC .non)))
    (sSeq (sIf (cNot (mTru pTru (mF (F__law_same 8) (aCons (mF F__law_heard (aCons (mV 5) (aCons (mC (.str ("put" : Str))) (aCons (mV 8) (aCons (mV 9) (aNil)))))) (aCons (mV 10) (aNil)))))) (sRet (mC (.bl false))) (sNil))
    (sSeq (sIf (mTst (m2 pIn (mV 8) (mV 3))) (sSeq (sDrop (mLm pPopAt (mV 3) (aCons (mLm pIndex (mV 3) (aCons (mV 8) (aNil))) (aNil))))
    (sDrop (mLm pInsert (mV 3) (aCons (mV 9) (aCons (mV 8) (aNil)))))) (sNil))
    (sSeq (sPars [11, 12] (aCons (mF F__law_few (aCons (mV 0) (aCons (mN pSorted (aCons (mV 3) (aNil))) (aCons (mC (.int 2)) (aNil))))) (aCons (mF F__law_few (aCons (mV 0) (aCons (mN pSorted (aCons (mV 3) (aNil))) (aCons (mC (.int 2)) (aNil))))) (aNil))))
    (sSeq (sSet 13 (mN pLst (aCons (mMeth 0 F_Order_ahead (mV 5) (aCons (mV 11) (aCons (mV 12) (aNil)))) (aCons (mMeth 0 (kwF [0, 2, 1] [] F_Order_ahead) (mV 5) (aCons (mN pList (aCons (mV 12) (aNil))) (aCons (mN pList (aCons (mV 11) (aNil))) (aNil)))) (aNil)))))
    (sSeq (sIf (cNot (mTru pTru (mF (F__law_same 8) (aCons (mN pLst (aCons (mPropM 0 F_Order_line (mV 5)) (aCons (mLenM 0 F_Order___len__ (mV 5)) (aCons (mV 13) (aNil))))) (aCons (mN pLst (aCons (mN pTuple (aCons (mV 3) (aNil))) (aCons (mN pLen (aCons (mV 3) (aNil))) (aCons (m2 pMul (mN pLst (aCons (mF (snap F__law_ahead) (aCons (mV 3) (aCons (mV 11) (aCons (mV 12) (aNil))))) (aNil))) (mC (.int 2))) (aNil))))) (aNil)))))) (sRet (mC (.bl false))) (sNil))
    (sSeq (sSet 14 (mN pLstB (aCons (mEqO [0] 0 F_Order___eq__ false (mV 5) (mMake 0 F_Order_init (aCons (mV 3) (aNil)))) (aCons (mEqO [0] 0 F_Order___eq__ false (mV 5) (mV 6)) (aCons (mEqO [0] 0 F_Order___eq__ true (mV 5) (mV 6)) (aCons (mEqO [0] 0 F_Order___eq__ false (mV 5) (mN pTuple (aCons (mV 3) (aNil)))) (aCons (mInM 0 F_Order___contains__ false (mV 8) (mV 5)) (aNil))))))))
    (sSeq (sDrop (mLm pAppend (mV 14) (aCons (mInM 0 F_Order___contains__ false (mC (.int 7)) (mV 5)) (aNil))))
    (sSeq (sSet 10 (mN pLst (aCons (mC (.bl true)) (aCons (m2 pEq (mPropM 0 F_Order_line (mV 6)) (mN pTuple (aCons (mV 3) (aNil)))) (aCons (m2 pNe (mPropM 0 F_Order_line (mV 6)) (mN pTuple (aCons (mV 3) (aNil)))) (aCons (mC (.bl false)) (aCons (m2 pIn (mV 8) (mV 3)) (aCons (mC (.bl false)) (aNil)))))))))
    (sIf (cNot (mTru pTru (mF (snap (F__law_same 8)) (aCons (mV 14) (aCons (mV 10) (aNil)))))) (sRet (mC (.bl false))) (sNil)))))))))))))

abbrev l2__law_right : SM := sSeq (sSet 3 (mN pListB (aCons (mF F__law_mixed (aCons (mV 0) (aCons (m2 pAdd (mF F__law_few (aCons (mV 0) (aCons (mV 1) (aCons (mC (.int 2)) (aNil))))) (mN pTup (aCons (mC (.str ("x" : Str))) (aNil)))) (aNil)))) (aNil))))
    (sSeq (sSet 4 (mN pListB (aCons (mV 3) (aNil))))
    (sSeq (sPars [5, 6] (aCons (mMake 0 F_Order_init (aCons (mV 4) (aNil))) (aCons (mMake 0 F_Order_init (aCons (mN pTuple (aCons (mV 3) (aNil))) (aNil))) (aNil))))
    (sSeq (sDrop (mLm pAppend (mV 4) (aCons (mC (.str ("more" : Str))) (aNil))))
    (sFor (iRg rg1 (aCons (mC (.int 12)) (aNil))) (gN 7) (l1__law_right)))))

def b__law_right : SM := sSeq (sIf (cNot (mTru pTru (mF F__law_by_hand_right aNil))) (sRet (mC (.bl false))) (sNil))
    (sSeq (sSet 1 (mN pLst (aCons (mC (.str ("a" : Str))) (aCons (mC (.str ("ann" : Str))) (aCons (mC (.str ("bob" : Str))) (aCons (mC (.str ("cat" : Str))) (aCons (mC (.str ("dan" : Str))) (aCons (mC (.str ("eve" : Str))) (aCons (mC (.str ("zzzzzzzz" : Str))) (aNil))))))))))
    (sSeq (sFor (iRg rg1 (aCons (mC (.int 4)) (aNil))) (gN 2) (l2__law_right))
    (sRet (mC (.bl true)))))
def R__law_right : FM := runB 15 1 b__law_right
def F__law_right : FM := view (R__law_right)

abbrev b_law : SM := lawM 3 F__law_box F__law_right
abbrev R_law : FM := runB 3 1 b_law
abbrev F_law : FM := R_law
end K39
/-! the walk -/
namespace K39
open PySem PySem.Spec PyProof.Rows L2 Sm Hn
def topS (i : Nat) : Stmt := PySem.Challenge.pw_crosshomes_k39_an_order_that_changes.main.body.getD i (.Pass ⟨0, 0, 0, 0⟩)
section
variable {P : Program} {w : World} {G : Gs} {mg : Str → Option Value} {base : Heap}
abbrev s_tupled : Stmt := topS 7
theorem sc_tupled : FnScope ["thing", "part"] ["thing"] (defScope s_tupled) := ⟨rfl, rfl, rfl, by decide +kernel, rfl, by decide +kernel, by decide +kernel⟩
theorem w_tupled (z_isinstance : mg "isinstance" = none) (z_list : mg "list" = none) (z_tuple : mg "tuple" = none) {f : Addr} {fd : FuncData} (Fu : Fun G.K "tupled" "tupled" s_tupled f fd) (hmg : mg "tupled" = some (.ref f)) : ∀ n : Nat, Cal P w G mg base (0 + n) "tupled" 1 [] (F_tupled n)
  | 0 => Cal.bad hmg Fu.kp
  | n + 1 => by
    have hself := w_tupled z_isinstance z_list z_tuple Fu hmg n
    refine (Cal.fn hmg Fu (show FnOk P w G.K mg base (L2.CX P w) (0 + n + 1) f fd ["thing"] (SpM G (runB 2 1 (b_tupled (F_tupled n)))) from fn_ok2 rfl rfl Fu sc_tupled ?_) (Fu.binds (ps := ["thing"]) fun _ _ _ _ _ _ us hl => match us, hl with | [_], _ => rfl)).isoC
    exact fun cdv A outer s H E B hp =>
        ss_one (s_ret (e_if (xtru B (xisaT B z_isinstance ["list", "tuple"] (xv 0) (pa_cons (xty z_list PyProof.Rows.boot_list) (pa_cons (xty z_tuple PyProof.Rows.boot_tuple) (pa_nil))))) (xt (b_tuple B.hK B.calm) z_tuple PyProof.Rows.boot_tuple (xa (ylc [("part", 1)] lEnd B (i_seq (Bx.hK B) (xv 0)) (fun s1 H1 C1 cl1 fp1 => yname 1 (B.blk s1 H1 _ _ fp1)) (g_name) (fun s1 H1 C1 cl1 fp1 => ts_nil) (fun s1 H1 C1 cl1 fp1 => xcall hself ((B.blk s1 H1 _ _ fp1).le (by omega)) (xa (xv 1) (a_nil)))) (a_nil))) (xv 0)))
abbrev s_Order_init : Stmt := inClass (topS 9) 1
theorem sc_Order_init : FnScope ["self", "names"] ["self", "names"] (defScope s_Order_init) := ⟨rfl, rfl, rfl, by decide +kernel, rfl, by decide +kernel, by decide +kernel⟩
theorem w_Order_init (hc_Order : SlX.SCls G.K (G.cls 0)) {pp_own_names : Addr} (sl_own_names : SlX.Slot1 G.K (G.cls 0) "own_names" pp_own_names 0) (z_list : mg "list" = none) (c_tupled : ∀ n : Nat, Cal P w G mg base (0 + n) "tupled" 1 [] (F_tupled n)) {f : Addr} {fd : FuncData} (Fu : Fun G.K "__init__" "Order.__init__" s_Order_init f fd) : FnOk P w G.K mg base (L2.CX P w) 9 f fd ["self", "names"] (SpM G R_Order_init) := by
  show FnOk P w G.K mg base (L2.CX P w) (8 + 1) f fd ["self", "names"] (SpM G (runB 2 2 b_Order_init))
  refine fn_ok2 rfl rfl Fu sc_Order_init ?_
  exact fun cdv A outer s H E B hp =>
    ss_one (yfld B hc_Order sl_own_names (xv 0) (xt (b_list B.hK B.calm) z_list PyProof.Rows.boot_list (xa (xcall ((c_tupled 8)).snapTC (B.le (by omega)) (xa (xv 1) (a_nil))) (a_nil))))
theorem bd_Order_init {f : Addr} {fd : FuncData} (Fu : Fun G.K "__init__" "Order.__init__" s_Order_init f fd) : Binds G.K fd ["self", "names"] [] := Fu.binds (ps := ["self", "names"]) fun _ _ _ _ _ _ us hl => match us, hl with | [_, _], _ => rfl
abbrev s_Order_line : Stmt := inClass (topS 9) 2
theorem sc_Order_line : FnScope ["self"] ["self"] (defScope s_Order_line) := ⟨rfl, rfl, rfl, by decide +kernel, rfl, by decide +kernel, by decide +kernel⟩
theorem w_Order_line (hc_Order : SlX.SCls G.K (G.cls 0)) {pp_own_names : Addr} (sl_own_names : SlX.Slot1 G.K (G.cls 0) "own_names" pp_own_names 0) (z_tuple : mg "tuple" = none) {f : Addr} {fd : FuncData} (Fu : Fun G.K "line" "Order.line" s_Order_line f fd) : FnOk P w G.K mg base (L2.CX P w) 1 f fd ["self"] (SpM G R_Order_line) := by
  show FnOk P w G.K mg base (L2.CX P w) (0 + 1) f fd ["self"] (SpM G (runB 1 1 b_Order_line))
  refine fn_ok2 rfl rfl Fu sc_Order_line ?_
  exact fun cdv A outer s H E B hp =>
    ss_one (s_ret (xt (b_tuple B.hK B.calm) z_tuple PyProof.Rows.boot_tuple (xa (xfld B hc_Order sl_own_names (xv 0)) (a_nil))))
theorem bd_Order_line {f : Addr} {fd : FuncData} (Fu : Fun G.K "line" "Order.line" s_Order_line f fd) : Binds G.K fd ["self"] [] := Fu.binds (ps := ["self"]) fun _ _ _ _ _ _ us hl => match us, hl with | [_], _ => rfl
abbrev s_Order_check : Stmt := inClass (topS 9) 3
theorem sc_Order_check : FnScope ["self", "name"] ["self", "name"] (defScope s_Order_check) := ⟨rfl, rfl, rfl, by decide +kernel, rfl, by decide +kernel, by decide +kernel⟩
theorem w_Order_check (hc_Order : SlX.SCls G.K (G.cls 0)) {pp_own_names : Addr} (sl_own_names : SlX.Slot1 G.K (G.cls 0) "own_names" pp_own_names 0) (rs_NoHousehold : Rsx P G mg "NoHousehold" 0) {f : Addr} {fd : FuncData} (Fu : Fun G.K "check" "Order.check" s_Order_check f fd) : FnOk P w G.K mg base (L2.CX P w) 2 f fd ["self", "name"] (SpM G R_Order_check) := by
  show FnOk P w G.K mg base (L2.CX P w) (1 + 1) f fd ["self", "name"] (SpM G (runB 2 2 b_Order_check))
  refine fn_ok2 rfl rfl Fu sc_Order_check ?_
  exact fun cdv A outer s H E B hp =>
    ss_one (s_if (xcmpT (o_notIn B.room.units66 B.hK) (xv 1) (xfld B hc_Order sl_own_names (xv 0))) (ss_one (yraise B (by omega) rs_NoHousehold (xv 1))) (ss_nil))
theorem bd_Order_check {f : Addr} {fd : FuncData} (Fu : Fun G.K "check" "Order.check" s_Order_check f fd) : Binds G.K fd ["self", "name"] [] := Fu.binds (ps := ["self", "name"]) fun _ _ _ _ _ _ us hl => match us, hl with | [_, _], _ => rfl
abbrev s_Order___len__ : Stmt := inClass (topS 9) 4
theorem sc_Order___len__ : FnScope ["self"] ["self"] (defScope s_Order___len__) := ⟨rfl, rfl, rfl, by decide +kernel, rfl, by decide +kernel, by decide +kernel⟩
theorem w_Order___len__ (hc_Order : SlX.SCls G.K (G.cls 0)) {pp_own_names : Addr} (sl_own_names : SlX.Slot1 G.K (G.cls 0) "own_names" pp_own_names 0) (z_len : mg "len" = none) {f : Addr} {fd : FuncData} (Fu : Fun G.K "__len__" "Order.__len__" s_Order___len__ f fd) : FnOk P w G.K mg base (L2.CX P w) 1 f fd ["self"] (SpM G R_Order___len__) := by
  show FnOk P w G.K mg base (L2.CX P w) (0 + 1) f fd ["self"] (SpM G (runB 1 1 b_Order___len__))
  refine fn_ok2 rfl rfl Fu sc_Order___len__ ?_
  exact fun cdv A outer s H E B hp =>
    ss_one (s_ret (xb (b_len B.hK) z_len PySem.boot_len (xa (xfld B hc_Order sl_own_names (xv 0)) (a_nil))))
theorem bd_Order___len__ {f : Addr} {fd : FuncData} (Fu : Fun G.K "__len__" "Order.__len__" s_Order___len__ f fd) : Binds G.K fd ["self"] [] := Fu.binds (ps := ["self"]) fun _ _ _ _ _ _ us hl => match us, hl with | [_], _ => rfl
abbrev s_Order___contains__ : Stmt := inClass (topS 9) 5
theorem sc_Order___contains__ : FnScope ["self", "thing"] ["self", "thing"] (defScope s_Order___contains__) := ⟨rfl, rfl, rfl, by decide +kernel, rfl, by decide +kernel, by decide +kernel⟩
theorem w_Order___contains__ (hc_Order : SlX.SCls G.K (G.cls 0)) {pp_own_names : Addr} (sl_own_names : SlX.Slot1 G.K (G.cls 0) "own_names" pp_own_names 0) {f : Addr} {fd : FuncData} (Fu : Fun G.K "__contains__" "Order.__contains__" s_Order___contains__ f fd) : FnOk P w G.K mg base (L2.CX P w) 1 f fd ["self", "thing"] (SpM G R_Order___contains__) := by
  show FnOk P w G.K mg base (L2.CX P w) (0 + 1) f fd ["self", "thing"] (SpM G (runB 2 2 b_Order___contains__))
  refine fn_ok2 rfl rfl Fu sc_Order___contains__ ?_
  exact fun cdv A outer s H E B hp =>
    ss_one (s_ret (xcmp (o_in B.room.units66 B.hK) (xv 1) (xfld B hc_Order sl_own_names (xv 0))))
theorem bd_Order___contains__ {f : Addr} {fd : FuncData} (Fu : Fun G.K "__contains__" "Order.__contains__" s_Order___contains__ f fd) : Binds G.K fd ["self", "thing"] [] := Fu.binds (ps := ["self", "thing"]) fun _ _ _ _ _ _ us hl => match us, hl with | [_, _], _ => rfl
abbrev s_Order___getitem__ : Stmt := inClass (topS 9) 7
theorem sc_Order___getitem__ : FnScope ["self", "name"] ["self", "name"] (defScope s_Order___getitem__) := ⟨rfl, rfl, rfl, by decide +kernel, rfl, by decide +kernel, by decide +kernel⟩
theorem w_Order___getitem__ (hc_Order : SlX.SCls G.K (G.cls 0)) {pp_own_names : Addr} (sl_own_names : SlX.Slot1 G.K (G.cls 0) "own_names" pp_own_names 0) (c_Order_check : CalM P w G mg base 2 0 "check" 1 F_Order_check) {f : Addr} {fd : FuncData} (Fu : Fun G.K "__getitem__" "Order.__getitem__" s_Order___getitem__ f fd) : FnOk P w G.K mg base (L2.CX P w) 3 f fd ["self", "name"] (SpM G R_Order___getitem__) := by
  show FnOk P w G.K mg base (L2.CX P w) (2 + 1) f fd ["self", "name"] (SpM G (runB 2 2 b_Order___getitem__))
  refine fn_ok2 rfl rfl Fu sc_Order___getitem__ ?_
  exact fun cdv A outer s H E B hp =>
    ss_cons (yexpr (ymeth c_Order_check (B.le (by omega)) (xv 0) (xa (xv 1) (a_nil))))
    (ss_one (s_ret (xlm B PySem.F.slot_list_index PySem.F.type_list_index (m_index B.hK) (xfld B hc_Order sl_own_names (xv 0)) (xa (xv 1) (a_nil)))))
theorem bd_Order___getitem__ {f : Addr} {fd : FuncData} (Fu : Fun G.K "__getitem__" "Order.__getitem__" s_Order___getitem__ f fd) : Binds G.K fd ["self", "name"] [] := Fu.binds (ps := ["self", "name"]) fun _ _ _ _ _ _ us hl => match us, hl with | [_, _], _ => rfl
abbrev s_Order___setitem__ : Stmt := inClass (topS 9) 8
theorem sc_Order___setitem__ : FnScope ["self", "name", "place", "rest", "other"] ["self", "name", "place"] (defScope s_Order___setitem__) := ⟨rfl, rfl, rfl, by decide +kernel, rfl, by decide +kernel, by decide +kernel⟩
theorem w_Order___setitem__ (hc_Order : SlX.SCls G.K (G.cls 0)) {pp_own_names : Addr} (sl_own_names : SlX.Slot1 G.K (G.cls 0) "own_names" pp_own_names 0) (c_Order_check : CalM P w G mg base 2 0 "check" 1 F_Order_check) {f : Addr} {fd : FuncData} (Fu : Fun G.K "__setitem__" "Order.__setitem__" s_Order___setitem__ f fd) : FnOk P w G.K mg base (L2.CX P w) 3 f fd ["self", "name", "place"] (SpM G R_Order___setitem__) := by
  show FnOk P w G.K mg base (L2.CX P w) (2 + 1) f fd ["self", "name", "place"] (SpM G (runB 5 3 b_Order___setitem__))
  refine fn_ok2 rfl rfl Fu sc_Order___setitem__ ?_
  exact fun cdv A outer s H E B hp =>
    ss_cons (yexpr (ymeth c_Order_check (B.le (by omega)) (xv 0) (xa (xv 1) (a_nil))))
    (ss_cons (ysetLc 3 [("other", 4)] lEnd B (i_seq (Bx.hK B) (xfld B hc_Order sl_own_names (xv 0))) (fun s1 H1 C1 cl1 fp1 => yname 4 (B.blk s1 H1 _ _ fp1)) (g_name) (fun s1 H1 C1 cl1 fp1 => ts_one (xcmpT (o_ne (B.blk s1 H1 _ _ fp1).room.units (B.blk s1 H1 _ _ fp1).hK) (xv 4) (xv 1))) (fun s1 H1 C1 cl1 fp1 => xv 4))
    (ss_one (yfld B hc_Order sl_own_names (xv 0) (e_op (o_add B.hK) (e_op (o_add B.hK) (e_sl (sl_any B.hK) (xv 3) (o_no) (o_pt (xv 2))) (e_lst (xa (xv 1) (a_nil)))) (e_sl (sl_any B.hK) (xv 3) (o_pt (xv 2)) (o_no))))))
theorem bd_Order___setitem__ {f : Addr} {fd : FuncData} (Fu : Fun G.K "__setitem__" "Order.__setitem__" s_Order___setitem__ f fd) : Binds G.K fd ["self", "name", "place"] [] := Fu.binds (ps := ["self", "name", "place"]) fun _ _ _ _ _ _ us hl => match us, hl with | [_, _, _], _ => rfl
abbrev s_Order___eq__ : Stmt := inClass (topS 9) 9
theorem sc_Order___eq__ : FnScope ["self", "other"] ["self", "other"] (defScope s_Order___eq__) := ⟨rfl, rfl, rfl, by decide +kernel, rfl, by decide +kernel, by decide +kernel⟩
theorem w_Order___eq__ (hc_Order : SlX.SCls G.K (G.cls 0)) {pp_own_names : Addr} (sl_own_names : SlX.Slot1 G.K (G.cls 0) "own_names" pp_own_names 0) (z_isinstance : mg "isinstance" = none) (gc_Order : mg "Order" = some (.ref (G.cls 0))) (ik_Order : IsC G 1 0) {f : Addr} {fd : FuncData} (Fu : Fun G.K "__eq__" "Order.__eq__" s_Order___eq__ f fd) : FnOk P w G.K mg base (L2.CX P w) 1 f fd ["self", "other"] (SpM G R_Order___eq__) := by
  show FnOk P w G.K mg base (L2.CX P w) (0 + 1) f fd ["self", "other"] (SpM G (runB 2 2 b_Order___eq__))
  refine fn_ok2 rfl rfl Fu sc_Order___eq__ ?_
  exact fun cdv A outer s H E B hp =>
    ss_one (s_ret (e_and (xisC B z_isinstance ik_Order (xv 1) (xglR gc_Order)) (e_one (xcmp (o_eq B.room.units B.hK) (xfld B hc_Order sl_own_names (xv 0)) (xfld B hc_Order sl_own_names (xv 1))))))
theorem bd_Order___eq__ {f : Addr} {fd : FuncData} (Fu : Fun G.K "__eq__" "Order.__eq__" s_Order___eq__ f fd) : Binds G.K fd ["self", "other"] [] := Fu.binds (ps := ["self", "other"]) fun _ _ _ _ _ _ us hl => match us, hl with | [_, _], _ => rfl
abbrev s_Order_ahead : Stmt := inClass (topS 9) 10
theorem sc_Order_ahead : FnScope ["self", "one", "other", "some", "others", "name"] ["self", "one", "other"] (defScope s_Order_ahead) := ⟨rfl, rfl, rfl, by decide +kernel, rfl, by decide +kernel, by decide +kernel⟩
theorem w_Order_ahead (hc_Order : SlX.SCls G.K (G.cls 0)) {pp_own_names : Addr} (sl_own_names : SlX.Slot1 G.K (G.cls 0) "own_names" pp_own_names 0) (c_tupled : ∀ n : Nat, Cal P w G mg base (0 + n) "tupled" 1 [] (F_tupled n)) {f : Addr} {fd : FuncData} (Fu : Fun G.K "ahead" "Order.ahead" s_Order_ahead f fd) : FnOk P w G.K mg base (L2.CX P w) 9 f fd ["self", "one", "other"] (SpM G R_Order_ahead) := by
  show FnOk P w G.K mg base (L2.CX P w) (8 + 1) f fd ["self", "one", "other"] (SpM G (runB 6 3 b_Order_ahead))
  refine fn_ok2 rfl rfl Fu sc_Order_ahead ?_
  exact fun cdv A outer s H E B hp =>
    ss_cons (s_par2 B (xa (xcall ((c_tupled 8)).snapTC (B.le (by omega)) (xa (xv 1) (a_nil))) (xa (xcall ((c_tupled 8)).snapTC (B.le (by omega)) (xa (xv 2) (a_nil))) (a_nil))))
    (ss_cons (yfor hp B (i_seq (Bx.hK B) (xfld B hc_Order sl_own_names (xv 0))) (yname 5 B) (g_name) (ss_one (s_if (xcmpT (o_ne B.room.units B.hK) (xcmp (o_in B.room.units66 B.hK) (xv 5) (xv 3)) (xcmp (o_in B.room.units66 B.hK) (xv 5) (xv 4))) (ss_one (s_ret (xcmp (o_in B.room.units66 B.hK) (xv 5) (xv 3)))) (ss_nil))))
    (ss_one (s_ret (e_bl))))
theorem bd_Order_ahead {f : Addr} {fd : FuncData} (Fu : Fun G.K "ahead" "Order.ahead" s_Order_ahead f fd) : Binds G.K fd ["self", "one", "other"] [] := Fu.binds (ps := ["self", "one", "other"]) fun _ _ _ _ _ _ us hl => match us, hl with | [_, _, _], _ => rfl
abbrev s__law_box : Stmt := topS 11
theorem sc__law_box : FnScope ["_law_script", "_law_k", "_law_cell"] ["_law_script", "_law_k"] (defScope s__law_box) := ⟨rfl, rfl, rfl, by decide +kernel, rfl, by decide +kernel, by decide +kernel⟩
theorem w__law_box (z_abs : mg "abs" = none) (z_int : mg "int" = none) (z_len : mg "len" = none) {f : Addr} {fd : FuncData} (Fu : Fun G.K "_law_box" "_law_box" s__law_box f fd) : FnOk P w G.K mg base (L2.CX P w) 1 f fd ["_law_script", "_law_k"] (SpM G R__law_box) := by
  show FnOk P w G.K mg base (L2.CX P w) (0 + 1) f fd ["_law_script", "_law_k"] (SpM G (runB 3 2 b__law_box))
  refine fn_ok2 rfl rfl Fu sc__law_box ?_
  exact fun cdv A outer s H E B hp =>
    ss_cons (yset 2 B (e_if (xcmpT (o_lt) (xv 1) (xb (b_len B.hK) z_len PySem.boot_len (xa (xv 0) (a_nil)))) (xix B (xv 0) (xv 1)) (e_int)))
    (ss_one (s_ret (e_lstB (xa (e_op (o_mul) (xb (b_abs) z_abs PyProof.Rows.boot_abs (xa (xv 2) (a_nil))) (xt (b_int) z_int PyProof.Rows.boot_int (xa (xcmp (o_ge) (xb (b_abs) z_abs PyProof.Rows.boot_abs (xa (xv 2) (a_nil))) (e_op (o_pow) (e_int) (e_int))) (a_nil)))) (xa (e_op (o_add B.hK) (e_op (o_add B.hK) (e_op (o_mod) (xt (b_int) z_int PyProof.Rows.boot_int (xa (xv 2) (a_nil))) (e_int)) (e_op (o_mul) (e_int) (xv 1))) (e_int)) (xa (e_int) (a_nil)))))))
theorem bd__law_box {f : Addr} {fd : FuncData} (Fu : Fun G.K "_law_box" "_law_box" s__law_box f fd) : Binds G.K fd ["_law_script", "_law_k"] [] := Fu.binds (ps := ["_law_script", "_law_k"]) fun _ _ _ _ _ _ us hl => match us, hl with | [_, _], _ => rfl
abbrev s__law_take : Stmt := topS 12
theorem sc__law_take : FnScope ["_law_urn", "_law_low_so", "_law_drawn", "_law_once", "_law_far", "_law_twice"] ["_law_urn", "_law_low_so"] (defScope s__law_take) := ⟨rfl, rfl, rfl, by decide +kernel, rfl, by decide +kernel, by decide +kernel⟩
theorem w__law_take (z_int : mg "int" = none) {f : Addr} {fd : FuncData} (Fu : Fun G.K "_law_take" "_law_take" s__law_take f fd) : FnOk P w G.K mg base (L2.CX P w) 1 f fd ["_law_urn", "_law_low_so"] (SpM G R__law_take) := by
  show FnOk P w G.K mg base (L2.CX P w) (0 + 1) f fd ["_law_urn", "_law_low_so"] (SpM G (runB 6 2 b__law_take))
  refine fn_ok2 rfl rfl Fu sc__law_take ?_
  exact fun cdv A outer s H E B hp =>
    ss_cons (s_if (xcmpT (o_gt) (xix B (xv 0) (e_int)) (e_int)) (ss_cons (yset 2 B (e_op (o_mod) (xt (b_int) z_int PyProof.Rows.boot_int (xa (xix B (xv 0) (e_int)) (a_nil))) (xv 1)))
    (ss_cons (ysub B (xv 0) (e_int) (e_op (o_div) (xix B (xv 0) (e_int)) (xv 1)))
    (ss_one (s_ret (xv 2))))) (ss_nil))
    (ss_cons (ysub B (xv 0) (e_int) (e_op (o_add B.hK) (xix B (xv 0) (e_int)) (e_int)))
    (ss_cons (yset 3 B (e_op (o_mod) (xt (b_int) z_int PyProof.Rows.boot_int (xa (e_op (o_mul) (e_op (o_add B.hK) (xix B (xv 0) (e_int)) (e_op (o_mul) (e_int) (xix B (xv 0) (e_int)))) (e_op (o_add B.hK) (e_int) (xix B (xv 0) (e_int)))) (a_nil))) (e_int)))
    (ss_cons (yset 4 B (e_op (o_add B.hK) (e_op (o_mod) (xt (b_int) z_int PyProof.Rows.boot_int (xa (xv 3) (a_nil))) (e_int)) (e_int)))
    (ss_cons (yset 5 B (e_op (o_mod) (xt (b_int) z_int PyProof.Rows.boot_int (xa (e_op (o_mul) (e_op (o_add B.hK) (e_op (o_add B.hK) (xv 3) (xix B (xv 0) (e_int))) (e_op (o_div) (xix B (xv 0) (e_int)) (e_int))) (xv 4)) (a_nil))) (e_int)))
    (ss_one (s_ret (e_op (o_mod) (xt (b_int) z_int PyProof.Rows.boot_int (xa (e_op (o_div) (e_op (o_mod) (xt (b_int) z_int PyProof.Rows.boot_int (xa (e_op (o_add B.hK) (e_op (o_mul) (xv 5) (e_int)) (xv 3)) (a_nil))) (e_int)) (e_int)) (a_nil))) (xv 1))))))))
theorem bd__law_take {f : Addr} {fd : FuncData} (Fu : Fun G.K "_law_take" "_law_take" s__law_take f fd) : Binds G.K fd ["_law_urn", "_law_low_so"] [] := Fu.binds (ps := ["_law_urn", "_law_low_so"]) fun _ _ _ _ _ _ us hl => match us, hl with | [_, _], _ => rfl
abbrev s__law_cells : Stmt := topS 13
theorem sc__law_cells : FnScope ["_law_script", "_law_top", "_law_cells_here", "_law_k", "_law_cell", "_law_at_so"] ["_law_script", "_law_top"] (defScope s__law_cells) := ⟨rfl, rfl, rfl, by decide +kernel, rfl, by decide +kernel, by decide +kernel⟩
theorem w__law_cells (z_enumerate : mg "enumerate" = none) (z_int : mg "int" = none) (z_list : mg "list" = none) {f : Addr} {fd : FuncData} (Fu : Fun G.K "_law_cells" "_law_cells" s__law_cells f fd) : FnOk P w G.K mg base (L2.CX P w) 1 f fd ["_law_script", "_law_top"] (SpM G R__law_cells) := by
  show FnOk P w G.K mg base (L2.CX P w) (0 + 1) f fd ["_law_script", "_law_top"] (SpM G (runB 6 2 b__law_cells))
  refine fn_ok2 rfl rfl Fu sc__law_cells ?_
  exact fun cdv A outer s H E B hp =>
    ss_cons (yset 2 B (xorT B (xt (b_listB B.hK B.calm) z_list PyProof.Rows.boot_list (xa (e_sl (sl_any B.hK) (xv 0) (o_no) (o_pt (xv 1))) (a_nil))) (e_one (e_lstB (xa (e_int) (a_nil))))))
    (ss_cons (yfor hp B (yenum B z_enumerate (xa (e_sl (sl_any B.hK) (xv 0) (o_pt (xv 1)) (o_pt (e_int))) (a_nil))) (ytup B (pgs_cons (yname 3 B) (pgs_cons (yname 4 B) (pgs_nil)))) (ytupS (Bx.hK B) (glen_cons (glen_cons (glen_nil))) (gs_cons (g_name) (gs_cons (g_name) (gs_nil)))) (ss_cons (yset 5 B (e_op (o_mod) (xt (b_int) z_int PyProof.Rows.boot_int (xa (xv 3) (a_nil))) (xv 1)))
    (ss_one (ysub B (xv 2) (xv 5) (e_op (o_add B.hK) (xix B (xv 2) (xv 5)) (e_op (o_mul) (xv 4) (e_op (o_add B.hK) (xv 3) (e_int))))))))
    (ss_one (s_ret (e_frz (xv 2)))))
theorem bd__law_cells {f : Addr} {fd : FuncData} (Fu : Fun G.K "_law_cells" "_law_cells" s__law_cells f fd) : Binds G.K fd ["_law_script", "_law_top"] [] := Fu.binds (ps := ["_law_script", "_law_top"]) fun _ _ _ _ _ _ us hl => match us, hl with | [_, _], _ => rfl
abbrev s__law_of : Stmt := topS 14
theorem sc__law_of : FnScope ["_law_urn", "_law_some_so"] ["_law_urn", "_law_some_so"] (defScope s__law_of) := ⟨rfl, rfl, rfl, by decide +kernel, rfl, by decide +kernel, by decide +kernel⟩
theorem w__law_of (z_len : mg "len" = none) (c__law_take : Cal P w G mg base 1 "_law_take" 2 [] F__law_take) {f : Addr} {fd : FuncData} (Fu : Fun G.K "_law_of" "_law_of" s__law_of f fd) : FnOk P w G.K mg base (L2.CX P w) 2 f fd ["_law_urn", "_law_some_so"] (SpM G R__law_of) := by
  show FnOk P w G.K mg base (L2.CX P w) (1 + 1) f fd ["_law_urn", "_law_some_so"] (SpM G (runB 2 2 b__law_of))
  refine fn_ok2 rfl rfl Fu sc__law_of ?_
  exact fun cdv A outer s H E B hp =>
    ss_one (s_ret (xix B (xv 1) (xcall c__law_take (B.le (by omega)) (xa (xv 0) (xa (xb (b_len B.hK) z_len PySem.boot_len (xa (xv 1) (a_nil))) (a_nil))))))
theorem bd__law_of {f : Addr} {fd : FuncData} (Fu : Fun G.K "_law_of" "_law_of" s__law_of f fd) : Binds G.K fd ["_law_urn", "_law_some_so"] [] := Fu.binds (ps := ["_law_urn", "_law_some_so"]) fun _ _ _ _ _ _ us hl => match us, hl with | [_, _], _ => rfl
abbrev s__law_same : Stmt := topS 15
theorem sc__law_same : FnScope ["_law_got", "_law_goal", "_law_mine_so", "_law_own"] ["_law_got", "_law_goal"] (defScope s__law_same) := ⟨rfl, rfl, rfl, by decide +kernel, rfl, by decide +kernel, by decide +kernel⟩
theorem w__law_same (z_all : mg "all" = none) (z_bool : mg "bool" = none) (z_int : mg "int" = none) (z_isinstance : mg "isinstance" = none) (z_len : mg "len" = none) (z_list : mg "list" = none) (z_str : mg "str" = none) (z_tuple : mg "tuple" = none) (z_zip : mg "zip" = none) {f : Addr} {fd : FuncData} (Fu : Fun G.K "_law_same" "_law_same" s__law_same f fd) (hmg : mg "_law_same" = some (.ref f)) : ∀ n : Nat, Cal P w G mg base (0 + n) "_law_same" 2 [] (F__law_same n)
  | 0 => Cal.bad hmg Fu.kp
  | n + 1 => by
    have hself := w__law_same z_all z_bool z_int z_isinstance z_len z_list z_str z_tuple z_zip Fu hmg n
    refine (Cal.fn hmg Fu (show FnOk P w G.K mg base (L2.CX P w) (0 + n + 1) f fd ["_law_got", "_law_goal"] (SpM G (runB 4 2 (b__law_same (F__law_same n)))) from fn_ok2 rfl rfl Fu sc__law_same ?_) (Fu.binds (ps := ["_law_got", "_law_goal"]) fun _ _ _ _ _ _ us hl => match us, hl with | [_, _], _ => rfl)).isoC
    exact fun cdv A outer s H E B hp =>
        ss_cons (s_if (xtru B (xisaT B z_isinstance ["list", "tuple"] (xv 1) (pa_cons (xty z_list PyProof.Rows.boot_list) (pa_cons (xty z_tuple PyProof.Rows.boot_tuple) (pa_nil))))) (ss_cons (s_if (L2.PW.pt (w_or (xcmpT (o_ne B.room.units B.hK) (xisa B z_isinstance (xv 0) (xty z_list PyProof.Rows.boot_list)) (xisa B z_isinstance (xv 1) (xty z_list PyProof.Rows.boot_list))) (w_or1 (xcmpT (o_ne B.room.units B.hK) (xisa B z_isinstance (xv 0) (xty z_tuple PyProof.Rows.boot_tuple)) (xisa B z_isinstance (xv 1) (xty z_tuple PyProof.Rows.boot_tuple)))))) (ss_one (s_ret (e_bl))) (ss_nil))
        (ss_one (s_ret (e_and (xcmp (o_eq B.room.units B.hK) (xb (b_len B.hK) z_len PySem.boot_len (xa (xv 0) (a_nil))) (xb (b_len B.hK) z_len PySem.boot_len (xa (xv 1) (a_nil)))) (e_one (xb (b_all B.hK B.calm) z_all PyProof.Rows.boot_all (xa (ylc [("_law_mine_so", 2), ("_law_own", 3)] lEnd B (yzip B z_zip (xa (xv 0) (xa (xv 1) (a_nil)))) (fun s1 H1 C1 cl1 fp1 => ytup (B.blk s1 H1 _ _ fp1) (pgs_cons (yname 2 (B.blk s1 H1 _ _ fp1)) (pgs_cons (yname 3 (B.blk s1 H1 _ _ fp1)) (pgs_nil)))) (ytupS (Bx.hK B) (glen_cons (glen_cons (glen_nil))) (gs_cons (g_name) (gs_cons (g_name) (gs_nil)))) (fun s1 H1 C1 cl1 fp1 => ts_nil) (fun s1 H1 C1 cl1 fp1 => xcall hself ((B.blk s1 H1 _ _ fp1).le (by omega)) (xa (xv 2) (xa (xv 3) (a_nil))))) (a_nil)))))))) (ss_nil))
        (ss_cons (s_if (L2.PW.pt (w_or (xcmpT (o_is) (xv 1) (e_non)) (w_or1 (xtru B (xisaT B z_isinstance ["bool", "str"] (xv 1) (pa_cons (xty z_bool PyProof.Rows.boot_bool) (pa_cons (xty z_str PyProof.Rows.boot_str) (pa_nil)))))))) (ss_one (s_ret (e_and (xcmp (o_eq B.room.units B.hK) (xv 0) (xv 1)) (e_and (xcmp (o_eq B.room.units B.hK) (xisa B z_isinstance (xv 0) (xty z_bool PyProof.Rows.boot_bool)) (xisa B z_isinstance (xv 1) (xty z_bool PyProof.Rows.boot_bool))) (e_one (xcmp (o_eq B.room.units B.hK) (xcmp (o_is) (xv 0) (e_non)) (xcmp (o_is) (xv 1) (e_non)))))))) (ss_nil))
        (ss_one (s_ret (e_and (xisa B z_isinstance (xv 0) (xty z_int PyProof.Rows.boot_int)) (e_and (e_not (xisa B z_isinstance (xv 0) (xty z_bool PyProof.Rows.boot_bool))) (e_one (xcmp (o_eq B.room.units B.hK) (xv 0) (xv 1))))))))
abbrev s__law_few : Stmt := topS 16
theorem sc__law_few : FnScope ["_law_urn", "_law_pool", "_law_one_of", "_law_own"] ["_law_urn", "_law_pool", "_law_one_of"] (defScope s__law_few) := ⟨rfl, rfl, rfl, by decide +kernel, rfl, by decide +kernel, by decide +kernel⟩
theorem w__law_few (z_tuple : mg "tuple" = none) (c__law_take : Cal P w G mg base 1 "_law_take" 2 [] F__law_take) {f : Addr} {fd : FuncData} (Fu : Fun G.K "_law_few" "_law_few" s__law_few f fd) : FnOk P w G.K mg base (L2.CX P w) 2 f fd ["_law_urn", "_law_pool", "_law_one_of"] (SpM G R__law_few) := by
  show FnOk P w G.K mg base (L2.CX P w) (1 + 1) f fd ["_law_urn", "_law_pool", "_law_one_of"] (SpM G (runB 4 3 b__law_few))
  refine fn_ok2 rfl rfl Fu sc__law_few ?_
  exact fun cdv A outer s H E B hp =>
    ss_one (s_ret (xt (b_tuple B.hK B.calm) z_tuple PyProof.Rows.boot_tuple (xa (ylc [("_law_own", 3)] lEnd B (i_seq (Bx.hK B) (xv 1)) (fun s1 H1 C1 cl1 fp1 => yname 3 (B.blk s1 H1 _ _ fp1)) (g_name) (fun s1 H1 C1 cl1 fp1 => ts_one (xcmpT (o_eq (B.blk s1 H1 _ _ fp1).room.units (B.blk s1 H1 _ _ fp1).hK) (xcall c__law_take ((B.blk s1 H1 _ _ fp1).le (by omega)) (xa (xv 0) (xa (xv 2) (a_nil)))) (e_int))) (fun s1 H1 C1 cl1 fp1 => xv 3)) (a_nil))))
theorem bd__law_few {f : Addr} {fd : FuncData} (Fu : Fun G.K "_law_few" "_law_few" s__law_few f fd) : Binds G.K fd ["_law_urn", "_law_pool", "_law_one_of"] [] := Fu.binds (ps := ["_law_urn", "_law_pool", "_law_one_of"]) fun _ _ _ _ _ _ us hl => match us, hl with | [_, _, _], _ => rfl
abbrev s__law_mixed : Stmt := topS 17
theorem sc__law_mixed : FnScope ["_law_urn", "_law_pool", "_law_left", "_law_found", "_law_turn"] ["_law_urn", "_law_pool"] (defScope s__law_mixed) := ⟨rfl, rfl, rfl, by decide +kernel, rfl, by decide +kernel, by decide +kernel⟩
theorem w__law_mixed (z_len : mg "len" = none) (z_list : mg "list" = none) (z_range : mg "range" = none) (z_tuple : mg "tuple" = none) (c__law_take : Cal P w G mg base 1 "_law_take" 2 [] F__law_take) {f : Addr} {fd : FuncData} (Fu : Fun G.K "_law_mixed" "_law_mixed" s__law_mixed f fd) : FnOk P w G.K mg base (L2.CX P w) 2 f fd ["_law_urn", "_law_pool"] (SpM G R__law_mixed) := by
  show FnOk P w G.K mg base (L2.CX P w) (1 + 1) f fd ["_law_urn", "_law_pool"] (SpM G (runB 5 2 b__law_mixed))
  refine fn_ok2 rfl rfl Fu sc__law_mixed ?_
  exact fun cdv A outer s H E B hp =>
    ss_cons (s_par2 B (xa (xt (b_listB B.hK B.calm) z_list PyProof.Rows.boot_list (xa (xv 1) (a_nil))) (xa (e_lstB (a_nil)) (a_nil))))
    (ss_cons (yfor hp B (yrg1 z_range (xa (xb (b_len B.hK) z_len PySem.boot_len (xa (xv 1) (a_nil))) (a_nil))) (yname 4 B) (g_name) (ss_one (yexpr (xlm B PySem.F.slot_list_append PySem.F.type_list_append m_append (xv 3) (xa (xlm B PySem.F.slot_list_pop PySem.F.type_list_pop m_popAt (xv 2) (xa (xcall c__law_take (B.le (by omega)) (xa (xv 0) (xa (xb (b_len B.hK) z_len PySem.boot_len (xa (xv 2) (a_nil))) (a_nil)))) (a_nil))) (a_nil))))))
    (ss_one (s_ret (xt (b_tuple B.hK B.calm) z_tuple PyProof.Rows.boot_tuple (xa (xv 3) (a_nil))))))
theorem bd__law_mixed {f : Addr} {fd : FuncData} (Fu : Fun G.K "_law_mixed" "_law_mixed" s__law_mixed f fd) : Binds G.K fd ["_law_urn", "_law_pool"] [] := Fu.binds (ps := ["_law_urn", "_law_pool"]) fun _ _ _ _ _ _ us hl => match us, hl with | [_, _], _ => rfl
abbrev s__law_heard : Stmt := topS 18
theorem sc__law_heard : FnScope ["_law_host", "_law_deed", "_law_whom", "_law_spot", "_law_got", "_law_caught", "error_so"] ["_law_host", "_law_deed", "_law_whom", "_law_spot"] (defScope s__law_heard) := ⟨rfl, rfl, rfl, by decide +kernel, rfl, by decide +kernel, by decide +kernel⟩
theorem w__law_heard (z_LookupError : mg "LookupError" = none) (z_isinstance : mg "isinstance" = none) {XA_BadStay : Addr} (gx_BadStay : mg "BadStay" = some (.ref XA_BadStay)) {XA_Clash : Addr} (gx_Clash : mg "Clash" = some (.ref XA_Clash)) {XA_NoHome : Addr} (gx_NoHome : mg "NoHome" = some (.ref XA_NoHome)) {XA_NoHousehold : Addr} (gx_NoHousehold : mg "NoHousehold" = some (.ref XA_NoHousehold)) {XA_Taken : Addr} (gx_Taken : mg "Taken" = some (.ref XA_Taken)) (em_BadStay : ExmR G [false] (.ref XA_BadStay)) (em_Clash : ExmR G [false] (.ref XA_Clash)) (em_NoHome : ExmR G [false] (.ref XA_NoHome)) (em_NoHousehold : ExmR G [true] (.ref XA_NoHousehold)) (em_Taken : ExmR G [false] (.ref XA_Taken)) (ki_LookupError : KitR G [true] (.type "LookupError")) (ki_NoHome : KitR G [false] (.ref XA_NoHome)) (ki_NoHousehold : KitR G [true] (.ref XA_NoHousehold)) (nq_Order : PySem.W.noSeq G.K (G.cls 0) = true) (xk : ExkR G 1 ["name"]) (c_Order___getitem__ : CalD P w G mg base 3 0 "__getitem__" 1 F_Order___getitem__) (c_Order___setitem__ : CalD P w G mg base 3 0 "__setitem__" 2 F_Order___setitem__) {f : Addr} {fd : FuncData} (Fu : Fun G.K "_law_heard" "_law_heard" s__law_heard f fd) : FnOk P w G.K mg base (L2.CX P w) 5 f fd ["_law_host", "_law_deed", "_law_whom", "_law_spot"] (SpM G R__law_heard) := by
  show FnOk P w G.K mg base (L2.CX P w) (4 + 1) f fd ["_law_host", "_law_deed", "_law_whom", "_law_spot"] (SpM G (runB 7 4 b__law_heard))
  refine fn_ok2 rfl rfl Fu sc__law_heard ?_
  exact fun cdv A outer s H E B hp =>
    ss_cons (yasg (ytup B (pgs_cons (yname 4 B) (pgs_cons (yname 5 B) (pgs_nil)))) (ytupS (Bx.hK B) (glen_cons (glen_cons (glen_nil))) (gs_cons (g_name) (gs_cons (g_name) (gs_nil)))) (e_tup (xa (e_non) (xa (e_non) (a_nil)))))
    (ss_cons (ytry (bs := [true]) 6 5 B (NmL.cons (ynm gx_NoHousehold) (NmL.cons (ynm gx_NoHome) (NmL.cons (ynm gx_Taken) (NmL.cons (ynm gx_Clash) (NmL.cons (ynm gx_BadStay) NmL.nil))))) (hitR_cons (a := [true]) (b := [false]) em_NoHousehold (hitR_cons (a := [false]) (b := [false]) em_NoHome (hitR_cons (a := [false]) (b := [false]) em_Taken (hitR_cons (a := [false]) (b := [false]) em_Clash (hitR_cons (a := [false]) (b := [false]) em_BadStay (hitR_nil (n := 1))))))) xk (fun W1 pn1 xe1 B1 hp => ss_one (s_if (xcmpT (o_eq B1.room.units B1.hK) (xv 1) (e_str)) (ss_one (ysubO c_Order___setitem__ nq_Order (B1.le (by omega)) (xv 0) (xv 2) (xv 3))) (ss_one (yset 4 B1 (yixM c_Order___getitem__ (B1.le (by omega)) (xv 0) (xv 2)))))))
    (ss_cons (s_if (L2.PW.pt (w_and (xtru B (xisE (bs := [true]) B z_isinstance (.own _) ki_NoHousehold xk (xv 5) (xglR gx_NoHousehold))) (w_and (xtru B (xisE (bs := [true]) B z_isinstance (.ty _) ki_LookupError xk (xv 5) (xty z_LookupError PyProof.Rows.Boot.«LookupError»))) (w_and1 (c_not (xtru B (xisE (bs := [false]) B z_isinstance (.own _) ki_NoHome xk (xv 5) (xglR gx_NoHome)))))))) (ss_one (s_ret (e_lst (xa (e_str) (xa (xexf (bs := [true]) B xk (by intro c hc; rcases c with _ | _ | _ | _ | c <;> first | rfl | exact absurd hc (by decide) | exact absurd hc (by simp [Sm.tblT])) (xv 5)) (a_nil)))))) (ss_nil))
    (ss_one (s_ret (e_if (xcmpT (o_is) (xv 5) (e_non)) (xv 4) (e_str))))))
theorem bd__law_heard {f : Addr} {fd : FuncData} (Fu : Fun G.K "_law_heard" "_law_heard" s__law_heard f fd) : Binds G.K fd ["_law_host", "_law_deed", "_law_whom", "_law_spot"] [] := Fu.binds (ps := ["_law_host", "_law_deed", "_law_whom", "_law_spot"]) fun _ _ _ _ _ _ us hl => match us, hl with | [_, _, _, _], _ => rfl
abbrev s__law_ahead : Stmt := topS 19
theorem sc__law_ahead : FnScope ["_law_row", "_law_mine", "_law_its", "_law_rest", "_law_own"] ["_law_row", "_law_mine", "_law_its"] (defScope s__law_ahead) := ⟨rfl, rfl, rfl, by decide +kernel, rfl, by decide +kernel, by decide +kernel⟩
theorem w__law_ahead  {f : Addr} {fd : FuncData} (Fu : Fun G.K "_law_ahead" "_law_ahead" s__law_ahead f fd) : FnOk P w G.K mg base (L2.CX P w) 1 f fd ["_law_row", "_law_mine", "_law_its"] (SpM G R__law_ahead) := by
  show FnOk P w G.K mg base (L2.CX P w) (0 + 1) f fd ["_law_row", "_law_mine", "_law_its"] (SpM G (runB 5 3 b__law_ahead))
  refine fn_ok2 rfl rfl Fu sc__law_ahead ?_
  exact fun cdv A outer s H E B hp =>
    ss_cons (ysetLc 3 [("_law_own", 4)] lEnd B (i_seq (Bx.hK B) (xv 0)) (fun s1 H1 C1 cl1 fp1 => yname 4 (B.blk s1 H1 _ _ fp1)) (g_name) (fun s1 H1 C1 cl1 fp1 => ts_one (xcmpT (o_ne (B.blk s1 H1 _ _ fp1).room.units (B.blk s1 H1 _ _ fp1).hK) (xcmp (o_in (B.blk s1 H1 _ _ fp1).room.units66 (B.blk s1 H1 _ _ fp1).hK) (xv 4) (xv 1)) (xcmp (o_in (B.blk s1 H1 _ _ fp1).room.units66 (B.blk s1 H1 _ _ fp1).hK) (xv 4) (xv 2)))) (fun s1 H1 C1 cl1 fp1 => xv 4))
    (ss_one (s_ret (e_and (xcmp (o_ne B.room.units B.hK) (xv 3) (e_lst (a_nil))) (e_one (xcmp (o_in B.room.units66 B.hK) (xix B (xv 3) (e_int)) (xv 1))))))
theorem bd__law_ahead {f : Addr} {fd : FuncData} (Fu : Fun G.K "_law_ahead" "_law_ahead" s__law_ahead f fd) : Binds G.K fd ["_law_row", "_law_mine", "_law_its"] [] := Fu.binds (ps := ["_law_row", "_law_mine", "_law_its"]) fun _ _ _ _ _ _ us hl => match us, hl with | [_, _, _], _ => rfl
abbrev s__law_by_hand_right : Stmt := topS 20
theorem sc__law_by_hand_right : FnScope ["_law_host", "_law_got", "_law_goal", "_law_odd"] [] (defScope s__law_by_hand_right) := ⟨rfl, rfl, rfl, by decide +kernel, rfl, by decide +kernel, by decide +kernel⟩
theorem w__law_by_hand_right (z_len : mg "len" = none) (nq_Order : PySem.W.noSeq G.K (G.cls 0) = true) (c_Order___contains__ : CalD P w G mg base 1 0 "__contains__" 1 F_Order___contains__) (c_Order___getitem__ : CalD P w G mg base 3 0 "__getitem__" 1 F_Order___getitem__) (c_Order_init : CalI P w G mg base 9 0 "Order" 1 F_Order_init) (c_Order___len__ : CalD P w G mg base 1 0 "__len__" 0 F_Order___len__) (c_Order___setitem__ : CalD P w G mg base 3 0 "__setitem__" 2 F_Order___setitem__) (c_Order_ahead : CalM P w G mg base 9 0 "ahead" 2 F_Order_ahead) (c_Order_line : CalP P w G mg base 1 0 "line" F_Order_line) (c__law_same : ∀ n : Nat, Cal P w G mg base (0 + n) "_law_same" 2 [] (F__law_same n)) {f : Addr} {fd : FuncData} (Fu : Fun G.K "_law_by_hand_right" "_law_by_hand_right" s__law_by_hand_right f fd) : FnOk P w G.K mg base (L2.CX P w) 11 f fd [] (SpM G R__law_by_hand_right) := by
  show FnOk P w G.K mg base (L2.CX P w) (10 + 1) f fd [] (SpM G (runB 4 0 b__law_by_hand_right))
  refine fn_ok2 rfl rfl Fu sc__law_by_hand_right ?_
  exact fun cdv A outer s H E B hp =>
    ss_cons (yset 0 B (ymake c_Order_init (B.le (by omega)) (xa (e_tup (xa (e_str) (xa (e_str) (xa (e_str) (xa (e_str) (a_nil)))))) (a_nil))))
    (ss_cons (ysubO c_Order___setitem__ nq_Order (B.le (by omega)) (xv 0) (e_str) (e_int))
    (ss_cons (yset 1 B (e_lstB (xa (yprop c_Order_line (B.le (by omega)) (xv 0)) (xa (yixM c_Order___getitem__ (B.le (by omega)) (xv 0) (e_str)) (xa (ymeth c_Order_ahead (B.le (by omega)) (xv 0) (xa (e_tup (xa (e_str) (a_nil))) (xa (e_tup (xa (e_str) (xa (e_str) (a_nil)))) (a_nil)))) (a_nil))))))
    (ss_cons (yset 1 B (e_op o_addB (xv 1) (e_lst (xa (ymeth c_Order_ahead (B.le (by omega)) (xv 0) (xa (e_tup (xa (e_str) (a_nil))) (xa (e_tup (xa (e_str) (a_nil))) (a_nil)))) (xa (ylenM c_Order___len__ (B.le (by omega)) z_len (xv 0)) (a_nil))))))
    (ss_cons (ysubO c_Order___setitem__ nq_Order (B.le (by omega)) (xv 0) (e_str) (e_int))
    (ss_cons (ysubO c_Order___setitem__ nq_Order (B.le (by omega)) (xv 0) (e_str) (e_int))
    (ss_cons (yset 1 B (e_op o_addB (xv 1) (e_lst (xa (yprop c_Order_line (B.le (by omega)) (xv 0)) (xa (ymeth c_Order_ahead (B.le (by omega)) (xv 0) (xa (e_tup (xa (e_str) (a_nil))) (xa (e_tup (xa (e_str) (a_nil))) (a_nil)))) (xa (ymeth c_Order_ahead (B.le (by omega)) (xv 0) (xa (e_tup (a_nil)) (xa (e_tup (xa (e_str) (a_nil))) (a_nil)))) (xa (yinM c_Order___contains__ (B.le (by omega)) (e_str) (xv 0)) (a_nil))))))))
    (ss_cons (yexpr (xlm B PySem.F.slot_list_append PySem.F.type_list_append m_append (xv 1) (xa (yinM c_Order___contains__ (B.le (by omega)) (e_str) (xv 0)) (a_nil))))
    (ss_cons (yset 2 B (e_lst (xa (e_tup (xa (e_str) (xa (e_str) (xa (e_str) (xa (e_str) (a_nil)))))) (xa (e_int) (xa (e_bl) (xa (e_bl) (xa (e_int) (xa (e_tup (xa (e_str) (xa (e_str) (xa (e_str) (xa (e_str) (a_nil)))))) (xa (e_bl) (a_nil))))))))))
    (ss_cons (yset 2 B (e_op (o_add B.hK) (xv 2) (e_lst (xa (e_bl) (xa (e_bl) (xa (e_bl) (a_nil)))))))
    (ss_cons (yset 3 B (e_lst (xa (yinM c_Order___contains__ (B.le (by omega)) (e_lst (xa (e_str) (a_nil))) (xv 0)) (xa (yinM c_Order___contains__ (B.le (by omega)) (e_tup (xa (e_lst (xa (e_str) (a_nil))) (a_nil))) (xv 0)) (xa (yinM c_Order___contains__ (B.le (by omega)) (e_non) (xv 0)) (xa (yinM c_Order___contains__ (B.le (by omega)) (e_tup (xa (e_str) (a_nil))) (xv 0)) (xa (yinM c_Order___contains__ (B.le (by omega)) (e_bl) (xv 0)) (a_nil))))))))
    (ss_one (s_ret (e_and (xcall (c__law_same 8) (B.le (by omega)) (xa (e_frz (e_op o_addB (xv 1) (xv 3))) (xa (e_op (o_add B.hK) (xv 2) (e_op (o_mul) (e_lst (xa (e_bl) (a_nil))) (e_int))) (a_nil)))) (e_one (xcall (c__law_same 8) (B.le (by omega)) (xa (e_lst (xa (yprop c_Order_line (B.le (by omega)) (ymake c_Order_init (B.le (by omega)) (xa (e_tup (a_nil)) (a_nil)))) (xa (ylenM c_Order___len__ (B.le (by omega)) z_len (ymake c_Order_init (B.le (by omega)) (xa (e_lst (a_nil)) (a_nil)))) (a_nil)))) (xa (e_lst (xa (e_tup (a_nil)) (xa (e_int) (a_nil)))) (a_nil))))))))))))))))))
theorem bd__law_by_hand_right {f : Addr} {fd : FuncData} (Fu : Fun G.K "_law_by_hand_right" "_law_by_hand_right" s__law_by_hand_right f fd) : Binds G.K fd [] [] := Fu.binds (ps := []) fun _ _ _ _ _ _ us hl => match us, hl with | [], _ => rfl
abbrev s__law_right : Stmt := topS 21
theorem sc__law_right : FnScope ["_law_urn", "_law_pool", "_law_turn", "_law_row", "_law_shelf", "_law_host", "_law_its", "_law_lap", "_law_whom", "_law_spot", "_law_goal", "_law_mine", "_law_far", "_law_said", "_law_alike"] ["_law_urn"] (defScope s__law_right) := ⟨rfl, rfl, rfl, by decide +kernel, rfl, by decide +kernel, by decide +kernel⟩
theorem w__law_right (z_len : mg "len" = none) (z_list : mg "list" = none) (z_range : mg "range" = none) (z_sorted : mg "sorted" = none) (z_tuple : mg "tuple" = none) (nf_Order : NfC G [0] 0) (ne_Order : NeC G.K (G.cls 0)) (cik_Order_init : CalIK P w G mg base 9 0 "Order" ["names"] F_Order_init) (cmk_Order_ahead_other_one : CalMK P w G mg base 9 0 "ahead" ["other", "one"] (kwF [0, 2, 1] [] F_Order_ahead)) (c_Order___contains__ : CalD P w G mg base 1 0 "__contains__" 1 F_Order___contains__) (c_Order___eq__ : CalD P w G mg base 1 0 "__eq__" 1 F_Order___eq__) (c_Order_init : CalI P w G mg base 9 0 "Order" 1 F_Order_init) (c_Order___len__ : CalD P w G mg base 1 0 "__len__" 0 F_Order___len__) (c_Order_ahead : CalM P w G mg base 9 0 "ahead" 2 F_Order_ahead) (c_Order_line : CalP P w G mg base 1 0 "line" F_Order_line) (c__law_ahead : Cal P w G mg base 1 "_law_ahead" 3 [] F__law_ahead) (c__law_by_hand_right : Cal P w G mg base 11 "_law_by_hand_right" 0 [] F__law_by_hand_right) (c__law_few : Cal P w G mg base 2 "_law_few" 3 [] F__law_few) (c__law_heard : Cal P w G mg base 5 "_law_heard" 4 [] F__law_heard) (c__law_mixed : Cal P w G mg base 2 "_law_mixed" 2 [] F__law_mixed) (c__law_of : Cal P w G mg base 2 "_law_of" 2 [] F__law_of) (c__law_same : ∀ n : Nat, Cal P w G mg base (0 + n) "_law_same" 2 [] (F__law_same n)) (c__law_take : Cal P w G mg base 1 "_law_take" 2 [] F__law_take) {f : Addr} {fd : FuncData} (Fu : Fun G.K "_law_right" "_law_right" s__law_right f fd) : FnOk P w G.K mg base (L2.CX P w) 12 f fd ["_law_urn"] (SpM G R__law_right) := by
  show FnOk P w G.K mg base (L2.CX P w) (11 + 1) f fd ["_law_urn"] (SpM G (runB 15 1 b__law_right))
  refine fn_ok2 rfl rfl Fu sc__law_right ?_
  exact fun cdv A outer s H E B hp =>
    ss_cons (s_if (c_not (xtru B (xcall0 c__law_by_hand_right (B.le (by omega))))) (ss_one (s_ret (e_bl))) (ss_nil))
    (ss_cons (yset 1 B (e_lst (xa (e_str) (xa (e_str) (xa (e_str) (xa (e_str) (xa (e_str) (xa (e_str) (xa (e_str) (a_nil))))))))))
    (ss_cons (yfor hp B (yrg1 z_range (xa (e_int) (a_nil))) (yname 2 B) (g_name) (ss_cons (yset 3 B (xt (b_listB B.hK B.calm) z_list PyProof.Rows.boot_list (xa (xcall c__law_mixed (B.le (by omega)) (xa (xv 0) (xa (e_op (o_add B.hK) (xcall c__law_few (B.le (by omega)) (xa (xv 0) (xa (xv 1) (xa (e_int) (a_nil))))) (e_tup (xa (e_str) (a_nil)))) (a_nil)))) (a_nil))))
    (ss_cons (yset 4 B (xt (b_listB B.hK B.calm) z_list PyProof.Rows.boot_list (xa (xv 3) (a_nil))))
    (ss_cons (s_par2 B (xa (ymake c_Order_init (B.le (by omega)) (xa (xv 4) (a_nil))) (xa (ymakeK0 cik_Order_init (B.le (by omega)) (k_cons (xt (b_tuple B.hK B.calm) z_tuple PyProof.Rows.boot_tuple (xa (xv 3) (a_nil))) (k_nil))) (a_nil))))
    (ss_cons (yexpr (xlm B PySem.F.slot_list_append PySem.F.type_list_append m_append (xv 4) (xa (e_str) (a_nil))))
    (ss_one (yfor hp B (yrg1 z_range (xa (e_int) (a_nil))) (yname 7 B) (g_name) (ss_cons (s_par2 B (xa (xcall c__law_of (B.le (by omega)) (xa (xv 0) (xa (e_frz (e_op o_addB (xv 3) (e_lst (xa (e_str) (a_nil))))) (a_nil)))) (xa (xcall c__law_take (B.le (by omega)) (xa (xv 0) (xa (xb (b_len B.hK) z_len PySem.boot_len (xa (xv 3) (a_nil))) (a_nil)))) (a_nil))))
    (ss_cons (yset 10 B (e_if (xcmpT (o_notIn B.room.units66 B.hK) (xv 8) (xv 3)) (e_lst (xa (e_str) (xa (xv 8) (a_nil)))) (xlm B PySem.F.slot_list_index PySem.F.type_list_index (m_index B.hK) (xv 3) (xa (xv 8) (a_nil)))))
    (ss_cons (s_if (c_not (xtru B (xcall (c__law_same 8) (B.le (by omega)) (xa (xcall c__law_heard (B.le (by omega)) (xa (xv 5) (xa (e_str) (xa (xv 8) (xa (e_int) (a_nil)))))) (xa (xv 10) (a_nil)))))) (ss_one (s_ret (e_bl))) (ss_nil))
    (ss_cons (yset 10 B (e_if (xcmpT (o_notIn B.room.units66 B.hK) (xv 8) (xv 3)) (e_lst (xa (e_str) (xa (xv 8) (a_nil)))) (e_non)))
    (ss_cons (s_if (c_not (xtru B (xcall (c__law_same 8) (B.le (by omega)) (xa (xcall c__law_heard (B.le (by omega)) (xa (xv 5) (xa (e_str) (xa (xv 8) (xa (xv 9) (a_nil)))))) (xa (xv 10) (a_nil)))))) (ss_one (s_ret (e_bl))) (ss_nil))
    (ss_cons (s_if (xcmpT (o_in B.room.units66 B.hK) (xv 8) (xv 3)) (ss_cons (yexpr (xlm B PySem.F.slot_list_pop PySem.F.type_list_pop m_popAt (xv 3) (xa (xlm B PySem.F.slot_list_index PySem.F.type_list_index (m_index B.hK) (xv 3) (xa (xv 8) (a_nil))) (a_nil))))
    (ss_one (yexpr (xlm B PySem.F.slot_list_insert PySem.F.type_list_insert m_insert (xv 3) (xa (xv 9) (xa (xv 8) (a_nil))))))) (ss_nil))
    (ss_cons (s_par2 B (xa (xcall c__law_few (B.le (by omega)) (xa (xv 0) (xa (xb (b_sorted B.hK B.room.units) z_sorted PyProof.Rows.boot_sorted (xa (xv 3) (a_nil))) (xa (e_int) (a_nil))))) (xa (xcall c__law_few (B.le (by omega)) (xa (xv 0) (xa (xb (b_sorted B.hK B.room.units) z_sorted PyProof.Rows.boot_sorted (xa (xv 3) (a_nil))) (xa (e_int) (a_nil))))) (a_nil))))
    (ss_cons (yset 13 B (e_lst (xa (ymeth c_Order_ahead (B.le (by omega)) (xv 5) (xa (xv 11) (xa (xv 12) (a_nil)))) (xa (ymethK0 cmk_Order_ahead_other_one (B.le (by omega)) (xv 5) (k_cons (xt (b_list B.hK B.calm) z_list PyProof.Rows.boot_list (xa (xv 12) (a_nil))) (k_cons (xt (b_list B.hK B.calm) z_list PyProof.Rows.boot_list (xa (xv 11) (a_nil))) (k_nil)))) (a_nil)))))
    (ss_cons (s_if (c_not (xtru B (xcall (c__law_same 8) (B.le (by omega)) (xa (e_lst (xa (yprop c_Order_line (B.le (by omega)) (xv 5)) (xa (ylenM c_Order___len__ (B.le (by omega)) z_len (xv 5)) (xa (xv 13) (a_nil))))) (xa (e_lst (xa (xt (b_tuple B.hK B.calm) z_tuple PyProof.Rows.boot_tuple (xa (xv 3) (a_nil))) (xa (xb (b_len B.hK) z_len PySem.boot_len (xa (xv 3) (a_nil))) (xa (e_op (o_mul) (e_lst (xa (xcall (c__law_ahead).snapC (B.le (by omega)) (xa (xv 3) (xa (xv 11) (xa (xv 12) (a_nil))))) (a_nil))) (e_int)) (a_nil))))) (a_nil)))))) (ss_one (s_ret (e_bl))) (ss_nil))
    (ss_cons (yset 14 B (e_lstB (xa (yeqO c_Order___eq__ nf_Order (B.le (by omega)) (xv 5) (ymake c_Order_init (B.le (by omega)) (xa (xv 3) (a_nil)))) (xa (yeqO c_Order___eq__ nf_Order (B.le (by omega)) (xv 5) (xv 6)) (xa (yneO c_Order___eq__ nf_Order ne_Order (B.le (by omega)) (xv 5) (xv 6)) (xa (yeqO c_Order___eq__ nf_Order (B.le (by omega)) (xv 5) (xt (b_tuple B.hK B.calm) z_tuple PyProof.Rows.boot_tuple (xa (xv 3) (a_nil)))) (xa (yinM c_Order___contains__ (B.le (by omega)) (xv 8) (xv 5)) (a_nil))))))))
    (ss_cons (yexpr (xlm B PySem.F.slot_list_append PySem.F.type_list_append m_append (xv 14) (xa (yinM c_Order___contains__ (B.le (by omega)) (e_int) (xv 5)) (a_nil))))
    (ss_cons (yset 10 B (e_lst (xa (e_bl) (xa (xcmp (o_eq B.room.units B.hK) (yprop c_Order_line (B.le (by omega)) (xv 6)) (xt (b_tuple B.hK B.calm) z_tuple PyProof.Rows.boot_tuple (xa (xv 3) (a_nil)))) (xa (xcmp (o_ne B.room.units B.hK) (yprop c_Order_line (B.le (by omega)) (xv 6)) (xt (b_tuple B.hK B.calm) z_tuple PyProof.Rows.boot_tuple (xa (xv 3) (a_nil)))) (xa (e_bl) (xa (xcmp (o_in B.room.units66 B.hK) (xv 8) (xv 3)) (xa (e_bl) (a_nil)))))))))
    (ss_one (s_if (c_not (xtru B (xcall ((c__law_same 8)).snapC (B.le (by omega)) (xa (xv 14) (xa (xv 10) (a_nil)))))) (ss_one (s_ret (e_bl))) (ss_nil))))))))))))))))))))))
    (ss_one (s_ret (e_bl)))))
theorem bd__law_right {f : Addr} {fd : FuncData} (Fu : Fun G.K "_law_right" "_law_right" s__law_right f fd) : Binds G.K fd ["_law_urn"] [] := Fu.binds (ps := ["_law_urn"]) fun _ _ _ _ _ _ us hl => match us, hl with | [_], _ => rfl
abbrev s_law : Stmt := topS 22
theorem sc_law : FnScope ["_law_script", "_law_cells_here", "_law_k"] ["_law_script"] (defScope s_law) := ⟨rfl, rfl, rfl, by decide +kernel, rfl, by decide +kernel, by decide +kernel⟩
theorem w_law (z_all : mg "all" = none) (z_len : mg "len" = none) (z_range : mg "range" = none) (c__law_box : Cal P w G mg base 1 "_law_box" 2 [] F__law_box) (c__law_cells : Cal P w G mg base 1 "_law_cells" 2 [] F__law_cells) (c__law_right : Cal P w G mg base 12 "_law_right" 1 [] F__law_right) {f : Addr} {fd : FuncData} (Fu : Fun G.K "law" "law" s_law f fd) : FnOk P w G.K mg base (L2.CX P w) 13 f fd ["_law_script"] (SpM G R_law) := by
  show FnOk P w G.K mg base (L2.CX P w) (12 + 1) f fd ["_law_script"] (SpM G (runB 3 1 b_law))
  refine fn_ok2 rfl rfl Fu sc_law ?_
  exact fun cdv A outer s H E B hp =>
    ss_cons (yset 1 B (xcall c__law_cells (B.le (by omega)) (xa (xv 0) (xa (e_int) (a_nil)))))
    (ss_one (s_ret (xb (b_all B.hK B.calm) z_all PyProof.Rows.boot_all (xa (ylc [("_law_k", 2)] lEnd B (yrg1 z_range (xa (xb (b_len B.hK) z_len PySem.boot_len (xa (xv 1) (a_nil))) (a_nil))) (fun s1 H1 C1 cl1 fp1 => yname 2 (B.blk s1 H1 _ _ fp1)) (g_name) (fun s1 H1 C1 cl1 fp1 => ts_nil) (fun s1 H1 C1 cl1 fp1 => xcall c__law_right ((B.blk s1 H1 _ _ fp1).le (by omega)) (xa (xcall c__law_box ((B.blk s1 H1 _ _ fp1).le (by omega)) (xa (xv 1) (xa (xv 2) (a_nil)))) (a_nil)))) (a_nil)))))
end
end K39
/-! the end -/
namespace K39
open PySem PySem.Spec PyProof.Rows L2 Sm Hn
def GG (K : PySem.W.Frag) (C0 : Addr) (XA_NoHousehold : Addr) : Gs := ⟨K, fun c => match c with
  | 0 => C0
  | _ => 0, fun c => match c with
  | 0 => .ref XA_NoHousehold
  | _ => .none, fun c => match c with
  | 0 => some "name"
  | _ => none, true⟩
set_option maxHeartbeats 4000000 in
theorem all_mk (hT : LawTrue F_law) {l : PySem.W.OpenLaw} {w : World} {K : PySem.W.Frag} {h : Heap} {mg : Str → Option Value} {fa : Addr} (X : K.In h) (Gn : h.Ns mainGlobals mg) (hfa : mg "law" = some (.ref fa)) {C0 : Addr}  {XA_BadStay : Addr} {XA_Clash : Addr} {XA_NoHome : Addr} {XA_NoHousehold : Addr} {XA_Taken : Addr} {nmC_NoHousehold qC_NoHousehold : Str} {NC_NoHousehold fX_NoHousehold cdX_NoHousehold ccX_NoHousehold : Addr} {bsC_NoHousehold subC_NoHousehold : List Value} {snC_NoHousehold : List Str} {abC_NoHousehold : Bool} {colC_NoHousehold : Option Bool} {ddC_NoHousehold odX_NoHousehold anX_NoHousehold cddX_NoHousehold cldX_NoHousehold : Option Addr} {k0_NoHousehold k1_NoHousehold k2_NoHousehold k3_NoHousehold k5_NoHousehold : Option Value} {ocX_NoHousehold kVX_NoHousehold docX_NoHousehold pmX_NoHousehold ctX_NoHousehold cclX_NoHousehold clX_NoHousehold : Value} {osX_NoHousehold ccsX_NoHousehold cslX_NoHousehold } {flX_NoHousehold : Str} {tfX_NoHousehold : Tok} {pp_own_names : Addr}  {f_tupled : Addr} {oc_tupled dc_tupled pm_tupled cd_tupled ct_tupled kV_tupled : Value} {od_tupled an_tupled : Option Addr} {os_tupled : Array (Option Value)} {f_Order_init : Addr} {oc_Order_init dc_Order_init pm_Order_init cd_Order_init ct_Order_init kV_Order_init : Value} {od_Order_init an_Order_init : Option Addr} {os_Order_init : Array (Option Value)} {f_Order_line : Addr} {oc_Order_line dc_Order_line pm_Order_line cd_Order_line ct_Order_line kV_Order_line : Value} {od_Order_line an_Order_line : Option Addr} {os_Order_line : Array (Option Value)} {pr_Order_line : Addr} {rs_Order_line : List Value} {f_Order_check : Addr} {oc_Order_check dc_Order_check pm_Order_check cd_Order_check ct_Order_check kV_Order_check : Value} {od_Order_check an_Order_check : Option Addr} {os_Order_check : Array (Option Value)} {f_Order___len__ : Addr} {oc_Order___len__ dc_Order___len__ pm_Order___len__ cd_Order___len__ ct_Order___len__ kV_Order___len__ : Value} {od_Order___len__ an_Order___len__ : Option Addr} {os_Order___len__ : Array (Option Value)} {f_Order___contains__ : Addr} {oc_Order___contains__ dc_Order___contains__ pm_Order___contains__ cd_Order___contains__ ct_Order___contains__ kV_Order___contains__ : Value} {od_Order___contains__ an_Order___contains__ : Option Addr} {os_Order___contains__ : Array (Option Value)} {f_Order___getitem__ : Addr} {oc_Order___getitem__ dc_Order___getitem__ pm_Order___getitem__ cd_Order___getitem__ ct_Order___getitem__ kV_Order___getitem__ : Value} {od_Order___getitem__ an_Order___getitem__ : Option Addr} {os_Order___getitem__ : Array (Option Value)} {f_Order___setitem__ : Addr} {oc_Order___setitem__ dc_Order___setitem__ pm_Order___setitem__ cd_Order___setitem__ ct_Order___setitem__ kV_Order___setitem__ : Value} {od_Order___setitem__ an_Order___setitem__ : Option Addr} {os_Order___setitem__ : Array (Option Value)} {f_Order___eq__ : Addr} {oc_Order___eq__ dc_Order___eq__ pm_Order___eq__ cd_Order___eq__ ct_Order___eq__ kV_Order___eq__ : Value} {od_Order___eq__ an_Order___eq__ : Option Addr} {os_Order___eq__ : Array (Option Value)} {f_Order_ahead : Addr} {oc_Order_ahead dc_Order_ahead pm_Order_ahead cd_Order_ahead ct_Order_ahead kV_Order_ahead : Value} {od_Order_ahead an_Order_ahead : Option Addr} {os_Order_ahead : Array (Option Value)} {f__law_box : Addr} {oc__law_box dc__law_box pm__law_box cd__law_box ct__law_box kV__law_box : Value} {od__law_box an__law_box : Option Addr} {os__law_box : Array (Option Value)} {f__law_take : Addr} {oc__law_take dc__law_take pm__law_take cd__law_take ct__law_take kV__law_take : Value} {od__law_take an__law_take : Option Addr} {os__law_take : Array (Option Value)} {f__law_cells : Addr} {oc__law_cells dc__law_cells pm__law_cells cd__law_cells ct__law_cells kV__law_cells : Value} {od__law_cells an__law_cells : Option Addr} {os__law_cells : Array (Option Value)} {f__law_of : Addr} {oc__law_of dc__law_of pm__law_of cd__law_of ct__law_of kV__law_of : Value} {od__law_of an__law_of : Option Addr} {os__law_of : Array (Option Value)} {f__law_same : Addr} {oc__law_same dc__law_same pm__law_same cd__law_same ct__law_same kV__law_same : Value} {od__law_same an__law_same : Option Addr} {os__law_same : Array (Option Value)} {f__law_few : Addr} {oc__law_few dc__law_few pm__law_few cd__law_few ct__law_few kV__law_few : Value} {od__law_few an__law_few : Option Addr} {os__law_few : Array (Option Value)} {f__law_mixed : Addr} {oc__law_mixed dc__law_mixed pm__law_mixed cd__law_mixed ct__law_mixed kV__law_mixed : Value} {od__law_mixed an__law_mixed : Option Addr} {os__law_mixed : Array (Option Value)} {f__law_heard : Addr} {oc__law_heard dc__law_heard pm__law_heard cd__law_heard ct__law_heard kV__law_heard : Value} {od__law_heard an__law_heard : Option Addr} {os__law_heard : Array (Option Value)} {f__law_ahead : Addr} {oc__law_ahead dc__law_ahead pm__law_ahead cd__law_ahead ct__law_ahead kV__law_ahead : Value} {od__law_ahead an__law_ahead : Option Addr} {os__law_ahead : Array (Option Value)} {f__law_by_hand_right : Addr} {oc__law_by_hand_right dc__law_by_hand_right pm__law_by_hand_right cd__law_by_hand_right ct__law_by_hand_right kV__law_by_hand_right : Value} {od__law_by_hand_right an__law_by_hand_right : Option Addr} {os__law_by_hand_right : Array (Option Value)} {f__law_right : Addr} {oc__law_right dc__law_right pm__law_right cd__law_right ct__law_right kV__law_right : Value} {od__law_right an__law_right : Option Addr} {os__law_right : Array (Option Value)} {f_law : Addr} {oc_law dc_law pm_law cd_law ct_law kV_law : Value} {od_law an_law : Option Addr} {os_law : Array (Option Value)}
    (aC0 : PySem.W.nsIn K mainGlobals "Order" = some (some (.ref C0)))
    (a_tupled : PySem.W.nsIn K mainGlobals "tupled" = some (some (.ref f_tupled)))
    (l_tupled : K.lookup f_tupled = some ⟨oc_tupled, od_tupled, .func (PySem.W.fnOf "tupled" "tupled" (defArgs s_tupled) (defBody s_tupled) (defScope s_tupled) .none kV_tupled dc_tupled pm_tupled an_tupled cd_tupled ct_tupled), os_tupled⟩)
    (co_tupled : PySem.W.codeIn K cd_tupled "tupled" = true)
    (k_tupled : PySem.W.keepIn K (.ref f_tupled) = true)
    (a_Order_init : PySem.W.findIn K (.ref C0) "__init__" = some (some (.ref f_Order_init)))
    (i_Order_init : PySem.W.isFn K (.ref f_Order_init) = true)
    (l_Order_init : K.lookup f_Order_init = some ⟨oc_Order_init, od_Order_init, .func (PySem.W.fnOf "__init__" "Order.__init__" (defArgs s_Order_init) (defBody s_Order_init) (defScope s_Order_init) .none kV_Order_init dc_Order_init pm_Order_init an_Order_init cd_Order_init ct_Order_init), os_Order_init⟩)
    (co_Order_init : PySem.W.codeIn K cd_Order_init "Order.__init__" = true)
    (k_Order_init : PySem.W.keepIn K (.ref f_Order_init) = true)
    (a_Order_line : PySem.W.findIn K (.ref C0) "line" = some (some (.ref pr_Order_line)))
    (p1_Order_line : PySem.W.specialIn K (.ref pr_Order_line) "__get__" = some (some (.builtin "property.__get__")))
    (p2_Order_line : PySem.W.takesIn K (.ref pr_Order_line) = some true)
    (p3_Order_line : PySem.W.recIn K pr_Order_line "property" = some (.ref f_Order_line :: rs_Order_line))
    (l_Order_line : K.lookup f_Order_line = some ⟨oc_Order_line, od_Order_line, .func (PySem.W.fnOf "line" "Order.line" (defArgs s_Order_line) (defBody s_Order_line) (defScope s_Order_line) .none kV_Order_line dc_Order_line pm_Order_line an_Order_line cd_Order_line ct_Order_line), os_Order_line⟩)
    (co_Order_line : PySem.W.codeIn K cd_Order_line "Order.line" = true)
    (k_Order_line : PySem.W.keepIn K (.ref f_Order_line) = true)
    (a_Order_check : PySem.W.findIn K (.ref C0) "check" = some (some (.ref f_Order_check)))
    (i_Order_check : PySem.W.isFn K (.ref f_Order_check) = true)
    (l_Order_check : K.lookup f_Order_check = some ⟨oc_Order_check, od_Order_check, .func (PySem.W.fnOf "check" "Order.check" (defArgs s_Order_check) (defBody s_Order_check) (defScope s_Order_check) .none kV_Order_check dc_Order_check pm_Order_check an_Order_check cd_Order_check ct_Order_check), os_Order_check⟩)
    (co_Order_check : PySem.W.codeIn K cd_Order_check "Order.check" = true)
    (k_Order_check : PySem.W.keepIn K (.ref f_Order_check) = true)
    (a_Order___len__ : PySem.W.findIn K (.ref C0) "__len__" = some (some (.ref f_Order___len__)))
    (i_Order___len__ : PySem.W.isFn K (.ref f_Order___len__) = true)
    (g3_Order___len__ : PySem.W.fnIn K f_Order___len__ = true)
    (l_Order___len__ : K.lookup f_Order___len__ = some ⟨oc_Order___len__, od_Order___len__, .func (PySem.W.fnOf "__len__" "Order.__len__" (defArgs s_Order___len__) (defBody s_Order___len__) (defScope s_Order___len__) .none kV_Order___len__ dc_Order___len__ pm_Order___len__ an_Order___len__ cd_Order___len__ ct_Order___len__), os_Order___len__⟩)
    (co_Order___len__ : PySem.W.codeIn K cd_Order___len__ "Order.__len__" = true)
    (k_Order___len__ : PySem.W.keepIn K (.ref f_Order___len__) = true)
    (a_Order___contains__ : PySem.W.findIn K (.ref C0) "__contains__" = some (some (.ref f_Order___contains__)))
    (i_Order___contains__ : PySem.W.isFn K (.ref f_Order___contains__) = true)
    (g3_Order___contains__ : PySem.W.fnIn K f_Order___contains__ = true)
    (l_Order___contains__ : K.lookup f_Order___contains__ = some ⟨oc_Order___contains__, od_Order___contains__, .func (PySem.W.fnOf "__contains__" "Order.__contains__" (defArgs s_Order___contains__) (defBody s_Order___contains__) (defScope s_Order___contains__) .none kV_Order___contains__ dc_Order___contains__ pm_Order___contains__ an_Order___contains__ cd_Order___contains__ ct_Order___contains__), os_Order___contains__⟩)
    (co_Order___contains__ : PySem.W.codeIn K cd_Order___contains__ "Order.__contains__" = true)
    (k_Order___contains__ : PySem.W.keepIn K (.ref f_Order___contains__) = true)
    (a_Order___getitem__ : PySem.W.findIn K (.ref C0) "__getitem__" = some (some (.ref f_Order___getitem__)))
    (i_Order___getitem__ : PySem.W.isFn K (.ref f_Order___getitem__) = true)
    (g3_Order___getitem__ : PySem.W.fnIn K f_Order___getitem__ = true)
    (l_Order___getitem__ : K.lookup f_Order___getitem__ = some ⟨oc_Order___getitem__, od_Order___getitem__, .func (PySem.W.fnOf "__getitem__" "Order.__getitem__" (defArgs s_Order___getitem__) (defBody s_Order___getitem__) (defScope s_Order___getitem__) .none kV_Order___getitem__ dc_Order___getitem__ pm_Order___getitem__ an_Order___getitem__ cd_Order___getitem__ ct_Order___getitem__), os_Order___getitem__⟩)
    (co_Order___getitem__ : PySem.W.codeIn K cd_Order___getitem__ "Order.__getitem__" = true)
    (k_Order___getitem__ : PySem.W.keepIn K (.ref f_Order___getitem__) = true)
    (a_Order___setitem__ : PySem.W.findIn K (.ref C0) "__setitem__" = some (some (.ref f_Order___setitem__)))
    (i_Order___setitem__ : PySem.W.isFn K (.ref f_Order___setitem__) = true)
    (g3_Order___setitem__ : PySem.W.fnIn K f_Order___setitem__ = true)
    (l_Order___setitem__ : K.lookup f_Order___setitem__ = some ⟨oc_Order___setitem__, od_Order___setitem__, .func (PySem.W.fnOf "__setitem__" "Order.__setitem__" (defArgs s_Order___setitem__) (defBody s_Order___setitem__) (defScope s_Order___setitem__) .none kV_Order___setitem__ dc_Order___setitem__ pm_Order___setitem__ an_Order___setitem__ cd_Order___setitem__ ct_Order___setitem__), os_Order___setitem__⟩)
    (co_Order___setitem__ : PySem.W.codeIn K cd_Order___setitem__ "Order.__setitem__" = true)
    (k_Order___setitem__ : PySem.W.keepIn K (.ref f_Order___setitem__) = true)
    (a_Order___eq__ : PySem.W.findIn K (.ref C0) "__eq__" = some (some (.ref f_Order___eq__)))
    (i_Order___eq__ : PySem.W.isFn K (.ref f_Order___eq__) = true)
    (g3_Order___eq__ : PySem.W.fnIn K f_Order___eq__ = true)
    (l_Order___eq__ : K.lookup f_Order___eq__ = some ⟨oc_Order___eq__, od_Order___eq__, .func (PySem.W.fnOf "__eq__" "Order.__eq__" (defArgs s_Order___eq__) (defBody s_Order___eq__) (defScope s_Order___eq__) .none kV_Order___eq__ dc_Order___eq__ pm_Order___eq__ an_Order___eq__ cd_Order___eq__ ct_Order___eq__), os_Order___eq__⟩)
    (co_Order___eq__ : PySem.W.codeIn K cd_Order___eq__ "Order.__eq__" = true)
    (k_Order___eq__ : PySem.W.keepIn K (.ref f_Order___eq__) = true)
    (a_Order_ahead : PySem.W.findIn K (.ref C0) "ahead" = some (some (.ref f_Order_ahead)))
    (i_Order_ahead : PySem.W.isFn K (.ref f_Order_ahead) = true)
    (l_Order_ahead : K.lookup f_Order_ahead = some ⟨oc_Order_ahead, od_Order_ahead, .func (PySem.W.fnOf "ahead" "Order.ahead" (defArgs s_Order_ahead) (defBody s_Order_ahead) (defScope s_Order_ahead) .none kV_Order_ahead dc_Order_ahead pm_Order_ahead an_Order_ahead cd_Order_ahead ct_Order_ahead), os_Order_ahead⟩)
    (co_Order_ahead : PySem.W.codeIn K cd_Order_ahead "Order.ahead" = true)
    (k_Order_ahead : PySem.W.keepIn K (.ref f_Order_ahead) = true)
    (a__law_box : PySem.W.nsIn K mainGlobals "_law_box" = some (some (.ref f__law_box)))
    (l__law_box : K.lookup f__law_box = some ⟨oc__law_box, od__law_box, .func (PySem.W.fnOf "_law_box" "_law_box" (defArgs s__law_box) (defBody s__law_box) (defScope s__law_box) .none kV__law_box dc__law_box pm__law_box an__law_box cd__law_box ct__law_box), os__law_box⟩)
    (co__law_box : PySem.W.codeIn K cd__law_box "_law_box" = true)
    (k__law_box : PySem.W.keepIn K (.ref f__law_box) = true)
    (a__law_take : PySem.W.nsIn K mainGlobals "_law_take" = some (some (.ref f__law_take)))
    (l__law_take : K.lookup f__law_take = some ⟨oc__law_take, od__law_take, .func (PySem.W.fnOf "_law_take" "_law_take" (defArgs s__law_take) (defBody s__law_take) (defScope s__law_take) .none kV__law_take dc__law_take pm__law_take an__law_take cd__law_take ct__law_take), os__law_take⟩)
    (co__law_take : PySem.W.codeIn K cd__law_take "_law_take" = true)
    (k__law_take : PySem.W.keepIn K (.ref f__law_take) = true)
    (a__law_cells : PySem.W.nsIn K mainGlobals "_law_cells" = some (some (.ref f__law_cells)))
    (l__law_cells : K.lookup f__law_cells = some ⟨oc__law_cells, od__law_cells, .func (PySem.W.fnOf "_law_cells" "_law_cells" (defArgs s__law_cells) (defBody s__law_cells) (defScope s__law_cells) .none kV__law_cells dc__law_cells pm__law_cells an__law_cells cd__law_cells ct__law_cells), os__law_cells⟩)
    (co__law_cells : PySem.W.codeIn K cd__law_cells "_law_cells" = true)
    (k__law_cells : PySem.W.keepIn K (.ref f__law_cells) = true)
    (a__law_of : PySem.W.nsIn K mainGlobals "_law_of" = some (some (.ref f__law_of)))
    (l__law_of : K.lookup f__law_of = some ⟨oc__law_of, od__law_of, .func (PySem.W.fnOf "_law_of" "_law_of" (defArgs s__law_of) (defBody s__law_of) (defScope s__law_of) .none kV__law_of dc__law_of pm__law_of an__law_of cd__law_of ct__law_of), os__law_of⟩)
    (co__law_of : PySem.W.codeIn K cd__law_of "_law_of" = true)
    (k__law_of : PySem.W.keepIn K (.ref f__law_of) = true)
    (a__law_same : PySem.W.nsIn K mainGlobals "_law_same" = some (some (.ref f__law_same)))
    (l__law_same : K.lookup f__law_same = some ⟨oc__law_same, od__law_same, .func (PySem.W.fnOf "_law_same" "_law_same" (defArgs s__law_same) (defBody s__law_same) (defScope s__law_same) .none kV__law_same dc__law_same pm__law_same an__law_same cd__law_same ct__law_same), os__law_same⟩)
    (co__law_same : PySem.W.codeIn K cd__law_same "_law_same" = true)
    (k__law_same : PySem.W.keepIn K (.ref f__law_same) = true)
    (a__law_few : PySem.W.nsIn K mainGlobals "_law_few" = some (some (.ref f__law_few)))
    (l__law_few : K.lookup f__law_few = some ⟨oc__law_few, od__law_few, .func (PySem.W.fnOf "_law_few" "_law_few" (defArgs s__law_few) (defBody s__law_few) (defScope s__law_few) .none kV__law_few dc__law_few pm__law_few an__law_few cd__law_few ct__law_few), os__law_few⟩)
    (co__law_few : PySem.W.codeIn K cd__law_few "_law_few" = true)
    (k__law_few : PySem.W.keepIn K (.ref f__law_few) = true)
    (a__law_mixed : PySem.W.nsIn K mainGlobals "_law_mixed" = some (some (.ref f__law_mixed)))
    (l__law_mixed : K.lookup f__law_mixed = some ⟨oc__law_mixed, od__law_mixed, .func (PySem.W.fnOf "_law_mixed" "_law_mixed" (defArgs s__law_mixed) (defBody s__law_mixed) (defScope s__law_mixed) .none kV__law_mixed dc__law_mixed pm__law_mixed an__law_mixed cd__law_mixed ct__law_mixed), os__law_mixed⟩)
    (co__law_mixed : PySem.W.codeIn K cd__law_mixed "_law_mixed" = true)
    (k__law_mixed : PySem.W.keepIn K (.ref f__law_mixed) = true)
    (a__law_heard : PySem.W.nsIn K mainGlobals "_law_heard" = some (some (.ref f__law_heard)))
    (l__law_heard : K.lookup f__law_heard = some ⟨oc__law_heard, od__law_heard, .func (PySem.W.fnOf "_law_heard" "_law_heard" (defArgs s__law_heard) (defBody s__law_heard) (defScope s__law_heard) .none kV__law_heard dc__law_heard pm__law_heard an__law_heard cd__law_heard ct__law_heard), os__law_heard⟩)
    (co__law_heard : PySem.W.codeIn K cd__law_heard "_law_heard" = true)
    (k__law_heard : PySem.W.keepIn K (.ref f__law_heard) = true)
    (a__law_ahead : PySem.W.nsIn K mainGlobals "_law_ahead" = some (some (.ref f__law_ahead)))
    (l__law_ahead : K.lookup f__law_ahead = some ⟨oc__law_ahead, od__law_ahead, .func (PySem.W.fnOf "_law_ahead" "_law_ahead" (defArgs s__law_ahead) (defBody s__law_ahead) (defScope s__law_ahead) .none kV__law_ahead dc__law_ahead pm__law_ahead an__law_ahead cd__law_ahead ct__law_ahead), os__law_ahead⟩)
    (co__law_ahead : PySem.W.codeIn K cd__law_ahead "_law_ahead" = true)
    (k__law_ahead : PySem.W.keepIn K (.ref f__law_ahead) = true)
    (a__law_by_hand_right : PySem.W.nsIn K mainGlobals "_law_by_hand_right" = some (some (.ref f__law_by_hand_right)))
    (l__law_by_hand_right : K.lookup f__law_by_hand_right = some ⟨oc__law_by_hand_right, od__law_by_hand_right, .func (PySem.W.fnOf "_law_by_hand_right" "_law_by_hand_right" (defArgs s__law_by_hand_right) (defBody s__law_by_hand_right) (defScope s__law_by_hand_right) .none kV__law_by_hand_right dc__law_by_hand_right pm__law_by_hand_right an__law_by_hand_right cd__law_by_hand_right ct__law_by_hand_right), os__law_by_hand_right⟩)
    (co__law_by_hand_right : PySem.W.codeIn K cd__law_by_hand_right "_law_by_hand_right" = true)
    (k__law_by_hand_right : PySem.W.keepIn K (.ref f__law_by_hand_right) = true)
    (a__law_right : PySem.W.nsIn K mainGlobals "_law_right" = some (some (.ref f__law_right)))
    (l__law_right : K.lookup f__law_right = some ⟨oc__law_right, od__law_right, .func (PySem.W.fnOf "_law_right" "_law_right" (defArgs s__law_right) (defBody s__law_right) (defScope s__law_right) .none kV__law_right dc__law_right pm__law_right an__law_right cd__law_right ct__law_right), os__law_right⟩)
    (co__law_right : PySem.W.codeIn K cd__law_right "_law_right" = true)
    (k__law_right : PySem.W.keepIn K (.ref f__law_right) = true)
    (a_law : PySem.W.nsIn K mainGlobals "law" = some (some (.ref f_law)))
    (l_law : K.lookup f_law = some ⟨oc_law, od_law, .func (PySem.W.fnOf "law" "law" (defArgs s_law) (defBody s_law) (defScope s_law) .none kV_law dc_law pm_law an_law cd_law ct_law), os_law⟩)
    (co_law : PySem.W.codeIn K cd_law "law" = true)
    (k_law : PySem.W.keepIn K (.ref f_law) = true)
    (pg0 : PySem.W.plainGet K C0 Str.empty = true)
    (ic0 : PySem.W.isClsIn K C0 = true)
    (po0 : PySem.W.plainOver K C0 = true)
    (sa0 : PySem.W.findIn K (.ref C0) "__setattr__" = some (some (.builtin "object.__setattr__")))
    (mk0 : PySem.W.makesIn K C0 = true)
    (kc0 : PySem.W.keepIn K (.ref C0) = true)
    (kcgs : PySem.W.specialIn K (.builtin "object.__class__") "__get__" = some (some (.builtin "getset_descriptor.__get__")))
    (kcgt : PySem.W.takesIn K (.builtin "object.__class__") = some true)
    (kca0 : PySem.W.findIn K (.ref C0) "__class__" = some (some (.builtin "object.__class__")))
    (kcm0 : PySem.W.mroIn K C0 (.type "object") = some true)
    (kct0 : PySem.W.typeIn K (.ref C0) = some (.type "type"))
    (kcs0 : PySem.W.subIn K (.ref C0) (.ref C0) = some true)
    (kcT_NoneType_0 : PySem.W.subIn K (.type "NoneType") (.ref C0) = some false)
    (kcT_bool_0 : PySem.W.subIn K (.type "bool") (.ref C0) = some false)
    (kcT_int_0 : PySem.W.subIn K (.type "int") (.ref C0) = some false)
    (kcT_str_0 : PySem.W.subIn K (.type "str") (.ref C0) = some false)
    (kcT_tuple_0 : PySem.W.subIn K (.type "tuple") (.ref C0) = some false)
    (kcT_list_0 : PySem.W.subIn K (.type "list") (.ref C0) = some false)
    (kcT_dict_0 : PySem.W.subIn K (.type "dict") (.ref C0) = some false)
    (nea0 : PySem.W.findIn K (.ref C0) "__ne__" = some (some (.builtin "object.__ne__")))
    (neo0 : PySem.W.subIn K (.ref C0) (.type "object") = some true)
    (nqc0 : PySem.W.noSeq K C0 = true)
    (s1_own_names : PySem.W.findIn K (.ref C0) "own_names" = some (some (.ref pp_own_names)))
    (s2_own_names : PySem.W.specialIn K (.ref pp_own_names) "__get__" = some (some (.builtin "member_descriptor.__get__")))
    (s3_own_names : PySem.W.takesIn K (.ref pp_own_names) = some true)
    (s4_own_names : PySem.W.typeIn K (.ref pp_own_names) = some (.type "member_descriptor"))
    (s5_own_names : PySem.W.slotIn K pp_own_names C0 = some 0)
    (xa_BadStay : PySem.W.nsIn K mainGlobals "BadStay" = some (some (.ref XA_BadStay)))
    (xd_BadStay : PySem.W.hasDictIn K XA_BadStay = true)
    (xt_BadStay : PySem.W.typeIn K (.ref XA_BadStay) = some (.type "type"))
    (xb_BadStay : PySem.W.subIn K (.ref XA_BadStay) (.type "BaseException") = some true)
    (xs_BadStay : PySem.W.subIn K (.ref XA_BadStay) (.ref XA_BadStay) = some true)
    (xn_BadStay : PySem.W.subIn K (.type "NoneType") (.ref XA_BadStay) = some false)
    (xa_Clash : PySem.W.nsIn K mainGlobals "Clash" = some (some (.ref XA_Clash)))
    (xd_Clash : PySem.W.hasDictIn K XA_Clash = true)
    (xt_Clash : PySem.W.typeIn K (.ref XA_Clash) = some (.type "type"))
    (xb_Clash : PySem.W.subIn K (.ref XA_Clash) (.type "BaseException") = some true)
    (xs_Clash : PySem.W.subIn K (.ref XA_Clash) (.ref XA_Clash) = some true)
    (xn_Clash : PySem.W.subIn K (.type "NoneType") (.ref XA_Clash) = some false)
    (xa_NoHome : PySem.W.nsIn K mainGlobals "NoHome" = some (some (.ref XA_NoHome)))
    (xd_NoHome : PySem.W.hasDictIn K XA_NoHome = true)
    (xt_NoHome : PySem.W.typeIn K (.ref XA_NoHome) = some (.type "type"))
    (xb_NoHome : PySem.W.subIn K (.ref XA_NoHome) (.type "BaseException") = some true)
    (xs_NoHome : PySem.W.subIn K (.ref XA_NoHome) (.ref XA_NoHome) = some true)
    (xn_NoHome : PySem.W.subIn K (.type "NoneType") (.ref XA_NoHome) = some false)
    (xa_NoHousehold : PySem.W.nsIn K mainGlobals "NoHousehold" = some (some (.ref XA_NoHousehold)))
    (xd_NoHousehold : PySem.W.hasDictIn K XA_NoHousehold = true)
    (xt_NoHousehold : PySem.W.typeIn K (.ref XA_NoHousehold) = some (.type "type"))
    (xb_NoHousehold : PySem.W.subIn K (.ref XA_NoHousehold) (.type "BaseException") = some true)
    (xs_NoHousehold : PySem.W.subIn K (.ref XA_NoHousehold) (.ref XA_NoHousehold) = some true)
    (xn_NoHousehold : PySem.W.subIn K (.type "NoneType") (.ref XA_NoHousehold) = some false)
    (xa_Taken : PySem.W.nsIn K mainGlobals "Taken" = some (some (.ref XA_Taken)))
    (xd_Taken : PySem.W.hasDictIn K XA_Taken = true)
    (xt_Taken : PySem.W.typeIn K (.ref XA_Taken) = some (.type "type"))
    (xb_Taken : PySem.W.subIn K (.ref XA_Taken) (.type "BaseException") = some true)
    (xs_Taken : PySem.W.subIn K (.ref XA_Taken) (.ref XA_Taken) = some true)
    (xn_Taken : PySem.W.subIn K (.type "NoneType") (.ref XA_Taken) = some false)
    (xr_NoHousehold_BadStay : PySem.W.subIn K (.ref XA_NoHousehold) (.ref XA_BadStay) = some false)
    (xr_NoHousehold_Clash : PySem.W.subIn K (.ref XA_NoHousehold) (.ref XA_Clash) = some false)
    (xr_NoHousehold_NoHome : PySem.W.subIn K (.ref XA_NoHousehold) (.ref XA_NoHome) = some false)
    (xr_NoHousehold_NoHousehold : PySem.W.subIn K (.ref XA_NoHousehold) (.ref XA_NoHousehold) = some true)
    (xr_NoHousehold_Taken : PySem.W.subIn K (.ref XA_NoHousehold) (.ref XA_Taken) = some false)
    (xr_NoHousehold_LookupError : PySem.W.subIn K (.ref XA_NoHousehold) (.type "LookupError") = some true)
    (xn_LookupError : PySem.W.subIn K (.type "NoneType") (.type "LookupError") = some false)
    (xl_NoHousehold : K.lookup XA_NoHousehold = some (excClassObj nmC_NoHousehold qC_NoHousehold XA_NoHousehold NC_NoHousehold bsC_NoHousehold [.type "LookupError", .type "Exception", .type "BaseException", .type "object"] true snC_NoHousehold subC_NoHousehold abC_NoHousehold colC_NoHousehold ddC_NoHousehold k0_NoHousehold k1_NoHousehold k2_NoHousehold k3_NoHousehold k5_NoHousehold "LookupError.__new__"))
    (xsa_NoHousehold : PySem.W.findIn K (.ref XA_NoHousehold) "__setattr__" = some (some (.builtin "object.__setattr__")))
    (xm_NoHousehold : PySem.W.mroIn K XA_NoHousehold (.ref XA_NoHousehold) = some true)
    (xkp_NoHousehold : PySem.W.keepIn K (.ref XA_NoHousehold) = true)
    (xi_NoHousehold : PySem.W.findIn K (.ref XA_NoHousehold) "__init__" = some (some (.ref fX_NoHousehold)))
    (xit_NoHousehold : PySem.W.typeIn K (.ref fX_NoHousehold) = some (.type "function"))
    (xf_NoHousehold : K.lookup fX_NoHousehold = some ⟨ocX_NoHousehold, odX_NoHousehold, .func (PySem.W.ksFn "__init__" "NoHousehold.__init__" (defArgs (inClass (topS 1) 0)) (defBody (inClass (topS 1) 0)) (defScope (inClass (topS 1) 0)) .none kVX_NoHousehold docX_NoHousehold pmX_NoHousehold anX_NoHousehold (.ref cdX_NoHousehold) ctX_NoHousehold ccX_NoHousehold), osX_NoHousehold⟩)
    (xco_NoHousehold : PySem.W.codeIn K (.ref cdX_NoHousehold) "NoHousehold.__init__" = true)
    (xcd_NoHousehold : K.lookup cdX_NoHousehold = some ⟨cclX_NoHousehold, cddX_NoHousehold, .fields vsX_NoHousehold, ccsX_NoHousehold⟩)
    (xvs_NoHousehold : vsX_NoHousehold[2]? = some (.str flX_NoHousehold tfX_NoHousehold))
    (xfl_NoHousehold : ((l.prog.main.file : Str) == flX_NoHousehold) = true)
    (xcc_NoHousehold : K.lookup ccX_NoHousehold = some ⟨clX_NoHousehold, cldX_NoHousehold, .cell (some (.ref XA_NoHousehold)), cslX_NoHousehold⟩)
    (xop_NoHousehold : PySem.W.nsIn K cStatics "thirdparty.any" = some none)
    (xtop_NoHousehold : (l.prog.main.scope.names.lookup ("super" : Str)).isSome = false)
    (xsb_NoHousehold : PySem.W.subIn K (.ref XA_NoHousehold) (.type "LookupError") = some true)
    (xno_NoHousehold : PySem.W.findIn K (.ref XA_NoHousehold) "name" = some none)
    (xga_NoHousehold : PySem.W.findIn K (.ref XA_NoHousehold) "__getattribute__" = some (some (.builtin "BaseException.__getattribute__")))
    (xgg_NoHousehold : PySem.W.findIn K (.ref XA_NoHousehold) "__getattr__" = some none)
    (xca_NoHousehold : PySem.W.findIn K (.ref XA_NoHousehold) "__class__" = some (some (.builtin "object.__class__")))
    (xob_NoHousehold : PySem.W.mroIn K XA_NoHousehold (.type "object") = some true)
    (xgs : PySem.W.specialIn K (.builtin "object.__class__") "__get__" = some (some (.builtin "getset_descriptor.__get__")))
    (xgt : PySem.W.takesIn K (.builtin "object.__class__") = some true)
    (xsu : PySem.W.nsIn K mainGlobals "super" = some none)
    (zz_LookupError : PySem.W.nsIn K mainGlobals "LookupError" = some none)
    (zz_abs : PySem.W.nsIn K mainGlobals "abs" = some none)
    (zz_all : PySem.W.nsIn K mainGlobals "all" = some none)
    (zz_bool : PySem.W.nsIn K mainGlobals "bool" = some none)
    (zz_enumerate : PySem.W.nsIn K mainGlobals "enumerate" = some none)
    (zz_int : PySem.W.nsIn K mainGlobals "int" = some none)
    (zz_isinstance : PySem.W.nsIn K mainGlobals "isinstance" = some none)
    (zz_len : PySem.W.nsIn K mainGlobals "len" = some none)
    (zz_list : PySem.W.nsIn K mainGlobals "list" = some none)
    (zz_range : PySem.W.nsIn K mainGlobals "range" = some none)
    (zz_sorted : PySem.W.nsIn K mainGlobals "sorted" = some none)
    (zz_str : PySem.W.nsIn K mainGlobals "str" = some none)
    (zz_tuple : PySem.W.nsIn K mainGlobals "tuple" = some none)
    (zz_zip : PySem.W.nsIn K mainGlobals "zip" = some none) :
    ∃ fd : FuncData, (∀ (s : Shared) (v : Value), BindsTo s fd ⟨[v], []⟩ [("_law_script", v)]) ∧ ∀ base : Heap, K.In base → base.Ns mainGlobals mg → FnOk l.prog w K mg base (L2.CX l.prog w) 13 fa fd ["_law_script"] (spLaw K) := by
  have e := hfa.symm.trans (PySem.W.mg_of X Gn a_law)
  cases e
  have Fu_tupled : Fun (GG K C0 XA_NoHousehold).K "tupled" "tupled" s_tupled f_tupled _ := fun_mk (st := s_tupled) l_tupled co_tupled k_tupled
  have Fu_Order_init : Fun (GG K C0 XA_NoHousehold).K "__init__" "Order.__init__" s_Order_init f_Order_init _ := fun_mk (st := s_Order_init) l_Order_init co_Order_init k_Order_init
  have Fu_Order_line : Fun (GG K C0 XA_NoHousehold).K "line" "Order.line" s_Order_line f_Order_line _ := fun_mk (st := s_Order_line) l_Order_line co_Order_line k_Order_line
  have Fu_Order_check : Fun (GG K C0 XA_NoHousehold).K "check" "Order.check" s_Order_check f_Order_check _ := fun_mk (st := s_Order_check) l_Order_check co_Order_check k_Order_check
  have Fu_Order___len__ : Fun (GG K C0 XA_NoHousehold).K "__len__" "Order.__len__" s_Order___len__ f_Order___len__ _ := fun_mk (st := s_Order___len__) l_Order___len__ co_Order___len__ k_Order___len__
  have Fu_Order___contains__ : Fun (GG K C0 XA_NoHousehold).K "__contains__" "Order.__contains__" s_Order___contains__ f_Order___contains__ _ := fun_mk (st := s_Order___contains__) l_Order___contains__ co_Order___contains__ k_Order___contains__
  have Fu_Order___getitem__ : Fun (GG K C0 XA_NoHousehold).K "__getitem__" "Order.__getitem__" s_Order___getitem__ f_Order___getitem__ _ := fun_mk (st := s_Order___getitem__) l_Order___getitem__ co_Order___getitem__ k_Order___getitem__
  have Fu_Order___setitem__ : Fun (GG K C0 XA_NoHousehold).K "__setitem__" "Order.__setitem__" s_Order___setitem__ f_Order___setitem__ _ := fun_mk (st := s_Order___setitem__) l_Order___setitem__ co_Order___setitem__ k_Order___setitem__
  have Fu_Order___eq__ : Fun (GG K C0 XA_NoHousehold).K "__eq__" "Order.__eq__" s_Order___eq__ f_Order___eq__ _ := fun_mk (st := s_Order___eq__) l_Order___eq__ co_Order___eq__ k_Order___eq__
  have Fu_Order_ahead : Fun (GG K C0 XA_NoHousehold).K "ahead" "Order.ahead" s_Order_ahead f_Order_ahead _ := fun_mk (st := s_Order_ahead) l_Order_ahead co_Order_ahead k_Order_ahead
  have Fu__law_box : Fun (GG K C0 XA_NoHousehold).K "_law_box" "_law_box" s__law_box f__law_box _ := fun_mk (st := s__law_box) l__law_box co__law_box k__law_box
  have Fu__law_take : Fun (GG K C0 XA_NoHousehold).K "_law_take" "_law_take" s__law_take f__law_take _ := fun_mk (st := s__law_take) l__law_take co__law_take k__law_take
  have Fu__law_cells : Fun (GG K C0 XA_NoHousehold).K "_law_cells" "_law_cells" s__law_cells f__law_cells _ := fun_mk (st := s__law_cells) l__law_cells co__law_cells k__law_cells
  have Fu__law_of : Fun (GG K C0 XA_NoHousehold).K "_law_of" "_law_of" s__law_of f__law_of _ := fun_mk (st := s__law_of) l__law_of co__law_of k__law_of
  have Fu__law_same : Fun (GG K C0 XA_NoHousehold).K "_law_same" "_law_same" s__law_same f__law_same _ := fun_mk (st := s__law_same) l__law_same co__law_same k__law_same
  have Fu__law_few : Fun (GG K C0 XA_NoHousehold).K "_law_few" "_law_few" s__law_few f__law_few _ := fun_mk (st := s__law_few) l__law_few co__law_few k__law_few
  have Fu__law_mixed : Fun (GG K C0 XA_NoHousehold).K "_law_mixed" "_law_mixed" s__law_mixed f__law_mixed _ := fun_mk (st := s__law_mixed) l__law_mixed co__law_mixed k__law_mixed
  have Fu__law_heard : Fun (GG K C0 XA_NoHousehold).K "_law_heard" "_law_heard" s__law_heard f__law_heard _ := fun_mk (st := s__law_heard) l__law_heard co__law_heard k__law_heard
  have Fu__law_ahead : Fun (GG K C0 XA_NoHousehold).K "_law_ahead" "_law_ahead" s__law_ahead f__law_ahead _ := fun_mk (st := s__law_ahead) l__law_ahead co__law_ahead k__law_ahead
  have Fu__law_by_hand_right : Fun (GG K C0 XA_NoHousehold).K "_law_by_hand_right" "_law_by_hand_right" s__law_by_hand_right f__law_by_hand_right _ := fun_mk (st := s__law_by_hand_right) l__law_by_hand_right co__law_by_hand_right k__law_by_hand_right
  have Fu__law_right : Fun (GG K C0 XA_NoHousehold).K "_law_right" "_law_right" s__law_right f__law_right _ := fun_mk (st := s__law_right) l__law_right co__law_right k__law_right
  have Fu_law : Fun (GG K C0 XA_NoHousehold).K "law" "law" s_law fa _ := fun_mk (st := s_law) l_law co_law k_law
  have h2 : (GG K C0 XA_NoHousehold).tk = true := rfl
  refine ⟨PySem.W.fnOf "law" "law" (defArgs s_law) (defBody s_law) (defScope s_law) .none kV_law dc_law pm_law an_law cd_law ct_law, fun s v => .of_eq rfl, fun base _ _ => ?_⟩
  have z_LookupError := PySem.W.mg_none_of X Gn zz_LookupError
  have z_abs := PySem.W.mg_none_of X Gn zz_abs
  have z_all := PySem.W.mg_none_of X Gn zz_all
  have z_bool := PySem.W.mg_none_of X Gn zz_bool
  have z_enumerate := PySem.W.mg_none_of X Gn zz_enumerate
  have z_int := PySem.W.mg_none_of X Gn zz_int
  have z_isinstance := PySem.W.mg_none_of X Gn zz_isinstance
  have z_len := PySem.W.mg_none_of X Gn zz_len
  have z_list := PySem.W.mg_none_of X Gn zz_list
  have z_range := PySem.W.mg_none_of X Gn zz_range
  have z_sorted := PySem.W.mg_none_of X Gn zz_sorted
  have z_str := PySem.W.mg_none_of X Gn zz_str
  have z_tuple := PySem.W.mg_none_of X Gn zz_tuple
  have z_zip := PySem.W.mg_none_of X Gn zz_zip
  have xms := PySem.W.mg_none_of X Gn xsu
  have gx_BadStay := PySem.W.mg_of X Gn xa_BadStay
  have gx_Clash := PySem.W.mg_of X Gn xa_Clash
  have gx_NoHome := PySem.W.mg_of X Gn xa_NoHome
  have gx_NoHousehold := PySem.W.mg_of X Gn xa_NoHousehold
  have gx_Taken := PySem.W.mg_of X Gn xa_Taken
  have XK_NoHousehold : XcCls (GG K C0 XA_NoHousehold).K XA_NoHousehold "LookupError.__new__" _ := ⟨⟨_, _, _, _, _, _, _, _, _, _, _, _, _, _, xl_NoHousehold⟩, xsa_NoHousehold, xm_NoHousehold, xb_NoHousehold, xt_NoHousehold, xkp_NoHousehold⟩
  have XI_NoHousehold : XcInit l.prog (GG K C0 XA_NoHousehold).K XA_NoHousehold fX_NoHousehold "LookupError" "LookupError.__init__" _ "name" "NoHousehold.__init__" "name" (defArgs (inClass (topS 1) 0)) (defBody (inClass (topS 1) 0)) (defScope (inClass (topS 1) 0)) cdX_NoHousehold ccX_NoHousehold := ⟨⟨_, _, _, _, _, _, _, _, _, _, xf_NoHousehold, fun s a b => .of_eq rfl⟩, xco_NoHousehold, ⟨_, _, _, _, _, _, xcd_NoHousehold, xvs_NoHousehold, xfl_NoHousehold⟩, ⟨_, _, _, xcc_NoHousehold⟩, xop_NoHousehold, ⟨_, _, _, _, _, _, _, _, _, _, rfl, rfl⟩, ⟨_, rfl, rfl⟩, xtop_NoHousehold, rfl, rfl, rfl, by decide +kernel, by decide +kernel, by decide +kernel, by decide +kernel, by decide +kernel, by decide, by decide, along_L _, xsb_NoHousehold, xno_NoHousehold⟩
  have rs_NoHousehold : Rsx l.prog (GG K C0 XA_NoHousehold) mg "NoHousehold" 0 := ⟨⟨_, _, _, _, _, _, _, _, _, _, _, _, _, _, rfl, rfl, bsL, XK_NoHousehold, XI_NoHousehold, xi_NoHousehold, xit_NoHousehold, gx_NoHousehold⟩, xms⟩
  have xk_NoHousehold : Exk (GG K C0 XA_NoHousehold) 0 "name" := ⟨⟨_, rfl, ⟨xga_NoHousehold, xgg_NoHousehold, xb_NoHousehold, xd_NoHousehold, xca_NoHousehold, xgs, xgt, xob_NoHousehold⟩, xno_NoHousehold⟩, rfl⟩
  have xk : ExkR (GG K C0 XA_NoHousehold) 1 ["name"] := fun c hc => match c, hc with | 0, _ => ⟨_, rfl, xk_NoHousehold⟩
  have em_BadStay : ExmR (GG K C0 XA_NoHousehold) [false] (.ref XA_BadStay) := fun c b hc => match c, hc with | 0, hc => by cases hc; exact PySem.W.exm_ref xb_BadStay xd_BadStay xt_BadStay xr_NoHousehold_BadStay
  have em_Clash : ExmR (GG K C0 XA_NoHousehold) [false] (.ref XA_Clash) := fun c b hc => match c, hc with | 0, hc => by cases hc; exact PySem.W.exm_ref xb_Clash xd_Clash xt_Clash xr_NoHousehold_Clash
  have em_NoHome : ExmR (GG K C0 XA_NoHousehold) [false] (.ref XA_NoHome) := fun c b hc => match c, hc with | 0, hc => by cases hc; exact PySem.W.exm_ref xb_NoHome xd_NoHome xt_NoHome xr_NoHousehold_NoHome
  have em_NoHousehold : ExmR (GG K C0 XA_NoHousehold) [true] (.ref XA_NoHousehold) := fun c b hc => match c, hc with | 0, hc => by cases hc; exact PySem.W.exm_ref xb_NoHousehold xd_NoHousehold xt_NoHousehold xr_NoHousehold_NoHousehold
  have em_Taken : ExmR (GG K C0 XA_NoHousehold) [false] (.ref XA_Taken) := fun c b hc => match c, hc with | 0, hc => by cases hc; exact PySem.W.exm_ref xb_Taken xd_Taken xt_Taken xr_NoHousehold_Taken
  have ki_LookupError : KitR (GG K C0 XA_NoHousehold) [true] (.type "LookupError") := ⟨fun c b hc => match c, hc with | 0, hc => (by cases hc; exact kit_typ (by decide +kernel) (by rfl) xr_NoHousehold_LookupError), kit_typ (by decide +kernel) (by decide) xn_LookupError⟩
  have ki_NoHome : KitR (GG K C0 XA_NoHousehold) [false] (.ref XA_NoHome) := ⟨fun c b hc => match c, hc with | 0, hc => (by cases hc; exact kit_own xd_NoHome xt_NoHome xs_NoHome xr_NoHousehold_NoHome), kit_own xd_NoHome xt_NoHome xs_NoHome xn_NoHome⟩
  have ki_NoHousehold : KitR (GG K C0 XA_NoHousehold) [true] (.ref XA_NoHousehold) := ⟨fun c b hc => match c, hc with | 0, hc => (by cases hc; exact kit_own xd_NoHousehold xt_NoHousehold xs_NoHousehold xr_NoHousehold_NoHousehold), kit_own xd_NoHousehold xt_NoHousehold xs_NoHousehold xn_NoHousehold⟩
  have hc_Order : SlX.SCls (GG K C0 XA_NoHousehold).K ((GG K C0 XA_NoHousehold).cls 0) := ⟨pg0, ic0, po0, sa0⟩
  have nf_Order : NfC (GG K C0 XA_NoHousehold) [0] 0 := ⟨fun c' hc => by (simp only [List.mem_cons, List.not_mem_nil, or_false] at hc; rcases hc with rfl <;> first | exact (by unfold PySem.W.notFirst; simp)), fun T hT => by (simp only [tyL, List.mem_cons, List.not_mem_nil, or_false] at hT; rcases hT with rfl | rfl | rfl | rfl | rfl | rfl | rfl <;> first | exact kcT_NoneType_0 | exact kcT_bool_0 | exact kcT_int_0 | exact kcT_str_0 | exact kcT_tuple_0 | exact kcT_list_0 | exact kcT_dict_0)⟩
  have ne_Order : NeC (GG K C0 XA_NoHousehold).K ((GG K C0 XA_NoHousehold).cls 0) := ⟨nea0, neo0⟩
  have nq_Order : PySem.W.noSeq (GG K C0 XA_NoHousehold).K ((GG K C0 XA_NoHousehold).cls 0) = true := nqc0
  have gc_Order := PySem.W.mg_of X Gn aC0
  have ik_Order : IsC (GG K C0 XA_NoHousehold) 1 0 := ⟨fun c' hc => match c', hc with | 0, _ => ⟨⟨hc_Order, kca0, kcgs, kcgt, kcm0⟩, kit_ownS ic0 kct0 kcs0 kcs0⟩, fun T hT => by (simp only [tyL, List.mem_cons, List.not_mem_nil, or_false] at hT; rcases hT with rfl | rfl | rfl | rfl | rfl | rfl | rfl <;> first | exact kit_ownS ic0 kct0 kcs0 kcT_NoneType_0 | exact kit_ownS ic0 kct0 kcs0 kcT_bool_0 | exact kit_ownS ic0 kct0 kcs0 kcT_int_0 | exact kit_ownS ic0 kct0 kcs0 kcT_str_0 | exact kit_ownS ic0 kct0 kcs0 kcT_tuple_0 | exact kit_ownS ic0 kct0 kcs0 kcT_list_0 | exact kit_ownS ic0 kct0 kcs0 kcT_dict_0)⟩
  have sl_own_names : SlX.Slot1 (GG K C0 XA_NoHousehold).K ((GG K C0 XA_NoHousehold).cls 0) "own_names" pp_own_names 0 := ⟨s1_own_names, s2_own_names, s3_own_names, s4_own_names, s5_own_names, by decide⟩
  have c_tupled : ∀ n : Nat, Cal l.prog w (GG K C0 XA_NoHousehold) mg base (0 + n) "tupled" 1 [] (F_tupled n) := w_tupled z_isinstance z_list z_tuple Fu_tupled (PySem.W.mg_of X Gn a_tupled)
  have o_Order_init := w_Order_init (P := l.prog) (w := w) (G := (GG K C0 XA_NoHousehold)) (mg := mg) (base := base) hc_Order sl_own_names z_list c_tupled Fu_Order_init
  have c_Order_init : CalI l.prog w (GG K C0 XA_NoHousehold) mg base 9 0 "Order" 1 F_Order_init := ⟨f_Order_init, PySem.W.mg_of X Gn aC0, ⟨mk0, a_Order_init, i_Order_init, kc0⟩, CallW.of0 o_Order_init (bd_Order_init Fu_Order_init)⟩
  have cik_Order_init : CalIK l.prog w (GG K C0 XA_NoHousehold) mg base 9 0 "Order" ["names"] F_Order_init := ⟨f_Order_init, PySem.W.mg_of X Gn aC0, ⟨mk0, a_Order_init, i_Order_init, kc0⟩, CallW.kw o_Order_init (kbn_of (n := 1) (ks := ["names"]) Fu_Order_init fun _ _ _ _ _ _ us ws h1 h2 => match us, ws, h1, h2 with | [_], [_], _, _ => rfl) fun A H xs vs zs r _ _ => ⟨xs, r, fun S => rfl⟩⟩
  have o_Order_line := w_Order_line (P := l.prog) (w := w) (G := (GG K C0 XA_NoHousehold)) (mg := mg) (base := base) hc_Order sl_own_names z_tuple Fu_Order_line
  have c_Order_line : CalP l.prog w (GG K C0 XA_NoHousehold) mg base 1 0 "line" F_Order_line := ⟨pr_Order_line, f_Order_line, hc_Order, ⟨a_Order_line, p1_Order_line, p2_Order_line, ⟨_, p3_Order_line⟩⟩, (CallW.of0 o_Order_line (bd_Order_line Fu_Order_line))⟩
  have o_Order_check := w_Order_check (P := l.prog) (w := w) (G := (GG K C0 XA_NoHousehold)) (mg := mg) (base := base) hc_Order sl_own_names rs_NoHousehold Fu_Order_check
  have c_Order_check : CalM l.prog w (GG K C0 XA_NoHousehold) mg base 2 0 "check" 1 F_Order_check := ⟨f_Order_check, hc_Order, ⟨a_Order_check, i_Order_check, k_Order_check⟩, (CallW.of0 o_Order_check (bd_Order_check Fu_Order_check))⟩
  have o_Order___len__ := w_Order___len__ (P := l.prog) (w := w) (G := (GG K C0 XA_NoHousehold)) (mg := mg) (base := base) hc_Order sl_own_names z_len Fu_Order___len__
  have c_Order___len__ : CalD l.prog w (GG K C0 XA_NoHousehold) mg base 1 0 "__len__" 0 F_Order___len__ := ⟨f_Order___len__, hc_Order, ⟨a_Order___len__, i_Order___len__, k_Order___len__⟩, g3_Order___len__, (CallW.of0 o_Order___len__ (bd_Order___len__ Fu_Order___len__))⟩
  have o_Order___contains__ := w_Order___contains__ (P := l.prog) (w := w) (G := (GG K C0 XA_NoHousehold)) (mg := mg) (base := base) hc_Order sl_own_names Fu_Order___contains__
  have c_Order___contains__ : CalD l.prog w (GG K C0 XA_NoHousehold) mg base 1 0 "__contains__" 1 F_Order___contains__ := ⟨f_Order___contains__, hc_Order, ⟨a_Order___contains__, i_Order___contains__, k_Order___contains__⟩, g3_Order___contains__, (CallW.of0 o_Order___contains__ (bd_Order___contains__ Fu_Order___contains__))⟩
  have o_Order___getitem__ := w_Order___getitem__ (P := l.prog) (w := w) (G := (GG K C0 XA_NoHousehold)) (mg := mg) (base := base) hc_Order sl_own_names c_Order_check Fu_Order___getitem__
  have c_Order___getitem__ : CalD l.prog w (GG K C0 XA_NoHousehold) mg base 3 0 "__getitem__" 1 F_Order___getitem__ := ⟨f_Order___getitem__, hc_Order, ⟨a_Order___getitem__, i_Order___getitem__, k_Order___getitem__⟩, g3_Order___getitem__, (CallW.of0 o_Order___getitem__ (bd_Order___getitem__ Fu_Order___getitem__))⟩
  have o_Order___setitem__ := w_Order___setitem__ (P := l.prog) (w := w) (G := (GG K C0 XA_NoHousehold)) (mg := mg) (base := base) hc_Order sl_own_names c_Order_check Fu_Order___setitem__
  have c_Order___setitem__ : CalD l.prog w (GG K C0 XA_NoHousehold) mg base 3 0 "__setitem__" 2 F_Order___setitem__ := ⟨f_Order___setitem__, hc_Order, ⟨a_Order___setitem__, i_Order___setitem__, k_Order___setitem__⟩, g3_Order___setitem__, (CallW.of0 o_Order___setitem__ (bd_Order___setitem__ Fu_Order___setitem__))⟩
  have o_Order___eq__ := w_Order___eq__ (P := l.prog) (w := w) (G := (GG K C0 XA_NoHousehold)) (mg := mg) (base := base) hc_Order sl_own_names z_isinstance gc_Order ik_Order Fu_Order___eq__
  have c_Order___eq__ : CalD l.prog w (GG K C0 XA_NoHousehold) mg base 1 0 "__eq__" 1 F_Order___eq__ := ⟨f_Order___eq__, hc_Order, ⟨a_Order___eq__, i_Order___eq__, k_Order___eq__⟩, g3_Order___eq__, (CallW.of0 o_Order___eq__ (bd_Order___eq__ Fu_Order___eq__))⟩
  have o_Order_ahead := w_Order_ahead (P := l.prog) (w := w) (G := (GG K C0 XA_NoHousehold)) (mg := mg) (base := base) hc_Order sl_own_names c_tupled Fu_Order_ahead
  have c_Order_ahead : CalM l.prog w (GG K C0 XA_NoHousehold) mg base 9 0 "ahead" 2 F_Order_ahead := ⟨f_Order_ahead, hc_Order, ⟨a_Order_ahead, i_Order_ahead, k_Order_ahead⟩, (CallW.of0 o_Order_ahead (bd_Order_ahead Fu_Order_ahead))⟩
  have cmk_Order_ahead_other_one : CalMK l.prog w (GG K C0 XA_NoHousehold) mg base 9 0 "ahead" ["other", "one"] (kwF [0, 2, 1] [] F_Order_ahead) := ⟨f_Order_ahead, hc_Order, ⟨a_Order_ahead, i_Order_ahead, k_Order_ahead⟩, CallW.kp (n := 1) (ks := ["other", "one"]) o_Order_ahead (funA_mk (st := s_Order_ahead) l_Order_ahead co_Order_ahead k_Order_ahead) [0, 2, 1] (fun _ _ _ _ _ us ws h1 h2 => match us, ws, h1, h2 with | [_], [_, _], _, _ => rfl)⟩
  have o__law_box := w__law_box (P := l.prog) (w := w) (G := (GG K C0 XA_NoHousehold)) (mg := mg) (base := base) z_abs z_int z_len Fu__law_box
  have c__law_box : Cal l.prog w (GG K C0 XA_NoHousehold) mg base 1 "_law_box" 2 [] F__law_box := (Cal.fn (PySem.W.mg_of X Gn a__law_box) Fu__law_box o__law_box (bd__law_box Fu__law_box))
  have o__law_take := w__law_take (P := l.prog) (w := w) (G := (GG K C0 XA_NoHousehold)) (mg := mg) (base := base) z_int Fu__law_take
  have c__law_take : Cal l.prog w (GG K C0 XA_NoHousehold) mg base 1 "_law_take" 2 [] F__law_take := (Cal.fn (PySem.W.mg_of X Gn a__law_take) Fu__law_take o__law_take (bd__law_take Fu__law_take)).viewC
  have o__law_cells := w__law_cells (P := l.prog) (w := w) (G := (GG K C0 XA_NoHousehold)) (mg := mg) (base := base) z_enumerate z_int z_list Fu__law_cells
  have c__law_cells : Cal l.prog w (GG K C0 XA_NoHousehold) mg base 1 "_law_cells" 2 [] F__law_cells := (Cal.fn (PySem.W.mg_of X Gn a__law_cells) Fu__law_cells o__law_cells (bd__law_cells Fu__law_cells)).isoC
  have o__law_of := w__law_of (P := l.prog) (w := w) (G := (GG K C0 XA_NoHousehold)) (mg := mg) (base := base) z_len c__law_take Fu__law_of
  have c__law_of : Cal l.prog w (GG K C0 XA_NoHousehold) mg base 2 "_law_of" 2 [] F__law_of := (Cal.fn (PySem.W.mg_of X Gn a__law_of) Fu__law_of o__law_of (bd__law_of Fu__law_of)).viewC
  have c__law_same : ∀ n : Nat, Cal l.prog w (GG K C0 XA_NoHousehold) mg base (0 + n) "_law_same" 2 [] (F__law_same n) := w__law_same z_all z_bool z_int z_isinstance z_len z_list z_str z_tuple z_zip Fu__law_same (PySem.W.mg_of X Gn a__law_same)
  have o__law_few := w__law_few (P := l.prog) (w := w) (G := (GG K C0 XA_NoHousehold)) (mg := mg) (base := base) z_tuple c__law_take Fu__law_few
  have c__law_few : Cal l.prog w (GG K C0 XA_NoHousehold) mg base 2 "_law_few" 3 [] F__law_few := (Cal.fn (PySem.W.mg_of X Gn a__law_few) Fu__law_few o__law_few (bd__law_few Fu__law_few)).viewC
  have o__law_mixed := w__law_mixed (P := l.prog) (w := w) (G := (GG K C0 XA_NoHousehold)) (mg := mg) (base := base) z_len z_list z_range z_tuple c__law_take Fu__law_mixed
  have c__law_mixed : Cal l.prog w (GG K C0 XA_NoHousehold) mg base 2 "_law_mixed" 2 [] F__law_mixed := (Cal.fn (PySem.W.mg_of X Gn a__law_mixed) Fu__law_mixed o__law_mixed (bd__law_mixed Fu__law_mixed)).viewC
  have o__law_heard := w__law_heard (P := l.prog) (w := w) (G := (GG K C0 XA_NoHousehold)) (mg := mg) (base := base) z_LookupError z_isinstance gx_BadStay gx_Clash gx_NoHome gx_NoHousehold gx_Taken em_BadStay em_Clash em_NoHome em_NoHousehold em_Taken ki_LookupError ki_NoHome ki_NoHousehold nq_Order xk c_Order___getitem__ c_Order___setitem__ Fu__law_heard
  have c__law_heard : Cal l.prog w (GG K C0 XA_NoHousehold) mg base 5 "_law_heard" 4 [] F__law_heard := (Cal.fn (PySem.W.mg_of X Gn a__law_heard) Fu__law_heard o__law_heard (bd__law_heard Fu__law_heard)).viewC
  have o__law_ahead := w__law_ahead (P := l.prog) (w := w) (G := (GG K C0 XA_NoHousehold)) (mg := mg) (base := base)  Fu__law_ahead
  have c__law_ahead : Cal l.prog w (GG K C0 XA_NoHousehold) mg base 1 "_law_ahead" 3 [] F__law_ahead := (Cal.fn (PySem.W.mg_of X Gn a__law_ahead) Fu__law_ahead o__law_ahead (bd__law_ahead Fu__law_ahead)).isoC
  have o__law_by_hand_right := w__law_by_hand_right (P := l.prog) (w := w) (G := (GG K C0 XA_NoHousehold)) (mg := mg) (base := base) z_len nq_Order c_Order___contains__ c_Order___getitem__ c_Order_init c_Order___len__ c_Order___setitem__ c_Order_ahead c_Order_line c__law_same Fu__law_by_hand_right
  have c__law_by_hand_right : Cal l.prog w (GG K C0 XA_NoHousehold) mg base 11 "_law_by_hand_right" 0 [] F__law_by_hand_right := (Cal.fn (PySem.W.mg_of X Gn a__law_by_hand_right) Fu__law_by_hand_right o__law_by_hand_right (bd__law_by_hand_right Fu__law_by_hand_right)).isoC
  have o__law_right := w__law_right (P := l.prog) (w := w) (G := (GG K C0 XA_NoHousehold)) (mg := mg) (base := base) z_len z_list z_range z_sorted z_tuple nf_Order ne_Order cik_Order_init cmk_Order_ahead_other_one c_Order___contains__ c_Order___eq__ c_Order_init c_Order___len__ c_Order_ahead c_Order_line c__law_ahead c__law_by_hand_right c__law_few c__law_heard c__law_mixed c__law_of c__law_same c__law_take Fu__law_right
  have c__law_right : Cal l.prog w (GG K C0 XA_NoHousehold) mg base 12 "_law_right" 1 [] F__law_right := (Cal.fn (PySem.W.mg_of X Gn a__law_right) Fu__law_right o__law_right (bd__law_right Fu__law_right)).viewC
  exact law_ok (w_law z_all z_len z_range c__law_box c__law_cells c__law_right Fu_law) hT
end K39
/-! Hn1: what the shared helpers compute. -/
namespace Hn
open PySem PySem.Spec PyProof.Rows L2 Sm

/-- the urn, with room for m drawings more -/
def Urn (o : Bo) (m : Nat) : Prop := ∃ a b c : Int, o = .lst [.d (.int a), .d (.int b), .d (.int c)] ∧ 0 ≤ a ∧ 0 ≤ b ∧ b < 2 ^ 62 ∧ 0 ≤ c ∧ c + m < 2 ^ 40
theorem Urn.pure {o : Bo} {m : Nat} (u : Urn o m) : pureB o = true := by
  obtain ⟨a, b, c, rfl, _⟩ := u
  rfl
theorem Urn.less {o : Bo} {m k : Nat} (u : Urn o m) (h : k ≤ m) : Urn o k := by
  obtain ⟨a, b, c, e, h1, h2, h3, h4, h5⟩ := u
  exact ⟨a, b, c, e, h1, h2, h3, h4, by omega⟩
theorem small_mul {i j : Int} (h : -(2 ^ 64) < j ∧ j < 2 ^ 64) : mulOk i j = true := by
  unfold mulOk smallI
  simp only [Bool.or_eq_true, decide_eq_true_eq]
  exact .inl (.inr h)
theorem small_mul' {i j : Int} (h : -(2 ^ 64) < i ∧ i < 2 ^ 64) : mulOk i j = true := by
  unfold mulOk smallI
  simp only [Bool.or_eq_true, decide_eq_true_eq]
  exact .inl (.inl h)
theorem small_div {j : Int} (h : 0 < j) (h2 : j < 1073741824) : divOk j = true := by
  unfold divOk
  simp [h, h2]
/-- a drawing: from the box itself -/
theorem take_raw {o : Bo} {m : Nat} {low : Int} (u : Urn o (m + 1)) (h0 : 0 < low) (h1 : low < 1000000) : ∃ (r : Int) (o' : Bo), R__law_take [.loc 0, .d (.int low)] [o] = .ok (.d (.int r)) [o'] ∧ 0 ≤ r ∧ r < low ∧ Urn o' m := by
  obtain ⟨a, b, c, rfl, ha, hb, hb2, hc, hm⟩ := u
  unfold R__law_take runB b__law_take
  by_cases h : 0 < a
  · refine ⟨a % low, .lst [.d (.int (a / low)), .d (.int b), .d (.int c)], ?_, Int.emod_nonneg _ (by omega), Int.emod_lt_of_pos _ h0, a / low, b, c, rfl, Int.ediv_nonneg ha (by omega), hb, hb2, hc, by omega⟩
    simp [sSeq, sqz, sIf, sSet, sSub, sRet, mTst, m2, mN, mV, mC, aCons, aNil, Rz.to, Rz.bind, pIx, pGt, pCmp, pInt, pMod, pDiv, dctAt, seqAt, lstAt, toB, li, lift, Sm.lift, atI, ixN, h, h0, small_div h0 (by omega), stSub, oz]
  · have e1 : mulOk 48271 (c + 1) = true := small_mul' (by omega)
    have e2 : mulOk (b + 48271 * (c + 1)) (39373 + (c + 1)) = true := small_mul (by omega)
    generalize hv : (b + 48271 * (c + 1)) * (39373 + (c + 1)) % 2147483647 = v at *
    have hv0 : 0 ≤ v := by
      rw [← hv]
      exact Int.emod_nonneg _ (by omega)
    have hv1 : v < 2147483647 := by
      rw [← hv]
      exact Int.emod_lt_of_pos _ (by omega)
    have e3 : mulOk (v + (c + 1) + b / 1000003) (v % 40009 + 7) = true := small_mul (by omega)
    generalize hw : (v + (c + 1) + b / 1000003) * (v % 40009 + 7) % 2147483629 = x at *
    have hw0 : 0 ≤ x := by
      rw [← hw]
      exact Int.emod_nonneg _ (by omega)
    have hw1 : x < 2147483629 := by
      rw [← hw]
      exact Int.emod_lt_of_pos _ (by omega)
    have e4 : mulOk x 48271 = true := small_mul (by omega)
    have e5 : divOk 1000003 = true := by decide
    have e6 : divOk 64 = true := by decide
    refine ⟨(x * 48271 + v) % 2147483587 / 64 % low, .lst [.d (.int a), .d (.int b), .d (.int (c + 1))], ?_, Int.emod_nonneg _ (by omega), Int.emod_lt_of_pos _ h0, a, b, c + 1, rfl, ha, hb, hb2, by omega, by omega⟩
    simp [sSeq, sqz, sIf, sSet, sSub, sRet, sNil, mTst, m2, mN, mV, mC, aCons, aNil, Rz.to, Rz.bind, pIx, pGt, pCmp, pInt, pMod, pDiv, pAdd, pMul, dctAt, seqAt, lstAt, toB, li, lift, Sm.lift, atI, ixN, h, h0, e1, e2, e3, e4, e5, e6, hv, hw, stSub, oz]
end Hn
/-! Hn2: take in any store, few, mixed. -/
namespace Hn
open PySem PySem.Spec PyProof.Rows L2 Sm
@[simp] theorem pures_d : ∀ ts : List Dt, pures (ts.map Dv.d) = some ts
  | [] => rfl
  | t :: ts => by
    show (pures (ts.map Dv.d)).map (t :: ·) = _
    rw [pures_d ts]
    rfl
theorem view_ok {F : FM} {ts : List Dt} {n : Nat} {S : Sto} {o o' : Bo} {r : Dt} {rest : Sto} (hS : S[n]? = some o) (hp : pureB o = true) (hF : F (.loc 0 :: ts.map .d) [o] = .ok (.d r) (o' :: rest)) (hp' : pureB o' = true) : view F (.loc n :: ts.map .d) S = .ok (.d r) (S.set n o') := by
  show (match pures (ts.map Dv.d), S[n]? with
    | some _, some o => if pureB o = true then (match F (.loc 0 :: ts.map .d) [o] with
      | .ok (.d t) (o' :: _) => if pureB o' = true then Rz.ok (Dv.d t) (S.set n o') else .bad
      | .er c t (o' :: _) => if pureB o' = true then .er c t (S.set n o') else .bad
      | _ => .bad) else .bad
    | _, _ => .bad) = _
  rw [pures_d, hS]
  simp [hp, hF, hp']
theorem iso_ok {F : FM} {ts : List Dt} {S S' : Sto} {r : Dt} (hF : F (ts.map .d) [] = .ok (.d r) S') : iso F (ts.map .d) S = .ok (.d r) S := by
  show (match pures (ts.map Dv.d) with
    | some _ => (match F (ts.map .d) [] with
      | .ok (.d t) _ => Rz.ok (Dv.d t) S
      | .er c t _ => .er c t S
      | _ => .bad)
    | none => .bad) = _
  rw [pures_d, hF]
theorem runB_rt {n p : Nat} {b : SM} {ds : List Dv} {S S' : Sto} {d : Dv} (hl : ds.length = p) (hb : b (ds.map some ++ List.replicate (n - p) none) S = .rt d S') : runB n p b ds S = .ok d S' := by
  unfold runB
  rw [if_pos hl, hb]
theorem take_ok {S : Sto} {n : Nat} {o : Bo} {m : Nat} {low : Int} (hS : S[n]? = some o) (u : Urn o (m + 1)) (h0 : 0 < low) (h1 : low < 1000000) : ∃ (r : Int) (o' : Bo), F__law_take [.loc n, .d (.int low)] S = .ok (.d (.int r)) (S.set n o') ∧ 0 ≤ r ∧ r < low ∧ Urn o' m := by
  obtain ⟨r, o', e, a, b, u'⟩ := take_raw u h0 h1
  exact ⟨r, o', view_ok (ts := [.int low]) hS u.pure e u'.pure, a, b, u'⟩
/-- some of the pool, in its order -/
theorem few_loop {k : Int} (hk : 0 < k) (hk1 : k < 1000000) (P : Dt) : ∀ (ts : List Dt) (m : Nat) (o : Bo), Urn o (ts.length + m) →
    ∃ (r : List Dt) (o' : Bo), lcL (gN 3) (mTst (m2 pEq (mF F__law_take (aCons (mV 0) (aCons (mV 2) aNil))) (mC (.int 0)))) (mV 3) [some (.loc 0), some (.d P), some (.d (.int k)), none] ts [o] = .ok (r.map .d) [o'] ∧ r.Sublist ts ∧ Urn o' m
  | [], m, o, u => ⟨[], o, rfl, List.Sublist.slnil, by simpa using u⟩
  | t :: ts, m, o, u => by
    obtain ⟨x, o1, e1, x0, x1, u1⟩ := take_ok (S := [o]) (n := 0) (m := ts.length + m) rfl (u.less (by simp; omega)) hk hk1
    obtain ⟨r, o2, e2, hs, u2⟩ := few_loop hk hk1 P ts m o1 u1
    have e1' : F__law_take [.loc 0, .d (.int k)] [o] = .ok (.d (.int x)) [o1] := e1
    by_cases hx : x = 0
    · refine ⟨t :: r, o2, ?_, hs.cons₂ t, u2⟩
      unfold lcL
      simp [e1', pEq, hx, e2]
    · refine ⟨r, o2, ?_, hs.cons t, u2⟩
      unfold lcL
      simp [e1', pEq, hx, e2]
theorem few_ok {S : Sto} {n : Nat} {o : Bo} {m : Nat} {k : Int} {P : Dt} {ts : List Dt} (hP : seqOf (.d P) = some ts) (hz : ts.length ≤ 1000) (hS : S[n]? = some o) (u : Urn o (ts.length + m)) (h0 : 0 < k) (h1 : k < 1000000) :
    ∃ (r : List Dt) (o' : Bo), F__law_few [.loc n, .d P, .d (.int k)] S = .ok (.d (.tup r)) (S.set n o') ∧ r.Sublist ts ∧ Urn o' m := by
  obtain ⟨r, o', e, hs, u'⟩ := few_loop h0 h1 P ts m o u
  refine ⟨r, o', view_ok (ts := [P, .int k]) (rest := []) hS u.pure ?_ u'.pure, hs, u'⟩
  have hl : r.length ≤ 16777216 := by
    have := hs.length_le
    omega
  have hl2 : ts.length ≤ 16777216 := by omega
  unfold R__law_few runB b__law_few
  simp [hP, hl2, e, pLst, hl, pTuple, lstT, lstAt, dctAt]
theorem er_map {α β : Type} (f : α → β) : ∀ (l : List α) (i : Nat), (l.map f).eraseIdx i = (l.eraseIdx i).map f
  | [], _ => by simp
  | a :: l, 0 => rfl
  | a :: l, i + 1 => by
    show f a :: (l.map f).eraseIdx i = _
    rw [er_map f l i]
    rfl
/-- a pool in another order -/
theorem mixed_loop : ∀ (ts : List Dt) (P : Dt) (L R : List Dt) (m : Nat) (o : Bo) (z : Option Dv), ts.length = L.length → L.length < 1000 → R.length + L.length < 1000 → Urn o (L.length + m) →
    ∃ (R' : List Dt) (o' : Bo) (z' : Option Dv), forL (gN 4) (sDrop (mLm pAppend (mV 3) (aCons (mLm pPopAt (mV 2) (aCons (mF F__law_take (aCons (mV 0) (aCons (mN pLen (aCons (mV 2) (aNil))) (aNil)))) (aNil))) (aNil)))) ts [some (.loc 0), some (.d P), some (.loc 1), some (.loc 2), z] [o, .lst (L.map .d), .lst (R.map .d)]
      = .nx [some (.loc 0), some (.d P), some (.loc 1), some (.loc 2), z'] [o', .lst [], .lst (R'.map .d)] ∧ R'.Perm (R ++ L) ∧ Urn o' m
  | [], P, L, R, m, o, z, hl, _, _, u => by
    have e : L = [] := List.eq_nil_of_length_eq_zero (by simpa using hl.symm)
    subst e
    exact ⟨R, o, z, rfl, by simp, by simpa using u⟩
  | t :: ts, P, L, R, m, o, z, hl, hz, hz2, u => by
    have hpos : 0 < L.length := by
      rw [← hl]
      simp
    obtain ⟨x, o1, e1, x0, x1, u1⟩ := take_ok (S := [o, .lst (L.map .d), .lst (R.map .d)]) (n := 0) (m := L.length - 1 + m) (low := (L.length : Int)) rfl (u.less (by omega)) (by omega) (by omega)
    have hj : x.toNat < L.length := by omega
    have e1' : F__law_take [.loc 0, .d (.int (L.length : Int))] [o, .lst (L.map .d), .lst (R.map .d)] = .ok (.d (.int x)) [o1, .lst (L.map .d), .lst (R.map .d)] := e1
    have hlen : (L.eraseIdx x.toNat).length = L.length - 1 := by
      rw [List.length_eraseIdx_of_lt hj]
    obtain ⟨R', o2, z', e2, hp, u2⟩ := mixed_loop ts P (L.eraseIdx x.toNat) (R ++ [L[x.toNat]]) m o1 (some (.d t)) (by rw [hlen, ← hl]; simp) (by omega) (by simp; omega) (by rw [hlen]; exact u1)
    have hix : seqIndex? x L.length = some x.toNat := by
      have := (ixN_seq (n := L.length) (i := x) (j := x.toNat) (by unfold ixN; rw [if_pos x0, if_pos x1])).1
      exact this
    have hpr : (R ++ [L[x.toNat]] ++ L.eraseIdx x.toNat).Perm (R ++ L) := by
      rw [List.append_assoc]
      refine List.Perm.append_left R ?_
      exact L2.erase_perm L x.toNat L[x.toNat] (List.getElem?_eq_getElem hj)
    refine ⟨R', o2, z', ?_, hp.trans hpr, u2⟩
    have hR : R.length < 16777216 := by omega
    have hb : (-9223372036854775808 ≤ x ∧ x < 9223372036854775808) := by omega
    unfold forL
    simp only [gN_s, oz_some]
    have step : sDrop (mLm pAppend (mV 3) (aCons (mLm pPopAt (mV 2) (aCons (mF F__law_take (aCons (mV 0) (aCons (mN pLen (aCons (mV 2) (aNil))) (aNil)))) (aNil))) (aNil))) [some (.loc 0), some (.d P), some (.loc 1), some (.loc 2), some (.d t)] [o, .lst (L.map .d), .lst (R.map .d)]
        = .nx [some (.loc 0), some (.d P), some (.loc 1), some (.loc 2), some (.d t)] [o1, .lst ((L.eraseIdx x.toNat).map .d), .lst ((R ++ [L[x.toNat]]).map .d)] := by
      simp [isLs, lstAt, pLen, dctAt, seqAt, e1', pPopAt, hb, hix, List.getElem?_eq_getElem hj, pAppend, hR, er_map]
    show (match sDrop _ [some (.loc 0), some (.d P), some (.loc 1), some (.loc 2), some (.d t)] _ with
      | .nx ρ2 S2 => _
      | .ct ρ2 S2 => _
      | .bk ρ2 S2 => _
      | r => _) = _
    rw [step]
    exact e2
theorem pLstB_nil {S : Sto} : pLstB [] S = some (.loc S.length, S ++ [.lst []]) := if_pos (Nat.zero_le _)
theorem rgOk0 {j : Int} (h0 : 0 ≤ j) (h1 : j < 16777216) : rgOk 0 j = true := decide_eq_true ⟨by omega, by omega, by omega, by omega⟩
theorem iRg_ok {f : List Dv → Option (List Dt)} {as : M (List Dv)} {ρ : Sm.Env} {S S1 : Sto} {ds : List Dv} {ts : List Dt} (h1 : as ρ S = .ok ds S1) (h2 : f ds = some ts) : iRg f as ρ S = .ok ts S1 := by
  show (as ρ S).bind (fun ds S1 => li (f ds) S1) = _
  rw [h1, bind_ok, h2, li_some]
theorem q_rg {n : Nat} (h : n < 1000) : rg1 [.d (.int (n : Int))] = some (rgL 0 n) := by
  show (if rgOk 0 (n : Int) = true then some (rgL 0 (n : Int).toNat) else none) = _
  rw [if_pos (rgOk0 (by omega) (by omega)), Int.toNat_natCast]
theorem q_len {L : List Dt} {S : Sto} : pLen [.d (.lst L)] S = some (.d (.int (L.length : Int)), S) := by
  simp [pLen, dctAt, seqAt, lstAt]
end Hn
/-! Hn3: cells. -/
namespace Hn
open PySem PySem.Spec PyProof.Rows L2 Sm
/-- ints as data -/
def dI (l : List Int) : List Dt := l.map .int
def dvI (l : List Int) : List Dv := l.map fun i => .d (.int i)
theorem dvI_get {l : List Int} {j : Nat} (h : j < l.length) : (dvI l)[j]? = some (.d (.int l[j])) := by
  unfold dvI
  rw [List.getElem?_map, List.getElem?_eq_getElem h]
  rfl
theorem dvI_len {l : List Int} : (dvI l).length = l.length := by
  unfold dvI
  simp
theorem dvI_set {l : List Int} {j : Nat} {x : Int} : (dvI l).set j (.d (.int x)) = dvI (l.set j x) := by
  unfold dvI
  rw [List.map_set]
theorem ixN_at {n : Nat} {x : Int} (h0 : 0 ≤ x) (h1 : x < n) : ixN n x = some x.toNat := by
  unfold ixN
  rw [if_pos h0, if_pos h1]
def cBody : SM := sSeq (sSet 5 (m2 pMod (mN pInt (aCons (mV 3) (aNil))) (mV 1))) (sSub (mV 2) (mV 5) (m2 pAdd (m2 pIx (mV 2) (mV 5)) (m2 pMul (mV 4) (m2 pAdd (mV 3) (mC (.int 2))))))
theorem cells_turn {P : Dt} {l : List Int} {i c : Int} {z : Option Dv} (hl : l.length = 3) (h0 : 0 ≤ i) (h1 : i < 2 ^ 40) : ∃ (l' : List Int) (z' : Option Dv), cBody [some (.d P), some (.d (.int 3)), some (.loc 0), some (.d (.int i)), some (.d (.int c)), z] [.lst (dvI l)] = .nx [some (.d P), some (.d (.int 3)), some (.loc 0), some (.d (.int i)), some (.d (.int c)), z'] [.lst (dvI l')] ∧ l'.length = 3 := by
  have m0 : 0 ≤ i % 3 := Int.emod_nonneg _ (by omega)
  have m1' : i % 3 < 3 := Int.emod_lt_of_pos _ (by omega)
  have hj : (i % 3).toNat < l.length := by omega
  have hm : mulOk c (i + 2) = true := small_mul (by omega)
  have hix : ixN (dvI l).length (i % 3) = some (i % 3).toNat := ixN_at m0 (by rw [dvI_len, hl]; exact m1')
  have hat : atI (dvI l) (i % 3) = some (.d (.int l[(i % 3).toNat])) := by
    unfold atI
    rw [hix]
    exact dvI_get hj
  refine ⟨l.set (i % 3).toNat (l[(i % 3).toNat] + c * (i + 2)), some (.d (.int (i % 3))), ?_, by rw [List.length_set]; exact hl⟩
  unfold cBody
  simp [pInt, pMod, pAdd, pMul, hm, pIx, dctAt, seqAt, lstAt, hat, stSub, hix, dvI_set]
theorem cells_loop {P : Dt} : ∀ (ts : List Dt), (∀ t ∈ ts, ∃ i c : Int, t = .tup [.int i, .int c] ∧ 0 ≤ i ∧ i < 2 ^ 40) → ∀ (l : List Int) (z3 z4 z5 : Option Dv), l.length = 3 →
    ∃ (l' : List Int) (z3' z4' z5' : Option Dv), forL (gT (gsCons (gN 3) (gsCons (gN 4) (gsNil)))) cBody ts [some (.d P), some (.d (.int 3)), some (.loc 0), z3, z4, z5] [.lst (dvI l)] = .nx [some (.d P), some (.d (.int 3)), some (.loc 0), z3', z4', z5'] [.lst (dvI l')] ∧ l'.length = 3
  | [], _, l, z3, z4, z5, hl => ⟨l, z3, z4, z5, rfl, hl⟩
  | t :: ts, h, l, z3, z4, z5, hl => by
    obtain ⟨i, c, rfl, h0, h1⟩ := h t List.mem_cons_self
    obtain ⟨l1, z1, e1, hl1⟩ := cells_turn (P := P) (l := l) (c := c) (z := z5) hl h0 h1
    obtain ⟨l2, a, b, d, e2, hl2⟩ := cells_loop ts (fun t ht => h t (List.mem_cons_of_mem _ ht)) l1 (some (.d (.int i))) (some (.d (.int c))) z1 hl1
    refine ⟨l2, a, b, d, ?_, hl2⟩
    unfold forL
    show (match cBody [some (.d P), some (.d (.int 3)), some (.loc 0), some (.d (.int i)), some (.d (.int c)), z5] [.lst (dvI l)] with
      | .nx ρ2 S2 => forL (gT (gsCons (gN 3) (gsCons (gN 4) (gsNil)))) cBody ts ρ2 S2
      | .ct ρ2 S2 => forL (gT (gsCons (gN 3) (gsCons (gN 4) (gsNil)))) cBody ts ρ2 S2
      | .bk ρ2 S2 => .nx ρ2 S2
      | r => r) = _
    rw [e1]
    exact e2
theorem enL_mem {ns : List Int} (hz : ns.length < 1000) : ∀ t ∈ enL (dI ns), ∃ i c : Int, t = .tup [.int i, .int c] ∧ 0 ≤ i ∧ i < 2 ^ 40 := fun t ht => by
  unfold enL at ht
  obtain ⟨j, hj, e⟩ := List.mem_filterMap.mp ht
  have hj' := List.mem_range.mp hj
  unfold dI at hj' e
  rw [List.length_map] at hj'
  rw [List.getElem?_map, List.getElem?_eq_getElem hj'] at e
  cases e
  exact ⟨j, ns[j], rfl, by omega, by omega⟩
theorem cut0 {xs : List Dt} {k : Nat} : cutL xs none (some (k : Int)) = xs.take k := by
  unfold cutL
  rw [HT.sIx_none, HT.sIx_nat, List.drop_zero, Nat.sub_zero, ← List.take_eq_take_min]
theorem cut1 {xs : List Dt} {k n : Nat} : ∃ a b : Nat, cutL xs (some (k : Int)) (some (n : Int)) = (xs.drop a).take b ∧ (xs.length ≤ k → (xs.drop a).take b = []) := by
  refine ⟨min k xs.length, min n xs.length - min k xs.length, ?_, fun h => ?_⟩
  · unfold cutL
    rw [HT.sIx_nat, HT.sIx_nat]
  · rw [Nat.min_eq_right h, List.drop_length]
    simp
end Hn
/-! Hn4: cells, whole. -/
namespace Hn
open PySem PySem.Spec PyProof.Rows L2 Sm
def cSlice : M (List Dt) := iRg en1 (aCons (mSl pSl (mV 0) (oPt (mV 1)) (oPt (mC (.int 63)))) (aNil))
theorem cells_it {ns : List Int} {z : Option Dv} {S : Sto} : ∃ ms : List Int, cSlice [some (.d (.scr (dI ns))), some (.d (.int 3)), z, none, none, none] S = .ok (enL (dI ms)) S ∧ ms.length ≤ ns.length ∧ (ns.length ≤ 3 → ms = []) := by
  obtain ⟨a, b, e, he⟩ := cut1 (xs := dI ns) (k := 3) (n := 63)
  refine ⟨(ns.drop a).take b, ?_, ?_, fun h => ?_⟩
  · refine iRg_ok (ds := [.d (.lst (dI ((ns.drop a).take b)))]) ?_ rfl
    have e' : pSl (some 3) (some 63) (.d (.scr (dI ns))) S = some (.d (.lst (dI ((ns.drop a).take b))), S) := by
      have : cutL (dI ns) (some (3 : Int)) (some (63 : Int)) = dI ((ns.drop a).take b) := by
        refine e.trans ?_
        unfold dI
        rw [List.map_take, List.map_drop]
      show some (Dv.d (.lst (cutL (dI ns) (some 3) (some 63))), S) = _
      rw [this]
    simp only [aCons_s, mSl_s, mV_s, mC_s, oPt_s, aNil_s, List.getElem?_cons_zero, List.getElem?_cons_succ, bind_ok, e', Sm.lift_some]
  · rw [List.length_take, List.length_drop]
    omega
  · have := he (by unfold dI; rw [List.length_map]; exact h)
    unfold dI at this
    rw [← List.map_drop, ← List.map_take] at this
    exact List.map_eq_nil_iff.mp this
def cHead : M Dv := mOrT pTru (mN pListB (aCons (mSl pSl (mV 0) (oNo) (oPt (mV 1))) (aNil))) (mN pLstB (aCons (mC (.int 0)) (aNil)))
theorem dI_d (l : List Int) : (dI l).map Dv.d = dvI l := by
  unfold dI dvI
  rw [List.map_map]
  rfl
theorem cells_head (ns : List Int) : cHead [some (.d (.scr (dI ns))), some (.d (.int 3)), none, none, none, none] [] = (if ns = [] then .ok (.loc 1) [.lst [], .lst (dvI [0])] else .ok (.loc 0) [.lst (dvI (ns.take 3))]) := by
  have e' : pSl none (some 3) (.d (.scr (dI ns))) [] = some (.d (.lst (dI (ns.take 3))), []) := by
    have : cutL (dI ns) none (some (3 : Int)) = dI (ns.take 3) := by
      refine (cut0 (xs := dI ns) (k := 3)).trans ?_
      unfold dI
      rw [List.map_take]
    show some (Dv.d (.lst (cutL (dI ns) none (some 3))), ([] : Sto)) = _
    rw [this]
  have p1 : pListB [.d (.lst (dI (ns.take 3)))] [] = some (.loc 0, [.lst (dvI (ns.take 3))]) := by
    have : itemsOf [] (.d (.lst (dI (ns.take 3)))) = some (dI (ns.take 3)) := by
      simp [itemsOf, dctAt, seqAt, lstAt]
    show (match itemsOf [] (.d (.lst (dI (ns.take 3)))) with
      | some ts => some (Dv.loc ([] : Sto).length, ([] : Sto) ++ [Bo.lst (ts.map Dv.d)])
      | none => none) = _
    rw [this]
    simp only [dI_d]
    rfl
  have t1 : pTru (.loc 0) [.lst (dvI (ns.take 3))] = some (!(dvI (ns.take 3)).isEmpty) := rfl
  unfold cHead
  simp only [mOrT_s, mN_s, aCons_s, mSl_s, mV_s, oNo_s, oPt_s, aNil_s, List.getElem?_cons_zero, List.getElem?_cons_succ, bind_ok, e', Sm.lift_some, p1, t1, li_some]
  cases ns with
  | nil => rfl
  | cons a r => rfl
theorem frz_dvI {l : List Int} {S : Sto} {n : Nat} (h : S[n]? = some (.lst (dvI l))) : frz (.loc n) S = some (.d (.lst (dI l)), S.set n .dead) := by
  unfold frz
  simp only [h, ← dI_d, pures_d]
theorem cells_ok {ns : List Int} (hz : ns.length ≤ 63) {S : Sto} : ∃ cs : List Int, F__law_cells [.d (.scr (dI ns)), .d (.int 3)] S = .ok (.d (.lst (dI cs))) S ∧ cs.length ≤ 3 := by
  have go : ∃ (cs : List Int) (S' : Sto), b__law_cells [some (.d (.scr (dI ns))), some (.d (.int 3)), none, none, none, none] [] = .rt (.d (.lst (dI cs))) S' ∧ cs.length ≤ 3 := by
    have hb : b__law_cells = sSeq (sSet 2 cHead) (sSeq (sFor cSlice (gT (gsCons (gN 3) (gsCons (gN 4) (gsNil)))) cBody) (sRet (mFrz (mV 2)))) := rfl
    rw [hb, sSeq_s, sSet_s, cells_head]
    by_cases h : ns = []
    · rw [if_pos h, to_ok, sqz_nx, sSeq_s, sFor_s]
      obtain ⟨ms, e, _, e0⟩ := cells_it (ns := ns) (z := some (.loc 1)) (S := [.lst [], .lst (dvI [0])])
      have hms := e0 (by rw [h]; exact Nat.zero_le _)
      subst hms
      show ∃ (cs : List Int) (S' : Sto), sqz ((cSlice [some (.d (.scr (dI ns))), some (.d (.int 3)), some (.loc 1), none, none, none] [.lst [], .lst (dvI [0])]).to _ _) _ = .rt (.d (.lst (dI cs))) S' ∧ cs.length ≤ 3
      rw [e]
      exact ⟨[0], _, rfl, by decide⟩
    · rw [if_neg h, to_ok, sqz_nx, sSeq_s, sFor_s]
      obtain ⟨ms, e, hm, e0⟩ := cells_it (ns := ns) (z := some (.loc 0)) (S := [.lst (dvI (ns.take 3))])
      show ∃ (cs : List Int) (S' : Sto), sqz ((cSlice [some (.d (.scr (dI ns))), some (.d (.int 3)), some (.loc 0), none, none, none] [.lst (dvI (ns.take 3))]).to _ _) _ = .rt (.d (.lst (dI cs))) S' ∧ cs.length ≤ 3
      rw [e, to_ok]
      show ∃ (cs : List Int) (S' : Sto), sqz (forL (gT (gsCons (gN 3) (gsCons (gN 4) (gsNil)))) cBody (enL (dI ms)) [some (.d (.scr (dI ns))), some (.d (.int 3)), some (.loc 0), none, none, none] [.lst (dvI (ns.take 3))]) (sRet (mFrz (mV 2))) = .rt (.d (.lst (dI cs))) S' ∧ cs.length ≤ 3
      by_cases h3 : ns.length ≤ 3
      · have hms := e0 h3
        subst hms
        refine ⟨ns.take 3, [.dead], ?_, by rw [List.length_take]; omega⟩
        show sRet (mFrz (mV 2)) [some (.d (.scr (dI ns))), some (.d (.int 3)), some (.loc 0), none, none, none] [.lst (dvI (ns.take 3))] = _
        simp only [sRet_s, mFrz_s, mV_s, List.getElem?_cons_zero, List.getElem?_cons_succ, bind_ok, frz_dvI (S := [.lst (dvI (ns.take 3))]) (n := 0) rfl, Sm.lift_some, to_ok]
        rfl
      · obtain ⟨l', a, b, d, e2, hl'⟩ := cells_loop (P := .scr (dI ns)) (enL (dI ms)) (enL_mem (by omega)) (ns.take 3) none none none (by rw [List.length_take]; omega)
        rw [e2, sqz_nx]
        refine ⟨l', [.dead], ?_, by omega⟩
        simp only [sRet_s, mFrz_s, mV_s, List.getElem?_cons_zero, List.getElem?_cons_succ, bind_ok, frz_dvI (S := [.lst (dvI l')]) (n := 0) rfl, Sm.lift_some, to_ok]
        rfl
  obtain ⟨cs, S', e, hc⟩ := go
  exact ⟨cs, iso_ok (ts := [.scr (dI ns), .int 3]) (runB_rt (ds := [.d (.scr (dI ns)), .d (.int 3)]) rfl e), hc⟩
end Hn
/-! Hn5: nested texts, tupled, lists. -/
namespace Hn
open PySem PySem.Spec PyProof.Rows L2 Sm
/-- texts in lists and tuples, of nesting at most n -/
def Tx : Nat → Dt → Prop
  | 0, t => ∃ s, PyData.strOk s = true ∧ t = .str s
  | n + 1, t => (∃ s, PyData.strOk s = true ∧ t = .str s) ∨ ∃ xs, (t = .tup xs ∨ t = .lst xs) ∧ xs.length ≤ 1000 ∧ ∀ x ∈ xs, Tx n x
theorem Tx.up : ∀ {n : Nat} {t : Dt}, Tx n t → Tx (n + 1) t
  | 0, t, h => .inl h
  | n + 1, t, .inl h => .inl h
  | n + 1, t, .inr ⟨xs, h, hz, hx⟩ => .inr ⟨xs, h, hz, fun x m => (hx x m).up⟩
mutual
/-- all lists made tuples -/
def tp : Dt → Dt
  | .tup xs => .tup (tps xs)
  | .lst xs => .tup (tps xs)
  | t => t
def tps : List Dt → List Dt
  | [] => []
  | x :: xs => tp x :: tps xs
end
mutual
/-- all tuples made lists -/
def tl : Dt → Dt
  | .tup xs => .lst (tls xs)
  | .lst xs => .lst (tls xs)
  | t => t
def tls : List Dt → List Dt
  | [] => []
  | x :: xs => tl x :: tls xs
end
theorem tls_len : ∀ xs : List Dt, (tls xs).length = xs.length
  | [] => rfl
  | x :: xs => by
    show (tls xs).length + 1 = xs.length + 1
    rw [tls_len xs]
/-- a comprehension that turns each item by F -/
theorem map_loop {F : FM} {f : Dt → Dt} {P : Dt} : ∀ (xs : List Dt), (∀ x ∈ xs, ∀ S, F [.d x] S = .ok (.d (f x)) S) → ∀ S : Sto, lcL (gN 1) cYes (mF F (aCons (mV 1) (aNil))) [some (.d P), none] xs S = .ok ((xs.map f).map .d) S
  | [], _, S => rfl
  | x :: xs, h, S => by
    show bz (some ([some (Dv.d P), some (Dv.d x)] : Sm.Env)) _ = _
    simp only [bz_some, cYes_s, nox_ok, bind_ok, if_true, mF_s, aCons_s, mV_s, aNil_s, List.getElem?_cons_zero, List.getElem?_cons_succ, h x List.mem_cons_self S, map_loop xs (fun y hy => h y (List.mem_cons_of_mem _ hy)) S]
    rfl
theorem pLst_d {ts : List Dt} {S : Sto} (h : ts.length ≤ 16777216) : pLst (ts.map .d) S = some (.d (.lst ts), S) := by
  unfold pLst
  rw [pures_d]
  exact if_pos h
theorem pTuple_lst {ts : List Dt} {S : Sto} : pTuple [.d (.lst ts)] S = some (.d (.tup ts), S) := by
  simp [pTuple, dctAt, lstT, lstAt]
theorem comp_ok {F : FM} {f : Dt → Dt} {P : Dt} {xs : List Dt} (hP : seqOf (.d P) = some xs) (hz : xs.length ≤ 1000) (h : ∀ x ∈ xs, ∀ S, F [.d x] S = .ok (.d (f x)) S) (S : Sto) : mN pLst (mLcI [1] (iSeq (mV 0)) (gN 1) cYes (mF F (aCons (mV 1) (aNil)))) [some (.d P), none] S = .ok (.d (.lst (xs.map f))) S := by
  have h1 : mLcI [1] (iSeq (mV 0)) (gN 1) cYes (mF F (aCons (mV 1) (aNil))) [some (.d P), none] S = .ok ((xs.map f).map .d) S := by
    rw [mLcI_s, iSeq_s, mV_s]
    show ((li (seqOf (.d P)) S).bind fun ts S1 => if ts.length ≤ 16777216 then _ else _) = _
    rw [hP, li_some, bind_ok, if_pos (by omega)]
    exact map_loop xs h S
  rw [mN_s, h1, bind_ok, pLst_d (by rw [List.length_map]; omega), Sm.lift_some]
theorem tps_map : ∀ xs : List Dt, tps xs = xs.map tp
  | [] => rfl
  | x :: xs => by
    show tp x :: tps xs = tp x :: xs.map tp
    rw [tps_map xs]
theorem tls_map : ∀ xs : List Dt, tls xs = xs.map tl
  | [] => rfl
  | x :: xs => by
    show tl x :: tls xs = tl x :: xs.map tl
    rw [tls_map xs]
theorem isa_seq {t : Dt} {xs : List Dt} {S : Sto} (h : t = .tup xs ∨ t = .lst xs) : pIsa ["list", "tuple"] (.d t) S = some (.d (.bl true), S) := by
  rcases h with rfl | rfl <;> rfl
theorem tupled_ok : ∀ (n : Nat) (t : Dt) (S : Sto), Tx n t → F_tupled (n + 1) [.d t] S = .ok (.d (tp t)) S := by
  have str : ∀ (n : Nat) (s : Str) (S : Sto), F_tupled (n + 1) [.d (.str s)] S = .ok (.d (tp (.str s))) S := fun n s S => iso_ok (ts := [.str s]) (S' := []) rfl
  have seq : ∀ (n : Nat) (t : Dt) (xs : List Dt) (S : Sto), (t = .tup xs ∨ t = .lst xs) → xs.length ≤ 1000 → (∀ x ∈ xs, ∀ S, F_tupled n [.d x] S = .ok (.d (tp x)) S) → F_tupled (n + 1) [.d t] S = .ok (.d (tp t)) S := fun n t xs S ht hz hx => by
    have hP : seqOf (.d t) = some xs := by rcases ht with rfl | rfl <;> rfl
    have e := comp_ok (P := t) hP hz hx []
    have et : tp t = .tup (xs.map tp) := by
      rw [← tps_map]
      rcases ht with rfl | rfl <;> rfl
    refine iso_ok (ts := [t]) (S' := []) (runB_rt (ds := [.d t]) rfl ?_)
    show b_tupled (F_tupled n) [some (.d t), none] [] = _
    unfold b_tupled
    have c : mTru pTru (m1 (pIsa ["list", "tuple"]) (mV 0)) [some (.d t), none] [] = .ok true [] := by
      simp only [mTru_s, m1_s, mV_s, List.getElem?_cons_zero, bind_ok, isa_seq ht, Sm.lift_some]
      rfl
    rw [sRet_s, mIf_s, c, bind_ok, if_pos rfl, mN_s, aCons_s, e, bind_ok, aNil_s, bind_ok, bind_ok, et, pTuple_lst]
    rfl
  intro n
  induction n with
  | zero =>
    intro t S h
    obtain ⟨s, hs, rfl⟩ := h
    exact str 0 s S
  | succ n ih =>
    intro t S h
    rcases h with ⟨s, hs, rfl⟩ | ⟨xs, ht, hz, hx⟩
    · exact str (n + 1) s S
    · exact seq (n + 1) t xs S ht hz fun x m S => ih x S (hx x m)
end Hn
/-! Hn6: same. -/
namespace Hn
open PySem PySem.Spec PyProof.Rows L2 Sm
theorem eq_bl {a b : Bool} {S : Sto} : eqDv S (.d (.bl a)) (.d (.bl b)) = some (a == b) := by
  show (if SeqAt.shaped (.bool a) = true ∧ SeqAt.shaped (.bool b) = true then some (PyData.eqv (.bool a) (.bool b)) else none) = _
  rw [if_pos ⟨rfl, rfl⟩]
  cases a <;> cases b <;> rfl
theorem eqv_str (s : Str) : PyData.eqv (.str s) (.str s) = true := by
  simp [PyData.eqv]
theorem eq_str {s : Str} {S : Sto} (hs : PyData.strOk s = true) : eqDv S (.d (.str s)) (.d (.str s)) = some true := by
  show (if SeqAt.shaped (.str s) = true ∧ SeqAt.shaped (.str s) = true then some (PyData.eqv (.str s) (.str s)) else none) = _
  have h : SeqAt.shaped (.str s) = true := by
    unfold SeqAt.shaped
    simp [PyData.canLay0, hs, PyData.depth]
  rw [if_pos ⟨h, h⟩, eqv_str]
theorem pNe_bl {a : Bool} {S : Sto} : pNe (.d (.bl a)) (.d (.bl a)) S = some (.d (.bl false), S) := by
  unfold pNe
  rw [eq_bl]
  cases a <;> rfl
theorem pEq_bl {a : Bool} {S : Sto} : pEq (.d (.bl a)) (.d (.bl a)) S = some (.d (.bl true), S) := by
  unfold pEq
  rw [eq_bl]
  cases a <;> rfl
theorem pEq_int {i : Int} {S : Sto} : pEq (.d (.int i)) (.d (.int i)) S = some (.d (.bl true), S) := by
  unfold pEq
  rw [eqDv_int]
  simp
theorem pEq_str {s : Str} {S : Sto} (hs : PyData.strOk s = true) : pEq (.d (.str s)) (.d (.str s)) S = some (.d (.bl true), S) := by
  unfold pEq
  rw [eq_str hs]
def zEl (F : FM) : M Dv := mF F (aCons (mV 2) (aCons (mV 3) (aNil)))
theorem zip_loop {F : FM} {P R : Dt} : ∀ (xs : List Dt), (∀ x ∈ xs, ∀ S, F [.d x, .d x] S = .ok (.d (.bl true)) S) → ∀ S : Sto, lcL (gT (gsCons (gN 2) (gsCons (gN 3) (gsNil)))) cYes (zEl F) [some (.d P), some (.d R), none, none] (zpL xs xs) S = .ok (xs.map fun _ => Dv.d (.bl true)) S
  | [], _, S => rfl
  | x :: xs, h, S => by
    show bz (some ([some (Dv.d P), some (Dv.d R), some (Dv.d x), some (Dv.d x)] : Sm.Env)) _ = _
    unfold zEl
    simp only [bz_some, cYes_s, nox_ok, bind_ok, if_true, mF_s, aCons_s, mV_s, aNil_s, List.getElem?_cons_zero, List.getElem?_cons_succ, h x List.mem_cons_self S]
    show ((lcL (gT (gsCons (gN 2) (gsCons (gN 3) (gsNil)))) cYes (zEl F) [some (.d P), some (.d R), none, none] (zpL xs xs) S).bind fun ds S3 => Rz.ok (Dv.d (.bl true) :: ds) S3) = _
    rw [zip_loop xs (fun y hy => h y (List.mem_cons_of_mem _ hy)) S]
    rfl
theorem all_true (l : List Dt) (S : Sto) : pAll [.d (.lst (l.map fun _ => .bl true))] S = some (.d (.bl true), S) := by
  have hb : ∀ l : List Dt, blsOf (l.map fun _ => Dt.bl true) = some (l.map fun _ => true) := fun l => by
    induction l with
    | nil => rfl
    | cons a l ih =>
      show (blsOf (l.map fun _ => Dt.bl true)).map (true :: ·) = _
      rw [ih]
      rfl
  have e : (lstT S (.d (.lst (l.map fun _ => .bl true)))).bind blsOf = some (l.map fun _ => true) := by
    show ((some ((l.map fun _ => Dt.bl true).map Dv.d)).bind pures).bind blsOf = _
    rw [Option.bind_some, pures_d, Option.bind_some, hb]
  unfold pAll
  simp only [e]
  simp
theorem len_seq {t : Dt} {xs : List Dt} {S : Sto} (h : t = .tup xs ∨ t = .lst xs) : pLen [.d t] S = some (.d (.int (xs.length : Int)), S) := by
  rcases h with rfl | rfl
  · simp [pLen, dctAt, seqAt, lstAt]
  · simp [pLen, dctAt, seqAt, lstAt]
theorem isa_l {t : Dt} {xs : List Dt} {S : Sto} (h : t = .tup xs ∨ t = .lst xs) : ∃ b, pIsa ["list"] (.d t) S = some (.d (.bl b), S) := by
  rcases h with rfl | rfl <;> exact ⟨_, rfl⟩
theorem isa_t {t : Dt} {xs : List Dt} {S : Sto} (h : t = .tup xs ∨ t = .lst xs) : ∃ b, pIsa ["tuple"] (.d t) S = some (.d (.bl b), S) := by
  rcases h with rfl | rfl <;> exact ⟨_, rfl⟩
end Hn
/-! Hn7: dicts of distinct texts. -/
namespace Hn
open PySem PySem.Spec PyProof.Rows L2 Sm
abbrev kS (l : List Str) : List Key := l.map Sum.inr
theorem dput_new {ks : List Key} {xs : List Dv} {j : Key} {y : Dv} (h : hasK ks j = false) : dputK ks j = ks ++ [j] ∧ dputX ks xs j y = xs ++ [y] := by
  unfold dputK dputX
  simp [h]
theorem hasK_new {l : List Str} {x : Str} (h : x ∉ l) : hasK (kS l) (.inr x) = false := by
  cases e : hasK (kS l) (.inr x) with
  | false => rfl
  | true => exact absurd (hasK_inr.mp e) h
end Hn
/-! Hn8: turns of lists of texts that are sorted. -/
namespace Hn
open PySem PySem.Spec PyProof.Rows L2 Sm
theorem alike_strs : ∀ a b : Str, PySem.W.alike (encT (.str a)) (encT (.str b)) = true := fun a b => by
  show PySem.W.alike (.str a) (.str b) = true
  simp only [PySem.W.alike]
theorem sortChk_strs {l : List Str} (h : l.length ≤ 1000) : sortChk (l.map .str) = true := by
  unfold sortChk
  simp only [Bool.and_eq_true, decide_eq_true_eq, Bool.or_eq_true, List.all_eq_true]
  refine ⟨⟨⟨fun t ht => ?_, fun t ht u hu => ?_⟩, .inr (.inl fun t ht => ?_)⟩, by rw [List.length_map]; omega⟩
  · obtain ⟨a, _, rfl⟩ := List.mem_map.mp ht
    refine ⟨rfl, ?_⟩
    show PyData.depth (.str a) ≤ 60
    simp only [PyData.depth]
    omega
  · obtain ⟨a, _, rfl⟩ := List.mem_map.mp ht
    obtain ⟨b, _, rfl⟩ := List.mem_map.mp hu
    exact alike_strs a b
  · obtain ⟨a, _, rfl⟩ := List.mem_map.mp ht
    rfl
theorem seqT_lst {ts : List Dt} {S : Sto} : seqT S (.d (.lst ts)) = some ts := by
  unfold seqT seqAt lstAt
  simp
end Hn
/-! Hn9: rows of a sheet, sorted. -/
namespace Hn
open PySem PySem.Spec PyProof.Rows L2 Sm
def row (e : Str × List Str) : Dt := .tup [.str e.1, .tup (e.2.map .str)]
end Hn
/-! Hn10: nested texts compare equal to themselves. -/
namespace Hn
open PySem PySem.Spec PyProof.Rows L2 Sm
theorem Tx.tl : ∀ {n : Nat} {t : Dt}, Tx n t → Tx n (tl t)
  | 0, t, h => by
    obtain ⟨s, hs, rfl⟩ := h
    exact ⟨s, hs, rfl⟩
  | n + 1, t, h => by
    rcases h with ⟨s, hs, rfl⟩ | ⟨xs, ht, hz, hx⟩
    · exact .inl ⟨s, hs, rfl⟩
    · refine .inr ⟨tls xs, ?_, by rw [tls_len]; exact hz, fun y hy => ?_⟩
      · rcases ht with rfl | rfl <;> exact .inr rfl
      · rw [tls_map] at hy
        obtain ⟨x, hm, rfl⟩ := List.mem_map.mp hy
        exact (hx x hm).tl
end Hn
/-! Hn11: small steps that many loops need. -/
namespace Hn
open PySem PySem.Spec PyProof.Rows L2 Sm
theorem perm_map_inv {α β : Type} {f : α → β} {g : β → α} (hg : ∀ a, g (f a) = a) {r : List β} {l : List α} (h : r.Perm (l.map f)) : ∃ m : List α, r = m.map f ∧ m.Perm l := by
  refine ⟨r.map g, ?_, ?_⟩
  · rw [List.map_map]
    have : ∀ x ∈ r, (f ∘ g) x = id x := fun x hx => by
      obtain ⟨a, _, rfl⟩ := List.mem_map.mp (h.mem_iff.mp hx)
      show f (g (f a)) = f a
      rw [hg]
    rw [List.map_congr_left this, List.map_id]
  · have := h.map g
    rw [List.map_map, show (g ∘ f) = id from funext hg, List.map_id] at this
    exact this
def unS : Dt → Str
  | .str s => s
  | _ => Str.empty
theorem perm_strs {r : List Dt} {l : List Str} (h : r.Perm (l.map .str)) : ∃ m : List Str, r = m.map .str ∧ m.Perm l := perm_map_inv (g := unS) (fun _ => rfl) h
theorem sub_strs {r : List Dt} {l : List Str} (h : r.Sublist (l.map .str)) : ∃ m : List Str, r = m.map .str ∧ m.Sublist l := by
  obtain ⟨m, h1, h2⟩ := List.sublist_map_iff.mp h
  exact ⟨m, h2, h1⟩
theorem ix_lst {ts : List Dt} {i : Nat} {t : Dt} {S : Sto} (h : ts[i]? = some t) : pIx (.d (.lst ts)) (.d (.int (i : Nat))) S = some (.d t, S) := by
  have : atI (ts.map Dv.d) ((i : Nat) : Int) = some (.d t) := atI_nat (by rw [List.getElem?_map, h]; rfl)
  simp only [pIx, dctAt, seqAt, lstAt, this]
theorem dlook_at {α : Type} {f : Nat → α} : ∀ {l : List Str} {i a : Nat} {s : Str}, l.Nodup → l[i]? = some s → dlook (kS l) ((List.range' a l.length).map f) (.inr s) = some (f (a + i))
  | [], i, a, s, _, h => by simp at h
  | x :: l, 0, a, s, nd, h => by
    simp at h
    subst h
    show (if (Sum.inr x : Key) = .inr x then some (f a) else _) = _
    rw [if_pos rfl]
    rfl
  | x :: l, i + 1, a, s, nd, h => by
    have h' : l[i]? = some s := by simpa using h
    obtain ⟨n1, n2⟩ := List.nodup_cons.mp nd
    have hne : ¬ (Sum.inr x : Key) = .inr s := fun z => by
      cases z
      exact n1 (List.mem_of_getElem? h')
    show (if (Sum.inr x : Key) = .inr s then _ else dlook (kS l) ((List.range' (a + 1) l.length).map f) (.inr s)) = _
    rw [if_neg hne, dlook_at n2 h']
    congr 1
    congr 1
    omega
theorem forL_nx {g : GM} {b : SM} {t : Dt} {ts : List Dt} {ρ ρ1 ρ2 : Sm.Env} {S S2 : Sto} (hg : g (.d t) ρ = some ρ1) (h : b ρ1 S = .nx ρ2 S2) : forL g b (t :: ts) ρ S = forL g b ts ρ2 S2 := by
  show oz (g (.d t) ρ) _ = _
  rw [hg, oz_some, h]
theorem add_l {a b : List Dt} {S : Sto} (h : a.length + b.length ≤ 16777216) : pAdd (.d (.lst a)) (.d (.lst b)) S = some (.d (.lst (a ++ b)), S) := if_pos h
theorem shaped_str {s : Str} (h : PyData.strOk s = true) : SeqAt.shaped (.str s) = true := by
  unfold SeqAt.shaped
  simp [PyData.canLay0, h, PyData.depth]
theorem eqv_strs (a b : Str) : PyData.eqv (.str a) (.str b) = decide (a = b) := by
  show (a == b) = _
  cases e : a == b with
  | true => exact (decide_eq_true (by simpa using e)).symm
  | false => exact (decide_eq_false (by simpa using e)).symm
theorem eqDv_str {a b : Str} {S : Sto} (h1 : PyData.strOk a = true) (h2 : PyData.strOk b = true) : eqDv S (.d (.str a)) (.d (.str b)) = some (decide (a = b)) := by
  show (if SeqAt.shaped (.str a) = true ∧ SeqAt.shaped (.str b) = true then some (PyData.eqv (.str a) (.str b)) else none) = _
  rw [if_pos ⟨shaped_str h1, shaped_str h2⟩, eqv_strs]
theorem ne_s {a b : Str} {S : Sto} (h1 : PyData.strOk a = true) (h2 : PyData.strOk b = true) : pNe (.d (.str a)) (.d (.str b)) S = some (.d (.bl (!decide (a = b))), S) := by
  unfold pNe
  rw [eqDv_str h1 h2]
theorem cut_from {α : Type} {xs : List α} {k : Nat} : cutL xs (some (k : Int)) none = xs.drop k := by
  unfold cutL
  rw [HT.sIx_none, HT.sIx_nat, List.take_of_length_le (by rw [List.length_drop]; omega)]
  by_cases h : k ≤ xs.length
  · rw [Nat.min_eq_left h]
  · rw [Nat.min_eq_right (by omega), List.drop_length, List.drop_eq_nil_of_le (by omega)]
theorem sl_l {ts : List Dt} {lo hi : Option Int} {S : Sto} : pSl lo hi (.d (.lst ts)) S = some (.d (.lst (cutL ts lo hi)), S) := rfl
/-- one turn of a comprehension that keeps the item -/
theorem lc_yes {g : GM} {c : M Bool} {e : M Dv} {ρ ρ1 : Sm.Env} {t : Dt} {ts : List Dt} {S S1 S2 S3 : Sto} {d : Dv} {ds : List Dv} (hg : g (.d t) ρ = some ρ1) (hc : c ρ1 S = .ok true S1) (he : e ρ1 S1 = .ok d S2) (hr : lcL g c e ρ ts S2 = .ok ds S3) : lcL g c e ρ (t :: ts) S = .ok (d :: ds) S3 := by
  show bz (g (.d t) ρ) _ = _
  rw [hg, bz_some, hc, nox_ok, bind_ok, if_pos rfl, he, nox_ok, bind_ok, hr, bind_ok]
theorem lc_no {g : GM} {c : M Bool} {e : M Dv} {ρ ρ1 : Sm.Env} {t : Dt} {ts : List Dt} {S S1 S3 : Sto} {ds : List Dv} (hg : g (.d t) ρ = some ρ1) (hc : c ρ1 S = .ok false S1) (hr : lcL g c e ρ ts S1 = .ok ds S3) : lcL g c e ρ (t :: ts) S = .ok ds S3 := by
  show bz (g (.d t) ρ) _ = _
  rw [hg, bz_some, hc, nox_ok, bind_ok, if_neg (by decide), hr]
theorem mLcI_ok {vs : List Nat} {it : M (List Dt)} {g : GM} {c : M Bool} {e : M Dv} {ρ : Sm.Env} {S S1 S2 : Sto} {ts : List Dt} {ds : List Dv} (hi : it ρ S = .ok ts S1) (hz : ts.length ≤ 16777216) (h : lcL g c e (wipeE ρ vs) ts S1 = .ok ds S2) : mLcI vs it g c e ρ S = .ok ds S2 := by
  rw [mLcI_s, hi, bind_ok, if_pos hz, h]
end Hn
/-! Hn12: a drawn sheet: the table is filled. -/
namespace Hn
open PySem PySem.Spec PyProof.Rows L2 Sm
def pool : List Str := ["a", "ann", "bob", "cat", "dan", "eve", "fay", "new", "old", "x", "zzzzzzzz"]
abbrev bx (l : List Str) : Bo := .lst (l.map fun s => Dv.d (.str s))
abbrev locs (n : Nat) : List Dv := (List.range' 2 n).map Dv.loc
abbrev eT (P1 P2 P5 : Dt) (L : List Str) (n : Nat) (folk emp : List Str) (st wd : Int) (z11 z12 z13 z14 : Option Dv) : Sm.Env :=
  [some (.loc 0), some (.d P1), some (.d P2), some (.d (.lst (L.map .str))), some (.d (.int (n : Int))), some (.d P5), some (.d (.lst (folk.map .str))), some (.d (.lst (emp.map .str))), some (.loc 1), some (.d (.int st)), some (.d (.int wd)), z11, z12, z13, z14, none, none, none]
section
variable {P1 P2 P5 : Dt} {L : List Str} {n : Nat} {folk emp : List Str} {st wd : Int} {z11 z12 z13 z14 : Option Dv}
/-- what the boxes hold -/
def Gd (folk : List Str) (c : Nat) (bs : List (List Str)) : Prop := ∀ l ∈ bs, l.length ≤ c ∧ ∀ x ∈ l, x ∈ pool
end
end Hn
/-! Hn13: a drawn sheet: wishes of both sides, of one. -/
namespace Hn
open PySem PySem.Spec PyProof.Rows L2 Sm
theorem pool_ok : ∀ x ∈ pool, PyData.strOk x = true := by decide +kernel
def tAppA : SM := sDrop (mLm pAppend (m2 pIx (mV 8) (m2 pIx (mV 6) (mV 11))) (aCons (mV 13) (aNil)))
def tAppB : SM := sDrop (mLm pAppend (m2 pIx (mV 8) (mV 13)) (aCons (m2 pIx (mV 6) (mV 11)) (aNil)))
def tB : SM := sSeq (sSet 14 (mF F__law_take (aCons (mV 0) (aCons (mV 10) (aNil)))))
    (sSeq (sIf (cOr (mTst (m2 pEq (mV 14) (mC (.int 0)))) (cAnd (mTst (m2 pEq (mV 14) (mC (.int 1)))) (mTst (m2 pGt (mV 9) (mC (.int 0)))))) tAppA (sNil))
    (sIf (cOr (mTst (m2 pEq (mV 14) (mC (.int 0)))) (cAnd (mTst (m2 pEq (mV 14) (mC (.int 2)))) (mTst (m2 pGt (mV 9) (mC (.int 0)))))) tAppB (sNil)))
section
variable {P1 P2 P5 : Dt} {L : List Str} {n : Nat} {folk emp : List Str} {st wd : Int} {z11 z12 z13 z14 : Option Dv}
theorem Gd.put {c : Nat} {bs : List (List Str)} {i : Nat} {l : List Str} {y : Str} (g : Gd folk c bs) (h : bs[i]? = some l) (hy : y ∈ pool) : Gd folk (c + 1) (bs.set i (l ++ [y])) := fun m hm => by
  rcases List.mem_or_eq_of_mem_set hm with hm | rfl
  · exact ⟨Nat.le_succ_of_le (g m hm).1, (g m hm).2⟩
  · obtain ⟨a, b⟩ := g l (List.mem_of_getElem? h)
    refine ⟨by rw [List.length_append, List.length_singleton]; omega, fun x hx => ?_⟩
    rcases List.mem_append.mp hx with hx | hx
    · exact b x hx
    · rw [List.mem_singleton.mp hx]
      exact hy
theorem Gd.up {c d : Nat} {bs : List (List Str)} (g : Gd folk c bs) (h : c ≤ d) : Gd folk d bs := fun m hm => ⟨Nat.le_trans (g m hm).1 h, (g m hm).2⟩
def tC : SM := sFor (iSeq (mSl pSl (mV 6) (oPt (m2 pAdd (mV 11) (mC (.int 1)))) (oNo))) (gN 13) tB
end
end Hn
/-! Hn14: a drawn sheet: its rows, sorted. -/
namespace Hn
open PySem PySem.Spec PyProof.Rows L2 Sm
/-- the wishes of a row -/
def ws (s : Str) (l : List Str) : List Str := sortS (ddS (l.filter fun x => !decide (x = s)))
def tFil : M Dv := mN pLst (mLcI [16] (iSeq (mFrz (m2 pIx (mV 8) (mV 17)))) (gN 16) (mTst (m2 pNe (mV 16) (mV 17))) (mV 16))
def tRow : M Dv := mN pTup (aCons (mV 17) (aCons (mN pTuple (aCons (m1 pSortSet tFil) (aNil))) (aNil)))
abbrev eR (P1 P2 P5 : Dt) (L : List Str) (n : Nat) (folk emp : List Str) (st wd : Int) (z11 z12 z13 z14 z16 z17 : Option Dv) : Sm.Env :=
  [some (.loc 0), some (.d P1), some (.d P2), some (.d (.lst (L.map .str))), some (.d (.int (n : Int))), some (.d P5), some (.d (.lst (folk.map .str))), some (.d (.lst (emp.map .str))), some (.loc 1), some (.d (.int st)), some (.d (.int wd)), z11, z12, z13, z14, none, z16, z17]
structure Kept (folk : List Str) (bs : List (List Str)) (o : Bo) (k : Nat) (S : Sto) : Prop where
  o0 : S[0]? = some o
  o1 : S[1]? = some (.dct (kS folk) (locs folk.length))
  bx : ∀ (j : Nat) (l : List Str), k ≤ j → bs[j]? = some l → S[2 + j]? = some (bx l)
section
variable {P1 P2 P5 : Dt} {L : List Str} {n : Nat} {folk emp : List Str} {st wd : Int} {z11 z12 z13 z14 z16 z17 : Option Dv}
theorem fil_loop {s : Str} (hs : s ∈ pool) : ∀ (l : List Str), (∀ x ∈ l, x ∈ pool) → ∀ S : Sto, lcL (gN 16) (mTst (m2 pNe (mV 16) (mV 17))) (mV 16) (eR P1 P2 P5 L n folk emp st wd z11 z12 z13 z14 none (some (.d (.str s)))) (l.map .str) S = .ok (((l.filter fun x => !decide (x = s)).map .str).map .d) S
  | [], _, S => rfl
  | x :: l, h, S => by
    have ih := fil_loop hs l (fun y hy => h y (List.mem_cons_of_mem _ hy)) S
    have hne : pNe (.d (.str x)) (.d (.str s)) S = some (.d (.bl (!decide (x = s))), S) := ne_s (pool_ok x (h x List.mem_cons_self)) (pool_ok s hs)
    have hc : mTst (m2 pNe (mV 16) (mV 17)) (eR P1 P2 P5 L n folk emp st wd z11 z12 z13 z14 (some (.d (.str x))) (some (.d (.str s)))) S = .ok (!decide (x = s)) S := by
      simp only [mTst_s, m2_s, mV_s, List.getElem?_cons_zero, List.getElem?_cons_succ, bind_ok, hne, Sm.lift_some, toB_s, li_some]
    by_cases e : x = s
    · rw [List.map_cons, lc_no (ρ1 := eR P1 P2 P5 L n folk emp st wd z11 z12 z13 z14 (some (.d (.str x))) (some (.d (.str s)))) rfl (by rw [hc]; simp [e]) ih]
      simp [e]
    · rw [List.map_cons, lc_yes (ρ1 := eR P1 P2 P5 L n folk emp st wd z11 z12 z13 z14 (some (.d (.str x))) (some (.d (.str s)))) rfl (by rw [hc]; simp [e]) (show mV 16 _ S = .ok (.d (.str x)) S from rfl) ih]
      simp [e]
theorem pures_bx (l : List Str) : pures (l.map fun s => Dv.d (.str s)) = some (l.map .str) := by
  have : (l.map fun s => Dv.d (.str s)) = (l.map Dt.str).map Dv.d := by
    rw [List.map_map]
    rfl
  rw [this, pures_d]
theorem row_ok {o : Bo} {bs : List (List Str)} {k : Nat} {S : Sto} {s : Str} {l : List Str} (K : Kept folk bs o k S) (nd : folk.Nodup) (hs : folk[k]? = some s) (hb : bs[k]? = some l) (pf : ∀ x ∈ folk, x ∈ pool) (g : Gd folk 1000 bs) :
    tRow (eR P1 P2 P5 L n folk emp st wd z11 z12 z13 z14 z16 (some (.d (.str s)))) S = .ok (.d (row (s, ws s l))) (S.set (2 + k) .dead) := by
  obtain ⟨g1, g2⟩ := g l (List.mem_of_getElem? hb)
  have hsp := pf s (List.mem_of_getElem? hs)
  have e1 : pIx (.loc 1) (.d (.str s)) S = some (.loc (2 + k), S) := by
    have := dlook_at (f := Dv.loc) (a := 2) nd hs
    unfold pIx
    have d : dctAt S (.loc 1) = some (kS folk, locs folk.length) := by
      unfold dctAt
      simp only [K.o1]
    rw [d]
    show (match dlook (kS folk) (locs folk.length) (.inr s) with
      | some x => some (x, S)
      | none => none) = _
    rw [this]
  have e2 : frz (.loc (2 + k)) S = some (.d (.lst (l.map .str)), S.set (2 + k) .dead) := by
    unfold frz
    simp only [K.bx k l (Nat.le_refl _) hb, pures_bx]
  have it : iSeq (mFrz (m2 pIx (mV 8) (mV 17))) (eR P1 P2 P5 L n folk emp st wd z11 z12 z13 z14 z16 (some (.d (.str s)))) S = .ok (l.map .str) (S.set (2 + k) .dead) := by
    simp only [iSeq_s, mFrz_s, m2_s, mV_s, List.getElem?_cons_zero, List.getElem?_cons_succ, bind_ok, e1, e2, Sm.lift_some]
    rfl
  have lc := fil_loop (P1 := P1) (P2 := P2) (P5 := P5) (L := L) (n := n) (folk := folk) (emp := emp) (st := st) (wd := wd) (z11 := z11) (z12 := z12) (z13 := z13) (z14 := z14) hsp l g2 (S.set (2 + k) .dead)
  have hfl : (l.filter fun x => !decide (x = s)).length ≤ 1000 := Nat.le_trans (List.length_filter_le _ _) g1
  have lc2 : mLcI [16] (iSeq (mFrz (m2 pIx (mV 8) (mV 17)))) (gN 16) (mTst (m2 pNe (mV 16) (mV 17))) (mV 16) (eR P1 P2 P5 L n folk emp st wd z11 z12 z13 z14 z16 (some (.d (.str s)))) S = .ok (((l.filter fun x => !decide (x = s)).map .str).map .d) (S.set (2 + k) .dead) :=
    mLcI_ok it (by rw [List.length_map]; omega) lc
  have e3 : pLst (((l.filter fun x => !decide (x = s)).map Dt.str).map .d) (S.set (2 + k) .dead) = some (.d (.lst ((l.filter fun x => !decide (x = s)).map .str)), S.set (2 + k) .dead) := pLst_d (by rw [List.length_map]; omega)
  have e4 : pSortSet (.d (.lst ((l.filter fun x => !decide (x = s)).map .str))) (S.set (2 + k) .dead) = some (.d (.lst ((ws s l).map .str)), S.set (2 + k) .dead) := by
    unfold pSortSet
    have : (itemsOf (S.set (2 + k) .dead) (.d (.lst ((l.filter fun x => !decide (x = s)).map .str)))).bind strsOf = some (l.filter fun x => !decide (x = s)) := by
      unfold itemsOf
      simp only [dctAt, seqAt, lstAt, pures_d, Option.bind_some, strsOf_map]
    rw [this]
    exact if_pos (by omega)
  have e5 : pTup [.d (.str s), .d (.tup ((ws s l).map .str))] (S.set (2 + k) .dead) = some (.d (row (s, ws s l)), S.set (2 + k) .dead) := rfl
  unfold tRow tFil
  simp only [mN_s, aCons_s, m1_s, mV_s, aNil_s, List.getElem?_cons_zero, List.getElem?_cons_succ, bind_ok, lc2, e3, e4, pTuple_lst, e5, Sm.lift_some]
theorem Kept.next {o : Bo} {bs : List (List Str)} {k : Nat} {S : Sto} (K : Kept folk bs o k S) : Kept folk bs o (k + 1) (S.set (2 + k) .dead) := by
  refine ⟨?_, ?_, fun j l hj hl => ?_⟩
  · rw [List.getElem?_set_ne (by omega)]
    exact K.o0
  · rw [List.getElem?_set_ne (by omega)]
    exact K.o1
  · rw [List.getElem?_set_ne (by omega)]
    exact K.bx j l (by omega) hl
end
/-! sorted -/
def Asc (l : List Str) : Prop := l.Pairwise fun a b => ltS a b = true
theorem Asc.nodup {l : List Str} (h : Asc l) : l.Nodup := List.Pairwise.imp (fun {a b} h e => by
  subst e
  have := of_decide_eq_true h
  exact List.lt_irrefl _ this) h
theorem asc_of {l : List Str} (h : l.Pairwise fun a b => leS a b = true) (nd : l.Nodup) : Asc l := by
  refine List.Pairwise.imp₂ (fun {a b} h1 h2 => ?_) h nd
  by_cases hl : a.cps.toList < b.cps.toList
  · exact decide_eq_true hl
  · exfalso
    have : leS b a = true := by
      unfold leS
      simp [hl]
    exact h2 (leS_anti h1 this)
theorem asc_sort {l : List Str} (nd : l.Nodup) : Asc (sortS l) := asc_of (sortS_sorted l) ((sortS_perm l).nodup_iff.mpr nd)
end Hn
/-! Hn15: a drawn sheet. -/
namespace Hn
open PySem PySem.Spec PyProof.Rows L2 Sm
structure Tome (t : Dt) (rows : List (Str × List Str)) (emps : List Str) (most free : Nat) : Prop where
  eq : t = .tup [.tup (rows.map row), .tup (emps.map .str)]
  pn : ∀ e ∈ rows, e.1 ∈ pool
  pw : ∀ e ∈ rows, ∀ x ∈ e.2, x ∈ pool ∧ x ≠ e.1
  sw : ∀ e ∈ rows, Asc e.2
  sn : Asc (rows.map (·.1))
  se : Asc emps
  pe : ∀ x ∈ emps, x ∈ pool
  nd : (rows.map (·.1) ++ emps).Nodup
  z0 : 0 < rows.length
  z1 : rows.length ≤ most
  z2 : emps.length ≤ free
abbrev e3 (P1 P2 : Dt) (z3 z4 z5 z6 z7 z8 z9 z10 : Option Dv) : Sm.Env := [some (.loc 0), some (.d P1), some (.d P2), z3, z4, z5, z6, z7, z8, z9, z10, none, none, none, none, none, none, none]
end Hn
/-! Hs1: comprehensions without side effects; texts in sequences and dicts. -/
namespace Hn
open PySem PySem.Spec PyProof.Rows L2 Sm
theorem lc_pure {α : Type} (enc : α → Dt) (p : α → Bool) (f : α → Dt) {g : GM} {c : M Bool} {e : M Dv} {ρ : Sm.Env} {S : Sto} : ∀ (l : List α), (∀ a ∈ l, ∃ ρ1, g (.d (enc a)) ρ = some ρ1 ∧ c ρ1 S = .ok (p a) S ∧ (p a = true → e ρ1 S = .ok (.d (f a)) S)) → lcL g c e ρ (l.map enc) S = .ok (((l.filter p).map f).map .d) S
  | [], _ => rfl
  | a :: l, h => by
    obtain ⟨ρ1, hg, hc, he⟩ := h a List.mem_cons_self
    have ih := lc_pure enc p f l fun b hb => h b (List.mem_cons_of_mem _ hb)
    by_cases hp : p a = true
    · rw [List.filter_cons_of_pos hp, List.map_cons]
      rw [hp] at hc
      exact lc_yes hg hc (he hp) ih
    · have hf : p a = false := by simpa using hp
      rw [List.filter_cons_of_neg hp, List.map_cons]
      rw [hf] at hc
      exact lc_no hg hc ih
theorem mLcI_pure {α : Type} (enc : α → Dt) (l : List α) (p : α → Bool) (f : α → Dt) {vs : List Nat} {it : M (List Dt)} {g : GM} {c : M Bool} {e : M Dv} {ρ : Sm.Env} {S : Sto} (hi : it ρ S = .ok (l.map enc) S) (hz : l.length ≤ 16777216) (h : ∀ a ∈ l, ∃ ρ1, g (.d (enc a)) (wipeE ρ vs) = some ρ1 ∧ c ρ1 S = .ok (p a) S ∧ (p a = true → e ρ1 S = .ok (.d (f a)) S)) : mLcI vs it g c e ρ S = .ok (((l.filter p).map f).map .d) S :=
  mLcI_ok hi (by rw [List.length_map]; exact hz) (lc_pure enc p f l h)
/-- the whole display -/
theorem mLc_pure {α : Type} (enc : α → Dt) (l : List α) (p : α → Bool) (f : α → Dt) {vs : List Nat} {it : M (List Dt)} {g : GM} {c : M Bool} {e : M Dv} {ρ : Sm.Env} {S : Sto} (hi : it ρ S = .ok (l.map enc) S) (hz : l.length ≤ 16777216) (h : ∀ a ∈ l, ∃ ρ1, g (.d (enc a)) (wipeE ρ vs) = some ρ1 ∧ c ρ1 S = .ok (p a) S ∧ (p a = true → e ρ1 S = .ok (.d (f a)) S)) : mN pLst (mLcI vs it g c e) ρ S = .ok (.d (.lst ((l.filter p).map f))) S := by
  rw [mN_s, mLcI_pure enc l p f hi hz h, bind_ok, pLst_d (by rw [List.length_map]; exact Nat.le_trans (List.length_filter_le _ _) hz), Sm.lift_some]
/-- a dict over distinct texts -/
theorem dc_pure {α : Type} (enc : α → Dt) (key : α → Str) (f : α → Dt) {g : GM} {c : M Bool} {ek ev : M Dv} {ρ : Sm.Env} {S : Sto} : ∀ (l : List α) (l0 : List Str) (xs : List Dv), (l0 ++ l.map key).Nodup → (∀ a ∈ l, ∃ ρ1, g (.d (enc a)) ρ = some ρ1 ∧ c ρ1 S = .ok true S ∧ ek ρ1 S = .ok (.d (.str (key a))) S ∧ ev ρ1 S = .ok (.d (f a)) S) →
    dcL g c ek ev ρ (l.map enc) (kS l0) xs S = .ok (kS (l0 ++ l.map key), xs ++ (l.map f).map .d) S
  | [], l0, xs, _, _ => by
    simp [dcL]
  | a :: l, l0, xs, nd, h => by
    obtain ⟨ρ1, hg, hc, hk, hv⟩ := h a List.mem_cons_self
    have hne : key a ∉ l0 := fun z => by
      rw [List.nodup_append] at nd
      exact nd.2.2 (key a) z (key a) (by simp) rfl
    obtain ⟨k1, k2⟩ := dput_new (xs := xs) (y := .d (f a)) (hasK_new hne)
    have ih := dc_pure enc key f (g := g) (c := c) (ek := ek) (ev := ev) (ρ := ρ) (S := S) l (l0 ++ [key a]) (xs ++ [.d (f a)]) (by simpa using nd) fun b hb => h b (List.mem_cons_of_mem _ hb)
    rw [show kS (l0 ++ [key a]) = kS l0 ++ [Sum.inr (key a)] by simp [kS]] at ih
    show bz (g (.d (enc a)) ρ) _ = _
    rw [hg, bz_some, hc, nox_ok, bind_ok, if_pos rfl, hk, nox_ok, bind_ok, hv, nox_ok, bind_ok]
    show dcL g c ek ev ρ (l.map enc) (dputK (kS l0) (.inr (key a))) (dputX (kS l0) xs (.inr (key a)) (.d (f a))) S = _
    rw [k1, k2, ih]
    simp
theorem mDc_pure {α : Type} (enc : α → Dt) (key : α → Str) (f : α → Dt) (l : List α) {vs : List Nat} {it : M (List Dt)} {g : GM} {c : M Bool} {ek ev : M Dv} {ρ : Sm.Env} {S : Sto} (hi : it ρ S = .ok (l.map enc) S) (hz : l.length ≤ 16777216) (nd : (l.map key).Nodup) (h : ∀ a ∈ l, ∃ ρ1, g (.d (enc a)) (wipeE ρ vs) = some ρ1 ∧ c ρ1 S = .ok true S ∧ ek ρ1 S = .ok (.d (.str (key a))) S ∧ ev ρ1 S = .ok (.d (f a)) S) :
    mDc pDct vs it g c ek ev ρ S = .ok (.d (.dct (kS (l.map key)) (l.map f))) S := by
  show (it ρ S).bind _ = _
  rw [hi, bind_ok, if_pos (by rw [List.length_map]; exact hz)]
  have e := dc_pure enc key f (g := g) (c := c) (ek := ek) (ev := ev) (ρ := wipeE ρ vs) (S := S) l [] [] (by simpa using nd) h
  rw [List.nil_append, List.nil_append] at e
  have e' : dcL g c ek ev (wipeE ρ vs) (l.map enc) [] [] S = _ := e
  rw [e', bind_ok]
  show pDct (kS (l.map key)) ((l.map f).map .d) S = _
  unfold pDct
  rw [pures_d]
theorem eqF_strs (a b : Str) : eqF (.str a) (.str b) = decide (a = b) := by
  cases e : decide (a = b) <;> simp_all [eqF]
theorem inSeq_strs {l : List Str} {x : Str} : inSeq (.d (.str x)) ((l.map .str).map .d) = some (decide (x ∈ l)) := by
  have h1 : (l.map Dt.str).all flatT = true := List.all_eq_true.mpr fun t ht => by
    obtain ⟨s, _, rfl⟩ := List.mem_map.mp ht
    rfl
  have h2 : ((l.map Dt.str).any fun t => eqF t (.str x)) = decide (x ∈ l) := by
    rw [List.any_map]
    induction l with
    | nil => simp
    | cons a l ih =>
      have ih' := ih (List.all_eq_true.mpr fun t ht => by
        obtain ⟨s, _, rfl⟩ := List.mem_map.mp ht
        rfl)
      rw [List.any_cons, ih']
      show (eqF (.str a) (.str x) || decide (x ∈ l)) = _
      rw [eqF_strs]
      by_cases h : a = x
      · simp [h]
      · have h' : ¬ x = a := fun z => h z.symm
        simp [h, h']
  show (if flatT (.str x) = true then (match pures ((l.map Dt.str).map .d) with
      | some ts => if ts.all flatT = true then some (ts.any fun t => eqF t (.str x)) else none
      | none => none) else none) = _
  rw [if_pos (show flatT (.str x) = true from rfl), pures_d]
  simp only [h1, if_true, h2]
theorem inDv_t {l : List Str} {x : Str} {S : Sto} : inDv S (.d (.str x)) (.d (.tup (l.map .str))) = some (decide (x ∈ l)) := inSeq_strs
theorem inDv_l {l : List Str} {x : Str} {S : Sto} : inDv S (.d (.str x)) (.d (.lst (l.map .str))) = some (decide (x ∈ l)) := inSeq_strs
theorem in_t {l : List Str} {x : Str} {S : Sto} : pIn (.d (.str x)) (.d (.tup (l.map .str))) S = some (.d (.bl (decide (x ∈ l))), S) := by
  unfold pIn
  rw [inDv_t]
theorem in_l {l : List Str} {x : Str} {S : Sto} : pIn (.d (.str x)) (.d (.lst (l.map .str))) S = some (.d (.bl (decide (x ∈ l))), S) := by
  unfold pIn
  rw [inDv_l]
theorem nin_l {l : List Str} {x : Str} {S : Sto} : pNotIn (.d (.str x)) (.d (.lst (l.map .str))) S = some (.d (.bl (!decide (x ∈ l))), S) := by
  unfold pNotIn
  rw [inDv_l]
theorem fld_is {S : Sto} {n c i : Nat} {fs : List (Option Dv)} {d : Dv} (h : S[n]? = some (.ins c fs)) (h2 : fs[i]? = some (some d)) : pFld c i (.loc n) S = some (d, S) := by
  unfold pFld
  simp only [h, if_true, h2]
theorem ins_is {S : Sto} {n c : Nat} {fs : List (Option Dv)} (h : S[n]? = some (.ins c fs)) : isIns c (.loc n) S = true := by
  unfold isIns
  simp only [h, beq_self_eq_true]
theorem meth_is {c : Nat} {F : FM} {mo : M Dv} {ma : M (List Dv)} {ρ : Sm.Env} {S S1 S2 : Sto} {n : Nat} {fs : List (Option Dv)} {ds : List Dv} (h1 : mo ρ S = .ok (.loc n) S1) (h2 : S1[n]? = some (.ins c fs)) (h3 : ma ρ S1 = .ok ds S2) : mMeth c F mo ma ρ S = F (.loc n :: ds) S2 := by
  unfold mMeth
  rw [h1, bind_ok, if_pos (ins_is h2), h3, bind_ok]
end Hn
/-! Hs2: sheets: what the methods of Sheet compute. -/
namespace Hn
open PySem PySem.Spec PyProof.Rows L2 Sm
theorem sFld_is {S : Sto} {n c i : Nat} {fs : List (Option Dv)} {d : Dv} {mo mv : M Dv} {ρ : Sm.Env} (h : S[n]? = some (.ins c fs)) (hv : mv ρ S = .ok d S) (ho : mo ρ S = .ok (.loc n) S) : sFld c i mo mv ρ S = .nx ρ (S.set n (.ins c (putF i d fs))) := by
  have e : stFld c i (.loc n) d S = some (S.set n (.ins c (putF i d fs))) := by
    unfold stFld
    simp only [h, if_true]
  rw [sFld_s, hv, to_ok, ho, to_ok, e, oz_some]
theorem set_at {S : Sto} {n : Nat} {o o' : Bo} (h : S[n]? = some o) : (S.set n o')[n]? = some o' := by
  have : n < S.length := by
    have := List.getElem?_eq_some_iff.mp h
    exact this.1
  exact List.getElem?_set_self this
/-- the row of x -/
def lk : List (Str × List Str) → Str → List Str
  | [], _ => []
  | e :: r, x => if e.1 = x then e.2 else lk r x
theorem lk_mem : ∀ {rows : List (Str × List Str)} {x : Str}, x ∈ rows.map (·.1) → (x, lk rows x) ∈ rows
  | [], x, h => absurd h List.not_mem_nil
  | a :: r, x, h => by
    show (x, if a.1 = x then a.2 else lk r x) ∈ _
    by_cases e : a.1 = x
    · subst e
      rw [if_pos rfl]
      exact List.mem_cons_self
    · rw [if_neg e]
      rcases List.mem_cons.mp h with h | h
      · exact absurd h.symm e
      · exact List.mem_cons_of_mem _ (lk_mem h)
abbrev folk (rows : List (Str × List Str)) : List Str := rows.map (·.1)
abbrev tupS (l : List Str) : Dt := .tup (l.map .str)
abbrev shD (l : List (Str × List Str)) (m : List Str) : Dt := .tup [.tup (l.map row), .tup (m.map .str)]
/-- t, whatever its lists and tuples, is the sheet of these rows and empty homes -/
structure Sd (t : Dt) (rows : List (Str × List Str)) (emps : List Str) : Prop where
  tx : Tx 7 t
  eq : tp t = shD rows emps
  nd : (folk rows ++ emps).Nodup
  z1 : rows.length ≤ 100
  z2 : emps.length ≤ 100
  z3 : ∀ r ∈ rows, r.2.length ≤ 100
section
variable {t : Dt} {rows : List (Str × List Str)} {emps : List Str} {S : Sto} {n : Nat}
/-- g, whatever its lists and tuples, is a row of these names -/
structure Nm (g : Dt) (l : List Str) : Prop where
  tp : ∀ S : Sto, F_tupled 8 [.d g] S = .ok (.d (tupS l)) S
  z : l.length ≤ 1000
theorem Nm.of {g : Dt} {l : List Str} (tx : Tx 7 g) (eq : Hn.tp g = tupS l) (z : l.length ≤ 1000) : Nm g l := ⟨fun S => by
  rw [← eq]
  exact tupled_ok 7 g S tx, z⟩
theorem Nm.none : Nm (.ltp []) [] := ⟨fun S => iso_ok (ts := [.ltp []]) (S' := []) rfl, Nat.zero_le _⟩
/-- the one wants the other's home, and the other its own -/
def suits (rows : List (Str × List Str)) (a b : Str) : Bool := decide (b ∈ lk rows a) && decide (a ∈ lk rows b)
def suited (rows : List (Str × List Str)) (a : Str) : List Str := (lk rows a).filter fun b => decide (b ∈ folk rows) && suits rows a b
end
end Hn
/-! Hs3: Swapping: what its making computes. -/
namespace Hn
open PySem PySem.Spec PyProof.Rows L2 Sm
abbrev prD (p : Str × Str) : Dt := .tup [.str p.1, .str p.2]
def nms (rows : List (Str × List Str)) (gone : List Str) : List Str := (folk rows).filter fun x => !decide (x ∈ gone)
def near (rows : List (Str × List Str)) (gone : List Str) (a : Str) : List Str := (suited rows a).filter fun x => !decide (x ∈ gone)
def prs (rows : List (Str × List Str)) (gone : List Str) : List (Str × Str) := (nms rows gone).flatMap fun a => ((near rows gone a).filter (ltS a)).map fun b => (a, b)
abbrev nearO (rows : List (Str × List Str)) (gone : List Str) : Dt := .dct (kS (nms rows gone)) ((nms rows gone).map fun x => tupS (near rows gone x))
def insW (n : Nat) (rows : List (Str × List Str)) (gone : List Str) : Bo := .ins 1 [some (.loc (n + 2)), some (.d (tupS (nms rows gone))), some (.d (nearO rows gone)), some (.d (.lst ((prs rows gone).map prD)))]
section
variable {S0 : Sto} {t g : Dt} {rows : List (Str × List Str)} {emps gone : List Str}
end
end Hn
/-! Hs4: most: what it computes, with what it keeps. -/
namespace Hn
open PySem PySem.Spec PyProof.Rows L2 Sm
/-- as many as there can be, by trying -/
def mostF (nr : Str → List Str) : Nat → List Str → Int
  | 0, _ => 0
  | _ + 1, [] => 0
  | n + 1, a :: rest => maxI (mostF nr n rest :: ((nr a).filter fun o => decide (o ∈ rest)).map fun o => 1 + mostF nr n (rest.filter fun y => !decide (y = o)))
abbrev less (rest : List Str) (o : Str) : List Str := rest.filter fun y => !decide (y = o)
def mostV (nr : Str → List Str) (l : List Str) : Int := mostF nr l.length l
/-- so many entries at the most -/
def tk (K : Nat) : Nat → Nat
  | 0 => 0
  | 1 => 0
  | n + 2 => 1 + tk K (n + 1) + K * tk K n
abbrev kL (l : List Str) : List Key := l.map Sum.inr
section
variable {v : List Str → Dv} {es : List (List Str)} {l : List Str}
end
section
variable {S : Sto} {n : Nat} {rows : List (Str × List Str)} {gone : List Str} {K : Nat}
abbrev vL (rows : List (Str × List Str)) (gone : List Str) (l : List Str) : Dv := .d (.int (mostV (near rows gone) l))
abbrev dcW (rows : List (Str × List Str)) (gone : List Str) (es : List (List Str)) : Bo := .dcT (es.map kL) (es.map (vL rows gone))
/-- S, but for what is known -/
def StW (S : Sto) (n : Nat) (rows : List (Str × List Str)) (gone : List Str) (es : List (List Str)) : Sto := S.set (n + 2) (dcW rows gone es)
/-- a Swapping stands at n -/
structure Bs (S : Sto) (n : Nat) (rows : List (Str × List Str)) (gone : List Str) : Prop where
  i0 : S[n]? = some (insW n rows gone)
  i2 : n + 2 < S.length
theorem Bs.a0 (B : Bs S n rows gone) {es : List (List Str)} : (StW S n rows gone es)[n]? = some (insW n rows gone) := by
  unfold StW
  rw [List.getElem?_set_ne (by omega)]
  exact B.i0
theorem Bs.a2 (B : Bs S n rows gone) {es : List (List Str)} : (StW S n rows gone es)[n + 2]? = some (dcW rows gone es) := List.getElem?_set_self B.i2
end
end Hn
/-! Hs5: sets of pairs without a common name: the greatest, by going through the names. -/
namespace Hn
open PySem PySem.Spec PyProof.Rows L2 Sm
/-- two pairs without a common name -/
def Dj (p q : Str × Str) : Prop := p.1 ≠ q.1 ∧ p.1 ≠ q.2 ∧ p.2 ≠ q.1 ∧ p.2 ≠ q.2
theorem Dj.symm {p q : Str × Str} (h : Dj p q) : Dj q p := ⟨fun z => h.1 z.symm, fun z => h.2.2.1 z.symm, fun z => h.2.1 z.symm, fun z => h.2.2.2 z.symm⟩
structure Mt (P : List (Str × Str)) (left : List Str) (m : List (Str × Str)) : Prop where
  pw : m.Pairwise Dj
  all : ∀ p ∈ m, p ∈ P ∧ p.1 ∈ left ∧ p.2 ∈ left
section
variable {P : List (Str × Str)} {nr : Str → List Str} {names : List Str}
/-- who suits whom, by pairs and by rows -/
structure Fit (P : List (Str × Str)) (nr : Str → List Str) (names : List Str) : Prop where
  ne : ∀ p ∈ P, p.1 ≠ p.2
  iff : ∀ a ∈ names, ∀ o ∈ names, a ≠ o → (o ∈ nr a ↔ ((a, o) ∈ P ∨ (o, a) ∈ P))
/-- all lists of pairs of P, in its order, without a common name -/
def tch (p q : Str × Str) : Bool := decide (q.1 ∈ [p.1, p.2]) || decide (q.2 ∈ [p.1, p.2])
def free (p : Str × Str) (m : List (Str × Str)) : Bool := (m.filter (tch p)).isEmpty
def stepM (found : List (List (Str × Str))) (p : Str × Str) : List (List (Str × Str)) := found ++ (found.filter (free p)).map fun m => m ++ [p]
def allM (P : List (Str × Str)) : List (List (Str × Str)) := P.foldl stepM [[]]
end
end Hn
/-! Hs6: the law's own trying of all sets of pairs. -/
namespace Hn
open PySem PySem.Spec PyProof.Rows L2 Sm
def okP (p : Str × Str) : Prop := PyData.strOk p.1 = true ∧ PyData.strOk p.2 = true
section
variable {P0 : Dt}
end
end Hn
/-! Hs7: the law's own look at a sheet: folk, wants, suits. -/
namespace Hn
open PySem PySem.Spec PyProof.Rows L2 Sm
section
variable {rows : List (Str × List Str)} {emps : List Str}
abbrev lstS (l : List Str) : Dt := .lst (l.map .str)
/-! sorted pairs -/
end
end Hn
/-! Hs8: sheets of the laws, and what most tells of them. -/
namespace Hn
open PySem PySem.Spec PyProof.Rows L2 Sm
/-- all names that are drawn -/
def allN : List Str := ["a", "ann", "b", "bob", "c", "cat", "dan", "eve", "fay", "new", "old", "x", "zzzzzzzz"]
/-- a sheet of few households -/
structure Gs8 (rows : List (Str × List Str)) (emps : List Str) : Prop where
  nd : (folk rows ++ emps).Nodup
  ok : ∀ r ∈ rows, PyData.strOk r.1 = true ∧ ∀ x ∈ r.2, PyData.strOk x = true
  oke : ∀ x ∈ emps, PyData.strOk x = true
  wn : ∀ r ∈ rows, r.2.Nodup
  wl : ∀ r ∈ rows, r.2.length ≤ 11
  z : rows.length ≤ 8
  ze : emps.length ≤ 20
  af : Asc (folk rows)
  aw : ∀ r ∈ rows, Asc r.2
  ns : ∀ r ∈ rows, r.1 ∉ r.2
  nm : ∀ r ∈ rows, r.1 ∈ allN
theorem tps_strs' : ∀ l : List Str, tps (l.map .str) = l.map .str
  | [] => rfl
  | a :: l => by
    show Dt.str a :: tps (l.map .str) = _
    rw [tps_strs' l]
    rfl
theorem tps_rows' : ∀ l : List (Str × List Str), tps (l.map row) = l.map row
  | [] => rfl
  | a :: l => by
    show tp (row a) :: tps (l.map row) = _
    rw [tps_rows' l]
    show Dt.tup [.str a.1, .tup (tps (a.2.map .str))] :: _ = _
    rw [tps_strs']
    rfl
theorem tx_strs' {l : List Str} (h : ∀ s ∈ l, PyData.strOk s = true) (hz : l.length ≤ 1000) : Tx 1 (tupS l) :=
  .inr ⟨_, .inl rfl, by rw [List.length_map]; exact hz, fun x hx => by
    obtain ⟨s, hs, rfl⟩ := List.mem_map.mp hx
    exact ⟨s, h s hs, rfl⟩⟩
theorem Tx.ups {n m : Nat} {t : Dt} (h : Tx n t) (hm : n ≤ m) : Tx m t := by
  induction hm with
  | refl => exact h
  | step _ ih => exact ih.up
section
variable {rows : List (Str × List Str)} {emps gone : List Str}
theorem Gs8.tx (h : Gs8 rows emps) : Tx 4 (shD rows emps) := by
  have t1 : Tx 3 (tupS emps) := (tx_strs' h.oke (by have := h.ze; omega)).ups (by omega)
  have t2 : ∀ e ∈ rows, Tx 2 (row e) := fun e he => by
    obtain ⟨a, c⟩ := h.ok e he
    refine .inr ⟨_, .inl rfl, by show 2 ≤ 1000; omega, fun x hx => ?_⟩
    rcases List.mem_cons.mp hx with rfl | hx
    · exact .inl ⟨e.1, a, rfl⟩
    · rcases List.mem_cons.mp hx with rfl | hx
      · exact tx_strs' c (by have := h.wl e he; omega)
      · exact absurd hx List.not_mem_nil
  have t3 : Tx 3 (.tup (rows.map row)) := .inr ⟨_, .inl rfl, by rw [List.length_map]; have := h.z; omega, fun x hx => by
    obtain ⟨e, he, rfl⟩ := List.mem_map.mp hx
    exact t2 e he⟩
  exact .inr ⟨_, .inl rfl, by show 2 ≤ 1000; omega, fun x hx => by
    rcases List.mem_cons.mp hx with rfl | hx
    · exact t3
    · rcases List.mem_cons.mp hx with rfl | hx
      · exact t1
      · exact absurd hx List.not_mem_nil⟩
theorem Gs8.tp (h : Gs8 rows emps) : tp (shD rows emps) = shD rows emps := by
  show Dt.tup [.tup (tps (rows.map row)), .tup (tps (emps.map .str))] = _
  rw [tps_rows', tps_strs']
theorem Gs8.sd (h : Gs8 rows emps) : Sd (shD rows emps) rows emps := ⟨h.tx.ups (by omega), h.tp, h.nd, by have := h.z; omega, by have := h.ze; omega, fun r hr => by have := h.wl r hr; omega⟩
theorem Nm.tup {l : List Str} (h : ∀ s ∈ l, PyData.strOk s = true) (hz : l.length ≤ 1000) : Nm (tupS l) l := .of ((tx_strs' h hz).ups (by omega)) (by
  show Dt.tup (tps (l.map .str)) = _
  rw [tps_strs']) hz
theorem Nm.lst {l : List Str} (h : ∀ s ∈ l, PyData.strOk s = true) (hz : l.length ≤ 1000) : Nm (lstS l) l := .of ((show Tx 1 (lstS l) from .inr ⟨_, .inr rfl, by rw [List.length_map]; exact hz, fun x hx => by
    obtain ⟨s, hs, rfl⟩ := List.mem_map.mp hx
    exact ⟨s, h s hs, rfl⟩⟩).ups (by omega)) (by
  show Dt.tup (tps (l.map .str)) = _
  rw [tps_strs']) hz
structure Best (P : List (Str × Str)) (k : Int) : Prop where
  top : (∀ m ∈ allM P, (m.length : Int) ≤ k) ∧ ∃ m ∈ allM P, (m.length : Int) = k
  len : (allM P).length ≤ 16777216
  ok : ∀ p ∈ P, okP p
  z : P.length ≤ 64
end
end Hn
/-! Ht1: more of Swapping: behind, firsts, least, open ones, partners. -/
namespace Hn
open PySem PySem.Spec PyProof.Rows L2 Sm
section
variable {S : Sto} {n : Nat} {rows : List (Str × List Str)} {emps gone : List Str}
/-- a sheet few enough, with its Swapping -/
structure Sw8 (rows : List (Str × List Str)) (gone : List Str) : Prop where
  wl : ∀ r ∈ rows, r.2.length ≤ 11
  z : rows.length ≤ 8
  ok : ∀ r ∈ rows, PyData.strOk r.1 = true
theorem Gs8.sw (h : Gs8 rows emps) : Sw8 rows gone := ⟨h.wl, h.z, fun r hr => (h.ok r hr).1⟩
end
end Hn
/-! Ht2: least, open ones, partners. -/
namespace Hn
open PySem PySem.Spec PyProof.Rows L2 Sm
section
variable {S : Sto} {n : Nat} {rows : List (Str × List Str)} {gone : List Str}
theorem Bs.app (B : Bs S n rows gone) (o : Bo) : Bs (S ++ [o]) n rows gone := ⟨by
  have := B.i2
  rw [List.getElem?_append_left (by omega)]
  exact B.i0, by
  have := B.i2
  rw [List.length_append]
  omega⟩
end
end Hn
/-! Ht3: the order of pairs and of lists of pairs. -/
namespace Hn
open PySem PySem.Spec PyProof.Rows L2 Sm
def ltQ (p q : Str × Str) : Bool := if p.1 = q.1 then ltS p.2 q.2 else ltS p.1 q.1
section
variable {rows : List (Str × List Str)} {gone : List Str}
end
end Hn
/-! Ht4: the least way is the least of all. -/
namespace Hn
open PySem PySem.Spec PyProof.Rows L2 Sm
section
variable {rows : List (Str × List Str)} {gone : List Str}
end
end Hn
/-! Hl1: sheets by pairs: linked. -/
namespace Hn
open PySem PySem.Spec PyProof.Rows L2 Sm
abbrev evens (a n : Nat) : List Dv := (List.range' a n).map fun i => .loc (2 * i)
/-- the table: its boxes by name -/
structure Tb (L : List Str) (adj : Str → List Str) (S : Sto) : Prop where
  d : S[2 * L.length + 1]? = some (.dct (kS L) (evens 0 L.length))
  b : ∀ i s, L[i]? = some s → S[2 * i]? = some (bx (adj s))
section
variable {L : List Str} {adj : Str → List Str} {S : Sto}
theorem Tb.ix (T : Tb L adj S) (nd : L.Nodup) {i : Nat} {s : Str} (h : L[i]? = some s) : pIx (.loc (2 * L.length + 1)) (.d (.str s)) S = some (.loc (2 * i), S) := by
  have e : dctAt S (.loc (2 * L.length + 1)) = some (kS L, evens 0 L.length) := by
    unfold dctAt
    simp only [T.d]
  have e2 := dlook_at (f := fun i => Dv.loc (2 * i)) (a := 0) nd h
  rw [Nat.zero_add] at e2
  unfold pIx
  simp only [e, show kOf (.d (.str s)) = some (.inr s) from rfl, e2]
theorem Tb.app (T : Tb L adj S) (nd : L.Nodup) {i : Nat} {s y : Str} (h : L[i]? = some s) (hz : (adj s).length < 1000) : isLs S (.loc (2 * i)) = true ∧ ∃ S', pAppend (.loc (2 * i)) [.d (.str y)] S = some (.d .non, S') ∧ Tb L (fun x => if x = s then adj x ++ [y] else adj x) S' := by
  have hb := T.b i s h
  have hi : i < L.length := (List.getElem?_eq_some_iff.mp h).1
  have l1 : lstAt S (.loc (2 * i)) = some ((adj s).map fun s => Dv.d (.str s)) := by
    unfold lstAt
    simp only [hb]
  refine ⟨by unfold isLs; rw [l1], S.set (2 * i) (.lst ((adj s).map (fun s => Dv.d (.str s)) ++ [.d (.str y)])), ?_, ?_, fun j t ht => ?_⟩
  · unfold pAppend
    simp only [hb]
    rw [if_pos (by rw [List.length_map]; omega)]
  · rw [List.getElem?_set_ne (by omega)]
    exact T.d
  · by_cases hj : j = i
    · subst hj
      rw [h] at ht
      cases ht
      rw [set_at hb, if_pos rfl]
      show some (Bo.lst _) = some (Bo.lst _)
      rw [List.map_append]
      rfl
    · have hne : ¬ t = s := fun z => by
        subst z
        exact hj ((List.getElem?_inj (List.getElem?_eq_some_iff.mp ht).1 nd).mp (ht.trans h.symm))
      rw [List.getElem?_set_ne (by omega), if_neg hne]
      exact T.b j t ht
/-- pairs put into the table -/
def addP (adj : Str → List Str) (p : Str × Str) : Str → List Str := fun x => if x = p.2 then (if x = p.1 then adj x ++ [p.2] else adj x) ++ [p.1] else if x = p.1 then adj x ++ [p.2] else adj x
theorem pSorted_box {k : Nat} {l : List Str} (h : S[k]? = some (bx l)) (hz : l.length ≤ 1000) : pSorted [.loc k] S = some (.d (.lst ((sortS l).map .str)), S) := by
  have e : seqT S (.loc k) = some (l.map .str) := by
    have e1 : lstAt S (.loc k) = some ((l.map Dt.str).map .d) := by
      unfold lstAt
      simp only [h]
      rw [List.map_map]
      rfl
    unfold seqT
    show (lstAt S (.loc k)).bind pures = _
    rw [e1, Option.bind_some, pures_d]
  unfold pSorted
  simp only [e]
  rw [if_pos (sortChk_strs hz), sort_strs]
def linkR (L : List Str) (ps : List (Str × Str)) : List (Str × List Str) := (sortS L).map fun x => (x, sortS (ps.foldl addP (fun _ => []) x))
/-- the line is a text, or a list of texts -/
structure Ln (line : Dt) (L : List Str) : Prop where
  any : anyOf (.d line) = some (L.map .str)
  srt : ∀ S : Sto, pSortedA [.d line] S = some (.d (.lst ((sortS L).map .str)), S)
end
end Hn
/-! Hl2: sheets by pairs are sheets; sorting by putting in. -/
namespace Hn
open PySem PySem.Spec PyProof.Rows L2 Sm
def putS (a : Str) : List Str → List Str
  | [] => [a]
  | b :: l => if leS a b = true then a :: b :: l else b :: putS a l
theorem Ln.lst {L : List Str} (hz : L.length ≤ 1000) : Ln (lstS L) L := ⟨rfl, fun S => by
  have e : srtOf S (.d (lstS L)) = some (L.map .str) := seqT_lst
  unfold pSortedA
  simp only [e]
  rw [if_pos (sortChk_strs hz), sort_strs]⟩
theorem Ln.str {z : Str} {L : List Str} (h : Sm.signs z = L.map .str) (hz : z.length ≤ 16777216) (hz2 : L.length ≤ 1000) : Ln (.str z) L := ⟨by
  show some (Sm.signs z) = _
  rw [h], fun S => by
  have e : srtOf S (.d (.str z)) = some (L.map .str) := by
    show (if z.length ≤ 16777216 then some (Sm.signs z) else none) = _
    rw [if_pos hz, h]
  unfold pSortedA
  simp only [e]
  rw [if_pos (sortChk_strs hz2), sort_strs]⟩
def oth (x : Str) (p : Str × Str) : Option Str := if x = p.1 then some p.2 else if x = p.2 then some p.1 else none
structure Pr (L : List Str) (ps : List (Str × Str)) : Prop where
  nd : L.Nodup
  ok : ∀ x ∈ L, PyData.strOk x = true
  nm : ∀ x ∈ L, x ∈ allN
  mem : ∀ p ∈ ps, p.1 ∈ L ∧ p.2 ∈ L ∧ p.1 ≠ p.2
  sep : ps.Pairwise fun p q => p ≠ q ∧ p ≠ (q.2, q.1)
  z : L.length ≤ 8
  z2 : ps.length ≤ 400
theorem adj_is (x : Str) : ∀ (ps : List (Str × Str)) (adj : Str → List Str), (∀ p ∈ ps, p.1 ≠ p.2) → ps.foldl addP adj x = adj x ++ ps.filterMap (oth x)
  | [], adj, _ => by simp
  | p :: ps, adj, h => by
    have ih := adj_is x ps (addP adj p) fun q hq => h q (List.mem_cons_of_mem _ hq)
    show ps.foldl addP (addP adj p) x = _
    rw [ih, List.filterMap_cons]
    have hne := h p List.mem_cons_self
    unfold oth addP
    by_cases h1 : x = p.1
    · have h2 : ¬ x = p.2 := fun z => hne (h1.symm.trans z)
      simp [h1, hne]
    · by_cases h2 : x = p.2
      · have h3 : ¬ p.2 = p.1 := fun z => hne z.symm
        simp [h2, h3]
      · simp [h1, h2]
theorem oth_some {x y : Str} {p : Str × Str} (h : oth x p = some y) : p = (x, y) ∨ p = (y, x) := by
  unfold oth at h
  split at h
  · rename_i e
    cases h
    exact .inl (by rw [e])
  · split at h
    · rename_i e
      cases h
      exact .inr (by rw [e])
    · cases h
section
variable {L : List Str} {ps : List (Str × Str)}
theorem Pr.adj_nodup (h : Pr L ps) (x : Str) : (ps.filterMap (oth x)).Nodup := by
  refine List.Pairwise.filterMap (oth x) (fun p q hpq y hy y' hy' e => ?_) h.sep
  subst e
  rcases oth_some hy with rfl | rfl <;> rcases oth_some hy' with rfl | rfl
  · exact hpq.1 rfl
  · exact hpq.2 rfl
  · exact hpq.2 rfl
  · exact hpq.1 rfl
theorem Pr.adj_sub (h : Pr L ps) {x y : Str} (hy : y ∈ ps.filterMap (oth x)) : y ∈ L := by
  obtain ⟨p, hp, e⟩ := List.mem_filterMap.mp hy
  obtain ⟨h1, h2, _⟩ := h.mem p hp
  rcases oth_some e with rfl | rfl
  · exact h2
  · exact h1
theorem Pr.gs (h : Pr L ps) : Gs8 (linkR L ps) [] := by
  have ef : folk (linkR L ps) = sortS L := by
    unfold linkR folk
    rw [List.map_map]
    exact List.map_id _
  have hr : ∀ r ∈ linkR L ps, r.1 ∈ L ∧ r.2 = sortS (ps.filterMap (oth r.1)) := fun r hr => by
    obtain ⟨x, hx, rfl⟩ := List.mem_map.mp hr
    refine ⟨(sortS_perm L).mem_iff.mp hx, ?_⟩
    show sortS (ps.foldl addP (fun _ => []) x) = _
    rw [adj_is x ps _ fun p hp => (h.mem p hp).2.2, List.nil_append]
  refine ⟨?_, fun r hr' => ?_, fun x hx => absurd hx List.not_mem_nil, fun r hr' => ?_, fun r hr' => ?_, ?_, Nat.zero_le _, by rw [ef]; exact asc_sort h.nd, fun r hr' => by rw [(hr r hr').2]; exact asc_sort (h.adj_nodup _), fun r hr' z => ?_, fun r hr' => h.nm _ (hr r hr').1⟩
  · rw [List.append_nil, ef]
    exact (sortS_perm L).nodup_iff.mpr h.nd
  · obtain ⟨h1, h2⟩ := hr r hr'
    refine ⟨h.ok _ h1, fun y hy => ?_⟩
    rw [h2] at hy
    exact h.ok _ (h.adj_sub ((sortS_perm _).mem_iff.mp hy))
  · rw [(hr r hr').2]
    exact (sortS_perm _).nodup_iff.mpr (h.adj_nodup _)
  · rw [(hr r hr').2, (sortS_perm _).length_eq]
    have := List.Nodup.length_le_of_subset (h.adj_nodup r.1) fun y hy => h.adj_sub hy
    have := h.z
    omega
  · unfold linkR
    rw [List.length_map, (sortS_perm L).length_eq]
    exact h.z
  · rw [(hr r hr').2] at z
    obtain ⟨p, hp, e⟩ := List.mem_filterMap.mp ((sortS_perm _).mem_iff.mp z)
    rcases oth_some e with rfl | rfl
    · exact (h.mem _ hp).2.2 rfl
    · exact (h.mem _ hp).2.2 rfl
end
end Hn
/-! Hl3: same, of all plain things. -/
namespace Hn
open PySem PySem.Spec PyProof.Rows L2 Sm
def Atm (t : Dt) : Prop := (∃ s, PyData.strOk s = true ∧ t = .str s) ∨ (∃ i : Int, t = .int i) ∨ (∃ b : Bool, t = .bl b) ∨ t = .non
/-- plain things in lists and tuples, of nesting at most n -/
def Ty : Nat → Dt → Prop
  | 0, t => Atm t
  | n + 1, t => Atm t ∨ ∃ xs, (t = .tup xs ∨ t = .lst xs) ∧ xs.length ≤ 1000 ∧ ∀ x ∈ xs, Ty n x
theorem Ty.up : ∀ {n : Nat} {t : Dt}, Ty n t → Ty (n + 1) t
  | 0, t, h => .inl h
  | n + 1, t, .inl h => .inl h
  | n + 1, t, .inr ⟨xs, h, hz, hx⟩ => .inr ⟨xs, h, hz, fun x m => (hx x m).up⟩
theorem Ty.ups {n m : Nat} {t : Dt} (h : Ty n t) (hm : n ≤ m) : Ty m t := by
  induction hm with
  | refl => exact h
  | step _ ih => exact ih.up
theorem same_atm : ∀ (n : Nat) (t : Dt) (S : Sto), Atm t → F__law_same (n + 1) [.d t, .d t] S = .ok (.d (.bl true)) S := fun n t S h => by
  refine iso_ok (ts := [t, t]) (S' := []) (runB_rt (ds := [.d t, .d t]) rfl ?_)
  show b__law_same (F__law_same n) [some (.d t), some (.d t), none, none] [] = _
  have t0 : ∀ (b : Bool) (S : Sto), pTru (.d (.bl b)) S = some b := fun _ _ => rfl
  rcases h with ⟨s, hs, rfl⟩ | ⟨i, rfl⟩ | ⟨b, rfl⟩ | rfl
  · have i1 : ∀ S : Sto, pIsa ["list", "tuple"] (.d (.str s)) S = some (.d (.bl false), S) := fun _ => rfl
    have i2 : ∀ S : Sto, pIsa ["bool", "str"] (.d (.str s)) S = some (.d (.bl true), S) := fun _ => rfl
    have i3 : ∀ S : Sto, pIsa ["bool"] (.d (.str s)) S = some (.d (.bl false), S) := fun _ => rfl
    have n1 : ∀ S : Sto, pIsN (.d (.str s)) (.d .non) S = some (.d (.bl false), S) := fun _ => rfl
    unfold b__law_same
    simp only [sSeq_s, sIf_s, mTru_s, m1_s, m2_s, mC_s, mV_s, List.getElem?_cons_zero, List.getElem?_cons_succ, bind_ok, i1, Sm.lift_some, t0, li_some, to_ok, Bool.false_eq_true, if_false, sNil_s, sqz_nx, cOr_s, mTst_s, n1, toB_s, i2, if_true, sRet_s, mAnd_s, pEq_str hs, i3, pEq_bl, sqz_rt]
  · have i1 : ∀ S : Sto, pIsa ["list", "tuple"] (.d (.int i)) S = some (.d (.bl false), S) := fun _ => rfl
    have i2 : ∀ S : Sto, pIsa ["bool", "str"] (.d (.int i)) S = some (.d (.bl false), S) := fun _ => rfl
    have i3 : ∀ S : Sto, pIsa ["bool"] (.d (.int i)) S = some (.d (.bl false), S) := fun _ => rfl
    have i4 : ∀ S : Sto, pIsa ["int"] (.d (.int i)) S = some (.d (.bl true), S) := fun _ => rfl
    have n1 : ∀ S : Sto, pIsN (.d (.int i)) (.d .non) S = some (.d (.bl false), S) := fun _ => rfl
    unfold b__law_same
    simp only [sSeq_s, sIf_s, mTru_s, m1_s, m2_s, mC_s, mV_s, List.getElem?_cons_zero, List.getElem?_cons_succ, bind_ok, i1, Sm.lift_some, t0, li_some, to_ok, Bool.false_eq_true, if_false, sNil_s, sqz_nx, cOr_s, mTst_s, n1, toB_s, i2, if_true, sRet_s, mAnd_s, mNot_s, pEq_int, i3, i4, Bool.not_false, sqz_rt]
  · have i1 : ∀ S : Sto, pIsa ["list", "tuple"] (.d (.bl b)) S = some (.d (.bl false), S) := fun _ => rfl
    have i2 : ∀ S : Sto, pIsa ["bool", "str"] (.d (.bl b)) S = some (.d (.bl true), S) := fun _ => rfl
    have i3 : ∀ S : Sto, pIsa ["bool"] (.d (.bl b)) S = some (.d (.bl true), S) := fun _ => rfl
    have n1 : ∀ S : Sto, pIsN (.d (.bl b)) (.d .non) S = some (.d (.bl false), S) := fun _ => rfl
    unfold b__law_same
    simp only [sSeq_s, sIf_s, mTru_s, m1_s, m2_s, mC_s, mV_s, List.getElem?_cons_zero, List.getElem?_cons_succ, bind_ok, i1, Sm.lift_some, t0, li_some, to_ok, Bool.false_eq_true, if_false, sNil_s, sqz_nx, cOr_s, mTst_s, n1, toB_s, i2, if_true, sRet_s, mAnd_s, i3, pEq_bl, sqz_rt]
  · have i1 : ∀ S : Sto, pIsa ["list", "tuple"] (.d .non) S = some (.d (.bl false), S) := fun _ => rfl
    have i3 : ∀ S : Sto, pIsa ["bool"] (.d .non) S = some (.d (.bl false), S) := fun _ => rfl
    have n1 : ∀ S : Sto, pIsN (.d .non) (.d .non) S = some (.d (.bl true), S) := fun _ => rfl
    have q1 : ∀ S : Sto, pEq (.d .non) (.d .non) S = some (.d (.bl true), S) := fun S => by
      have : eqDv S (.d .non) (.d .non) = some true := by
        show (if SeqAt.shaped .none = true ∧ SeqAt.shaped .none = true then some (PyData.eqv .none .none) else none) = _
        rw [if_pos ⟨rfl, rfl⟩]
        simp [PyData.eqv]
      unfold pEq
      rw [this]
    unfold b__law_same
    simp only [sSeq_s, sIf_s, mTru_s, m1_s, m2_s, mC_s, mV_s, List.getElem?_cons_zero, List.getElem?_cons_succ, bind_ok, i1, Sm.lift_some, t0, li_some, to_ok, Bool.false_eq_true, if_false, sNil_s, sqz_nx, cOr_s, mTst_s, n1, toB_s, if_true, sRet_s, mAnd_s, q1, i3, pEq_bl, sqz_rt]
theorem same_ty : ∀ (n : Nat) (t : Dt) (S : Sto), Ty n t → F__law_same (n + 1) [.d t, .d t] S = .ok (.d (.bl true)) S := by
  have seq : ∀ (n : Nat) (t : Dt) (xs : List Dt) (S : Sto), (t = .tup xs ∨ t = .lst xs) → xs.length ≤ 1000 → (∀ x ∈ xs, ∀ S, F__law_same n [.d x, .d x] S = .ok (.d (.bl true)) S) → F__law_same (n + 1) [.d t, .d t] S = .ok (.d (.bl true)) S := fun n t xs S ht hz hx => by
    refine iso_ok (ts := [t, t]) (S' := []) (runB_rt (ds := [.d t, .d t]) rfl ?_)
    show b__law_same (F__law_same n) [some (.d t), some (.d t), none, none] [] = _
    obtain ⟨b1, l1⟩ := isa_l (S := []) ht
    obtain ⟨b2, l2⟩ := isa_t (S := []) ht
    have i1 := isa_seq (S := []) ht
    have hl := len_seq (S := []) ht
    have t0 : ∀ (b : Bool) (S : Sto), pTru (.d (.bl b)) S = some b := fun _ _ => rfl
    have hzip : zp2 [.d t, .d t] = some (zpL xs xs) := by rcases ht with rfl | rfl <;> rfl
    have hzl : (zpL xs xs).length ≤ 16777216 := by
      rw [zpL_length]
      omega
    have c1 : mLcI [2, 3] (iRg zp2 (aCons (mV 0) (aCons (mV 1) (aNil)))) (gT (gsCons (gN 2) (gsCons (gN 3) (gsNil)))) (cYes) (mF (F__law_same n) (aCons (mV 2) (aCons (mV 3) (aNil)))) [some (.d t), some (.d t), none, none] [] = .ok (xs.map fun _ => Dv.d (.bl true)) [] := by
      rw [mLcI_s, iRg_ok (ds := [.d t, .d t]) (S1 := []) (by simp only [aCons_s, mV_s, aNil_s, List.getElem?_cons_zero, List.getElem?_cons_succ, bind_ok]) hzip, bind_ok, if_pos hzl]
      exact zip_loop xs hx []
    have p1 : pLst (xs.map fun _ => Dv.d (.bl true)) [] = some (.d (.lst (xs.map fun _ => .bl true)), []) := by
      have e : (xs.map fun _ => Dv.d (.bl true)) = (xs.map fun _ => Dt.bl true).map Dv.d := by
        rw [List.map_map]
        rfl
      rw [e]
      exact pLst_d (by rw [List.length_map]; omega)
    unfold b__law_same
    simp only [sSeq_s, sIf_s, mTru_s, m1_s, m2_s, mN_s, mC_s, mV_s, aCons_s, aNil_s, List.getElem?_cons_zero, List.getElem?_cons_succ, bind_ok, i1, Sm.lift_some, t0, li_some, to_ok, if_true, cOr_s, mTst_s, l1, l2, pNe_bl, toB_s, Bool.false_eq_true, if_false, sNil_s, sqz_nx, sRet_s, mAnd_s, hl, pEq_int, c1, p1, all_true, sqz_rt]
  intro n
  induction n with
  | zero => exact fun t S h => same_atm 0 t S h
  | succ n ih =>
    intro t S h
    rcases h with h | ⟨xs, ht, hz, hx⟩
    · exact same_atm (n + 1) t S h
    · exact seq (n + 1) t xs S ht hz fun x m S => ih x S (hx x m)
end Hn
/-! Hu1: the law's own best. -/
namespace Hn
open PySem PySem.Spec PyProof.Rows L2 Sm
section
variable {rows : List (Str × List Str)} {emps gone : List Str}
end
end Hn
/-! Hu2: sheets by hand, and what is asked of plain things. -/
namespace Hn
open PySem PySem.Spec PyProof.Rows L2 Sm
theorem app_now {mo : M Dv} {ma : M (List Dv)} {ρ : Sm.Env} {S : Sto} {n : Nat} {xs : List Dv} {d : Dv} (h1 : mo ρ S = .ok (.loc n) S) (h2 : ma ρ S = .ok [d] S) (h3 : S[n]? = some (.lst xs)) (h4 : xs.length < 16777216) : sDrop (mLm pAppend mo ma) ρ S = .nx ρ (S.set n (.lst (xs ++ [d]))) := by
  have e1 : isLs S (.loc n) = true := by
    unfold isLs lstAt
    simp only [h3]
  have e2 : pAppend (.loc n) [d] S = some (.d .non, S.set n (.lst (xs ++ [d]))) := by
    unfold pAppend
    simp only [h3]
    rw [if_pos h4]
  rw [sDrop_s, mLm_s, h1, bind_ok, if_pos e1, h2, bind_ok, e2, Sm.lift_some, to_ok]
theorem pt2 {a b : Dt} {S : Sto} : pTup [.d a, .d b] S = some (.d (.tup [a, b]), S) := rfl
end Hn
/-! Hv1: open ones, partners; comprehensions that go on knowing. -/
namespace Hn
open PySem PySem.Spec PyProof.Rows L2 Sm
section
variable {S : Sto} {n : Nat} {rows : List (Str × List Str)} {emps gone : List Str}
end
end Hn
/-! Hv2: plain things compared with []; who is moved; open ones by the law's own look. -/
namespace Hn
open PySem PySem.Spec PyProof.Rows L2 Sm
theorem atm_py {t : Dt} (h : Atm t) : ∃ d, toPy t = some d ∧ d.canLay0 = true ∧ d.depth = 0 := by
  rcases h with ⟨s, hs, rfl⟩ | ⟨i, rfl⟩ | ⟨b, rfl⟩ | rfl
  · exact ⟨.str s, rfl, by simp only [PyData.canLay0, hs], by simp only [PyData.depth]⟩
  · exact ⟨.int i, rfl, by simp only [PyData.canLay0], by simp only [PyData.depth]⟩
  · exact ⟨.bool b, rfl, by simp only [PyData.canLay0], by simp only [PyData.depth]⟩
  · exact ⟨.none, rfl, by simp only [PyData.canLay0], by simp only [PyData.depth]⟩
theorem py_all {n : Nat} (h : ∀ t, Ty n t → ∃ d, toPy t = some d ∧ d.canLay0 = true ∧ d.depth ≤ n) : ∀ ys : List Dt, (∀ y ∈ ys, Ty n y) → ∃ ds, toPys ys = some ds ∧ PyData.canLayAll0 ds = true ∧ PyData.depthAll ds ≤ n ∧ ds.length = ys.length
  | [], _ => ⟨[], rfl, by simp only [PyData.canLayAll0], by simp only [PyData.depthAll]; omega, rfl⟩
  | y :: ys, hy => by
    obtain ⟨d, e1, c1, p1⟩ := h y (hy y List.mem_cons_self)
    obtain ⟨ds, e2, c2, p2, l2⟩ := py_all h ys fun z hz => hy z (List.mem_cons_of_mem _ hz)
    refine ⟨d :: ds, ?_, by simp only [PyData.canLayAll0, c1, c2, Bool.and_self], ?_, by rw [List.length_cons, List.length_cons, l2]⟩
    · simp only [toPys, e1, e2]
    · simp only [PyData.depthAll]
      omega
theorem ty_py : ∀ (n : Nat) (t : Dt), Ty n t → ∃ d, toPy t = some d ∧ d.canLay0 = true ∧ d.depth ≤ n
  | 0, t, h => by
    obtain ⟨d, a, b, c⟩ := atm_py h
    exact ⟨d, a, b, by omega⟩
  | n + 1, t, h => by
    rcases h with h | ⟨xs, ht, hz, hx⟩
    · obtain ⟨d, a, b, c⟩ := atm_py h
      exact ⟨d, a, b, by omega⟩
    · obtain ⟨ds, e, c, p, _⟩ := py_all (ty_py n) xs hx
      rcases ht with rfl | rfl
      · refine ⟨.tuple ds, ?_, by simp only [PyData.canLay0, c], ?_⟩
        · show (toPys xs).map PyData.tuple = _
          rw [e]
          rfl
        · simp only [PyData.depth]
          omega
      · refine ⟨.list ds, ?_, by simp only [PyData.canLay0, c], ?_⟩
        · show (toPys xs).map PyData.list = _
          rw [e]
          rfl
        · simp only [PyData.depth]
          omega
theorem eq_nil_ty {n : Nat} {xs : List Dt} (h : ∀ x ∈ xs, Ty n x) (hn : n ≤ 60) (S : Sto) : eqDv S (.d (.lst xs)) (.d (.lst [])) = some xs.isEmpty := by
  obtain ⟨ds, e, c, p, hl⟩ := py_all (ty_py n) xs h
  have e1 : toPy (.lst xs) = some (.list ds) := by
    show (toPys xs).map PyData.list = _
    rw [e]
    rfl
  have s1 : SeqAt.shaped (.list ds) = true := by
    have d1 : PyData.depth (.list ds) ≤ n + 1 := by
      simp only [PyData.depth]
      exact Nat.succ_le_succ p
    unfold SeqAt.shaped
    simp only [PyData.canLay0, c, Bool.true_and, decide_eq_true_eq]
    omega
  show (match toPy (.lst xs), toPy (.lst []) with
    | some x, some y => if SeqAt.shaped x = true ∧ SeqAt.shaped y = true then some (PyData.eqv x y) else none
    | _, _ => none) = _
  rw [e1]
  show (if SeqAt.shaped (.list ds) = true ∧ SeqAt.shaped (.list []) = true then some (PyData.eqv (.list ds) (.list [])) else none) = _
  rw [if_pos ⟨s1, by decide +kernel⟩]
  cases xs with
  | nil =>
    have : ds = [] := List.eq_nil_of_length_eq_zero hl
    subst this
    simp [PyData.eqv, PyData.eqvAll]
  | cons x xs =>
    cases ds with
    | nil => simp at hl
    | cons d ds => simp [PyData.eqv, PyData.eqvAll]
theorem ne_nil {n : Nat} {xs : List Dt} (h : ∀ x ∈ xs, Ty n x) (hn : n ≤ 60) (S : Sto) : pNe (.d (.lst xs)) (.d (.lst [])) S = some (.d (.bl (!xs.isEmpty)), S) := by
  unfold pNe
  rw [eq_nil_ty h hn]
section
variable {rows : List (Str × List Str)} {gone : List Str}
end
end Hn
/-! Hx0: how many ways there are: at most 764. -/
namespace Hn
open PySem PySem.Spec PyProof.Rows L2 Sm
/-- a way over V, in order -/
structure Wy (V : List Str) (m : List (Str × Str)) : Prop where
  dj : m.Pairwise Dj
  ri : m.Pairwise fun a b => ltQ a b = true
  all : ∀ p ∈ m, p.1 ∈ V ∧ p.2 ∈ V ∧ ltS p.1 p.2 = true
end Hn
/-! Hv3: the law's own best, with its order; who is met. -/
namespace Hn
open PySem PySem.Spec PyProof.Rows L2 Sm
section
variable {rows : List (Str × List Str)} {emps gone : List Str}
end
end Hn
/-! Hv4: with whom one swaps in some best choice. -/
namespace Hn
open PySem PySem.Spec PyProof.Rows L2 Sm
section
variable {rows : List (Str × List Str)} {emps gone : List Str}
abbrev two (rows : List (Str × List Str)) (gone : List Str) (a b : Str) : List Str := (nms rows gone).filter fun y => !decide (y ∈ [a, b])
end
end Hn
/-! Hb: the source of draws, and a law from its right half. -/
namespace Hn
open PySem PySem.Spec PyProof.Rows L2 Sm
theorem b2i_small (b : Bool) : -(2 ^ 64) < (if b then (1 : Int) else 0) ∧ (if b then (1 : Int) else 0) < 2 ^ 64 := by
  cases b <;> decide
theorem box_ok {c : Int} (hc0 : 0 ≤ c) (hc1 : c < 1000000000) {cs : List Int} {k : Nat} (hk : k < 100) {S : Sto} : ∃ o : Bo, runB 3 2 (boxM c) [.d (.lst (dI cs)), .d (.int (k : Int))] S = .ok (.loc S.length) (S ++ [o]) ∧ Urn o 1000000 := by
  have hcell : ∃ x : Int, mIf (mTst (m2 pLt (mV 1) (mN pLen (aCons (mV 0) (aNil))))) (m2 pIx (mV 0) (mV 1)) (mC (.int 0)) [some (.d (.lst (dI cs))), some (.d (.int (k : Int))), none] S = .ok (.d (.int x)) S := by
    have hl : pLen [.d (.lst (dI cs))] S = some (.d (.int ((dI cs).length : Int)), S) := by
      simp [pLen, dctAt, seqAt, lstAt]
    by_cases h : k < cs.length
    · refine ⟨cs[k], ?_⟩
      have hx : pIx (.d (.lst (dI cs))) (.d (.int (k : Int))) S = some (.d (.int cs[k]), S) := by
        have : atI ((dI cs).map Dv.d) (k : Int) = some (.d (.int cs[k])) := by
          rw [dI_d]
          exact atI_nat (dvI_get h)
        simp only [pIx, dctAt, seqAt, lstAt, this]
      have hc : pLt (.d (.int (k : Int))) (.d (.int ((dI cs).length : Int))) S = some (.d (.bl true), S) := by
        unfold pLt pCmp dI
        simp [h]
      simp only [mIf_s, mTst_s, m2_s, mN_s, mV_s, aCons_s, aNil_s, List.getElem?_cons_zero, List.getElem?_cons_succ, bind_ok, hl, Sm.lift_some, hc, toB_s, li_some, if_true, hx]
    · refine ⟨0, ?_⟩
      have hc : pLt (.d (.int (k : Int))) (.d (.int ((dI cs).length : Int))) S = some (.d (.bl false), S) := by
        unfold pLt pCmp dI
        simp [h]
      simp only [mIf_s, mTst_s, m2_s, mN_s, mV_s, mC_s, aCons_s, aNil_s, List.getElem?_cons_zero, List.getElem?_cons_succ, bind_ok, hl, Sm.lift_some, hc, toB_s, li_some]
      rfl
  obtain ⟨x, hx⟩ := hcell
  have e1 : mulOk (if x < 0 then -x else x) (if decide (10 ^ 18 ≤ (if x < 0 then -x else x)) = true then 1 else 0) = true := small_mul (b2i_small _)
  have e2 : mulOk 39373 (k : Int) = true := small_mul (by omega)
  have h0 : 0 ≤ x % 2305843009213693951 := Int.emod_nonneg _ (by omega)
  have h1 : x % 2305843009213693951 < 2305843009213693951 := Int.emod_lt_of_pos _ (by omega)
  refine ⟨.lst [.d (.int ((if x < 0 then -x else x) * (if decide (10 ^ 18 ≤ (if x < 0 then -x else x)) = true then 1 else 0))), .d (.int (x % 2305843009213693951 + 39373 * k + c)), .d (.int 0)], ?_, _, _, 0, rfl, ?_, by omega, by omega, by omega, by omega⟩
  · refine runB_rt (ds := [.d (.lst (dI cs)), .d (.int (k : Int))]) rfl ?_
    show boxM c [some (.d (.lst (dI cs))), some (.d (.int (k : Int))), none] S = _
    unfold boxM
    rw [sSeq_s, sSet_s, hx, to_ok, sqz_nx]
    have hp : pPow (.d (.int 10)) (.d (.int 18)) S = some (.d (.int (10 ^ 18)), S) := by
      have hd : decide (0 ≤ (18 : Int) ∧ (18 : Int) ≤ 1000000 ∧ (10 : Int).natAbs < 2 ^ 64) = true := by decide
      show (if decide (0 ≤ (18 : Int) ∧ (18 : Int) ≤ 1000000 ∧ (10 : Int).natAbs < 2 ^ 64) = true then some (Dv.d (.int (10 ^ (18 : Int).toNat)), S) else none) = _
      rw [if_pos hd]
      rfl
    have ha : pAbs [.d (.int x)] S = some (.d (.int (if x < 0 then -x else x)), S) := rfl
    generalize hy : (if x < 0 then -x else x) = y at *
    have hg : pGe (.d (.int y)) (.d (.int (10 ^ 18))) S = some (.d (.bl (decide (10 ^ 18 ≤ y))), S) := rfl
    have hi : pInt [.d (.bl (decide (10 ^ 18 ≤ y)))] S = some (.d (.int (if decide (10 ^ 18 ≤ y) = true then 1 else 0)), S) := rfl
    have hm1 : pMul (.d (.int y)) (.d (.int (if decide (10 ^ 18 ≤ y) = true then 1 else 0))) S = some (.d (.int (y * (if decide (10 ^ 18 ≤ y) = true then 1 else 0))), S) := if_pos e1
    have hm2 : pMul (.d (.int 39373)) (.d (.int (k : Int))) S = some (.d (.int (39373 * k)), S) := show (if mulOk 39373 (k : Int) = true then some (Dv.d (Dt.int (39373 * k)), S) else none) = _ from if_pos e2
    have hii : pInt [.d (.int x)] S = some (.d (.int x), S) := rfl
    have hmd : pMod (.d (.int x)) (.d (.int 2305843009213693951)) S = some (.d (.int (x % 2305843009213693951)), S) := show (if (0 : Int) < 2305843009213693951 then some (Dv.d (Dt.int (x % 2305843009213693951)), S) else none) = _ from if_pos (by omega)
    have ha1 : ∀ i j : Int, pAdd (.d (.int i)) (.d (.int j)) S = some (.d (.int (i + j)), S) := fun _ _ => rfl
    have hB : ∀ a b c : Dv, pLstB [a, b, c] S = some (.loc S.length, S ++ [.lst [a, b, c]]) := fun a b c => if_pos (show 3 ≤ 16777216 by omega)
    have hset : ([some (Dv.d (.lst (dI cs))), some (Dv.d (.int (k : Int))), none] : Sm.Env).set 2 (some (.d (.int x))) = [some (Dv.d (.lst (dI cs))), some (Dv.d (.int (k : Int))), some (.d (.int x))] := rfl
    rw [hset]
    simp only [sRet_s, mN_s, m2_s, mC_s, aCons_s, mV_s, aNil_s, List.getElem?_cons_zero, List.getElem?_cons_succ, bind_ok, ha, Sm.lift_some, hp, hg, hi, hm1, hm2, hii, hmd, ha1, hB, to_ok]
  · refine Int.mul_nonneg (by split <;> omega) (by split <;> omega)
/-- the law from its right half -/
theorem law_loop {c : Int} (hc0 : 0 ≤ c) (hc1 : c < 1000000000) {R : FM} (hR : ∀ (S : Sto) (n : Nat) (o : Bo), S[n]? = some o → Urn o 1000000 → ∃ o', R [.loc n] S = .ok (.d (.bl true)) (S.set n o')) (P : Dt) (cs : List Int) : ∀ (ks : List Nat), (∀ k ∈ ks, k < 100) → ∀ S : Sto, ∃ S', lcL (gN 2) cYes (mF R (aCons (mF (runB 3 2 (boxM c)) (aCons (mV 1) (aCons (mV 2) (aNil)))) (aNil))) [some (.d P), some (.d (.lst (dI cs))), none] (ks.map fun k => Dt.int ((k : Nat) : Int)) S = .ok (ks.map fun _ => Dv.d (.bl true)) S'
  | [], _, S => ⟨S, rfl⟩
  | k :: ks, h, S => by
    obtain ⟨o, e1, u⟩ := box_ok hc0 hc1 (cs := cs) (h k List.mem_cons_self) (S := S)
    obtain ⟨o', e2⟩ := hR (S ++ [o]) S.length o (by rw [List.getElem?_append_right (Nat.le_refl _), Nat.sub_self]; rfl) u
    obtain ⟨S', e3⟩ := law_loop hc0 hc1 hR P cs ks (fun j hj => h j (List.mem_cons_of_mem _ hj)) ((S ++ [o]).set S.length o')
    refine ⟨S', ?_⟩
    show bz (some ([some (Dv.d P), some (Dv.d (.lst (dI cs))), some (Dv.d (.int (k : Int)))] : Sm.Env)) _ = _
    simp only [bz_some, cYes_s, nox_ok, bind_ok, if_true, mF_s, aCons_s, mV_s, aNil_s, List.getElem?_cons_zero, List.getElem?_cons_succ, e1, e2, e3]
    rfl
theorem law_of {c : Int} (hc0 : 0 ≤ c) (hc1 : c < 1000000000) {R : FM} (hR : ∀ (S : Sto) (n : Nat) (o : Bo), S[n]? = some o → Urn o 1000000 → ∃ o', R [.loc n] S = .ok (.d (.bl true)) (S.set n o')) : LawTrue (runB 3 1 (lawM 3 (runB 3 2 (boxM c)) R)) := fun ns hl hb => by
  obtain ⟨cs, ec, hc⟩ := cells_ok (ns := ns) hl (S := [])
  obtain ⟨S', el⟩ := law_loop hc0 hc1 hR (.scr (dI ns)) cs (List.range cs.length) (fun k hk => by have := List.mem_range.mp hk; omega) []
  refine ⟨S', runB_rt (ds := [.d (.scr (dI ns))]) rfl ?_⟩
  show lawM 3 (runB 3 2 (boxM c)) R [some (.d (.scr (dI ns))), none, none] [] = _
  have hit : iRg rg1 (aCons (mN pLen (aCons (mV 1) (aNil))) (aNil)) [some (.d (.scr (dI ns))), some (.d (.lst (dI cs))), none] [] = .ok ((List.range cs.length).map fun k => Dt.int ((k : Nat) : Int)) [] := by
    have hl2 : pLen [.d (.lst (dI cs))] [] = some (.d (.int (cs.length : Int)), []) := by
      simp [pLen, dctAt, seqAt, lstAt, dI]
    refine iRg_ok (ds := [.d (.int (cs.length : Int))]) (by simp only [aCons_s, mN_s, mV_s, aNil_s, List.getElem?_cons_zero, List.getElem?_cons_succ, bind_ok, hl2, Sm.lift_some]) ?_
    rw [q_rg (by omega)]
    unfold rgL
    simp
  have hcs : F__law_cells [.d (.scr (dI ns)), .d (.int 3)] [] = .ok (.d (.lst (dI cs))) [] := ec
  have s1 : sSet 1 (mF F__law_cells (aCons (mV 0) (aCons (mC (.int 3)) (aNil)))) [some (.d (.scr (dI ns))), none, none] [] = .nx [some (.d (.scr (dI ns))), some (.d (.lst (dI cs))), none] [] := by
    simp only [sSet_s, mF_s, aCons_s, mV_s, mC_s, aNil_s, List.getElem?_cons_zero, List.getElem?_cons_succ, bind_ok, hcs, to_ok]
    rfl
  have hlen : ((List.range cs.length).map fun k => Dt.int ((k : Nat) : Int)).length ≤ 16777216 := by
    rw [List.length_map, List.length_range]
    omega
  have l1 : mLcI [2] (iRg rg1 (aCons (mN pLen (aCons (mV 1) (aNil))) (aNil))) (gN 2) cYes (mF R (aCons (mF (runB 3 2 (boxM c)) (aCons (mV 1) (aCons (mV 2) (aNil)))) (aNil))) [some (.d (.scr (dI ns))), some (.d (.lst (dI cs))), none] [] = .ok ((List.range cs.length).map fun _ => Dv.d (.bl true)) S' := by
    rw [mLcI_s, hit, bind_ok, if_pos hlen]
    exact el
  have p1 : pLst ((List.range cs.length).map fun _ => Dv.d (.bl true)) S' = some (.d (.lst ((List.range cs.length).map fun _ => .bl true)), S') := by
    have e : ((List.range cs.length).map fun _ => Dv.d (.bl true)) = ((List.range cs.length).map fun _ => Dt.bl true).map Dv.d := by
      rw [List.map_map]
      rfl
    unfold pLst
    rw [e, pures_d]
    exact if_pos (by rw [List.length_map, List.length_range]; omega)
  have p2 : pAll [.d (.lst ((List.range cs.length).map fun _ => .bl true))] S' = some (.d (.bl true), S') := by
    have hb : ∀ l : List Nat, blsOf (l.map fun _ => Dt.bl true) = some (l.map fun _ => true) := fun l => by
      induction l with
      | nil => rfl
      | cons a l ih =>
        show (blsOf (l.map fun _ => Dt.bl true)).map (true :: ·) = _
        rw [ih]
        rfl
    have e : (lstT S' (.d (.lst ((List.range cs.length).map fun _ => .bl true)))).bind blsOf = some ((List.range cs.length).map fun _ => true) := by
      show ((some (((List.range cs.length).map fun _ => Dt.bl true).map Dv.d)).bind pures).bind blsOf = _
      rw [Option.bind_some, pures_d, Option.bind_some, hb]
    unfold pAll
    simp only [e]
    simp
  unfold lawM
  rw [sSeq_s, s1, sqz_nx]
  simp only [sRet_s, mN_s, aCons_s, aNil_s, l1, bind_ok, p1, p2, Sm.lift_some, to_ok]
end Hn
/-! Hx1: walking on from statement to statement; by hand, by the kernel; the turns of a law. -/
namespace Hn
open PySem PySem.Spec PyProof.Rows L2 Sm
theorem wipe0 {ρ : Sm.Env} : wipeE ρ [] = ρ := rfl
theorem wipe1 {ρ : Sm.Env} {v : Nat} {vs : List Nat} : wipeE ρ (v :: vs) = (wipeE ρ vs).set v none := rfl
theorem setA0 {ρ : Sm.Env} : setAll [] [] ρ = ρ := rfl
theorem setA1 {ρ : Sm.Env} {i : Nat} {is : List Nat} {d : Dv} {ds : List Dv} : setAll (i :: is) (d :: ds) ρ = setAll is ds (ρ.set i (some d)) := rfl
def okT (r : Rz Dv) : Bool := match r with
  | .ok (.d (.bl b)) _ => b
  | _ => false
/-- a check without arguments that the kernel has run -/
theorem hand_of {F : FM} (h : okT (iso F [] []) = true) (S : Sto) : iso F [] S = .ok (.d (.bl true)) S := by
  have e : ∀ S, iso F [] S = (match F [] [] with
      | .ok (.d t) _ => Rz.ok (Dv.d t) S
      | .er c t _ => .er c t S
      | _ => .bad) := fun S => rfl
  rw [e] at h ⊢
  cases hF : F [] [] with
  | ok d S1 =>
    rw [hF] at h
    cases d with
    | d t =>
      cases t with
      | bl b =>
        have : b = true := h
        subst this
        rfl
      | _ => cases h
    | loc n => cases h
  | er c t S1 =>
    rw [hF] at h
    cases h
  | bad =>
    rw [hF] at h
    cases h
/-- what a statement leads to -/
def Wq (Q : Sz → Prop) (r : Sz) : Prop := Q r
section
variable {Q : Sz → Prop} {a b c : SM} {ρ ρ1 ρ2 : Sm.Env} {S S1 S2 : Sto} {r : Sz} {g : GM} {it : M (List Dt)} {ts : List Dt} {ζ : Type}
theorem Wq.seq (h : a ρ S = .nx ρ1 S1) (k : Wq Q (b ρ1 S1)) : Wq Q (sSeq a b ρ S) := by
  unfold Wq at *
  rw [sSeq_s, h, sqz_nx]
  exact k
theorem Wq.one (h : a ρ S = r) (k : Q r) : Wq Q (a ρ S) := by
  unfold Wq
  rw [h]
  exact k
theorem st_set {i : Nat} {m : M Dv} {d : Dv} (h : m ρ S = .ok d S1) : sSet i m ρ S = .nx (ρ.set i (some d)) S1 := by
  rw [sSet_s, h, to_ok]
theorem st_ret {m : M Dv} {d : Dv} (h : m ρ S = .ok d S1) : sRet m ρ S = .rt d S1 := by
  rw [sRet_s, h, to_ok]
theorem st_pars {is : List Nat} {m : M (List Dv)} {ds : List Dv} (h : m ρ S = .ok ds S1) (hl : ds.length = is.length) : sPars is m ρ S = .nx (setAll is ds ρ) S1 := by
  show (m ρ S).to ρ _ = _
  rw [h, to_ok, if_pos hl]
theorem st_if_t {k : M Bool} (h : k ρ S = .ok true S1) (e : a ρ S1 = r) : sIf k a b ρ S = r := by
  rw [sIf_s, h, to_ok, if_pos rfl, e]
theorem st_if_f {k : M Bool} (h : k ρ S = .ok false S1) (e : b ρ S1 = r) : sIf k a b ρ S = r := by
  rw [sIf_s, h, to_ok, if_neg (by decide), e]
theorem ex_mN {p : PN} {x : M (List Dv)} {ds : List Dv} {r : Dv} (hx : x ρ S = .ok ds S1) (hp : p ds S1 = some (r, S2)) : mN p x ρ S = .ok r S2 := by
  rw [mN_s, hx, bind_ok, hp, Sm.lift_some]
theorem ex_mF {F : FM} {x : M (List Dv)} {ds : List Dv} {r : Rz Dv} (hx : x ρ S = .ok ds S1) (hp : F ds S1 = r) : mF F x ρ S = r := by
  rw [mF_s, hx, bind_ok, hp]
theorem ex_a1 {x : M Dv} {d : Dv} (hx : x ρ S = .ok d S1) : aCons x aNil ρ S = .ok [d] S1 := by
  rw [aCons_s, hx, bind_ok, aNil_s, bind_ok]
theorem st_for (hi : it ρ S = .ok ts S1) (h : forL g b ts ρ S1 = r) : sFor it g b ρ S = r := by
  rw [sFor_s, hi, to_ok, h]
end
end Hn
/-! Hw1: a drawn sheet, in the other order: its steps. -/
namespace Hw
open PySem PySem.Spec PyProof.Rows L2 Sm Hn
abbrev eT (P1 P2 P5 : Dt) (L : List Str) (n : Nat) (folk emp : List Str) (st wd : Int) (z11 z12 z13 z14 : Option Dv) : Sm.Env :=
  [some (.loc 0), some (.d P1), some (.d P2), some (.d (.lst (L.map .str))), some (.d (.int (n : Int))), some (.d P5), some (.loc 1), some (.d (.lst (folk.map .str))), some (.d (.lst (emp.map .str))), some (.d (.int st)), some (.d (.int wd)), z11, z12, z13, z14, none, none, none]
def tAppA : SM := sDrop (mLm pAppend (m2 pIx (mV 6) (m2 pIx (mV 7) (mV 11))) (aCons (mV 13) (aNil)))
def tAppB : SM := sDrop (mLm pAppend (m2 pIx (mV 6) (mV 13)) (aCons (m2 pIx (mV 7) (mV 11)) (aNil)))
def tB : SM := sSeq (sSet 14 (mF F__law_take (aCons (mV 0) (aCons (mV 10) (aNil)))))
    (sSeq (sIf (cOr (mTst (m2 pEq (mV 14) (mC (.int 0)))) (cAnd (mTst (m2 pEq (mV 14) (mC (.int 1)))) (mTst (m2 pGt (mV 9) (mC (.int 0)))))) tAppA (sNil))
    (sIf (cOr (mTst (m2 pEq (mV 14) (mC (.int 0)))) (cAnd (mTst (m2 pEq (mV 14) (mC (.int 2)))) (mTst (m2 pGt (mV 9) (mC (.int 0)))))) tAppB (sNil)))
def tC : SM := sFor (iSeq (mSl pSl (mV 7) (oPt (m2 pAdd (mV 11) (mC (.int 1)))) (oNo))) (gN 13) tB
def tFil : M Dv := mN pLst (mLcI [16] (iSeq (mFrz (m2 pIx (mV 6) (mV 17)))) (gN 16) (mTst (m2 pNe (mV 16) (mV 17))) (mV 16))
def tRow : M Dv := mN pTup (aCons (mV 17) (aCons (mN pTuple (aCons (m1 pSortSet tFil) (aNil))) (aNil)))
abbrev eR (P1 P2 P5 : Dt) (L : List Str) (n : Nat) (folk emp : List Str) (st wd : Int) (z11 z12 z13 z14 z16 z17 : Option Dv) : Sm.Env :=
  [some (.loc 0), some (.d P1), some (.d P2), some (.d (.lst (L.map .str))), some (.d (.int (n : Int))), some (.d P5), some (.loc 1), some (.d (.lst (folk.map .str))), some (.d (.lst (emp.map .str))), some (.d (.int st)), some (.d (.int wd)), z11, z12, z13, z14, none, z16, z17]
section
variable {P1 P2 P5 : Dt} {L : List Str} {n : Nat} {folk emp : List Str} {st wd : Int} {z11 z12 z13 z14 z16 z17 : Option Dv}
theorem fil_loop {s : Str} (hs : s ∈ pool) : ∀ (l : List Str), (∀ x ∈ l, x ∈ pool) → ∀ S : Sto, lcL (gN 16) (mTst (m2 pNe (mV 16) (mV 17))) (mV 16) (eR P1 P2 P5 L n folk emp st wd z11 z12 z13 z14 none (some (.d (.str s)))) (l.map .str) S = .ok (((l.filter fun x => !decide (x = s)).map .str).map .d) S
  | [], _, S => rfl
  | x :: l, h, S => by
    have ih := fil_loop hs l (fun y hy => h y (List.mem_cons_of_mem _ hy)) S
    have hne : pNe (.d (.str x)) (.d (.str s)) S = some (.d (.bl (!decide (x = s))), S) := ne_s (pool_ok x (h x List.mem_cons_self)) (pool_ok s hs)
    have hc : mTst (m2 pNe (mV 16) (mV 17)) (eR P1 P2 P5 L n folk emp st wd z11 z12 z13 z14 (some (.d (.str x))) (some (.d (.str s)))) S = .ok (!decide (x = s)) S := by
      simp only [mTst_s, m2_s, mV_s, List.getElem?_cons_zero, List.getElem?_cons_succ, bind_ok, hne, Sm.lift_some, toB_s, li_some]
    by_cases e : x = s
    · rw [List.map_cons, lc_no (ρ1 := eR P1 P2 P5 L n folk emp st wd z11 z12 z13 z14 (some (.d (.str x))) (some (.d (.str s)))) rfl (by rw [hc]; simp [e]) ih]
      simp [e]
    · rw [List.map_cons, lc_yes (ρ1 := eR P1 P2 P5 L n folk emp st wd z11 z12 z13 z14 (some (.d (.str x))) (some (.d (.str s)))) rfl (by rw [hc]; simp [e]) (show mV 16 _ S = .ok (.d (.str x)) S from rfl) ih]
      simp [e]
theorem row_ok {o : Bo} {bs : List (List Str)} {k : Nat} {S : Sto} {s : Str} {l : List Str} (K : Kept folk bs o k S) (nd : folk.Nodup) (hs : folk[k]? = some s) (hb : bs[k]? = some l) (pf : ∀ x ∈ folk, x ∈ pool) (g : Gd folk 1000 bs) :
    tRow (eR P1 P2 P5 L n folk emp st wd z11 z12 z13 z14 z16 (some (.d (.str s)))) S = .ok (.d (row (s, ws s l))) (S.set (2 + k) .dead) := by
  obtain ⟨g1, g2⟩ := g l (List.mem_of_getElem? hb)
  have hsp := pf s (List.mem_of_getElem? hs)
  have e1 : pIx (.loc 1) (.d (.str s)) S = some (.loc (2 + k), S) := by
    have := dlook_at (f := Dv.loc) (a := 2) nd hs
    unfold pIx
    have d : dctAt S (.loc 1) = some (kS folk, Hn.locs folk.length) := by
      unfold dctAt
      simp only [K.o1]
    rw [d]
    show (match dlook (kS folk) (Hn.locs folk.length) (.inr s) with
      | some x => some (x, S)
      | none => none) = _
    rw [this]
  have e2 : frz (.loc (2 + k)) S = some (.d (.lst (l.map .str)), S.set (2 + k) .dead) := by
    unfold frz
    simp only [K.bx k l (Nat.le_refl _) hb, pures_bx]
  have it : iSeq (mFrz (m2 pIx (mV 6) (mV 17))) (eR P1 P2 P5 L n folk emp st wd z11 z12 z13 z14 z16 (some (.d (.str s)))) S = .ok (l.map .str) (S.set (2 + k) .dead) := by
    simp only [iSeq_s, mFrz_s, m2_s, mV_s, List.getElem?_cons_zero, List.getElem?_cons_succ, bind_ok, e1, e2, Sm.lift_some]
    rfl
  have lc := fil_loop (P1 := P1) (P2 := P2) (P5 := P5) (L := L) (n := n) (folk := folk) (emp := emp) (st := st) (wd := wd) (z11 := z11) (z12 := z12) (z13 := z13) (z14 := z14) hsp l g2 (S.set (2 + k) .dead)
  have hfl : (l.filter fun x => !decide (x = s)).length ≤ 1000 := Nat.le_trans (List.length_filter_le _ _) g1
  have lc2 : mLcI [16] (iSeq (mFrz (m2 pIx (mV 6) (mV 17)))) (gN 16) (mTst (m2 pNe (mV 16) (mV 17))) (mV 16) (eR P1 P2 P5 L n folk emp st wd z11 z12 z13 z14 z16 (some (.d (.str s)))) S = .ok (((l.filter fun x => !decide (x = s)).map .str).map .d) (S.set (2 + k) .dead) :=
    mLcI_ok it (by rw [List.length_map]; omega) lc
  have e3 : pLst (((l.filter fun x => !decide (x = s)).map Dt.str).map .d) (S.set (2 + k) .dead) = some (.d (.lst ((l.filter fun x => !decide (x = s)).map .str)), S.set (2 + k) .dead) := pLst_d (by rw [List.length_map]; omega)
  have e4 : pSortSet (.d (.lst ((l.filter fun x => !decide (x = s)).map .str))) (S.set (2 + k) .dead) = some (.d (.lst ((ws s l).map .str)), S.set (2 + k) .dead) := by
    unfold pSortSet
    have : (itemsOf (S.set (2 + k) .dead) (.d (.lst ((l.filter fun x => !decide (x = s)).map .str)))).bind strsOf = some (l.filter fun x => !decide (x = s)) := by
      unfold itemsOf
      simp only [dctAt, seqAt, lstAt, pures_d, Option.bind_some, strsOf_map]
    rw [this]
    exact if_pos (by omega)
  have e5 : pTup [.d (.str s), .d (.tup ((ws s l).map .str))] (S.set (2 + k) .dead) = some (.d (row (s, ws s l)), S.set (2 + k) .dead) := rfl
  unfold tRow tFil
  simp only [mN_s, aCons_s, m1_s, mV_s, aNil_s, List.getElem?_cons_zero, List.getElem?_cons_succ, bind_ok, lc2, e3, e4, pTuple_lst, e5, Sm.lift_some]
end
end Hw
/-! Hw2: a drawn sheet, in the other order. -/
namespace Hw
open PySem PySem.Spec PyProof.Rows L2 Sm Hn
end Hw
/-! Hw3: a woven sheet. -/
namespace Hw
open PySem PySem.Spec PyProof.Rows L2 Sm Hn
section
variable {ln : List Str} {wd : Int}
/-- the pairs so far -/
structure Wv (ln : List Str) (k : Nat) (ps : List (Str × Str)) : Prop where
  nd : ps.Nodup
  mem : ∀ p ∈ ps, p.1 ∈ ln.take k ∧ p.2 ∈ ln ∧ ltS p.1 p.2 = true
  z : ps.length ≤ 8 * k
end
end Hw
/-! Hx2: what most turns of the swaps family need. -/
namespace Hn
open PySem PySem.Spec PyProof.Rows L2 Sm
section
variable {rows : List (Str × List Str)} {emps : List Str}
theorem tr_b (b : Bool) (S : Sto) : pTru (.d (.bl b)) S = some b := rfl
theorem ty_names {l : List Str} (h : ∀ x ∈ l, PyData.strOk x = true) (hz : l.length ≤ 1000) : Ty 1 (tupS l) := .inr ⟨_, .inl rfl, by rw [List.length_map]; exact hz, fun x hx => by
  obtain ⟨s, hs, rfl⟩ := List.mem_map.mp hx
  exact .inl ⟨s, h s hs, rfl⟩⟩
end
end Hn
/-! Hx3: == and in on things without bools. -/
namespace Hn
open PySem PySem.Spec PyProof.Rows L2 Sm
def Atz (t : Dt) : Prop := (∃ s, PyData.strOk s = true ∧ t = .str s) ∨ (∃ i : Int, t = .int i) ∨ t = .non
/-- texts, ints, None, in lists and tuples of nesting at most n -/
def Tz : Nat → Dt → Prop
  | 0, t => Atz t
  | n + 1, t => Atz t ∨ ∃ xs, (t = .tup xs ∨ t = .lst xs) ∧ ∀ x ∈ xs, Tz n x
theorem Tz.up : ∀ {n : Nat} {t : Dt}, Tz n t → Tz (n + 1) t
  | 0, t, h => .inl h
  | n + 1, t, h => h.imp id fun ⟨xs, a, b⟩ => ⟨xs, a, fun x hx => (b x hx).up⟩
theorem Tz.ups {n m : Nat} {t : Dt} (h : Tz n t) (hm : n ≤ m) : Tz m t := by
  induction hm with
  | refl => exact h
  | step _ ih => exact ih.up
theorem Tz.at {n : Nat} {t : Dt} (h : Tz n t) : Atz t ∨ ∃ k xs, n = k + 1 ∧ (t = .tup xs ∨ t = .lst xs) ∧ ∀ x ∈ xs, Tz k x := by
  cases n with
  | zero => exact .inl h
  | succ n => exact h.imp id fun ⟨xs, a, b⟩ => ⟨n, xs, rfl, a, b⟩
theorem Tz.str {s : Str} (h : PyData.strOk s = true) : Tz 0 (.str s) := .inl ⟨s, h, rfl⟩
theorem Tz.int (i : Int) : Tz 0 (.int i) := .inr (.inl ⟨i, rfl⟩)
theorem Tz.non : Tz 0 .non := .inr (.inr rfl)
theorem Tz.tup {n : Nat} {xs : List Dt} (h : ∀ x ∈ xs, Tz n x) : Tz (n + 1) (.tup xs) := .inr ⟨xs, .inl rfl, h⟩
theorem Tz.lst {n : Nat} {xs : List Dt} (h : ∀ x ∈ xs, Tz n x) : Tz (n + 1) (.lst xs) := .inr ⟨xs, .inr rfl, h⟩
theorem Tz.pr {p : Str × Str} (h : okP p) : Tz 1 (prD p) := .tup fun x hx => by
  simp only [List.mem_cons, List.not_mem_nil, or_false] at hx
  rcases hx with rfl | rfl
  · exact .str h.1
  · exact .str h.2
theorem Tz.names {l : List Str} (h : ∀ x ∈ l, PyData.strOk x = true) : Tz 1 (tupS l) := .tup fun x hx => by
  obtain ⟨s, hs, rfl⟩ := List.mem_map.mp hx
  exact .str (h s hs)
theorem Tz.namesL {l : List Str} (h : ∀ x ∈ l, PyData.strOk x = true) : Tz 1 (lstS l) := .lst fun x hx => by
  obtain ⟨s, hs, rfl⟩ := List.mem_map.mp hx
  exact .str (h s hs)
/-- as data of the language -/
theorem toPys_enc : ∀ {xs : List Dt}, (∀ x ∈ xs, toPy x = some (encT x)) → toPys xs = some (xs.map encT)
  | [], _ => rfl
  | x :: xs, h => by
    have h1 := h x List.mem_cons_self
    have h2 := toPys_enc (xs := xs) fun y hy => h y (List.mem_cons_of_mem _ hy)
    show (match toPy x, toPys xs with
      | some a, some b => some (a :: b)
      | _, _ => none) = _
    rw [h1, h2]
    rfl
theorem enc_tup {xs : List Dt} (h : toPys xs = some (xs.map encT)) : toPy (.tup xs) = some (.tuple (xs.map encT)) ∧ encT (.tup xs) = .tuple (xs.map encT) := by
  have e : toPy (.tup xs) = some (.tuple (xs.map encT)) := by
    show (toPys xs).map PyData.tuple = _
    rw [h]
    rfl
  exact ⟨e, by unfold encT; rw [e]; rfl⟩
theorem enc_lst {xs : List Dt} (h : toPys xs = some (xs.map encT)) : toPy (.lst xs) = some (.list (xs.map encT)) ∧ encT (.lst xs) = .list (xs.map encT) := by
  have e : toPy (.lst xs) = some (.list (xs.map encT)) := by
    show (toPys xs).map PyData.list = _
    rw [h]
    rfl
  exact ⟨e, by unfold encT; rw [e]; rfl⟩
theorem tz_py : ∀ {n : Nat} {t : Dt}, Tz n t → toPy t = some (encT t) ∧ (encT t).canLay0 = true ∧ (encT t).depth ≤ n := by
  have atm : ∀ {n : Nat} {t : Dt}, Atz t → toPy t = some (encT t) ∧ (encT t).canLay0 = true ∧ (encT t).depth ≤ n := fun {n t} h => by
    rcases h with ⟨s, hs, rfl⟩ | ⟨i, rfl⟩ | rfl
    · exact ⟨rfl, by show (PyData.str s).canLay0 = true; simp only [PyData.canLay0, hs], by show (PyData.str s).depth ≤ n; simp only [PyData.depth]; omega⟩
    · exact ⟨rfl, by show (PyData.int i).canLay0 = true; simp only [PyData.canLay0], by show (PyData.int i).depth ≤ n; simp only [PyData.depth]; omega⟩
    · exact ⟨rfl, by show PyData.none.canLay0 = true; simp only [PyData.canLay0], by show PyData.none.depth ≤ n; simp only [PyData.depth]; omega⟩
  intro n
  induction n with
  | zero => exact fun h => atm h
  | succ n ih =>
    intro t h
    rcases h with h | ⟨xs, ht, hx⟩
    · exact atm h
    · have all : ∀ ys : List Dt, (∀ y ∈ ys, Tz n y) → PyData.canLayAll0 (ys.map encT) = true ∧ PyData.depthAll (ys.map encT) ≤ n := by
        intro ys
        induction ys with
        | nil => exact fun _ => ⟨by simp only [List.map_nil, PyData.canLayAll0], by simp only [List.map_nil, PyData.depthAll]; omega⟩
        | cons y ys ihy =>
          intro hy
          obtain ⟨_, c1, p1⟩ := ih (hy y List.mem_cons_self)
          obtain ⟨c2, p2⟩ := ihy fun z hz => hy z (List.mem_cons_of_mem _ hz)
          refine ⟨by simp only [List.map_cons, PyData.canLayAll0, c1, c2, Bool.and_self], ?_⟩
          simp only [List.map_cons, PyData.depthAll]
          omega
      obtain ⟨c, p⟩ := all xs hx
      have e := toPys_enc fun x hm => (ih (hx x hm)).1
      rcases ht with rfl | rfl
      · obtain ⟨e1, e2⟩ := enc_tup e
        rw [e2]
        exact ⟨e1, by simp only [PyData.canLay0, c], by simp only [PyData.depth]; omega⟩
      · obtain ⟨e1, e2⟩ := enc_lst e
        rw [e2]
        exact ⟨e1, by simp only [PyData.canLay0, c], by simp only [PyData.depth]; omega⟩
theorem tz_shaped {n : Nat} {t : Dt} (h : Tz n t) (hn : n ≤ 63) : SeqAt.shaped (encT t) = true := by
  obtain ⟨_, c, p⟩ := tz_py h
  unfold SeqAt.shaped
  simp only [c, Bool.true_and, decide_eq_true_eq]
  omega
theorem eqv_tz : ∀ {n m : Nat} {t u : Dt}, Tz n t → Tz m u → (PyData.eqv (encT t) (encT u) = true ↔ t = u) := by
  have sq : ∀ {n m : Nat} {t : Dt} {xs : List Dt}, Atz t → (∀ x ∈ xs, Tz m x) → PyData.eqv (encT t) (encT (.tup xs)) = false ∧ PyData.eqv (encT t) (encT (.lst xs)) = false ∧ PyData.eqv (encT (.tup xs)) (encT t) = false ∧ PyData.eqv (encT (.lst xs)) (encT t) = false := fun {n m t xs} h hx => by
    have e := toPys_enc fun x hm => (tz_py (hx x hm)).1
    rw [(enc_tup e).2, (enc_lst e).2]
    rcases h with ⟨s, hs, rfl⟩ | ⟨i, rfl⟩ | rfl
    · rw [show encT (.str s) = .str s from rfl]; simp [PyData.eqv]
    · rw [show encT (.int i) = .int i from rfl]; simp [PyData.eqv]
    · rw [show encT .non = .none from rfl]; simp [PyData.eqv]
  intro n
  induction n with
  | zero =>
    intro m t u h h2
    have h' : Atz t := h
    rcases h2.at with h2 | ⟨k, ys, _, hu, hy⟩
    · rcases h' with ⟨s, hs, rfl⟩ | ⟨i, rfl⟩ | rfl <;> rcases h2 with ⟨s2, hs2, rfl⟩ | ⟨i2, rfl⟩ | rfl
      · rw [show encT (.str s) = .str s from rfl, show encT (.str s2) = .str s2 from rfl]; simp [PyData.eqv]
      · rw [show encT (.str s) = .str s from rfl, show encT (.int i2) = .int i2 from rfl]; simp [PyData.eqv]
      · rw [show encT (.str s) = .str s from rfl, show encT .non = .none from rfl]; simp [PyData.eqv]
      · rw [show encT (.int i) = .int i from rfl, show encT (.str s2) = .str s2 from rfl]; simp [PyData.eqv]
      · rw [show encT (.int i) = .int i from rfl, show encT (.int i2) = .int i2 from rfl]; simp [PyData.eqv]
      · rw [show encT (.int i) = .int i from rfl, show encT .non = .none from rfl]; simp [PyData.eqv]
      · rw [show encT .non = .none from rfl, show encT (.str s2) = .str s2 from rfl]; simp [PyData.eqv]
      · rw [show encT .non = .none from rfl, show encT (.int i2) = .int i2 from rfl]; simp [PyData.eqv]
      · rw [show encT .non = .none from rfl]; simp [PyData.eqv]
    · have := sq (n := 0) h' hy
      rcases hu with rfl | rfl
      · rw [this.1]
        refine ⟨fun z => (by cases z), fun z => ?_⟩
        subst z
        rcases h' with ⟨s, hs, z⟩ | ⟨i, z⟩ | z <;> cases z
      · rw [this.2.1]
        refine ⟨fun z => (by cases z), fun z => ?_⟩
        subst z
        rcases h' with ⟨s, hs, z⟩ | ⟨i, z⟩ | z <;> cases z
  | succ n ih =>
    intro m t u h h2
    rcases h with h | ⟨xs, ht, hx⟩
    · -- an atom
      have h' : Atz t := h
      rcases h2.at with h2 | ⟨k, ys, _, hu, hy⟩
      · rcases h' with ⟨s, hs, rfl⟩ | ⟨i, rfl⟩ | rfl <;> rcases h2 with ⟨s2, hs2, rfl⟩ | ⟨i2, rfl⟩ | rfl
        · rw [show encT (.str s) = .str s from rfl, show encT (.str s2) = .str s2 from rfl]; simp [PyData.eqv]
        · rw [show encT (.str s) = .str s from rfl, show encT (.int i2) = .int i2 from rfl]; simp [PyData.eqv]
        · rw [show encT (.str s) = .str s from rfl, show encT .non = .none from rfl]; simp [PyData.eqv]
        · rw [show encT (.int i) = .int i from rfl, show encT (.str s2) = .str s2 from rfl]; simp [PyData.eqv]
        · rw [show encT (.int i) = .int i from rfl, show encT (.int i2) = .int i2 from rfl]; simp [PyData.eqv]
        · rw [show encT (.int i) = .int i from rfl, show encT .non = .none from rfl]; simp [PyData.eqv]
        · rw [show encT .non = .none from rfl, show encT (.str s2) = .str s2 from rfl]; simp [PyData.eqv]
        · rw [show encT .non = .none from rfl, show encT (.int i2) = .int i2 from rfl]; simp [PyData.eqv]
        · rw [show encT .non = .none from rfl]; simp [PyData.eqv]
      · have := sq (n := 0) h' hy
        rcases hu with rfl | rfl
        · rw [this.1]
          refine ⟨fun z => (by cases z), fun z => ?_⟩
          subst z
          rcases h' with ⟨s, hs, z⟩ | ⟨i, z⟩ | z <;> cases z
        · rw [this.2.1]
          refine ⟨fun z => (by cases z), fun z => ?_⟩
          subst z
          rcases h' with ⟨s, hs, z⟩ | ⟨i, z⟩ | z <;> cases z
    · rcases h2.at with h2 | ⟨k, ys, hm, hu, hy⟩
      · have := sq (n := 0) h2 hx
        rcases ht with rfl | rfl
        · rw [this.2.2.1]
          refine ⟨fun z => (by cases z), fun z => ?_⟩
          subst z
          rcases h2 with ⟨s, hs, z⟩ | ⟨i, z⟩ | z <;> cases z
        · rw [this.2.2.2]
          refine ⟨fun z => (by cases z), fun z => ?_⟩
          subst z
          rcases h2 with ⟨s, hs, z⟩ | ⟨i, z⟩ | z <;> cases z
      · have all : ∀ (xs ys : List Dt), (∀ x ∈ xs, Tz n x) → (∀ y ∈ ys, Tz k y) → (PyData.eqvAll (xs.map encT) (ys.map encT) = true ↔ xs = ys) := by
          intro xs
          induction xs with
          | nil =>
            intro ys _ _
            cases ys with
            | nil => simp [PyData.eqvAll]
            | cons y ys => simp [PyData.eqvAll]
          | cons x xs ihx =>
            intro ys h1 h2
            cases ys with
            | nil => simp [PyData.eqvAll]
            | cons y ys =>
              rw [List.map_cons, List.map_cons, PyData.eqvAll, Bool.and_eq_true, ih (h1 x List.mem_cons_self) (h2 y List.mem_cons_self), ihx ys (fun z hz => h1 z (List.mem_cons_of_mem _ hz)) (fun z hz => h2 z (List.mem_cons_of_mem _ hz)), List.cons.injEq]
        have e1 := toPys_enc fun x hm => (tz_py (hx x hm)).1
        have e2 := toPys_enc fun x hm => (tz_py (hy x hm)).1
        have a := all xs ys hx hy
        rcases ht with rfl | rfl <;> rcases hu with rfl | rfl
        · rw [(enc_tup e1).2, (enc_tup e2).2, PyData.eqv, a]; simp
        · rw [(enc_tup e1).2, (enc_lst e2).2]; simp [PyData.eqv]
        · rw [(enc_lst e1).2, (enc_tup e2).2]; simp [PyData.eqv]
        · rw [(enc_lst e1).2, (enc_lst e2).2, PyData.eqv, a]; simp
theorem eqDv_tz {n m : Nat} {t u : Dt} {P : Prop} [Decidable P] (h1 : Tz n t) (h2 : Tz m u) (hn : n ≤ 63) (hm : m ≤ 63) (hp : t = u ↔ P) (S : Sto) : eqDv S (.d t) (.d u) = some (decide P) := by
  have e : PyData.eqv (encT t) (encT u) = decide P := by
    have := (eqv_tz h1 h2).trans hp
    cases h : decide P with
    | true => exact this.mpr (of_decide_eq_true h)
    | false =>
      cases h3 : PyData.eqv (encT t) (encT u) with
      | false => rfl
      | true => exact absurd (this.mp h3) (of_decide_eq_false h)
  show (match toPy t, toPy u with
    | some x, some y => if SeqAt.shaped x = true ∧ SeqAt.shaped y = true then some (PyData.eqv x y) else none
    | _, _ => none) = _
  rw [(tz_py h1).1, (tz_py h2).1]
  show (if _ then some (PyData.eqv (encT t) (encT u)) else none) = _
  rw [if_pos ⟨tz_shaped h1 hn, tz_shaped h2 hm⟩, e]
theorem eq_tz {n m : Nat} {t u : Dt} {P : Prop} [Decidable P] (h1 : Tz n t) (h2 : Tz m u) (hn : n ≤ 63) (hm : m ≤ 63) (hp : t = u ↔ P) (S : Sto) : pEq (.d t) (.d u) S = some (.d (.bl (decide P)), S) := by
  unfold pEq
  rw [eqDv_tz h1 h2 hn hm hp]
theorem ne_tz {n m : Nat} {t u : Dt} {P : Prop} [Decidable P] (h1 : Tz n t) (h2 : Tz m u) (hn : n ≤ 63) (hm : m ≤ 63) (hp : t = u ↔ P) (S : Sto) : pNe (.d t) (.d u) S = some (.d (.bl (!decide P)), S) := by
  unfold pNe
  rw [eqDv_tz h1 h2 hn hm hp]
end Hn
/-! Hx4: fresh lists, snapshots. -/
namespace Hn
open PySem PySem.Spec PyProof.Rows L2 Sm
section
variable {F : FM} {ts xs : List Dt} {S S1 : Sto} {n : Nat}
/-- boxes within a box, as data -/
theorem deep_d {t : Dt} {k : Nat} : deepR S k (.d t) = some t := by
  cases k <;> rfl
theorem opts_d {k : Nat} : ∀ xs : List Dt, opts ((xs.map Dv.d).map (deepR S k)) = some xs
  | [] => rfl
  | x :: xs => by
    rw [List.map_cons, List.map_cons, deep_d]
    show (opts ((xs.map Dv.d).map (deepR S k))).map (x :: ·) = _
    rw [opts_d xs]
    rfl
theorem deep_l {k i : Nat} {xs : List Dt} (h : S[i]? = some (.lst (xs.map .d))) : deepR S (k + 1) (.loc i) = some (.lst xs) := by
  show (match S[i]? with
    | some (Bo.lst xs) => (opts (xs.map (deepR S k))).map Dt.lst
    | _ => none) = _
  rw [h]
  show (opts ((xs.map Dv.d).map (deepR S k))).map Dt.lst = _
  rw [opts_d]
  rfl
theorem snap_ok {ds : List Dv} {t : Dt} (h : opts (ds.map (deepR S 3)) = some ts) (hF : F (ts.map .d) [] = .ok (.d t) S1) (hf : flatT t = true) : snap F ds S = .ok (.d t) S := by
  unfold snap
  rw [h]
  simp only [hF]
  rw [if_pos hf]
end
end Hn
namespace Hn
open PySem PySem.Spec PyProof.Rows L2 Sm
section
variable {B L : Sto} {k : Nat}
theorem at_app : (B ++ L)[B.length + k]? = L[k]? := by
  rw [List.getElem?_append_right (Nat.le_add_right _ _), Nat.add_sub_cancel_left]
theorem set_app {x : Bo} : (B ++ L).set (B.length + k) x = B ++ L.set k x := by
  rw [List.set_append_right _ _ (Nat.le_add_right _ _), Nat.add_sub_cancel_left]
end
theorem st_drop {m : M Dv} {ρ : Sm.Env} {S S1 : Sto} {d : Dv} (h : m ρ S = .ok d S1) : sDrop m ρ S = .nx ρ S1 := by
  rw [sDrop_s, h, to_ok]
end Hn
namespace Hn
open PySem PySem.Spec PyProof.Rows L2 Sm
theorem lb2 {x y : Dv} {S : Sto} : pLstB [x, y] S = some (.loc S.length, S ++ [.lst [x, y]]) := if_pos (by show 2 ≤ _; omega)
end Hn
namespace Hn
open PySem PySem.Spec PyProof.Rows L2 Sm
end Hn
namespace Hn
open PySem PySem.Spec PyProof.Rows L2 Sm
theorem set_app0 {B L : Sto} {x : Bo} : (B ++ L).set B.length x = B ++ L.set 0 x := set_app (k := 0)
theorem at_app0 {B L : Sto} : (B ++ L)[B.length]? = L[0]? := at_app (k := 0)
end Hn
/-! Hx5: drawn sets of households. -/
namespace Hn
open PySem PySem.Spec PyProof.Rows L2 Sm
structure Gone (rows : List (Str × List Str)) (gone : List Str) : Prop where
  sub : gone.Sublist (folk rows)
  z : gone.length ≤ 8
  mem : ∀ x ∈ gone, x ∈ folk rows
  ok : ∀ x ∈ gone, PyData.strOk x = true
theorem Gs8.gone {rows : List (Str × List Str)} {emps gone : List Str} (G : Gs8 rows emps) (h : gone.Sublist (folk rows)) : Gone rows gone :=
  ⟨h, Nat.le_trans h.length_le (by rw [List.length_map]; exact G.z), fun x hx => h.subset hx, fun x hx => (G.ok _ (lk_mem (h.subset hx))).1⟩
theorem Gone.tup {rows : List (Str × List Str)} {gone : List Str} (g : Gone rows gone) : Nm (tupS gone) gone := Nm.tup g.ok (by have := g.z; omega)
theorem Gone.lst {rows : List (Str × List Str)} {gone : List Str} (g : Gone rows gone) : Nm (lstS gone) gone := Nm.lst g.ok (by have := g.z; omega)
theorem runB_nx {n p : Nat} {b : SM} {ds : List Dv} {S S' : Sto} {ρ' : Sm.Env} (hl : ds.length = p) (hb : b (ds.map some ++ List.replicate (n - p) none) S = .nx ρ' S') : runB n p b ds S = .ok (.d .non) S' := by
  unfold runB
  rw [if_pos hl, hb]
end Hn
/-! Hx6: turns of a comprehension over the urn; loops that leave boxes behind; a box of two numbers; drawn numbers by names. -/
namespace Hn
open PySem PySem.Spec PyProof.Rows L2 Sm
end Hn
/-! Hy1: parts of a set, by going on from one to the next; plain. -/
namespace Hn
open PySem PySem.Spec PyProof.Rows L2 Sm
def setS (l : List Str) : List Str := sortS (ddS l)
/-- who is met next -/
def nxt (adj : Str → List Str) (T found new : List Str) : List Str := (setS (new.flatMap adj)).filter fun y => decide (y ∈ T) && !decide (y ∈ found)
/-- going on; n: turns -/
def bfs (adj : Str → List Str) (T : List Str) : Nat → List Str → List Str → List Str
  | 0, found, _ => found
  | n + 1, found, new => if new.isEmpty = true then found else bfs adj T n (found ++ nxt adj T found new) (nxt adj T found new)
/-- what is still to be met -/
def left (T found : List Str) : List Str := T.filter fun y => !decide (y ∈ found)
/-- one leads to the other within T -/
inductive Rc (adj : Str → List Str) (T : List Str) : Str → Str → Prop
  | refl (x : Str) : Rc adj T x x
  | step {x y z : Str} : Rc adj T x y → z ∈ adj y → z ∈ T → Rc adj T x z
/-- the part of x in T -/
def part (adj : Str → List Str) (T : List Str) (x : Str) : List Str := setS (bfs adj T (T.length + 3) [x] [x])
theorem Rc.trans {adj : Str → List Str} {T : List Str} {x y z : Str} (h : Rc adj T x y) (k : Rc adj T y z) : Rc adj T x z := by
  induction k with
  | refl => exact h
  | step _ a b ih => exact .step ih a b
theorem Rc.mem {adj : Str → List Str} {T : List Str} {x y : Str} (h : Rc adj T x y) (hx : x ∈ T) : y ∈ T := by
  cases h with
  | refl => exact hx
  | step _ _ b => exact b
theorem Rc.symm {adj : Str → List Str} {T : List Str} (sy : ∀ x ∈ T, ∀ y ∈ T, y ∈ adj x → x ∈ adj y) {x y : Str} (hx : x ∈ T) (h : Rc adj T x y) : Rc adj T y x := by
  induction h with
  | refl => exact .refl _
  | step r a b ih => exact Rc.trans (.step (.refl _) (sy _ (r.mem hx) _ b a) (r.mem hx)) ih
def rest (T : List Str) (acc : List (List Str)) : List Str := T.filter fun y => !acc.any fun p => decide (y ∈ p)
end Hn
/-! Hy2: parts by the program's way. -/
namespace Hn
open PySem PySem.Spec PyProof.Rows L2 Sm
theorem strs_box {l : List Str} {S : Sto} {k : Nat} {x : Str} (h : S[k]? = some (.lst ((l.map .str).map .d))) : pIn (.d (.str x)) (.loc k) S = some (.d (.bl (decide (x ∈ l))), S) ∧ pNotIn (.d (.str x)) (.loc k) S = some (.d (.bl (!decide (x ∈ l))), S) := by
  have e : inDv S (.d (.str x)) (.loc k) = some (decide (x ∈ l)) := by
    have hd : dctAt S (.loc k) = none := by simp [dctAt, h]
    have hs : seqAt S (.loc k) = some ((l.map .str).map .d) := by simp [seqAt, lstAt, h]
    unfold inDv
    rw [hd, hs]
    exact inSeq_strs
  unfold pIn pNotIn
  rw [e]
  exact ⟨rfl, rfl⟩
theorem frz_box {xs : List Dt} {S : Sto} {k : Nat} (h : S[k]? = some (.lst (xs.map .d))) : frz (.loc k) S = some (.d (.lst xs), S.set k .dead) := by
  unfold frz
  simp only [h, pures_d]
section
variable {S0 : Sto} {n m : Nat} {rows : List (Str × List Str)} {gone : List Str}
end
end Hn
/-! Hy3: all parts by the program's way. -/
namespace Hn
open PySem PySem.Spec PyProof.Rows L2 Sm
/-- what parts are -/
structure PartsOk (T : List Str) (L : List (List Str)) : Prop where
  ne : ∀ l ∈ L, l ≠ []
  sub : ∀ l ∈ L, ∀ x ∈ l, x ∈ T
  asc : ∀ l ∈ L, Asc l
  z : L.length ≤ T.length
/-- no names of boxes from k on -/
def Low (k : Nat) (S : Sto) : Prop := ∀ j, k ≤ j → S.all (noL j) = true
theorem Low.dead {k : Nat} {S J : Sto} (h : Low k S) (hJ : ∀ b ∈ J, b = .dead) : Low k (S ++ J) := fun j hj => by
  rw [List.all_append, h j hj, Bool.true_and, List.all_eq_true]
  intro b hb
  rw [hJ b hb]
  rfl
section
variable {S0 : Sto} {n m : Nat} {rows : List (Str × List Str)} {gone : List Str}
end
end Hn
/-! Hy4: all parts by the law's way. -/
namespace Hn
open PySem PySem.Spec PyProof.Rows L2 Sm
/-- P tells who is beside whom -/
def AdjP (adj : Str → List Str) (P : List (Str × Str)) (T : List Str) : Prop := ∀ u ∈ T, ∀ y ∈ T, y ∈ adj u ↔ (u, y) ∈ P ∨ (y, u) ∈ P
section
variable {P : List (Str × Str)} {crew : Dt}
theorem AdjP.sub {adj : Str → List Str} {T U : List Str} (h : AdjP adj P T) (hs : ∀ x ∈ U, x ∈ T) : AdjP adj P U := fun u hu y hy => h u (hs u hu) y (hs y hy)
end
end Hn
/-! Hy5: a Swapping made in an empty store; checks on plain things by the kernel. -/
namespace Hn
open PySem PySem.Spec PyProof.Rows L2 Sm
section
variable {rows : List (Str × List Str)} {emps gone : List Str}
end
end Hn
/-! Hz1: stays, sorted by names. -/
namespace Hn
open PySem PySem.Spec PyProof.Rows L2 Sm
abbrev Stay := Str × Int × Int
def tri (e : Stay) : Dt := .tup [.str e.1, .int e.2.1, .int e.2.2]
end Hn
/-! Hz2: drawn stays. -/
namespace Hn
open PySem PySem.Spec PyProof.Rows L2 Sm
theorem of_ok {S : Sto} {n m : Nat} {o : Bo} {ts : List Dt} (hS : S[n]? = some o) (u : Urn o (m + 1)) (h0 : 0 < ts.length) (h1 : ts.length < 1000000) : ∃ (t : Dt) (o' : Bo), F__law_of [.loc n, .d (.lst ts)] S = .ok (.d t) (S.set n o') ∧ t ∈ ts ∧ Urn o' m := by
  obtain ⟨r, o', e, r0, r1, u'⟩ := take_ok (S := [o]) (n := 0) (m := m) (low := (ts.length : Int)) rfl u (by omega) (by omega)
  have e' : F__law_take [.loc 0, .d (.int (ts.length : Int))] [o] = .ok (.d (.int r)) [o'] := e
  obtain ⟨j, rfl⟩ : ∃ j : Nat, r = (j : Int) := ⟨r.toNat, by omega⟩
  have hl : j < ts.length := by omega
  refine ⟨ts[j], o', view_ok (ts := [.lst ts]) (rest := []) hS u.pure ?_ u'.pure, List.getElem_mem _, u'⟩
  refine runB_rt (ds := [.loc 0, .d (.lst ts)]) rfl ?_
  show b__law_of [some (.loc 0), some (.d (.lst ts))] [o] = _
  unfold b__law_of
  have i1 : ∀ S, pIx (.d (.lst ts)) (.d (.int (j : Int))) S = some (.d ts[j], S) := fun S => by
    exact ix_lst (List.getElem?_eq_getElem hl)
  simp only [sSeq_s, sSet_s, sRet_s, sDrop_s, sIf_s, sFor_s, sPars_s, sNil_s, sqz_nx, sqz_rt, m1_s, m2_s, mN_s, mF_s, mV_s, mC_s, aCons_s, aNil_s, aApp_s, mIf_s, mTst_s, toB_s, mTru_s, cAnd_s, cOr_s, cNot_s, cYes_s, mAnd_s, mSl_s, oPt_s, oNo_s, mFrz_s, gN_s, gT_s, List.getElem?_cons_zero, List.getElem?_cons_succ, bind_ok, to_ok, Sm.lift_some, li_some, oz_some, bz_some, nox_ok, List.set_cons_zero, List.set_cons_succ, wipe0, wipe1, setA0, setA1, q_len, e', i1]
def StayOk (e : Stay) : Prop := 0 ≤ e.2.1 ∧ e.2.1 ≤ e.2.2 ∧ e.2.2 ≤ 12
end Hn
/-! Hz3: a Calendar as data. -/
namespace Hn
open PySem PySem.Spec PyProof.Rows L2 Sm
theorem tupled_ty : ∀ (n : Nat) (t : Dt) (S : Sto), Ty n t → F_tupled (n + 1) [.d t] S = .ok (.d (tp t)) S := by
  have atm : ∀ (n : Nat) (t : Dt) (S : Sto), Atm t → F_tupled (n + 1) [.d t] S = .ok (.d (tp t)) S := fun n t S h => by
    rcases h with ⟨s, _, rfl⟩ | ⟨i, rfl⟩ | ⟨b, rfl⟩ | rfl <;> exact iso_ok (ts := [_]) (S' := []) rfl
  have seq : ∀ (n : Nat) (t : Dt) (xs : List Dt) (S : Sto), (t = .tup xs ∨ t = .lst xs) → xs.length ≤ 1000 → (∀ x ∈ xs, ∀ S, F_tupled n [.d x] S = .ok (.d (tp x)) S) → F_tupled (n + 1) [.d t] S = .ok (.d (tp t)) S := fun n t xs S ht hz hx => by
    have hP : seqOf (.d t) = some xs := by rcases ht with rfl | rfl <;> rfl
    have e := comp_ok (P := t) hP hz hx []
    have et : tp t = .tup (xs.map tp) := by
      rw [← tps_map]
      rcases ht with rfl | rfl <;> rfl
    refine iso_ok (ts := [t]) (S' := []) (runB_rt (ds := [.d t]) rfl ?_)
    show b_tupled (F_tupled n) [some (.d t), none] [] = _
    unfold b_tupled
    have c : mTru pTru (m1 (pIsa ["list", "tuple"]) (mV 0)) [some (.d t), none] [] = .ok true [] := by
      simp only [mTru_s, m1_s, mV_s, List.getElem?_cons_zero, bind_ok, isa_seq ht, Sm.lift_some]
      rfl
    rw [sRet_s, mIf_s, c, bind_ok, if_pos rfl, mN_s, aCons_s, e, bind_ok, aNil_s, bind_ok, bind_ok, et, pTuple_lst]
    rfl
  intro n
  induction n with
  | zero => exact fun t S h => atm 0 t S h
  | succ n ih =>
    intro t S h
    rcases h with h | ⟨xs, ht, hz, hx⟩
    · exact atm (n + 1) t S h
    · exact seq (n + 1) t xs S ht hz fun x m S => ih x S (hx x m)
def dD (p : Int × Int) : Dt := .tup [.int p.1, .int p.2]
def dayOf : List Stay → Str → Int × Int
  | [], _ => (0, 0)
  | e :: r, x => if e.1 = x then e.2 else dayOf r x
abbrev nmC (st : List Stay) : List Str := st.map (·.1)
theorem day_in : ∀ {st : List Stay}, (nmC st).Nodup → ∀ e ∈ st, dayOf st e.1 = e.2
  | [], _, e, h => absurd h List.not_mem_nil
  | a :: r, nd, e, h => by
    obtain ⟨n1, n2⟩ := List.nodup_cons.mp (show (a.1 :: nmC r).Nodup from nd)
    unfold dayOf
    rcases List.mem_cons.mp h with rfl | h
    · rw [if_pos rfl]
    · rw [if_neg fun z => n1 (by rw [z]; exact List.mem_map_of_mem (f := fun e : Stay => e.1) h), day_in n2 e h]
abbrev calX (st : List Stay) : Dt := .dct (kS (nmC st)) ((nmC st).map fun x => dD (dayOf st x))
abbrev calD (st : List Stay) : Dt := .obj 2 [calX st]
/-- stays as they are drawn -/
structure CalS (st : List Stay) : Prop where
  asc : Asc (nmC st)
  z : st.length ≤ 9
  ok : ∀ e ∈ st, StayOk e
  nm : ∀ e ∈ st, PyData.strOk e.1 = true
section
variable {st : List Stay}
theorem CalS.nd (C : CalS st) : (nmC st).Nodup := C.asc.nodup
theorem tri_tp (e : Stay) : tp (tri e) = tri e := rfl
theorem CalS.ty (C : CalS st) : Ty 2 (.tup (st.map tri)) := .inr ⟨_, .inl rfl, by rw [List.length_map]; have := C.z; omega, fun x hx => by
  obtain ⟨e, he, rfl⟩ := List.mem_map.mp hx
  exact .inr ⟨_, .inl rfl, by show 3 ≤ 1000; omega, fun y hy => by
    simp only [List.mem_cons, List.not_mem_nil, or_false] at hy
    rcases hy with rfl | rfl | rfl
    · exact .inl ⟨_, C.nm e he, rfl⟩
    · exact .inr (.inl ⟨_, rfl⟩)
    · exact .inr (.inl ⟨_, rfl⟩)⟩⟩
theorem CalS.init (C : CalS st) (S : Sto) : isoMk 2 F_Calendar_init [.d (.tup (st.map tri))] S = .ok (.d (calD st)) S := by
  have z := C.z
  have tu : ∀ S, F_tupled 8 [.d (.tup (st.map tri))] S = .ok (.d (.tup (st.map tri))) S := fun S => by
    rw [tupled_ty 7 _ S (C.ty.ups (by omega))]
    show Rz.ok (Dv.d (.tup (tps (st.map tri)))) S = _
    rw [tps_map, List.map_map, show (tp ∘ tri) = tri from funext tri_tp]
  have hI : F_Calendar_init [.loc 0, .d (.tup (st.map tri))] [.ins 2 []] = .ok (.d .non) [.ins 2 [some (.d (calX st))]] := by
    refine runB_nx (ds := [.loc 0, .d (.tup (st.map tri))]) (ρ' := [some (.loc 0), some (.d (.tup (st.map tri))), some (.d (.tup (st.map tri))), some (.d (.lst [])), none, none, none]) rfl ?_
    show b_Calendar_init [some (.loc 0), some (.d (.tup (st.map tri))), none, none, none, none, none] [.ins 2 []] = _
    unfold b_Calendar_init
    refine Wq.seq (Q := fun r => r = _) (st_set (d := .d (.tup (st.map tri))) (S1 := [.ins 2 []]) (by simp only [sSeq_s, sSet_s, sRet_s, sDrop_s, sIf_s, sFor_s, sPars_s, sNil_s, sqz_nx, sqz_rt, m1_s, m2_s, mN_s, mF_s, mV_s, mC_s, aCons_s, aNil_s, aApp_s, mIf_s, mTst_s, toB_s, mTru_s, cAnd_s, cOr_s, cNot_s, cYes_s, mAnd_s, mSl_s, oPt_s, oNo_s, mFrz_s, gN_s, gT_s, List.getElem?_cons_zero, List.getElem?_cons_succ, bind_ok, to_ok, Sm.lift_some, li_some, oz_some, bz_some, nox_ok, List.set_cons_zero, List.set_cons_succ, wipe0, wipe1, setA0, setA1, tu])) ?_
    have lt : ∀ (i j : Int) S, pLt (.d (.int i)) (.d (.int j)) S = some (.d (.bl (decide (i < j))), S) := fun i j S => rfl
    have lc := mLc_pure (vs := [4, 5, 6]) (g := gT (gsCons (gN 4) (gsCons (gN 5) (gsCons (gN 6) (gsNil))))) (c := mTst (m2 pLt (mV 6) (mV 5))) (e := mV 4) (it := iSeq (mV 2)) (ρ := [some (.loc 0), some (.d (.tup (st.map tri))), some (.d (.tup (st.map tri))), none, none, none, none]) (S := [.ins 2 []]) tri st (fun e => decide (e.2.2 < e.2.1)) (fun e => .str e.1) rfl (by omega) fun e he => ⟨[some (.loc 0), some (.d (.tup (st.map tri))), some (.d (.tup (st.map tri))), none, some (.d (.str e.1)), some (.d (.int e.2.1)), some (.d (.int e.2.2))], rfl, by simp only [sSeq_s, sSet_s, sRet_s, sDrop_s, sIf_s, sFor_s, sPars_s, sNil_s, sqz_nx, sqz_rt, m1_s, m2_s, mN_s, mF_s, mV_s, mC_s, aCons_s, aNil_s, aApp_s, mIf_s, mTst_s, toB_s, mTru_s, cAnd_s, cOr_s, cNot_s, cYes_s, mAnd_s, mSl_s, oPt_s, oNo_s, mFrz_s, gN_s, gT_s, List.getElem?_cons_zero, List.getElem?_cons_succ, bind_ok, to_ok, Sm.lift_some, li_some, oz_some, bz_some, nox_ok, List.set_cons_zero, List.set_cons_succ, wipe0, wipe1, setA0, setA1, lt, tr_b], fun _ => rfl⟩
    rw [List.filter_eq_nil_iff.mpr fun e he => by
      have := (C.ok e he).2.1
      rw [decide_eq_true_eq]
      omega] at lc
    refine Wq.seq (st_set lc) ?_
    have gt : ∀ (i j : Int) S, pGt (.d (.int i)) (.d (.int j)) S = some (.d (.bl (decide (j < i))), S) := fun i j S => rfl
    have l0 : ∀ S, pLen [.d (.lst ([] : List Dt))] S = some (.d (.int 0), S) := fun S => rfl
    refine Wq.seq (st_if_f (S1 := [.ins 2 []]) (r := .nx _ [.ins 2 []]) (by simp only [sSeq_s, sSet_s, sRet_s, sDrop_s, sIf_s, sFor_s, sPars_s, sNil_s, sqz_nx, sqz_rt, m1_s, m2_s, mN_s, mF_s, mV_s, mC_s, aCons_s, aNil_s, aApp_s, mIf_s, mTst_s, toB_s, mTru_s, cAnd_s, cOr_s, cNot_s, cYes_s, mAnd_s, mSl_s, oPt_s, oNo_s, mFrz_s, gN_s, gT_s, List.getElem?_cons_zero, List.getElem?_cons_succ, bind_ok, to_ok, Sm.lift_some, li_some, oz_some, bz_some, nox_ok, List.set_cons_zero, List.set_cons_succ, wipe0, wipe1, setA0, setA1, List.map_nil, l0, gt, tr_b]; rfl) rfl) ?_
    have d1 : mDc pDct [4, 5, 6] (iSeq (mV 2)) (gT (gsCons (gN 4) (gsCons (gN 5) (gsCons (gN 6) (gsNil))))) (cYes) (mV 4) (mN pTup (aCons (mV 5) (aCons (mV 6) (aNil)))) [some (.loc 0), some (.d (.tup (st.map tri))), some (.d (.tup (st.map tri))), some (.d (.lst [])), none, none, none] [.ins 2 []] = .ok (.d (calX st)) [.ins 2 []] := by
      rw [mDc_pure tri (fun e => e.1) (fun e => dD e.2) st rfl (by omega) C.nd fun e he => ⟨_, rfl, rfl, rfl, rfl⟩]
      have : (st.map fun e => dD e.2) = (nmC st).map fun x => dD (dayOf st x) := by
        rw [List.map_map]
        exact List.map_congr_left fun e he => by
          show dD e.2 = dD (dayOf st e.1)
          rw [day_in C.nd e he]
      rw [this]
    exact Wq.one (sFld_is (n := 0) (c := 2) (i := 0) (fs := []) rfl d1 rfl) rfl
  refine iso_ok (ts := [.tup (st.map tri)]) (S' := [.dead]) ?_
  show (Rz.bind (F_Calendar_init [.loc 0, .d (.tup (st.map tri))] [.ins 2 []]) _).bind _ = _
  rw [hI]
  rfl
end
end Hn
/-! He1: sheets that raise. -/
namespace Hn
open PySem PySem.Spec PyProof.Rows L2 Sm
theorem runB_er {n p : Nat} {b : SM} {ds : List Dv} {S S' : Sto} {c : Nat} {t : Dt} {ρ : Sm.Env} (hl : ds.length = p) (hb : b (ds.map some ++ List.replicate (n - p) none) S = .er c t ρ S') : runB n p b ds S = .er c t S' := by
  unfold runB
  rw [if_pos hl, hb]
section
variable {rows : List (Str × List Str)} {emps : List Str} {S : Sto} {n : Nat}
end
theorem pool_n : ∀ x ∈ pool, x ∈ allN := by decide +kernel
theorem Tome.gs {t : Dt} {rows : List (Str × List Str)} {emps : List Str} {b : Nat} (T : Tome t rows emps 8 b) (hb : b ≤ 20) : Gs8 rows emps := by
  have pz : pool.length = 11 := rfl
  refine ⟨T.nd, fun r hr => ⟨pool_ok _ (T.pn r hr), fun x hx => pool_ok _ (T.pw r hr x hx).1⟩, fun x hx => pool_ok _ (T.pe x hx), fun r hr => (T.sw r hr).nodup, fun r hr => ?_, T.z1, by have := T.z2; omega, T.sn, T.sw, fun r hr z => (T.pw r hr _ z).2 rfl, fun r hr => pool_n _ (T.pn r hr)⟩
  have := List.Nodup.length_le_of_subset (T.sw r hr).nodup fun x hx => (T.pw r hr x hx).1
  omega
end Hn
set_option maxHeartbeats 1000000
/-! K39P: an Order as it stands in the store. -/
namespace K39
open PySem PySem.Spec PyProof.Rows L2 Sm Hn
abbrev insO (l : List Str) : Bo := .ins 0 [some (.d (lstS l))]
/-- the names with x at the place k -/
def putL (l : List Str) (x : Str) (k : Nat) : List Str := (l.filter fun y => !decide (y = x)).take k ++ [x] ++ (l.filter fun y => !decide (y = x)).drop k
def okN (l : List Str) : Prop := (∀ x ∈ l, PyData.strOk x = true) ∧ l.length ≤ 1000
section
variable {l l' : List Str} {S : Sto} {n m k : Nat} {x : Str}
theorem f_o (h : S[n]? = some (insO l)) : pFld 0 0 (.loc n) S = some (.d (lstS l), S) := fld_is h rfl
theorem line_o (h : S[n]? = some (insO l)) : F_Order_line [.loc n] S = .ok (.d (tupS l)) S := by
  have f := f_o h
  have p1 : pTuple [.d (lstS l)] S = some (.d (tupS l), S) := pTuple_lst
  refine runB_rt (ds := [.loc n]) rfl ?_
  show b_Order_line [some (.loc n)] S = _
  unfold b_Order_line
  simp only [sSeq_s, sSet_s, sRet_s, sDrop_s, sIf_s, sFor_s, sPars_s, sNil_s, sqz_nx, sqz_rt, m1_s, m2_s, mN_s, mF_s, mV_s, mC_s, aCons_s, aNil_s, aApp_s, mIf_s, mTst_s, toB_s, mTru_s, cAnd_s, cOr_s, cNot_s, cYes_s, mAnd_s, mSl_s, oPt_s, oNo_s, mFrz_s, gN_s, gT_s, List.getElem?_cons_zero, List.getElem?_cons_succ, bind_ok, to_ok, Sm.lift_some, li_some, oz_some, bz_some, nox_ok, f, p1]
theorem len_l {S : Sto} : pLen [.d (lstS l)] S = some (.d (.int (l.length : Int)), S) := by
  show pLen [.d (.lst (l.map .str))] S = _
  rw [q_len, List.length_map]
theorem len_o (h : S[n]? = some (insO l)) : F_Order___len__ [.loc n] S = .ok (.d (.int (l.length : Int))) S := by
  have f := f_o h
  have p1 : pLen [.d (lstS l)] S = some (.d (.int (l.length : Int)), S) := len_l
  refine runB_rt (ds := [.loc n]) rfl ?_
  show b_Order___len__ [some (.loc n)] S = _
  unfold b_Order___len__
  simp only [sSeq_s, sSet_s, sRet_s, sDrop_s, sIf_s, sFor_s, sPars_s, sNil_s, sqz_nx, sqz_rt, m1_s, m2_s, mN_s, mF_s, mV_s, mC_s, aCons_s, aNil_s, aApp_s, mIf_s, mTst_s, toB_s, mTru_s, cAnd_s, cOr_s, cNot_s, cYes_s, mAnd_s, mSl_s, oPt_s, oNo_s, mFrz_s, gN_s, gT_s, List.getElem?_cons_zero, List.getElem?_cons_succ, bind_ok, to_ok, Sm.lift_some, li_some, oz_some, bz_some, nox_ok, f, p1]
theorem has_o (h : S[n]? = some (insO l)) : F_Order___contains__ [.loc n, .d (.str x)] S = .ok (.d (.bl (decide (x ∈ l)))) S := by
  have f := f_o h
  have p1 : pIn (.d (.str x)) (.d (lstS l)) S = some (.d (.bl (decide (x ∈ l))), S) := in_l
  refine runB_rt (ds := [.loc n, .d (.str x)]) rfl ?_
  show b_Order___contains__ [some (.loc n), some (.d (.str x))] S = _
  unfold b_Order___contains__
  simp only [sSeq_s, sSet_s, sRet_s, sDrop_s, sIf_s, sFor_s, sPars_s, sNil_s, sqz_nx, sqz_rt, m1_s, m2_s, mN_s, mF_s, mV_s, mC_s, aCons_s, aNil_s, aApp_s, mIf_s, mTst_s, toB_s, mTru_s, cAnd_s, cOr_s, cNot_s, cYes_s, mAnd_s, mSl_s, oPt_s, oNo_s, mFrz_s, gN_s, gT_s, List.getElem?_cons_zero, List.getElem?_cons_succ, bind_ok, to_ok, Sm.lift_some, li_some, oz_some, bz_some, nox_ok, f, p1]
theorem check_o (h : S[n]? = some (insO l)) : F_Order_check [.loc n, .d (.str x)] S = if x ∈ l then .ok (.d .non) S else .er 0 (.str x) S := by
  have f := f_o h
  have p1 : pNotIn (.d (.str x)) (.d (lstS l)) S = some (.d (.bl (!decide (x ∈ l))), S) := nin_l
  by_cases hx : x ∈ l
  · rw [if_pos hx]
    refine runB_nx (ds := [.loc n, .d (.str x)]) (ρ' := [some (.loc n), some (.d (.str x))]) rfl ?_
    show b_Order_check [some (.loc n), some (.d (.str x))] S = _
    unfold b_Order_check
    simp only [sSeq_s, sSet_s, sRet_s, sDrop_s, sIf_s, sFor_s, sPars_s, sNil_s, sqz_nx, sqz_rt, m1_s, m2_s, mN_s, mF_s, mV_s, mC_s, aCons_s, aNil_s, aApp_s, mIf_s, mTst_s, toB_s, mTru_s, cAnd_s, cOr_s, cNot_s, cYes_s, mAnd_s, mSl_s, oPt_s, oNo_s, mFrz_s, gN_s, gT_s, List.getElem?_cons_zero, List.getElem?_cons_succ, bind_ok, to_ok, Sm.lift_some, li_some, oz_some, bz_some, nox_ok, f, p1, decide_eq_true hx]
    rfl
  · rw [if_neg hx]
    refine runB_er (ds := [.loc n, .d (.str x)]) (ρ := [some (.loc n), some (.d (.str x))]) rfl ?_
    show b_Order_check [some (.loc n), some (.d (.str x))] S = _
    unfold b_Order_check
    simp only [sSeq_s, sSet_s, sRet_s, sDrop_s, sIf_s, sFor_s, sPars_s, sNil_s, sqz_nx, sqz_rt, m1_s, m2_s, mN_s, mF_s, mV_s, mC_s, aCons_s, aNil_s, aApp_s, mIf_s, mTst_s, toB_s, mTru_s, cAnd_s, cOr_s, cNot_s, cYes_s, mAnd_s, mSl_s, oPt_s, oNo_s, mFrz_s, gN_s, gT_s, List.getElem?_cons_zero, List.getElem?_cons_succ, bind_ok, to_ok, Sm.lift_some, li_some, oz_some, bz_some, nox_ok, f, p1, decide_eq_false hx]
    rfl
theorem check_m {ρ : Sm.Env} (h : S[n]? = some (insO l)) : sDrop (mMeth 0 F_Order_check (mV 0) (aCons (mV 1) (aNil))) (some (.loc n) :: some (.d (.str x)) :: ρ) S = if x ∈ l then .nx (some (.loc n) :: some (.d (.str x)) :: ρ) S else .er 0 (.str x) (some (.loc n) :: some (.d (.str x)) :: ρ) S := by
  have e : mMeth 0 F_Order_check (mV 0) (aCons (mV 1) (aNil)) (some (.loc n) :: some (.d (.str x)) :: ρ) S = _ := (meth_is (n := n) (S1 := S) (S2 := S) (ds := [.d (.str x)]) rfl h rfl).trans (check_o h)
  rw [sDrop_s, e]
  split <;> rfl
theorem idx_l (hx : x ∈ l) : pIndex (.d (lstS l)) [.d (.str x)] S = some (.d (.int (l.idxOf x : Nat)), S) := by
  unfold pIndex
  rw [show lstAt S (.d (lstS l)) = some ((l.map .str).map .d) from rfl, Option.bind_some, pures_d, Option.bind_some, strsOf_map]
  exact if_pos hx
theorem get_o (h : S[n]? = some (insO l)) : F_Order___getitem__ [.loc n, .d (.str x)] S = if x ∈ l then .ok (.d (.int (l.idxOf x : Nat))) S else .er 0 (.str x) S := by
  have f := f_o h
  have c := check_m (x := x) (ρ := []) h
  by_cases hx : x ∈ l
  · rw [if_pos hx] at c ⊢
    have p1 : pIndex (.d (lstS l)) [.d (.str x)] S = some (.d (.int (l.idxOf x : Nat)), S) := idx_l hx
    have i1 : isLs S (.d (lstS l)) = true := rfl
    refine runB_rt (ds := [.loc n, .d (.str x)]) rfl ?_
    show b_Order___getitem__ [some (.loc n), some (.d (.str x))] S = _
    unfold b_Order___getitem__
    rw [sSeq_s, c, sqz_nx]
    refine st_ret ?_
    show (m1 (pFld 0 0) (mV 0) _ S).bind _ = _
    have f2 : m1 (pFld 0 0) (mV 0) [some (.loc n), some (.d (.str x))] S = .ok (.d (lstS l)) S := by simp only [sSeq_s, sSet_s, sRet_s, sDrop_s, sIf_s, sFor_s, sPars_s, sNil_s, sqz_nx, sqz_rt, m1_s, m2_s, mN_s, mF_s, mV_s, mC_s, aCons_s, aNil_s, aApp_s, mIf_s, mTst_s, toB_s, mTru_s, cAnd_s, cOr_s, cNot_s, cYes_s, mAnd_s, mSl_s, oPt_s, oNo_s, mFrz_s, gN_s, gT_s, List.getElem?_cons_zero, List.getElem?_cons_succ, bind_ok, to_ok, Sm.lift_some, li_some, oz_some, bz_some, nox_ok, f]
    rw [f2, bind_ok, if_pos i1]
    show lift (pIndex (.d (lstS l)) [.d (.str x)] S) = _
    rw [p1, Sm.lift_some]
  · rw [if_neg hx] at c ⊢
    refine runB_er (ds := [.loc n, .d (.str x)]) (ρ := [some (.loc n), some (.d (.str x))]) rfl ?_
    show b_Order___getitem__ [some (.loc n), some (.d (.str x))] S = _
    unfold b_Order___getitem__
    rw [sSeq_s, c]
    rfl
theorem ne_s {x y : Str} (hx : PyData.strOk x = true) (hy : PyData.strOk y = true) (S : Sto) : pNe (.d (.str y)) (.d (.str x)) S = some (.d (.bl (!decide (y = x))), S) :=
  ne_tz (n := 0) (m := 0) (.str hy) (.str hx) (by omega) (by omega) ⟨fun z => by cases z; rfl, fun z => by rw [z]⟩ S
theorem set_o (h : S[n]? = some (insO l)) {d : Dt} {ρ : Sm.Env} {m : M Dv} (e : m (some (.loc n) :: ρ) S = .ok (.d d) S) : sFld 0 0 (mV 0) m (some (.loc n) :: ρ) S = .nx (some (.loc n) :: ρ) (S.set n (.ins 0 [some (.d d)])) := by
  show (m (some (.loc n) :: ρ) S).to _ _ = _
  rw [e, to_ok]
  show oz (stFld 0 0 (.loc n) (.d d) S) _ = _
  have : stFld 0 0 (.loc n) (.d d) S = some (S.set n (.ins 0 [some (.d d)])) := by
    unfold stFld
    simp only [h]
    rfl
  rw [this]
  rfl
theorem put_o (h : S[n]? = some (insO l)) (ok : okN l) (okx : PyData.strOk x = true) (hk : k ≤ 1000) : F_Order___setitem__ [.loc n, .d (.str x), .d (.int (k : Nat))] S = if x ∈ l then .ok (.d .non) (S.set n (insO (putL l x k))) else .er 0 (.str x) S := by
  have f := f_o h
  have c := check_m (x := x) (ρ := [some (.d (.int (k : Nat))), none, none]) h
  by_cases hx : x ∈ l
  · rw [if_pos hx] at c ⊢
    have lc : mN pLst (mLcI [4] (iSeq (m1 (pFld 0 0) (mV 0))) (gN 4) (mTst (m2 pNe (mV 4) (mV 1))) (mV 4)) [some (.loc n), some (.d (.str x)), some (.d (.int (k : Nat))), none, none] S = .ok (.d (lstS (l.filter fun y => !decide (y = x)))) S := by
      refine mLc_pure Dt.str l (fun y => !decide (y = x)) Dt.str ?_ (by have := ok.2; omega) fun y hy => ⟨[some (.loc n), some (.d (.str x)), some (.d (.int (k : Nat))), none, some (.d (.str y))], rfl, ?_, fun _ => rfl⟩
      · have f2 : m1 (pFld 0 0) (mV 0) [some (.loc n), some (.d (.str x)), some (.d (.int (k : Nat))), none, none] S = .ok (.d (lstS l)) S := by simp only [sSeq_s, sSet_s, sRet_s, sDrop_s, sIf_s, sFor_s, sPars_s, sNil_s, sqz_nx, sqz_rt, m1_s, m2_s, mN_s, mF_s, mV_s, mC_s, aCons_s, aNil_s, aApp_s, mIf_s, mTst_s, toB_s, mTru_s, cAnd_s, cOr_s, cNot_s, cYes_s, mAnd_s, mSl_s, oPt_s, oNo_s, mFrz_s, gN_s, gT_s, List.getElem?_cons_zero, List.getElem?_cons_succ, bind_ok, to_ok, Sm.lift_some, li_some, oz_some, bz_some, nox_ok, f]
        show (m1 (pFld 0 0) (mV 0) [some (.loc n), some (.d (.str x)), some (.d (.int (k : Nat))), none, none] S).bind _ = _
        rw [f2, bind_ok]
        rfl
      · have p1 := ne_s okx (ok.1 y hy) S
        simp only [sSeq_s, sSet_s, sRet_s, sDrop_s, sIf_s, sFor_s, sPars_s, sNil_s, sqz_nx, sqz_rt, m1_s, m2_s, mN_s, mF_s, mV_s, mC_s, aCons_s, aNil_s, aApp_s, mIf_s, mTst_s, toB_s, mTru_s, cAnd_s, cOr_s, cNot_s, cYes_s, mAnd_s, mSl_s, oPt_s, oNo_s, mFrz_s, gN_s, gT_s, List.getElem?_cons_zero, List.getElem?_cons_succ, bind_ok, to_ok, Sm.lift_some, li_some, oz_some, bz_some, nox_ok, p1]
    have hl : (l.filter fun y => !decide (y = x)).length ≤ 1000 := Nat.le_trans (List.length_filter_le _ _) ok.2
    refine runB_nx (ds := [.loc n, .d (.str x), .d (.int (k : Nat))]) (ρ' := [some (.loc n), some (.d (.str x)), some (.d (.int (k : Nat))), some (.d (lstS (l.filter fun y => !decide (y = x)))), none]) rfl ?_
    show b_Order___setitem__ [some (.loc n), some (.d (.str x)), some (.d (.int (k : Nat))), none, none] S = _
    unfold b_Order___setitem__
    rw [sSeq_s, c, sqz_nx, sSeq_s, st_set lc, sqz_nx]
    unfold putL
    generalize l.filter (fun y => !decide (y = x)) = r at hl ⊢
    refine set_o h ?_
    have q1 : pSl none (some (k : Int)) (.d (lstS r)) S = some (.d (lstS (r.take k)), S) := by
      show pSl none (some (k : Int)) (.d (.lst (r.map .str))) S = _
      rw [sl_l, cut0, ← List.map_take]
    have q2 : pSl (some (k : Int)) none (.d (lstS r)) S = some (.d (lstS (r.drop k)), S) := by
      show pSl (some (k : Int)) none (.d (.lst (r.map .str))) S = _
      rw [sl_l, cut_from, ← List.map_drop]
    have h1 : (r.take k).length ≤ 1000 := by rw [List.length_take]; omega
    have h2 : (r.drop k).length ≤ 1000 := by rw [List.length_drop]; omega
    have a1 : pAdd (.d (lstS (r.take k))) (.d (lstS [x])) S = some (.d (lstS (r.take k ++ [x])), S) := by
      show pAdd (.d (.lst ((r.take k).map .str))) (.d (.lst ([x].map .str))) S = _
      rw [add_l (by rw [List.length_map, List.length_map, List.length_singleton]; omega), ← List.map_append]
    have a2 : pAdd (.d (lstS (r.take k ++ [x]))) (.d (lstS (r.drop k))) S = some (.d (lstS (r.take k ++ [x] ++ r.drop k)), S) := by
      show pAdd (.d (.lst ((r.take k ++ [x]).map .str))) (.d (.lst ((r.drop k).map .str))) S = _
      rw [add_l (by rw [List.length_map, List.length_map, List.length_append, List.length_singleton]; omega), ← List.map_append]
    have pl : pLst [.d (.str x)] S = some (.d (lstS [x]), S) := rfl
    show m2 pAdd (m2 pAdd (mSl pSl (mV 3) (oNo) (oPt (mV 2))) (mN pLst (aCons (mV 1) (aNil)))) (mSl pSl (mV 3) (oPt (mV 2)) (oNo)) [some (.loc n), some (.d (.str x)), some (.d (.int (k : Nat))), some (.d (lstS r)), none] S = _
    simp only [sSeq_s, sSet_s, sRet_s, sDrop_s, sIf_s, sFor_s, sPars_s, sNil_s, sqz_nx, sqz_rt, m1_s, m2_s, mN_s, mF_s, mV_s, mC_s, aCons_s, aNil_s, aApp_s, mIf_s, mTst_s, toB_s, mTru_s, cAnd_s, cOr_s, cNot_s, cYes_s, mAnd_s, mSl_s, oPt_s, oNo_s, mFrz_s, gN_s, gT_s, List.getElem?_cons_zero, List.getElem?_cons_succ, bind_ok, to_ok, Sm.lift_some, li_some, oz_some, bz_some, nox_ok, q1, q2, pl, a1, a2]
  · rw [if_neg hx] at c ⊢
    refine runB_er (ds := [.loc n, .d (.str x), .d (.int (k : Nat))]) (ρ := [some (.loc n), some (.d (.str x)), some (.d (.int (k : Nat))), none, none]) rfl ?_
    show b_Order___setitem__ [some (.loc n), some (.d (.str x)), some (.d (.int (k : Nat))), none, none] S = _
    unfold b_Order___setitem__
    rw [sSeq_s, c]
    rfl
theorem str_inj : ∀ {l l' : List Str}, l.map Dt.str = l'.map Dt.str → l = l'
  | [], [], _ => rfl
  | [], _ :: _, h => by cases h
  | _ :: _, [], h => by cases h
  | a :: l, b :: l', h => by
    rw [List.map_cons, List.map_cons] at h
    injection h with h1 h2
    cases h1
    rw [str_inj h2]
theorem tz_l (ok : okN l) : Tz 1 (lstS l) := Tz.namesL ok.1
theorem eq_o (h : S[n]? = some (insO l)) (h' : S[m]? = some (insO l')) (ok : okN l) (ok' : okN l') : F_Order___eq__ [.loc n, .loc m] S = .ok (.d (.bl (decide (l = l')))) S := by
  have f := f_o h
  have f' := f_o h'
  have p1 : pEq (.d (lstS l)) (.d (lstS l')) S = some (.d (.bl (decide (l = l'))), S) := eq_tz (tz_l ok) (tz_l ok') (by omega) (by omega) ⟨fun z => by injection z with z; exact str_inj z, fun z => by rw [z]⟩ S
  have i1 : pIsaC 1 0 (.loc m) S = some (.d (.bl true), S) := by
    unfold pIsaC
    simp only [h']
    rfl
  refine runB_rt (ds := [.loc n, .loc m]) rfl ?_
  show b_Order___eq__ [some (.loc n), some (.loc m)] S = _
  refine st_ret ?_
  simp only [sSeq_s, sSet_s, sRet_s, sDrop_s, sIf_s, sFor_s, sPars_s, sNil_s, sqz_nx, sqz_rt, m1_s, m2_s, mN_s, mF_s, mV_s, mC_s, aCons_s, aNil_s, aApp_s, mIf_s, mTst_s, toB_s, mTru_s, cAnd_s, cOr_s, cNot_s, cYes_s, mAnd_s, mSl_s, oPt_s, oNo_s, mFrz_s, gN_s, gT_s, List.getElem?_cons_zero, List.getElem?_cons_succ, bind_ok, to_ok, Sm.lift_some, li_some, oz_some, bz_some, nox_ok, f, f', p1, i1, if_true]
theorem eq_ot {t : List Dt} : F_Order___eq__ [.loc n, .d (.tup t)] S = .ok (.d (.bl false)) S := by
  have i1 : pIsaC 1 0 (.d (.tup t)) S = some (.d (.bl false), S) := rfl
  refine runB_rt (n := 2) (p := 2) (b := b_Order___eq__) (ds := [.loc n, .d (.tup t)]) (S' := S) rfl ?_
  show b_Order___eq__ [some (.loc n), some (.d (.tup t))] S = _
  refine st_ret ?_
  simp only [sSeq_s, sSet_s, sRet_s, sDrop_s, sIf_s, sFor_s, sPars_s, sNil_s, sqz_nx, sqz_rt, m1_s, m2_s, mN_s, mF_s, mV_s, mC_s, aCons_s, aNil_s, aApp_s, mIf_s, mTst_s, toB_s, mTru_s, cAnd_s, cOr_s, cNot_s, cYes_s, mAnd_s, mSl_s, oPt_s, oNo_s, mFrz_s, gN_s, gT_s, List.getElem?_cons_zero, List.getElem?_cons_succ, bind_ok, to_ok, Sm.lift_some, li_some, oz_some, bz_some, nox_ok, i1]
  rfl
/-! ### ahead -/
def aheadF (a b : List Str) : List Str → Bool
  | [] => false
  | x :: r => if decide (x ∈ a) = decide (x ∈ b) then aheadF a b r else decide (x ∈ a)
theorem aheadF_eq (a b : List Str) : ∀ l : List Str, aheadF a b l = (match l.filter (fun x => !decide (decide (x ∈ a) = decide (x ∈ b))) with
    | [] => false
    | x :: _ => decide (x ∈ a))
  | [] => rfl
  | x :: r => by
    rw [aheadF, List.filter_cons]
    by_cases h : decide (x ∈ a) = decide (x ∈ b)
    · rw [if_pos h, decide_eq_true h, aheadF_eq a b r]
      rfl
    · rw [if_neg h, decide_eq_false h]
      rfl
theorem ne_b (a b : Bool) (S : Sto) : pNe (.d (.bl a)) (.d (.bl b)) S = some (.d (.bl (!decide (a = b))), S) := by
  cases a <;> cases b <;> rfl
theorem ahead_loop {a b : List Str} {t1 t2 : Dv} : ∀ (r : List Str) (z : Option Dv), (aheadF a b r = false ∧ (r.filter fun x => !decide (decide (x ∈ a) = decide (x ∈ b))) = [] ∧ ∃ z', forL (gN 5) l1_Order_ahead (r.map .str) [some (.loc n), some t1, some t2, some (.d (tupS a)), some (.d (tupS b)), z] S = .nx [some (.loc n), some t1, some t2, some (.d (tupS a)), some (.d (tupS b)), z'] S) ∨
    forL (gN 5) l1_Order_ahead (r.map .str) [some (.loc n), some t1, some t2, some (.d (tupS a)), some (.d (tupS b)), z] S = .rt (.d (.bl (aheadF a b r))) S
  | [], z => .inl ⟨rfl, rfl, z, rfl⟩
  | x :: r, z => by
    have i1 : ∀ S, pIn (.d (.str x)) (.d (tupS a)) S = some (.d (.bl (decide (x ∈ a))), S) := fun S => in_t
    have i2 : ∀ S, pIn (.d (.str x)) (.d (tupS b)) S = some (.d (.bl (decide (x ∈ b))), S) := fun S => in_t
    have nb := ne_b (decide (x ∈ a)) (decide (x ∈ b)) S
    by_cases h : decide (x ∈ a) = decide (x ∈ b)
    · have st : l1_Order_ahead [some (.loc n), some t1, some t2, some (.d (tupS a)), some (.d (tupS b)), some (.d (.str x))] S = .nx [some (.loc n), some t1, some t2, some (.d (tupS a)), some (.d (tupS b)), some (.d (.str x))] S := by
        simp only [sSeq_s, sSet_s, sRet_s, sDrop_s, sIf_s, sFor_s, sPars_s, sNil_s, sqz_nx, sqz_rt, m1_s, m2_s, mN_s, mF_s, mV_s, mC_s, aCons_s, aNil_s, aApp_s, mIf_s, mTst_s, toB_s, mTru_s, cAnd_s, cOr_s, cNot_s, cYes_s, mAnd_s, mSl_s, oPt_s, oNo_s, mFrz_s, gN_s, gT_s, List.getElem?_cons_zero, List.getElem?_cons_succ, bind_ok, to_ok, Sm.lift_some, li_some, oz_some, bz_some, nox_ok, i1, i2, nb]
        rw [decide_eq_true h]
        rfl
      rw [List.map_cons, forL_nx (ρ1 := [some (.loc n), some t1, some t2, some (.d (tupS a)), some (.d (tupS b)), some (.d (.str x))]) rfl st]
      rw [aheadF, if_pos h, List.filter_cons, decide_eq_true h]
      exact ahead_loop r _
    · have st : l1_Order_ahead [some (.loc n), some t1, some t2, some (.d (tupS a)), some (.d (tupS b)), some (.d (.str x))] S = .rt (.d (.bl (decide (x ∈ a)))) S := by
        simp only [sSeq_s, sSet_s, sRet_s, sDrop_s, sIf_s, sFor_s, sPars_s, sNil_s, sqz_nx, sqz_rt, m1_s, m2_s, mN_s, mF_s, mV_s, mC_s, aCons_s, aNil_s, aApp_s, mIf_s, mTst_s, toB_s, mTru_s, cAnd_s, cOr_s, cNot_s, cYes_s, mAnd_s, mSl_s, oPt_s, oNo_s, mFrz_s, gN_s, gT_s, List.getElem?_cons_zero, List.getElem?_cons_succ, bind_ok, to_ok, Sm.lift_some, li_some, oz_some, bz_some, nox_ok, i1, i2, nb]
        rw [decide_eq_false h]
        rfl
      refine .inr ?_
      rw [aheadF, if_neg h]
      show oz (gN 5 (.d (.str x)) _) _ = _
      show (match l1_Order_ahead [some (.loc n), some t1, some t2, some (.d (tupS a)), some (.d (tupS b)), some (.d (.str x))] S with
        | .nx ρ2 S2 => forL (gN 5) l1_Order_ahead (r.map .str) ρ2 S2
        | .ct ρ2 S2 => forL (gN 5) l1_Order_ahead (r.map .str) ρ2 S2
        | .bk ρ2 S2 => .nx ρ2 S2
        | r => r) = _
      rw [st]
theorem ahead_o {a b : List Str} {t1 t2 : Dt} (h : S[n]? = some (insO l)) (ok : okN l) (h1 : snapT (F_tupled 8) [.d t1] S = .ok (.d (tupS a)) S) (h2 : snapT (F_tupled 8) [.d t2] S = .ok (.d (tupS b)) S) : F_Order_ahead [.loc n, .d t1, .d t2] S = .ok (.d (.bl (aheadF a b l))) S := by
  have f := f_o h
  refine runB_rt (ds := [.loc n, .d t1, .d t2]) rfl ?_
  show b_Order_ahead [some (.loc n), some (.d t1), some (.d t2), none, none, none] S = _
  have s1 : sPars [3, 4] (aCons (mF (snapT (F_tupled 8)) (aCons (mV 1) (aNil))) (aCons (mF (snapT (F_tupled 8)) (aCons (mV 2) (aNil))) (aNil))) [some (.loc n), some (.d t1), some (.d t2), none, none, none] S = .nx [some (.loc n), some (.d t1), some (.d t2), some (.d (tupS a)), some (.d (tupS b)), none] S := by
    refine st_pars (ds := [.d (tupS a), .d (tupS b)]) ?_ rfl
    simp only [sSeq_s, sSet_s, sRet_s, sDrop_s, sIf_s, sFor_s, sPars_s, sNil_s, sqz_nx, sqz_rt, m1_s, m2_s, mN_s, mF_s, mV_s, mC_s, aCons_s, aNil_s, aApp_s, mIf_s, mTst_s, toB_s, mTru_s, cAnd_s, cOr_s, cNot_s, cYes_s, mAnd_s, mSl_s, oPt_s, oNo_s, mFrz_s, gN_s, gT_s, List.getElem?_cons_zero, List.getElem?_cons_succ, bind_ok, to_ok, Sm.lift_some, li_some, oz_some, bz_some, nox_ok, h1, h2]
  unfold b_Order_ahead
  have it : iSeq (m1 (pFld 0 0) (mV 0)) [some (.loc n), some (.d t1), some (.d t2), some (.d (tupS a)), some (.d (tupS b)), none] S = .ok (l.map .str) S := by
    have f2 : m1 (pFld 0 0) (mV 0) [some (.loc n), some (.d t1), some (.d t2), some (.d (tupS a)), some (.d (tupS b)), none] S = .ok (.d (lstS l)) S := by simp only [sSeq_s, sSet_s, sRet_s, sDrop_s, sIf_s, sFor_s, sPars_s, sNil_s, sqz_nx, sqz_rt, m1_s, m2_s, mN_s, mF_s, mV_s, mC_s, aCons_s, aNil_s, aApp_s, mIf_s, mTst_s, toB_s, mTru_s, cAnd_s, cOr_s, cNot_s, cYes_s, mAnd_s, mSl_s, oPt_s, oNo_s, mFrz_s, gN_s, gT_s, List.getElem?_cons_zero, List.getElem?_cons_succ, bind_ok, to_ok, Sm.lift_some, li_some, oz_some, bz_some, nox_ok, f]
    show (m1 (pFld 0 0) (mV 0) [some (.loc n), some (.d t1), some (.d t2), some (.d (tupS a)), some (.d (tupS b)), none] S).bind _ = _
    rw [f2, bind_ok]
    rfl
  rw [sSeq_s, s1, sqz_nx, sSeq_s]
  rcases ahead_loop (a := a) (b := b) (t1 := .d t1) (t2 := .d t2) (n := n) (S := S) l none with ⟨e1, _, z', e2⟩ | e
  · rw [st_for it e2, sqz_nx, e1]
    rfl
  · rw [st_for it e]
    rfl
end
end K39
set_option maxHeartbeats 2000000
/-! K39Q: one lap of the law. -/
namespace K39
open PySem PySem.Spec PyProof.Rows L2 Sm Hn
theorem set_id {S : Sto} {n : Nat} {o : Bo} (h : S[n]? = some o) : S.set n o = S := by
  apply List.ext_getElem?
  intro i
  rw [List.getElem?_set]
  split
  · rename_i e
    subst e
    rw [h]
    split
    · rfl
    · rename_i hl
      exact absurd (List.getElem?_eq_some_iff.mp h).1 hl
  · rfl
theorem bx_eq (l : List Str) : bx l = .lst ((l.map Dt.str).map Dv.d) := by
  show Bo.lst _ = _
  rw [List.map_map]
  rfl
structure Wh (S : Sto) (o : Bo) (n : Nat) (row host its : List Str) : Prop where
  u : S[0]? = some o
  r : S[n]? = some (bx row)
  h : S[n + 2]? = some (insO host)
  i : S[n + 3]? = some (insO its)
  p : 0 < n
section
variable {S : Sto} {o o' : Bo} {n : Nat} {row host its l : List Str}
theorem get_app {K : Sto} {k : Nat} {b : Bo} (h : S[k]? = some b) : (S ++ K)[k]? = some b := by
  rw [List.getElem?_append_left (List.getElem?_eq_some_iff.mp h).1, h]
theorem get_set {j k : Nat} {b c : Bo} (h : S[k]? = some b) (e : j ≠ k) : (S.set j c)[k]? = some b := by
  rw [List.getElem?_set_ne e, h]
theorem get_now {k : Nat} {b c : Bo} (h : S[k]? = some b) : (S.set k c)[k]? = some c := List.getElem?_set_self (List.getElem?_eq_some_iff.mp h).1
theorem Wh.app (w : Wh S o n row host its) (K : Sto) : Wh (S ++ K) o n row host its := ⟨get_app w.u, get_app w.r, get_app w.h, get_app w.i, w.p⟩
theorem Wh.urn (w : Wh S o n row host its) : Wh (S.set 0 o') o' n row host its := ⟨get_now w.u, get_set w.r (by have := w.p; omega), get_set w.h (by omega), get_set w.i (by omega), w.p⟩
theorem Wh.hst (w : Wh S o n row host its) : Wh (S.set (n + 2) (insO l)) o n row l its := ⟨get_set w.u (by omega), get_set w.r (by omega), get_now w.h, get_set w.i (by omega), w.p⟩
theorem Wh.rw (w : Wh S o n row host its) : Wh (S.set n (bx l)) o n l host its := ⟨get_set w.u (by have := w.p; omega), get_now w.r, get_set w.h (by omega), get_set w.i (by omega), w.p⟩
end
/-! ### what comes of a deed -/
def lost (x : Str) : Dt := .lst [.str "lost", .str x]
def getD (l : List Str) (x : Str) : Dt := if x ∈ l then .int (l.idxOf x : Nat) else lost x
def putD (l : List Str) (x : Str) : Dt := if x ∈ l then .non else lost x
def putR (l : List Str) (x : Str) (k : Nat) : List Str := if x ∈ l then putL l x k else l
section
variable {S : Sto} {n k : Nat} {l : List Str} {x : Str}
abbrev eH (w : Str) (x : Str) (k : Int) (a b c : Option Dv) : Sm.Env := [some (.loc 0), some (.d (.str w)), some (.d (.str x)), some (.d (.int k)), a, b, c]
theorem tail_er (w : Str) (k : Int) (l : List Str) : (sSeq (sIf (cAnd (mTru pTru (m1 (pIsE (tbl [true])) (mV 5))) (cAnd (mTru pTru (m1 (pIsE (tbl [true])) (mV 5))) (cNot (mTru pTru (m1 (pIsE (tbl [false])) (mV 5)))))) (sRet (mN pLst (aCons (mC (.str ("lost" : Str))) (aCons (m1 (pExf (tblT [true])) (mV 5)) (aNil))))) (sNil))
    (sRet (mIf (mTst (m2 pIsN (mV 5) (mC .non))) (mV 4) (mC (.str ("other" : Str)))))) (eH w x k (some (.d .non)) (some (.d (.exc 0 [.str x]))) none) [insO l] = .rt (.d (lost x)) [insO l] := rfl
theorem tail_ok (w : Str) (k : Int) (t : Dt) (l : List Str) : (sSeq (sIf (cAnd (mTru pTru (m1 (pIsE (tbl [true])) (mV 5))) (cAnd (mTru pTru (m1 (pIsE (tbl [true])) (mV 5))) (cNot (mTru pTru (m1 (pIsE (tbl [false])) (mV 5)))))) (sRet (mN pLst (aCons (mC (.str ("lost" : Str))) (aCons (m1 (pExf (tblT [true])) (mV 5)) (aNil))))) (sNil))
    (sRet (mIf (mTst (m2 pIsN (mV 5) (mC .non))) (mV 4) (mC (.str ("other" : Str)))))) (eH w x k (some (.d t)) (some (.d .non)) none) [insO l] = .rt (.d t) [insO l] := rfl
theorem eq_put {w : Str} (hw : PyData.strOk w = true) {b : Bool} (hb : decide (w = ("put" : Str)) = b) {ρ : Sm.Env} {S : Sto} (e : ρ[1]? = some (some (.d (.str w)))) : mTst (m2 pEq (mV 1) (mC (.str ("put" : Str)))) ρ S = .ok b S := by
  have p1 : pEq (.d (.str w)) (.d (.str "put")) S = some (.d (.bl b), S) := by
    rw [← hb]
    exact eq_tz (n := 0) (m := 0) (.str hw) (.str (by decide +kernel)) (by omega) (by omega) ⟨fun z => by cases z; rfl, fun z => by rw [z]⟩ S
  simp only [sSeq_s, sSet_s, sRet_s, sDrop_s, sIf_s, sFor_s, sPars_s, sNil_s, sqz_nx, sqz_rt, m1_s, m2_s, mN_s, mF_s, mV_s, mC_s, aCons_s, aNil_s, aApp_s, mIf_s, mTst_s, toB_s, mTru_s, cAnd_s, cOr_s, cNot_s, cYes_s, mAnd_s, mSl_s, oPt_s, oNo_s, mFrz_s, gN_s, gT_s, List.getElem?_cons_zero, List.getElem?_cons_succ, bind_ok, to_ok, Sm.lift_some, li_some, oz_some, bz_some, nox_ok, e, p1]
theorem heard_get (h : S[n]? = some (insO l)) (k : Int) : F__law_heard [.loc n, .d (.str "get"), .d (.str x), .d (.int k)] S = .ok (.d (getD l x)) S := by
  have g := get_o (x := x) (show ([insO l] : Sto)[0]? = some (insO l) from rfl)
  have fin : ∀ rest : Sto, F__law_heard [.loc n, .d (.str "get"), .d (.str x), .d (.int k)] S = .ok (.d (getD l x)) (S.set n (insO l)) → F__law_heard [.loc n, .d (.str "get"), .d (.str x), .d (.int k)] S = .ok (.d (getD l x)) S := fun _ e => by rw [e, set_id h]
  refine fin [] (view_ok (ts := [.str "get", .str x, .int k]) (rest := []) h rfl (runB_rt (n := 7) (p := 4) (b := b__law_heard) (ds := [.loc 0, .d (.str "get"), .d (.str x), .d (.int k)]) rfl ?_) rfl)
  show b__law_heard (eH "get" x k none none none) [insO l] = _
  have s1 : sAsg (gT (gsCons (gN 4) (gsCons (gN 5) (gsNil)))) (mN pTup (aCons (mC .non) (aCons (mC .non) (aNil)))) (eH "get" x k none none none) [insO l] = .nx (eH "get" x k (some (.d .non)) (some (.d .non)) none) [insO l] := rfl
  have bd : sIf (mTst (m2 pEq (mV 1) (mC (.str ("put" : Str))))) (sSubO 0 F_Order___setitem__ (mV 0) (mV 2) (mV 3)) (sSet 4 (mIxM 0 F_Order___getitem__ (mV 0) (mV 2))) (eH "get" x k (some (.d .non)) (some (.d .non)) none) [insO l] = (F_Order___getitem__ [.loc 0, .d (.str x)] [insO l]).to (eH "get" x k (some (.d .non)) (some (.d .non)) none) fun d S1 => .nx (eH "get" x k (some d) (some (.d .non)) none) S1 := by
    refine st_if_f (S1 := [insO l]) (eq_put (by decide +kernel) (by decide +kernel) rfl) ?_
    rfl
  unfold b__law_heard
  rw [sSeq_s, s1, sqz_nx, sSeq_s]
  unfold sTry getD
  rw [bd, g]
  by_cases hx : x ∈ l
  · rw [if_pos hx, if_pos hx, to_ok]
    exact tail_ok (x := x) "get" k _ l
  · rw [if_neg hx, if_neg hx]
    exact tail_er "get" k l
theorem heard_put (h : S[n]? = some (insO l)) (ok : okN l) (okx : PyData.strOk x = true) (hk : k ≤ 1000) : F__law_heard [.loc n, .d (.str "put"), .d (.str x), .d (.int (k : Nat))] S = .ok (.d (putD l x)) (S.set n (insO (putR l x k))) := by
  have g := put_o (k := k) (show ([insO l] : Sto)[0]? = some (insO l) from rfl) ok okx hk
  refine view_ok (ts := [.str "put", .str x, .int (k : Nat)]) (rest := []) h rfl (runB_rt (n := 7) (p := 4) (b := b__law_heard) (ds := [.loc 0, .d (.str "put"), .d (.str x), .d (.int (k : Nat))]) rfl ?_) rfl
  show b__law_heard (eH "put" x k none none none) [insO l] = _
  have s1 : sAsg (gT (gsCons (gN 4) (gsCons (gN 5) (gsNil)))) (mN pTup (aCons (mC .non) (aCons (mC .non) (aNil)))) (eH "put" x k none none none) [insO l] = .nx (eH "put" x k (some (.d .non)) (some (.d .non)) none) [insO l] := rfl
  have bd : sIf (mTst (m2 pEq (mV 1) (mC (.str ("put" : Str))))) (sSubO 0 F_Order___setitem__ (mV 0) (mV 2) (mV 3)) (sSet 4 (mIxM 0 F_Order___getitem__ (mV 0) (mV 2))) (eH "put" x k (some (.d .non)) (some (.d .non)) none) [insO l] = (F_Order___setitem__ [.loc 0, .d (.str x), .d (.int (k : Nat))] [insO l]).to (eH "put" x k (some (.d .non)) (some (.d .non)) none) fun d S1 => .nx (eH "put" x k (some (.d .non)) (some (.d .non)) none) S1 := by
    refine st_if_t (S1 := [insO l]) (eq_put (by decide +kernel) (by decide +kernel) rfl) ?_
    rfl
  unfold b__law_heard
  rw [sSeq_s, s1, sqz_nx, sSeq_s]
  unfold sTry putD putR
  rw [bd, g]
  by_cases hx : x ∈ l
  · rw [if_pos hx, if_pos hx, if_pos hx, to_ok]
    exact tail_ok (x := x) "put" k _ _
  · rw [if_neg hx, if_neg hx, if_neg hx]
    exact tail_er "put" k l
end
end K39
set_option maxHeartbeats 4000000
/-! K39R: one lap of the law, its statements one by one. -/
namespace K39
open PySem PySem.Spec PyProof.Rows L2 Sm Hn
theorem putL_perm {l : List Str} {x : Str} {k : Nat} (nd : l.Nodup) (hx : x ∈ l) : (putL l x k).Perm l := by
  unfold putL
  have e : (l.filter fun y => !decide (y = x)) = l.erase x := by
    rw [nd.erase_eq_filter]
    refine List.filter_congr fun y _ => ?_
    by_cases h : y = x
    · simp [h]
    · simp [h]
  rw [e]
  refine (List.Perm.append_right ((l.erase x).drop k) (List.perm_append_singleton x ((l.erase x).take k))).trans ?_
  rw [List.cons_append, List.take_append_drop]
  exact (List.perm_cons_erase hx).symm
theorem putR_perm {l : List Str} {x : Str} {k : Nat} (nd : l.Nodup) : (putR l x k).Perm l := by
  unfold putR
  split
  · rename_i h
    exact putL_perm nd h
  · exact List.Perm.refl _
theorem okN.perm {l m : List Str} (ok : okN l) (p : m.Perm l) : okN m := ⟨fun x hx => ok.1 x (p.mem_iff.mp hx), by rw [p.length_eq]; exact ok.2⟩
/-- the row as the law changes it -/
theorem law_put {l : List Str} {x : Str} {k : Nat} (nd : l.Nodup) (hx : x ∈ l) : (l.eraseIdx (l.idxOf x)).take k ++ [x] ++ (l.eraseIdx (l.idxOf x)).drop k = putL l x k := by
  have e : l.eraseIdx (l.idxOf x) = l.filter fun y => !decide (y = x) := by
    rw [← List.erase_eq_eraseIdx_of_idxOf (a := x) (l := l) rfl, nd.erase_eq_filter]
    refine List.filter_congr fun y _ => ?_
    by_cases h : y = x
    · simp [h]
    · simp [h]
  rw [e]
  rfl
section
variable {S : Sto} {o : Bo} {n : Nat} {row host its : List Str}
theorem frz_now {S : Sto} {ts : List Dt} : frz (.loc S.length) (S ++ [.lst (ts.map .d)]) = some (.d (.lst ts), S ++ [.dead]) := by
  rw [frz_box (xs := ts) (by rw [at_app0]; rfl), set_app0]
  rfl
theorem fr_add (w : Wh S o n row host its) (hz : row.length ≤ 1000) {ρ : Sm.Env} (h3 : ρ[3]? = some (some (.loc n))) : mFrz (m2 pAddB (mV 3) (mN pLst (aCons (mC (.str ("none" : Str))) (aNil)))) ρ S = .ok (.d (lstS (row ++ [("none" : Str)]))) (S ++ [.dead]) := by
  have l1 : lstAt S (.loc n) = some ((row.map Dt.str).map .d) := by
    unfold lstAt
    simp only [w.r, bx_eq]
  have p1 : pAddB (.loc n) (.d (lstS [("none" : Str)])) S = some (.loc S.length, S ++ [.lst (((row ++ [("none" : Str)]).map Dt.str).map .d)]) := by
    unfold pAddB
    rw [l1, show lstAt S (.d (lstS [("none" : Str)])) = some (([("none" : Str)].map Dt.str).map .d) from rfl]
    simp only [List.length_map, List.length_singleton]
    rw [if_pos (by omega), ← List.map_append, ← List.map_append]
  have pl : pLst [.d (.str "none")] S = some (.d (lstS [("none" : Str)]), S) := rfl
  have f1 : frz (.loc S.length) (S ++ [.lst (((row ++ [("none" : Str)]).map Dt.str).map .d)]) = some (.d (lstS (row ++ [("none" : Str)])), S ++ [.dead]) := frz_now
  simp only [sSeq_s, sSet_s, sRet_s, sDrop_s, sIf_s, sFor_s, sPars_s, sNil_s, sqz_nx, sqz_rt, m1_s, m2_s, mN_s, mF_s, mV_s, mC_s, aCons_s, aNil_s, aApp_s, mIf_s, mTst_s, toB_s, mTru_s, cAnd_s, cOr_s, cNot_s, cYes_s, mAnd_s, mSl_s, oPt_s, oNo_s, mFrz_s, gN_s, gT_s, List.getElem?_cons_zero, List.getElem?_cons_succ, bind_ok, to_ok, Sm.lift_some, li_some, oz_some, bz_some, nox_ok, h3, pl, p1, f1]
theorem len_b (w : Wh S o n row host its) : pLen [.loc n] S = some (.d (.int (row.length : Int)), S) := by
  have := w.r
  rw [bx_eq] at this
  simp [pLen, dctAt, seqAt, lstAt, this]
theorem tup_b (w : Wh S o n row host its) : pTuple [.loc n] S = some (.d (tupS row), S) := by
  have := w.r
  rw [bx_eq] at this
  simp only [pTuple, dctAt, lstT, lstAt, this, Option.bind_some, pures_d]
theorem ls_b (w : Wh S o n row host its) : isLs S (.loc n) = true := by
  unfold isLs lstAt
  simp only [w.r]
theorem ix_b (w : Wh S o n row host its) {x : Str} (hx : x ∈ row) : pIndex (.loc n) [.d (.str x)] S = some (.d (.int (row.idxOf x : Nat)), S) := by
  unfold pIndex
  have l1 : lstAt S (.loc n) = some ((row.map Dt.str).map .d) := by
    unfold lstAt
    simp only [w.r, bx_eq]
  rw [l1, Option.bind_some, pures_d, Option.bind_some, strsOf_map]
  exact if_pos hx
theorem in_b (w : Wh S o n row host its) {x : Str} : pIn (.d (.str x)) (.loc n) S = some (.d (.bl (decide (x ∈ row))), S) ∧ pNotIn (.d (.str x)) (.loc n) S = some (.d (.bl (!decide (x ∈ row))), S) := strs_box (by rw [w.r, bx_eq])
/-! ### same -/
theorem ty_lost {x : Str} (h : PyData.strOk x = true) : Ty 1 (lost x) := .inr ⟨_, .inr rfl, by show 2 ≤ 1000; omega, fun y hy => by
  simp only [List.mem_cons, List.not_mem_nil, or_false] at hy
  rcases hy with rfl | rfl
  · exact .inl ⟨_, by decide +kernel, rfl⟩
  · exact .inl ⟨_, h, rfl⟩⟩
theorem ty_get {x : Str} (h : PyData.strOk x = true) : Ty 1 (getD row x) := by
  unfold getD
  split
  · exact .inl (.inr (.inl ⟨_, rfl⟩))
  · exact ty_lost h
theorem ty_put {x : Str} (h : PyData.strOk x = true) : Ty 1 (putD row x) := by
  unfold putD
  split
  · exact .inl (by unfold Atm; simp)
  · exact ty_lost h
theorem same1 {t : Dt} {k : Nat} (h : Ty k t) (hk : k ≤ 7) (S : Sto) : F__law_same 8 [.d t, .d t] S = .ok (.d (.bl true)) S := same_ty 7 t S (h.ups hk)
theorem tr_b (b : Bool) (S : Sto) : pTru (.d (.bl b)) S = some b := rfl
/-- what the law awaits of the deed get, of the deed put -/
theorem gd_ok (w : Wh S o n row host its) {x : Str} {ρ : Sm.Env} (h3 : ρ[3]? = some (some (.loc n))) (h8 : ρ[8]? = some (some (.d (.str x)))) : mIf (mTst (m2 pNotIn (mV 8) (mV 3))) (mN pLst (aCons (mC (.str ("lost" : Str))) (aCons (mV 8) (aNil)))) (mLm pIndex (mV 3) (aCons (mV 8) (aNil))) ρ S = .ok (.d (getD row x)) S := by
  have p := (in_b w (x := x)).2
  have c : mTst (m2 pNotIn (mV 8) (mV 3)) ρ S = .ok (!decide (x ∈ row)) S := by simp only [sSeq_s, sSet_s, sRet_s, sDrop_s, sIf_s, sFor_s, sPars_s, sNil_s, sqz_nx, sqz_rt, m1_s, m2_s, mN_s, mF_s, mV_s, mC_s, aCons_s, aNil_s, aApp_s, mIf_s, mTst_s, toB_s, mTru_s, cAnd_s, cOr_s, cNot_s, cYes_s, mAnd_s, mSl_s, oPt_s, oNo_s, mFrz_s, gN_s, gT_s, List.getElem?_cons_zero, List.getElem?_cons_succ, bind_ok, to_ok, Sm.lift_some, li_some, oz_some, bz_some, nox_ok, h3, h8, p]
  unfold getD
  rw [mIf_s, c, bind_ok]
  by_cases hx : x ∈ row
  · rw [decide_eq_true hx, if_pos hx]
    show mLm pIndex (mV 3) (aCons (mV 8) (aNil)) ρ S = _
    have v3 : mV 3 ρ S = .ok (.loc n) S := by simp only [sSeq_s, sSet_s, sRet_s, sDrop_s, sIf_s, sFor_s, sPars_s, sNil_s, sqz_nx, sqz_rt, m1_s, m2_s, mN_s, mF_s, mV_s, mC_s, aCons_s, aNil_s, aApp_s, mIf_s, mTst_s, toB_s, mTru_s, cAnd_s, cOr_s, cNot_s, cYes_s, mAnd_s, mSl_s, oPt_s, oNo_s, mFrz_s, gN_s, gT_s, List.getElem?_cons_zero, List.getElem?_cons_succ, bind_ok, to_ok, Sm.lift_some, li_some, oz_some, bz_some, nox_ok, h3]
    have a8 : aCons (mV 8) aNil ρ S = .ok [.d (.str x)] S := by simp only [sSeq_s, sSet_s, sRet_s, sDrop_s, sIf_s, sFor_s, sPars_s, sNil_s, sqz_nx, sqz_rt, m1_s, m2_s, mN_s, mF_s, mV_s, mC_s, aCons_s, aNil_s, aApp_s, mIf_s, mTst_s, toB_s, mTru_s, cAnd_s, cOr_s, cNot_s, cYes_s, mAnd_s, mSl_s, oPt_s, oNo_s, mFrz_s, gN_s, gT_s, List.getElem?_cons_zero, List.getElem?_cons_succ, bind_ok, to_ok, Sm.lift_some, li_some, oz_some, bz_some, nox_ok, h8]
    unfold mLm
    rw [v3, bind_ok, if_pos (ls_b w), a8, bind_ok, ix_b w hx, Sm.lift_some]
  · rw [decide_eq_false hx, if_neg hx]
    show mN pLst _ ρ S = _
    have pl : pLst [.d (.str "lost"), .d (.str x)] S = some (.d (lost x), S) := rfl
    simp only [sSeq_s, sSet_s, sRet_s, sDrop_s, sIf_s, sFor_s, sPars_s, sNil_s, sqz_nx, sqz_rt, m1_s, m2_s, mN_s, mF_s, mV_s, mC_s, aCons_s, aNil_s, aApp_s, mIf_s, mTst_s, toB_s, mTru_s, cAnd_s, cOr_s, cNot_s, cYes_s, mAnd_s, mSl_s, oPt_s, oNo_s, mFrz_s, gN_s, gT_s, List.getElem?_cons_zero, List.getElem?_cons_succ, bind_ok, to_ok, Sm.lift_some, li_some, oz_some, bz_some, nox_ok, h8, pl]
theorem pd_ok (w : Wh S o n row host its) {x : Str} {ρ : Sm.Env} (h3 : ρ[3]? = some (some (.loc n))) (h8 : ρ[8]? = some (some (.d (.str x)))) : mIf (mTst (m2 pNotIn (mV 8) (mV 3))) (mN pLst (aCons (mC (.str ("lost" : Str))) (aCons (mV 8) (aNil)))) (mC .non) ρ S = .ok (.d (putD row x)) S := by
  have p := (in_b w (x := x)).2
  have c : mTst (m2 pNotIn (mV 8) (mV 3)) ρ S = .ok (!decide (x ∈ row)) S := by simp only [sSeq_s, sSet_s, sRet_s, sDrop_s, sIf_s, sFor_s, sPars_s, sNil_s, sqz_nx, sqz_rt, m1_s, m2_s, mN_s, mF_s, mV_s, mC_s, aCons_s, aNil_s, aApp_s, mIf_s, mTst_s, toB_s, mTru_s, cAnd_s, cOr_s, cNot_s, cYes_s, mAnd_s, mSl_s, oPt_s, oNo_s, mFrz_s, gN_s, gT_s, List.getElem?_cons_zero, List.getElem?_cons_succ, bind_ok, to_ok, Sm.lift_some, li_some, oz_some, bz_some, nox_ok, h3, h8, p]
  unfold putD
  rw [mIf_s, c, bind_ok]
  by_cases hx : x ∈ row
  · rw [decide_eq_true hx, if_pos hx]
    rfl
  · rw [decide_eq_false hx, if_neg hx]
    show mN pLst _ ρ S = _
    have pl : pLst [.d (.str "lost"), .d (.str x)] S = some (.d (lost x), S) := rfl
    simp only [sSeq_s, sSet_s, sRet_s, sDrop_s, sIf_s, sFor_s, sPars_s, sNil_s, sqz_nx, sqz_rt, m1_s, m2_s, mN_s, mF_s, mV_s, mC_s, aCons_s, aNil_s, aApp_s, mIf_s, mTst_s, toB_s, mTru_s, cAnd_s, cOr_s, cNot_s, cYes_s, mAnd_s, mSl_s, oPt_s, oNo_s, mFrz_s, gN_s, gT_s, List.getElem?_cons_zero, List.getElem?_cons_succ, bind_ok, to_ok, Sm.lift_some, li_some, oz_some, bz_some, nox_ok, h8, pl]
/-- the law's own row changes -/
theorem row_ok (w : Wh S o n row host its) (nd : row.Nodup) (hz : row.length ≤ 1000) {x : Str} {k : Nat} (hk : k ≤ 1000) {ρ : Sm.Env} (h3 : ρ[3]? = some (some (.loc n))) (h8 : ρ[8]? = some (some (.d (.str x)))) (h9 : ρ[9]? = some (some (.d (.int (k : Nat))))) :
    sIf (mTst (m2 pIn (mV 8) (mV 3))) (sSeq (sDrop (mLm pPopAt (mV 3) (aCons (mLm pIndex (mV 3) (aCons (mV 8) (aNil))) (aNil)))) (sDrop (mLm pInsert (mV 3) (aCons (mV 9) (aCons (mV 8) (aNil)))))) (sNil) ρ S = .nx ρ (S.set n (bx (putR row x k))) := by
  have p := (in_b w (x := x)).1
  have c : mTst (m2 pIn (mV 8) (mV 3)) ρ S = .ok (decide (x ∈ row)) S := by simp only [sSeq_s, sSet_s, sRet_s, sDrop_s, sIf_s, sFor_s, sPars_s, sNil_s, sqz_nx, sqz_rt, m1_s, m2_s, mN_s, mF_s, mV_s, mC_s, aCons_s, aNil_s, aApp_s, mIf_s, mTst_s, toB_s, mTru_s, cAnd_s, cOr_s, cNot_s, cYes_s, mAnd_s, mSl_s, oPt_s, oNo_s, mFrz_s, gN_s, gT_s, List.getElem?_cons_zero, List.getElem?_cons_succ, bind_ok, to_ok, Sm.lift_some, li_some, oz_some, bz_some, nox_ok, h3, h8, p]
  unfold putR
  by_cases hx : x ∈ row
  · rw [decide_eq_true hx] at c
    rw [if_pos hx]
    refine st_if_t c ?_
    have v3 : ∀ S, mV 3 ρ S = .ok (.loc n) S := fun S => by simp only [sSeq_s, sSet_s, sRet_s, sDrop_s, sIf_s, sFor_s, sPars_s, sNil_s, sqz_nx, sqz_rt, m1_s, m2_s, mN_s, mF_s, mV_s, mC_s, aCons_s, aNil_s, aApp_s, mIf_s, mTst_s, toB_s, mTru_s, cAnd_s, cOr_s, cNot_s, cYes_s, mAnd_s, mSl_s, oPt_s, oNo_s, mFrz_s, gN_s, gT_s, List.getElem?_cons_zero, List.getElem?_cons_succ, bind_ok, to_ok, Sm.lift_some, li_some, oz_some, bz_some, nox_ok, h3]
    have a8 : aCons (mV 8) aNil ρ S = .ok [.d (.str x)] S := by simp only [sSeq_s, sSet_s, sRet_s, sDrop_s, sIf_s, sFor_s, sPars_s, sNil_s, sqz_nx, sqz_rt, m1_s, m2_s, mN_s, mF_s, mV_s, mC_s, aCons_s, aNil_s, aApp_s, mIf_s, mTst_s, toB_s, mTru_s, cAnd_s, cOr_s, cNot_s, cYes_s, mAnd_s, mSl_s, oPt_s, oNo_s, mFrz_s, gN_s, gT_s, List.getElem?_cons_zero, List.getElem?_cons_succ, bind_ok, to_ok, Sm.lift_some, li_some, oz_some, bz_some, nox_ok, h8]
    have li : mLm pIndex (mV 3) (aCons (mV 8) (aNil)) ρ S = .ok (.d (.int (row.idxOf x : Nat))) S := by
      unfold mLm
      rw [v3, bind_ok, if_pos (ls_b w), a8, bind_ok, ix_b w hx, Sm.lift_some]
    have hi := List.idxOf_lt_length_of_mem hx
    have hr := w.r
    have e1 : pPopAt (.loc n) [.d (.int (row.idxOf x : Nat))] S = some (.d (.str x), S.set n (bx (row.eraseIdx (row.idxOf x)))) := by
      unfold pPopAt
      rw [bx_eq] at hr
      have hix : seqIndex? ((row.idxOf x : Nat) : Int) ((row.map Dt.str).map Dv.d).length = some (row.idxOf x) := by
        have := (ixN_seq (n := row.length) (i := ((row.idxOf x : Nat) : Int)) (j := row.idxOf x) (by unfold ixN; rw [if_pos (by omega), if_pos (by omega)]; rfl)).1
        rw [List.length_map, List.length_map]
        exact this
      have hg : ((row.map Dt.str).map Dv.d)[row.idxOf x]? = some (.d (.str x)) := by
        rw [List.getElem?_map, List.getElem?_map, List.getElem?_eq_getElem hi, List.getElem_idxOf hi]
        rfl
      simp only [hr]
      rw [if_pos (by omega)]
      simp only [hix, hg]
      rw [bx_eq, er_map, er_map]
    have hr1 : (S.set n (bx (row.eraseIdx (row.idxOf x))))[n]? = some (bx (row.eraseIdx (row.idxOf x))) := get_now w.r
    have ls1 : isLs (S.set n (bx (row.eraseIdx (row.idxOf x)))) (.loc n) = true := by
      unfold isLs lstAt
      simp only [hr1]
    have s1 : sDrop (mLm pPopAt (mV 3) (aCons (mLm pIndex (mV 3) (aCons (mV 8) (aNil))) (aNil))) ρ S = .nx ρ (S.set n (bx (row.eraseIdx (row.idxOf x)))) := by
      refine st_drop (d := .d (.str x)) ?_
      show (mV 3 ρ S).bind _ = _
      rw [v3, bind_ok, if_pos (ls_b w), ex_a1 li, bind_ok, e1, Sm.lift_some]
    rw [sSeq_s, s1, sqz_nx]
    refine (st_drop (d := .d .non) (S1 := (S.set n (bx (row.eraseIdx (row.idxOf x)))).set n (bx (putL row x k))) ?_).trans ?_
    · have a98 : ∀ S, aCons (mV 9) (aCons (mV 8) aNil) ρ S = .ok [.d (.int (k : Nat)), .d (.str x)] S := fun S => by simp only [sSeq_s, sSet_s, sRet_s, sDrop_s, sIf_s, sFor_s, sPars_s, sNil_s, sqz_nx, sqz_rt, m1_s, m2_s, mN_s, mF_s, mV_s, mC_s, aCons_s, aNil_s, aApp_s, mIf_s, mTst_s, toB_s, mTru_s, cAnd_s, cOr_s, cNot_s, cYes_s, mAnd_s, mSl_s, oPt_s, oNo_s, mFrz_s, gN_s, gT_s, List.getElem?_cons_zero, List.getElem?_cons_succ, bind_ok, to_ok, Sm.lift_some, li_some, oz_some, bz_some, nox_ok, h8, h9]
      have e2 : pInsert (.loc n) [.d (.int (k : Nat)), .d (.str x)] (S.set n (bx (row.eraseIdx (row.idxOf x)))) = some (.d .non, (S.set n (bx (row.eraseIdx (row.idxOf x)))).set n (bx (putL row x k))) := by
        unfold pInsert
        rw [bx_eq] at hr1 ⊢
        simp only [hr1]
        rw [if_pos ⟨by omega, by rw [List.length_map, List.length_map, List.length_eraseIdx_of_lt hi]; omega⟩, ← law_put nd hx, bx_eq, Int.toNat_natCast]
        simp only [List.map_append, List.map_take, List.map_drop]
        rfl
      show (mV 3 ρ _).bind _ = _
      rw [v3, bind_ok, if_pos ls1, a98, bind_ok, e2, Sm.lift_some]
    · rw [List.set_set]
  · rw [decide_eq_false hx] at c
    rw [if_neg hx]
    rw [st_if_f c rfl]
    show Sz.nx ρ S = _
    rw [set_id w.r]
end
end K39
set_option maxHeartbeats 4000000
/-! K39T: what an Order tells, side by side with the law's row. -/
namespace K39
open PySem PySem.Spec PyProof.Rows L2 Sm Hn
section
variable {S : Sto} {o : Bo} {n : Nat} {row host its a b : List Str} {x : Str}
theorem snapT_k {F : FM} {ds : List Dv} {ts : List Dt} {t : Dt} {S S1 : Sto} (h : opts (ds.map (deepR S 3)) = some ts) (hF : F (ts.map .d) [] = .ok (.d t) S1) (hf : tupT t = true) : snapT F ds S = .ok (.d t) S := by
  unfold snapT
  rw [h]
  simp only [hF]
  rw [if_pos hf]
theorem tupTs_s : ∀ l : List Str, tupTs (l.map .str) = true
  | [] => rfl
  | a :: l => by
    show (true && tupTs (l.map .str)) = true
    rw [tupTs_s l]
    rfl
theorem snap_t (ok : okN a) (S : Sto) : snapT (F_tupled 8) [.d (tupS a)] S = .ok (.d (tupS a)) S := snapT_k (ts := [tupS a]) (by rw [List.map_cons, deep_d]; rfl) ((Nm.tup ok.1 ok.2).tp []) (tupTs_s a)
theorem snap_l (ok : okN a) (S : Sto) : snapT (F_tupled 8) [.d (lstS a)] S = .ok (.d (tupS a)) S := snapT_k (ts := [lstS a]) (by rw [List.map_cons, deep_d]; rfl) ((Nm.lst ok.1 ok.2).tp []) (tupTs_s a)
theorem snap_b (ok : okN row) (h : S[n]? = some (bx row)) : snapT (F_tupled 8) [.loc n] S = .ok (.d (tupS row)) S := snapT_k (ts := [lstS row]) (by rw [List.map_cons, deep_l (xs := row.map .str) (by rw [h, bx_eq])]; rfl) ((Nm.lst ok.1 ok.2).tp []) (tupTs_s row)
/-- the law's own look -/
theorem law_ahead (ok : okN row) (oka : okN a) (okb : okN b) (S : Sto) : F__law_ahead [.d (lstS row), .d (tupS a), .d (tupS b)] S = .ok (.d (.bl (aheadF a b row))) S := by
  refine iso_ok (ts := [lstS row, tupS a, tupS b]) (S' := []) (runB_rt (n := 5) (p := 3) (b := b__law_ahead) (ds := [.d (lstS row), .d (tupS a), .d (tupS b)]) rfl ?_)
  show b__law_ahead [some (.d (lstS row)), some (.d (tupS a)), some (.d (tupS b)), none, none] [] = _
  have lc : mN pLst (mLcI [4] (iSeq (mV 0)) (gN 4) (mTst (m2 pNe (m2 pIn (mV 4) (mV 1)) (m2 pIn (mV 4) (mV 2)))) (mV 4)) [some (.d (lstS row)), some (.d (tupS a)), some (.d (tupS b)), none, none] [] = .ok (.d (lstS (row.filter fun y => !decide (decide (y ∈ a) = decide (y ∈ b))))) [] := by
    refine mLc_pure Dt.str row (fun y => !decide (decide (y ∈ a) = decide (y ∈ b))) Dt.str rfl (by have := ok.2; omega) fun y hy => ⟨[some (.d (lstS row)), some (.d (tupS a)), some (.d (tupS b)), none, some (.d (.str y))], rfl, ?_, fun _ => rfl⟩
    have i1 : ∀ S, pIn (.d (.str y)) (.d (tupS a)) S = some (.d (.bl (decide (y ∈ a))), S) := fun S => in_t
    have i2 : ∀ S, pIn (.d (.str y)) (.d (tupS b)) S = some (.d (.bl (decide (y ∈ b))), S) := fun S => in_t
    have nb := ne_b (decide (y ∈ a)) (decide (y ∈ b)) []
    simp only [sSeq_s, sSet_s, sRet_s, sDrop_s, sIf_s, sFor_s, sPars_s, sNil_s, sqz_nx, sqz_rt, m1_s, m2_s, mN_s, mF_s, mV_s, mC_s, aCons_s, aNil_s, aApp_s, mIf_s, mTst_s, toB_s, mTru_s, cAnd_s, cOr_s, cNot_s, cYes_s, mAnd_s, mSl_s, oPt_s, oNo_s, mFrz_s, gN_s, gT_s, List.getElem?_cons_zero, List.getElem?_cons_succ, bind_ok, to_ok, Sm.lift_some, li_some, oz_some, bz_some, nox_ok, i1, i2, nb]
  unfold b__law_ahead
  rw [sSeq_s, st_set lc, sqz_nx, aheadF_eq]
  have okr : ∀ y ∈ row.filter (fun y => !decide (decide (y ∈ a) = decide (y ∈ b))), PyData.strOk y = true := fun y hy => ok.1 y (List.mem_filter.mp hy).1
  generalize row.filter (fun y => !decide (decide (y ∈ a) = decide (y ∈ b))) = r at okr ⊢
  have nn : ∀ S, pNe (.d (lstS r)) (.d (.lst [])) S = some (.d (.bl (!r.isEmpty)), S) := fun S => by
    have := ne_nil (xs := r.map Dt.str) (n := 1) (fun y hy => by
      obtain ⟨z, hz, rfl⟩ := List.mem_map.mp hy
      exact .inl (.inl ⟨z, okr z hz, rfl⟩)) (by omega) S
    rw [List.isEmpty_map] at this
    exact this
  show sRet _ [some (.d (lstS row)), some (.d (tupS a)), some (.d (tupS b)), some (.d (lstS r)), none] [] = _
  have pl : ∀ S, pLst [] S = some (Dv.d (.lst []), S) := fun S => rfl
  refine st_ret ?_
  cases r with
  | nil =>
    simp only [sSeq_s, sSet_s, sRet_s, sDrop_s, sIf_s, sFor_s, sPars_s, sNil_s, sqz_nx, sqz_rt, m1_s, m2_s, mN_s, mF_s, mV_s, mC_s, aCons_s, aNil_s, aApp_s, mIf_s, mTst_s, toB_s, mTru_s, cAnd_s, cOr_s, cNot_s, cYes_s, mAnd_s, mSl_s, oPt_s, oNo_s, mFrz_s, gN_s, gT_s, List.getElem?_cons_zero, List.getElem?_cons_succ, bind_ok, to_ok, Sm.lift_some, li_some, oz_some, bz_some, nox_ok, pl, nn]
    rfl
  | cons y r =>
    have i0 : ∀ S, pIx (.d (lstS (y :: r))) (.d (.int 0)) S = some (.d (.str y), S) := fun S => ix_lst (i := 0) rfl
    have i1 : ∀ S, pIn (.d (.str y)) (.d (tupS a)) S = some (.d (.bl (decide (y ∈ a))), S) := fun S => in_t
    simp only [sSeq_s, sSet_s, sRet_s, sDrop_s, sIf_s, sFor_s, sPars_s, sNil_s, sqz_nx, sqz_rt, m1_s, m2_s, mN_s, mF_s, mV_s, mC_s, aCons_s, aNil_s, aApp_s, mIf_s, mTst_s, toB_s, mTru_s, cAnd_s, cOr_s, cNot_s, cYes_s, mAnd_s, mSl_s, oPt_s, oNo_s, mFrz_s, gN_s, gT_s, List.getElem?_cons_zero, List.getElem?_cons_succ, bind_ok, to_ok, Sm.lift_some, li_some, oz_some, bz_some, nox_ok, pl, nn]
    show (if true = true then (lift (pIx (.d (lstS (y :: r))) (.d (.int 0)) [])).bind fun x S1 => _ else _) = _
    rw [if_pos rfl, i0, Sm.lift_some, bind_ok]
    show lift (pIn (.d (.str y)) (.d (tupS a)) []) = _
    rw [i1, Sm.lift_some]
theorem snap_ahead (w : Wh S o n row host its) (ok : okN row) (oka : okN a) (okb : okN b) : snap F__law_ahead [.loc n, .d (tupS a), .d (tupS b)] S = .ok (.d (.bl (aheadF a b row))) S := by
  refine snap_ok (ts := [lstS row, tupS a, tupS b]) (S1 := []) ?_ (law_ahead ok oka okb []) rfl
  rw [List.map_cons, List.map_cons, List.map_cons, deep_l (xs := row.map .str) (by rw [w.r, bx_eq]), deep_d, deep_d]
  rfl
/-- both sets asked for, twice -/
theorem said_ok (w : Wh S o n row row its) (ok : okN row) (oka : okN a) (okb : okN b) {ρ : Sm.Env} (h5 : ρ[5]? = some (some (.loc (n + 2)))) (h11 : ρ[11]? = some (some (.d (tupS a)))) (h12 : ρ[12]? = some (some (.d (tupS b)))) :
    mN pLst (aCons (mMeth 0 F_Order_ahead (mV 5) (aCons (mV 11) (aCons (mV 12) (aNil)))) (aCons (mMeth 0 (kwF [0, 2, 1] [] F_Order_ahead) (mV 5) (aCons (mN pList (aCons (mV 12) (aNil))) (aCons (mN pList (aCons (mV 11) (aNil))) (aNil)))) (aNil))) ρ S = .ok (.d (.lst [.bl (aheadF a b row), .bl (aheadF a b row)])) S := by
  have v5 : mV 5 ρ S = .ok (.loc (n + 2)) S := by simp only [sSeq_s, sSet_s, sRet_s, sDrop_s, sIf_s, sFor_s, sPars_s, sNil_s, sqz_nx, sqz_rt, m1_s, m2_s, mN_s, mF_s, mV_s, mC_s, aCons_s, aNil_s, aApp_s, mIf_s, mTst_s, toB_s, mTru_s, cAnd_s, cOr_s, cNot_s, cYes_s, mAnd_s, mSl_s, oPt_s, oNo_s, mFrz_s, gN_s, gT_s, List.getElem?_cons_zero, List.getElem?_cons_succ, bind_ok, to_ok, Sm.lift_some, li_some, oz_some, bz_some, nox_ok, h5]
  have l1 : ∀ l : List Str, pList [.d (tupS l)] S = some (.d (lstS l), S) := fun l => by
    simp only [pList, itemsOf, dctAt, seqAt, lstAt, Option.bind_some, pures_d]
  have m1 : mMeth 0 F_Order_ahead (mV 5) (aCons (mV 11) (aCons (mV 12) (aNil))) ρ S = .ok (.d (.bl (aheadF a b row))) S := by
    rw [meth_is (n := n + 2) (S1 := S) (S2 := S) (ds := [.d (tupS a), .d (tupS b)]) v5 w.h (by simp only [sSeq_s, sSet_s, sRet_s, sDrop_s, sIf_s, sFor_s, sPars_s, sNil_s, sqz_nx, sqz_rt, m1_s, m2_s, mN_s, mF_s, mV_s, mC_s, aCons_s, aNil_s, aApp_s, mIf_s, mTst_s, toB_s, mTru_s, cAnd_s, cOr_s, cNot_s, cYes_s, mAnd_s, mSl_s, oPt_s, oNo_s, mFrz_s, gN_s, gT_s, List.getElem?_cons_zero, List.getElem?_cons_succ, bind_ok, to_ok, Sm.lift_some, li_some, oz_some, bz_some, nox_ok, h11, h12])]
    exact ahead_o w.h ok (snap_t oka S) (snap_t okb S)
  have m2 : mMeth 0 (kwF [0, 2, 1] [] F_Order_ahead) (mV 5) (aCons (mN pList (aCons (mV 12) (aNil))) (aCons (mN pList (aCons (mV 11) (aNil))) (aNil))) ρ S = .ok (.d (.bl (aheadF a b row))) S := by
    rw [meth_is (n := n + 2) (S1 := S) (S2 := S) (ds := [.d (lstS b), .d (lstS a)]) v5 w.h (by simp only [sSeq_s, sSet_s, sRet_s, sDrop_s, sIf_s, sFor_s, sPars_s, sNil_s, sqz_nx, sqz_rt, m1_s, m2_s, mN_s, mF_s, mV_s, mC_s, aCons_s, aNil_s, aApp_s, mIf_s, mTst_s, toB_s, mTru_s, cAnd_s, cOr_s, cNot_s, cYes_s, mAnd_s, mSl_s, oPt_s, oNo_s, mFrz_s, gN_s, gT_s, List.getElem?_cons_zero, List.getElem?_cons_succ, bind_ok, to_ok, Sm.lift_some, li_some, oz_some, bz_some, nox_ok, h11, h12, l1])]
    show F_Order_ahead [.loc (n + 2), .d (lstS a), .d (lstS b)] S = _
    exact ahead_o w.h ok (snap_l oka S) (snap_l okb S)
  have pl : pLst [.d (.bl (aheadF a b row)), .d (.bl (aheadF a b row))] S = some (.d (.lst [.bl (aheadF a b row), .bl (aheadF a b row)]), S) := rfl
  rw [mN_s, aCons_s, m1, bind_ok, aCons_s, m2, bind_ok, aNil_s, bind_ok, bind_ok, bind_ok, pl, Sm.lift_some]
theorem ty_bl (b : Bool) : Ty 0 (.bl b) := .inr (.inr (.inl ⟨_, rfl⟩))
theorem ty_said (z : Bool) : Ty 1 (.lst [.bl z, .bl z]) := .inr ⟨_, .inr rfl, by show 2 ≤ 1000; omega, fun y hy => by
  simp only [List.mem_cons, List.not_mem_nil, or_false, or_self] at hy
  rw [hy]
  exact ty_bl z⟩
/-- the second look of a lap -/
theorem look_ok (w : Wh S o n row row its) (ok : okN row) (oka : okN a) (okb : okN b) {ρ : Sm.Env} (h3 : ρ[3]? = some (some (.loc n))) (h5 : ρ[5]? = some (some (.loc (n + 2)))) (h11 : ρ[11]? = some (some (.d (tupS a)))) (h12 : ρ[12]? = some (some (.d (tupS b))))
    (h13 : ρ[13]? = some (some (.d (.lst [.bl (aheadF a b row), .bl (aheadF a b row)])))) :
    sIf (cNot (mTru pTru (mF (F__law_same 8) (aCons (mN pLst (aCons (mPropM 0 F_Order_line (mV 5)) (aCons (mLenM 0 F_Order___len__ (mV 5)) (aCons (mV 13) (aNil))))) (aCons (mN pLst (aCons (mN pTuple (aCons (mV 3) (aNil))) (aCons (mN pLen (aCons (mV 3) (aNil))) (aCons (m2 pMul (mN pLst (aCons (mF (snap F__law_ahead) (aCons (mV 3) (aCons (mV 11) (aCons (mV 12) (aNil))))) (aNil))) (mC (.int 2))) (aNil))))) (aNil)))))) (sRet (mC (.bl false))) (sNil) ρ S = .nx ρ S := by
  have v5 : mV 5 ρ S = .ok (.loc (n + 2)) S := by simp only [sSeq_s, sSet_s, sRet_s, sDrop_s, sIf_s, sFor_s, sPars_s, sNil_s, sqz_nx, sqz_rt, m1_s, m2_s, mN_s, mF_s, mV_s, mC_s, aCons_s, aNil_s, aApp_s, mIf_s, mTst_s, toB_s, mTru_s, cAnd_s, cOr_s, cNot_s, cYes_s, mAnd_s, mSl_s, oPt_s, oNo_s, mFrz_s, gN_s, gT_s, List.getElem?_cons_zero, List.getElem?_cons_succ, bind_ok, to_ok, Sm.lift_some, li_some, oz_some, bz_some, nox_ok, h5]
  have e1 : mPropM 0 F_Order_line (mV 5) ρ S = .ok (.d (tupS row)) S := by
    show (mV 5 ρ S).bind _ = _
    rw [v5, bind_ok, if_pos (ins_is w.h), line_o w.h]
    rfl
  have e2 : mLenM 0 F_Order___len__ (mV 5) ρ S = .ok (.d (.int (row.length : Int))) S := by
    show (mV 5 ρ S).bind _ = _
    rw [v5, bind_ok, if_pos (ins_is w.h), len_o w.h, nox_ok, bind_ok]
    show (if decide (0 ≤ (row.length : Int) ∧ (row.length : Int) < 2 ^ 63) = true then _ else _) = _
    rw [if_pos (decide_eq_true ⟨by omega, by have := ok.2; omega⟩)]
  have t3 := tup_b w
  have n3 := len_b w
  have la := snap_ahead w ok oka okb
  have mu : ∀ (z : Bool) S, pMul (.d (.lst [.bl z])) (.d (.int 2)) S = some (.d (.lst [.bl z, .bl z]), S) := fun z S => rfl
  have p1 : ∀ z : Bool, pLst [.d (.bl z)] S = some (.d (.lst [.bl z]), S) := fun z => rfl
  have p3 : ∀ z : Bool, pLst [.d (tupS row), .d (.int (row.length : Int)), .d (.lst [.bl z, .bl z])] S = some (.d (.lst [tupS row, .int (row.length : Int), .lst [.bl z, .bl z]]), S) := fun z => rfl
  have ty : Ty 2 (.lst [tupS row, .int (row.length : Int), .lst [.bl (aheadF a b row), .bl (aheadF a b row)]]) := .inr ⟨_, .inr rfl, by show 3 ≤ 1000; omega, fun y hy => by
    simp only [List.mem_cons, List.not_mem_nil, or_false] at hy
    rcases hy with rfl | rfl | rfl
    · exact ty_names ok.1 ok.2
    · exact .inl (.inr (.inl ⟨_, rfl⟩))
    · exact ty_said _⟩
  have sm := same1 ty (by omega) S
  simp only [sSeq_s, sSet_s, sRet_s, sDrop_s, sIf_s, sFor_s, sPars_s, sNil_s, sqz_nx, sqz_rt, m1_s, m2_s, mN_s, mF_s, mV_s, mC_s, aCons_s, aNil_s, aApp_s, mIf_s, mTst_s, toB_s, mTru_s, cAnd_s, cOr_s, cNot_s, cYes_s, mAnd_s, mSl_s, oPt_s, oNo_s, mFrz_s, gN_s, gT_s, List.getElem?_cons_zero, List.getElem?_cons_succ, bind_ok, to_ok, Sm.lift_some, li_some, oz_some, bz_some, nox_ok, e1, e2, h3, h11, h12, h13, t3, n3, la, mu, p1, p3, sm, tr_b]
  rfl
end
end K39
set_option maxHeartbeats 4000000
/-! K39U: an Order that changes, lap by lap. -/
namespace K39
open PySem PySem.Spec PyProof.Rows L2 Sm Hn
theorem hand_ok (S : Sto) : F__law_by_hand_right [] S = .ok (.d (.bl true)) S := hand_of (F := R__law_by_hand_right) (by decide +kernel) S
/-! ### a drawn row -/
abbrev eT (P : Dt) (z : Option Dv) : Sm.Env := [some (.loc 0), some (.d P), some (.loc 1), some (.loc 2), z]
theorem mixed_t {S : Sto} {n : Nat} {o : Bo} {m : Nat} {L : List Dt} (hz : L.length < 1000) (hS : S[n]? = some o) (u : Urn o (L.length + m)) :
    ∃ (r : List Dt) (o' : Bo), F__law_mixed [.loc n, .d (.tup L)] S = .ok (.d (.tup r)) (S.set n o') ∧ r.Perm L ∧ Urn o' m := by
  obtain ⟨r, o', z', e, hp, u'⟩ := mixed_loop (rgL 0 L.length) (.tup L) L [] m o none (by unfold rgL; rw [List.length_map, List.length_range]) hz (by rw [List.length_nil, Nat.zero_add]; exact hz) u
  refine ⟨r, o', view_ok (ts := [.tup L]) (rest := [.lst [], .lst (r.map .d)]) hS u.pure (runB_rt (n := 5) (p := 2) (b := b__law_mixed) (ds := [.loc 0, .d (.tup L)]) rfl ?_) u'.pure, hp, u'⟩
  show b__law_mixed [some (.loc 0), some (.d (.tup L)), none, none, none] [o] = _
  have q1 : sPars [2, 3] (aCons (mN pListB (aCons (mV 1) (aNil))) (aCons (mN pLstB (aNil)) (aNil))) [some (.loc 0), some (.d (.tup L)), none, none, none] [o] = .nx (eT (.tup L) none) [o, .lst (L.map .d), .lst []] := by
    have p1 : pListB [.d (.tup L)] [o] = some (.loc 1, [o, .lst (L.map .d)]) := by
      simp [pListB, itemsOf, dctAt, seqAt, lstAt]
    simp only [sPars_s, aCons_s, mN_s, mV_s, aNil_s, List.getElem?_cons_zero, List.getElem?_cons_succ, bind_ok, p1, Sm.lift_some, pLstB_nil, to_ok]
    rfl
  have ql : ∀ S, pLen [.d (.tup L)] S = some (.d (.int (L.length : Int)), S) := fun S => by
    simp [pLen, dctAt, seqAt, lstAt]
  have qi : ∀ S, iRg rg1 (aCons (mN pLen (aCons (mV 1) (aNil))) (aNil)) (eT (.tup L) none) S = .ok (rgL 0 L.length) S := fun S =>
    iRg_ok (ds := [.d (.int (L.length : Int))]) (by simp only [aCons_s, mN_s, mV_s, aNil_s, List.getElem?_cons_zero, List.getElem?_cons_succ, bind_ok, ql, Sm.lift_some]) (q_rg hz)
  have q3 : sRet (mN pTuple (aCons (mV 3) (aNil))) (eT (.tup L) z') [o', .lst [], .lst (r.map .d)] = .rt (.d (.tup r)) [o', .lst [], .lst (r.map .d)] := by
    have e1 : pTuple [.loc 2] [o', .lst [], .lst (r.map .d)] = some (.d (.tup r), [o', .lst [], .lst (r.map .d)]) := by
      simp [pTuple, dctAt, lstT, lstAt]
    simp only [sRet_s, mN_s, aCons_s, mV_s, aNil_s, List.getElem?_cons_zero, List.getElem?_cons_succ, bind_ok, e1, Sm.lift_some, to_ok]
  unfold b__law_mixed
  rw [sSeq_s, q1, sqz_nx, sSeq_s, sFor_s, qi, to_ok]
  rw [show forL (gN 4) _ (rgL 0 L.length) (eT (.tup L) none) [o, .lst (L.map .d), .lst []] = _ from e, sqz_nx, q3]
/-! ### an Order is made -/
section
variable {S : Sto} {o : Bo} {n : Nat} {row its l : List Str} {x : Str}
theorem init_o {d : Dv} (h : ∀ S', snapT (F_tupled 8) [d] (S ++ S') = .ok (.d (tupS l)) (S ++ S')) : F_Order_init [.loc S.length, d] (S ++ [.ins 0 []]) = .ok (.d .non) (S ++ [insO l]) := by
  refine runB_nx (n := 2) (p := 2) (b := b_Order_init) (ds := [.loc S.length, d]) (ρ' := [some (.loc S.length), some d]) rfl ?_
  show b_Order_init [some (.loc S.length), some d] (S ++ [.ins 0 []]) = _
  have l1 : pList [.d (tupS l)] (S ++ [.ins 0 []]) = some (.d (lstS l), S ++ [.ins 0 []]) := by
    simp only [pList, itemsOf, dctAt, seqAt, lstAt, Option.bind_some, pures_d]
  have hs := h [.ins 0 []]
  have e : mN pList (aCons (mF (snapT (F_tupled 8)) (aCons (mV 1) (aNil))) (aNil)) [some (.loc S.length), some d] (S ++ [.ins 0 []]) = .ok (.d (lstS l)) (S ++ [.ins 0 []]) := by
    simp only [sSeq_s, sSet_s, sRet_s, sDrop_s, sIf_s, sFor_s, sPars_s, sNil_s, sqz_nx, sqz_rt, m1_s, m2_s, mN_s, mF_s, mV_s, mC_s, aCons_s, aNil_s, aApp_s, mIf_s, mTst_s, toB_s, mTru_s, cAnd_s, cOr_s, cNot_s, cYes_s, mAnd_s, mSl_s, oPt_s, oNo_s, mFrz_s, gN_s, gT_s, List.getElem?_cons_zero, List.getElem?_cons_succ, bind_ok, to_ok, Sm.lift_some, li_some, oz_some, bz_some, nox_ok, hs, l1]
  have g : (S ++ [Bo.ins 0 []])[S.length]? = some (.ins 0 []) := by
    rw [at_app0]
    rfl
  have f : stFld 0 0 (.loc S.length) (.d (lstS l)) (S ++ [.ins 0 []]) = some (S ++ [insO l]) := by
    unfold stFld
    simp only [g]
    rw [set_app0]
    rfl
  unfold b_Order_init
  show (mN pList _ _ _).to _ _ = _
  rw [e, to_ok]
  show oz (stFld 0 0 (.loc S.length) (.d (lstS l)) (S ++ [.ins 0 []])) _ = _
  rw [f]
  rfl
theorem make_o {d : Dv} {ma : M (List Dv)} {ρ : Sm.Env} (hm : ma ρ S = .ok [d] S) (h : ∀ S', snapT (F_tupled 8) [d] (S ++ S') = .ok (.d (tupS l)) (S ++ S')) : mMake 0 F_Order_init ma ρ S = .ok (.loc S.length) (S ++ [insO l]) := by
  unfold mMake
  rw [hm, bind_ok, init_o h]
  rfl
/-! ### == and != and in -/
theorem knd_o {k : Nat} (h : S[k]? = some (insO l)) : knd [0] (.loc k) S = true := by
  unfold knd pIsaL
  simp only [h]
  rfl
theorem has_7 {k : Nat} (h : S[k]? = some (insO l)) : F_Order___contains__ [.loc k, .d (.int 7)] S = .ok (.d (.bl false)) S := by
  have f := f_o h
  have p1 : pIn (.d (.int 7)) (.d (lstS l)) S = some (.d (.bl false), S) := by
    have h1 : (l.map Dt.str).all flatT = true := List.all_eq_true.mpr fun t ht => by
      obtain ⟨s, _, rfl⟩ := List.mem_map.mp ht
      rfl
    have h2 : ((l.map Dt.str).any fun t => eqF t (.int 7)) = false := by
      rw [List.any_eq_false]
      intro t ht
      obtain ⟨s, _, rfl⟩ := List.mem_map.mp ht
      exact fun z => by simp [eqF] at z
    have e : inDv S (.d (.int 7)) (.d (lstS l)) = some false := by
      unfold inDv
      rw [show dctAt S (.d (lstS l)) = none from rfl, show seqAt S (.d (lstS l)) = some ((l.map .str).map .d) from rfl]
      unfold inSeq
      simp only [pures_d, h1, h2]
      rfl
    unfold pIn
    rw [e]
  refine runB_rt (n := 2) (p := 2) (b := b_Order___contains__) (ds := [.loc k, .d (.int 7)]) rfl ?_
  show b_Order___contains__ [some (.loc k), some (.d (.int 7))] S = _
  unfold b_Order___contains__
  simp only [sSeq_s, sSet_s, sRet_s, sDrop_s, sIf_s, sFor_s, sPars_s, sNil_s, sqz_nx, sqz_rt, m1_s, m2_s, mN_s, mF_s, mV_s, mC_s, aCons_s, aNil_s, aApp_s, mIf_s, mTst_s, toB_s, mTru_s, cAnd_s, cOr_s, cNot_s, cYes_s, mAnd_s, mSl_s, oPt_s, oNo_s, mFrz_s, gN_s, gT_s, List.getElem?_cons_zero, List.getElem?_cons_succ, bind_ok, to_ok, Sm.lift_some, li_some, oz_some, bz_some, nox_ok, f, p1]
theorem eqO_ll {neg : Bool} {mx my : M Dv} {ρ : Sm.Env} {S1 : Sto} {j k : Nat} {l' : List Str} (hx : mx ρ S = .ok (.loc j) S) (hy : my ρ S = .ok (.loc k) S1) (h1 : S1[j]? = some (insO l)) (h2 : S1[k]? = some (insO l')) (ok : okN l) (ok' : okN l') :
    mEqO [0] 0 F_Order___eq__ neg mx my ρ S = .ok (.d (.bl (if neg = true then !decide (l = l') else decide (l = l')))) S1 := by
  unfold mEqO
  rw [hx, bind_ok, hy, bind_ok, if_pos (by rw [ins_is h1, knd_o h2]; rfl), eq_o h1 h2 ok ok', bind_ok]
theorem eqO_lt {mx my : M Dv} {ρ : Sm.Env} {j : Nat} {t : List Dt} (hx : mx ρ S = .ok (.loc j) S) (hy : my ρ S = .ok (.d (.tup t)) S) (h1 : S[j]? = some (insO l)) : mEqO [0] 0 F_Order___eq__ false mx my ρ S = .ok (.d (.bl false)) S := by
  unfold mEqO
  rw [hx, bind_ok, hy, bind_ok, if_pos (by rw [ins_is h1]; rfl), eq_ot, bind_ok]
  rfl
theorem inO {mx mo : M Dv} {ρ : Sm.Env} {j : Nat} {d : Dv} {b : Bool} (hx : mx ρ S = .ok d S) (ho : mo ρ S = .ok (.loc j) S) (h1 : S[j]? = some (insO l)) (hc : F_Order___contains__ [.loc j, d] S = .ok (.d (.bl b)) S) : mInM 0 F_Order___contains__ false mx mo ρ S = .ok (.d (.bl b)) S := by
  unfold mInM
  rw [hx, bind_ok, ho, bind_ok, if_pos (ins_is h1), hc, bind_ok]
  rfl
/-- the last look of a lap -/
def alikeL (row its : List Str) (x : Str) : List Dt := [.bl true, .bl (decide (row = its)), .bl (!decide (row = its)), .bl false, .bl (decide (x ∈ row)), .bl false]
abbrev eR (n : Nat) (P z2 z7 x8 x9 x10 x11 x12 x13 x14 : Option Dv) : Sm.Env := [some (.loc 0), P, z2, some (.loc n), some (.loc (n + 1)), some (.loc (n + 2)), some (.loc (n + 3)), z7, x8, x9, x10, x11, x12, x13, x14]
theorem alike_ok (w : Wh S o n row row its) (ok : okN row) (oki : okN its) {P z2 z7 x9 x10 x11 x12 x13 x14 : Option Dv} {Q : Sz → Prop} (hQ : ∀ S' y10 y14, Wh S' o n row row its → Q (.nx (eR n P z2 z7 (some (.d (.str x))) x9 y10 x11 x12 x13 y14) S')) :
    Wq Q ((sSeq (sSet 14 (mN pLstB (aCons (mEqO [0] 0 F_Order___eq__ false (mV 5) (mMake 0 F_Order_init (aCons (mV 3) (aNil)))) (aCons (mEqO [0] 0 F_Order___eq__ false (mV 5) (mV 6)) (aCons (mEqO [0] 0 F_Order___eq__ true (mV 5) (mV 6)) (aCons (mEqO [0] 0 F_Order___eq__ false (mV 5) (mN pTuple (aCons (mV 3) (aNil)))) (aCons (mInM 0 F_Order___contains__ false (mV 8) (mV 5)) (aNil))))))))
    (sSeq (sDrop (mLm pAppend (mV 14) (aCons (mInM 0 F_Order___contains__ false (mC (.int 7)) (mV 5)) (aNil))))
    (sSeq (sSet 10 (mN pLst (aCons (mC (.bl true)) (aCons (m2 pEq (mPropM 0 F_Order_line (mV 6)) (mN pTuple (aCons (mV 3) (aNil)))) (aCons (m2 pNe (mPropM 0 F_Order_line (mV 6)) (mN pTuple (aCons (mV 3) (aNil)))) (aCons (mC (.bl false)) (aCons (m2 pIn (mV 8) (mV 3)) (aCons (mC (.bl false)) (aNil)))))))))
    (sIf (cNot (mTru pTru (mF (snap (F__law_same 8)) (aCons (mV 14) (aCons (mV 10) (aNil)))))) (sRet (mC (.bl false))) (sNil))))) (eR n P z2 z7 (some (.d (.str x))) x9 x10 x11 x12 x13 x14) S) := by
  have v3 : ∀ (y10 y14 : Option Dv) S, mV 3 (eR n P z2 z7 (some (.d (.str x))) x9 y10 x11 x12 x13 y14) S = .ok (.loc n) S := fun _ _ _ => rfl
  have v5 : ∀ (y10 y14 : Option Dv) S, mV 5 (eR n P z2 z7 (some (.d (.str x))) x9 y10 x11 x12 x13 y14) S = .ok (.loc (n + 2)) S := fun _ _ _ => rfl
  have v6 : ∀ (y10 y14 : Option Dv) S, mV 6 (eR n P z2 z7 (some (.d (.str x))) x9 y10 x11 x12 x13 y14) S = .ok (.loc (n + 3)) S := fun _ _ _ => rfl
  have v8 : ∀ (y10 y14 : Option Dv) S, mV 8 (eR n P z2 z7 (some (.d (.str x))) x9 y10 x11 x12 x13 y14) S = .ok (.d (.str x)) S := fun _ _ _ => rfl
  have w1 := w.app [insO row]
  have mk : mMake 0 F_Order_init (aCons (mV 3) (aNil)) (eR n P z2 z7 (some (.d (.str x))) x9 x10 x11 x12 x13 x14) S = .ok (.loc S.length) (S ++ [insO row]) := make_o (d := .loc n) rfl fun S' => snap_b ok (w.app S').r
  have hn : (S ++ [insO row])[S.length]? = some (insO row) := by
    rw [at_app0]
    rfl
  have a1 := eqO_ll (neg := false) (v5 x10 x14 S) mk w1.h hn ok ok
  have a2 := eqO_ll (neg := false) (v5 x10 x14 (S ++ [insO row])) (v6 x10 x14 (S ++ [insO row])) w1.h w1.i ok oki
  have a3 := eqO_ll (neg := true) (v5 x10 x14 (S ++ [insO row])) (v6 x10 x14 (S ++ [insO row])) w1.h w1.i ok oki
  have tp : mN pTuple (aCons (mV 3) (aNil)) (eR n P z2 z7 (some (.d (.str x))) x9 x10 x11 x12 x13 x14) (S ++ [insO row]) = .ok (.d (tupS row)) (S ++ [insO row]) := ex_mN (ex_a1 (v3 x10 x14 _)) (tup_b w1)
  have a4 := eqO_lt (v5 x10 x14 (S ++ [insO row])) tp w1.h
  have a5 := inO (v8 x10 x14 (S ++ [insO row])) (v5 x10 x14 (S ++ [insO row])) w1.h (has_o (x := x) w1.h)
  rw [if_neg (by decide)] at a1 a2
  rw [if_pos rfl] at a3
  rw [decide_eq_true (rfl : row = row)] at a1
  have pb : pLstB [.d (.bl true), .d (.bl (decide (row = its))), .d (.bl (!decide (row = its))), .d (.bl false), .d (.bl (decide (x ∈ row)))] (S ++ [insO row]) = some (.loc (S ++ [insO row]).length, (S ++ [insO row]) ++ [.lst [.d (.bl true), .d (.bl (decide (row = its))), .d (.bl (!decide (row = its))), .d (.bl false), .d (.bl (decide (x ∈ row)))]]) := if_pos (by show 5 ≤ _; omega)
  generalize hS1 : S ++ [insO row] = S1 at *
  have s1 : sSet 14 (mN pLstB (aCons (mEqO [0] 0 F_Order___eq__ false (mV 5) (mMake 0 F_Order_init (aCons (mV 3) (aNil)))) (aCons (mEqO [0] 0 F_Order___eq__ false (mV 5) (mV 6)) (aCons (mEqO [0] 0 F_Order___eq__ true (mV 5) (mV 6)) (aCons (mEqO [0] 0 F_Order___eq__ false (mV 5) (mN pTuple (aCons (mV 3) (aNil)))) (aCons (mInM 0 F_Order___contains__ false (mV 8) (mV 5)) (aNil))))))) (eR n P z2 z7 (some (.d (.str x))) x9 x10 x11 x12 x13 x14) S = .nx (eR n P z2 z7 (some (.d (.str x))) x9 x10 x11 x12 x13 (some (.loc S1.length))) (S1 ++ [.lst [.d (.bl true), .d (.bl (decide (row = its))), .d (.bl (!decide (row = its))), .d (.bl false), .d (.bl (decide (x ∈ row)))]]) := by
    refine st_set (d := .loc S1.length) ?_
    rw [mN_s, aCons_s, a1, bind_ok, aCons_s, a2, bind_ok, aCons_s, a3, bind_ok, aCons_s, a4, bind_ok, aCons_s, a5, bind_ok, aNil_s, bind_ok, bind_ok, bind_ok, bind_ok, bind_ok, bind_ok, pb, Sm.lift_some]
  refine Wq.seq s1 ?_
  have w2 := w1.app [.lst [.d (.bl true), .d (.bl (decide (row = its))), .d (.bl (!decide (row = its))), .d (.bl false), .d (.bl (decide (x ∈ row)))]]
  have a6 := inO (show mC (.int 7) (eR n P z2 z7 (some (.d (.str x))) x9 x10 x11 x12 x13 (some (.loc S1.length))) _ = .ok (.d (.int 7)) (S1 ++ [.lst [.d (.bl true), .d (.bl (decide (row = its))), .d (.bl (!decide (row = its))), .d (.bl false), .d (.bl (decide (x ∈ row)))]]) from rfl) (v5 x10 (some (.loc S1.length)) _) w2.h (has_7 w2.h)
  refine Wq.seq (app_now (n := S1.length) (xs := [.d (.bl true), .d (.bl (decide (row = its))), .d (.bl (!decide (row = its))), .d (.bl false), .d (.bl (decide (x ∈ row)))]) rfl (ex_a1 a6) (by rw [at_app0]; rfl) (by show 5 < _; omega)) ?_
  rw [set_app0]
  have w3 := w1.app [.lst ((alikeL row its x).map .d)]
  show Wq Q ((sSeq _ _) (eR n P z2 z7 (some (.d (.str x))) x9 x10 x11 x12 x13 (some (.loc S1.length))) (S1 ++ [.lst ((alikeL row its x).map .d)]))
  have hb : (S1 ++ [Bo.lst ((alikeL row its x).map .d)])[S1.length]? = some (.lst ((alikeL row its x).map .d)) := by
    rw [at_app0]
    rfl
  generalize S1 ++ [Bo.lst ((alikeL row its x).map .d)] = S2 at w3 hb ⊢
  have t3 := tup_b w3
  have li : mPropM 0 F_Order_line (mV 6) (eR n P z2 z7 (some (.d (.str x))) x9 x10 x11 x12 x13 (some (.loc S1.length))) S2 = .ok (.d (tupS its)) S2 := by
    show (mV 6 _ S2).bind _ = _
    rw [v6, bind_ok, if_pos (ins_is w3.i), line_o w3.i]
    rfl
  have tz : ∀ {l : List Str}, okN l → Tz 1 (tupS l) := fun h => Tz.names h.1
  have q1 : pEq (.d (tupS its)) (.d (tupS row)) S2 = some (.d (.bl (decide (row = its))), S2) := eq_tz (tz oki) (tz ok) (by omega) (by omega) ⟨fun z => by injection z with z; exact (str_inj z).symm, fun z => by rw [z]⟩ S2
  have q2 : pNe (.d (tupS its)) (.d (tupS row)) S2 = some (.d (.bl (!decide (row = its))), S2) := ne_tz (tz oki) (tz ok) (by omega) (by omega) ⟨fun z => by injection z with z; exact (str_inj z).symm, fun z => by rw [z]⟩ S2
  have q3 := (in_b w3 (x := x)).1
  have pl : pLst [.d (.bl true), .d (.bl (decide (row = its))), .d (.bl (!decide (row = its))), .d (.bl false), .d (.bl (decide (x ∈ row))), .d (.bl false)] S2 = some (.d (.lst (alikeL row its x)), S2) := rfl
  have s3 : sSet 10 (mN pLst (aCons (mC (.bl true)) (aCons (m2 pEq (mPropM 0 F_Order_line (mV 6)) (mN pTuple (aCons (mV 3) (aNil)))) (aCons (m2 pNe (mPropM 0 F_Order_line (mV 6)) (mN pTuple (aCons (mV 3) (aNil)))) (aCons (mC (.bl false)) (aCons (m2 pIn (mV 8) (mV 3)) (aCons (mC (.bl false)) (aNil)))))))) (eR n P z2 z7 (some (.d (.str x))) x9 x10 x11 x12 x13 (some (.loc S1.length))) S2 = .nx (eR n P z2 z7 (some (.d (.str x))) x9 (some (.d (.lst (alikeL row its x)))) x11 x12 x13 (some (.loc S1.length))) S2 := by
    refine st_set (d := .d (.lst (alikeL row its x))) (S1 := S2) ?_
    simp only [sSeq_s, sSet_s, sRet_s, sDrop_s, sIf_s, sFor_s, sPars_s, sNil_s, sqz_nx, sqz_rt, m1_s, m2_s, mN_s, mF_s, mV_s, mC_s, aCons_s, aNil_s, aApp_s, mIf_s, mTst_s, toB_s, mTru_s, cAnd_s, cOr_s, cNot_s, cYes_s, mAnd_s, mSl_s, oPt_s, oNo_s, mFrz_s, gN_s, gT_s, List.getElem?_cons_zero, List.getElem?_cons_succ, bind_ok, to_ok, Sm.lift_some, li_some, oz_some, bz_some, nox_ok, li, t3, q1, q2, q3, pl]
  refine Wq.seq s3 ?_
  have ty : Ty 1 (.lst (alikeL row its x)) := .inr ⟨_, .inr rfl, by show 6 ≤ 1000; omega, fun y hy => by
    unfold alikeL at hy
    simp only [List.mem_cons, List.not_mem_nil, or_false] at hy
    rcases hy with rfl | rfl | rfl | rfl | rfl | rfl <;> exact ty_bl _⟩
  have sm : snap (F__law_same 8) [.loc S1.length, .d (.lst (alikeL row its x))] S2 = .ok (.d (.bl true)) S2 := snap_ok (ts := [.lst (alikeL row its x), .lst (alikeL row its x)]) (S1 := []) (by rw [List.map_cons, List.map_cons, deep_l hb, deep_d]; rfl) (same1 ty (by omega) []) rfl
  refine Wq.one (r := .nx (eR n P z2 z7 (some (.d (.str x))) x9 (some (.d (.lst (alikeL row its x)))) x11 x12 x13 (some (.loc S1.length))) S2) ?_ (hQ S2 _ _ w3)
  simp only [sSeq_s, sSet_s, sRet_s, sDrop_s, sIf_s, sFor_s, sPars_s, sNil_s, sqz_nx, sqz_rt, m1_s, m2_s, mN_s, mF_s, mV_s, mC_s, aCons_s, aNil_s, aApp_s, mIf_s, mTst_s, toB_s, mTru_s, cAnd_s, cOr_s, cNot_s, cYes_s, mAnd_s, mSl_s, oPt_s, oNo_s, mFrz_s, gN_s, gT_s, List.getElem?_cons_zero, List.getElem?_cons_succ, bind_ok, to_ok, Sm.lift_some, li_some, oz_some, bz_some, nox_ok, sm, tr_b]
  rfl
end
end K39
set_option maxHeartbeats 4000000
/-! K39V: laps and turns. -/
namespace K39
open PySem PySem.Spec PyProof.Rows L2 Sm Hn
section
variable {S : Sto} {o : Bo} {n m : Nat} {row its : List Str}
theorem sortS_ok {l : List Str} (ok : okN l) : okN (sortS l) := ok.perm (sortS_perm l)
theorem lap_ok (w : Wh S o n row row its) (ok : okN row) (oki : okN its) (nd : row.Nodup) (hz : 0 < row.length ∧ row.length ≤ 20) (u : Urn o (50 + m)) (P z2 z7 x8 x9 x10 x11 x12 x13 x14 : Option Dv) :
    Wq (fun r => ∃ S' o' row' y8 y9 y10 y11 y12 y13 y14, row'.Perm row ∧ Wh S' o' n row' row' its ∧ Urn o' m ∧ r = .nx (eR n P z2 z7 y8 y9 y10 y11 y12 y13 y14) S') (l1__law_right (eR n P z2 z7 x8 x9 x10 x11 x12 x13 x14) S) := by
  -- who, and where
  have fz := fr_add w ok.2 (ρ := eR n P z2 z7 x8 x9 x10 x11 x12 x13 x14) rfl
  have wd := w.app [Bo.dead]
  obtain ⟨t, o1, e1, ht, u1⟩ := of_ok (ts := (row ++ [("none" : Str)]).map Dt.str) wd.u (m := 49 + m) (u.less (by omega)) (by rw [List.length_map, List.length_append]; show 0 < _ + 1; omega) (by rw [List.length_map, List.length_append, List.length_singleton]; omega)
  obtain ⟨x, hx, rfl⟩ := List.mem_map.mp ht
  have okx : PyData.strOk x = true := by
    rcases List.mem_append.mp hx with h | h
    · exact ok.1 x h
    · rw [List.mem_singleton.mp h]
      decide +kernel
  have wf := wd.urn (o' := o1)
  have e1' : F__law_of [.loc 0, .d (lstS (row ++ [("none" : Str)]))] (S ++ [Bo.dead]) = .ok (.d (.str x)) ((S ++ [Bo.dead]).set 0 o1) := e1
  generalize (S ++ [Bo.dead]).set 0 o1 = S1 at wf e1'
  obtain ⟨q, o2, e2, q0, q1, u2⟩ := take_ok (m := 48 + m) (low := (row.length : Int)) wf.u (u1.less (by omega)) (by omega) (by omega)
  obtain ⟨k, rfl⟩ : ∃ k : Nat, q = (k : Int) := ⟨q.toNat, by omega⟩
  have n1 := len_b wf
  have s1 : sPars [8, 9] (aCons (mF F__law_of (aCons (mV 0) (aCons (mFrz (m2 pAddB (mV 3) (mN pLst (aCons (mC (.str ("none" : Str))) (aNil))))) (aNil)))) (aCons (mF F__law_take (aCons (mV 0) (aCons (mN pLen (aCons (mV 3) (aNil))) (aNil)))) (aNil))) (eR n P z2 z7 x8 x9 x10 x11 x12 x13 x14) S = .nx (eR n P z2 z7 (some (.d (.str x))) (some (.d (.int (k : Int)))) x10 x11 x12 x13 x14) (S1.set 0 o2) := by
    refine st_pars (ds := [.d (.str x), .d (.int (k : Int))]) ?_ rfl
    have a0 : mF F__law_of (aCons (mV 0) (aCons (mFrz (m2 pAddB (mV 3) (mN pLst (aCons (mC (.str ("none" : Str))) (aNil))))) (aNil))) (eR n P z2 z7 x8 x9 x10 x11 x12 x13 x14) S = .ok (.d (.str x)) S1 := by
      refine ex_mF (ds := [.loc 0, .d (lstS (row ++ [("none" : Str)]))]) (S1 := S ++ [Bo.dead]) ?_ e1'
      show (mV 0 _ S).bind _ = _
      rw [show mV 0 (eR n P z2 z7 x8 x9 x10 x11 x12 x13 x14) S = .ok (.loc 0) S from rfl, bind_ok, ex_a1 fz, bind_ok]
    have a1 : mF F__law_take (aCons (mV 0) (aCons (mN pLen (aCons (mV 3) (aNil))) (aNil))) (eR n P z2 z7 x8 x9 x10 x11 x12 x13 x14) S1 = .ok (.d (.int (k : Int))) (S1.set 0 o2) := by
      refine ex_mF (ds := [.loc 0, .d (.int (row.length : Int))]) (S1 := S1) ?_ e2
      simp only [sSeq_s, sSet_s, sRet_s, sDrop_s, sIf_s, sFor_s, sPars_s, sNil_s, sqz_nx, sqz_rt, m1_s, m2_s, mN_s, mF_s, mV_s, mC_s, aCons_s, aNil_s, aApp_s, mIf_s, mTst_s, toB_s, mTru_s, cAnd_s, cOr_s, cNot_s, cYes_s, mAnd_s, mSl_s, oPt_s, oNo_s, mFrz_s, gN_s, gT_s, List.getElem?_cons_zero, List.getElem?_cons_succ, bind_ok, to_ok, Sm.lift_some, li_some, oz_some, bz_some, nox_ok, n1]
    rw [aCons_s, a0, bind_ok, ex_a1 a1, bind_ok]
  refine Wq.seq s1 ?_
  have w2 := wf.urn (o' := o2)
  generalize S1.set 0 o2 = S2 at w2
  have hk : k ≤ 1000 := by omega
  -- what stands at the name
  refine Wq.seq (st_set (gd_ok w2 (x := x) rfl rfl)) ?_
  have hg := heard_get (x := x) w2.h 0
  have sg := same1 (ty_get (row := row) okx) (by omega) S2
  refine Wq.seq (ρ1 := eR n P z2 z7 (some (.d (.str x))) (some (.d (.int (k : Int)))) (some (.d (getD row x))) x11 x12 x13 x14) (S1 := S2) (st_if_f (S1 := S2) (by
    show cNot (mTru pTru (mF (F__law_same 8) (aCons (mF F__law_heard (aCons (mV 5) (aCons (mC (.str ("get" : Str))) (aCons (mV 8) (aCons (mC (.int 0)) (aNil)))))) (aCons (mV 10) (aNil))))) (eR n P z2 z7 (some (.d (.str x))) (some (.d (.int (k : Int)))) (some (.d (getD row x))) x11 x12 x13 x14) S2 = _
    simp only [sSeq_s, sSet_s, sRet_s, sDrop_s, sIf_s, sFor_s, sPars_s, sNil_s, sqz_nx, sqz_rt, m1_s, m2_s, mN_s, mF_s, mV_s, mC_s, aCons_s, aNil_s, aApp_s, mIf_s, mTst_s, toB_s, mTru_s, cAnd_s, cOr_s, cNot_s, cYes_s, mAnd_s, mSl_s, oPt_s, oNo_s, mFrz_s, gN_s, gT_s, List.getElem?_cons_zero, List.getElem?_cons_succ, bind_ok, to_ok, Sm.lift_some, li_some, oz_some, bz_some, nox_ok, hg, sg, tr_b]
    rfl) rfl) ?_
  refine Wq.seq (st_set (pd_ok w2 (x := x) rfl rfl)) ?_
  have hp := heard_put (k := k) w2.h ok okx hk
  have sp := same1 (ty_put (row := row) okx) (by omega) (S2.set (n + 2) (insO (putR row x k)))
  refine Wq.seq (ρ1 := eR n P z2 z7 (some (.d (.str x))) (some (.d (.int (k : Int)))) (some (.d (putD row x))) x11 x12 x13 x14) (S1 := S2.set (n + 2) (insO (putR row x k))) (st_if_f (S1 := S2.set (n + 2) (insO (putR row x k))) (by
    show cNot (mTru pTru (mF (F__law_same 8) (aCons (mF F__law_heard (aCons (mV 5) (aCons (mC (.str ("put" : Str))) (aCons (mV 8) (aCons (mV 9) (aNil)))))) (aCons (mV 10) (aNil))))) (eR n P z2 z7 (some (.d (.str x))) (some (.d (.int (k : Int)))) (some (.d (putD row x))) x11 x12 x13 x14) S2 = _
    simp only [sSeq_s, sSet_s, sRet_s, sDrop_s, sIf_s, sFor_s, sPars_s, sNil_s, sqz_nx, sqz_rt, m1_s, m2_s, mN_s, mF_s, mV_s, mC_s, aCons_s, aNil_s, aApp_s, mIf_s, mTst_s, toB_s, mTru_s, cAnd_s, cOr_s, cNot_s, cYes_s, mAnd_s, mSl_s, oPt_s, oNo_s, mFrz_s, gN_s, gT_s, List.getElem?_cons_zero, List.getElem?_cons_succ, bind_ok, to_ok, Sm.lift_some, li_some, oz_some, bz_some, nox_ok, hp, sp, tr_b]
    rfl) rfl) ?_
  have w3 := w2.hst (l := putR row x k)
  generalize S2.set (n + 2) (insO (putR row x k)) = S3 at w3 ⊢
  refine Wq.seq (row_ok w3 nd (by omega) hk (x := x) rfl rfl rfl) ?_
  have w4 := w3.rw (l := putR row x k)
  generalize S3.set n (bx (putR row x k)) = S4 at w4 ⊢
  have pr : (putR row x k).Perm row := putR_perm nd
  have ok' := ok.perm pr
  have hz' : (putR row x k).length ≤ 20 := by rw [pr.length_eq]; omega
  generalize putR row x k = rw' at w4 pr ok' hz' ⊢
  -- two drawn sets
  have so : pSorted [.loc n] S4 = some (.d (lstS (sortS rw')), S4) := pSorted_box w4.r ok'.2
  have sl : (sortS rw').length ≤ 20 := by rw [(sortS_perm rw').length_eq]; exact hz'
  obtain ⟨r1, o3, f1, sb1, u3⟩ := few_ok (S := S4) (n := 0) (k := 2) (P := lstS (sortS rw')) (ts := (sortS rw').map .str) (m := 24 + m) rfl (by rw [List.length_map]; omega) w4.u (u2.less (by rw [List.length_map]; omega)) (by omega) (by omega)
  obtain ⟨a, rfl, sa⟩ := sub_strs sb1
  have w5 := w4.urn (o' := o3)
  generalize S4.set 0 o3 = S5 at w5 f1
  have so2 : pSorted [.loc n] S5 = some (.d (lstS (sortS rw')), S5) := pSorted_box w5.r ok'.2
  obtain ⟨r2, o4, f2, sb2, u4⟩ := few_ok (S := S5) (n := 0) (k := 2) (P := lstS (sortS rw')) (ts := (sortS rw').map .str) (m := m) rfl (by rw [List.length_map]; omega) w5.u (u3.less (by rw [List.length_map]; omega)) (by omega) (by omega)
  obtain ⟨b, rfl, sb⟩ := sub_strs sb2
  have w6 := w5.urn (o' := o4)
  have oks := sortS_ok ok'
  have oka : okN a := ⟨fun y hy => oks.1 y (sa.subset hy), Nat.le_trans sa.length_le oks.2⟩
  have okb : okN b := ⟨fun y hy => oks.1 y (sb.subset hy), Nat.le_trans sb.length_le oks.2⟩
  have s7 : sPars [11, 12] (aCons (mF F__law_few (aCons (mV 0) (aCons (mN pSorted (aCons (mV 3) (aNil))) (aCons (mC (.int 2)) (aNil))))) (aCons (mF F__law_few (aCons (mV 0) (aCons (mN pSorted (aCons (mV 3) (aNil))) (aCons (mC (.int 2)) (aNil))))) (aNil))) (eR n P z2 z7 (some (.d (.str x))) (some (.d (.int (k : Int)))) (some (.d (putD row x))) x11 x12 x13 x14) S4 = .nx (eR n P z2 z7 (some (.d (.str x))) (some (.d (.int (k : Int)))) (some (.d (putD row x))) (some (.d (tupS a))) (some (.d (tupS b))) x13 x14) (S5.set 0 o4) := by
    refine st_pars (ds := [.d (tupS a), .d (tupS b)]) ?_ rfl
    simp only [sSeq_s, sSet_s, sRet_s, sDrop_s, sIf_s, sFor_s, sPars_s, sNil_s, sqz_nx, sqz_rt, m1_s, m2_s, mN_s, mF_s, mV_s, mC_s, aCons_s, aNil_s, aApp_s, mIf_s, mTst_s, toB_s, mTru_s, cAnd_s, cOr_s, cNot_s, cYes_s, mAnd_s, mSl_s, oPt_s, oNo_s, mFrz_s, gN_s, gT_s, List.getElem?_cons_zero, List.getElem?_cons_succ, bind_ok, to_ok, Sm.lift_some, li_some, oz_some, bz_some, nox_ok, so, so2, f1, f2]
  refine Wq.seq s7 ?_
  generalize S5.set 0 o4 = S6 at w6 ⊢
  have s8 : sSet 13 (mN pLst (aCons (mMeth 0 F_Order_ahead (mV 5) (aCons (mV 11) (aCons (mV 12) (aNil)))) (aCons (mMeth 0 (kwF [0, 2, 1] [] F_Order_ahead) (mV 5) (aCons (mN pList (aCons (mV 12) (aNil))) (aCons (mN pList (aCons (mV 11) (aNil))) (aNil)))) (aNil)))) (eR n P z2 z7 (some (.d (.str x))) (some (.d (.int (k : Int)))) (some (.d (putD row x))) (some (.d (tupS a))) (some (.d (tupS b))) x13 x14) S6 = .nx (eR n P z2 z7 (some (.d (.str x))) (some (.d (.int (k : Int)))) (some (.d (putD row x))) (some (.d (tupS a))) (some (.d (tupS b))) (some (.d (.lst [.bl (aheadF a b rw'), .bl (aheadF a b rw')]))) x14) S6 := st_set (said_ok w6 ok' oka okb rfl rfl rfl)
  refine Wq.seq s8 ?_
  refine Wq.seq (look_ok w6 ok' oka okb rfl rfl rfl rfl rfl) ?_
  exact alike_ok w6 ok' oki fun S' y10 y14 w7 => ⟨S', o4, rw', _, _, y10, _, _, _, y14, pr, w7, u4, rfl⟩
theorem laps (P z2 : Option Dv) : ∀ (ts : List Dt) (row : List Str) (S : Sto) (o : Bo) (m : Nat) (z7 x8 x9 x10 x11 x12 x13 x14 : Option Dv), Wh S o n row row its → okN row → okN its → row.Nodup → 0 < row.length ∧ row.length ≤ 20 → Urn o (50 * ts.length + m) →
    ∃ S' o' y7 y8 y9 y10 y11 y12 y13 y14, S'[0]? = some o' ∧ Urn o' m ∧ forL (gN 7) l1__law_right ts (eR n P z2 z7 x8 x9 x10 x11 x12 x13 x14) S = .nx (eR n P z2 y7 y8 y9 y10 y11 y12 y13 y14) S'
  | [], row, S, o, m, z7, x8, x9, x10, x11, x12, x13, x14, w, ok, oki, nd, hz, u => ⟨S, o, z7, x8, x9, x10, x11, x12, x13, x14, w.u, u.less (by simp), rfl⟩
  | t :: ts, row, S, o, m, z7, x8, x9, x10, x11, x12, x13, x14, w, ok, oki, nd, hz, u => by
    rw [List.length_cons] at u
    obtain ⟨S1, o1, row1, y8, y9, y10, y11, y12, y13, y14, pr, w1, u1, e1⟩ := lap_ok (m := 50 * ts.length + m) w ok oki nd hz (u.less (by omega)) P z2 (some (.d t)) x8 x9 x10 x11 x12 x13 x14
    obtain ⟨S2, o2, v7, v8, v9, v10, v11, v12, v13, v14, h2, u2, e2⟩ := laps P z2 ts row1 S1 o1 m (some (.d t)) y8 y9 y10 y11 y12 y13 y14 w1 (ok.perm pr) oki (pr.nodup_iff.mpr nd) (by rw [pr.length_eq]; exact hz) u1
    refine ⟨S2, o2, v7, v8, v9, v10, v11, v12, v13, v14, h2, u2, ?_⟩
    rw [forL_nx (ρ1 := eR n P z2 (some (.d t)) x8 x9 x10 x11 x12 x13 x14) rfl e1]
    exact e2
end
def pool7 : List Str := ["a", "ann", "bob", "cat", "dan", "eve", "zzzzzzzz"]
theorem pool7_ok : ∀ y ∈ pool7 ++ [("x" : Str)], PyData.strOk y = true := by decide +kernel
theorem pool7_nd : (pool7 ++ [("x" : Str)]).Nodup := by decide +kernel
theorem turns : ∀ (ts : List Dt) (o : Bo) (J : Sto) (m : Nat) (z : List (Option Dv)), z.length = 13 → Urn o (1000 * ts.length + m) → ∃ o' J' z', z'.length = 13 ∧ Urn o' m ∧ forL (gN 2) l2__law_right ts (some (.loc 0) :: some (.d (lstS pool7)) :: z) (o :: J) = .nx (some (.loc 0) :: some (.d (lstS pool7)) :: z') (o' :: J')
  | [], o, J, m, z, hz, u => ⟨o, J, z, hz, u.less (by simp), rfl⟩
  | t :: ts, o, J, m, z, hz, u => by
    rw [List.length_cons] at u
    obtain ⟨r1, o1, f1, sb1, u1⟩ := few_ok (S := o :: J) (n := 0) (k := 2) (P := lstS pool7) (ts := pool7.map .str) (m := 900 + (1000 * ts.length + m)) rfl (by decide) rfl (u.less (by show 7 + _ ≤ _; omega)) (by omega) (by omega)
    obtain ⟨a, rfl, sa⟩ := sub_strs sb1
    have la : a.length ≤ 7 := sa.length_le
    have f1' : F__law_few [.loc 0, .d (lstS pool7), .d (.int 2)] (o :: J) = .ok (.d (tupS a)) (o1 :: J) := f1
    obtain ⟨r2, o2, f2, pm, u2⟩ := mixed_t (S := o1 :: J) (n := 0) (L := (a ++ [("x" : Str)]).map .str) (m := 600 + (1000 * ts.length + m)) (by rw [List.length_map, List.length_append, List.length_singleton]; omega) rfl (u1.less (by rw [List.length_map, List.length_append, List.length_singleton]; omega))
    obtain ⟨row, rfl, pr⟩ := perm_strs pm
    have f2' : F__law_mixed [.loc 0, .d (tupS (a ++ [("x" : Str)]))] (o1 :: J) = .ok (.d (tupS row)) (o2 :: J) := f2
    have sub : ∀ y ∈ a ++ [("x" : Str)], y ∈ pool7 ++ [("x" : Str)] := fun y hy => by
      rcases List.mem_append.mp hy with h | h
      · exact List.mem_append_left _ (sa.subset h)
      · exact List.mem_append_right _ h
    have ok : okN row := ⟨fun y hy => pool7_ok y (sub y (pr.mem_iff.mp hy)), by rw [pr.length_eq, List.length_append, List.length_singleton]; omega⟩
    have nd : row.Nodup := pr.nodup_iff.mpr ((sa.append_right [("x" : Str)]).nodup pool7_nd)
    have hl : 0 < row.length ∧ row.length ≤ 20 := by rw [pr.length_eq, List.length_append, List.length_singleton]; omega
    have ad : ∀ S, pAdd (.d (tupS a)) (.d (tupS [("x" : Str)])) S = some (.d (tupS (a ++ [("x" : Str)])), S) := fun S => by
      show pAdd (.d (.tup (a.map .str))) (.d (.tup ([("x" : Str)].map .str))) S = _
      rw [show tupS (a ++ [("x" : Str)]) = .tup (a.map Dt.str ++ [("x" : Str)].map Dt.str) by rw [← List.map_append]]
      exact if_pos (by rw [List.length_map]; show _ + 1 ≤ _; omega)
    have pt : ∀ S, pTup [.d (.str ("x" : Str))] S = some (.d (tupS [("x" : Str)]), S) := fun S => rfl
    match z, hz with
    | [z2, z3, z4, z5, z6, z7, z8, z9, z10, z11, z12, z13, z14], _ =>
      have lb : pListB [.d (tupS row)] (o2 :: J) = some (.loc (J.length + 1), (o2 :: J) ++ [bx row]) := by
        rw [bx_eq]
        simp only [pListB, itemsOf, dctAt, seqAt, lstAt, Option.bind_some, pures_d]
        rfl
      have s1 : sSet 3 (mN pListB (aCons (mF F__law_mixed (aCons (mV 0) (aCons (m2 pAdd (mF F__law_few (aCons (mV 0) (aCons (mV 1) (aCons (mC (.int 2)) (aNil))))) (mN pTup (aCons (mC (.str ("x" : Str))) (aNil)))) (aNil)))) (aNil))) [some (.loc 0), some (.d (lstS pool7)), some (.d t), z3, z4, z5, z6, z7, z8, z9, z10, z11, z12, z13, z14] (o :: J) = .nx [some (.loc 0), some (.d (lstS pool7)), some (.d t), some (.loc (J.length + 1)), z4, z5, z6, z7, z8, z9, z10, z11, z12, z13, z14] ((o2 :: J) ++ [bx row]) := by
        refine st_set (d := .loc (J.length + 1)) ?_
        simp only [sSeq_s, sSet_s, sRet_s, sDrop_s, sIf_s, sFor_s, sPars_s, sNil_s, sqz_nx, sqz_rt, m1_s, m2_s, mN_s, mF_s, mV_s, mC_s, aCons_s, aNil_s, aApp_s, mIf_s, mTst_s, toB_s, mTru_s, cAnd_s, cOr_s, cNot_s, cYes_s, mAnd_s, mSl_s, oPt_s, oNo_s, mFrz_s, gN_s, gT_s, List.getElem?_cons_zero, List.getElem?_cons_succ, bind_ok, to_ok, Sm.lift_some, li_some, oz_some, bz_some, nox_ok, f1', pt, ad, f2', lb]
      have b3 : ((o2 :: J) ++ [bx row])[J.length + 1]? = some (bx row) := by
        rw [show J.length + 1 = (o2 :: J).length from rfl, at_app0]
        rfl
      have lb2 : pListB [.loc (J.length + 1)] ((o2 :: J) ++ [bx row]) = some (.loc (J.length + 2), (o2 :: J) ++ [bx row] ++ [bx row]) := by
        have b3' := b3
        rw [bx_eq] at b3' ⊢
        simp only [pListB, itemsOf, dctAt, seqAt, lstAt, b3', Option.bind_some, pures_d]
        simp
      have s2 : sSet 4 (mN pListB (aCons (mV 3) (aNil))) [some (.loc 0), some (.d (lstS pool7)), some (.d t), some (.loc (J.length + 1)), z4, z5, z6, z7, z8, z9, z10, z11, z12, z13, z14] ((o2 :: J) ++ [bx row]) = .nx [some (.loc 0), some (.d (lstS pool7)), some (.d t), some (.loc (J.length + 1)), some (.loc (J.length + 2)), z5, z6, z7, z8, z9, z10, z11, z12, z13, z14] ((o2 :: J) ++ [bx row] ++ [bx row]) := by
        refine st_set (d := .loc (J.length + 2)) ?_
        simp only [sSeq_s, sSet_s, sRet_s, sDrop_s, sIf_s, sFor_s, sPars_s, sNil_s, sqz_nx, sqz_rt, m1_s, m2_s, mN_s, mF_s, mV_s, mC_s, aCons_s, aNil_s, aApp_s, mIf_s, mTst_s, toB_s, mTru_s, cAnd_s, cOr_s, cNot_s, cYes_s, mAnd_s, mSl_s, oPt_s, oNo_s, mFrz_s, gN_s, gT_s, List.getElem?_cons_zero, List.getElem?_cons_succ, bind_ok, to_ok, Sm.lift_some, li_some, oz_some, bz_some, nox_ok, lb2]
      have b4 : ((o2 :: J) ++ [bx row] ++ [bx row])[J.length + 2]? = some (bx row) := by
        rw [show J.length + 2 = ((o2 :: J) ++ [bx row]).length by simp, at_app0]
        rfl
      have b3' : ∀ K, ((o2 :: J) ++ [bx row] ++ [bx row] ++ K)[J.length + 1]? = some (bx row) := fun K => get_app (get_app b3)
      have m1 : mMake 0 F_Order_init (aCons (mV 4) (aNil)) [some (.loc 0), some (.d (lstS pool7)), some (.d t), some (.loc (J.length + 1)), some (.loc (J.length + 2)), z5, z6, z7, z8, z9, z10, z11, z12, z13, z14] ((o2 :: J) ++ [bx row] ++ [bx row]) = .ok (.loc (J.length + 3)) ((o2 :: J) ++ [bx row] ++ [bx row] ++ [insO row]) := by
        have := make_o (S := (o2 :: J) ++ [bx row] ++ [bx row]) (l := row) (d := .loc (J.length + 2)) (ma := aCons (mV 4) aNil) (ρ := [some (.loc 0), some (.d (lstS pool7)), some (.d t), some (.loc (J.length + 1)), some (.loc (J.length + 2)), z5, z6, z7, z8, z9, z10, z11, z12, z13, z14]) rfl (fun S' => snap_b ok (get_app b4))
        rw [this]
        simp
      have tp : mN pTuple (aCons (mV 3) (aNil)) [some (.loc 0), some (.d (lstS pool7)), some (.d t), some (.loc (J.length + 1)), some (.loc (J.length + 2)), z5, z6, z7, z8, z9, z10, z11, z12, z13, z14] ((o2 :: J) ++ [bx row] ++ [bx row] ++ [insO row]) = .ok (.d (tupS row)) ((o2 :: J) ++ [bx row] ++ [bx row] ++ [insO row]) := by
        refine ex_mN (ex_a1 rfl) ?_
        have b := b3' [insO row]
        rw [bx_eq] at b
        simp only [bx_eq] at b ⊢
        simp only [pTuple, dctAt, lstT, lstAt, b, Option.bind_some, pures_d]
      have m2 : mMake 0 F_Order_init (aCons (mN pTuple (aCons (mV 3) (aNil))) (aNil)) [some (.loc 0), some (.d (lstS pool7)), some (.d t), some (.loc (J.length + 1)), some (.loc (J.length + 2)), z5, z6, z7, z8, z9, z10, z11, z12, z13, z14] ((o2 :: J) ++ [bx row] ++ [bx row] ++ [insO row]) = .ok (.loc (J.length + 4)) ((o2 :: J) ++ [bx row] ++ [bx row] ++ [insO row] ++ [insO row]) := by
        rw [make_o (l := row) (d := .d (tupS row)) (ex_a1 tp) (fun S' => snap_t ok _)]
        simp
      have s3 : sPars [5, 6] (aCons (mMake 0 F_Order_init (aCons (mV 4) (aNil))) (aCons (mMake 0 F_Order_init (aCons (mN pTuple (aCons (mV 3) (aNil))) (aNil))) (aNil))) [some (.loc 0), some (.d (lstS pool7)), some (.d t), some (.loc (J.length + 1)), some (.loc (J.length + 2)), z5, z6, z7, z8, z9, z10, z11, z12, z13, z14] ((o2 :: J) ++ [bx row] ++ [bx row]) = .nx (eR (J.length + 1) (some (.d (lstS pool7))) (some (.d t)) z7 z8 z9 z10 z11 z12 z13 z14) ((o2 :: J) ++ [bx row] ++ [bx row] ++ [insO row] ++ [insO row]) := by
        refine st_pars (ds := [.loc (J.length + 3), .loc (J.length + 4)]) ?_ rfl
        rw [aCons_s, m1, bind_ok, ex_a1 m2, bind_ok]
      have b4' : ((o2 :: J) ++ [bx row] ++ [bx row] ++ [insO row] ++ [insO row])[J.length + 2]? = some (.lst (row.map fun s => Dv.d (.str s))) := get_app (get_app b4)
      have s4 : sDrop (mLm pAppend (mV 4) (aCons (mC (.str ("more" : Str))) (aNil))) (eR (J.length + 1) (some (.d (lstS pool7))) (some (.d t)) z7 z8 z9 z10 z11 z12 z13 z14) ((o2 :: J) ++ [bx row] ++ [bx row] ++ [insO row] ++ [insO row]) = .nx (eR (J.length + 1) (some (.d (lstS pool7))) (some (.d t)) z7 z8 z9 z10 z11 z12 z13 z14) (((o2 :: J) ++ [bx row] ++ [bx row] ++ [insO row] ++ [insO row]).set (J.length + 2) (.lst (row.map (fun s => Dv.d (.str s)) ++ [.d (.str "more")]))) :=
        app_now (n := J.length + 2) (xs := row.map fun s => Dv.d (.str s)) (d := .d (.str "more")) rfl rfl b4' (by rw [List.length_map]; omega)
      have wh : Wh (((o2 :: J) ++ [bx row] ++ [bx row] ++ [insO row] ++ [insO row]).set (J.length + 2) (.lst (row.map (fun s => Dv.d (.str s)) ++ [.d (.str "more")]))) o2 (J.length + 1) row row row := by
        refine ⟨get_set rfl (by omega), get_set (by rw [List.append_assoc]; exact b3' _) (by omega), get_set (get_app ?_) (by omega), get_set ?_ (by omega), by omega⟩
        · rw [show J.length + 1 + 2 = ((o2 :: J) ++ [bx row] ++ [bx row]).length by simp, at_app0]
          rfl
        · rw [show J.length + 1 + 3 = ((o2 :: J) ++ [bx row] ++ [bx row] ++ [insO row]).length by simp, at_app0]
          rfl
      have h12 : (rgL 0 12).length = 12 := by
        unfold rgL
        rw [List.length_map, List.length_range]
      obtain ⟨S', o', y7, y8, y9, y10, y11, y12, y13, y14, h0, u', lp⟩ := laps (n := J.length + 1) (some (.d (lstS pool7))) (some (.d t)) (rgL 0 12) row _ o2 (1000 * ts.length + m) z7 z8 z9 z10 z11 z12 z13 z14 wh ok ok nd hl (u2.less (by rw [h12]; omega))
      obtain ⟨J', rfl⟩ : ∃ J', S' = o' :: J' := by
        cases S' with
        | nil => cases h0
        | cons a J' =>
          rw [List.getElem?_cons_zero] at h0
          exact ⟨J', by rw [Option.some.inj h0]⟩
      have s5 : sFor (iRg rg1 (aCons (mC (.int 12)) (aNil))) (gN 7) (l1__law_right) (eR (J.length + 1) (some (.d (lstS pool7))) (some (.d t)) z7 z8 z9 z10 z11 z12 z13 z14) (((o2 :: J) ++ [bx row] ++ [bx row] ++ [insO row] ++ [insO row]).set (J.length + 2) (.lst (row.map (fun s => Dv.d (.str s)) ++ [.d (.str "more")]))) = .nx (eR (J.length + 1) (some (.d (lstS pool7))) (some (.d t)) y7 y8 y9 y10 y11 y12 y13 y14) (o' :: J') := st_for (iRg_ok (ds := [.d (.int ((12 : Nat) : Int))]) rfl (q_rg (n := 12) (by omega))) lp
      obtain ⟨o2', J2, z', hz', u2', ih⟩ := turns ts o' J' m [some (.d t), some (.loc (J.length + 1)), some (.loc (J.length + 1 + 1)), some (.loc (J.length + 1 + 2)), some (.loc (J.length + 1 + 3)), y7, y8, y9, y10, y11, y12, y13, y14] rfl u'
      refine ⟨o2', J2, z', hz', u2', ?_⟩
      rw [forL_nx (ρ1 := [some (.loc 0), some (.d (lstS pool7)), some (.d t), z3, z4, z5, z6, z7, z8, z9, z10, z11, z12, z13, z14]) (ρ2 := eR (J.length + 1) (some (.d (lstS pool7))) (some (.d t)) y7 y8 y9 y10 y11 y12 y13 y14) (S2 := o' :: J') rfl (by
        unfold l2__law_right
        rw [sSeq_s, s1, sqz_nx, sSeq_s, s2, sqz_nx, sSeq_s, s3, sqz_nx, sSeq_s, s4, sqz_nx, s5])]
      exact ih
theorem right_ok {o : Bo} (u : Urn o 1000000) : ∃ o' J', R__law_right [.loc 0] [o] = .ok (.d (.bl true)) (o' :: J') ∧ Urn o' 0 := by
  have h8 : (rgL 0 4).length = 4 := by
    unfold rgL
    rw [List.length_map, List.length_range]
  obtain ⟨o', J', z', hz', u', e⟩ := turns (rgL 0 4) o [] 0 (List.replicate 13 none) rfl (u.less (by rw [h8]; omega))
  refine ⟨o', J', runB_rt (ds := [.loc 0]) rfl ?_, u'⟩
  show b__law_right (some (.loc 0) :: List.replicate 14 none) [o] = _
  have s0 : sIf (cNot (mTru pTru (mF F__law_by_hand_right aNil))) (sRet (mC (.bl false))) (sNil) (some (.loc 0) :: List.replicate 14 none) [o] = .nx (some (.loc 0) :: List.replicate 14 none) [o] := by
    refine st_if_f (S1 := [o]) ?_ rfl
    have := hand_ok [o]
    simp only [sSeq_s, sSet_s, sRet_s, sDrop_s, sIf_s, sFor_s, sPars_s, sNil_s, sqz_nx, sqz_rt, m1_s, m2_s, mN_s, mF_s, mV_s, mC_s, aCons_s, aNil_s, aApp_s, mIf_s, mTst_s, toB_s, mTru_s, cAnd_s, cOr_s, cNot_s, cYes_s, mAnd_s, mSl_s, oPt_s, oNo_s, mFrz_s, gN_s, gT_s, List.getElem?_cons_zero, List.getElem?_cons_succ, bind_ok, to_ok, Sm.lift_some, li_some, oz_some, bz_some, nox_ok, this, tr_b, Bool.not_true]
  unfold b__law_right
  rw [sSeq_s, s0, sqz_nx, sSeq_s]
  show sqz (Sz.nx (some (.loc 0) :: some (.d (lstS pool7)) :: List.replicate 13 none) [o]) _ = _
  rw [sqz_nx, sSeq_s, st_for (iRg_ok (ds := [.d (.int 4)]) rfl rfl) e, sqz_nx]
  rfl
theorem law_true : LawTrue F_law := law_of (c := 1434) (by decide) (by decide) fun S n o hS u => by
  obtain ⟨o', J', e, u'⟩ := right_ok u
  exact ⟨o', view_ok (ts := []) (rest := J') hS u.pure e u'.pure⟩
end K39
open PySem PySem.W PyProof.Rows
set_option maxHeartbeats 0 in
theorem PySem.Challenge.cw_crosshomes_k39_an_order_that_changes_holds : PySem.Challenge.rw_crosshomes_k39_an_order_that_changes.Holds := by
  w_on; o_law; k_head; (case hw => w_witness2)
  k_fill
  refine L2.walk_ofB (l := PySem.Challenge.rw_crosshomes_k39_an_order_that_changes) (n := 63) (k := 13) (x := "_law_script") (CX := fun w => L2.CX PySem.Challenge.pw_crosshomes_k39_an_order_that_changes w) (sp := fun w => Sm.spLaw _) rfl (by decide) rfl ⟨rfl, by decide, by decide⟩ (fun w h Y => PySem.W.kIn_of Y) ?F (fun _ _ a ns hl hb _ hS => Sm.law_hsp hl hb hS) (fun _ _ _ _ _ h => Sm.law_cx h)
  case F =>
    intro w mg fa h KX Gn hmg
    refine' K39.all_mk K39.law_true KX Gn hmg ?aC0 ?a_tupled ?l_tupled ?co_tupled ?k_tupled ?a_Order_init ?i_Order_init ?l_Order_init ?co_Order_init ?k_Order_init ?a_Order_line ?p1_Order_line ?p2_Order_line ?p3_Order_line ?l_Order_line ?co_Order_line ?k_Order_line ?a_Order_check ?i_Order_check ?l_Order_check ?co_Order_check ?k_Order_check ?a_Order___len__ ?i_Order___len__ ?g3_Order___len__ ?l_Order___len__ ?co_Order___len__ ?k_Order___len__ ?a_Order___contains__ ?i_Order___contains__ ?g3_Order___contains__ ?l_Order___contains__ ?co_Order___contains__ ?k_Order___contains__ ?a_Order___getitem__ ?i_Order___getitem__ ?g3_Order___getitem__ ?l_Order___getitem__ ?co_Order___getitem__ ?k_Order___getitem__ ?a_Order___setitem__ ?i_Order___setitem__ ?g3_Order___setitem__ ?l_Order___setitem__ ?co_Order___setitem__ ?k_Order___setitem__ ?a_Order___eq__ ?i_Order___eq__ ?g3_Order___eq__ ?l_Order___eq__ ?co_Order___eq__ ?k_Order___eq__ ?a_Order_ahead ?i_Order_ahead ?l_Order_ahead ?co_Order_ahead ?k_Order_ahead ?a__law_box ?l__law_box ?co__law_box ?k__law_box ?a__law_take ?l__law_take ?co__law_take ?k__law_take ?a__law_cells ?l__law_cells ?co__law_cells ?k__law_cells ?a__law_of ?l__law_of ?co__law_of ?k__law_of ?a__law_same ?l__law_same ?co__law_same ?k__law_same ?a__law_few ?l__law_few ?co__law_few ?k__law_few ?a__law_mixed ?l__law_mixed ?co__law_mixed ?k__law_mixed ?a__law_heard ?l__law_heard ?co__law_heard ?k__law_heard ?a__law_ahead ?l__law_ahead ?co__law_ahead ?k__law_ahead ?a__law_by_hand_right ?l__law_by_hand_right ?co__law_by_hand_right ?k__law_by_hand_right ?a__law_right ?l__law_right ?co__law_right ?k__law_right ?a_law ?l_law ?co_law ?k_law ?pg0 ?ic0 ?po0 ?sa0 ?mk0 ?kc0 ?kcgs ?kcgt ?kca0 ?kcm0 ?kct0 ?kcs0 ?kcT_NoneType_0 ?kcT_bool_0 ?kcT_int_0 ?kcT_str_0 ?kcT_tuple_0 ?kcT_list_0 ?kcT_dict_0 ?nea0 ?neo0 ?nqc0 ?s1_own_names ?s2_own_names ?s3_own_names ?s4_own_names ?s5_own_names ?xa_BadStay ?xd_BadStay ?xt_BadStay ?xb_BadStay ?xs_BadStay ?xn_BadStay ?xa_Clash ?xd_Clash ?xt_Clash ?xb_Clash ?xs_Clash ?xn_Clash ?xa_NoHome ?xd_NoHome ?xt_NoHome ?xb_NoHome ?xs_NoHome ?xn_NoHome ?xa_NoHousehold ?xd_NoHousehold ?xt_NoHousehold ?xb_NoHousehold ?xs_NoHousehold ?xn_NoHousehold ?xa_Taken ?xd_Taken ?xt_Taken ?xb_Taken ?xs_Taken ?xn_Taken ?xr_NoHousehold_BadStay ?xr_NoHousehold_Clash ?xr_NoHousehold_NoHome ?xr_NoHousehold_NoHousehold ?xr_NoHousehold_Taken ?xr_NoHousehold_LookupError ?xn_LookupError ?xl_NoHousehold ?xsa_NoHousehold ?xm_NoHousehold ?xkp_NoHousehold ?xi_NoHousehold ?xit_NoHousehold ?xf_NoHousehold ?xco_NoHousehold ?xcd_NoHousehold ?xvs_NoHousehold ?xfl_NoHousehold ?xcc_NoHousehold ?xop_NoHousehold ?xtop_NoHousehold ?xsb_NoHousehold ?xno_NoHousehold ?xga_NoHousehold ?xgg_NoHousehold ?xca_NoHousehold ?xob_NoHousehold ?xgs ?xgt ?xsu ?zz_LookupError ?zz_abs ?zz_all ?zz_bool ?zz_enumerate ?zz_int ?zz_isinstance ?zz_len ?zz_list ?zz_range ?zz_sorted ?zz_str ?zz_tuple ?zz_zip
    (case aC0 => k_is)
    (case a_tupled => k_is)
    (case l_tupled => k_is)
    (case co_tupled => k_is)
    (case k_tupled => k_is)
    (case a_Order_init => k_is)
    (case i_Order_init => k_is)
    (case l_Order_init => k_is)
    (case co_Order_init => k_is)
    (case k_Order_init => k_is)
    (case a_Order_line => k_is)
    (case p1_Order_line => k_is)
    (case p2_Order_line => k_is)
    (case p3_Order_line => k_is)
    (case l_Order_line => k_is)
    (case co_Order_line => k_is)
    (case k_Order_line => k_is)
    (case a_Order_check => k_is)
    (case i_Order_check => k_is)
    (case l_Order_check => k_is)
    (case co_Order_check => k_is)
    (case k_Order_check => k_is)
    (case a_Order___len__ => k_is)
    (case i_Order___len__ => k_is)
    (case g3_Order___len__ => k_is)
    (case l_Order___len__ => k_is)
    (case co_Order___len__ => k_is)
    (case k_Order___len__ => k_is)
    (case a_Order___contains__ => k_is)
    (case i_Order___contains__ => k_is)
    (case g3_Order___contains__ => k_is)
    (case l_Order___contains__ => k_is)
    (case co_Order___contains__ => k_is)
    (case k_Order___contains__ => k_is)
    (case a_Order___getitem__ => k_is)
    (case i_Order___getitem__ => k_is)
    (case g3_Order___getitem__ => k_is)
    (case l_Order___getitem__ => k_is)
    (case co_Order___getitem__ => k_is)
    (case k_Order___getitem__ => k_is)
    (case a_Order___setitem__ => k_is)
    (case i_Order___setitem__ => k_is)
    (case g3_Order___setitem__ => k_is)
    (case l_Order___setitem__ => k_is)
    (case co_Order___setitem__ => k_is)
    (case k_Order___setitem__ => k_is)
    (case a_Order___eq__ => k_is)
    (case i_Order___eq__ => k_is)
    (case g3_Order___eq__ => k_is)
    (case l_Order___eq__ => k_is)
    (case co_Order___eq__ => k_is)
    (case k_Order___eq__ => k_is)
    (case a_Order_ahead => k_is)
    (case i_Order_ahead => k_is)
    (case l_Order_ahead => k_is)
    (case co_Order_ahead => k_is)
    (case k_Order_ahead => k_is)
    (case a__law_box => k_is)
    (case l__law_box => k_is)
    (case co__law_box => k_is)
    (case k__law_box => k_is)
    (case a__law_take => k_is)
    (case l__law_take => k_is)
    (case co__law_take => k_is)
    (case k__law_take => k_is)
    (case a__law_cells => k_is)
    (case l__law_cells => k_is)
    (case co__law_cells => k_is)
    (case k__law_cells => k_is)
    (case a__law_of => k_is)
    (case l__law_of => k_is)
    (case co__law_of => k_is)
    (case k__law_of => k_is)
    (case a__law_same => k_is)
    (case l__law_same => k_is)
    (case co__law_same => k_is)
    (case k__law_same => k_is)
    (case a__law_few => k_is)
    (case l__law_few => k_is)
    (case co__law_few => k_is)
    (case k__law_few => k_is)
    (case a__law_mixed => k_is)
    (case l__law_mixed => k_is)
    (case co__law_mixed => k_is)
    (case k__law_mixed => k_is)
    (case a__law_heard => k_is)
    (case l__law_heard => k_is)
    (case co__law_heard => k_is)
    (case k__law_heard => k_is)
    (case a__law_ahead => k_is)
    (case l__law_ahead => k_is)
    (case co__law_ahead => k_is)
    (case k__law_ahead => k_is)
    (case a__law_by_hand_right => k_is)
    (case l__law_by_hand_right => k_is)
    (case co__law_by_hand_right => k_is)
    (case k__law_by_hand_right => k_is)
    (case a__law_right => k_is)
    (case l__law_right => k_is)
    (case co__law_right => k_is)
    (case k__law_right => k_is)
    (case a_law => k_is)
    (case l_law => k_is)
    (case co_law => k_is)
    (case k_law => k_is)
    (case pg0 => k_is)
    (case ic0 => k_is)
    (case po0 => k_is)
    (case sa0 => k_is)
    (case mk0 => k_is)
    (case kc0 => k_is)
    (case kcgs => k_is)
    (case kcgt => k_is)
    (case kca0 => k_is)
    (case kcm0 => k_is)
    (case kct0 => k_is)
    (case kcs0 => k_is)
    (case kcT_NoneType_0 => k_is)
    (case kcT_bool_0 => k_is)
    (case kcT_int_0 => k_is)
    (case kcT_str_0 => k_is)
    (case kcT_tuple_0 => k_is)
    (case kcT_list_0 => k_is)
    (case kcT_dict_0 => k_is)
    (case nea0 => k_is)
    (case neo0 => k_is)
    (case nqc0 => k_is)
    (case s1_own_names => k_is)
    (case s2_own_names => k_is)
    (case s3_own_names => k_is)
    (case s4_own_names => k_is)
    (case s5_own_names => k_is)
    (case xa_BadStay => k_is)
    (case xd_BadStay => k_is)
    (case xt_BadStay => k_is)
    (case xb_BadStay => k_is)
    (case xs_BadStay => k_is)
    (case xn_BadStay => k_is)
    (case xa_Clash => k_is)
    (case xd_Clash => k_is)
    (case xt_Clash => k_is)
    (case xb_Clash => k_is)
    (case xs_Clash => k_is)
    (case xn_Clash => k_is)
    (case xa_NoHome => k_is)
    (case xd_NoHome => k_is)
    (case xt_NoHome => k_is)
    (case xb_NoHome => k_is)
    (case xs_NoHome => k_is)
    (case xn_NoHome => k_is)
    (case xa_NoHousehold => k_is)
    (case xd_NoHousehold => k_is)
    (case xt_NoHousehold => k_is)
    (case xb_NoHousehold => k_is)
    (case xs_NoHousehold => k_is)
    (case xn_NoHousehold => k_is)
    (case xa_Taken => k_is)
    (case xd_Taken => k_is)
    (case xt_Taken => k_is)
    (case xb_Taken => k_is)
    (case xs_Taken => k_is)
    (case xn_Taken => k_is)
    (case xr_NoHousehold_BadStay => k_is)
    (case xr_NoHousehold_Clash => k_is)
    (case xr_NoHousehold_NoHome => k_is)
    (case xr_NoHousehold_NoHousehold => k_is)
    (case xr_NoHousehold_Taken => k_is)
    (case xr_NoHousehold_LookupError => k_is)
    (case xn_LookupError => k_is)
    (case xl_NoHousehold => k_is)
    (case xsa_NoHousehold => k_is)
    (case xm_NoHousehold => k_is)
    (case xkp_NoHousehold => k_is)
    (case xi_NoHousehold => k_is)
    (case xit_NoHousehold => k_is)
    (case xf_NoHousehold => k_is)
    (case xco_NoHousehold => k_is)
    (case xcd_NoHousehold => k_is)
    (case xvs_NoHousehold => first | rfl | decide +kernel)
    (case xfl_NoHousehold => first | rfl | decide +kernel)
    (case xcc_NoHousehold => k_is)
    (case xop_NoHousehold => k_is)
    (case xtop_NoHousehold => first | rfl | decide +kernel)
    (case xsb_NoHousehold => k_is)
    (case xno_NoHousehold => k_is)
    (case xga_NoHousehold => k_is)
    (case xgg_NoHousehold => k_is)
    (case xca_NoHousehold => k_is)
    (case xob_NoHousehold => k_is)
    (case xgs => k_is)
    (case xgt => k_is)
    (case xsu => k_is)
    (case zz_LookupError => k_is)
    (case zz_abs => k_is)
    (case zz_all => k_is)
    (case zz_bool => k_is)
    (case zz_enumerate => k_is)
    (case zz_int => k_is)
    (case zz_isinstance => k_is)
    (case zz_len => k_is)
    (case zz_list => k_is)
    (case zz_range => k_is)
    (case zz_sorted => k_is)
    (case zz_str => k_is)
    (case zz_tuple => k_is)
    (case zz_zip => k_is)
