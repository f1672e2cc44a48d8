import PyProof.Rows.All
import Wide.All
import OpenK.AllK
import Wide.FinOn
import HandS.ForMost
import HandS.Exc
import HandS.TryOnly
import HandS.ExcOwn
import HandS.WordsExc
import HandS.More
import HandS.Slots
import HandS.SlotsOwn
import HandS.Star
import HandS.Flow
import HandS.Style
import HandS.TupAny
import HandS.Zip
import HandS.IsInst
import HandS.Conv
import HandS.Defaults
import HandS.DictComp
import HandS.Deep
import HandS.Wide
import KE.SortData
import HandS.Small
import HandS.SetFor
import HandS.SetKeys
import HandS.TupSets
import HandS.Strs
import HandS.Words
import HandS.EndBits
import PyProof.CollectStr
import OpenK.KMeth
import OpenK.KOps
import PyProof.Rows.SortStr
import PyProof.Rows.StrMeet
import HandS.NoneIn
import KE.KDictZip
import KE.GoesZip
import KE.GoesMore
import KE.KItemsList
import HandS.DictTup
import PyProof.FactsAll.tuple_0
import PyProof.FactsAll.tuple_2
import KE.DataMinMax
import KE.KDictPairs
import KE.KTryMore
import HandS.ExcInit
import HandS.ExcSuper
import HandS.ExcField
import HandS.ExcIs
import KE.KExcSuper
import KE.KExcInit
import HandS.ExcValue
import KE.KCallOwn
import KE.KDictSum
import KE.KIsNot
import HandS.ClsMeth
import PyProof.AutoSeq1
import HandS.SortKw
import PyProof.Claim2Refuses
import KE.DatumOrd
import PySem.Challenge.RW_crosshomes_k73_known_withdrawals
set_option Elab.async false
set_option linter.all false
set_option maxRecDepth 100000
/-! Sm0: plain data over the hand layer: values without a heap, a store of boxes, how both lie in the abstract heap. -/
namespace Sm
open PySem PySem.Spec PyProof.Rows L2

/-- data that never changes -/
inductive Dt where
  | non | bl (b : Bool) | int (i : Int) | str (s : Str)
  | tup (xs : List Dt) | lst (xs : List Dt) | dct (ks : List Key) (xs : List Dt) | obj (c : Nat) (xs : List Dt)
  /-- a list of the outside, read alone -/
  | scr (xs : List Dt)
  /-- a tuple of the written part -/
  | ltp (xs : List Dt)
  /-- a caught exception: its class, its one field -/
  | exc (c : Nat) (xs : List Dt)
  /-- a tuple that surely has no dict of its own -/
  | ntp (xs : List Dt)
/-- a value: data, or a box of the store -/
inductive Dv where
  | d (t : Dt) | loc (n : Nat)
/-- what a box holds -/
inductive Bo where
  | lst (xs : List Dv) | dct (ks : List Key) (xs : List Dv) | ins (c : Nat) (fs : List (Option Dv)) | dead
  /-- a tuple that holds boxes; a dict with tuples as keys -/
  | tp (xs : List Dv) | dcT (ks : List (List Key)) (xs : List Dv)
abbrev Sto := List Bo
abbrev Env := List (Option Dv)

/-- what stays the same through a law: the written part, where the classes stand -/
structure Gs where
  K : PySem.W.Frag
  cls : Nat → Addr
  exc : Nat → Value
  fld : Nat → Option Str
  /-- tuples are keys of dicts (true), or tuples without a dict are told apart (false) -/
  tk : Bool
/-- where the boxes lie (each box its addresses; none: let go), and addresses that are out of reach meanwhile -/
structure Al where
  live : List (List Addr)
  hid : List Addr
def Al.all (A : Al) : List Addr := A.live.flatten ++ A.hid

/-- a tuple, a list, read and never changed -/
def TupA (tk : Bool) (A : Al) (H : Hp) (a : Addr) (vs : List V) : Prop := (H a = some (.tup vs) ∨ (tk = false ∧ ∃ o, H a = some (.frz o (.tup vs)))) ∧ a ∉ A.all
def NtpA (A : Al) (H : Hp) (a : Addr) (vs : List V) : Prop := (∃ o : Obj, H a = some (.frz o (.tup vs)) ∧ o.dict = none ∧ o.cls = .type "tuple") ∧ a ∉ A.all
def LstA (A : Al) (H : Hp) (a : Addr) (vs : List V) : Prop := H a = some (.lst vs) ∧ a ∉ A.all
def ScrA (K : PySem.W.Frag) (A : Al) (H : Hp) (a : Addr) (vs : List V) : Prop := (Rd H a (.lst vs) ∧ a ∉ A.all) ∨ ∀ H', SqL K H' a vs
def SlIs (ws : List (Option V)) (vs : List V) : Prop := ∀ (i : Nat) (v : V), vs[i]? = some v → ws[i]? = some (some v)

/-- the caught exception at a, of the class cls, its dict at d -/
def XoH (a : Addr) (cls : Value) (d : Addr) : HO := .ext fun h => ∃ o vs, h.get? a = some o ∧ o.cls = cls ∧ o.dict = some d ∧ o.data = .fields vs
mutual
/-- data t lies as the value v -/
def RV (G : Gs) (A : Al) (H : Hp) : Dt → V → Prop
  | .non, v => v = .non
  | .bl b, v => v = .bl b
  | .int i, v => v = .int i
  | .str s, v => v = .str s
  | .tup xs, v => ∃ a vs, v = .ref a ∧ TupA G.tk A H a vs ∧ RVs G A H xs vs
  | .lst xs, v => ∃ a vs, v = .ref a ∧ LstA A H a vs ∧ RVs G A H xs vs
  | .scr xs, v => ∃ a vs, v = .ref a ∧ ScrA G.K A H a vs ∧ RVs G A H xs vs
  | .ltp xs, v => ∃ a vs, v = .ref a ∧ (∀ H', SqT G.K H' a vs) ∧ RVs G A H xs vs
  | .exc c xs, v => ∃ a d f u, v = .ref a ∧ a ∉ A.all ∧ d ∉ A.all ∧ H a = some (XoH a (G.exc c) d) ∧ H d = some (.xd [(f, u)]) ∧ G.fld c = some f ∧ RVs G A H xs [u]
  | .ntp xs, v => ∃ a vs, v = .ref a ∧ NtpA A H a vs ∧ RVs G A H xs vs
  | .dct ks xs, v => ∃ a kvs, v = .ref a ∧ a ∉ A.all ∧ Rd H a (.dK kvs) ∧ kvs.map (·.1) = ks ∧ RVs G A H xs (kvs.map (·.2))
  | .obj c xs, v => ∃ a dx ws vs, v = .ref a ∧ a ∉ A.all ∧ dx ∉ A.all ∧ (∃ u, H dx = some u) ∧ SlX.Slt H a (G.cls c) dx ws ∧ SlIs ws vs ∧ RVs G A H xs vs
def RVs (G : Gs) (A : Al) (H : Hp) : List Dt → List V → Prop
  | [], vs => vs = []
  | t :: ts, vs => ∃ v r, vs = v :: r ∧ RV G A H t v ∧ RVs G A H ts r
end
def RD (G : Gs) (A : Al) (H : Hp) : Dv → V → Prop
  | .d t, v => RV G A H t v
  | .loc n, v => ∃ l, A.live[n]? = some l ∧ ∀ a r, l = a :: r → v = .ref a
abbrev RDs (G : Gs) (A : Al) (H : Hp) : List Dv → List V → Prop := Paired (RD G A H)
def RF (G : Gs) (A : Al) (H : Hp) (fs : List (Option Dv)) (ws : List (Option V)) : Prop := ∀ (i : Nat) (d : Dv), fs[i]? = some (some d) → ∃ v, ws[i]? = some (some v) ∧ RD G A H d v
/-- the box o lies at the addresses l -/
def RB (G : Gs) (A : Al) (H : Hp) (l : List Addr) : Bo → Prop
  | .lst xs => ∃ a vs, l = [a] ∧ H a = some (.lst vs) ∧ RDs G A H xs vs
  | .dct ks xs => ∃ a kvs, l = [a] ∧ H a = some (.dK kvs) ∧ kvs.map (·.1) = ks ∧ RDs G A H xs (kvs.map (·.2))
  | .ins c fs => ∃ a dx ws, l = [a, dx] ∧ SlX.Slt H a (G.cls c) dx ws ∧ RF G A H fs ws
  | .dead => True
  | .tp xs => ∃ a vs, l = [a] ∧ H a = some (.tup vs) ∧ RDs G A H xs vs
  | .dcT ks xs => ∃ a kvs, l = [a] ∧ H a = some (.dT kvs) ∧ kvs.map (·.1) = ks ∧ RDs G A H xs (kvs.map (·.2))
structure StR (G : Gs) (A : Al) (S : Sto) (H : Hp) : Prop where
  len : A.live.length = S.length
  nd : A.all.Nodup
  alive : ∀ a ∈ A.all, ∃ o, H a = some o
  box : ∀ (i : Nat) (l : List Addr) (o : Bo), A.live[i]? = some l → S[i]? = some o → RB G A H l o
structure EnvR (G : Gs) (A : Al) (H : Hp) (ρ : Env) (σ : L2.St) : Prop where
  len : ρ.length = σ.length
  at_ : ∀ (i : Nat) (d : Dv), ρ[i]? = some (some d) → ∃ v, σ[i]? = some (some v) ∧ RD G A H d v

/-- u still stands there; a dict may have been locked -/
def Fz (u : HO) (r : Option HO) : Prop := r = some u ∨ ((∃ kvs, u = .dK kvs) ∧ ∃ o, r = some (.frz o u))
/-- what may have happened: boxes changed, were made, were let go; all else stands -/
structure Ext (A : Al) (H : Hp) (A' : Al) (H' : Hp) : Prop where
  live : ∀ (i : Nat) (l : List Addr), A.live[i]? = some l → A'.live[i]? = some l ∨ A'.live[i]? = some []
  hid : ∀ a u, H a = some u → a ∉ A.live.flatten → (a ∈ A'.hid ↔ a ∈ A.hid)
  keep : ∀ a u, H a = some u → a ∉ A.live.flatten → Fz u (H' a) ∧ a ∉ A'.live.flatten
  keepH : ∀ a u, H a = some u → a ∉ A.live.flatten → a ∈ A.hid → H' a = some u

section
variable {G : Gs} {A A' A1 : Al} {H H' H1 : Hp} {S S' : Sto}
theorem mem_all {a : Addr} : a ∉ A.all ↔ a ∉ A.live.flatten ∧ a ∉ A.hid := by
  unfold Al.all
  rw [List.mem_append]
  exact ⟨fun h => ⟨fun z => h (.inl z), fun z => h (.inr z)⟩, fun h z => z.elim h.1 h.2⟩
theorem Fz.there {u : HO} {r : Option HO} (h : Fz u r) : ∃ v, r = some v := by
  rcases h with h | ⟨_, o, h⟩
  · exact ⟨_, h⟩
  · exact ⟨_, h⟩
theorem Fz.eq {u : HO} {r : Option HO} (h : Fz u r) (n : ¬ ∃ kvs, u = .dK kvs) : r = some u := by
  rcases h with h | ⟨z, _⟩
  · exact h
  · exact absurd z n
theorem Fz.step {u v : HO} {r : Option HO} (h : Fz u (some v)) (k : Fz v r) : Fz u r := by
  rcases h with h | ⟨z, o, h⟩
  · cases h
    exact k
  · cases h
    exact .inr ⟨z, o, k.eq fun ⟨_, z⟩ => by cases z⟩
theorem Ext.refl : Ext A H A H := ⟨fun _ _ h => .inl h, fun _ _ _ _ => Iff.rfl, fun _ _ h n => ⟨.inl h, n⟩, fun _ _ h _ _ => h⟩
theorem Ext.trans (x : Ext A H A1 H1) (y : Ext A1 H1 A' H') : Ext A H A' H' := by
  refine ⟨fun i l h => ?_, fun a u h n => ?_, fun a u h n => ?_, fun a u h n m => ?_⟩
  · rcases x.live i l h with h | h
    · exact y.live i l h
    · rcases y.live i [] h with h | h
      · exact .inr h
      · exact .inr h
  · obtain ⟨h1, n1⟩ := x.keep a u h n
    obtain ⟨v, hv⟩ := h1.there
    exact (y.hid a v hv n1).trans (x.hid a u h n)
  · obtain ⟨h1, n1⟩ := x.keep a u h n
    obtain ⟨v, hv⟩ := h1.there
    obtain ⟨h2, n2⟩ := y.keep a v hv n1
    rw [hv] at h1
    exact ⟨h1.step h2, n2⟩
  · have h1 := x.keepH a u h n m
    have n1 := (x.keep a u h n).2
    exact y.keepH a u h1 n1 ((x.hid a u h n).mpr m)
theorem Ext.all {a : Addr} {u : HO} (x : Ext A H A' H') (h : H a = some u) (n : a ∉ A.all) : Fz u (H' a) ∧ a ∉ A'.all := by
  obtain ⟨n1, n2⟩ := mem_all.mp n
  obtain ⟨h1, m1⟩ := x.keep a u h n1
  exact ⟨h1, mem_all.mpr ⟨m1, fun z => n2 ((x.hid a u h n1).mp z)⟩⟩
end

/-- plain: no lock -/
def Nf (u : HO) : Prop := ∀ o u', u ≠ .frz o u'
/-- may be locked -/
def Lk (u : HO) : Prop := ∃ kvs, u = .dK kvs
/-- what data leans on is kept -/
structure Kq (A : Al) (H : Hp) (A' : Al) (H' : Hp) : Prop where
  rd : ∀ a u, Nf u → a ∉ A.all → Rd H a u → Rd H' a u ∧ a ∉ A'.all
  ex : ∀ a u, Nf u → ¬ Lk u → a ∉ A.all → H a = some u → H' a = some u ∧ a ∉ A'.all
  there : ∀ a u, a ∉ A.all → H a = some u → (∃ u', H' a = some u') ∧ a ∉ A'.all
  ef : ∀ a o vs, a ∉ A.all → H a = some (.frz o (.tup vs)) → H' a = some (.frz o (.tup vs)) ∧ a ∉ A'.all
structure Kp (A : Al) (H : Hp) (A' : Al) (H' : Hp) : Prop extends Kq A H A' H' where
  live : ∀ (i : Nat) (l : List Addr), A.live[i]? = some l → A'.live[i]? = some l ∨ A'.live[i]? = some []
section
variable {G : Gs} {A A' A1 : Al} {H H' H1 : Hp} {S S' : Sto}
theorem nf_tup {xs : List V} : Nf (.tup xs) := fun _ _ z => by cases z
theorem nf_lst {xs : List V} : Nf (.lst xs) := fun _ _ z => by cases z
theorem nf_dK {xs : List (Key × V)} : Nf (.dK xs) := fun _ _ z => by cases z
theorem nf_ins {C dx : Addr} {xs : List (Str × V)} : Nf (.ins C dx xs) := fun _ _ z => by cases z
theorem nf_slo {a C dx : Addr} {xs : List (Option V)} : Nf (SlX.SlO a C dx xs) := fun _ _ z => by cases z
theorem nf_xd {xs : List (Str × V)} : Nf (.xd xs) := fun _ _ z => by cases z
theorem lk_ins {C dx : Addr} {xs : List (Str × V)} : ¬ Lk (.ins C dx xs) := fun z => by
  obtain ⟨_, z⟩ := z
  cases z
theorem lk_slo {a C dx : Addr} {xs : List (Option V)} : ¬ Lk (SlX.SlO a C dx xs) := fun z => by
  obtain ⟨_, z⟩ := z
  cases z
theorem lk_xd {xs : List (Str × V)} : ¬ Lk (.xd xs) := fun z => by
  obtain ⟨_, z⟩ := z
  cases z
theorem Ext.kp (x : Ext A H A' H') : Kp A H A' H' := by
  refine ⟨⟨fun a u nf n h => ?_, fun a u nf lk n h => ?_, fun a u n h => ⟨(x.all h n).1.there, (x.all h n).2⟩, fun a o vs n h => ⟨(x.all h n).1.eq (fun ⟨_, z⟩ => by cases z), (x.all h n).2⟩⟩, x.live⟩
  · rcases h with h | ⟨o, h⟩
    · obtain ⟨h1, n1⟩ := x.all h n
      rcases h1 with h1 | ⟨_, o, h1⟩
      · exact ⟨.inl h1, n1⟩
      · exact ⟨.inr ⟨o, h1⟩, n1⟩
    · obtain ⟨h1, n1⟩ := x.all h n
      exact ⟨.inr ⟨o, h1.eq fun ⟨_, z⟩ => by cases z⟩, n1⟩
  · obtain ⟨h1, n1⟩ := x.all h n
    exact ⟨h1.eq lk, n1⟩
theorem lk_tup {xs : List V} : ¬ Lk (.tup xs) := fun z => by
  obtain ⟨_, z⟩ := z
  cases z
theorem TupA.kp {tk : Bool} {a : Addr} {vs : List V} (x : Kq A H A' H') (h : TupA tk A H a vs) : TupA tk A' H' a vs := by
  obtain ⟨h | ⟨e, o, h⟩, n⟩ := h
  · obtain ⟨k, m⟩ := x.ex a _ nf_tup lk_tup n h
    exact ⟨.inl k, m⟩
  · obtain ⟨k, m⟩ := x.ef a o vs n h
    exact ⟨.inr ⟨e, o, k⟩, m⟩
theorem NtpA.kp {a : Addr} {vs : List V} (x : Kq A H A' H') (h : NtpA A H a vs) : NtpA A' H' a vs := by
  obtain ⟨⟨o, h1, h2⟩, n⟩ := h
  obtain ⟨k, m⟩ := x.ef a o vs n h1
  exact ⟨⟨o, k, h2⟩, m⟩
theorem NtpA.tup {a : Addr} {vs : List V} (h : NtpA A H a vs) : TupA false A H a vs := ⟨.inr ⟨rfl, _, h.1.choose_spec.1⟩, h.2⟩
theorem lk_lst {xs : List V} : ¬ Lk (.lst xs) := fun z => by
  obtain ⟨_, z⟩ := z
  cases z
theorem LstA.kp {a : Addr} {vs : List V} (x : Kq A H A' H') (h : LstA A H a vs) : LstA A' H' a vs := x.ex a _ nf_lst lk_lst h.2 h.1
theorem ScrA.kp {K : PySem.W.Frag} {a : Addr} {vs : List V} (x : Kq A H A' H') (h : ScrA K A H a vs) : ScrA K A' H' a vs := by
  rcases h with ⟨h, n⟩ | h
  · exact .inl (x.rd a _ nf_lst n h)
  · exact .inr h
theorem ScrA.sq {K : PySem.W.Frag} {a : Addr} {vs : List V} (h : ScrA K A H a vs) : SqL K H a vs := by
  rcases h with ⟨h, _⟩ | h
  · exact .inl h
  · exact h H
theorem LstA.sq {K : PySem.W.Frag} {a : Addr} {vs : List V} (h : LstA A H a vs) : SqL K H a vs := .inl (.inl h.1)
theorem TupA.rd {tk : Bool} {a : Addr} {vs : List V} (h : TupA tk A H a vs) : Rd H a (.tup vs) := h.1.elim .inl fun z => .inr z.2
theorem TupA.sq {tk : Bool} {K : PySem.W.Frag} {a : Addr} {vs : List V} (h : TupA tk A H a vs) : SqT K H a vs := .inl h.rd
theorem slt_kp {a C dx : Addr} {ws : List (Option V)} (x : Kq A H A' H') (h : SlX.Slt H a C dx ws) (n : a ∉ A.all) (n2 : dx ∉ A.all) : SlX.Slt H' a C dx ws ∧ a ∉ A'.all := by
  rcases h with ⟨h, hw⟩ | ⟨h, h2⟩
  · obtain ⟨e, m⟩ := x.ex a _ nf_ins lk_ins n h
    exact ⟨.inl ⟨e, hw⟩, m⟩
  · obtain ⟨e, m⟩ := x.ex a _ nf_slo lk_slo n h
    obtain ⟨e2, m2⟩ := x.ex dx _ nf_xd lk_xd n2 h2
    exact ⟨.inr ⟨e, e2⟩, m⟩
theorem nf_xo {a d : Addr} {cls : Value} : Nf (XoH a cls d) := fun o v z => by
  unfold XoH at z
  cases z
theorem lk_xo {a d : Addr} {cls : Value} : ¬ Lk (XoH a cls d) := fun z => by
  obtain ⟨_, z⟩ := z
  unfold XoH at z
  cases z
mutual
theorem RV.kq (x : Kq A H A' H') : ∀ {t : Dt} {v : V}, RV G A H t v → RV G A' H' t v
  | .non, _, h => h
  | .bl _, _, h => h
  | .int _, _, h => h
  | .str _, _, h => h
  | .tup xs, v, h => by
    obtain ⟨a, vs, e, ht, hs⟩ := h
    exact ⟨a, vs, e, ht.kp x, RVs.kq x hs⟩
  | .lst xs, v, h => by
    obtain ⟨a, vs, e, ht, hs⟩ := h
    exact ⟨a, vs, e, ht.kp x, RVs.kq x hs⟩
  | .scr xs, v, h => by
    obtain ⟨a, vs, e, ht, hs⟩ := h
    exact ⟨a, vs, e, ht.kp x, RVs.kq x hs⟩
  | .ltp xs, v, h => by
    obtain ⟨a, vs, e, ht, hs⟩ := h
    exact ⟨a, vs, e, ht, RVs.kq x hs⟩
  | .exc c xs, v, h => by
    obtain ⟨a, d, f, u, e, n1, n2, h1, h2, ef, hs⟩ := h
    obtain ⟨k1, m1⟩ := x.ex a _ nf_xo lk_xo n1 h1
    obtain ⟨k2, m2⟩ := x.ex d _ nf_xd lk_xd n2 h2
    exact ⟨a, d, f, u, e, m1, m2, k1, k2, ef, RVs.kq x hs⟩
  | .ntp xs, v, h => by
    obtain ⟨a, vs, e, ht, hs⟩ := h
    exact ⟨a, vs, e, ht.kp x, RVs.kq x hs⟩
  | .dct ks xs, v, h => by
    obtain ⟨a, kvs, e, n, r, ek, hs⟩ := h
    obtain ⟨r1, n1⟩ := x.rd a _ nf_dK n r
    exact ⟨a, kvs, e, n1, r1, ek, RVs.kq x hs⟩
  | .obj c xs, v, h => by
    obtain ⟨a, dx, ws, vs, e, n, n2, ⟨u, hu⟩, hsl, hi, hs⟩ := h
    obtain ⟨h1, n1⟩ := slt_kp x hsl n n2
    obtain ⟨h3, n3⟩ := x.there dx u n2 hu
    exact ⟨a, dx, ws, vs, e, n1, n3, h3, h1, hi, RVs.kq x hs⟩
theorem RVs.kq (x : Kq A H A' H') : ∀ {t : List Dt} {v : List V}, RVs G A H t v → RVs G A' H' t v
  | [], _, h => h
  | t :: ts, vs, h => by
    obtain ⟨v, r, e, h1, h2⟩ := h
    exact ⟨v, r, e, RV.kq x h1, RVs.kq x h2⟩
end
theorem RV.kp {t : Dt} {v : V} (h : RV G A H t v) (x : Kp A H A' H') : RV G A' H' t v := RV.kq x.toKq h
theorem RVs.kp {t : List Dt} {v : List V} (h : RVs G A H t v) (x : Kp A H A' H') : RVs G A' H' t v := RVs.kq x.toKq h
theorem RD.kp (x : Kp A H A' H') {d : Dv} {v : V} (h : RD G A H d v) : RD G A' H' d v := by
  cases d with
  | d t => exact RV.kp (t := t) h x
  | loc n =>
    obtain ⟨l, e, f⟩ := h
    rcases x.live n l e with e | e
    · exact ⟨l, e, f⟩
    · exact ⟨[], e, fun a r z => by cases z⟩
theorem RDs.kp (x : Kp A H A' H') {ds : List Dv} {vs : List V} (h : RDs G A H ds vs) : RDs G A' H' ds vs := Paired.mapP h fun _ _ z => RD.kp x z
theorem EnvR.kp (x : Kp A H A' H') {ρ : Env} {σ : L2.St} (h : EnvR G A H ρ σ) : EnvR G A' H' ρ σ :=
  ⟨h.len, fun i d e => let ⟨v, e1, r⟩ := h.at_ i d e; ⟨v, e1, RD.kp x r⟩⟩
theorem RF.kp (x : Kp A H A' H') {fs : List (Option Dv)} {ws : List (Option V)} (h : RF G A H fs ws) : RF G A' H' fs ws :=
  fun i d e => let ⟨v, e1, r⟩ := h i d e; ⟨v, e1, RD.kp x r⟩
theorem RVs.paired : ∀ {ts : List Dt} {vs : List V}, RVs G A H ts vs ↔ Paired (RV G A H) ts vs
  | [], vs => ⟨fun h => by
      have e : vs = [] := h
      subst e
      exact .nil, fun h => by
      cases h
      exact (rfl : ([] : List V) = [])⟩
  | t :: ts, vs => ⟨fun h => by
      obtain ⟨v, r, e, h1, h2⟩ := h
      subst e
      exact .cons h1 (RVs.paired.mp h2), fun h => by
      cases h with
      | cons h1 h2 => exact ⟨_, _, rfl, h1, RVs.paired.mpr h2⟩⟩
theorem RVs.rds {ts : List Dt} {vs : List V} (h : RVs G A H ts vs) : RDs G A H (ts.map .d) vs := by
  have p := RVs.paired.mp h
  induction p with
  | nil => exact .nil
  | cons r _ ih => exact .cons r (ih (RVs.paired.mpr ‹_›))
theorem RVs.length {ts : List Dt} {vs : List V} (h : RVs G A H ts vs) : ts.length = vs.length := (RVs.paired.mp h).length
theorem RVs.get : ∀ {ts : List Dt} {vs : List V} {i : Nat} {t : Dt}, RVs G A H ts vs → ts[i]? = some t → ∃ v, vs[i]? = some v ∧ RV G A H t v
  | [], _, i, t, _, e => by simp at e
  | t :: ts, _, 0, _, h, e => by
    obtain ⟨v, r, rfl, h1, h2⟩ := h
    simp at e
    subst e
    exact ⟨v, rfl, h1⟩
  | t :: ts, _, i + 1, _, h, e => by
    obtain ⟨v, r, rfl, h1, h2⟩ := h
    obtain ⟨u, e1, r1⟩ := RVs.get (i := i) h2 (by simpa using e)
    exact ⟨u, by simpa using e1, r1⟩
theorem RVs.get' : ∀ {ts : List Dt} {vs : List V} {i : Nat} {v : V}, RVs G A H ts vs → vs[i]? = some v → ∃ t, ts[i]? = some t ∧ RV G A H t v
  | [], vs, i, v, h, e => by
    have z : vs = [] := h
    subst z
    simp at e
  | t :: ts, _, 0, _, h, e => by
    obtain ⟨v, r, rfl, h1, h2⟩ := h
    simp at e
    subst e
    exact ⟨t, rfl, h1⟩
  | t :: ts, _, i + 1, _, h, e => by
    obtain ⟨v, r, rfl, h1, h2⟩ := h
    obtain ⟨u, e1, r1⟩ := RVs.get' (i := i) h2 (by simpa using e)
    exact ⟨u, by simpa using e1, r1⟩
theorem RVs.append : ∀ {ts us : List Dt} {vs ws : List V}, RVs G A H ts vs → RVs G A H us ws → RVs G A H (ts ++ us) (vs ++ ws)
  | [], _, _, _, h, h2 => by
    have z : _ = [] := h
    subst z
    exact h2
  | t :: ts, _, _, _, h, h2 => by
    obtain ⟨v, r, rfl, h1, h3⟩ := h
    exact ⟨v, r ++ _, rfl, h1, RVs.append h3 h2⟩
theorem RVs.take {ts : List Dt} {vs : List V} (n : Nat) (h : RVs G A H ts vs) : RVs G A H (ts.take n) (vs.take n) := by
  induction ts generalizing vs n with
  | nil =>
    have z : vs = [] := h
    subst z
    simp [RVs]
  | cons t ts ih =>
    obtain ⟨v, r, rfl, h1, h2⟩ := h
    cases n with
    | zero => exact (rfl : ([] : List V) = [])
    | succ n => exact ⟨v, r.take n, rfl, h1, ih n h2⟩
theorem RVs.drop {ts : List Dt} {vs : List V} (n : Nat) (h : RVs G A H ts vs) : RVs G A H (ts.drop n) (vs.drop n) := by
  induction ts generalizing vs n with
  | nil =>
    have z : vs = [] := h
    subst z
    simp [RVs]
  | cons t ts ih =>
    obtain ⟨v, r, rfl, h1, h2⟩ := h
    cases n with
    | zero => exact ⟨v, r, rfl, h1, h2⟩
    | succ n => exact ih n h2
theorem RDs.get {ds : List Dv} {vs : List V} {i : Nat} {d : Dv} (h : RDs G A H ds vs) (e : ds[i]? = some d) : ∃ v, vs[i]? = some v ∧ RD G A H d v := L2.paired_get h e
theorem RDs.get' : ∀ {ds : List Dv} {vs : List V} {i : Nat} {v : V}, RDs G A H ds vs → vs[i]? = some v → ∃ d, ds[i]? = some d ∧ RD G A H d v
  | _, _, _, _, .nil, e => by simp at e
  | _, _, 0, _, .cons r _, e => by
    simp at e
    subst e
    exact ⟨_, rfl, r⟩
  | _, _, i + 1, _, .cons _ t, e => by
    obtain ⟨d, e1, r1⟩ := RDs.get' (i := i) t (by simpa using e)
    exact ⟨d, by simpa using e1, r1⟩
theorem RDs.append : ∀ {ds es : List Dv} {vs ws : List V}, RDs G A H ds vs → RDs G A H es ws → RDs G A H (ds ++ es) (vs ++ ws)
  | _, _, _, _, .nil, h => h
  | _, _, _, _, .cons r t, h => .cons r (RDs.append t h)
theorem RDs.set : ∀ {ds : List Dv} {vs : List V} (i : Nat) {d : Dv} {v : V}, RDs G A H ds vs → RD G A H d v → RDs G A H (ds.set i d) (vs.set i v)
  | _, _, _, _, _, .nil, _ => .nil
  | _, _, 0, _, _, .cons _ t, r => .cons r t
  | _, _, i + 1, _, _, .cons q t, r => .cons q (RDs.set i t r)
end
end Sm
/-! Sm1: what a step does to the store. -/
namespace Sm
open PySem PySem.Spec PyProof.Rows L2
section
variable {G : Gs} {A A' A1 : Al} {H H' H1 : Hp} {S S' : Sto} {p a : Addr} {o u : HO}
theorem StR.out (s : StR G A S H) (h : H p = none) : p ∉ A.all := fun z => by
  obtain ⟨o, e⟩ := s.alive p z
  rw [h] at e
  cases e
theorem upd_old (h : H p = none) (e : H a = some u) : upd H p o a = some u := by
  rw [upd_ne (ne_of_none e h)]
  exact e
/-- a new object outside of the boxes -/
theorem Ext.new (h : H p = none) : Ext A H A (upd H p o) := ⟨fun _ _ e => .inl e, fun _ _ _ _ => Iff.rfl, fun _ _ e n => ⟨.inl (upd_old h e), n⟩, fun _ _ e _ _ => upd_old h e⟩
theorem live_set {i : Nat} {x : List Addr} (h : A.live[i]? = some x) : ∀ a ∈ x, a ∈ A.live.flatten := fun a ha => List.mem_flatten.mpr ⟨x, List.mem_of_getElem? h, ha⟩
/-- a box is kept -/
theorem RB.keep {l : List Addr} {b : Bo} (k : Kp A H A' H') (hl : ∀ a ∈ l, H' a = H a) (h : RB G A H l b) : RB G A' H' l b := by
  cases b with
  | lst xs =>
    obtain ⟨a, vs, rfl, e, r⟩ := h
    exact ⟨a, vs, rfl, (hl a (by simp)).trans e, r.kp k⟩
  | dct ks xs =>
    obtain ⟨a, vs, rfl, e, ek, r⟩ := h
    exact ⟨a, vs, rfl, (hl a (by simp)).trans e, ek, r.kp k⟩
  | ins c fs =>
    obtain ⟨a, dx, ws, rfl, e, r⟩ := h
    refine ⟨a, dx, ws, rfl, ?_, r.kp k⟩
    rcases e with ⟨e, hw⟩ | ⟨e, e2⟩
    · exact .inl ⟨(hl a (by simp)).trans e, hw⟩
    · exact .inr ⟨(hl a (by simp)).trans e, (hl dx (by simp)).trans e2⟩
  | dead => trivial
  | tp xs =>
    obtain ⟨a, vs, rfl, e, r⟩ := h
    exact ⟨a, vs, rfl, (hl a (by simp)).trans e, r.kp k⟩
  | dcT ks xs =>
    obtain ⟨a, vs, rfl, e, ek, r⟩ := h
    exact ⟨a, vs, rfl, (hl a (by simp)).trans e, ek, r.kp k⟩
theorem StR.new (s : StR G A S H) (h : H p = none) : StR G A S (upd H p o) := by
  refine ⟨s.len, s.nd, fun a ha => ?_, fun i l b e1 e2 => (s.box i l b e1 e2).keep (Ext.new h).kp fun a ha => ?_⟩
  · obtain ⟨u, e⟩ := s.alive a ha
    exact ⟨u, upd_old h e⟩
  · have z : a ∈ A.all := List.mem_append_left _ (live_set e1 a ha)
    obtain ⟨u, e⟩ := s.alive a z
    rw [upd_old h e, e]
/-- a tuple, a list that stays -/
theorem RV.tup_new {ts : List Dt} {vs : List V} (s : StR G A S H) (h : H p = none) (r : RVs G A H ts vs) : RV G A (upd H p (.tup vs)) (.tup ts) (.ref p) :=
  ⟨p, vs, rfl, ⟨.inl upd_same, s.out h⟩, r.kp (Ext.new h).kp⟩
theorem RV.lst_new {ts : List Dt} {vs : List V} (s : StR G A S H) (h : H p = none) (r : RVs G A H ts vs) : RV G A (upd H p (.lst vs)) (.lst ts) (.ref p) :=
  ⟨p, vs, rfl, ⟨upd_same, s.out h⟩, r.kp (Ext.new h).kp⟩
/-! ### new boxes -/
def Al.push (A : Al) (l : List Addr) : Al := ⟨A.live ++ [l], A.hid⟩
theorem push_all {l : List Addr} {b : Addr} : b ∈ (A.push l).all ↔ b ∈ A.all ∨ b ∈ l := by
  unfold Al.push Al.all
  simp only [List.flatten_append, List.mem_append, List.flatten_cons, List.flatten_nil, List.append_nil]
  constructor
  · rintro ((h | h) | h)
    · exact .inl (.inl h)
    · exact .inr h
    · exact .inl (.inr h)
  · rintro ((h | h) | h)
    · exact .inl (.inl h)
    · exact .inr h
    · exact .inl (.inr h)
theorem push_old {l x : List Addr} {i : Nat} (h : A.live[i]? = some x) : (A.push l).live[i]? = some x := by
  unfold Al.push
  have := (List.getElem?_eq_some_iff.mp h).1
  rw [List.getElem?_append_left this]
  exact h
theorem push_at {l x : List Addr} {i : Nat} (h : (A.push l).live[i]? = some x) : A.live[i]? = some x ∨ (i = A.live.length ∧ x = l) := by
  unfold Al.push at h
  simp only at h
  by_cases hi : i < A.live.length
  · rw [List.getElem?_append_left hi] at h
    exact .inl h
  · rw [List.getElem?_append_right (by omega)] at h
    by_cases h0 : i - A.live.length = 0
    · rw [h0] at h
      simp at h
      exact .inr ⟨by omega, h.symm⟩
    · obtain ⟨k, hk⟩ : ∃ k, i - A.live.length = k + 1 := ⟨i - A.live.length - 1, by omega⟩
      rw [hk] at h
      simp at h
theorem push_nd {l : List Addr} (hn : A.all.Nodup) (hl : l.Nodup) (hx : ∀ b ∈ l, b ∉ A.all) : (A.push l).all.Nodup := by
  unfold Al.push Al.all at *
  simp only [List.flatten_append, List.flatten_cons, List.flatten_nil, List.append_nil]
  rw [List.nodup_append] at hn
  obtain ⟨n1, n2, n3⟩ := hn
  rw [List.nodup_append, List.nodup_append]
  refine ⟨⟨n1, hl, fun x hx1 y hy e => ?_⟩, n2, fun x hx1 y hy e => ?_⟩
  · subst e
    exact hx x hy (List.mem_append_left _ hx1)
  · subst e
    rcases List.mem_append.mp hx1 with z | z
    · exact n3 x z x hy rfl
    · exact hx x z (List.mem_append_right _ hy)
theorem Ext.push {l : List Addr} (hk : ∀ b v, H b = some v → H' b = some v) (hl : ∀ b ∈ l, H b = none) : Ext A H (A.push l) H' := by
  refine ⟨fun i x h => .inl (push_old h), fun _ _ _ _ => Iff.rfl, fun b v h n => ⟨.inl (hk b v h), fun z => ?_⟩, fun b v h _ _ => hk b v h⟩
  unfold Al.push at z
  simp only [List.flatten_append, List.mem_append, List.flatten_cons, List.flatten_nil, List.append_nil] at z
  rcases z with z | z
  · exact n z
  · rw [hl b z] at h
    cases h
theorem StR.push {l : List Addr} {b : Bo} (s : StR G A S H) (hk : ∀ b v, H b = some v → H' b = some v) (hl : ∀ b ∈ l, H b = none) (hl' : ∀ b ∈ l, ∃ v, H' b = some v) (hn : l.Nodup) (hb : RB G (A.push l) H' l b) : StR G (A.push l) (S ++ [b]) H' := by
  have x : Ext A H (A.push l) H' := Ext.push hk hl
  refine ⟨by simp [Al.push, s.len], push_nd s.nd hn fun c hc => s.out (hl c hc), fun c hc => ?_, fun i k o e1 e2 => ?_⟩
  · rcases push_all.mp hc with z | z
    · obtain ⟨v, e⟩ := s.alive c z
      exact ⟨v, hk c v e⟩
    · exact hl' c z
  · rcases push_at e1 with z | ⟨z, rfl⟩
    · have hi : i < S.length := by
        rw [← s.len]
        exact (List.getElem?_eq_some_iff.mp z).1
      rw [List.getElem?_append_left hi] at e2
      refine (s.box i k o z e2).keep x.kp fun c hc => ?_
      obtain ⟨v, e⟩ := s.alive c (List.mem_append_left _ (live_set z c hc))
      rw [hk c v e, e]
    · subst z
      rw [s.len, List.getElem?_append_right (Nat.le_refl _)] at e2
      simp at e2
      subst e2
      exact hb
theorem push_loc {l : List Addr} (s : StR G A S H) : (A.push l).live[S.length]? = some l := by
  unfold Al.push
  simp only
  rw [← s.len, List.getElem?_append_right (Nat.le_refl _)]
  simp
theorem RD.loc_new {r : List Addr} (s : StR G A S H) : RD G (A.push (p :: r)) H' (.loc S.length) (.ref p) :=
  ⟨p :: r, push_loc s, fun b q z => by
    injection z with z1 z2
    rw [z1]⟩
/-- a new list as a box -/
theorem box_lst {ds : List Dv} {vs : List V} (s : StR G A S H) (h : H p = none) (r : RDs G A H ds vs) :
    Ext A H (A.push [p]) (upd H p (.lst vs)) ∧ StR G (A.push [p]) (S ++ [.lst ds]) (upd H p (.lst vs)) ∧ RD G (A.push [p]) (upd H p (.lst vs)) (.loc S.length) (.ref p) := by
  have hk : ∀ b v, H b = some v → upd H p (.lst vs) b = some v := fun b v e => upd_old h e
  have hl : ∀ b ∈ [p], H b = none := fun b hb => by
    simp at hb
    rw [hb]
    exact h
  have x : Ext A H (A.push [p]) (upd H p (.lst vs)) := Ext.push hk hl
  refine ⟨x, s.push hk hl (fun b hb => ?_) (by simp) ⟨p, vs, rfl, upd_same, r.kp x.kp⟩, RD.loc_new s⟩
  simp at hb
  rw [hb]
  exact ⟨_, upd_same⟩
theorem box_dct {kvs : List (Key × V)} {ks : List Key} {ds : List Dv} (s : StR G A S H) (h : H p = none) (ek : kvs.map (·.1) = ks) (r : RDs G A H ds (kvs.map (·.2))) :
    Ext A H (A.push [p]) (upd H p (.dK kvs)) ∧ StR G (A.push [p]) (S ++ [.dct ks ds]) (upd H p (.dK kvs)) ∧ RD G (A.push [p]) (upd H p (.dK kvs)) (.loc S.length) (.ref p) := by
  have hk : ∀ b v, H b = some v → upd H p (.dK kvs) b = some v := fun b v e => upd_old h e
  have hl : ∀ b ∈ [p], H b = none := fun b hb => by
    simp at hb
    rw [hb]
    exact h
  have x : Ext A H (A.push [p]) (upd H p (.dK kvs)) := Ext.push hk hl
  refine ⟨x, s.push hk hl (fun b hb => ?_) (by simp) ⟨p, kvs, rfl, upd_same, ek, r.kp x.kp⟩, RD.loc_new s⟩
  simp at hb
  rw [hb]
  exact ⟨_, upd_same⟩
/-- a new instance with slots -/
theorem box_ins {c : Nat} {dx : Addr} (s : StR G A S H) (h : H p = none) (h2 : H dx = none) (ne : dx ≠ p) :
    Ext A H (A.push [p, dx]) (upd (upd H dx (.own p)) p (.ins (G.cls c) dx [])) ∧ StR G (A.push [p, dx]) (S ++ [.ins c []]) (upd (upd H dx (.own p)) p (.ins (G.cls c) dx [])) ∧
      RD G (A.push [p, dx]) (upd (upd H dx (.own p)) p (.ins (G.cls c) dx [])) (.loc S.length) (.ref p) := by
  have h3 : upd H dx (.own p) p = none := by
    rw [upd_ne ne.symm]
    exact h
  have hk : ∀ b v, H b = some v → upd (upd H dx (.own p)) p (.ins (G.cls c) dx []) b = some v := fun b v e => upd_old h3 (upd_old h2 e)
  have hl : ∀ b ∈ [p, dx], H b = none := fun b hb => by
    simp at hb
    rcases hb with rfl | rfl
    · exact h
    · exact h2
  have x : Ext A H (A.push [p, dx]) (upd (upd H dx (.own p)) p (.ins (G.cls c) dx [])) := Ext.push hk hl
  refine ⟨x, s.push hk hl (fun b hb => ?_) (by simp [ne.symm]) ⟨p, dx, [], rfl, .inl ⟨upd_same, rfl⟩, fun i d e => by simp at e⟩, RD.loc_new s⟩
  simp at hb
  rcases hb with rfl | rfl
  · exact ⟨_, upd_same⟩
  · rw [upd_ne ne, upd_same]
    exact ⟨_, rfl⟩
/-! ### a box changes -/
theorem nd_flat : ∀ {L : List (List Addr)}, L.flatten.Nodup → (∀ x ∈ L, x.Nodup) ∧ ∀ (i j : Nat) (x y : List Addr) (b : Addr), L[i]? = some x → L[j]? = some y → b ∈ x → b ∈ y → i = j
  | [], _ => ⟨fun x z => by simp at z, fun i j x y b h => by simp at h⟩
  | l :: L, h => by
    rw [List.flatten_cons, List.nodup_append] at h
    obtain ⟨h1, h2, h3⟩ := h
    obtain ⟨i1, i2⟩ := nd_flat h2
    have mem : ∀ {k : Nat} {z : List Addr} {b : Addr}, L[k]? = some z → b ∈ z → b ∈ L.flatten := fun e hb => List.mem_flatten.mpr ⟨_, List.mem_of_getElem? e, hb⟩
    refine ⟨fun x hx => ?_, fun i j x y b e1 e2 b1 b2 => ?_⟩
    · rcases List.mem_cons.mp hx with rfl | hx
      · exact h1
      · exact i1 x hx
    · cases i with
      | zero =>
        cases j with
        | zero => rfl
        | succ j =>
          simp at e1 e2
          subst e1
          exact absurd rfl (h3 b b1 b (mem e2 b2))
      | succ i =>
        cases j with
        | zero =>
          simp at e1 e2
          subst e2
          exact absurd rfl (h3 b b2 b (mem e1 b1))
        | succ j =>
          simp at e1 e2
          rw [i2 i j x y b e1 e2 b1 b2]
theorem nd_live {i j : Nat} {x y : List Addr} {b : Addr} (hn : A.all.Nodup) (h1 : A.live[i]? = some x) (h2 : A.live[j]? = some y) (b1 : b ∈ x) (b2 : b ∈ y) : i = j := by
  unfold Al.all at hn
  rw [List.nodup_append] at hn
  exact (nd_flat hn.1).2 i j x y b h1 h2 b1 b2
/-- the box i gets another content; all but its addresses stands -/
theorem Ext.box {i : Nat} {l : List Addr} (h : A.live[i]? = some l) (hk : ∀ b, b ∉ l → H' b = H b) : Ext A H A H' :=
  ⟨fun _ _ e => .inl e, fun _ _ _ _ => Iff.rfl, fun b v e n => ⟨.inl (by rw [hk b fun z => n (live_set h b z)]; exact e), n⟩, fun b v e n _ => by rw [hk b fun z => n (live_set h b z)]; exact e⟩
theorem StR.setBox {i : Nat} {l : List Addr} {b : Bo} (s : StR G A S H) (h : A.live[i]? = some l) (hk : ∀ c, c ∉ l → H' c = H c) (ha : ∀ c ∈ l, ∃ v, H' c = some v) (hb : RB G A H' l b) : StR G A (S.set i b) H' := by
  have x : Ext A H A H' := Ext.box h hk
  refine ⟨by simp [s.len], s.nd, fun c hc => ?_, fun j k o e1 e2 => ?_⟩
  · by_cases hcl : c ∈ l
    · exact ha c hcl
    · rw [hk c hcl]
      exact s.alive c hc
  · by_cases hj : j = i
    · subst hj
      have hi : j < S.length := by
        rw [← s.len]
        exact (List.getElem?_eq_some_iff.mp h).1
      rw [List.getElem?_set_self hi] at e2
      cases e2
      rw [h] at e1
      cases e1
      exact hb
    · rw [List.getElem?_set_ne (fun z => hj z.symm)] at e2
      exact (s.box j k o e1 e2).keep x.kp fun c hc => hk c fun z => hj (nd_live s.nd e1 h hc z)
theorem loc_lst {n : Nat} {xs : List Dv} {v : V} (s : StR G A S H) (r : RD G A H (.loc n) v) (e : S[n]? = some (.lst xs)) : ∃ a vs, v = .ref a ∧ A.live[n]? = some [a] ∧ H a = some (.lst vs) ∧ RDs G A H xs vs := by
  obtain ⟨l, h, f⟩ := r
  obtain ⟨a, vs, rfl, e1, r1⟩ := s.box n l _ h e
  exact ⟨a, vs, f a [] rfl, h, e1, r1⟩
theorem loc_dct {n : Nat} {ks : List Key} {xs : List Dv} {v : V} (s : StR G A S H) (r : RD G A H (.loc n) v) (e : S[n]? = some (.dct ks xs)) :
    ∃ a kvs, v = .ref a ∧ A.live[n]? = some [a] ∧ H a = some (.dK kvs) ∧ kvs.map (·.1) = ks ∧ RDs G A H xs (kvs.map (·.2)) := by
  obtain ⟨l, h, f⟩ := r
  obtain ⟨a, kvs, rfl, e1, ek, r1⟩ := s.box n l _ h e
  exact ⟨a, kvs, f a [] rfl, h, e1, ek, r1⟩
theorem loc_ins {n c : Nat} {fs : List (Option Dv)} {v : V} (s : StR G A S H) (r : RD G A H (.loc n) v) (e : S[n]? = some (.ins c fs)) :
    ∃ a dx ws, v = .ref a ∧ A.live[n]? = some [a, dx] ∧ dx ≠ a ∧ SlX.Slt H a (G.cls c) dx ws ∧ RF G A H fs ws := by
  obtain ⟨l, h, f⟩ := r
  obtain ⟨a, dx, ws, rfl, e1, r1⟩ := s.box n l _ h e
  refine ⟨a, dx, ws, f a [dx] rfl, h, fun z => ?_, e1, r1⟩
  subst z
  have hn := s.nd
  unfold Al.all at hn
  rw [List.nodup_append] at hn
  have := (nd_flat hn.1).1 _ (List.mem_of_getElem? h)
  simp at this
theorem set_lst {n : Nat} {a : Addr} {xs' : List Dv} {vs' : List V} (s : StR G A S H) (h : A.live[n]? = some [a]) (r : RDs G A H xs' vs') :
    Ext A H A (upd H a (.lst vs')) ∧ StR G A (S.set n (.lst xs')) (upd H a (.lst vs')) := by
  have hk : ∀ c, c ∉ [a] → upd H a (.lst vs') c = H c := fun c hc => upd_ne (by simpa using hc)
  have x : Ext A H A (upd H a (.lst vs')) := Ext.box h hk
  refine ⟨x, s.setBox h hk (fun c hc => ?_) ⟨a, vs', rfl, upd_same, r.kp x.kp⟩⟩
  simp at hc
  rw [hc]
  exact ⟨_, upd_same⟩
theorem set_dct {n : Nat} {a : Addr} {ks' : List Key} {xs' : List Dv} {kvs' : List (Key × V)} (s : StR G A S H) (h : A.live[n]? = some [a]) (ek : kvs'.map (·.1) = ks') (r : RDs G A H xs' (kvs'.map (·.2))) :
    Ext A H A (upd H a (.dK kvs')) ∧ StR G A (S.set n (.dct ks' xs')) (upd H a (.dK kvs')) := by
  have hk : ∀ c, c ∉ [a] → upd H a (.dK kvs') c = H c := fun c hc => upd_ne (by simpa using hc)
  have x : Ext A H A (upd H a (.dK kvs')) := Ext.box h hk
  refine ⟨x, s.setBox h hk (fun c hc => ?_) ⟨a, kvs', rfl, upd_same, ek, r.kp x.kp⟩⟩
  simp at hc
  rw [hc]
  exact ⟨_, upd_same⟩
theorem set_ins {n c : Nat} {a dx : Addr} {fs' : List (Option Dv)} {ws' : List (Option V)} (s : StR G A S H) (h : A.live[n]? = some [a, dx]) (ne : dx ≠ a) (r : RF G A H fs' ws') :
    Ext A H A (SlX.slH H a (G.cls c) dx ws') ∧ StR G A (S.set n (.ins c fs')) (SlX.slH H a (G.cls c) dx ws') := by
  have hk : ∀ b, b ∉ [a, dx] → SlX.slH H a (G.cls c) dx ws' b = H b := fun b hb => by
    simp at hb
    exact SlX.slH_ne hb.1 hb.2
  have x : Ext A H A (SlX.slH H a (G.cls c) dx ws') := Ext.box h hk
  refine ⟨x, s.setBox h hk (fun b hb => ?_) ⟨a, dx, ws', rfl, SlX.slH_slt ne, r.kp x.kp⟩⟩
  simp at hb
  unfold SlX.slH
  rcases hb with rfl | rfl
  · exact ⟨_, upd_same⟩
  · rw [upd_ne ne, upd_same]
    exact ⟨_, rfl⟩
end
end Sm
/-! Sm2: results, readings by mirrors, expressions, tests, arguments. -/
namespace Sm
open PySem PySem.Spec PyProof.Rows L2

inductive Rz (α : Type) where
  | ok (a : α) (S : Sto) | er (c : Nat) (t : Dt) (S : Sto) | bad
def Rz.bind {α β : Type} (r : Rz α) (f : α → Sto → Rz β) : Rz β := match r with
  | .ok a S => f a S
  | .er c t S => .er c t S
  | .bad => .bad
abbrev M (α : Type) := Env → Sto → Rz α
@[simp] theorem bind_ok {α β : Type} {a : α} {S : Sto} {f : α → Sto → Rz β} : (Rz.ok a S).bind f = f a S := rfl
@[simp] theorem bind_bad {α β : Type} {f : α → Sto → Rz β} : (Rz.bad : Rz α).bind f = .bad := rfl
@[simp] theorem bind_er {α β : Type} {c : Nat} {t : Dt} {S : Sto} {f : α → Sto → Rz β} : (Rz.er c t S : Rz α).bind f = .er c t S := rfl

/-- an exception as it lies: its class, its own dict -/
def ExR (G : Gs) (A : Al) (H : Hp) (c : Nat) (t : Dt) (cls : Value) (d : Option Addr) : Prop :=
  cls = G.exc c ∧ ((G.fld c = none ∧ t = .non ∧ d = none) ∨ ∃ a f v, G.fld c = some f ∧ d = some a ∧ a ∉ A.all ∧ H a = some (.xd [(f, v)]) ∧ RV G A H t v)
def Po {α : Type} (G : Gs) (E : XK) (A : Al) (H : Hp) (r : Rz α) (k : Al → Hp → α → Prop) : Prop := match r with
  | .ok a S' => ∀ A' H', Ext A H A' H' → StR G A' S' H' → k A' H' a
  | .er c t S' => ∀ A' H' cls d, Ext A H A' H' → StR G A' S' H' → ExR G A' H' c t cls d → E cls d H'
  | .bad => False
section
variable {G : Gs} {E : XK} {A A' A1 : Al} {H H' H1 : Hp} {S S' S1 : Sto}
theorem Po.mono {α : Type} {r : Rz α} {k : Al → Hp → α → Prop} (x : Ext A H A1 H1) (h : Po G E A H r k) : Po G E A1 H1 r k := by
  cases r with
  | ok a S => exact fun A' H' y s => h A' H' (x.trans y) s
  | er c t S => exact fun A' H' cls d y s e => h A' H' cls d (x.trans y) s e
  | bad => exact h
theorem Po.imp {α : Type} {r : Rz α} {k k' : Al → Hp → α → Prop} (h : Po G E A H r k) (f : ∀ a S' A' H', r = .ok a S' → Ext A H A' H' → StR G A' S' H' → k A' H' a → k' A' H' a) : Po G E A H r k' := by
  cases r with
  | ok a S => exact fun A' H' y s => f a S A' H' rfl y s (h A' H' y s)
  | er c t S => exact h
  | bad => exact h
/-- one step, then the rest -/
theorem Po.step {α β : Type} {r : Rz α} {f : α → Sto → Rz β} {k : Al → Hp → β → Prop} {k' : Al → Hp → α → Prop} (h : Po G E A H (r.bind f) k)
    (q : ∀ a S1 A1 H1, Ext A H A1 H1 → StR G A1 S1 H1 → Po G E A1 H1 (f a S1) k → k' A1 H1 a) : Po G E A H r k' := by
  cases r with
  | ok a S => exact fun A' H' y s => q a S A' H' y s (Po.mono y h)
  | er c t S => exact h
  | bad => exact h
theorem Po.now {α : Type} {a : α} {k : Al → Hp → α → Prop} (h : Po G E A H (.ok a S) k) (s : StR G A S H) : k A H a := h A H .refl s
theorem Po.at {α : Type} {a : α} {k : Al → Hp → α → Prop} (h : Po G E A H (.ok a S1) k) (x : Ext A H A1 H1) (s : StR G A1 S1 H1) : k A1 H1 a := h A1 H1 x s
end

/-! ### readings by mirrors -/
abbrev kD (G : Gs) (Q : VK) : Al → Hp → Dv → Prop := fun A' H' d => ∀ v, RD G A' H' d v → Q v H'
/-- the wish at these slots -/
abbrev Wa (W : WX) (σ : L2.St) : XK := fun c d H => W c d σ H
def tM (G : Gs) (W : WX) (m : M Dv) : TE := fun σ H Q => ∃ A ρ S, EnvR G A H ρ σ ∧ StR G A S H ∧ Po G (Wa W σ) A H (m ρ S) (kD G Q)
def tMT (G : Gs) (W : WX) (m : M Bool) : TT := fun σ H Q => ∃ A ρ S, EnvR G A H ρ σ ∧ StR G A S H ∧ Po G (Wa W σ) A H (m ρ S) fun _ H' b => Q b H'
def tMA (G : Gs) (W : WX) (m : M (List Dv)) : TA := fun σ H Q => ∃ A ρ S, EnvR G A H ρ σ ∧ StR G A S H ∧ Po G (Wa W σ) A H (m ρ S) fun A' H' ds => ∀ vs, RDs G A' H' ds vs → Q vs H'
/-- a step that raises nothing -/
abbrev Pz (α : Type) := Option (α × Sto)
def lift {α : Type} : Pz α → Rz α
  | some (a, S) => .ok a S
  | none => .bad
@[simp] theorem lift_some {α : Type} {a : α} {S : Sto} : lift (some (a, S)) = .ok a S := rfl
@[simp] theorem lift_none {α : Type} : lift (none : Pz α) = .bad := rfl
theorem Po.lift {α : Type} {G : Gs} {E E' : XK} {A : Al} {H : Hp} {o : Pz α} {k : Al → Hp → α → Prop} (h : Po G E A H (lift o) k) : Po G E' A H (Sm.lift o) k := by
  cases o with
  | none => exact h
  | some p => exact h
abbrev P1 := Dv → Sto → Pz Dv
abbrev P2 := Dv → Dv → Sto → Pz Dv
abbrev PN := List Dv → Sto → Pz Dv
abbrev PT1 := Dv → Sto → Option Bool
/-- no exception -/
abbrev Ez : XK := fun _ _ _ => False
def q1 (G : Gs) (p : P1) : V → Hp → VK → Prop := fun x H Q => ∃ A S d, RD G A H d x ∧ StR G A S H ∧ Po G Ez A H (lift (p d S)) (kD G Q)
def q2 (G : Gs) (p : P2) : R2 := fun x y H Q => ∃ A S d e, RD G A H d x ∧ RD G A H e y ∧ StR G A S H ∧ Po G Ez A H (lift (p d e S)) (kD G Q)
def qN (G : Gs) (p : PN) : List V → Hp → VK → Prop := fun xs H Q => ∃ A S ds, RDs G A H ds xs ∧ StR G A S H ∧ Po G Ez A H (lift (p ds S)) (kD G Q)
def li {α : Type} (o : Option α) (S : Sto) : Rz α := match o with
  | some a => .ok a S
  | none => .bad
@[simp] theorem li_some {α : Type} {a : α} {S : Sto} : li (some a) S = .ok a S := rfl
@[simp] theorem li_none {α : Type} {S : Sto} : li (none : Option α) S = .bad := rfl

/-! ### the mirrors' combinators -/
def mV (i : Nat) : M Dv := fun ρ S => match ρ[i]? with
  | some (some d) => .ok d S
  | _ => .bad
def mC (t : Dt) : M Dv := fun _ S => .ok (.d t) S
def m1 (p : P1) (a : M Dv) : M Dv := fun ρ S => (a ρ S).bind fun x S1 => lift (p x S1)
def m2 (p : P2) (a b : M Dv) : M Dv := fun ρ S => (a ρ S).bind fun x S1 => (b ρ S1).bind fun y S2 => lift (p x y S2)
def mN (p : PN) (a : M (List Dv)) : M Dv := fun ρ S => (a ρ S).bind fun xs S1 => lift (p xs S1)
def aNil : M (List Dv) := fun _ S => .ok [] S
def aCons (a : M Dv) (r : M (List Dv)) : M (List Dv) := fun ρ S => (a ρ S).bind fun x S1 => (r ρ S1).bind fun xs S2 => .ok (x :: xs) S2
def toB (d : Dv) : Option Bool := match d with
  | .d (.bl b) => some b
  | _ => none
def mTst (a : M Dv) : M Bool := fun ρ S => (a ρ S).bind fun d S1 => li (toB d) S1
def mTru (p : PT1) (a : M Dv) : M Bool := fun ρ S => (a ρ S).bind fun d S1 => li (p d S1) S1
def cAnd (a b : M Bool) : M Bool := fun ρ S => (a ρ S).bind fun c S1 => if c = true then b ρ S1 else .ok false S1
def cOr (a b : M Bool) : M Bool := fun ρ S => (a ρ S).bind fun c S1 => if c = true then .ok true S1 else b ρ S1
def cNot (a : M Bool) : M Bool := fun ρ S => (a ρ S).bind fun c S1 => .ok (!c) S1
def mIf (c : M Bool) (a b : M Dv) : M Dv := fun ρ S => (c ρ S).bind fun k S1 => if k = true then a ρ S1 else b ρ S1
def mAnd (a b : M Dv) : M Dv := fun ρ S => (a ρ S).bind fun x S1 => (li (toB x) S1).bind fun c S2 => if c = true then b ρ S2 else .ok (.d (.bl false)) S2
def mOr (a b : M Dv) : M Dv := fun ρ S => (a ρ S).bind fun x S1 => (li (toB x) S1).bind fun c S2 => if c = true then .ok (.d (.bl true)) S2 else b ρ S2
def mNot (a : M Dv) : M Dv := fun ρ S => (a ρ S).bind fun x S1 => (li (toB x) S1).bind fun c S2 => .ok (.d (.bl (!c))) S2
def mOrT (p : PT1) (a b : M Dv) : M Dv := fun ρ S => (a ρ S).bind fun x S1 => (li (p x S1) S1).bind fun c S2 => if c = true then .ok x S2 else b ρ S2
def mNotT (p : PT1) (a : M Dv) : M Dv := fun ρ S => (a ρ S).bind fun x S1 => (li (p x S1) S1).bind fun c S2 => .ok (.d (.bl (!c))) S2

theorem _root_.L2.PE.sm {X : Cx} {e : Expr} {t t' : TE} (h : PE X e t) (f : ∀ σ H Q, t' σ H Q → t σ H Q) : PE X e t' := ⟨fun pins s σ H Q I q => h.run pins s σ H Q I (f σ H Q q)⟩
theorem _root_.L2.PT.sm {X : Cx} {e : Expr} {t t' : TT} (h : PT X e t) (f : ∀ σ H Q, t' σ H Q → t σ H Q) : PT X e t' := ⟨fun pins s σ H Q I q => h.run pins s σ H Q I (f σ H Q q)⟩
theorem _root_.L2.PW.sm {X : Cx} {e : Expr} {t t' : TT} (h : PW X e t) (f : ∀ σ H Q, t' σ H Q → t σ H Q) : PW X e t' := ⟨fun wh pins s σ H Q I q => h.run wh pins s σ H Q I (f σ H Q q)⟩
theorem _root_.L2.PA.sm {X : Cx} {e : List Expr} {t t' : TA} (h : PA X e t) (f : ∀ σ H Q, t' σ H Q → t σ H Q) : PA X e t' := ⟨fun pos pins s σ H Q I q => h.run pos pins s σ H Q I (f σ H Q q)⟩
theorem _root_.L2.OpR.sm {X : Cx} {f : Value → Value → Sem Value} {r r' : R2} (h : OpR X f r) (k : ∀ x y H Q, r' x y H Q → r x y H Q) : OpR X f r' :=
  fun pins s σ H x y v u Q I rx ry q => h pins s σ H x y v u Q I rx ry (k x y H Q q)
theorem _root_.L2.UnR.sm {X : Cx} {f : Value → Sem Value} {r r' : V → Hp → VK → Prop} (h : UnR X f r) (k : ∀ x H Q, r' x H Q → r x H Q) : UnR X f r' :=
  fun pins s σ H x v Q I rx q => h pins s σ H x v Q I rx (k x H Q q)
theorem _root_.L2.CallR.sm {X : Cx} {f : Value} {r r' : List V → Hp → VK → Prop} (h : CallR X f r) (k : ∀ x H Q, r' x H Q → r x H Q) : CallR X f r' :=
  fun pins s σ H x v Q I rx q => h pins s σ H x v Q I rx (k x H Q q)
theorem _root_.L2.IxR.sm {X : Cx} {r r' : R2} (h : IxR X r) (k : ∀ x y H Q, r' x y H Q → r x y H Q) : IxR X r' :=
  fun a b pins s σ H x y v u Q I rx ry q => h a b pins s σ H x y v u Q I rx ry (k x y H Q q)
theorem _root_.L2.MtR.sm {X : Cx} {id : String} {r r' : V → List V → Hp → VK → Prop} (h : MtR X id r) (k : ∀ x xs H Q, r' x xs H Q → r x xs H Q) : MtR X id r' :=
  fun pins s σ H x xs v us Q I rx rxs q => h pins s σ H x xs v us Q I rx rxs (k x xs H Q q)
section
variable {X : Cx} {G : Gs} {E : XK} {W : WX} {a b c e : Expr} {es : List Expr} {pos : Pos} {ma mb : M Dv} {ca cb : M Bool}
theorem e_var {i : Nat} {x : Str} (hN : X.N[i]? = some x) (hv : Vis X.env.scope x) (hd : (x == ("__debug__" : Str)) = false) (hcd : (x == ("__classdict__" : Str)) = false) : PE X (.Name x pos) (tM G W (mV i)) := by
  refine (pe_var hN hv hd hcd).sm fun σ H Q h => ?_
  obtain ⟨A, ρ, S, he, hs, p⟩ := h
  unfold mV at p
  cases e1 : ρ[i]? with
  | none =>
    rw [e1] at p
    exact p.elim
  | some o =>
    cases o with
    | none =>
      rw [e1] at p
      exact p.elim
    | some d =>
      rw [e1] at p
      obtain ⟨v, e2, r⟩ := he.at_ i d e1
      exact ⟨v, e2, Po.now p hs v r⟩
/-- a value that leans on nothing -/
theorem e_of {t : Dt} {v : V} (h : PE X e (tC v)) (r : ∀ A H, RV G A H t v) : PE X e (tM G W (mC t)) := by
  refine h.sm fun σ H Q h => ?_
  obtain ⟨A, ρ, S, he, hs, p⟩ := h
  exact Po.now p hs v (r A H)
theorem e_int {i : Int} {j : Nat} : PE X (.Constant (.int i) j pos) (tM G W (mC (.int i))) := e_of pe_int fun _ _ => rfl
theorem e_bl {b : Bool} {j : Nat} : PE X (.Constant (.bool b) j pos) (tM G W (mC (.bl b))) := e_of pe_bl fun _ _ => rfl
theorem e_non {j : Nat} : PE X (.Constant .none j pos) (tM G W (mC .non)) := e_of pe_non fun _ _ => rfl
theorem e_str {x : Str} {j : Nat} : PE X (.Constant (.str x) j pos) (tM G W (mC (.str x))) := e_of pe_str fun _ _ => rfl
theorem then2 {σ : L2.St} {H : Hp} {ta tb : TE} {p : P2} {Q : VK} {r : R2} (ha : ta = tM G W ma) (hb : tb = tM G W mb) (h : tM G W (m2 p ma mb) σ H Q) (hr : ∀ x y H, q2 G p x y H Q → r x y H Q) :
    ta σ H fun x H1 => tb σ H1 fun y H2 => r x y H2 Q := by
  subst ha hb
  obtain ⟨A, ρ, S, he, hs, p0⟩ := h
  refine ⟨A, ρ, S, he, hs, Po.step p0 fun d S1 A1 H1 x1 s1 p1 v rv => ?_⟩
  refine ⟨A1, ρ, S1, he.kp x1.kp, s1, Po.step p1 fun d2 S2 A2 H2 x2 s2 p2 v2 rv2 => ?_⟩
  exact hr v v2 H2 ⟨A2, S2, d, d2, rv.kp x2.kp, rv2, s2, Po.lift p2⟩
theorem e_op {op : Operator} {p : P2} (ho : OpR X (binaryOp op) (q2 G p)) (ha : PE X a (tM G W ma)) (hb : PE X b (tM G W mb)) : PE X (.BinOp a op b pos) (tM G W (m2 p ma mb)) :=
  (pe_op ho ha hb).sm fun _ _ _ h => then2 rfl rfl h fun _ _ _ q => q
theorem e_cmp {op : CmpOp} {p : P2} (ho : OpR X (compareOp op) (q2 G p)) (ha : PE X a (tM G W ma)) (hb : PE X b (tM G W mb)) (hm : behindInMarks op b = false) : PE X (.Compare a [op] [b] pos) (tM G W (m2 p ma mb)) :=
  (pe_cmpR ho ha hb hm).sm fun _ _ _ h => then2 rfl rfl h fun _ _ _ q => q
theorem toB_po {d : Dv} {S : Sto} {A : Al} {H : Hp} {v : V} {k : Al → Hp → Bool → Prop} (h : Po G E A H (li (toB d) S) k) (s : StR G A S H) (r : RD G A H d v) : ∃ b, v = .bl b ∧ k A H b := by
  cases d with
  | loc n => exact h.elim
  | d t =>
    cases t with
    | bl b => exact ⟨b, r, Po.now h s⟩
    | _ => exact h.elim
theorem c_cmp {op : CmpOp} {p : P2} (ho : OpR X (compareOp op) (q2 G p)) (ha : PE X a (tM G W ma)) (hb : PE X b (tM G W mb)) (hm : behindInMarks op b = false) : PT X (.Compare a [op] [b] pos) (tMT G W (mTst (m2 p ma mb))) := by
  refine (pt_cmpR ho ha hb hm).sm fun σ H Q h => ?_
  obtain ⟨A, ρ, S, he, hs, p0⟩ := h
  refine then2 (Q := fun x H' => ∃ k, x = .bl k ∧ Q k H') rfl rfl ⟨A, ρ, S, he, hs, Po.step p0 fun d S1 A1 H1 x1 s1 p1 v rv => ?_⟩ fun _ _ _ q => q
  exact toB_po p1 s1 rv
/-- a value's truth -/
def TruS (G : Gs) (p : PT1) : Prop := ∀ (A : Al) (S : Sto) (H : Hp) (d : Dv) (v : V) (b : Bool), RD G A H d v → StR G A S H → p d S = some b → TruV G.K v H b
theorem c_tru {p : PT1} (hp : TruS G p) (hK : G.K = X.K) (ha : PE X a (tM G W ma)) (he : ∀ whole, isTrue a X.env whole = (do let v ← whole; standAt a.pos; holding [v] (truthy v))) : PT X a (tMT G W (mTru p ma)) := by
  refine (pt_truth ha he).sm fun σ H Q h => ?_
  obtain ⟨A, ρ, S, he, hs, p0⟩ := h
  refine ⟨A, ρ, S, he, hs, Po.step p0 fun d S1 A1 H1 x1 s1 p1 v rv => ?_⟩
  rw [← hK]
  cases e1 : p d S1 with
  | none =>
    rw [e1] at p1
    exact p1.elim
  | some b =>
    rw [e1] at p1
    exact ⟨b, hp A1 S1 H1 d v b rv s1 e1, Po.now p1 s1⟩
theorem w_and1 (ha : PT X a (tMT G W ca)) : PW X (.BoolOp .And [a] pos) (tMT G W ca) := pw_and1 ha
theorem w_or1 (ha : PT X a (tMT G W ca)) : PW X (.BoolOp .Or [a] pos) (tMT G W ca) := pw_or1 ha
theorem w_and (ha : PT X a (tMT G W ca)) (hb : PW X (.BoolOp .And (b :: es) pos) (tMT G W cb)) : PW X (.BoolOp .And (a :: b :: es) pos) (tMT G W (cAnd ca cb)) := by
  refine (pw_and ha hb).sm fun σ H Q h => ?_
  obtain ⟨A, ρ, S, he, hs, p0⟩ := h
  refine ⟨A, ρ, S, he, hs, Po.step p0 fun c S1 A1 H1 x1 s1 p1 => ?_⟩
  cases c with
  | true => exact ⟨A1, ρ, S1, he.kp x1.kp, s1, p1⟩
  | false => exact Po.now p1 s1
theorem w_or (ha : PT X a (tMT G W ca)) (hb : PW X (.BoolOp .Or (b :: es) pos) (tMT G W cb)) : PW X (.BoolOp .Or (a :: b :: es) pos) (tMT G W (cOr ca cb)) := by
  refine (pw_or ha hb).sm fun σ H Q h => ?_
  obtain ⟨A, ρ, S, he, hs, p0⟩ := h
  refine ⟨A, ρ, S, he, hs, Po.step p0 fun c S1 A1 H1 x1 s1 p1 => ?_⟩
  cases c with
  | true => exact Po.now p1 s1
  | false => exact ⟨A1, ρ, S1, he.kp x1.kp, s1, p1⟩
theorem c_not (ha : PT X a (tMT G W ca)) : PT X (.UnaryOp .Not a pos) (tMT G W (cNot ca)) := by
  refine (pt_not ha).sm fun σ H Q h => ?_
  obtain ⟨A, ρ, S, he, hs, p0⟩ := h
  exact ⟨A, ρ, S, he, hs, Po.step p0 fun c S1 A1 H1 x1 s1 p1 => Po.now p1 s1⟩
theorem e_if (hc : PT X c (tMT G W ca)) (ha : PE X a (tM G W ma)) (hb : PE X b (tM G W mb)) : PE X (.IfExp c a b pos) (tM G W (mIf ca ma mb)) := by
  refine (pe_ifExp hc ha hb).sm fun σ H Q h => ?_
  obtain ⟨A, ρ, S, he, hs, p0⟩ := h
  refine ⟨A, ρ, S, he, hs, Po.step p0 fun c S1 A1 H1 x1 s1 p1 => ?_⟩
  cases c with
  | true => exact ⟨A1, ρ, S1, he.kp x1.kp, s1, p1⟩
  | false => exact ⟨A1, ρ, S1, he.kp x1.kp, s1, p1⟩
theorem e_one {op : BoolOp} {t : TE} (h : PE X a t) : PE X (.BoolOp op [a] pos) t := pe_one h
theorem e_and (ha : PE X a (tM G W ma)) (hb : PE X (.BoolOp .And (b :: es) pos) (tM G W mb)) : PE X (.BoolOp .And (a :: b :: es) pos) (tM G W (mAnd ma mb)) := by
  refine (pe_and ha hb).sm fun σ H Q h => ?_
  obtain ⟨A, ρ, S, he, hs, p0⟩ := h
  refine ⟨A, ρ, S, he, hs, Po.step p0 fun d S1 A1 H1 x1 s1 p1 v rv => ?_⟩
  cases d with
  | loc n => exact p1.elim
  | d t =>
    cases t with
    | bl b =>
      refine ⟨b, rv, ?_⟩
      cases b with
      | true => exact ⟨A1, ρ, S1, he.kp x1.kp, s1, p1⟩
      | false => exact Po.now p1 s1 _ rfl
    | _ => exact p1.elim
theorem e_not (ha : PE X a (tM G W ma)) : PE X (.UnaryOp .Not a pos) (tM G W (mNot ma)) := by
  refine (pe_not ha).sm fun σ H Q h => ?_
  obtain ⟨A, ρ, S, he, hs, p0⟩ := h
  refine ⟨A, ρ, S, he, hs, Po.step p0 fun d S1 A1 H1 x1 s1 p1 v rv => ?_⟩
  cases d with
  | loc n => exact p1.elim
  | d t =>
    cases t with
    | bl b => exact ⟨b, rv, Po.now p1 s1 _ rfl⟩
    | _ => exact p1.elim
theorem e_orT {p : PT1} (hp : TruS G p) (hK : G.K = X.K) (ha : PE X a (tM G W ma)) (hb : PE X (.BoolOp .Or (b :: es) pos) (tM G W mb)) : PE X (.BoolOp .Or (a :: b :: es) pos) (tM G W (mOrT p ma mb)) := by
  refine (pe_orT ha hb).sm fun σ H Q h => ?_
  obtain ⟨A, ρ, S, he, hs, p0⟩ := h
  refine ⟨A, ρ, S, he, hs, Po.step p0 fun d S1 A1 H1 x1 s1 p1 v rv => ?_⟩
  rw [← hK]
  cases e1 : p d S1 with
  | none =>
    rw [e1] at p1
    exact p1.elim
  | some k =>
    rw [e1] at p1
    refine ⟨k, hp A1 S1 H1 d v k rv s1 e1, ?_⟩
    cases k with
    | true => exact Po.now p1 s1 v rv
    | false => exact ⟨A1, ρ, S1, he.kp x1.kp, s1, p1⟩
theorem a_nil : PA X [] (tMA G W aNil) := by
  refine pa_nil.sm fun σ H Q h => ?_
  obtain ⟨A, ρ, S, he, hs, p0⟩ := h
  exact Po.now p0 hs [] .nil
theorem a_cons {mr : M (List Dv)} (ha : PE X e (tM G W ma)) (hr : PA X es (tMA G W mr)) (hs : starEach (e :: es) X.env = (false, eval e X.env) :: starEach es X.env) : PA X (e :: es) (tMA G W (aCons ma mr)) := by
  refine (pa_cons ha hr hs).sm fun σ H Q h => ?_
  obtain ⟨A, ρ, S, he, hs, p0⟩ := h
  refine ⟨A, ρ, S, he, hs, Po.step p0 fun d S1 A1 H1 x1 s1 p1 v rv => ?_⟩
  refine ⟨A1, ρ, S1, he.kp x1.kp, s1, Po.step p1 fun ds S2 A2 H2 x2 s2 p2 vs rvs => ?_⟩
  exact Po.now p2 s2 _ (.cons (rv.kp x2.kp) rvs)
theorem e_callB {x : Str} {p' : Pos} {p : PN} {id : String} {ma : M (List Dv)} (hc : CallR X (.builtin id) (qN G p)) (hg : Gl X x) (hm : X.mg x = none) (hv : bootBuiltins x = some (.builtin id)) (ha : PA X (e :: es) (tMA G W ma)) (hn : x ≠ "__name__") (hdb : (x == ("__debug__" : Str)) = false)
    (he : starEach (e :: es) X.env = (false, eval e X.env) :: starEach es X.env) (hpl : (backTo pos (starEach es X.env)).any (·.1) = false) : PE X (.Call (.Name x p') (e :: es) [] pos) (tM G W (mN p ma)) := by
  refine (pe_callB hc hg hm hv ha hn hdb he hpl).sm fun σ H Q h => ?_
  obtain ⟨A, ρ, S, he, hs, p0⟩ := h
  exact ⟨A, ρ, S, he, hs, Po.step p0 fun ds S1 A1 H1 x1 s1 p1 vs rvs => ⟨A1, S1, ds, rvs, s1, Po.lift p1⟩⟩
theorem e_callT {x : Str} {p' : Pos} {p : PN} {T : String} {ma : M (List Dv)} (hc : CallR X (.type T) (qN G p)) (hg : Gl X x) (hm : X.mg x = none) (hv : bootBuiltins x = some (.type T)) (ha : PA X (e :: es) (tMA G W ma)) (hn : x ≠ "__name__") (hdb : (x == ("__debug__" : Str)) = false)
    (he : starEach (e :: es) X.env = (false, eval e X.env) :: starEach es X.env) (hpl : (backTo pos (starEach es X.env)).any (·.1) = false) : PE X (.Call (.Name x p') (e :: es) [] pos) (tM G W (mN p ma)) := by
  refine (pe_callTy hc hg hm hv ha hn hdb he hpl).sm fun σ H Q h => ?_
  obtain ⟨A, ρ, S, he, hs, p0⟩ := h
  exact ⟨A, ρ, S, he, hs, Po.step p0 fun ds S1 A1 H1 x1 s1 p1 vs rvs => ⟨A1, S1, ds, rvs, s1, Po.lift p1⟩⟩
theorem e_un {op : UnaryOp} {p : P1} (ho : UnR X (unaryOp op) (q1 G p)) (ha : PE X a (tM G W ma)) : PE X (.UnaryOp op a pos) (tM G W (m1 p ma)) := by
  refine (pe_un ho ha).sm fun σ H Q h => ?_
  obtain ⟨A, ρ, S, he, hs, p0⟩ := h
  exact ⟨A, ρ, S, he, hs, Po.step p0 fun d S1 A1 H1 x1 s1 p1 v rv => ⟨A1, S1, d, rv, s1, Po.lift p1⟩⟩
theorem e_ix {p : P2} (hr : IxR X (q2 G p)) (ha : PE X a (tM G W ma)) (hb : PE X b (tM G W mb)) (hs : PlainIx b) : PE X (.Subscript a b pos) (tM G W (m2 p ma mb)) :=
  (pe_ix hr ha hb hs).sm fun _ _ _ h => then2 rfl rfl h fun _ _ _ q => q
/-- displays -/
def pures : List Dv → Option (List Dt)
  | [] => some []
  | .d t :: r => (pures r).map (t :: ·)
  | .loc _ :: _ => none
theorem line_of {n : Nat} (h : n ≤ 16777216) : n ≤ sizeLine := by rw [sizeLine_eq]; exact h
def pTup : PN := fun ds S => match pures ds with
  | some ts => if ts.length ≤ 16777216 then some (.d (.tup ts), S) else none
  | none => none
def pLst : PN := fun ds S => match pures ds with
  | some ts => if ts.length ≤ 16777216 then some (.d (.lst ts), S) else none
  | none => none
def pLstB : PN := fun ds S => if ds.length ≤ 16777216 then some (.loc S.length, S ++ [.lst ds]) else none
theorem pures_rvs {A : Al} {H : Hp} : ∀ {ds : List Dv} {ts : List Dt} {vs : List V}, pures ds = some ts → RDs G A H ds vs → RVs G A H ts vs
  | [], ts, vs, e, r => by
    cases e
    cases r
    exact (rfl : ([] : List V) = [])
  | .d t :: ds, ts, vs, e, r => by
    unfold pures at e
    cases e1 : pures ds with
    | none =>
      rw [e1] at e
      cases e
    | some us =>
      rw [e1] at e
      cases e
      cases r with
      | cons r1 r2 => exact ⟨_, _, rfl, r1, pures_rvs e1 r2⟩
  | .loc n :: ds, ts, vs, e, r => by
    cases e
theorem tup_po {A : Al} {S : Sto} {H : Hp} {ds : List Dv} {vs : List V} {Q : VK} (s : StR G A S H) (r : RDs G A H ds vs) (p : Po G E A H (lift (pTup ds S)) (kD G Q)) : vs.length ≤ sizeLine ∧ ∀ q, H q = none → Q (.ref q) (upd H q (.tup vs)) := by
  unfold pTup at p
  cases e1 : pures ds with
  | none =>
    rw [e1] at p
    exact p.elim
  | some ts =>
    rw [e1] at p
    have r1 := pures_rvs e1 r
    by_cases hl : ts.length ≤ 16777216
    · simp only [hl, if_true] at p
      refine ⟨by rw [← r1.length]; exact line_of hl, fun q hq => Po.at p (Ext.new hq) (s.new hq) _ (RV.tup_new s hq r1)⟩
    · simp only [hl, if_false] at p
      exact p.elim
theorem lst_po {A : Al} {S : Sto} {H : Hp} {ds : List Dv} {vs : List V} {Q : VK} (s : StR G A S H) (r : RDs G A H ds vs) (p : Po G E A H (lift (pLst ds S)) (kD G Q)) : vs.length ≤ sizeLine ∧ ∀ q, H q = none → Q (.ref q) (upd H q (.lst vs)) := by
  unfold pLst at p
  cases e1 : pures ds with
  | none =>
    rw [e1] at p
    exact p.elim
  | some ts =>
    rw [e1] at p
    have r1 := pures_rvs e1 r
    by_cases hl : ts.length ≤ 16777216
    · simp only [hl, if_true] at p
      refine ⟨by rw [← r1.length]; exact line_of hl, fun q hq => Po.at p (Ext.new hq) (s.new hq) _ (RV.lst_new s hq r1)⟩
    · simp only [hl, if_false] at p
      exact p.elim
theorem lstB_po {A : Al} {S : Sto} {H : Hp} {ds : List Dv} {vs : List V} {Q : VK} (s : StR G A S H) (r : RDs G A H ds vs) (p : Po G E A H (lift (pLstB ds S)) (kD G Q)) : vs.length ≤ sizeLine ∧ ∀ q, H q = none → Q (.ref q) (upd H q (.lst vs)) := by
  unfold pLstB at p
  by_cases hl : ds.length ≤ 16777216
  · simp only [hl, if_true] at p
    refine ⟨by rw [← Paired.length r]; exact line_of hl, fun q hq => ?_⟩
    obtain ⟨x1, s1, r1⟩ := box_lst s hq r
    exact Po.at p x1 s1 _ r1
  · simp only [hl, if_false] at p
    exact p.elim
theorem e_tup {k : Nat} {ma : M (List Dv)} (h : PA X es (tMA G W ma)) : PE X (.Tuple es k pos) (tM G W (mN pTup ma)) := by
  refine (pe_tup h).sm fun σ H Q h => ?_
  obtain ⟨A, ρ, S, he, hs, p0⟩ := h
  exact ⟨A, ρ, S, he, hs, Po.step p0 fun ds S1 A1 H1 x1 s1 p1 vs rvs => tup_po s1 rvs p1⟩
theorem e_lst {ma : M (List Dv)} (h : PA X es (tMA G W ma)) : PE X (.List es pos) (tM G W (mN pLst ma)) := by
  refine (pe_lst h).sm fun σ H Q h => ?_
  obtain ⟨A, ρ, S, he, hs, p0⟩ := h
  exact ⟨A, ρ, S, he, hs, Po.step p0 fun ds S1 A1 H1 x1 s1 p1 vs rvs => lst_po s1 rvs p1⟩
theorem e_lstB {ma : M (List Dv)} (h : PA X es (tMA G W ma)) : PE X (.List es pos) (tM G W (mN pLstB ma)) := by
  refine (pe_lst h).sm fun σ H Q h => ?_
  obtain ⟨A, ρ, S, he, hs, p0⟩ := h
  exact ⟨A, ρ, S, he, hs, Po.step p0 fun ds S1 A1 H1 x1 s1 p1 vs rvs => lstB_po s1 rvs p1⟩
end
end Sm
/-! Sm3: statements, targets, loops. -/
namespace Sm
open PySem PySem.Spec PyProof.Rows L2

inductive Sz where
  | nx (ρ : Env) (S : Sto) | rt (d : Dv) (S : Sto) | bk (ρ : Env) (S : Sto) | ct (ρ : Env) (S : Sto) | er (c : Nat) (t : Dt) (ρ : Env) (S : Sto) | bad
abbrev SM := Env → Sto → Sz
/-- an expression's result, then a statement's -/
def Rz.to {α : Type} (r : Rz α) (ρ : Env) (f : α → Sto → Sz) : Sz := match r with
  | .ok a S => f a S
  | .er c t S => .er c t ρ S
  | .bad => .bad
@[simp] theorem to_ok {α : Type} {a : α} {S : Sto} {ρ : Env} {f : α → Sto → Sz} : (Rz.ok a S).to ρ f = f a S := rfl
@[simp] theorem to_bad {α : Type} {ρ : Env} {f : α → Sto → Sz} : (Rz.bad : Rz α).to ρ f = .bad := rfl
@[simp] theorem to_er {α : Type} {c : Nat} {t : Dt} {S : Sto} {ρ : Env} {f : α → Sto → Sz} : (Rz.er c t S : Rz α).to ρ f = .er c t ρ S := rfl

def PoS (G : Gs) (W : WX) (A : Al) (H : Hp) (r : Sz) (D : Ends) : Prop := match r with
  | .nx ρ S => ∀ A' H' σ', Ext A H A' H' → StR G A' S H' → EnvR G A' H' ρ σ' → D.nx σ' H'
  | .rt d S => ∀ A' H' v, Ext A H A' H' → StR G A' S H' → RD G A' H' d v → D.rt v H'
  | .bk ρ S => ∀ A' H' σ', Ext A H A' H' → StR G A' S H' → EnvR G A' H' ρ σ' → D.bk σ' H'
  | .ct ρ S => ∀ A' H' σ', Ext A H A' H' → StR G A' S H' → EnvR G A' H' ρ σ' → D.ct σ' H'
  | .er c t ρ S => ∀ A' H' σ' cls d, Ext A H A' H' → StR G A' S H' → EnvR G A' H' ρ σ' → ExR G A' H' c t cls d → W cls d σ' H'
  | .bad => False
section
variable {G : Gs} {W : WX} {A A' A1 : Al} {H H' H1 : Hp} {S S' S1 : Sto}
theorem PoS.mono {r : Sz} {D : Ends} (x : Ext A H A1 H1) (h : PoS G W A H r D) : PoS G W A1 H1 r D := by
  cases r with
  | nx ρ S => exact fun A' H' σ' y s e => h A' H' σ' (x.trans y) s e
  | rt d S => exact fun A' H' σ' y s e => h A' H' σ' (x.trans y) s e
  | bk ρ S => exact fun A' H' σ' y s e => h A' H' σ' (x.trans y) s e
  | ct ρ S => exact fun A' H' σ' y s e => h A' H' σ' (x.trans y) s e
  | er c t ρ S => exact fun A' H' σ' cls d y s e r => h A' H' σ' cls d (x.trans y) s e r
  | bad => exact h
/-- an expression, then the rest of a statement -/
theorem PoS.step {α : Type} {r : Rz α} {ρ : Env} {σ : L2.St} {f : α → Sto → Sz} {D : Ends} {k' : Al → Hp → α → Prop} (he : EnvR G A H ρ σ) (h : PoS G W A H (r.to ρ f) D)
    (q : ∀ a S1 A1 H1, Ext A H A1 H1 → StR G A1 S1 H1 → EnvR G A1 H1 ρ σ → PoS G W A1 H1 (f a S1) D → k' A1 H1 a) : Po G (Wa W σ) A H r k' := by
  cases r with
  | ok a S => exact fun A' H' y s => q a S A' H' y s (he.kp y.kp) (PoS.mono y h)
  | er c t S => exact fun A' H' cls d y s e => h A' H' σ cls d y s (he.kp y.kp) e
  | bad => exact h
theorem PoS.nx_now {ρ : Env} {σ : L2.St} {D : Ends} (h : PoS G W A H (.nx ρ S) D) (s : StR G A S H) (e : EnvR G A H ρ σ) : D.nx σ H := h A H σ .refl s e
/-- two statements -/
def sqz (r : Sz) (f : Env → Sto → Sz) : Sz := match r with
  | .nx ρ S => f ρ S
  | r => r
theorem PoS.sq {r : Sz} {f : Env → Sto → Sz} {D D' : Ends} (h : PoS G W A H (sqz r f) D) (hr : D'.rt = D.rt) (hb : D'.bk = D.bk) (hc : D'.ct = D.ct)
    (q : ∀ ρ S1 A1 H1 σ1, Ext A H A1 H1 → StR G A1 S1 H1 → EnvR G A1 H1 ρ σ1 → PoS G W A1 H1 (f ρ S1) D → D'.nx σ1 H1) : PoS G W A H r D' := by
  cases r with
  | nx ρ S => exact fun A' H' σ' y s e => q ρ S A' H' σ' y s e (PoS.mono y h)
  | rt d S =>
    show ∀ A' H' v, Ext A H A' H' → StR G A' S H' → RD G A' H' d v → D'.rt v H'
    rw [hr]
    exact h
  | bk ρ S =>
    show ∀ A' H' σ', Ext A H A' H' → StR G A' S H' → EnvR G A' H' ρ σ' → D'.bk σ' H'
    rw [hb]
    exact h
  | ct ρ S =>
    show ∀ A' H' σ', Ext A H A' H' → StR G A' S H' → EnvR G A' H' ρ σ' → D'.ct σ' H'
    rw [hc]
    exact h
  | er c t ρ S => exact h
  | bad => exact h
end
def tMS (G : Gs) (W : WX) (m : SM) : TS := fun D σ H => ∃ A ρ S, EnvR G A H ρ σ ∧ StR G A S H ∧ PoS G W A H (m ρ S) D
theorem _root_.L2.PS.sm {X : Cx} {e : Stmt} {t t' : TS} (h : PS X e t) (f : ∀ D σ H, t' D σ H → t D σ H) : PS X e t' := ⟨fun pins s σ H D I q => h.run pins s σ H D I (f D σ H q)⟩
theorem _root_.L2.PSs.sm {X : Cx} {e : List Stmt} {t t' : TS} (h : PSs X e t) (f : ∀ D σ H, t' D σ H → t D σ H) : PSs X e t' := ⟨fun pins s σ H D I q => h.run pins s σ H D I (f D σ H q)⟩
/-! ### combinators -/
def sNil : SM := fun ρ S => .nx ρ S
def sSeq (a b : SM) : SM := fun ρ S => sqz (a ρ S) b
def sSet (i : Nat) (m : M Dv) : SM := fun ρ S => (m ρ S).to ρ fun d S1 => .nx (ρ.set i (some d)) S1
def sIf (c : M Bool) (a b : SM) : SM := fun ρ S => (c ρ S).to ρ fun k S1 => if k = true then a ρ S1 else b ρ S1
def sRet (m : M Dv) : SM := fun ρ S => (m ρ S).to ρ fun d S1 => .rt d S1
def sDrop (m : M Dv) : SM := fun ρ S => (m ρ S).to ρ fun _ S1 => .nx ρ S1
/-- targets: what a piece of data is stored into -/
abbrev GM := Dv → Env → Option Env
def gN (i : Nat) : GM := fun d ρ => some (ρ.set i (some d))
abbrev GMs := List Dt → Env → Option Env
def gsNil : GMs := fun ts ρ => match ts with
  | [] => some ρ
  | _ => none
def gsCons (g : GM) (r : GMs) : GMs := fun ts ρ => match ts with
  | [] => none
  | t :: ts => match g (.d t) ρ with
    | some ρ1 => r ts ρ1
    | none => none
def gT (gs : GMs) : GM := fun d ρ => match d with
  | .d (.tup ts) => gs ts ρ
  | _ => none
def oz {α : Type} (o : Option α) (f : α → Sz) : Sz := match o with
  | some a => f a
  | none => .bad
def sAsg (g : GM) (m : M Dv) : SM := fun ρ S => (m ρ S).to ρ fun d S1 => oz (g d ρ) fun ρ1 => .nx ρ1 S1
def forL (g : GM) (b : SM) : List Dt → SM
  | [], ρ, S => .nx ρ S
  | t :: ts, ρ, S => oz (g (.d t) ρ) fun ρ1 => match b ρ1 S with
    | .nx ρ2 S2 => forL g b ts ρ2 S2
    | .ct ρ2 S2 => forL g b ts ρ2 S2
    | .bk ρ2 S2 => .nx ρ2 S2
    | r => r
def sFor (it : M (List Dt)) (g : GM) (b : SM) : SM := fun ρ S => (it ρ S).to ρ fun ts S1 => forL g b ts ρ S1
def whL (c : M Bool) (b : SM) : Nat → SM
  | 0, _, _ => .bad
  | n + 1, ρ, S => (c ρ S).to ρ fun k S1 => if k = true then (match b ρ S1 with
    | .nx ρ2 S2 => whL c b n ρ2 S2
    | .ct ρ2 S2 => whL c b n ρ2 S2
    | .bk ρ2 S2 => .nx ρ2 S2
    | r => r) else .nx ρ S1
/-- at most n turns -/
def sWh (n : Nat) (c : M Bool) (b : SM) : SM := whL c b n

section
variable {X : Cx} {G : Gs} {W : WX} {a b c e : Expr} {es : List Expr} {pos : Pos} {ma mb : M Dv} {ca cb : M Bool} {st : Stmt} {sts : List Stmt} {sa sb : SM}
theorem ss_nil : PSs X [] (tMS G W sNil) := by
  refine pss_nil.sm fun D σ H h => ?_
  obtain ⟨A, ρ, S, he, hs, p⟩ := h
  exact PoS.nx_now p hs he
theorem ss_cons (h1 : PS X st (tMS G W sa)) (h2 : PSs X sts (tMS G W sb)) : PSs X (st :: sts) (tMS G W (sSeq sa sb)) := by
  refine (pss_cons h1 h2).sm fun D σ H h => ?_
  obtain ⟨A, ρ, S, he, hs, p⟩ := h
  exact ⟨A, ρ, S, he, hs, PoS.sq p rfl rfl rfl fun ρ1 S1 A1 H1 σ1 x s e q => ⟨A1, ρ1, S1, e, s, q⟩⟩
theorem ss_one (h1 : PS X st (tMS G W sa)) : PSs X [st] (tMS G W sa) := pss_one h1
theorem s_expr (h : PE X e (tM G W ma)) (hs : swapsWith e none pos.line X.env = pure false) : PS X (.Expr e pos) (tMS G W (sDrop ma)) := by
  refine (ps_expr h hs).sm fun D σ H h => ?_
  obtain ⟨A, ρ, S, he, hs, p⟩ := h
  exact ⟨A, ρ, S, he, hs, PoS.step he p fun d S1 A1 H1 x s e q v rv => PoS.nx_now q s e⟩
theorem s_ret (h : PE X e (tM G W ma)) : PS X (.Return (some e) pos) (tMS G W (sRet ma)) := by
  refine (ps_ret h).sm fun D σ H h => ?_
  obtain ⟨A, ρ, S, he, hs, p⟩ := h
  exact ⟨A, ρ, S, he, hs, PoS.step he p fun d S1 A1 H1 x s e q v rv => q A1 H1 v .refl s rv⟩
theorem s_if (hc : PT X c (tMT G W ca)) (ha : PSs X sts (tMS G W sa)) {sts' : List Stmt} (hb : PSs X sts' (tMS G W sb)) : PS X (.If c sts sts' pos) (tMS G W (sIf ca sa sb)) := by
  refine (ps_if hc ha hb).sm fun D σ H h => ?_
  obtain ⟨A, ρ, S, he, hs, p⟩ := h
  refine ⟨A, ρ, S, he, hs, PoS.step he p fun k S1 A1 H1 x s e q => ?_⟩
  cases k with
  | true => exact ⟨A1, ρ, S1, e, s, q⟩
  | false => exact ⟨A1, ρ, S1, e, s, q⟩
theorem EnvR.set {A : Al} {H : Hp} {ρ : Env} {σ : L2.St} {i : Nat} {d : Dv} {v : V} (h : EnvR G A H ρ σ) (r : RD G A H d v) : EnvR G A H (ρ.set i (some d)) (σ.set i (some v)) := by
  refine ⟨by simp [h.len], fun j d' e => ?_⟩
  by_cases hj : i = j
  · subst hj
    have hi : i < ρ.length := by
      have := (List.getElem?_eq_some_iff.mp e).1
      simpa using this
    rw [List.getElem?_set_self hi] at e
    cases e
    exact ⟨v, by rw [List.getElem?_set_self (by rw [← h.len]; exact hi)], r⟩
  · rw [List.getElem?_set_ne hj] at e
    obtain ⟨u, e1, r1⟩ := h.at_ j d' e
    exact ⟨u, by rw [List.getElem?_set_ne hj]; exact e1, r1⟩
theorem s_set {i : Nat} {x : Str} {pos' : Pos} (hN : X.N.Nodup) (hi : X.N[i]? = some x) (hx : Loc X.env.scope x) (h : PE X e (tM G W ma)) (hs : swapsWith e (some (.Name x pos')) pos.line X.env = pure false) (hf : X.fn x = true ∨ X.env.scope.names.lookup x = some .local) :
    PS X (.Assign [.Name x pos'] e pos) (tMS G W (sSet i ma)) := by
  refine (ps_set hN hi hx h hs hf).sm fun D σ H h => ?_
  obtain ⟨A, ρ, S, he, hs, p⟩ := h
  exact ⟨A, ρ, S, he, hs, PoS.step he p fun d S1 A1 H1 x s e q v rv => PoS.nx_now q s (e.set rv)⟩
/-- a target that only stores into slots L -/
def TgS (G : Gs) (t : TG) (g : GM) (L : List Nat) : Prop := ∀ (A : Al) (S : Sto) (ρ ρ' : Env) (σ : L2.St) (H : Hp) (d : Dv) (v : V) (Q : L2.St → Hp → Prop), EnvR G A H ρ σ → StR G A S H → RD G A H d v → g d ρ = some ρ' →
  (∀ σ', EnvR G A H ρ' σ' → (∀ j : Nat, j ∉ L → σ'[j]? = σ[j]?) → σ'.length = σ.length → Q σ' H) → t v σ H Q
def TgSs (G : Gs) (t : TGs) (g : GMs) (L : List Nat) : Prop := ∀ (A : Al) (S : Sto) (ρ ρ' : Env) (σ : L2.St) (H : Hp) (ts : List Dt) (vs : List V) (Q : L2.St → Hp → Prop), EnvR G A H ρ σ → StR G A S H → RVs G A H ts vs → g ts ρ = some ρ' →
  (∀ σ', EnvR G A H ρ' σ' → (∀ j : Nat, j ∉ L → σ'[j]? = σ[j]?) → σ'.length = σ.length → Q σ' H) → t vs σ H Q
theorem g_name {i : Nat} : TgS G (gName i) (gN i) [i] := by
  intro A S ρ ρ' σ H d v Q he hs r e q
  cases e
  refine q _ (he.set r) (fun j hj => ?_) (by simp)
  simp at hj
  rw [List.getElem?_set_ne (fun z => hj z.symm)]
theorem gs_nil : TgSs G gNil gsNil [] := by
  intro A S ρ ρ' σ H ts vs Q he hs r e q
  cases ts with
  | nil =>
    have z : vs = [] := r
    subst z
    cases e
    exact ⟨rfl, q σ he (fun _ _ => rfl) rfl⟩
  | cons t ts => cases e
theorem gs_cons {t : TG} {u : TGs} {g : GM} {gs : GMs} {L L' : List Nat} (h1 : TgS G t g L) (h2 : TgSs G u gs L') : TgSs G (gCons t u) (gsCons g gs) (L ++ L') := by
  intro A S ρ ρ' σ H ts vs Q he hs r e q
  cases ts with
  | nil => cases e
  | cons x ts =>
    obtain ⟨v, w, rfl, r1, r2⟩ := r
    unfold gsCons at e
    simp only at e
    cases e1 : g (.d x) ρ with
    | none =>
      rw [e1] at e
      cases e
    | some ρ1 =>
      rw [e1] at e
      refine ⟨v, w, rfl, h1 A S ρ ρ1 σ H (.d x) v _ he hs r1 e1 fun σ1 he1 k1 l1 => ?_⟩
      exact h2 A S ρ1 ρ' σ1 H ts w _ he1 hs r2 e fun σ2 he2 k2 l2 => q σ2 he2 (fun j hj => by
        rw [List.mem_append] at hj
        rw [k2 j fun z => hj (.inr z), k1 j fun z => hj (.inl z)]) (l2.trans l1)
/-- the number of items that a pattern takes -/
def GLen (gs : GMs) (n : Nat) : Prop := ∀ ts ρ ρ', gs ts ρ = some ρ' → ts.length = n
theorem glen_nil : GLen gsNil 0 := fun ts ρ ρ' e => by
  cases ts with
  | nil => rfl
  | cons => cases e
theorem glen_cons {g : GM} {gs : GMs} {n : Nat} (h : GLen gs n) : GLen (gsCons g gs) (n + 1) := fun ts ρ ρ' e => by
  cases ts with
  | nil => cases e
  | cons x ts =>
    unfold gsCons at e
    simp only at e
    cases e1 : g (.d x) ρ with
    | none =>
      rw [e1] at e
      cases e
    | some ρ1 =>
      rw [e1] at e
      simp [h ts ρ1 ρ' e]
theorem g_tup {u : TGs} {gs : GMs} {L : List Nat} {n : Nat} (hl : GLen gs n) (h : TgSs G u gs L) : TgS G (gTup G.K n u) (gT gs) L := by
  intro A S ρ ρ' σ H d v Q he hs r e q
  cases d with
  | loc k => cases e
  | d t =>
    cases t with
    | tup ts =>
      obtain ⟨a, vs, rfl, ht, hv⟩ := r
      refine ⟨a, vs, rfl, ht.sq, ?_, h A S ρ ρ' σ H ts vs Q he hs hv e q⟩
      rw [← hv.length]
      exact hl ts ρ ρ' e
    | _ => cases e
theorem oz_po {A : Al} {H : Hp} {α : Type} {o : Option α} {f : α → Sz} {D : Ends} (h : PoS G W A H (oz o f) D) : ∃ a, o = some a ∧ PoS G W A H (f a) D := by
  cases o with
  | none => exact h.elim
  | some a => exact ⟨a, rfl, h⟩
theorem s_asg {tg : Expr} {t : TG} {g : GM} {L : List Nat} (hg : PG X tg t) (hgs : TgS G t g L) (h : PE X e (tM G W ma)) (hs : swapsWithSole [tg] e pos.line X.env = pure false) (hw : swappedStores [tg] e X.env = pure none) (h1 : (assignEach [tg] X.env).map (·.2) = [assign tg X.env]) :
    PS X (.Assign [tg] e pos) (tMS G W (sAsg g ma)) := by
  refine (ps_asg h hg hs hw h1).sm fun D σ H h => ?_
  obtain ⟨A, ρ, S, he, hs, p⟩ := h
  refine ⟨A, ρ, S, he, hs, PoS.step he p fun d S1 A1 H1 x s e q v rv => ?_⟩
  obtain ⟨ρ1, e1, q1⟩ := oz_po q
  exact hgs A1 S1 ρ ρ1 σ H1 d v _ e s rv e1 fun σ' he' _ _ => PoS.nx_now q1 s he'
end
/-! ### what is walked -/
/-- J, at A H, gives the data ts one behind the other -/
structure Wk (G : Gs) (J : It) (A : Al) (H : Hp) (ts : List Dt) : Prop where
  go : ∀ (i : Nat) A' H', i < ts.length → Ext A H A' H' → J.go i H'
  yld : ∀ (i : Nat) A' H' S x H2, i < ts.length → Ext A H A' H' → StR G A' S H' → J.yld i H' x H2 → ∃ t, ts[i]? = some t ∧ Ext A' H' A' H2 ∧ StR G A' S H2 ∧ RV G A' H2 t x
  stop : ∀ A' H', Ext A H A' H' → J.stop ts.length H'
/-- the iterable's mirror -/
def PIS (X : Cx) (G : Gs) (W : WX) (tg iter : Expr) (m : M (List Dt)) : Prop := ∃ wi : TI, PI X tg iter wi ∧ ∀ (σ : L2.St) (H : Hp) (A : Al) (ρ : Env) (S : Sto) (R : It → Hp → Prop), EnvR G A H ρ σ → StR G A S H →
  Po G (Wa W σ) A H (m ρ S) (fun A' H' ts => ∀ J, Wk G J A' H' ts → R J H') → wi σ H R
section
variable {X : Cx} {G : Gs} {W : WX} {tg iter : Expr} {pos : Pos} {it : M (List Dt)} {g : GM} {sb : SM} {t : TG} {L : List Nat} {body : List Stmt}
theorem s_for (hp : PassesOwn (model X.prog X.w) X.A X.env X.xe) (hc : X.calm = true) (hi : PIS X G W tg iter it) (hg : PG X tg t) (hgs : TgS G t g L) (hb : PSs X body (tMS G W sb)) (hs : ∀ x, foldedSetIterable iter X.env x = pure x) :
    PS X (.For tg iter body [] pos) (tMS G W (sFor it g sb)) := by
  obtain ⟨wi, pi, hw⟩ := hi
  refine (ps_for hp hc pi hg hb hs).sm fun D σ H h => ?_
  obtain ⟨A, ρ, S, he, hs, p⟩ := h
  refine hw σ H A ρ S _ he hs (PoS.step he p fun ts S1 A1 H1 x1 s1 e1 p1 J wk => ?_)
  refine ⟨fun i m σ' H' => ∃ A' ρ' S', Ext A1 H1 A' H' ∧ EnvR G A' H' ρ' σ' ∧ StR G A' S' H' ∧ i ≤ ts.length ∧ m = ts.length - i ∧ PoS G W A' H' (forL g sb (ts.drop i) ρ' S') D, ⟨_, A1, ρ, S1, .refl, e1, s1, Nat.zero_le _, rfl, p1⟩, fun i m σ' H' hW => ?_⟩
  obtain ⟨A', ρ', S', x', e', s', hi, hm, q⟩ := hW
  by_cases hlt : i < ts.length
  · refine .inr ⟨wk.go i A' H' hlt x', fun σ2 H2 => ∃ A2 ρ2 S2, Ext A1 H1 A2 H2 ∧ EnvR G A2 H2 ρ2 σ2 ∧ StR G A2 S2 H2 ∧ PoS G W A2 H2 (forL g sb (ts.drop (i + 1)) ρ2 S2) D, fun σ2 H2 hN => ?_, fun v H2 hy => ?_⟩
    · obtain ⟨A2, ρ2, S2, x2, e2, s2, q2⟩ := hN
      exact ⟨ts.length - (i + 1), by omega, A2, ρ2, S2, x2, e2, s2, by omega, rfl, q2⟩
    · obtain ⟨d, ed, xy, sy, rv⟩ := wk.yld i A' H' S' v H2 hlt x' s' hy
      have hd : ts.drop i = d :: ts.drop (i + 1) := by
        rw [List.drop_eq_getElem_cons hlt]
        rw [List.getElem?_eq_getElem hlt] at ed
        cases ed
        rfl
      rw [hd] at q
      unfold forL at q
      obtain ⟨ρ1, eg, q1⟩ := oz_po q
      refine hgs A' S' ρ' ρ1 σ' H2 (.d d) v _ (e'.kp xy.kp) sy rv eg fun σ2 e2 _ _ => ?_
      refine ⟨A', ρ1, S', e2, sy, ?_⟩
      have q1 := PoS.mono xy q1
      cases eb : sb ρ1 S' with
      | nx ρ2 S2 =>
        rw [eb] at q1
        exact fun A2 H3 σ3 y s e => ⟨A2, ρ2, S2, (x'.trans xy).trans y, e, s, PoS.mono y q1⟩
      | ct ρ2 S2 =>
        rw [eb] at q1
        exact fun A2 H3 σ3 y s e => ⟨A2, ρ2, S2, (x'.trans xy).trans y, e, s, PoS.mono y q1⟩
      | bk ρ2 S2 =>
        rw [eb] at q1
        exact q1
      | rt d S2 =>
        rw [eb] at q1
        exact q1
      | er c t ρ2 S2 =>
        rw [eb] at q1
        exact q1
      | bad =>
        rw [eb] at q1
        exact q1.elim
  · have hz : i = ts.length := by omega
    subst hz
    rw [List.drop_length] at q
    exact .inl ⟨wk.stop A' H' x', q A' H' σ' .refl s' e'⟩
theorem s_while {c : Expr} {cm : M Bool} {n : Nat} (hp : PassesOwn (model X.prog X.w) X.A X.env X.xe) (hc : PT X c (tMT G W cm)) (hb : PSs X body (tMS G W sb)) : PS X (.While c body [] pos) (tMS G W (sWh n cm sb)) := by
  refine (ps_while hp hc hb).sm fun D σ H h => ?_
  obtain ⟨A, ρ, S, he, hs, p⟩ := h
  refine ⟨fun m σ' H' => ∃ A' ρ' S', EnvR G A' H' ρ' σ' ∧ StR G A' S' H' ∧ PoS G W A' H' (whL cm sb m ρ' S') D, ⟨n, A, ρ, S, he, hs, p⟩, fun m σ' H' hW => ?_⟩
  obtain ⟨A', ρ', S', e', s', q⟩ := hW
  cases m with
  | zero => exact q.elim
  | succ m =>
    refine ⟨A', ρ', S', e', s', PoS.step e' q fun k S1 A1 H1 x1 s1 e1 q1 => ?_⟩
    cases k with
    | false => exact PoS.nx_now q1 s1 e1
    | true =>
      refine ⟨fun σ2 H2 => ∃ A2 ρ2 S2, EnvR G A2 H2 ρ2 σ2 ∧ StR G A2 S2 H2 ∧ PoS G W A2 H2 (whL cm sb m ρ2 S2) D, fun σ2 H2 hN => ⟨m, Nat.lt_succ_self m, hN⟩, A1, ρ', S1, e1, s1, ?_⟩
      simp only [if_true] at q1
      cases eb : sb ρ' S1 with
      | nx ρ2 S2 =>
        rw [eb] at q1
        exact fun A2 H3 σ3 y s e => ⟨A2, ρ2, S2, e, s, PoS.mono y q1⟩
      | ct ρ2 S2 =>
        rw [eb] at q1
        exact fun A2 H3 σ3 y s e => ⟨A2, ρ2, S2, e, s, PoS.mono y q1⟩
      | bk ρ2 S2 =>
        rw [eb] at q1
        exact q1
      | rt d S2 =>
        rw [eb] at q1
        exact q1
      | er c t ρ2 S2 =>
        rw [eb] at q1
        exact q1
      | bad =>
        rw [eb] at q1
        exact q1.elim
end
end Sm
/-! Sm4: defs, calls, new instances, methods, fields. -/
namespace Sm
open PySem PySem.Spec PyProof.Rows L2

abbrev FM := List Dv → Sto → Rz Dv
def SpM (G : Gs) (F : FM) : Sp := fun vs H Q E => ∃ A S ds, RDs G A H ds vs ∧ StR G A S H ∧ Po G E A H (F ds S) (kD G Q)
/-- what a def's body gives: n names, the first p its parameters -/
def runB (n p : Nat) (b : SM) : FM := fun ds S => if ds.length = p then (match b (ds.map some ++ List.replicate (n - p) none) S with
  | .nx _ S' => .ok (.d .non) S'
  | .rt d S' => .ok d S'
  | .er c t _ S' => .er c t S'
  | _ => .bad) else .bad
/-- a context: nothing is handled, names apart, exceptions that W wishes are taken, room for k calls -/
structure Bx (X : Cx) (G : Gs) (W : WX) (k : Nat) : Prop where
  calm : X.calm = true
  nd : X.N.Nodup
  tk : Takes X W
  hK : G.K = X.K
  room : Room k X.A
abbrev W0 : WX := fun _ _ _ _ => False
theorem Bx.blk {X : Cx} {G : Gs} {W : WX} {k : Nat} (B : Bx X G W k) (s : Shared) (H : Hp) (scope : Scope) (cenv : PySem.Env) (fp : List Addr) : Bx (X.blk s H scope cenv fp) G W0 k := ⟨B.calm, B.nd, takes0, B.hK, B.room⟩
theorem Bx.le {X : Cx} {G : Gs} {W : WX} {k j : Nat} (B : Bx X G W k) (h : j ≤ k) : Bx X G W j := ⟨B.calm, B.nd, B.tk, B.hK, B.room.mono h⟩
section
variable {P : Program} {w : World} {G : Gs} {mg : Str → Option Value} {base : Heap}
theorem start_rds {A : Al} {H : Hp} : ∀ {ds : List Dv} {vs : List V} (n : Nat), RDs G A H ds vs → EnvR G A H (ds.map some ++ List.replicate n none) (vs.map some ++ List.replicate n none) := by
  intro ds vs n r
  refine ⟨by simp [Paired.length r], fun i d e => ?_⟩
  by_cases hi : i < ds.length
  · have hi2 : i < vs.length := by rw [← Paired.length r]; exact hi
    rw [List.getElem?_append_left (by simpa using hi)] at e
    simp at e
    obtain ⟨v, ev, rv⟩ := r.get e
    refine ⟨v, ?_, rv⟩
    rw [List.getElem?_append_left (by simpa using hi2)]
    simp [ev]
  · rw [List.getElem?_append_right (by simp; omega)] at e
    rw [List.getElem?_replicate] at e
    split at e
    · cases e
    · cases e
/-- THE RULE for a def -/
theorem fn_ok {x qual : Str} {st : Stmt} {f : Addr} {fd : FuncData} {N ps : List Str} {k : Nat} {b : SM} (F : Fun G.K x qual st f fd) (S : FnScope N ps (defScope st)) 
    (hbody : ∀ (cdv : Value) (A : Around) (outer : List PySem.Env) (s : Shared) (H : Hp) (E : XK), Bx (cxOf (L2.CX P w) P w G.K mg base N qual (defScope st) f cdv A outer s H E) G (fun c d _ H' => E c d H') k →
      PassesOwn (model P w) (A.deeper (envOfC qual (defScope st) s.heap.objs.size f cdv)) (envOfC qual (defScope st) s.heap.objs.size f cdv) (cxOf (L2.CX P w) P w G.K mg base N qual (defScope st) f cdv A outer s H E).xe →
      PSs (cxOf (L2.CX P w) P w G.K mg base N qual (defScope st) f cdv A outer s H E) (defBody st) (tMS G (fun c d _ H' => E c d H') b)) :
    FnOk P w G.K mg base (L2.CX P w) (k + 1) f fd ps (SpM G (runB N.length ps.length b)) := by
  refine F.okX S (fun vs H Q E h => ?_) (fun cdv A outer s H vs Q E hr h => ?_)
  · obtain ⟨A, S', ds, r, s, p⟩ := h
    unfold runB at p
    split at p
    · rename_i e
      rw [← Paired.length r]
      exact e
    · exact p.elim
  · refine ⟨_, hbody cdv A outer s H E ⟨rfl, S.nd, takes_of rfl rfl rfl rfl, rfl, hr⟩ (passes_of rfl), ?_⟩
    obtain ⟨A', S', ds, r, s', p⟩ := h
    unfold runB at p
    split at p
    · rename_i e
      refine ⟨A', ds.map some ++ List.replicate (N.length - ps.length) none, S', ?_, s', ?_⟩
      · have := start_rds (N.length - vs.length) r
        rw [show N.length - ps.length = N.length - vs.length by rw [← e, Paired.length r]]
        exact this
      · cases eb : b (ds.map some ++ List.replicate (N.length - ps.length) none) S' with
        | nx ρ S1 =>
          rw [eb] at p
          exact fun A1 H1 σ1 y s1 e1 => p A1 H1 y s1 .non rfl
        | rt d S1 =>
          rw [eb] at p
          exact fun A1 H1 v y s1 e1 => p A1 H1 y s1 v e1
        | er c t ρ S1 =>
          rw [eb] at p
          exact fun A1 H1 σ1 cls d y s1 e1 x1 => p A1 H1 cls d y s1 x1
        | bk ρ S1 =>
          rw [eb] at p
          exact p.elim
        | ct ρ S1 =>
          rw [eb] at p
          exact p.elim
        | bad =>
          rw [eb] at p
          exact p.elim
    · exact p.elim
/-- a call of a certain form: n positional values, keywords named ks -/
def CallW (P : Program) (w : World) (G : Gs) (mg : Str → Option Value) (base : Heap) (k : Nat) (f : Addr) (n : Nat) (ks : List Str) (F : FM) : Prop :=
  ∀ (A : Around) (outer : List PySem.Env) (s : Shared) (H : Hp) (us ws : List Value) (vs zs : List V) (Q : VK) (E : XK), Room k A → Env0 P w G.K mg base A outer s H → Vals vs us → Vals zs ws → vs.length = n → zs.length = ks.length → SpM G F (vs ++ zs) H Q E →
    codeAny (model P w) A (.call (.ref f) ⟨us, ks.zip ws⟩) (CR (L2.CX P w) outer P w H s Q E) s
theorem CallW.mono {k j : Nat} {f : Addr} {n : Nat} {ks : List Str} {F : FM} (h : CallW P w G mg base j f n ks F) (l : j ≤ k) : CallW P w G mg base k f n ks F :=
  fun A outer s H us ws vs zs Q E hr e0 r rz l1 l2 q => h A outer s H us ws vs zs Q E (hr.mono l) e0 r rz l1 l2 q
/-- another function that promises less -/
theorem CallW.imp {k : Nat} {f : Addr} {n : Nat} {ks : List Str} {F F' : FM} (h : CallW P w G mg base k f n ks F) (i : ∀ vs H Q E, SpM G F' vs H Q E → SpM G F vs H Q E) : CallW P w G mg base k f n ks F' :=
  fun A outer s H us ws vs zs Q E hr e0 r rz l1 l2 q => h A outer s H us ws vs zs Q E hr e0 r rz l1 l2 (i _ _ _ _ q)
/-- all values written, or the defaults dds behind -/
theorem CallW.of {k : Nat} {f : Addr} {fd : FuncData} {ps : List Str} {n : Nat} {F : FM} {ds : List Value} {dvs : List V} {dds : List Dt} (h : FnOk P w G.K mg base (L2.CX P w) k f fd ps (SpM G F)) (b : Binds G.K fd ps ds) (hd : Vals dvs ds) (hr : ∀ A H, RVs G A H dds dvs) :
    CallW P w G mg base k f n [] (fun xs => F (xs ++ dds.map .d)) := by
  intro A outer s H us ws vs zs Q E hr' e0 r rz l1 l2 q
  have hz : zs = [] := by
    cases zs with
    | nil => rfl
    | cons z zs => simp at l2
  subst hz
  rw [List.append_nil] at q
  obtain ⟨A', S', es, rd, s', p⟩ := q
  have q2 : SpM G F (vs ++ dvs) H Q E := ⟨A', S', es ++ dds.map .d, rd.append (hr A' H).rds, s', p⟩
  have hl := h.len _ _ _ _ q2
  have hV := Vals.append r hd
  exact h.run A outer s H ⟨us, []⟩ (us ++ ds) (vs ++ dvs) Q E hr' e0 (b s us (e0.mod.kin.keeps fun b o e => (e0.bs b o e).1) (by rw [← hl, hV.length])) hV q2
theorem CallW.of0 {k : Nat} {f : Addr} {fd : FuncData} {ps : List Str} {n : Nat} {F : FM} (h : FnOk P w G.K mg base (L2.CX P w) k f fd ps (SpM G F)) (b : Binds G.K fd ps []) : CallW P w G mg base k f n [] F := by
  have := CallW.of (n := n) (dds := []) h b .nil (fun _ _ => (rfl : ([] : List V) = []))
  simpa using this
/-- keywords -/
theorem CallW.kw {k : Nat} {f : Addr} {fd : FuncData} {ps ks : List Str} {n : Nat} {F F' : FM} {g : List Value → List Value → List Value} {gV : List V → List V → List V} (h : FnOk P w G.K mg base (L2.CX P w) k f fd ps (SpM G F)) (b : KBn G.K fd ps n ks g gV)
    (hF : ∀ A H (xs : List Dv) (vs zs : List V), RDs G A H xs (vs ++ zs) → vs.length = n → zs.length = ks.length → ∃ ys, RDs G A H ys (gV vs zs) ∧ ∀ S, F ys S = F' xs S) : CallW P w G mg base k f n ks F' := by
  intro A outer s H us ws vs zs Q E hr' e0 r rz l1 l2 q
  obtain ⟨A', S', es, rd, s', p⟩ := q
  obtain ⟨ys, ry, ey⟩ := hF A' H es vs zs rd l1 l2
  have q2 : SpM G F (gV vs zs) H Q E := ⟨A', S', ys, ry, s', by rw [ey]; exact p⟩
  exact h.run A outer s H ⟨us, ks.zip ws⟩ (g us ws) (gV vs zs) Q E hr' e0 (b.to s us ws (e0.mod.kin.keeps fun b o e => (e0.bs b o e).1) (by rw [← r.length, l1]) (by rw [← rz.length, l2])) (b.rel r rz) q2
end

def mF (F : FM) (a : M (List Dv)) : M Dv := fun ρ S => (a ρ S).bind F
def aApp (a b : M (List Dv)) : M (List Dv) := fun ρ S => (a ρ S).bind fun xs S1 => (b ρ S1).bind fun ys S2 => .ok (xs ++ ys) S2
section
variable {X : Cx} {G : Gs} {W : WX} {k : Nat} {f : Addr} {n : Nat} {ks : List Str} {F : FM}
/-- the callee runs -/
theorem runF {pins : List (Addr × Obj)} {σ : L2.St} {H : Hp} {s : Shared} {Q : VK} {us ws : List Value} {vs zs : List V} (R : CallW X.prog X.w G X.mg X.base k f n ks F) (B : Bx X G W k) (I : Inv X pins σ H s) (r : Vals vs us) (rz : Vals zs ws) (l1 : vs.length = n) (l2 : zs.length = ks.length)
    (h : SpM G F (vs ++ zs) H Q (Wa W σ)) : wpAny (model X.prog X.w) X.A (call (.ref f) us (ks.zip ws)) (EP X pins σ Q) X.xe s := by
  refine wpAny_call (codeAny_mono (R X.A X.stack s H us ws vs zs Q (Wa W σ) B.room (by rw [B.hK]; exact I.env0) r rz l1 l2 h) fun r s' hq => ?_)
  cases r with
  | error e => exact passAt B.tk σ pins H s e s' I hq
  | ok fl =>
    cases fl with
    | ret u => exact I.after hq
    | next => exact False.elim hq
    | brk => exact False.elim hq
    | cont => exact False.elim hq
variable {x : Str} {p pos : Pos} {e : Expr} {es : List Expr} {kws : List Keyword} {ma mk : M (List Dv)}
theorem _root_.L2.PK.sm {X : Cx} {e : List Keyword} {t t' : TA} (h : PK X e t) (f : ∀ σ H Q, t' σ H Q → t σ H Q) : PK X e t' := ⟨fun pos pins s σ H Q I q => h.run pos pins s σ H Q I (f σ H Q q)⟩
theorem k_nil : PK X [] (tMA G W aNil) := by
  refine pk_nil.sm fun σ H Q h => ?_
  obtain ⟨A, ρ, S, he, hs, p0⟩ := h
  exact Po.now p0 hs [] .nil
theorem k_cons {m : M Dv} {mr : M (List Dv)} {nm : Option Str} {kpos : Pos} (ha : PE X e (tM G W m)) (hr : PK X kws (tMA G W mr)) : PK X (⟨nm, e, kpos⟩ :: kws) (tMA G W (aCons m mr)) := by
  refine (pk_cons ha hr).sm fun σ H Q h => ?_
  obtain ⟨A, ρ, S, he, hs, p0⟩ := h
  refine ⟨A, ρ, S, he, hs, Po.step p0 fun d S1 A1 H1 x1 s1 p1 v rv => ?_⟩
  refine ⟨A1, ρ, S1, he.kp x1.kp, s1, Po.step p1 fun ds S2 A2 H2 x2 s2 p2 vs rvs => ?_⟩
  exact Po.now p2 s2 _ (.cons (rv.kp x2.kp) rvs)
/-- lengths that a mirror of arguments always has -/
def ALen (m : M (List Dv)) (n : Nat) : Prop := ∀ ρ S ds S', m ρ S = .ok ds S' → ds.length = n
theorem al_nil : ALen aNil 0 := fun ρ S ds S' e => by cases e; rfl
theorem al_cons {m : M Dv} {mr : M (List Dv)} {n : Nat} (h : ALen mr n) : ALen (aCons m mr) (n + 1) := fun ρ S ds S' e => by
  unfold aCons at e
  cases e1 : m ρ S with
  | bad => rw [e1] at e; cases e
  | er c t S1 => rw [e1] at e; cases e
  | ok d S1 =>
    rw [e1] at e
    simp only [bind_ok] at e
    cases e2 : mr ρ S1 with
    | bad => rw [e2] at e; cases e
    | er c t S2 => rw [e2] at e; cases e
    | ok ds2 S2 =>
      rw [e2] at e
      cases e
      simp [h ρ S1 ds2 S' e2]
theorem Po.step' {α β : Type} {G : Gs} {E : XK} {A : Al} {H : Hp} {r : Rz α} {f : α → Sto → Rz β} {k : Al → Hp → β → Prop} {k' : Al → Hp → α → Prop} (h : Po G E A H (r.bind f) k)
    (q : ∀ a S1 A1 H1, r = .ok a S1 → Ext A H A1 H1 → StR G A1 S1 H1 → Po G E A1 H1 (f a S1) k → k' A1 H1 a) : Po G E A H r k' := by
  cases r with
  | ok a S => exact fun A' H' y s => q a S A' H' rfl y s (Po.mono y h)
  | er c t S => exact h
  | bad => exact h
theorem e_call (R : CallW X.prog X.w G X.mg X.base k f n [] F) (B : Bx X G W k) (hg : Gl X x) (hm : X.mg x = some (.ref f)) (hk : PySem.W.keepIn X.K (.ref f) = true) (ha : PA X (e :: es) (tMA G W ma)) (al : ALen ma n) (hdb : (x == ("__debug__" : Str)) = false)
    (he : starEach (e :: es) X.env = (false, eval e X.env) :: starEach es X.env) (hpl : (backTo pos (starEach es X.env)).any (·.1) = false) : PE X (.Call (.Name x p) (e :: es) [] pos) (tM G W (mF F ma)) := by
  refine ⟨fun pins s σ H Q I h => ?_⟩
  obtain ⟨A, ρ, S, he', hs, p0⟩ := h
  refine wpAny_Call_Name_kw (ld_glob I hg hm ?_ hdb)
  refine PySem.W.callWith_K (h₀ := X.base) I.ok.mod.kin hk (thn (ha.run pos pins s σ H (fun vs H' => vs.length = n ∧ SpM G F (vs ++ []) H' Q (Wa W σ)) I ⟨A, ρ, S, he', hs, Po.step' p0 fun ds S1 A1 H1 e0 x1 s1 p1 vs rvs => ⟨by rw [← Paired.length rvs]; exact al ρ S ds S1 e0, A1, S1, ds, by rw [List.append_nil]; exact rvs, s1, p1⟩⟩) fun us s1 ⟨vs, H1, I1, r, l, q⟩ => ⟨I1.kIn, ?_⟩) he hpl
  exact runF (ws := []) (zs := []) R B I1 r .nil l rfl q
theorem e_callK (R : CallW X.prog X.w G X.mg X.base k f n ks F) (B : Bx X G W k) (hg : Gl X x) (hm : X.mg x = some (.ref f)) (hk : PySem.W.keepIn X.K (.ref f) = true) (ha : PA X (e :: es) (tMA G W ma)) (al : ALen ma n) (hkw : PK X kws (tMA G W mk)) (al2 : ALen mk ks.length)
    (hall : (backToKw pos (keywordEach kws X.env)).all (·.1.isSome) = true) (hks : (backToKw pos (keywordEach kws X.env)).filterMap (·.1) = ks) (hdb : (x == ("__debug__" : Str)) = false)
    (he : starEach (e :: es) X.env = (false, eval e X.env) :: starEach es X.env) (hpl : ((backTo pos (starEach (e :: es) X.env)).any (·.1) || (backToKw pos (keywordEach kws X.env)).any (·.1.isNone)) = false) : PE X (.Call (.Name x p) (e :: es) kws pos) (tM G W (mF F (aApp ma mk))) := by
  refine ⟨fun pins s σ H Q I h => ?_⟩
  obtain ⟨A, ρ, S, he', hs, p0⟩ := h
  refine wpAny_Call_Name_kw (ld_glob I hg hm ?_ hdb)
  have p1 : Po G (Wa W σ) A H ((ma ρ S).bind fun xs S1 => (mk ρ S1).bind fun ys S2 => F (xs ++ ys) S2) (kD G Q) := by
    have e : (ma ρ S).bind (fun xs S1 => (mk ρ S1).bind fun ys S2 => F (xs ++ ys) S2) = mF F (aApp ma mk) ρ S := by
      unfold mF aApp
      cases ma ρ S with
      | bad => rfl
      | er c t S1 => rfl
      | ok xs S1 =>
        simp only [bind_ok]
        cases mk ρ S1 <;> rfl
    rw [e]
    exact p0
  refine PySem.W.callWith_KW (h₀ := X.base) I.ok.mod.kin hk hall (thn (ha.run pos pins s σ H (fun vs H' => vs.length = n ∧ tMA G W mk σ H' fun zs H2 => zs.length = ks.length ∧ SpM G F (vs ++ zs) H2 Q (Wa W σ)) I ⟨A, ρ, S, he', hs, Po.step' p1 fun ds S1 A1 H1 e0 x1 s1 p2 vs rvs => ?_⟩) fun us s1 ⟨vs, H1, I1, r, l, q⟩ => ?_) hpl he
  · refine ⟨by rw [← Paired.length rvs]; exact al ρ S ds S1 e0, A1, ρ, S1, he'.kp x1.kp, s1, Po.step' p2 fun ys S2 A2 H2 e2 x2 s2 p3 zs rzs => ?_⟩
    exact ⟨by rw [← Paired.length rzs]; exact al2 ρ S1 ys S2 e2, A2, S2, ds ++ ys, (rvs.kp x2.kp).append rzs, s2, p3⟩
  · refine thn (hkw.run pos pins s1 σ H1 _ I1 q) fun ws s2 ⟨zs, H2, I2, rz, l2, q2⟩ => ⟨I2.kIn, ?_⟩
    rw [hks]
    exact runF R B I2 r rz l l2 q2
end
end Sm
/-! Sm5: instances with slots, letting boxes go, calls in a world of their own, comprehensions. -/
namespace Sm
open PySem PySem.Spec PyProof.Rows L2

/-! ### instances -/
/-- d is an instance of the class c -/
def isIns (c : Nat) (d : Dv) (S : Sto) : Bool := match d with
  | .d (.obj c' _) => c' == c
  | .loc n => (match S[n]? with
    | some (.ins c' _) => c' == c
    | _ => false)
  | _ => false
theorem isIns_slt {G : Gs} {A : Al} {S : Sto} {H : Hp} {c : Nat} {d : Dv} {v : V} (s : StR G A S H) (r : RD G A H d v) (h : isIns c d S = true) : ∃ a dx ws, v = .ref a ∧ SlX.Slt H a (G.cls c) dx ws := by
  cases d with
  | d t =>
    cases t with
    | obj c' xs =>
      obtain ⟨a, dx, ws, vs, e, _, _, _, hs, _⟩ := r
      have : c' = c := by simpa [isIns] using h
      subst this
      exact ⟨a, dx, ws, e, hs⟩
    | _ => simp [isIns] at h
  | loc n =>
    cases e : S[n]? with
    | none => simp [isIns, e] at h
    | some o =>
      cases o with
      | ins c' fs =>
        have : c' = c := by simpa [isIns, e] using h
        subst this
        obtain ⟨a, dx, ws, e1, _, _, hs, _⟩ := loc_ins s r e
        exact ⟨a, dx, ws, e1, hs⟩
      | _ => simp [isIns, e] at h
def pFld (c i : Nat) : P1 := fun d S => match d with
  | .d (.obj c' xs) => if c' = c then (match xs[i]? with
    | some t => some (.d t, S)
    | none => none) else none
  | .loc n => (match S[n]? with
    | some (.ins c' fs) => if c' = c then (match fs[i]? with
      | some (some d) => some (d, S)
      | _ => none) else none
    | _ => none)
  | _ => none
theorem fld_at {G : Gs} {A : Al} {S S' : Sto} {H : Hp} {c i : Nat} {d d' : Dv} {v : V} (s : StR G A S H) (r : RD G A H d v) (h : pFld c i d S = some (d', S')) : S' = S ∧ ∃ a dx ws u, v = .ref a ∧ SlX.Slt H a (G.cls c) dx ws ∧ ws[i]? = some (some u) ∧ RD G A H d' u := by
  cases d with
  | d t =>
    cases t with
    | obj c' xs =>
      obtain ⟨a, dx, ws, vs, e, _, _, _, hs, hi, hv⟩ := r
      unfold pFld at h
      simp only at h
      split at h
      · rename_i hc
        subst hc
        cases ex : xs[i]? with
        | none => rw [ex] at h; cases h
        | some t =>
          rw [ex] at h
          cases h
          obtain ⟨u, eu, ru⟩ := hv.get ex
          exact ⟨rfl, a, dx, ws, u, e, hs, hi i u eu, ru⟩
      · cases h
    | _ => cases h
  | loc n =>
    unfold pFld at h
    simp only at h
    cases e : S[n]? with
    | none => rw [e] at h; cases h
    | some o =>
      rw [e] at h
      cases o with
      | ins c' fs =>
        simp only at h
        split at h
        · rename_i hc
          subst hc
          obtain ⟨a, dx, ws, e1, _, _, hs, hf⟩ := loc_ins s r e
          cases ex : fs[i]? with
          | none => rw [ex] at h; cases h
          | some o =>
            rw [ex] at h
            cases o with
            | none => cases h
            | some d2 =>
              cases h
              obtain ⟨u, eu, ru⟩ := hf i d' ex
              exact ⟨rfl, a, dx, ws, u, e1, hs, eu, ru⟩
        · cases h
      | _ => cases h
/-- o.f = d -/
def putF (i : Nat) (d : Dv) (fs : List (Option Dv)) : List (Option Dv) := (fs ++ List.replicate (i + 1 - fs.length) none).set i (some d)
def stFld (c i : Nat) (o d : Dv) (S : Sto) : Option Sto := match o with
  | .loc n => (match S[n]? with
    | some (.ins c' fs) => if c' = c then some (S.set n (.ins c (putF i d fs))) else none
    | _ => none)
  | _ => none
theorem putF_rf {G : Gs} {A : Al} {H : Hp} {i : Nat} {d : Dv} {v : V} {fs : List (Option Dv)} {ws : List (Option V)} (h : RF G A H fs ws) (r : RD G A H d v) : RF G A H (putF i d fs) (SlX.putS i v ws) := by
  intro j e he
  by_cases hj : i = j
  · subst hj
    have hl : i < (fs ++ List.replicate (i + 1 - fs.length) (none : Option Dv)).length := by simp; omega
    unfold putF at he
    rw [List.getElem?_set_self hl] at he
    cases he
    exact ⟨v, SlX.putS_get i v ws, r⟩
  · unfold putF at he
    rw [List.getElem?_set_ne hj] at he
    have h2 : fs[j]? = some (some e) := by
      by_cases hlt : j < fs.length
      · rw [List.getElem?_append_left hlt] at he
        exact he
      · rw [List.getElem?_append_right (by omega), List.getElem?_replicate] at he
        split at he <;> cases he
    obtain ⟨u, eu, ru⟩ := h j e h2
    exact ⟨u, (SlX.putS_ne (fun z => hj z.symm)).mpr eu, ru⟩
def sFld (c i : Nat) (mo mv : M Dv) : SM := fun ρ S => (mv ρ S).to ρ fun d S1 => (mo ρ S1).to ρ fun o S2 => oz (stFld c i o d S2) fun S3 => .nx ρ S3
def mMeth (c : Nat) (F : FM) (mo : M Dv) (ma : M (List Dv)) : M Dv := fun ρ S => (mo ρ S).bind fun o S1 => if isIns c o S1 = true then (ma ρ S1).bind fun ds S2 => F (o :: ds) S2 else .bad
section
variable {X : Cx} {G : Gs} {W : WX} {k n : Nat} {f g C : Addr} {ks : List Str} {F : FM} {x m : Str} {p pos pos' apos : Pos} {o e value : Expr} {es : List Expr} {kws : List Keyword} {mo mv : M Dv} {ma mk : M (List Dv)} {c i : Nat}
theorem e_fld {pp : Addr} (B : Bx X G W k) (cl : SlX.SCls X.K (G.cls c)) (sl : SlX.Slot1 X.K (G.cls c) m pp i) (he : PE X e (tM G W mo)) (hb : attributeBase e m X.env (eval e X.env) = eval e X.env) : PE X (.Attribute e m pos) (tM G W (m1 (pFld c i) mo)) := by
  refine (SlX.pe_sl he hb).sm fun σ H Q h => ?_
  obtain ⟨A, ρ, S, he, hs, p0⟩ := h
  refine ⟨A, ρ, S, he, hs, Po.step p0 fun d S1 A1 H1 x1 s1 p1 v rv => ?_⟩
  cases e1 : pFld c i d S1 with
  | none => rw [e1] at p1; exact p1.elim
  | some q =>
    obtain ⟨d', S2⟩ := q
    rw [e1] at p1
    obtain ⟨e2, a, dx, ws, u, ev, hsl, hw, ru⟩ := fld_at s1 rv e1
    subst e2
    exact ⟨a, G.cls c, dx, pp, ws, i, u, ev, hsl, cl, sl, hw, Po.now p1 s1 u ru⟩
theorem s_fld {pp : Addr} (B : Bx X G W k) (cl : SlX.SCls X.K (G.cls c)) (sl : SlX.Slot1 X.K (G.cls c) m pp i) (ho : PE X o (tM G W mo)) (hv : PE X value (tM G W mv)) (hs : swapsWith value (some (.Attribute o m pos')) pos.line X.env = pure false) :
    PS X (.Assign [.Attribute o m pos'] value pos) (tMS G W (sFld c i mo mv)) := by
  refine (SlX.ps_sl ho hv hs).sm fun D σ H h => ?_
  obtain ⟨A, ρ, S, he, hs, p0⟩ := h
  refine ⟨A, ρ, S, he, hs, PoS.step he p0 fun d S1 A1 H1 x1 s1 e1 p1 v rv => ?_⟩
  refine ⟨A1, ρ, S1, e1, s1, PoS.step e1 p1 fun o' S2 A2 H2 x2 s2 e2 p2 y ry => ?_⟩
  obtain ⟨S3, e3, p3⟩ := oz_po p2
  unfold stFld at e3
  cases o' with
  | d t => cases e3
  | loc n =>
    simp only at e3
    cases es : S2[n]? with
    | none => rw [es] at e3; cases e3
    | some b =>
      rw [es] at e3
      cases b with
      | ins c' fs =>
        simp only at e3
        split at e3
        · rename_i hc
          subst hc
          cases e3
          obtain ⟨a, dx, ws, ey, hl, ne, hsl, hf⟩ := loc_ins s2 ry es
          obtain ⟨x3, s3⟩ := set_ins s2 hl ne (putF_rf (i := i) hf (rv.kp x2.kp))
          exact ⟨a, G.cls c', dx, pp, ws, i, ey, hsl, cl, sl, p3 A2 _ σ x3 s3 (e2.kp x3.kp)⟩
        · cases e3
      | _ => cases e3
theorem e_meth {pl : Sem Bool} (R : CallW X.prog X.w G X.mg X.base k g (n + 1) [] F) (B : Bx X G W k) (cl : SlX.SCls X.K (G.cls c)) (hm : Meth X.K (G.cls c) m g) (ho : PE X o (tM G W mo)) (ha : PA X (e :: es) (tMA G W ma)) (al : ALen ma n)
    (hst : starEach (e :: es) X.env = (false, eval e X.env) :: starEach es X.env) (hpl : (backTo pos (starEach es X.env)).any (·.1) = false)
    (ht : eval (.Call (.Attribute o m apos) (e :: es) [] pos) X.env = (do
      let ov ← eval o X.env
      standAt apos.atName
      let (f, first) ← holding [ov] (getMethod ov m pl)
      callWith pos f first (backTo pos (starEach (e :: es) X.env)) (backToKw pos (keywordEach [] X.env)))) :
    PE X (.Call (.Attribute o m apos) (e :: es) [] pos) (tM G W (mMeth c F mo ma)) := by
  refine ⟨fun pins s σ H Q I h => ?_⟩
  obtain ⟨A, ρ, S, he', hs, p0⟩ := h
  refine PySem.W.methodCall_KW (pl := pl) (thn (ho.run pins s σ H (fun y H1 => ∃ a dx ws, y = .ref a ∧ SlX.Slt H1 a (G.cls c) dx ws ∧ tMA G W ma σ H1 fun vs H2 => vs.length = n ∧ SpM G F ((V.ref a :: vs) ++ []) H2 Q (Wa W σ)) I ⟨A, ρ, S, he', hs, Po.step p0 fun d S1 A1 H1 x1 s1 p1 v rv => ?_⟩) fun u s1 ⟨y, H1, I1, rx, a, dx, ws, ex, hsl, q⟩ => ?_) ht
  · by_cases hi : isIns c d S1 = true
    · simp only [hi, if_true] at p1
      obtain ⟨a, dx, ws, ev, hsl⟩ := isIns_slt s1 rv hi
      subst ev
      refine ⟨a, dx, ws, rfl, hsl, A1, ρ, S1, he'.kp x1.kp, s1, Po.step' p1 fun ds S2 A2 H2 e0 x2 s2 p2 vs rvs => ?_⟩
      exact ⟨by rw [← Paired.length rvs]; exact al ρ S1 ds S2 e0, A2, S2, d :: ds, by rw [List.append_nil]; exact .cons (rv.kp x2.kp) rvs, s2, p2⟩
    · simp only [hi] at p1
      exact p1.elim
  · subst ex
    obtain rfl : u = Value.ref a := rx
    refine SlX.getmethsl_ok I1 hsl cl hm ?_
    refine PySem.W.callWith_K (first := [.ref a]) (h₀ := X.base) I.ok.mod.kin hm.kp (thn (ha.run pos pins s1 σ H1 _ I1 q) fun us s2 ⟨vs, H2, I2, r, l, q2⟩ => ⟨I2.kIn, ?_⟩) hst hpl
    exact runF (us := .ref a :: us) (vs := .ref a :: vs) (ws := []) (zs := []) R B I2 (.cons rfl r) .nil (by simp [l]) rfl q2
theorem e_meth0 {pl : Sem Bool} (R : CallW X.prog X.w G X.mg X.base k g 1 [] F) (B : Bx X G W k) (cl : SlX.SCls X.K (G.cls c)) (hm : Meth X.K (G.cls c) m g) (ho : PE X o (tM G W mo))
    (ht : eval (.Call (.Attribute o m apos) [] [] pos) X.env = (do
      let ov ← eval o X.env
      standAt apos.atName
      let (f, first) ← holding [ov] (getMethod ov m pl)
      callWith pos f first (backTo pos (starEach [] X.env)) (backToKw pos (keywordEach [] X.env)))) :
    PE X (.Call (.Attribute o m apos) [] [] pos) (tM G W (mMeth c F mo aNil)) := by
  refine ⟨fun pins s σ H Q I h => ?_⟩
  obtain ⟨A, ρ, S, he', hs, p0⟩ := h
  refine PySem.W.methodCall_KW (pl := pl) (thn (ho.run pins s σ H (fun y H1 => ∃ a dx ws, y = .ref a ∧ SlX.Slt H1 a (G.cls c) dx ws ∧ SpM G F ([V.ref a] ++ []) H1 Q (Wa W σ)) I ⟨A, ρ, S, he', hs, Po.step p0 fun d S1 A1 H1 x1 s1 p1 v rv => ?_⟩) fun u s1 ⟨y, H1, I1, rx, a, dx, ws, ex, hsl, q⟩ => ?_) ht
  · by_cases hi : isIns c d S1 = true
    · simp only [hi, if_true] at p1
      obtain ⟨a, dx, ws, ev, hsl⟩ := isIns_slt s1 rv hi
      subst ev
      exact ⟨a, dx, ws, rfl, hsl, A1, S1, [d], .cons rv .nil, s1, p1⟩
    · simp only [hi] at p1
      exact p1.elim
  · subst ex
    obtain rfl : u = Value.ref a := rx
    refine SlX.getmethsl_ok I1 hsl cl hm ?_
    exact PySem.W.callWith_K0 (first := [.ref a]) I1.kIn hm.kp (runF (us := [.ref a]) (vs := [.ref a]) (ws := []) (zs := []) R B I1 (.cons rfl .nil) .nil rfl rfl q)
/-- a new instance, then its __init__ -/
theorem runMake {pins : List (Addr × Obj)} {σ : L2.St} {H : Hp} {s : Shared} {Q : VK} {us ws : List Value} {vs zs : List V} (M : Mk X.K (G.cls c) f) (R : CallW X.prog X.w G X.mg X.base k f (n + 1) ks F) (B : Bx X G W (k + 1)) (I : Inv X pins σ H s) (r : Vals vs us) (rz : Vals zs ws) (l1 : vs.length = n) (l2 : zs.length = ks.length)
    (h : ∀ x dx, H x = none → H dx = none → dx ≠ x → SpM G F (V.ref x :: (vs ++ zs)) (upd (upd H dx (.own x)) x (.ins (G.cls c) dx [])) (fun v H2 => v = .non ∧ Q (.ref x) H2) (Wa W σ)) :
    wpAny (model X.prog X.w) X.A (call (.ref (G.cls c)) us (ks.zip ws)) (EP X pins σ Q) X.xe s := by
  have hq := h (s.heap.objs.size + 1) s.heap.objs.size (I.hok.fresh (Nat.le_succ _)) (I.hok.fresh (Nat.le_refl _)) (Nat.ne_of_lt (Nat.lt_succ_self _))
  have I2 := Inv.made (C := G.cls c) I
  have r2 : Vals (V.ref (s.heap.objs.size + 1) :: vs) (Value.ref (s.heap.objs.size + 1) :: us) := .cons rfl r
  refine wpAny_call (make_map (f := f) I.kIn M.makes M.init (beq_iff_eq.mp M.fn) (codeAny_mono (R _ X.stack _ _ (Value.ref (s.heap.objs.size + 1) :: us) ws _ zs _ (Wa W σ) (B.room.make (G.cls c) us (ks.zip ws)) (by rw [B.hK]; exact I2.env0.make (G.cls c) us (ks.zip ws)) r2 rz (by simp [l1]) l2 hq) fun r s' hq' => ?_))
  cases r with
  | error e => exact passAt B.tk σ pins _ _ e s' I2 hq'
  | ok fl =>
    cases fl with
    | ret u =>
      obtain ⟨v, H', I3, rv, ev, q3⟩ := I2.after hq'
      subst ev
      exact ⟨rv, ⟨V.ref (s.heap.objs.size + 1), H', I3, rfl, q3⟩⟩
    | next => exact False.elim hq'
    | brk => exact False.elim hq'
    | cont => exact False.elim hq'
theorem make_po {A : Al} {σ : L2.St} {S1 : Sto} {H1 : Hp} {ds : List Dv} {vs : List V} {Q : VK} (s1 : StR G A S1 H1) (rvs : RDs G A H1 ds vs)
    (p1 : Po G (Wa W σ) A H1 ((F (.loc S1.length :: ds) (S1 ++ [.ins c []])).bind fun r S2 => match r with
      | .d .non => .ok (.loc S1.length) S2
      | _ => .bad) (kD G Q)) : ∀ x dx, H1 x = none → H1 dx = none → dx ≠ x → SpM G F (V.ref x :: vs) (upd (upd H1 dx (.own x)) x (.ins (G.cls c) dx [])) (fun v H2 => v = .non ∧ Q (.ref x) H2) (Wa W σ) := by
  intro x dx hx hdx ne
  obtain ⟨x3, s3, r3⟩ := box_ins (c := c) s1 hx hdx ne
  refine ⟨A.push [x, dx], S1 ++ [.ins c []], .loc S1.length :: ds, .cons r3 (rvs.kp x3.kp), s3, Po.step (Po.mono x3 p1) fun r S2 A2 H2 x2 s2 p2 v rv => ?_⟩
  cases r with
  | loc n => exact p2.elim
  | d t =>
    cases t with
    | non => exact ⟨rv, Po.now p2 s2 _ (r3.kp x2.kp)⟩
    | _ => exact p2.elim
end

/-! ### a box is let go -/
def dpures : List (Option Dv) → Option (List Dt)
  | [] => some []
  | some (.d t) :: r => (dpures r).map (t :: ·)
  | _ :: _ => none
/-- a list or an instance that nobody will change: from here on data -/
def frz (d : Dv) (S : Sto) : Pz Dv := match d with
  | .loc n => (match S[n]? with
    | some (.lst xs) => (match pures xs with
      | some ts => some (.d (.lst ts), S.set n .dead)
      | none => none)
    | some (.ins c fs) => (match dpures fs with
      | some ts => some (.d (.obj c ts), S.set n .dead)
      | none => none)
    | some (.dct ks xs) => (match pures xs with
      | some ts => some (.d (.dct ks ts), S.set n .dead)
      | none => none)
    | _ => none)
  | .d t => some (.d t, S)
def Al.drop (A : Al) (n : Nat) : Al := ⟨A.live.set n [], A.hid⟩
section
variable {G : Gs} {A : Al} {H : Hp} {S : Sto} {n : Nat} {l : List Addr}
theorem drop_flat (A : Al) (n : Nat) : ∀ b, b ∈ (A.drop n).live.flatten → b ∈ A.live.flatten := by
  intro b hb
  obtain ⟨x, hx, hb⟩ := List.mem_flatten.mp hb
  unfold Al.drop at hx
  obtain ⟨i, hi⟩ := List.mem_iff_getElem?.mp hx
  simp only at hi
  by_cases e : n = i
  · subst e
    by_cases hl : n < A.live.length
    · rw [List.getElem?_set_self hl] at hi
      cases hi
      cases hb
    · rw [List.getElem?_eq_none (by simp; omega)] at hi
      cases hi
  · rw [List.getElem?_set_ne e] at hi
    exact List.mem_flatten.mpr ⟨x, List.mem_of_getElem? hi, hb⟩
theorem Ext.drop : Ext A H (A.drop n) H := by
  refine ⟨fun i x e => ?_, fun _ _ _ _ => Iff.rfl, fun a u h m => ⟨.inl h, fun z => m (drop_flat A n a z)⟩, fun _ _ h _ _ => h⟩
  unfold Al.drop
  simp only
  by_cases ei : n = i
  · subst ei
    rw [List.getElem?_set_self (List.getElem?_eq_some_iff.mp e).1]
    exact .inr rfl
  · rw [List.getElem?_set_ne ei]
    exact .inl e
theorem drop_nd (hn : A.all.Nodup) : (A.drop n).all.Nodup := by
  have key : ∀ {L : List (List Addr)} {n : Nat}, L.flatten.Nodup → (L.set n []).flatten.Nodup := by
    intro L
    induction L with
    | nil => intro n h; simpa using h
    | cons x L ih =>
      intro n h
      rw [List.flatten_cons, List.nodup_append] at h
      obtain ⟨h1, h2, h3⟩ := h
      cases n with
      | zero =>
        simpa using h2
      | succ n =>
        rw [List.set_cons_succ, List.flatten_cons, List.nodup_append]
        refine ⟨h1, ih h2, fun a ha b hb => h3 a ha b ?_⟩
        obtain ⟨y, hy, hb⟩ := List.mem_flatten.mp hb
        obtain ⟨i, hi⟩ := List.mem_iff_getElem?.mp hy
        by_cases e : n = i
        · subst e
          by_cases hl : n < L.length
          · rw [List.getElem?_set_self hl] at hi
            cases hi
            cases hb
          · rw [List.getElem?_eq_none (by simp; omega)] at hi
            cases hi
        · rw [List.getElem?_set_ne e] at hi
          exact List.mem_flatten.mpr ⟨y, List.mem_of_getElem? hi, hb⟩
  unfold Al.all at *
  rw [List.nodup_append] at *
  obtain ⟨h1, h2, h3⟩ := hn
  exact ⟨key h1, h2, fun a ha b hb => h3 a (drop_flat A n a ha) b hb⟩
theorem StR.drop (s : StR G A S H) : StR G (A.drop n) (S.set n .dead) H := by
  refine ⟨by simp [Al.drop, s.len], drop_nd s.nd, fun a ha => ?_, fun i k o e1 e2 => ?_⟩
  · refine s.alive a ?_
    unfold Al.all at *
    rcases List.mem_append.mp ha with z | z
    · exact List.mem_append_left _ (drop_flat A n a z)
    · exact List.mem_append_right _ z
  · by_cases ei : n = i
    · subst ei
      by_cases hl : n < S.length
      · rw [List.getElem?_set_self hl] at e2
        cases e2
        trivial
      · rw [List.getElem?_eq_none (by simp; omega)] at e2
        cases e2
    · rw [List.getElem?_set_ne ei] at e2
      unfold Al.drop at e1
      simp only at e1
      rw [List.getElem?_set_ne ei] at e1
      exact (s.box i k o e1 e2).keep Ext.drop.kp fun _ _ => rfl
theorem drop_out (hn : A.all.Nodup) (h : A.live[n]? = some l) : ∀ a ∈ l, a ∉ (A.drop n).all := by
  intro a ha z
  have hn' := hn
  unfold Al.all at hn z
  rw [List.nodup_append] at hn
  rcases List.mem_append.mp z with z | z
  · obtain ⟨x, hx, hb⟩ := List.mem_flatten.mp z
    obtain ⟨i, hi⟩ := List.mem_iff_getElem?.mp hx
    unfold Al.drop at hi
    simp only at hi
    by_cases e : n = i
    · subst e
      rw [List.getElem?_set_self (List.getElem?_eq_some_iff.mp h).1] at hi
      cases hi
      cases hb
    · rw [List.getElem?_set_ne e] at hi
      exact e (nd_live hn' h hi ha hb)
  · exact hn.2.2 a (live_set h a ha) a z rfl
theorem dpures_rvs {fs : List (Option Dv)} {ts : List Dt} {ws : List (Option V)} (e : dpures fs = some ts) (h : RF G A H fs ws) : ∃ vs, SlIs ws vs ∧ RVs G A H ts vs := by
  induction fs generalizing ts ws with
  | nil =>
    cases e
    exact ⟨[], fun i v z => by simp at z, (rfl : ([] : List V) = [])⟩
  | cons f fs ih =>
    cases f with
    | none => cases e
    | some d =>
      cases d with
      | loc n => cases e
      | d t =>
        unfold dpures at e
        cases e1 : dpures fs with
        | none => rw [e1] at e; cases e
        | some us =>
          rw [e1] at e
          cases e
          obtain ⟨v, ev, rv⟩ := h 0 (.d t) rfl
          cases ws with
          | nil => simp at ev
          | cons w0 ws =>
            obtain ⟨vs, hi, hv⟩ := ih (ws := ws) e1 fun i d he => by
              have := h (i + 1) d (by simpa using he)
              simpa using this
            refine ⟨v :: vs, fun i u z => ?_, v, vs, rfl, rv, hv⟩
            cases i with
            | zero =>
              simp at z ev
              subst z
              simpa using ev
            | succ i =>
              have := hi i u (by simpa using z)
              simpa using this
theorem frz_po {d d' : Dv} {S' : Sto} {v : V} (s : StR G A S H) (r : RD G A H d v) (e : frz d S = some (d', S')) : ∃ A', Ext A H A' H ∧ StR G A' S' H ∧ RD G A' H d' v := by
  cases d with
  | d t =>
    cases e
    exact ⟨A, .refl, s, r⟩
  | loc n =>
    unfold frz at e
    simp only at e
    cases es : S[n]? with
    | none => rw [es] at e; cases e
    | some o =>
      rw [es] at e
      cases o with
      | lst xs =>
        simp only at e
        cases ep : pures xs with
        | none => rw [ep] at e; cases e
        | some ts =>
          rw [ep] at e
          cases e
          obtain ⟨a, vs, rfl, hl, ha, rv⟩ := loc_lst s r es
          exact ⟨A.drop n, .drop, s.drop, a, vs, rfl, ⟨ha, drop_out s.nd hl a (by simp)⟩, (pures_rvs ep rv).kp Ext.drop.kp⟩
      | dct ks xs =>
        simp only at e
        cases ep : pures xs with
        | none => rw [ep] at e; cases e
        | some ts =>
          rw [ep] at e
          cases e
          obtain ⟨a, kvs, rfl, hl, ha, ek, rv⟩ := loc_dct s r es
          exact ⟨A.drop n, .drop, s.drop, a, kvs, rfl, drop_out s.nd hl a (by simp), .inl ha, ek, (pures_rvs ep rv).kp Ext.drop.kp⟩
      | ins c fs =>
        simp only at e
        cases ep : dpures fs with
        | none => rw [ep] at e; cases e
        | some ts =>
          rw [ep] at e
          cases e
          obtain ⟨a, dx, ws, rfl, hl, ne, hs, hf⟩ := loc_ins s r es
          obtain ⟨vs, hi, hv⟩ := dpures_rvs ep hf
          obtain ⟨u, hu⟩ := s.alive dx (List.mem_append_left _ (live_set hl dx (by simp)))
          exact ⟨A.drop n, .drop, s.drop, a, dx, ws, vs, rfl, drop_out s.nd hl a (by simp), drop_out s.nd hl dx (by simp), ⟨u, hu⟩, hs, hi, hv.kp Ext.drop.kp⟩
      | dead => cases e
      | tp xs => cases e
      | dcT ks xs => cases e
end
def mFrz (m : M Dv) : M Dv := fun ρ S => (m ρ S).bind fun d S1 => lift (frz d S1)
theorem e_frz {X : Cx} {G : Gs} {W : WX} {e : Expr} {m : M Dv} (h : PE X e (tM G W m)) : PE X e (tM G W (mFrz m)) := by
  refine h.sm fun σ H Q h => ?_
  obtain ⟨A, ρ, S, he, hs, p0⟩ := h
  refine ⟨A, ρ, S, he, hs, Po.step p0 fun d S1 A1 H1 x1 s1 p1 v rv => ?_⟩
  cases e1 : frz d S1 with
  | none => rw [e1] at p1; exact p1.elim
  | some q =>
    obtain ⟨d', S2⟩ := q
    rw [e1] at p1
    obtain ⟨A2, x2, s2, r2⟩ := frz_po s1 rv e1
    exact Po.at p1 x2 s2 v r2
end Sm
/-! Sm6: a call sees only what it is given; comprehensions. -/
namespace Sm
open PySem PySem.Spec PyProof.Rows L2

section
variable {G : Gs} {A A' A0 : Al} {H H' : Hp} {S S' : Sto}
/-- another reading of the same heap -/
theorem Kq.same (h : ∀ a, a ∉ A.all → a ∉ A'.all) : Kq A H A' H :=
  ⟨fun a u _ n r => ⟨r, h a n⟩, fun a u _ _ n r => ⟨r, h a n⟩, fun a u n r => ⟨⟨u, r⟩, h a n⟩, fun a o vs n r => ⟨r, h a n⟩⟩
theorem ExR.kq (x : Kq A H A' H') {c : Nat} {t : Dt} {cls : Value} {d : Option Addr} (h : ExR G A H c t cls d) : ExR G A' H' c t cls d := by
  obtain ⟨e, h⟩ := h
  refine ⟨e, ?_⟩
  rcases h with h | ⟨a, f, v, e1, e2, n, e3, r⟩
  · exact .inl h
  · obtain ⟨h1, n1⟩ := x.ex a _ nf_xd lk_xd n e3
    exact .inr ⟨a, f, v, e1, e2, n1, h1, RV.kq x r⟩
theorem pures_map : ∀ {ds : List Dv} {ts : List Dt}, pures ds = some ts → ds = ts.map .d
  | [], ts, e => by cases e; rfl
  | .d t :: ds, ts, e => by
    unfold pures at e
    cases e1 : pures ds with
    | none => rw [e1] at e; cases e
    | some us =>
      rw [e1] at e
      cases e
      simp [pures_map e1]
  | .loc n :: ds, ts, e => by cases e
theorem rds_pure {xs : List Dv} {vs : List V} (h : (pures xs).isSome = true) (x : Kq A H A' H') (r : RDs G A H xs vs) : RDs G A' H' xs vs := by
  cases e : pures xs with
  | none => rw [e] at h; cases h
  | some ts =>
    have r2 := RVs.kq x (pures_rvs e r)
    rw [pures_map e]
    exact r2.rds
theorem StR.alive' (s : StR G A S H) {a : Addr} {i : Nat} {l : List Addr} (h : A.live[i]? = some l) (ha : a ∈ l) : ∃ u, H a = some u := s.alive a (List.mem_append_left _ (live_set h a ha))
end
/-! ### alone -/
def iso (F : FM) : FM := fun ds S => match pures ds with
  | some _ => (match F ds [] with
    | .ok (.d t) _ => .ok (.d t) S
    | .er c t _ => .er c t S
    | _ => .bad)
  | none => .bad
theorem SpM.iso {G : Gs} {F : FM} {vs : List V} {H : Hp} {Q : VK} {E : XK} (h : SpM G (iso F) vs H Q E) : SpM G F vs H Q E := by
  obtain ⟨A, S, ds, r, s, p⟩ := h
  unfold Sm.iso at p
  cases ep : pures ds with
  | none => rw [ep] at p; exact p.elim
  | some ts =>
    rw [ep] at p
    have eall : ∀ a, a ∈ (⟨[], A.all⟩ : Al).all ↔ a ∈ A.all := fun a => by simp [Al.all]
    have s0 : StR G ⟨[], A.all⟩ [] H := ⟨rfl, by simpa [Al.all] using s.nd, fun a ha => s.alive a ((eall a).mp ha), fun i l o e => by simp at e⟩
    have r0 : RDs G ⟨[], A.all⟩ H ds vs := rds_pure (by rw [ep]; rfl) (Kq.same fun a n z => n ((eall a).mp z)) r
    refine ⟨⟨[], A.all⟩, [], ds, r0, s0, ?_⟩
    have key : ∀ A' H', Ext ⟨[], A.all⟩ H A' H' → Ext A H A H' ∧ StR G A S H' ∧ ∀ a, a ∉ A'.all → a ∉ A.all := by
      intro A' H' x
      have kp : ∀ a u, H a = some u → a ∈ A.all → H' a = some u := fun a u e m => x.keepH a u e (by simp) m
      have x1 : Ext A H A H' := ⟨fun _ _ e => .inl e, fun _ _ _ _ => Iff.rfl, fun a u e n => ⟨(x.keep a u e (by simp)).1, n⟩, fun a u e n m => kp a u e (List.mem_append_right _ m)⟩
      refine ⟨x1, ⟨s.len, s.nd, fun a ha => ?_, fun i l o e1 e2 => (s.box i l o e1 e2).keep x1.kp fun a ha => ?_⟩, fun a n z => ?_⟩
      · obtain ⟨u, e⟩ := s.alive a ha
        exact ⟨u, kp a u e ha⟩
      · obtain ⟨u, e⟩ := s.alive' e1 ha
        rw [kp a u e (List.mem_append_left _ (live_set e1 a ha)), e]
      · obtain ⟨u, e⟩ := s.alive a z
        exact (mem_all.mp n).2 ((x.hid a u e (by simp)).mpr z)
    cases eF : F ds [] with
    | bad => rw [eF] at p; exact p.elim
    | er c t S1 =>
      rw [eF] at p
      intro A' H' cls d x s1 e
      obtain ⟨x1, s2, sub⟩ := key A' H' x
      exact p A H' cls d x1 s2 (e.kq (Kq.same sub))
    | ok d S1 =>
      rw [eF] at p
      cases d with
      | loc n => exact p.elim
      | d t =>
        intro A' H' x s1 v rv
        obtain ⟨x1, s2, sub⟩ := key A' H' x
        exact p A H' x1 s2 v (RV.kq (t := t) (Kq.same sub) rv)
/-! ### one box is handed on -/
def pureB (b : Bo) : Bool := match b with
  | .lst xs => (pures xs).isSome
  | .dct _ xs => (pures xs).isSome
  | .ins _ fs => fs.all fun o => match o with
    | none => true
    | some (.d _) => true
    | _ => false
  | .dead => false
  | .tp xs => (pures xs).isSome
  | .dcT _ xs => (pures xs).isSome
theorem rb_pure {G : Gs} {A A' : Al} {H H' : Hp} {l : List Addr} {b : Bo} (hp : pureB b = true) (x : Kq A H A' H') (hl : ∀ a ∈ l, H' a = H a) (h : RB G A H l b) : RB G A' H' l b := by
  cases b with
  | lst xs =>
    obtain ⟨a, vs, rfl, e, r⟩ := h
    exact ⟨a, vs, rfl, (hl a (by simp)).trans e, rds_pure hp x r⟩
  | dct ks xs =>
    obtain ⟨a, vs, rfl, e, ek, r⟩ := h
    exact ⟨a, vs, rfl, (hl a (by simp)).trans e, ek, rds_pure hp x r⟩
  | ins c fs =>
    obtain ⟨a, dx, ws, rfl, e, r⟩ := h
    refine ⟨a, dx, ws, rfl, ?_, fun i d hd => ?_⟩
    · rcases e with ⟨e, hw⟩ | ⟨e, e2⟩
      · exact .inl ⟨(hl a (by simp)).trans e, hw⟩
      · exact .inr ⟨(hl a (by simp)).trans e, (hl dx (by simp)).trans e2⟩
    · obtain ⟨v, ev, rv⟩ := r i d hd
      refine ⟨v, ev, ?_⟩
      have hm : some d ∈ fs := List.mem_of_getElem? hd
      have := List.all_eq_true.mp hp _ hm
      cases d with
      | d t => exact RV.kq (t := t) x rv
      | loc n => simp at this
  | dead => cases hp
  | tp xs =>
    obtain ⟨a, vs, rfl, e, r⟩ := h
    exact ⟨a, vs, rfl, (hl a (by simp)).trans e, rds_pure hp x r⟩
  | dcT ks xs =>
    obtain ⟨a, vs, rfl, e, ek, r⟩ := h
    exact ⟨a, vs, rfl, (hl a (by simp)).trans e, ek, rds_pure hp x r⟩
def view (F : FM) : FM := fun ds S => match ds with
  | .loc n :: r => (match pures r, S[n]? with
    | some _, some o => if pureB o = true then (match F (.loc 0 :: r) [o] with
      | .ok (.d t) (o' :: _) => if pureB o' = true then .ok (.d t) (S.set n o') else .bad
      | .er c t (o' :: _) => if pureB o' = true then .er c t (S.set n o') else .bad
      | _ => .bad) else .bad
    | _, _ => .bad)
  | _ => .bad
theorem SpM.view {G : Gs} {F : FM} {vs : List V} {H : Hp} {Q : VK} {E : XK} (h : SpM G (view F) vs H Q E) : SpM G F vs H Q E := by
  obtain ⟨A, S, ds, r, s, p⟩ := h
  cases r with
  | nil => exact p.elim
  | @cons d v ds' vs' rd rr =>
    cases d with
    | d t => exact p.elim
    | loc n =>
      unfold Sm.view at p
      simp only at p
      cases ep : pures ds' with
      | none => rw [ep] at p; exact p.elim
      | some ts =>
        cases eo : S[n]? with
        | none => rw [ep, eo] at p; exact p.elim
        | some o =>
          rw [ep, eo] at p
          simp only at p
          by_cases hpo : pureB o = true
          · simp only [hpo, if_true] at p
            obtain ⟨l, hl, fl⟩ := rd
            have hbox := s.box n l o hl eo
            have hin : ∀ a, a ∈ (⟨[l], (A.drop n).all⟩ : Al).all ↔ a ∈ A.all := by
              intro a
              unfold Al.all
              simp only [List.flatten_cons, List.flatten_nil, List.append_nil, List.mem_append]
              constructor
              · rintro (h | h | h)
                · exact .inl (live_set hl a h)
                · exact .inl (drop_flat A n a h)
                · exact .inr h
              · rintro (h | h)
                · obtain ⟨x, hx, hb⟩ := List.mem_flatten.mp h
                  obtain ⟨i, hi⟩ := List.mem_iff_getElem?.mp hx
                  by_cases e : n = i
                  · subst e
                    rw [hl] at hi
                    cases hi
                    exact .inl hb
                  · refine .inr (.inl (List.mem_flatten.mpr ⟨x, ?_, hb⟩))
                    unfold Al.drop
                    simp only
                    exact List.mem_of_getElem? (i := i) (by rw [List.getElem?_set_ne e]; exact hi)
                · exact .inr (.inr h)
            have hlnd : l.Nodup := by
              have hn := s.nd
              unfold Al.all at hn
              rw [List.nodup_append] at hn
              exact (nd_flat hn.1).1 _ (List.mem_of_getElem? hl)
            have hnd : (⟨[l], (A.drop n).all⟩ : Al).all.Nodup := by
              show (([l] : List (List Addr)).flatten ++ (A.drop n).all).Nodup
              simp only [List.flatten_cons, List.flatten_nil, List.append_nil]
              rw [List.nodup_append]
              exact ⟨hlnd, drop_nd s.nd, fun a ha b hb e => drop_out s.nd hl a ha (by rw [e]; exact hb)⟩
            have k0 : Kq A H ⟨[l], (A.drop n).all⟩ H := Kq.same fun a n z => n ((hin a).mp z)
            have s0 : StR G ⟨[l], (A.drop n).all⟩ [o] H := by
              refine ⟨rfl, hnd, fun a ha => s.alive a ((hin a).mp ha), fun i l' o' e1 e2 => ?_⟩
              cases i with
              | zero =>
                simp at e1 e2
                subst e1 e2
                exact rb_pure hpo k0 (fun _ _ => rfl) hbox
              | succ i => simp at e1
            have r0 : RDs G ⟨[l], (A.drop n).all⟩ H (.loc 0 :: ds') (v :: vs') := .cons ⟨l, rfl, fl⟩ (rds_pure (by rw [ep]; rfl) k0 rr)
            refine ⟨_, [o], _, r0, s0, ?_⟩
            have key : ∀ A' H' o' rest, Ext ⟨[l], (A.drop n).all⟩ H A' H' → StR G A' (o' :: rest) H' → pureB o' = true → Ext A H A H' ∧ StR G A (S.set n o') H' ∧ ∀ a, a ∉ A'.all → a ∉ A.all := by
              intro A' H' o' rest x s1 hp'
              have kp : ∀ a u, H a = some u → a ∉ l → a ∈ A.all → H' a = some u := fun a u e hn hm => x.keepH a u e (by simpa using hn) (by
                have z := (hin a).mpr hm
                rcases List.mem_append.mp z with z | z
                · simp at z
                  exact absurd z hn
                · exact z)
              have x1 : Ext A H A H' := ⟨fun _ _ e => .inl e, fun _ _ _ _ => Iff.rfl, fun a u e m => ⟨(x.keep a u e (by simpa using fun z => m (live_set hl a z))).1, m⟩, fun a u e m hm => kp a u e (fun z => m (live_set hl a z)) (List.mem_append_right _ hm)⟩
              have hl' : A'.live[0]? = some l := by
                rcases x.live 0 l rfl with z | z
                · exact z
                · exfalso
                  have b0 := s1.box 0 [] o' z rfl
                  cases o' with
                  | lst xs => obtain ⟨a, vs, e, _⟩ := b0; cases e
                  | dct ks xs => obtain ⟨a, vs, e, _⟩ := b0; cases e
                  | ins c fs => obtain ⟨a, dx, vs, e, _⟩ := b0; cases e
                  | dead => cases hp'
                  | tp xs => obtain ⟨a, vs, e, _⟩ := b0; cases e
                  | dcT ks xs => obtain ⟨a, vs, e, _⟩ := b0; cases e
              have sub : ∀ a, a ∉ A'.all → a ∉ A.all := by
                intro a m z
                have z2 := (hin a).mpr z
                rcases List.mem_append.mp z2 with z3 | z3
                · simp at z3
                  exact m (List.mem_append_left _ (live_set hl' a z3))
                · obtain ⟨u, e⟩ := s.alive a z
                  by_cases hal : a ∈ l
                  · exact m (List.mem_append_left _ (live_set hl' a hal))
                  · exact (mem_all.mp m).2 ((x.hid a u e (by simpa using hal)).mpr z3)
              have hbox' : RB G A H' l o' := rb_pure hp' (Kq.same sub) (fun _ _ => rfl) (s1.box 0 l o' hl' rfl)
              refine ⟨x1, ⟨by simp [s.len], s.nd, fun a ha => ?_, fun i k b e1 e2 => ?_⟩, sub⟩
              · by_cases hal : a ∈ l
                · exact s1.alive' hl' hal
                · obtain ⟨u, e⟩ := s.alive a ha
                  exact ⟨u, kp a u e hal ha⟩
              · by_cases ei : n = i
                · subst ei
                  have hlt : n < S.length := (List.getElem?_eq_some_iff.mp eo).1
                  rw [List.getElem?_set_self hlt] at e2
                  cases e2
                  rw [hl] at e1
                  cases e1
                  exact hbox'
                · rw [List.getElem?_set_ne ei] at e2
                  refine (s.box i k b e1 e2).keep x1.kp fun a ha => ?_
                  obtain ⟨u, e⟩ := s.alive' e1 ha
                  rw [kp a u e (fun z => ei (nd_live s.nd hl e1 z ha)) (List.mem_append_left _ (live_set e1 a ha)), e]
            cases eF : F (.loc 0 :: ds') [o] with
            | bad => rw [eF] at p; exact p.elim
            | er c t S1 =>
              rw [eF] at p
              cases S1 with
              | nil => exact p.elim
              | cons o' rest =>
                simp only at p
                by_cases hp' : pureB o' = true
                · simp only [hp', if_true] at p
                  intro A' H' cls d x s1 e
                  obtain ⟨x1, s2, sub⟩ := key A' H' o' rest x s1 hp'
                  exact p A H' cls d x1 s2 (e.kq (Kq.same sub))
                · simp only [hp'] at p
                  exact p.elim
            | ok d S1 =>
              rw [eF] at p
              cases d with
              | loc m => exact p.elim
              | d t =>
                cases S1 with
                | nil => exact p.elim
                | cons o' rest =>
                  simp only at p
                  by_cases hp' : pureB o' = true
                  · simp only [hp', if_true] at p
                    intro A' H' x s1 v' rv
                    obtain ⟨x1, s2, sub⟩ := key A' H' o' rest x s1 hp'
                    exact p A H' x1 s2 v' (RV.kq (t := t) (Kq.same sub) rv)
                  · simp only [hp'] at p
                    exact p.elim
          · simp only [hpo] at p
            exact p.elim
theorem CallW.isoF {P : Program} {w : World} {G : Gs} {mg : Str → Option Value} {base : Heap} {k : Nat} {f : Addr} {n : Nat} {ks : List Str} {F : FM} (h : CallW P w G mg base k f n ks F) : CallW P w G mg base k f n ks (iso F) := h.imp fun _ _ _ _ q => q.iso
theorem CallW.viewF {P : Program} {w : World} {G : Gs} {mg : Str → Option Value} {base : Heap} {k : Nat} {f : Addr} {n : Nat} {ks : List Str} {F : FM} (h : CallW P w G mg base k f n ks F) : CallW P w G mg base k f n ks (view F) := h.imp fun _ _ _ _ q => q.view
/-- another function, equal wherever it promises something -/
def FLe (F' F : FM) : Prop := ∀ ds S, F' ds S = .bad ∨ F' ds S = F ds S
theorem CallW.le {P : Program} {w : World} {G : Gs} {mg : Str → Option Value} {base : Heap} {k : Nat} {f : Addr} {n : Nat} {ks : List Str} {F F' : FM} (h : CallW P w G mg base k f n ks F) (l : FLe F' F) : CallW P w G mg base k f n ks F' := h.imp fun vs H Q E q => by
  obtain ⟨A, S, ds, r, s, p⟩ := q
  rcases l ds S with e | e
  · rw [e] at p
    exact p.elim
  · rw [e] at p
    exact ⟨A, S, ds, r, s, p⟩
end Sm
/-! Sm7: comprehensions. -/
namespace Sm
open PySem PySem.Spec PyProof.Rows L2

/-- no exception leaves a comprehension -/
def nox {α : Type} (r : Rz α) : Rz α := match r with
  | .ok a S => .ok a S
  | _ => .bad
@[simp] theorem nox_ok {α : Type} {a : α} {S : Sto} : nox (.ok a S) = .ok a S := rfl
@[simp] theorem nox_bad {α : Type} : nox (.bad : Rz α) = .bad := rfl
theorem Po.nox {α : Type} {G : Gs} {E E' : XK} {A : Al} {H : Hp} {r : Rz α} {k : Al → Hp → α → Prop} (h : Po G E A H (nox r) k) : Po G E' A H r k := by
  cases r with
  | ok a S => exact h
  | er c t S => exact h.elim
  | bad => exact h
def wipeE (ρ : Env) : List Nat → Env
  | [] => ρ
  | v :: vs => (wipeE ρ vs).set v none
theorem EnvR.wipe {G : Gs} {A : Al} {H : Hp} {ρ : Env} {σ : L2.St} (h : EnvR G A H ρ σ) : ∀ vs, EnvR G A H (wipeE ρ vs) (wipe σ vs)
  | [] => h
  | v :: vs => by
    have ih := EnvR.wipe h vs
    refine ⟨by show ((wipeE ρ vs).set v none).length = ((L2.wipe σ vs).set v none).length; simp [ih.len], fun i d e => ?_⟩
    have e' : ((wipeE ρ vs).set v none)[i]? = some (some d) := e
    by_cases hv : v = i
    · subst hv
      by_cases hl : v < (wipeE ρ vs).length
      · rw [List.getElem?_set_self hl] at e'
        cases e'
      · rw [List.getElem?_eq_none (by simp; omega)] at e'
        cases e'
    · rw [List.getElem?_set_ne hv] at e'
      obtain ⟨u, eu, r⟩ := ih.at_ i d e'
      exact ⟨u, by show ((L2.wipe σ vs).set v none)[i]? = _; rw [List.getElem?_set_ne hv]; exact eu, r⟩
/-- slots outside of L alone are kept: the wiped slots are the same -/
theorem wipe_same {σ σ' : L2.St} {vs L : List Nat} (hL : ∀ i ∈ L, i ∈ vs) (hk : ∀ j : Nat, j ∉ L → σ'[j]? = σ[j]?) (hl : σ'.length = σ.length) : L2.wipe σ' vs = L2.wipe σ vs := by
  apply List.ext_getElem?
  intro j
  by_cases hj : j ∈ vs
  · have key : ∀ (τ : L2.St) (ws : List Nat), j ∈ ws → j < τ.length → (L2.wipe τ ws)[j]? = some none := by
      intro τ ws
      induction ws with
      | nil => intro h; cases h
      | cons w ws ih =>
        intro h hlt
        show ((L2.wipe τ ws).set w none)[j]? = some none
        by_cases e : w = j
        · subst e
          rw [List.getElem?_set_self (by rw [wipe_length]; exact hlt)]
        · rw [List.getElem?_set_ne e]
          exact ih (by rcases List.mem_cons.mp h with z | z; exact absurd z.symm e; exact z) hlt
    by_cases hlt : j < σ.length
    · rw [key σ vs hj hlt, key σ' vs hj (by rw [hl]; exact hlt)]
    · rw [List.getElem?_eq_none (by rw [wipe_length]; omega), List.getElem?_eq_none (by rw [wipe_length]; omega)]
  · rw [wipe_out hj, wipe_out hj]
    exact hk j fun z => hj (hL j z)
/-! ### hiding -/
def Al.hide (A : Al) (D : Addr) : Al := ⟨A.live, D :: A.hid⟩
def Al.show_ (A : Al) (D : Addr) : Al := ⟨A.live, A.hid.filter fun a => decide (a ≠ D)⟩
section
variable {G : Gs} {A A' : Al} {H H' : Hp} {S : Sto} {D : Addr} {o : HO}
theorem Ext.hide (h : H D = none) : Ext A H (A.hide D) (upd H D o) :=
  ⟨fun _ _ e => .inl e, fun a u e _ => ⟨fun z => by
    rcases List.mem_cons.mp z with z | z
    · exact absurd z (ne_of_none e h)
    · exact z, fun z => List.mem_cons_of_mem _ z⟩, fun a u e n => ⟨.inl (upd_old h e), n⟩, fun a u e _ _ => upd_old h e⟩
theorem hide_all {a : Addr} : a ∈ (A.hide D).all ↔ a = D ∨ a ∈ A.all := by
  unfold Al.hide Al.all
  simp only [List.mem_append, List.mem_cons]
  constructor
  · rintro (h | h | h)
    · exact .inr (.inl h)
    · exact .inl h
    · exact .inr (.inr h)
  · rintro (h | h | h)
    · exact .inr (.inl h)
    · exact .inl h
    · exact .inr (.inr h)
theorem StR.hide (s : StR G A S H) (h : H D = none) : StR G (A.hide D) S (upd H D o) := by
  have hD := s.out h
  refine ⟨s.len, ?_, fun a ha => ?_, fun i l b e1 e2 => (s.box i l b e1 e2).keep (Ext.hide h).kp fun a ha => ?_⟩
  · have hn := s.nd
    unfold Al.hide Al.all at *
    simp only at *
    rw [List.nodup_append] at *
    obtain ⟨n1, n2, n3⟩ := hn
    refine ⟨n1, List.nodup_cons.mpr ⟨fun z => hD (List.mem_append_right _ z), n2⟩, fun a ha b hb e => ?_⟩
    rcases List.mem_cons.mp hb with z | z
    · subst e z
      exact hD (List.mem_append_left _ ha)
    · exact n3 a ha b z e
  · rcases hide_all.mp ha with z | z
    · subst z
      exact ⟨_, upd_same⟩
    · obtain ⟨u, e⟩ := s.alive a z
      exact ⟨u, upd_old h e⟩
  · obtain ⟨u, e⟩ := s.alive' e1 ha
    rw [upd_old h e, e]
/-- what is hidden changes -/
theorem kp_poke (hD : D ∈ A.hid) : Kp A H A (upd H D o) := by
  have hne : ∀ a, a ∉ A.all → a ≠ D := fun a n z => n (by rw [z]; exact List.mem_append_right _ hD)
  refine ⟨⟨fun a u _ n r => ⟨?_, n⟩, fun a u _ _ n r => ⟨by rw [upd_ne (hne a n)]; exact r, n⟩, fun a u n r => ⟨⟨u, by rw [upd_ne (hne a n)]; exact r⟩, n⟩, fun a o vs n r => ⟨by rw [upd_ne (hne a n)]; exact r, n⟩⟩, fun _ _ e => .inl e⟩
  rcases r with r | ⟨ob, r⟩
  · exact .inl (by rw [upd_ne (hne a n)]; exact r)
  · exact .inr ⟨ob, by rw [upd_ne (hne a n)]; exact r⟩
theorem StR.poke (s : StR G A S H) (hD : D ∈ A.hid) : StR G A S (upd H D o) := by
  refine ⟨s.len, s.nd, fun a ha => ?_, fun i l b e1 e2 => (s.box i l b e1 e2).keep (kp_poke hD) fun a ha => ?_⟩
  · by_cases e : a = D
    · subst e
      exact ⟨_, upd_same⟩
    · rw [upd_ne e]
      exact s.alive a ha
  · have hn := s.nd
    unfold Al.all at hn
    rw [List.nodup_append] at hn
    exact upd_ne (hn.2.2 a (live_set e1 a ha) D hD)
theorem show_all {a : Addr} : a ∈ (A.show_ D).all → a ∈ A.all := by
  unfold Al.show_ Al.all
  simp only [List.mem_append, List.mem_filter]
  rintro (h | ⟨h, _⟩)
  · exact .inl h
  · exact .inr h
theorem kp_show : Kp A H (A.show_ D) H :=
  ⟨Kq.same fun a n z => n (show_all z), fun _ _ e => .inl e⟩
theorem StR.show_ (s : StR G A S H) : StR G (A.show_ D) S H := by
  refine ⟨s.len, ?_, fun a ha => s.alive a (show_all ha), fun i l b e1 e2 => (s.box i l b e1 e2).keep kp_show fun _ _ => rfl⟩
  have hn := s.nd
  unfold Al.show_ Al.all at *
  simp only at *
  rw [List.nodup_append] at *
  obtain ⟨n1, n2, n3⟩ := hn
  exact ⟨n1, n2.filter _, fun a ha b hb => n3 a ha b (List.mem_filter.mp hb).1⟩
theorem show_out (s : StR G A S H) (hD : D ∈ A.hid) : D ∉ (A.show_ D).all := by
  intro z
  have hn := s.nd
  unfold Al.show_ Al.all at z
  unfold Al.all at hn
  rw [List.nodup_append] at hn
  simp only [List.mem_append, List.mem_filter] at z
  rcases z with z | ⟨_, z⟩
  · exact hn.2.2 D z D hD rfl
  · simp at z
/-- all that happened but at D, which was new -/
structure ExtB (D : Addr) (A : Al) (H : Hp) (A' : Al) (H' : Hp) : Prop where
  live : ∀ (i : Nat) (l : List Addr), A.live[i]? = some l → A'.live[i]? = some l ∨ A'.live[i]? = some []
  hid : ∀ a u, a ≠ D → H a = some u → a ∉ A.live.flatten → (a ∈ A'.hid ↔ a ∈ A.hid)
  keep : ∀ a u, a ≠ D → H a = some u → a ∉ A.live.flatten → Fz u (H' a) ∧ a ∉ A'.live.flatten
  keepH : ∀ a u, a ≠ D → H a = some u → a ∉ A.live.flatten → a ∈ A.hid → H' a = some u
  inH : D ∈ A'.hid
theorem ExtB.start : ExtB D A H (A.hide D) (upd H D o) :=
  ⟨fun _ _ e => .inl e, fun a u ne e _ => ⟨fun z => by
    rcases List.mem_cons.mp z with z | z
    · exact absurd z ne
    · exact z, fun z => List.mem_cons_of_mem _ z⟩, fun a u ne e n => ⟨.inl (by rw [upd_ne ne]; exact e), n⟩, fun a u ne e _ _ => by rw [upd_ne ne]; exact e, List.mem_cons_self⟩
theorem ExtB.step {A1 : Al} {H1 : Hp} (x : ExtB D A H A1 H1) (y : Ext A1 H1 A' H') (s : StR G A1 S H1) : ExtB D A H A' H' := by
  refine ⟨fun i l e => ?_, fun a u ne e n => ?_, fun a u ne e n => ?_, fun a u ne e n m => ?_, ?_⟩
  · rcases x.live i l e with z | z
    · exact y.live i l z
    · rcases y.live i [] z with z | z
      · exact .inr z
      · exact .inr z
  · obtain ⟨h1, n1⟩ := x.keep a u ne e n
    obtain ⟨v, hv⟩ := h1.there
    exact (y.hid a v hv n1).trans (x.hid a u ne e n)
  · obtain ⟨h1, n1⟩ := x.keep a u ne e n
    obtain ⟨v, hv⟩ := h1.there
    obtain ⟨h2, n2⟩ := y.keep a v hv n1
    rw [hv] at h1
    exact ⟨h1.step h2, n2⟩
  · exact y.keepH a u (x.keepH a u ne e n m) (x.keep a u ne e n).2 ((x.hid a u ne e n).mpr m)
  · obtain ⟨u, e⟩ := s.alive D (List.mem_append_right _ x.inH)
    have hn := s.nd
    unfold Al.all at hn
    rw [List.nodup_append] at hn
    exact (y.hid D u e fun z => hn.2.2 D z D x.inH rfl).mpr x.inH
theorem ExtB.poke {A1 : Al} {H1 : Hp} (x : ExtB D A H A1 H1) : ExtB D A H A1 (upd H1 D o) :=
  ⟨x.live, x.hid, fun a u ne e n => ⟨by rw [upd_ne ne]; exact (x.keep a u ne e n).1, (x.keep a u ne e n).2⟩, fun a u ne e n m => by rw [upd_ne ne]; exact x.keepH a u ne e n m, x.inH⟩
theorem ExtB.done {A1 : Al} {H1 : Hp} (x : ExtB D A H A1 H1) (h : H D = none) : Ext A H (A1.show_ D) H1 :=
  ⟨x.live, fun a u e n => by
    have ne := ne_of_none e h
    unfold Al.show_
    simp only [List.mem_filter]
    exact ⟨fun z => (x.hid a u ne e n).mp z.1, fun z => ⟨(x.hid a u ne e n).mpr z, by simpa using ne⟩⟩, fun a u e n => x.keep a u (ne_of_none e h) e n, fun a u e n m => x.keepH a u (ne_of_none e h) e n m⟩
/-- a walk goes on beside D -/
theorem Ext.ofB {A1 : Al} {H1 : Hp} (x : ExtB D A H A1 H1) (h : H D = none) : Ext A H A1 H1 :=
  ⟨x.live, fun a u e n => x.hid a u (ne_of_none e h) e n, fun a u e n => x.keep a u (ne_of_none e h) e n, fun a u e n m => x.keepH a u (ne_of_none e h) e n m⟩
/-- D stands while it is hidden -/
theorem hid_keep (s : StR G A S H) (hD : D ∈ A.hid) (x : Ext A H A' H') : H' D = H D := by
  obtain ⟨u, e⟩ := s.alive D (List.mem_append_right _ hD)
  have hn := s.nd
  unfold Al.all at hn
  rw [List.nodup_append] at hn
  rw [x.keepH D u e (fun z => hn.2.2 D z D hD rfl) hD, e]
end
/-! ### list comprehensions -/
def bz {α β : Type} (o : Option α) (f : α → Rz β) : Rz β := match o with
  | some a => f a
  | none => .bad
def lcL (g : GM) (c : M Bool) (e : M Dv) (ρ : Env) : List Dt → Sto → Rz (List Dv)
  | [], S => .ok [] S
  | t :: ts, S => bz (g (.d t) ρ) fun ρ1 => (nox (c ρ1 S)).bind fun k S1 => if k = true then (nox (e ρ1 S1)).bind fun d S2 => (lcL g c e ρ ts S2).bind fun ds S3 => .ok (d :: ds) S3 else lcL g c e ρ ts S1
def cYes : M Bool := fun _ S => .ok true S
/-- the items of the new list -/
def mLcI (vs : List Nat) (it : M (List Dt)) (g : GM) (c : M Bool) (e : M Dv) : M (List Dv) := fun ρ S => (it ρ S).bind fun ts S1 => if ts.length ≤ 16777216 then lcL g c e (wipeE ρ vs) ts S1 else .bad
theorem Po.bz {α β : Type} {G : Gs} {E : XK} {A : Al} {H : Hp} {o : Option α} {f : α → Rz β} {k : Al → Hp → β → Prop} (h : Po G E A H (bz o f) k) : ∃ a, o = some a ∧ Po G E A H (f a) k := by
  cases o with
  | none => exact h.elim
  | some a => exact ⟨a, rfl, h⟩
section
variable {X : Cx} {G : Gs} {W : WX} {kk : Nat} {elt tg iter : Expr} {ifs : List Expr} {scope : Scope} {own : List (Str × Nat)} {pos : Pos} {it : M (List Dt)} {g : GM} {t : TG} {L : List Nat} {cm : M Bool} {em : M Dv}
theorem ts_nil {X : Cx} : PTs X [] (tMT G W0 cYes) := by
  refine ⟨fun pins s σ H Q I h => ?_⟩
  obtain ⟨A, ρ, S, he, hs, p⟩ := h
  exact pts_nil.run pins s σ H Q I (Po.now p hs)
theorem ts_one {X : Cx} {c : Expr} (h : PT X c (tMT G W0 cm)) : PTs X [c] (tMT G W0 cm) := pts_one h
/-- the loop: what it asks, by a mirror whose end is k -/
theorem lc_loop {σ : L2.St} {H1 : Hp} {A1 : Al} {ρ : Env} {S1 : Sto} {ts : List Dt} {J : It} {D : Addr} {E : XK} {vs : List Nat} {Fin : Hp → Prop} (hgs : TgS G t g L) (hL : ∀ i ∈ L, i ∈ vs) (wk : Wk G J A1 H1 ts) (he : EnvR G A1 H1 ρ σ) (hs : StR G A1 S1 H1) (hD : H1 D = none) (hlen : ts.length ≤ 16777216)
    {kf : List Dv → Sto → Rz Dv} {Qf : Al → Hp → Dv → Prop}
    (p : Po G E A1 H1 ((lcL g cm em (wipeE ρ vs) ts S1).bind kf) Qf)
    (hfin : ∀ ds ws S' A' H', StR G A' S' H' → ExtB D A1 H1 A' H' → H' D = some (.lst ws) → RDs G A' H' ds ws → Po G E A1 H1 (kf ds S') Qf → Fin H') :
    ∃ W : Nat → Nat → Hp → Prop, (∃ m, W 0 m (upd H1 D (.lst []))) ∧ ∀ i m H, W i m H →
      (J.stop i H ∧ Fin H) ∨ (J.go i H ∧ ∃ Nx : Hp → Prop, (∀ H', Nx H' → ∃ m', m' < m ∧ W (i + 1) m' H') ∧ ∀ x H', J.yld i H x H' → t x (wipe σ vs) H' fun σ2 H2 => wipe σ2 vs = wipe σ vs ∧ tMT G W0 cm σ2 H2 fun b H3 =>
        if b = true then tM G W0 em σ2 H3 fun y H4 => ∃ acc, H4 D = some (.lst acc) ∧ acc.length < sizeLine ∧ Nx (upd H4 D (.lst (acc ++ [y]))) else Nx H3) := by
  let Inw : Nat → Hp → Prop := fun i H' => ∃ A' S' ds ws, StR G A' S' H' ∧ ExtB D A1 H1 A' H' ∧ H' D = some (.lst ws) ∧ RDs G A' H' ds ws ∧ ws.length ≤ i ∧ i ≤ ts.length ∧
    Po G E A1 H1 ((lcL g cm em (wipeE ρ vs) (ts.drop i) S').bind fun es S'' => kf (ds ++ es) S'') Qf
  refine ⟨fun i m H' => m = ts.length - i ∧ Inw i H', ⟨_, rfl, A1.hide D, S1, [], [], hs.hide hD, .start, upd_same, .nil, Nat.le_refl _, Nat.zero_le _, ?_⟩, fun i m H' hW => ?_⟩
  · simpa using p
  · obtain ⟨hm, A', S', ds, ws, s', x', hDw, rds, hwl, hi, q⟩ := hW
    by_cases hlt : i < ts.length
    · refine .inr ⟨wk.go i A' H' hlt (.ofB x' hD), Inw (i + 1), fun H2 hN => ⟨ts.length - (i + 1), by omega, rfl, hN⟩, fun x H2 hy => ?_⟩
      obtain ⟨d, ed, xy, sy, rv⟩ := wk.yld i A' H' S' x H2 hlt (.ofB x' hD) s' hy
      have hd : ts.drop i = d :: ts.drop (i + 1) := by
        rw [List.drop_eq_getElem_cons hlt]
        rw [List.getElem?_eq_getElem hlt] at ed
        cases ed
        rfl
      rw [hd] at q
      unfold lcL at q
      cases eg : g (.d d) (wipeE ρ vs) with
      | none => rw [eg] at q; exact q.elim
      | some ρ1 =>
        rw [eg] at q
        have x2 := x'.step xy s'
        have hw : EnvR G A' H2 (wipeE ρ vs) (wipe σ vs) := (he.kp (Ext.ofB x2 hD).kp).wipe vs
        refine hgs A' S' _ ρ1 (wipe σ vs) H2 (.d d) x _ hw sy rv eg fun σ2 he2 hk2 hl2 => ?_
        refine ⟨?_, ?_⟩
        · have z := wipe_same (σ := wipe σ vs) (σ' := σ2) hL hk2 hl2
          rw [z]
          apply List.ext_getElem?
          intro j
          by_cases hj : j ∈ vs
          · have key : ∀ (τ : L2.St) (us : List Nat), j ∈ us → j < τ.length → (L2.wipe τ us)[j]? = some none := by
              intro τ us
              induction us with
              | nil => intro h; cases h
              | cons w us ih =>
                intro h hlt
                show ((L2.wipe τ us).set w none)[j]? = some none
                by_cases e : w = j
                · subst e
                  rw [List.getElem?_set_self (by rw [wipe_length]; exact hlt)]
                · rw [List.getElem?_set_ne e]
                  exact ih (by rcases List.mem_cons.mp h with z | z; exact absurd z.symm e; exact z) hlt
            by_cases hl : j < σ.length
            · rw [key σ vs hj hl, key (L2.wipe σ vs) vs hj (by rw [wipe_length]; exact hl)]
            · rw [List.getElem?_eq_none (by rw [wipe_length, wipe_length]; omega), List.getElem?_eq_none (by rw [wipe_length]; omega)]
          · rw [wipe_out hj]
        · have hDH2 : H2 D = some (.lst ws) := (hid_keep s' x'.inH xy).trans hDw
          have rds2 := rds.kp xy.kp
          -- the test
          refine ⟨A', ρ1, S', he2, sy, ?_⟩
          simp only [bz] at q
          cases ec : cm ρ1 S' with
          | bad => rw [ec] at q; exact q.elim
          | er c0 t0 S0 => rw [ec] at q; exact q.elim
          | ok k S2 =>
            rw [ec] at q
            simp only [nox_ok, bind_ok] at q
            intro A3 H3 x3 s3
            have xb3 := x2.step x3 sy
            have hD3 : H3 D = some (.lst ws) := (hid_keep sy x2.inH x3).trans hDH2
            cases k with
            | false =>
              simp only [Bool.false_eq_true, if_false] at q ⊢
              exact ⟨A3, S2, ds, ws, s3, xb3, hD3, rds2.kp x3.kp, by omega, by omega, q⟩
            | true =>
              simp only [if_true] at q ⊢
              refine ⟨A3, ρ1, S2, he2.kp x3.kp, s3, ?_⟩
              cases ee : em ρ1 S2 with
              | bad => rw [ee] at q; exact q.elim
              | er c0 t0 S0 => rw [ee] at q; exact q.elim
              | ok dv S4 =>
                rw [ee] at q
                simp only [nox_ok, bind_ok] at q
                intro A4 H4 x4 s4 y ry
                have xb4 := xb3.step x4 s3
                have hD4 : H4 D = some (.lst ws) := (hid_keep s3 xb3.inH x4).trans hD3
                refine ⟨ws, hD4, Nat.lt_of_lt_of_le (show ws.length < 16777216 by omega) (line_of (Nat.le_refl _)), A4, S4, ds ++ [dv], ws ++ [y], s4.poke xb4.inH, xb4.poke, upd_same, ?_, by simp; omega, by omega, ?_⟩
                · exact (((rds2.kp x3.kp).kp x4.kp).append (.cons ry .nil)).kp (kp_poke xb4.inH)
                · have e1 : ((lcL g cm em (wipeE ρ vs) (ts.drop (i + 1)) S4).bind fun es S'' => kf (ds ++ [dv] ++ es) S'') = (((lcL g cm em (wipeE ρ vs) (ts.drop (i + 1)) S4).bind fun ds S3 => .ok (dv :: ds) S3).bind fun es S'' => kf (ds ++ es) S'') := by
                    cases lcL g cm em (wipeE ρ vs) (ts.drop (i + 1)) S4 with
                    | ok a b => simp
                    | er c0 t0 S0 => rfl
                    | bad => rfl
                  rw [e1]
                  exact q
    · have hz : i = ts.length := by omega
      subst hz
      rw [List.drop_length] at q
      simp only [lcL, bind_ok, List.append_nil] at q
      exact .inl ⟨wk.stop A' H' (.ofB x' hD), hfin ds ws S' A' H' s' x' hDw rds q⟩
theorem bind_assoc {α β γ : Type} (r : Rz α) (f : α → Sto → Rz β) (h : β → Sto → Rz γ) : (r.bind f).bind h = r.bind fun a S => (f a S).bind h := by
  cases r <;> rfl
theorem adopt_all {A : Al} {D : Addr} (hD : D ∈ A.hid) {a : Addr} : a ∈ ((A.show_ D).push [D]).all → a ∈ A.all := by
  intro h
  rcases push_all.mp h with z | z
  · exact show_all z
  · simp at z
    subst z
    exact List.mem_append_right _ hD
theorem adopt_kp {A : Al} {D : Addr} {H : Hp} (hD : D ∈ A.hid) : Kp A H ((A.show_ D).push [D]) H := ⟨Kq.same fun a n z => n (adopt_all hD z), fun i l e => .inl (push_old e)⟩
theorem adopt {A : Al} {S : Sto} {H : Hp} {D : Addr} {b : Bo} (s : StR G A S H) (hD : D ∈ A.hid) (hb : RB G ((A.show_ D).push [D]) H [D] b) : StR G ((A.show_ D).push [D]) (S ++ [b]) H := by
  refine ⟨by simp [Al.push, Al.show_, s.len], push_nd (s.show_ (D := D)).nd (by simp) fun c hc => ?_, fun c hc => s.alive c (adopt_all hD hc), fun i k o e1 e2 => ?_⟩
  · simp at hc
    rw [hc]
    exact show_out s hD
  · rcases push_at e1 with z | ⟨z, rfl⟩
    · have hi : i < S.length := by
        rw [← s.len]
        exact (List.getElem?_eq_some_iff.mp z).1
      rw [List.getElem?_append_left hi] at e2
      exact (s.box i k o z e2).keep (adopt_kp hD) fun _ _ => rfl
    · subst z
      have e3 : (A.show_ D).live.length = S.length := s.len
      rw [e3, List.getElem?_append_right (Nat.le_refl _)] at e2
      simp at e2
      subst e2
      exact hb
theorem adopt_ext {A A1 : Al} {H H1 : Hp} {D : Addr} (x : ExtB D A H A1 H1) (h : H D = none) : Ext A H ((A1.show_ D).push [D]) H1 := by
  have y := x.done h
  refine ⟨fun i l e => ?_, y.hid, fun a u e n => ⟨(y.keep a u e n).1, fun z => ?_⟩, y.keepH⟩
  · rcases y.live i l e with z | z
    · exact .inl (push_old z)
    · exact .inr (push_old z)
  · unfold Al.push at z
    simp only [List.flatten_append, List.mem_append, List.flatten_cons, List.flatten_nil, List.append_nil] at z
    rcases z with z | z
    · exact (y.keep a u e n).2 z
    · simp at z
      exact ne_of_none e h z
theorem adopt_loc {A : Al} {S : Sto} {H : Hp} {D : Addr} (s : StR G A S H) : RD G ((A.show_ D).push [D]) H (.loc S.length) (.ref D) := by
  refine ⟨[D], ?_, fun b q z => by
    injection z with z1 z2
    rw [z1]⟩
  unfold Al.push Al.show_
  simp only
  rw [← s.len, List.getElem?_append_right (Nat.le_refl _)]
  simp
theorem lst_end {A A1 : Al} {S : Sto} {H H1 : Hp} {D : Addr} {ds : List Dv} {ws : List V} {E : XK} {Q : VK} (s : StR G A S H) (x : ExtB D A1 H1 A H) (h : H1 D = none) (hw : H D = some (.lst ws)) (r : RDs G A H ds ws) (p : Po G E A1 H1 (lift (pLst ds S)) (kD G Q)) : Q (.ref D) H := by
  unfold pLst at p
  cases ep : pures ds with
  | none => rw [ep] at p; exact p.elim
  | some ts =>
    rw [ep] at p
    by_cases hl : ts.length ≤ 16777216
    · simp only [hl, if_true] at p
      exact Po.at p (x.done h) s.show_ _ ⟨D, ws, rfl, ⟨hw, show_out s x.inH⟩, (pures_rvs ep r).kp kp_show⟩
    · simp only [hl, if_false] at p
      exact p.elim
theorem lstB_end {A A1 : Al} {S : Sto} {H H1 : Hp} {D : Addr} {ds : List Dv} {ws : List V} {E : XK} {Q : VK} (s : StR G A S H) (x : ExtB D A1 H1 A H) (h : H1 D = none) (hw : H D = some (.lst ws)) (r : RDs G A H ds ws) (p : Po G E A1 H1 (lift (pLstB ds S)) (kD G Q)) : Q (.ref D) H := by
  unfold pLstB at p
  by_cases hl : ds.length ≤ 16777216
  · simp only [hl, if_true] at p
    exact Po.at p (adopt_ext x h) (adopt s x.inH ⟨D, ws, rfl, hw, r.kp (adopt_kp x.inH)⟩) _ (adopt_loc s)
  · simp only [hl, if_false] at p
    exact p.elim
/-- the end of a list comprehension, as data or as a box -/
def LEnd (G : Gs) (pe : PN) : Prop := ∀ {A A1 : Al} {S : Sto} {H H1 : Hp} {D : Addr} {ds : List Dv} {ws : List V} {E : XK} {Q : VK}, StR G A S H → ExtB D A1 H1 A H → H1 D = none → H D = some (.lst ws) → RDs G A H ds ws → Po G E A1 H1 (lift (pe ds S)) (kD G Q) → Q (.ref D) H
theorem lEnd : LEnd G pLst := fun s x h hw r p => lst_end s x h hw r p
theorem lEndB : LEnd G pLstB := fun s x h hw r p => lstB_end s x h hw r p
theorem lc_read {wi : TI} {pe : PN} {vs : List Nat} (hpe : LEnd G pe) (hw : ∀ (σ : L2.St) (H : Hp) (A : Al) (ρ : Env) (S : Sto) (R : It → Hp → Prop), EnvR G A H ρ σ → StR G A S H → Po G (Wa W σ) A H (it ρ S) (fun A' H' ts => ∀ J, Wk G J A' H' ts → R J H') → wi σ H R)
    (hgs : TgS G t g L) (hL : ∀ i ∈ L, i ∈ vs) (σ : L2.St) (H : Hp) (Q : VK) (h : tM G W (mN pe (mLcI vs it g cm em)) σ H Q) : tLc wi t (tMT G W0 cm) (tM G W0 em) vs σ H Q := by
  obtain ⟨A, ρ, S, he, hs, p⟩ := h
  refine hw σ H A ρ S _ he hs ?_
  unfold mN mLcI at p
  rw [bind_assoc] at p
  refine Po.step p fun ts S1 A1 H1 x1 s1 p1 J wk D hD => ?_
  by_cases hl : ts.length ≤ 16777216
  · simp only [hl, if_true] at p1
    exact lc_loop (Fin := fun H => Q (.ref D) H) hgs hL wk (he.kp x1.kp) s1 hD hl p1 fun ds ws S' A' H' s' x' hDw r q => hpe s' x' hD hDw r q
  · simp only [hl, if_false] at p1
    exact p1.elim
theorem e_lc' {pe : PN} (hpe : LEnd G pe) (B : Bx X G W kk) (hi : PIS X G W tg iter it) (ok : BlkOk X.N X.env.scope scope own) (hg : ∀ (s : Shared) (H : Hp) (C : Addr) (cl : List (Str × Addr)) (fp : List Addr), PG (X.blk s H scope (compEnvC scope cl C X.env) fp) tg t) (hgs : TgS G t g L) (hL : ∀ i ∈ L, i ∈ own.map (·.2))
    (ht : ∀ (s : Shared) (H : Hp) (C : Addr) (cl : List (Str × Addr)) (fp : List Addr), PTs (X.blk s H scope (compEnvC scope cl C X.env) fp) ifs (tMT G W0 cm)) (he : ∀ (s : Shared) (H : Hp) (C : Addr) (cl : List (Str × Addr)) (fp : List Addr), PE (X.blk s H scope (compEnvC scope cl C X.env) fp) elt (tM G W0 em))
    (hs : ∀ x, foldedSetIterable iter X.env x = pure x) : PE X (.ListComp elt [⟨tg, iter, ifs, 0⟩] scope pos) (tM G W (mN pe (mLcI (own.map (·.2)) it g cm em))) := by
  obtain ⟨wi, pi, hw⟩ := hi
  exact (pe_lc B.calm B.nd pi ok hg ht he hs).sm fun σ H Q h => lc_read hpe hw hgs hL σ H Q h
/-- name = [..] -/
theorem s_setLc {pe : PN} {i : Nat} {y : Str} {py spos : Pos} (hpe : LEnd G pe) (B : Bx X G W kk) (hy : X.N[i]? = some y) (hyl : X.env.scope.names.lookup y = some .local) (hsw : swapsWith (.ListComp elt [⟨tg, iter, ifs, 0⟩] scope pos) (some (.Name y py)) spos.line X.env = pure true)
    (hi : PIS X G W tg iter it) (ok : BlkOk X.N X.env.scope scope own) (hg : ∀ (s : Shared) (H : Hp) (C : Addr) (cl : List (Str × Addr)) (fp : List Addr), PG (X.blk s H scope (compEnvC scope cl C X.env) fp) tg t) (hgs : TgS G t g L) (hL : ∀ i ∈ L, i ∈ own.map (·.2))
    (ht : ∀ (s : Shared) (H : Hp) (C : Addr) (cl : List (Str × Addr)) (fp : List Addr), PTs (X.blk s H scope (compEnvC scope cl C X.env) fp) ifs (tMT G W0 cm)) (he : ∀ (s : Shared) (H : Hp) (C : Addr) (cl : List (Str × Addr)) (fp : List Addr), PE (X.blk s H scope (compEnvC scope cl C X.env) fp) elt (tM G W0 em))
    (hs : ∀ x, foldedSetIterable iter X.env x = pure x) : PS X (.Assign [.Name y py] (.ListComp elt [⟨tg, iter, ifs, 0⟩] scope pos) spos) (tMS G W (sSet i (mN pe (mLcI (own.map (·.2)) it g cm em)))) := by
  obtain ⟨wi, pi, hw⟩ := hi
  refine (ps_setLc (i := i) B.calm B.nd hy hyl hsw pi ok hg ht he hs).sm fun D σ H h => ?_
  obtain ⟨A, ρ, S, he', hs', p⟩ := h
  refine lc_read (W := W) hpe hw hgs hL σ H _ ⟨A, ρ, S, he', hs', PoS.step he' p fun d S1 A1 H1 x s e q v rv => PoS.nx_now q s (e.set rv)⟩
/-! ### dict comprehensions -/
def kOf (d : Dv) : Option Key := match d with
  | .d (.int i) => some (.inl i)
  | .d (.str s) => some (.inr s)
  | _ => none
theorem kOf_rd {A : Al} {H : Hp} {d : Dv} {k : Key} {v : V} (h : kOf d = some k) (r : RD G A H d v) : v = kV k := by
  cases d with
  | loc n => cases h
  | d t =>
    cases t with
    | int i =>
      cases h
      exact r
    | str s =>
      cases h
      exact r
    | _ => cases h
end
end Sm
/-! Sm8: dict comprehensions, what is walked. -/
namespace Sm
open PySem PySem.Spec PyProof.Rows L2

def hasK (ks : List Key) (j : Key) : Bool := ks.any fun k => decide (k = j)
/-- d[j] = y on keys and values -/
def dputX {α : Type} (ks : List Key) (xs : List α) (j : Key) (y : α) : List α := if hasK ks j = true then List.zipWith (fun k x => if k = j then y else x) ks xs else xs ++ [y]
def dputK (ks : List Key) (j : Key) : List Key := if hasK ks j = true then ks else ks ++ [j]
def dlook {α : Type} : List Key → List α → Key → Option α
  | k :: ks, x :: xs, j => if k = j then some x else dlook ks xs j
  | _, _, _ => none
section
variable {G : Gs} {A : Al} {H : Hp}
theorem any_key {kvs : List (Key × V)} {j : Key} : (kvs.any fun kv => decide (kv.1 = j)) = hasK (kvs.map (·.1)) j := by
  unfold hasK
  rw [List.any_map]
  rfl
theorem dput_keys {kvs : List (Key × V)} {j : Key} {y : V} : (putK kvs j y).map (·.1) = dputK (kvs.map (·.1)) j := by
  unfold putK dputK
  rw [any_key]
  by_cases h : hasK (kvs.map (·.1)) j = true
  · rw [if_pos h, if_pos h, List.map_map]
    apply List.map_congr_left
    intro kv _
    simp only [Function.comp]
    split <;> rfl
  · rw [if_neg h, if_neg h]
    simp
theorem dput_rds {kvs : List (Key × V)} {j : Key} {y : V} {xs : List Dv} {d : Dv} (h : RDs G A H xs (kvs.map (·.2))) (r : RD G A H d y) : RDs G A H (dputX (kvs.map (·.1)) xs j d) ((putK kvs j y).map (·.2)) := by
  unfold putK dputX
  rw [any_key]
  by_cases hj : hasK (kvs.map (·.1)) j = true
  · rw [if_pos hj, if_pos hj]
    clear hj
    induction kvs generalizing xs with
    | nil =>
      cases h
      exact .nil
    | cons kv kvs ih =>
      cases h with
      | cons q t =>
        refine .cons ?_ (ih t)
        by_cases e : kv.1 = j
        · simp only [e, if_true]
          exact r
        · simp only [e, if_false]
          exact q
  · rw [if_neg hj, if_neg hj]
    rw [List.map_append]
    exact h.append (.cons r .nil)
theorem dlook_val {kvs : List (Key × V)} {j : Key} : ∀ {xs : List Dv}, RDs G A H xs (kvs.map (·.2)) → (∀ d, dlook (kvs.map (·.1)) xs j = some d → ∃ v, valV kvs j = some v ∧ RD G A H d v) ∧ (dlook (kvs.map (·.1)) xs j = none → valV kvs j = none) := by
  induction kvs with
  | nil =>
    intro xs h
    cases h
    exact ⟨fun d e => by simp [dlook] at e, fun _ => rfl⟩
  | cons kv kvs ih =>
    intro xs h
    cases h with
    | cons q t =>
      rename_i x xs
      by_cases e : kv.1 = j
      · rw [valV_pos e]
        simp only [List.map_cons, dlook, e, if_true]
        refine ⟨fun d ed => ?_, fun z => by cases z⟩
        cases ed
        exact ⟨_, rfl, q⟩
      · rw [valV_neg e]
        simp only [List.map_cons, dlook, e, if_false]
        exact ih t
end
/-! ### dict comprehensions -/
def dcL (g : GM) (c : M Bool) (ek ev : M Dv) (ρ : Env) : List Dt → List Key → List Dv → Sto → Rz (List Key × List Dv)
  | [], ks, xs, S => .ok (ks, xs) S
  | t :: ts, ks, xs, S => bz (g (.d t) ρ) fun ρ1 => (nox (c ρ1 S)).bind fun b S1 => if b = true then (nox (ek ρ1 S1)).bind fun kd S2 => (nox (ev ρ1 S2)).bind fun d S3 => bz (kOf kd) fun k => dcL g c ek ev ρ ts (dputK ks k) (dputX ks xs k d) S3
    else dcL g c ek ev ρ ts ks xs S1
def pDct (ks : List Key) (ds : List Dv) (S : Sto) : Rz Dv := match pures ds with
  | some ts => .ok (.d (.dct ks ts)) S
  | none => .bad
def pDctB (ks : List Key) (ds : List Dv) (S : Sto) : Rz Dv := .ok (.loc S.length) (S ++ [.dct ks ds])
abbrev PD := List Key → List Dv → Sto → Rz Dv
def mDc (pe : PD) (vs : List Nat) (it : M (List Dt)) (g : GM) (c : M Bool) (ek ev : M Dv) : M Dv := fun ρ S => (it ρ S).bind fun ts S1 => if ts.length ≤ 16777216 then (dcL g c ek ev (wipeE ρ vs) ts [] [] S1).bind fun q S2 => pe q.1 q.2 S2 else .bad
section
variable {X : Cx} {G : Gs} {W : WX} {kk : Nat} {kx vx tg iter : Expr} {ifs : List Expr} {scope : Scope} {own : List (Str × Nat)} {pos : Pos} {it : M (List Dt)} {g : GM} {t : TG} {L : List Nat} {cm : M Bool} {ek ev : M Dv}
theorem wipe_wipe (σ : L2.St) (vs : List Nat) : L2.wipe (L2.wipe σ vs) vs = L2.wipe σ vs := by
  apply List.ext_getElem?
  intro j
  by_cases hj : j ∈ vs
  · have key : ∀ (τ : L2.St) (us : List Nat), j ∈ us → j < τ.length → (L2.wipe τ us)[j]? = some none := by
      intro τ us
      induction us with
      | nil => intro h; cases h
      | cons w us ih =>
        intro h hlt
        show ((L2.wipe τ us).set w none)[j]? = some none
        by_cases e : w = j
        · subst e
          rw [List.getElem?_set_self (by rw [wipe_length]; exact hlt)]
        · rw [List.getElem?_set_ne e]
          exact ih (by rcases List.mem_cons.mp h with z | z; exact absurd z.symm e; exact z) hlt
    by_cases hl : j < σ.length
    · rw [key σ vs hj hl, key (L2.wipe σ vs) vs hj (by rw [wipe_length]; exact hl)]
    · rw [List.getElem?_eq_none (by rw [wipe_length, wipe_length]; omega), List.getElem?_eq_none (by rw [wipe_length]; omega)]
  · rw [wipe_out hj]
theorem dc_loop {σ : L2.St} {H1 : Hp} {A1 : Al} {ρ : Env} {S1 : Sto} {ts : List Dt} {J : It} {D : Addr} {E : XK} {vs : List Nat} {Fin : Hp → Prop} (hgs : TgS G t g L) (hL : ∀ i ∈ L, i ∈ vs) (wk : Wk G J A1 H1 ts) (he : EnvR G A1 H1 ρ σ) (hs : StR G A1 S1 H1) (hD : H1 D = none) (hlen : ts.length ≤ 16777216)
    {pe : PD} {Qf : Al → Hp → Dv → Prop}
    (p : Po G E A1 H1 ((dcL g cm ek ev (wipeE ρ vs) ts [] [] S1).bind fun q S2 => pe q.1 q.2 S2) Qf)
    (hfin : ∀ ds kvs S' A' H', StR G A' S' H' → ExtB D A1 H1 A' H' → H' D = some (.dK kvs) → RDs G A' H' ds (kvs.map (·.2)) → Po G E A1 H1 (pe (kvs.map (·.1)) ds S') Qf → Fin H') :
    ∃ W : Nat → Nat → Hp → Prop, (∃ m, W 0 m (upd H1 D (.dK []))) ∧ ∀ i m H, W i m H →
      (J.stop i H ∧ Fin H) ∨ (J.go i H ∧ ∃ Nx : Hp → Prop, (∀ H', Nx H' → ∃ m', m' < m ∧ W (i + 1) m' H') ∧ ∀ x H', J.yld i H x H' → t x (wipe σ vs) H' fun σ2 H2 => wipe σ2 vs = wipe σ vs ∧ tMT G W0 cm σ2 H2 fun b H3 =>
        if b = true then tM G W0 ek σ2 H3 fun y H4 => tM G W0 ev σ2 H4 fun z H5 => ∃ kvs k, y = kV k ∧ H5 D = some (.dK kvs) ∧ kvs.length < sizeLine ∧ Nx (upd H5 D (.dK (putK kvs k z))) else Nx H3) := by
  let Inw : Nat → Hp → Prop := fun i H' => ∃ A' S' ds kvs, StR G A' S' H' ∧ ExtB D A1 H1 A' H' ∧ H' D = some (.dK kvs) ∧ RDs G A' H' ds (kvs.map (·.2)) ∧ kvs.length ≤ i ∧ i ≤ ts.length ∧
    Po G E A1 H1 ((dcL g cm ek ev (wipeE ρ vs) (ts.drop i) (kvs.map (·.1)) ds S').bind fun q S2 => pe q.1 q.2 S2) Qf
  refine ⟨fun i m H' => m = ts.length - i ∧ Inw i H', ⟨_, rfl, A1.hide D, S1, [], [], hs.hide hD, .start, upd_same, .nil, Nat.le_refl _, Nat.zero_le _, p⟩, fun i m H' hW => ?_⟩
  obtain ⟨hm, A', S', ds, kvs, s', x', hDw, rds, hwl, hi, q⟩ := hW
  by_cases hlt : i < ts.length
  · refine .inr ⟨wk.go i A' H' hlt (.ofB x' hD), Inw (i + 1), fun H2 hN => ⟨ts.length - (i + 1), by omega, rfl, hN⟩, fun x H2 hy => ?_⟩
    obtain ⟨d, ed, xy, sy, rv⟩ := wk.yld i A' H' S' x H2 hlt (.ofB x' hD) s' hy
    have hd : ts.drop i = d :: ts.drop (i + 1) := by
      rw [List.drop_eq_getElem_cons hlt]
      rw [List.getElem?_eq_getElem hlt] at ed
      cases ed
      rfl
    rw [hd] at q
    unfold dcL at q
    cases eg : g (.d d) (wipeE ρ vs) with
    | none => rw [eg] at q; exact q.elim
    | some ρ1 =>
      rw [eg] at q
      have x2 := x'.step xy s'
      have hw : EnvR G A' H2 (wipeE ρ vs) (wipe σ vs) := (he.kp (Ext.ofB x2 hD).kp).wipe vs
      refine hgs A' S' _ ρ1 (wipe σ vs) H2 (.d d) x _ hw sy rv eg fun σ2 he2 hk2 hl2 => ?_
      refine ⟨by rw [wipe_same (σ := wipe σ vs) (σ' := σ2) hL hk2 hl2, wipe_wipe], ?_⟩
      have hDH2 : H2 D = some (.dK kvs) := (hid_keep s' x'.inH xy).trans hDw
      have rds2 := rds.kp xy.kp
      refine ⟨A', ρ1, S', he2, sy, ?_⟩
      simp only [bz] at q
      cases ec : cm ρ1 S' with
      | bad => rw [ec] at q; exact q.elim
      | er c0 t0 S0 => rw [ec] at q; exact q.elim
      | ok k S2 =>
        rw [ec] at q
        simp only [nox_ok, bind_ok] at q
        intro A3 H3 x3 s3
        have xb3 := x2.step x3 sy
        have hD3 : H3 D = some (.dK kvs) := (hid_keep sy x2.inH x3).trans hDH2
        cases k with
        | false =>
          simp only [Bool.false_eq_true, if_false] at q ⊢
          exact ⟨A3, S2, ds, kvs, s3, xb3, hD3, rds2.kp x3.kp, by omega, by omega, q⟩
        | true =>
          simp only [if_true] at q ⊢
          refine ⟨A3, ρ1, S2, he2.kp x3.kp, s3, ?_⟩
          cases ee : ek ρ1 S2 with
          | bad => rw [ee] at q; exact q.elim
          | er c0 t0 S0 => rw [ee] at q; exact q.elim
          | ok kd S4 =>
            rw [ee] at q
            simp only [nox_ok, bind_ok] at q
            intro A4 H4 x4 s4 y ry
            have xb4 := xb3.step x4 s3
            have hD4 : H4 D = some (.dK kvs) := (hid_keep s3 xb3.inH x4).trans hD3
            refine ⟨A4, ρ1, S4, (he2.kp x3.kp).kp x4.kp, s4, ?_⟩
            cases ev' : ev ρ1 S4 with
            | bad => rw [ev'] at q; exact q.elim
            | er c0 t0 S0 => rw [ev'] at q; exact q.elim
            | ok dv S5 =>
              rw [ev'] at q
              simp only [nox_ok, bind_ok] at q
              intro A5 H5 x5 s5 z rz
              have xb5 := xb4.step x5 s4
              have hD5 : H5 D = some (.dK kvs) := (hid_keep s4 xb4.inH x5).trans hD4
              cases ek' : kOf kd with
              | none => rw [ek'] at q; exact q.elim
              | some k =>
                rw [ek'] at q
                have rds5 := (((rds2.kp x3.kp).kp x4.kp).kp x5.kp)
                refine ⟨kvs, k, kOf_rd ek' ry, hD5, Nat.lt_of_lt_of_le (show kvs.length < 16777216 by omega) (line_of (Nat.le_refl _)), A5, S5, _, putK kvs k z, s5.poke xb5.inH, xb5.poke, upd_same, (dput_rds rds5 rz).kp (kp_poke xb5.inH), ?_, by omega, ?_⟩
                · have := length_putK kvs k z
                  omega
                · rw [dput_keys]
                  exact q
  · have hz : i = ts.length := by omega
    subst hz
    rw [List.drop_length] at q
    exact .inl ⟨wk.stop A' H' (.ofB x' hD), hfin ds kvs S' A' H' s' x' hDw rds q⟩
def DEnd (G : Gs) (pe : PD) : Prop := ∀ {A A1 : Al} {S : Sto} {H H1 : Hp} {D : Addr} {ds : List Dv} {kvs : List (Key × V)} {E : XK} {Q : VK}, StR G A S H → ExtB D A1 H1 A H → H1 D = none → H D = some (.dK kvs) → RDs G A H ds (kvs.map (·.2)) → Po G E A1 H1 (pe (kvs.map (·.1)) ds S) (kD G Q) → Q (.ref D) H
theorem dEnd : DEnd G pDct := fun {A A1 S H H1 D ds kvs E Q} s x h hw r p => by
  unfold pDct at p
  cases ep : pures ds with
  | none => rw [ep] at p; exact p.elim
  | some ts =>
    rw [ep] at p
    exact Po.at p (x.done h) s.show_ _ ⟨D, kvs, rfl, show_out s x.inH, .inl hw, rfl, (pures_rvs ep r).kp kp_show⟩
theorem dEndB : DEnd G pDctB := fun {A A1 S H H1 D ds kvs E Q} s x h hw r p =>
  Po.at p (adopt_ext x h) (adopt s x.inH ⟨D, kvs, rfl, hw, rfl, r.kp (adopt_kp x.inH)⟩) _ (adopt_loc s)
theorem e_dc {pe : PD} (hpe : DEnd G pe) (B : Bx X G W kk) (hi : PIS X G W tg iter it) (ok : BlkOk X.N X.env.scope scope own) (hg : ∀ (s : Shared) (H : Hp) (C : Addr) (cl : List (Str × Addr)) (fp : List Addr), PG (X.blk s H scope (compEnvC scope cl C X.env) fp) tg t) (hgs : TgS G t g L) (hL : ∀ i ∈ L, i ∈ own.map (·.2))
    (ht : ∀ (s : Shared) (H : Hp) (C : Addr) (cl : List (Str × Addr)) (fp : List Addr), PTs (X.blk s H scope (compEnvC scope cl C X.env) fp) ifs (tMT G W0 cm)) (hk : ∀ (s : Shared) (H : Hp) (C : Addr) (cl : List (Str × Addr)) (fp : List Addr), PE (X.blk s H scope (compEnvC scope cl C X.env) fp) kx (tM G W0 ek))
    (he : ∀ (s : Shared) (H : Hp) (C : Addr) (cl : List (Str × Addr)) (fp : List Addr), PE (X.blk s H scope (compEnvC scope cl C X.env) fp) vx (tM G W0 ev))
    (hs : ∀ x, foldedSetIterable iter X.env x = pure x) : PE X (.DictComp kx vx [⟨tg, iter, ifs, 0⟩] scope pos) (tM G W (mDc pe (own.map (·.2)) it g cm ek ev)) := by
  obtain ⟨wi, pi, hw⟩ := hi
  refine (pe_dc B.calm B.nd pi ok hg ht hk he hs).sm fun σ H Q h => ?_
  obtain ⟨A, ρ, S, he, hs, p⟩ := h
  refine hw σ H A ρ S _ he hs ?_
  unfold mDc at p
  refine Po.step p fun ts S1 A1 H1 x1 s1 p1 J wk D hD => ?_
  by_cases hl : ts.length ≤ 16777216
  · simp only [hl, if_true] at p1
    exact dc_loop (Fin := fun H => Q (.ref D) H) hgs hL wk (he.kp x1.kp) s1 hD hl p1 fun ds kvs S' A' H' s' x' hDw r q => hpe s' x' hD hDw r q
  · simp only [hl, if_false] at p1
    exact p1.elim
end
/-! ### what is walked -/
/-- a list or a tuple -/
def iSq (K : PySem.W.Frag) (tl : TE) : TI := fun σ H R => tl σ H fun x H1 => ∃ a, x = .ref a ∧ (((∃ xs, SqL K H1 a xs) ∧ R (Itl K a) H1) ∨ ((∃ xs, SqT K H1 a xs) ∧ R (Itt K a) H1))
theorem pi_sq {X : Cx} {tg l : Expr} {tl : TE} (hl : PE X l tl) : PI X tg l (iSq X.K tl) := by
  refine ⟨fun pins s σ H R I h => ?_⟩
  refine thn (hl.run pins s σ H _ I h) fun v s1 ⟨x, H1, I1, r1, q1⟩ => ?_
  obtain ⟨a, e, q⟩ := q1
  subst e
  cases r1
  rcases q with ⟨⟨xs, hq⟩, q⟩ | ⟨⟨xs, hq⟩, q⟩
  · obtain ⟨its, rv, p, hz⟩ := I1.list hq
    refine wpAny_pyIter_list p.isList ?_
    refine ⟨s1.heap.objs.size, [s1.heap.objs.size], _, _, H1, rfl, I1.kept (t' := s1.toks) fun b o e => Heap.get?_push_of_some _ e, turn_list a _, ⟨_, Heap.get?_push_size _ rfl, rfl, rfl⟩, fun b hb => ?_, q⟩
    have e : b = s1.heap.objs.size := by simpa using hb
    subst e
    exact I1.fpOk (Nat.le_refl _) (I1.hok.fresh (Nat.le_refl _))
  · obtain ⟨its, rv, p, hz⟩ := I1.tuple hq
    refine wpAny_pyIter_tuple (show s1.heap.IsTuple a its.toArray from p) ?_
    refine ⟨s1.heap.objs.size, [s1.heap.objs.size], _, _, H1, rfl, I1.kept (t' := s1.toks) fun b o e => Heap.get?_push_of_some _ e, turn_tuple a _, ⟨_, Heap.get?_push_size _ rfl, rfl, rfl⟩, fun b hb => ?_, q⟩
    have e : b = s1.heap.objs.size := by simpa using hb
    subst e
    exact I1.fpOk (Nat.le_refl _) (I1.hok.fresh (Nat.le_refl _))
/-- the data of a sequence; a box's list is put out of reach while it is walked -/
def seqOf (d : Dv) : Option (List Dt) := match d with
  | .d (.tup ts) => some ts
  | .d (.lst ts) => some ts
  | .d (.scr ts) => some ts
  | .d (.ltp ts) => some ts
  | _ => none
def iSeq (m : M Dv) : M (List Dt) := fun ρ S => (m ρ S).bind fun d S1 => li (seqOf d) S1
section
variable {X : Cx} {G : Gs} {W : WX} {kk : Nat} {tg iter e : Expr} {m : M Dv}
theorem wk_list {A : Al} {H : Hp} {a : Addr} {vs : List V} {ts : List Dt} (h : ∀ A' H', Ext A H A' H' → SqL G.K H' a vs) (r : RVs G A H ts vs) : Wk G (Itl G.K a) A H ts := by
  refine ⟨fun i A' H' hi x => ?_, fun i A' H' S v H2 hi x s hy => ?_, fun A' H' x => ?_⟩
  · obtain ⟨v, ev, _⟩ := r.get (List.getElem?_eq_getElem hi)
    exact ⟨vs, v, h A' H' x, ev⟩
  · obtain ⟨rfl, hv⟩ := hy
    obtain ⟨t, et, rt⟩ := r.get' (hv vs (h A' H2 x))
    exact ⟨t, et, .refl, s, rt.kp x.kp⟩
  · exact ⟨vs, h A' H' x, by rw [r.length]; exact Nat.le_refl _⟩
theorem wk_tup {A : Al} {H : Hp} {a : Addr} {vs : List V} {ts : List Dt} (h : ∀ A' H', Ext A H A' H' → SqT G.K H' a vs) (r : RVs G A H ts vs) : Wk G (Itt G.K a) A H ts := by
  refine ⟨fun i A' H' hi x => ?_, fun i A' H' S v H2 hi x s hy => ?_, fun A' H' x => ?_⟩
  · obtain ⟨v, ev, _⟩ := r.get (List.getElem?_eq_getElem hi)
    exact ⟨vs, v, h A' H' x, ev⟩
  · obtain ⟨rfl, hv⟩ := hy
    obtain ⟨t, et, rt⟩ := r.get' (hv vs (h A' H2 x))
    exact ⟨t, et, .refl, s, rt.kp x.kp⟩
  · exact ⟨vs, h A' H' x, by rw [r.length]; exact Nat.le_refl _⟩
theorem li_po {α : Type} {E : XK} {A : Al} {H : Hp} {S : Sto} {o : Option α} {k : Al → Hp → α → Prop} (h : Po G E A H (li o S) k) (s : StR G A S H) : ∃ a, o = some a ∧ k A H a := by
  cases o with
  | none => exact h.elim
  | some a => exact ⟨a, rfl, Po.now h s⟩
/-- how a sequence is walked -/
theorem seq_wk {A : Al} {H : Hp} {d : Dv} {v : V} {ts : List Dt} (h : seqOf d = some ts) (r : RD G A H d v) : ∃ a, v = .ref a ∧ (((∃ xs, SqL G.K H a xs) ∧ Wk G (Itl G.K a) A H ts) ∨ ((∃ xs, SqT G.K H a xs) ∧ Wk G (Itt G.K a) A H ts)) := by
  cases d with
  | loc n => cases h
  | d t =>
    cases t with
    | tup xs =>
      cases h
      obtain ⟨a, vs, e, ht, hv⟩ := r
      exact ⟨a, e, .inr ⟨⟨vs, ht.sq⟩, wk_tup (fun A' H' x => (ht.kp x.kp.toKq).sq) hv⟩⟩
    | lst xs =>
      cases h
      obtain ⟨a, vs, e, ht, hv⟩ := r
      exact ⟨a, e, .inl ⟨⟨vs, ht.sq⟩, wk_list (fun A' H' x => (ht.kp x.kp.toKq).sq) hv⟩⟩
    | scr xs =>
      cases h
      obtain ⟨a, vs, e, ht, hv⟩ := r
      exact ⟨a, e, .inl ⟨⟨vs, ht.sq⟩, wk_list (fun A' H' x => (ht.kp x.kp.toKq).sq) hv⟩⟩
    | ltp xs =>
      cases h
      obtain ⟨a, vs, e, ht, hv⟩ := r
      exact ⟨a, e, .inr ⟨⟨vs, ht H⟩, wk_tup (fun A' H' x => ht H') hv⟩⟩
    | _ => cases h
theorem i_seq (hK : G.K = X.K) (he : PE X e (tM G W m)) : PIS X G W tg e (iSeq m) := by
  refine ⟨_, pi_sq he, fun σ H A ρ S R he hs p => ?_⟩
  refine ⟨A, ρ, S, he, hs, Po.step p fun d S1 A1 H1 x1 s1 p1 v rv => ?_⟩
  obtain ⟨ts, e1, k⟩ := li_po p1 s1
  obtain ⟨a, ev, h⟩ := seq_wk e1 rv
  rw [← hK]
  rcases h with ⟨h, w⟩ | ⟨h, w⟩
  · exact ⟨a, ev, .inl ⟨h, k _ w⟩⟩
  · exact ⟨a, ev, .inr ⟨h, k _ w⟩⟩
/-! ranges -/
def rgOk (i j : Int) : Bool := decide (-(2 ^ 62) ≤ i ∧ i < 2 ^ 62 ∧ -(2 ^ 62) ≤ j ∧ j < 2 ^ 62)
def rgL (lo : Int) (n : Nat) : List Dt := (List.range n).map fun i => .int (lo + (i : Nat))
def rg1 (ds : List Dv) : Option (List Dt) := match ds with
  | [.d (.int j)] => if rgOk 0 j = true then some (rgL 0 j.toNat) else none
  | _ => none
def iRg (f : List Dv → Option (List Dt)) (ma : M (List Dv)) : M (List Dt) := fun ρ S => (ma ρ S).bind fun ds S1 => li (f ds) S1
theorem wk_range {A : Al} {H : Hp} {lo : Int} {n : Nat} : Wk G (Itr lo n) A H (rgL lo n) := by
  have hl : (rgL lo n).length = n := by simp [rgL]
  refine ⟨fun i A' H' hi x => by rw [hl] at hi; exact hi, fun i A' H' S v H2 hi x s hy => ?_, fun A' H' x => by rw [hl]; exact Nat.le_refl n⟩
  obtain ⟨rfl, rfl⟩ := hy
  rw [hl] at hi
  refine ⟨.int (lo + (i : Nat)), ?_, .refl, s, rfl⟩
  unfold rgL
  rw [List.getElem?_map, List.getElem?_range hi]
  rfl
theorem i_rg1 {a : Expr} {ma : M (List Dv)} {p pos : Pos} (hg : Gl X "range") (hm : X.mg "range" = none) (ha : PA X [a] (tMA G W ma)) (hs : starEach [a] X.env = [(false, eval a X.env)]) : PIS X G W tg (.Call (.Name "range" p) [a] [] pos) (iRg rg1 ma) := by
  refine ⟨_, pi_range1 hg hm ha hs, fun σ H A ρ S R he hs p => ?_⟩
  refine ⟨A, ρ, S, he, hs, Po.step p fun ds S1 A1 H1 x1 s1 p1 vs rv => ?_⟩
  obtain ⟨ts, e1, k⟩ := li_po p1 s1
  unfold rg1 at e1
  split at e1
  · rename_i j
    split at e1
    · rename_i hb
      cases e1
      cases rv with
      | cons r1 r2 =>
        cases r2
        have hb := of_decide_eq_true hb
        exact ⟨j, by rw [show _ = V.int j from r1], hb.2.2.1, hb.2.2.2, k _ wk_range⟩
    · cases e1
  · cases e1
/-! enumerate, zip -/
def lstOf (d : Dv) : Option (List Dt) := match d with
  | .d (.lst ts) => some ts
  | .d (.scr ts) => some ts
  | _ => none
def enL (ts : List Dt) : List Dt := (List.range ts.length).filterMap fun i => (ts[i]?).map fun t => .tup [.int (i : Nat), t]
def en1 (ds : List Dv) : Option (List Dt) := match ds with
  | [d] => (lstOf d).map enL
  | _ => none
theorem range_fm {α : Type} (f : Nat → Option α) : ∀ n i : Nat, (∀ j, j < n → (f j).isSome = true) → i < n → ((List.range n).filterMap f)[i]? = f i := by
  intro n
  induction n with
  | zero => intro i _ hi; omega
  | succ n ih =>
    intro i hf hi
    rw [List.range_succ, List.filterMap_append]
    have hl : ((List.range n).filterMap f).length = n := by
      have : ∀ m, m ≤ n → ((List.range m).filterMap f).length = m := by
        intro m
        induction m with
        | zero => intro _; rfl
        | succ m ihm =>
          intro hm
          rw [List.range_succ, List.filterMap_append, List.length_append, ihm (by omega)]
          have hs := hf m (by omega)
          cases e : f m with
          | none => rw [e] at hs; cases hs
          | some y => simp [e]
      exact this n (Nat.le_refl n)
    by_cases h : i < n
    · rw [List.getElem?_append_left (by omega)]
      exact ih i (fun j hj => hf j (by omega)) h
    · have : i = n := by omega
      subst this
      rw [List.getElem?_append_right (by omega), hl]
      have hs := hf i (by omega)
      cases e : f i with
      | none => rw [e] at hs; cases hs
      | some y => simp [e]
theorem fm_length {α : Type} (f : Nat → Option α) : ∀ n : Nat, (∀ j, j < n → (f j).isSome = true) → ((List.range n).filterMap f).length = n := by
  intro n
  induction n with
  | zero => intro _; rfl
  | succ n ih =>
    intro hf
    rw [List.range_succ, List.filterMap_append, List.length_append, ih (fun j hj => hf j (by omega))]
    have hs := hf n (by omega)
    cases e : f n with
    | none => rw [e] at hs; cases hs
    | some y => simp [e]
theorem enL_get {ts : List Dt} {i : Nat} (h : i < ts.length) : (enL ts)[i]? = some (.tup [.int (i : Nat), ts[i]]) := by
  unfold enL
  rw [range_fm _ _ _ (fun j hj => by simp [List.getElem?_eq_getElem hj]) h]
  simp [List.getElem?_eq_getElem h]
theorem enL_length (ts : List Dt) : (enL ts).length = ts.length := by
  unfold enL
  rw [fm_length _ _ (fun j hj => by simp [List.getElem?_eq_getElem hj])]
theorem lst_at {A : Al} {H : Hp} {d : Dv} {v : V} {ts : List Dt} (h : lstOf d = some ts) (r : RD G A H d v) : ∃ a vs, v = .ref a ∧ (∀ A' H', Ext A H A' H' → SqL G.K H' a vs) ∧ RVs G A H ts vs := by
  cases d with
  | loc n => cases h
  | d t =>
    cases t with
    | lst xs =>
      cases h
      obtain ⟨a, vs, e, ht, hv⟩ := r
      exact ⟨a, vs, e, fun A' H' x => (ht.kp x.kp.toKq).sq, hv⟩
    | scr xs =>
      cases h
      obtain ⟨a, vs, e, ht, hv⟩ := r
      exact ⟨a, vs, e, fun A' H' x => (ht.kp x.kp.toKq).sq, hv⟩
    | _ => cases h
theorem tup_at {A : Al} {H : Hp} {t : Dt} {v : V} {ts : List Dt} (h : t = .tup ts) (r : RV G A H t v) : ∃ a vs, v = .ref a ∧ (∀ A' H', Ext A H A' H' → SqT G.K H' a vs) ∧ RVs G A H ts vs := by
  subst h
  obtain ⟨a, vs, e, ht, hv⟩ := r
  exact ⟨a, vs, e, fun A' H' x => (ht.kp x.kp.toKq).sq, hv⟩
theorem wk_enum {A : Al} {H : Hp} {a : Addr} {vs : List V} {ts : List Dt} (h : ∀ A' H', Ext A H A' H' → SqL G.K H' a vs) (r : RVs G A H ts vs) : Wk G (Ite G.K a) A H (enL ts) := by
  have hl := enL_length ts
  refine ⟨fun i A' H' hi x => ?_, fun i A' H' S v H2 hi x s hy => ?_, fun A' H' x => ?_⟩
  · rw [hl] at hi
    obtain ⟨v, ev, _⟩ := r.get (List.getElem?_eq_getElem hi)
    exact ⟨vs, v, h A' H' x, ev⟩
  · rw [hl] at hi
    obtain ⟨T, y, rfl, hT, rfl, hv⟩ := hy
    obtain ⟨t, et, rt⟩ := r.get' (hv vs (h A' H' x))
    rw [List.getElem?_eq_getElem hi] at et
    cases et
    exact ⟨_, enL_get hi, .new hT, s.new hT, RV.tup_new s hT ⟨_, _, rfl, rfl, _, _, rfl, rt.kp x.kp, rfl⟩⟩
  · exact ⟨vs, h A' H' x, by rw [hl, r.length]; exact Nat.le_refl _⟩
theorem i_enum {a : Expr} {ma : M (List Dv)} {p pos tpos : Pos} {elts : List Expr} {kk : Nat} (hK : G.K = X.K) (hg : Gl X "enumerate") (hm : X.mg "enumerate" = none) (ha : PA X [a] (tMA G W ma)) (hs : starEach [a] X.env = [(false, eval a X.env)]) : PIS X G W (.Tuple elts kk tpos) (.Call (.Name "enumerate" p) [a] [] pos) (iRg en1 ma) := by
  refine ⟨_, pi_enum hg hm ha hs, fun σ H A ρ S R he hs p => ?_⟩
  refine ⟨A, ρ, S, he, hs, Po.step p fun ds S1 A1 H1 x1 s1 p1 vs rv => ?_⟩
  obtain ⟨ts, e1, k⟩ := li_po p1 s1
  cases rv with
  | nil => cases e1
  | cons r1 r2 =>
    cases r2 with
    | cons => cases e1
    | nil =>
      rename_i d v
      unfold en1 at e1
      simp only at e1
      cases el : lstOf d with
      | none => rw [el] at e1; cases e1
      | some us =>
        rw [el] at e1
        cases e1
        obtain ⟨a, ws, rfl, hq, hv⟩ := lst_at el r1
        rw [← hK]
        exact ⟨a, ws, rfl, hq A1 H1 .refl, k _ (wk_enum hq hv)⟩
def zpL (xs ys : List Dt) : List Dt := (List.zip xs ys).map fun p => .tup [p.1, p.2]
def zp2 (ds : List Dv) : Option (List Dt) := match ds with
  | [.d (.tup xs), .d (.tup ys)] => some (zpL xs ys)
  | [d, e] => (match lstOf d, lstOf e with
    | some xs, some ys => some (zpL xs ys)
    | _, _ => none)
  | _ => none
theorem zpL_length (xs ys : List Dt) : (zpL xs ys).length = min xs.length ys.length := by simp [zpL]
theorem zpL_get {xs ys : List Dt} {i : Nat} {x y : Dt} (hx : xs[i]? = some x) (hy : ys[i]? = some y) : (zpL xs ys)[i]? = some (.tup [x, y]) := by
  unfold zpL
  rw [List.getElem?_map, List.zip, List.getElem?_zipWith, hx, hy]
  rfl
theorem wk_zipL {A : Al} {H : Hp} {a b : Addr} {vs ws : List V} {xs ys : List Dt} (h : ∀ A' H', Ext A H A' H' → SqL G.K H' a vs) (r : RVs G A H xs vs) (h2 : ∀ A' H', Ext A H A' H' → SqL G.K H' b ws) (r2 : RVs G A H ys ws) : Wk G (Itz G.K a b) A H (zpL xs ys) := by
  have hl := zpL_length xs ys
  refine ⟨fun i A' H' hi x => ?_, fun i A' H' S v H2 hi x s hy => ?_, fun A' H' x => ?_⟩
  · rw [hl] at hi
    obtain ⟨v, ev, _⟩ := r.get (List.getElem?_eq_getElem (show i < xs.length by omega))
    obtain ⟨w, ew, _⟩ := r2.get (List.getElem?_eq_getElem (show i < ys.length by omega))
    exact ⟨vs, ws, v, w, h A' H' x, h2 A' H' x, ev, ew⟩
  · obtain ⟨T, x1, y1, rfl, hT, rfl, hv, hw⟩ := hy
    obtain ⟨t, et, rt⟩ := r.get' (hv vs (h A' H' x))
    obtain ⟨u, eu, ru⟩ := r2.get' (hw ws (h2 A' H' x))
    exact ⟨_, zpL_get et eu, .new hT, s.new hT, RV.tup_new s hT ⟨_, _, rfl, rt.kp x.kp, _, _, rfl, ru.kp x.kp, rfl⟩⟩
  · refine ⟨vs, ws, h A' H' x, h2 A' H' x, ?_⟩
    rw [hl, r.length, r2.length]
    omega
theorem wk_zipT {A : Al} {H : Hp} {a b : Addr} {vs ws : List V} {xs ys : List Dt} (h : ∀ A' H', Ext A H A' H' → SqT G.K H' a vs) (r : RVs G A H xs vs) (h2 : ∀ A' H', Ext A H A' H' → SqT G.K H' b ws) (r2 : RVs G A H ys ws) : Wk G (RZ.ItzT G.K a b) A H (zpL xs ys) := by
  have hl := zpL_length xs ys
  refine ⟨fun i A' H' hi x => ?_, fun i A' H' S v H2 hi x s hy => ?_, fun A' H' x => ?_⟩
  · rw [hl] at hi
    obtain ⟨v, ev, _⟩ := r.get (List.getElem?_eq_getElem (show i < xs.length by omega))
    obtain ⟨w, ew, _⟩ := r2.get (List.getElem?_eq_getElem (show i < ys.length by omega))
    exact ⟨vs, ws, v, w, h A' H' x, h2 A' H' x, ev, ew⟩
  · obtain ⟨T, x1, y1, rfl, hT, rfl, hv, hw⟩ := hy
    obtain ⟨t, et, rt⟩ := r.get' (hv vs (h A' H' x))
    obtain ⟨u, eu, ru⟩ := r2.get' (hw ws (h2 A' H' x))
    exact ⟨_, zpL_get et eu, .new hT, s.new hT, RV.tup_new s hT ⟨_, _, rfl, rt.kp x.kp, _, _, rfl, ru.kp x.kp, rfl⟩⟩
  · refine ⟨vs, ws, h A' H' x, h2 A' H' x, ?_⟩
    rw [hl, r.length, r2.length]
    omega
theorem i_zip {a b : Expr} {ma : M (List Dv)} {p pos tpos : Pos} {elts : List Expr} {kk : Nat} (hK : G.K = X.K) (hg : Gl X "zip") (hm : X.mg "zip" = none) (ha : PA X [a, b] (tMA G W ma)) (hs : starEach [a, b] X.env = (false, eval a X.env) :: starEach [b] X.env) (hpl : (backTo pos (starEach [b] X.env)).any (·.1) = false) :
    PIS X G W (.Tuple elts kk tpos) (.Call (.Name "zip" p) [a, b] [] pos) (iRg zp2 ma) := by
  refine ⟨_, RZ.pi_zipA hg hm ha hs hpl, fun σ H A ρ S R he hs p => ?_⟩
  refine ⟨A, ρ, S, he, hs, Po.step p fun ds S1 A1 H1 x1 s1 p1 vs rv => ?_⟩
  obtain ⟨ts, e1, k⟩ := li_po p1 s1
  rw [← hK]
  unfold zp2 at e1
  split at e1
  · rename_i xs ys
    cases e1
    cases rv with
    | cons r1 r2 =>
      cases r2 with
      | cons r2 r3 =>
        cases r3
        obtain ⟨a, us, rfl, ha, ru⟩ := tup_at rfl r1
        obtain ⟨b, ws, rfl, hb, rw'⟩ := tup_at rfl r2
        exact ⟨a, b, us, ws, rfl, .inr ⟨ha A1 H1 .refl, hb A1 H1 .refl, k _ (wk_zipT ha ru hb rw')⟩⟩
  · rename_i d e _
    cases ed : lstOf d with
    | none => rw [ed] at e1; cases e1
    | some xs =>
      cases ee : lstOf e with
      | none => rw [ed, ee] at e1; cases e1
      | some ys =>
        rw [ed, ee] at e1
        cases e1
        cases rv with
        | cons r1 r2 =>
          cases r2 with
          | cons r2 r3 =>
            cases r3
            obtain ⟨a, us, rfl, ha, ru⟩ := lst_at ed r1
            obtain ⟨b, ws, rfl, hb, rw'⟩ := lst_at ee r2
            exact ⟨a, b, us, ws, rfl, .inl ⟨ha A1 H1 .refl, hb A1 H1 .refl, k _ (wk_zipL ha ru hb rw')⟩⟩
  · cases e1
/-! dicts -/
/-- the dict that e gives, locked -/
def tLkV (t : TE) : TE := fun σ H Q => t σ H fun x H1 => ∃ d kvs, x = .ref d ∧ Rd H1 d (.dK kvs) ∧ ∀ o H2, (H2 = H1 ∨ (H1 d = some (.dK kvs) ∧ H2 = upd H1 d (.frz o (.dK kvs)))) → H2 d = some (.frz o (.dK kvs)) → Q x H2
theorem pe_lockV {t : TE} (h : PE X e t) : PE X e (tLkV t) := by
  refine ⟨fun pins s σ H Q I hw => ?_⟩
  refine thn (h.run pins s σ H _ I hw) fun v s1 ⟨x, H1, I1, r, d, kvs, ex, hd, q⟩ => ?_
  rcases hd with hd | ⟨o, hd⟩
  · obtain ⟨od, I2⟩ := I1.lock hd trivial
    exact ⟨x, _, I2, r, q od _ (.inr ⟨hd, rfl⟩) upd_same⟩
  · exact ⟨x, H1, I1, r, q o H1 (.inl rfl) hd⟩
theorem lock_ext {A : Al} {S : Sto} {H H2 : Hp} {d : Addr} {kvs : List (Key × V)} {o : Obj} (s : StR G A S H) (n : d ∉ A.all) (h : H2 = H ∨ (H d = some (.dK kvs) ∧ H2 = upd H d (.frz o (.dK kvs)))) : Ext A H A H2 ∧ StR G A S H2 := by
  rcases h with rfl | ⟨hd, rfl⟩
  · exact ⟨.refl, s⟩
  · have x : Ext A H A (upd H d (.frz o (.dK kvs))) := by
      refine ⟨fun _ _ e => .inl e, fun _ _ _ _ => Iff.rfl, fun a u e m => ⟨?_, m⟩, fun a u e m hm => ?_⟩
      · by_cases ea : a = d
        · subst ea
          rw [hd] at e
          cases e
          rw [upd_same]
          exact .inr ⟨⟨kvs, rfl⟩, o, rfl⟩
        · rw [upd_ne ea]
          exact .inl e
      · by_cases ea : a = d
        · subst ea
          exact absurd (List.mem_append_right _ hm) n
        · rw [upd_ne ea]
          exact e
    refine ⟨x, s.len, s.nd, fun a ha => ?_, fun i l b e1 e2 => (s.box i l b e1 e2).keep x.kp fun a ha => ?_⟩
    · have ea : a ≠ d := fun z => n (by rw [← z]; exact ha)
      rw [upd_ne ea]
      exact s.alive a ha
    · have ea : a ≠ d := fun z => n (by rw [← z]; exact List.mem_append_left _ (live_set e1 a ha))
      rw [upd_ne ea]
def kT (k : Key) : Dt := match k with
  | .inl i => .int i
  | .inr s => .str s
def itemsL (ks : List Key) (xs : List Dt) : List Dt := (List.zip ks xs).map fun p => .tup [kT p.1, p.2]
def dItems (d : Dv) : Option (List Dt) := match d with
  | .d (.dct ks xs) => some (itemsL ks xs)
  | _ => none
def dKeys (d : Dv) : Option (List Dt) := match d with
  | .d (.dct ks _) => some (ks.map kT)
  | _ => none
def iDc (f : Dv → Option (List Dt)) (m : M Dv) : M (List Dt) := fun ρ S => (m ρ S).bind fun d S1 => li (f d) S1
theorem kT_rv {A : Al} {H : Hp} (k : Key) : RV G A H (kT k) (kV k) := by
  cases k with
  | inl i => exact (rfl : V.int i = V.int i)
  | inr s => exact (rfl : V.str s = V.str s)
theorem frz_stay {A A' : Al} {H H' : Hp} {d : Addr} {o : Obj} {u : HO} (h : H d = some (.frz o u)) (n : d ∉ A.all) (x : Ext A H A' H') : H' d = some (.frz o u) := (x.all h n).1.eq fun ⟨_, z⟩ => by cases z
theorem itemsL_get {ks : List Key} {xs : List Dt} {i : Nat} {k : Key} {x : Dt} (hk : ks[i]? = some k) (hx : xs[i]? = some x) : (itemsL ks xs)[i]? = some (.tup [kT k, x]) := by
  unfold itemsL
  rw [List.getElem?_map, List.zip, List.getElem?_zipWith, hk, hx]
  rfl
theorem wk_items {A : Al} {H : Hp} {d : Addr} {o : Obj} {kvs : List (Key × V)} {xs : List Dt} (h : H d = some (.frz o (.dK kvs))) (n : d ∉ A.all) (r : RVs G A H xs (kvs.map (·.2))) : Wk G (Iti d o kvs) A H (itemsL (kvs.map (·.1)) xs) := by
  have hl : (itemsL (kvs.map (·.1)) xs).length = kvs.length := by
    have := r.length
    simp at this
    simp [itemsL, this]
  refine ⟨fun i A' H' hi x => ⟨frz_stay h n x, by rw [← hl]; exact hi⟩, fun i A' H' S v H2 hi x s hy => ?_, fun A' H' x => ⟨frz_stay h n x, by rw [hl]; exact Nat.le_refl _⟩⟩
  obtain ⟨T, k, v, ek, rfl, hT, rfl⟩ := hy
  obtain ⟨t, et, rt⟩ := r.get' (i := i) (v := v) (by rw [List.getElem?_map, ek]; rfl)
  exact ⟨_, itemsL_get (by rw [List.getElem?_map, ek]; rfl) et, .new hT, s.new hT, RV.tup_new s hT ⟨_, _, rfl, kT_rv k, _, _, rfl, rt.kp x.kp, rfl⟩⟩
theorem wk_keys {A : Al} {H : Hp} {d : Addr} {o : Obj} {kvs : List (Key × V)} (h : H d = some (.frz o (.dK kvs))) (n : d ∉ A.all) : Wk G (Itk d o kvs) A H ((kvs.map (·.1)).map kT) := by
  have hl : ((kvs.map (·.1)).map kT).length = kvs.length := by simp
  refine ⟨fun i A' H' hi x => ⟨frz_stay h n x, by rw [← hl]; exact hi⟩, fun i A' H' S v H2 hi x s hy => ?_, fun A' H' x => ⟨frz_stay h n x, by rw [hl]; exact Nat.le_refl _⟩⟩
  obtain ⟨rfl, k, v, ek, rfl⟩ := hy
  exact ⟨kT k, by rw [List.getElem?_map, List.getElem?_map, ek]; rfl, .refl, s, kT_rv k⟩
/-- the dict d, locked -/
theorem lk_read {σ : L2.St} {H : Hp} {A : Al} {ρ : Env} {S : Sto} {f : Dv → Option (List Dt)} {R : It → Hp → Prop} {Q : VK} (he : EnvR G A H ρ σ) (hs : StR G A S H) (p : Po G (Wa W σ) A H (iDc f m ρ S) fun A' H' ts => ∀ J, Wk G J A' H' ts → R J H')
    (hf : ∀ d ts, f d = some ts → ∃ ks xs, d = .d (.dct ks xs))
    (q : ∀ A2 H2 d o kvs xs ts S2, StR G A2 S2 H2 → f (.d (.dct (kvs.map (·.1)) xs)) = some ts → H2 d = some (.frz o (.dK kvs)) → d ∉ A2.all → RVs G A2 H2 xs (kvs.map (·.2)) → (∀ J, Wk G J A2 H2 ts → R J H2) → Q (.ref d) H2) : tLkV (tM G W m) σ H Q := by
  refine ⟨A, ρ, S, he, hs, Po.step p fun d S1 A1 H1 x1 s1 p1 v rv => ?_⟩
  cases ef : f d with
  | none => rw [ef] at p1; exact p1.elim
  | some ts =>
    rw [ef] at p1
    obtain ⟨ks, xs, rfl⟩ := hf d ts ef
    obtain ⟨a, kvs, rfl, n, hr, rfl, hv⟩ := rv
    refine ⟨a, kvs, rfl, hr, fun o H2 h2 hd => ?_⟩
    obtain ⟨x2, s2⟩ := lock_ext s1 n h2
    exact q A1 H2 a o kvs xs ts S1 s2 ef hd n (hv.kp x2.kp) (Po.at p1 x2 s2)
theorem i_items {apos cpos tpos : Pos} {elts : List Expr} {kk : Nat} (he : PE X e (tM G W m)) (hbase : attributeBase e "items" X.env (eval e X.env) = eval e X.env) (hline : (apos.endLine == cpos.line) = true) : PIS X G W (.Tuple elts kk tpos) (.Call (.Attribute e "items" apos) [] [] cpos) (iDc dItems m) := by
  refine ⟨_, pi_items (pe_lockV he) hbase hline, fun σ H A ρ S R he hs p => ?_⟩
  refine lk_read he hs p (fun d ts e => ?_) fun A2 H2 d o kvs xs ts S2 s2 e1 hd n hv k => ⟨d, o, kvs, rfl, hd, k _ ?_⟩
  · unfold dItems at e
    split at e
    · exact ⟨_, _, rfl⟩
    · cases e
  · cases e1
    exact wk_items hd n hv
theorem i_keys (he : PE X e (tM G W m)) : PIS X G W tg e (iDc dKeys m) := by
  refine ⟨_, pi_keys (pe_lockV he), fun σ H A ρ S R he hs p => ?_⟩
  refine lk_read he hs p (fun d ts e => ?_) fun A2 H2 d o kvs xs ts S2 s2 e1 hd n hv k => ⟨d, o, rfl, .inl ⟨kvs, hd, k _ ?_⟩⟩
  · unfold dKeys at e
    split at e
    · exact ⟨_, _, rfl⟩
    · cases e
  · cases e1
    exact wk_keys hd n
/-! a text, sign by sign -/
end
end Sm
/-! Sm9: operators, subscripts, the builtins, by data. -/
namespace Sm
open PySem PySem.Spec PyProof.Rows L2
section
variable {G : Gs} {E : XK} {A : Al} {S : Sto} {H : Hp} {Q : VK} {ts : List Dt} {vs : List V}
theorem poT (p : Po G E A H (lift (some (Dv.d (.tup ts), S))) (kD G Q)) (s : StR G A S H) (r : RVs G A H ts vs) : ∀ q, H q = none → Q (.ref q) (upd H q (.tup vs)) :=
  fun _ hq => Po.at p (Ext.new hq) (s.new hq) _ (RV.tup_new s hq r)
theorem poL (p : Po G E A H (lift (some (Dv.d (.lst ts), S))) (kD G Q)) (s : StR G A S H) (r : RVs G A H ts vs) : ∀ q, H q = none → Q (.ref q) (upd H q (.lst vs)) :=
  fun _ hq => Po.at p (Ext.new hq) (s.new hq) _ (RV.lst_new s hq r)
theorem poB {ds : List Dv} (p : Po G E A H (lift (some (Dv.loc S.length, S ++ [.lst ds]))) (kD G Q)) (s : StR G A S H) (r : RDs G A H ds vs) : ∀ q, H q = none → Q (.ref q) (upd H q (.lst vs)) := fun _ hq => by
  obtain ⟨x1, s1, r1⟩ := box_lst s hq r
  exact Po.at p x1 s1 _ r1
end
/-- what a list (a box or not) has -/
def lstAt (S : Sto) (d : Dv) : Option (List Dv) := match d with
  | .d (.lst ts) => some (ts.map .d)
  | .loc n => (match S[n]? with
    | some (.lst ds) => some ds
    | _ => none)
  | _ => none
theorem lstAt_rd {G : Gs} {A : Al} {S : Sto} {H : Hp} {d : Dv} {v : V} {ds : List Dv} (s : StR G A S H) (r : RD G A H d v) (h : lstAt S d = some ds) : ∃ a vs, v = .ref a ∧ H a = some (.lst vs) ∧ RDs G A H ds vs := by
  cases d with
  | d t =>
    cases t with
    | lst ts =>
      obtain ⟨a, vs, e, hl, hv⟩ := r
      cases h
      exact ⟨a, vs, e, hl.1, hv.rds⟩
    | _ => cases h
  | loc n =>
    unfold lstAt at h
    simp only at h
    cases e : S[n]? with
    | none => rw [e] at h; cases h
    | some o =>
      rw [e] at h
      cases o with
      | lst xs =>
        cases h
        obtain ⟨a, vs, ev, _, hl, hv⟩ := loc_lst s r e
        exact ⟨a, vs, ev, hl, hv⟩
      | _ => cases h
/-- any sequence: what it has -/
def seqAt (S : Sto) (d : Dv) : Option (List Dv) := match d with
  | .d (.tup ts) => some (ts.map .d)
  | .d (.scr ts) => some (ts.map .d)
  | .d (.ltp ts) => some (ts.map .d)
  | d => lstAt S d
theorem seqAt_rd {G : Gs} {A : Al} {S : Sto} {H : Hp} {d : Dv} {v : V} {ds : List Dv} (s : StR G A S H) (r : RD G A H d v) (h : seqAt S d = some ds) : ∃ a vs, v = .ref a ∧ (SqL G.K H a vs ∨ SqT G.K H a vs) ∧ RDs G A H ds vs := by
  unfold seqAt at h
  split at h
  · obtain ⟨a, vs, e, ht, hv⟩ := r
    cases h
    exact ⟨a, vs, e, .inr ht.sq, hv.rds⟩
  · obtain ⟨a, vs, e, ht, hv⟩ := r
    cases h
    exact ⟨a, vs, e, .inl ht.sq, hv.rds⟩
  · obtain ⟨a, vs, e, ht, hv⟩ := r
    cases h
    exact ⟨a, vs, e, .inr (ht H), hv.rds⟩
  · obtain ⟨a, vs, e, hl, hv⟩ := lstAt_rd s r h
    exact ⟨a, vs, e, .inl (.inl (.inl hl)), hv⟩
theorem RDs.pure {G : Gs} {A : Al} {H : Hp} {ts : List Dt} {ds : List Dv} {vs : List V} (e : pures ds = some ts) (r : RDs G A H ds vs) : RVs G A H ts vs := pures_rvs e r

/-! ### operators -/
def pAdd : P2 := fun d e S => match d, e with
  | .d (.int i), .d (.int j) => some (.d (.int (i + j)), S)
  | .d (.str a), .d (.str b) => if a.length + b.length ≤ 16777216 then some (.d (.str (a ++ b)), S) else none
  | .d (.tup a), .d (.tup b) => if a.length + b.length ≤ 16777216 then some (.d (.tup (a ++ b)), S) else none
  | .d (.lst a), .d (.lst b) => if a.length + b.length ≤ 16777216 then some (.d (.lst (a ++ b)), S) else none
  | _, _ => none
def smallI (i : Int) : Bool := decide (-(2 ^ 64) < i ∧ i < 2 ^ 64)
def mulOk (i j : Int) : Bool := smallI i || smallI j || decide (i.natAbs.log2 + j.natAbs.log2 < 1000000)
def divOk (j : Int) : Bool := decide (0 < j ∧ j < 1073741824) || decide (0 < j ∧ j.natAbs.log2 < 9000)
def pSub : P2 := fun d e S => match d, e with
  | .d (.int i), .d (.int j) => some (.d (.int (i - j)), S)
  | _, _ => none
def pMul : P2 := fun d e S => match d, e with
  | .d (.int i), .d (.int j) => if mulOk i j = true then some (.d (.int (i * j)), S) else none
  | .d (.lst a), .d (.int j) => if decide (-(2 ^ 63) ≤ j ∧ j < 2 ^ 63 ∧ a.length * j.toNat ≤ 16777216) = true then some (.d (.lst (List.replicate j.toNat a).flatten), S) else none
  | _, _ => none
def pDiv : P2 := fun d e S => match d, e with
  | .d (.int i), .d (.int j) => if divOk j = true then some (.d (.int (i / j)), S) else none
  | _, _ => none
def pMod : P2 := fun d e S => match d, e with
  | .d (.int i), .d (.int j) => if 0 < j then some (.d (.int (i % j)), S) else none
  | _, _ => none
def pPow : P2 := fun d e S => match d, e with
  | .d (.int i), .d (.int j) => if decide (0 ≤ j ∧ j ≤ 1000000 ∧ i.natAbs < 2 ^ 64) = true then some (.d (.int (i ^ j.toNat)), S) else none
  | _, _ => none
def pNeg : P1 := fun d S => match d with
  | .d (.int i) => some (.d (.int (-i)), S)
  | _ => none
theorem rvs_rep {G : Gs} {A : Al} {H : Hp} {ts : List Dt} {vs : List V} (r : RVs G A H ts vs) : ∀ k : Nat, RVs G A H (List.replicate k ts).flatten (List.replicate k vs).flatten
  | 0 => (rfl : ([] : List V) = [])
  | k + 1 => by
    simp only [List.replicate_succ, List.flatten_cons]
    exact r.append (rvs_rep r k)
section
variable {X : Cx} {G : Gs} {W : WX} {k : Nat}
theorem o_add (hK : G.K = X.K) : OpR X (binaryOp .Add) (q2 G pAdd) := by
  refine (op_add.or (op_add_str.or (op_catA.or op_cat))).sm fun x y H Q h => ?_
  obtain ⟨A, S, d, e, rd, re, s, p⟩ := h
  unfold pAdd at p
  split at p
  · exact .inl ⟨_, _, rd, re, Po.now p s _ rfl⟩
  · split at p
    · rename_i hl
      exact .inr (.inl ⟨_, _, rd, re, line_of hl, Po.now p s _ rfl⟩)
    · exact p.elim
  · split at p
    · rename_i hl
      obtain ⟨a, vs, rfl, ha, hv⟩ := rd
      obtain ⟨b, ws, rfl, hb, hw⟩ := re
      refine .inr (.inr (.inl ⟨a, b, vs, ws, rfl, rfl, ?_, ?_, ?_, fun e => ?_, fun ne e => ?_, fun ne ne2 q hq => poT p s (hv.append hw) q hq⟩))
      · rw [← hK]; exact ha.sq
      · rw [← hK]; exact hb.sq
      · rw [← hv.length, ← hw.length]; exact line_of hl
      · subst e
        have z := hv.length
        simp at z
        subst z
        exact Po.now p s (.ref b) ⟨b, ws, rfl, hb, hw⟩
      · subst e
        have z := hw.length
        simp at z
        subst z
        rw [List.append_nil] at p
        exact Po.now p s (.ref a) ⟨a, vs, rfl, ha, hv⟩
    · exact p.elim
  · split at p
    · rename_i hl
      obtain ⟨a, vs, rfl, ha, hv⟩ := rd
      obtain ⟨b, ws, rfl, hb, hw⟩ := re
      refine .inr (.inr (.inr ⟨a, b, vs, ws, rfl, rfl, ha.1, hb.1, ?_, poL p s (hv.append hw)⟩))
      rw [← hv.length, ← hw.length]; exact line_of hl
    · exact p.elim
  · exact p.elim
theorem o_sub : OpR X (binaryOp .Sub) (q2 G pSub) := by
  refine op_sub.sm fun x y H Q h => ?_
  obtain ⟨A, S, d, e, rd, re, s, p⟩ := h
  unfold pSub at p
  split at p
  · exact ⟨_, _, rd, re, Po.now p s _ rfl⟩
  · exact p.elim
theorem o_mul : OpR X (binaryOp .Mult) (q2 G pMul) := by
  refine (op_mul.or (op_mulW.or op_rep)).sm fun x y H Q h => ?_
  obtain ⟨A, S, d, e, rd, re, s, p⟩ := h
  unfold pMul at p
  split at p
  · split at p
    · rename_i hl
      unfold mulOk smallI at hl
      simp only [Bool.or_eq_true, decide_eq_true_eq] at hl
      rcases hl with (hl | hl) | hl
      · exact .inl ⟨_, _, rd, re, .inl hl, Po.now p s _ rfl⟩
      · exact .inl ⟨_, _, rd, re, .inr hl, Po.now p s _ rfl⟩
      · exact .inr (.inl ⟨_, _, rd, re, hl, Po.now p s _ rfl⟩)
    · exact p.elim
  · split at p
    · rename_i hl
      have hl := of_decide_eq_true hl
      obtain ⟨a, vs, rfl, ha, hv⟩ := rd
      refine .inr (.inr ⟨a, _, vs, rfl, re, ha.1, hl.1, hl.2.1, ?_, poL p s (rvs_rep hv _)⟩)
      rw [← hv.length]; exact line_of hl.2.2
    · exact p.elim
  · exact p.elim
theorem o_div : OpR X (binaryOp .FloorDiv) (q2 G pDiv) := by
  refine (op_fdiv.or op_fdivW).sm fun x y H Q h => ?_
  obtain ⟨A, S, d, e, rd, re, s, p⟩ := h
  unfold pDiv at p
  split at p
  · split at p
    · rename_i hl
      unfold divOk at hl
      simp only [Bool.or_eq_true, decide_eq_true_eq] at hl
      rcases hl with hl | hl
      · exact .inl ⟨_, _, rd, re, hl, Po.now p s _ rfl⟩
      · exact .inr ⟨_, _, rd, re, hl, Po.now p s _ rfl⟩
    · exact p.elim
  · exact p.elim
theorem o_mod : OpR X (binaryOp .Mod) (q2 G pMod) := by
  refine op_mod.sm fun x y H Q h => ?_
  obtain ⟨A, S, d, e, rd, re, s, p⟩ := h
  unfold pMod at p
  split at p
  · split at p
    · rename_i hl
      exact ⟨_, _, rd, re, hl, Po.now p s _ rfl⟩
    · exact p.elim
  · exact p.elim
theorem o_pow : OpR X (binaryOp .Pow) (q2 G pPow) := by
  refine op_pow.sm fun x y H Q h => ?_
  obtain ⟨A, S, d, e, rd, re, s, p⟩ := h
  unfold pPow at p
  split at p
  · split at p
    · rename_i hl
      have hl := of_decide_eq_true hl
      exact ⟨_, _, rd, re, hl, Po.now p s _ rfl⟩
    · exact p.elim
  · exact p.elim
theorem u_neg : UnR X (unaryOp .USub) (q1 G pNeg) := by
  refine un_neg.sm fun x H Q h => ?_
  obtain ⟨A, S, d, rd, s, p⟩ := h
  unfold pNeg at p
  split at p
  · exact ⟨_, rd, Po.now p s _ rfl⟩
  · exact p.elim
end

/-! ### deep data -/
mutual
def toPy : Dt → Option PyData
  | .non => some .none
  | .bl b => some (.bool b)
  | .int i => some (.int i)
  | .str s => some (.str s)
  | .tup xs => (toPys xs).map .tuple
  | .lst xs => (toPys xs).map .list
  | .scr xs => (toPys xs).map .list
  | .ltp xs => (toPys xs).map .tuple
  | .dct _ _ => none
  | .obj _ _ => none
  | .exc _ _ => none
  | .ntp _ => none
def toPys : List Dt → Option (List PyData)
  | [] => some []
  | t :: ts => match toPy t, toPys ts with
    | some a, some b => some (a :: b)
    | _, _ => none
end
mutual
theorem RV.dp {G : Gs} {A : Al} {H : Hp} : ∀ {t : Dt} {v : V} {d : PyData}, toPy t = some d → RV G A H t v → Dp G.K H v d
  | .non, v, d, e, r => by
    cases e
    obtain rfl : v = .non := r
    exact .non
  | .bl b, v, d, e, r => by
    cases e
    obtain rfl : v = .bl b := r
    exact .bl b
  | .int i, v, d, e, r => by
    cases e
    obtain rfl : v = .int i := r
    exact .int i
  | .str x, v, d, e, r => by
    cases e
    obtain rfl : v = .str x := r
    exact .str x
  | .tup xs, v, d, e, r => by
    obtain ⟨a, vs, rfl, h, hv⟩ := r
    unfold toPy at e
    cases e1 : toPys xs with
    | none => rw [e1] at e; cases e
    | some ds =>
      rw [e1] at e
      cases e
      exact .tup h.sq (RVs.dp e1 hv)
  | .lst xs, v, d, e, r => by
    obtain ⟨a, vs, rfl, h, hv⟩ := r
    unfold toPy at e
    cases e1 : toPys xs with
    | none => rw [e1] at e; cases e
    | some ds =>
      rw [e1] at e
      cases e
      exact .lst h.sq (RVs.dp e1 hv)
  | .scr xs, v, d, e, r => by
    obtain ⟨a, vs, rfl, h, hv⟩ := r
    unfold toPy at e
    cases e1 : toPys xs with
    | none => rw [e1] at e; cases e
    | some ds =>
      rw [e1] at e
      cases e
      exact .lst h.sq (RVs.dp e1 hv)
  | .ltp xs, v, d, e, r => by
    obtain ⟨a, vs, rfl, h, hv⟩ := r
    unfold toPy at e
    cases e1 : toPys xs with
    | none => rw [e1] at e; cases e
    | some ds =>
      rw [e1] at e
      cases e
      exact .tup (h H) (RVs.dp e1 hv)
  | .dct ks xs, v, d, e, r => by cases e
  | .obj c xs, v, d, e, r => by cases e
  | .exc c xs, v, d, e, r => by cases e
  | .ntp xs, v, d, e, r => by cases e
theorem RVs.dp {G : Gs} {A : Al} {H : Hp} : ∀ {ts : List Dt} {vs : List V} {ds : List PyData}, toPys ts = some ds → RVs G A H ts vs → DpAll G.K H vs ds
  | [], vs, ds, e, r => by
    cases e
    obtain rfl : vs = [] := r
    exact .nil
  | t :: ts, vs, ds, e, r => by
    obtain ⟨v, w, rfl, r1, r2⟩ := r
    unfold toPys at e
    cases e1 : toPy t with
    | none => rw [e1] at e; cases e
    | some a =>
      cases e2 : toPys ts with
      | none => rw [e1, e2] at e; cases e
      | some b =>
        rw [e1, e2] at e
        cases e
        exact .cons (RV.dp e1 r1) (RVs.dp e2 r2)
end
def pyDv (S : Sto) (d : Dv) : Option PyData := match d with
  | .d t => toPy t
  | .loc n => (match S[n]? with
    | some (.lst ds) => ((pures ds).bind toPys).map .list
    | _ => none)
theorem pyDv_dp {G : Gs} {A : Al} {S : Sto} {H : Hp} {d : Dv} {v : V} {y : PyData} (s : StR G A S H) (r : RD G A H d v) (h : pyDv S d = some y) : Dp G.K H v y := by
  cases d with
  | d t => exact RV.dp h r
  | loc n =>
    unfold pyDv at h
    simp only at h
    cases e : S[n]? with
    | none => rw [e] at h; cases h
    | some o =>
      rw [e] at h
      cases o with
      | lst xs =>
        obtain ⟨a, vs, rfl, _, hl, hv⟩ := loc_lst s r e
        simp only at h
        cases e1 : pures xs with
        | none => rw [e1] at h; cases h
        | some ts =>
          rw [e1] at h
          simp only [Option.bind_some] at h
          cases e2 : toPys ts with
          | none => rw [e2] at h; cases h
          | some ds =>
            rw [e2] at h
            cases h
            exact .lst (.inl (.inl hl)) (RVs.dp e2 (pures_rvs e1 hv))
      | _ => cases h
def eqDv (S : Sto) (d e : Dv) : Option Bool := match pyDv S d, pyDv S e with
  | some x, some y => if SeqAt.shaped x = true ∧ SeqAt.shaped y = true then some (PyData.eqv x y) else none
  | _, _ => none
theorem eqDv_to {S : Sto} {d e : Dv} {b : Bool} (h : eqDv S d e = some b) : ∃ x y, pyDv S d = some x ∧ pyDv S e = some y ∧ SeqAt.shaped x = true ∧ SeqAt.shaped y = true ∧ b = PyData.eqv x y := by
  unfold eqDv at h
  split at h
  · rename_i x y e1 e2
    split at h
    · rename_i hs
      cases h
      exact ⟨x, y, e1, e2, hs.1, hs.2, rfl⟩
    · cases h
  · cases h
def pEq : P2 := fun d e S => match eqDv S d e with
  | some b => some (.d (.bl b), S)
  | none => none
def pNe : P2 := fun d e S => match eqDv S d e with
  | some b => some (.d (.bl (!b)), S)
  | none => none
def pCmp (f : Int → Int → Bool) (g : Str → Str → Bool) : P2 := fun d e S => match d, e with
  | .d (.int i), .d (.int j) => some (.d (.bl (f i j)), S)
  | .d (.str i), .d (.str j) => some (.d (.bl (g i j)), S)
  | _, _ => none
def ltS (i j : Str) : Bool := decide (i.cps.toList < j.cps.toList)
def pLt : P2 := pCmp (fun i j => decide (i < j)) ltS
def pGt : P2 := pCmp (fun i j => decide (j < i)) fun i j => ltS j i
def pGe : P2 := pCmp (fun i j => decide (j ≤ i)) fun i j => !ltS i j
section
variable {X : Cx} {G : Gs} {W : WX} {k : Nat}
theorem o_eq (hu : X.A.units + 64 < cLine) (hK : G.K = X.K) : OpR X (compareOp .Eq) (q2 G pEq) := by
  refine (op_eqD hu).sm fun x y H Q h => ?_
  obtain ⟨A, S, d, e, rd, re, s, p⟩ := h
  unfold pEq at p
  split at p
  · rename_i b hb
    obtain ⟨u, v, e1, e2, s1, s2, eb⟩ := eqDv_to hb
    subst eb
    rw [← hK]
    exact ⟨u, v, pyDv_dp s rd e1, pyDv_dp s re e2, s1, s2, Po.now p s _ rfl⟩
  · exact p.elim
theorem o_ne (hu : X.A.units + 64 < cLine) (hK : G.K = X.K) : OpR X (compareOp .NotEq) (q2 G pNe) := by
  refine (op_neD hu).sm fun x y H Q h => ?_
  obtain ⟨A, S, d, e, rd, re, s, p⟩ := h
  unfold pNe at p
  split at p
  · rename_i b hb
    obtain ⟨u, v, e1, e2, s1, s2, eb⟩ := eqDv_to hb
    subst eb
    rw [← hK]
    exact ⟨u, v, pyDv_dp s rd e1, pyDv_dp s re e2, s1, s2, Po.now p s _ rfl⟩
  · exact p.elim
theorem cmp_read {f : Int → Int → Bool} {g : Str → Str → Bool} {x y : V} {H : Hp} {Q : VK} (h : q2 G (pCmp f g) x y H Q) : (∃ i j, x = .int i ∧ y = .int j ∧ Q (.bl (f i j)) H) ∨ ∃ i j, x = .str i ∧ y = .str j ∧ Q (.bl (g i j)) H := by
  obtain ⟨A, S, d, e, rd, re, s, p⟩ := h
  unfold pCmp at p
  split at p
  · exact .inl ⟨_, _, rd, re, Po.now p s _ rfl⟩
  · exact .inr ⟨_, _, rd, re, Po.now p s _ rfl⟩
  · exact p.elim
theorem o_lt : OpR X (compareOp .Lt) (q2 G pLt) := (op_lt.or op_lt_str).sm fun _ _ _ _ h => cmp_read h
theorem o_gt : OpR X (compareOp .Gt) (q2 G pGt) := (op_gt.or op_gt_str).sm fun _ _ _ _ h => cmp_read h
theorem o_ge : OpR X (compareOp .GtE) (q2 G pGe) := (op_ge.or op_ge_str).sm fun _ _ _ _ h => cmp_read h
theorem isN_rd {A : Al} {H : Hp} {t : Dt} {v : V} (r : RV G A H t v) : decide (v = .non) = (match t with | .non => true | _ => false) := by
  cases t with
  | non => obtain rfl : v = .non := r; rfl
  | bl b => obtain rfl : v = .bl b := r; rfl
  | int i => obtain rfl : v = .int i := r; rfl
  | str i => obtain rfl : v = .str i := r; rfl
  | tup xs => obtain ⟨a, vs, rfl, _⟩ := r; rfl
  | lst xs => obtain ⟨a, vs, rfl, _⟩ := r; rfl
  | scr xs => obtain ⟨a, vs, rfl, _⟩ := r; rfl
  | ltp xs => obtain ⟨a, vs, rfl, _⟩ := r; rfl
  | dct ks xs => obtain ⟨a, vs, rfl, _⟩ := r; rfl
  | obj c xs => obtain ⟨a, _, _, _, rfl, _⟩ := r; rfl
  | exc c xs => obtain ⟨a, _, _, _, rfl, _⟩ := r; rfl
  | ntp xs => obtain ⟨a, vs, rfl, _⟩ := r; rfl
end
end Sm
/-! Sm10: in, subscripts, slices, len, list, tuple, int, abs, isinstance, stores, list methods. -/
namespace Sm
open PySem PySem.Spec PyProof.Rows L2

/-! ### is None -/
def isNon : Dt → Bool
  | .non => true
  | _ => false
def pIsN : P2 := fun d e S => match d, e with
  | .d t, .d .non => some (.d (.bl (isNon t)), S)
  | _, _ => none
def pNotN : P2 := fun d e S => match d, e with
  | .d t, .d .non => some (.d (.bl (!isNon t)), S)
  | _, _ => none
/-! ### flat items, keys -/
def flatT : Dt → Bool
  | .non => true
  | .bl _ => true
  | .int _ => true
  | .str _ => true
  | _ => false
def eqF : Dt → Dt → Bool
  | .non, .non => true
  | .bl a, .bl b => a == b
  | .bl a, .int b => (if a then 1 else 0) == b
  | .int a, .bl b => a == (if b then 1 else 0)
  | .int a, .int b => a == b
  | .str a, .str b => a == b
  | _, _ => false
section
variable {G : Gs} {A : Al} {H : Hp}
theorem flat_rv {t : Dt} {v : V} (r : RV G A H t v) (f : flatT t = true) : flatV v = true := by
  cases t with
  | non => obtain rfl : v = .non := r; rfl
  | bl b => obtain rfl : v = .bl b := r; rfl
  | int i => obtain rfl : v = .int i := r; rfl
  | str i => obtain rfl : v = .str i := r; rfl
  | _ => cases f
theorem eqF_rv {t u : Dt} {v w : V} (r : RV G A H t v) (r2 : RV G A H u w) (f : flatT t = true) (f2 : flatT u = true) : eqV v w = eqF t u := by
  cases t with
  | non =>
    obtain rfl : v = .non := r
    cases u with
    | non => obtain rfl : w = .non := r2; rfl
    | bl b => obtain rfl : w = .bl b := r2; rfl
    | int i => obtain rfl : w = .int i := r2; rfl
    | str i => obtain rfl : w = .str i := r2; rfl
    | _ => cases f2
  | bl b =>
    obtain rfl : v = .bl b := r
    cases u with
    | non => obtain rfl : w = .non := r2; rfl
    | bl b => obtain rfl : w = .bl b := r2; rfl
    | int i => obtain rfl : w = .int i := r2; rfl
    | str i => obtain rfl : w = .str i := r2; rfl
    | _ => cases f2
  | int i =>
    obtain rfl : v = .int i := r
    cases u with
    | non => obtain rfl : w = .non := r2; rfl
    | bl b => obtain rfl : w = .bl b := r2; rfl
    | int i => obtain rfl : w = .int i := r2; rfl
    | str i => obtain rfl : w = .str i := r2; rfl
    | _ => cases f2
  | str i =>
    obtain rfl : v = .str i := r
    cases u with
    | non => obtain rfl : w = .non := r2; rfl
    | bl b => obtain rfl : w = .bl b := r2; rfl
    | int i => obtain rfl : w = .int i := r2; rfl
    | str i => obtain rfl : w = .str i := r2; rfl
    | _ => cases f2
  | _ => cases f
theorem all_flat : ∀ {ts : List Dt} {vs : List V}, RVs G A H ts vs → ts.all flatT = true → vs.all flatV = true
  | [], vs, r, _ => by
    obtain rfl : vs = [] := r
    rfl
  | t :: ts, vs, r, f => by
    obtain ⟨v, w, rfl, r1, r2⟩ := r
    rw [List.all_cons, Bool.and_eq_true] at f
    rw [List.all_cons, Bool.and_eq_true]
    exact ⟨flat_rv r1 f.1, all_flat r2 f.2⟩
theorem any_flat {u : Dt} {w : V} (ru : RV G A H u w) (fu : flatT u = true) : ∀ {ts : List Dt} {vs : List V}, RVs G A H ts vs → ts.all flatT = true → inV w vs = ts.any fun t => eqF t u
  | [], vs, r, _ => by
    obtain rfl : vs = [] := r
    rfl
  | t :: ts, vs, r, f => by
    obtain ⟨v, w', rfl, r1, r2⟩ := r
    rw [List.all_cons, Bool.and_eq_true] at f
    have ih := any_flat ru fu r2 f.2
    unfold inV at ih ⊢
    rw [List.any_cons, List.any_cons, eqF_rv r1 ru f.1 fu, ih]
end
/-- the keys of a dict (a box or not) -/
def dctAt (S : Sto) (d : Dv) : Option (List Key × List Dv) := match d with
  | .d (.dct ks xs) => some (ks, xs.map .d)
  | .loc n => (match S[n]? with
    | some (.dct ks xs) => some (ks, xs)
    | _ => none)
  | _ => none
theorem dctAt_rd {G : Gs} {A : Al} {S : Sto} {H : Hp} {d : Dv} {v : V} {ks : List Key} {xs : List Dv} (s : StR G A S H) (r : RD G A H d v) (h : dctAt S d = some (ks, xs)) : ∃ a kvs, v = .ref a ∧ Rd H a (.dK kvs) ∧ kvs.map (·.1) = ks ∧ RDs G A H xs (kvs.map (·.2)) := by
  cases d with
  | d t =>
    cases t with
    | dct ks' xs' =>
      obtain ⟨a, kvs, e, _, hl, ek, hv⟩ := r
      cases h
      exact ⟨a, kvs, e, hl, ek, hv.rds⟩
    | _ => cases h
  | loc n =>
    unfold dctAt at h
    simp only at h
    cases e : S[n]? with
    | none => rw [e] at h; cases h
    | some o =>
      rw [e] at h
      cases o with
      | dct ks' xs' =>
        cases h
        obtain ⟨a, kvs, ev, _, hl, ek, hv⟩ := loc_dct s r e
        exact ⟨a, kvs, ev, .inl hl, ek, hv⟩
      | _ => cases h
def inSeq (x : Dv) (ds : List Dv) : Option Bool := match x with
  | .d u => if flatT u = true then (match pures ds with
    | some ts => if ts.all flatT = true then some (ts.any fun t => eqF t u) else none
    | none => none) else none
  | _ => none
def inDv (S : Sto) (x e : Dv) : Option Bool := match dctAt S e with
  | some (ks, _) => (kOf x).map (hasK ks)
  | none => (match seqAt S e with
    | some ds => inSeq x ds
    | none => none)
/-- .. where items are data of any depth -/
def inDat (S : Sto) (x e : Dv) : Option Bool := match pyDv S x, pyDv S e with
  | some d, some (.list ds) => if SeqAt.shaped d = true ∧ SeqAt.shaped (.list ds) = true then some (ds.any fun z => PyData.eqv z d) else none
  | some d, some (.tuple ds) => if SeqAt.shaped d = true ∧ SeqAt.shaped (.tuple ds) = true then some (ds.any fun z => PyData.eqv z d) else none
  | _, _ => none
def pIn : P2 := fun d e S => match inDv S d e with
  | some b => some (.d (.bl b), S)
  | none => (match inDat S d e with
    | some b => some (.d (.bl b), S)
    | none => none)
def pNotIn : P2 := fun d e S => match inDv S d e with
  | some b => some (.d (.bl (!b)), S)
  | none => (match inDat S d e with
    | some b => some (.d (.bl (!b)), S)
    | none => none)
theorem valV_has {kvs : List (Key × V)} {k : Key} : (valV kvs k).isSome = hasK (kvs.map (·.1)) k := by
  induction kvs with
  | nil => rfl
  | cons p r ih =>
    unfold hasK at ih ⊢
    rw [List.map_cons, List.any_cons]
    by_cases e : p.1 = k
    · rw [valV_pos e]
      simp [e]
    · have : valV (p :: r) k = valV r k := by
        unfold valV
        rw [List.find?_cons_of_neg (by simpa using e)]
      rw [this, ih]
      simp [e]
section
variable {X : Cx} {G : Gs} {W : WX} {k : Nat}
theorem op_inDct (hu : X.A.units + 1 < cLine) : OpR X (compareOp .In) (fun x y H Q => ∃ a o, y = .ref a ∧ DGet H a x o ∧ Q (.bl o.isSome) H) := by
  intro pins s σ H x y v u Q I rx ry h
  obtain ⟨a, o, rfl, g, q⟩ := h
  obtain rfl : u = Value.ref a := ry
  exact d_in hu I g rx fun s3 I3 => ⟨.bl o.isSome, H, I3, rfl, q⟩
theorem op_notInDct (hu : X.A.units + 1 < cLine) : OpR X (compareOp .NotIn) (fun x y H Q => ∃ a o, y = .ref a ∧ DGet H a x o ∧ Q (.bl (!o.isSome)) H) := by
  intro pins s σ H x y v u Q I rx ry h
  obtain ⟨a, o, rfl, g, q⟩ := h
  obtain rfl : u = Value.ref a := ry
  exact d_notIn hu I g rx fun s3 I3 => ⟨.bl (!o.isSome), H, I3, rfl, q⟩
theorem in_read {x y : V} {H : Hp} {A : Al} {S : Sto} {d e : Dv} {b : Bool} (hK : G.K = X.K) (rd : RD G A H d x) (re : RD G A H e y) (s : StR G A S H) (h : inDv S d e = some b) :
    (∃ p xs, y = .ref p ∧ (SqL X.K H p xs ∨ SqT X.K H p xs) ∧ flatV x = true ∧ xs.all flatV = true ∧ inV x xs = b) ∨ ∃ a o, y = .ref a ∧ DGet H a x o ∧ o.isSome = b := by
  unfold inDv at h
  split at h
  · rename_i ks xs e1
    obtain ⟨a, kvs, ev, hl, ek, hv⟩ := dctAt_rd s re e1
    cases ek2 : kOf d with
    | none => rw [ek2] at h; cases h
    | some j =>
      rw [ek2] at h
      cases h
      have ex := kOf_rd ek2 rd
      exact .inr ⟨a, valV kvs j, ev, .inl ⟨kvs, j, hl, ex, rfl⟩, by rw [valV_has, ek]⟩
  · split at h
    · rename_i ds e2
      obtain ⟨a, vs, ev, hs, hv⟩ := seqAt_rd s re e2
      unfold inSeq at h
      split at h
      · rename_i u
        split at h
        · rename_i fu
          split at h
          · rename_i ts e3
            split at h
            · rename_i ft
              cases h
              have rv := pures_rvs e3 hv
              rw [hK] at hs
              exact .inl ⟨a, vs, ev, hs, flat_rv rd fu, all_flat rv ft, any_flat rd fu rv ft⟩
            · cases h
          · cases h
        · cases h
      · cases h
    · cases h
theorem _root_.L2.Room.units66 {k : Nat} {A : Around} (r : Room k A) : A.units + 66 < cLine := by have := r.un; omega
def rInT (K : PySem.W.Frag) : R2 := fun x y H Q => ∃ d ds, Dp K H x d ∧ Dp K H y (.tuple ds) ∧ SeqAt.shaped d = true ∧ SeqAt.shaped (.tuple ds) = true ∧ Q (.bl (ds.any fun z => PyData.eqv z d)) H
def rNotInT (K : PySem.W.Frag) : R2 := fun x y H Q => ∃ d ds, Dp K H x d ∧ Dp K H y (.tuple ds) ∧ SeqAt.shaped d = true ∧ SeqAt.shaped (.tuple ds) = true ∧ Q (.bl (!ds.any fun z => PyData.eqv z d)) H
theorem op_inT (hu : X.A.units + 65 < cLine) : OpR X (compareOp .In) (rInT X.K) := by
  intro pins s σ H x y v u Q I rx ry h
  obtain ⟨d, ds, hd, he, sd, se, q⟩ := h
  obtain ⟨as, r1⟩ := Dp.reads I d x v hd rx
  obtain ⟨bs, r2⟩ := Dp.reads I (.tuple ds) y u he ry
  exact SeqAt.in_tuple_reads r2 r1 (SeqAt.canLay_of_shaped se) (SeqAt.canLay_of_shaped sd) (room_in_shaped sd hu) ⟨.bl _, H, I, rfl, q⟩
theorem op_notInT (hu : X.A.units + 65 < cLine) : OpR X (compareOp .NotIn) (rNotInT X.K) := by
  intro pins s σ H x y v u Q I rx ry h
  obtain ⟨d, ds, hd, he, sd, se, q⟩ := h
  obtain ⟨as, r1⟩ := Dp.reads I d x v hd rx
  obtain ⟨bs, r2⟩ := Dp.reads I (.tuple ds) y u he ry
  exact SeqAt.notIn_tuple_reads r2 r1 (SeqAt.canLay_of_shaped se) (SeqAt.canLay_of_shaped sd) (room_in_shaped sd hu) ⟨.bl _, H, I, rfl, q⟩
theorem inDat_read {x y : V} {H : Hp} {A : Al} {S : Sto} {d e : Dv} {b : Bool} (hK : G.K = X.K) (rd : RD G A H d x) (re : RD G A H e y) (s : StR G A S H) (h : inDat S d e = some b) :
    ∃ z ds, Dp X.K H x z ∧ SeqAt.shaped z = true ∧ (ds.any fun u => PyData.eqv u z) = b ∧ ((Dp X.K H y (.list ds) ∧ SeqAt.shaped (.list ds) = true) ∨ (Dp X.K H y (.tuple ds) ∧ SeqAt.shaped (.tuple ds) = true)) := by
  unfold inDat at h
  split at h
  · rename_i z ds e1 e2
    split at h
    · rename_i hs
      cases h
      rw [← hK]
      exact ⟨z, ds, pyDv_dp s rd e1, hs.1, rfl, .inl ⟨pyDv_dp s re e2, hs.2⟩⟩
    · cases h
  · rename_i z ds e1 e2
    split at h
    · rename_i hs
      cases h
      rw [← hK]
      exact ⟨z, ds, pyDv_dp s rd e1, hs.1, rfl, .inr ⟨pyDv_dp s re e2, hs.2⟩⟩
    · cases h
  · cases h
theorem o_in (hu : X.A.units + 66 < cLine) (hK : G.K = X.K) : OpR X (compareOp .In) (q2 G pIn) := by
  refine ((op_in_seq.or (op_inDct (by omega))).or ((op_inD (by omega)).or (op_inT (by omega)))).sm fun x y H Q h => ?_
  obtain ⟨A, S, d, e, rd, re, s, p⟩ := h
  unfold pIn at p
  split at p
  · rename_i b hb
    have q := Po.now p s _ rfl
    rcases in_read hK rd re s hb with ⟨a, xs, e1, e2, e3, e4, e5⟩ | ⟨a, o, e1, e2, e3⟩
    · exact .inl (.inl ⟨a, xs, e1, e2, e3, e4, by simp only [Bool.false_eq_true, if_false]; rw [e5]; exact q⟩)
    · exact .inl (.inr ⟨a, o, e1, e2, by rw [e3]; exact q⟩)
  · split at p
    · rename_i b hb
      have q := Po.now p s _ rfl
      obtain ⟨z, ds, h1, h2, h3, h4 | h4⟩ := inDat_read hK rd re s hb
      · exact .inr (.inl ⟨z, ds, h1, h4.1, h2, h4.2, by rw [h3]; exact q⟩)
      · exact .inr (.inr ⟨z, ds, h1, h4.1, h2, h4.2, by rw [h3]; exact q⟩)
    · exact p.elim
theorem o_notIn (hu : X.A.units + 66 < cLine) (hK : G.K = X.K) : OpR X (compareOp .NotIn) (q2 G pNotIn) := by
  refine ((op_notIn_seq.or (op_notInDct (by omega))).or ((op_notInD (by omega)).or (op_notInT (by omega)))).sm fun x y H Q h => ?_
  obtain ⟨A, S, d, e, rd, re, s, p⟩ := h
  unfold pNotIn at p
  split at p
  · rename_i b hb
    have q := Po.now p s _ rfl
    rcases in_read hK rd re s hb with ⟨a, xs, e1, e2, e3, e4, e5⟩ | ⟨a, o, e1, e2, e3⟩
    · exact .inl (.inl ⟨a, xs, e1, e2, e3, e4, by simp only [if_true]; rw [e5]; exact q⟩)
    · exact .inl (.inr ⟨a, o, e1, e2, by rw [e3]; exact q⟩)
  · split at p
    · rename_i b hb
      have q := Po.now p s _ rfl
      obtain ⟨z, ds, h1, h2, h3, h4 | h4⟩ := inDat_read hK rd re s hb
      · exact .inr (.inl ⟨z, ds, h1, h4.1, h2, h4.2, by rw [h3]; exact q⟩)
      · exact .inr (.inr ⟨z, ds, h1, h4.1, h2, h4.2, by rw [h3]; exact q⟩)
    · exact p.elim
theorem o_is : OpR X (compareOp .Is) (q2 G pIsN) := by
  refine op_isN.sm fun x y H Q h => ?_
  obtain ⟨A, S, d, e, rd, re, s, p⟩ := h
  unfold pIsN at p
  split at p
  · rename_i t
    refine ⟨re, ?_⟩
    rw [isN_rd rd]
    exact Po.now p s _ (by cases t <;> rfl)
  · exact p.elim
theorem o_isNot : OpR X (compareOp .IsNot) (q2 G pNotN) := by
  refine op_notN.sm fun x y H Q h => ?_
  obtain ⟨A, S, d, e, rd, re, s, p⟩ := h
  unfold pNotN at p
  split at p
  · rename_i t
    refine ⟨re, ?_⟩
    rw [isN_rd rd]
    exact Po.now p s _ (by cases t <;> rfl)
  · exact p.elim
end

/-! ### subscripts -/
def pIx : P2 := fun d e S => match dctAt S d with
  | some (ks, xs) => (match kOf e with
    | some j => (match dlook ks xs j with
      | some x => some (x, S)
      | none => none)
    | none => none)
  | none => (match e with
    | .d (.int i) => (match d with
      | .d (.str z) => if z.length ≤ 16777216 then (match atI z.cps.toList i with
        | some c => some (.d (.str ⟨#[c]⟩), S)
        | none => none) else none
      | d => (match seqAt S d with
        | some ds => (match atI ds i with
          | some x => some (x, S)
          | none => none)
        | none => none))
    | _ => none)
theorem atI_rd {G : Gs} {A : Al} {H : Hp} {ds : List Dv} {vs : List V} {i : Int} {x : Dv} (r : RDs G A H ds vs) (h : atI ds i = some x) : ∃ v, atI vs i = some v ∧ RD G A H x v := by
  unfold atI at h ⊢
  rw [← Paired.length r]
  cases e : ixN ds.length i with
  | none => rw [e] at h; cases h
  | some j =>
    rw [e] at h
    exact r.get h
section
variable {X : Cx} {G : Gs} {W : WX} {k : Nat}
theorem ix_dct (hu : X.A.units + 1 < cLine) : IxR X (fun x y H Q => ∃ a v, x = .ref a ∧ DGet H a y (some v) ∧ Q v H) := by
  intro value slice pins s σ H x y o i Q I rx ry h hs
  obtain ⟨a, v, rfl, g, q⟩ := h
  obtain rfl : o = Value.ref a := rx
  have hT := dict_typeIs I g
  have h2 : wpAny (model X.prog X.w) X.A (getItem (.ref a) i) (EP X pins σ Q) X.xe s := d_getItem hu I g ry fun w' s3 I3 rw' => ⟨v, H, I3, rw', q⟩
  unfold subscriptTail
  refine wpAny_bind ?_
  rw [getitemInPython_of_ne hT.not_modules]
  refine wpAny_bind (wpAny_specialOf hT PySem.F.slot_dict_getitem.lookup ?_)
  have h3 : wpAny (model X.prog X.w) X.A (subscripted slice false (.ref a) i) (fun r s' => wpAny (model X.prog X.w) X.A (letTemporaryGo value (.ref a) r >>= fun _ => pure r) (EP X pins σ Q) X.xe s') X.xe s := by
    rw [hs]
    exact wpAny_operating (thn h2 fun r s' z => wpAny_bind (wpAny_letTemporaryGo (wpAny_pure z)))
  first
    | exact wpAny_pure (wpAny_bind h3)
    | exact wpAny_bind (wpAny_pure (wpAny_bind h3))
    | exact wpAny_bind h3
theorem i_ix (hu : X.A.units + 64 < cLine) (hK : G.K = X.K) : IxR X (q2 G pIx) := by
  refine (ix_seq.or (ix_dct (by omega))).sm fun x y H Q h => ?_
  obtain ⟨A, S, d, e, rd, re, s, p⟩ := h
  unfold pIx at p
  split at p
  · rename_i ks xs e1
    obtain ⟨a, kvs, ev, hl, ek, hv⟩ := dctAt_rd s rd e1
    split at p
    · rename_i j ej
      split at p
      · rename_i w ew
        have ex := kOf_rd ej re
        rw [← ek] at ew
        obtain ⟨v, e2, rv⟩ := (dlook_val (j := j) hv).1 w ew
        exact .inr ⟨a, v, ev, .inl ⟨kvs, j, hl, ex, e2.symm⟩, Po.now p s v rv⟩
      · exact p.elim
    · exact p.elim
  · split at p
    · rename_i i
      split at p
      · rename_i z
        split at p
        · rename_i hl
          split at p
          · rename_i c ec
            exact .inl (.inr (.inr ⟨_, i, c, rd, re, line_of hl, ec, Po.now p s _ rfl⟩))
          · exact p.elim
        · exact p.elim
      · split at p
        · rename_i ds e1
          split at p
          · rename_i w ew
            obtain ⟨a, vs, ev, hs, hv⟩ := seqAt_rd s rd e1
            obtain ⟨v, e2, rv⟩ := atI_rd hv ew
            rw [hK] at hs
            rcases hs with hs | hs
            · exact .inl (.inl ⟨a, vs, i, v, ev, re, hs, e2, Po.now p s v rv⟩)
            · exact .inl (.inr (.inl ⟨a, vs, i, v, ev, re, hs, e2, Po.now p s v rv⟩))
          · exact p.elim
        · exact p.elim
    · exact p.elim
end

/-! ### slices -/
def tMO (G : Gs) (W : WX) (m : M (Option Int)) : TO := fun σ H Q => ∃ A ρ S, EnvR G A H ρ σ ∧ StR G A S H ∧ Po G (Wa W σ) A H (m ρ S) fun _ H' o => Q o H'
def oNo : M (Option Int) := fun _ S => .ok none S
def oPt (m : M Dv) : M (Option Int) := fun ρ S => (m ρ S).bind fun d S1 => match d with
  | .d (.int i) => .ok (some i) S1
  | _ => .bad
def cutL {α : Type} (xs : List α) (lo hi : Option Int) : List α := (xs.drop (HT.sIx xs.length 0 lo)).take (HT.sIx xs.length xs.length hi - HT.sIx xs.length 0 lo)
abbrev PSl := Option Int → Option Int → P1
def pSl : PSl := fun lo hi d S => match d with
  | .d (.lst xs) => some (.d (.lst (cutL xs lo hi)), S)
  | .d (.scr xs) => some (.d (.lst (cutL xs lo hi)), S)
  | .d (.tup xs) => some (.d (.tup (cutL xs lo hi)), S)
  | .d (.str z) => if z.length ≤ 16777216 then some (.d (.str (cutS z lo hi)), S) else none
  | .loc n => (match S[n]? with
    | some (.lst ds) => (match pures ds with
      | some xs => some (.d (.lst (cutL xs lo hi)), S)
      | none => none)
    | _ => none)
  | _ => none
def mSl (p : PSl) (m : M Dv) (l h : M (Option Int)) : M Dv := fun ρ S => (m ρ S).bind fun d S1 => (l ρ S1).bind fun lo S2 => (h ρ S2).bind fun hi S3 => lift (p lo hi d S3)
def qSl (G : Gs) (p : PSl) : V → Option Int → Option Int → Hp → VK → Prop := fun x lo hi H Q => ∃ A S d, RD G A H d x ∧ StR G A S H ∧ Po G Ez A H (lift (p lo hi d S)) (kD G Q)
theorem cut_rvs {G : Gs} {A : Al} {H : Hp} {ts : List Dt} {vs : List V} {lo hi : Option Int} (r : RVs G A H ts vs) : RVs G A H (cutL ts lo hi) (cutV vs lo hi) := by
  unfold cutL cutV
  rw [← r.length]
  exact (r.drop _).take _
theorem cut_all {α : Type} {xs : List α} {lo hi : Option Int} (h : HT.sIx xs.length 0 lo = 0 ∧ HT.sIx xs.length xs.length hi = xs.length) : cutL xs lo hi = xs := by
  unfold cutL
  rw [h.1, h.2]
  simp
section
variable {X : Cx} {G : Gs} {W : WX} {k : Nat} {e : Expr} {m : M Dv} {lo hi : Option Expr} {ml mh : M (Option Int)} {pos p2 : Pos} {p : PSl}
theorem o_no : PO X none (tMO G W oNo) := ⟨fun pins s σ H Q I h => by
  obtain ⟨A, ρ, S, he, hs, p⟩ := h
  exact po_none.run pins s σ H Q I (Po.now p hs)⟩
theorem o_pt (h : PE X e (tM G W m)) : PO X (some e) (tMO G W (oPt m)) := ⟨fun pins s σ H Q I q => by
  obtain ⟨A, ρ, S, he, hs, p⟩ := q
  refine (po_some h).run pins s σ H Q I ⟨A, ρ, S, he, hs, Po.step p fun d S1 A1 H1 x1 s1 p1 v rv => ?_⟩
  split at p1
  · exact ⟨_, rv, Po.now p1 s1⟩
  · exact p1.elim⟩
theorem _root_.L2.SlR.sm {X : Cx} {r r' : V → Option Int → Option Int → Hp → VK → Prop} (h : SlR X r) (f : ∀ x lo hi H Q, r' x lo hi H Q → r x lo hi H Q) : SlR X r' :=
  fun pins s σ H x v vl vu lo hi sl Q I rx a b c q => h pins s σ H x v vl vu lo hi sl Q I rx a b c (f x lo hi H Q q)
theorem e_sl (hr : SlR X (qSl G p)) (he : PE X e (tM G W m)) (hl : PO X lo (tMO G W ml)) (hh : PO X hi (tMO G W mh)) : PE X (.Subscript e (.Slice lo hi none p2) pos) (tM G W (mSl p m ml mh)) := by
  refine (pe_slice hr he hl hh).sm fun σ H Q h => ?_
  obtain ⟨A, ρ, S, he, hs, p0⟩ := h
  refine ⟨A, ρ, S, he, hs, Po.step p0 fun d S1 A1 H1 x1 s1 p1 v rv => ?_⟩
  refine ⟨A1, ρ, S1, he.kp x1.kp, s1, Po.step p1 fun l S2 A2 H2 x2 s2 p2 => ?_⟩
  refine ⟨A2, ρ, S2, (he.kp x1.kp).kp x2.kp, s2, Po.step p2 fun h S3 A3 H3 x3 s3 p3 => ?_⟩
  exact ⟨A3, S3, d, (rv.kp x2.kp).kp x3.kp, s3, Po.lift p3⟩
theorem sl_any (hK : G.K = X.K) : SlR X (qSl G pSl) := by
  refine (sl_list.or (sl_tupA.or sl_str)).sm fun x lo hi H Q h => ?_
  obtain ⟨A, S, d, rd, s, p⟩ := h
  unfold pSl at p
  split at p
  · obtain ⟨a, vs, rfl, ha, hv⟩ := rd
    refine .inl ⟨a, vs, rfl, ?_, poL p s (cut_rvs hv)⟩
    rw [← hK]; exact ha.sq
  · obtain ⟨a, vs, rfl, ha, hv⟩ := rd
    refine .inl ⟨a, vs, rfl, ?_, poL p s (cut_rvs hv)⟩
    rw [← hK]; exact ha.sq
  · obtain ⟨a, vs, rfl, ha, hv⟩ := rd
    refine .inr (.inl ⟨a, vs, rfl, ?_, fun hw => ?_, fun _ => poT p s (cut_rvs hv)⟩)
    · rw [← hK]; exact ha.sq
    · rw [← hv.length] at hw
      rw [cut_all hw] at p
      exact Po.now p s _ ⟨a, vs, rfl, ha, hv⟩
  · split at p
    · rename_i hl
      exact .inr (.inr ⟨_, rd, line_of hl, Po.now p s _ rfl⟩)
    · exact p.elim
  · rename_i n
    split at p
    · rename_i ds e1
      split at p
      · rename_i xs e2
        obtain ⟨a, vs, rfl, _, hl, hv⟩ := loc_lst s rd e1
        exact .inl ⟨a, vs, rfl, .inl (.inl hl), poL p s (cut_rvs (pures_rvs e2 hv))⟩
      · exact p.elim
    · exact p.elim
  · exact p.elim
end
end Sm
/-! Sm11: the builtins, stores, list methods. -/
namespace Sm
open PySem PySem.Spec PyProof.Rows L2
section
variable {G : Gs} {A : Al} {H : Hp}
theorem RDs.one {d : Dv} {vs : List V} (r : RDs G A H [d] vs) : ∃ v, vs = [v] ∧ RD G A H d v := by
  cases r with
  | cons h t =>
    cases t
    exact ⟨_, rfl, h⟩
theorem RDs.two {d e : Dv} {vs : List V} (r : RDs G A H [d, e] vs) : ∃ v w, vs = [v, w] ∧ RD G A H d v ∧ RD G A H e w := by
  cases r with
  | cons h t =>
    obtain ⟨w, rfl, h2⟩ := RDs.one t
    exact ⟨_, _, rfl, h, h2⟩
theorem keys_rvs : ∀ {kvs : List (Key × V)}, RVs G A H ((kvs.map (·.1)).map kT) (kvs.map fun kv => kV kv.1)
  | [] => (rfl : ([] : List V) = [])
  | kv :: r => ⟨_, _, rfl, kT_rv kv.1, keys_rvs⟩
end
/-! ### len, list, tuple -/
def pLen : PN := fun ds S => match ds with
  | [.d (.str z)] => if z.length ≤ 16777216 then some (.d (.int (z.length : Nat)), S) else none
  | [d] => (match dctAt S d with
    | some (ks, _) => some (.d (.int (ks.length : Nat)), S)
    | none => (match seqAt S d with
      | some xs => some (.d (.int (xs.length : Nat)), S)
      | none => none))
  | _ => none
/-- what list(..), tuple(..) take: the items, by data -/
def itemsOf (S : Sto) (d : Dv) : Option (List Dt) := match dctAt S d with
  | some (ks, _) => some (ks.map kT)
  | none => (match seqAt S d with
    | some xs => pures xs
    | none => none)
def pList : PN := fun ds S => match ds with
  | [d] => (match itemsOf S d with
    | some ts => some (.d (.lst ts), S)
    | none => none)
  | _ => none
def pListB : PN := fun ds S => match ds with
  | [d] => (match itemsOf S d with
    | some ts => some (.loc S.length, S ++ [.lst (ts.map .d)])
    | none => none)
  | _ => none
def pInt : PN := fun ds S => match ds with
  | [.d (.int i)] => some (.d (.int i), S)
  | [.d (.bl b)] => some (.d (.int (if b then 1 else 0)), S)
  | _ => none
def pAbs : PN := fun ds S => match ds with
  | [.d (.int i)] => some (.d (.int (if i < 0 then -i else i)), S)
  | _ => none
def blsOf : List Dt → Option (List Bool)
  | [] => some []
  | .bl b :: r => (blsOf r).map (b :: ·)
  | _ => none
def intsOf : List Dt → Option (List Int)
  | [] => some []
  | .int b :: r => (intsOf r).map (b :: ·)
  | _ => none
/-- a list by data -/
def lstT (S : Sto) (d : Dv) : Option (List Dt) := match d with
  | .d (.scr xs) => some xs
  | d => (lstAt S d).bind pures
def pTuple : PN := fun ds S => match ds with
  | [.d (.tup ts)] => some (.d (.tup ts), S)
  | [d] => (match dctAt S d with
    | some (ks, _) => some (.d (.tup (ks.map kT)), S)
    | none => (match lstT S d with
      | some ts => some (.d (.tup ts), S)
      | none => none))
  | _ => none
def pAll : PN := fun ds S => match ds with
  | [d] => (match (lstT S d).bind blsOf with
    | some bs => some (.d (.bl (bs.all id)), S)
    | none => none)
  | _ => none
def pAny : PN := fun ds S => match ds with
  | [d] => (match (lstT S d).bind blsOf with
    | some bs => some (.d (.bl (bs.any id)), S)
    | none => none)
  | _ => none
def pSum : PN := fun ds S => match ds with
  | [d] => (match (lstT S d).bind intsOf with
    | some bs => some (.d (.int bs.sum), S)
    | none => none)
  | _ => none
theorem lstT_rd {G : Gs} {A : Al} {S : Sto} {H : Hp} {d : Dv} {v : V} {ts : List Dt} (s : StR G A S H) (r : RD G A H d v) (h : lstT S d = some ts) : ∃ a vs, v = .ref a ∧ SqL G.K H a vs ∧ RVs G A H ts vs := by
  unfold lstT at h
  split at h
  · cases h
    obtain ⟨a, vs, rfl, ha, hv⟩ := r
    exact ⟨a, vs, rfl, ha.sq, hv⟩
  · cases e : lstAt S d with
    | none => rw [e] at h; cases h
    | some ds =>
      rw [e] at h
      obtain ⟨a, vs, rfl, hl, hv⟩ := lstAt_rd s r e
      exact ⟨a, vs, rfl, .inl (.inl hl), pures_rvs h hv⟩
theorem bls_rv {G : Gs} {A : Al} {H : Hp} : ∀ {ts : List Dt} {bs : List Bool} {vs : List V}, blsOf ts = some bs → RVs G A H ts vs → vs = bs.map V.bl
  | [], bs, vs, e, r => by
    cases e
    exact r
  | t :: ts, bs, vs, e, r => by
    obtain ⟨v, w, rfl, r1, r2⟩ := r
    cases t with
    | bl b =>
      unfold blsOf at e
      cases e1 : blsOf ts with
      | none => rw [e1] at e; cases e
      | some cs =>
        rw [e1] at e
        cases e
        obtain rfl : v = .bl b := r1
        rw [bls_rv e1 r2]
        rfl
    | _ => cases e
theorem ints_rv {G : Gs} {A : Al} {H : Hp} : ∀ {ts : List Dt} {bs : List Int} {vs : List V}, intsOf ts = some bs → RVs G A H ts vs → vs = bs.map V.int
  | [], bs, vs, e, r => by
    cases e
    exact r
  | t :: ts, bs, vs, e, r => by
    obtain ⟨v, w, rfl, r1, r2⟩ := r
    cases t with
    | int b =>
      unfold intsOf at e
      cases e1 : intsOf ts with
      | none => rw [e1] at e; cases e
      | some cs =>
        rw [e1] at e
        cases e
        obtain rfl : v = .int b := r1
        rw [ints_rv e1 r2]
        rfl
    | _ => cases e
/-- tuple(d), d a dict: its keys -/
theorem collect_src {prog : Program} {w : World} {A : Around} {E : Value → Shared → Prop} {s : Shared} {T : String} {r d : Addr} {n : Nat} {P : Nat → Value → Prop} {OK : Heap → Prop} {Q : List Value → Shared → Prop}
    (K : PySem.W.KdlSrc prog w T r d n P OK) (hh : A.handled = none) (hok : OK s.heap) (hn : n ≤ sizeLine)
    (hQ : ∀ (h' : Heap) (tk : Nat) (acc : Array Value), (∀ b o, s.heap.get? b = some o → h'.get? b = some o) → ItemsOf P acc n → Q acc.toList { s with heap := h', toks := tk }) : wpAny (model prog w) A (collect (.ref r)) Q E s := by
  unfold collect
  refine wpAny_bind (wpAny_runValue (codeAny_builtin F.entry_proto_collect ?_))
  rw [Around.under_plainId F.plain_proto_collect _]
  show wpAny _ A.in1 (newList [] >>= fun z => again (.builtin "list.__iadd__" ⟨[z, .ref r], []⟩)) _ _ s
  refine wpAny_bind (wpAny_newObj_type ?_)
  refine wpAny_pure ⟨plainId_quiet F.plain_list_iadd _, codeAny_builtin F.entry_list_iadd ?_⟩
  rw [Around.under_plainId F.plain_list_iadd _]
  have hS : (s.heap.push { cls := .type "list", data := .seq ([] : List Value).toArray }).get? s.heap.objs.size = some { cls := .type "list", data := .seq #[] 0 } := Heap.get?_push_size _ rfl
  have hlt := K.there _ hok
  refine wpAny_mono (PySem.W.kdl_extend (A := A) (R := fun z s' => z = .ok (.ret (.ref s.heap.objs.size)) ∧ wpAny (model prog w) A (load s.heap.objs.size >>= fun o => match o.data with
      | Data.seq xs _ => pure xs.toList
      | _ => unsupported "internal:collect") Q E s') (s := { s with heap := s.heap.push { cls := .type "list", data := .seq ([] : List Value).toArray } }) K hh (K.keep _ _ hok fun b _ o e => Heap.get?_push_of_some _ e) s.heap.objs.size (Nat.ne_of_gt hlt.1) (Nat.ne_of_gt hlt.2) _ 0 hS (fun h' tk acc c k1 e1 hi => ?_) hn) (fun fin s' h => ?_) fun e s' h => ?_
  · refine ⟨rfl, wpAny_bind (wpAny_load e1 ?_)⟩
    exact wpAny_pure (hQ h' tk acc (fun b o e => k1 b o (Nat.ne_of_lt (Heap.lt_size e)) (Heap.get?_push_of_some _ e)) hi)
  · cases fin with
    | done f =>
      obtain ⟨e, h⟩ := h
      cases e
      exact h
    | again c' => exact ⟨h.1, codeAny_mono h.2 fun r s'' hr => by
        obtain ⟨rfl, hr⟩ := hr
        exact hr⟩
  · exact absurd h.1 (by simp)
theorem call_tuple_src {prog : Program} {w : World} {A : Around} {E : Value → Shared → Prop} {s : Shared} {r d : Addr} {n : Nat} {P : Nat → Value → Prop} {OK : Heap → Prop} {Q : Value → Shared → Prop}
    (K : PySem.W.KdlSrc prog w "dict" r d n P OK) (hh : A.handled = none) (hok : OK s.heap) (hn : n ≤ sizeLine)
    (hQ : ∀ (h' : Heap) (tk : Nat) (acc : Array Value), (∀ b o, s.heap.get? b = some o → h'.get? b = some o) → ItemsOf P acc n → Q (.ref h'.objs.size) { s with heap := h'.push { cls := .type "tuple", data := .seq acc }, toks := tk }) : wpAny (model prog w) A (call (.type "tuple") [.ref r]) Q E s := by
  have hnew : codeAny (model prog w) A.in1 (.call (.builtin "tuple.__new__") ⟨[.type "tuple", .ref r], []⟩) (wants (fun obj s₁ => s₁.TypeIs obj "tuple" ∧ Q obj s₁) E) s := by
    refine codeAny_of_tree ?_
    show wpAny _ A.in1.in1 (do checkBuiltinCall "tuple.__new__" ⟨[.type "tuple", .ref r], []⟩; again (.builtin "tuple.__new__" ⟨[.type "tuple", .ref r], []⟩)) _ _ s
    refine wpAny_bind (wpAny_of_eq (F.newCall_tuple_1 _) (wpAny_pure ⟨plainId_quiet F.plain_tuple_new _, codeAny_builtin F.entry_tuple_new ?_⟩))
    rw [Around.under_plainId F.plain_tuple_new _]
    have hsub := sub_tuple_self
    have hinit := init_tuple_lookup
    have hmh := madeHere_tuple
    have hTI : s.TypeIs (.ref r) "dict" := K.type s hok
    have hh1 : A.in1.in1.handled = none := hh
    wp_walk using wpAny_typeOf hTI, collect_src (A := A.in1.in1) K hh1 hok hn
    intro h' tk acc hk hacc
    show wpAny _ _ (Builtin.Tuple.tupleExact acc.toList.toArray >>= fun v => ret v) _ _ _
    unfold Builtin.Tuple.tupleExact
    refine wpAny_bind (wpAny_newObj_type ?_ (by show acc.toList.toArray.size ≤ sizeLine; simp only [Array.toArray_toList]; rw [hacc.1]; exact hn))
    refine wpAny_pure ?_
    rw [show acc.toList.toArray = acc by simp]
    exact ⟨⟨_, Heap.get?_push_size _ rfl, rfl⟩, hQ h' tk acc hk hacc⟩
  refine callType_codes (Q₁ := fun obj s₁ => s₁.TypeIs obj "tuple" ∧ Q obj s₁) F.called_tuple (F.typeCall_tuple_1 _) F.entry_object_init hnew fun obj s₁ h₁ => ?_
  exact ⟨h₁.1, F.args_object_init_2 obj _, object_init_meets F.called_tuple.init.lookup F.called_tuple.made (by decide) prog w A.in1 _ s₁ ⟨h₁.1, rfl, h₁.2⟩⟩
section
variable {X : Cx} {G : Gs} {W : WX} {k : Nat}
theorem keys_vals {kvs : List (Key × V)} {vs : List (Key × Value)} {P : Program} {w : World} (rk : KV kvs vs) {acc : Array Value} (h : ItemsOf (fun i v => ∃ k x, vs[i]? = some (k, x) ∧ (mixKind P w).is k v = true) acc vs.length) : Vals (kvs.map fun kv => kV kv.1) acc.toList := by
  have hl : kvs.length = vs.length := Paired.length rk
  refine vals_of_at (by simp [h.1, hl]) fun j x w h1 h2 => ?_
  obtain ⟨k, y, hky, hi⟩ := h.2 j w (by rw [← Array.getElem?_toList]; exact h2)
  have e1 : (kvs.map (·.1))[j]? = some k := by
    rw [KV.keys rk, List.getElem?_map, hky]
    rfl
  have e2 : (kvs.map fun kv => kV kv.1)[j]? = some (kV k) := by
    rw [show (kvs.map fun kv => kV kv.1) = (kvs.map (·.1)).map kV by rw [List.map_map]; rfl, List.getElem?_map, e1]
    rfl
  rw [e2] at h1
  cases h1
  exact keyIs_rel hi
theorem call_list_dR (hc : X.calm = true) : CallR X (.type "list") (fun xs H Q => ∃ p kvs, xs = [.ref p] ∧ Rd H p (.dK kvs) ∧ ∀ q, H q = none → Q (.ref q) (upd H q (.lst (kvs.map fun kv => kV kv.1)))) := by
  intro pins s σ H xs us Q I r h
  obtain ⟨p, kvs, rfl, hk, q⟩ := h
  obtain rfl := Vals.ref1 r
  obtain ⟨z, lo, vs, rk, hd⟩ := dk_rd I.hok hk
  obtain ⟨ep, hat⟩ := hd.dictAt
  have hl : kvs.length = vs.length := Paired.length rk
  refine PySem.W.kdl_call (PySem.W.kdl_dict (knd := mixKind X.prog X.w) (kvs := vs) (ep := ep) lo) (I.ok.hd hc) hat (by rw [← hl]; exact z) fun h' tk acc c' hkeep hS hacc => ?_
  exact ⟨.ref s.heap.objs.size, upd H s.heap.objs.size (.lst (kvs.map fun kv => kV kv.1)), I.laid hkeep (Nat.le_refl _) (show ObjOk X.prog X.w _ _ _ (.lst (kvs.map fun kv => kV kv.1)) from ⟨by rw [List.length_map]; exact z, acc.toList, c', keys_vals rk hacc, by rw [Array.toArray_toList]; exact hS⟩), rfl, q _ (I.hok.fresh (Nat.le_refl _))⟩
theorem call_tuple_dR (hc : X.calm = true) : CallR X (.type "tuple") (fun xs H Q => ∃ p kvs, xs = [.ref p] ∧ Rd H p (.dK kvs) ∧ ∀ q, H q = none → Q (.ref q) (upd H q (.tup (kvs.map fun kv => kV kv.1)))) := by
  intro pins s σ H xs us Q I r h
  obtain ⟨p, kvs, rfl, hk, q⟩ := h
  obtain rfl := Vals.ref1 r
  obtain ⟨z, lo, vs, rk, hd⟩ := dk_rd I.hok hk
  obtain ⟨ep, hat⟩ := hd.dictAt
  have hl : kvs.length = vs.length := Paired.length rk
  refine call_tuple_src (PySem.W.kdl_dict (knd := mixKind X.prog X.w) (kvs := vs) (ep := ep) lo) (I.ok.hd hc) hat (by rw [← hl]; exact z) fun h' tk acc hkeep hacc => ?_
  have I2 : Inv X pins σ H { s with heap := h', toks := tk } := I.kept hkeep
  exact ⟨.ref h'.objs.size, upd H h'.objs.size (.tup (kvs.map fun kv => kV kv.1)), I2.laid (t' := tk) (fun c o e => Heap.get?_push_of_some _ e) (Nat.le_refl _) (show ObjOk X.prog X.w _ _ _ (.tup (kvs.map fun kv => kV kv.1)) from ⟨by rw [List.length_map]; exact z, acc.toList, keys_vals rk hacc, by rw [Array.toArray_toList]; exact IsTup.new _ _⟩), rfl, q _ (I2.hok.fresh (Nat.le_refl _))⟩
theorem call_len_dR : CallR X (.builtin "len") (fun xs H Q => ∃ a kvs, xs = [.ref a] ∧ Rd H a (.dK kvs) ∧ Q (.int (kvs.length : Nat)) H) := by
  intro pins s σ H xs us Q I r h
  obtain ⟨p, kvs, rfl, hk, q⟩ := h
  obtain rfl := Vals.ref1 r
  exact d_len I hk fun t s' I' => ⟨.int (kvs.length : Nat), H, I', ⟨t, rfl⟩, q⟩
theorem items_rd {A : Al} {S : Sto} {H : Hp} {d : Dv} {v : V} {ts : List Dt} (s : StR G A S H) (r : RD G A H d v) (h : itemsOf S d = some ts) :
    (∃ a kvs, v = .ref a ∧ Rd H a (.dK kvs) ∧ ts = (kvs.map (·.1)).map kT) ∨ ∃ a vs, v = .ref a ∧ (SqL G.K H a vs ∨ SqT G.K H a vs) ∧ RVs G A H ts vs := by
  unfold itemsOf at h
  split at h
  · rename_i ks xs e1
    obtain ⟨a, kvs, ev, hl, ek, hv⟩ := dctAt_rd s r e1
    cases h
    exact .inl ⟨a, kvs, ev, hl, by rw [ek]⟩
  · split at h
    · rename_i ds e2
      obtain ⟨a, vs, ev, hs, hv⟩ := seqAt_rd s r e2
      exact .inr ⟨a, vs, ev, hs, pures_rvs h hv⟩
    · cases h
theorem b_len (hK : G.K = X.K) : CallR X (.builtin "len") (qN G pLen) := by
  refine (call_len_seq.or (call_len_str.or call_len_dR)).sm fun xs H Q h => ?_
  obtain ⟨A, S, ds, rd, s, p⟩ := h
  unfold pLen at p
  split at p
  · obtain ⟨v, rfl, r⟩ := RDs.one rd
    split at p
    · rename_i z hl
      obtain rfl : v = .str _ := r
      exact .inr (.inl ⟨_, rfl, line_of hl, Po.now p s _ rfl⟩)
    · exact p.elim
  · obtain ⟨v, rfl, r⟩ := RDs.one rd
    split at p
    · rename_i ks xs e1
      obtain ⟨a, kvs, rfl, hl, ek, hv⟩ := dctAt_rd s r e1
      refine .inr (.inr ⟨a, kvs, rfl, hl, ?_⟩)
      rw [show kvs.length = ks.length by rw [← ek, List.length_map]]
      exact Po.now p s _ rfl
    · split at p
      · rename_i xs e2
        obtain ⟨a, vs, rfl, hs, hv⟩ := seqAt_rd s r e2
        refine .inl ⟨a, vs, rfl, by rw [← hK]; exact hs, ?_⟩
        rw [← Paired.length hv]
        exact Po.now p s _ rfl
      · exact p.elim
  · exact p.elim
theorem b_list (hK : G.K = X.K) (hc : X.calm = true) : CallR X (.type "list") (qN G pList) := by
  refine (call_list_of.or (call_list_dR hc)).sm fun xs H Q h => ?_
  obtain ⟨A, S, ds, rd, s, p⟩ := h
  unfold pList at p
  split at p
  · obtain ⟨v, rfl, r⟩ := RDs.one rd
    split at p
    · rename_i ts e1
      rcases items_rd s r e1 with ⟨a, kvs, rfl, hl, rfl⟩ | ⟨a, vs, rfl, hs, hv⟩
      · exact .inr ⟨a, kvs, rfl, hl, poL p s keys_rvs⟩
      · exact .inl ⟨a, vs, rfl, by rw [← hK]; exact hs, poL p s hv⟩
    · exact p.elim
  · exact p.elim
theorem b_listB (hK : G.K = X.K) (hc : X.calm = true) : CallR X (.type "list") (qN G pListB) := by
  refine (call_list_of.or (call_list_dR hc)).sm fun xs H Q h => ?_
  obtain ⟨A, S, ds, rd, s, p⟩ := h
  unfold pListB at p
  split at p
  · obtain ⟨v, rfl, r⟩ := RDs.one rd
    split at p
    · rename_i ts e1
      rcases items_rd s r e1 with ⟨a, kvs, rfl, hl, rfl⟩ | ⟨a, vs, rfl, hs, hv⟩
      · exact .inr ⟨a, kvs, rfl, hl, poB p s keys_rvs.rds⟩
      · exact .inl ⟨a, vs, rfl, by rw [← hK]; exact hs, poB p s hv.rds⟩
    · exact p.elim
  · exact p.elim
theorem b_tuple (hK : G.K = X.K) (hc : X.calm = true) : CallR X (.type "tuple") (qN G pTuple) := by
  refine (call_tuple_of.or (call_tuple_dR hc)).sm fun xs H Q h => ?_
  obtain ⟨A, S, ds, rd, s, p⟩ := h
  unfold pTuple at p
  split at p
  · obtain ⟨v, rfl, r⟩ := RDs.one rd
    obtain ⟨a, vs, rfl, ha, hv⟩ := r
    exact .inl ⟨a, vs, rfl, .inr ⟨by rw [← hK]; exact ha.sq, Po.now p s _ ⟨a, vs, rfl, ha, hv⟩⟩⟩
  · obtain ⟨v, rfl, r⟩ := RDs.one rd
    split at p
    · rename_i ks xs e1
      obtain ⟨a, kvs, rfl, hl, ek, hv⟩ := dctAt_rd s r e1
      subst ek
      exact .inr ⟨a, kvs, rfl, hl, poT p s keys_rvs⟩
    · split at p
      · rename_i ts e2
        obtain ⟨a, vs, rfl, hs, hv⟩ := lstT_rd s r e2
        exact .inl ⟨a, vs, rfl, .inl ⟨by rw [← hK]; exact hs, poT p s hv⟩⟩
      · exact p.elim
  · exact p.elim
theorem b_int : CallR X (.type "int") (qN G pInt) := by
  refine call_int1.sm fun xs H Q h => ?_
  obtain ⟨A, S, ds, rd, s, p⟩ := h
  unfold pInt at p
  split at p
  · obtain ⟨v, rfl, r⟩ := RDs.one rd
    obtain rfl : v = .int _ := r
    exact .inl ⟨_, rfl, Po.now p s _ rfl⟩
  · obtain ⟨v, rfl, r⟩ := RDs.one rd
    obtain rfl : v = .bl _ := r
    exact .inr ⟨_, rfl, Po.now p s _ rfl⟩
  · exact p.elim
theorem b_abs : CallR X (.builtin "abs") (qN G pAbs) := by
  refine call_abs.sm fun xs H Q h => ?_
  obtain ⟨A, S, ds, rd, s, p⟩ := h
  unfold pAbs at p
  split at p
  · obtain ⟨v, rfl, r⟩ := RDs.one rd
    obtain rfl : v = .int _ := r
    exact ⟨_, rfl, Po.now p s _ rfl⟩
  · exact p.elim
theorem b_all (hK : G.K = X.K) (hc : X.calm = true) : CallR X (.builtin "all") (qN G pAll) := by
  refine (cr_all hc).sm fun xs H Q h => ?_
  obtain ⟨A, S, ds, rd, s, p⟩ := h
  unfold pAll at p
  split at p
  · obtain ⟨v, rfl, r⟩ := RDs.one rd
    split at p
    · rename_i bs e
      obtain ⟨ts, e1, e2⟩ := Option.bind_eq_some_iff.mp e
      obtain ⟨a, vs, rfl, hs, hv⟩ := lstT_rd s r e1
      obtain rfl := bls_rv e2 hv
      exact ⟨a, bs, rfl, by rw [← hK]; exact hs, Po.now p s _ rfl⟩
    · exact p.elim
  · exact p.elim
theorem b_any (hK : G.K = X.K) (hc : X.calm = true) : CallR X (.builtin "any") (qN G pAny) := by
  refine (cr_any hc).sm fun xs H Q h => ?_
  obtain ⟨A, S, ds, rd, s, p⟩ := h
  unfold pAny at p
  split at p
  · obtain ⟨v, rfl, r⟩ := RDs.one rd
    split at p
    · rename_i bs e
      obtain ⟨ts, e1, e2⟩ := Option.bind_eq_some_iff.mp e
      obtain ⟨a, vs, rfl, hs, hv⟩ := lstT_rd s r e1
      obtain rfl := bls_rv e2 hv
      exact ⟨a, bs, rfl, by rw [← hK]; exact hs, Po.now p s _ rfl⟩
    · exact p.elim
  · exact p.elim
theorem b_sum (hK : G.K = X.K) (hc : X.calm = true) : CallR X (.builtin "sum") (qN G pSum) := by
  refine (cr_sum hc).sm fun xs H Q h => ?_
  obtain ⟨A, S, ds, rd, s, p⟩ := h
  unfold pSum at p
  split at p
  · obtain ⟨v, rfl, r⟩ := RDs.one rd
    split at p
    · rename_i bs e
      obtain ⟨ts, e1, e2⟩ := Option.bind_eq_some_iff.mp e
      obtain ⟨a, vs, rfl, hs, hv⟩ := lstT_rd s r e1
      obtain rfl := ints_rv e2 hv
      exact ⟨a, bs, rfl, by rw [← hK]; exact hs, Po.now p s _ rfl⟩
    · exact p.elim
  · exact p.elim
end
end Sm
/-! Sm12: isinstance, stores, list methods, sorted. -/
namespace Sm
open PySem PySem.Spec PyProof.Rows L2

/-! ### isinstance -/
def isaT (a b : String) : Bool := a == b || (a == "bool" && b == "int")
def tyL : List String := ["NoneType", "bool", "int", "str", "tuple", "list", "dict"]
def tyR : List String := ["bool", "int", "str", "tuple", "list", "dict"]
theorem kit_all : ∀ a ∈ tyL, ∀ b ∈ tyR, kitB a b = some (isaT a b) := by decide +kernel
theorem kit_any {K : PySem.W.Frag} {a : String} (ha : a ∈ tyL) : ∀ {bs : List String}, (∀ b ∈ bs, b ∈ tyR) → PySem.W.kitAny K (.type a) (bs.map Value.type) = some (bs.any (isaT a))
  | [], _ => kitAny_nil
  | b :: bs, h => by
    have h1 := kit_ty (K := K) (kit_all a ha b (h b List.mem_cons_self))
    have h2 := kit_any (K := K) ha (bs := bs) fun c hc => h c (List.mem_cons_of_mem _ hc)
    refine kitAny_cons h1 (fun e => ?_) fun e => ?_
    · rw [List.any_cons, e]
      exact h2
    · rw [List.any_cons, e]
      rfl
def tyDv (S : Sto) (d : Dv) : Option String := match d with
  | .d .non => some "NoneType"
  | .d (.bl _) => some "bool"
  | .d (.int _) => some "int"
  | .d (.str _) => some "str"
  | .d (.tup _) => some "tuple"
  | .d (.lst _) => some "list"
  | .d (.scr _) => some "list"
  | .d (.ltp _) => some "tuple"
  | .d (.dct _ _) => some "dict"
  | .loc n => (match S[n]? with
    | some (.lst _) => some "list"
    | some (.dct _ _) => some "dict"
    | _ => none)
  | _ => none
theorem tyDv_rd {G : Gs} {A : Al} {S : Sto} {H : Hp} {d : Dv} {v : V} {T : String} (s : StR G A S H) (r : RD G A H d v) (h : tyDv S d = some T) : T ∈ tyL ∧ TyX G.K H v (.type T) := by
  unfold tyDv at h
  split at h
  · cases h
    obtain rfl : v = .non := r
    exact ⟨by decide, .base .non⟩
  · cases h
    obtain rfl : v = .bl _ := r
    exact ⟨by decide, .base (.bl _)⟩
  · cases h
    obtain rfl : v = .int _ := r
    exact ⟨by decide, .base (.int _)⟩
  · cases h
    obtain rfl : v = .str _ := r
    exact ⟨by decide, .base (.str _)⟩
  · cases h
    obtain ⟨a, vs, rfl, ha, _⟩ := r
    refine ⟨by decide, ?_⟩
    rcases ha.sq with (h | ⟨o, h⟩) | ⟨o, its, n, h1, h2, _⟩
    · exact .base (.tup h)
    · exact .fTuple h
    · exact .kTuple h1 h2
  · cases h
    obtain ⟨a, vs, rfl, ha, _⟩ := r
    exact ⟨by decide, .base (.lst ha.1)⟩
  · cases h
    obtain ⟨a, vs, rfl, ha, _⟩ := r
    refine ⟨by decide, ?_⟩
    rcases ha.sq with (h | ⟨o, h⟩) | ⟨o, its, n, h1, h2, _⟩
    · exact .base (.lst h)
    · exact .base (.frz h)
    · exact .kList h1 h2
  · cases h
    obtain ⟨a, vs, rfl, ha, _⟩ := r
    refine ⟨by decide, ?_⟩
    rcases ha H with (h | ⟨o, h⟩) | ⟨o, its, n, h1, h2, _⟩
    · exact .base (.tup h)
    · exact .fTuple h
    · exact .kTuple h1 h2
  · cases h
    obtain ⟨a, kvs, rfl, _, h, _⟩ := r
    refine ⟨by decide, ?_⟩
    rcases h with h | ⟨o, h⟩
    · exact .base (.dK h)
    · exact .fDict h
  · rename_i n
    split at h
    · rename_i e
      cases h
      obtain ⟨a, vs, rfl, _, hl, _⟩ := loc_lst s r e
      exact ⟨by decide, .base (.lst hl)⟩
    · rename_i e
      cases h
      obtain ⟨a, vs, rfl, _, hl, _⟩ := loc_dct s r e
      exact ⟨by decide, .base (.dK hl)⟩
    · cases h
  · cases h
def pIsa (bs : List String) : P1 := fun d S => match tyDv S d with
  | some T => some (.d (.bl (bs.any (isaT T))), S)
  | none => none
theorem clsv_all : ∀ bs : List String, Paired ClsV (bs.map V.ty) (bs.map Value.type)
  | [] => .nil
  | b :: bs => .cons (.ty b) (clsv_all bs)
section
variable {X : Cx} {G : Gs} {W : WX} {k : Nat} {e T : Expr} {es : List Expr} {p pos tpos : Pos} {m : M Dv} {bs : List String} {b : String}
theorem e_isa (hK : G.K = X.K) (hg : Gl X "isinstance") (hm : X.mg "isinstance" = none) (hb : b ∈ tyR) (he : PE X e (tM G W m)) (hT : PE X T (tC (.ty b))) (hs : starEach [e, T] X.env = (false, eval e X.env) :: starEach [T] X.env) (hs2 : starEach [T] X.env = (false, eval T X.env) :: starEach [] X.env)
    (hpl : (backTo pos (starEach [T] X.env)).any (·.1) = false) : PE X (.Call (.Name "isinstance" p) [e, T] [] pos) (tM G W (m1 (pIsa [b]) m)) := by
  refine (pe_callB call_isi hg hm PyProof.Rows.boot_isinstance (pa_cons he (pa_cons hT pa_nil hs2) hs) (by decide) (by decide) hs hpl).sm fun σ H Q h => ?_
  obtain ⟨A, ρ, S, he, hs, p0⟩ := h
  refine ⟨A, ρ, S, he, hs, Po.step p0 fun d S1 A1 H1 x1 s1 p1 v rv => ?_⟩
  unfold pIsa at p1
  split at p1
  · rename_i U hU
    obtain ⟨hL, ty⟩ := tyDv_rd s1 rv hU
    rw [hK] at ty
    have h1 := kit_ty (K := X.K) (kit_all U hL b hb)
    refine ⟨v, .ty b, .type U, .type b, _, rfl, .ty b, ty, h1, ?_⟩
    have := Po.now p1 s1 (.bl ([b].any (isaT U))) rfl
    simpa using this
  · exact p1.elim
theorem e_isaT (hK : G.K = X.K) (hg : Gl X "isinstance") (hm : X.mg "isinstance" = none) (bs : List String) (hb : ∀ b ∈ bs, b ∈ tyR) (hz : bs.length ≤ 100) (he : PE X e (tM G W m)) (hes : PA X es (fun σ H Q => Q (bs.map V.ty) H)) {kk : Nat} (hs : starEach [e, .Tuple es kk tpos] X.env = (false, eval e X.env) :: starEach [.Tuple es kk tpos] X.env)
    (hs2 : starEach [.Tuple es kk tpos] X.env = (false, eval (.Tuple es kk tpos) X.env) :: starEach [] X.env) (hpl : (backTo pos (starEach [.Tuple es kk tpos] X.env)).any (·.1) = false) : PE X (.Call (.Name "isinstance" p) [e, .Tuple es kk tpos] [] pos) (tM G W (m1 (pIsa bs) m)) := by
  refine (pe_callB call_isiT hg hm PyProof.Rows.boot_isinstance (pa_cons he (pa_cons (pe_tup hes) pa_nil hs2) hs) (by decide) (by decide) hs hpl).sm fun σ H Q h => ?_
  obtain ⟨A, ρ, S, he, hs, p0⟩ := h
  refine ⟨A, ρ, S, he, hs, Po.step p0 fun d S1 A1 H1 x1 s1 p1 v rv => ⟨by rw [List.length_map]; exact line_of (by omega), fun q hq => ?_⟩⟩
  unfold pIsa at p1
  split at p1
  · rename_i U hU
    obtain ⟨hL, ty⟩ := tyDv_rd (s1.new (o := .tup (bs.map V.ty)) hq) (RD.kp (Ext.new hq).kp rv) hU
    rw [hK] at ty
    exact ⟨v, q, bs.map V.ty, .type U, bs.map Value.type, _, rfl, upd_same, clsv_all bs, ty, kit_any hL hb, Po.at p1 (Ext.new hq) (s1.new hq) _ rfl⟩
  · exact p1.elim
end

/-! ### o[i] = d -/
def stSub (o i d : Dv) (S : Sto) : Option Sto := match o with
  | .loc n => (match S[n]? with
    | some (.lst xs) => (match i with
      | .d (.int k) => (match ixN xs.length k with
        | some j => some (S.set n (.lst (xs.set j d)))
        | none => none)
      | _ => none)
    | some (.dct ks xs) => (match kOf i with
      | some j => if ks.length < 16777216 then some (S.set n (.dct (dputK ks j) (dputX ks xs j d))) else none
      | none => none)
    | _ => none)
  | _ => none
def sSub (mo mi mv : M Dv) : SM := fun ρ S => (mv ρ S).to ρ fun d S1 => (mo ρ S1).to ρ fun o S2 => (mi ρ S2).to ρ fun i S3 => oz (stSub o i d S3) fun S4 => .nx ρ S4
section
variable {X : Cx} {G : Gs} {W : WX} {k : Nat} {o i value : Expr} {p pos pos' : Pos} {mo mi mv : M Dv}
theorem line_lt {n : Nat} (h : n < 16777216) : n < sizeLine := by rw [sizeLine_eq]; exact h
theorem s_sub (hu : X.A.units + 64 < cLine) (ho : PE X o (tM G W mo)) (hi : PE X i (tM G W mi)) (hv : PE X value (tM G W mv)) (hs : swapsWith value (some (.Subscript o i pos')) pos.line X.env = pure false) : PS X (.Assign [.Subscript o i pos'] value pos) (tMS G W (sSub mo mi mv)) := by
  refine ⟨fun pins s σ H D I h => ?_⟩
  obtain ⟨A, ρ, S, he, st, p0⟩ := h
  refine wpAny_Assign_Subscript (thn (hv.run pins s σ H (fun v H1 => tM G W mo σ H1 fun x H2 => tM G W mi σ H2 fun y H3 => (rSetL x y v H3 (fun H4 => D.nx σ H4)) ∨ rSetD x y v H3 (fun H4 => D.nx σ H4)) I ⟨A, ρ, S, he, st, PoS.step he p0 fun d S1 A1 H1 x1 s1 e1 p1 v rv => ?_⟩)
    fun r s1 ⟨v, H1, I1, rv, q1⟩ => thn (ho.run pins s1 σ H1 _ I1 q1) fun u s2 ⟨x, H2, I2, rx, q2⟩ => thn (hi.run pins s2 σ H2 _ I2 q2) fun iv s3 ⟨y, H3, I3, ry, q3⟩ => ?_) hs
  · refine ⟨A1, ρ, S1, e1, s1, PoS.step e1 p1 fun o' S2 A2 H2 x2 s2 e2 p2 x rx => ?_⟩
    refine ⟨A2, ρ, S2, e2, s2, PoS.step e2 p2 fun i' S3 A3 H3 x3 s3 e3 p3 y ry => ?_⟩
    obtain ⟨S4, es, p4⟩ := oz_po p3
    have rx := RD.kp x3.kp rx
    have rv := RD.kp x3.kp (RD.kp x2.kp rv)
    unfold stSub at es
    split at es
    · rename_i n
      split at es
      · rename_i xs eo
        obtain ⟨a, vs, rfl, hl, ha, hvs⟩ := loc_lst s3 rx eo
        split at es
        · rename_i kk
          split at es
          · rename_i j ej
            cases es
            obtain ⟨x4, s4⟩ := set_lst s3 hl (hvs.set j rv)
            obtain rfl : y = .int kk := ry
            refine .inl ⟨a, vs, kk, j, rfl, rfl, ha, by rw [← Paired.length hvs]; exact ej, p4 A3 _ σ x4 s4 (e3.kp x4.kp)⟩
          · cases es
        · cases es
      · rename_i ks xs eo
        obtain ⟨a, kvs, rfl, hl, ha, ek, hvs⟩ := loc_dct s3 rx eo
        split at es
        · rename_i j ej
          split at es
          · rename_i hz
            cases es
            subst ek
            obtain ⟨x4, s4⟩ := set_dct s3 hl (dput_keys (kvs := kvs) (j := j) (y := v)) (dput_rds hvs rv)
            refine .inr ⟨a, _, rfl, .inl ⟨kvs, j, ha, kOf_rd ej ry, line_lt (by simpa using hz), rfl⟩, p4 A3 _ σ x4 s4 (e3.kp x4.kp)⟩
          · cases es
        · cases es
      · cases es
    · cases es
  · rcases q3 with q3 | q3
    · exact thn (set_list pins s3 σ H3 x y v u iv r _ I3 rx ry rv q3) fun _ s4 ⟨H4, I4, q4⟩ => ⟨σ, H4, I4, q4⟩
    · exact thn (set_dict (by omega) pins s3 σ H3 x y v u iv r _ I3 rx ry rv q3) fun _ s4 ⟨H4, I4, q4⟩ => ⟨σ, H4, I4, q4⟩
end

/-! ### methods of list boxes -/
abbrev PM := Dv → List Dv → Sto → Pz Dv
def isLs (S : Sto) (d : Dv) : Bool := match lstAt S d with
  | some _ => true
  | none => false
def mLm (p : PM) (mo : M Dv) (ma : M (List Dv)) : M Dv := fun ρ S => (mo ρ S).bind fun o S1 => if isLs S1 o = true then (ma ρ S1).bind fun ds S2 => lift (p o ds S2) else .bad
def pAppend : PM := fun o ds S => match o, ds with
  | .loc n, [x] => (match S[n]? with
    | some (.lst xs) => if xs.length < 16777216 then some (.d .non, S.set n (.lst (xs ++ [x]))) else none
    | _ => none)
  | _, _ => none
def pExtend : PM := fun o ds S => match o, ds with
  | .loc n, [y] => (match S[n]?, lstAt S y with
    | some (.lst xs), some zs => if xs.length + zs.length ≤ 16777216 then some (.d .non, S.set n (.lst (xs ++ zs))) else none
    | _, _ => none)
  | _, _ => none
def qM (G : Gs) (p : PM) : V → List V → Hp → VK → Prop := fun x xs H Q => ∃ A S d ds, RD G A H d x ∧ RDs G A H ds xs ∧ StR G A S H ∧ Po G Ez A H (lift (p d ds S)) (kD G Q)
section
variable {X : Cx} {G : Gs} {W : WX} {k : Nat} {o e : Expr} {es : List Expr} {name : Str} {id : String} {apos cpos : Pos} {mo : M Dv} {ma : M (List Dv)} {p : PM}
theorem isLs_ty (hK : G.K = X.K) {A : Al} {S : Sto} {H : Hp} {d : Dv} {v : V} (s : StR G A S H) (r : RD G A H d v) (h : isLs S d = true) : tyV X.K "list" v H := by
  unfold isLs at h
  split at h
  · rename_i ds e
    obtain ⟨a, vs, rfl, hl, _⟩ := lstAt_rd s r e
    exact .inl ⟨rfl, vs, .inl (.inl hl)⟩
  · cases h
theorem e_lm (hK : G.K = X.K) (slot : Slot "list" name id) (hty : typeOf (.builtin id) = pure (.type "method_descriptor")) (hm : MtR X id (qM G p)) (ho : PE X o (tM G W mo)) (ha : PA X (e :: es) (tMA G W ma)) (hbase : attributeBase o name X.env (eval o X.env) = eval o X.env)
    (hfew : ((backTo cpos (starEach (e :: es) X.env)).all (fun x => !x.1) && (backToKw cpos (keywordEach [] X.env)).all (fun x => x.1.isSome) && decide ((e :: es).length + ([] : List Keyword).length + (if ([] : List Keyword).isEmpty then 0 else 1) < 30)) = true)
    (hline : (apos.endLine == cpos.line) = true) (hs : starEach (e :: es) X.env = (false, eval e X.env) :: starEach es X.env) (hplain : (backTo cpos (starEach es X.env)).any (·.1) = false) : PE X (.Call (.Attribute o name apos) (e :: es) [] cpos) (tM G W (mLm p mo ma)) := by
  refine (pe_bm PySem.F.plainAttrs_list slot hty hm ho ha hbase hfew hline hs hplain).sm fun σ H Q h => ?_
  obtain ⟨A, ρ, S, he, st, p0⟩ := h
  refine ⟨A, ρ, S, he, st, Po.step p0 fun d S1 A1 H1 x1 s1 p1 v rv => ?_⟩
  by_cases hi : isLs S1 d = true
  · simp only [hi, if_true] at p1
    refine ⟨isLs_ty hK s1 rv hi, A1, ρ, S1, he.kp x1.kp, s1, Po.step p1 fun ds S2 A2 H2 x2 s2 p2 vs rvs => ?_⟩
    exact ⟨A2, S2, d, ds, RD.kp x2.kp rv, rvs, s2, Po.lift p2⟩
  · simp only [hi] at p1
    exact p1.elim
theorem m_append : MtR X "list.append" (qM G pAppend) := by
  refine L2.MtR.sm (show MtR X "list.append" rAppend from mt_append) fun x xs H Q h => ?_
  obtain ⟨A, S, d, ds, rd, rds, s, p⟩ := h
  unfold pAppend at p
  split at p
  · obtain ⟨v, rfl, r⟩ := RDs.one rds
    split at p
    · rename_i e
      split at p
      · rename_i hz
        obtain ⟨a, vs, rfl, hl, ha, hvs⟩ := loc_lst s rd e
        obtain ⟨x2, s2⟩ := set_lst s hl (hvs.append (.cons r .nil))
        exact ⟨a, vs, v, rfl, rfl, ha, by rw [← Paired.length hvs]; exact line_lt hz, Po.at p x2 s2 _ rfl⟩
      · exact p.elim
    · exact p.elim
  · exact p.elim
theorem m_extend : MtR X "list.extend" (qM G pExtend) := by
  refine L2.MtR.sm (show MtR X "list.extend" rExtend from mt_extend) fun x xs H Q h => ?_
  obtain ⟨A, S, d, ds, rd, rds, s, p⟩ := h
  unfold pExtend at p
  split at p
  · obtain ⟨v, rfl, r⟩ := RDs.one rds
    split at p
    · rename_i e1 e2
      split at p
      · rename_i hz
        obtain ⟨a, vs, rfl, hl, ha, hvs⟩ := loc_lst s rd e1
        obtain ⟨b, ws, rfl, hb, hws⟩ := lstAt_rd s r e2
        obtain ⟨x2, s2⟩ := set_lst s hl (hvs.append hws)
        exact ⟨a, b, vs, ws, rfl, rfl, ha, hb, by rw [← Paired.length hvs, ← Paired.length hws]; exact line_of hz, Po.at p x2 s2 _ rfl⟩
      · exact p.elim
    · exact p.elim
  · exact p.elim
end
end Sm
/-! Sm13: sorted, by data. -/
namespace Sm
open PySem PySem.Spec PyProof.Rows L2
open PySem.W (EachIs dataLe dataLt alike AllAlike Sortable)

def encT (t : Dt) : PyData := (toPy t).getD .none
def leT (a b : Dt) : Bool := !dataLt (encT b) (encT a)
/-- the items that gather: each with its data -/
def ColR (X : Cx) (G : Gs) (A : Al) (H : Hp) (pins : List (Addr × Obj)) (σ : L2.St) (s : Shared) (x : Value) (C : List Dt → Prop) : Prop :=
  ∀ Q' : List Value → Shared → Prop, (∀ s' us (bs : List (Dt × V)), L2.Inv X pins σ H s' → Vals (bs.map (·.2)) us → (∀ b ∈ bs, RV G A H b.1 b.2) → C (bs.map (·.1)) → Q' us s') → wpAny (model X.prog X.w) X.A.in1 (collect x) Q' X.xe s
structure SortOk (ts : List Dt) : Prop where
  py : ∀ t ∈ ts, ∃ d, toPy t = some d
  al : AllAlike (ts.map encT)
  so : Sortable (ts.map encT) ∨ (ts.length ≤ 1 ∧ ∀ t ∈ ts, encT t ≠ .none)
  dp : ∀ t ∈ ts, (encT t).depth ≤ 60
  sz : ts.length ≤ 16777216
theorem each_of_vals {G : Gs} {A : Al} {H : Hp} : ∀ {bs : List (Dt × V)} {us : List Value}, Vals (bs.map (·.2)) us → (∀ b ∈ bs, RV G A H b.1 b.2) → EachIs (fun (u : Value) (b : Dt × V) => RelV b.2 u ∧ RV G A H b.1 b.2) us bs
  | [], us, r, _ => by
    cases r
    exact .nil
  | b :: bs, us, r, h => by
    cases r with
    | cons r1 r2 => exact .cons ⟨r1, h b List.mem_cons_self⟩ (each_of_vals r2 fun c hc => h c (List.mem_cons_of_mem _ hc))
theorem vals_of_each {G : Gs} {A : Al} {H : Hp} : ∀ {bs : List (Dt × V)} {us : List Value}, EachIs (fun (u : Value) (b : Dt × V) => RelV b.2 u ∧ RV G A H b.1 b.2) us bs → Vals (bs.map (·.2)) us ∧ RVs G A H (bs.map (·.1)) (bs.map (·.2))
  | [], us, r => by
    cases r
    exact ⟨.nil, (rfl : ([] : List V) = [])⟩
  | b :: bs, us, r => by
    cases r with
    | cons r1 r2 =>
      obtain ⟨h1, h2⟩ := vals_of_each r2
      exact ⟨.cons r1.1 h1, _, _, rfl, r1.2, h2⟩
/-- values that read as alike data, one at most or of a kind that can be sorted -/
theorem sortsAt {prog : Program} {w : World} {A : Around} {s : Shared} {vs : List Value} {ds : List PyData} (e : EachIs (fun v d => ∃ as, Reads s.heap v d as) vs ds) (hal : AllAlike ds) (hk : Sortable ds ∨ (ds.length ≤ 1 ∧ ∀ d ∈ ds, d ≠ .none)) (hu : ∀ d, d ∈ ds → A.units + d.depth < cLine) : PySem.W.SortsAt prog w A s (PySem.W.dataKind s.heap ds) vs := by
  rcases hk with hk | ⟨h1, h2⟩
  · exact PySem.W.SortsAt.data e hal hk hu
  · refine ⟨fun v hv => ?_, general', fun E x y a b Q ha hb hq => ?_, fun h => ?_⟩
    · obtain ⟨d, hd, as, r⟩ := e.left v hv
      exact ⟨_, PySem.W.dataKind_some hal hd r⟩
    · obtain ⟨d, as, hd, ra, rfl⟩ := PySem.W.dataKind_inv ha
      obtain ⟨d', as', hd', rb, rfl⟩ := PySem.W.dataKind_inv hb
      show wpAny _ _ (oneLt' false x y) _ _ _
      exact PySem.W.oneLt_alike (fun hb => by cases hb) ra rb (hal d hd d' hd') (h2 d hd) (Nat.lt_of_le_of_lt (Nat.add_le_add_left (Nat.min_le_left _ _) _) (hu d hd)) hq
    · have len : ∀ {us : List Value} {es : List PyData}, EachIs (fun v d => ∃ as, Reads s.heap v d as) us es → us.length = es.length := by
        intro us es h
        induction h with
        | nil => rfl
        | cons _ _ ih => simp [ih]
      rw [len e] at h
      omega
section
variable {X : Cx} {G : Gs}
theorem sorted_col {pins : List (Addr × Obj)} {σ : L2.St} {s : Shared} {H : Hp} {A : Al} {x : Value} {C : List Dt → Prop} {Q : VK} (hK : G.K = X.K) (hu : X.A.units + 64 < cLine) (hc : ColR X G A H pins σ s x C) (hok : ∀ ts, C ts → SortOk ts)
    (q : ∀ ts vs, C ts → RVs G A H (ts.mergeSort leT) vs → ∀ p, H p = none → Q (.ref p) (upd H p (.lst vs))) : wpAny (model X.prog X.w) X.A (call (.builtin "sorted") [x]) (EP X pins σ Q) X.xe s := by
  refine Calls.call_function_entry kind_sorted plain_sorted entry_sorted (args_sorted1 _) ?_
  unfold Builtin.«sorted»
  refine wpAny_bind (m := checkCount "sorted" 1 1 _) (wpAny_pure ?_)
  refine wpAny_bind (hc _ fun s1 us bs I1 rv rb hC => ?_)
  have ok := hok _ hC
  have hl : us.length = bs.length := by rw [← rv.length, List.length_map]
  have hz : bs.length ≤ sizeLine := by
    have := ok.sz
    rw [List.length_map] at this
    exact line_of this
  refine wpAny_bind (wpAny_newList ?_ (by rw [hl]; exact hz))
  have hoL : (s1.heap.push (seqObj "list" us.toArray 0)).get? s1.heap.objs.size = some (seqObj "list" us.toArray 0) := Heap.get?_push_size _ rfl
  have e0 := each_of_vals rv rb
  have er : EachIs (fun v (b : Dt × V) => ∃ as, Reads (PySem.W.sortingHeap (s1.heap.push (seqObj "list" us.toArray 0)) s1.heap.objs.size us) v (encT b.1) as) us bs := by
    refine (PySem.W.each_mem e0).mono fun v b hb => ?_
    obtain ⟨⟨r1, r2⟩, hm⟩ := hb
    obtain ⟨d, hd⟩ := ok.py b.1 (List.mem_map.mpr ⟨b, hm, rfl⟩)
    have dp := RV.dp hd r2
    rw [hK] at dp
    obtain ⟨as, ra⟩ := Dp.reads I1 d b.2 v dp r1
    have ee : encT b.1 = d := by
      unfold encT
      rw [hd]
      rfl
    rw [ee]
    exact ⟨as, PyProof.Rows.Reads.keeps (fun c o hc => PySem.W.sortingHeap_old (Nat.ne_of_lt (Heap.lt_size hc)) (Heap.get?_push_of_some _ hc)) ra⟩
  have em : bs.map (fun b => encT b.1) = (bs.map (·.1)).map encT := by
    rw [List.map_map]
    rfl
  have hal : AllAlike (bs.map fun b => encT b.1) := by
    rw [em]
    exact ok.al
  have hso : Sortable (bs.map fun b => encT b.1) ∨ ((bs.map fun b => encT b.1).length ≤ 1 ∧ ∀ d ∈ bs.map (fun b => encT b.1), d ≠ .none) := by
    rw [em]
    rcases ok.so with h | ⟨h1, h2⟩
    · exact .inl h
    · refine .inr ⟨by rw [List.length_map]; exact h1, fun d hd => ?_⟩
      obtain ⟨t, ht, rfl⟩ := List.mem_map.mp hd
      exact h2 t ht
  have hdp : ∀ b, b ∈ bs → X.A.in1.units + 1 + (encT b.1).depth < cLine := fun b hb => by
    have := ok.dp b.1 (List.mem_map.mpr ⟨b, hb, rfl⟩)
    have hi : X.A.in1.units = X.A.units + 1 := rfl
    omega
  refine wpAny_bind (wpAny_holding (wpAny_call_entry slot_list_sort ⟨_, hoL, rfl⟩ entry_list_sort (PySem.W.list_sort_vals (κ := PySem.W.dataKind (PySem.W.sortingHeap (s1.heap.push (seqObj "list" us.toArray 0)) s1.heap.objs.size us) (bs.map fun b => encT b.1)) hoL
    (sortsAt (s := { s1 with heap := PySem.W.sortingHeap (s1.heap.push (seqObj "list" us.toArray 0)) s1.heap.objs.size us }) (PySem.W.each_map (R := fun v d => ∃ as, Reads (PySem.W.sortingHeap (s1.heap.push (seqObj "list" us.toArray 0)) s1.heap.objs.size us) v d as) (fun b : Dt × V => encT b.1) er) hal hso (PySem.W.bound_map hdp)) (by rw [hl]; exact hz) ⟨.none, rfl, ?_⟩) (args_list_sort _)))
  have eo := PySem.W.sortVals_data false e0 er hal
  have el : (PySem.W.sortVals (PySem.W.dataKind (PySem.W.sortingHeap (s1.heap.push (seqObj "list" us.toArray 0)) s1.heap.objs.size us) (bs.map fun b => encT b.1)) false us us).length = bs.length := by
    rw [PySem.W.sortVals_length false rfl]
    exact hl
  generalize PySem.W.sortVals (PySem.W.dataKind (PySem.W.sortingHeap (s1.heap.push (seqObj "list" us.toArray 0)) s1.heap.objs.size us) (bs.map fun b => encT b.1)) false us us = out at eo el
  obtain ⟨c, hcL⟩ := sortedHeap_at (vs := us) (out := out.toArray) hoL
  obtain ⟨h1, h2⟩ := vals_of_each eo
  have hm : (bs.mergeSort (dataLe false fun b => encT b.1)).map (·.1) = (bs.map (·.1)).mergeSort leT := List.map_mergeSort fun a _ b _ => rfl
  rw [hm] at h2
  have keep : ∀ b o, s1.heap.get? b = some o → (sortedHeap (s1.heap.push (seqObj "list" us.toArray 0)) s1.heap.objs.size us out.toArray).get? b = some o := fun b o e => by
    have hlt := Heap.lt_size e
    rw [sortedHeap_old (Nat.ne_of_lt hlt) (by rw [size_push']; exact Nat.lt_succ_of_lt hlt)]
    exact Heap.get?_push_of_some _ e
  have hfin := q _ _ hC h2 s1.heap.objs.size (I1.hok.fresh (Nat.le_refl _))
  refine wpAny_pure ⟨_, rfl, .ref s1.heap.objs.size, _, I1.laid keep (Nat.le_refl _) (show ObjOk X.prog X.w _ _ _ (.lst ((bs.mergeSort (dataLe false fun b => encT b.1)).map (·.2))) from ⟨?_, out, c, h1, hcL⟩), rfl, hfin⟩
  rw [List.length_map, List.length_mergeSort]
  exact hz
/-- a list, a tuple: its items in order -/
theorem col_seq {pins : List (Addr × Obj)} {σ : L2.St} {s : Shared} {H : Hp} {A : Al} {a : Addr} {vs : List V} {ts : List Dt} (I : L2.Inv X pins σ H s) (hs : SqL X.K H a vs ∨ SqT X.K H a vs) (hv : RVs G A H ts vs) : ColR X G A H pins σ s (.ref a) fun us => us = ts := by
  intro Q' hq
  have fin : ∀ (its : List Value) (h' : Heap), Vals vs its → (∀ b o', s.heap.get? b = some o' → h'.get? b = some o') → Q' its { s with heap := h' } := fun its h' r k => by
    have hl := hv.length
    refine hq _ its (ts.zip vs) (I.kept (t' := s.toks) k) ?_ (fun b hb => ?_) ?_
    · rw [List.map_snd_zip (by omega)]
      exact r
    · obtain ⟨i, hi⟩ := List.mem_iff_getElem?.mp hb
      obtain ⟨e1, e2⟩ := List.getElem?_zip_eq_some.mp hi
      obtain ⟨v, e3, r3⟩ := hv.get e1
      rw [e2] at e3
      cases e3
      exact r3
    · exact List.map_fst_zip (by omega)
  rcases hs with hs | hs
  · obtain ⟨its, r, pl, hz⟩ := I.list hs
    obtain ⟨o, ho, hc, n, hd⟩ := pl.isList
    refine wpAny_collect_seq a (.inl rfl) ho hc hd (fun h' k => fin its h' r k) ?_
    rw [List.size_toArray, ← r.length]
    exact hz
  · obtain ⟨its, r, pl, hz⟩ := I.tuple hs
    obtain ⟨o, ho, hc, n, hd⟩ := pl
    refine wpAny_collect_seq a (.inr rfl) ho hc hd (fun h' k => fin its h' r k) ?_
    rw [List.size_toArray, ← r.length]
    exact hz
end
/-! ### sorted(x), x a list or a tuple -/
def isTupP : PyData → Bool
  | .tuple (_ :: _) => true
  | _ => false
def isAtom : PyData → Bool
  | .none => false
  | .tuple _ => false
  | _ => true
def isNoneP : PyData → Bool
  | .none => true
  | _ => false
def sortChk (ts : List Dt) : Bool := ts.all (fun t => (toPy t).isSome && decide ((encT t).depth ≤ 60)) && (ts.all fun t => ts.all fun u => alike (encT t) (encT u)) && ((ts.all fun t => isTupP (encT t)) || ((ts.all fun t => isAtom (encT t)) || (decide (ts.length ≤ 1) && ts.all fun t => !isNoneP (encT t)))) && decide (ts.length ≤ 16777216)
theorem sortChk_ok {ts : List Dt} (h : sortChk ts = true) : SortOk ts := by
  unfold sortChk at h
  simp only [Bool.and_eq_true, decide_eq_true_eq, Bool.or_eq_true, List.all_eq_true] at h
  obtain ⟨⟨⟨h1, h2⟩, h3⟩, h4⟩ := h
  refine ⟨fun t ht => Option.isSome_iff_exists.mp (h1 t ht).1, fun d hd d' hd' => ?_, ?_, fun t ht => (h1 t ht).2, h4⟩
  · obtain ⟨t, ht, rfl⟩ := List.mem_map.mp hd
    obtain ⟨t', ht', rfl⟩ := List.mem_map.mp hd'
    exact h2 t ht t' ht'
  · rcases h3 with h3 | h3 | ⟨h5, h6⟩
    · refine .inl (.inl fun d hd => ?_)
      obtain ⟨t, ht, rfl⟩ := List.mem_map.mp hd
      have := h3 t ht
      unfold isTupP at this
      split at this
      · rename_i x r e
        exact ⟨x, r, e⟩
      · cases this
    · refine .inl (.inr fun d hd => ?_)
      obtain ⟨t, ht, rfl⟩ := List.mem_map.mp hd
      have := h3 t ht
      unfold isAtom at this
      split at this
      · cases this
      · cases this
      · rename_i n1 n2
        exact ⟨n1, fun xs => n2 xs⟩
    · refine .inr ⟨h5, fun t ht z => ?_⟩
      have := h6 t ht
      rw [z] at this
      cases this
/-- sorting by putting in -/
def putL {α : Type} (le : α → α → Bool) (a : α) : List α → List α
  | [] => [a]
  | b :: l => if le a b = true then a :: b :: l else b :: putL le a l
def isortL {α : Type} (le : α → α → Bool) : List α → List α
  | [] => []
  | a :: l => putL le a (isortL le l)
theorem putL_app {α : Type} {le : α → α → Bool} {a : α} : ∀ (l m : List α), (∀ b ∈ l, le a b = false) → (∀ b ∈ m, le a b = true) → putL le a (l ++ m) = l ++ a :: m
  | [], [], _, _ => rfl
  | [], b :: m, _, h => by
    show (if le a b = true then a :: b :: m else b :: putL le a m) = _
    rw [if_pos (h b List.mem_cons_self)]
    rfl
  | b :: l, m, h, h2 => by
    show (if le a b = true then a :: b :: (l ++ m) else b :: putL le a (l ++ m)) = _
    rw [if_neg (by rw [h b List.mem_cons_self]; decide), putL_app l m (fun c hc => h c (List.mem_cons_of_mem _ hc)) h2]
    rfl
theorem isortL_is {α : Type} {le : α → α → Bool} (tr : ∀ a b c, le a b = true → le b c = true → le a c = true) (tot : ∀ a b, (le a b || le b a) = true) : ∀ l : List α, isortL le l = l.mergeSort le
  | [] => by simp [isortL]
  | a :: l => by
    obtain ⟨l1, l2, e1, e2, h⟩ := List.mergeSort_cons tr tot a l
    have s := List.pairwise_mergeSort tr tot (a :: l)
    rw [e1, List.pairwise_append] at s
    rw [e1]
    show putL le a (isortL le l) = _
    rw [isortL_is tr tot l, e2]
    exact putL_app l1 l2 (fun b hb => by simpa using h b hb) (List.pairwise_cons.mp s.2.1).1
theorem leT_total (a b : Dt) : (leT a b || leT b a) = true := by
  unfold leT
  cases h1 : PySem.W.dataLt (encT b) (encT a) with
  | false => rfl
  | true =>
    cases h2 : PySem.W.dataLt (encT a) (encT b) with
    | false => rfl
    | true =>
      have := lex_trans _ _ _ h1 h2
      rw [lex_irrefl] at this
      cases this
theorem leT_trans {a b c : Dt} (h : leT a b = true) (h2 : leT b c = true) : leT a c = true := by
  unfold leT at *
  cases h3 : PySem.W.dataLt (encT c) (encT a) with
  | false => rfl
  | true =>
    rcases lex_negTrans _ (PySem.W.keyToks (encT b)) _ h3 with h4 | h4
    · rw [show PySem.W.dataLt (encT c) (encT b) = true from h4] at h2
      cases h2
    · rw [show PySem.W.dataLt (encT b) (encT a) = true from h4] at h
      cases h
theorem isort_leT (ts : List Dt) : isortL leT ts = ts.mergeSort leT := isortL_is (le := leT) (fun _ _ _ h h2 => leT_trans h h2) leT_total ts
def seqT (S : Sto) (d : Dv) : Option (List Dt) := (seqAt S d).bind pures
def pSorted : PN := fun ds S => match ds with
  | [d] => (match seqT S d with
    | some ts => if sortChk ts = true then some (.d (.lst (isortL leT ts)), S) else none
    | none => none)
  | _ => none
section
variable {X : Cx} {G : Gs}
theorem b_sorted (hK : G.K = X.K) (hu : X.A.units + 64 < cLine) : CallR X (.builtin "sorted") (qN G pSorted) := by
  intro pins s σ H xs us Q I rx h
  obtain ⟨A, S, ds, rd, st, p⟩ := h
  unfold pSorted at p
  split at p
  · obtain ⟨v, rfl, r⟩ := RDs.one rd
    split at p
    · rename_i ts e
      split at p
      · rename_i hz
        obtain ⟨ds, e1, e2⟩ := Option.bind_eq_some_iff.mp e
        obtain ⟨a, vs, rfl, hs, hv⟩ := seqAt_rd st r e1
        rw [hK] at hs
        obtain rfl := Vals.ref1 rx
        exact sorted_col hK hu (col_seq I hs (pures_rvs e2 hv)) (fun us eu => by rw [eu]; exact sortChk_ok hz) fun us vs' eu hv' => by
          subst eu
          exact poL p st (by rw [isort_leT]; exact hv')
      · exact p.elim
    · exact p.elim
  · exact p.elim
end
end Sm
/-! Sm14: sets of keys, made from a list, a tuple, a dict, and sorted. -/
namespace Sm
open PySem PySem.Spec PyProof.Rows L2

def keyX (e : Int × Value) : Key := match e.2 with
  | .int i _ => .inl i
  | .str z _ => .inr z
  | _ => .inl 0
def GoodX (P : Program) (w : World) (e : Int × Value) : Prop := (mixKind P w).is (keyX e) e.2 = true ∧ e.1 = (mixKind P w).hash (keyX e)
theorem keyX_of {P : Program} {w : World} {k : Key} {v : Value} {h : Int} (e : (mixKind P w).is k v = true) : keyX (h, v) = k := by
  rcases keyIs_shape (k := k) (v := v) e with ⟨i, t, rfl, rfl⟩ | ⟨x, t, rfl, rfl⟩
  · rfl
  · rfl
theorem scan_of {P : Program} {w : World} {k : Key} {v : Value} (e : (mixKind P w).is k v = true) : v.scannable = true := key_scan (keyIs_rel e)
/-- entries es, in the table t, have the keys S, n of them -/
structure SetC (P : Program) (w : World) (es : Array (Int × Value)) (t : SetTable) (S : Key → Bool) (n : Nat) : Prop where
  good : ∀ e ∈ es.toList, GoodX P w e
  nd : (es.toList.map keyX).Nodup
  mem : ∀ k, S k = true ↔ k ∈ es.toList.map keyX
  lt : es.size < scanBound
  fit : t.fits es.size = true
  sz : es.size = n
  ris : Ris t.place.toList
  led : w.params.followText "set-order" = true ∨ t.led = true
def SetX (P : Program) (w : World) (h : Heap) (a : Addr) (S : Key → Bool) (n : Nat) : Prop := ∃ o es ep t, h.get? a = some o ∧ o.ExactSet ∧ o.data = .set es ep t ∧ SetC P w es t S n
section
variable {P : Program} {w : World} {A : Around} {E : Value → Shared → Prop} {s : Shared} {h h' : Heap} {a : Addr} {S S' : Key → Bool} {n : Nat} {es es' : Array (Int × Value)} {t t' : SetTable}
theorem SetC.elems (c : SetC P w es t S n) : ElemsOf (mixKind P w) es.toList := fun e he => ⟨⟨_, (c.good e he).1, (c.good e he).2⟩, scan_of (c.good e he).1⟩
theorem good_key {e : Int × Value} (g : GoodX P w e) (k : Key) : (mixKind P w).is k e.2 = true ↔ keyX e = k :=
  ⟨fun z => (mixKind P w).inj e.2 _ _ g.1 z, fun z => by rw [← z]; exact g.1⟩
theorem SetC.has (c : SetC P w es t S n) (k : Key) : S k = true ↔ ∃ e ∈ es.toList, (mixKind P w).is k e.2 = true := by
  rw [c.mem, List.mem_map]
  exact ⟨fun ⟨e, he, q⟩ => ⟨e, he, (good_key (c.good e he) k).2 q⟩, fun ⟨e, he, q⟩ => ⟨e, he, (good_key (c.good e he) k).1 q⟩⟩
theorem SetX.at (R : SetX P w h a S n) (k : ∀ o, h.get? a = some o → h'.get? a = some o) : SetX P w h' a S n := by
  obtain ⟨o, es, ep, t, ho, q⟩ := R
  exact ⟨o, es, ep, t, k o ho, q⟩
theorem SetX.congr (R : SetX P w h a S n) (e : ∀ k, S' k = S k) : SetX P w h a S' n := by
  rw [show S' = S from funext e]
  exact R
theorem SetC.perm (c : SetC P w es t S n) (p : es'.toList.Perm es.toList) (f : t'.fits es'.size = true) (r : Ris t'.place.toList) (l : t'.led = t.led) : SetC P w es' t' S n := by
  have z : es'.size = es.size := by rw [← Array.length_toList, p.length_eq, Array.length_toList]
  exact ⟨fun e he => c.good e (p.mem_iff.mp he), (p.map keyX).nodup_iff.mpr c.nd, fun k => (c.mem k).trans (p.map keyX).mem_iff.symm, by rw [z]; exact c.lt, f, z.trans c.sz, r, c.led.imp id fun q => l.trans q⟩
/-- the store, and the table laid anew where it is too full -/
theorem setX_tail {g : Bool → Sem Unit} (hg : ∀ (b : Bool) (s₁ : Shared) (Q' : Unit → Shared → Prop), Q' () s₁ → wpAny (model P w) A (g b) Q' E s₁) {o : Obj} {ep : Nat} (ho : s.heap.get? a = some o) (hx : o.ExactSet) (hd : o.data = .set es ep t)
    (c : SetC P w es' t' S n) {dummy : Bool} {R : Option Bool → Shared → Prop} (hR : ∀ h', Heap.SameBut a s.heap h' → SetX P w h' a S n → R (some true) { s with heap := h' }) :
    wpAny (model P w) A (do
      storeSet a es' t'
      if (!dummy && t'.tooFull) = true then do
        g (relayAll t' es' (SetTable.grown es'.size)).2.2
        storeSet a (relayAll t' es' (SetTable.grown es'.size)).1 (relayAll t' es' (SetTable.grown es'.size)).2.1
        pure (some true)
      else pure (some true)) R E s := by
  have o1 := store_at (es' := es') (t' := t') ho hd
  have b1 := Heap.SameBut.update s.heap a (Obj.putSet es' t')
  refine wpAny_bind (wpAny_storeSet_of ho hd ?_ (fits_of_scanBound c.lt))
  split
  · have c2 := c.perm (relayAll_perm t' es' (SetTable.grown es'.size)) (relayAll_fits t' es' _) (relayAll_ris t' es' _) (relayAll_led t' es' _)
    generalize relayAll t' es' (SetTable.grown es'.size) = Z at c2 ⊢
    obtain ⟨es2, t3, gave⟩ := Z
    dsimp only at c2 ⊢
    refine wpAny_bind (hg _ _ _ (wpAny_bind (wpAny_storeSet_of o1 rfl ?_ (fits_of_scanBound c2.lt))))
    have o2 := store_at (es' := es2) (t' := t3) o1 rfl
    exact wpAny_pure (hR _ (b1.trans (Heap.SameBut.update _ a _)) ⟨_, es2, _, t3, o2, hx, rfl, c2⟩)
  · exact wpAny_pure (hR _ b1 ⟨_, es', _, t', o1, hx, rfl, c⟩)
theorem setX_add {k : Key} {x : Value} {Q : Bool → Shared → Prop} (hk : (mixKind P w).is k x = true) (R : SetX P w s.heap a S n) (room : n + 1 < scanBound)
    (hQ : ∀ h', Heap.SameBut a s.heap h' → SetX P w h' a (fun j => S j || decide (j = k)) (if S k = true then n else n + 1) → Q (!S k) { s with heap := h' }) : wpAny (model P w) A (setAddHashed a x ((mixKind P w).hash k)) Q E s := by
  obtain ⟨o, es, ep, t, ho, hx, hd, c⟩ := R
  have hsc : x.scannable = true := scan_of hk
  unfold setAddHashed setAddHashedIn
  refine wpAny_holding (wpAny_bind (wpAny_setState_of ho hd c.fit ?_))
  dsimp only
  rw [byScan_of hsc c.lt c.elems]
  simp only [↓reduceIte]
  unfold setAddByScan
  refine wpAny_bind (wpAny_bind (wpAny_rule (wpAny_bind (wpAny_setScan_of hk ho hd c.fit c.elems ?_))))
  cases hfi : List.findIdx? (fun e => (mixKind P w).is k e.2) es.toList with
  | some j =>
    obtain ⟨hj, pj, _⟩ := List.findIdx?_eq_some_iff_getElem.mp hfi
    have hSk : S k = true := (c.has k).2 ⟨es.toList[j], List.getElem_mem hj, pj⟩
    have q := hQ s.heap (Heap.SameBut.refl a s.heap) ⟨o, es, ep, t, ho, hx, hd, ⟨c.good, c.nd, fun i => by
      rw [Bool.or_eq_true, decide_eq_true_eq, ← c.mem i]
      exact ⟨fun z => z.elim id fun e => e ▸ hSk, .inl⟩, c.lt, c.fit, by rw [if_pos hSk]; exact c.sz, c.ris, c.led⟩⟩
    rw [hSk] at q
    exact wpAny_pure (wpAny_pure q)
  | none =>
    have hnk : k ∉ es.toList.map keyX := fun z => by
      obtain ⟨e, he, q⟩ := (c.has k).1 ((c.mem k).2 z)
      rw [List.findIdx?_eq_none_iff.mp hfi e he] at q
      cases q
    have hSk : S k = false := by
      cases q : S k with
      | false => rfl
      | true => exact absurd ((c.mem k).1 q) hnk
    have hgw : ∀ (b : Bool) {s₁ : Shared} {Q' : Unit → Shared → Prop}, Q' () s₁ → wpAny (model P w) A (match b with | true => rule "set.scan.the-table-gave-way" | false => pure ()) Q' E s₁ := fun b s₁ Q' q => by
      cases b
      · exact wpAny_pure q
      · exact wpAny_rule q
    have pm := layNew_perm t es ((mixKind P w).hash k) x
    have hf := layNew_fits t es ((mixKind P w).hash k) x
    have hr := layNew_ris t es ((mixKind P w).hash k) x c.ris
    have hl := layNew_led t es ((mixKind P w).hash k) x
    generalize layNew t es ((mixKind P w).hash k) x = Z at pm hf hr hl ⊢
    obtain ⟨es1, t1, dummy, gave⟩ := Z
    dsimp only at pm hf hr hl ⊢
    rw [Array.toList_push] at pm
    have pc : es1.toList.Perm (((mixKind P w).hash k, x) :: es.toList) := pm.trans (List.perm_append_singleton _ _)
    have pk : (es1.toList.map keyX).Perm (k :: es.toList.map keyX) := by
      have := pc.map keyX
      rw [List.map_cons, keyX_of hk] at this
      exact this
    have hz : es1.size = n + 1 := by rw [← Array.length_toList, pc.length_eq, List.length_cons, Array.length_toList, c.sz]
    have cc : ∀ t2 : SetTable, t2.fits es1.size = true → Ris t2.place.toList → t2.led = t.led → SetC P w es1 t2 (fun j => S j || decide (j = k)) (n + 1) := fun t2 f r l =>
      ⟨fun e he => (List.mem_cons.mp (pc.mem_iff.mp he)).elim (fun z => by rw [z]; exact ⟨by rw [keyX_of hk]; exact hk, by rw [keyX_of hk]⟩) (c.good e), pk.nodup_iff.mpr (List.nodup_cons.mpr ⟨hnk, c.nd⟩), fun i => by
        rw [Bool.or_eq_true, decide_eq_true_eq, c.mem i, pk.mem_iff, List.mem_cons]
        exact Or.comm, by rw [hz]; exact room, f, hz, r, c.led.imp id fun q => l.trans q⟩
    have fin : ∀ h', Heap.SameBut a s.heap h' → SetX P w h' a (fun j => S j || decide (j = k)) (n + 1) → Q true { s with heap := h' } := fun h' sb r => by
      have q := hQ h' sb
      rw [hSk] at q
      exact q r
    have hrule : ∀ (b : Bool) (s₁ : Shared) (Q' : Unit → Shared → Prop), Q' () s₁ → wpAny (model P w) A (match b with | true => rule "set.scan.the-table-gave-way" | false => pure ()) Q' E s₁ := fun b s₁ Q' q => hgw b q
    refine wpAny_bind (hgw _ ?_)
    split
    · refine wpAny_bind ?_
      rw [hashByValue_scannable 8 hsc]
      refine wpAny_pure ?_
      refine setX_tail ?_ ho hx hd (cc _ ?_ ?_ ?_) ?_
      · intro b s₁ Q' q
        cases b <;> first | exact wpAny_pure q | exact wpAny_rule q
      · split <;> first | exact hf | exact SetTable.fits_plain_off hf
      · split <;> exact hr
      · split <;> exact hl
      · intro h' sb r
        dsimp only
        exact wpAny_pure (fin h' sb r)
    · refine wpAny_bind (wpAny_pure ?_)
      simp only [↓reduceIte]
      refine setX_tail ?_ ho hx hd (cc _ hf hr hl) ?_
      · intro b s₁ Q' q
        cases b <;> first | exact wpAny_pure q | exact wpAny_rule q
      · intro h' sb r
        dsimp only
        exact wpAny_pure (fin h' sb r)
theorem setX_fresh {h : Heap} (ho : h.get? a = some { cls := .type "set", dict := none, data := .set #[] 0 (.fresh 0 0 (!w.params.followText "set-order")) }) : SetX P w h a (fun _ => false) 0 :=
  ⟨_, #[], 0, _, ho, ⟨rfl, rfl, rfl⟩, rfl, ⟨fun e he => by simp at he, by simp, fun k => by simp, by decide, by rfl, rfl, List.Pairwise.nil, by
    show _ ∨ (!w.params.followText "set-order") = true
    cases w.params.followText "set-order"
    · exact .inr rfl
    · exact .inl rfl⟩⟩
/-- the loop over what is walked -/
theorem setX_loop {I : Addr} {fp wr : List Addr} {G : Array GenState → Array GenState → Prop} {Pv : Nat → Value → Prop} {St : Nat → Shared → Prop} {R : Result → Shared → Prop} (W : WalksS P w A.in1 I fp wr G n Pv St) (D : Addr) (hD : D ∉ fp) (ks : List Key) (hn : n = ks.length) (hb : ks.length + 1 < scanBound)
    (hval : ∀ i v, Pv i v → ∃ k, ks[i]? = some k ∧ (mixKind P w).is k v = true) : ∀ (m i : Nat) (s : Shared), n - i = m → i ≤ n → St i s → (∃ c, c ≤ i ∧ SetX P w s.heap D (hasK (ks.take i)) c) →
      (∀ s' c, Moved (D :: wr) G s s' → c ≤ n → SetX P w s'.heap D (hasK ks) c → R (.ok (.ret .none)) s') → codeAny (model P w) A (.builtin "set.update.loop" ⟨[.ref D, .ref I], []⟩) R s := by
  have hDw : D ∉ wr := fun z => hD (W.sub _ z)
  have sub : ∀ b ∈ wr, b ∈ D :: wr := fun b hb => List.mem_cons_of_mem _ hb
  intro m
  induction m with
  | zero =>
    intro i s hm hi hst ⟨c, hc, hS⟩ hR
    obtain rfl : i = n := by omega
    refine codeAny_builtin F.entry_set_update_loop ?_
    rw [Around.under_plainId F.plain_set_update_loop _]
    show wpAny _ A.in1 (pyNext (.ref I) >>= fun z => _) _ _ s
    refine wpAny_bind (W.done s _ _ hst fun s' hv => wpAny_pure (hR s' c (hv.mono sub) hc ?_))
    rw [List.take_of_length_le (by omega)] at hS
    exact hS.at fun o e => hv.heap D o hDw e
  | succ m ih =>
    intro i s hm hi hst ⟨c, hc, hS⟩ hR
    have hlt : i < n := by omega
    refine codeAny_builtin F.entry_set_update_loop ?_
    rw [Around.under_plainId F.plain_set_update_loop _]
    show wpAny _ A.in1 (pyNext (.ref I) >>= fun z => _) _ _ s
    refine wpAny_bind (W.item i s _ _ hlt hst fun v s' hP hst' hv => ?_)
    obtain ⟨k, hk, hkv⟩ := hval i v hP
    have hS1 : SetX P w s'.heap D (hasK (ks.take i)) c := hS.at fun o e => hv.heap D o hDw e
    show wpAny _ A.in1 (holding [v] (setAdd D v) >>= fun z => _) _ _ s'
    refine wpAny_bind (wpAny_holding ?_)
    unfold setAdd
    refine wpAny_holding (wpAny_bind ((mixKind P w).pyHash (k := k) hkv ?_))
    refine setX_add (s := { s' with toks := s'.toks + 1 }) hkv hS1 (by omega) fun h' sb hS2 => ?_
    have hS3 : SetX P w h' D (hasK (ks.take (i + 1))) (if hasK (ks.take i) k = true then c else c + 1) := hS2.congr fun j => by
      rw [List.take_add_one, hk]
      unfold hasK
      simp [List.any_append, eq_comm]
    have hc3 : (if hasK (ks.take i) k = true then c else c + 1) ≤ i + 1 := by split <;> omega
    refine wpAny_pure ⟨plainId_quiet F.plain_set_update_loop _, ih (i + 1) _ (by omega) hlt (W.frame _ s' _ _ hst' (Nat.le_succ _) fun b hb o e => ?_) ⟨_, hc3, hS3⟩ fun s'' c2 hm2 hc2 hS4 => ?_⟩
    · rw [sb.2 b fun z => hD (z ▸ hb)]
      exact e
    · refine hR s'' c2 (Moved.trans W.gtrans ((hv.mono sub).then_heap (Nat.le_succ _) fun b o hb e => ?_) hm2) hc2 hS4
      rw [sb.2 b fun z => hb (by rw [z]; exact List.mem_cons_self)]
      exact e
end
end Sm
/-! Sm15: set(x) of a list, a tuple, a dict of keys; sorted(set(x)). -/
namespace Sm
open PySem PySem.Spec PyProof.Rows L2

abbrev newSetO (w : World) : Obj := { cls := .type "set", dict := none, data := .set #[] 0 (.fresh 0 0 (!w.params.followText "set-order")) }
/-- how the set at D is filled from x -/
def Fills (P : Program) (w : World) (s : Shared) (x : Value) (ks : List Key) : Prop :=
  ∀ (A : Around) (id : String) (E : Value → Shared → Prop) (Q : Unit → Shared → Prop), A.handled = none →
    (∀ h' tk c, c ≤ ks.length → SetX P w h' s.heap.objs.size (hasK ks) c → (∀ b o, s.heap.get? b = some o → h'.get? b = some o) → Q () { s with heap := h', toks := tk }) →
    wpAny (model P w) A (Builtin.Frozenset.updateFrom id s.heap.objs.size x) Q E { s with heap := s.heap.push (newSetO w) }
section
variable {P : Program} {w : World} {A : Around} {E : Value → Shared → Prop} {s : Shared} {l : Addr} {ks : List Key}
set_option maxHeartbeats 3200000 in
theorem call_setX {x : Value} {Q : Value → Shared → Prop} (hh : A.handled = none) (hU : Fills P w s x ks)
    (h : ∀ (h' : Heap) (tk c : Nat), c ≤ ks.length → SetX P w h' s.heap.objs.size (hasK ks) c → (∀ b o, s.heap.get? b = some o → h'.get? b = some o) → Q (.ref s.heap.objs.size) { s with heap := h', toks := tk }) : wpAny (model P w) A (call (.type "set") [x]) Q E s := by
  obtain ⟨c, tl, hmro⟩ := F.called_set.mro
  have hmade := F.called_set.made
  have hsub := F.called_set.sub
  refine wpAny_call (codeAny_of_tree ?_)
  show wpAny _ _ (callAny (.type "set") _) _ _ _
  refine wpAny_pure ⟨Code.quiet_builtin _ (by decide +kernel), codeAny_builtin F.entry_type_call ?_⟩
  rw [Around.under_plain (weight_type_call_type "set" [x] []) rfl]
  have h1 := F.called_set.notType
  have h2 := F.called_set.canCreate
  have hct := F.typeCall_set_1 x
  repeat (any_goals (first | assumption | wp_step))
  refine codeAny_mono (code_set_led1 x (E := E) (Q₁ := fun obj s₁ => obj = .ref s.heap.objs.size ∧ s₁ = { s with heap := s.heap.push (newSetO w) }) ⟨rfl, rfl⟩) fun r s₁ hr => ?_
  cases r with
  | error e => exact hr
  | ok fl =>
    cases fl with
    | ret obj =>
      obtain ⟨rfl, rfl⟩ := hr
      have hS : (s.heap.push (newSetO w)).get? s.heap.objs.size = some (newSetO w) := Heap.get?_push_size _ rfl
      have hT : Shared.TypeIs { s with heap := s.heap.push (newSetO w) } (.ref s.heap.objs.size) "set" := ⟨_, hS, rfl⟩
      have hli := F.called_set.init.lookup
      have hbi := F.called_set.init.bind (.ref s.heap.objs.size)
      repeat (any_goals (first | assumption | wp_step))
      refine codeAny_mono (codeAny_call_builtin (R := wants (fun r s₂ => r = .none ∧ ∃ h' tk c, s₂ = { s with heap := h', toks := tk } ∧ c ≤ ks.length ∧ SetX P w h' s.heap.objs.size (hasK ks) c ∧ (∀ b o, s.heap.get? b = some o → h'.get? b = some o)) E) F.called_set.init.plain F.entry_set_init (check_set_init_1 hT ?_)) fun r₂ s₂ hr₂ => ?_
      · unfold Builtin.«set.__init__» noKeywords
        generalize hUF : Builtin.Frozenset.updateFrom = UF
        wp_walk
        subst hUF
        refine hU _ _ _ _ (by simp [hh]) fun h' tk c hc hS' hk => ?_
        show wpAny _ _ (ret Value.none) _ _ _
        exact wpAny_pure ⟨rfl, h', tk, c, rfl, hc, hS', hk⟩
      · cases r₂ with
        | error e => exact hr₂
        | ok fl₂ =>
          cases fl₂ with
          | ret r =>
            obtain ⟨rfl, h', tk, c', rfl, hc, hS', hk⟩ := hr₂
            repeat (any_goals (first | assumption | wp_step))
            exact h _ _ _ hc hS' hk
          | _ => exact hr₂.elim
    | _ => exact hr.elim
/-- the first steps of the filling, for a type that is no set -/
theorem fill_start {T : String} {x : Value} {id : String} {D : Addr} {Q : Unit → Shared → Prop} (hT : s.TypeIs x T) (h1 : isSubtype (.type T) (.type "set") = pure false) (h2 : isSubtype (.type T) (.type "frozenset") = pure false) (hd : (Value.type T == Value.type "dict") = false)
    (h : wpAny (model P w) A (do
      let _ ← runValue (.builtin "set.update.loop" ⟨[.ref D, ← pyIter x], []⟩)) Q E s) : wpAny (model P w) A (Builtin.Frozenset.updateFrom id D x) Q E s := by
  unfold Builtin.Frozenset.updateFrom Builtin.Frozenset.isAnySet
  refine wpAny_bind (wpAny_bind (wpAny_isInstance hT h1 (wpAny_isInstance hT h2 ?_)))
  refine wpAny_bind (wpAny_typeOf hT ?_)
  rw [hd]
  exact h
theorem fills_walk {T : String} {oI : Obj} {fp wr : List Addr} {n : Nat} {Pv : Nat → Value → Prop} {St : Nat → Heap → Prop} {x : Value} (hT : ∀ h, (∀ b o, s.heap.get? b = some o → h.get? b = some o) → Shared.TypeIs { s with heap := h } x T)
    (h1 : isSubtype (.type T) (.type "set") = pure false) (h2 : isSubtype (.type T) (.type "frozenset") = pure false) (hd : (Value.type T == Value.type "dict") = false)
    (hi : ∀ (A : Around) (E : Value → Shared → Prop) (Q : Value → Shared → Prop), Q (.ref (s.heap.objs.size + 1)) { s with heap := (s.heap.push (newSetO w)).push oI } → wpAny (model P w) A (pyIter x) Q E { s with heap := s.heap.push (newSetO w) })
    (hW : ∀ A : Around, A.handled = none → Walks P w A (s.heap.objs.size + 1) fp [s.heap.objs.size + 1] n Pv St) (h0 : St 0 ((s.heap.push (newSetO w)).push oI)) (hD : s.heap.objs.size ∉ fp) (hn : n = ks.length) (hb : ks.length + 1 < scanBound) (hval : ∀ (i : Nat) (v : Value), Pv i v → ∃ k : Key, ks[i]? = some k ∧ (mixKind P w).is k v = true) : Fills P w s x ks := by
  intro A id E Q hh hQ
  refine fill_start (hT _ fun b o e => Heap.get?_push_of_some _ e) h1 h2 hd ?_
  refine wpAny_bind (hi _ _ _ (wpAny_bind (wpAny_runValue ?_)))
  have g0 : ((s.heap.push (newSetO w)).push oI).get? s.heap.objs.size = some (newSetO w) := Heap.get?_push_of_some _ (Heap.get?_push_size _ rfl)
  refine setX_loop ((hW A.in1 hh).toS) s.heap.objs.size hD ks hn hb hval (n - 0) 0 _ (by omega) (Nat.zero_le _) h0 ⟨0, Nat.le_refl 0, SetX.congr (setX_fresh g0) fun k => rfl⟩ fun s' c hm hc hS' => ?_
  obtain ⟨h', g', d', tk', os'⟩ := s'
  have eg : g' = s.gens := hm.gens
  have ed : d' = s.drawn := hm.drawn
  have eo : os' = s.os := hm.os
  subst eg ed eo
  refine wpAny_pure (hQ h' tk' c (by omega) hS' fun b o e => ?_)
  have hb0 : b < s.heap.objs.size := Heap.lt_size e
  exact hm.heap b o (by
    simp only [List.mem_cons, List.not_mem_nil, or_false, not_or]
    exact ⟨Nat.ne_of_lt hb0, Nat.ne_of_lt (Nat.lt_succ_of_lt hb0)⟩) (Heap.get?_push_of_some _ (Heap.get?_push_of_some _ e))
end
end Sm
/-! Sm16: set(x) of a list, a tuple, a dict; sorted(set(x)). -/
namespace Sm
open PySem PySem.Spec PyProof.Rows L2
theorem key_is {P : Program} {w : World} {k : Key} {u : Value} (r : RelV (kV k) u) : (mixKind P w).is k u = true := by
  cases k with
  | inl i =>
    obtain ⟨t, rfl⟩ := r
    exact keyIs_int i t
  | inr x =>
    obtain ⟨t, rfl⟩ := r
    exact keyIs_str x t
theorem keys_at' : ∀ {ks : List Key} {its : List Value}, Vals (ks.map kV) its → ∀ (i : Nat) (v : Value), its[i]? = some v → ∃ k : Key, ks[i]? = some k ∧ RelV (kV k) v
  | [], _, r, i, v, e => by
    cases r
    simp at e
  | k :: ks, _, r, i, v, e => by
    cases r with
    | cons r1 r2 =>
      cases i with
      | zero =>
        simp at e
        subst e
        exact ⟨k, rfl, r1⟩
      | succ i =>
        obtain ⟨k', e1, e2⟩ := keys_at' r2 i v (by simpa using e)
        exact ⟨k', by simpa using e1, e2⟩
section
variable {P : Program} {w : World} {A : Around} {E : Value → Shared → Prop} {s : Shared} {l : Addr} {ks : List Key}
theorem fills_list {its : List Value} (hl : s.heap.IsList l its.toArray) (r : Vals (ks.map kV) its) (hb : ks.length + 1 < scanBound) : Fills P w s (.ref l) ks := by
  have hlt : l < s.heap.objs.size := by
    obtain ⟨o, ho, _⟩ := hl
    exact Heap.lt_size ho
  have hz : (s.heap.push (newSetO w)).objs.size = s.heap.objs.size + 1 := Heap.size_push ..
  refine fills_walk (wr := []) (T := "list") (oI := { cls := .type "list_iterator", data := .fields #[.ref l, .int 0 0] }) (fun h k => ?_) PySem.F.sub_list_set PySem.F.sub_list_frozenset (by decide) (fun A E Q q => ?_)
    (fun A hh => Walks.list hh (s.heap.objs.size + 1) l (Nat.ne_of_lt (Nat.lt_succ_of_lt hlt)) its.toArray) ⟨⟨{ cls := .type "list_iterator", data := .fields #[.ref l, .int 0 0] }, ?_, rfl, rfl⟩, (hl.push _).push _⟩ ?_ ?_ hb fun i v e => ?_
  · obtain ⟨o, ho, hc, _⟩ := hl
    exact ⟨o, k _ _ ho, hc⟩
  · refine wpAny_pyIter_list (hl.push _) ?_
    rw [hz]
    exact q
  · rw [← hz]
    exact Heap.get?_push_size _ rfl
  · simp only [List.mem_cons, List.not_mem_nil, or_false, not_or]
    exact ⟨Nat.ne_of_lt (Nat.lt_succ_self _), Nat.ne_of_gt hlt⟩
  · have := r.length
    rw [List.length_map] at this
    simp [← this]
  · obtain ⟨k, e1, e2⟩ := keys_at' r i v (by simpa using e)
    exact ⟨k, e1, key_is e2⟩
theorem fills_tuple {its : List Value} (hl : s.heap.IsTuple l its.toArray) (r : Vals (ks.map kV) its) (hb : ks.length + 1 < scanBound) : Fills P w s (.ref l) ks := by
  have hlt : l < s.heap.objs.size := by
    obtain ⟨o, ho, _⟩ := hl
    exact Heap.lt_size ho
  have hz : (s.heap.push (newSetO w)).objs.size = s.heap.objs.size + 1 := Heap.size_push ..
  refine fills_walk (wr := []) (T := "tuple") (oI := { cls := .type "tuple_iterator", data := .fields #[.ref l, .int 0 0] }) (fun h k => ?_) PySem.F.sub_tuple_set PySem.F.sub_tuple_frozenset (by decide) (fun A E Q q => ?_)
    (fun A hh => Walks.tuple hh (s.heap.objs.size + 1) l (Nat.ne_of_lt (Nat.lt_succ_of_lt hlt)) its.toArray) ⟨⟨{ cls := .type "tuple_iterator", data := .fields #[.ref l, .int 0 0] }, ?_, rfl, rfl⟩, (hl.push _).push _⟩ ?_ ?_ hb fun i v e => ?_
  · obtain ⟨o, ho, hc, _⟩ := hl
    exact ⟨o, k _ _ ho, hc⟩
  · refine wpAny_pyIter_tuple (hl.push _) ?_
    rw [hz]
    exact q
  · rw [← hz]
    exact Heap.get?_push_size _ rfl
  · simp only [List.mem_cons, List.not_mem_nil, or_false, not_or]
    exact ⟨Nat.ne_of_lt (Nat.lt_succ_self _), Nat.ne_of_gt hlt⟩
  · have := r.length
    rw [List.length_map] at this
    simp [← this]
  · obtain ⟨k, e1, e2⟩ := keys_at' r i v (by simpa using e)
    exact ⟨k, e1, key_is e2⟩
theorem above_go : ∀ (f z n : Nat), SetTable.sizeAbove.go n f z ≤ max z (2 * n)
  | 0, z, n => by
    unfold SetTable.sizeAbove.go
    omega
  | f + 1, z, n => by
    unfold SetTable.sizeAbove.go
    split
    · have := above_go f (z * 2) n
      omega
    · omega
theorem above_le (n : Nat) : SetTable.sizeAbove n ≤ max 8 (2 * n) := above_go 64 8 n
/-- an empty table laid anew -/
theorem relaid_nil (t : SetTable) (wanted : Nat) : ∃ t', t.relaid #[] wanted = some (t', #[]) ∧ t'.place = #[] ∧ t'.led = t.led ∧ t'.fits 0 = true := by
  have hl : ((List.range (SetTable.sizeAbove wanted - 1 + 1)).filterMap fun j => ((Array.replicate (SetTable.sizeAbove wanted - 1 + 1) (none : Option Nat)).getD j none).map (j, ·)) = [] := by
    rw [List.filterMap_eq_nil_iff]
    intro j _
    have : (Array.replicate (SetTable.sizeAbove wanted - 1 + 1) (none : Option Nat)).getD j none = none := by
      unfold Array.getD
      split
      · simp
      · rfl
    rw [this]
    rfl
  have e : t.relaid #[] wanted = some (⟨SetTable.sizeAbove wanted - 1, #[], #[], t.finger, t.led, t.movedTo (SetTable.sizeAbove wanted - 1), t.plain⟩, #[]) := by
    show ((some (Array.replicate (SetTable.sizeAbove wanted - 1 + 1) (none : Option Nat))).bind fun owner => some (({ mask := SetTable.sizeAbove wanted - 1, place := (((List.range (SetTable.sizeAbove wanted - 1 + 1)).filterMap fun j => (owner.getD j none).map (j, ·)).map (·.1)).toArray, dummies := #[], finger := t.finger, led := t.led, moves := t.movedTo (SetTable.sizeAbove wanted - 1), plain := t.plain } : SetTable), (((List.range (SetTable.sizeAbove wanted - 1 + 1)).filterMap fun j => (owner.getD j none).map (j, ·)).map (·.2)).toArray)) = _
    rw [Option.bind_some, hl]
    rfl
  exact ⟨_, e, rfl, rfl, rfl⟩
theorem setX_room {D : Addr} {led : Bool} {n : Nat} {Q : Unit → Shared → Prop} (hS : s.heap.get? D = some { cls := .type "set", dict := none, data := .set #[] 0 (.fresh 0 0 led) }) (hl : w.params.followText "set-order" = true ∨ led = true) (hn : n ≤ 4000)
    (hQ : ∀ h', Heap.SameBut D s.heap h' → SetX P w h' D (fun _ => false) 0 → Q () { s with heap := h' }) : wpAny (model P w) A (setRoomFor D n) Q E s := by
  have base : SetC P w #[] (.fresh 0 0 led) (fun _ => false) 0 := ⟨fun e he => by simp at he, by simp, fun k => by simp, by decide, by rfl, rfl, List.Pairwise.nil, hl⟩
  unfold setRoomFor
  refine wpAny_bind (wpAny_setState_of hS rfl (by rfl) ?_)
  dsimp only
  cases hr : (SetTable.fresh 0 0 led).roomFor n with
  | none => exact wpAny_pure (hQ s.heap (Heap.SameBut.refl D s.heap) ⟨_, #[], 0, _, hS, ⟨rfl, rfl, rfl⟩, rfl, base⟩)
  | some wanted =>
    have hw : wanted = n * 2 := by
      unfold SetTable.roomFor at hr
      split at hr
      · have := Option.some.inj hr
        simpa [SetTable.fresh] using this.symm
      · cases hr
    subst hw
    show wpAny _ _ (setRelay D (n * 2)) _ _ _
    rw [setRelay_eq]
    refine wpAny_bind (wpAny_setState_of hS rfl (by rfl) ?_)
    dsimp only
    have hz : ¬ SetTable.sizeAbove (n * 2) > sizeLine := by
      have := above_le (n * 2)
      rw [sizeLine_eq]
      omega
    rw [if_neg hz]
    obtain ⟨t', e1, e2, e3, e4⟩ := relaid_nil (SetTable.fresh 0 0 led) (n * 2)
    have em : (#[] : Array (Int × Value)).map (·.1) = #[] := by simp
    rw [em, e1]
    refine wpAny_bind ?_
    show wpAny _ _ (if ((#[] : Array Nat).filterMap fun j => (#[] : Array (Int × Value))[j]?).size != (#[] : Array (Int × Value)).size then _ else pure (((#[] : Array Nat).filterMap fun j => (#[] : Array (Int × Value))[j]?), t') : Sem (Array (Int × Value) × SetTable)) _ _ _
    have ef : ((#[] : Array Nat).filterMap fun j => (#[] : Array (Int × Value))[j]?) = #[] := by simp
    rw [ef]
    refine wpAny_pure ?_
    refine wpAny_storeSet_of hS rfl ?_ (by simp)
    refine hQ _ (Heap.SameBut.update s.heap D _) ⟨_, #[], _, t', store_at hS rfl, ⟨rfl, rfl, rfl⟩, rfl, ⟨fun e he => by simp at he, by simp, fun k => by simp, by decide, e4, rfl, ?_, ?_⟩⟩
    · rw [e2]
      exact List.Pairwise.nil
    · rw [e3]
      exact hl
theorem pairs_at {kk : List (Key × Value)} : ∀ {es : List DictEntry}, Pairs (mixKind P w) es kk → ∀ (i : Nat) (e : DictEntry), es[i]? = some e → ∃ k : Key, (kk.map (·.1))[i]? = some k ∧ (mixKind P w).is k e.key = true
  | _, .nil, i, e, h => by simp at h
  | _, .cons h1 h2 h3, 0, e, h => by
    simp at h
    subst h
    exact ⟨_, rfl, h1⟩
  | _, .cons h1 h2 h3, i + 1, e, h => by
    obtain ⟨k, e1, e2⟩ := pairs_at h3 i e (by simpa using h)
    exact ⟨k, by simpa using e1, e2⟩
theorem pairs_len {kk : List (Key × Value)} : ∀ {es : List DictEntry}, Pairs (mixKind P w) es kk → es.length = kk.length
  | _, .nil => rfl
  | _, .cons _ _ h3 => by simp [pairs_len h3]
theorem fills_dict {vs : List (Key × Value)} (lo : (l == sysModules) = false) (hd : s.heap.DictOf (mixKind P w) l vs) (hk : vs.map (·.1) = ks) (hb : ks.length ≤ 4000) : Fills P w s (.ref l) ks := by
  intro A id E Q hh hQ
  obtain ⟨o, es, ep, ho, hx, hdat, hkeys, hpairs, nd⟩ := hd
  have hlt : l < s.heap.objs.size := Heap.lt_size ho
  have ho1 : (s.heap.push (newSetO w)).get? l = some o := Heap.get?_push_of_some _ ho
  have hT : Shared.TypeIs { s with heap := s.heap.push (newSetO w) } (.ref l) "dict" := ⟨o, ho1, hx.1⟩
  have hlen : es.size = ks.length := by
    rw [← hk, List.length_map, ← pairs_len hpairs, Array.length_toList]
  unfold Builtin.Frozenset.updateFrom Builtin.Frozenset.isAnySet
  refine wpAny_bind (wpAny_bind (wpAny_isInstance hT PySem.F.sub_dict_set (wpAny_isInstance hT PySem.F.sub_dict_frozenset ?_)))
  refine wpAny_bind (wpAny_typeOf hT ?_)
  have e1 : (Value.type "dict" == Value.type "dict") = true := by decide
  rw [e1]
  refine wpAny_bind (wpAny_rule ?_)
  show wpAny _ _ (pure l >>= fun d => _) _ _ _
  refine wpAny_bind (wpAny_pure ?_)
  dsimp only
  rw [lo]
  refine wpAny_bind (wpAny_dictEpoch ho1 hdat ?_)
  refine wpAny_bind (wpAny_dictEntries ho1 hdat ?_)
  have hS : (s.heap.push (newSetO w)).get? s.heap.objs.size = some (newSetO w) := Heap.get?_push_size _ rfl
  have hled : w.params.followText "set-order" = true ∨ (!w.params.followText "set-order") = true := by
    cases w.params.followText "set-order"
    · exact .inr rfl
    · exact .inl rfl
  refine wpAny_bind (setX_room (s := { s with heap := s.heap.push (newSetO w) }) hS hled (by omega) fun h1 sb1 hS1 => ?_)
  have ho2 : h1.get? l = some o := by
    rw [sb1.2 l (Nat.ne_of_lt hlt)]
    exact ho1
  refine wpAny_bind (wpAny_dictEntries ho2 hdat ?_)
  refine wpAny_bind ?_
  refine _root_.TI.forIn_rng _ (fun rest b s' => ∃ i h' c, rest = List.range' i (es.size - i) ∧ i ≤ es.size ∧ s' = { s with heap := h' } ∧ SetX P w h' s.heap.objs.size (hasK (ks.take i)) c ∧ c ≤ i ∧ Heap.SameBut s.heap.objs.size (s.heap.push (newSetO w)) h') _ (fun x rest b s' hI => ?_) (fun b s' hI => ?_) _ ⟨0, h1, 0, by simp, Nat.zero_le _, rfl, hS1, Nat.le_refl 0, sb1⟩
  · obtain ⟨i, h', c, er, hi, rfl, hS', hc, sb⟩ := hI
    have hlt2 : i < es.size := by
      rcases Nat.lt_or_ge i es.size with z | z
      · exact z
      · rw [show es.size - i = 0 by omega] at er
        cases er
    rw [show es.size - i = (es.size - (i + 1)) + 1 by omega, List.range'_succ] at er
    cases er
    have ho3 : h'.get? l = some o := by
      rw [sb.2 l (Nat.ne_of_lt hlt)]
      exact ho1
    refine wpAny_bind (wpAny_dictEntries ho3 hdat ?_)
    have ee : es[x]? = some es[x] := Array.getElem?_eq_getElem hlt2
    rw [ee]
    dsimp only
    obtain ⟨k, ek, eis⟩ := pairs_at hpairs x es[x] (by rw [Array.getElem?_toList]; exact ee)
    rw [hk] at ek
    obtain ⟨k2, q1, q2⟩ := hkeys es[x] (Array.getElem_mem hlt2)
    have ekk : k2 = k := (mixKind P w).inj _ _ _ q1 eis
    subst ekk
    rw [q2]
    refine wpAny_bind (wpAny_holding (setX_add (s := { s with heap := h' }) eis hS' (by have : scanBound = scanBound := rfl; unfold scanBound; omega) fun h2 sb2 hS2 => ?_))
    have ho4 : h2.get? l = some o := by
      rw [sb2.2 l (Nat.ne_of_lt hlt)]
      exact ho3
    refine wpAny_bind (wpAny_dictEpoch ho4 hdat ?_)
    have ne : (ep != ep) = false := by simp
    rw [ne]
    refine wpAny_pure ⟨x + 1, h2, _, rfl, hlt2, rfl, SetX.congr hS2 fun j => ?_, ?_, sb.trans sb2⟩
    · rw [List.take_add_one, ek]
      unfold hasK
      simp [List.any_append, eq_comm]
    · split <;> omega
  · obtain ⟨i, h', c, er, hi, rfl, hS', hc, sb⟩ := hI
    have hie : i = es.size := by
      rcases Nat.lt_or_ge i es.size with z | z
      · rw [show es.size - i = (es.size - (i + 1)) + 1 by omega, List.range'_succ] at er
        cases er
      · omega
    subst hie
    rw [List.take_of_length_le (by omega)] at hS'
    refine wpAny_pure (hQ h' s.toks c (by omega) hS' fun b o e => ?_)
    rw [sb.2 b (Nat.ne_of_lt (Heap.lt_size e))]
    exact Heap.get?_push_of_some _ e
end
end Sm
/-! Sm17: sorted(set(x)) of texts. -/
namespace Sm
open PySem PySem.Spec PyProof.Rows L2

def leS (a b : Str) : Bool := !decide (b.cps.toList < a.cps.toList)
theorem leS_iff {a b : Str} : leS a b = true ↔ a.cps.toList ≤ b.cps.toList := by
  unfold leS
  simp
theorem leS_trans {a b c : Str} (h : leS a b = true) (h2 : leS b c = true) : leS a c = true := leS_iff.mpr (List.le_trans (leS_iff.mp h) (leS_iff.mp h2))
theorem leS_total (a b : Str) : (leS a b || leS b a) = true := by
  rw [Bool.or_eq_true, leS_iff, leS_iff]
  exact List.le_total _ _
theorem leS_anti {a b : Str} (h : leS a b = true) (h2 : leS b a = true) : a = b := PySem.W.str_of_cps (List.le_antisymm (leS_iff.mp h) (leS_iff.mp h2))
def sortS (l : List Str) : List Str := isortL leS l
theorem sortS_ms (l : List Str) : sortS l = l.mergeSort leS := isortL_is (le := leS) (fun _ _ _ h h2 => leS_trans h h2) leS_total l
theorem sortS_perm (l : List Str) : (sortS l).Perm l := by
  rw [sortS_ms]
  exact List.mergeSort_perm l leS
theorem sortS_sorted (l : List Str) : (sortS l).Pairwise fun a b => leS a b = true := by
  rw [sortS_ms]
  exact List.pairwise_mergeSort (le := leS) (fun _ _ _ h h2 => leS_trans h h2) leS_total l
theorem sorted_eq : ∀ {l m : List Str}, l.Pairwise (fun a b => leS a b = true) → m.Pairwise (fun a b => leS a b = true) → l.Perm m → l = m
  | [], m, _, _, p => by
    rw [List.nil_perm.mp p]
  | a :: l, [], _, _, p => absurd p.length_eq (by simp)
  | a :: l, b :: m, h1, h2, p => by
    obtain ⟨a1, a2⟩ := List.pairwise_cons.mp h1
    obtain ⟨b1, b2⟩ := List.pairwise_cons.mp h2
    have e : a = b := by
      have hb : b ∈ a :: l := p.mem_iff.mpr List.mem_cons_self
      have ha : a ∈ b :: m := p.mem_iff.mp List.mem_cons_self
      rcases List.mem_cons.mp hb with z | z
      · exact z.symm
      · rcases List.mem_cons.mp ha with z2 | z2
        · exact z2
        · exact leS_anti (a1 b z) (b1 a z2)
    subst e
    rw [sorted_eq a2 b2 (List.Perm.cons_inv p)]
theorem sortS_congr {l m : List Str} (p : l.Perm m) : sortS l = sortS m := sorted_eq (sortS_sorted l) (sortS_sorted m) ((sortS_perm l).trans (p.trans (sortS_perm m).symm))
/-- each once -/
def ddS : List Str → List Str
  | [] => []
  | a :: l => if (ddS l).contains a = true then ddS l else a :: ddS l
theorem ddS_mem {x : Str} : ∀ {l : List Str}, x ∈ ddS l ↔ x ∈ l
  | [] => Iff.rfl
  | a :: l => by
    unfold ddS
    split
    · rename_i h
      have h : a ∈ ddS l := by simpa using h
      rw [List.mem_cons, ddS_mem (l := l)]
      exact ⟨.inr, fun z => z.elim (fun e => by rw [e]; exact ddS_mem.mp h) id⟩
    · rw [List.mem_cons, List.mem_cons, ddS_mem (l := l)]
theorem ddS_len : ∀ l : List Str, (ddS l).length ≤ l.length
  | [] => Nat.le_refl _
  | a :: l => by
    have := ddS_len l
    unfold ddS
    split
    · rw [List.length_cons]
      omega
    · rw [List.length_cons, List.length_cons]
      omega
theorem ddS_nodup : ∀ l : List Str, (ddS l).Nodup
  | [] => List.nodup_nil
  | a :: l => by
    unfold ddS
    split
    · exact ddS_nodup l
    · rename_i h
      exact List.nodup_cons.mpr ⟨by simpa using h, ddS_nodup l⟩
theorem leT_str (a b : Str) : leT (.str a) (.str b) = leS a b := by
  show (!PySem.W.dataLt (.str b) (.str a)) = _
  rw [PySem.W.dataLt_str]
  rfl
theorem sort_strs (l : List Str) : isortL leT (l.map Dt.str) = (sortS l).map Dt.str := by
  rw [isort_leT, sortS_ms]
  exact (List.map_mergeSort (f := Dt.str) (r := leS) (s := leT) fun a _ b _ => (leT_str a b).symm).symm
theorem sortOk_strs {l : List Str} (h : l.length ≤ 16777216) : SortOk (l.map Dt.str) := by
  refine ⟨fun t ht => ?_, fun d hd d' hd' => ?_, .inl (.inr fun d hd => ?_), fun t ht => ?_, by rw [List.length_map]; exact h⟩
  · obtain ⟨a, _, rfl⟩ := List.mem_map.mp ht
    exact ⟨_, rfl⟩
  · obtain ⟨t, ht, rfl⟩ := List.mem_map.mp hd
    obtain ⟨t', ht', rfl⟩ := List.mem_map.mp hd'
    obtain ⟨a, _, rfl⟩ := List.mem_map.mp ht
    obtain ⟨b, _, rfl⟩ := List.mem_map.mp ht'
    show PySem.W.alike (.str a) (.str b) = true
    simp only [PySem.W.alike]
  · obtain ⟨t, ht, rfl⟩ := List.mem_map.mp hd
    obtain ⟨a, _, rfl⟩ := List.mem_map.mp ht
    exact And.intro (fun z => PyData.noConfusion (show PyData.str a = PyData.none from z)) fun xs z => PyData.noConfusion (show PyData.str a = PyData.tuple xs from z)
  · obtain ⟨a, _, rfl⟩ := List.mem_map.mp ht
    show PyData.depth (.str a) ≤ 60
    simp only [PyData.depth]
    omega
def strsOf : List Dt → Option (List Str)
  | [] => some []
  | .str a :: r => (strsOf r).map (a :: ·)
  | _ => none
theorem strsOf_eq : ∀ {ts : List Dt} {l : List Str}, strsOf ts = some l → ts = l.map .str
  | [], l, e => by
    cases e
    rfl
  | t :: ts, l, e => by
    cases t with
    | str a =>
      unfold strsOf at e
      cases e1 : strsOf ts with
      | none => rw [e1] at e; cases e
      | some m =>
        rw [e1] at e
        cases e
        rw [strsOf_eq e1]
        rfl
    | _ => cases e
theorem strsOf_map : ∀ l : List Str, strsOf (l.map .str) = some l
  | [] => rfl
  | a :: l => by
    show (strsOf (l.map .str)).map (a :: ·) = _
    rw [strsOf_map l]
    rfl
/-- sorted(set(x)): x a list, a tuple, a dict of texts -/
def pSortSet : P1 := fun d S => match (itemsOf S d).bind strsOf with
  | some l => if l.length ≤ 4000 then some (.d (.lst ((sortS (ddS l)).map .str)), S) else none
  | none => none
def strOfV (v : Value) : Str := match v with
  | .str z _ => z
  | _ => Str.empty
theorem kT_inj : ∀ {l m : List Key}, l.map kT = m.map kT → l = m
  | [], [], _ => rfl
  | [], _ :: _, e => by cases e
  | _ :: _, [], e => by cases e
  | a :: l, b :: m, e => by
    rw [List.map_cons, List.map_cons] at e
    injection e with e1 e2
    rw [kT_inj e2]
    cases a with
    | inl i => cases b with
      | inl j => cases e1; rfl
      | inr y => cases e1
    | inr x => cases b with
      | inl j => cases e1
      | inr y => cases e1; rfl
theorem strs_rv {G : Gs} {A : Al} {H : Hp} : ∀ {l : List Str} {vs : List V}, RVs G A H (l.map .str) vs → vs = l.map V.str
  | [], vs, r => r
  | a :: l, vs, r => by
    obtain ⟨v, w, rfl, r1, r2⟩ := r
    obtain rfl : v = .str a := r1
    rw [strs_rv r2]
    rfl
theorem rvs_strs {G : Gs} {A : Al} {H : Hp} : ∀ l : List Str, RVs G A H (l.map .str) (l.map V.str)
  | [] => (rfl : ([] : List V) = [])
  | a :: l => ⟨_, _, rfl, rfl, rvs_strs l⟩
section
variable {X : Cx} {G : Gs} {W : WX} {k : Nat}
theorem hasK_inr {l : List Str} {x : Str} : hasK (l.map Sum.inr) (Sum.inr x : Key) = true ↔ x ∈ l := by
  unfold hasK
  simp [List.any_eq_true]
theorem hasK_inl {l : List Str} {i : Int} : ¬ hasK (l.map Sum.inr) (Sum.inl i : Key) = true := by
  unfold hasK
  simp [List.any_eq_true]
/-- the members gather in some order -/
theorem col_set {pins : List (Addr × Obj)} {σ : L2.St} {s : Shared} {H : Hp} {A : Al} {a : Addr} {l : List Str} {c : Nat} (I : L2.Inv X pins σ H s) (hh : X.A.handled = none) (hS : SetX X.prog X.w s.heap a (hasK (l.map Sum.inr)) c) : ColR X G A H pins σ s (.ref a) fun us => ∃ m : List Str, us = m.map .str ∧ m.Perm (ddS l) := by
  intro Q' hq
  obtain ⟨o, es, ep, t, ho, hx, hd, cc⟩ := hS
  refine collect_set hh ⟨o, ho, hx.1, hd⟩ cc.fit cc.lt cc.ris cc.led fun s' out k hz hg ho' hp => ?_
  have J : L2.Inv X pins σ H { s with heap := s'.heap, gens := s'.gens, drawn := s'.drawn, toks := s'.toks } := I.call (ch := []) (Un.kept k) (I.hok.kept k) (by rw [hg]; exact I.bare) (fun _ z => nomatch z)
  have e : s' = { s with heap := s'.heap, gens := s'.gens, drawn := s'.drawn, toks := s'.toks } := by
    cases s'
    cases s
    cases ho'
    rfl
  have I2 : L2.Inv X pins σ H s' := by
    rw [e]
    exact J
  have hall : ∀ v ∈ out, ∃ (z : Str) (tk : Tok), v = .str z tk ∧ z ∈ l := fun v hv => by
    obtain ⟨e, he, rfl⟩ := List.mem_map.mp (hp.mem_iff.mp hv)
    have g := (cc.good e he).1
    have hm : hasK (l.map Sum.inr) (keyX e) = true := (cc.mem _).2 (List.mem_map.mpr ⟨e, he, rfl⟩)
    rcases keyIs_shape (k := keyX e) (v := e.2) g with ⟨i, t, e1, e2⟩ | ⟨z, t, e1, e2⟩
    · rw [e1] at hm
      exact absurd hm hasK_inl
    · rw [e1] at hm
      exact ⟨z, t, e2, hasK_inr.mp hm⟩
  have hkey : ∀ e ∈ es.toList, keyX e = Sum.inr (strOfV e.2) := fun e he => by
    have g := (cc.good e he).1
    have hm : hasK (l.map Sum.inr) (keyX e) = true := (cc.mem _).2 (List.mem_map.mpr ⟨e, he, rfl⟩)
    rcases keyIs_shape (k := keyX e) (v := e.2) g with ⟨i, t, e1, e2⟩ | ⟨z, t, e1, e2⟩
    · rw [e1] at hm
      exact absurd hm hasK_inl
    · rw [e1, e2]
      rfl
  have hmap : es.toList.map keyX = (es.toList.map fun e => strOfV e.2).map Sum.inr := by
    rw [List.map_map]
    exact List.map_congr_left hkey
  have nd : (es.toList.map fun e => strOfV e.2).Nodup := by
    have := cc.nd
    rw [hmap] at this
    exact (List.pairwise_map.mp this).imp fun h e => h (by rw [e])
  have pm : (out.map strOfV).Perm (es.toList.map fun e => strOfV e.2) := by
    have := hp.map strOfV
    rw [List.map_map] at this
    exact this
  have pd : (out.map strOfV).Perm (ddS l) := by
    refine pm.trans ((List.perm_ext_iff_of_nodup nd (ddS_nodup l)).mpr fun x => ?_)
    rw [ddS_mem, ← hasK_inr (l := l), cc.mem, hmap]
    exact ⟨fun h => List.mem_map.mpr ⟨x, h, rfl⟩, fun h => by
      obtain ⟨y, hy, e⟩ := List.mem_map.mp h
      cases e
      exact hy⟩
  have hv : ∀ (us : List Value), (∀ v ∈ us, ∃ (z : Str) (tk : Tok), v = .str z tk ∧ z ∈ l) → Vals ((us.map fun v => ((Dt.str (strOfV v), V.str (strOfV v)) : Dt × V)).map (·.2)) us := fun us => by
    induction us with
    | nil => exact fun _ => .nil
    | cons u us ih =>
      intro h
      obtain ⟨z, tk, e, _⟩ := h u List.mem_cons_self
      subst e
      exact .cons ⟨tk, rfl⟩ (ih fun v hv => h v (List.mem_cons_of_mem _ hv))
  refine hq s' out (out.map fun v => (Dt.str (strOfV v), V.str (strOfV v))) I2 (hv out hall) (fun b hb => ?_) ⟨out.map strOfV, ?_, pd⟩
  · obtain ⟨v, _, rfl⟩ := List.mem_map.mp hb
    rfl
  · rw [List.map_map, List.map_map]
    rfl
theorem keys_strs {l : List Str} : (l.map Sum.inr : List Key).map kV = l.map V.str := by
  rw [List.map_map]
  rfl
theorem fills_of {pins : List (Addr × Obj)} {σ : L2.St} {s : Shared} {H : Hp} {A : Al} {S : Sto} {d : Dv} {a : Addr} {ts : List Dt} {l : List Str} (I : L2.Inv X pins σ H s) (hK : G.K = X.K) (st : StR G A S H) (r : RD G A H d (.ref a)) (h : itemsOf S d = some ts) (hl : strsOf ts = some l) (hz : l.length ≤ 4000) :
    Fills X.prog X.w s (.ref a) (l.map Sum.inr) := by
  have et := strsOf_eq hl
  rcases items_rd st r h with ⟨b, kvs, e, hd, e2⟩ | ⟨b, vs, e, hs, hv⟩
  · cases e
    obtain ⟨z, lo, vs, rk, dd⟩ := dk_rd I.hok hd
    refine fills_dict lo dd ?_ (by rw [List.length_map]; exact hz)
    rw [← KV.keys rk]
    have : (kvs.map (·.1)).map kT = (l.map Sum.inr : List Key).map kT := by
      rw [← e2, et, List.map_map]
      rfl
    exact kT_inj this
  · cases e
    have ev : vs = (l.map Sum.inr : List Key).map kV := by
      rw [keys_strs]
      subst et
      exact strs_rv hv
    rw [hK] at hs
    have hb : (l.map Sum.inr : List Key).length + 1 < scanBound := by
      rw [List.length_map]
      show l.length + 1 < 4096
      omega
    rcases hs with hs | hs
    · obtain ⟨its, rr, pl, _⟩ := I.list hs
      rw [ev] at rr
      exact fills_list pl.isList rr hb
    · obtain ⟨its, rr, pl, _⟩ := I.tuple hs
      rw [ev] at rr
      obtain ⟨o, ho, hc, n, hd⟩ := pl
      exact fills_tuple ⟨o, ho, hc, n, hd⟩ rr hb
/-- the set of keys at a -/
def SetXO (P : Program) (w : World) (a : Addr) (S : Key → Bool) (n : Nat) : HO := .ext fun h => SetX P w h a S n
theorem setXO_new {P : Program} {w : World} {H : Hp} {h : Heap} {a : Addr} {S : Key → Bool} {n : Nat} (R : SetX P w h a S n) : ObjOk P w H h a (SetXO P w a S n) := by
  have ⟨o, _, _, _, ho, _⟩ := R
  exact ⟨R, ⟨o, ho⟩, fun h1 h2 p k => SetX.at p k⟩
theorem cr_setX (hc : X.calm = true) : CallR X (.type "set") (fun xs H Q => ∃ (a : Addr) (l : List Str), xs = [.ref a] ∧ (∀ pins σ s, L2.Inv X pins σ H s → Fills X.prog X.w s (.ref a) (l.map Sum.inr)) ∧ ∀ p c, H p = none → Q (.ref p) (upd H p (SetXO X.prog X.w p (hasK (l.map Sum.inr)) c))) := by
  intro pins s σ H xs us Q I r h
  obtain ⟨a, l, rfl, hf, q⟩ := h
  obtain rfl := Vals.ref1 r
  refine call_setX (I.ok.hd hc) (hf pins σ s I) fun h' tk c _ hS hk => ?_
  exact ⟨.ref s.heap.objs.size, upd H s.heap.objs.size (SetXO X.prog X.w s.heap.objs.size (hasK (l.map Sum.inr)) c), I.laid hk (Nat.le_refl _) (setXO_new hS), rfl, q _ c (I.hok.fresh (Nat.le_refl _))⟩
theorem cr_sortX (hc : X.calm = true) (hu : X.A.units + 64 < cLine) : CallR X (.builtin "sorted") (fun xs H Q => ∃ (a : Addr) (l : List Str) (c : Nat), xs = [.ref a] ∧ l.length ≤ 4000 ∧ H a = some (SetXO X.prog X.w a (hasK (l.map Sum.inr)) c) ∧ ∀ p, H p = none → Q (.ref p) (upd H p (.lst ((sortS (ddS l)).map V.str)))) := by
  intro pins s σ H xs us Q I r h
  obtain ⟨a, l, c, rfl, hz, hH, q⟩ := h
  obtain rfl := Vals.ref1 r
  have hS : SetX X.prog X.w s.heap a (hasK (l.map Sum.inr)) c := (show ObjOk X.prog X.w H s.heap a (SetXO X.prog X.w a (hasK (l.map Sum.inr)) c) from I.hok a _ hH).1
  refine sorted_col (G := ⟨X.K, fun _ => a, fun _ => .none, fun _ => none, true⟩) (A := ⟨[], []⟩) rfl hu (col_set I (I.ok.hd hc) hS) (fun ts hC => ?_) fun ts vs hC hv p hp => ?_
  · obtain ⟨m, rfl, hm⟩ := hC
    refine sortOk_strs ?_
    have h1 := hm.length_eq
    have h2 : (ddS l).length ≤ l.length := ddS_len l
    omega
  · obtain ⟨m, rfl, hm⟩ := hC
    rw [← isort_leT, sort_strs, sortS_congr hm] at hv
    rw [strs_rv hv]
    exact q p hp
theorem e_sortSet {a : Expr} {p p2 q pos : Pos} {m : M Dv} (hc : X.calm = true) (hu : X.A.units + 64 < cLine) (hK : G.K = X.K) (hg : Gl X "sorted") (hm : X.mg "sorted" = none) (hg2 : Gl X "set") (hm2 : X.mg "set" = none) (ha : PE X a (tM G W m)) (hs : starEach [a] X.env = (false, eval a X.env) :: starEach [] X.env)
    (hs2 : starEach [.Call (.Name "set" p2) [a] [] q] X.env = (false, eval (.Call (.Name "set" p2) [a] [] q) X.env) :: starEach [] X.env) (hpl : (backTo q (starEach [] X.env)).any (·.1) = false) (hpl2 : (backTo pos (starEach [] X.env)).any (·.1) = false) :
    PE X (.Call (.Name "sorted" p) [.Call (.Name "set" p2) [a] [] q] [] pos) (tM G W (m1 pSortSet m)) := by
  have h1 := pe_callTy (p := p2) (pos := q) (cr_setX (X := X) hc) hg2 hm2 PyProof.Rows.boot_set (pa_cons ha pa_nil hs) (by decide) (by decide) hs hpl
  refine (pe_callB (p := p) (pos := pos) (cr_sortX hc hu) hg hm PyProof.Rows.boot_sorted (pa_cons h1 pa_nil hs2) (by decide) (by decide) hs2 hpl2).sm fun σ H Q h => ?_
  obtain ⟨A, ρ, S, he, st, p0⟩ := h
  refine ⟨A, ρ, S, he, st, Po.step p0 fun d S1 A1 H1 x1 s1 p1 v rv => ?_⟩
  unfold pSortSet at p1
  split at p1
  · rename_i l el
    obtain ⟨ts, e1, e2⟩ := Option.bind_eq_some_iff.mp el
    split at p1
    · rename_i hz
      have href : ∃ b, v = .ref b := by
        rcases items_rd s1 rv e1 with ⟨b, _, e, _⟩ | ⟨b, _, e, _⟩
        · exact ⟨b, e⟩
        · exact ⟨b, e⟩
      obtain ⟨b, rfl⟩ := href
      refine ⟨b, l, rfl, fun pins σ' s' I => fills_of I hK s1 rv e1 e2 hz, fun D c hD => ⟨D, l, c, rfl, hz, upd_same, fun r hr => ?_⟩⟩
      have x2 : Ext A1 H1 A1 (upd H1 D (SetXO X.prog X.w D (hasK (l.map Sum.inr)) c)) := Ext.new hD
      have s2 := s1.new (o := SetXO X.prog X.w D (hasK (l.map Sum.inr)) c) hD
      exact Po.at p1 (x2.trans (Ext.new hr)) (s2.new hr) _ (RV.lst_new s2 hr (rvs_strs (sortS (ddS l))))
    · exact p1.elim
  · exact p1.elim
end
end Sm
/-! Sm18: a, b = ..; {}; truth; the rules with their side conditions filled in. -/
namespace Sm
open PySem PySem.Spec PyProof.Rows L2

/-! ### a, b = e1, e2 -/
def setAll : List Nat → List Dv → Env → Env
  | i :: is, d :: ds, ρ => setAll is ds (ρ.set i (some d))
  | _, _, ρ => ρ
def setAllV : List Nat → List V → L2.St → L2.St
  | i :: is, v :: vs, σ => setAllV is vs (σ.set i (some v))
  | _, _, σ => σ
theorem setAll_env {G : Gs} {A : Al} {H : Hp} (is : List Nat) : ∀ {ds : List Dv} {vs : List V} {ρ : Env} {σ : L2.St}, EnvR G A H ρ σ → RDs G A H ds vs → EnvR G A H (setAll is ds ρ) (setAllV is vs σ) := by
  induction is with
  | nil =>
    intro ds vs ρ σ h r
    cases r <;> exact h
  | cons i is ih =>
    intro ds vs ρ σ h r
    cases r with
    | nil => exact h
    | cons r t => exact ih (h.set r) t
def sPars (is : List Nat) (ma : M (List Dv)) : SM := fun ρ S => (ma ρ S).to ρ fun ds S1 => if ds.length = is.length then .nx (setAll is ds ρ) S1 else .bad
/-- plain names -/
def NmG (u : TGs) (is : List Nat) : Prop := ∀ (vs : List V) (σ : L2.St) (H : Hp) (Q : L2.St → Hp → Prop), vs.length = is.length → Q (setAllV is vs σ) H → u vs σ H Q
theorem nm_nil : NmG gNil [] := fun vs σ H Q hl q => by
  cases vs with
  | nil => exact ⟨rfl, q⟩
  | cons => cases hl
theorem nm_cons {i : Nat} {u : TGs} {is : List Nat} (h : NmG u is) : NmG (gCons (gName i) u) (i :: is) := fun vs σ H Q hl q => by
  cases vs with
  | nil => cases hl
  | cons v vs => exact ⟨v, vs, rfl, h vs _ H Q (by simpa using hl) q⟩
section
variable {X : Cx} {G : Gs} {W : WX} {k : Nat}
theorem pars_po {A : Al} {H H' : Hp} {is : List Nat} {ds : List Dv} {vs : List V} {ρ : Env} {σ : L2.St} {S : Sto} {D : Ends} (e : EnvR G A H ρ σ) (s : StR G A S H) (r : RDs G A H ds vs) (p : PoS G W A H (if ds.length = is.length then Sz.nx (setAll is ds ρ) S else .bad) D) : vs.length = is.length ∧ D.nx (setAllV is vs σ) H := by
  split at p
  · rename_i hl
    exact ⟨by rw [← Paired.length r]; exact hl, PoS.nx_now p s (setAll_env is e r)⟩
  · exact p.elim
theorem s_par2 {i j : Nat} {x y : Str} {a b : Expr} {ma : M (List Dv)} {px py pt pos pt2 : Pos} {kt k2 : Nat} (B : Bx X G W k) (ha : PA X [a, b] (tMA G W ma)) (hi : X.N[i]? = some x := by rfl) (hj : X.N[j]? = some y := by rfl) (hij : i ≠ j := by decide) (hx : X.env.scope.names.lookup x = some .local := by rfl) (hy : X.env.scope.names.lookup y = some .local := by rfl)
    (hw : swappedStores [.Tuple [.Name x px, .Name y py] kt pt] (.Tuple [a, b] k2 pt2) X.env = pure (some [x, y]) := by rfl) (hs : swapsWithSole [.Tuple [.Name x px, .Name y py] kt pt] (.Tuple [a, b] k2 pt2) pos.line X.env = pure false := by rfl) :
    PS X (.Assign [.Tuple [.Name x px, .Name y py] kt pt] (.Tuple [a, b] k2 pt2) pos) (tMS G W (sPars [i, j] ma)) := by
  refine (ps_par B.calm B.nd hi hj hij hx hy ha hw hs).sm fun D σ H h => ?_
  obtain ⟨A, ρ, S, he, st, p⟩ := h
  refine ⟨A, ρ, S, he, st, PoS.step he p fun ds S1 A1 H1 x1 s1 e1 p1 vs rvs => ?_⟩
  obtain ⟨hl, q⟩ := pars_po (is := [i, j]) (H' := H1) e1 s1 rvs p1
  match vs, hl, q with
  | [v, w], _, q => exact ⟨v, w, rfl, q⟩
/-- by a tuple that is made and taken apart -/
theorem s_parT {tgs es : List Expr} {u : TGs} {n : Nat} {is : List Nat} {ma : M (List Dv)} {pt pt2 pos : Pos} {kt k2 : Nat} (B : Bx X G W k) (ha : PA X es (tMA G W ma)) (hg : PG X (.Tuple tgs kt pt) (gTup X.K n u)) (hu : NmG u is) (hn : n = is.length := by rfl) (hz : is.length ≤ 100 := by decide)
    (hs : swapsWithSole [.Tuple tgs kt pt] (.Tuple es k2 pt2) pos.line X.env = pure false := by rfl) (hw : swappedStores [.Tuple tgs kt pt] (.Tuple es k2 pt2) X.env = pure none := by rfl) (h1 : (assignEach [.Tuple tgs kt pt] X.env).map (·.2) = [assign (.Tuple tgs kt pt) X.env] := by rfl) :
    PS X (.Assign [.Tuple tgs kt pt] (.Tuple es k2 pt2) pos) (tMS G W (sPars is ma)) := by
  refine (ps_asg (pe_tup ha) hg hs hw h1).sm fun D σ H h => ?_
  obtain ⟨A, ρ, S, he, st, p⟩ := h
  refine ⟨A, ρ, S, he, st, PoS.step he p fun ds S1 A1 H1 x1 s1 e1 p1 vs rvs => ?_⟩
  obtain ⟨hl, _⟩ := pars_po (is := is) (H' := H1) e1 s1 rvs p1
  refine ⟨by rw [hl]; exact line_of (by omega), fun q hq => ⟨q, vs, rfl, .inl (.inl upd_same), by rw [hl, hn], hu vs σ _ _ hl ?_⟩⟩
  have x2 : Ext A1 H1 A1 (upd H1 q (.tup vs)) := Ext.new hq
  exact (pars_po (is := is) (H' := upd H1 q (.tup vs)) (e1.kp x2.kp) (s1.new hq) (rvs.kp x2.kp) (PoS.mono x2 p1)).2
/-! ### {} -/
def mDnew : M Dv := fun _ S => .ok (.loc S.length) (S ++ [.dct [] []])
theorem e_dnew {pos : Pos} : PE X (.Dict [] [] pos) (tM G W mDnew) := by
  refine pe_dnewK.sm fun σ H Q h p hp => ?_
  obtain ⟨A, ρ, S, he, st, p0⟩ := h
  obtain ⟨x1, s1, r1⟩ := box_dct (kvs := []) (ks := []) (ds := []) st hp rfl .nil
  exact Po.at p0 x1 s1 _ r1
end
/-! ### truth -/
def pTru : PT1 := fun d S => match d with
  | .d .non => some false
  | .d (.bl b) => some b
  | .d (.int i) => some (i != 0)
  | .d (.str y) => if y.length ≤ 16777216 then some ((y.length : Int) != 0) else none
  | .d (.tup xs) => some (!xs.isEmpty)
  | .d (.lst xs) => some (!xs.isEmpty)
  | .d (.scr xs) => some (!xs.isEmpty)
  | .loc n => (match S[n]? with
    | some (.lst xs) => some (!xs.isEmpty)
    | some (.dct ks _) => some (!ks.isEmpty)
    | _ => none)
  | _ => none
theorem empty_len {α β : Type} {xs : List α} {ys : List β} (h : xs.length = ys.length) : xs.isEmpty = ys.isEmpty := by
  cases xs <;> cases ys <;> simp at h ⊢
theorem tru_ok' {G : Gs} : TruS G pTru := by
  intro A S H d v b r s h
  unfold pTru at h
  split at h
  · cases h
    obtain rfl : v = .non := r
    exact rfl
  · cases h
    obtain rfl : v = .bl _ := r
    exact rfl
  · cases h
    obtain rfl : v = .int _ := r
    exact rfl
  · split at h
    · rename_i hl
      cases h
      obtain rfl : v = .str _ := r
      exact ⟨line_of hl, rfl⟩
    · cases h
  · cases h
    obtain ⟨a, vs, rfl, ha, hv⟩ := r
    exact .inr (.inl ⟨vs, ha.sq, by rw [empty_len hv.length]⟩)
  · cases h
    obtain ⟨a, vs, rfl, ha, hv⟩ := r
    exact .inl ⟨vs, ha.sq, by rw [empty_len hv.length]⟩
  · cases h
    obtain ⟨a, vs, rfl, ha, hv⟩ := r
    exact .inl ⟨vs, ha.sq, by rw [empty_len hv.length]⟩
  · split at h
    · rename_i e
      cases h
      obtain ⟨a, vs, rfl, _, hl, hv⟩ := loc_lst s r e
      exact .inl ⟨vs, .inl (.inl hl), by rw [empty_len (Paired.length hv)]⟩
    · rename_i e
      cases h
      obtain ⟨a, kvs, rfl, _, hl, ek, hv⟩ := loc_dct s r e
      refine .inr (.inr ⟨kvs, hl, ?_⟩)
      rw [← ek]
      cases kvs <;> rfl
    · cases h
  · cases h

/-! ### calls of the module's defs, in one -/
structure Cal (P : Program) (w : World) (G : Gs) (mg : Str → Option Value) (base : Heap) (k : Nat) (x : Str) (n : Nat) (ks : List Str) (F : FM) : Prop where
  ex : ∃ f, mg x = some (.ref f) ∧ PySem.W.keepIn G.K (.ref f) = true ∧ CallW P w G mg base k f n ks F
theorem Cal.mono {P : Program} {w : World} {G : Gs} {mg : Str → Option Value} {base : Heap} {k j : Nat} {x : Str} {n : Nat} {ks : List Str} {F : FM} (h : Cal P w G mg base j x n ks F) (l : j ≤ k) : Cal P w G mg base k x n ks F := by
  obtain ⟨f, h1, h2, h3⟩ := h.ex
  exact ⟨f, h1, h2, h3.mono l⟩
theorem Cal.isoC {P : Program} {w : World} {G : Gs} {mg : Str → Option Value} {base : Heap} {k : Nat} {x : Str} {n : Nat} {ks : List Str} {F : FM} (h : Cal P w G mg base k x n ks F) : Cal P w G mg base k x n ks (iso F) := by
  obtain ⟨f, h1, h2, h3⟩ := h.ex
  exact ⟨f, h1, h2, h3.isoF⟩
theorem Cal.viewC {P : Program} {w : World} {G : Gs} {mg : Str → Option Value} {base : Heap} {k : Nat} {x : Str} {n : Nat} {ks : List Str} {F : FM} (h : Cal P w G mg base k x n ks F) : Cal P w G mg base k x n ks (view F) := by
  obtain ⟨f, h1, h2, h3⟩ := h.ex
  exact ⟨f, h1, h2, h3.viewF⟩
section
variable {X : Cx} {G : Gs} {W : WX} {k n : Nat} {x m : Str} {p pos pos' apos : Pos} {a b c e T : Expr} {es : List Expr} {kws : List Keyword} {ma mk : M (List Dv)} {mo m1' mb : M Dv} {F : FM} {ks : List Str} {id T' : String} {pn : PN}
theorem xv (i : Nat) (hN : X.N[i]? = some x := by rfl) (hv : Vis X.env.scope x := by first | exact Or.inl rfl | exact Or.inr (Or.inl rfl) | exact Or.inr (Or.inr rfl)) (hd : (x == ("__debug__" : Str)) = false := by decide) (hcd : (x == ("__classdict__" : Str)) = false := by decide) : PE X (.Name x pos) (tM G W (mV i)) := e_var hN hv hd hcd
theorem xa (h : PE X e (tM G W mo)) (r : PA X es (tMA G W ma)) (hs : starEach (e :: es) X.env = (false, eval e X.env) :: starEach es X.env := by rfl) : PA X (e :: es) (tMA G W (aCons mo ma)) := a_cons h r hs
theorem xcall (R : Cal X.prog X.w G X.mg X.base k x n [] F) (B : Bx X G W k) (ha : PA X (e :: es) (tMA G W ma)) (al : ALen ma n := by repeat (first | exact al_nil | refine al_cons ?_)) (hg : Gl X x := by rfl) (hdb : (x == ("__debug__" : Str)) = false := by decide)
    (he : starEach (e :: es) X.env = (false, eval e X.env) :: starEach es X.env := by rfl) (hpl : (backTo pos (starEach es X.env)).any (·.1) = false := by rfl) : PE X (.Call (.Name x p) (e :: es) [] pos) (tM G W (mF F ma)) := by
  obtain ⟨f, h1, h2, h3⟩ := R.ex
  exact e_call h3 B hg h1 (by rw [← B.hK]; exact h2) ha al hdb he hpl
theorem xcallK (R : Cal X.prog X.w G X.mg X.base k x n ks F) (B : Bx X G W k) (ha : PA X (e :: es) (tMA G W ma)) (hkw : PK X kws (tMA G W mk)) (al : ALen ma n := by repeat (first | exact al_nil | refine al_cons ?_)) (al2 : ALen mk ks.length := by repeat (first | exact al_nil | refine al_cons ?_)) (hg : Gl X x := by rfl)
    (hall : (backToKw pos (keywordEach kws X.env)).all (·.1.isSome) = true := by rfl) (hks : (backToKw pos (keywordEach kws X.env)).filterMap (·.1) = ks := by rfl) (hdb : (x == ("__debug__" : Str)) = false := by decide)
    (he : starEach (e :: es) X.env = (false, eval e X.env) :: starEach es X.env := by rfl) (hpl : ((backTo pos (starEach (e :: es) X.env)).any (·.1) || (backToKw pos (keywordEach kws X.env)).any (·.1.isNone)) = false := by rfl) : PE X (.Call (.Name x p) (e :: es) kws pos) (tM G W (mF F (aApp ma mk))) := by
  obtain ⟨f, h1, h2, h3⟩ := R.ex
  exact e_callK h3 B hg h1 (by rw [← B.hK]; exact h2) ha al hkw al2 hall hks hdb he hpl
theorem xb (hc : CallR X (.builtin id) (qN G pn)) (hm : X.mg x = none) (hv : bootBuiltins x = some (.builtin id)) (ha : PA X (e :: es) (tMA G W ma)) (hg : Gl X x := by rfl) (hn : x ≠ "__name__" := by decide) (hdb : (x == ("__debug__" : Str)) = false := by decide)
    (he : starEach (e :: es) X.env = (false, eval e X.env) :: starEach es X.env := by rfl) (hpl : (backTo pos (starEach es X.env)).any (·.1) = false := by rfl) : PE X (.Call (.Name x p) (e :: es) [] pos) (tM G W (mN pn ma)) := e_callB hc hg hm hv ha hn hdb he hpl
theorem xt (hc : CallR X (.type T') (qN G pn)) (hm : X.mg x = none) (hv : bootBuiltins x = some (.type T')) (ha : PA X (e :: es) (tMA G W ma)) (hg : Gl X x := by rfl) (hn : x ≠ "__name__" := by decide) (hdb : (x == ("__debug__" : Str)) = false := by decide)
    (he : starEach (e :: es) X.env = (false, eval e X.env) :: starEach es X.env := by rfl) (hpl : (backTo pos (starEach es X.env)).any (·.1) = false := by rfl) : PE X (.Call (.Name x p) (e :: es) [] pos) (tM G W (mN pn ma)) := e_callT hc hg hm hv ha hn hdb he hpl
theorem xty (hm : X.mg x = none) (hv : bootBuiltins x = some (.type T')) (hg : Gl X x := by rfl) (hn : x ≠ "__name__" := by decide) (hdb : (x == ("__debug__" : Str)) = false := by decide) : PE X (.Name x pos) (tC (.ty T')) := pe_bltn hg hm hv rfl hn hdb
theorem xcmp {op : CmpOp} {pp : P2} (ho : OpR X (compareOp op) (q2 G pp)) (ha : PE X a (tM G W mo)) (hb : PE X b (tM G W mb)) (hm : behindInMarks op b = false := by first | rfl | exact nomark _ | with_unfolding_all rfl) : PE X (.Compare a [op] [b] pos) (tM G W (m2 pp mo mb)) := e_cmp ho ha hb hm
theorem xcmpT {op : CmpOp} {pp : P2} (ho : OpR X (compareOp op) (q2 G pp)) (ha : PE X a (tM G W mo)) (hb : PE X b (tM G W mb)) (hm : behindInMarks op b = false := by first | rfl | exact nomark _ | with_unfolding_all rfl) : PT X (.Compare a [op] [b] pos) (tMT G W (mTst (m2 pp mo mb))) := c_cmp ho ha hb hm
/-- any value as a test -/
theorem xtru (B : Bx X G W k) (ha : PE X a (tM G W mo)) (he : ∀ whole, isTrue a X.env whole = (do let v ← whole; standAt a.pos; holding [v] (truthy v)) := by exact fun _ => rfl) : PT X a (tMT G W (mTru pTru mo)) := c_tru tru_ok' B.hK ha he
theorem xorT (B : Bx X G W k) (ha : PE X a (tM G W mo)) (hb : PE X (.BoolOp .Or (b :: es) pos) (tM G W mb)) : PE X (.BoolOp .Or (a :: b :: es) pos) (tM G W (mOrT pTru mo mb)) := e_orT tru_ok' B.hK ha hb
theorem xix (B : Bx X G W k) (ha : PE X a (tM G W mo)) (hb : PE X b (tM G W mb)) (hs : PlainIx b := by exact fun _ _ => rfl) : PE X (.Subscript a b pos) (tM G W (m2 pIx mo mb)) := e_ix (i_ix B.room.units B.hK) ha hb hs
theorem xisa (B : Bx X G W k) (hm : X.mg "isinstance" = none) {bt : String} (he : PE X e (tM G W mo)) (hT : PE X T (tC (.ty bt))) (hb : bt ∈ tyR := by decide) (hg : Gl X "isinstance" := by rfl) (hs : starEach [e, T] X.env = (false, eval e X.env) :: starEach [T] X.env := by rfl) (hs2 : starEach [T] X.env = (false, eval T X.env) :: starEach [] X.env := by rfl)
    (hpl : (backTo pos (starEach [T] X.env)).any (·.1) = false := by rfl) : PE X (.Call (.Name "isinstance" p) [e, T] [] pos) (tM G W (m1 (pIsa [bt]) mo)) := e_isa B.hK hg hm hb he hT hs hs2 hpl
theorem xisaT (B : Bx X G W k) (hm : X.mg "isinstance" = none) (bs : List String) {kk : Nat} {tpos : Pos} (he : PE X e (tM G W mo)) (hes : PA X es (fun σ H Q => Q (bs.map V.ty) H)) (hb : ∀ b ∈ bs, b ∈ tyR := by decide) (hz : bs.length ≤ 100 := by decide) (hg : Gl X "isinstance" := by rfl)
    (hs : starEach [e, .Tuple es kk tpos] X.env = (false, eval e X.env) :: starEach [.Tuple es kk tpos] X.env := by rfl) (hs2 : starEach [.Tuple es kk tpos] X.env = (false, eval (.Tuple es kk tpos) X.env) :: starEach [] X.env := by rfl)
    (hpl : (backTo pos (starEach [.Tuple es kk tpos] X.env)).any (·.1) = false := by rfl) : PE X (.Call (.Name "isinstance" p) [e, .Tuple es kk tpos] [] pos) (tM G W (m1 (pIsa bs) mo)) := e_isaT B.hK hg hm bs hb hz he hes hs hs2 hpl
theorem xss {q p2 : Pos} (B : Bx X G W k) (z1 : X.mg "sorted" = none) (z2 : X.mg "set" = none) (ha : PE X a (tM G W mo)) (hg : Gl X "sorted" := by rfl) (hg2 : Gl X "set" := by rfl) (hs : starEach [a] X.env = (false, eval a X.env) :: starEach [] X.env := by rfl)
    (hs2 : starEach [.Call (.Name "set" p2) [a] [] q] X.env = (false, eval (.Call (.Name "set" p2) [a] [] q) X.env) :: starEach [] X.env := by rfl) (hpl : (backTo q (starEach [] X.env)).any (·.1) = false := by rfl) (hpl2 : (backTo pos (starEach [] X.env)).any (·.1) = false := by rfl) :
    PE X (.Call (.Name "sorted" p) [.Call (.Name "set" p2) [a] [] q] [] pos) (tM G W (m1 pSortSet mo)) := e_sortSet B.calm B.room.units B.hK hg z1 hg2 z2 ha hs hs2 hpl hpl2
theorem xlm {pm : PM} {name : Str} {o : Expr} {cpos : Pos} (B : Bx X G W k) (slot : Slot "list" name id) (hty : typeOf (.builtin id) = pure (.type "method_descriptor")) (hm : MtR X id (qM G pm)) (ho : PE X o (tM G W mo)) (ha : PA X (e :: es) (tMA G W ma)) (hbase : attributeBase o name X.env (eval o X.env) = eval o X.env := by rfl)
    (hfew : ((backTo cpos (starEach (e :: es) X.env)).all (fun x => !x.1) && (backToKw cpos (keywordEach [] X.env)).all (fun x => x.1.isSome) && decide ((e :: es).length + ([] : List Keyword).length + (if ([] : List Keyword).isEmpty then 0 else 1) < 30)) = true := by rfl)
    (hline : (apos.endLine == cpos.line) = true := by rfl) (hs : starEach (e :: es) X.env = (false, eval e X.env) :: starEach es X.env := by rfl) (hplain : (backTo cpos (starEach es X.env)).any (·.1) = false := by rfl) : PE X (.Call (.Attribute o name apos) (e :: es) [] cpos) (tM G W (mLm pm mo ma)) := e_lm B.hK slot hty hm ho ha hbase hfew hline hs hplain
theorem xfld {c i : Nat} {pp : Addr} (B : Bx X G W k) (cl : SlX.SCls X.K (G.cls c)) (sl : SlX.Slot1 X.K (G.cls c) m pp i) (he : PE X e (tM G W mo)) (hb : attributeBase e m X.env (eval e X.env) = eval e X.env := by rfl) : PE X (.Attribute e m pos) (tM G W (m1 (pFld c i) mo)) := e_fld B cl sl he hb
end
end Sm
/-! Sm19: statements, comprehensions, instances, defs with their side conditions filled in. -/
namespace Sm
open PySem PySem.Spec PyProof.Rows L2
section
variable {X : Cx} {G : Gs} {W : WX} {k n : Nat} {x m : Str} {p pos pos' apos cpos : Pos} {a b c e o tg iter elt value kx vx : Expr} {es ifs : List Expr} {kws : List Keyword} {ma mk : M (List Dv)} {mo mb ek ev : M Dv} {F : FM} {ks : List Str} {it : M (List Dt)} {g : GM} {t : TG} {L : List Nat} {sb : SM} {body : List Stmt} {cm : M Bool} {scope : Scope}
theorem yset (i : Nat) (B : Bx X G W k) (h : PE X e (tM G W mo)) (hi : X.N[i]? = some x := by rfl) (hx : Loc X.env.scope x := by first | exact Or.inl rfl | exact Or.inr rfl) (hs : swapsWith e (some (.Name x pos')) pos.line X.env = pure false := by rfl) (hf : X.fn x = true ∨ X.env.scope.names.lookup x = some .local := by first | exact Or.inl rfl | exact Or.inr rfl) :
    PS X (.Assign [.Name x pos'] e pos) (tMS G W (sSet i mo)) := s_set B.nd hi hx h hs hf
theorem yasg (hg : PG X tg t) (hgs : TgS G t g L) (h : PE X e (tM G W mo)) (hs : swapsWithSole [tg] e pos.line X.env = pure false := by rfl) (hw : swappedStores [tg] e X.env = pure none := by rfl) (h1 : (assignEach [tg] X.env).map (·.2) = [assign tg X.env] := by rfl) : PS X (.Assign [tg] e pos) (tMS G W (sAsg g mo)) := s_asg hg hgs h hs hw h1
theorem ysub {i' : Expr} {mi mv : M Dv} (B : Bx X G W k) (ho : PE X o (tM G W mo)) (hi : PE X i' (tM G W mi)) (hv : PE X value (tM G W mv)) (hs : swapsWith value (some (.Subscript o i' pos')) pos.line X.env = pure false := by rfl) : PS X (.Assign [.Subscript o i' pos'] value pos) (tMS G W (sSub mo mi mv)) := s_sub B.room.units ho hi hv hs
theorem yfld {cc i : Nat} {pp : Addr} {mv : M Dv} (B : Bx X G W k) (cl : SlX.SCls X.K (G.cls cc)) (sl : SlX.Slot1 X.K (G.cls cc) m pp i) (ho : PE X o (tM G W mo)) (hv : PE X value (tM G W mv)) (hs : swapsWith value (some (.Attribute o m pos')) pos.line X.env = pure false := by rfl) : PS X (.Assign [.Attribute o m pos'] value pos) (tMS G W (sFld cc i mo mv)) := s_fld B cl sl ho hv hs
theorem yfor (hp : PassesOwn (model X.prog X.w) X.A X.env X.xe) (B : Bx X G W k) (hi : PIS X G W tg iter it) (hg : PG X tg t) (hgs : TgS G t g L) (hb : PSs X body (tMS G W sb)) (hs : ∀ x, foldedSetIterable iter X.env x = pure x := by exact fun _ => rfl) : PS X (.For tg iter body [] pos) (tMS G W (sFor it g sb)) := s_for hp B.calm hi hg hgs hb hs
theorem yexpr (h : PE X e (tM G W mo)) (hs : swapsWith e none pos.line X.env = pure false := by rfl) : PS X (.Expr e pos) (tMS G W (sDrop mo)) := s_expr h hs
theorem yname (i : Nat) (B : Bx X G W k) (hi : X.N[i]? = some x := by rfl) (hx : Loc X.env.scope x := by first | exact Or.inl rfl | exact Or.inr rfl) (hf : X.fn x = true ∨ X.env.scope.names.lookup x = some .local := by first | exact Or.inl rfl | exact Or.inr rfl) : PG X (.Name x pos) (gName i) := pg_name B.nd hi hx hf
theorem ytup {es : List Expr} {kt : Nat} {u : TGs} {n : Nat} (B : Bx X G W k) (h : PGs X es u) (hn : (assignEach es X.env).length = n := by rfl) (hst : (assignEach es X.env).findIdx? (·.1) = none := by rfl) : PG X (.Tuple es kt pos) (gTup X.K n u) := pg_tup B.calm h hn hst
theorem ytupS {u : TGs} {gs : GMs} {L : List Nat} {n : Nat} (hK : G.K = X.K) (hl : GLen gs n) (h : TgSs G u gs L) : TgS G (gTup X.K n u) (gT gs) L := by
  rw [← hK]
  exact g_tup hl h
theorem yrg1 (z : X.mg "range" = none) (ha : PA X [a] (tMA G W ma)) (hg : Gl X "range" := by rfl) (hs : starEach [a] X.env = [(false, eval a X.env)] := by rfl) : PIS X G W tg (.Call (.Name "range" p) [a] [] pos) (iRg rg1 ma) := i_rg1 hg z ha hs
theorem yenum {tpos : Pos} {kk : Nat} (B : Bx X G W k) (z : X.mg "enumerate" = none) (ha : PA X [a] (tMA G W ma)) (hg : Gl X "enumerate" := by rfl) (hs : starEach [a] X.env = [(false, eval a X.env)] := by rfl) : PIS X G W (.Tuple es kk tpos) (.Call (.Name "enumerate" p) [a] [] pos) (iRg en1 ma) := i_enum B.hK hg z ha hs
theorem yzip {tpos : Pos} {kk : Nat} (B : Bx X G W k) (z : X.mg "zip" = none) (ha : PA X [a, b] (tMA G W ma)) (hg : Gl X "zip" := by rfl) (hs : starEach [a, b] X.env = (false, eval a X.env) :: starEach [b] X.env := by rfl) (hpl : (backTo pos (starEach [b] X.env)).any (·.1) = false := by rfl) : PIS X G W (.Tuple es kk tpos) (.Call (.Name "zip" p) [a, b] [] pos) (iRg zp2 ma) := i_zip B.hK hg z ha hs hpl
theorem yitems {tpos : Pos} {kk : Nat} (he : PE X e (tM G W mo)) (hbase : attributeBase e "items" X.env (eval e X.env) = eval e X.env := by rfl) (hline : (apos.endLine == cpos.line) = true := by rfl) : PIS X G W (.Tuple es kk tpos) (.Call (.Attribute e "items" apos) [] [] cpos) (iDc dItems mo) := i_items he hbase hline
theorem ylc (own : List (Str × Nat)) {pe : PN} (hpe : LEnd G pe) (B : Bx X G W k) (hi : PIS X G W tg iter it) (hg : ∀ (s : Shared) (H : Hp) (C : Addr) (cl : List (Str × Addr)) (fp : List Addr), PG (X.blk s H scope (compEnvC scope cl C X.env) fp) tg t) (hgs : TgS G t g L)
    (ht : ∀ (s : Shared) (H : Hp) (C : Addr) (cl : List (Str × Addr)) (fp : List Addr), PTs (X.blk s H scope (compEnvC scope cl C X.env) fp) ifs (tMT G W0 cm)) (he : ∀ (s : Shared) (H : Hp) (C : Addr) (cl : List (Str × Addr)) (fp : List Addr), PE (X.blk s H scope (compEnvC scope cl C X.env) fp) elt (tM G W0 mo))
    (ok : blkC X.N X.env.scope scope own = true := by rfl) (hL : ∀ i ∈ L, i ∈ own.map (·.2) := by decide) (hs : ∀ x, foldedSetIterable iter X.env x = pure x := by exact fun _ => rfl) : PE X (.ListComp elt [⟨tg, iter, ifs, 0⟩] scope pos) (tM G W (mN pe (mLcI (own.map (·.2)) it g cm mo))) := e_lc' hpe B hi (blkOk_by ok) hg hgs hL ht he hs
theorem ysetLc (i : Nat) (own : List (Str × Nat)) {y : Str} {py spos : Pos} {pe : PN} (hpe : LEnd G pe) (B : Bx X G W k) (hi : PIS X G W tg iter it) (hg : ∀ (s : Shared) (H : Hp) (C : Addr) (cl : List (Str × Addr)) (fp : List Addr), PG (X.blk s H scope (compEnvC scope cl C X.env) fp) tg t) (hgs : TgS G t g L)
    (ht : ∀ (s : Shared) (H : Hp) (C : Addr) (cl : List (Str × Addr)) (fp : List Addr), PTs (X.blk s H scope (compEnvC scope cl C X.env) fp) ifs (tMT G W0 cm)) (he : ∀ (s : Shared) (H : Hp) (C : Addr) (cl : List (Str × Addr)) (fp : List Addr), PE (X.blk s H scope (compEnvC scope cl C X.env) fp) elt (tM G W0 mo))
    (hy : X.N[i]? = some y := by rfl) (hyl : X.env.scope.names.lookup y = some .local := by rfl) (hk : X.env.scope.kind = .function := by rfl) (hl : (py.line == pos.line) = true := by rfl) (hn : (scope.names.any fun (n, k) => n == y && (k == .local || k == .cell)) = false := by rfl)
    (ok : blkC X.N X.env.scope scope own = true := by rfl) (hL : ∀ i ∈ L, i ∈ own.map (·.2) := by decide) (hs : ∀ x, foldedSetIterable iter X.env x = pure x := by exact fun _ => rfl) : PS X (.Assign [.Name y py] (.ListComp elt [⟨tg, iter, ifs, 0⟩] scope pos) spos) (tMS G W (sSet i (mN pe (mLcI (own.map (·.2)) it g cm mo)))) :=
  s_setLc hpe B hy hyl (sw_true hk hyl hl hn) hi (blkOk_by ok) hg hgs hL ht he hs
theorem ydc (own : List (Str × Nat)) {pe : PD} (hpe : DEnd G pe) (B : Bx X G W k) (hi : PIS X G W tg iter it) (hg : ∀ (s : Shared) (H : Hp) (C : Addr) (cl : List (Str × Addr)) (fp : List Addr), PG (X.blk s H scope (compEnvC scope cl C X.env) fp) tg t) (hgs : TgS G t g L)
    (ht : ∀ (s : Shared) (H : Hp) (C : Addr) (cl : List (Str × Addr)) (fp : List Addr), PTs (X.blk s H scope (compEnvC scope cl C X.env) fp) ifs (tMT G W0 cm)) (hk : ∀ (s : Shared) (H : Hp) (C : Addr) (cl : List (Str × Addr)) (fp : List Addr), PE (X.blk s H scope (compEnvC scope cl C X.env) fp) kx (tM G W0 ek))
    (he : ∀ (s : Shared) (H : Hp) (C : Addr) (cl : List (Str × Addr)) (fp : List Addr), PE (X.blk s H scope (compEnvC scope cl C X.env) fp) vx (tM G W0 ev)) (ok : blkC X.N X.env.scope scope own = true := by rfl) (hL : ∀ i ∈ L, i ∈ own.map (·.2) := by decide) (hs : ∀ x, foldedSetIterable iter X.env x = pure x := by exact fun _ => rfl) :
    PE X (.DictComp kx vx [⟨tg, iter, ifs, 0⟩] scope pos) (tM G W (mDc pe (own.map (·.2)) it g cm ek ev)) := e_dc hpe B hi (blkOk_by ok) hg hgs hL ht hk he hs
/-- a class, called; its __init__ -/
structure CalI (P : Program) (w : World) (G : Gs) (mg : Str → Option Value) (base : Heap) (k c : Nat) (x : Str) (n : Nat) (F : FM) : Prop where
  ex : ∃ f, mg x = some (.ref (G.cls c)) ∧ Mk G.K (G.cls c) f ∧ CallW P w G mg base k f (n + 1) [] F
/-- a method -/
structure CalM (P : Program) (w : World) (G : Gs) (mg : Str → Option Value) (base : Heap) (k c : Nat) (x : Str) (n : Nat) (F : FM) : Prop where
  ex : ∃ f, SlX.SCls G.K (G.cls c) ∧ Meth G.K (G.cls c) x f ∧ CallW P w G mg base k f (n + 1) [] F
theorem ymeth0 {cc : Nat} {pl : Sem Bool} (R : CalM X.prog X.w G X.mg X.base k cc m 0 F) (B : Bx X G W k) (ho : PE X o (tM G W mo)) (ht : eval (.Call (.Attribute o m apos) [] [] pos) X.env = (do
      let ov ← eval o X.env
      standAt apos.atName
      let (f, first) ← holding [ov] (getMethod ov m pl)
      callWith pos f first (backTo pos (starEach [] X.env)) (backToKw pos (keywordEach [] X.env))) := by rfl) : PE X (.Call (.Attribute o m apos) [] [] pos) (tM G W (mMeth cc F mo aNil)) := by
  obtain ⟨f, h1, h2, h3⟩ := R.ex
  exact e_meth0 h3 B (by rw [← B.hK]; exact h1) (by rw [← B.hK]; exact h2) ho ht
theorem ymeth {cc : Nat} {pl : Sem Bool} (R : CalM X.prog X.w G X.mg X.base k cc m n F) (B : Bx X G W k) (ho : PE X o (tM G W mo)) (ha : PA X (e :: es) (tMA G W ma)) (al : ALen ma n := by repeat (first | exact al_nil | refine al_cons ?_)) (ht : eval (.Call (.Attribute o m apos) (e :: es) [] pos) X.env = (do
      let ov ← eval o X.env
      standAt apos.atName
      let (f, first) ← holding [ov] (getMethod ov m pl)
      callWith pos f first (backTo pos (starEach (e :: es) X.env)) (backToKw pos (keywordEach [] X.env))) := by rfl) (hst : starEach (e :: es) X.env = (false, eval e X.env) :: starEach es X.env := by rfl) (hpl : (backTo pos (starEach es X.env)).any (·.1) = false := by rfl) : PE X (.Call (.Attribute o m apos) (e :: es) [] pos) (tM G W (mMeth cc F mo ma)) := by
  obtain ⟨f, h1, h2, h3⟩ := R.ex
  exact e_meth h3 B (by rw [← B.hK]; exact h1) (by rw [← B.hK]; exact h2) ho ha al hst hpl ht
end
section
variable {P : Program} {w : World} {G : Gs} {mg : Str → Option Value} {base : Heap} {k : Nat} {x qual : Str} {st : Stmt} {f : Addr} {fd : FuncData} {ps ks : List Str} {F : FM} {n : Nat}
theorem Cal.bad (h : mg x = some (.ref f)) (kp : PySem.W.keepIn G.K (.ref f) = true) : Cal P w G mg base k x n ks fun _ _ => .bad :=
  ⟨f, h, kp, fun A outer s H us ws vs zs Q E hr e0 r rz l1 l2 q => by
    obtain ⟨_, _, _, _, _, p⟩ := q
    exact p.elim⟩
theorem Cal.fn (h : mg x = some (.ref f)) (Fu : Fun G.K x qual st f fd) (ok : FnOk P w G.K mg base (L2.CX P w) k f fd ps (SpM G F)) (b : Binds G.K fd ps []) : Cal P w G mg base k x n [] F := ⟨f, h, Fu.kp, CallW.of0 ok b⟩
theorem Cal.kw (h : mg x = some (.ref f)) (Fu : Fun G.K x qual st f fd) (ok : FnOk P w G.K mg base (L2.CX P w) k f fd ps (SpM G F)) (b : KBn G.K fd ps n ks (fun us ws => us ++ ws) fun vs zs => vs ++ zs) : Cal P w G mg base k x n ks F :=
  ⟨f, h, Fu.kp, CallW.kw ok b fun A H xs vs zs r _ _ => ⟨xs, r, fun S => rfl⟩⟩
theorem fn_ok2 {x qual : Str} {st : Stmt} {f : Addr} {fd : FuncData} {N ps : List Str} {k n p : Nat} {b : SM} (hn : N.length = n) (hps : ps.length = p) (F : Fun G.K x qual st f fd) (S : FnScope N ps (defScope st)) 
    (hbody : ∀ (cdv : Value) (A : Around) (outer : List PySem.Env) (s : Shared) (H : Hp) (E : XK), Bx (cxOf (L2.CX P w) P w G.K mg base N qual (defScope st) f cdv A outer s H E) G (fun c d _ H' => E c d H') k →
      PassesOwn (model P w) (A.deeper (envOfC qual (defScope st) s.heap.objs.size f cdv)) (envOfC qual (defScope st) s.heap.objs.size f cdv) (cxOf (L2.CX P w) P w G.K mg base N qual (defScope st) f cdv A outer s H E).xe →
      PSs (cxOf (L2.CX P w) P w G.K mg base N qual (defScope st) f cdv A outer s H E) (defBody st) (tMS G (fun c d _ H' => E c d H') b)) :
    FnOk P w G.K mg base (L2.CX P w) (k + 1) f fd ps (SpM G (runB n p b)) := by
  subst hn hps
  exact fn_ok F S hbody
end
end Sm
/-! Sm20: the law's end. -/
namespace Sm
open PySem PySem.Spec PyProof.Rows L2
/-- what the law promises -/
def spLaw (K : PySem.W.Frag) : Sp := fun vs H Q _ => ∃ (a : Addr) (ns : List Int), vs = [.ref a] ∧ SqL K H a (ns.map V.int) ∧ ns.length ≤ 63 ∧ (∀ z ∈ ns, Builtin.Int.intBits z ≤ 1048576) ∧ ∀ H', Q (.bl true) H'
def LawTrue (F : FM) : Prop := ∀ ns : List Int, ns.length ≤ 63 → (∀ z ∈ ns, Builtin.Int.intBits z ≤ 1048576) → ∃ S', F [.d (.scr (ns.map Dt.int))] [] = .ok (.d (.bl true)) S'
theorem rvs_ints {G : Gs} {A : Al} {H : Hp} : ∀ l : List Int, RVs G A H (l.map .int) (l.map V.int)
  | [] => (rfl : ([] : List V) = [])
  | a :: l => ⟨_, _, rfl, rfl, rvs_ints l⟩
theorem law_sp {G : Gs} {F : FM} (h : LawTrue F) {vs : List V} {H : Hp} {Q : VK} {E : XK} (q : spLaw G.K vs H Q E) : SpM G F vs H Q E := by
  obtain ⟨a, ns, rfl, hS, hl, hb, q⟩ := q
  obtain ⟨S', e⟩ := h ns hl hb
  refine ⟨⟨[], []⟩, [], [.d (.scr (ns.map .int))], .cons ⟨a, ns.map V.int, rfl, ?_, rvs_ints ns⟩ .nil, ⟨rfl, List.nodup_nil, fun b hb => absurd hb (List.not_mem_nil), fun i l o e => by simp at e⟩, ?_⟩
  · rcases hS with hS | hS
    · exact .inl ⟨hS, List.not_mem_nil⟩
    · exact .inr fun H' => .inr hS
  · rw [e]
    intro A' H' x s v r
    obtain rfl : v = .bl true := r
    exact q H'
theorem law_ok {P : Program} {w : World} {G : Gs} {mg : Str → Option Value} {base : Heap} {k : Nat} {f : Addr} {fd : FuncData} {ps : List Str} {F : FM} (ok : FnOk P w G.K mg base (L2.CX P w) k f fd ps (SpM G F)) (h : LawTrue F) : FnOk P w G.K mg base (L2.CX P w) k f fd ps (spLaw G.K) :=
  ⟨fun vs H Q E q => ok.len vs H Q E (law_sp h q), fun A outer s H args us vs Q E hr e0 b r q => ok.run A outer s H args us vs Q E hr e0 b r (law_sp h q)⟩
theorem law_hsp {K : PySem.W.Frag} {H : Hp} {a : Addr} {ns : List Int} (hl : ns.length ≤ 63) (hb : ∀ z ∈ ns, Builtin.Int.intBits z ≤ 1048576) (hS : SqL K H a (ns.map V.int)) : spLaw K [.ref a] H (fun v _ => v = .bl true) fun _ _ _ => False := ⟨a, ns, rfl, hS, hl, hb, fun _ => rfl⟩
theorem law_cx {P : Program} {w : World} {H : Hp} {s : Shared} {e : Value} {s' : Shared} (h : L2.CX P w [] H s (fun _ _ _ => False) e s') : False := by
  obtain ⟨_, _, _, _, _, _, _, _, _, _, _, _, z⟩ := h
  exact z
end Sm
/-! Sm21: the mirrors' steps as rewriting rules. -/
namespace Sm
open PySem PySem.Spec PyProof.Rows L2
section
variable {ρ : Env} {S S' : Sto} {d x y : Dv} {t : Dt} {i : Nat} {a b : SM} {m ma mb : M Dv} {c ca cb : M Bool} {as : M (List Dv)} {it : M (List Dt)} {g : GM} {gs : GMs}
@[simp] theorem sSeq_s : sSeq a b ρ S = sqz (a ρ S) b := rfl
@[simp] theorem sqz_nx {ρ' : Env} : sqz (.nx ρ' S) b = b ρ' S := rfl
@[simp] theorem sqz_rt : sqz (.rt d S) b = .rt d S := rfl
@[simp] theorem sNil_s : sNil ρ S = .nx ρ S := rfl
@[simp] theorem sSet_s : sSet i m ρ S = (m ρ S).to ρ fun d S1 => .nx (ρ.set i (some d)) S1 := rfl
@[simp] theorem sIf_s : sIf c a b ρ S = (c ρ S).to ρ fun k S1 => if k = true then a ρ S1 else b ρ S1 := rfl
@[simp] theorem sRet_s : sRet m ρ S = (m ρ S).to ρ fun d S1 => .rt d S1 := rfl
@[simp] theorem sDrop_s : sDrop m ρ S = (m ρ S).to ρ fun _ S1 => .nx ρ S1 := rfl
@[simp] theorem sAsg_s : sAsg g m ρ S = (m ρ S).to ρ fun d S1 => oz (g d ρ) fun ρ1 => .nx ρ1 S1 := rfl
@[simp] theorem oz_some {α : Type} {v : α} {f : α → Sz} : oz (some v) f = f v := rfl
@[simp] theorem sFor_s : sFor it g b ρ S = (it ρ S).to ρ fun ts S1 => forL g b ts ρ S1 := rfl
@[simp] theorem forL_nil : forL g b [] ρ S = .nx ρ S := rfl
@[simp] theorem sSub_s {mo mi mv : M Dv} : sSub mo mi mv ρ S = (mv ρ S).to ρ fun d S1 => (mo ρ S1).to ρ fun o S2 => (mi ρ S2).to ρ fun i S3 => oz (stSub o i d S3) fun S4 => .nx ρ S4 := rfl
@[simp] theorem sFld_s {cc : Nat} {mo mv : M Dv} : sFld cc i mo mv ρ S = (mv ρ S).to ρ fun d S1 => (mo ρ S1).to ρ fun o S2 => oz (stFld cc i o d S2) fun S3 => .nx ρ S3 := rfl
@[simp] theorem sPars_s {is : List Nat} : sPars is as ρ S = (as ρ S).to ρ fun ds S1 => if ds.length = is.length then .nx (setAll is ds ρ) S1 else .bad := rfl
@[simp] theorem mV_s : mV i ρ S = (match ρ[i]? with
  | some (some d) => .ok d S
  | _ => .bad) := rfl
@[simp] theorem mC_s : mC t ρ S = .ok (.d t) S := rfl
@[simp] theorem m1_s {p : P1} : m1 p m ρ S = (m ρ S).bind fun x S1 => lift (p x S1) := rfl
@[simp] theorem m2_s {p : P2} : m2 p ma mb ρ S = (ma ρ S).bind fun x S1 => (mb ρ S1).bind fun y S2 => lift (p x y S2) := rfl
@[simp] theorem mN_s {p : PN} : mN p as ρ S = (as ρ S).bind fun xs S1 => lift (p xs S1) := rfl
@[simp] theorem mF_s {F : FM} : mF F as ρ S = (as ρ S).bind F := rfl
@[simp] theorem aNil_s : aNil ρ S = .ok [] S := rfl
@[simp] theorem aCons_s : aCons m as ρ S = (m ρ S).bind fun x S1 => (as ρ S1).bind fun xs S2 => .ok (x :: xs) S2 := rfl
@[simp] theorem aApp_s {bs : M (List Dv)} : aApp as bs ρ S = (as ρ S).bind fun xs S1 => (bs ρ S1).bind fun ys S2 => .ok (xs ++ ys) S2 := rfl
@[simp] theorem mTst_s : mTst m ρ S = (m ρ S).bind fun d S1 => li (toB d) S1 := rfl
@[simp] theorem toB_s {k : Bool} : toB (.d (.bl k)) = some k := rfl
@[simp] theorem mTru_s {p : PT1} : mTru p m ρ S = (m ρ S).bind fun d S1 => li (p d S1) S1 := rfl
@[simp] theorem cAnd_s : cAnd ca cb ρ S = (ca ρ S).bind fun c S1 => if c = true then cb ρ S1 else .ok false S1 := rfl
@[simp] theorem cOr_s : cOr ca cb ρ S = (ca ρ S).bind fun c S1 => if c = true then .ok true S1 else cb ρ S1 := rfl
@[simp] theorem cNot_s : cNot ca ρ S = (ca ρ S).bind fun c S1 => .ok (!c) S1 := rfl
@[simp] theorem cYes_s : cYes ρ S = .ok true S := rfl
@[simp] theorem mIf_s : mIf c ma mb ρ S = (c ρ S).bind fun k S1 => if k = true then ma ρ S1 else mb ρ S1 := rfl
@[simp] theorem mAnd_s : mAnd ma mb ρ S = (ma ρ S).bind fun x S1 => (li (toB x) S1).bind fun c S2 => if c = true then mb ρ S2 else .ok (.d (.bl false)) S2 := rfl
@[simp] theorem mOr_s : mOr ma mb ρ S = (ma ρ S).bind fun x S1 => (li (toB x) S1).bind fun c S2 => if c = true then .ok (.d (.bl true)) S2 else mb ρ S2 := rfl
@[simp] theorem mNot_s : mNot ma ρ S = (ma ρ S).bind fun x S1 => (li (toB x) S1).bind fun c S2 => .ok (.d (.bl (!c))) S2 := rfl
@[simp] theorem mOrT_s {p : PT1} : mOrT p ma mb ρ S = (ma ρ S).bind fun x S1 => (li (p x S1) S1).bind fun c S2 => if c = true then .ok x S2 else mb ρ S2 := rfl
@[simp] theorem mNotT_s {p : PT1} : mNotT p ma ρ S = (ma ρ S).bind fun x S1 => (li (p x S1) S1).bind fun c S2 => .ok (.d (.bl (!c))) S2 := rfl
@[simp] theorem mFrz_s : mFrz m ρ S = (m ρ S).bind fun d S1 => lift (frz d S1) := rfl
@[simp] theorem mSl_s {p : PSl} {l h : M (Option Int)} : mSl p m l h ρ S = (m ρ S).bind fun d S1 => (l ρ S1).bind fun lo S2 => (h ρ S2).bind fun hi S3 => lift (p lo hi d S3) := rfl
@[simp] theorem oNo_s : oNo ρ S = .ok none S := rfl
@[simp] theorem oPt_s : oPt m ρ S = (m ρ S).bind fun d S1 => (match d with
  | .d (.int i) => .ok (some i) S1
  | _ => .bad) := rfl
@[simp] theorem mLm_s {p : PM} : mLm p m as ρ S = (m ρ S).bind fun o S1 => if isLs S1 o = true then (as ρ S1).bind fun ds S2 => lift (p o ds S2) else .bad := rfl
@[simp] theorem mDnew_s : mDnew ρ S = .ok (.loc S.length) (S ++ [.dct [] []]) := rfl
@[simp] theorem iSeq_s : iSeq m ρ S = (m ρ S).bind fun d S1 => li (seqOf d) S1 := rfl
@[simp] theorem iRg_s {f : List Dv → Option (List Dt)} : iRg f as ρ S = (as ρ S).bind fun ds S1 => li (f ds) S1 := rfl
@[simp] theorem iDc_s {f : Dv → Option (List Dt)} : iDc f m ρ S = (m ρ S).bind fun d S1 => li (f d) S1 := rfl
@[simp] theorem mLcI_s {vs : List Nat} : mLcI vs it g c m ρ S = (it ρ S).bind fun ts S1 => if ts.length ≤ 16777216 then lcL g c m (wipeE ρ vs) ts S1 else .bad := rfl
@[simp] theorem gN_s : gN i d ρ = some (ρ.set i (some d)) := rfl
@[simp] theorem gT_s {ts : List Dt} : gT gs (.d (.tup ts)) ρ = gs ts ρ := rfl
@[simp] theorem gsNil_s : gsNil [] ρ = some ρ := rfl
@[simp] theorem bz_some {α β : Type} {v : α} {f : α → Rz β} : bz (some v) f = f v := rfl
@[simp] theorem wipe_nil : wipeE ρ [] = ρ := rfl
@[simp] theorem wipe_cons {v : Nat} {vs : List Nat} : wipeE ρ (v :: vs) = (wipeE ρ vs).set v none := rfl
@[simp] theorem lcL_nil : lcL g c m ρ [] S = .ok [] S := rfl
@[simp] theorem pures_nil : pures [] = some [] := rfl
@[simp] theorem pures_cons {ds : List Dv} : pures (.d t :: ds) = (pures ds).map (t :: ·) := rfl
@[simp] theorem shaped_int (i : Int) : SeqAt.shaped (.int i) = true := rfl
@[simp] theorem eqDv_int {i j : Int} : eqDv S (.d (.int i)) (.d (.int j)) = some (decide (i = j)) := by
  show (if SeqAt.shaped (.int i) = true ∧ SeqAt.shaped (.int j) = true then some (PyData.eqv (.int i) (.int j)) else none) = _
  rw [if_pos ⟨shaped_int i, shaped_int j⟩]
  congr 1
end
end Sm
/-! Sm22: what is never reached; defs with a star parameter, calls with stars. -/
namespace Sm
open PySem PySem.Spec PyProof.Rows L2
/-- a statement, an expression that is never reached -/
def sBad : SM := fun _ _ => .bad
theorem s_bad {X : Cx} {G : Gs} {W : WX} {st : Stmt} : PS X st (tMS G W sBad) := ⟨fun _ _ _ _ _ _ h => by
  obtain ⟨_, _, _, _, _, p⟩ := h
  exact p.elim⟩
/-- what is left over is a tuple -/
def starF (p : Nat) (F : FM) : FM := fun ds S => match pures (ds.drop p) with
  | some ts => if p ≤ ds.length ∧ ts.length ≤ 16777216 then F (ds.take p ++ [.d (.tup ts)]) S else .bad
  | none => .bad
abbrev CallR' (P : Program) (w : World) (G : Gs) (mg : Str → Option Value) (base : Heap) (k : Nat) (f : Addr) (F : FM) : Prop := FnR P w G.K mg base (L2.CX P w) k f (SpM G F)
section
variable {P : Program} {w : World} {G : Gs} {mg : Str → Option Value} {base : Heap}
theorem body_ok {qual : Str} {st : Stmt} {f : Addr} {N : List Str} {k p : Nat} {b : SM} {cdv : Value} {A : Around} {outer : List PySem.Env} {s : Shared} {H : Hp} {vs : List V} {Q : VK} {E : XK} (nd : N.Nodup)
    (hbody : Bx (cxOf (L2.CX P w) P w G.K mg base N qual (defScope st) f cdv A outer s H E) G (fun c d _ H' => E c d H') k →
      PassesOwn (model P w) (A.deeper (envOfC qual (defScope st) s.heap.objs.size f cdv)) (envOfC qual (defScope st) s.heap.objs.size f cdv) (cxOf (L2.CX P w) P w G.K mg base N qual (defScope st) f cdv A outer s H E).xe →
      PSs (cxOf (L2.CX P w) P w G.K mg base N qual (defScope st) f cdv A outer s H E) (defBody st) (tMS G (fun c d _ H' => E c d H') b))
    (hr : Room k (A.deeper (envOfC qual (defScope st) s.heap.objs.size f cdv))) (h : SpM G (runB N.length p b) vs H Q E) :
    ∃ t, PSs (cxOf (L2.CX P w) P w G.K mg base N qual (defScope st) f cdv A outer s H E) (defBody st) t ∧ t { nx := fun _ H' => Q .non H', rt := Q } (start N vs) H := by
  refine ⟨_, hbody ⟨rfl, nd, takes_of rfl rfl rfl rfl, rfl, hr⟩ (passes_of rfl), ?_⟩
  obtain ⟨A', S', ds, r, s', q⟩ := h
  unfold runB at q
  split at q
  · rename_i e
    refine ⟨A', ds.map some ++ List.replicate (N.length - p) none, S', ?_, s', ?_⟩
    · have := start_rds (N.length - vs.length) r
      rw [show N.length - p = N.length - vs.length by rw [← e, Paired.length r]]
      exact this
    · cases eb : b (ds.map some ++ List.replicate (N.length - p) none) S' with
      | nx ρ S1 =>
        rw [eb] at q
        exact fun A1 H1 σ1 y s1 e1 => q A1 H1 y s1 .non rfl
      | rt d S1 =>
        rw [eb] at q
        exact fun A1 H1 v y s1 e1 => q A1 H1 y s1 v e1
      | er c t ρ S1 =>
        rw [eb] at q
        exact fun A1 H1 σ1 cls d y s1 e1 x1 => q A1 H1 cls d y s1 x1
      | bk ρ S1 =>
        rw [eb] at q
        exact q.elim
      | ct ρ S1 =>
        rw [eb] at q
        exact q.elim
      | bad =>
        rw [eb] at q
        exact q.elim
  · exact q.elim
theorem RDs.drop {G : Gs} {A : Al} {H : Hp} : ∀ (n : Nat) {ds : List Dv} {vs : List V}, RDs G A H ds vs → RDs G A H (ds.drop n) (vs.drop n)
  | 0, _, _, h => h
  | n + 1, _, _, .nil => .nil
  | n + 1, _, _, .cons _ r => RDs.drop n r
theorem RDs.take {G : Gs} {A : Al} {H : Hp} : ∀ (n : Nat) {ds : List Dv} {vs : List V}, RDs G A H ds vs → RDs G A H (ds.take n) (vs.take n)
  | 0, _, _, h => .nil
  | n + 1, _, _, .nil => .nil
  | n + 1, _, _, .cons q r => .cons q (RDs.take n r)
/-- def f(a, .., *v) -/
theorem fn_okS {x qual : Str} {st : Stmt} {f : Addr} {fd : FuncData} {N ps : List Str} {pv : Str} {k n p : Nat} {b : SM} (hn : N.length = n) (hps : ps.length = p) (F : Fun G.K x qual st f fd) (S : FnScope N (ps ++ [pv]) (defScope st))
    (hb : ∀ (kV doc pm : Value) (an : Option Addr) (cdv ct : Value) (us rest : List Value), us.length = ps.length → bindArgs (PySem.W.fnOf x qual (defArgs st) (defBody st) (defScope st) .none kV doc pm an cdv ct) ⟨us ++ rest, []⟩ = (newTuple rest >>= fun t => pure (ps.zip us ++ [(pv, t)])))
    (hbody : ∀ (cdv : Value) (A : Around) (outer : List PySem.Env) (s : Shared) (H : Hp) (E : XK), Bx (cxOf (L2.CX P w) P w G.K mg base N qual (defScope st) f cdv A outer s H E) G (fun c d _ H' => E c d H') k →
      PassesOwn (model P w) (A.deeper (envOfC qual (defScope st) s.heap.objs.size f cdv)) (envOfC qual (defScope st) s.heap.objs.size f cdv) (cxOf (L2.CX P w) P w G.K mg base N qual (defScope st) f cdv A outer s H E).xe →
      PSs (cxOf (L2.CX P w) P w G.K mg base N qual (defScope st) f cdv A outer s H E) (defBody st) (tMS G (fun c d _ H' => E c d H') b)) :
    CallR' P w G mg base (k + 1) f (starF p (runB n (p + 1) b)) := by
  subst hn hps
  obtain ⟨oc, od, kV, doc, pm, an, cdv, ct, osl, rfl, lk, hcd⟩ := F.ex
  refine (StX.fn_star (sp := SpM G (runB N.length (ps.length + 1) b)) lk hcd S StX.cxUp (hb kV doc pm an cdv ct) fun A outer s H vs Q E hr hsp => body_ok S.nd (hbody cdv A outer s H E) hr hsp).imp fun vs H Q E h => ?_
  obtain ⟨A, S', ds, r, s', q⟩ := h
  unfold starF at q
  split at q
  · rename_i ts ep
    split at q
    · rename_i hc
      have hl := Paired.length r
      refine ⟨vs.take ps.length, vs.drop ps.length, (List.take_append_drop _ _).symm, by rw [List.length_take]; omega, ?_, fun p hp => ?_⟩
      · have h1 := (pures_rvs ep (RDs.drop ps.length r)).length
        rw [← h1, sizeLine_eq]
        exact hc.2
      · have rv := pures_rvs ep (RDs.drop ps.length r)
        exact ⟨A, S', ds.take ps.length ++ [.d (.tup ts)], (RDs.kp (Ext.new hp).kp (RDs.take ps.length r)).append (.cons (show RD G A (upd H p (.tup (vs.drop ps.length))) (.d (.tup ts)) (.ref p) from RV.tup_new s' hp rv) .nil), s'.new hp, Po.mono (Ext.new hp) q⟩
    · exact q.elim
  · exact q.elim
end
/-! calls by position -/
structure CalV (P : Program) (w : World) (G : Gs) (mg : Str → Option Value) (base : Heap) (k : Nat) (x : Str) (F : FM) : Prop where
  ex : ∃ f, mg x = some (.ref f) ∧ PySem.W.keepIn G.K (.ref f) = true ∧ CallR' P w G mg base k f F
structure CalMV (P : Program) (w : World) (G : Gs) (mg : Str → Option Value) (base : Heap) (k c : Nat) (x : Str) (F : FM) : Prop where
  ex : ∃ f, SlX.SCls G.K (G.cls c) ∧ BMeth G.K (G.cls c) x f ∧ CallR' P w G mg base k f F
def aStar (m : M Dv) (r : M (List Dv)) : M (List Dv) := fun ρ S => (m ρ S).bind fun x S1 => (li (seqOf x) S1).bind fun ts S2 => (r ρ S2).bind fun ys S3 => .ok (ts.map .d ++ ys) S3
theorem seqOf_rd {G : Gs} {A : Al} {H : Hp} {d : Dv} {v : V} {ts : List Dt} (h : seqOf d = some ts) (r : RD G A H d v) : ∃ a vs, v = .ref a ∧ (SqT G.K H a vs ∨ SqL G.K H a vs) ∧ RVs G A H ts vs := by
  cases d with
  | loc n => cases h
  | d t =>
    cases t with
    | tup xs =>
      cases h
      obtain ⟨a, vs, e, ht, hv⟩ := r
      exact ⟨a, vs, e, .inl ht.sq, hv⟩
    | lst xs =>
      cases h
      obtain ⟨a, vs, e, ht, hv⟩ := r
      exact ⟨a, vs, e, .inr ht.sq, hv⟩
    | scr xs =>
      cases h
      obtain ⟨a, vs, e, ht, hv⟩ := r
      exact ⟨a, vs, e, .inr ht.sq, hv⟩
    | ltp xs =>
      cases h
      obtain ⟨a, vs, e, ht, hv⟩ := r
      exact ⟨a, vs, e, .inl (ht H), hv⟩
    | _ => cases h
theorem li_bd {α β : Type} {G : Gs} {E : XK} {A : Al} {H : Hp} {S : Sto} {o : Option α} {f : α → Sto → Rz β} {k : Al → Hp → β → Prop} (h : Po G E A H ((li o S).bind f) k) : ∃ a, o = some a ∧ Po G E A H (f a S) k := by
  cases o with
  | none => exact h.elim
  | some a => exact ⟨a, rfl, h⟩
section
variable {X : Cx} {G : Gs} {W : WX} {k c : Nat} {x m : Str} {p pos apos : Pos} {e o : Expr} {es : List Expr} {ma : M (List Dv)} {mo : M Dv} {F : FM}
theorem a_star (hK : G.K = X.K) (he : PE X e (tM G W mo)) (hr : PA X es (tMA G W ma)) (hs : starEach (.Starred e p :: es) X.env = (true, eval e X.env) :: starEach es X.env := by rfl) : PA X (.Starred e p :: es) (tMA G W (aStar mo ma)) := by
  refine (StX.pa_star he hr hs).sm fun σ H Q h => ?_
  obtain ⟨A, ρ, S, he', hs', p0⟩ := h
  refine ⟨A, ρ, S, he', hs', Po.step p0 fun d S1 A1 H1 x1 s1 p1 v rv => ?_⟩
  obtain ⟨ts, e1, kk⟩ := li_bd p1
  obtain ⟨a, vs, ev, hq, rvs⟩ := seqOf_rd e1 rv
  rw [hK] at hq
  refine ⟨a, vs, ev, hq, A1, ρ, S1, he'.kp x1.kp, s1, Po.step kk fun ds S2 A2 H2 x2 s2 p2 ys rys => ?_⟩
  exact Po.now p2 s2 _ ((RVs.rds (rvs.kp x2.kp)).append rys)
/-! methods -/
theorem findObj_slt {K : PySem.W.Frag} {C g f : Addr} {od : Obj} {name : Str} {gv : Value} (ic : PySem.W.isClsIn K C = true) (ha : PySem.W.findIn K (.ref C) name = some (some (.ref f))) (hg : PySem.W.specialIn K (.ref f) "__get__" = some (some gv)) (ht : PySem.W.takesIn K (.ref f) = some false) (hc : PySem.W.copiedNames.contains name = false) (hl : PySem.W.lookIn name od = some none) :
    PySem.W.findObj K C (some od) name = some (.bind gv (.ref f)) := by
  obtain ⟨cd, hcd⟩ := Option.isSome_iff_exists.mp ic
  unfold PySem.W.findObj
  have ho : PySem.W.ownOf cd (some od) name = some none := by
    unfold PySem.W.ownOf
    split
    · exact hl
    · rfl
  rw [hcd, Option.bind_some, ha, Option.bind_some]
  simp only [hg, ht, Option.bind_some, ho, hc, Bool.false_and, Bool.false_eq_true, if_false]
theorem getbound_slt {pins : List (Addr × Obj)} {σ : L2.St} {H : Hp} {s : Shared} {a C dx g : Addr} {vs : List (Option V)} {A : Around} {E : Value → Shared → Prop} {b : Bool} {Q : Value → Shared → Prop} (I : Inv X pins σ H s) (e : SlX.Slt H a C dx vs) (cl : SlX.SCls X.K C) (k : BMeth X.K C m g)
    (h : ∀ p s', H p = none → Inv X pins σ (upd H p (.met g a)) s' → Q (.ref p) s') : wpAny (model X.prog X.w) A (getAttr (.ref a) m b) Q E s := by
  obtain ⟨sl, od, r, J, hl⟩ := SlX.slt_inst I e
  refine PySem.W.get_bind I.kIn J (PySem.W.plainGet_of (cl.get m)).1 (findObj_slt (g := g) cl.ic k.mt.at_ k.gf k.tk k.cp (hl m)) (PySem.W.plainGet_of (cl.get m)).2 ?_
  refine wpAny_call (PySem.W.fn_get (s := { s with toks := s.toks + 1 }) I.kIn (beq_iff_eq.mp k.mt.fn) (PySem.W.handed_on rfl ?_))
  refine h s.heap.objs.size _ (I.hok.fresh (Nat.le_refl _)) ?_
  exact I.laid (t' := s.toks + 1) (a := s.heap.objs.size) (o := .met g a) (fun b u z => Heap.get?_push_of_some _ z) (Nat.le_refl _)
    (show (s.heap.push (PySem.W.methodObj (.ref g) (.ref a))).get? s.heap.objs.size = some (PySem.W.methodObj (.ref g) (.ref a)) from Heap.get?_push_size s.heap rfl)
theorem meth_start {X : Cx} {G : Gs} {W : WX} {c : Nat} {F : FM} {mo : M Dv} {ma : M (List Dv)} {g : Addr} {σ : L2.St} {H : Hp} {Q : VK} (h : tM G W (mMeth c F mo ma) σ H Q) :
    tM G W mo σ H fun y H1 => ∃ a dx ws, y = .ref a ∧ SlX.Slt H1 a (G.cls c) dx ws ∧ ∀ q, H1 q = none → tMA G W ma σ (upd H1 q (.met g a)) fun vs H2 => H2 q = some (.met g a) ∧ SpM G F (V.ref a :: vs) H2 Q (Wa W σ) := by
  obtain ⟨A, ρ, S, he', hs, p0⟩ := h
  refine ⟨A, ρ, S, he', hs, Po.step p0 fun d S1 A1 H1 x1 s1 p1 v rv => ?_⟩
  by_cases hi : isIns c d S1 = true
  · simp only [hi, if_true] at p1
    obtain ⟨a, dx, ws, ev, hsl⟩ := isIns_slt s1 rv hi
    subst ev
    refine ⟨a, dx, ws, rfl, hsl, fun q hq => ?_⟩
    have xn : Ext A1 H1 A1 (upd H1 q (.met g a)) := Ext.new hq
    have sn := s1.new (o := .met g a) hq
    refine ⟨A1, ρ, S1, (he'.kp x1.kp).kp xn.kp, sn, Po.step (Po.mono xn p1) fun ds S2 A2 H2 x2 s2 p2 vs rvs => ?_⟩
    have hq2 : H2 q = some (.met g a) := (x2.kp.ex q (.met g a) (fun _ _ z => by cases z) (fun z => by obtain ⟨_, z⟩ := z; cases z) (s1.out hq) upd_same).1
    exact ⟨hq2, A2, S2, d :: ds, .cons (RD.kp x2.kp (RD.kp xn.kp rv)) rvs, s2, p2⟩
  · simp only [hi] at p1
    exact p1.elim
theorem runVm {pins : List (Addr × Obj)} {σ : L2.St} {H : Hp} {s : Shared} {Q : VK} {us : List Value} {vs : List V} {g a q : Addr} (R : CallR' X.prog X.w G X.mg X.base k g F) (B : Bx X G W k) (I : Inv X pins σ H s) (hm : H q = some (.met g a)) (r : Vals vs us)
    (h : SpM G F (V.ref a :: vs) H Q (Wa W σ)) : PySem.W.MethP X.K q g (.ref a) s.heap ∧ wpAny (model X.prog X.w) X.A (call (.ref q) us []) (EP X pins σ Q) X.xe s := by
  refine ⟨met_P I hm, wpAny_call (PySem.W.method_call (met_P I hm).1 (codeAny_mono (R X.A X.stack s H (Value.ref a :: us) (V.ref a :: vs) Q (Wa W σ) B.room (by rw [B.hK]; exact I.env0) (.cons rfl r) h) fun r s' hq => ?_))⟩
  cases r with
  | error e => exact passAt B.tk σ pins H s e s' I hq
  | ok fl =>
    cases fl with
    | ret u => exact I.after hq
    | next => exact False.elim hq
    | brk => exact False.elim hq
    | cont => exact False.elim hq
/-- o.m( *y) -/
theorem ymethVS1 {q0 : Pos} (R : CalMV X.prog X.w G X.mg X.base k c m F) (B : Bx X G W k) {my : M Dv} (ho : PE X o (tM G W mo)) (h0 : PE X e (tM G W my)) (hbase : attributeBase o m X.env (eval o X.env) = eval o X.env := by rfl) :
    PE X (.Call (.Attribute o m apos) [.Starred e q0] [] pos) (tM G W (mMeth c F mo (aStar my aNil))) := by
  obtain ⟨g, cl, bm, R⟩ := R.ex
  rw [B.hK] at cl bm
  refine ⟨fun pins s σ H Q I h => ?_⟩
  refine starcall_of hbase (thn (ho.run pins s σ H _ I (meth_start (X := X) (g := g) h)) fun u s1 ⟨y, H1, I1, rx, a, dx, ws, ex, hsl, q⟩ => ?_)
  subst ex
  obtain rfl : u = Value.ref a := rx
  refine getbound_slt I1 hsl cl bm fun q1 s2 hq1 I2 => ?_
  refine PySem.W.ks_call (P := PySem.W.MethP X.K q1 g (.ref a)) rfl (PySem.W.keeps_M bm.fi) (PySem.W.ks_lone ?_)
  have key : tM G W my σ (upd H1 q1 (.met g a)) fun y H2 => ∃ b vs, y = .ref b ∧ (SqT X.K H2 b vs ∨ SqL X.K H2 b vs) ∧ H2 q1 = some (.met g a) ∧ SpM G F (V.ref a :: vs) H2 Q (Wa W σ) := by
    obtain ⟨A, ρ, S, he', hs, p0⟩ := q q1 hq1
    refine ⟨A, ρ, S, he', hs, Po.step p0 fun d S1 A1 H1 x1 s1 p1 v rv => ?_⟩
    obtain ⟨ts, e1, kk⟩ := li_bd p1
    obtain ⟨b, vs, ev, hq, rvs⟩ := seqOf_rd e1 rv
    rw [B.hK] at hq
    have kk2 : Po G (Wa W σ) A1 H1 (Rz.ok (ts.map Dv.d ++ []) S1) _ := kk
    have := Po.now kk2 s1 vs (by rw [List.append_nil]; exact rvs.rds)
    exact ⟨b, vs, ev, hq, this.1, this.2⟩
  refine thn (h0.run pins s2 σ _ _ I2 key) fun v s3 ⟨y, H2, I3, ry, b, vs, ey, ht, hm, hsp⟩ => ?_
  subst ey
  obtain rfl : v = Value.ref b := ry
  exact StX.star_any I3 ht fun us s4 I4 rv => runVm R B I4 hm rv hsp
end
end Sm
/-! Sm23: defs with defaults, called by position, by name, with a default left away. -/
namespace Sm
open PySem PySem.Spec PyProof.Rows L2
/-- places in another order -/
def permL {α : Type} (ix : List Nat) (xs : List α) : List α := ix.filterMap fun i => xs[i]?
def kwF (ix : List Nat) (dds : List Dt) (F : FM) : FM := fun xs => F (permL ix (xs ++ dds.map .d))
theorem perm_rds {G : Gs} {A : Al} {H : Hp} {ds : List Dv} {vs : List V} (r : RDs G A H ds vs) : ∀ ix : List Nat, RDs G A H (permL ix ds) (permL ix vs)
  | [] => .nil
  | i :: ix => by
    have ih := perm_rds r ix
    unfold permL at ih ⊢
    rw [List.filterMap_cons, List.filterMap_cons]
    by_cases hi : i < ds.length
    · have hi2 : i < vs.length := by rw [← Paired.length r]; exact hi
      obtain ⟨v, ev, rv⟩ := r.get (List.getElem?_eq_getElem hi)
      rw [List.getElem?_eq_getElem hi, ev]
      exact .cons rv ih
    · have hi2 : ¬ i < vs.length := by rw [← Paired.length r]; exact hi
      rw [List.getElem?_eq_none (by omega), List.getElem?_eq_none (by omega)]
      exact ih
theorem perm_vals {vs : List V} {us : List Value} (r : Vals vs us) : ∀ ix : List Nat, Vals (permL ix vs) (permL ix us)
  | [] => .nil
  | i :: ix => by
    have ih := perm_vals r ix
    unfold permL at ih ⊢
    rw [List.filterMap_cons, List.filterMap_cons]
    have key : ∀ {vs : List V} {us : List Value} (i : Nat), Vals vs us → (vs[i]? = none ∧ us[i]? = none) ∨ ∃ v u, vs[i]? = some v ∧ us[i]? = some u ∧ RelV v u := by
      intro vs us i r
      induction r generalizing i with
      | nil => exact .inl ⟨by simp, by simp⟩
      | cons a b ih =>
        cases i with
        | zero => exact .inr ⟨_, _, rfl, rfl, a⟩
        | succ i => simpa using ih i
    rcases key i r with ⟨e1, e2⟩ | ⟨v, u, e1, e2, rv⟩
    · rw [e1, e2]
      exact ih
    · rw [e1, e2]
      exact .cons rv ih
structure FunA (K : PySem.W.Frag) (x qual : Str) (st : Stmt) (f : Addr) (dV kV : Value) (fd : FuncData) : Prop where
  ex : ∃ (oc : Value) (od : Option Addr) (doc pm : Value) (an : Option Addr) (cdv ct : Value) (osl : Array (Option Value)),
    fd = PySem.W.fnOf x qual (defArgs st) (defBody st) (defScope st) dV kV doc pm an cdv ct ∧ K.lookup f = some ⟨oc, od, .func fd, osl⟩ ∧ PySem.W.codeIn K cdv qual = true
  kp : PySem.W.keepIn K (.ref f) = true
theorem funA_mk {K : PySem.W.Frag} {x qual : Str} {st : Stmt} {f : Addr} {oc : Value} {od an : Option Addr} {osl : Array (Option Value)} {dV kV doc pm cdv ct : Value} (l : K.lookup f = some ⟨oc, od, .func (PySem.W.fnOf x qual (defArgs st) (defBody st) (defScope st) dV kV doc pm an cdv ct), osl⟩)
    (c : PySem.W.codeIn K cdv qual = true) (k : PySem.W.keepIn K (.ref f) = true) : FunA K x qual st f dV kV (PySem.W.fnOf x qual (defArgs st) (defBody st) (defScope st) dV kV doc pm an cdv ct) := ⟨⟨oc, od, doc, pm, an, cdv, ct, osl, rfl, l, c⟩, k⟩
section
variable {P : Program} {w : World} {G : Gs} {mg : Str → Option Value} {base : Heap} {x qual : Str} {st : Stmt} {f : Addr} {dV kV : Value} {fd : FuncData} {ps ks : List Str} {k n : Nat} {F : FM}
theorem fn_okA {N : List Str} {n p : Nat} {b : SM} (hn : N.length = n) (hps : ps.length = p) (Fu : FunA G.K x qual st f dV kV fd) (S : FnScope N ps (defScope st))
    (hbody : ∀ (cdv : Value) (A : Around) (outer : List PySem.Env) (s : Shared) (H : Hp) (E : XK), Bx (cxOf (L2.CX P w) P w G.K mg base N qual (defScope st) f cdv A outer s H E) G (fun c d _ H' => E c d H') k →
      PassesOwn (model P w) (A.deeper (envOfC qual (defScope st) s.heap.objs.size f cdv)) (envOfC qual (defScope st) s.heap.objs.size f cdv) (cxOf (L2.CX P w) P w G.K mg base N qual (defScope st) f cdv A outer s H E).xe →
      PSs (cxOf (L2.CX P w) P w G.K mg base N qual (defScope st) f cdv A outer s H E) (defBody st) (tMS G (fun c d _ H' => E c d H') b)) :
    FnOk P w G.K mg base (L2.CX P w) (k + 1) f fd ps (SpM G (runB n p b)) := by
  subst hn hps
  obtain ⟨oc, od, doc, pm, an, cdv, ct, osl, rfl, lk, hcd⟩ := Fu.ex
  refine fn_of lk hcd S (fun vs H Q E h => ?_) fun A outer s H vs Q E hr h => body_ok S.nd (hbody cdv A outer s H E) hr h
  obtain ⟨A, S', ds, r, s, p⟩ := h
  unfold runB at p
  split at p
  · rename_i e
    rw [← Paired.length r]
    exact e
  · exact p.elim
/-- all is given, in whatever order -/
theorem CallW.kp (ok : FnOk P w G.K mg base (L2.CX P w) k f fd ps (SpM G F)) (Fu : FunA G.K x qual st f dV kV fd) (ix : List Nat)
    (hb : ∀ (doc pm : Value) (an : Option Addr) (cdv ct : Value) (us ws : List Value), us.length = n → ws.length = ks.length → bindArgs (PySem.W.fnOf x qual (defArgs st) (defBody st) (defScope st) dV kV doc pm an cdv ct) ⟨us, ks.zip ws⟩ = pure (ps.zip (permL ix (us ++ ws)))) :
    CallW P w G mg base k f n ks (kwF ix [] F) := by
  intro A outer s H us ws vs zs Q E hr e0 r rz l1 l2 q
  obtain ⟨A', S', ds, rd, s', p⟩ := q
  obtain ⟨oc, od, doc, pm, an, cdv, ct, osl, rfl, lk, hcd⟩ := Fu.ex
  have q2 : SpM G F (permL ix (vs ++ zs)) H Q E := ⟨A', S', permL ix ds, perm_rds rd ix, s', by unfold kwF at p; simpa using p⟩
  refine ok.run A outer s H ⟨us, ks.zip ws⟩ (permL ix (us ++ ws)) (permL ix (vs ++ zs)) Q E hr e0 ?_ (perm_vals (Vals.append r rz) ix) q2
  exact .of_eq (hb doc pm an cdv ct us ws (by rw [← r.length, l1]) (by rw [← rz.length, l2]))
/-- the keyword-only one is left away -/
theorem CallW.kpd {D : Addr} {dm : Str} {u : Value} {vD : V} {dD : Dt} (ok : FnOk P w G.K mg base (L2.CX P w) k f fd ps (SpM G F)) (Fu : FunA G.K x qual st f dV (.ref D) fd) (ix : List Nat) (hD : PySem.W.nsIn G.K D dm = some (some u)) (rv : RelV vD u) (rd : ∀ A H, RV G A H dD vD)
    (hb : ∀ (doc pm : Value) (an : Option Addr) (cdv ct : Value) (us ws : List Value), us.length = n → ws.length = ks.length → KwChain D [(dm, u)] (bindArgs (PySem.W.fnOf x qual (defArgs st) (defBody st) (defScope st) dV (.ref D) doc pm an cdv ct) ⟨us, ks.zip ws⟩) (ps.zip (permL ix (us ++ ws ++ [u])))) :
    CallW P w G mg base k f n ks (kwF ix [dD] F) := by
  intro A outer s H us ws vs zs Q E hr e0 r rz l1 l2 q
  obtain ⟨A', S', ds, rds, s', p⟩ := q
  obtain ⟨oc, od, doc, pm, an, cdv, ct, osl, rfl, lk, hcd⟩ := Fu.ex
  have p2 : Po G E A' H (F (permL ix (ds ++ [Dv.d dD])) S') (kD G Q) := p
  have q2 : SpM G F (permL ix (vs ++ zs ++ [vD])) H Q E := ⟨A', S', permL ix (ds ++ [.d dD]), perm_rds (rds.append (.cons (show RD G A' H (.d dD) vD from rd A' H) .nil)) ix, s', p2⟩
  refine ok.run A outer s H ⟨us, ks.zip ws⟩ (permL ix (us ++ ws ++ [u])) (permL ix (vs ++ zs ++ [vD])) Q E hr e0 ?_ (perm_vals (Vals.append (Vals.append r rz) (.cons rv .nil)) ix) q2
  refine BindsTo.of_looks fun M => KwChain.looks (e0.mod.kin.keeps fun b o e => (e0.bs b o e).1) (fun q hq => ?_) (hb doc pm an cdv ct us ws (by rw [← r.length, l1]) (by rw [← rz.length, l2]))
  rw [List.mem_singleton.mp hq]
  exact hD
theorem Cal.kpd {D : Addr} {dm : Str} {u : Value} {vD : V} {dD : Dt} (h : mg x = some (.ref f)) (ok : FnOk P w G.K mg base (L2.CX P w) k f fd ps (SpM G F)) (Fu : FunA G.K x qual st f dV (.ref D) fd) (ix : List Nat) (hD : PySem.W.nsIn G.K D dm = some (some u)) (rv : RelV vD u) (rd : ∀ A H, RV G A H dD vD)
    (hb : ∀ (doc pm : Value) (an : Option Addr) (cdv ct : Value) (us ws : List Value), us.length = n → ws.length = ks.length → KwChain D [(dm, u)] (bindArgs (PySem.W.fnOf x qual (defArgs st) (defBody st) (defScope st) dV (.ref D) doc pm an cdv ct) ⟨us, ks.zip ws⟩) (ps.zip (permL ix (us ++ ws ++ [u])))) : Cal P w G mg base k x n ks (kwF ix [dD] F) :=
  ⟨f, h, Fu.kp, CallW.kpd ok Fu ix hD rv rd hb⟩
theorem Cal.kp (h : mg x = some (.ref f)) (ok : FnOk P w G.K mg base (L2.CX P w) k f fd ps (SpM G F)) (Fu : FunA G.K x qual st f dV kV fd) (ix : List Nat)
    (hb : ∀ (doc pm : Value) (an : Option Addr) (cdv ct : Value) (us ws : List Value), us.length = n → ws.length = ks.length → bindArgs (PySem.W.fnOf x qual (defArgs st) (defBody st) (defScope st) dV kV doc pm an cdv ct) ⟨us, ks.zip ws⟩ = pure (ps.zip (permL ix (us ++ ws)))) : Cal P w G mg base k x n ks (kwF ix [] F) :=
  ⟨f, h, Fu.kp, CallW.kp ok Fu ix hb⟩
theorem _root_.L2.FnOk.isoS (h : FnOk P w G.K mg base (L2.CX P w) k f fd ps (SpM G F)) : FnOk P w G.K mg base (L2.CX P w) k f fd ps (SpM G (iso F)) := h.imp fun _ _ _ _ q => q.iso
end
end Sm
/-! Sm24: list comprehensions of two clauses. -/
namespace Sm
open PySem PySem.Spec PyProof.Rows L2
section
variable {G : Gs} {A A' A1 A2 : Al} {H H' H1 H2 : Hp} {S : Sto} {D : Addr}
/-- the heap without D -/
def lackH (H : Hp) (D : Addr) : Hp := fun a => if a = D then none else H a
theorem lack_ne {a : Addr} (h : a ≠ D) : lackH H D a = H a := if_neg h
theorem lack_same : lackH H D D = none := if_pos rfl
theorem lack_kp (hD : D ∈ A.hid) : Kp A H (A.show_ D) (lackH H D) := by
  have hne : ∀ a, a ∉ A.all → a ≠ D := fun a n z => n (by rw [z]; exact List.mem_append_right _ hD)
  have hn : ∀ a, a ∉ A.all → a ∉ (A.show_ D).all := fun a n z => n (show_all z)
  refine ⟨⟨fun a u _ n r => ⟨?_, hn a n⟩, fun a u _ _ n r => ⟨by rw [lack_ne (hne a n)]; exact r, hn a n⟩, fun a u n r => ⟨⟨u, by rw [lack_ne (hne a n)]; exact r⟩, hn a n⟩, fun a o vs n r => ⟨by rw [lack_ne (hne a n)]; exact r, hn a n⟩⟩, fun _ _ e => .inl e⟩
  rcases r with r | ⟨ob, r⟩
  · exact .inl (by rw [lack_ne (hne a n)]; exact r)
  · exact .inr ⟨ob, by rw [lack_ne (hne a n)]; exact r⟩
theorem lack_ext (hD : D ∈ A.hid) : ExtB D (A.show_ D) (lackH H D) A H := by
  refine ⟨fun i l e => .inl e, fun a u ne e n => ?_, fun a u ne e n => ⟨.inl (by rw [lack_ne ne] at e; exact e), n⟩, fun a u ne e n m => by rw [lack_ne ne] at e; exact e, hD⟩
  unfold Al.show_
  simp only [List.mem_filter]
  exact ⟨fun z => ⟨z, by simpa using ne⟩, fun z => z.1⟩
/-- one after the other, beside D -/
theorem ExtB.join (x : ExtB D A H A1 H1) (y : ExtB D (A1.show_ D) (lackH H1 D) A' H') : ExtB D A H A' H' := by
  refine ⟨fun i l e => ?_, fun a u ne e n => ?_, fun a u ne e n => ?_, fun a u ne e n m => ?_, y.inH⟩
  · rcases x.live i l e with z | z
    · exact y.live i l z
    · rcases y.live i [] z with z | z
      · exact .inr z
      · exact .inr z
  · obtain ⟨h1, n1⟩ := x.keep a u ne e n
    obtain ⟨v, hv⟩ := h1.there
    have h2 := y.hid a v ne (by rw [lack_ne ne]; exact hv) n1
    have h3 := x.hid a u ne e n
    rw [h2, ← h3]
    unfold Al.show_
    simp only [List.mem_filter]
    exact ⟨fun z => z.1, fun z => ⟨z, by simpa using ne⟩⟩
  · obtain ⟨h1, n1⟩ := x.keep a u ne e n
    obtain ⟨v, hv⟩ := h1.there
    obtain ⟨h2, n2⟩ := y.keep a v ne (by rw [lack_ne ne]; exact hv) n1
    rw [hv] at h1
    exact ⟨h1.step h2, n2⟩
  · have h1 := x.keepH a u ne e n m
    refine y.keepH a u ne (by rw [lack_ne ne]; exact h1) (x.keep a u ne e n).2 ?_
    have h3 := (x.hid a u ne e n).mpr m
    unfold Al.show_
    simp only [List.mem_filter]
    exact ⟨h3, by simpa using ne⟩
end
theorem rd_up {H : Hp} {D a : Addr} {u : HO} (h : Rd (lackH H D) a u) : Rd H a u := by
  have key : ∀ o, lackH H D a = some o → H a = some o := fun o e => by
    by_cases n : a = D
    · rw [n, lack_same] at e
      cases e
    · rw [lack_ne n] at e
      exact e
  rcases h with h | ⟨o, h⟩
  · exact .inl (key _ h)
  · exact .inr ⟨o, key _ h⟩
theorem sqL_up {K : PySem.W.Frag} {H : Hp} {D a : Addr} {xs : List V} (h : SqL K (lackH H D) a xs) : SqL K H a xs := h.elim (fun h => .inl (rd_up h)) .inr
theorem sqT_up {K : PySem.W.Frag} {H : Hp} {D a : Addr} {xs : List V} (h : SqT K (lackH H D) a xs) : SqT K H a xs := h.elim (fun h => .inl (rd_up h)) .inr
def lc2L (g : GM) (c : M Bool) (it1 : M Dv) (g1 : GM) (c1 : M Bool) (e : M Dv) (vs1 : List Nat) (ρ : Env) : List Dt → List Dv → Sto → Rz (List Dv)
  | [], acc, S => .ok acc S
  | t :: ts, acc, S => bz (g (.d t) ρ) fun ρ1 => (nox (c ρ1 S)).bind fun k S1 => if k = true then (nox (it1 ρ1 S1)).bind fun d S2 => (li (seqOf d) S2).bind fun us S3 => if acc.length + us.length ≤ 16777216 then (lcL g1 c1 e (wipeE ρ1 vs1) us S3).bind fun ds S4 => lc2L g c it1 g1 c1 e vs1 ρ ts (acc ++ ds) S4 else .bad
    else lc2L g c it1 g1 c1 e vs1 ρ ts acc S1
def mLc2 (vs vs1 : List Nat) (it : M (List Dt)) (g : GM) (c : M Bool) (it1 : M Dv) (g1 : GM) (c1 : M Bool) (e : M Dv) : M (List Dv) := fun ρ S => (it ρ S).bind fun ts S1 => if ts.length ≤ 16777216 then lc2L g c it1 g1 c1 e vs1 (wipeE ρ vs) ts [] S1 else .bad
theorem wipe_twice (σ : L2.St) (vs : List Nat) : L2.wipe (L2.wipe σ vs) vs = L2.wipe σ vs := by
  apply List.ext_getElem?
  intro j
  by_cases hj : j ∈ vs
  · have key : ∀ (τ : L2.St) (us : List Nat), j ∈ us → j < τ.length → (L2.wipe τ us)[j]? = some none := by
      intro τ us
      induction us with
      | nil => intro h; cases h
      | cons w us ih =>
        intro h hlt
        show ((L2.wipe τ us).set w none)[j]? = some none
        by_cases e : w = j
        · subst e
          rw [List.getElem?_set_self (by rw [wipe_length]; exact hlt)]
        · rw [List.getElem?_set_ne e]
          exact ih (by rcases List.mem_cons.mp h with z | z; exact absurd z.symm e; exact z) hlt
    by_cases hl : j < σ.length
    · rw [key σ vs hj hl, key (L2.wipe σ vs) vs hj (by rw [wipe_length]; exact hl)]
    · rw [List.getElem?_eq_none (by rw [wipe_length, wipe_length]; omega), List.getElem?_eq_none (by rw [wipe_length]; omega)]
  · rw [wipe_out hj]
section
variable {X : Cx} {G : Gs} {W : WX} {kk : Nat} {elt tg iter tg1 iter1 : Expr} {ifs ifs1 : List Expr} {scope : Scope} {own : List (Str × Nat)} {pos : Pos} {it : M (List Dt)} {g g1 : GM} {t t1 : TG} {L L1 : List Nat} {cm cm1 em' : M Bool} {em it1 : M Dv}
/-- the loop from any start -/
theorem lc_loopG {σ : L2.St} {H1 H0 Hb : Hp} {A1 A0 Ab : Al} {ρ : Env} {S0 : Sto} {ts : List Dt} {J : It} {D : Addr} {E : XK} {vs : List Nat} {Fin : Hp → Prop} {ds0 : List Dv} {ws0 : List V} {β : Type} (hgs : TgS G t g L) (hL : ∀ i ∈ L, i ∈ vs) (wk : Wk G J A1 H1 ts) (he : EnvR G A1 H1 ρ σ) (hD : H1 D = none)
    (s0 : StR G A0 S0 H0) (x0 : ExtB D A1 H1 A0 H0) (hD0 : H0 D = some (.lst ws0)) (r0 : RDs G A0 H0 ds0 ws0) (hlen : ws0.length + ts.length ≤ 16777216)
    {kf : List Dv → Sto → Rz β} {Qf : Al → Hp → β → Prop}
    (p : Po G E Ab Hb ((lcL g cm em (wipeE ρ vs) ts S0).bind fun es S'' => kf (ds0 ++ es) S'') Qf)
    (hfin : ∀ ds ws S' A' H', StR G A' S' H' → ExtB D A1 H1 A' H' → H' D = some (.lst ws) → RDs G A' H' ds ws → Po G E Ab Hb (kf ds S') Qf → Fin H') :
    ∃ W : Nat → Nat → Hp → Prop, (∃ m, W 0 m H0) ∧ ∀ i m H, W i m H →
      (J.stop i H ∧ Fin H) ∨ (J.go i H ∧ ∃ Nx : Hp → Prop, (∀ H', Nx H' → ∃ m', m' < m ∧ W (i + 1) m' H') ∧ ∀ x H', J.yld i H x H' → t x (wipe σ vs) H' fun σ2 H2 => wipe σ2 vs = wipe σ vs ∧ tMT G W0 cm σ2 H2 fun b H3 =>
        if b = true then tM G W0 em σ2 H3 fun y H4 => ∃ acc, H4 D = some (.lst acc) ∧ acc.length < sizeLine ∧ Nx (upd H4 D (.lst (acc ++ [y]))) else Nx H3) := by
  let Inw : Nat → Hp → Prop := fun i H' => ∃ A' S' ds ws, StR G A' S' H' ∧ ExtB D A1 H1 A' H' ∧ H' D = some (.lst ws) ∧ RDs G A' H' ds ws ∧ ws.length ≤ ws0.length + i ∧ i ≤ ts.length ∧
    Po G E Ab Hb ((lcL g cm em (wipeE ρ vs) (ts.drop i) S').bind fun es S'' => kf (ds ++ es) S'') Qf
  refine ⟨fun i m H' => m = ts.length - i ∧ Inw i H', ⟨_, rfl, A0, S0, ds0, ws0, s0, x0, hD0, r0, Nat.le_refl _, Nat.zero_le _, ?_⟩, fun i m H' hW => ?_⟩
  · simpa using p
  · obtain ⟨hm, A', S', ds, ws, s', x', hDw, rds, hwl, hi, q⟩ := hW
    by_cases hlt : i < ts.length
    · refine .inr ⟨wk.go i A' H' hlt (.ofB x' hD), Inw (i + 1), fun H2 hN => ⟨ts.length - (i + 1), by omega, rfl, hN⟩, fun x H2 hy => ?_⟩
      obtain ⟨d, ed, xy, sy, rv⟩ := wk.yld i A' H' S' x H2 hlt (.ofB x' hD) s' hy
      have hd : ts.drop i = d :: ts.drop (i + 1) := by
        rw [List.drop_eq_getElem_cons hlt]
        rw [List.getElem?_eq_getElem hlt] at ed
        cases ed
        rfl
      rw [hd] at q
      unfold lcL at q
      cases eg : g (.d d) (wipeE ρ vs) with
      | none => rw [eg] at q; exact q.elim
      | some ρ1 =>
        rw [eg] at q
        have x2 := x'.step xy s'
        have hw : EnvR G A' H2 (wipeE ρ vs) (wipe σ vs) := (he.kp (Ext.ofB x2 hD).kp).wipe vs
        refine hgs A' S' _ ρ1 (wipe σ vs) H2 (.d d) x _ hw sy rv eg fun σ2 he2 hk2 hl2 => ?_
        refine ⟨?_, ?_⟩
        · rw [wipe_same (σ := wipe σ vs) (σ' := σ2) hL hk2 hl2]
          exact wipe_twice σ vs
        · have hDH2 : H2 D = some (.lst ws) := (hid_keep s' x'.inH xy).trans hDw
          have rds2 := rds.kp xy.kp
          refine ⟨A', ρ1, S', he2, sy, ?_⟩
          simp only [bz] at q
          cases ec : cm ρ1 S' with
          | bad => rw [ec] at q; exact q.elim
          | er c0 t0 S0 => rw [ec] at q; exact q.elim
          | ok k S2 =>
            rw [ec] at q
            simp only [nox_ok, bind_ok] at q
            intro A3 H3 x3 s3
            have xb3 := x2.step x3 sy
            have hD3 : H3 D = some (.lst ws) := (hid_keep sy x2.inH x3).trans hDH2
            cases k with
            | false =>
              simp only [Bool.false_eq_true, if_false] at q ⊢
              exact ⟨A3, S2, ds, ws, s3, xb3, hD3, rds2.kp x3.kp, by omega, by omega, q⟩
            | true =>
              simp only [if_true] at q ⊢
              refine ⟨A3, ρ1, S2, he2.kp x3.kp, s3, ?_⟩
              cases ee : em ρ1 S2 with
              | bad => rw [ee] at q; exact q.elim
              | er c0 t0 S0 => rw [ee] at q; exact q.elim
              | ok dv S4 =>
                rw [ee] at q
                simp only [nox_ok, bind_ok] at q
                intro A4 H4 x4 s4 y ry
                have xb4 := xb3.step x4 s3
                have hD4 : H4 D = some (.lst ws) := (hid_keep s3 xb3.inH x4).trans hD3
                refine ⟨ws, hD4, Nat.lt_of_lt_of_le (show ws.length < 16777216 by omega) (line_of (Nat.le_refl _)), A4, S4, ds ++ [dv], ws ++ [y], s4.poke xb4.inH, xb4.poke, upd_same, ?_, by simp; omega, by omega, ?_⟩
                · exact (((rds2.kp x3.kp).kp x4.kp).append (.cons ry .nil)).kp (kp_poke xb4.inH)
                · have e1 : ((lcL g cm em (wipeE ρ vs) (ts.drop (i + 1)) S4).bind fun es S'' => kf (ds ++ [dv] ++ es) S'') = (((lcL g cm em (wipeE ρ vs) (ts.drop (i + 1)) S4).bind fun ds S3 => .ok (dv :: ds) S3).bind fun es S'' => kf (ds ++ es) S'') := by
                    cases lcL g cm em (wipeE ρ vs) (ts.drop (i + 1)) S4 with
                    | ok a b => simp
                    | er c0 t0 S0 => rfl
                    | bad => rfl
                  rw [e1]
                  exact q
    · have hz : i = ts.length := by omega
      subst hz
      rw [List.drop_length] at q
      simp only [lcL, bind_ok, List.append_nil] at q
      exact .inl ⟨wk.stop A' H' (.ofB x' hD), hfin ds ws S' A' H' s' x' hDw rds q⟩
theorem lc2_read {wi : TI} {pe : PN} {vs vs1 : List Nat} (hpe : LEnd G pe) (hw : ∀ (σ : L2.St) (H : Hp) (A : Al) (ρ : Env) (S : Sto) (R : It → Hp → Prop), EnvR G A H ρ σ → StR G A S H → Po G (Wa W σ) A H (it ρ S) (fun A' H' ts => ∀ J, Wk G J A' H' ts → R J H') → wi σ H R)
    (hgs : TgS G t g L) (hL : ∀ i ∈ L, i ∈ vs) (hgs1 : TgS G t1 g1 L1) (hL1 : ∀ i ∈ L1, i ∈ vs1) (σ : L2.St) (H : Hp) (Q : VK) (h : tM G W (mN pe (mLc2 vs vs1 it g cm it1 g1 cm1 em)) σ H Q) :
    tLc2 wi t (tMT G W0 cm) (iSq G.K (tM G W0 it1)) t1 (tMT G W0 cm1) (tM G W0 em) vs vs1 σ H Q := by
  obtain ⟨A, ρ, S, he, hs, p⟩ := h
  refine hw σ H A ρ S _ he hs ?_
  unfold mN mLc2 at p
  rw [bind_assoc] at p
  refine Po.step p fun ts S1 A1 H1 x1 s1 p1 J wk D hD => ?_
  by_cases hl : ts.length ≤ 16777216
  case neg =>
    simp only [hl, if_false] at p1
    exact p1.elim
  simp only [hl, if_true] at p1
  have he1 := he.kp x1.kp
  let Inw : Nat → Hp → Prop := fun i H' => ∃ A' S' ds ws, StR G A' S' H' ∧ ExtB D A1 H1 A' H' ∧ H' D = some (.lst ws) ∧ RDs G A' H' ds ws ∧ i ≤ ts.length ∧
    Po G (Wa W σ) A1 H1 ((lc2L g cm it1 g1 cm1 em vs1 (wipeE ρ vs) (ts.drop i) ds S').bind fun es S'' => lift (pe es S'')) (kD G Q)
  refine ⟨fun i m H' => m = ts.length - i ∧ Inw i H', ⟨_, rfl, A1.hide D, S1, [], [], s1.hide hD, .start, upd_same, .nil, Nat.zero_le _, by simpa using p1⟩, fun i m H' hW => ?_⟩
  obtain ⟨hm, A', S', ds, ws, s', x', hDw, rds, hi, q⟩ := hW
  by_cases hlt : i < ts.length
  case neg =>
    have hz : i = ts.length := by omega
    subst hz
    rw [List.drop_length] at q
    simp only [lc2L, bind_ok] at q
    exact .inl ⟨wk.stop A' H' (.ofB x' hD), hpe s' x' hD hDw rds q⟩
  refine .inr ⟨wk.go i A' H' hlt (.ofB x' hD), Inw (i + 1), fun H2 hN => ⟨ts.length - (i + 1), by omega, rfl, hN⟩, fun x H2 hy => ?_⟩
  obtain ⟨d, ed, xy, sy, rv⟩ := wk.yld i A' H' S' x H2 hlt (.ofB x' hD) s' hy
  have hd : ts.drop i = d :: ts.drop (i + 1) := by
    rw [List.drop_eq_getElem_cons hlt]
    rw [List.getElem?_eq_getElem hlt] at ed
    cases ed
    rfl
  rw [hd] at q
  unfold lc2L at q
  cases eg : g (.d d) (wipeE ρ vs) with
  | none => rw [eg] at q; exact q.elim
  | some ρ1 =>
    rw [eg] at q
    have x2 := x'.step xy s'
    have hw' : EnvR G A' H2 (wipeE ρ vs) (wipe σ vs) := (he1.kp (Ext.ofB x2 hD).kp).wipe vs
    refine hgs A' S' _ ρ1 (wipe σ vs) H2 (.d d) x _ hw' sy rv eg fun σ2 he2 hk2 hl2 => ?_
    refine ⟨?_, ?_⟩
    · rw [wipe_same (σ := wipe σ vs) (σ' := σ2) hL hk2 hl2]
      exact wipe_twice σ vs
    · have hDH2 : H2 D = some (.lst ws) := (hid_keep s' x'.inH xy).trans hDw
      have rds2 := rds.kp xy.kp
      refine ⟨A', ρ1, S', he2, sy, ?_⟩
      simp only [bz] at q
      cases ec : cm ρ1 S' with
      | bad => rw [ec] at q; exact q.elim
      | er c0 t0 S0 => rw [ec] at q; exact q.elim
      | ok k S2 =>
        rw [ec] at q
        simp only [nox_ok, bind_ok] at q
        intro A3 H3 x3 s3
        have xb3 := x2.step x3 sy
        have hD3 : H3 D = some (.lst ws) := (hid_keep sy x2.inH x3).trans hDH2
        cases k with
        | false =>
          simp only [Bool.false_eq_true, if_false] at q ⊢
          exact ⟨A3, S2, ds, ws, s3, xb3, hD3, rds2.kp x3.kp, by omega, q⟩
        | true =>
          simp only [if_true] at q ⊢
          refine ⟨A3, ρ1, S2, he2.kp x3.kp, s3, ?_⟩
          cases ei : it1 ρ1 S2 with
          | bad => rw [ei] at q; exact q.elim
          | er c0 t0 S0 => rw [ei] at q; exact q.elim
          | ok dv S4 =>
            rw [ei] at q
            simp only [nox_ok, bind_ok] at q
            intro A4 H4 x4 s4 y ry
            have xb4 := xb3.step x4 s3
            have hD4 : H4 D = some (.lst ws) := (hid_keep s3 xb3.inH x4).trans hD3
            cases es : seqOf dv with
            | none => rw [es] at q; exact q.elim
            | some us =>
              rw [es] at q
              simp only [li_some, bind_ok] at q
              by_cases hz : ds.length + us.length ≤ 16777216
              case neg =>
                simp only [hz, if_false] at q
                exact q.elim
              simp only [hz, if_true] at q
              have kl : Kp A4 H4 (A4.show_ D) (lackH H4 D) := lack_kp xb4.inH
              obtain ⟨a, ev, hwk⟩ := seq_wk (A := A4.show_ D) (H := lackH H4 D) es (RD.kp kl ry)
              have rds4 := (rds2.kp x3.kp).kp x4.kp
              have he4 : EnvR G (A4.show_ D) (lackH H4 D) ρ1 σ2 := (((he2.kp x3.kp).kp x4.kp).kp kl)
              have hloop : ∀ J1, Wk G J1 (A4.show_ D) (lackH H4 D) us → _ := fun J1 wk1 => lc_loopG (G := G) (D := D) (Fin := Inw (i + 1)) (Ab := A1) (Hb := H1) (E := Wa W σ) (cm := cm1) (em := em) (β := Dv) (ws0 := ws) (ds0 := ds) (S0 := S4) (A0 := A4) (H0 := H4)
                (kf := fun acc S5 => (lc2L g cm it1 g1 cm1 em vs1 (wipeE ρ vs) (ts.drop (i + 1)) acc S5).bind fun es S'' => lift (pe es S'')) (Qf := kD G Q) hgs1 hL1 wk1 he4 lack_same s4 (lack_ext xb4.inH) hD4 rds4 (by rw [← Paired.length rds]; exact hz)
                (by rw [bind_assoc] at q; exact q)
                (fun ds' ws' S5 A5 H5 s5 x5 hD5 r5 q5 => ⟨A5, S5, ds', ws', s5, xb4.join x5, hD5, r5, by omega, q5⟩)
              refine ⟨a, ev, ?_⟩
              rcases hwk with ⟨⟨xs, hq⟩, wk1⟩ | ⟨⟨xs, hq⟩, wk1⟩
              · exact .inl ⟨⟨xs, sqL_up hq⟩, hloop _ wk1⟩
              · exact .inr ⟨⟨xs, sqT_up hq⟩, hloop _ wk1⟩
/-- [elt for tg in iter if .. for tg1 in iter1 if ..] -/
theorem ylc2 (own : List (Str × Nat)) (vs1 : List Nat) {pe : PN} (hpe : LEnd G pe) (B : Bx X G W kk) (hi : PIS X G W tg iter it) (hg : ∀ (s : Shared) (H : Hp) (C : Addr) (cl : List (Str × Addr)) (fp : List Addr), PG (X.blk s H scope (compEnvC scope cl C X.env) fp) tg t) (hgs : TgS G t g L)
    (ht : ∀ (s : Shared) (H : Hp) (C : Addr) (cl : List (Str × Addr)) (fp : List Addr), PTs (X.blk s H scope (compEnvC scope cl C X.env) fp) ifs (tMT G W0 cm))
    (hi1 : ∀ (s : Shared) (H : Hp) (C : Addr) (cl : List (Str × Addr)) (fp : List Addr), PE (X.blk s H scope (compEnvC scope cl C X.env) fp) iter1 (tM G W0 it1))
    (hg1 : ∀ (s : Shared) (H : Hp) (C : Addr) (cl : List (Str × Addr)) (fp : List Addr), PG (X.blk s H scope (compEnvC scope cl C X.env) fp) tg1 t1) (hgs1 : TgS G t1 g1 L1)
    (ht1 : ∀ (s : Shared) (H : Hp) (C : Addr) (cl : List (Str × Addr)) (fp : List Addr), PTs (X.blk s H scope (compEnvC scope cl C X.env) fp) ifs1 (tMT G W0 cm1))
    (he : ∀ (s : Shared) (H : Hp) (C : Addr) (cl : List (Str × Addr)) (fp : List Addr), PE (X.blk s H scope (compEnvC scope cl C X.env) fp) elt (tM G W0 em))
    (ok : blkC X.N X.env.scope scope own = true := by rfl) (hL : ∀ i ∈ L, i ∈ own.map (·.2) := by decide) (hL1 : ∀ i ∈ L1, i ∈ vs1 := by decide) (hv : ∀ i ∈ vs1, i ∈ own.map (·.2) := by decide)
    (hs : ∀ x, foldedSetIterable iter X.env x = pure x := by exact fun _ => rfl) (hs1 : ∀ env x, foldedSetIterable iter1 env x = pure x := by exact fun _ _ => rfl) :
    PE X (.ListComp elt [⟨tg, iter, ifs, 0⟩, ⟨tg1, iter1, ifs1, 0⟩] scope pos) (tM G W (mN pe (mLc2 (own.map (·.2)) vs1 it g cm it1 g1 cm1 em))) := by
  obtain ⟨wi, pi, hw⟩ := hi
  refine (pe_lc2 B.calm B.nd pi (blkOk_by ok) hv hg ht (wi1 := iSq X.K (tM G W0 it1)) (fun s H C cl fp => pi_sq (hi1 s H C cl fp)) hg1 ht1 he hs hs1).sm fun σ H Q h => ?_
  have := lc2_read hpe hw hgs hL hgs1 hL1 σ H Q h
  rw [B.hK] at this
  exact this
end
end Sm
/-! Sm25: dicts with tuples as keys; dict(pairs); max, min of a list; range of three. -/
namespace Sm
open PySem PySem.Spec PyProof.Rows L2
def kOfs : List Dt → Option (List Key)
  | [] => some []
  | .int i :: r => (kOfs r).map (.inl i :: ·)
  | .str s :: r => (kOfs r).map (.inr s :: ·)
  | _ => none
section
variable {κ : Type} [DecidableEq κ]
variable {G : Gs} {A : Al} {H : Hp}
end
theorem kOfs_rd {G : Gs} {A : Al} {H : Hp} : ∀ {ts : List Dt} {k : List Key} {vs : List V}, kOfs ts = some k → RVs G A H ts vs → vs = k.map kV
  | [], k, vs, e, r => by
    cases e
    exact r
  | t :: ts, k, vs, e, r => by
    obtain ⟨v, w, rfl, r1, r2⟩ := r
    cases t with
    | int i =>
      unfold kOfs at e
      cases e1 : kOfs ts with
      | none => rw [e1] at e; cases e
      | some k' =>
        rw [e1] at e
        cases e
        rw [kOfs_rd e1 r2, show v = V.int i from r1]
        rfl
    | str i =>
      unfold kOfs at e
      cases e1 : kOfs ts with
      | none => rw [e1] at e; cases e
      | some k' =>
        rw [e1] at e
        cases e
        rw [kOfs_rd e1 r2, show v = V.str i from r1]
        rfl
    | _ => cases e
section
variable {G : Gs} {A : Al} {H : Hp} {S : Sto}
end
section
variable {X : Cx} {G : Gs} {W : WX} {k : Nat} {o i e value : Expr} {es : List Expr} {p pos pos' : Pos} {mo mi mv : M Dv} {ma : M (List Dv)}
end
end Sm
/-! Sm26: texts as what is walked, sorted; tuples with boxes; dict(pairs); max, min of a list; range downwards. -/
namespace Sm
open PySem PySem.Spec PyProof.Rows L2
def signs (s : Str) : List Dt := s.cps.toList.map fun c => .str ⟨#[c]⟩
/-- a sequence, or a text sign by sign -/
def anyOf (d : Dv) : Option (List Dt) := match d with
  | .d (.str s) => some (signs s)
  | d => seqOf d
section
variable {X : Cx} {G : Gs} {W : WX} {kk : Nat} {tg iter e : Expr} {m : M Dv}
/-! sorted(x), x a sequence or a text -/
def srtOf (S : Sto) (d : Dv) : Option (List Dt) := match d with
  | .d (.str z) => if z.length ≤ 16777216 then some (signs z) else none
  | d => seqT S d
def pSortedA : PN := fun ds S => match ds with
  | [d] => (match srtOf S d with
    | some ts => if sortChk ts = true then some (.d (.lst (isortL leT ts)), S) else none
    | none => none)
  | _ => none
end
end Sm
/-! Sm27: tuples with boxes; dict(pairs); max, min of a list; range downwards. -/
namespace Sm
open PySem PySem.Spec PyProof.Rows L2
section
variable {G : Gs} {A : Al} {H : Hp} {S : Sto}
end
section
variable {X : Cx} {G : Gs} {W : WX} {k : Nat} {es : List Expr} {pos p : Pos} {ma : M (List Dv)} {tg a b c : Expr}
/-! max, min of a list of numbers -/
def maxI : List Int → Int
  | [] => 0
  | [a] => a
  | a :: b :: r => max a (maxI (b :: r))
theorem maxI_is : ∀ {l : List Int} {m : Int}, m ∈ l → (∀ y ∈ l, y ≤ m) → maxI l = m
  | [], m, h, _ => absurd h List.not_mem_nil
  | [a], m, h, _ => (List.mem_singleton.mp h).symm
  | a :: b :: r, m, h, hm => by
    show max a (maxI (b :: r)) = m
    have mem : ∀ l : List Int, l ≠ [] → maxI l ∈ l ∧ ∀ y ∈ l, y ≤ maxI l := fun l => by
      induction l with
      | nil => intro z; exact absurd rfl z
      | cons x xs ih =>
        intro _
        cases xs with
        | nil => exact ⟨List.mem_cons_self, fun y hy => by rw [List.mem_singleton.mp hy]; exact Int.le_refl _⟩
        | cons z zs =>
          obtain ⟨i1, i2⟩ := ih (by simp)
          show max x (maxI (z :: zs)) ∈ _ ∧ ∀ y ∈ _, y ≤ max x (maxI (z :: zs))
          refine ⟨?_, fun y hy => ?_⟩
          · by_cases hx : x ≤ maxI (z :: zs)
            · rw [Int.max_eq_right hx]
              exact List.mem_cons_of_mem _ i1
            · rw [Int.max_eq_left (by omega)]
              exact List.mem_cons_self
          · rcases List.mem_cons.mp hy with rfl | hy
            · omega
            · have := i2 y hy
              omega
    obtain ⟨i1, i2⟩ := mem (a :: b :: r) (by simp)
    have h1 := hm _ i1
    have h2 := i2 m h
    exact Int.le_antisymm h1 h2
theorem intsOf_eq : ∀ {ts : List Dt} {l : List Int}, intsOf ts = some l → ts = l.map .int
  | [], l, e => by
    cases e
    rfl
  | t :: ts, l, e => by
    cases t with
    | int a =>
      unfold intsOf at e
      cases e1 : intsOf ts with
      | none => rw [e1] at e; cases e
      | some m =>
        rw [e1] at e
        cases e
        rw [intsOf_eq e1]
        rfl
    | _ => cases e
theorem rvs_intsI {A : Al} {H : Hp} : ∀ {l : List Int} {vs : List V}, RVs G A H (l.map .int) vs → vs = l.map V.int
  | [], _, h => h
  | a :: l, _, h => by
    obtain ⟨v, w, rfl, r1, r2⟩ := h
    rw [rvs_intsI r2, show v = V.int a from r1]
    rfl
/-! range(i, j, -1) -/
end
end Sm
/-! Sm28: methods that call themselves. -/
namespace Sm
open PySem PySem.Spec PyProof.Rows L2
theorem CalM.bad {P : Program} {w : World} {G : Gs} {mg : Str → Option Value} {base : Heap} {k c n : Nat} {x : Str} {f : Addr} (h1 : SlX.SCls G.K (G.cls c)) (h2 : Meth G.K (G.cls c) x f) : CalM P w G mg base k c x n fun _ _ => .bad :=
  ⟨f, h1, h2, fun A outer s H us ws vs zs Q E hr e0 r rz l1 l2 q => by
    obtain ⟨_, _, _, _, _, p⟩ := q
    exact p.elim⟩
end Sm
/-! Sm29: a class made with its defaults. -/
namespace Sm
open PySem PySem.Spec PyProof.Rows L2
end Sm
/-! the mirrors that many laws share -/
namespace Hn
open PySem PySem.Spec PyProof.Rows L2 Sm
def b_tupled (self : FM) : SM := sRet (mIf (mTru pTru (m1 (pIsa ["list", "tuple"]) (mV 0))) (mN pTuple (aCons (mN pLst (mLcI [1] (iSeq (mV 0)) (gN 1) (cYes) (mF self (aCons (mV 1) (aNil))))) (aNil))) (mV 0))
def F_tupled : Nat → FM
  | 0 => fun _ _ => .bad
  | n + 1 => iso (runB 2 1 (b_tupled (F_tupled n)))
def b_as_set : SM := sRet (mN pTuple (aCons (m1 pSortSet (mV 0)) (aNil)))
def R_as_set : FM := runB 1 1 b_as_set
def F_as_set : FM := iso (R_as_set)
def b__law_take : SM := sSeq (sIf (mTst (m2 pGt (m2 pIx (mV 0) (mC (.int 0))) (mC (.int 0)))) (sSeq (sSet 2 (m2 pMod (mN pInt (aCons (m2 pIx (mV 0) (mC (.int 0))) (aNil))) (mV 1)))
    (sSeq (sSub (mV 0) (mC (.int 0)) (m2 pDiv (m2 pIx (mV 0) (mC (.int 0))) (mV 1)))
    (sRet (mV 2)))) (sNil))
    (sSeq (sSub (mV 0) (mC (.int 2)) (m2 pAdd (m2 pIx (mV 0) (mC (.int 2))) (mC (.int 1))))
    (sSeq (sSet 3 (m2 pMod (mN pInt (aCons (m2 pMul (m2 pAdd (m2 pIx (mV 0) (mC (.int 1))) (m2 pMul (mC (.int 48271)) (m2 pIx (mV 0) (mC (.int 2))))) (m2 pAdd (mC (.int 39373)) (m2 pIx (mV 0) (mC (.int 2))))) (aNil))) (mC (.int 2147483647))))
    (sSeq (sSet 4 (m2 pAdd (m2 pMod (mN pInt (aCons (mV 3) (aNil))) (mC (.int 40009))) (mC (.int 7))))
    (sSeq (sSet 5 (m2 pMod (mN pInt (aCons (m2 pMul (m2 pAdd (m2 pAdd (mV 3) (m2 pIx (mV 0) (mC (.int 2)))) (m2 pDiv (m2 pIx (mV 0) (mC (.int 1))) (mC (.int 1000003)))) (mV 4)) (aNil))) (mC (.int 2147483629))))
    (sRet (m2 pMod (mN pInt (aCons (m2 pDiv (m2 pMod (mN pInt (aCons (m2 pAdd (m2 pMul (mV 5) (mC (.int 48271))) (mV 3)) (aNil))) (mC (.int 2147483587))) (mC (.int 64))) (aNil))) (mV 1)))))))
def R__law_take : FM := runB 6 2 b__law_take
def F__law_take : FM := view (R__law_take)
def b__law_cells : SM := sSeq (sSet 2 (mOrT pTru (mN pListB (aCons (mSl pSl (mV 0) (oNo) (oPt (mV 1))) (aNil))) (mN pLstB (aCons (mC (.int 0)) (aNil)))))
    (sSeq (sFor (iRg en1 (aCons (mSl pSl (mV 0) (oPt (mV 1)) (oPt (mC (.int 63)))) (aNil))) (gT (gsCons (gN 3) (gsCons (gN 4) (gsNil)))) (sSeq (sSet 5 (m2 pMod (mN pInt (aCons (mV 3) (aNil))) (mV 1)))
    (sSub (mV 2) (mV 5) (m2 pAdd (m2 pIx (mV 2) (mV 5)) (m2 pMul (mV 4) (m2 pAdd (mV 3) (mC (.int 2))))))))
    (sRet (mFrz (mV 2))))
def R__law_cells : FM := runB 6 2 b__law_cells
def F__law_cells : FM := iso (R__law_cells)
def b__law_same (self : FM) : SM := sSeq (sIf (mTru pTru (m1 (pIsa ["list", "tuple"]) (mV 1))) (sSeq (sIf (cOr (mTst (m2 pNe (m1 (pIsa ["list"]) (mV 0)) (m1 (pIsa ["list"]) (mV 1)))) (mTst (m2 pNe (m1 (pIsa ["tuple"]) (mV 0)) (m1 (pIsa ["tuple"]) (mV 1))))) (sRet (mC (.bl false))) (sNil))
    (sRet (mAnd (m2 pEq (mN pLen (aCons (mV 0) (aNil))) (mN pLen (aCons (mV 1) (aNil)))) (mN pAll (aCons (mN pLst (mLcI [2, 3] (iRg zp2 (aCons (mV 0) (aCons (mV 1) (aNil)))) (gT (gsCons (gN 2) (gsCons (gN 3) (gsNil)))) (cYes) (mF self (aCons (mV 2) (aCons (mV 3) (aNil)))))) (aNil)))))) (sNil))
    (sSeq (sIf (cOr (mTst (m2 pIsN (mV 1) (mC .non))) (mTru pTru (m1 (pIsa ["bool", "str"]) (mV 1)))) (sRet (mAnd (m2 pEq (mV 0) (mV 1)) (mAnd (m2 pEq (m1 (pIsa ["bool"]) (mV 0)) (m1 (pIsa ["bool"]) (mV 1))) (m2 pEq (m2 pIsN (mV 0) (mC .non)) (m2 pIsN (mV 1) (mC .non)))))) (sNil))
    (sRet (mAnd (m1 (pIsa ["int"]) (mV 0)) (mAnd (mNot (m1 (pIsa ["bool"]) (mV 0))) (m2 pEq (mV 0) (mV 1))))))
def F__law_same : Nat → FM
  | 0 => fun _ _ => .bad
  | n + 1 => iso (runB 4 2 (b__law_same (F__law_same n)))
end Hn
/-! mirrors of sheets, swaps, and of what the laws on them share -/
namespace Hn
open PySem PySem.Spec PyProof.Rows L2 Sm
/-- the source of draws, with the law's own number -/
def boxM (c : Int) : SM := sSeq (sSet 2 (mIf (mTst (m2 pLt (mV 1) (mN pLen (aCons (mV 0) (aNil))))) (m2 pIx (mV 0) (mV 1)) (mC (.int 0))))
    (sRet (mN pLstB (aCons (m2 pMul (mN pAbs (aCons (mV 2) (aNil))) (mN pInt (aCons (m2 pGe (mN pAbs (aCons (mV 2) (aNil))) (m2 pPow (mC (.int 10)) (mC (.int 18)))) (aNil)))) (aCons (m2 pAdd (m2 pAdd (m2 pMod (mN pInt (aCons (mV 2) (aNil))) (mC (.int 2305843009213693951))) (m2 pMul (mC (.int 39373)) (mV 1))) (mC (.int c))) (aCons (mC (.int 0)) (aNil))))))
def b_Sheet_init : SM := sSeq (sAsg (gT (gsCons (gN 2) (gsCons (gN 3) (gsNil)))) (mF (F_tupled 8) (aCons (mV 1) (aNil))))
    (sSeq (sFld 0 2 (mV 0) (mDc pDct [4, 5] (iSeq (mV 2)) (gT (gsCons (gN 4) (gsCons (gN 5) (gsNil)))) (cYes) (mV 4) (mV 5)))
    (sSeq (sFld 0 0 (mV 0) (mV 3))
    (sFld 0 1 (mV 0) (mDc pDct [4] (iSeq (m2 pAdd (mN pList (aCons (m1 (pFld 0 2) (mV 0)) (aNil))) (mN pList (aCons (mV 3) (aNil))))) (gN 4) (cYes) (mV 4) (mC (.bl true))))))
def R_Sheet_init : FM := runB 6 2 b_Sheet_init
def F_Sheet_init : FM := R_Sheet_init
def b_Sheet_names : SM := sRet (mN pTuple (aCons (m1 (pFld 0 2) (mV 0)) (aNil)))
def R_Sheet_names : FM := runB 1 1 b_Sheet_names
def F_Sheet_names : FM := R_Sheet_names
def b_Sheet_check : SM := sFor (iSeq (mV 1)) (gN 2) (sIf (mTst (m2 pNotIn (mV 2) (m1 (pFld 0 2) (mV 0)))) (sBad) (sNil))
def R_Sheet_check : FM := starF 1 (runB 3 2 b_Sheet_check)
def F_Sheet_check : FM := R_Sheet_check
def b_Sheet_checked : SM := sSeq (sSet 2 (mF (F_tupled 8) (aCons (mV 1) (aNil))))
    (sSeq (sDrop (mMeth 0 F_Sheet_check (mV 0) (aStar (mV 2) aNil)))
    (sRet (mV 2)))
def R_Sheet_checked : FM := runB 3 2 b_Sheet_checked
def F_Sheet_checked : FM := R_Sheet_checked
end Hn
namespace Hw
open PySem PySem.Spec PyProof.Rows L2 Sm Hn
end Hw
/-! more mirrors of swaps, and of what the laws on them share -/
namespace Hn
open PySem PySem.Spec PyProof.Rows L2 Sm
end Hn
/-! Sm30: a fresh list that the caller may change; boxes that are read alone; instances that are data at once. -/
namespace Sm
open PySem PySem.Spec PyProof.Rows L2
section
variable {G : Gs} {A A' A0 : Al} {H H' : Hp} {S S' : Sto}
/-! ### a fresh list is handed back as a box -/
/-! ### boxes that are read alone -/
end
/-! ### an instance that is data at once -/
def makeF (c : Nat) (F : FM) : FM := fun ds S => (F (.loc S.length :: ds) (S ++ [.ins c []])).bind fun r S2 => match r with
  | .d .non => .ok (.loc S.length) S2
  | _ => .bad
def makeD (c : Nat) (F : FM) : FM := fun ds S => (makeF c F ds S).bind fun d S1 => lift (frz d S1)
/-- C(..) as data -/
abbrev isoMk (c : Nat) (F : FM) : FM := iso (makeD c F)
section
variable {X : Cx} {G : Gs} {W : WX} {k n : Nat} {f : Addr} {F : FM} {x : Str} {p pos : Pos} {e : Expr} {es : List Expr} {ma : M (List Dv)} {c : Nat}
theorem makeD_po {A : Al} {σ : L2.St} {S1 : Sto} {H1 : Hp} {ds : List Dv} {vs : List V} {Q : VK} (s1 : StR G A S1 H1) (rvs : RDs G A H1 ds vs) (p1 : Po G (Wa W σ) A H1 (isoMk c F ds S1) (kD G Q)) :
    ∃ A S ds, StR G A S H1 ∧ RDs G A H1 ds vs ∧ Po G (Wa W σ) A H1 ((F (.loc S.length :: ds) (S ++ [.ins c []])).bind fun r S2 => match r with
      | .d .non => .ok (.loc S.length) S2
      | _ => .bad) (kD G Q) := by
  obtain ⟨A0, S0, ds0, r0, s0, p0⟩ := SpM.iso (F := makeD c F) (E := Wa W σ) ⟨A, S1, ds, rvs, s1, p1⟩
  refine ⟨A0, S0, ds0, s0, r0, Po.step (r := makeF c F ds0 S0) p0 fun d S2 A2 H2 x2 s2 p2 v rv => ?_⟩
  cases e1 : frz d S2 with
  | none => rw [e1] at p2; exact p2.elim
  | some q =>
    obtain ⟨d', S3⟩ := q
    rw [e1] at p2
    obtain ⟨A3, x3, s3, r3⟩ := frz_po s2 rv e1
    exact Po.at p2 x3 s3 v r3
theorem e_makeD (M : Mk X.K (G.cls c) f) (R : CallW X.prog X.w G X.mg X.base k f (n + 1) [] F) (B : Bx X G W (k + 1)) (hg : Gl X x) (hm : X.mg x = some (.ref (G.cls c))) (ha : PA X (e :: es) (tMA G W ma)) (al : ALen ma n) (hdb : (x == ("__debug__" : Str)) = false)
    (he : starEach (e :: es) X.env = (false, eval e X.env) :: starEach es X.env) (hpl : (backTo pos (starEach es X.env)).any (·.1) = false) : PE X (.Call (.Name x p) (e :: es) [] pos) (tM G W (mF (isoMk c F) ma)) := by
  refine ⟨fun pins s σ H Q I h => ?_⟩
  obtain ⟨A, ρ, S, he', hs, p0⟩ := h
  refine wpAny_Call_Name_kw (ld_glob I hg hm ?_ hdb)
  refine PySem.W.callWith_K (h₀ := X.base) I.ok.mod.kin M.kp (thn (ha.run pos pins s σ H (fun vs H1 => vs.length = n ∧ ∀ x dx, H1 x = none → H1 dx = none → dx ≠ x → SpM G F (V.ref x :: (vs ++ [])) (upd (upd H1 dx (.own x)) x (.ins (G.cls c) dx [])) (fun v H2 => v = .non ∧ Q (.ref x) H2) (Wa W σ)) I
    ⟨A, ρ, S, he', hs, Po.step' p0 fun ds S1 A1 H1 e0 x1 s1 p1 vs rvs => ⟨by rw [← Paired.length rvs]; exact al ρ S ds S1 e0, by
      rw [List.append_nil]
      obtain ⟨A2, S2, ds2, s2, r2, p2⟩ := makeD_po s1 rvs p1
      exact make_po s2 r2 p2⟩⟩) fun us s1 ⟨vs, H1, I1, r, l, q⟩ => ⟨I1.kIn, ?_⟩) he hpl
  exact runMake (ws := []) (zs := []) M R B I1 r .nil l rfl q
theorem ymakeD {cc : Nat} (R : CalI X.prog X.w G X.mg X.base k cc x n F) (B : Bx X G W (k + 1)) (ha : PA X (e :: es) (tMA G W ma)) (al : ALen ma n := by repeat (first | exact al_nil | refine al_cons ?_)) (hg : Gl X x := by rfl) (hdb : (x == ("__debug__" : Str)) = false := by decide)
    (he : starEach (e :: es) X.env = (false, eval e X.env) :: starEach es X.env := by rfl) (hpl : (backTo pos (starEach es X.env)).any (·.1) = false := by rfl) : PE X (.Call (.Name x p) (e :: es) [] pos) (tM G W (mF (isoMk cc F) ma)) := by
  obtain ⟨f, h1, h2, h3⟩ := R.ex
  exact e_makeD (by rw [← B.hK]; exact h2) h3 B hg h1 ha al hdb he hpl
end
section
variable {P : Program} {w : World} {G : Gs} {mg : Str → Option Value} {base : Heap} {k c : Nat} {x : Str} {n : Nat} {ks : List Str} {F : FM} {f : Addr} {fd : FuncData} {ps : List Str}
end
end Sm
/-! Sm31: chains of comparisons, `is` of bools, texts in texts, texts of the module. -/
namespace Sm
open PySem PySem.Spec PyProof.Rows L2
section
variable {X : Cx} {G : Gs} {W : WX} {a b c e : Expr} {pos : Pos} {mo mb mc : M Dv} {x : Str}
theorem xglobS {i : Str} {tk : Tok} {pos : Pos} (hm : X.mg x = some (.str i tk)) (hg : Gl X x := by rfl) (hd : (x == ("__debug__" : Str)) = false := by decide) : PE X (.Name x pos) (tM G W (mC (.str i))) :=
  e_of (pe_glob (v := .str i) hg hm ⟨_, rfl⟩ hd) fun _ _ => rfl
end
end Sm
namespace Sm
open PySem PySem.Spec PyProof.Rows L2
end Sm
/-! Sm32: a comprehension over a box. -/
namespace Sm
open PySem PySem.Spec PyProof.Rows L2
section
variable {G : Gs} {A A' : Al} {H H' : Hp} {S S' : Sto} {n : Nat} {a D : Addr} {vs : List V} {xs : List Dv}
/-- it is put back -/
def Al.ret (A : Al) (n : Nat) (a : Addr) : Al := ⟨A.live.set n [a], A.hid.filter fun b => decide (b ≠ a)⟩
def isLoc (n : Nat) : Dv → Bool
  | .loc m => m == n
  | .d _ => false
/-- no mention of the box n -/
def noL (n : Nat) : Bo → Bool
  | .lst xs => xs.all fun d => !isLoc n d
  | .dct _ xs => xs.all fun d => !isLoc n d
  | .ins _ fs => fs.all fun f => match f with
    | none => true
    | some d => !isLoc n d
  | .dead => true
  | .tp xs => xs.all fun d => !isLoc n d
  | .dcT _ xs => xs.all fun d => !isLoc n d
theorem RD.ret {d : Dv} {v : V} (hn : A'.live[n]? = some []) (sub : ∀ b, b ∉ A'.all → b ∉ (A'.ret n a).all) (h : isLoc n d = false) (r : RD G A' H' d v) : RD G (A'.ret n a) H' d v := by
  cases d with
  | d t => exact RV.kq (t := t) (Kq.same sub) r
  | loc m =>
    obtain ⟨l, e, f⟩ := r
    have hm : n ≠ m := fun z => by
      subst z
      simp [isLoc] at h
    exact ⟨l, by show (A'.live.set n [a])[m]? = _; rw [List.getElem?_set_ne hm]; exact e, f⟩
theorem RDs.ret {ds : List Dv} {ws : List V} (hn : A'.live[n]? = some []) (sub : ∀ b, b ∉ A'.all → b ∉ (A'.ret n a).all) (h : (ds.all fun d => !isLoc n d) = true) (r : RDs G A' H' ds ws) : RDs G (A'.ret n a) H' ds ws := by
  induction r with
  | nil => exact .nil
  | cons r1 r2 ih =>
    rw [List.all_cons, Bool.and_eq_true] at h
    exact .cons (RD.ret hn sub (by simpa using h.1) r1) (ih h.2)
theorem RB.ret {l : List Addr} {b : Bo} (hn : A'.live[n]? = some []) (sub : ∀ b, b ∉ A'.all → b ∉ (A'.ret n a).all) (h : noL n b = true) (r : RB G A' H' l b) : RB G (A'.ret n a) H' l b := by
  cases b with
  | lst ys =>
    obtain ⟨c, ws, rfl, ec, rc⟩ := r
    exact ⟨c, ws, rfl, ec, rc.ret hn sub h⟩
  | dct ks ys =>
    obtain ⟨c, ws, rfl, ec, ek, rc⟩ := r
    exact ⟨c, ws, rfl, ec, ek, rc.ret hn sub h⟩
  | ins c fs =>
    obtain ⟨c1, dx, ws, rfl, ec, rc⟩ := r
    refine ⟨c1, dx, ws, rfl, ec, fun i d e => ?_⟩
    obtain ⟨v, ev, rv⟩ := rc i d e
    refine ⟨v, ev, RD.ret hn sub ?_ rv⟩
    have := List.all_eq_true.mp h (some d) (List.mem_of_getElem? e)
    simpa using this
  | dead => trivial
  | tp ys =>
    obtain ⟨c, ws, rfl, ec, rc⟩ := r
    exact ⟨c, ws, rfl, ec, rc.ret hn sub h⟩
  | dcT ks ys =>
    obtain ⟨c, ws, rfl, ec, ek, rc⟩ := r
    exact ⟨c, ws, rfl, ec, ek, rc.ret hn sub h⟩
end
section
variable {X : Cx} {G : Gs} {W : WX} {kk : Nat} {elt tg iter : Expr} {ifs : List Expr} {scope : Scope} {own : List (Str × Nat)} {pos : Pos} {it : M (List Dt)} {g : GM} {t : TG} {L : List Nat} {cm : M Bool} {em : M Dv}
end
end Sm
/-! HyM: parts, shared. -/
namespace Hn
open PySem PySem.Spec PyProof.Rows L2 Sm
end Hn
/-! Sm33: properties; x[i], x in y by methods of own classes. -/
namespace Sm
open PySem PySem.Spec PyProof.Rows L2
/-- o.f, a property whose getter raises nothing -/
def mPropM (c : Nat) (F : FM) (mo : M Dv) : M Dv := fun ρ S => (mo ρ S).bind fun o S1 => if isIns c o S1 = true then nox (F [o] S1) else .bad
section
variable {X : Cx} {G : Gs} {W : WX} {k n : Nat} {f : Addr} {ks : List Str} {F : FM} {c : Nat} {m : Str} {pos : Pos} {o i e : Expr} {mo mi mx : M Dv}
/-- .. that raises nothing -/
theorem runF1z {pins : List (Addr × Obj)} {σ : L2.St} {H : Hp} {s : Shared} {Q : VK} {us ws : List Value} {vs zs : List V} (R : CallW X.prog X.w G X.mg X.base k f n ks F) (B : Bx X G W (k + 1)) (I : Inv X pins σ H s) (r : Vals vs us) (rz : Vals zs ws) (l1 : vs.length = n) (l2 : zs.length = ks.length)
    (h : SpM G F (vs ++ zs) H Q Ez) : codeAny (model X.prog X.w) X.A.in1 (.call (.ref f) ⟨us, ks.zip ws⟩) (fun r s' => match r with | .ok (.ret v) => EP X pins σ Q v s' | _ => False) s := by
  refine codeAny_mono (R X.A.in1 X.stack s H us ws vs zs Q Ez B.room.in1 (by rw [B.hK]; exact I.env0.in1) r rz l1 l2 h) fun r s' hq => ?_
  cases r with
  | error e =>
    obtain ⟨_, _, _, _, _, _, _, _, _, _, _, _, _, _, _, w⟩ := hq
  | ok fl =>
    cases fl with
    | ret u => exact I.after hq
    | next => exact False.elim hq
    | brk => exact False.elim hq
    | cont => exact False.elim hq
/-- a property: p lies in the class, its getter is the def at g -/
structure PropS (K : PySem.W.Frag) (C : Addr) (f : Str) (p g : Addr) : Prop where
  at_ : PySem.W.findIn K (.ref C) f = some (some (.ref p))
  get : PySem.W.specialIn K (.ref p) "__get__" = some (some (.builtin "property.__get__"))
  tk : PySem.W.takesIn K (.ref p) = some true
  rc : ∃ rest, PySem.W.recIn K p "property" = some (.ref g :: rest)
theorem e_propM {p : Addr} (R : CallW X.prog X.w G X.mg X.base k f 1 [] F) (B : Bx X G W (k + 1)) (cl : SlX.SCls X.K (G.cls c)) (hp : PropS X.K (G.cls c) m p f) (ho : PE X o (tM G W mo)) (hb : attributeBase o m X.env (eval o X.env) = eval o X.env) :
    PE X (.Attribute o m pos) (tM G W (mPropM c F mo)) := by
  refine ⟨fun pins s σ H Q I h => ?_⟩
  obtain ⟨A, ρ, S, he', hs, p0⟩ := h
  refine attr_of hb (thn (ho.run pins s σ H (fun y H1 => ∃ a dx ws, y = .ref a ∧ SlX.Slt H1 a (G.cls c) dx ws ∧ SpM G F ([V.ref a] ++ []) H1 Q Ez) I ⟨A, ρ, S, he', hs, Po.step p0 fun d S1 A1 H1 x1 s1 p1 v rv => ?_⟩) fun u s1 ⟨y, H1, I1, rx, a, dx, ws, ex, hsl, q⟩ => ?_)
  · by_cases hi : isIns c d S1 = true
    · simp only [hi, if_true] at p1
      obtain ⟨a, dx, ws, ev, hsl⟩ := isIns_slt s1 rv hi
      subst ev
      exact ⟨a, dx, ws, rfl, hsl, A1, S1, [d], .cons rv .nil, s1, p1.nox⟩
    · simp only [hi] at p1
      exact p1.elim
  · subst ex
    obtain rfl : u = Value.ref a := rx
    obtain ⟨sl, od, _, J, _⟩ := SlX.slt_inst I1 hsl
    obtain ⟨rest, hrec⟩ := hp.rc
    have I2 : Inv X pins σ H1 { s1 with toks := s1.toks + 1 } := I1.tok (s1.toks + 1)
    refine PySem.W.get_bind I1.kIn J (PySem.W.plainGet_of (cl.get m)).1 (PySem.W.findObj_data cl.ic hp.at_ hp.get hp.tk) (PySem.W.plainGet_of (cl.get m)).2 (wpAny_call (PySem.W.prop_get (s := { s1 with toks := s1.toks + 1 }) I1.kIn hrec ?_))
    refine codeAny_mono (runF1z (us := [.ref a]) (vs := [.ref a]) (ws := []) (zs := []) R B I2 (.cons rfl .nil) .nil rfl rfl q) fun r s' hq => ?_
    cases r with
    | error e => exact False.elim hq
    | ok fl =>
      cases fl with
      | ret u =>
        obtain ⟨v, H', I3, rv, q⟩ := hq
        exact wpAny_of_eq (PySem.W.handedOut_of (handed_of rv)) ⟨v, H', I3, rv, q⟩
      | next => exact False.elim hq
      | brk => exact False.elim hq
      | cont => exact False.elim hq
end
/-- what a law's end hands on: a property; a method of an own name -/
structure CalP (P : Program) (w : World) (G : Gs) (mg : Str → Option Value) (base : Heap) (k c : Nat) (x : Str) (F : FM) : Prop where
  ex : ∃ p f, SlX.SCls G.K (G.cls c) ∧ PropS G.K (G.cls c) x p f ∧ CallW P w G mg base k f 1 [] F
structure CalD (P : Program) (w : World) (G : Gs) (mg : Str → Option Value) (base : Heap) (k c : Nat) (x : Str) (n : Nat) (F : FM) : Prop where
  ex : ∃ f, SlX.SCls G.K (G.cls c) ∧ Meth G.K (G.cls c) x f ∧ PySem.W.fnIn G.K f = true ∧ CallW P w G mg base k f (n + 1) [] F
section
variable {X : Cx} {G : Gs} {W : WX} {k : Nat} {F : FM} {c : Nat} {m : Str} {pos : Pos} {o i e : Expr} {mo mi mx : M Dv}
theorem yprop (R : CalP X.prog X.w G X.mg X.base k c m F) (B : Bx X G W (k + 1)) (ho : PE X o (tM G W mo)) (hb : attributeBase o m X.env (eval o X.env) = eval o X.env := by rfl) : PE X (.Attribute o m pos) (tM G W (mPropM c F mo)) := by
  obtain ⟨p, f, h1, h2, h3⟩ := R.ex
  exact e_propM h3 B (by rw [← B.hK]; exact h1) (by rw [← B.hK]; exact h2) ho hb
end
end Sm
/-! Sm34: several keyword-only defaults; clear; sorted of a dict of texts. -/
namespace Sm
open PySem PySem.Spec PyProof.Rows L2
section
variable {P : Program} {w : World} {G : Gs} {mg : Str → Option Value} {base : Heap} {x qual : Str} {st : Stmt} {f : Addr} {dV kV : Value} {fd : FuncData} {ps ks : List Str} {k n : Nat} {F : FM}
end
section
variable {X : Cx} {G : Gs}
end
section
variable {X : Cx} {G : Gs}
end
end Sm
/-! Sm35: tests of own `in`; boxes read alone by a call that hands back tuples. -/
namespace Sm
open PySem PySem.Spec PyProof.Rows L2
section
variable {X : Cx} {G : Gs} {W : WX} {k : Nat} {F : FM} {c : Nat} {pos : Pos} {o e : Expr} {mo mx : M Dv}
end
/-! flat things in tuples -/
section
variable {G : Gs} {A B : Al} {H : Hp}
end
section
variable {G : Gs} {A A' A0 : Al} {H H' : Hp} {S S' : Sto}
end
section
variable {P : Program} {w : World} {G : Gs} {mg : Str → Option Value} {base : Heap} {k : Nat} {x : Str} {n : Nat} {ks : List Str} {F : FM}
end
end Sm
/-! HzM: a law that is a loop. -/
namespace Hn
open PySem PySem.Spec PyProof.Rows L2 Sm
def lawMF (top : Int) (B R : FM) : SM := sSeq (sSet 1 (mF F__law_cells (aCons (mV 0) (aCons (mC (.int top)) (aNil)))))
    (sSeq (sFor (iRg rg1 (aCons (mN pLen (aCons (mV 1) (aNil))) (aNil))) (gN 2) (sIf (cNot (mTru pTru (mF R (aCons (mF B (aCons (mV 1) (aCons (mV 2) (aNil)))) (aNil))))) (sRet (mC (.bl false))) (sNil)))
    (sRet (mC (.bl true))))
end Hn
/-! Sm36: sorted(set(..)) of whole numbers. -/
namespace Sm
open PySem PySem.Spec PyProof.Rows L2
section
variable {X : Cx} {G : Gs} {W : WX} {k : Nat}
end
section
variable {X : Cx} {G : Gs} {W : WX} {k : Nat} {a : Expr} {p p2 q pos : Pos} {mo : M Dv}
end
end Sm
/-! Sm37: lists and instances read alone by a call. -/
namespace Sm
open PySem PySem.Spec PyProof.Rows L2
section
variable {G : Gs} {A A' A0 : Al} {H H' : Hp} {S S' : Sto}
end
section
variable {P : Program} {w : World} {G : Gs} {mg : Str → Option Value} {base : Heap} {k : Nat} {x : Str} {n : Nat} {ks : List Str} {F : FM}
end
end Sm
/-! Sm38: len(x), the truth of x, x(..) by methods of own classes. -/
namespace Sm
open PySem PySem.Spec PyProof.Rows L2
section
variable {X : Cx} {G : Gs} {W : WX} {k : Nat} {f : Addr} {F : FM} {c : Nat} {p pos : Pos} {o : Expr} {mo : M Dv}
end
end Sm
/-! Sm39: {k: v, **m}: a displayed entry, then all of a dict. -/
namespace Sm
open PySem PySem.Spec PyProof.Rows L2
theorem disp_star (k v m : Sem Value) : dictDisplay [(some k, v), (none, m)] = (do
    let d ← subDict [(k, v)]
    let x ← holding [.ref d] m
    ((((holding [.ref d, x] (mergeMapping d x false)).onRaise fun z => do let _ ← holding [.ref d, x, z] (runValue (.builtin "proto.let_go" {}))).tryCatch fun e => do
        if ← isInstance e (.type "AttributeError") then
          rule "dict.display.not-a-mapping"; raiseError "TypeError" s!"'{← typeNameOf x}' object is not a mapping"
        throw e).onRaise fun z => do let _ ← holding [.ref d, z] (runValue (.builtin "proto.let_go" {})))
    pure (.ref d)) := by
  unfold dictDisplay
  dsimp only
  simp only [List.forIn_cons, List.forIn_nil, List.nil_append, List.length_singleton, List.isEmpty_cons, List.isEmpty_nil, pure_bind, bind_assoc]
  simp
section
variable {prog : Program} {w : World} {K : Type} [DecidableEq K] {knd : KeyKind prog w K} {A : Around} {E : Value → Shared → Prop} {s : Shared}
/-- one entry put by its hash -/
theorem put_pairs {d : Addr} {kvs : List (K × Value)} {k : K} {key v : Value} {Q : Unit → Shared → Prop} (hkey : knd.is k key = true) (hm : s.heap.DictOf knd d kvs)
    (hQ : ∀ h', h'.DictOf knd d (stored kvs k v) → Heap.SameBut d s.heap h' → Q () { s with heap := h' }) (hsz : kvs.length ≤ sizeLine) :
    wpAny (model prog w) A (dictPut d (knd.hash k) key v) Q E s := by
  obtain ⟨o, es, ep, ho, hc, hd, hk, hp, hn⟩ := hm
  have hes : es.size ≤ sizeLine := by
    have e1 := hp.length
    simp at e1
    omega
  have hidx : (es.findIdx? fun e => knd.is k e.key) = kvs.findIdx? fun kv => decide (kv.1 = k) := by
    rw [← hp.findIdx k]
    obtain ⟨l⟩ := es
    simp
  unfold dictPut
  refine wpAny_bind (wpAny_dictFind_of hkey ho hd hk ?_)
  cases hi : es.findIdx? fun e => knd.is k e.key with
  | some i =>
    have hany := any_of_findIdx_some (hidx ▸ hi)
    refine wpAny_updateDict ho hd (hQ _ ⟨_, _, ep, Heap.get?_update_self _ ho (Obj.isFreed_of_dict (Obj.data_mapDict hd _)), hc.mapDict _, Obj.data_mapDict hd _, hk.modify _ _, ?_, ?_⟩ (Heap.SameBut.update ..))
    · have hl : (es.toList.findIdx? fun e => knd.is k e.key) = some i := by
        rw [← hi]
        obtain ⟨l⟩ := es
        simp
      have := hp.modify hn hl v
      rw [stored, if_pos hany]
      obtain ⟨l⟩ := es
      simpa using this
    · rw [stored, if_pos hany, keys_map_store]
      exact hn
  | none =>
    have hnot : k ∉ kvs.map (·.1) := not_mem_of_findIdx_none (hidx ▸ hi)
    have hany : ¬ (kvs.any fun kv => decide (kv.1 = k)) = true := fun z => by
      obtain ⟨kv, hkv, he⟩ := List.any_eq_true.mp z
      exact hnot (List.mem_map.mpr ⟨kv, hkv, of_decide_eq_true he⟩)
    refine wpAny_updateDictKeys (hz := hes) ho hd (hQ _ ⟨_, _, ep + 1, Heap.get?_update_self _ ho (Obj.isFreed_of_dict (Obj.data_mapDictKeys hd _)), hc.mapDictKeys _, Obj.data_mapDictKeys hd _, hk.push hkey _, ?_, ?_⟩ (Heap.SameBut.update ..))
    · have := hp.append hkey (knd.hash k) v
      rw [stored, if_neg hany]
      obtain ⟨l⟩ := es
      simpa using this
    · rw [stored, if_neg hany, List.map_append, List.nodup_append]
      refine ⟨hn, by simp, fun a ha b hb e => ?_⟩
      simp only [List.map_cons, List.map_nil, List.mem_singleton] at hb
      rw [e, hb] at ha
      exact hnot ha
/-- {.., **o}: o's entries are put into d, which has some already -/
theorem merge_star {d o : Addr} {kvs more : List (K × Value)} {Q : Unit → Shared → Prop} (hdo : d ≠ o) (hoS : (o == sysModules) = false) (h0 : kvs ≠ [])
    (hd : s.heap.DictOf knd d kvs) (ho : s.heap.DictOf knd o more)
    (hQ : ∀ h', h'.DictOf knd d (merged kvs more) → Heap.SameBut d s.heap h' → Q () { s with heap := h' }) (hsz : kvs.length + more.length ≤ sizeLine) :
    wpAny (model prog w) A (mergeMapping d (.ref o) false) Q E s := by
  have hT := ho.typeIs
  obtain ⟨od, esd, epd, hod, hcd, hdd, hkd, hpd, hnd⟩ := id hd
  obtain ⟨oo, eso, epo, hoo, hco, hdo', hko, hpo, hno⟩ := id ho
  have hlen : more.length = eso.size := by
    rw [← hpo.length]
    simp
  unfold mergeMapping
  refine wpAny_bind (wpAny_isInstance hT isSubtype_dict_dict ?_)
  dsimp only
  rw [if_pos rfl]
  refine wpAny_bind (wpAny_specialOf hT F.slot_dict_iter.lookup ?_)
  simp only [beq_self_eq_true, pure_bind, hoS, Bool.false_eq_true, if_false]
  refine wpAny_bind (wpAny_dictEntries hod hdd ?_)
  have he : ¬ esd.isEmpty = true := fun z => by
    have e1 := hpd.length
    have e2 : esd.toList.length = 0 := by
      rw [Array.isEmpty_iff] at z
      rw [z]
      rfl
    rw [e2] at e1
    exact h0 (List.eq_nil_of_length_eq_zero e1.symm)
  rw [if_neg he]
  refine wpAny_bind (wpAny_dictEntries hoo hdo' ?_)
  refine wpAny_bind (wpAny_dictEpoch hoo hdo' ?_)
  refine wpAny_bind ?_
  refine wpAny_forIn_list _
    (fun rest _ s' => ∃ h' i, s' = { s with heap := h' } ∧ rest = List.range' i (eso.size - i) ∧ i ≤ eso.size ∧ h'.DictOf knd d (merged kvs (more.take i)) ∧ h'.get? o = some oo ∧ Heap.SameBut d s.heap h')
    _ ?_ ?_ _ _ ⟨s.heap, 0, rfl, by rw [List.range_eq_range']; simp, Nat.zero_le _, by simpa [merged] using hd, hoo, Heap.SameBut.refl _ _⟩
  · rintro x rest b s' ⟨h', i, rfl, hr, hi, hd', hoo', hs'⟩
    have hlt : i < eso.size := by
      rcases Nat.lt_or_ge i eso.size with h | h
      · exact h
      · rw [Nat.sub_eq_zero_of_le h] at hr
        simp at hr
    obtain ⟨rfl, hrest⟩ : x = i ∧ rest = List.range' (i + 1) (eso.size - (i + 1)) := by
      rw [show eso.size - i = (eso.size - (i + 1)) + 1 by omega, List.range'_succ] at hr
      injection hr with h1 h2
      exact ⟨h1, h2⟩
    refine wpAny_bind (wpAny_dictEntries hoo' hdo' ?_)
    rw [Array.getElem?_eq_getElem hlt]
    have hkv : more[x]? = some (more[x]'(by rw [hlen]; exact hlt)) := List.getElem?_eq_getElem _
    generalize more[x]'(by rw [hlen]; exact hlt) = kv at hkv
    obtain ⟨k, v⟩ := kv
    obtain ⟨hkey, hval⟩ := hpo.get? (e := eso[x]) (by simp [hlt]) hkv
    obtain ⟨k', hkey', hhash⟩ := hko eso[x] (Array.getElem_mem hlt)
    obtain rfl : k' = k := knd.inj _ _ _ hkey' hkey
    have hmx : (merged kvs (more.take x)).length ≤ sizeLine := by
      have e1 := merged_length_le kvs (more.take x)
      rw [List.length_take] at e1
      omega
    simp only [hhash, hval]
    refine wpAny_bind (wpAny_holding (put_pairs hkey hd' (fun h'' hd'' hs'' => ?_) hmx))
    have hoo'' : h''.get? o = some oo := (hs''.2 o (Ne.symm hdo)).trans hoo'
    refine wpAny_bind (wpAny_dictEpoch hoo'' hdo' ?_)
    rw [if_neg (by simp)]
    exact wpAny_pure ⟨h'', x + 1, rfl, hrest, hlt, by rw [merged_take_succ kvs more x (k', v) hkv]; exact hd'', hoo'', hs'.trans hs''⟩
  · rintro b s' ⟨h', i, rfl, hr, hi, hd', hoo', hs'⟩
    have hin : i = eso.size := by
      rcases Nat.lt_or_ge i eso.size with h | h
      · rw [show eso.size - i = (eso.size - (i + 1)) + 1 by omega, List.range'_succ] at hr
        cases hr
      · omega
    refine wpAny_pure (hQ h' ?_ hs')
    rw [hin, ← hlen, List.take_length] at hd'
    exact hd'
end

/-- {k: v, **m}: the new dict stands while v and m are made -/
def tStar (tk tv tm : TE) : TE := fun σ H Q => ∀ p, H p = none → tk σ (upd H p (.dK [])) fun x H1 => tv σ H1 fun y H2 => H2 p = some (.dK []) ∧ ∃ k : Key, x = kV k ∧
  tm σ (upd H2 p (.dK [(k, y)])) fun z H3 => ∃ a more, z = .ref a ∧ a ≠ p ∧ Rd H3 a (.dK more) ∧ H3 p = some (.dK [(k, y)]) ∧ more.length ≤ 16777000 ∧ Q (.ref p) (upd H3 p (.dK (mergeK [(k, y)] more)))
theorem pe_star {X : Cx} {k v m : Expr} {pos : Pos} {tk tv tm : TE} (hk : PE X k tk) (hv : PE X v tv) (hm : PE X m tm) : PE X (.Dict [some k, none] [v, m] pos) (tStar tk tv tm) := by
  refine ⟨fun pins s σ H Q I q => ?_⟩
  have hn := I.hok.fresh (Nat.le_refl s.heap.objs.size)
  have I1 := I.laid (a := s.heap.objs.size) (o := .dK []) (h' := s.heap.push { cls := .type "dict", data := .dict #[] }) (t' := s.toks) (fun _ _ q => Heap.get?_push_of_some _ q) (Nat.le_refl _) (dk_empty s.heap I.big)
  rw [arm_eval_Dict]
  show wpAny _ _ (standAt pos >>= fun _ => dictDisplay [(some (eval k X.env), do let x ← eval v X.env; standAt pos; pure x), (none, do let x ← eval m X.env; standAt pos; pure x)]) _ _ _
  rw [disp_star]
  refine wpAny_bind (wpAny_standAt (wpAny_bind (wpAny_subDict (knd := mixKind X.prog X.w) (pairs := [(eval k X.env, do let x ← eval v X.env; standAt pos; pure x)]) (by show 1 ≤ 15; decide) ?_)))
  refine evalPairs_cons (thn (hk.run pins _ σ _ _ I1 (q _ hn)) fun u s1 ⟨x, H1, I2, rx, q1⟩ => ?_)
  refine wpAny_bind (thn (hv.run pins s1 σ H1 _ I2 q1) fun w2 s2 ⟨y, H2, I3, ry, e2, key, ex, q2⟩ => wpAny_bind (wpAny_standAt (wpAny_pure (evalPairs_nil ?_))))
  subst ex
  obtain ⟨z, hd, vs0, r0, dd⟩ := dk_of I3.hok e2
  cases r0
  refine ⟨[(key, w2)], ⟨kV_is rx, rfl, True.intro⟩, dd, fun h' dd' hs => ?_⟩
  have hd1 : ∃ q, h'.get? s.heap.objs.size = some q := let ⟨q, _, _, hq, _⟩ := dd'; ⟨q, hq⟩
  have I4 := d_write (t' := s2.toks + 1) I3 (by rw [e2]; exact True.intro) hs hd1 (dk_new (kvs := [(key, y)]) (by rw [sizeLine_eq]; show 1 ≤ _; decide) hd (.cons ⟨rfl, ry⟩ .nil) dd')
  refine wpAny_bind (wpAny_holding (wpAny_bind (thn (hm.run pins _ σ _ _ I4 q2) fun w3 s3 ⟨x3, H3, I5, r3, a, more, ex3, ne, hr, e3, hz3, q3⟩ => wpAny_bind (wpAny_standAt (wpAny_pure ?_)))))
  subst ex3
  obtain rfl : w3 = Value.ref a := r3
  obtain ⟨z4, lo4, vs4, rk4, dd4⟩ := dk_rd I5.hok hr
  obtain ⟨z5, hd5, vs5, rk5, dd5⟩ := dk_of I5.hok e3
  have hl4 : more.length = vs4.length := Paired.length rk4
  have hl5 : ([(key, y)] : List (Key × V)).length = vs5.length := Paired.length rk5
  have h50 : vs5 ≠ [] := fun z => by
    rw [z] at hl5
    cases hl5
  refine wpAny_bind (wpAny_onRaise (wpAny_tryCatch (wpAny_onRaise (wpAny_holding (merge_star (Ne.symm ne) lo4 h50 dd5 dd4 (fun h6 d6 s6 => ?_) (by rw [← hl5, ← hl4, sizeLine_eq]; simp; omega))))))
  refine wpAny_pure ⟨.ref s.heap.objs.size, _, ?_, rfl, q3⟩
  have hzz : (mergeK [(key, y)] more).length ≤ sizeLine := by
    have h1 := length_mergeK more [(key, y)]
    rw [sizeLine_eq]
    simp at h1
    omega
  exact d_write I5 (by rw [e3]; exact True.intro) s6 (let ⟨q, _, _, hq, _⟩ := d6; ⟨q, hq⟩) (dk_new hzz hd5 (rk4.merge rk5) d6)
def dmerge (ks : List Key) (xs : List Dv) : List Key → List Dv → List Key × List Dv
  | k :: kr, x :: xr => dmerge (dputK ks k) (dputX ks xs k x) kr xr
  | _, _ => (ks, xs)
theorem dmerge_rd {G : Gs} {A : Al} {H : Hp} : ∀ {more kvs : List (Key × V)} {xs ys : List Dv}, RDs G A H xs (kvs.map (·.2)) → RDs G A H ys (more.map (·.2)) →
    (mergeK kvs more).map (·.1) = (dmerge (kvs.map (·.1)) xs (more.map (·.1)) ys).1 ∧ RDs G A H (dmerge (kvs.map (·.1)) xs (more.map (·.1)) ys).2 ((mergeK kvs more).map (·.2))
  | [], kvs, xs, ys, h, h2 => by
    cases h2
    exact ⟨rfl, h⟩
  | p :: more, kvs, xs, ys, h, h2 => by
    obtain ⟨k, v⟩ := p
    cases h2 with
    | cons r r2 =>
      have := dmerge_rd (more := more) (kvs := putK kvs k v) (dput_rds h r) r2
      rw [dput_keys] at this
      exact this
theorem PoB.step {α β : Type} {G : Gs} {E : XK} {A A1 : Al} {H H1 : Hp} {S : Sto} {D : Addr} {r : Rz α} {f : α → Sto → Rz β} {k : Al → Hp → β → Prop} {k' : Al → Hp → α → Prop} (x : ExtB D A H A1 H1) (hD : H D = none) (s : StR G A1 S H1) (h : Po G E A H (r.bind f) k)
    (q : ∀ a S2 A2 H2, Ext A1 H1 A2 H2 → StR G A2 S2 H2 → ExtB D A H A2 H2 → Po G E A H (f a S2) k → k' A2 H2 a) : Po G E A1 H1 r k' := by
  cases r with
  | ok a S2 => exact fun A' H' y s2 => q a S2 A' H' y s2 (x.step y s) h
  | er c t S2 => exact fun A' H' cls d y s2 e => h A' H' cls d (Ext.ofB (x.step y s) hD) s2 e
  | bad => exact h
theorem dctAt_ne {G : Gs} {A : Al} {S : Sto} {H : Hp} {d : Dv} {a D : Addr} {q : List Key × List Dv} (s : StR G A S H) (hD : D ∈ A.hid) (r : RD G A H d (.ref a)) (h : dctAt S d = some q) : a ≠ D := by
  cases d with
  | d t =>
    cases t with
    | dct ks' xs' =>
      obtain ⟨b, kvs, e, n, _⟩ := r
      cases e
      exact fun z => n (by rw [z]; exact List.mem_append_right _ hD)
    | _ => cases h
  | loc n =>
    unfold dctAt at h
    simp only at h
    split at h
    · rename_i ks xs e
      obtain ⟨b, kvs, e1, hl, _⟩ := loc_dct s r e
      cases e1
      intro z
      have hn := s.nd
      unfold Al.all at hn
      rw [List.nodup_append] at hn
      exact hn.2.2 a (live_set hl a (by simp)) D hD z
    · cases h
def mStar (pe : PD) (ek ev em : M Dv) : M Dv := fun ρ S => (ek ρ S).bind fun kd S1 => (ev ρ S1).bind fun vd S2 => bz (kOf kd) fun k => (em ρ S2).bind fun md S3 => bz (dctAt S3 md) fun q =>
  if q.1.length ≤ 16777000 then pe (dmerge [k] [vd] q.1 q.2).1 (dmerge [k] [vd] q.1 q.2).2 S3 else .bad
theorem e_star {X : Cx} {G : Gs} {W : WX} {k v m : Expr} {pos : Pos} {ek ev em : M Dv} {pe : PD} (hpe : DEnd G pe) (hk : PE X k (tM G W ek)) (hv : PE X v (tM G W ev)) (hm : PE X m (tM G W em)) : PE X (.Dict [some k, none] [v, m] pos) (tM G W (mStar pe ek ev em)) := by
  refine (pe_star hk hv hm).sm fun σ H Q h D hD => ?_
  obtain ⟨A, ρ, S, he, hs, p⟩ := h
  have s0 := hs.hide (o := .dK []) hD
  have xb0 : ExtB D A H (A.hide D) (upd H D (.dK [])) := .start
  unfold mStar at p
  refine ⟨A.hide D, ρ, S, he.kp (Ext.hide hD).kp, s0, PoB.step xb0 hD s0 p fun kd S1 A1 H1 x1 s1 xb1 p1 x rx => ?_⟩
  have e1 : H1 D = some (.dK []) := (hid_keep s0 xb0.inH x1).trans upd_same
  have en1 := (he.kp (Ext.hide (o := .dK []) hD).kp).kp x1.kp
  refine ⟨A1, ρ, S1, en1, s1, PoB.step xb1 hD s1 p1 fun vd S2 A2 H2 x2 s2 xb2 p2 y ry => ?_⟩
  have e2 : H2 D = some (.dK []) := (hid_keep s1 xb1.inH x2).trans e1
  refine ⟨e2, ?_⟩
  cases ek' : kOf kd with
  | none =>
    rw [ek'] at p2
    exact p2.elim
  | some key =>
    rw [ek'] at p2
    refine ⟨key, kOf_rd ek' rx, ?_⟩
    have s2' := s2.poke (o := .dK [(key, y)]) xb2.inH
    have xb2' := xb2.poke (o := .dK [(key, y)])
    refine ⟨A2, ρ, S2, (en1.kp x2.kp).kp (kp_poke xb2.inH), s2', PoB.step xb2' hD s2' p2 fun md S3 A3 H3 x3 s3 xb3 p3 z rz => ?_⟩
    cases ed : dctAt S3 md with
    | none =>
      rw [ed] at p3
      exact p3.elim
    | some q =>
      rw [ed] at p3
      simp only [bz] at p3
      split at p3
      · rename_i hz
        obtain ⟨ks, xs⟩ := q
        obtain ⟨a, more, rfl, hr, hks, hxs⟩ := dctAt_rd s3 rz ed
        have e3 : H3 D = some (.dK [(key, y)]) := (hid_keep s2' xb2'.inH x3).trans upd_same
        have ry3 : RDs G A3 H3 [vd] ([(key, y)].map (·.2)) := .cons ((RD.kp (kp_poke xb2.inH) ry).kp x3.kp) .nil
        obtain ⟨m1, m2⟩ := dmerge_rd (kvs := [(key, y)]) ry3 hxs
        refine ⟨a, more, rfl, dctAt_ne s3 xb3.inH rz ed, hr, e3, by rw [← hks] at hz; simpa using hz, ?_⟩
        subst hks
        refine hpe (E := Wa W σ) (s3.poke xb3.inH) xb3.poke hD upd_same (m2.kp (kp_poke xb3.inH)) ?_
        rw [m1]
        exact p3
      · exact p3.elim
end Sm
/-! Sm40: a, b[i], .. = x, y, ..: places of boxes among the targets. -/
namespace Sm
open PySem PySem.Spec PyProof.Rows L2
abbrev G2 := Dv → Env → Sto → (Env → Sto → Sz) → Sz
def g2N (i : Nat) : G2 := fun d ρ S k => k (ρ.set i (some d)) S
def g2S (mo mi : M Dv) : G2 := fun d ρ S k => (mo ρ S).to ρ fun o S2 => (mi ρ S2).to ρ fun i S3 => oz (stSub o i d S3) fun S4 => k ρ S4
def g2all : List G2 → List Dv → Env → Sto → (Env → Sto → Sz) → Sz
  | [], [], ρ, S, k => k ρ S
  | g :: gs, d :: ds, ρ, S, k => g d ρ S fun ρ1 S1 => g2all gs ds ρ1 S1 k
  | _, _, _, _, _ => .bad
def sParG (gs : List G2) (ma : M (List Dv)) : SM := fun ρ S => (ma ρ S).to ρ fun ds S1 => g2all gs ds ρ S1 fun ρ2 S2 => .nx ρ2 S2
def T2 (G : Gs) (W : WX) (t : TG) (g : G2) : Prop := ∀ (A : Al) (S : Sto) (ρ : Env) (σ : L2.St) (H : Hp) (d : Dv) (v : V) (k : Env → Sto → Sz) (D : Ends) (Q : L2.St → Hp → Prop), EnvR G A H ρ σ → StR G A S H → RD G A H d v → PoS G W A H (g d ρ S k) D →
  (∀ A' ρ' S' σ' H', Ext A H A' H' → EnvR G A' H' ρ' σ' → StR G A' S' H' → PoS G W A' H' (k ρ' S') D → Q σ' H') → t v σ H Q
def T2s (G : Gs) (W : WX) (t : TGs) (gs : List G2) : Prop := ∀ (A : Al) (S : Sto) (ρ : Env) (σ : L2.St) (H : Hp) (ds : List Dv) (vs : List V) (k : Env → Sto → Sz) (D : Ends) (Q : L2.St → Hp → Prop), EnvR G A H ρ σ → StR G A S H → RDs G A H ds vs → PoS G W A H (g2all gs ds ρ S k) D →
  (∀ A' ρ' S' σ' H', Ext A H A' H' → EnvR G A' H' ρ' σ' → StR G A' S' H' → PoS G W A' H' (k ρ' S') D → Q σ' H') → t vs σ H Q
section
variable {X : Cx} {G : Gs} {W : WX} {kk : Nat}
theorem t2_name {i : Nat} : T2 G W (gName i) (g2N i) := fun A S ρ σ H d v k D Q he hs r p q => q A _ S _ H .refl (he.set r) hs p
theorem t2s_nil : T2s G W gNil [] := fun A S ρ σ H ds vs k D Q he hs r p q => by
  cases r with
  | nil => exact ⟨rfl, q A ρ S σ H .refl he hs p⟩
  | cons _ _ => exact p.elim
theorem t2s_cons {t : TG} {u : TGs} {g : G2} {gs : List G2} (h : T2 G W t g) (h2 : T2s G W u gs) : T2s G W (gCons t u) (g :: gs) := fun A S ρ σ H ds vs k D Q he hs r p q => by
  cases r with
  | nil => exact p.elim
  | @cons d v ds vs r1 r2 =>
    refine ⟨v, vs, rfl, h A S ρ σ H d v _ D _ he hs r1 p fun A1 ρ1 S1 σ1 H1 x1 e1 s1 p1 => ?_⟩
    exact h2 A1 S1 ρ1 σ1 H1 ds vs k D _ e1 s1 (RDs.kp x1.kp r2) p1 fun A2 ρ2 S2 σ2 H2 x2 e2 s2 p2 => q A2 ρ2 S2 σ2 H2 (x1.trans x2) e2 s2 p2
def rSetLD : TSet := fun x y v H Q => rSetL x y v H Q ∨ rSetD x y v H Q
theorem set_ld (hu : X.A.units + 64 < cLine) : PSet X rSetLD := by
  intro pins s σ H x y z v u w Q I rx ry rz q
  rcases q with q | q
  · exact set_list pins s σ H x y z v u w Q I rx ry rz q
  · exact set_dict (by omega) pins s σ H x y z v u w Q I rx ry rz q
theorem t2_sub {mo mi : M Dv} : T2 G W (gSub (tM G W mo) (tM G W mi) rSetLD) (g2S mo mi) := fun A S ρ σ H d v k D Q he hs rv p0 q => by
  refine ⟨A, ρ, S, he, hs, PoS.step he p0 fun o' S2 A2 H2 x2 s2 e2 p2 x rx => ?_⟩
  refine ⟨A2, ρ, S2, e2, s2, PoS.step e2 p2 fun i' S3 A3 H3 x3 s3 e3 p3 y ry => ?_⟩
  obtain ⟨S4, es, p4⟩ := oz_po p3
  have rx := RD.kp x3.kp rx
  have rv := RD.kp x3.kp (RD.kp x2.kp rv)
  have x23 := x2.trans x3
  unfold stSub at es
  split at es
  · rename_i n
    split at es
    · rename_i xs eo
      obtain ⟨a, vs, rfl, hl, ha, hvs⟩ := loc_lst s3 rx eo
      split at es
      · rename_i kk
        split at es
        · rename_i j ej
          cases es
          obtain ⟨x4, s4⟩ := set_lst s3 hl (hvs.set j rv)
          obtain rfl : y = .int kk := ry
          exact .inl ⟨a, vs, kk, j, rfl, rfl, ha, by rw [← Paired.length hvs]; exact ej, q A3 ρ _ σ _ (x23.trans x4) (e3.kp x4.kp) s4 (PoS.mono x4 p4)⟩
        · cases es
      · cases es
    · rename_i ks xs eo
      obtain ⟨a, kvs, rfl, hl, ha, ek, hvs⟩ := loc_dct s3 rx eo
      split at es
      · rename_i j ej
        split at es
        · rename_i hz
          cases es
          subst ek
          obtain ⟨x4, s4⟩ := set_dct s3 hl (dput_keys (kvs := kvs) (j := j) (y := v)) (dput_rds hvs rv)
          exact .inr ⟨a, _, rfl, .inl ⟨kvs, j, ha, kOf_rd ej ry, line_lt (by simpa using hz), rfl⟩, q A3 ρ _ σ _ (x23.trans x4) (e3.kp x4.kp) s4 (PoS.mono x4 p4)⟩
        · cases es
      · cases es
    · cases es
  · cases es
theorem ypsub {o i : Expr} {pos : Pos} {mo mi : M Dv} (B : Bx X G W kk) (ho : PE X o (tM G W mo)) (hi : PE X i (tM G W mi))
    (ha : ∀ v, assign (.Subscript o i pos) X.env v = (do
      let ov ← holding [v] (eval o X.env)
      let iv ← holding [v, ov] (eval i X.env)
      standAt pos
      holding [v, ov, iv] (setItem ov iv v)
      release [v, ov, iv] []) := by exact fun _ => rfl) : PG X (.Subscript o i pos) (gSub (tM G W mo) (tM G W mi) rSetLD) := pg_sub ho hi (set_ld B.room.units) ha
theorem yparG {tgs es : List Expr} {u : TGs} {gs : List G2} {ma : M (List Dv)} {pt pt2 pos : Pos} {kt k2 : Nat} (B : Bx X G W kk) (ha : PA X es (tMA G W ma)) (hg : PG X (.Tuple tgs kt pt) (gTup X.K gs.length u)) (hu : T2s G W u gs) (al : ALen ma gs.length := by repeat (first | exact al_nil | refine al_cons ?_)) (hz : gs.length ≤ 100 := by decide)
    (hs : swapsWithSole [.Tuple tgs kt pt] (.Tuple es k2 pt2) pos.line X.env = pure false := by rfl) (hw : swappedStores [.Tuple tgs kt pt] (.Tuple es k2 pt2) X.env = pure none := by rfl) (h1 : (assignEach [.Tuple tgs kt pt] X.env).map (·.2) = [assign (.Tuple tgs kt pt) X.env] := by rfl) :
    PS X (.Assign [.Tuple tgs kt pt] (.Tuple es k2 pt2) pos) (tMS G W (sParG gs ma)) := by
  refine (ps_asg (pe_tup ha) hg hs hw h1).sm fun D σ H h => ?_
  obtain ⟨A, ρ, S, he, st, p⟩ := h
  cases em : ma ρ S with
  | bad =>
    unfold sParG at p
    rw [em] at p
    exact p.elim
  | er c t S1 =>
    unfold sParG at p
    rw [em] at p
    exact ⟨A, ρ, S, he, st, by rw [em]; exact fun A' H' cls d y s e => p A' H' σ cls d y s (he.kp y.kp) e⟩
  | ok ds S1 =>
    unfold sParG at p
    rw [em] at p
    have hl := al ρ S ds S1 em
    refine ⟨A, ρ, S, he, st, ?_⟩
    rw [em]
    intro A1 H1 x1 s1 vs rvs
    have e1 := he.kp x1.kp
    have hlv : vs.length = gs.length := by rw [← Paired.length rvs]; exact hl
    refine ⟨by rw [hlv]; exact line_of (by omega), fun q hq => ⟨q, vs, rfl, .inl (.inl upd_same), hlv, ?_⟩⟩
    have x2 : Ext A1 H1 A1 (upd H1 q (.tup vs)) := Ext.new hq
    exact hu A1 S1 ρ σ _ ds vs _ D _ (e1.kp x2.kp) (s1.new hq) (RDs.kp x2.kp rvs) (PoS.mono (x1.trans x2) p) fun A2 ρ2 S2 σ2 H2 y2 e2 s2 p2 => p2.nx_now s2 e2
end
end Sm
/-! Sm41: list(d.values()), dict(zip(a, b)), d.get(k, x), None in d, l.index(x), l[::-1]. -/
namespace Sm
open PySem PySem.Spec PyProof.Rows L2
/-! ### list(d.values()) -/
/-- a view of the values of the dict at a -/
def VwO (p a : Addr) : HO := .ext fun h => h.IsValuesView p a
def tValsV (td : TE) : TE := fun σ H Q => td σ H fun x H1 => ∃ a kvs, x = .ref a ∧ Rd H1 a (.dK kvs) ∧ ∀ p, H1 p = none → Q (.ref p) (upd H1 p (VwO p a))
section
variable {X : Cx} {G : Gs} {W : WX} {kk : Nat} {e : Expr} {apos cpos : Pos}
theorem pe_valsV {td : TE} (he : PE X e td) (hbase : attributeBase e "values" X.env (eval e X.env) = eval e X.env) (hline : (apos.endLine == cpos.line) = true) : PE X (.Call (.Attribute e "values" apos) [] [] cpos) (tValsV td) := by
  refine ⟨fun pins s σ H Q I h => ?_⟩
  refine wpAny_Call_method (T := "dict") (id := "dict.values") hbase rfl hline F.plainAttrs_dict F.slot_dict_values F.type_dict_values (thn (he.run pins s σ H _ I h) fun u s1 ⟨x, H1, I1, rx, a, kvs, ex, hr, q⟩ => ?_)
  subst ex
  obtain rfl : u = Value.ref a := rx
  obtain ⟨z, lo, vs, rk, hd⟩ := dk_rd I1.hok hr
  refine ⟨hd.typeIs, hd.mapOf.noDict, ?_⟩
  have fin : EP X pins σ Q (.ref s1.heap.objs.size) { s1 with heap := s1.heap.push { cls := .type "dict_values", data := .fields #[.ref a] } } := by
    refine ⟨.ref s1.heap.objs.size, upd H1 s1.heap.objs.size (VwO s1.heap.objs.size a), I1.laid (t' := s1.toks) (fun _ _ q => Heap.get?_push_of_some _ q) (Nat.le_refl _) ?_, rfl, q _ (I1.hok.fresh (Nat.le_refl _))⟩
    refine ⟨⟨_, Heap.get?_push_size _ rfl, rfl, rfl⟩, ⟨_, Heap.get?_push_size _ rfl⟩, fun h1 h2 z k => ?_⟩
    obtain ⟨o, ho, r⟩ := z
    exact ⟨o, k _ ho, r⟩
  show wpAny _ _ (callWith cpos (.builtin "dict.values") [.ref a] [] []) _ X.xe s1
  exact method_meetsIn F.slot_dict_values F.entry_dict_values rfl (PySem.evalArgs_none ⟨rfl, hd.typeIs, F.args_dict_values_1 _, _, meets_dict_values (mixKind X.prog X.w) a lo, ⟨vs, hd⟩, fin⟩)
theorem vals_vals {kvs : List (Key × V)} {vs : List (Key × Value)} (rk : KV kvs vs) {acc : Array Value} (h : ItemsOf (fun i v => ∃ k, vs[i]? = some (k, v)) acc vs.length) : Vals (kvs.map (·.2)) acc.toList := by
  have hl : kvs.length = vs.length := Paired.length rk
  refine vals_of_at (by simp [h.1, hl]) fun j x w h1 h2 => ?_
  obtain ⟨k, hky⟩ := h.2 j w (by rw [← Array.getElem?_toList]; exact h2)
  rw [List.getElem?_map] at h1
  cases e1 : kvs[j]? with
  | none =>
    rw [e1] at h1
    cases h1
  | some p =>
    rw [e1] at h1
    cases h1
    obtain ⟨q, e2, r⟩ := L2.paired_get rk e1
    rw [hky] at e2
    cases e2
    exact r.2
theorem call_list_view (hc : X.calm = true) : CallR X (.type "list") (fun xs H Q => ∃ p a kvs, xs = [.ref p] ∧ H p = some (VwO p a) ∧ Rd H a (.dK kvs) ∧ ∀ q, H q = none → Q (.ref q) (upd H q (.lst (kvs.map (·.2))))) := by
  intro pins s σ H xs us Q I r h
  obtain ⟨p, a, kvs, rfl, hp, hk, q⟩ := h
  obtain rfl := Vals.ref1 r
  obtain ⟨z, lo, vs, rk, hd⟩ := dk_rd I.hok hk
  obtain ⟨ep, hat⟩ := hd.dictAt
  have hl : kvs.length = vs.length := Paired.length rk
  have hv : s.heap.IsValuesView p a := (show ObjOk X.prog X.w H s.heap p (VwO p a) from I.hok p _ hp).1
  refine PySem.W.kdl_call (PySem.W.kdl_values (knd := mixKind X.prog X.w) (kvs := vs) (ep := ep)) (I.ok.hd hc) ⟨hv, hat⟩ (by rw [← hl]; exact z) fun h' tk acc c' hkeep hS hacc => ?_
  exact ⟨.ref s.heap.objs.size, upd H s.heap.objs.size (.lst (kvs.map (·.2))), I.laid hkeep (Nat.le_refl _) (show ObjOk X.prog X.w _ _ _ (.lst (kvs.map (·.2))) from ⟨by rw [List.length_map]; exact z, acc.toList, c', vals_vals rk hacc, by rw [Array.toArray_toList]; exact hS⟩), rfl, q _ (I.hok.fresh (Nat.le_refl _))⟩
def pValsL : P1 := fun d S => match dctAt S d with
  | some (_, xs) => (match pures xs with
    | some ts => some (.d (.lst ts), S)
    | none => none)
  | none => none
theorem e_listVals {m : M Dv} {p pos : Pos} (B : Bx X G W kk) (z : X.mg "list" = none) (he : PE X e (tM G W m)) (hg : Gl X "list" := by rfl) (hbase : attributeBase e "values" X.env (eval e X.env) = eval e X.env := by rfl) (hline : (apos.endLine == cpos.line) = true := by rfl)
    (hs : starEach [.Call (.Attribute e "values" apos) [] [] cpos] X.env = (false, eval (.Call (.Attribute e "values" apos) [] [] cpos) X.env) :: starEach [] X.env := by rfl) (hpl : (backTo pos (starEach [] X.env)).any (·.1) = false := by rfl) :
    PE X (.Call (.Name "list" p) [.Call (.Attribute e "values" apos) [] [] cpos] [] pos) (tM G W (m1 pValsL m)) := by
  refine (pe_callTy (p := p) (pos := pos) (call_list_view (X := X) B.calm) hg z PyProof.Rows.boot_list (pa_cons (pe_valsV he hbase hline) pa_nil hs) (by decide) (by decide) hs hpl).sm fun σ H Q h => ?_
  obtain ⟨A, ρ, S, he, st, p0⟩ := h
  refine ⟨A, ρ, S, he, st, Po.step p0 fun d S1 A1 H1 x1 s1 p1 v rv => ?_⟩
  unfold pValsL at p1
  split at p1
  · rename_i ks xs e1
    split at p1
    · rename_i ts e2
      obtain ⟨a, kvs, rfl, hr, _, hx⟩ := dctAt_rd s1 rv e1
      refine ⟨a, kvs, rfl, hr, fun q hq => ⟨q, a, kvs, rfl, upd_same, ?_, fun q2 hq2 => ?_⟩⟩
      · rcases hr with hr | ⟨ob, hr⟩
        · exact .inl (by rw [upd_ne (ne_of_none hr hq)]; exact hr)
        · exact .inr ⟨ob, by rw [upd_ne (ne_of_none hr hq)]; exact hr⟩
      · have x2 : Ext A1 H1 A1 (upd H1 q (VwO q a)) := Ext.new hq
        have s2 := s1.new (o := VwO q a) hq
        refine Po.at p1 (x2.trans (Ext.new hq2)) (s2.new hq2) _ (RV.lst_new s2 hq2 ?_)
        exact (pures_rvs e2 hx).kp x2.kp
    · exact p1.elim
  · exact p1.elim
/-! ### dict(zip(a, b)) -/
theorem kv_zip : ∀ {ks : List Key} {vs : List V} {us : List Value}, Vals vs us → KV (ks.zip vs) (ks.zip us)
  | [], _, _, _ => .nil
  | k :: ks, _, _, .nil => .nil
  | k :: ks, _, _, .cons r t => .cons ⟨rfl, r⟩ (kv_zip t)
def tDictZip (K : PySem.W.Frag) (ta : TA) : TE := fun σ H Q => ta σ H fun vs H1 => ∃ (a b : Addr) (ks : List Key) (ys : List V), vs = [.ref a, .ref b] ∧ SqL K H1 a (ks.map kV) ∧ SqL K H1 b ys ∧ ks.length = ys.length ∧ ∀ p, H1 p = none → Q (.ref p) (upd H1 p (.dK (mergeK [] (ks.zip ys))))
theorem pe_dictZip {e2 : Expr} {ta : TA} {p p2 q pos : Pos} (hc : X.calm = true) (hg : Gl X "dict") (hm : X.mg "dict" = none) (hg2 : Gl X "zip") (hm2 : X.mg "zip" = none) (ha : PA X [e, e2] ta)
    (hs : starEach [e, e2] X.env = (false, eval e X.env) :: starEach [e2] X.env) (hpl : (backTo q (starEach [e2] X.env)).any (·.1) = false)
    (hs2 : starEach [.Call (.Name "zip" p2) [e, e2] [] q] X.env = (false, eval (.Call (.Name "zip" p2) [e, e2] [] q) X.env) :: starEach [] X.env) (hpl2 : (backTo pos (starEach [] X.env)).any (·.1) = false)
    (ht : backTo pos (starEach [.Call (.Name "zip" p2) [e, e2] [] q] X.env) = [(false, eval (.Call (.Name "zip" p2) [e, e2] [] q) X.env)]) :
    PE X (.Call (.Name "dict" p) [.Call (.Name "zip" p2) [e, e2] [] q] [] pos) (tDictZip X.K ta) := by
  refine ⟨fun pins s σ H Q I h => ?_⟩
  refine wpAny_Call_Name_kw (ld_blt I hg hm PyProof.Rows.boot_dict ?_ (by decide) (by decide))
  refine PyProof.Rows.callWith_type1 ?_ hs2 hpl2
  rw [ht]
  refine Calls.spliced_cons ?_
  refine wpAny_Call_Name_kw (ld_blt I hg2 hm2 PyProof.Rows.boot_zip ?_ (by decide) (by decide))
  show wpAny _ _ (callWith q (.type "zip") [] (backTo q (starEach [e, e2] X.env)) []) _ _ _
  refine PyProof.Rows.callWith_type1 (thn (ha.run q pins s σ H _ I h) fun us s1 ⟨vs, H1, I1, r1, a, b, ks, ys, ex, hqa, hqb, hlen, qq⟩ => ?_) hs hpl
  subst ex
  cases r1 with
  | cons r rr =>
    cases rr with
    | cons r' rr =>
      cases rr
      cases r
      cases r'
      obtain ⟨its, rv, p1, z1⟩ := I1.list hqa
      obtain ⟨its2, rv2, p3, z2⟩ := I1.list hqb
      refine call_zip_2 p1.isList p3.isList fun h' hz hTI hTO h1 h2 hsz hk => Calls.spliced_nil ?_
      have D := PySem.W.ktu_apart s1.heap.objs.size a b p1.lt p3.lt
      have l1 := rv.length
      have l2 := rv2.length
      rw [List.length_map] at l1
      have hh : X.A.handled = none := I.ok.hd hc
      have il1 : h'.IsList a its.toArray := p1.isList.at fun o e => hk _ o e
      have il2 : h'.IsList b its2.toArray := p3.isList.at fun o e => hk _ o e
      refine PySem.call_dict_pairs (knd := mixKind X.prog X.w) (kvs := ks.zip its2) (PairArg.zip _ _ _ _ _ a b D its.toArray its2.toArray) hh ⟨hz, hTI, ⟨_, _, hTO⟩, h1, h2, il1, il2⟩ ⟨?_, fun i key v hr => ?_⟩ (by simp; omega) fun h6 tk d6 k6 => ?_
      · simp
        omega
      · obtain ⟨e1, e2⟩ := hr
        have e1' : its[i]? = some key := by simpa using e1
        have e2' : its2[i]? = some v := by simpa using e2
        have hi : i < ks.length := by
          have := (List.getElem?_eq_some_iff.mp e1').1
          omega
        have ek : ks[i]? = some ks[i] := List.getElem?_eq_getElem hi
        obtain ⟨u, eu, ru⟩ := rv.get (by rw [List.getElem?_map, ek]; rfl : (ks.map kV)[i]? = some (kV ks[i]))
        rw [e1'] at eu
        cases eu
        refine ⟨ks[i], ?_, kV_is ru⟩
        rw [List.getElem?_zip_eq_some]
        exact ⟨ek, e2'⟩
      · have hm6 : (h'.objs.size == sysModules) = false := beq_eq_false_iff_ne.mpr (Nat.ne_of_gt (Nat.lt_of_lt_of_le I1.big (by rw [hsz]; omega)))
        have hle : s1.heap.objs.size ≤ h'.objs.size := by rw [hsz]; omega
        have hz6 : (mergeK [] (ks.zip ys)).length ≤ sizeLine := by
          refine Nat.le_trans (length_mergeK _ _) ?_
          simp
          omega
        refine ⟨.ref h'.objs.size, _, I1.laid (t' := tk) (h' := h6) (a := h'.objs.size) (fun c o e => k6 c o (fun hc2 => ?_) (hk c o e)) hle (show ObjOk X.prog X.w _ _ _ (.dK (mergeK [] (ks.zip ys))) from ⟨hz6, hm6, merged [] (ks.zip its2), KV.merge (kv_zip rv2) .nil, d6⟩), rfl, qq _ (I1.hok.fresh hle)⟩
        have hlt := Heap.lt_size e
        have hc3 : c = s1.heap.objs.size + 4 ∨ c = s1.heap.objs.size + 3 ∨ c = s1.heap.objs.size ∨ c = s1.heap.objs.size + 1 := by simpa using hc2
        rcases hc3 with z | z | z | z
        · exact absurd hlt (by rw [z]; exact Nat.not_lt_of_le (Nat.le_add_right _ _))
        · exact absurd hlt (by rw [z]; exact Nat.not_lt_of_le (Nat.le_add_right _ _))
        · exact absurd hlt (by rw [z]; exact Nat.lt_irrefl _)
        · exact absurd hlt (by rw [z]; exact Nat.not_lt_of_le (Nat.le_add_right _ _))
end
end Sm
/-! Sm42: mirrors of dict(zip(a, b)), d.get(k, x), x in d (x perhaps None), l.index(x), l[::-1]. -/
namespace Sm
open PySem PySem.Spec PyProof.Rows L2
section
variable {X : Cx} {G : Gs} {W : WX} {kk : Nat} {e e2 e3 : Expr}
/-! ### dict(zip(a, b)) -/
def pDictZ : PN := fun ds S => match ds with
  | [d, u] => (match (lstT S d).bind kOfs, lstT S u with
    | some ks, some ts => if ks.length = ts.length then (match pures (dmerge [] [] ks (ts.map .d)).2 with
      | some us => some (.d (.dct (dmerge [] [] ks (ts.map .d)).1 us), S)
      | none => none) else none
    | _, _ => none)
  | _ => none
theorem e_dictZip {p p2 q pos : Pos} {ma : M (List Dv)} (B : Bx X G W kk) (z : X.mg "dict" = none) (z2 : X.mg "zip" = none) (ha : PA X [e, e2] (tMA G W ma)) (hg : Gl X "dict" := by rfl) (hg2 : Gl X "zip" := by rfl)
    (hs : starEach [e, e2] X.env = (false, eval e X.env) :: starEach [e2] X.env := by rfl) (hpl : (backTo q (starEach [e2] X.env)).any (·.1) = false := by rfl)
    (hs2 : starEach [.Call (.Name "zip" p2) [e, e2] [] q] X.env = (false, eval (.Call (.Name "zip" p2) [e, e2] [] q) X.env) :: starEach [] X.env := by rfl) (hpl2 : (backTo pos (starEach [] X.env)).any (·.1) = false := by rfl)
    (ht : backTo pos (starEach [.Call (.Name "zip" p2) [e, e2] [] q] X.env) = [(false, eval (.Call (.Name "zip" p2) [e, e2] [] q) X.env)] := by rfl) :
    PE X (.Call (.Name "dict" p) [.Call (.Name "zip" p2) [e, e2] [] q] [] pos) (tM G W (mN pDictZ ma)) := by
  refine (pe_dictZip B.calm hg z hg2 z2 ha hs hpl hs2 hpl2 ht).sm fun σ H Q h => ?_
  obtain ⟨A, ρ, S, he, st, p0⟩ := h
  refine ⟨A, ρ, S, he, st, Po.step p0 fun ds S1 A1 H1 x1 s1 p1 vs rv => ?_⟩
  unfold pDictZ at p1
  split at p1
  · rename_i d u
    obtain ⟨v1, v2, rfl, r1, r2⟩ := RDs.two rv
    split at p1
    · rename_i ks ts e1 e2'
      split at p1
      · rename_i hlen
        split at p1
        · rename_i us e3'
          obtain ⟨ks', k1, k2⟩ := Option.bind_eq_some_iff.mp e1
          obtain ⟨a, va, rfl, qa, ra⟩ := lstT_rd s1 r1 k1
          obtain ⟨b, vb, rfl, qb, rb⟩ := lstT_rd s1 r2 e2'
          rw [B.hK] at qa qb
          have ea := kOfs_rd k2 ra
          subst ea
          have hlb : ts.length = vb.length := rb.length
          have zl : (ks.zip vb).map (·.1) = ks := by
            rw [List.map_fst_zip]
            omega
          have zr : (ks.zip vb).map (·.2) = vb := by
            rw [List.map_snd_zip]
            omega
          obtain ⟨m1, m2⟩ := dmerge_rd (G := G) (A := A1) (H := H1) (kvs := []) (more := ks.zip vb) (xs := []) (ys := ts.map .d) .nil (by rw [zr]; exact rb.rds)
          rw [zl] at m1 m2
          refine ⟨a, b, ks, vb, rfl, qa, qb, by omega, fun q hq => ?_⟩
          have x2 : Ext A1 H1 A1 (upd H1 q (.dK (mergeK [] (ks.zip vb)))) := Ext.new hq
          exact Po.at p1 x2 (s1.new hq) _ ⟨q, _, rfl, s1.out hq, .inl upd_same, m1, (pures_rvs e3' m2).kp x2.kp⟩
        · exact p1.elim
      · exact p1.elim
    · exact p1.elim
  · exact p1.elim
/-! ### d.get(k, x) -/
def mGet (mo mk mx : M Dv) : M Dv := fun ρ S => (mo ρ S).bind fun d S1 => bz (dctAt S1 d) fun _ => (mk ρ S1).bind fun k S2 => (mx ρ S2).bind fun x S3 => bz (dctAt S3 d) fun q => bz (kOf k) fun j => .ok ((dlook q.1 q.2 j).getD x) S3
theorem e_get {apos cpos : Pos} {mo mk mx : M Dv} (B : Bx X G W kk) (ho : PE X e (tM G W mo)) (hk : PE X e2 (tM G W mk)) (hx : PE X e3 (tM G W mx)) (m1 : attributeBase e "get" X.env (eval e X.env) = eval e X.env := by rfl)
    (m2 : ((backTo cpos (starEach [e2, e3] X.env)).all (fun x => !x.1) && (backToKw cpos (keywordEach [] X.env)).all (fun x => x.1.isSome) && decide (([e2, e3] : List Expr).length + ([] : List Keyword).length + (if ([] : List Keyword).isEmpty then 0 else 1) < 30)) = true := by rfl)
    (m3 : (apos.endLine == cpos.line) = true := by rfl) (m4 : backTo cpos (starEach [e2, e3] X.env) = [(false, eval e2 X.env), (false, eval e3 X.env)] := by rfl) :
    PE X (.Call (.Attribute e "get" apos) [e2, e3] [] cpos) (tM G W (mGet mo mk mx)) := by
  have hu := B.room.units
  refine (pe_dget2 (by omega) ho hk hx ⟨m1, m2, m3, m4⟩).sm fun σ H Q h => ?_
  obtain ⟨A, ρ, S, he, st, p0⟩ := h
  unfold mGet at p0
  refine ⟨A, ρ, S, he, st, Po.step p0 fun d S1 A1 H1 x1 s1 p1 v rv => ?_⟩
  cases e1 : dctAt S1 d with
  | none =>
    rw [e1] at p1
    exact p1.elim
  | some q1 =>
    rw [e1] at p1
    obtain ⟨a, kvs, rfl, hr, _, _⟩ := dctAt_rd s1 rv (by rw [e1] : dctAt S1 d = some (q1.1, q1.2))
    refine ⟨a, rfl, .inl ⟨kvs, hr⟩, A1, ρ, S1, he.kp x1.kp, s1, Po.step p1 fun k S2 A2 H2 x2 s2 p2 y ry => ?_⟩
    refine ⟨A2, ρ, S2, (he.kp x1.kp).kp x2.kp, s2, Po.step p2 fun x S3 A3 H3 x3 s3 p3 z rz => ?_⟩
    cases e4 : dctAt S3 d with
    | none =>
      rw [e4] at p3
      exact p3.elim
    | some q3 =>
      rw [e4] at p3
      simp only [bz] at p3
      cases e5 : kOf k with
      | none =>
        rw [e5] at p3
        exact p3.elim
      | some j =>
        rw [e5] at p3
        obtain ⟨a', kvs', ea, hr', hk', hx'⟩ := dctAt_rd s3 (RD.kp x3.kp (RD.kp x2.kp rv)) (by rw [e4] : dctAt S3 d = some (q3.1, q3.2))
        cases ea
        have ey : y = kV j := kOf_rd e5 ry
        refine ⟨valV kvs' j, .inl ⟨kvs', j, hr', ey, rfl⟩, Po.now p3 s3 _ ?_⟩
        obtain ⟨l1, l2⟩ := dlook_val (j := j) hx'
        rw [hk'] at l1 l2
        cases e6 : dlook q3.1 q3.2 j with
        | some w =>
          obtain ⟨vv, e7, r7⟩ := l1 w e6
          rw [e7]
          exact r7
        | none =>
          rw [l2 e6]
          exact rz
/-! ### x in d, x perhaps None -/
def pInN : P2 := fun d u S => match d with
  | .d .non => (match dctAt S u with
    | some _ => some (.d (.bl false), S)
    | none => pIn d u S)
  | _ => pIn d u S
theorem o_inN (hu : X.A.units + 66 < cLine) (hK : G.K = X.K) : OpR X (compareOp .In) (q2 G pInN) := by
  intro pins s σ H x y v u Q I rx ry h
  obtain ⟨A, S, d, w, rd, re, st, p⟩ := h
  have old : Po G Ez A H (lift (pIn d w S)) (kD G Q) → wpAny (model X.prog X.w) X.A (compareOp .In v u) (EP X pins σ Q) X.xe s := fun p => o_in hu hK pins s σ H x y v u Q I rx ry ⟨A, S, d, w, rd, re, st, p⟩
  unfold pInN at p
  split at p
  · split at p
    · rename_i q e1
      obtain ⟨a, kvs, rfl, hr, _, _⟩ := dctAt_rd st re (by rw [e1] : dctAt S w = some (q.1, q.2))
      obtain rfl : x = .non := rd
      obtain rfl : v = Value.none := rx
      obtain rfl : u = Value.ref a := ry
      exact d_inNone I hr fun s3 I3 => ⟨.bl false, H, I3, rfl, Po.now p st _ rfl⟩
    · exact old p
  · exact old p
/-! ### l.index(x), texts -/
def pIndex : PM := fun o ds S => match ds with
  | [.d (.str y)] => (match ((lstAt S o).bind pures).bind strsOf with
    | some l => if y ∈ l then some (.d (.int (l.idxOf y : Nat)), S) else none
    | none => none)
  | _ => none
theorem flat_strs (l : List Str) : (l.map V.str).all flatV = true := by
  rw [List.all_eq_true]
  intro v hv
  obtain ⟨a, _, rfl⟩ := List.mem_map.mp hv
  rfl
theorem m_index (hK : G.K = X.K) : MtR X "list.index" (qM G pIndex) := by
  refine L2.MtR.sm (show MtR X "list.index" (rIndex X.K) from mt_index) fun x xs H Q h => ?_
  obtain ⟨A, S, d, ds, rd, rds, s, p⟩ := h
  unfold pIndex at p
  split at p
  · rename_i y
    split at p
    · rename_i l e1
      split at p
      · rename_i hy
        obtain ⟨v, rfl, rv⟩ := RDs.one rds
        obtain rfl : v = .str y := rv
        obtain ⟨ts, e2, e3⟩ := Option.bind_eq_some_iff.mp e1
        obtain ⟨zs, e4, e5⟩ := Option.bind_eq_some_iff.mp e2
        obtain ⟨a, vs, rfl, hq, hvs⟩ := lstAt_rd s rd e4
        have ets := strsOf_eq e3
        subst ets
        have evs := strs_rv (pures_rvs e5 hvs)
        subst evs
        have hlt := List.idxOf_lt_length_of_mem hy
        refine ⟨a, l.map V.str, .str y, l.idxOf y, .str y, rfl, rfl, .inl (.inl hq), rfl, flat_strs l, ?_, by show (y == y) = true; simp, fun m z' hm hz => ?_, Po.now p s _ rfl⟩
        · rw [List.getElem?_map, List.getElem?_eq_getElem hlt]
          simp
        · rw [List.getElem?_map] at hz
          cases e6 : l[m]? with
          | none =>
            rw [e6] at hz
            cases hz
          | some c =>
            rw [e6] at hz
            cases hz
            show (c == y) = false
            have := List.not_of_lt_findIdx (p := (· == y)) (xs := l) (i := m) (by simpa [List.idxOf] using hm)
            obtain ⟨h1, h2⟩ := List.getElem?_eq_some_iff.mp e6
            rw [h2] at this
            simpa using this
      · exact p.elim
    · exact p.elim
  · exact p.elim
/-! ### l[::-1] -/
def pRevL : P1 := fun d S => match lstT S d with
  | some ts => some (.d (.lst ts.reverse), S)
  | none => none
theorem RVs.rev {A : Al} {H : Hp} : ∀ {ts : List Dt} {vs : List V}, RVs G A H ts vs → RVs G A H ts.reverse vs.reverse
  | [], vs, h => by
    have z : vs = [] := h
    subst z
    exact h
  | t :: ts, vs, h => by
    obtain ⟨v, r, rfl, h1, h2⟩ := h
    rw [List.reverse_cons, List.reverse_cons]
    exact (RVs.rev h2).append ⟨v, [], rfl, h1, rfl⟩
theorem e_revL {k0 : Nat} {p1 p2 p3 pos : Pos} {m : M Dv} (B : Bx X G W kk) (he : PE X e (tM G W m)) : PE X (.Subscript e (.Slice none none (some (.UnaryOp .USub (.Constant (.int 1) k0 p1) p2)) p3) pos) (tM G W (m1 pRevL m)) := by
  refine (pe_revL he).sm fun σ H Q h => ?_
  obtain ⟨A, ρ, S, he, st, p0⟩ := h
  refine ⟨A, ρ, S, he, st, Po.step p0 fun d S1 A1 H1 x1 s1 p1 v rv => ?_⟩
  unfold pRevL at p1
  split at p1
  · rename_i ts e1
    obtain ⟨a, vs, rfl, hq, hv⟩ := lstT_rd s1 rv e1
    rw [B.hK] at hq
    exact ⟨a, vs, rfl, hq, fun q hq2 => Po.at p1 (Ext.new hq2) (s1.new hq2) _ (RV.lst_new s1 hq2 hv.rev)⟩
  · exact p1.elim
end
end Sm
/-! Sm43: name = {k: v for ..}, the name a local, on one line. -/
namespace Sm
open PySem PySem.Spec PyProof.Rows L2
section
variable {X : Cx} {G : Gs} {W : WX} {kk : Nat}
theorem sw_trueD {kx vx : Expr} {gs : List Comprehension} {scope : Scope} {pos py : Pos} {y : Str} {l : Nat} {env : PySem.Env} (h1 : env.scope.kind = .function) (h2 : env.scope.names.lookup y = some .local) (h3 : (py.line == pos.line) = true)
    (h4 : (scope.names.any fun (n, k) => n == y && (k == .local || k == .cell)) = false) : swapsWith (.DictComp kx vx gs scope pos) (some (.Name y py)) l env = pure true := by
  have e1 : env.kindOf y = some .local := h2
  have e2 : env.blockKind = .function := by
    unfold PySem.Env.blockKind
    rw [h1]
    rfl
  unfold swapsWith
  simp only [e2, e1, h4, Expr.pos, h3]
  rfl
theorem ps_setDc {i : Nat} {y : Str} {py pos spos : Pos} {kx vx tg iter : Expr} {ifs : List Expr} {scope : Scope} {own : List (Str × Nat)} {wi : TI} {g : TG} {tt : TT} {tk tv : TE} (hc : X.calm = true) (hN : X.N.Nodup) (hy : X.N[i]? = some y) (hyl : X.env.scope.names.lookup y = some .local)
    (hsw : swapsWith (.DictComp kx vx [⟨tg, iter, ifs, 0⟩] scope pos) (some (.Name y py)) spos.line X.env = pure true) (hi : PI X tg iter wi) (ok : BlkOk X.N X.env.scope scope own)
    (hg : ∀ (s : Shared) (H : Hp) (C : Addr) (cl : List (Str × Addr)) (fp : List Addr), PG (X.blk s H scope (compEnvC scope cl C X.env) fp) tg g) (ht : ∀ (s : Shared) (H : Hp) (C : Addr) (cl : List (Str × Addr)) (fp : List Addr), PTs (X.blk s H scope (compEnvC scope cl C X.env) fp) ifs tt)
    (hk : ∀ (s : Shared) (H : Hp) (C : Addr) (cl : List (Str × Addr)) (fp : List Addr), PE (X.blk s H scope (compEnvC scope cl C X.env) fp) kx tk) (he : ∀ (s : Shared) (H : Hp) (C : Addr) (cl : List (Str × Addr)) (fp : List Addr), PE (X.blk s H scope (compEnvC scope cl C X.env) fp) vx tv)
    (hs : ∀ x, foldedSetIterable iter X.env x = pure x) : PS X (.Assign [.Name y py] (.DictComp kx vx [⟨tg, iter, ifs, 0⟩] scope pos) spos) (tAsg (tDc wi g tt tk tv (own.map (·.2))) (gName i)) := by
  refine ⟨fun pins s σ H D I h0 => ?_⟩
  rw [exec_Assign_Name_used _ _ _ _ hsw]
  refine wpAny_bind (wpAny_standAt (wpAny_bind ?_))
  show wpAny _ X.A (do let _ ← comprehension (.DictComp kx vx [⟨tg, iter, ifs, 0⟩] scope pos) scope X.env (firstIterPos [⟨tg, iter, ifs, 0⟩] pos) newDict false (eval iter X.env) (some (assign (.Name y py) X.env))) _ _ s
  have h : tDc wi g tt tk tv (own.map (·.2)) σ H (fun x H1 => gName i x σ H1 D.nx) := h0
  refine wpAny_bind (thn (dc_core (Qf := fun _ s' => SP X pins D .next s') hc hN I hi ok hg ht hk he hs h fun L C s' m H' I' q hn f => ?_) fun _ s' hq => wpAny_pure (wpAny_pure hq))
  show wpAny _ _ (assign (.Name y py) X.env (.ref L)) _ _ _
  refine wpAny_assign_Name (store_ok2 (v := V.ref L) I' hN hy (.inl hyl) rfl (fun s2 I2 ⟨a, sb, ha⟩ => ?_) (.inr hyl))
  obtain ⟨f0, f1, f2, f3, f4, f5⟩ := f
  have hCa : C ≠ a := by
    rcases ha with z | z
    · rw [z]
      exact f1
    · exact fun e => f4 y a z e.symm
  refine ⟨m, hn.sameBut sb hCa, fun h3 sb3 => ?_⟩
  exact ⟨_, H', I2.turned (t' := s2.toks) (fun b o hb e => (sb3.2 b hb).trans e) f0 f1 f3 f4 f5, q⟩
variable {kx vx tg iter : Expr} {ifs : List Expr} {scope : Scope} {pos spos py : Pos} {y : Str} {it : M (List Dt)} {g : GM} {t : TG} {L : List Nat} {cm : M Bool} {ek ev : M Dv} {pe : PD}
theorem ysetDc (i : Nat) (own : List (Str × Nat)) (hpe : DEnd G pe) (B : Bx X G W kk) (hi : PIS X G W tg iter it) (hg : ∀ (s : Shared) (H : Hp) (C : Addr) (cl : List (Str × Addr)) (fp : List Addr), PG (X.blk s H scope (compEnvC scope cl C X.env) fp) tg t) (hgs : TgS G t g L)
    (ht : ∀ (s : Shared) (H : Hp) (C : Addr) (cl : List (Str × Addr)) (fp : List Addr), PTs (X.blk s H scope (compEnvC scope cl C X.env) fp) ifs (tMT G W0 cm)) (hk : ∀ (s : Shared) (H : Hp) (C : Addr) (cl : List (Str × Addr)) (fp : List Addr), PE (X.blk s H scope (compEnvC scope cl C X.env) fp) kx (tM G W0 ek))
    (he : ∀ (s : Shared) (H : Hp) (C : Addr) (cl : List (Str × Addr)) (fp : List Addr), PE (X.blk s H scope (compEnvC scope cl C X.env) fp) vx (tM G W0 ev)) (hy : X.N[i]? = some y := by rfl) (hyl : X.env.scope.names.lookup y = some .local := by rfl) (hf : X.env.scope.kind = .function := by rfl) (hl : (py.line == pos.line) = true := by rfl)
    (hn : (scope.names.any fun (n, k) => n == y && (k == .local || k == .cell)) = false := by rfl) (ok : blkC X.N X.env.scope scope own = true := by rfl) (hL : ∀ i ∈ L, i ∈ own.map (·.2) := by decide) (hs : ∀ x, foldedSetIterable iter X.env x = pure x := by exact fun _ => rfl) :
    PS X (.Assign [.Name y py] (.DictComp kx vx [⟨tg, iter, ifs, 0⟩] scope pos) spos) (tMS G W (sSet i (mDc pe (own.map (·.2)) it g cm ek ev))) := by
  obtain ⟨wi, pi, hw⟩ := hi
  refine (ps_setDc (i := i) B.calm B.nd hy hyl (sw_trueD hf hyl hl hn) pi (blkOk_by ok) hg ht hk he hs).sm fun D σ H h => ?_
  obtain ⟨A, ρ, S, he', hs', p0⟩ := h
  have p : Po G (Wa W σ) A H (mDc pe (own.map (·.2)) it g cm ek ev ρ S) (kD G fun v H1 => gName i v σ H1 D.nx) := PoS.step he' p0 fun d S1 A1 H1 x s e q v rv => PoS.nx_now q s (e.set rv)
  refine hw σ H A ρ S _ he' hs' ?_
  unfold mDc at p
  refine Po.step p fun ts S1 A1 H1 x1 s1 p1 J wk D' hD => ?_
  by_cases hl : ts.length ≤ 16777216
  · simp only [hl, if_true] at p1
    exact dc_loop (Fin := fun H => gName i (.ref D') σ H D.nx) hgs hL wk (he'.kp x1.kp) s1 hD hl p1 fun ds kvs S' A' H' s' x' hDw r q => hpe s' x' hD hDw r q
  · simp only [hl, if_false] at p1
    exact p1.elim
end
end Sm
/-! Sm44: zip of a list and a tuple. -/
namespace Sm
open PySem PySem.Spec PyProof.Rows L2
end Sm
/-! HrM: mirrors of rings and rows: Sheet as data, Choice, and what the laws on them share. -/
namespace Hr
open PySem PySem.Spec PyProof.Rows L2 Sm Hn
def b_Sheet_init : SM := sSeq (sAsg (gT (gsCons (gN 2) (gsCons (gN 3) (gsNil)))) (mF (F_tupled 8) (aCons (mV 1) (aNil))))
    (sSeq (sFld 0 2 (mV 0) (mDc pDct [4, 5] (iSeq (mV 2)) (gT (gsCons (gN 4) (gsCons (gN 5) (gsNil)))) (cYes) (mV 4) (mV 5)))
    (sSeq (sFld 0 0 (mV 0) (mV 3))
    (sFld 0 1 (mV 0) (mDc pDct [4] (iSeq (m2 pAdd (mN pList (aCons (m1 (pFld 0 2) (mV 0)) (aNil))) (mN pList (aCons (mV 3) (aNil))))) (gN 4) (cYes) (mV 4) (mC (.bl true))))))
def R_Sheet_init : FM := runB 6 2 b_Sheet_init
def F_Sheet_init : FM := R_Sheet_init
def b_Sheet_names : SM := sRet (mN pTuple (aCons (m1 (pFld 0 2) (mV 0)) (aNil)))
def R_Sheet_names : FM := runB 1 1 b_Sheet_names
def F_Sheet_names : FM := iso (R_Sheet_names)
def b_Sheet_homes : SM := sRet (mF F_as_set (aCons (m1 (pFld 0 1) (mV 0)) (aNil)))
def R_Sheet_homes : FM := runB 1 1 b_Sheet_homes
def F_Sheet_homes : FM := iso (R_Sheet_homes)
abbrev l1_Sheet_check : SM := sIf (mTst (m2 pNotIn (mV 2) (m1 (pFld 0 2) (mV 0)))) (sBad) (sNil)
def b_Sheet_check : SM := sFor (iSeq (mV 1)) (gN 2) (l1_Sheet_check)
def R_Sheet_check : FM := starF 1 (runB 3 2 b_Sheet_check)
def F_Sheet_check : FM := iso (R_Sheet_check)
def b_Sheet_checked : SM := sSeq (sSet 2 (mF (F_tupled 8) (aCons (mV 1) (aNil))))
    (sSeq (sDrop (mMeth 0 F_Sheet_check (mV 0) (aStar (mV 2) aNil)))
    (sRet (mV 2)))
def R_Sheet_checked : FM := runB 3 2 b_Sheet_checked
def F_Sheet_checked : FM := iso (R_Sheet_checked)
def b_Sheet_wants : SM := sRet (mN pTuple (aCons (mN pLst (mLcI [2] (iSeq (m2 pIx (m1 (pFld 0 2) (mV 0)) (mV 1))) (gN 2) (mTst (m2 pIn (mV 2) (m1 (pFld 0 1) (mV 0)))) (mV 2))) (aNil)))
def R_Sheet_wants : FM := runB 3 2 b_Sheet_wants
def F_Sheet_wants : FM := iso (R_Sheet_wants)
def b_Sheet_told : SM := sBad
def R_Sheet_told : FM := runB 1 1 b_Sheet_told
def F_Sheet_told : FM := iso (R_Sheet_told)
abbrev l1_way_back : SM := sSeq (sDrop (mLm pAppend (mV 2) (aCons (mV 1) (aNil))))
    (sSet 1 (m2 pIx (mV 0) (mV 1)))
def b_way_back : SM := sSeq (sSet 2 (mN pLstB (aNil)))
    (sSeq (sWh 64 (cAnd (mTst (m2 pInN (mV 1) (mV 0))) (mTst (m2 pNotIn (mV 1) (mV 2)))) (l1_way_back))
    (sRet (mIf (mTst (m2 pIn (mV 1) (mV 2))) (m1 pRevL (mSl pSl (mV 2) (oPt (mLm pIndex (mV 2) (aCons (mV 1) (aNil)))) (oNo))) (mN pLst (aNil)))))
def R_way_back : FM := runB 3 2 b_way_back
def F_way_back : FM := R_way_back
abbrev l1_Choice_steps : SM := sSeq (sSet 4 (m2 pIx (m1 (pFld 1 3) (mV 0)) (mV 3)))
    (sSeq (sDrop (mLm pAppend (mV 1) (aCons (mN pTup (aCons (mC (.str ("" : Str))) (aCons (mV 2) (aCons (mC (.int 0)) (aNil))))) (aNil))))
    (sDrop (mLm pExtend (mV 1) (aCons (mN pLst (mLcI [5, 6] (iDc dItems (mV 4)) (gT (gsCons (gN 5) (gsCons (gN 6) (gsNil)))) (mTst (m2 pNe (mV 5) (mV 2))) (mN pTup (aCons (mV 2) (aCons (mV 5) (aCons (m2 pSub (mV 6) (m2 pIx (mV 4) (mV 2))) (aNil))))))) (aNil)))))
def b_Choice_steps : SM := sSeq (sSet 1 (mN pLstB (mLcI [2] (iSeq (m1 (pFld 1 0) (mV 0))) (gN 2) (mTst (m2 pNotIn (mV 2) (m1 pValsL (m1 (pFld 1 2) (mV 0))))) (mN pTup (aCons (mV 2) (aCons (mC (.str ("" : Str))) (aCons (mC (.int 0)) (aNil))))))))
    (sSeq (sFor (iDc dItems (m1 (pFld 1 2) (mV 0))) (gT (gsCons (gN 3) (gsCons (gN 2) (gsNil)))) (l1_Choice_steps))
    (sRet (mFrz (mV 1))))
def R_Choice_steps : FM := runB 7 1 b_Choice_steps
def F_Choice_steps : FM := R_Choice_steps
abbrev l1_Choice_better_ring : SM := sIf (mTst (m2 pGt (m2 pAdd (m2 pIx (mV 3) (mV 6)) (mV 8)) (m2 pIx (mV 3) (mV 7)))) (sParG [g2S (mV 3) (mV 7), g2S (mV 2) (mV 7), g2N 5] (aCons (m2 pAdd (m2 pIx (mV 3) (mV 6)) (mV 8)) (aCons (mV 6) (aCons (mV 7) (aNil))))) (sNil)
abbrev l2_Choice_better_ring : SM := sSeq (sSet 5 (mC .non))
    (sSeq (sFor (iSeq (mV 1)) (gT (gsCons (gN 6) (gsCons (gN 7) (gsCons (gN 8) (gsNil))))) (l1_Choice_better_ring))
    (sSeq (sSet 9 (mF F_way_back (aCons (mV 2) (aCons (mV 5) (aNil)))))
    (sIf (mTst (m2 pGt (mN pLen (aCons (mV 9) (aNil))) (mC (.int 0)))) (sRet (mV 9)) (sNil))))
def b_Choice_better_ring : SM := sSeq (sPars [1, 2] (aCons (mMeth 1 F_Choice_steps (mV 0) aNil) (aCons (mDnew) (aNil))))
    (sSeq (sSet 3 (mDc pDctB [4] (iSeq (mN pLst (aStar (m1 (pFld 1 0) (mV 0)) (aCons (mC (.str ("" : Str))) (aNil))))) (gN 4) (cYes) (mV 4) (mC (.int 0))))
    (sSeq (sSet 5 (mC (.str ("" : Str))))
    (sSeq (sWh 4096 (mTst (m2 pNotN (mV 5) (mC .non))) (l2_Choice_better_ring))
    (sSeq (sFld 1 1 (mV 0) (mFrz (mV 3)))
    (sRet (mC .non))))))
def R_Choice_better_ring : FM := runB 10 1 b_Choice_better_ring
def F_Choice_better_ring : FM := R_Choice_better_ring
def b_Choice_turn : SM := sSeq (sSet 2 (mN pDictZ (aCons (mV 1) (aCons (m2 pAdd (mSl pSl (mV 1) (oPt (mC (.int 1))) (oNo)) (mSl pSl (mV 1) (oNo) (oPt (mC (.int 1))))) (aNil)))))
    (sFld 1 2 (mV 0) (mDc pDct [3, 4] (iDc dItems (m1 (pFld 1 2) (mV 0))) (gT (gsCons (gN 3) (gsCons (gN 4) (gsNil)))) (cYes) (mV 3) (mIf (mTst (m2 pNe (mGet (mV 2) (mV 4) (mC (.str ("" : Str)))) (mC (.str ("" : Str))))) (m2 pIx (mV 2) (mV 4)) (mV 4))))
def R_Choice_turn : FM := runB 5 2 b_Choice_turn
def F_Choice_turn : FM := R_Choice_turn
abbrev l1_Choice_init : SM := sSeq (sDrop (mMeth 1 F_Choice_turn (mV 0) (aCons (mV 4) (aNil))))
    (sSet 4 (mMeth 1 F_Choice_better_ring (mV 0) aNil))
def b_Choice_init : SM := sSeq (sFld 1 3 (mV 0) (mV 1))
    (sSeq (sFld 1 0 (mV 0) (mV 2))
    (sSeq (sFld 1 2 (mV 0) (mDc pDct [3] (iDc dKeys (mV 1)) (gN 3) (cYes) (mV 3) (mV 3)))
    (sSeq (sFld 1 1 (mV 0) (mDnew))
    (sSeq (sSet 4 (mMeth 1 F_Choice_better_ring (mV 0) aNil))
    (sWh 4096 (mTst (m2 pNotN (mV 4) (mC .non))) (l1_Choice_init))))))
def R_Choice_init : FM := runB 5 3 b_Choice_init
def F_Choice_init : FM := R_Choice_init
def b_Choice_gained : SM := sRet (mN pSum (aCons (mN pLst (mLcI [1, 2] (iDc dItems (m1 (pFld 1 2) (mV 0))) (gT (gsCons (gN 1) (gsCons (gN 2) (gsNil)))) (cYes) (m2 pIx (m2 pIx (m1 (pFld 1 3) (mV 0)) (mV 1)) (mV 2)))) (aNil)))
def R_Choice_gained : FM := runB 3 1 b_Choice_gained
def F_Choice_gained : FM := iso (R_Choice_gained)
def b_worths_of : SM := sSeq (sSet 2 (m2 pSub (m1 pNeg (mN pLen (aCons (mMeth 0 F_Sheet_names (mV 0) aNil) (aNil)))) (mC (.int 1))))
    (sRet (mDc pDct [4] (iSeq (mMeth 0 F_Sheet_names (mV 0) aNil)) (gN 4) (cYes) (mV 4) (mStar pDct (mV 4) (mIf (mTst (m2 pIn (mV 4) (mV 1))) (mV 2) (mC (.int 0))) (mDc pDct [3] (iSeq (mMeth 0 F_Sheet_wants (mV 0) (aCons (mV 4) (aNil)))) (gN 3) (cYes) (mV 3) (mC (.int 1))))))
def R_worths_of : FM := runB 5 2 b_worths_of
def F_worths_of : FM := iso (R_worths_of)
def b_best_of : SM := sRet (mF (isoMk 1 F_Choice_init) (aCons (mF F_worths_of (aCons (mV 0) (aCons (mN pTup (aNil)) (aNil)))) (aCons (mMeth 0 F_Sheet_homes (mV 0) aNil) (aNil))))
def R_best_of : FM := runB 1 1 b_best_of
def F_best_of : FM := iso (R_best_of)
def b_rowless : SM := sRet (mF (isoMk 0 F_Sheet_init) (aCons (mN pTup (aCons (m2 pIx (mMeth 0 F_Sheet_told (mV 0) aNil) (mC (.int 0))) (aCons (mN pTup (aNil)) (aNil)))) (aNil)))
def R_rowless : FM := runB 1 1 b_rowless
def F_rowless : FM := iso (R_rowless)
def b_most_any : SM := sSeq (sSet 2 (mF (isoMk 0 F_Sheet_init) (aCons (mV 0) (aNil))))
    (sRet (mMeth 1 F_Choice_gained (mF F_best_of (aCons (mIf (mTru pTru (mV 1)) (mV 2) (mF F_rowless (aCons (mV 2) (aNil)))) (aNil))) aNil))
def R_most_any : FM := runB 3 2 b_most_any
def F_most_any : FM := iso (R_most_any)
end Hr
/-! Sm45: tuple(d.items()). -/
namespace Sm
open PySem PySem.Spec PyProof.Rows L2
/-- the view of the items of the dict at a -/
def IwO (p a : Addr) : HO := .ext fun h => h.IsItemsView p a
def tItemsV (td : TE) : TE := fun σ H Q => td σ H fun x H1 => ∃ a kvs, x = .ref a ∧ Rd H1 a (.dK kvs) ∧ ∀ p, H1 p = none → Q (.ref p) (upd H1 p (IwO p a))
section
variable {X : Cx} {G : Gs} {W : WX} {kk : Nat} {e : Expr} {apos cpos : Pos}
theorem pe_itemsV {td : TE} (he : PE X e td) (hbase : attributeBase e "items" X.env (eval e X.env) = eval e X.env) (hline : (apos.endLine == cpos.line) = true) : PE X (.Call (.Attribute e "items" apos) [] [] cpos) (tItemsV td) := by
  refine ⟨fun pins s σ H Q I h => ?_⟩
  refine wpAny_Call_method (T := "dict") (id := "dict.items") hbase rfl hline F.plainAttrs_dict F.slot_dict_items F.type_dict_items (thn (he.run pins s σ H _ I h) fun u s1 ⟨x, H1, I1, rx, a, kvs, ex, hr, q⟩ => ?_)
  subst ex
  obtain rfl : u = Value.ref a := rx
  obtain ⟨z, lo, vs, rk, hd⟩ := dk_rd I1.hok hr
  refine ⟨hd.typeIs, hd.mapOf.noDict, ?_⟩
  have fin : EP X pins σ Q (.ref s1.heap.objs.size) { s1 with heap := s1.heap.push { cls := .type "dict_items", data := .fields #[.ref a] } } := by
    refine ⟨.ref s1.heap.objs.size, upd H1 s1.heap.objs.size (IwO s1.heap.objs.size a), I1.laid (t' := s1.toks) (fun _ _ q => Heap.get?_push_of_some _ q) (Nat.le_refl _) ?_, rfl, q _ (I1.hok.fresh (Nat.le_refl _))⟩
    refine ⟨⟨_, Heap.get?_push_size _ rfl, rfl, rfl⟩, ⟨_, Heap.get?_push_size _ rfl⟩, fun h1 h2 z k => ?_⟩
    obtain ⟨o, ho, r⟩ := z
    exact ⟨o, k _ ho, r⟩
  show wpAny _ _ (callWith cpos (.builtin "dict.items") [.ref a] [] []) _ X.xe s1
  exact method_meetsIn F.slot_dict_items F.entry_dict_items rfl (PySem.evalArgs_none ⟨rfl, hd.typeIs, F.args_dict_items_1 _, _, meets_dict_items (mixKind X.prog X.w) a lo, ⟨vs, hd⟩, fin⟩)
theorem call_tuple_itm {prog : Program} {w : World} {K : Type} [DecidableEq K] {knd : KeyKind prog w K} {kvs : List (K × Value)} {ep : Nat} {A : Around} {E : Value → Shared → Prop} {s : Shared} {r d : Addr} {Q : Value → Shared → Prop}
    (hh : A.handled = none) (hv : s.heap.IsItemsView r d) (hm : s.heap.DictAt knd d kvs ep) (hn : kvs.length ≤ sizeLine)
    (hQ : ∀ (h' : Heap) (tk : Nat) (as : List Addr), (∀ b o, s.heap.get? b = some o → h'.get? b = some o) → as.length = kvs.length → PySem.W.KdxG knd kvs s.heap.objs.size h' as → Q (.ref h'.objs.size) { s with heap := h'.push { cls := .type "tuple", data := .seq (as.map Value.ref).toArray }, toks := tk }) : wpAny (model prog w) A (call (.type "tuple") [.ref r]) Q E s := by
  have hnew : codeAny (model prog w) A.in1 (.call (.builtin "tuple.__new__") ⟨[.type "tuple", .ref r], []⟩) (wants (fun obj s₁ => s₁.TypeIs obj "tuple" ∧ Q obj s₁) E) s := by
    refine codeAny_of_tree ?_
    show wpAny _ A.in1.in1 (do checkBuiltinCall "tuple.__new__" ⟨[.type "tuple", .ref r], []⟩; again (.builtin "tuple.__new__" ⟨[.type "tuple", .ref r], []⟩)) _ _ s
    refine wpAny_bind (wpAny_of_eq (F.newCall_tuple_1 _) (wpAny_pure ⟨plainId_quiet F.plain_tuple_new _, codeAny_builtin F.entry_tuple_new ?_⟩))
    rw [Around.under_plainId F.plain_tuple_new _]
    have hsub := sub_tuple_self
    have hinit := init_tuple_lookup
    have hmh := madeHere_tuple
    have hTI : s.TypeIs (.ref r) "dict_items" := hv.typeIs
    have hh1 : A.in1.in1.handled = none := hh
    wp_walk using wpAny_typeOf hTI, PySem.W.kdx_collect (A := A.in1.in1) hh1 hv hm hn
    intro h' tk as hk hl hG
    show wpAny _ _ (Builtin.Tuple.tupleExact (as.map Value.ref).toArray >>= fun v => ret v) _ _ _
    unfold Builtin.Tuple.tupleExact
    refine wpAny_bind (wpAny_newObj_type ?_ (by show (as.map Value.ref).toArray.size ≤ sizeLine; simp only [List.size_toArray, List.length_map]; rw [hl]; exact hn))
    refine wpAny_pure ?_
    exact ⟨⟨_, Heap.get?_push_size _ rfl, rfl⟩, hQ h' tk as hk hl hG⟩
  refine callType_codes (Q₁ := fun obj s₁ => s₁.TypeIs obj "tuple" ∧ Q obj s₁) F.called_tuple (F.typeCall_tuple_1 _) F.entry_object_init hnew fun obj s₁ h₁ => ?_
  exact ⟨h₁.1, F.args_object_init_2 obj _, object_init_meets F.called_tuple.init.lookup F.called_tuple.made (by decide) prog w A.in1 _ s₁ ⟨h₁.1, rfl, h₁.2⟩⟩
def PairsIn (H : Hp) (as : List Addr) (kvs : List (Key × V)) : Prop := as.length = kvs.length ∧ ∀ (j : Nat) (a : Addr) (kv : Key × V), as[j]? = some a → kvs[j]? = some kv → H a = some (.tup [kV kv.1, kv.2])
theorem call_tuple_iw (hc : X.calm = true) : CallR X (.type "tuple") (fun xs H Q => ∃ p a kvs, xs = [.ref p] ∧ H p = some (IwO p a) ∧ Rd H a (.dK kvs) ∧ ∀ H2 as q, (∀ b o, H b = some o → H2 b = some o) → (∀ a ∈ as, H a = none) → PairsIn H2 as kvs → H2 q = none → Q (.ref q) (upd H2 q (.tup (as.map V.ref)))) := by
  intro pins s σ H xs us Q I r h
  obtain ⟨p, a, kvs, rfl, hp, hk, q⟩ := h
  obtain rfl := Vals.ref1 r
  obtain ⟨z, lo, vs, rk, hd⟩ := dk_rd I.hok hk
  obtain ⟨ep, hat⟩ := hd.dictAt
  have hl : kvs.length = vs.length := Paired.length rk
  have hv : s.heap.IsItemsView p a := (show ObjOk X.prog X.w H s.heap p (IwO p a) from I.hok p _ hp).1
  refine call_tuple_itm (knd := mixKind X.prog X.w) (I.ok.hd hc) hv hat (by rw [← hl]; exact z) fun h' tk as hkeep hlen hG => ?_
  have I2 : Inv X pins σ H { s with heap := h', toks := tk } := I.kept hkeep
  have nd : as.Nodup := List.Pairwise.imp (fun h => Nat.ne_of_lt h) hG.rise
  have none_ : ∀ b ∈ as, H b = none := fun b hb => I.hok.fresh (Nat.le_of_lt (hG.above b hb))
  obtain ⟨H3, I3, g3, t3⟩ := L2.DX.takeT (P := fun b ws => ∃ (j : Nat) (kv : Key × V), as[j]? = some b ∧ kvs[j]? = some kv ∧ ws = [kV kv.1, kv.2]) I as H I2 nd fun b hb => by
    obtain ⟨j, hj⟩ := List.mem_iff_getElem?.mp hb
    obtain ⟨key, k, x, e1, e2, e3⟩ := hG.pairs j b hj
    have hlt : j < kvs.length := by
      have := (List.getElem?_eq_some_iff.mp e1).1
      omega
    have ekv : kvs[j]? = some kvs[j] := List.getElem?_eq_getElem hlt
    obtain ⟨q2, eq2, rq⟩ := L2.paired_get rk ekv
    rw [e1] at eq2
    cases eq2
    refine ⟨Nat.le_of_lt (hG.above b hb), none_ b hb, [kV kvs[j].1, kvs[j].2], ⟨j, kvs[j], hj, ekv, rfl⟩, fun H2 => ?_⟩
    have rkey : RelV (kV kvs[j].1) key := by
      rw [rq.1]
      exact keyIs_rel e2
    exact ⟨by show 2 ≤ sizeLine; rw [sizeLine_eq]; omega, [key, x], .cons rkey (.cons rq.2 .nil), _, e3, rfl, 0, rfl⟩
  refine ⟨.ref h'.objs.size, upd H3 h'.objs.size (.tup (as.map V.ref)), I3.laid (t' := tk) (fun c o e => Heap.get?_push_of_some _ e) (Nat.le_refl _) (show ObjOk X.prog X.w _ _ _ (.tup (as.map V.ref)) from ⟨by rw [List.length_map, hlen, ← hl]; exact z, as.map Value.ref, ?_, IsTup.new _ _⟩), rfl, q H3 as _ g3 none_ ⟨by omega, fun j b kv e1 e2 => ?_⟩ (I3.hok.fresh (Nat.le_refl _))⟩
  · have : ∀ l : List Addr, Vals (l.map V.ref) (l.map Value.ref) := fun l => by
      induction l with
      | nil => exact .nil
      | cons b l ih => exact .cons rfl ih
    exact this as
  · obtain ⟨ws, ⟨j', kv', ej, ekv, rfl⟩, et⟩ := t3 b (List.mem_of_getElem? e1)
    have ejj : j = j' := by
      have h1 := (List.getElem?_eq_some_iff.mp e1)
      have h2 := (List.getElem?_eq_some_iff.mp ej)
      have i1 := nd.idxOf_getElem j h1.1
      have i2 := nd.idxOf_getElem j' h2.1
      rw [h1.2] at i1
      rw [h2.2] at i2
      exact i1.symm.trans i2
    subst ejj
    rw [e2] at ekv
    cases ekv
    exact et
theorem Ext.mono {A : Al} {H H' : Hp} (hk : ∀ b o, H b = some o → H' b = some o) : Ext A H A H' := ⟨fun _ _ e => .inl e, fun _ _ _ _ => Iff.rfl, fun _ _ e n => ⟨.inl (hk _ _ e), n⟩, fun _ _ e _ _ => hk _ _ e⟩
theorem StR.mono {A : Al} {H H' : Hp} {S : Sto} (s : StR G A S H) (hk : ∀ b o, H b = some o → H' b = some o) : StR G A S H' := by
  refine ⟨s.len, s.nd, fun a ha => ?_, fun i l b e1 e2 => (s.box i l b e1 e2).keep (Ext.mono hk).kp fun a ha => ?_⟩
  · obtain ⟨u, e⟩ := s.alive a ha
    exact ⟨u, hk _ _ e⟩
  · have z : a ∈ A.all := List.mem_append_left _ (live_set e1 a ha)
    obtain ⟨u, e⟩ := s.alive a z
    rw [hk _ _ e, e]
def pItemsT : P1 := fun d S => match dctAt S d with
  | some (ks, xs) => (match pures xs with
    | some ts => some (.d (.tup (itemsL ks ts)), S)
    | none => none)
  | none => none
theorem pairs_rvs {A : Al} {H : Hp} {S : Sto} : ∀ {kvs : List (Key × V)} {ts : List Dt} {as : List Addr}, StR G A S H → RVs G A H ts (kvs.map (·.2)) → PairsIn H as kvs → (∀ a ∈ as, a ∉ A.all) → RVs G A H (itemsL (kvs.map (·.1)) ts) (as.map V.ref)
  | [], [], as, _, _, ⟨h, _⟩, _ => by
    have : as = [] := List.length_eq_zero_iff.mp h
    subst this
    exact (rfl : ([] : List V) = [])
  | [], t :: ts, as, _, r, _, _ => by
    obtain ⟨v, rr, e, _⟩ := r
    cases e
  | kv :: kvs, [], as, _, r, _, _ => by
    cases (r : (kv :: kvs).map (·.2) = [])
  | kv :: kvs, t :: ts, [], _, _, ⟨h, _⟩, _ => by simp at h
  | kv :: kvs, t :: ts, a :: as, s, r, ⟨h, hp⟩, hn => by
    obtain ⟨v, rr, e, r1, r2⟩ := r
    rw [List.map_cons] at e
    cases e
    have h0 := hp 0 a kv rfl rfl
    refine ⟨.ref a, as.map V.ref, rfl, ⟨a, _, rfl, ⟨.inl h0, hn a List.mem_cons_self⟩, ⟨kV kv.1, [kv.2], rfl, ?_, ⟨kv.2, [], rfl, r1, rfl⟩⟩⟩, pairs_rvs s r2 ⟨by simpa using h, fun j b kw e1 e2 => hp (j + 1) b kw (by simpa using e1) (by simpa using e2)⟩ fun b hb => hn b (List.mem_cons_of_mem _ hb)⟩
    cases kv.1 <;> rfl
theorem e_tupleItems {m : M Dv} {p pos : Pos} (B : Bx X G W kk) (z : X.mg "tuple" = none) (he : PE X e (tM G W m)) (hg : Gl X "tuple" := by rfl) (hbase : attributeBase e "items" X.env (eval e X.env) = eval e X.env := by rfl) (hline : (apos.endLine == cpos.line) = true := by rfl)
    (hs : starEach [.Call (.Attribute e "items" apos) [] [] cpos] X.env = (false, eval (.Call (.Attribute e "items" apos) [] [] cpos) X.env) :: starEach [] X.env := by rfl) (hpl : (backTo pos (starEach [] X.env)).any (·.1) = false := by rfl) :
    PE X (.Call (.Name "tuple" p) [.Call (.Attribute e "items" apos) [] [] cpos] [] pos) (tM G W (m1 pItemsT m)) := by
  refine (pe_callTy (p := p) (pos := pos) (call_tuple_iw (X := X) B.calm) hg z PyProof.Rows.boot_tuple (pa_cons (pe_itemsV he hbase hline) pa_nil hs) (by decide) (by decide) hs hpl).sm fun σ H Q h => ?_
  obtain ⟨A, ρ, S, he, st, p0⟩ := h
  refine ⟨A, ρ, S, he, st, Po.step p0 fun d S1 A1 H1 x1 s1 p1 v rv => ?_⟩
  unfold pItemsT at p1
  split at p1
  · rename_i ks xs e1
    split at p1
    · rename_i ts e2
      obtain ⟨a, kvs, rfl, hr, ek, hx⟩ := dctAt_rd s1 rv e1
      subst ek
      refine ⟨a, kvs, rfl, hr, fun q hq => ⟨q, a, kvs, rfl, upd_same, ?_, fun H2 as q2 hm han hP hq2 => ?_⟩⟩
      · rcases hr with hr | ⟨ob, hr⟩
        · exact .inl (by rw [upd_ne (ne_of_none hr hq)]; exact hr)
        · exact .inr ⟨ob, by rw [upd_ne (ne_of_none hr hq)]; exact hr⟩
      · have x2 : Ext A1 H1 A1 (upd H1 q (IwO q a)) := Ext.new hq
        have s2 := s1.new (o := IwO q a) hq
        have x3 : Ext A1 (upd H1 q (IwO q a)) A1 H2 := Ext.mono hm
        have s3 := s2.mono hm
        refine Po.at p1 ((x2.trans x3).trans (Ext.new hq2)) (s3.new hq2) _ (RV.tup_new s3 hq2 (pairs_rvs s3 ((pures_rvs e2 hx).kp (x2.trans x3).kp) hP fun b hb => s2.out (han b hb)))
    · exact p1.elim
  · exact p1.elim
/-! ### list(text) -/
end
end Sm
/-! Sm46: name = [..] over a box, on one line. -/
namespace Sm
open PySem PySem.Spec PyProof.Rows L2
section
variable {X : Cx} {G : Gs} {W : WX} {kk : Nat} {elt tg iter : Expr} {ifs : List Expr} {scope : Scope} {own : List (Str × Nat)} {pos : Pos} {it : M (List Dt)} {g : GM} {t : TG} {L : List Nat} {cm : M Bool} {em : M Dv}
end
end Sm
/-! Sm47: {k: v}; l.count(x) of texts. -/
namespace Sm
open PySem PySem.Spec PyProof.Rows L2
/-! ### l.count(x) -/
section
variable {X : Cx} {G : Gs}
def eqx (x : Str) (v : Value) : Bool := match v with
  | .str z _ => z == x
  | _ => false
theorem tex_gives {A : Around} {s : Shared} {x : Str} {t : Tok} : ∀ {us : List Value} {ns : List Str}, Vals (ns.map V.str) us → ∀ y ∈ us, SeqAt.EqAt A s y (.str x t) (eqx x y)
  | us, [], r => fun y hy => by
    cases r
    cases hy
  | us, n :: ns, r => fun y hy => by
    cases r with
    | cons r1 r2 =>
      obtain ⟨u, rfl⟩ := r1
      rcases List.mem_cons.mp hy with e | e
      · rw [e]
        exact SeqAt.EqAt.str_str n u x t
      · exact tex_gives r2 y e
theorem tex_count {x : Str} : ∀ {us : List Value} {ns : List Str}, Vals (ns.map V.str) us → us.countP (eqx x) = ns.count x
  | us, [], r => by
    cases r
    rfl
  | us, n :: ns, r => by
    cases r with
    | cons r1 r2 =>
      obtain ⟨u, rfl⟩ := r1
      have ih := tex_count (x := x) r2
      rw [List.countP_cons, List.count_cons, ih] <;> rfl
def rCntS (K : PySem.W.Frag) : V → List V → Hp → VK → Prop := fun x xs H Q => ∃ (p : Addr) (ns : List Str) (k : Str), x = .ref p ∧ xs = [.str k] ∧ SqL K H p (ns.map V.str) ∧ Q (.int (ns.count k : Nat)) H
theorem mt_scount : MtR X "list.count" (rCntS X.K) := by
  intro pins s σ H x xs v us Q I rx rxs h
  obtain ⟨p, ns, k, rfl, rfl, hs, q⟩ := h
  cases rx
  obtain ⟨u, rfl, ru⟩ := rxs.one
  obtain ⟨t, rfl⟩ := ru
  obtain ⟨its, rv, ⟨⟨cls, dd, data, sl⟩, n, ho, hc, hdn, hd⟩, hlen⟩ := I.list hs
  simp only at hc hd
  subst hc hd
  refine call_meets PySem.F.slot_list_count ⟨_, ho, rfl⟩ PySem.F.entry_list_count (PySem.F.args_list_count_2 _ _)
    (SeqAt.list_countAt p its.toArray n dd sl (.str k t) (eqx k)) ⟨ho, fun y hy => tex_gives rv y (by simpa using hy), ?_⟩
  have ec : its.toArray.toList.countP (eqx k) = ns.count k := tex_count rv
  refine ⟨.int (ns.count k : Nat), H, I.tok _, ⟨s.toks, ?_⟩, q⟩
  show Value.int ((its.toArray.toList.countP (eqx k) : Nat) : Int) s.toks = Value.int ((ns.count k : Nat) : Int) s.toks
  rw [ec]
def pCount : PM := fun o ds S => match ds with
  | [.d (.str y)] => (match ((lstAt S o).bind pures).bind strsOf with
    | some l => some (.d (.int (l.count y : Nat)), S)
    | none => none)
  | _ => none
theorem m_count (hK : G.K = X.K) : MtR X "list.count" (qM G pCount) := by
  refine L2.MtR.sm (show MtR X "list.count" (rCntS X.K) from mt_scount) fun x xs H Q h => ?_
  obtain ⟨A, S, d, ds, rd, rds, s, p⟩ := h
  unfold pCount at p
  split at p
  · rename_i y
    split at p
    · rename_i l e1
      obtain ⟨v, rfl, rv⟩ := RDs.one rds
      obtain rfl : v = .str y := rv
      obtain ⟨ts, e2, e3⟩ := Option.bind_eq_some_iff.mp e1
      obtain ⟨zs, e4, e5⟩ := Option.bind_eq_some_iff.mp e2
      obtain ⟨a, vs, rfl, hq, hvs⟩ := lstAt_rd s rd e4
      have ets := strsOf_eq e3
      subst ets
      have evs := strs_rv (pures_rvs e5 hvs)
      subst evs
      exact ⟨a, l, y, rfl, rfl, .inl (.inl hq), Po.now p s _ rfl⟩
    · exact p.elim
  · exact p.elim
end
end Sm
/-! Sm48: sorted(..) as a new box. -/
namespace Sm
open PySem PySem.Spec PyProof.Rows L2
section
variable {X : Cx} {G : Gs}
end
/-! ### a fresh list, lists within, handed back as data -/
section
variable {G : Gs} {A A' A0 : Al} {H H' : Hp} {S S' : Sto}
end
end Sm
/-! Sm49: len(set(x)) of texts. -/
namespace Sm
open PySem PySem.Spec PyProof.Rows L2
section
variable {X : Cx} {G : Gs} {W : WX} {k : Nat}
end
end Sm
/-! Sm50: zip of a tuple and a list. -/
namespace Sm
open PySem PySem.Spec PyProof.Rows L2
end Sm
/-! Sm51: tuples that surely have no dict of their own: their display, their methods. -/
namespace Sm
open PySem PySem.Spec PyProof.Rows L2
section
variable {X : Cx} {G : Gs} {W : WX} {k : Nat} {es : List Expr} {e o : Expr} {pos apos cpos : Pos}
/-- such a tuple read as any tuple -/
def pWk : P1 := fun d S => match d with
  | .d (.ntp ts) => some (.d (.tup ts), S)
  | d => some (d, S)
theorem e_wk {m : M Dv} (hT : G.tk = false) (h : PE X e (tM G W m)) : PE X e (tM G W (m1 pWk m)) := by
  refine h.sm fun σ H Q h => ?_
  obtain ⟨A, ρ, S, he, hs, p0⟩ := h
  refine ⟨A, ρ, S, he, hs, Po.step p0 fun d S1 A1 H1 x1 s1 p v rv => ?_⟩
  unfold pWk at p
  split at p
  · obtain ⟨a, vs, ev, hn, hv⟩ := rv
    exact Po.now p s1 v ⟨a, vs, ev, by rw [hT]; exact hn.tup, hv⟩
  · exact Po.now p s1 v rv
/-! ### methods -/
def tBT (r : V → List V → Hp → VK → Prop) (to : TE) (t : TA) : TE := fun σ H Q => to σ H fun x H1 => (∃ (p : Addr) (o : Obj) (xs : List V), x = .ref p ∧ H1 p = some (.frz o (.tup xs)) ∧ o.dict = none ∧ o.cls = .type "tuple") ∧ t σ H1 fun xs H2 => r x xs H2 Q
theorem pe_bmT {to : TE} {t : TA} {name : Str} {id : String} {r : V → List V → Hp → VK → Prop} (slot : Slot "tuple" name id) (hty : typeOf (.builtin id) = pure (.type "method_descriptor")) (hm : MtR X id r) (ho : PE X o to) (ha : PA X (e :: es) t)
    (hbase : attributeBase o name X.env (eval o X.env) = eval o X.env := by rfl)
    (hfew : ((backTo cpos (starEach (e :: es) X.env)).all (fun x => !x.1) && (backToKw cpos (keywordEach [] X.env)).all (fun x => x.1.isSome)
      && decide ((e :: es).length + ([] : List Keyword).length + (if ([] : List Keyword).isEmpty then 0 else 1) < 30)) = true := by rfl)
    (hline : (apos.endLine == cpos.line) = true := by rfl) (hs : starEach (e :: es) X.env = (false, eval e X.env) :: starEach es X.env := by rfl) (hplain : (backTo cpos (starEach es X.env)).any (·.1) = false := by rfl) :
    PE X (.Call (.Attribute o name apos) (e :: es) [] cpos) (tBT r to t) := by
  refine ⟨fun pins s σ H Q I h => ?_⟩
  refine wpAny_Call_method_late hbase hfew hline rfl (thn (ho.run pins s σ H _ I h) fun v s1 ⟨x, H1, I1, r1, ty, q1⟩ => ?_)
  obtain ⟨p, ob, us, rfl, hp, hd, hc⟩ := ty
  have r0 := r1
  cases r1
  have hg : s1.heap.get? p = some ob := (show ObjOk X.prog X.w H1 s1.heap p (.frz ob (.tup us)) from I1.hok p _ hp).1
  refine ⟨"tuple", id, PySem.F.plainAttrs_tuple, slot, hty, ⟨ob, hg, hc⟩, fun a e => ?_, ?_⟩
  · cases e
    exact ⟨ob, hg, hd⟩
  have hA := ha.run cpos pins s1 σ H1 _ I1 q1
  rw [hs] at hA ⊢
  refine Calls.callWith_builtin (by show (false || (backTo cpos (starEach es X.env)).any (·.1)) = false; rw [hplain] <;> rfl) (Calls.evalArgs_plain ?_)
  exact thn hA fun us s2 ⟨vs, H2, I2, r2, q2⟩ => hm pins s2 σ H2 _ vs _ us Q I2 r0 r2 q2
def isNtp (d : Dv) : Bool := match d with
  | .d (.ntp _) => true
  | _ => false
def mTm (p : PM) (mo : M Dv) (ma : M (List Dv)) : M Dv := fun ρ S => (mo ρ S).bind fun o S1 => if isNtp o = true then (ma ρ S1).bind fun ds S2 => lift (p o ds S2) else .bad
theorem e_tm {name : Str} {id : String} {p : PM} {mo : M Dv} {ma : M (List Dv)} (slot : Slot "tuple" name id) (hty : typeOf (.builtin id) = pure (.type "method_descriptor")) (hm : MtR X id (qM G p)) (ho : PE X o (tM G W mo)) (ha : PA X (e :: es) (tMA G W ma)) (hbase : attributeBase o name X.env (eval o X.env) = eval o X.env := by rfl)
    (hfew : ((backTo cpos (starEach (e :: es) X.env)).all (fun x => !x.1) && (backToKw cpos (keywordEach [] X.env)).all (fun x => x.1.isSome)
      && decide ((e :: es).length + ([] : List Keyword).length + (if ([] : List Keyword).isEmpty then 0 else 1) < 30)) = true := by rfl)
    (hline : (apos.endLine == cpos.line) = true := by rfl) (hs : starEach (e :: es) X.env = (false, eval e X.env) :: starEach es X.env := by rfl) (hplain : (backTo cpos (starEach es X.env)).any (·.1) = false := by rfl) :
    PE X (.Call (.Attribute o name apos) (e :: es) [] cpos) (tM G W (mTm p mo ma)) := by
  refine (pe_bmT slot hty hm ho ha hbase hfew hline hs hplain).sm fun σ H Q h => ?_
  obtain ⟨A, ρ, S, he, st, p0⟩ := h
  refine ⟨A, ρ, S, he, st, Po.step p0 fun d S1 A1 H1 x1 s1 p1 v rv => ?_⟩
  by_cases hi : isNtp d = true
  · simp only [hi, if_true] at p1
    have hz : ∃ (q : Addr) (o : Obj) (xs : List V), v = .ref q ∧ H1 q = some (.frz o (.tup xs)) ∧ o.dict = none ∧ o.cls = .type "tuple" := by
      unfold isNtp at hi
      split at hi
      · obtain ⟨a, vs, ev, ⟨⟨ob, h1, h2, h3⟩, _⟩, _⟩ := rv
        exact ⟨a, ob, vs, ev, h1, h2, h3⟩
      · cases hi
    refine ⟨hz, A1, ρ, S1, he.kp x1.kp, s1, Po.step p1 fun ds S2 A2 H2 x2 s2 p2 vs rvs => ?_⟩
    exact ⟨A2, S2, d, ds, RD.kp x2.kp rv, rvs, s2, Po.lift p2⟩
  · simp only [hi] at p1
    exact p1.elim
/-- t.index(x), texts -/
def pIndexT : PM := fun o ds S => match o, ds with
  | .d (.ntp ts), [.d (.str y)] => (match strsOf ts with
    | some l => if y ∈ l then some (.d (.int (l.idxOf y : Nat)), S) else none
    | none => none)
  | _, _ => none
theorem m_indexT (hK : G.K = X.K) : MtR X "tuple.index" (qM G pIndexT) := by
  refine L2.MtR.sm L2.mt_tup_index fun x xs H Q h => ?_
  obtain ⟨A, S, d, ds, rd, rds, s, p⟩ := h
  unfold pIndexT at p
  split at p
  · rename_i ts y
    obtain ⟨v, rfl, rv⟩ := RDs.one rds
    obtain rfl : v = .str y := rv
    obtain ⟨a, vs, rfl, hn, hv⟩ := rd
    split at p
    · rename_i l e1
      split at p
      · rename_i hy
        have ets := strsOf_eq e1
        subst ets
        have evs := strs_rv hv
        subst evs
        have hlt := List.idxOf_lt_length_of_mem hy
        refine ⟨a, l, y, l.idxOf y, rfl, rfl, .inl (.inr ⟨_, hn.1.choose_spec.1⟩), ?_, fun m hm hz => ?_, Po.now p s _ rfl⟩
        · rw [List.getElem?_eq_getElem hlt]
          simp
        · have := List.not_of_lt_findIdx (p := (· == y)) (xs := l) (i := m) (by simpa [List.idxOf] using hm)
          obtain ⟨h1, h2⟩ := List.getElem?_eq_some_iff.mp hz
          rw [h2] at this
          simp at this
      · exact p.elim
    · exact p.elim
  · exact p.elim
end
end Sm
/-! Sm52: min of texts. -/
namespace Sm
open PySem PySem.Spec PyProof.Rows L2
def minTx (x : Str) (l : List Str) : Str := l.foldl (fun a y => if PySem.W.dataLt (.str y) (.str a) then y else a) x
theorem minTx_D (x : Str) : ∀ l : List Str, PySem.W.minD (.str x) (l.map .str) = .str (minTx x l) := by
  intro l
  unfold PySem.W.minD minTx
  induction l generalizing x with
  | nil => rfl
  | cons y l ih =>
    rw [List.map_cons, List.foldl_cons, List.foldl_cons, ← ih]
    split <;> rfl
def pMinT : PN := fun ds S => match ds with
  | [d] => (match (seqT S d).bind strsOf with
    | some (x :: l) => some (.d (.str (minTx x l)), S)
    | _ => none)
  | _ => none
theorem toPys_strs : ∀ l : List Str, toPys (l.map .str) = some (l.map .str)
  | [] => rfl
  | a :: l => by
    rw [List.map_cons, List.map_cons]
    unfold toPys
    rw [toPys_strs l]
    rfl
theorem dep_strs : ∀ l : List Str, PyData.depthAll (l.map .str) ≤ 1
  | [] => by decide
  | a :: l => by
    have := dep_strs l
    rw [List.map_cons]
    unfold PyData.depthAll
    have h : PyData.depth (.str a) ≤ 1 := by
      unfold PyData.depth
      decide
    omega
section
variable {X : Cx} {G : Gs} {W : WX} {k : Nat}
theorem b_minT (hc : X.calm = true) (hK : G.K = X.K) (hu : X.A.units + 64 < cLine) : CallR X (.builtin "min") (qN G pMinT) := by
  intro pins s σ H xs us Q I rx h
  obtain ⟨A, S, ds, rd, st, p⟩ := h
  unfold pMinT at p
  split at p
  · obtain ⟨v, rfl, r⟩ := RDs.one rd
    split at p
    · rename_i x l e
      obtain ⟨ts, e0, e9⟩ := Option.bind_eq_some_iff.mp e
      obtain ⟨ds, e1, e2⟩ := Option.bind_eq_some_iff.mp e0
      obtain ⟨a, vs, rfl, hs, hv⟩ := seqAt_rd st r e1
      rw [hK] at hs
      obtain rfl := Vals.ref1 rx
      have ets := strsOf_eq e9
      subst ets
      have hr := pures_rvs e2 hv
      have dp := RVs.dp (toPys_strs (x :: l)) hr
      rw [hK] at dp
      have al : PySem.W.AlikeAll (((x :: l) : List Str).map PyData.str) := by
        refine ⟨fun d hd d' hd' => ?_, fun d hd z => ?_⟩
        · obtain ⟨u, _, rfl⟩ := List.mem_map.mp hd
          obtain ⟨u', _, rfl⟩ := List.mem_map.mp hd'
          rfl
        · obtain ⟨u, _, rfl⟩ := List.mem_map.mp hd
          cases z
      have dd := dep_strs (x :: l)
      have fin : ∀ (v : Value) (h' : Heap) (tk : Nat) (bs : List Addr), Reads h' v (PySem.W.minD (.str x) (l.map .str)) bs → (∀ b o, s.heap.get? b = some o → h'.get? b = some o) → EP X pins σ Q v { s with heap := h', toks := tk } := fun v h' tk bs hr hk => by
        rw [minTx_D] at hr
        cases hr
        exact ⟨.str (minTx x l), H, I.kept hk, ⟨_, rfl⟩, Po.now p st _ rfl⟩
      rcases hs with hs | hs
      · obtain ⟨its, rv, pl, _⟩ := I.list hs
        obtain ⟨as, ra⟩ := Dp.readsAll I _ _ _ dp rv
        exact PySem.W.min_list_data (x := .str x) (xs := l.map .str) (I.ok.hd hc) pl.isList (by simpa using ra) al (by rw [List.map_cons] at dd; omega) fun i v h' tk bs _ hr hk => fin v h' tk bs hr hk
      · obtain ⟨its, rv, pl, _⟩ := I.tuple hs
        obtain ⟨as, ra⟩ := Dp.readsAll I _ _ _ dp rv
        exact PySem.W.min_tuple_data (x := .str x) (xs := l.map .str) (I.ok.hd hc) pl (by simpa using ra) al (by rw [List.map_cons] at dd; omega) fun i v h' tk bs _ hr hk => fin v h' tk bs hr hk
    · exact p.elim
  · exact p.elim
end
end Sm
/-! Sm53: tuple(x) whose tuple has no dict. -/
namespace Sm
open PySem PySem.Spec PyProof.Rows L2
section
variable {X : Cx} {G : Gs} {W : WX} {k : Nat}
theorem call_tupleN : CallR X (.type "tuple") (fun xs H Q => ∃ p ys, xs = [.ref p] ∧ ((SqL X.K H p ys ∧ ∀ l o, H l = none → o.dict = none → o.cls = .type "tuple" → Q (.ref l) (upd H l (.frz o (.tup ys)))) ∨ (SqT X.K H p ys ∧ Q (.ref p) H))) := by
  intro pins s σ H xs us Q I r h
  obtain ⟨p, ys, rfl, h⟩ := h
  obtain rfl := Vals.ref1 r
  rcases h with ⟨hq, q⟩ | ⟨hq, q⟩
  · obtain ⟨its, r', pl, hz⟩ := I.list hq
    have hlen := r'.length
    refine call_tuple_list pl.isList (fun h' kp => ?_) (by simp only [List.size_toArray] <;> omega)
    have I1 : Inv X pins σ H { s with heap := h' } := I.kept (t' := s.toks) kp
    have I2 : Inv X pins σ (upd H h'.objs.size (.frz { cls := .type "tuple", data := .seq its.toArray } (.tup ys))) { s with heap := h'.push { cls := .type "tuple", data := .seq its.toArray } } :=
      I1.laid (t' := s.toks) (fun b o e => Heap.get?_push_of_some _ e) (Nat.le_refl _) ⟨Heap.get?_push_size _ rfl, hz, its, r', IsTup.new _ _⟩
    exact ⟨.ref h'.objs.size, _, I2, rfl, q _ _ (I1.hok.fresh (Nat.le_refl _)) rfl rfl⟩
  · obtain ⟨its, r', pl, hz⟩ := I.tuple hq
    exact call_tuple_same pl ⟨.ref p, H, I, rfl, q⟩
/-- tuple(x) of a list, of such a tuple -/
def pTupleN : PN := fun ds S => match ds with
  | [.d (.ntp ts)] => some (.d (.ntp ts), S)
  | [d] => (match lstT S d with
    | some ts => some (.d (.ntp ts), S)
    | none => none)
  | _ => none
theorem b_tupleN (hK : G.K = X.K) : CallR X (.type "tuple") (qN G pTupleN) := by
  refine call_tupleN.sm fun xs H Q h => ?_
  obtain ⟨A, S, ds, rd, s, p⟩ := h
  unfold pTupleN at p
  split at p
  · obtain ⟨v, rfl, r⟩ := RDs.one rd
    obtain ⟨a, vs, rfl, ha, hv⟩ := r
    exact ⟨a, vs, rfl, .inr ⟨.inl (.inr ⟨_, ha.1.choose_spec.1⟩), Po.now p s _ ⟨a, vs, rfl, ha, hv⟩⟩⟩
  · obtain ⟨v, rfl, r⟩ := RDs.one rd
    split at p
    · rename_i ts e2
      obtain ⟨a, vs, rfl, hs, hv⟩ := lstT_rd s r e2
      refine ⟨a, vs, rfl, .inl ⟨by rw [← hK]; exact hs, fun q ob hq hd hc => Po.at p (Ext.new hq) (s.new hq) _ ?_⟩⟩
      exact ⟨q, vs, rfl, ⟨⟨ob, upd_same, hd, hc⟩, s.out hq⟩, hv.kp (Ext.new hq).kp⟩
    · exact p.elim
  · exact p.elim
end
end Sm
/-! Sm54: dict(t), t a tuple of pairs without a dict of its own. -/
namespace Sm
open PySem PySem.Spec PyProof.Rows L2
section
variable {X : Cx} {G : Gs} {W : WX} {k : Nat}
end
end Sm
/-! Sm55: data with such tuples within, read as plain data. -/
namespace Sm
open PySem PySem.Spec PyProof.Rows L2
section
variable {X : Cx} {G : Gs} {W : WX} {k : Nat} {e : Expr} {A : Al} {H : Hp}
end
end Sm
/-! HeS: the mirrors of the rings, and tuples without a dict. -/
/-! Ex1: except (A, B, ..): a tuple of any number of classes. -/
namespace Sm
open PySem PySem.Spec PySem.W
section
variable {M : Model} {A : Around} {E : Value → Shared → Prop} {s : Shared} {α β : Type}
end
end Sm
set_option maxHeartbeats 1000000
/-! Ex2: an exception of an own class over LookupError or ValueError is made: its __init__ says super().__init__(x) and keeps x. -/
namespace Sm
open PySem PySem.Spec PyProof.Rows PySem.W PySem.Calls Builtin.ObjectAttr
/-- what is known of the base -/
structure Bsx (B nw ni : String) (tl : List Value) : Prop where
  fb : ExcBaseFacts B nw ni tl
  ks : KxsFacts B ni
  st : StoreFacts B tl "object.__setattr__" "object"
theorem bsV : Bsx "ValueError" "ValueError.__new__" "ValueError.__init__" [.type "ValueError", .type "Exception", .type "BaseException", .type "object"] := ⟨F.excBase_ValueError, kxs_ValueError, F.store_ValueError⟩
/-- the class as it stands -/
structure XcCls (K : Frag) (C : Addr) (nw : String) (tl : List Value) : Prop where
  at_ : ∃ nm q N bs sn sub ab col dd k0 k1 k2 k3 k5, K.lookup C = some (excClassObj nm q C N bs tl true sn sub ab col dd k0 k1 k2 k3 k5 nw)
  sa : findIn K (.ref C) "__setattr__" = some (some (.builtin "object.__setattr__"))
  self_ : mroIn K C (.ref C) = some true
  exC : subIn K (.ref C) (.type "BaseException") = some true
  tyC : typeIn K (.ref C) = some (.type "type")
  kC : keepIn K (.ref C) = true
abbrev eo (C t : Addr) (d : Option Addr) : Obj := { cls := .ref C, dict := d, data := .fields #[.ref t, .none, .none, .none, .bool false, .none] }
section
variable {prog : Program} {w : World} {A : Around} {E : Value → Shared → Prop} {h : Heap} {g : Array GenState} {dr : Drawn} {tk : Nat} {os : OsState} {K : Frag} {C : Addr} {B nw ni : String} {tl : List Value}
theorem XcCls.cd (T : XcCls K C nw tl) : ∃ cd, clsIn K C = some cd ∧ cd.mro = .ref C :: tl ∧ cd.hasDict = true := by
  obtain ⟨nm, q, N, bs, sn, sub, ab, col, dd, k0, k1, k2, k3, k5, hC⟩ := T.at_
  exact ⟨_, by unfold clsIn; rw [hC] <;> rfl, rfl, rfl⟩
/-- the base's __init__, bound, is called -/
theorem mw_call (Y : Bsx B nw ni tl) (T : XcCls K C nw tl) (X : K.In h) {u e t0 : Addr} {rest : List Value} {Q : Value → Shared → Prop} (he : h.get? e = some (eo C t0 none)) (hu : h.get? u = some (kxs_mw ni e)) (hr : rest.length ≤ sizeLine)
    (hq : ∀ h' t1, (∀ b o, b ≠ e → h.get? b = some o → h'.get? b = some o) → h'.get? e = some (eo C t1 none) → Q .none ⟨h', g, dr, tk, os⟩) :
    wpAny (model prog w) A (call (.ref u) rest) Q E ⟨h, g, dr, tk, os⟩ := by
  obtain ⟨nm, q, N, bs, sn, sub, ab, col, dd, k0, k1, k2, k3, k5, hC⟩ := T.at_
  refine wpAny_call (codeAny_of_tree ?_)
  show wpAny _ A.in1 (callAny (.ref u) ⟨rest, []⟩) _ _ _
  simp only [callAny]
  refine wpAny_bind (wpAny_load hu ?_)
  have ty : (Value.type "method-wrapper" == Value.type "method" || Value.type "method-wrapper" == Value.type "builtin_function_or_method" || Value.type "method-wrapper" == Value.type "method-wrapper") = true := by decide
  simp only [kxs_mw, ty, if_true]
  refine KFB.if_so (by decide) (wpAny_bind (ESX.check_bound Y.fb (X _ _ hC) he rfl (wpAny_bind (wpAny_pure (wpAny_pure ?_)))))
  refine ⟨plainId_quiet Y.fb.init.plain _, codeAny_builtin Y.fb.initEntry ?_⟩
  exact exc_init_tree (cls := .ref C) (t0 := t0) (dv := none) (c2 := .none) (c3 := .none) (b4 := .bool false) he hr fun h' k e' _ => hq h' _ k e'
/-- its first field -/
theorem fst_fld (Y : Bsx B nw ni tl) (T : XcCls K C nw tl) (X : K.In h) {x t0 : Addr} {f : Str} {v : Value} {Q : Unit → Shared → Prop} (hx : h.get? x = some (eo C t0 none)) (ha : findIn K (.ref C) f = some none)
    (hq : ∀ h' tk' dx, (∀ b o, b ≠ x → h.get? b = some o → h'.get? b = some o) → h.objs.size ≤ dx → dx ≠ x → h'.get? x = some (eo C t0 (some dx)) → h'.Ns1 dx (fun y => if y = f then some v else none) → Q () ⟨h', g, dr, tk', os⟩) :
    wpAny (model prog w) A (setAttr (.ref x) f v) Q E ⟨h, g, dr, tk, os⟩ := by
  obtain ⟨cd, hcd, hm, hh⟩ := T.cd
  have I : InstAt h x (eo C t0 none) C none := ⟨hx, rfl, rfl, trivial⟩
  have hxs : x ≠ h.objs.size := Nat.ne_of_lt (Heap.lt_size hx)
  refine set_plain X I T.sa ?_
  have ob : (Value.ref C :: tl).contains (.type "object") = true := by rw [List.contains_cons, Y.st.hasOwner, Bool.or_true]
  have mr : mroIn K C (.type "object") = some true := by
    unfold mroIn
    rw [hcd, Option.bind_some, hm, if_neg (show ¬ ((Value.ref C :: tl).isEmpty = true) from Bool.false_ne_true), ob]
  have sub : Looks (model prog w) h (isInstance (.ref x) (.type "object")) true := I.type.andThen (looks_mroIn X mr)
  have SO := F.store_object
  refine codeAny_call_builtin SO.slot.plain SO.entry (@check_slot (model prog w) _ _ ⟨h, g, dr, tk + 1, os⟩ "object.__setattr__" "object" "__setattr__" (.ref x) [.str f tk, v] [] _ SO.kind SO.split sub (SO.args (.ref x) (.str f tk) v) ?_)
  have hmr : Looks (model prog w) h (mroOf (.ref C)) cd.mro := (looks_clsIn X hcd).andThen .now
  have tkr : Looks (model prog w) h (storeTaker? none) none := .now
  have pass : refuseLoop (.ref x) "__setattr__" cd.mro = pure () := by
    rw [hm, refuseLoop_ref]
    exact Y.st.passes _
  rw [osa_eq, refuse_eq]
  refine wpAny_bind (wpAny_bind (I.type.at (wpAny_bind (hmr.at ?_))))
  rw [pass]
  refine wpAny_pure (wpAny_bind (I.type.at (wpAny_bind ((looks_findIn X ha).at (wpAny_bind (tkr.at ?_))))))
  have hcls : Looks (model prog w) h (classData C) cd := looks_clsIn X hcd
  show wpAny _ _ (Builtin.ObjectAttr.storeInOwnDict (.ref x) (.ref C) (.str f tk) f v false) _ _ _
  obtain ⟨nm, bs, mro, ns, qn, hd, sn, sb, ab, col, del⟩ := cd
  dsimp only at hh
  subst hh
  unfold Builtin.ObjectAttr.storeInOwnDict Builtin.ObjectAttr.ownDictForStores
  repeat (first | with_reducible refine HandSPX.store_in_new ?_ ?_ | with_reducible refine wpAny_loadPart_at hx ?_ | with_reducible refine hcls.at ?_ | wp_step)
  · exact ⟨_, #[], _, (Heap.get?_update_ne _ _ _ _ hxs.symm).trans (Heap.get?_push_at rfl rfl), rfl, fun e he => absurd he (by simp), fun _ => rfl⟩
  · intro h' tk' hn' hs
    have hx1 : (h.push { cls := .type "dict", data := .dict #[] }).get? x = some (eo C t0 none) := Heap.get?_push_of_some _ hx
    refine hq h' tk' h.objs.size (fun b o hb ho => ?_) (Nat.le_refl _) hxs.symm ?_ hn'
    · exact (hs.2 b (Nat.ne_of_lt (Heap.lt_size ho))).trans ((Heap.get?_update_ne _ _ _ _ hb).trans (Heap.get?_push_of_some _ ho))
    · exact (hs.2 x hxs).trans (Heap.get?_update_self _ hx1 rfl)
end
section
variable {prog : Program} {w : World} {A : Around} {h : Heap} {g : Array GenState} {dr : Drawn} {tk : Nat} {os : OsState} {K : Frag} {C fI : Addr} {B nw ni : String} {tl : List Value} {f : Str}
theorem mcall_eq {o : Expr} {name x : Str} {apos p3 pos : Pos} {env : PySem.Env} (hp : (apos.endLine == pos.line) = true) : eval (.Call (.Attribute o name apos) [.Name x p3] [] pos) env = (do
      let ov ← attributeBase o name env (eval o env)
      standAt apos.atName
      let (f, first) ← holding [ov] (getMethod ov name (do return (← importBound o env).getD true))
      callWith pos f first (backTo pos (starEach [.Name x p3] env)) []) := by
  show (do
      let ov ← attributeBase o name env (eval o env)
      standAt apos.atName
      methodCall o name apos pos env ov 1 (backTo pos (starEach [.Name x p3] env)) []) = _
  have e : ∀ ov, methodCall o name apos pos env ov 1 (backTo pos (starEach [.Name x p3] env)) [] = (do
      let (f, first) ← holding [ov] (getMethod ov name (do return (← importBound o env).getD true))
      callWith pos f first (backTo pos (starEach [.Name x p3] env)) []) := fun ov => by
    unfold methodCall methodCallPos
    simp only [hp, Bool.or_true, if_true, pure_bind]
    rfl
  simp only [e]
/-- what the written part says of the class's __init__ -/
structure XcInit (prog : Program) (K : Frag) (C fI : Addr) (B ni : String) (tl : List Value) (f : Str) (q p : Str) (params : Arguments) (body : List Stmt) (scope : Scope) (cda cc : Addr) : Prop where
  fn : ∃ nm dV kV doc pm an ct oc od osl, K.lookup fI = some ⟨oc, od, .func (ksFn nm q params body scope dV kV doc pm an (.ref cda) ct cc), osl⟩ ∧ ∀ s a b, BindsTo s (ksFn nm q params body scope dV kV doc pm an (.ref cda) ct cc) ⟨[a, b], []⟩ [("self", a), (p, b)]
  code : codeIn K (.ref cda) q = true
  file : ∃ ccl cdd vs ccs fl tf, K.lookup cda = some ⟨ccl, cdd, .fields vs, ccs⟩ ∧ vs[2]? = some (.str fl tf) ∧ ((prog.main.file : Str) == fl) = true
  cell : ∃ cl cld csl, K.lookup cc = some ⟨cl, cld, .cell (some (.ref C)), csl⟩
  open_ : nsIn K cStatics "thirdparty.any" = some none
  body_ : ∃ p0 p1 p2 p3 p4 p5 p6 p7 p8 p9, body = [.Expr (.Call (.Attribute (.Call (.Name "super" p0) [] [] p1) "__init__" p2) [.Name p p3] [] p4) p5, .Assign [.Attribute (.Name "self" p6) f p7] (.Name p p8) p9] ∧ (p2.endLine == p4.line) = true
  head : ∃ ar, (params.posonlyargs ++ params.args).head? = some ar ∧ ar.arg = "self"
  top : (prog.main.scope.names.lookup ("super" : Str)).isSome = false
  kind : scope.kind = .function
  co : scope.isCoroutine = false
  gen : scope.isGenerator = false
  noc : ∀ x ∈ scope.names, x.2 ≠ .cell
  kself : scope.names.lookup ("self" : Str) = some .local
  kp : scope.names.lookup p = some .local
  ksup : scope.names.lookup ("super" : Str) = some .globalImplicit
  kcls : scope.names.lookup ("__class__" : Str) = some .free
  ne : (p == ("self" : Str)) = false
  nd : (p == ("__debug__" : Str)) = false
  along : alongIn K "__init__" tl = some (some (.builtin ni))
  sub : subIn K (.ref C) (.type B) = some true
  none_ : findIn K (.ref C) f = some none
theorem init_run {q p : Str} {params : Arguments} {body : List Stmt} {scope : Scope} {cda cc : Addr} {mg mb : Str → Option Value} {e t0 : Addr} {v : Value} {R : Result → Shared → Prop} (Y : Bsx B nw ni tl) (T : XcCls K C nw tl) (J : XcInit prog K C fI B ni tl f q p params body scope cda cc)
    (X : K.In h) (lim : h.NoLimit) (room : A.depth < recursionLimit) (Gn : h.Ns mainGlobals mg) (Bn : h.Ns builtinsNs mb) (ms : mg "super" = none) (mbs : mb "super" = some (.type "super")) (he : h.get? e = some (eo C t0 none)) (hKe : ∀ o, K.lookup e ≠ some o)
    (hq : ∀ h' tk' t1 dx, (∀ b o, b ≠ e → h.get? b = some o → h'.get? b = some o) → h.objs.size ≤ dx → dx ≠ e → h'.get? e = some (eo C t1 (some dx)) → h'.Ns1 dx (fun y => if y = f then some v else none) → R (.ok (.ret .none)) ⟨h', g, dr, tk', os⟩) :
    codeAny (model prog w) A (.call (.ref fI) ⟨[.ref e, v], []⟩) R ⟨h, g, dr, tk, os⟩ := by
  obtain ⟨nm, dV, kV, doc, pm, an, ct, oc, od, osl, lk, hb⟩ := J.fn
  obtain ⟨ccl, cdd, vs, ccs, fl, tf, lc, hvs, hfile⟩ := J.file
  obtain ⟨cl, cld, csl, lcc⟩ := J.cell
  obtain ⟨p0, p1, p2, p3, p4, p5, p6, p7, p8, p9, rfl, hps⟩ := J.body_
  obtain ⟨ar, hhead, har⟩ := J.head
  obtain ⟨nmC, qC, N, bs, sn, sub, ab, col, dd, k0, k1, k2, k3, k5, hC⟩ := T.at_
  obtain ⟨cd, hcd, hm, _⟩ := T.cd
  refine ks_codeAny_call_defAt (fd := ksFn nm q params _ scope dV kV doc pm an (.ref cda) ct cc) (binds := [("self", .ref e), (p, v)]) room (X _ _ lk) rfl lim (codeRec_of X J.code) rfl (hb _ _ _) J.noc (fun x hx => ?_) (fun h1 hns kp1 => ?_) J.co J.gen J.kind
  · rcases List.mem_cons.mp hx with rfl | hx
    · exact J.kself
    · rcases List.mem_cons.mp hx with rfl | hx
      · exact J.kp
      · exact absurd hx List.not_mem_nil
  have mself : ([("self", Value.ref e), (p, v)] : List (Str × Value)).reverse.lookup ("self" : Str) = some (.ref e) := by
    have z : (("self" : Str) == p) = false := by
      have := J.ne
      simp only [beq_eq_false_iff_ne, ne_eq] at this ⊢
      exact fun y => this y.symm
    simp [List.lookup, z]
  have mp : ([("self", Value.ref e), (p, v)] : List (Str × Value)).reverse.lookup p = some v := by simp [List.lookup]
  have X1 := X.keeps kp1
  have he1 := kp1 _ _ he
  have hL : h.objs.size ≠ e := Nat.ne_of_gt (Heap.lt_size he)
  have hni : ∀ L, interactive (callEnv (ksFn nm q params [.Expr (.Call (.Attribute (.Call (.Name "super" p0) [] [] p1) "__init__" p2) [.Name p p3] [] p4) p5, .Assign [.Attribute (.Name "self" p6) f p7] (.Name p p8) p9] scope dV kV doc pm an (.ref cda) ct cc) L fI) = false := fun L => by
    show (scope.kind == .module && _) = false
    rw [J.kind]
    rfl
  refine ks_wpAt_execs_cons (ks_wpAt_Expr_any (hi := hni _) (ks_wpAt_MethodCall (he := mcall_eq hps) (ks_wpAt_super_base (env := ksEnv q scope h.objs.size fI (.ref cda) cc) J.ksup J.kcls (by decide) rfl (X1 _ _ lk) rfl hhead rfl (X1 _ _ lc) rfl hvs hfile J.top ?_)))
  refine ks_loadName_global J.kind J.ksup (loadGlobal_builtin (env := ksEnv q scope h.objs.size fI (.ref cda) cc) (Gn.keeps kp1) ms (Bn.keeps kp1) mbs ⟨rfl, ?_⟩)
  refine wpAny_loadName_free J.kind J.kcls rfl ⟨_, X1 _ _ lcc, rfl⟩ ?_
  rw [har]
  refine wpAny_loadName_local J.kind J.kself hns mself ?_
  refine ks_wpAny_isType_cls (X1 _ _ hC) rfl ⟨rfl, ?_⟩
  refine ks_wpAny_call_super (X1 _ _ hC) rfl he1 rfl (fun c z => by cases z) (looks_mroIn X1 T.self_) (fun h2 hso kp2 => ?_)
  have X2 := X1.keeps kp2
  have he2 := kp2 _ _ he1
  have I2 : InstAt h2 e (eo C t0 none) C none := ⟨he2, rfl, rfl, trivial⟩
  have mro2 : Looks (model prog w) h2 (mroOf (.ref C)) (.ref C :: tl) := by
    rw [← hm]
    exact (looks_clsIn X2 hcd).andThen .now
  refine kxs_getMethod Y.ks hso (looks_opaque X2 J.open_) mro2 (l := tl) (ESX.drop_own C tl) X2 J.along (I2.type.andThen (looks_subIn X2 J.sub)) (ks_ne X2 I2 hcd) (by decide) ?_
  have hns2 := hns.keeps kp2
  have kp3 : ∀ b o, h2.get? b = some o → (h2.push (kxs_mw ni e)).get? b = some o := fun b o z => Heap.get?_push_of_some _ z
  have hns3 := hns2.keeps kp3
  have X3 := X2.keeps kp3
  refine kxs_callWith (i := ni) (x := e) rfl (evalArgs_plain (spliced_cons (wpAny_Name (wpAny_loadName_local J.kind J.kp hns3 mp (spliced_nil ⟨Heap.get?_push_size _ rfl, ?_⟩)) J.nd)))
  refine mw_call Y T X3 (kp3 _ _ he2) (Heap.get?_push_size _ rfl) (by rw [sizeLine_eq]; simp) fun h4 t1 kp4 he4 => ?_
  have neL : ∀ b, b ≠ e → ∀ o, h1.get? b = some o → h4.get? b = some o := fun b hb o z => kp4 b o hb (kp3 b o (kp2 b o z))
  have hns4 : h4.Ns h.objs.size (fun x => ([("self", Value.ref e), (p, v)] : List (Str × Value)).reverse.lookup x) := by
    obtain ⟨o, es, ep, ho, r⟩ := hns
    exact ⟨o, es, ep, neL _ hL o ho, r⟩
  have X4 : K.In h4 := fun b o z => neL b (fun y => hKe o (y ▸ z)) o (X1 _ _ z)
  refine ks_wpAt_execs_cons (ks_wpAt_Assign_Attr ?_)
  refine wpAt_of_wpAny (wpAny_Name (env := ksEnv q scope h.objs.size fI (.ref cda) cc) ?_ J.nd)
  refine wpAny_loadName_local (m := fun x => ([("self", Value.ref e), (p, v)] : List (Str × Value)).reverse.lookup x) J.kind J.kp hns4 mp ?_
  refine wpAny_Name (env := ksEnv q scope h.objs.size fI (.ref cda) cc) ?_ (by decide)
  refine wpAny_loadName_local (m := fun x => ([("self", Value.ref e), (p, v)] : List (Str × Value)).reverse.lookup x) J.kind J.kself hns4 mself ?_
  refine fst_fld Y T X4 he4 J.none_ fun h5 tk5 dx kp5 hdx ndx he5 hn5 => ?_
  refine wpAt_of_wpAny (wpAny_execs_nil ?_)
  refine hq h5 tk5 t1 dx (fun b o hb z => kp5 b o hb (neL b hb o (kp1 b o z))) ?_ ndx he5 hn5
  exact Nat.le_trans (Nat.le_of_lt (Heap.lt_size (neL _ hL _ (hns.choose_spec.choose_spec.choose_spec.1)))) hdx
end
end Sm
set_option maxHeartbeats 1000000
/-! Ex3: raise C(x), told by a mirror. -/
namespace Sm
open PySem PySem.Spec PyProof.Rows L2
theorem boot_super : bootBuiltins ("super" : Str) = some (.type "super") := by kernel_rfl
/-- C(e): the exception of the class C whose field f is e -/
def tXmk (C : Addr) (f : Str) (ta : TA) : L2.St → Hp → XK → Prop := fun σ H Q => ta σ H fun vs H1 => ∃ v, vs = [v] ∧ ∀ dx, H1 dx = none → Q (.ref C) (some dx) (upd H1 dx (.xd [(f, v)]))
theorem pmk_x {X : Cx} {e : Expr} {x : Str} {p pos : Pos} {ta : TA} {k : Nat} {C fI cda cc : Addr} {B nw ni : String} {tl : List Value} {f q pr : Str} {params : Arguments} {body : List Stmt} {scope : Scope} (Y : Bsx B nw ni tl) (T : XcCls X.K C nw tl) (J : XcInit X.prog X.K C fI B ni tl f q pr params body scope cda cc)
    (iC : PySem.W.findIn X.K (.ref C) "__init__" = some (some (.ref fI))) (tI : PySem.W.typeIn X.K (.ref fI) = some (.type "function")) (ms : X.mg "super" = none) (hr : Room (k + 1) X.A) (hg : Gl X x) (hm : X.mg x = some (.ref C)) (ha : PA X [e] ta) (hdb : (x == ("__debug__" : Str)) = false := by decide)
    (he : starEach [e] X.env = (false, eval e X.env) :: starEach [] X.env := by rfl) : PMk X (.Call (.Name x p) [e] [] pos) (tXmk C f ta) := by
  intro pins s σ H Q I h
  obtain ⟨nm, q', N, bs, sn, sub, ab, col, dd, k0, k1, k2, k3, k5, hC⟩ := T.at_
  refine wpAny_Call_Name_kw (ld_glob I hg hm ?_ hdb)
  refine PySem.W.callWith_K (h₀ := X.base) I.ok.mod.kin T.kC (thn (ha.run pos pins s σ H _ I h) fun us s1 ⟨vs, H1, I1, r1, v, ev, q1⟩ => ⟨I1.kIn, ?_⟩) he rfl
  subst ev
  cases r1 with
  | @cons _ u _ ur ru rr =>
    cases rr
    show wpAny _ _ (call (.ref C) [u]) _ _ _
    obtain ⟨hp, g, dr, tk, os⟩ := s1
    have kk : ∀ b o, hp.get? b = some o → ((hp.push (PySem.W.kdv_tup [u])).push (PySem.HandSPX.excO C hp.objs.size)).get? b = some o := fun b o z => Heap.get?_push_of_some _ (Heap.get?_push_of_some _ z)
    have ge : ((hp.push (PySem.W.kdv_tup [u])).push (PySem.HandSPX.excO C hp.objs.size)).get? (hp.objs.size + 1) = some (eo C hp.objs.size none) := by heap_get
    obtain ⟨mb, hb1, hb2⟩ := I1.mod.blt
    have kb : ∀ b o, X.base.get? b = some o → ((hp.push (PySem.W.kdv_tup [u])).push (PySem.HandSPX.excO C hp.objs.size)).get? b = some o := fun b o z => kk b o (I1.bk b o z)
    have nK : ∀ o, X.K.lookup (hp.objs.size + 1) ≠ some o := fun o z => by
      have := Heap.lt_size (I1.kIn _ _ z)
      exact absurd (show hp.objs.size + 1 < hp.objs.size from this) (by omega)
    refine wpAny_call (PySem.HandSPX.call_own Y.fb (fun _ => rfl) (I1.kIn _ _ hC) (PySem.W.looks_findIn I1.kIn iC) (fun self => PySem.W.bind_fn I1.kIn self tI) (by rw [sizeLine_eq]; simp)
      (init_run Y T J (I1.kIn.keeps kk) (I1.nolimit.keeps kk) (hr.make C [u] []).depth (I1.mod.glob.keeps kb) (hb1.keeps kb) ms ((hb2 "super" (by decide)).trans boot_super) ge nK fun h' tk' t1 dx kp hdx ndx he' hn' => ⟨rfl, ?_⟩))
    have hd0 : hp.objs.size + 2 ≤ dx := by
      have e2 : ((hp.push (PySem.W.kdv_tup [u])).push (PySem.HandSPX.excO C hp.objs.size)).objs.size = hp.objs.size + 2 := by rw [Heap.size_push, Heap.size_push]
      rw [e2] at hdx
      exact hdx
    obtain ⟨G, g1, g2⟩ := restrict h' fun b => decide (b ≠ hp.objs.size + 1)
    have gk : ∀ b, b ≠ hp.objs.size + 1 → G.get? b = h'.get? b := fun b hb => g1 b (decide_eq_true hb)
    have gn : G.get? (hp.objs.size + 1) = none := g2 _ (by simp)
    have lt : ∀ {b : Addr} {o : Obj}, hp.get? b = some o → b ≠ hp.objs.size + 1 := fun {b o} z => by
      have h0 : b < hp.objs.size := Heap.lt_size z
      exact Nat.ne_of_lt (show b < hp.objs.size + 1 from Nat.lt_succ_of_lt h0)
    have hd1 : H1 dx = none := I1.hok.fresh (show hp.objs.size ≤ dx by omega)
    have ha1 : H1 (hp.objs.size + 1) = none := I1.hok.fresh (show hp.objs.size ≤ hp.objs.size + 1 by omega)
    have ok : ObjOk X.prog X.w (upd H1 dx (.xd [(f, v)])) G dx (.xd [(f, v)]) := by
      refine ⟨_, hn'.at fun o y => (gk dx ndx).trans y, fun z => relO_put (fs := []) (mA := fun _ => none) ru (fun _ => True.intro) z⟩
    have I2 : Inv X pins σ (upd H1 dx (.xd [(f, v)])) ⟨G, g, dr, tk', os⟩ := I1.laid (t' := tk') (a := dx) (o := .xd [(f, v)]) (h' := G) (fun b o z => (gk b (lt z)).trans (kp b o (lt z) (kk b o z))) (show hp.objs.size ≤ dx by omega) ok
    refine ⟨hp.objs.size + 1, _, _, ⟨G, g, dr, tk', os⟩, _, .ref C, some dx, rfl, I2, fun b o z => ?_, gn, he', ⟨rfl, rfl⟩, rfl, rfl, ?_, rfl, I2.bare, raises_own T.exC T.tyC, q1 dx hd1⟩
    · have z' : G.get? b = some o := z
      by_cases hb : b = hp.objs.size + 1
      · rw [hb, gn] at z'
        cases z'
      · exact (gk b hb).symm.trans z'
    · rw [upd_ne (Ne.symm ndx)]
      exact ha1
def sRaise (c : Nat) (m : M Dv) : SM := fun ρ S => (m ρ S).to ρ fun d S1 => match d with
  | .d t => .er c t ρ S1
  | .loc _ => .bad
/-- a class that may be raised: what a def's walk asks -/
structure Rsx (P : Program) (G : Gs) (mg : Str → Option Value) (x : Str) (c : Nat) : Prop where
  cl : ∃ C B nw ni tl f fI q pr params body scope cda cc, G.exc c = .ref C ∧ G.fld c = some f ∧ Bsx B nw ni tl ∧ XcCls G.K C nw tl ∧ XcInit P G.K C fI B ni tl f q pr params body scope cda cc ∧
    PySem.W.findIn G.K (.ref C) "__init__" = some (some (.ref fI)) ∧ PySem.W.typeIn G.K (.ref fI) = some (.type "function") ∧ mg x = some (.ref C)
  ms : mg "super" = none
theorem ps_raiseX {X : Cx} {G : Gs} {W : WX} {k c : Nat} {e : Expr} {x : Str} {p pos pos' : Pos} {m : M Dv} (B : Bx X G W (k + 1)) (Z : Rsx X.prog G X.mg x c) (hg : Gl X x) (he : PE X e (tM G W m)) (hdb : (x == ("__debug__" : Str)) = false := by decide)
    (hs : starEach [e] X.env = (false, eval e X.env) :: starEach [] X.env := by rfl) : PS X (.Raise (some (.Call (.Name x p) [e] [] pos)) none pos') (tMS G W (sRaise c m)) := by
  obtain ⟨⟨C, Bn, nw, ni, tl, f, fI, q, pr, params, body, scope, cda, cc, eC, ef, Y, T, J, iC, tI, hm⟩, ms⟩ := Z
  rw [B.hK] at T J iC tI
  have ha : PA X [e] (tMA G W (aCons m aNil)) := a_cons he a_nil hs
  refine (ps_raise B.calm B.tk (pmk_x Y T J iC tI ms B.room hg hm ha hdb hs)).sm fun D σ H h => ?_
  obtain ⟨A, ρ, S, er, sr, h⟩ := h
  refine ⟨A, ρ, S, er, sr, ?_⟩
  unfold sRaise at h
  show Po G (Wa W σ) A H ((m ρ S).bind fun x S1 => Rz.bind (.ok [] S1) fun xs S2 => .ok (x :: xs) S2) _
  cases em : m ρ S with
  | bad => rw [em] at h; exact h.elim
  | er c' t S1 =>
    rw [em] at h
    exact fun A' H' cls d y s z => h A' H' σ cls d y s (er.kp y.kp) z
  | ok d S1 =>
    rw [em] at h
    cases d with
    | loc n => exact h.elim
    | d t =>
      intro A1 H1 y1 s1 vs rv
      cases rv with
      | @cons _ v _ vr r1 r2 =>
        cases r2
        refine ⟨v, rfl, fun dx hd => ?_⟩
        have y2 : Ext A1 H1 A1 (upd H1 dx (.xd [(f, v)])) := Ext.new hd
        refine h A1 _ σ _ _ (y1.trans y2) (s1.new hd) (er.kp (y1.trans y2).kp) ⟨eC.symm, .inr ⟨dx, f, v, ef, rfl, s1.out hd, upd_same, RV.kp r1 y2.kp⟩⟩
end Sm
set_option maxHeartbeats 1000000
/-! Ex4: try: .. except (A, B, ..) as n: v = n, the exception kept in v behind the suite. -/
namespace Sm
open PySem PySem.Spec PyProof.Rows L2
/-- the classes that a clause names -/
inductive NmL (X : Cx) : List Expr → List Value → Prop
  | nil : NmL X [] []
  | cons {x : Str} {c : Value} {p : Pos} {es : List Expr} {cs : List Value} : Names X x c → NmL X es cs → NmL X (.Name x p :: es) (c :: cs)
section
variable {X : Cx} {pins : List (Addr × Obj)} {σ : L2.St} {H : Hp} {s : Shared}
end
section
variable {X : Cx} {es : List Expr} {cs : List Value} {n v : Str} {i j kx : Nat} {body : List Stmt} {np pos pos' p1 p2 p3 : Pos} {tb : WX → TS} {W : WX}
end
end Sm
set_option maxHeartbeats 1000000
/-! Ex5: try by mirrors; isinstance of a kept exception, its field. -/
namespace Sm
open PySem PySem.Spec PyProof.Rows L2
/-- what is known of the class number c -/
structure Exk (G : Gs) (c : Nat) (f : Str) : Prop where
  cl : ∃ D, G.exc c = .ref D ∧ ExcC G.K D ∧ PySem.W.findIn G.K (.ref D) f = some none
  fl : G.fld c = some f
/-! ### try -/
section
variable {X : Cx} {G : Gs} {W : WX} {k : Nat} {es : List Expr} {cs : List Value} {n v : Str} {i j kx : Nat} {body : List Stmt} {np pos pos' p1 p2 p3 : Pos} {mb : SM} {hit : Nat → Option Bool}
end
/-! ### a kept exception asked -/
section
open PySem.W
variable {prog : Program} {w : World} {A : Around} {E : Value → Shared → Prop} {s : Shared} {K : Frag} {x D : Addr} {ox od : Obj}
end
section
variable {X : Cx} {pins : List (Addr × Obj)} {σ : L2.St} {H : Hp} {s : Shared}
end
section
variable {X : Cx} {G : Gs} {W : WX} {k : Nat} {e T : Expr} {es : List Expr} {p pos tpos : Pos} {m : M Dv} {f : Nat → Option Bool}
end
end Sm
set_option maxHeartbeats 1000000
/-! Ex6: the rules of exceptions as the printed walks use them. -/
namespace Sm
open PySem PySem.Spec PyProof.Rows L2
def ExkR (G : Gs) (n : Nat) (fs : List Str) : Prop := ∀ c, c < n → ∃ f, fs[c]? = some f ∧ Exk G c f
section
variable {G : Gs} {a b : List Bool} {u : Value} {us : List Value}
end
section
open PySem.W
variable {K : Frag} {t : Value} {C : Addr} {b : Bool}
theorem along_V (K : Frag) : alongIn K "__init__" [.type "ValueError", .type "Exception", .type "BaseException", .type "object"] = some (some (.builtin "ValueError.__init__")) := by kernel_rfl
end
section
variable {X : Cx} {G : Gs} {W : WX} {k : Nat} {e : Expr} {x : Str} {p pos pos' tpos : Pos} {m : M Dv} {bs : List Bool}
theorem yraise {c : Nat} (B : Bx X G W k) (hk : 1 ≤ k) (Z : Rsx X.prog G X.mg x c) (he : PE X e (tM G W m)) (hg : Gl X x := by rfl) (hdb : (x == ("__debug__" : Str)) = false := by decide)
    (hs : starEach [e] X.env = (false, eval e X.env) :: starEach [] X.env := by rfl) : PS X (.Raise (some (.Call (.Name x p) [e] [] pos)) none pos') (tMS G W (sRaise c m)) :=
  ps_raiseX (k := 0) (B.le hk) Z hg he hdb hs
end
end Sm
/-! HeM: a sheet that raises NoHousehold (class number 0). -/
namespace He
open PySem PySem.Spec PyProof.Rows L2 Sm Hn
abbrev l1_Sheet_check : SM := sIf (mTst (m2 pNotIn (mV 2) (m1 (pFld 0 2) (mV 0)))) (sRaise 0 (mV 2)) (sNil)
def b_Sheet_check : SM := sFor (iSeq (mV 1)) (gN 2) (l1_Sheet_check)
def R_Sheet_check : FM := starF 1 (runB 3 2 b_Sheet_check)
def F_Sheet_check : FM := R_Sheet_check
def b_Sheet_checked : SM := sSeq (sSet 2 (mF (F_tupled 8) (aCons (mV 1) (aNil))))
    (sSeq (sDrop (mMeth 0 F_Sheet_check (mV 0) (aStar (mV 2) (aNil))))
    (sRet (mV 2)))
def R_Sheet_checked : FM := runB 3 2 b_Sheet_checked
def F_Sheet_checked : FM := R_Sheet_checked
end He
/-! HeR: the mirrors of both. -/
/-! Sm56 (printed by Sm56.py from Sm45): tuple(d.items()) that makes a tuple without a dict. -/
namespace Sm
open PySem PySem.Spec PyProof.Rows L2
section
variable {X : Cx} {G : Gs} {W : WX} {kk : Nat} {e : Expr} {apos cpos : Pos}
end
end Sm
/-! Sm57: a tuple without a dict whose parts are read as plain data; a call whose answer is read as plain data. -/
namespace Sm
open PySem PySem.Spec PyProof.Rows L2
section
variable {X : Cx} {G : Gs} {W : WX} {k : Nat} {e : Expr} {A : Al} {H : Hp}
end
end Sm
/-! Sm58: call of an instance by its own method; isinstance of own classes; sum(d.values()). -/
namespace Sm
open PySem PySem.Spec PyProof.Rows L2
/-- o(..), o an instance: its own method -/
def mCallO (c : Nat) (F : FM) (mo : M Dv) (ma : M (List Dv)) : M Dv := fun ρ S => (mo ρ S).bind fun o S1 => if isIns c o S1 = true then (ma ρ S1).bind fun ds S2 => if isIns c o S2 = true then F (o :: ds) S2 else .bad else .bad
section
variable {X : Cx} {G : Gs} {W : WX} {k n : Nat} {f : Addr} {F : FM} {c : Nat} {pos : Pos} {e fe : Expr} {es : List Expr} {mo : M Dv} {ma : M (List Dv)}
theorem codeF {pins : List (Addr × Obj)} {σ : L2.St} {H : Hp} {s : Shared} {Q : VK} {us : List Value} {vs : List V} (R : CallW X.prog X.w G X.mg X.base k f n [] F) (B : Bx X G W k) (I : Inv X pins σ H s) (r : Vals vs us) (l1 : vs.length = n)
    (h : SpM G F (vs ++ []) H Q (Wa W σ)) : codeAny (model X.prog X.w) X.A (.call (.ref f) ⟨us, []⟩) (fun r s' => match r with | .ok (.ret v) => EP X pins σ Q v s' | .ok _ => False | .error e => X.xe e s') s := by
  refine codeAny_mono (R X.A X.stack s H us [] vs [] Q (Wa W σ) B.room (by rw [B.hK]; exact I.env0) r .nil l1 rfl h) fun r s' hq => ?_
  cases r with
  | error e => exact passAt B.tk σ pins H s e s' I hq
  | ok fl =>
    cases fl with
    | ret u => exact I.after hq
    | next => exact False.elim hq
    | brk => exact False.elim hq
    | cont => exact False.elim hq
theorem yinst (R : CalD X.prog X.w G X.mg X.base k c "__call__" n F) (B : Bx X G W k) (hf : PE X fe (tM G W mo)) (ha : PA X (e :: es) (tMA G W ma)) (al : ALen ma n := by repeat (first | exact al_nil | refine al_cons ?_))
    (ht : eval (.Call fe (e :: es) [] pos) X.env = (do callWith pos (← eval fe X.env) [] (backTo pos (starEach (e :: es) X.env)) (backToKw pos (keywordEach [] X.env))) := by rfl)
    (he : starEach (e :: es) X.env = (false, eval e X.env) :: starEach es X.env := by rfl) (hpl : (backTo pos (starEach es X.env)).any (·.1) = false := by rfl) : PE X (.Call fe (e :: es) [] pos) (tM G W (mCallO c F mo ma)) := by
  obtain ⟨f, _, hm, hfi, R⟩ := R.ex
  rw [B.hK] at hm hfi
  refine ⟨fun pins s σ H Q I h => ?_⟩
  obtain ⟨A, ρ, S, he', hs, p0⟩ := h
  refine Call_ (thn (hf.run pins s σ H (fun y H1 => ∃ a dx ws, y = .ref a ∧ SlX.Slt H1 a (G.cls c) dx ws ∧ tMA G W ma σ H1 fun vs H2 => vs.length = n ∧ (∃ dx ws, SlX.Slt H2 a (G.cls c) dx ws) ∧ SpM G F ((V.ref a :: vs) ++ []) H2 Q (Wa W σ)) I ⟨A, ρ, S, he', hs, Po.step p0 fun d S1 A1 H1 x1 s1 p1 v rv => ?_⟩) fun u s1 ⟨y, H1, I1, rx, a, dx, ws, ex, hsl, q⟩ => ?_) ht
  · by_cases hi : isIns c d S1 = true
    · simp only [hi, if_true] at p1
      obtain ⟨a, dx, ws, ev, hsl⟩ := isIns_slt s1 rv hi
      subst ev
      refine ⟨a, dx, ws, rfl, hsl, A1, ρ, S1, he'.kp x1.kp, s1, Po.step' p1 fun ds S2 A2 H2 e0 x2 s2 p2 vs rvs => ?_⟩
      have rv2 := rv.kp x2.kp
      by_cases hi2 : isIns c d S2 = true
      · simp only [hi2, if_true] at p2
        obtain ⟨a2, dx2, ws2, ev2, hsl2⟩ := isIns_slt s2 rv2 hi2
        cases ev2
        exact ⟨by rw [← Paired.length rvs]; exact al ρ S1 ds S2 e0, ⟨dx2, ws2, hsl2⟩, A2, S2, d :: ds, by rw [List.append_nil]; exact .cons rv2 rvs, s2, p2⟩
      · simp only [hi2] at p2
        exact p2.elim
    · simp only [hi] at p1
      exact p1.elim
  · subst ex
    obtain rfl : u = Value.ref a := rx
    refine StX.callO_with (thn (ha.run pos pins s1 σ H1 _ I1 q) fun us s2 ⟨vs, H2, I2, r, l, ⟨dx2, ws2, hsl2⟩, q2⟩ => ?_) he hpl
    obtain ⟨sl, od, _, J, _⟩ := SlX.slt_inst I2 hsl2
    refine ⟨⟨_, _, _, J, rfl⟩, wpAny_call (PySem.W.kco_code I2.kIn J rfl hm.at_ hm.fn hfi ?_)⟩
    exact codeF (us := .ref a :: us) (vs := .ref a :: vs) R B I2 (.cons rfl r) (by simp [l]) q2
end
/-! ### isinstance of own classes -/
/-- a slotted class whose instances may be asked for their class -/
structure ClK (K : PySem.W.Frag) (C : Addr) : Prop where
  cl : SlX.SCls K C
  ha : PySem.W.findIn K (.ref C) "__class__" = some (some (.builtin "object.__class__"))
  hn : PySem.W.specialIn K (.builtin "object.__class__") "__get__" = some (some (.builtin "getset_descriptor.__get__"))
  htk : PySem.W.takesIn K (.builtin "object.__class__") = some true
  hm : PySem.W.mroIn K C (.type "object") = some true
/-- of n own classes: c among them -/
structure IsC (G : Gs) (n c : Nat) : Prop where
  own : ∀ c', c' < n → ClK G.K (G.cls c') ∧ PySem.W.kitOne G.K (.ref (G.cls c')) (.ref (G.cls c)) = some (c' == c)
  ty : ∀ T ∈ tyL, PySem.W.kitOne G.K (.type T) (.ref (G.cls c)) = some false
section
variable {X : Cx} {G : Gs} {W : WX} {k n c : Nat} {p pos : Pos} {e T : Expr} {m : M Dv}
end
/-! ### sum(d.values()) -/
section
variable {X : Cx} {G : Gs} {W : WX} {kk : Nat} {e : Expr} {apos cpos : Pos}
end
end Sm
/-! Sm59: t[::-1] of a tuple. -/
namespace Sm
open PySem PySem.Spec PyProof.Rows L2
section
variable {prog : Program} {w : World} {A : Around} {E : Value → Shared → Prop} {s : Shared}
end
section
variable {X : Cx} {G : Gs} {W : WX} {kk : Nat} {e : Expr}
end
end Sm
/-! Sm60: [*box, ..] of a live box. -/
namespace Sm
open PySem PySem.Spec PyProof.Rows L2
section
variable {X : Cx} {G : Gs} {W : WX} {p : Pos} {e : Expr} {es : List Expr} {ma : M (List Dv)} {mo : M Dv}
end
end Sm
set_option maxHeartbeats 1000000
/-! Sm61: a class made with *parts; classmethods. -/
namespace Sm
open PySem PySem.Spec PyProof.Rows L2
/-- a class, called by position; its __init__ takes any number -/
structure CalIV (P : Program) (w : World) (G : Gs) (mg : Str → Option Value) (base : Heap) (k c : Nat) (x : Str) (F : FM) : Prop where
  ex : ∃ f, mg x = some (.ref (G.cls c)) ∧ Mk G.K (G.cls c) f ∧ CallR' P w G mg base k f F
section
variable {X : Cx} {G : Gs} {W : WX} {k n : Nat} {f : Addr} {F : FM} {x : Str} {p pos sp_ : Pos} {e : Expr} {es : List Expr} {ma : M (List Dv)} {mo : M Dv} {c : Nat}
theorem runMakeV {pins : List (Addr × Obj)} {σ : L2.St} {H : Hp} {s : Shared} {Q : VK} {us : List Value} {vs : List V} (M : Mk X.K (G.cls c) f) (R : CallR' X.prog X.w G X.mg X.base k f F) (B : Bx X G W (k + 1)) (I : Inv X pins σ H s) (r : Vals vs us)
    (h : ∀ x dx, H x = none → H dx = none → dx ≠ x → SpM G F (V.ref x :: vs) (upd (upd H dx (.own x)) x (.ins (G.cls c) dx [])) (fun v H2 => v = .non ∧ Q (.ref x) H2) (Wa W σ)) :
    wpAny (model X.prog X.w) X.A (call (.ref (G.cls c)) us []) (EP X pins σ Q) X.xe s := by
  have hq := h (s.heap.objs.size + 1) s.heap.objs.size (I.hok.fresh (Nat.le_succ _)) (I.hok.fresh (Nat.le_refl _)) (Nat.ne_of_lt (Nat.lt_succ_self _))
  have I2 := Inv.made (C := G.cls c) I
  have r2 : Vals (V.ref (s.heap.objs.size + 1) :: vs) (Value.ref (s.heap.objs.size + 1) :: us) := .cons rfl r
  refine wpAny_call (make_map (f := f) I.kIn M.makes M.init (beq_iff_eq.mp M.fn) (codeAny_mono (R _ X.stack _ _ (Value.ref (s.heap.objs.size + 1) :: us) _ _ (Wa W σ) (B.room.make (G.cls c) us []) (by rw [B.hK]; exact I2.env0.make (G.cls c) us []) r2 hq) fun r s' hq' => ?_))
  cases r with
  | error e => exact passAt B.tk σ pins _ _ e s' I2 hq'
  | ok fl =>
    cases fl with
    | ret u =>
      obtain ⟨v, H', I3, rv, ev, q3⟩ := I2.after hq'
      subst ev
      exact ⟨rv, ⟨V.ref (s.heap.objs.size + 1), H', I3, rfl, q3⟩⟩
    | next => exact False.elim hq'
    | brk => exact False.elim hq'
    | cont => exact False.elim hq'
theorem mk_spec {A1 : Al} {σ : L2.St} {S1 : Sto} {H1 : Hp} {ds : List Dv} {vs : List V} {Q : VK} (s1 : StR G A1 S1 H1) (rvs : RDs G A1 H1 ds vs) (p1 : Po G (Wa W σ) A1 H1 (isoMk c F ds S1) (kD G Q)) :
    ∀ x dx, H1 x = none → H1 dx = none → dx ≠ x → SpM G F (V.ref x :: vs) (upd (upd H1 dx (.own x)) x (.ins (G.cls c) dx [])) (fun v H2 => v = .non ∧ Q (.ref x) H2) (Wa W σ) := by
  obtain ⟨A2, S2, ds2, s2, r2, p2⟩ := makeD_po s1 rvs p1
  exact make_po s2 r2 p2
/-- x(*y) -/
theorem ymakeDS (R : CalIV X.prog X.w G X.mg X.base k c x F) (B : Bx X G W (k + 1)) (he : PE X e (tM G W mo)) (hg : Gl X x := by rfl) (hdb : (x == ("__debug__" : Str)) = false := by decide)
    (hst : starEach [.Starred e sp_] X.env = [(true, eval e X.env)] := by rfl) : PE X (.Call (.Name x p) [.Starred e sp_] [] pos) (tM G W (mF (isoMk c F) (aStar mo aNil))) := by
  obtain ⟨f, hm, M, R⟩ := R.ex
  rw [B.hK] at M
  refine ⟨fun pins s σ H Q I h => ?_⟩
  obtain ⟨A, ρ, S, he', hs, p0⟩ := h
  refine wpAny_Call_Name_kw (ld_glob I hg hm ?_ hdb)
  have p0' : Po G (Wa W σ) A H ((mo ρ S).bind fun x S1 => (li (seqOf x) S1).bind fun ts S2 => isoMk c F (ts.map .d ++ []) S2) (kD G Q) := by
    have e : mF (isoMk c F) (aStar mo aNil) ρ S = (mo ρ S).bind fun x S1 => (li (seqOf x) S1).bind fun ts S2 => isoMk c F (ts.map .d ++ []) S2 := by
      unfold mF aStar aNil
      cases mo ρ S with
      | ok d S1 =>
        simp only [bind_ok]
        cases seqOf d <;> rfl
      | er c t S1 => rfl
      | bad => rfl
    rw [← e]
    exact p0
  refine PySem.W.callWith_S (h₀ := X.base) I.ok.mod.kin M.kp (thn (he.run pins s σ H (fun y H1 => ∃ a xs, y = V.ref a ∧ (SqT X.K H1 a xs ∨ SqL X.K H1 a xs) ∧ ∀ x dx, H1 x = none → H1 dx = none → dx ≠ x → SpM G F (V.ref x :: xs) (upd (upd H1 dx (.own x)) x (.ins (G.cls c) dx [])) (fun v H2 => v = .non ∧ Q (.ref x) H2) (Wa W σ)) I
    ⟨A, ρ, S, he', hs, Po.step p0' fun d S1 A1 H1 x1 s1 p1 v rv => ?_⟩) fun v s1 ⟨y, H1, I1, ry, a, xs, ey, hxs, q⟩ => ?_) hst
  · obtain ⟨ts, e1, kk⟩ := li_bd p1
    obtain ⟨a, vs, ev, hq, rvs⟩ := seqOf_rd e1 rv
    rw [B.hK] at hq
    rw [List.append_nil] at kk
    exact ⟨a, vs, ev, hq, mk_spec s1 (RVs.rds rvs) kk⟩
  · subst ey
    obtain rfl : v = Value.ref a := ry
    exact StX.star_any I1 hxs fun us s2 I2 rv => ⟨I2.kIn, runMakeV M R B I2 rv q⟩
end
/-! ### classmethods: the class itself is of no matter -/
def SpC (G : Gs) (F : FM) : Sp := fun vs H Q E => ∃ v0 ws, vs = v0 :: ws ∧ SpM G F ws H Q E
/-- what a classmethod's body gives: n names, the class, p parameters -/
def runC (n p : Nat) (b : SM) : FM := fun ds S => if ds.length = p then (match b (none :: ds.map some ++ List.replicate (n - p - 1) none) S with
  | .nx _ S' => .ok (.d .non) S'
  | .rt d S' => .ok d S'
  | .er c t _ S' => .er c t S'
  | _ => .bad) else .bad
theorem EnvR.cons0 {G : Gs} {A : Al} {H : Hp} {ρ : Env} {σ : L2.St} {v : Option V} (h : EnvR G A H ρ σ) : EnvR G A H (none :: ρ) (v :: σ) := by
  obtain ⟨h1, h2⟩ := h
  refine ⟨by simp [h1], fun i d e => ?_⟩
  cases i with
  | zero => cases e
  | succ i => exact h2 i d e
section
variable {P : Program} {w : World} {G : Gs} {mg : Str → Option Value} {base : Heap}
theorem fn_okC {x qual : Str} {st : Stmt} {f : Addr} {fd : FuncData} {N ps : List Str} {k n p : Nat} {b : SM} (hn : N.length = n) (hps : ps.length = p + 1) (F : Fun G.K x qual st f fd) (S : FnScope N ps (defScope st))
    (hbody : ∀ (cdv : Value) (A : Around) (outer : List PySem.Env) (s : Shared) (H : Hp) (E : XK), Bx (cxOf (L2.CX P w) P w G.K mg base N qual (defScope st) f cdv A outer s H E) G (fun c d _ H' => E c d H') k →
      PassesOwn (model P w) (A.deeper (envOfC qual (defScope st) s.heap.objs.size f cdv)) (envOfC qual (defScope st) s.heap.objs.size f cdv) (cxOf (L2.CX P w) P w G.K mg base N qual (defScope st) f cdv A outer s H E).xe →
      PSs (cxOf (L2.CX P w) P w G.K mg base N qual (defScope st) f cdv A outer s H E) (defBody st) (tMS G (fun c d _ H' => E c d H') b)) :
    FnOk P w G.K mg base (L2.CX P w) (k + 1) f fd ps (SpC G (runC n p b)) := by
  subst hn
  refine F.okX S (fun vs H Q E h => ?_) (fun cdv A outer s H vs Q E hr h => ?_)
  · obtain ⟨v0, ws, rfl, A, S', ds, r, s, q⟩ := h
    unfold runC at q
    split at q
    · rename_i e
      rw [List.length_cons, ← Paired.length r, e, hps]
    · exact q.elim
  · refine ⟨_, hbody cdv A outer s H E ⟨rfl, S.nd, takes_of rfl rfl rfl rfl, rfl, hr⟩ (passes_of rfl), ?_⟩
    obtain ⟨v0, ws, rfl, A', S', ds, r, s', q⟩ := h
    unfold runC at q
    split at q
    · rename_i e
      refine ⟨A', none :: ds.map some ++ List.replicate (N.length - p - 1) none, S', ?_, s', ?_⟩
      · have h0 := (start_rds (N.length - (ws.length + 1)) r).cons0 (v := some v0)
        rw [show N.length - p - 1 = N.length - (ws.length + 1) by rw [← Paired.length r, e]; omega]
        exact h0
      · cases eb : b (none :: ds.map some ++ List.replicate (N.length - p - 1) none) S' with
        | nx ρ S1 =>
          rw [eb] at q
          exact fun A1 H1 σ1 y s1 e1 => q A1 H1 y s1 .non rfl
        | rt d S1 =>
          rw [eb] at q
          exact fun A1 H1 v y s1 e1 => q A1 H1 y s1 v e1
        | er c t ρ S1 =>
          rw [eb] at q
          exact fun A1 H1 σ1 cls d y s1 e1 x1 => q A1 H1 cls d y s1 x1
        | bk ρ S1 =>
          rw [eb] at q
          exact q.elim
        | ct ρ S1 =>
          rw [eb] at q
          exact q.elim
        | bad =>
          rw [eb] at q
          exact q.elim
    · exact q.elim
/-- C.m(..) -/
structure CalC (P : Program) (w : World) (G : Gs) (mg : Str → Option Value) (base : Heap) (k c : Nat) (x m : Str) (n : Nat) (F : FM) : Prop where
  ex : ∃ mc q g, mg x = some (.ref (G.cls c)) ∧ ClX.CRead G.K (G.cls c) mc ∧ ClX.CMet G.K (G.cls c) mc m q g ∧ FnR P w G.K mg base (L2.CX P w) k g (SpC G F)
theorem FnOk.cls {k : Nat} {f : Addr} {fd : FuncData} {ps : List Str} {F : FM} (h : FnOk P w G.K mg base (L2.CX P w) k f fd ps (SpC G F)) (hb : Binds G.K fd ps []) : FnR P w G.K mg base (L2.CX P w) k f (SpC G F) := by
  have := h.raw hb .nil
  simpa using this
theorem SpC.iso {F : FM} {vs : List V} {H : Hp} {Q : VK} {E : XK} (h : SpC G (iso F) vs H Q E) : SpC G F vs H Q E := by
  obtain ⟨v0, ws, e, q⟩ := h
  exact ⟨v0, ws, e, SpM.iso q⟩
theorem FnR.isoC {k : Nat} {f : Addr} {F : FM} (h : FnR P w G.K mg base (L2.CX P w) k f (SpC G F)) : FnR P w G.K mg base (L2.CX P w) k f (SpC G (Sm.iso F)) := h.imp fun _ _ _ _ q => q.iso
end
section
variable {X : Cx} {G : Gs} {W : WX} {k n : Nat} {f : Addr} {F : FM} {x m : Str} {p pos apos : Pos} {e : Expr} {es : List Expr} {ma : M (List Dv)} {c : Nat}
theorem run_cmS {pins : List (Addr × Obj)} {σ : L2.St} {H : Hp} {s : Shared} {C q g : Addr} {us : List Value} {vs : List V} {Q : VK} (R : FnR X.prog X.w X.K X.mg X.base (L2.CX X.prog X.w) k g (SpC G F)) (B : Bx X G W k) (I : Inv X ((q, PySem.W.methodObj (.ref g) (.ref C)) :: pins) σ H s)
    (r : Vals vs us) (h : SpM G F vs H Q (Wa W σ)) : wpAny (model X.prog X.w) X.A (call (.ref q) us) (EP X pins σ Q) X.xe s := by
  have z : wpAny (model X.prog X.w) X.A (call (.ref q) us) (EP X ((q, PySem.W.methodObj (.ref g) (.ref C)) :: pins) σ Q) X.xe s := by
    refine wpAny_call (PySem.W.method_call (ClX.pin_at I) (codeAny_mono (R X.A X.stack s H (.ref C :: us) (V.ref C :: vs) Q (Wa W σ) B.room I.env0 (.cons rfl r) ⟨_, _, rfl, h⟩) fun r s' hq => ?_))
    cases r with
    | error e => exact passAt B.tk σ _ H s e s' I hq
    | ok fl =>
      cases fl with
      | ret u => exact I.after hq
      | next => exact False.elim hq
      | brk => exact False.elim hq
      | cont => exact False.elim hq
  exact thn z fun _ _ y => ClX.unpinE y
theorem yclsm {pl : Sem Bool} (R : CalC X.prog X.w G X.mg X.base k c x m n F) (B : Bx X G W k) (ha : PA X (e :: es) (tMA G W ma)) (hg : Gl X x := by rfl) (hdb : (x == ("__debug__" : Str)) = false := by decide)
    (hst : starEach (e :: es) X.env = (false, eval e X.env) :: starEach es X.env := by rfl) (hpl : (backTo pos (starEach es X.env)).any (·.1) = false := by rfl)
    (ht : eval (.Call (.Attribute (.Name x p) m apos) (e :: es) [] pos) X.env = (do
      let ov ← eval (.Name x p) X.env
      standAt apos.atName
      let (f, first) ← holding [ov] (getMethod ov m pl)
      callWith pos f first (backTo pos (starEach (e :: es) X.env)) (backToKw pos (keywordEach [] X.env))) := by rfl) :
    PE X (.Call (.Attribute (.Name x p) m apos) (e :: es) [] pos) (tM G W (mF F ma)) := by
  obtain ⟨mc, q0, g, hm, hr, hc, R⟩ := R.ex
  rw [B.hK] at hr hc R
  have he : PE X (.Name x p) (tC (.ref (G.cls c))) := pe_glob hg hm rfl hdb
  refine ⟨fun pins s σ H Q I h => ?_⟩
  obtain ⟨A, ρ, S, he', hs, p0⟩ := h
  refine PySem.W.methodCall_KW (pl := pl) (thn (he.run pins s σ H (fun y H1 => y = .ref (G.cls c) ∧ H1 = H) I ⟨rfl, rfl⟩) fun u s1 ⟨y, H1, I1, rx, ex, eH⟩ => ?_) ht
  subst ex eH
  obtain rfl : u = Value.ref (G.cls c) := rx
  refine ClX.getmethcm_ok I1 hr hc fun s2 I2 => ?_
  refine ClX.callwith_cm I2 (ClX.base_none I1 (Nat.le_refl _)) hc.fi (thn (ha.run pos _ s2 σ H1 (fun vs H2 => SpM G F vs H2 Q (Wa W σ)) I2 ⟨A, ρ, S, he', hs, Po.step p0 fun ds S1 A1 H2 x1 s1 p1 vs rvs => ⟨A1, S1, ds, rvs, s1, p1⟩⟩) fun us s3 ⟨vs, H2, I3, rv, q2⟩ => ⟨⟨ClX.pin_at I3, I3.kIn⟩, ?_⟩) hst hpl
  exact run_cmS R B I3 rv q2
end
end Sm
set_option maxHeartbeats 1000000
/-! Sm62: {k: v for x in a for y in b}: the walk. -/
namespace Sm
open PySem PySem.Spec PyProof.Rows L2
abbrev dC2 (kx vx t0 i0 t1 i1 : Expr) (ifs0 ifs1 : List Expr) (scope : Scope) (pos : Pos) : Expr := .DictComp kx vx [⟨t0, i0, ifs0, 0⟩, ⟨t1, i1, ifs1, 0⟩] scope pos
def testsS (ifs : List Expr) (env : PySem.Env) : Sem Bool := forIn ifs true fun c r => if r = true then do let ok ← isTrue c env (eval c env); pure (ForInStep.yield ok) else pure (ForInStep.yield r)
/-- one clause's turn: its item, its store, its tests -/
def ClT (prog : Program) (w : World) (A : Around) (E : Value → Shared → Prop) (tg : Expr) (ifs : List Expr) (it : Value) (env : PySem.Env) (stop : Shared → Prop) (yes no : Shared → Prop) (s : Shared) : Prop :=
  wpAny (model prog w) A (pyNext it) (fun r s1 => match r with
    | none => stop s1
    | some v => wpAny (model prog w) A (letOwnedTupleGo tg it v) (fun _ s2 => wpAny (model prog w) A (assign tg env v) (fun _ s3 => wpAny (model prog w) A (testsS ifs env) (fun ok s4 => if ok = true then yes s4 else no s4) E s3) E s2) E s1) E s
section
variable {prog : Program} {w : World} {A : Around} {R : Result → Shared → Prop} {s : Shared} {kx vx t0 i0 t1 i1 : Expr} {ifs0 ifs1 : List Expr} {scope : Scope} {pos : Pos} {it : Value} {D : Addr} {env : PySem.Env}
abbrev EnR (prog : Program) (w : World) (A : Around) (env : PySem.Env) (R : Result → Shared → Prop) : Value → Shared → Prop := notedBy (model prog w) A env fun e s' => R (.error e) s'
theorem dturn0 : compTurn (dC2 kx vx t0 i0 t1 i1 ifs0 ifs1 scope pos) 0 it (.ref D) env = (do
    standAt i0.pos
    match ← pyNext it with
    | none => pure (.done .next)
    | some v =>
      letOwnedTupleGo t0 it v
      assign t0 env v
      let ok ← testsS ifs0 env
      if ok then
        let x ← eval i1 env
        standAt i1.pos
        let x ← foldedSetIterable i1 env x
        let _ ← runOwn (.compStart (dC2 kx vx t0 i0 t1 i1 ifs0 ifs1 scope pos) 1 (← holding [x] (pyIter x)) (.ref D) env) env
      again (.compLoop (dC2 kx vx t0 i0 t1 i1 ifs0 ifs1 scope pos) 0 it (.ref D) env)) := by rfl
theorem dturn1 : compTurn (dC2 kx vx t0 i0 t1 i1 ifs0 ifs1 scope pos) 1 it (.ref D) env = (do
    standAt i1.pos
    match ← pyNext it with
    | none => pure (.done .next)
    | some v =>
      letOwnedTupleGo t1 it v
      assign t1 env v
      let ok ← testsS ifs1 env
      if ok then
        (do
          let kv ← eval kx env
          let vv ← holding [kv] (eval vx env)
          standAt { kx.pos with endLine := vx.pos.endLine, endCol := vx.pos.endCol }
          holding [kv, vv] (dictSet D kv vv))
      again (.compLoop (dC2 kx vx t0 i0 t1 i1 ifs0 ifs1 scope pos) 1 it (.ref D) env)) := by rfl
theorem dloop0 (hs : ∀ x, foldedSetIterable i1 env x = pure x) (I : Nat → Shared → Prop)
    (turn : ∀ n s, I n s → ClT prog w A (EnR prog w A env R) t0 ifs0 it env (R (.ok .next)) (fun s3 => wpAny (model prog w) A (eval i1 env) (fun x s4 => wpAny (model prog w) A (pyIter x) (fun it1 s5 =>
        codeAny (model prog w) A (.compStart (dC2 kx vx t0 i0 t1 i1 ifs0 ifs1 scope pos) 1 it1 (.ref D) env) (fun r s' => match r with
          | .ok _ => ∃ m, m < n ∧ I m s'
          | .error _ => False) s5) (EnR prog w A env R) s4) (EnR prog w A env R) s3) (fun s3 => ∃ m, m < n ∧ I m s3) s)
    (n : Nat) (h : I n s) : codeAny (model prog w) A (.compLoop (dC2 kx vx t0 i0 t1 i1 ifs0 ifs1 scope pos) 0 it (.ref D) env) R s := by
  refine codeAny_loop rfl I (fun n s hI => ?_) n h
  show wpAny _ A ((compTurn (dC2 kx vx t0 i0 t1 i1 ifs0 ifs1 scope pos) 0 it (.ref D) env).onRaise (fun x => do noteFrame x env; theTreesLotGoes x)) _ _ s
  refine wpAny_noted ?_
  rw [dturn0]
  have t := turn n s hI
  unfold ClT at t
  refine wpAny_bind (wpAny_standAt (wpAny_bind (wpAny_mono t (fun r s1 h1 => ?_) fun _ _ h' => h')))
  cases r with
  | none => exact wpAny_pure h1
  | some v =>
    refine wpAny_bind (wpAny_mono h1 (fun _ s2 h2 => wpAny_bind (wpAny_mono h2 (fun _ s3 h3 => wpAny_bind (wpAny_mono h3 (fun ok s4 h4 => ?_) fun _ _ h' => h')) fun _ _ h' => h')) fun _ _ h' => h')
    by_cases e : ok = true
    · subst e
      refine wpAny_bind (wpAny_mono (show wpAny _ _ (eval i1 env) _ _ s4 from h4) (fun x s5 h5 => ?_) fun _ _ h' => h')
      refine wpAny_bind (wpAny_standAt (wpAny_bind (wpAny_of_eq (hs x) (wpAny_bind (wpAny_holding (wpAny_mono h5 (fun it1 s6 h6 => ?_) fun _ _ h' => h'))))))
      refine wpAny_bind (wpAny_runOwn ?_)
      rw [Around.mark_none]
      refine codeAny_mono h6 fun r s' hr => ?_
      cases r with
      | error e => exact hr.elim
      | ok f =>
        first
          | exact wpAny_pure ⟨rfl, hr⟩
          | exact wpAny_bind (wpAny_pure (wpAny_pure ⟨rfl, hr⟩))
    · have e' : ok = false := by simpa using e
      subst e'
      exact wpAny_pure ⟨rfl, h4⟩
theorem dloop1 (I : Nat → Shared → Prop)
    (turn : ∀ n s, I n s → ClT prog w A (EnR prog w A env R) t1 ifs1 it env (R (.ok .next)) (fun s3 => wpAny (model prog w) A (eval kx env) (fun kv s4 => wpAny (model prog w) A (eval vx env) (fun vv s5 =>
        wpAny (model prog w) A (dictSet D kv vv) (fun _ s6 => ∃ m, m < n ∧ I m s6) (EnR prog w A env R) s5) (EnR prog w A env R) s4) (EnR prog w A env R) s3) (fun s3 => ∃ m, m < n ∧ I m s3) s)
    (n : Nat) (h : I n s) : codeAny (model prog w) A (.compLoop (dC2 kx vx t0 i0 t1 i1 ifs0 ifs1 scope pos) 1 it (.ref D) env) R s := by
  refine codeAny_loop rfl I (fun n s hI => ?_) n h
  show wpAny _ A ((compTurn (dC2 kx vx t0 i0 t1 i1 ifs0 ifs1 scope pos) 1 it (.ref D) env).onRaise (fun x => do noteFrame x env; theTreesLotGoes x)) _ _ s
  refine wpAny_noted ?_
  rw [dturn1]
  have t := turn n s hI
  unfold ClT at t
  refine wpAny_bind (wpAny_standAt (wpAny_bind (wpAny_mono t (fun r s1 h1 => ?_) fun _ _ h' => h')))
  cases r with
  | none => exact wpAny_pure h1
  | some v =>
    refine wpAny_bind (wpAny_mono h1 (fun _ s2 h2 => wpAny_bind (wpAny_mono h2 (fun _ s3 h3 => wpAny_bind (wpAny_mono h3 (fun ok s4 h4 => ?_) fun _ _ h' => h')) fun _ _ h' => h')) fun _ _ h' => h')
    by_cases e : ok = true
    · subst e
      exact wpAny_bind (wpAny_bind (wpAny_mono (show wpAny _ _ (eval kx env) _ _ s4 from h4) (fun kv s5 h5 => wpAny_bind (wpAny_holding (wpAny_mono h5 (fun vv s6 h6 => wpAny_bind (wpAny_standAt (wpAny_holding (wpAny_mono h6 (fun _ s7 h7 => wpAny_pure ⟨rfl, h7⟩) fun _ _ h' => h')))) fun _ _ h' => h'))) fun _ _ h' => h'))
    · have e' : ok = false := by simpa using e
      subst e'
      exact wpAny_pure ⟨rfl, h4⟩
theorem dstart1 (h0 : codeAny (model prog w) A (.compLoop (dC2 kx vx t0 i0 t1 i1 ifs0 ifs1 scope pos) 1 it (.ref D) env) R s)
    (h : wpAny (model prog w) A (pyIter it) (fun it' s' => codeAny (model prog w) A (.compLoop (dC2 kx vx t0 i0 t1 i1 ifs0 ifs1 scope pos) 1 it' (.ref D) env) R s') (EnR prog w A env R) s) :
    codeAny (model prog w) A (.compStart (dC2 kx vx t0 i0 t1 i1 ifs0 ifs1 scope pos) 1 it (.ref D) env) R s := by
  refine codeAny_of_tree ?_
  show wpAny _ _ ((compStart (dC2 kx vx t0 i0 t1 i1 ifs0 ifs1 scope pos) 1 it (.ref D) env).onRaise (fun x => do noteFrame x env; standAt theWindowsPlace)) _ _ s
  refine wpAny_notedAt ?_
  unfold compStart
  show wpAny _ _ (ask >>= _) _ _ s
  refine wpAny_bind (wpAny_askSetting (wpAny_ite ?_))
  split
  · first
      | exact wpAny_bind (wpAny_pure (wpAny_pure (And.intro rfl h0)))
      | exact wpAny_pure (And.intro rfl h0)
  · refine wpAny_bind (wpAny_rule ?_)
    first
      | exact wpAny_bind (wpAny_standAt (wpAny_bind (wpAny_mono h (fun it' s' h' => wpAny_pure (And.intro rfl h')) fun _ _ x => x)))
      | (show wpAny _ _ (standAt i1.pos >>= _) _ _ s; exact wpAny_bind (wpAny_standAt (wpAny_bind (wpAny_mono h (fun it' s' h' => wpAny_pure (And.intro rfl h')) fun _ _ x => x))))
end
/-- a clause's turn in a context: it stops, or an item comes and is stored; while the turn lasts the iterator's objects are pinned -/
theorem clT_run {Y : Cx} {pins : List (Addr × Obj)} {σ : L2.St} {H : Hp} {s : Shared} {tg : Expr} {ifs : List Expr} {J : It} {fp : List Addr} {ita : Addr} {tn : Nat → Heap → Prop} {g : TG} {tt : TT} {i : Nat} {E : Value → Shared → Prop} {stop yes no : Shared → Prop}
    (hc : Y.calm = true) (hE : ∀ u s, Y.xe u s → E u s) (T : Turn Y.prog Y.w Y.K tg J fp ita tn) (I : Inv Y pins σ H s) (nf : ∀ b ∈ fp, FpOk Y pins H b) (st : tn i s.heap) (pg : PG Y tg g) (pt : PTs Y ifs tt)
    {Pw : L2.St → Prop} {Qt : L2.St → Bool → Hp → Prop}
    (h : (J.stop i H ∧ ∀ s', Inv Y pins σ H s' → stop s') ∨ (J.go i H ∧ ∀ x H', J.yld i H x H' → g x σ H' fun σ2 H2 => Pw σ2 ∧ tt σ2 H2 fun b H3 => Qt σ2 b H3))
    (k : ∀ σ2 b H3 s' pn, Pw σ2 → Qt σ2 b H3 → (∀ σ' H' s'', Inv Y (pins ++ pn) σ' H' s'' → Inv Y pins σ' H' s'' ∧ tn (i + 1) s''.heap ∧ ∀ b ∈ fp, H' b = none) → Inv Y (pins ++ pn) σ2 H3 s' → if b = true then yes s' else no s') :
    ClT Y.prog Y.w Y.A E tg ifs (.ref ita) Y.env stop yes no s := by
  unfold ClT
  rcases h with ⟨hstop, k0⟩ | ⟨hgo, k0⟩
  · refine wpAny_mono (T.done Y rfl rfl rfl hc i pins s σ H E I nf st hstop) (fun r s1 ⟨hr, I1⟩ => ?_) fun _ _ y => y
    subst hr
    exact k0 s1 I1
  · refine wpAny_mono (T.item Y rfl rfl rfl hc i pins s σ H E I nf st hgo) (fun r s1 ⟨u, hr, h1⟩ => ?_) fun _ _ y => y
    subst hr
    refine wpAny_mono h1 (fun _ s2 ⟨x, H2, I2, r2, y2, st2, n2⟩ => ?_) fun _ _ y => y
    have I2' := I2.pinned (fun b hb => ⟨n2 b hb, (nf b hb).2⟩) (T.obj _ _ st2)
    refine wpAny_mono (pg.run _ s2 σ H2 x u _ I2' r2 (k0 x H2 y2)) (fun _ s3 ⟨σ3, H3, I3, w3, q3⟩ => ?_) hE
    refine wpAny_mono (pt.run _ s3 σ3 H3 _ I3 q3) (fun b s4 ⟨H4, I4, q4⟩ => ?_) hE
    refine k σ3 b H4 s4 (pinsAt fp s2.heap) w3 q4 (fun σ' H' s'' I' => ?_) I4
    have at_ : ∀ b ∈ fp, ∀ o, s2.heap.get? b = some o → s''.heap.get? b = some o ∧ H' b = none := fun b hb o e =>
      let z := I'.pin (b, o) (List.mem_append_right _ (List.mem_append_right _ (mem_pinsAt hb e)))
      ⟨z.1, z.2.1⟩
    refine ⟨I'.unpinned, T.keep _ _ _ st2 fun b hb o e => (at_ b hb o e).1, fun b hb => ?_⟩
    obtain ⟨o, e, _⟩ := T.obj _ _ st2 b hb
    exact (at_ b hb o e).2
/-- {k: v for .. if .. for .. if ..}: D the new dict -/
def tDc2 (wi : TI) (g : TG) (tt : TT) (wi1 : TI) (g1 : TG) (tt1 : TT) (tk tv : TE) (vs vs1 : List Nat) : TE := fun σ H Q => wi σ H fun J H1 => ∀ D, H1 D = none → ∃ W : Nat → Nat → Hp → Prop, (∃ m, W 0 m (upd H1 D (.dK []))) ∧ ∀ i m H, W i m H →
  (J.stop i H ∧ Q (.ref D) H) ∨ (J.go i H ∧ ∃ Nx : Hp → Prop, (∀ H', Nx H' → ∃ m', m' < m ∧ W (i + 1) m' H') ∧ ∀ x H', J.yld i H x H' → g x (wipe σ vs) H' fun σ2 H2 => wipe σ2 vs = wipe σ vs ∧ tt σ2 H2 fun b H3 =>
    if b = true then wi1 σ2 H3 fun J1 H4 => ∃ W1 : Nat → Nat → Hp → Prop, (∃ m, W1 0 m H4) ∧ ∀ j k H, W1 j k H →
      (J1.stop j H ∧ Nx H) ∨ (J1.go j H ∧ ∃ Nx1 : Hp → Prop, (∀ H', Nx1 H' → ∃ k', k' < k ∧ W1 (j + 1) k' H') ∧ ∀ x H', J1.yld j H x H' → g1 x (wipe σ2 vs1) H' fun σ3 H5 => wipe σ3 vs1 = wipe σ2 vs1 ∧ tt1 σ3 H5 fun b H6 =>
        if b = true then tk σ3 H6 fun y H7 => tv σ3 H7 fun z H8 => ∃ kvs ky, y = kV ky ∧ H8 D = some (.dK kvs) ∧ kvs.length < sizeLine ∧ Nx1 (upd H8 D (.dK (putK kvs ky z))) else Nx1 H6)
    else Nx H3)
section
variable {X : Cx}
/-- both loops, in the block's context Y -/
theorem dc2_loop {Y : Cx} {R : Result → Shared → Prop} {σ0 : L2.St} {s : Shared} {kx vx tg iter tg1 iter1 : Expr} {ifs ifs1 : List Expr} {scope : Scope} {pos : Pos} {vs vs1 : List Nat} {wi1 : TI} {g g1 : TG} {tt tt1 : TT} {tk tv : TE} {J : It} {fp : List Addr} {ita D : Addr} {tn : Nat → Heap → Prop} {Qd : Hp → Prop} {W : Nat → Nat → Hp → Prop} {m0 : Nat} {H0 : Hp}
    (hc : Y.calm = true) (hE : ∀ u s, Y.xe u s → False) (hv : ∀ i ∈ vs1, i ∈ vs) (hs1 : ∀ x, foldedSetIterable iter1 Y.env x = pure x)
    (pg : PG Y tg g) (pt : PTs Y ifs tt) (pi1 : PI Y tg1 iter1 wi1) (pg1 : PG Y tg1 g1) (pt1 : PTs Y ifs1 tt1) (pk : PE Y kx tk) (pv : PE Y vx tv)
    (T : Turn Y.prog Y.w Y.K tg J fp ita tn) (I0 : Inv Y [] (wipe σ0 vs) H0 s) (st0 : tn 0 s.heap) (n0 : ∀ b ∈ fp, H0 b = none) (fs : ∀ H', (∀ b ∈ fp, H' b = none) → ∀ b ∈ fp, FpOk Y [] H' b) (w0 : W 0 m0 H0)
    (turn : ∀ i m H, W i m H → (J.stop i H ∧ Qd H) ∨ (J.go i H ∧ ∃ Nx : Hp → Prop, (∀ H', Nx H' → ∃ m', m' < m ∧ W (i + 1) m' H') ∧ ∀ x H', J.yld i H x H' → g x (wipe σ0 vs) H' fun σ2 H2 => wipe σ2 vs = wipe σ0 vs ∧ tt σ2 H2 fun b H3 =>
      if b = true then wi1 σ2 H3 fun J1 H4 => ∃ W1 : Nat → Nat → Hp → Prop, (∃ m, W1 0 m H4) ∧ ∀ j k H, W1 j k H →
        (J1.stop j H ∧ Nx H) ∨ (J1.go j H ∧ ∃ Nx1 : Hp → Prop, (∀ H', Nx1 H' → ∃ k', k' < k ∧ W1 (j + 1) k' H') ∧ ∀ x H', J1.yld j H x H' → g1 x (wipe σ2 vs1) H' fun σ3 H5 => wipe σ3 vs1 = wipe σ2 vs1 ∧ tt1 σ3 H5 fun b H6 =>
          if b = true then tk σ3 H6 fun y H7 => tv σ3 H7 fun z H8 => ∃ kvs ky, y = kV ky ∧ H8 D = some (.dK kvs) ∧ kvs.length < sizeLine ∧ Nx1 (upd H8 D (.dK (putK kvs ky z))) else Nx1 H6)
      else Nx H3))
    (fin : ∀ H' s', Inv Y [] (wipe σ0 vs) H' s' → (∀ b ∈ fp, H' b = none) → Qd H' → R (.ok .next) s') :
    codeAny (model Y.prog Y.w) Y.A (.compLoop (dC2 kx vx tg iter tg1 iter1 ifs ifs1 scope pos) 0 (.ref ita) (.ref D) Y.env) R s := by
  refine dloop0 hs1 (fun n s' => ∃ i H', Inv Y [] (wipe σ0 vs) H' s' ∧ tn i s'.heap ∧ (∀ b ∈ fp, H' b = none) ∧ W i n H') ?_ m0 ⟨0, H0, I0, st0, n0, w0⟩
  rintro n s5 ⟨i, H5, I5, st5, n5, w5⟩
  have hEE : ∀ {E : Value → Shared → Prop} u s, Y.xe u s → E u s := fun u s z => (hE u s z).elim
  -- what the turn's end comes to
  have back : ∀ {pn : List (Addr × Obj)} {Nx : Hp → Prop} {σ9 : L2.St} {H' : Hp} {s' : Shared}, (∀ σ' H' s'', Inv Y ([] ++ pn) σ' H' s'' → Inv Y [] σ' H' s'' ∧ tn (i + 1) s''.heap ∧ ∀ b ∈ fp, H' b = none) → (∀ H', Nx H' → ∃ m', m' < n ∧ W (i + 1) m' H') → Inv Y ([] ++ pn) σ9 H' s' →
      (wipe σ0 vs).length = σ9.length → (∀ (j : Nat) v, (wipe σ0 vs)[j]? = some (some v) → σ9[j]? = some (some v)) → Nx H' → ∃ m, m < n ∧ ∃ i H', Inv Y [] (wipe σ0 vs) H' s' ∧ tn i s'.heap ∧ (∀ b ∈ fp, H' b = none) ∧ W i m H' := fun {pn Nx σ9 H' s'} un hNx I' hl hk nx => by
    obtain ⟨I2, t2, n2⟩ := un _ _ _ I'
    obtain ⟨m', hm, w'⟩ := hNx _ nx
    exact ⟨m', hm, i + 1, H', I2.weak hl hk, t2, n2, w'⟩
  rcases turn i n H5 w5 with ⟨stop, qq⟩ | ⟨go, Nx, hNx, step⟩
  · exact clT_run (Pw := fun _ => False) (Qt := fun _ _ _ => False) hc hEE T I5 (fs H5 n5) st5 pg pt (.inl ⟨stop, fun s' I' => fin H5 s' I' n5 qq⟩) fun _ _ _ _ _ z => z.elim
  · refine clT_run hc hEE T I5 (fs H5 n5) st5 pg pt (.inr ⟨go, step⟩) fun σ8 b H9 s9 pn hw8 q9 un I9 => ?_
    have hl8 : (wipe σ0 vs).length = σ8.length := by rw [← hw8, wipe_length]
    have hk8 : ∀ (j : Nat) v, (wipe σ0 vs)[j]? = some (some v) → σ8[j]? = some (some v) := fun j v e => by
      rw [← hw8] at e
      exact (wipe_some e).1
    have hk9 : ∀ (j : Nat) v, (wipe σ0 vs)[j]? = some (some v) → (wipe σ8 vs1)[j]? = some (some v) := fun j v e => by
      rw [← hw8] at e
      obtain ⟨e1, e2⟩ := wipe_some e
      rw [wipe_out fun z => e2 (hv j z)]
      exact e1
    cases b with
    | false =>
      simp only [Bool.false_eq_true, if_false] at q9 ⊢
      exact back un hNx I9 hl8 hk8 q9
    | true =>
      simp only [if_true] at q9 ⊢
      refine wpAny_mono (pi1.run _ s9 σ8 H9 _ I9 q9) (fun xv s10 hx => wpAny_mono hx (fun itv s11 h11 => ?_) hEE) hEE
      obtain ⟨it1, fp1, tn1, J1, H11, e1, I11, T1, st11, f11, W1, ⟨m1, w1⟩, turn1⟩ := h11
      subst e1
      have fs1 : ∀ {H' : Hp}, (∀ b ∈ fp1, H' b = none) → ∀ b ∈ fp1, FpOk Y ([] ++ pn) H' b := fun hn b hb => ⟨hn b hb, (f11 b hb).2⟩
      have loop1 : codeAny (model Y.prog Y.w) Y.A (.compLoop (dC2 kx vx tg iter tg1 iter1 ifs ifs1 scope pos) 1 (.ref it1) (.ref D) Y.env) (fun r s' => match r with
          | .ok _ => ∃ m, m < n ∧ ∃ i H', Inv Y [] (wipe σ0 vs) H' s' ∧ tn i s'.heap ∧ (∀ b ∈ fp, H' b = none) ∧ W i m H'
          | .error _ => False) s11 := by
        refine dloop1 (fun k s' => ∃ j H', Inv Y ([] ++ pn) (wipe σ8 vs1) H' s' ∧ tn1 j s'.heap ∧ (∀ b ∈ fp1, H' b = none) ∧ W1 j k H') ?_ m1 ⟨0, H11, I11.weak (wipe_length _ _) (fun j v e => (wipe_some e).1), st11, fun b hb => (f11 b hb).1, w1⟩
        rintro k s12 ⟨j, H12, I12, st12, n12, w12⟩
        rcases turn1 j k H12 w12 with ⟨stop1, nx1⟩ | ⟨go1, Nx1, hNx1, step1⟩
        · exact clT_run (Pw := fun _ => False) (Qt := fun _ _ _ => False) hc hEE T1 I12 (fs1 n12) st12 pg1 pt1 (.inl ⟨stop1, fun s' I' => back un hNx I' (hl8.trans (wipe_length σ8 vs1).symm) hk9 nx1⟩) fun _ _ _ _ _ z => z.elim
        · refine clT_run hc hEE T1 I12 (fs1 n12) st12 pg1 pt1 (.inr ⟨go1, step1⟩) fun σ15 b1 H16 s16 pn1 hw15 q16 un1 I16 => ?_
          have back1 : ∀ {s' : Shared} {H' : Hp}, Inv Y (([] ++ pn) ++ pn1) σ15 H' s' → Nx1 H' → ∃ m, m < k ∧ ∃ j H', Inv Y ([] ++ pn) (wipe σ8 vs1) H' s' ∧ tn1 j s'.heap ∧ (∀ b ∈ fp1, H' b = none) ∧ W1 j m H' := fun {s' H'} I' nx => by
            obtain ⟨I2, t2, n2⟩ := un1 _ _ _ I'
            obtain ⟨m', hm, w'⟩ := hNx1 _ nx
            exact ⟨m', hm, j + 1, H', I2.weak (by rw [← hw15, wipe_length]) (fun j v e => by rw [← hw15] at e; exact (wipe_some e).1), t2, n2, w'⟩
          cases b1 with
          | false =>
            simp only [Bool.false_eq_true, if_false] at q16 ⊢
            exact back1 I16 q16
          | true =>
            simp only [if_true] at q16 ⊢
            refine wpAny_mono (pk.run _ s16 σ15 H16 _ I16 q16) (fun z s17 ⟨yk, H17, I17, r17, q17⟩ => ?_) hEE
            refine wpAny_mono (pv.run _ s17 σ15 H17 _ I17 q17) (fun z2 s18 ⟨yv, H18, I18, r18, kvs, ky, ek, hD18, hz18, nx⟩ => ?_) hEE
            subst ek
            exact d_dictSet I18 hD18 hz18 r17 r18 fun s19 I19 => back1 I19 nx
      exact dstart1 loop1 (T1.self Y.A 0 _ _ _ st11 loop1)
/-- as a value -/
theorem pe_dc2 {kx vx tg iter tg1 iter1 : Expr} {ifs ifs1 : List Expr} {scope : Scope} {own : List (Str × Nat)} {vs1 : List Nat} {pos : Pos} {wi wi1 : TI} {g g1 : TG} {tt tt1 : TT} {tk tv : TE} (hc : X.calm = true) (hN : X.N.Nodup) (hi : PI X tg iter wi) (ok : BlkOk X.N X.env.scope scope own) (hv : ∀ i ∈ vs1, i ∈ own.map (·.2))
    (hg : ∀ (s : Shared) (H : Hp) (C : Addr) (cl : List (Str × Addr)) (fp : List Addr), PG (X.blk s H scope (compEnvC scope cl C X.env) fp) tg g) (ht : ∀ (s : Shared) (H : Hp) (C : Addr) (cl : List (Str × Addr)) (fp : List Addr), PTs (X.blk s H scope (compEnvC scope cl C X.env) fp) ifs tt)
    (hi1 : ∀ (s : Shared) (H : Hp) (C : Addr) (cl : List (Str × Addr)) (fp : List Addr), PI (X.blk s H scope (compEnvC scope cl C X.env) fp) tg1 iter1 wi1)
    (hg1 : ∀ (s : Shared) (H : Hp) (C : Addr) (cl : List (Str × Addr)) (fp : List Addr), PG (X.blk s H scope (compEnvC scope cl C X.env) fp) tg1 g1) (ht1 : ∀ (s : Shared) (H : Hp) (C : Addr) (cl : List (Str × Addr)) (fp : List Addr), PTs (X.blk s H scope (compEnvC scope cl C X.env) fp) ifs1 tt1)
    (hk : ∀ (s : Shared) (H : Hp) (C : Addr) (cl : List (Str × Addr)) (fp : List Addr), PE (X.blk s H scope (compEnvC scope cl C X.env) fp) kx tk) (he : ∀ (s : Shared) (H : Hp) (C : Addr) (cl : List (Str × Addr)) (fp : List Addr), PE (X.blk s H scope (compEnvC scope cl C X.env) fp) vx tv)
    (hs : ∀ x, foldedSetIterable iter X.env x = pure x := by intro _; rfl) (hs1 : ∀ env x, foldedSetIterable iter1 env x = pure x := by intro _ _; rfl) :
    PE X (dC2 kx vx tg iter tg1 iter1 ifs ifs1 scope pos) (tDc2 wi g tt wi1 g1 tt1 tk tv (own.map (·.2)) vs1) := by
  refine ⟨fun pins s σ H Q I h => ?_⟩
  have hfree : ∀ y ∈ scope.names, y.2 = .free → ∃ c, X.env.cells.lookup y.1 = some c := fun y hy e => (ok.free y hy e).elim (fun k => I.ok.has _ (.inl k)) fun k => I.ok.has _ (.inr k)
  rw [arm_eval_DictComp]
  refine wpAny_comprehension_free (use := none) rfl hs (closure_ok hfree) ok.kind (fun y hy e => by rw [ok.uniq y hy, e]) (thn (hi.run pins s σ H _ I h) fun xv s1 hx => thn hx fun itv s2 h2 => ?_)
  obtain ⟨ita, fp, tn, J, H2, rfl, I2, T, st2, f2, q⟩ := h2
  refine wpAny_newObj_type (newEnv_comp ?_)
  obtain ⟨W, ⟨m0, w0⟩, turn⟩ := q s2.heap.objs.size (I2.hok.fresh (Nat.le_refl _))
  -- the new dict lies behind all that there is
  have I3 : Inv X pins σ (upd H2 s2.heap.objs.size (.dK [])) { s2 with heap := s2.heap.push { cls := .type "dict", data := .dict #[] } } :=
    I2.laid (t' := s2.toks) (fun b o e => Heap.get?_push_of_some _ e) (Nat.le_refl _) (dk_empty s2.heap I2.big)
  have old : ∀ b ∈ fp, b < s2.heap.objs.size := fun b hb => by
    obtain ⟨o, e, _⟩ := T.obj _ _ st2 b hb
    exact Heap.lt_size e
  have f3 : ∀ b ∈ fp, FpOk X pins (upd H2 s2.heap.objs.size (.dK [])) b ∧ b < (s2.heap.push { cls := .type "dict", data := .dict #[] }).objs.size := fun b hb =>
    ⟨⟨by rw [upd_ne (Nat.ne_of_lt (old b hb))]; exact (f2 b hb).1, (f2 b hb).2⟩, by rw [Heap.size_push]; exact Nat.lt_succ_of_lt (old b hb)⟩
  have st3 : tn 0 (s2.heap.push { cls := .type "dict", data := .dict #[] }) := T.keep _ _ _ st2 fun b _ o e => Heap.get?_push_of_some _ e
  generalize s2.heap.objs.size = D at I3 f3 w0 turn ⊢
  generalize upd H2 D (.dK []) = H3 at I3 f3 w0
  generalize s2.heap.push { cls := .type "dict", data := .dict #[] } = h3 at I3 f3 st3 ⊢
  generalize hs3 : ({ s2 with heap := h3 } : Shared) = s3 at I3 ⊢
  have eh : s3.heap = h3 := by rw [← hs3]
  rw [← eh] at f3 st3
  have I4 := block_start I3 ok hN f3
  have pg := hg s3 H3 s3.heap.objs.size (cellsFrom (s3.heap.objs.size + 1) scope.names (cloFrom X.env.cells scope.names [])) fp
  have pt := ht s3 H3 s3.heap.objs.size (cellsFrom (s3.heap.objs.size + 1) scope.names (cloFrom X.env.cells scope.names [])) fp
  have pi1 := hi1 s3 H3 s3.heap.objs.size (cellsFrom (s3.heap.objs.size + 1) scope.names (cloFrom X.env.cells scope.names [])) fp
  have pg1 := hg1 s3 H3 s3.heap.objs.size (cellsFrom (s3.heap.objs.size + 1) scope.names (cloFrom X.env.cells scope.names [])) fp
  have pt1 := ht1 s3 H3 s3.heap.objs.size (cellsFrom (s3.heap.objs.size + 1) scope.names (cloFrom X.env.cells scope.names [])) fp
  have pk := hk s3 H3 s3.heap.objs.size (cellsFrom (s3.heap.objs.size + 1) scope.names (cloFrom X.env.cells scope.names [])) fp
  have pv := he s3 H3 s3.heap.objs.size (cellsFrom (s3.heap.objs.size + 1) scope.names (cloFrom X.env.cells scope.names [])) fp
  show codeAny _ _ (.compStart (dC2 kx vx tg iter tg1 iter1 ifs ifs1 scope pos) 0 (.ref ita) (.ref D) (compEnvC scope (cellsFrom (s3.heap.objs.size + 1) scope.names (cloFrom X.env.cells scope.names [])) s3.heap.objs.size X.env)) (compPost (model X.prog X.w) X.A X.xe none (EP X pins σ Q) (.ref D) s3.heap.objs.size) { s3 with heap := pushCells (s3.heap.push { cls := .type "dict", data := .dict #[] }) scope.names }
  have st4 : tn 0 (pushCells (s3.heap.push { cls := .type "dict", data := .dict #[] }) scope.names) := T.keep _ _ _ st3 fun b _ o e => pushCells_keeps _ _ _ _ (Heap.get?_push_of_some _ e)
  generalize hce : compEnvC scope (cellsFrom (s3.heap.objs.size + 1) scope.names (cloFrom X.env.cells scope.names [])) s3.heap.objs.size X.env = ce at I4 pg pt pi1 pg1 pt1 pk pv ⊢
  have cL : ce.locals = s3.heap.objs.size := by rw [← hce]; rfl
  generalize hs4 : ({ s3 with heap := pushCells (s3.heap.push { cls := .type "dict", data := .dict #[] }) scope.names } : Shared) = s4 at I4 ⊢
  have st4' : tn 0 s4.heap := by rw [← hs4]; exact st4
  have fs : ∀ H', (∀ b ∈ fp, H' b = none) → ∀ b ∈ fp, FpOk (X.blk s3 H3 scope ce fp) [] H' b := fun H' hn b hb =>
    ⟨hn b hb, (I4.ok.exf b hb).1, I4.ok.exfs b hb, .inl hb, fun x c e => (I4.ok.exf b hb).2 x c e, fun p hp => nomatch hp⟩
  -- back in the def's context
  have fin : ∀ H5 s6, Inv (X.blk s3 H3 scope ce fp) [] (wipe σ (own.map (·.2))) H5 s6 → (∀ b ∈ fp, H5 b = none) → Q (.ref D) H5 → compPost (model X.prog X.w) X.A X.xe none (EP X pins σ Q) (.ref D) s3.heap.objs.size (.ok .next) s6 := fun H5 s6 I6 n6 qq => by
    have I7 : Inv X pins σ H5 s6 := I3.call' (ch := fp) I6.os I6.base I6.hok I6.bare fun b hb => ⟨(f3 b hb).1.2.2.2.1, (f3 b hb).1.2.1, (f3 b hb).1.2.2.2.2.1, (f3 b hb).1.2.2.2.2.2⟩
    have nC : H5 s3.heap.objs.size = none := by
      rw [← cL]
      exact I6.free
    obtain ⟨m, hn, _⟩ := I6.loc
    have hn' : s6.heap.Ns s3.heap.objs.size m := by
      rw [← cL]
      exact hn
    obtain ⟨f0, f1, f2', f3', f4, f5⟩ := I3.fpOk (H' := H5) (Nat.le_refl _) nC
    exact ⟨m, hn', fun h'' sb => ⟨.ref D, H5, I7.turned (t' := s6.toks) (fun b o hb e => (sb.2 b hb).trans e) f0 f1 f3' f4 f5, rfl, qq⟩⟩
  have lp := dc2_loop (Y := X.blk s3 H3 scope ce fp) (R := compPost (model X.prog X.w) X.A X.xe none (EP X pins σ Q) (.ref D) s3.heap.objs.size) (iter := iter) (pos := pos) (scope := scope) (σ0 := σ) hc (fun _ _ z => z) hv (hs1 ce) pg pt pi1 pg1 pt1 pk pv T I4 st4' (fun b hb => (f3 b hb).1.1) fs w0 turn fin
  exact codeAny_compStart_dict lp (T.self X.A 0 _ _ _ st4' lp)
end
end Sm
set_option maxHeartbeats 1000000
/-! Sm63: {k: v for x in a for y in b}: its mirror; zip as the inner source. -/
namespace Sm
open PySem PySem.Spec PyProof.Rows L2
section
variable {X : Cx} {G : Gs} {W : WX} {kk : Nat} {kx vx tg iter tg1 iter1 : Expr} {ifs ifs1 : List Expr} {scope : Scope} {own : List (Str × Nat)} {pos : Pos} {it it1 : M (List Dt)} {g g1 : GM} {t t1 : TG} {L L1 : List Nat} {cm cm1 : M Bool} {ek ev : M Dv}
/-- the loop from any start -/
theorem dc_loopG {σ : L2.St} {H1 H0 Hb : Hp} {A1 A0 Ab : Al} {ρ : Env} {S0 : Sto} {ts : List Dt} {J : It} {D : Addr} {E : XK} {vs : List Nat} {Fin : Hp → Prop} {ds0 : List Dv} {kvs0 : List (Key × V)} {β : Type} (hgs : TgS G t g L) (hL : ∀ i ∈ L, i ∈ vs) (wk : Wk G J A1 H1 ts) (he : EnvR G A1 H1 ρ σ) (hD : H1 D = none)
    (s0 : StR G A0 S0 H0) (x0 : ExtB D A1 H1 A0 H0) (hD0 : H0 D = some (.dK kvs0)) (r0 : RDs G A0 H0 ds0 (kvs0.map (·.2))) (hlen : kvs0.length + ts.length ≤ 16777216)
    {kf : List Key → List Dv → Sto → Rz β} {Qf : Al → Hp → β → Prop}
    (p : Po G E Ab Hb ((dcL g cm ek ev (wipeE ρ vs) ts (kvs0.map (·.1)) ds0 S0).bind fun q S2 => kf q.1 q.2 S2) Qf)
    (hfin : ∀ ds kvs S' A' H', StR G A' S' H' → ExtB D A1 H1 A' H' → H' D = some (.dK kvs) → RDs G A' H' ds (kvs.map (·.2)) → kvs.length ≤ kvs0.length + ts.length → Po G E Ab Hb (kf (kvs.map (·.1)) ds S') Qf → Fin H') :
    ∃ W : Nat → Nat → Hp → Prop, (∃ m, W 0 m H0) ∧ ∀ i m H, W i m H →
      (J.stop i H ∧ Fin H) ∨ (J.go i H ∧ ∃ Nx : Hp → Prop, (∀ H', Nx H' → ∃ m', m' < m ∧ W (i + 1) m' H') ∧ ∀ x H', J.yld i H x H' → t x (wipe σ vs) H' fun σ2 H2 => wipe σ2 vs = wipe σ vs ∧ tMT G W0 cm σ2 H2 fun b H3 =>
        if b = true then tM G W0 ek σ2 H3 fun y H4 => tM G W0 ev σ2 H4 fun z H5 => ∃ kvs k, y = kV k ∧ H5 D = some (.dK kvs) ∧ kvs.length < sizeLine ∧ Nx (upd H5 D (.dK (putK kvs k z))) else Nx H3) := by
  let Inw : Nat → Hp → Prop := fun i H' => ∃ A' S' ds kvs, StR G A' S' H' ∧ ExtB D A1 H1 A' H' ∧ H' D = some (.dK kvs) ∧ RDs G A' H' ds (kvs.map (·.2)) ∧ kvs.length ≤ kvs0.length + i ∧ i ≤ ts.length ∧
    Po G E Ab Hb ((dcL g cm ek ev (wipeE ρ vs) (ts.drop i) (kvs.map (·.1)) ds S').bind fun q S2 => kf q.1 q.2 S2) Qf
  refine ⟨fun i m H' => m = ts.length - i ∧ Inw i H', ⟨_, rfl, A0, S0, ds0, kvs0, s0, x0, hD0, r0, Nat.le_refl _, Nat.zero_le _, by simpa using p⟩, fun i m H' hW => ?_⟩
  obtain ⟨hm, A', S', ds, kvs, s', x', hDw, rds, hwl, hi, q⟩ := hW
  by_cases hlt : i < ts.length
  · refine .inr ⟨wk.go i A' H' hlt (.ofB x' hD), Inw (i + 1), fun H2 hN => ⟨ts.length - (i + 1), by omega, rfl, hN⟩, fun x H2 hy => ?_⟩
    obtain ⟨d, ed, xy, sy, rv⟩ := wk.yld i A' H' S' x H2 hlt (.ofB x' hD) s' hy
    have hd : ts.drop i = d :: ts.drop (i + 1) := by
      rw [List.drop_eq_getElem_cons hlt]
      rw [List.getElem?_eq_getElem hlt] at ed
      cases ed
      rfl
    rw [hd] at q
    unfold dcL at q
    cases eg : g (.d d) (wipeE ρ vs) with
    | none => rw [eg] at q; exact q.elim
    | some ρ1 =>
      rw [eg] at q
      have x2 := x'.step xy s'
      have hw : EnvR G A' H2 (wipeE ρ vs) (wipe σ vs) := (he.kp (Ext.ofB x2 hD).kp).wipe vs
      refine hgs A' S' _ ρ1 (wipe σ vs) H2 (.d d) x _ hw sy rv eg fun σ2 he2 hk2 hl2 => ?_
      refine ⟨by rw [wipe_same (σ := wipe σ vs) (σ' := σ2) hL hk2 hl2, wipe_wipe], ?_⟩
      have hDH2 : H2 D = some (.dK kvs) := (hid_keep s' x'.inH xy).trans hDw
      have rds2 := rds.kp xy.kp
      refine ⟨A', ρ1, S', he2, sy, ?_⟩
      simp only [bz] at q
      cases ec : cm ρ1 S' with
      | bad => rw [ec] at q; exact q.elim
      | er c0 t0 S0 => rw [ec] at q; exact q.elim
      | ok k S2 =>
        rw [ec] at q
        simp only [nox_ok, bind_ok] at q
        intro A3 H3 x3 s3
        have xb3 := x2.step x3 sy
        have hD3 : H3 D = some (.dK kvs) := (hid_keep sy x2.inH x3).trans hDH2
        cases k with
        | false =>
          simp only [Bool.false_eq_true, if_false] at q ⊢
          exact ⟨A3, S2, ds, kvs, s3, xb3, hD3, rds2.kp x3.kp, by omega, by omega, q⟩
        | true =>
          simp only [if_true] at q ⊢
          refine ⟨A3, ρ1, S2, he2.kp x3.kp, s3, ?_⟩
          cases ee : ek ρ1 S2 with
          | bad => rw [ee] at q; exact q.elim
          | er c0 t0 S0 => rw [ee] at q; exact q.elim
          | ok kd S4 =>
            rw [ee] at q
            simp only [nox_ok, bind_ok] at q
            intro A4 H4 x4 s4 y ry
            have xb4 := xb3.step x4 s3
            have hD4 : H4 D = some (.dK kvs) := (hid_keep s3 xb3.inH x4).trans hD3
            refine ⟨A4, ρ1, S4, (he2.kp x3.kp).kp x4.kp, s4, ?_⟩
            cases ev' : ev ρ1 S4 with
            | bad => rw [ev'] at q; exact q.elim
            | er c0 t0 S0 => rw [ev'] at q; exact q.elim
            | ok dv S5 =>
              rw [ev'] at q
              simp only [nox_ok, bind_ok] at q
              intro A5 H5 x5 s5 z rz
              have xb5 := xb4.step x5 s4
              have hD5 : H5 D = some (.dK kvs) := (hid_keep s4 xb4.inH x5).trans hD4
              cases ek' : kOf kd with
              | none => rw [ek'] at q; exact q.elim
              | some k =>
                rw [ek'] at q
                have rds5 := (((rds2.kp x3.kp).kp x4.kp).kp x5.kp)
                refine ⟨kvs, k, kOf_rd ek' ry, hD5, Nat.lt_of_lt_of_le (show kvs.length < 16777216 by omega) (line_of (Nat.le_refl _)), A5, S5, _, putK kvs k z, s5.poke xb5.inH, xb5.poke, upd_same, (dput_rds rds5 rz).kp (kp_poke xb5.inH), ?_, by omega, ?_⟩
                · have := length_putK kvs k z
                  omega
                · rw [dput_keys]
                  exact q
  · have hz : i = ts.length := by omega
    subst hz
    rw [List.drop_length] at q
    exact .inl ⟨wk.stop A' H' (.ofB x' hD), hfin ds kvs S' A' H' s' x' hDw rds hwl q⟩
def dc2L (g : GM) (c : M Bool) (it1 : M (List Dt)) (g1 : GM) (c1 : M Bool) (ek ev : M Dv) (vs1 : List Nat) (ρ : Env) : List Dt → List Key → List Dv → Sto → Rz (List Key × List Dv)
  | [], ks, xs, S => .ok (ks, xs) S
  | t :: ts, ks, xs, S => bz (g (.d t) ρ) fun ρ1 => (nox (c ρ1 S)).bind fun b S1 => if b = true then (nox (it1 ρ1 S1)).bind fun us S2 => if ks.length + us.length ≤ 16777216 then (dcL g1 c1 ek ev (wipeE ρ1 vs1) us ks xs S2).bind fun q S3 => dc2L g c it1 g1 c1 ek ev vs1 ρ ts q.1 q.2 S3 else .bad
    else dc2L g c it1 g1 c1 ek ev vs1 ρ ts ks xs S1
def mDc2 (pe : PD) (vs vs1 : List Nat) (it : M (List Dt)) (g : GM) (c : M Bool) (it1 : M (List Dt)) (g1 : GM) (c1 : M Bool) (ek ev : M Dv) : M Dv := fun ρ S => (it ρ S).bind fun ts S1 => if ts.length ≤ 16777216 then (dc2L g c it1 g1 c1 ek ev vs1 (wipeE ρ vs) ts [] [] S1).bind fun q S2 => pe q.1 q.2 S2 else .bad
theorem hid_in {A A' : Al} {S : Sto} {H H' : Hp} {D : Addr} (s : StR G A S H) (hD : D ∈ A.hid) (x : Ext A H A' H') : D ∈ A'.hid := by
  obtain ⟨u, e⟩ := s.alive D (List.mem_append_right _ hD)
  have hn := s.nd
  unfold Al.all at hn
  exact (x.hid D u e fun z => (List.nodup_append.mp hn).2.2 D z D hD rfl).mpr hD
/-- an inner source, read beside a hidden D -/
def RdB (G : Gs) (wi1 : TI) (m : M (List Dt)) : Prop := ∀ (D : Addr) (σ : L2.St) (H : Hp) (A : Al) (ρ : Env) (S : Sto) (R : It → Hp → Prop), D ∈ A.hid → EnvR G A H ρ σ → StR G A S H →
  Po G (Wa W0 σ) A H (m ρ S) (fun A' H' ts => D ∈ A'.hid → ∀ J, Wk G J (A'.show_ D) (lackH H' D) ts → R J H') → wi1 σ H R
theorem dc2_read {wi wi1 : TI} {pe : PD} {vs vs1 : List Nat} (hpe : DEnd G pe) (hw : ∀ (σ : L2.St) (H : Hp) (A : Al) (ρ : Env) (S : Sto) (R : It → Hp → Prop), EnvR G A H ρ σ → StR G A S H → Po G (Wa W σ) A H (it ρ S) (fun A' H' ts => ∀ J, Wk G J A' H' ts → R J H') → wi σ H R)
    (hgs : TgS G t g L) (hL : ∀ i ∈ L, i ∈ vs) (hw1 : RdB G wi1 it1) (hgs1 : TgS G t1 g1 L1) (hL1 : ∀ i ∈ L1, i ∈ vs1) (σ : L2.St) (H : Hp) (Q : VK) (h : tM G W (mDc2 pe vs vs1 it g cm it1 g1 cm1 ek ev) σ H Q) :
    tDc2 wi t (tMT G W0 cm) wi1 t1 (tMT G W0 cm1) (tM G W0 ek) (tM G W0 ev) vs vs1 σ H Q := by
  obtain ⟨A, ρ, S, he, hs, p⟩ := h
  refine hw σ H A ρ S _ he hs ?_
  unfold mDc2 at p
  refine Po.step p fun ts S1 A1 H1 x1 s1 p1 J wk D hD => ?_
  by_cases hl : ts.length ≤ 16777216
  case neg =>
    simp only [hl, if_false] at p1
    exact p1.elim
  simp only [hl, if_true] at p1
  have he1 := he.kp x1.kp
  let Inw : Nat → Hp → Prop := fun i H' => ∃ A' S' ds kvs, StR G A' S' H' ∧ ExtB D A1 H1 A' H' ∧ H' D = some (.dK kvs) ∧ RDs G A' H' ds (kvs.map (·.2)) ∧ i ≤ ts.length ∧
    Po G (Wa W σ) A1 H1 ((dc2L g cm it1 g1 cm1 ek ev vs1 (wipeE ρ vs) (ts.drop i) (kvs.map (·.1)) ds S').bind fun q S'' => pe q.1 q.2 S'') (kD G Q)
  refine ⟨fun i m H' => m = ts.length - i ∧ Inw i H', ⟨_, rfl, A1.hide D, S1, [], [], s1.hide hD, .start, upd_same, .nil, Nat.zero_le _, by simpa using p1⟩, fun i m H' hW => ?_⟩
  obtain ⟨hm, A', S', ds, kvs, s', x', hDw, rds, hi, q⟩ := hW
  by_cases hlt : i < ts.length
  case neg =>
    have hz : i = ts.length := by omega
    subst hz
    rw [List.drop_length] at q
    simp only [dc2L, bind_ok] at q
    exact .inl ⟨wk.stop A' H' (.ofB x' hD), hpe s' x' hD hDw rds q⟩
  refine .inr ⟨wk.go i A' H' hlt (.ofB x' hD), Inw (i + 1), fun H2 hN => ⟨ts.length - (i + 1), by omega, rfl, hN⟩, fun x H2 hy => ?_⟩
  obtain ⟨d, ed, xy, sy, rv⟩ := wk.yld i A' H' S' x H2 hlt (.ofB x' hD) s' hy
  have hd : ts.drop i = d :: ts.drop (i + 1) := by
    rw [List.drop_eq_getElem_cons hlt]
    rw [List.getElem?_eq_getElem hlt] at ed
    cases ed
    rfl
  rw [hd] at q
  unfold dc2L at q
  cases eg : g (.d d) (wipeE ρ vs) with
  | none => rw [eg] at q; exact q.elim
  | some ρ1 =>
    rw [eg] at q
    have x2 := x'.step xy s'
    have hw' : EnvR G A' H2 (wipeE ρ vs) (wipe σ vs) := (he1.kp (Ext.ofB x2 hD).kp).wipe vs
    refine hgs A' S' _ ρ1 (wipe σ vs) H2 (.d d) x _ hw' sy rv eg fun σ2 he2 hk2 hl2 => ?_
    refine ⟨?_, ?_⟩
    · rw [wipe_same (σ := wipe σ vs) (σ' := σ2) hL hk2 hl2]
      exact wipe_twice σ vs
    · have hDH2 : H2 D = some (.dK kvs) := (hid_keep s' x'.inH xy).trans hDw
      have rds2 := rds.kp xy.kp
      refine ⟨A', ρ1, S', he2, sy, ?_⟩
      simp only [bz] at q
      cases ec : cm ρ1 S' with
      | bad => rw [ec] at q; exact q.elim
      | er c0 t0 S0 => rw [ec] at q; exact q.elim
      | ok k S2 =>
        rw [ec] at q
        simp only [nox_ok, bind_ok] at q
        intro A3 H3 x3 s3
        have xb3 := x2.step x3 sy
        have hD3 : H3 D = some (.dK kvs) := (hid_keep sy x2.inH x3).trans hDH2
        cases k with
        | false =>
          simp only [Bool.false_eq_true, if_false] at q ⊢
          exact ⟨A3, S2, ds, kvs, s3, xb3, hD3, rds2.kp x3.kp, by omega, q⟩
        | true =>
          simp only [if_true] at q ⊢
          refine hw1 D σ2 H3 A3 ρ1 S2 _ xb3.inH (he2.kp x3.kp) s3 ?_
          cases ei : it1 ρ1 S2 with
          | bad => rw [ei] at q; exact q.elim
          | er c0 t0 S0 => rw [ei] at q; exact q.elim
          | ok us S4 =>
            rw [ei] at q
            simp only [nox_ok, bind_ok] at q
            intro A4 H4 x4 s4 hD4' J1 wk1
            have xb4 := xb3.step x4 s3
            have hD4 : H4 D = some (.dK kvs) := (hid_keep s3 xb3.inH x4).trans hD3
            by_cases hz : (kvs.map (·.1)).length + us.length ≤ 16777216
            case neg =>
              simp only [hz, if_false] at q
              exact q.elim
            simp only [hz, if_true] at q
            have rds4 := (rds2.kp x3.kp).kp x4.kp
            have he4 : EnvR G (A4.show_ D) (lackH H4 D) ρ1 σ2 := (((he2.kp x3.kp).kp x4.kp).kp (lack_kp xb4.inH))
            exact dc_loopG (G := G) (D := D) (Fin := Inw (i + 1)) (Ab := A1) (Hb := H1) (E := Wa W σ) (cm := cm1) (ek := ek) (ev := ev) (β := Dv) (kvs0 := kvs) (ds0 := ds) (S0 := S4) (A0 := A4) (H0 := H4)
              (kf := fun ks xs S5 => (dc2L g cm it1 g1 cm1 ek ev vs1 (wipeE ρ vs) (ts.drop (i + 1)) ks xs S5).bind fun q S'' => pe q.1 q.2 S'') (Qf := kD G Q) hgs1 hL1 wk1 he4 lack_same s4 (lack_ext xb4.inH) hD4 rds4 (by rw [List.length_map] at hz; exact hz)
              (by rw [bind_assoc] at q; exact q)
              (fun ds' kvs' S5 A5 H5 s5 x5 hD5 r5 _ q5 => ⟨A5, S5, ds', kvs', s5, xb4.join x5, hD5, r5, by omega, q5⟩)
/-- {kx: vx for tg in iter if .. for tg1 in iter1 if ..} -/
theorem ydc2 (own : List (Str × Nat)) (vs1 : List Nat) {wi1 : TI} {pe : PD} (hpe : DEnd G pe) (B : Bx X G W kk) (hi : PIS X G W tg iter it) (hg : ∀ (s : Shared) (H : Hp) (C : Addr) (cl : List (Str × Addr)) (fp : List Addr), PG (X.blk s H scope (compEnvC scope cl C X.env) fp) tg t) (hgs : TgS G t g L)
    (ht : ∀ (s : Shared) (H : Hp) (C : Addr) (cl : List (Str × Addr)) (fp : List Addr), PTs (X.blk s H scope (compEnvC scope cl C X.env) fp) ifs (tMT G W0 cm))
    (hi1 : ∀ (s : Shared) (H : Hp) (C : Addr) (cl : List (Str × Addr)) (fp : List Addr), PI (X.blk s H scope (compEnvC scope cl C X.env) fp) tg1 iter1 wi1) (hw1 : RdB G wi1 it1)
    (hg1 : ∀ (s : Shared) (H : Hp) (C : Addr) (cl : List (Str × Addr)) (fp : List Addr), PG (X.blk s H scope (compEnvC scope cl C X.env) fp) tg1 t1) (hgs1 : TgS G t1 g1 L1)
    (ht1 : ∀ (s : Shared) (H : Hp) (C : Addr) (cl : List (Str × Addr)) (fp : List Addr), PTs (X.blk s H scope (compEnvC scope cl C X.env) fp) ifs1 (tMT G W0 cm1))
    (hk : ∀ (s : Shared) (H : Hp) (C : Addr) (cl : List (Str × Addr)) (fp : List Addr), PE (X.blk s H scope (compEnvC scope cl C X.env) fp) kx (tM G W0 ek)) (he : ∀ (s : Shared) (H : Hp) (C : Addr) (cl : List (Str × Addr)) (fp : List Addr), PE (X.blk s H scope (compEnvC scope cl C X.env) fp) vx (tM G W0 ev))
    (ok : blkC X.N X.env.scope scope own = true := by rfl) (hL : ∀ i ∈ L, i ∈ own.map (·.2) := by decide) (hL1 : ∀ i ∈ L1, i ∈ vs1 := by decide) (hv : ∀ i ∈ vs1, i ∈ own.map (·.2) := by decide)
    (hs : ∀ x, foldedSetIterable iter X.env x = pure x := by exact fun _ => rfl) (hs1 : ∀ env x, foldedSetIterable iter1 env x = pure x := by exact fun _ _ => rfl) :
    PE X (.DictComp kx vx [⟨tg, iter, ifs, 0⟩, ⟨tg1, iter1, ifs1, 0⟩] scope pos) (tM G W (mDc2 pe (own.map (·.2)) vs1 it g cm it1 g1 cm1 ek ev)) := by
  obtain ⟨wi, pi, hw⟩ := hi
  exact (pe_dc2 B.calm B.nd pi (blkOk_by ok) hv hg ht hi1 hg1 ht1 hk he hs hs1).sm fun σ H Q h => dc2_read hpe hw hgs hL hw1 hgs1 hL1 σ H Q h
/-! ### zip as the inner source -/
theorem rdb_zip {ma : M (List Dv)} : RdB G (RZ.iZipA G.K (tMA G W0 ma)) (iRg zp2 ma) := fun D σ H A ρ S R hD he hs p => by
  refine ⟨A, ρ, S, he, hs, Po.step p fun ds S1 A1 H1 x1 s1 p1 vs rv => ?_⟩
  obtain ⟨ts, e1, k⟩ := li_po p1 s1
  have hD1 := hid_in hs hD x1
  have kl : Kp A1 H1 (A1.show_ D) (lackH H1 D) := lack_kp hD1
  unfold zp2 at e1
  split at e1
  · cases e1
    cases rv with
    | cons r1 r2 =>
      cases r2 with
      | cons r2 r3 =>
        cases r3
        obtain ⟨a, us, rfl, ha, ru⟩ := tup_at rfl (RD.kp kl r1)
        obtain ⟨b, ws, rfl, hb, rw'⟩ := tup_at rfl (RD.kp kl r2)
        exact ⟨a, b, us, ws, rfl, .inr ⟨sqT_up (ha _ _ .refl), sqT_up (hb _ _ .refl), k hD1 _ (wk_zipT ha ru hb rw')⟩⟩
  · rename_i d e _
    cases ed : lstOf d with
    | none => rw [ed] at e1; cases e1
    | some xs =>
      cases ee : lstOf e with
      | none => rw [ed, ee] at e1; cases e1
      | some ys =>
        rw [ed, ee] at e1
        cases e1
        cases rv with
        | cons r1 r2 =>
          cases r2 with
          | cons r2 r3 =>
            cases r3
            obtain ⟨a, us, rfl, ha, ru⟩ := lst_at ed (RD.kp kl r1)
            obtain ⟨b, ws, rfl, hb, rw'⟩ := lst_at ee (RD.kp kl r2)
            exact ⟨a, b, us, ws, rfl, .inl ⟨sqL_up (ha _ _ .refl), sqL_up (hb _ _ .refl), k hD1 _ (wk_zipL ha ru hb rw')⟩⟩
  · cases e1
theorem pi_zipB {Y : Cx} {a b : Expr} {ma : M (List Dv)} {p pos tpos : Pos} {elts : List Expr} {k0 : Nat} (hK : G.K = Y.K) (z : Y.mg "zip" = none) (ha : PA Y [a, b] (tMA G W0 ma)) (hg : Gl Y "zip" := by rfl)
    (hs : starEach [a, b] Y.env = (false, eval a Y.env) :: starEach [b] Y.env := by rfl) (hpl : (backTo pos (starEach [b] Y.env)).any (·.1) = false := by rfl) : PI Y (.Tuple elts k0 tpos) (.Call (.Name "zip" p) [a, b] [] pos) (RZ.iZipA G.K (tMA G W0 ma)) := by
  rw [hK]
  exact RZ.pi_zipA hg z ha hs hpl
end
end Sm
/-! Sm64: l.extend(t) of a tuple; d.get(k); an instance called by a keyword. -/
namespace Sm
open PySem PySem.Spec PyProof.Rows L2
open Sem (wp)
theorem ext_tup (l : Addr) (items : Array Value) (n : Nat) (b : Addr) (items2 : Array Value) (n2 : Nat) (dd : Option Addr) (sl : Array (Option Value)) (hs0 : ¬(!items.isEmpty && Builtin.List.listTooLong (items.size + items2.size)) = true) (hs1 : items.size ≤ sizeLine) (hs2 : items.size + items2.size ≤ sizeLine + 1) :
    Meets (Builtin.«list.extend» ⟨[.ref l, .ref b], []⟩) (fun _ R s => s.heap.get? l = some { cls := .type "list", dict := none, data := .seq items n, slots := #[] } ∧ s.heap.get? b = some { cls := .type "tuple", dict := dd, data := .seq items2 n2, slots := sl } ∧ R (.ok (.ret Value.none)) { s with heap := s.heap.update l (Obj.mapSeq fun x => x ++ items2), toks := s.toks }) :=
  .of_wp fun prog w A R s h => by
    obtain ⟨hp, g, d, tk, os⟩ := s; obtain ⟨hl, hb, h⟩ := h; have f1 := AutoSeq1.idx_int; have f2 := AutoSeq1.sub_tuple_tuple; have f3 := AutoSeq1.sub_list_list; have f4 := AutoSeq1.sub_tuple_list; have f5 := AutoSeq1.sub_list_tuple;
    have hz' : (items ++ items2).size ≤ sizeLine + 1 := by rw [Array.size_append]; exact hs2
    wp_walk using (wpAny_updateSeq hl rfl (hz := hs1) (_hz' := hz')), AutoSeq1.wpAny_loadPart' hl, AutoSeq1.wpAny_loadPart' hb; exact ⟨_, rfl, h⟩
section
variable {X : Cx} {G : Gs}
def rExtT (K : PySem.W.Frag) : V → List V → Hp → VK → Prop := fun x vs H Q => ∃ l b xs zs, x = .ref l ∧ vs = [.ref b] ∧ H l = some (.lst xs) ∧ SqT K H b zs ∧ xs.length + zs.length ≤ sizeLine ∧ Q .non (upd H l (.lst (xs ++ zs)))
theorem mt_extT : MtR X "list.extend" (rExtT X.K) := by
  intro pins s σ H x vs v us Q I rx rv h
  obtain ⟨l, b, xs, zs, rfl, rfl, hH, hB, hz, q⟩ := h
  cases rx
  obtain ⟨u, rfl, ru⟩ := rv.one
  cases ru
  obtain ⟨z, its, n, r, hl, e⟩ := I.lstM hH
  obtain ⟨its2, r2, ⟨⟨cls, dd, data, sl⟩, e2, hc, n2, hd⟩, hz2⟩ := I.tuple hB
  simp only at hc hd
  subst hc hd
  have l1 := r.length
  have l2 := r2.length
  have hsz : its.toArray.size + its2.toArray.size ≤ sizeLine := by rw [List.size_toArray, List.size_toArray]; omega
  have hlong : ¬ (!its.toArray.isEmpty && Builtin.List.listTooLong (its.toArray.size + its2.toArray.size)) = true := by
    rw [notLongL hsz, Bool.and_false]
    exact Bool.false_ne_true
  refine call_meets PySem.F.slot_list_extend ⟨_, e, rfl⟩ PySem.F.entry_list_extend (PySem.F.args_list_extend_2 _ _)
    (ext_tup l its.toArray n b its2.toArray n2 dd sl hlong (by rw [List.size_toArray]; omega) (by omega)) ⟨e, e2, ?_⟩
  refine ⟨.non, _, I.lset (its' := its ++ its2) hH e (by simp) (r.append r2) ?_, rfl, q⟩
  rw [List.length_append]
  omega
def pExtendA : PM := fun o ds S => match o, ds with
  | .loc n, [.d (.tup ts)] => (match S[n]? with
    | some (.lst xs) => if xs.length + ts.length ≤ 16777216 then some (.d .non, S.set n (.lst (xs ++ ts.map .d))) else none
    | _ => none)
  | _, _ => pExtend o ds S
theorem m_extendA (hK : G.K = X.K) : MtR X "list.extend" (qM G pExtendA) := by
  have both : MtR X "list.extend" (fun x xs H Q => rExtT X.K x xs H Q ∨ qM G pExtend x xs H Q) := fun pins s σ H x xs v us Q I rx rv h => h.elim (mt_extT pins s σ H x xs v us Q I rx rv) (m_extend pins s σ H x xs v us Q I rx rv)
  refine L2.MtR.sm both fun x xs H Q h => ?_
  obtain ⟨A, S, d, ds, rd, rds, s, p⟩ := h
  unfold pExtendA at p
  split at p
  · rename_i n ts
    obtain ⟨v, rfl, r⟩ := RDs.one rds
    split at p
    · rename_i e1
      split at p
      · rename_i hz
        obtain ⟨a, vs, rfl, hl, ha, hvs⟩ := loc_lst s rd e1
        obtain ⟨b, ws, rfl, hb, hws⟩ := (show RV G A H (.tup ts) v from r)
        obtain ⟨x2, s2⟩ := set_lst s hl (hvs.append hws.rds)
        have hb' := hb.sq (K := G.K)
        rw [hK] at hb'
        exact .inl ⟨a, b, vs, ws, rfl, rfl, ha, hb', by rw [← Paired.length hvs, ← hws.length]; exact line_of hz, Po.at p x2 s2 _ rfl⟩
      · exact p.elim
    · exact p.elim
  · exact .inr ⟨A, S, d, ds, rd, rds, s, p⟩
end
/-! ### d.get(k) -/
section
variable {X : Cx} {G : Gs} {W : WX} {kk : Nat} {e e2 : Expr}
def mGet1 (mo mk : M Dv) : M Dv := fun ρ S => (mo ρ S).bind fun d S1 => bz (dctAt S1 d) fun _ => (mk ρ S1).bind fun k S2 => bz (dctAt S2 d) fun q => bz (kOf k) fun j => .ok ((dlook q.1 q.2 j).getD (.d .non)) S2
theorem e_get1 {apos cpos : Pos} {mo mk : M Dv} (B : Bx X G W kk) (ho : PE X e (tM G W mo)) (hk : PE X e2 (tM G W mk)) (m1 : attributeBase e "get" X.env (eval e X.env) = eval e X.env := by rfl)
    (m2 : ((backTo cpos (starEach [e2] X.env)).all (fun x => !x.1) && (backToKw cpos (keywordEach [] X.env)).all (fun x => x.1.isSome) && decide (([e2] : List Expr).length + ([] : List Keyword).length + (if ([] : List Keyword).isEmpty then 0 else 1) < 30)) = true := by rfl)
    (m3 : (apos.endLine == cpos.line) = true := by rfl) (m4 : backTo cpos (starEach [e2] X.env) = [(false, eval e2 X.env)] := by rfl) :
    PE X (.Call (.Attribute e "get" apos) [e2] [] cpos) (tM G W (mGet1 mo mk)) := by
  have hu := B.room.units
  refine (pe_dget1 (by omega) ho hk ⟨m1, m2, m3, m4⟩).sm fun σ H Q h => ?_
  obtain ⟨A, ρ, S, he, st, p0⟩ := h
  unfold mGet1 at p0
  refine ⟨A, ρ, S, he, st, Po.step p0 fun d S1 A1 H1 x1 s1 p1 v rv => ?_⟩
  cases e1 : dctAt S1 d with
  | none =>
    rw [e1] at p1
    exact p1.elim
  | some q1 =>
    rw [e1] at p1
    obtain ⟨a, kvs, rfl, hr, _, _⟩ := dctAt_rd s1 rv (by rw [e1] : dctAt S1 d = some (q1.1, q1.2))
    refine ⟨a, rfl, .inl ⟨kvs, hr⟩, A1, ρ, S1, he.kp x1.kp, s1, Po.step p1 fun k S2 A2 H2 x2 s2 p2 y ry => ?_⟩
    cases e4 : dctAt S2 d with
    | none =>
      rw [e4] at p2
      exact p2.elim
    | some q3 =>
      rw [e4] at p2
      simp only [bz] at p2
      cases e5 : kOf k with
      | none =>
        rw [e5] at p2
        exact p2.elim
      | some j =>
        rw [e5] at p2
        obtain ⟨a', kvs', ea, hr', hk', hx'⟩ := dctAt_rd s2 (RD.kp x2.kp rv) (by rw [e4] : dctAt S2 d = some (q3.1, q3.2))
        cases ea
        have ey : y = kV j := kOf_rd e5 ry
        refine ⟨valV kvs' j, .inl ⟨kvs', j, hr', ey, rfl⟩, Po.now p2 s2 _ ?_⟩
        obtain ⟨l1, l2⟩ := dlook_val (j := j) hx'
        rw [hk'] at l1 l2
        cases e6 : dlook q3.1 q3.2 j with
        | some w =>
          obtain ⟨vv, e7, r7⟩ := l1 w e6
          rw [e7]
          exact r7
        | none =>
          rw [l2 e6]
          exact (rfl : V.non = V.non)
end
end Sm
/-! Sm65: an instance called by keywords alone. -/
namespace Sm
open PySem PySem.Spec PyProof.Rows L2
/-- __call__ by keywords -/
structure CalDK (P : Program) (w : World) (G : Gs) (mg : Str → Option Value) (base : Heap) (k c : Nat) (x : Str) (ks : List Str) (F : FM) : Prop where
  ex : ∃ f, SlX.SCls G.K (G.cls c) ∧ Meth G.K (G.cls c) x f ∧ PySem.W.fnIn G.K f = true ∧ CallW P w G mg base k f 1 ks F
section
variable {X : Cx} {G : Gs} {W : WX} {k : Nat} {f : Addr} {F : FM} {c : Nat} {pos : Pos} {fe : Expr} {mo : M Dv} {mk : M (List Dv)} {kws : List Keyword} {ks : List Str}
end
end Sm
/-! HeW: the mirrors shared so far and all rules; for the Plan family. -/
/-! HkM: mirrors of plans and of drawn parts. -/
namespace Hk
open PySem PySem.Spec PyProof.Rows L2 Sm Hn
def b_turned : SM := sSeq (sAsg (gT (gsCons (gN 1) (gsCons (gN 2) (gsNil)))) (m1 pWk (mV 0)))
    (sSeq (sSet 3 (mIf (mTst (m2 pEq (mV 2) (mC (.str ("" : Str))))) (mTm pIndexT (mV 1) (aCons (mN pMinT (aCons (m1 pWk (mV 1)) (aNil))) (aNil))) (mC (.int 0))))
    (sRet (mN pTup (aCons (m2 pAdd (mSl pSl (m1 pWk (mV 1)) (oPt (mV 3)) (oNo)) (mSl pSl (m1 pWk (mV 1)) (oNo) (oPt (mV 3)))) (aCons (mV 2) (aNil))))))
def R_turned : FM := runB 4 1 b_turned
def F_turned : FM := iso (R_turned)
def b_goals_of : SM := sSeq (sAsg (gT (gsCons (gN 1) (gsCons (gN 2) (gsNil)))) (mV 0))
    (sRet (mN pTup (aStar (mSl pSl (mV 1) (oPt (mC (.int 1))) (oNo)) (aCons (mIf (mTst (m2 pEq (mV 2) (mC (.str ("" : Str))))) (m2 pIx (mV 1) (mC (.int 0))) (mV 2)) (aNil)))))
def R_goals_of : FM := runB 3 1 b_goals_of
def F_goals_of : FM := iso (R_goals_of)
abbrev l1_names_in : SM := sDrop (mLm pExtendA (mV 1) (aCons (mIf (mTst (m2 pEq (mV 3) (mC (.str ("" : Str))))) (mV 2) (mN pTup (aStar (mV 2) (aCons (mV 3) (aNil))))) (aNil)))
def b_names_in : SM := sSeq (sSet 1 (mN pLstB (aNil)))
    (sSeq (sFor (iSeq (mV 0)) (gT (gsCons (gN 2) (gsCons (gN 3) (gsNil)))) (l1_names_in))
    (sRet (mFrz (mV 1))))
def R_names_in : FM := runB 4 1 b_names_in
def F_names_in : FM := iso (R_names_in)
def b_goals_in : SM := sRet (mDc2 pDct [1, 2, 3] [2, 3] (iSeq (mV 0)) (gN 1) (cYes) (iRg zp2 (aCons (m2 pIx (mV 1) (mC (.int 0))) (aCons (mF F_goals_of (aCons (mV 1) (aNil))) (aNil)))) (gT (gsCons (gN 2) (gsCons (gN 3) (gsNil)))) (cYes) (mV 2) (mV 3))
def R_goals_in : FM := runB 4 1 b_goals_in
def F_goals_in : FM := iso (R_goals_in)
def b_tupledN (self : FM) : SM := sRet (mIf (mTru pTru (m1 (pIsa ["list", "tuple"]) (mV 0))) (mN pTupleN (aCons (mN pLst (mLcI [1] (iSeq (mV 0)) (gN 1) (cYes) (mF self (aCons (mV 1) (aNil))))) (aNil))) (mV 0))
def F_tupledN : Nat → FM
  | 0 => fun _ _ => .bad
  | n + 1 => iso (runB 2 1 (b_tupledN (F_tupledN n)))
def b_Plan_init : SM := sSeq (sSet 2 (mN pSorted (aCons (mN pLst (mLcI [3] (iSeq (m1 pWk (mF (F_tupledN 8) (aCons (mV 1) (aNil))))) (gN 3) (cYes) (mF F_turned (aCons (mV 3) (aNil))))) (aNil))))
    (sSeq (sSet 4 (mF F_names_in (aCons (mV 2) (aNil))))
    (sSeq (sSet 5 (mN pLst (mLcI [6] (iSeq (mV 4)) (gN 6) (mTst (m2 pGt (mLm pCount (mV 4) (aCons (mV 6) (aNil))) (mC (.int 1)))) (mV 6))))
    (sSeq (sIf (mTst (m2 pGt (mN pLen (aCons (mV 5) (aNil))) (mC (.int 0)))) (sRaise 0 (mN pMinT (aCons (mV 5) (aNil)))) (sNil))
    (sSeq (sFld 2 1 (mV 0) (mN pTuple (aCons (mV 2) (aNil))))
    (sFld 2 0 (mV 0) (mF F_goals_in (aCons (mV 2) (aNil))))))))
def R_Plan_init : FM := starF 1 (runB 7 2 b_Plan_init)
def F_Plan_init : FM := R_Plan_init
def b_Plan_of : SM := sRet (mF (isoMk 2 F_Plan_init) (aStar (mV 1) aNil))
def R_Plan_of : FM := runC 2 1 b_Plan_of
def F_Plan_of : FM := iso (R_Plan_of)
def b_Plan_parts : SM := sRet (m1 (pFld 2 1) (mV 0))
def R_Plan_parts : FM := runB 1 1 b_Plan_parts
def F_Plan_parts : FM := iso (R_Plan_parts)
def b_Plan___call__ : SM := sRet (mGet1 (m1 (pFld 2 0) (mV 0)) (mV 1))
def R_Plan___call__ : FM := runB 2 2 b_Plan___call__
def F_Plan___call__ : FM := iso (R_Plan___call__)
end Hk
/-! Sm66: sorted(.., reverse=True) of whole numbers. -/
namespace Sm
open PySem PySem.Spec PyProof.Rows L2
def sortDI (l : List Int) : List Int := isortL (fun a b => decide (b ≤ a)) l
theorem sortDI_ms (l : List Int) : sortDI l = l.mergeSort fun a b => decide (b ≤ a) := isortL_is (fun a b c h1 h2 => decide_eq_true (by have := of_decide_eq_true h1; have := of_decide_eq_true h2; omega)) (fun a b => by
  by_cases h : b ≤ a
  · simp [h]
  · have : a ≤ b := by omega
    simp [this]) l
theorem sortDI_perm (l : List Int) : (sortDI l).Perm l := by
  rw [sortDI_ms]
  exact List.mergeSort_perm _ _
theorem sortDI_pw (l : List Int) : (sortDI l).Pairwise (· ≥ ·) := by
  rw [sortDI_ms]
  have := List.pairwise_mergeSort (le := fun a b : Int => decide (b ≤ a)) (fun a b c h1 h2 => decide_eq_true (by have := of_decide_eq_true h1; have := of_decide_eq_true h2; omega)) (fun a b => by
    by_cases h : b ≤ a
    · simp [h]
    · have : a ≤ b := by omega
      simp [this]) l
  exact this.imp fun h => of_decide_eq_true h
theorem desc_eq : ∀ {l m : List Int}, l.Pairwise (· ≥ ·) → m.Pairwise (· ≥ ·) → l.Perm m → l = m
  | [], m, _, _, p => (List.Perm.nil_eq p).symm ▸ rfl
  | a :: l, [], _, _, p => absurd p.length_eq (by simp)
  | a :: l, b :: m, h1, h2, p => by
    obtain ⟨q1, q2⟩ := List.pairwise_cons.mp h1
    obtain ⟨r1, r2⟩ := List.pairwise_cons.mp h2
    have e : a = b := by
      have ha := p.mem_iff.mp (List.mem_cons_self (a := a) (l := l))
      have hb := p.mem_iff.mpr (List.mem_cons_self (a := b) (l := m))
      rcases List.mem_cons.mp ha with e | ha
      · exact e
      · rcases List.mem_cons.mp hb with e | hb
        · exact e.symm
        · have := q1 b hb
          have := r1 a ha
          omega
    subst e
    rw [desc_eq q2 r2 (List.Perm.cons_inv p)]
section
variable {X : Cx} {G : Gs} {W : WX} {k : Nat} {a : Expr} {p pos q kp : Pos} {j : Nat} {m : M Dv}
def pSortDI : P1 := fun d S => match ((lstAt S d).bind pures).bind intsOf with
  | some l => some (.d (.lst ((sortDI l).map .int)), S)
  | none => none
theorem ints_back {G : Gs} {A : Al} {H : Hp} : ∀ l : List Int, RVs G A H (l.map .int) (l.map V.int)
  | [] => rfl
  | a :: l => ⟨_, _, rfl, rfl, ints_back l⟩
theorem xsortD (B : Bx X G W k) (z : X.mg "sorted" = none) (ha : PE X a (tM G W m)) (hg : Gl X "sorted" := by rfl) (hs : starEach [a] X.env = (false, eval a X.env) :: starEach [] X.env := by rfl)
    (he : backTo pos (starEach [a] X.env) = (false, eval a X.env) :: backTo pos (starEach [] X.env) := by rfl) (hpl : (backTo pos (starEach [a] X.env)).any (·.1) = false := by rfl)
    (hall : (backToKw pos (keywordEach [⟨some "reverse", .Constant (.bool true) j q, kp⟩] X.env)).all (·.1.isSome) = true := by rfl) (hnone : (backToKw pos (keywordEach [⟨some "reverse", .Constant (.bool true) j q, kp⟩] X.env)).any (·.1.isNone) = false := by rfl) (hks : (backToKw pos (keywordEach [⟨some "reverse", .Constant (.bool true) j q, kp⟩] X.env)).filterMap (·.1) = [Str.ofString "reverse"] := by rfl) :
    PE X (.Call (.Name "sorted" p) [a] [⟨some "reverse", .Constant (.bool true) j q, kp⟩] pos) (tM G W (m1 pSortDI m)) := by
  refine (pe_callBK (cr_sortedRev (b := true)) hg z PyProof.Rows.boot_sorted (pa_cons ha pa_nil hs) (pk_cons pe_bl pk_nil) (by decide) (by decide) he hpl hall hnone hks).sm fun σ H Q h => ?_
  obtain ⟨A, ρ, S, he', st, p0⟩ := h
  refine ⟨A, ρ, S, he', st, Po.step p0 fun d S1 A1 H1 x1 s1 p1 v rv => ?_⟩
  unfold pSortDI at p1
  split at p1
  · rename_i l e1
    obtain ⟨ts, e2, e3⟩ := Option.bind_eq_some_iff.mp e1
    obtain ⟨zs, e4, e5⟩ := Option.bind_eq_some_iff.mp e2
    obtain ⟨b, vs, ev, hq, hvs⟩ := lstAt_rd s1 rv e4
    have e6 := ints_rv e3 (pures_rvs e5 hvs)
    subst ev e6
    refine ⟨b, l, rfl, rfl, .inl (.inl hq), fun ns' c pm od hc => ?_⟩
    have e7 : ns' = sortDI l := desc_eq od (sortDI_pw l) (pm.trans (sortDI_perm l).symm)
    subst e7
    exact Po.at p1 (Ext.new hc) (s1.new hc) _ (RV.lst_new s1 hc (ints_back _))
  · exact p1.elim
end
end Sm
/-! Sm67: max(.., default=0) of whole numbers; min of tuples of texts. -/
namespace Sm
open PySem PySem.Spec PyProof.Rows L2
theorem toPys_ints : ∀ l : List Int, toPys (l.map .int) = some (l.map .int)
  | [] => rfl
  | a :: l => by
    rw [List.map_cons, List.map_cons]
    unfold toPys
    rw [toPys_ints l]
    rfl
theorem dep_ints : ∀ l : List Int, PyData.depthAll (l.map .int) ≤ 1
  | [] => by decide
  | a :: l => by
    have := dep_ints l
    rw [List.map_cons]
    unfold PyData.depthAll
    have h : PyData.depth (.int a) ≤ 1 := by
      unfold PyData.depth
      decide
    omega
theorem foldmax (l : List Int) : ∀ x : Int, l.foldl max x ∈ x :: l ∧ ∀ y ∈ x :: l, y ≤ l.foldl max x := by
  induction l with
  | nil => intro x; exact ⟨List.mem_cons_self, fun y hy => by rw [List.mem_singleton.mp hy]; exact Int.le_refl _⟩
  | cons y l ih =>
    intro x
    rw [List.foldl_cons]
    obtain ⟨e2, e3⟩ := ih (max x y)
    have h0 := e3 _ List.mem_cons_self
    refine ⟨?_, fun z hz => ?_⟩
    · rcases List.mem_cons.mp e2 with e | e
      · rw [e]
        by_cases h : x ≤ y
        · rw [Int.max_eq_right h]
          exact List.mem_cons_of_mem _ List.mem_cons_self
        · rw [Int.max_eq_left (by omega)]
          exact List.mem_cons_self
      · exact List.mem_cons_of_mem _ (List.mem_cons_of_mem _ e)
    · rcases List.mem_cons.mp hz with rfl | hz
      · omega
      · rcases List.mem_cons.mp hz with rfl | hz
        · omega
        · exact e3 z (List.mem_cons_of_mem _ hz)
theorem maxD_I (x : Int) (l : List Int) : PySem.W.maxD (.int x) (l.map .int) = .int (maxI (x :: l)) := by
  rw [PySem.W.maxD_ints]
  obtain ⟨e2, e3⟩ := foldmax l x
  rw [maxI_is e2 e3]
section
variable {X : Cx} {G : Gs} {W : WX} {k : Nat} {a : Expr} {p pos q kp : Pos} {j : Nat} {m : M Dv}
/-- max(l, default=0) -/
def pMaxD0 : P1 := fun d S => match (lstT S d).bind intsOf with
  | some l => some (.d (.int (maxI l)), S)
  | none => none
def rMaxD0 (G : Gs) : List V → List V → Hp → VK → Prop := fun xs zs H Q => ∃ (A : Al) (b : Addr) (l : List Int), xs = [V.ref b] ∧ zs = [V.int 0] ∧ SqL G.K H b (l.map V.int) ∧ Q (.int (maxI l)) H
theorem cr_maxD0 (hc : X.calm = true) (hK : G.K = X.K) (hu : X.A.units + 64 < cLine) : CallRK X (.builtin "max") [Str.ofString "default"] (rMaxD0 G) := by
  intro pins s σ H xs zs us ws Q I rx rz h
  obtain ⟨A, b, l, rfl, rfl, hs, hq⟩ := h
  rw [hK] at hs
  obtain rfl := Vals.ref1 rx
  cases rz with
  | cons r0 t0 =>
  rename_i w ws
  cases t0
  obtain ⟨its, rv, pl, _⟩ := I.list hs
  have dp := RVs.dp (toPys_ints l) (ints_back (G := G) (A := A) (H := H) l)
  rw [hK] at dp
  obtain ⟨as, ra⟩ := Dp.readsAll I _ _ _ dp rv
  have al : PySem.W.AlikeAll (l.map PyData.int) := by
    refine ⟨fun d hd d' hd' => ?_, fun d hd z => ?_⟩
    · obtain ⟨u, _, rfl⟩ := List.mem_map.mp hd
      obtain ⟨u', _, rfl⟩ := List.mem_map.mp hd'
      rfl
    · obtain ⟨u, _, rfl⟩ := List.mem_map.mp hd
      cases z
  have dd := dep_ints l
  refine PySem.W.max_list_default (xs := l.map .int) (d := w) (I.ok.hd hc) pl.isList (by simpa using ra) al (by omega) (fun e h' tk hk => ?_) fun y ys i v h' tk bs e hi hr hk => ?_
  · obtain rfl := List.map_eq_nil_iff.mp e
    exact ⟨.int 0, H, I.kept hk, r0, hq⟩
  · cases l with
    | nil => cases e
    | cons x l =>
      rw [List.map_cons] at e
      injection e with e1 e2
      subst e1 e2
      rw [maxD_I] at hr
      cases hr
      exact ⟨.int (maxI (x :: l)), H, I.kept hk, ⟨_, rfl⟩, hq⟩
theorem xmaxD0 (B : Bx X G W k) (z : X.mg "max" = none) (ha : PE X a (tM G W m)) (hg : Gl X "max" := by rfl) (hs : starEach [a] X.env = (false, eval a X.env) :: starEach [] X.env := by rfl)
    (he : backTo pos (starEach [a] X.env) = (false, eval a X.env) :: backTo pos (starEach [] X.env) := by rfl) (hpl : (backTo pos (starEach [a] X.env)).any (·.1) = false := by rfl)
    (hall : (backToKw pos (keywordEach [⟨some "default", .Constant (.int 0) j q, kp⟩] X.env)).all (·.1.isSome) = true := by rfl) (hnone : (backToKw pos (keywordEach [⟨some "default", .Constant (.int 0) j q, kp⟩] X.env)).any (·.1.isNone) = false := by rfl) (hks : (backToKw pos (keywordEach [⟨some "default", .Constant (.int 0) j q, kp⟩] X.env)).filterMap (·.1) = [Str.ofString "default"] := by rfl) :
    PE X (.Call (.Name "max" p) [a] [⟨some "default", .Constant (.int 0) j q, kp⟩] pos) (tM G W (m1 pMaxD0 m)) := by
  refine (pe_callBK (cr_maxD0 B.calm B.hK B.room.units) hg z PyProof.Rows.boot_max (pa_cons ha pa_nil hs) (pk_cons pe_int pk_nil) (by decide) (by decide) he hpl hall hnone hks).sm fun σ H Q h => ?_
  obtain ⟨A, ρ, S, he', st, p0⟩ := h
  refine ⟨A, ρ, S, he', st, Po.step p0 fun d S1 A1 H1 x1 s1 p1 v rv => ?_⟩
  unfold pMaxD0 at p1
  split at p1
  · rename_i l e1
    obtain ⟨ts, e2, e3⟩ := Option.bind_eq_some_iff.mp e1
    obtain ⟨b, vs, ev, hq, hvs⟩ := lstT_rd s1 rv e2
    rw [intsOf_eq e3] at hvs
    rw [rvs_intsI hvs] at hq
    subst ev
    exact ⟨A1, b, l, rfl, rfl, hq, Po.now p1 s1 _ rfl⟩
  · exact p1.elim
end
end Sm
/-! Sm68: min of tuples of texts. -/
namespace Sm
open PySem PySem.Spec PyProof.Rows L2
section
variable {X : Cx} {G : Gs} {W : WX} {k : Nat}
end
end Sm
/-! HeZ: plans and the sheets of the rings. -/
/-! HdM: mirrors of PARTs of ways. -/
namespace Hd
open PySem PySem.Spec PyProof.Rows L2 Sm Hn
def b_Sheet_empties : SM := sRet (m1 (pFld 0 0) (mV 0))
def R_Sheet_empties : FM := runB 1 1 b_Sheet_empties
def F_Sheet_empties : FM := iso (R_Sheet_empties)
end Hd
set_option maxHeartbeats 1000000
/-! Sm69: a class made with *parts, parts being a box. -/
namespace Sm
open PySem PySem.Spec PyProof.Rows L2
section
variable {X : Cx} {G : Gs} {W : WX} {k n : Nat} {f : Addr} {F : FM} {x : Str} {p pos sp_ : Pos} {e : Expr} {es : List Expr} {ma : M (List Dv)} {mo : M Dv} {c : Nat}
end
end Sm
/-! HcM: mirrors of plan_of and any_plan. -/
namespace Hc
open PySem PySem.Spec PyProof.Rows L2 Sm Hn
def b_Sheet_told : SM := sRet (mN pTup (aCons (m1 pItemsT (m1 (pFld 0 2) (mV 0))) (aCons (m1 (pFld 0 0) (mV 0)) (aNil))))
def R_Sheet_told : FM := runB 1 1 b_Sheet_told
def F_Sheet_told : FM := iso (R_Sheet_told)
def b_rowless : SM := sRet (mF (isoMk 0 Hr.F_Sheet_init) (aCons (mN pTup (aCons (m2 pIx (mMeth 0 F_Sheet_told (mV 0) aNil) (mC (.int 0))) (aCons (mN pTup (aNil)) (aNil)))) (aNil)))
def R_rowless : FM := runB 1 1 b_rowless
def F_rowless : FM := iso (R_rowless)
end Hc
/-! the mirrors -/
namespace K73
open PySem PySem.Spec PyProof.Rows L2 Sm Hn
def b_without : SM := sSeq (sSet 2 (mF (isoMk 0 Hr.F_Sheet_init) (aCons (mV 0) (aNil))))
    (sSeq (sSet 3 (mMeth 0 Hr.F_Sheet_checked (mV 2) (aCons (mV 1) (aNil))))
    (sSeq (sAsg (gT (gsCons (gN 4) (gsCons (gN 5) (gsNil)))) (mMeth 0 Hc.F_Sheet_told (mV 2) aNil))
    (sRet (mN pTup (aCons (mN pTuple (aCons (mN pLst (mLcI [6] (iSeq (mV 4)) (gN 6) (mTst (m2 pNotIn (m2 pIx (mV 6) (mC (.int 0))) (mV 3))) (mV 6))) (aNil))) (aCons (mV 5) (aNil)))))))
def R_without : FM := runB 7 2 b_without
def F_without : FM := iso (R_without)

def b_Choice_place : SM := sRet (m2 pIx (m1 (pFld 1 2) (mV 0)) (mV 1))
def R_Choice_place : FM := runB 2 2 b_Choice_place
def F_Choice_place : FM := iso (R_Choice_place)

def b_Choice_gained : SM := sRet (mN pSum (aCons (mN pLst (mLcI [1, 2] (iDc dItems (m1 (pFld 1 2) (mV 0))) (gT (gsCons (gN 1) (gsCons (gN 2) (gsNil)))) (cYes) (m2 pIx (m2 pIx (m1 (pFld 1 3) (mV 0)) (mV 1)) (mV 2)))) (aNil)))
def R_Choice_gained : FM := runB 3 1 b_Choice_gained
def F_Choice_gained : FM := iso (R_Choice_gained)

def b_most_any : SM := sSeq (sSet 2 (mF (isoMk 0 Hr.F_Sheet_init) (aCons (mV 0) (aNil))))
    (sRet (mMeth 1 F_Choice_gained (mF Hr.F_best_of (aCons (mIf (mTru pTru (mV 1)) (mV 2) (mF Hc.F_rowless (aCons (mV 2) (aNil)))) (aNil))) aNil))
def R_most_any : FM := runB 3 2 b_most_any
def F_most_any : FM := iso (R_most_any)

def b_sizes_of : SM := sRet (m1 pSortDI (mN pLst (mLcI [1, 2] (iSeq (mV 0)) (gT (gsCons (gN 1) (gsCons (gN 2) (gsNil)))) (cYes) (mN pLen (aCons (mV 1) (aNil))))))
def R_sizes_of : FM := runB 3 1 b_sizes_of
def F_sizes_of : FM := iso (R_sizes_of)

def b_ender : SM := sSeq (sAsg (gT (gsCons (gN 1) (gsCons (gN 2) (gsNil)))) (mV 0))
    (sRet (mIf (mTst (m2 pEq (mV 2) (mC (.str ("" : Str))))) (m2 pIx (mV 1) (mC (.int 0))) (m2 pIx (mV 1) (m1 pNeg (mC (.int 1))))))
def R_ender : FM := runB 3 1 b_ender
def F_ender : FM := iso (R_ender)

def b_safe_for : SM := sRet (mN pSum (aCons (mSl pSl (mF F_sizes_of (aCons (mPropM 2 Hk.F_Plan_parts (mV 0)) (aNil))) (oPt (mV 1)) (oNo)) (aNil)))
def R_safe_for : FM := runB 2 2 b_safe_for
def F_safe_for : FM := iso (R_safe_for)

def b_worst_gone : SM := sSeq (sSet 2 (mN pSorted (aCons (mN pLst (mLcI [3] (iSeq (mPropM 2 Hk.F_Plan_parts (mV 0))) (gN 3) (cYes) (mN pTup (aCons (m1 pNeg (mN pLen (aCons (m2 pIx (mV 3) (mC (.int 0))) (aNil)))) (aCons (mF F_ender (aCons (mV 3) (aNil))) (aNil)))))) (aNil))))
    (sRet (mF F_as_set (aCons (mN pLst (mLcI [4, 5] (iSeq (mSl pSl (mV 2) (oNo) (oPt (mV 1)))) (gT (gsCons (gN 4) (gsCons (gN 5) (gsNil)))) (cYes) (mV 5))) (aNil))))
def R_worst_gone : FM := runB 6 2 b_worst_gone
def F_worst_gone : FM := iso (R_worst_gone)

abbrev l1_weak_ones : SM := sIf (mTst (m2 pEq (mN pLen (aCons (mV 3) (aNil))) (mV 2))) (sDrop (mLm pExtendA (mV 1) (aCons (mIf (mTst (m2 pEq (mV 4) (mC (.str ("" : Str))))) (mV 3) (mSl pSl (mV 3) (oPt (m1 pNeg (mC (.int 1)))) (oNo))) (aNil)))) (sNil)

def b_weak_ones : SM := sSeq (sPars [1, 2] (aCons (mN pLstB (aNil)) (aCons (m1 pMaxD0 (mN pLst (mLcI [3, 4] (iSeq (mPropM 2 Hk.F_Plan_parts (mV 0))) (gT (gsCons (gN 3) (gsCons (gN 4) (gsNil)))) (cYes) (mN pLen (aCons (mV 3) (aNil)))))) (aNil))))
    (sSeq (sFor (iSeq (mPropM 2 Hk.F_Plan_parts (mV 0))) (gT (gsCons (gN 3) (gsCons (gN 4) (gsNil)))) (l1_weak_ones))
    (sRet (mF F_as_set (aCons (mFrz (mV 1)) (aNil)))))
def R_weak_ones : FM := runB 5 1 b_weak_ones
def F_weak_ones : FM := iso (R_weak_ones)

def b_whole_parts : SM := sRet (mN pLst (mLcI [2] (iSeq (mPropM 2 Hk.F_Plan_parts (mV 0))) (gN 2) (cNot (mTru pTru (mN pAny (aCons (mN pLst (mLcI [3] (iSeq (m2 pIx (mV 2) (mC (.int 0)))) (gN 3) (cYes) (m2 pIn (mV 3) (mV 1)))) (aNil))))) (mV 2)))
def R_whole_parts : FM := runB 4 2 b_whole_parts
def F_whole_parts : FM := iso (R_whole_parts)

def b_rest_sheet : SM := sSeq (sSet 3 (mF (isoMk 0 Hr.F_Sheet_init) (aCons (mV 0) (aNil))))
    (sSeq (sSet 4 (mMeth 0 Hr.F_Sheet_checked (mV 3) (aCons (mV 2) (aNil))))
    (sSeq (sSet 5 (mF F_whole_parts (aCons (mV 1) (aCons (mV 4) (aNil)))))
    (sSeq (sSet 6 (mN pLst (mLc2 [7, 8, 9] [9] (iSeq (mV 5)) (gT (gsCons (gN 7) (gsCons (gN 8) (gsNil)))) (cYes) (mV 7) (gN 9) (cYes) (mV 9))))
    (sSeq (sSet 10 (mN pLst (mLcI [9] (iSeq (mMeth 0 Hr.F_Sheet_names (mV 3) aNil)) (gN 9) (cAnd (mTst (m2 pNotIn (mV 9) (mV 4))) (mTst (m2 pNotIn (mV 9) (mV 6)))) (mV 9))))
    (sSeq (sSet 11 (mN pLst (mLcI [7, 8] (iSeq (mV 5)) (gT (gsCons (gN 7) (gsCons (gN 8) (gsNil)))) (mTst (m2 pNe (mV 8) (mC (.str ("" : Str))))) (m2 pIx (mV 7) (mC (.int 0))))))
    (sSeq (sSet 12 (mF F_as_set (aCons (m2 pAdd (mN pLst (mLcI [13] (iSeq (mMeth 0 Hd.F_Sheet_empties (mV 3) aNil)) (gN 13) (mTst (m2 pNotIn (mV 13) (mN pLst (mLcI [7, 8] (iSeq (mV 5)) (gT (gsCons (gN 7) (gsCons (gN 8) (gsNil)))) (cYes) (mV 8))))) (mV 13))) (mV 11)) (aNil))))
    (sSeq (sSet 14 (m2 pAdd (mV 10) (mN pList (aCons (mV 12) (aNil)))))
    (sRet (mN pTup (aCons (mN pTuple (aCons (mN pLst (mLcI [9] (iSeq (mV 10)) (gN 9) (cYes) (mN pTup (aCons (mV 9) (aCons (mN pTuple (aCons (mN pLst (mLcI [13] (iSeq (mMeth 0 Hr.F_Sheet_wants (mV 3) (aCons (mV 9) (aNil)))) (gN 13) (mTst (m2 pIn (mV 13) (mV 14))) (mV 13))) (aNil))) (aNil)))))) (aNil))) (aCons (mV 12) (aNil))))))))))))
def R_rest_sheet : FM := runB 15 3 b_rest_sheet
def F_rest_sheet : FM := iso (R_rest_sheet)

def b_most_repaired : SM := sSeq (sSet 3 (mF (kwF [0, 1, 2] [] F_rest_sheet) (aApp (aCons (mV 0) (aCons (mV 1) (aNil))) (aCons (mV 2) (aNil)))))
    (sRet (m2 pAdd (mN pSum (aCons (mF F_sizes_of (aCons (mF F_whole_parts (aCons (mV 1) (aCons (mF (F_tupled 8) (aCons (mV 2) (aNil))) (aNil)))) (aNil))) (aNil))) (mF (kwF [0, 1] [.bl true] F_most_any) (aCons (mV 3) (aNil)))))
def R_most_repaired : FM := runB 4 3 b_most_repaired
def F_most_repaired : FM := iso (R_most_repaired)

def b_old_home : SM := sSeq (sSet 2 (mCallO 2 Hk.F_Plan___call__ (mV 0) (aCons (mV 1) (aNil))))
    (sRet (mIf (mTst (m2 pIsN (mV 2) (mC .non))) (mV 1) (mV 2)))
def R_old_home : FM := runB 3 2 b_old_home
def F_old_home : FM := iso (R_old_home)

abbrev l1_told_worths : SM := sSeq (sSet 7 (mStar pDct (mV 6) (mC (.int 0)) (mDc pDct [8] (iSeq (mMeth 0 Hr.F_Sheet_wants (mV 3) (aCons (mV 6) (aNil)))) (gN 8) (cYes) (mV 8) (mV 4))))
    (sSeq (sSet 9 (mF F_old_home (aCons (mV 1) (aCons (mV 6) (aNil)))))
    (sSub (mV 5) (mV 6) (mDc pDct [8, 10] (iDc dItems (mV 7)) (gT (gsCons (gN 8) (gsCons (gN 10) (gsNil)))) (cYes) (mV 8) (m2 pAdd (mV 10) (mN pInt (aCons (m2 pEq (mV 8) (mV 9)) (aNil)))))))

def b_told_worths : SM := sSeq (sSet 3 (mF (isoMk 0 Hr.F_Sheet_init) (aCons (mF F_without (aCons (mV 0) (aCons (mV 2) (aNil)))) (aNil))))
    (sSeq (sPars [4, 5] (aCons (m2 pAdd (mN pLen (aCons (mMeth 0 Hr.F_Sheet_names (mV 3) aNil) (aNil))) (mC (.int 1))) (aCons (mDnew) (aNil))))
    (sSeq (sFor (iSeq (mMeth 0 Hr.F_Sheet_names (mV 3) aNil)) (gN 6) (l1_told_worths))
    (sRet (mFrz (mV 5)))))
def R_told_worths : FM := runB 11 3 b_told_worths
def F_told_worths : FM := iso (R_told_worths)

def b_told_choice : SM := sRet (mF (isoMk 1 Hr.F_Choice_init) (aCons (mF F_told_worths (aCons (mV 0) (aCons (mV 1) (aCons (mV 2) (aNil))))) (aCons (mMeth 0 Hr.F_Sheet_homes (mF (isoMk 0 Hr.F_Sheet_init) (aCons (mF F_without (aCons (mV 0) (aCons (mV 2) (aNil)))) (aNil))) aNil) (aNil))))
def R_told_choice : FM := runB 3 3 b_told_choice
def F_told_choice : FM := iso (R_told_choice)

def b_fewest_told : SM := sSeq (sPars [3, 4] (aCons (mF F_told_worths (aCons (mV 0) (aCons (mV 1) (aCons (mV 2) (aNil))))) (aCons (mF F_told_choice (aCons (mV 0) (aCons (mV 1) (aCons (mV 2) (aNil))))) (aNil))))
    (sRet (mN pLen (aCons (mN pLst (mLcI [5] (iDc dKeys (mV 3)) (gN 5) (mTst (m2 pNe (mMeth 1 F_Choice_place (mV 4) (aCons (mV 5) (aNil))) (mF F_old_home (aCons (mV 1) (aCons (mV 5) (aNil)))))) (mV 5))) (aNil))))
def R_fewest_told : FM := runB 6 3 b_fewest_told
def F_fewest_told : FM := iso (R_fewest_told)

abbrev b__law_box : SM := boxM 1849
abbrev R__law_box : FM := runB 3 2 b__law_box
abbrev F__law_box : FM := R__law_box

def b__law_crew : SM := sRet (mSl pSl (mN pLst (aCons (mC (.str ("ann" : Str))) (aCons (mC (.str ("bob" : Str))) (aCons (mC (.str ("cat" : Str))) (aCons (mC (.str ("dan" : Str))) (aCons (mC (.str ("eve" : Str))) (aCons (mC (.str ("fay" : Str))) (aCons (mC (.str ("gus" : Str))) (aNil))))))))) (oNo) (oPt (mV 0)))
def R__law_crew : FM := runB 1 1 b__law_crew
def F__law_crew : FM := iso (R__law_crew)

abbrev l1__law_row_right : SM := sSeq (sSet 5 (m2 pAdd (mV 5) (mN pLst (aCons (mF (kwF [0, 1, 2] [] F_most_repaired) (aApp (aCons (mV 2) (aCons (mV 4) (aNil))) (aCons (mN pTup (aCons (m2 pIx (mV 1) (mV 3)) (aNil))) (aNil)))) (aCons (mF (kwF [0, 1, 2] [] F_fewest_told) (aApp (aCons (mV 2) (aCons (mV 4) (aNil))) (aCons (mN pTup (aCons (m2 pIx (mV 1) (mV 3)) (aNil))) (aNil)))) (aNil))))))
    (sSet 6 (m2 pAdd (mV 6) (mN pLst (aCons (m2 pSub (m2 pSub (mV 0) (mC (.int 1))) (mV 3)) (aCons (mV 3) (aNil))))))

def b__law_row_right : SM := sSeq (sSet 1 (mF F__law_crew (aCons (mV 0) (aNil))))
    (sSeq (sSet 2 (mN pTup (aCons (mN pTuple (aCons (mN pLst (mLcI [3] (iRg rg1 (aCons (mV 0) (aNil))) (gN 3) (cYes) (mN pTup (aCons (m2 pIx (mV 1) (mV 3)) (aCons (mN pTup (aCons (m2 pIx (m2 pAdd (mV 1) (mN pLst (aCons (mC (.str ("new" : Str))) (aNil)))) (m2 pAdd (mV 3) (mC (.int 1)))) (aNil))) (aNil)))))) (aNil))) (aCons (mN pTup (aCons (mC (.str ("new" : Str))) (aNil))) (aNil)))))
    (sSeq (sSet 4 (mF Hk.F_Plan_of (aCons (mN pTup (aCons (mN pTup (aCons (mN pTuple (aCons (mV 1) (aNil))) (aCons (mC (.str ("new" : Str))) (aNil)))) (aNil))) (aNil))))
    (sSeq (sSet 5 (mN pLst (aCons (mF F_safe_for (aCons (mV 4) (aCons (mC (.int 0)) (aNil)))) (aCons (mF F_safe_for (aCons (mV 4) (aCons (mC (.int 1)) (aNil)))) (aCons (mF F_worst_gone (aCons (mV 4) (aCons (mC (.int 2)) (aNil)))) (aCons (mF F_weak_ones (aCons (mV 4) (aNil))) (aNil)))))))
    (sSeq (sSet 6 (mN pLst (aCons (mV 0) (aCons (mC (.int 0)) (aCons (mN pTup (aCons (m2 pIx (mV 1) (m2 pSub (mV 0) (mC (.int 1)))) (aNil))) (aCons (mN pTup (aCons (m2 pIx (mV 1) (m2 pSub (mV 0) (mC (.int 1)))) (aNil))) (aNil)))))))
    (sSeq (sFor (iRg rg1 (aCons (mV 0) (aNil))) (gN 3) (l1__law_row_right))
    (sRet (mF (F__law_same 8) (aCons (m2 pAdd (mV 5) (mN pLst (aCons (mF (kwF [0, 1, 2] [] F_most_repaired) (aApp (aCons (mV 2) (aCons (mV 4) (aNil))) (aCons (mN pTup (aNil)) (aNil)))) (aCons (mF (kwF [0, 1, 2] [] F_fewest_told) (aApp (aCons (mV 2) (aCons (mV 4) (aNil))) (aCons (mN pTup (aNil)) (aNil)))) (aNil))))) (aCons (m2 pAdd (mV 6) (mN pLst (aCons (mV 0) (aCons (mC (.int 0)) (aNil))))) (aNil))))))))))
def R__law_row_right : FM := runB 7 1 b__law_row_right
def F__law_row_right : FM := iso (R__law_row_right)

abbrev l1__law_ring_right : SM := sSeq (sSet 10 (m2 pAdd (mV 10) (mN pLst (aCons (mF (kwF [0, 1, 2] [] F_most_repaired) (aApp (aCons (mV 9) (aCons (mV 7) (aNil))) (aCons (mN pTup (aCons (mV 6) (aNil))) (aNil)))) (aCons (mF (kwF [0, 1, 2] [] F_fewest_told) (aApp (aCons (mV 9) (aCons (mV 7) (aNil))) (aCons (mN pTup (aCons (mV 6) (aNil))) (aNil)))) (aNil))))))
    (sSet 11 (m2 pAdd (mV 11) (mN pLst (aCons (mV 8) (aCons (mIf (mTst (m2 pGt (mV 8) (mC (.int 0)))) (mC (.int 1)) (m2 pSub (mV 0) (mC (.int 1)))) (aNil))))))

def b__law_ring_right : SM := sSeq (sSet 2 (mF F__law_crew (aCons (mV 0) (aNil))))
    (sSeq (sSet 3 (mN pLst (mLcI [4] (iRg rg1 (aCons (mV 0) (aNil))) (gN 4) (cYes) (mN pTup (aCons (m2 pIx (mV 2) (mV 4)) (aCons (mN pTup (aCons (m2 pIx (mV 2) (m2 pMod (mN pInt (aCons (m2 pAdd (mV 4) (mC (.int 1))) (aNil))) (mV 0))) (aNil))) (aNil)))))))
    (sSeq (sIf (mTru pTru (mV 1)) (sSet 3 (mN pLst (mLcI [6] (iSeq (mV 2)) (gN 6) (cYes) (mN pTup (aCons (mV 6) (aCons (mN pTuple (aCons (mN pLst (mLcI [5] (iSeq (mV 2)) (gN 5) (mTst (m2 pNe (mV 5) (mV 6))) (mV 5))) (aNil))) (aNil))))))) (sNil))
    (sSeq (sPars [7, 8] (aCons (mF Hk.F_Plan_of (aCons (mN pTup (aCons (mN pTup (aCons (mN pTuple (aCons (mV 2) (aNil))) (aCons (mC (.str ("" : Str))) (aNil)))) (aNil))) (aNil))) (aCons (mIf (cAnd (mTru pTru (mV 1)) (mTst (m2 pGt (mV 0) (mC (.int 2))))) (m2 pSub (mV 0) (mC (.int 1))) (mC (.int 0))) (aNil))))
    (sSeq (sSet 9 (mN pTup (aCons (mN pTuple (aCons (mV 3) (aNil))) (aCons (mN pTup (aNil)) (aNil)))))
    (sSeq (sSet 10 (mN pLst (aCons (mF F_safe_for (aCons (mV 7) (aCons (mC (.int 0)) (aNil)))) (aCons (mF F_safe_for (aCons (mV 7) (aCons (mC (.int 1)) (aNil)))) (aCons (mF F_worst_gone (aCons (mV 7) (aCons (mC (.int 3)) (aNil)))) (aCons (mF F_weak_ones (aCons (mV 7) (aNil))) (aNil)))))))
    (sSeq (sSet 11 (mN pLst (aCons (mV 0) (aCons (mC (.int 0)) (aCons (mN pTup (aCons (m2 pIx (mV 2) (mC (.int 0))) (aNil))) (aCons (mN pTuple (aCons (mV 2) (aNil))) (aNil)))))))
    (sSeq (sFor (iSeq (mV 2)) (gN 6) (l1__law_ring_right))
    (sRet (mF (F__law_same 8) (aCons (mV 10) (aCons (mV 11) (aNil))))))))))))
def R__law_ring_right : FM := runB 12 2 b__law_ring_right
def F__law_ring_right : FM := iso (R__law_ring_right)

def b__law_right : SM := sSeq (sIf (cOr (cNot (mTru pTru (mF F__law_row_right (aCons (mC (.int 3)) (aNil))))) (cOr (cNot (mTru pTru (mF F__law_ring_right (aCons (mC (.int 3)) (aCons (mC (.bl true)) (aNil)))))) (cNot (mTru pTru (mF F__law_ring_right (aCons (mC (.int 2)) (aCons (mC (.bl false)) (aNil)))))))) (sRet (mC (.bl false))) (sNil))
    (sSeq (sSet 1 (m2 pAdd (mC (.int 2)) (mF F__law_take (aCons (mV 0) (aCons (mC (.int 6)) (aNil))))))
    (sRet (mAnd (mF F__law_row_right (aCons (mV 1) (aNil))) (mAnd (mF F__law_ring_right (aCons (mV 1) (aCons (mC (.bl false)) (aNil)))) (mF F__law_ring_right (aCons (m2 pAdd (mC (.int 2)) (mF F__law_take (aCons (mV 0) (aCons (mC (.int 5)) (aNil))))) (aCons (mC (.bl true)) (aNil))))))))
def R__law_right : FM := runB 2 1 b__law_right
def F__law_right : FM := view (R__law_right)

abbrev b_law : SM := lawMF 3 F__law_box F__law_right
abbrev R_law : FM := runB 3 1 b_law
abbrev F_law : FM := R_law
end K73
/-! the walk -/
namespace K73
open PySem PySem.Spec PyProof.Rows L2 Sm Hn
def topS (i : Nat) : Stmt := PySem.Challenge.pw_crosshomes_k73_known_withdrawals.main.body.getD i (.Pass ⟨0, 0, 0, 0⟩)
section
variable {P : Program} {w : World} {G : Gs} {mg : Str → Option Value} {base : Heap}
abbrev s_tupled : Stmt := topS 5
theorem sc_tupled : FnScope ["thing", "part"] ["thing"] (defScope s_tupled) := ⟨rfl, rfl, rfl, by decide +kernel, rfl, by decide +kernel, by decide +kernel⟩
theorem w_tupled (z_isinstance : mg "isinstance" = none) (z_list : mg "list" = none) (z_tuple : mg "tuple" = none) {f : Addr} {fd : FuncData} (Fu : Fun G.K "tupled" "tupled" s_tupled f fd) (hmg : mg "tupled" = some (.ref f)) : ∀ n : Nat, Cal P w G mg base (0 + n) "tupled" 1 [] (F_tupled n)
  | 0 => Cal.bad hmg Fu.kp
  | n + 1 => by
    have hself := w_tupled z_isinstance z_list z_tuple Fu hmg n
    refine (Cal.fn hmg Fu (show FnOk P w G.K mg base (L2.CX P w) (0 + n + 1) f fd ["thing"] (SpM G (runB 2 1 (b_tupled (F_tupled n)))) from fn_ok2 rfl rfl Fu sc_tupled ?_) (Fu.binds (ps := ["thing"]) fun _ _ _ _ _ _ us hl => match us, hl with | [_], _ => rfl)).isoC
    exact fun cdv A outer s H E B hp =>
        ss_one (s_ret (e_if (xtru B (xisaT B z_isinstance ["list", "tuple"] (xv 0) (pa_cons (xty z_list PyProof.Rows.boot_list) (pa_cons (xty z_tuple PyProof.Rows.boot_tuple) (pa_nil))))) (xt (b_tuple B.hK B.calm) z_tuple PyProof.Rows.boot_tuple (xa (ylc [("part", 1)] lEnd B (i_seq (Bx.hK B) (xv 0)) (fun s1 H1 C1 cl1 fp1 => yname 1 (B.blk s1 H1 _ _ fp1)) (g_name) (fun s1 H1 C1 cl1 fp1 => ts_nil) (fun s1 H1 C1 cl1 fp1 => xcall hself ((B.blk s1 H1 _ _ fp1).le (by omega)) (xa (xv 1) (a_nil)))) (a_nil))) (xv 0)))
abbrev s_as_set : Stmt := topS 6
theorem sc_as_set : FnScope ["names"] ["names"] (defScope s_as_set) := ⟨rfl, rfl, rfl, by decide +kernel, rfl, by decide +kernel, by decide +kernel⟩
theorem w_as_set (z_set : mg "set" = none) (z_sorted : mg "sorted" = none) (z_tuple : mg "tuple" = none) {f : Addr} {fd : FuncData} (Fu : Fun G.K "as_set" "as_set" s_as_set f fd) : FnOk P w G.K mg base (L2.CX P w) 1 f fd ["names"] (SpM G R_as_set) := by
  show FnOk P w G.K mg base (L2.CX P w) (0 + 1) f fd ["names"] (SpM G (runB 1 1 b_as_set))
  refine fn_ok2 rfl rfl Fu sc_as_set ?_
  exact fun cdv A outer s H E B hp =>
    ss_one (s_ret (xt (b_tuple B.hK B.calm) z_tuple PyProof.Rows.boot_tuple (xa (xss B z_sorted z_set (xv 0)) (a_nil))))
theorem bd_as_set {f : Addr} {fd : FuncData} (Fu : Fun G.K "as_set" "as_set" s_as_set f fd) : Binds G.K fd ["names"] [] := Fu.binds (ps := ["names"]) fun _ _ _ _ _ _ us hl => match us, hl with | [_], _ => rfl
abbrev s_Sheet_init : Stmt := inClass (topS 8) 1
theorem sc_Sheet_init : FnScope ["self", "sheet", "rows", "empties", "name", "wants"] ["self", "sheet"] (defScope s_Sheet_init) := ⟨rfl, rfl, rfl, by decide +kernel, rfl, by decide +kernel, by decide +kernel⟩
theorem w_Sheet_init (hc_Sheet : SlX.SCls G.K (G.cls 0)) {pp_own_empties : Addr} (sl_own_empties : SlX.Slot1 G.K (G.cls 0) "own_empties" pp_own_empties 0) {pp_own_homes : Addr} (sl_own_homes : SlX.Slot1 G.K (G.cls 0) "own_homes" pp_own_homes 1) {pp_own_rows : Addr} (sl_own_rows : SlX.Slot1 G.K (G.cls 0) "own_rows" pp_own_rows 2) (z_list : mg "list" = none) (c_tupled : ∀ n : Nat, Cal P w G mg base (0 + n) "tupled" 1 [] (F_tupled n)) {f : Addr} {fd : FuncData} (Fu : Fun G.K "__init__" "Sheet.__init__" s_Sheet_init f fd) : FnOk P w G.K mg base (L2.CX P w) 9 f fd ["self", "sheet"] (SpM G Hr.R_Sheet_init) := by
  show FnOk P w G.K mg base (L2.CX P w) (8 + 1) f fd ["self", "sheet"] (SpM G (runB 6 2 Hr.b_Sheet_init))
  refine fn_ok2 rfl rfl Fu sc_Sheet_init ?_
  exact fun cdv A outer s H E B hp =>
    ss_cons (yasg (ytup B (pgs_cons (yname 2 B) (pgs_cons (yname 3 B) (pgs_nil)))) (ytupS (Bx.hK B) (glen_cons (glen_cons (glen_nil))) (gs_cons (g_name) (gs_cons (g_name) (gs_nil)))) (xcall (c_tupled 8) (B.le (by omega)) (xa (xv 1) (a_nil))))
    (ss_cons (yfld B hc_Sheet sl_own_rows (xv 0) (ydc [("name", 4), ("wants", 5)] dEnd B (i_seq (Bx.hK B) (xv 2)) (fun s1 H1 C1 cl1 fp1 => ytup (B.blk s1 H1 _ _ fp1) (pgs_cons (yname 4 (B.blk s1 H1 _ _ fp1)) (pgs_cons (yname 5 (B.blk s1 H1 _ _ fp1)) (pgs_nil)))) (ytupS (Bx.hK B) (glen_cons (glen_cons (glen_nil))) (gs_cons (g_name) (gs_cons (g_name) (gs_nil)))) (fun s1 H1 C1 cl1 fp1 => ts_nil) (fun s1 H1 C1 cl1 fp1 => xv 4) (fun s1 H1 C1 cl1 fp1 => xv 5)))
    (ss_cons (yfld B hc_Sheet sl_own_empties (xv 0) (xv 3))
    (ss_one (yfld B hc_Sheet sl_own_homes (xv 0) (ydc [("name", 4)] dEnd B (i_seq (Bx.hK B) (e_op (o_add B.hK) (xt (b_list B.hK B.calm) z_list PyProof.Rows.boot_list (xa (xfld B hc_Sheet sl_own_rows (xv 0)) (a_nil))) (xt (b_list B.hK B.calm) z_list PyProof.Rows.boot_list (xa (xv 3) (a_nil))))) (fun s1 H1 C1 cl1 fp1 => yname 4 (B.blk s1 H1 _ _ fp1)) (g_name) (fun s1 H1 C1 cl1 fp1 => ts_nil) (fun s1 H1 C1 cl1 fp1 => xv 4) (fun s1 H1 C1 cl1 fp1 => e_bl))))))
theorem bd_Sheet_init {f : Addr} {fd : FuncData} (Fu : Fun G.K "__init__" "Sheet.__init__" s_Sheet_init f fd) : Binds G.K fd ["self", "sheet"] [] := Fu.binds (ps := ["self", "sheet"]) fun _ _ _ _ _ _ us hl => match us, hl with | [_, _], _ => rfl
abbrev s_Sheet_names : Stmt := inClass (topS 8) 2
theorem sc_Sheet_names : FnScope ["self"] ["self"] (defScope s_Sheet_names) := ⟨rfl, rfl, rfl, by decide +kernel, rfl, by decide +kernel, by decide +kernel⟩
theorem w_Sheet_names (hc_Sheet : SlX.SCls G.K (G.cls 0)) {pp_own_rows : Addr} (sl_own_rows : SlX.Slot1 G.K (G.cls 0) "own_rows" pp_own_rows 2) (z_tuple : mg "tuple" = none) {f : Addr} {fd : FuncData} (Fu : Fun G.K "names" "Sheet.names" s_Sheet_names f fd) : FnOk P w G.K mg base (L2.CX P w) 1 f fd ["self"] (SpM G Hr.R_Sheet_names) := by
  show FnOk P w G.K mg base (L2.CX P w) (0 + 1) f fd ["self"] (SpM G (runB 1 1 Hr.b_Sheet_names))
  refine fn_ok2 rfl rfl Fu sc_Sheet_names ?_
  exact fun cdv A outer s H E B hp =>
    ss_one (s_ret (xt (b_tuple B.hK B.calm) z_tuple PyProof.Rows.boot_tuple (xa (xfld B hc_Sheet sl_own_rows (xv 0)) (a_nil))))
theorem bd_Sheet_names {f : Addr} {fd : FuncData} (Fu : Fun G.K "names" "Sheet.names" s_Sheet_names f fd) : Binds G.K fd ["self"] [] := Fu.binds (ps := ["self"]) fun _ _ _ _ _ _ us hl => match us, hl with | [_], _ => rfl
abbrev s_Sheet_empties : Stmt := inClass (topS 8) 3
theorem sc_Sheet_empties : FnScope ["self"] ["self"] (defScope s_Sheet_empties) := ⟨rfl, rfl, rfl, by decide +kernel, rfl, by decide +kernel, by decide +kernel⟩
theorem w_Sheet_empties (hc_Sheet : SlX.SCls G.K (G.cls 0)) {pp_own_empties : Addr} (sl_own_empties : SlX.Slot1 G.K (G.cls 0) "own_empties" pp_own_empties 0) {f : Addr} {fd : FuncData} (Fu : Fun G.K "empties" "Sheet.empties" s_Sheet_empties f fd) : FnOk P w G.K mg base (L2.CX P w) 1 f fd ["self"] (SpM G Hd.R_Sheet_empties) := by
  show FnOk P w G.K mg base (L2.CX P w) (0 + 1) f fd ["self"] (SpM G (runB 1 1 Hd.b_Sheet_empties))
  refine fn_ok2 rfl rfl Fu sc_Sheet_empties ?_
  exact fun cdv A outer s H E B hp =>
    ss_one (s_ret (xfld B hc_Sheet sl_own_empties (xv 0)))
theorem bd_Sheet_empties {f : Addr} {fd : FuncData} (Fu : Fun G.K "empties" "Sheet.empties" s_Sheet_empties f fd) : Binds G.K fd ["self"] [] := Fu.binds (ps := ["self"]) fun _ _ _ _ _ _ us hl => match us, hl with | [_], _ => rfl
abbrev s_Sheet_homes : Stmt := inClass (topS 8) 4
theorem sc_Sheet_homes : FnScope ["self"] ["self"] (defScope s_Sheet_homes) := ⟨rfl, rfl, rfl, by decide +kernel, rfl, by decide +kernel, by decide +kernel⟩
theorem w_Sheet_homes (hc_Sheet : SlX.SCls G.K (G.cls 0)) {pp_own_homes : Addr} (sl_own_homes : SlX.Slot1 G.K (G.cls 0) "own_homes" pp_own_homes 1) (c_as_set : Cal P w G mg base 1 "as_set" 1 [] F_as_set) {f : Addr} {fd : FuncData} (Fu : Fun G.K "homes" "Sheet.homes" s_Sheet_homes f fd) : FnOk P w G.K mg base (L2.CX P w) 2 f fd ["self"] (SpM G Hr.R_Sheet_homes) := by
  show FnOk P w G.K mg base (L2.CX P w) (1 + 1) f fd ["self"] (SpM G (runB 1 1 Hr.b_Sheet_homes))
  refine fn_ok2 rfl rfl Fu sc_Sheet_homes ?_
  exact fun cdv A outer s H E B hp =>
    ss_one (s_ret (xcall c_as_set (B.le (by omega)) (xa (xfld B hc_Sheet sl_own_homes (xv 0)) (a_nil))))
theorem bd_Sheet_homes {f : Addr} {fd : FuncData} (Fu : Fun G.K "homes" "Sheet.homes" s_Sheet_homes f fd) : Binds G.K fd ["self"] [] := Fu.binds (ps := ["self"]) fun _ _ _ _ _ _ us hl => match us, hl with | [_], _ => rfl
abbrev s_Sheet_check : Stmt := inClass (topS 8) 7
theorem sc_Sheet_check : FnScope ["self", "names", "name"] ["self", "names"] (defScope s_Sheet_check) := ⟨rfl, rfl, rfl, by decide +kernel, rfl, by decide +kernel, by decide +kernel⟩
theorem w_Sheet_check (hc_Sheet : SlX.SCls G.K (G.cls 0)) {pp_own_rows : Addr} (sl_own_rows : SlX.Slot1 G.K (G.cls 0) "own_rows" pp_own_rows 2) {f : Addr} {fd : FuncData} (Fu : Fun G.K "check" "Sheet.check" s_Sheet_check f fd) : CallR' P w G mg base 1 f Hr.R_Sheet_check := by
  show CallR' P w G mg base (0 + 1) f (starF 1 (runB 3 (1 + 1) Hr.b_Sheet_check))
  refine fn_okS (ps := ["self"]) (pv := "names") rfl rfl Fu sc_Sheet_check (fun _ _ _ _ _ _ us rest hl => match us, rest, hl with | [_], [], _ => rfl | [_], _ :: _, _ => rfl) ?_
  exact fun cdv A outer s H E B hp =>
    ss_one (yfor hp B (i_seq (Bx.hK B) (xv 1)) (yname 2 B) (g_name) (ss_one (s_if (xcmpT (o_notIn B.room.units66 B.hK) (xv 2) (xfld B hc_Sheet sl_own_rows (xv 0))) (ss_one (s_bad)) (ss_nil))))
abbrev s_Sheet_checked : Stmt := inClass (topS 8) 8
theorem sc_Sheet_checked : FnScope ["self", "names", "found"] ["self", "names"] (defScope s_Sheet_checked) := ⟨rfl, rfl, rfl, by decide +kernel, rfl, by decide +kernel, by decide +kernel⟩
theorem w_Sheet_checked (c_Sheet_check : CalMV P w G mg base 1 0 "check" Hr.F_Sheet_check) (c_tupled : ∀ n : Nat, Cal P w G mg base (0 + n) "tupled" 1 [] (F_tupled n)) {f : Addr} {fd : FuncData} (Fu : Fun G.K "checked" "Sheet.checked" s_Sheet_checked f fd) : FnOk P w G.K mg base (L2.CX P w) 9 f fd ["self", "names"] (SpM G Hr.R_Sheet_checked) := by
  show FnOk P w G.K mg base (L2.CX P w) (8 + 1) f fd ["self", "names"] (SpM G (runB 3 2 Hr.b_Sheet_checked))
  refine fn_ok2 rfl rfl Fu sc_Sheet_checked ?_
  exact fun cdv A outer s H E B hp =>
    ss_cons (yset 2 B (xcall (c_tupled 8) (B.le (by omega)) (xa (xv 1) (a_nil))))
    (ss_cons (yexpr (ymethVS1 c_Sheet_check (B.le (by omega)) (xv 0) (xv 2)))
    (ss_one (s_ret (xv 2))))
theorem bd_Sheet_checked {f : Addr} {fd : FuncData} (Fu : Fun G.K "checked" "Sheet.checked" s_Sheet_checked f fd) : Binds G.K fd ["self", "names"] [] := Fu.binds (ps := ["self", "names"]) fun _ _ _ _ _ _ us hl => match us, hl with | [_, _], _ => rfl
abbrev s_Sheet_wants : Stmt := inClass (topS 8) 10
theorem sc_Sheet_wants : FnScope ["self", "name", "home"] ["self", "name"] (defScope s_Sheet_wants) := ⟨rfl, rfl, rfl, by decide +kernel, rfl, by decide +kernel, by decide +kernel⟩
theorem w_Sheet_wants (hc_Sheet : SlX.SCls G.K (G.cls 0)) {pp_own_homes : Addr} (sl_own_homes : SlX.Slot1 G.K (G.cls 0) "own_homes" pp_own_homes 1) {pp_own_rows : Addr} (sl_own_rows : SlX.Slot1 G.K (G.cls 0) "own_rows" pp_own_rows 2) (z_tuple : mg "tuple" = none) {f : Addr} {fd : FuncData} (Fu : Fun G.K "wants" "Sheet.wants" s_Sheet_wants f fd) : FnOk P w G.K mg base (L2.CX P w) 1 f fd ["self", "name"] (SpM G Hr.R_Sheet_wants) := by
  show FnOk P w G.K mg base (L2.CX P w) (0 + 1) f fd ["self", "name"] (SpM G (runB 3 2 Hr.b_Sheet_wants))
  refine fn_ok2 rfl rfl Fu sc_Sheet_wants ?_
  exact fun cdv A outer s H E B hp =>
    ss_one (s_ret (xt (b_tuple B.hK B.calm) z_tuple PyProof.Rows.boot_tuple (xa (ylc [("home", 2)] lEnd B (i_seq (Bx.hK B) (xix B (xfld B hc_Sheet sl_own_rows (xv 0)) (xv 1))) (fun s1 H1 C1 cl1 fp1 => yname 2 (B.blk s1 H1 _ _ fp1)) (g_name) (fun s1 H1 C1 cl1 fp1 => ts_one (xcmpT (o_in (B.blk s1 H1 _ _ fp1).room.units66 (B.blk s1 H1 _ _ fp1).hK) (xv 2) (xfld (B.blk s1 H1 _ _ fp1) hc_Sheet sl_own_homes (xv 0)))) (fun s1 H1 C1 cl1 fp1 => xv 2)) (a_nil))))
theorem bd_Sheet_wants {f : Addr} {fd : FuncData} (Fu : Fun G.K "wants" "Sheet.wants" s_Sheet_wants f fd) : Binds G.K fd ["self", "name"] [] := Fu.binds (ps := ["self", "name"]) fun _ _ _ _ _ _ us hl => match us, hl with | [_, _], _ => rfl
abbrev s_Sheet_told : Stmt := inClass (topS 8) 14
theorem sc_Sheet_told : FnScope ["self"] ["self"] (defScope s_Sheet_told) := ⟨rfl, rfl, rfl, by decide +kernel, rfl, by decide +kernel, by decide +kernel⟩
theorem w_Sheet_told (hc_Sheet : SlX.SCls G.K (G.cls 0)) {pp_own_empties : Addr} (sl_own_empties : SlX.Slot1 G.K (G.cls 0) "own_empties" pp_own_empties 0) {pp_own_rows : Addr} (sl_own_rows : SlX.Slot1 G.K (G.cls 0) "own_rows" pp_own_rows 2) (z_tuple : mg "tuple" = none) {f : Addr} {fd : FuncData} (Fu : Fun G.K "told" "Sheet.told" s_Sheet_told f fd) : FnOk P w G.K mg base (L2.CX P w) 1 f fd ["self"] (SpM G Hc.R_Sheet_told) := by
  show FnOk P w G.K mg base (L2.CX P w) (0 + 1) f fd ["self"] (SpM G (runB 1 1 Hc.b_Sheet_told))
  refine fn_ok2 rfl rfl Fu sc_Sheet_told ?_
  exact fun cdv A outer s H E B hp =>
    ss_one (s_ret (e_tup (xa (e_tupleItems B z_tuple (xfld B hc_Sheet sl_own_rows (xv 0))) (xa (xfld B hc_Sheet sl_own_empties (xv 0)) (a_nil)))))
theorem bd_Sheet_told {f : Addr} {fd : FuncData} (Fu : Fun G.K "told" "Sheet.told" s_Sheet_told f fd) : Binds G.K fd ["self"] [] := Fu.binds (ps := ["self"]) fun _ _ _ _ _ _ us hl => match us, hl with | [_], _ => rfl
abbrev s_without : Stmt := topS 9
theorem sc_without : FnScope ["sheet", "names", "own", "gone", "rows", "empties", "row"] ["sheet", "names"] (defScope s_without) := ⟨rfl, rfl, rfl, by decide +kernel, rfl, by decide +kernel, by decide +kernel⟩
theorem w_without (z_tuple : mg "tuple" = none) (c_Sheet_init : CalI P w G mg base 9 0 "Sheet" 1 Hr.F_Sheet_init) (c_Sheet_checked : CalM P w G mg base 9 0 "checked" 1 Hr.F_Sheet_checked) (c_Sheet_told : CalM P w G mg base 1 0 "told" 0 Hc.F_Sheet_told) {f : Addr} {fd : FuncData} (Fu : Fun G.K "without" "without" s_without f fd) : FnOk P w G.K mg base (L2.CX P w) 11 f fd ["sheet", "names"] (SpM G R_without) := by
  show FnOk P w G.K mg base (L2.CX P w) (10 + 1) f fd ["sheet", "names"] (SpM G (runB 7 2 b_without))
  refine fn_ok2 rfl rfl Fu sc_without ?_
  exact fun cdv A outer s H E B hp =>
    ss_cons (yset 2 B (ymakeD c_Sheet_init (B.le (by omega)) (xa (xv 0) (a_nil))))
    (ss_cons (yset 3 B (ymeth c_Sheet_checked (B.le (by omega)) (xv 2) (xa (xv 1) (a_nil))))
    (ss_cons (yasg (ytup B (pgs_cons (yname 4 B) (pgs_cons (yname 5 B) (pgs_nil)))) (ytupS (Bx.hK B) (glen_cons (glen_cons (glen_nil))) (gs_cons (g_name) (gs_cons (g_name) (gs_nil)))) (ymeth0 c_Sheet_told (B.le (by omega)) (xv 2)))
    (ss_one (s_ret (e_tup (xa (xt (b_tuple B.hK B.calm) z_tuple PyProof.Rows.boot_tuple (xa (ylc [("row", 6)] lEnd B (i_seq (Bx.hK B) (xv 4)) (fun s1 H1 C1 cl1 fp1 => yname 6 (B.blk s1 H1 _ _ fp1)) (g_name) (fun s1 H1 C1 cl1 fp1 => ts_one (xcmpT (o_notIn (B.blk s1 H1 _ _ fp1).room.units66 (B.blk s1 H1 _ _ fp1).hK) (xix (B.blk s1 H1 _ _ fp1) (xv 6) (e_int)) (xv 3))) (fun s1 H1 C1 cl1 fp1 => xv 6)) (a_nil))) (xa (xv 5) (a_nil))))))))
theorem bd_without {f : Addr} {fd : FuncData} (Fu : Fun G.K "without" "without" s_without f fd) : Binds G.K fd ["sheet", "names"] [] := Fu.binds (ps := ["sheet", "names"]) fun _ _ _ _ _ _ us hl => match us, hl with | [_, _], _ => rfl
abbrev s_turned : Stmt := topS 12
theorem sc_turned : FnScope ["part", "names", "end", "at"] ["part"] (defScope s_turned) := ⟨rfl, rfl, rfl, by decide +kernel, rfl, by decide +kernel, by decide +kernel⟩
theorem w_turned (z_min : mg "min" = none) {tk_RING : Tok} (gb_RING : mg "RING" = some (.str ("" : Str) tk_RING)) (hN : G.tk = false) {f : Addr} {fd : FuncData} (Fu : Fun G.K "turned" "turned" s_turned f fd) : FnOk P w G.K mg base (L2.CX P w) 1 f fd ["part"] (SpM G Hk.R_turned) := by
  show FnOk P w G.K mg base (L2.CX P w) (0 + 1) f fd ["part"] (SpM G (runB 4 1 Hk.b_turned))
  refine fn_ok2 rfl rfl Fu sc_turned ?_
  exact fun cdv A outer s H E B hp =>
    ss_cons (yasg (ytup B (pgs_cons (yname 1 B) (pgs_cons (yname 2 B) (pgs_nil)))) (ytupS (Bx.hK B) (glen_cons (glen_cons (glen_nil))) (gs_cons (g_name) (gs_cons (g_name) (gs_nil)))) (e_wk hN (xv 0)))
    (ss_cons (yset 3 B (e_if (xcmpT (o_eq B.room.units B.hK) (xv 2) (xglobS gb_RING)) (e_tm PySem.F.slot_tuple_index PySem.F.type_tuple_index (m_indexT B.hK) (xv 1) (xa (xb (b_minT B.calm B.hK B.room.units) z_min PyProof.Rows.boot_min (xa (e_wk hN (xv 1)) (a_nil))) (a_nil))) (e_int)))
    (ss_one (s_ret (e_tup (xa (e_op (o_add B.hK) (e_sl (sl_any B.hK) (e_wk hN (xv 1)) (o_pt (xv 3)) (o_no)) (e_sl (sl_any B.hK) (e_wk hN (xv 1)) (o_no) (o_pt (xv 3)))) (xa (xv 2) (a_nil)))))))
theorem bd_turned {f : Addr} {fd : FuncData} (Fu : Fun G.K "turned" "turned" s_turned f fd) : Binds G.K fd ["part"] [] := Fu.binds (ps := ["part"]) fun _ _ _ _ _ _ us hl => match us, hl with | [_], _ => rfl
abbrev s_goals_of : Stmt := topS 13
theorem sc_goals_of : FnScope ["part", "names", "end"] ["part"] (defScope s_goals_of) := ⟨rfl, rfl, rfl, by decide +kernel, rfl, by decide +kernel, by decide +kernel⟩
theorem w_goals_of {tk_RING : Tok} (gb_RING : mg "RING" = some (.str ("" : Str) tk_RING)) {f : Addr} {fd : FuncData} (Fu : Fun G.K "goals_of" "goals_of" s_goals_of f fd) : FnOk P w G.K mg base (L2.CX P w) 1 f fd ["part"] (SpM G Hk.R_goals_of) := by
  show FnOk P w G.K mg base (L2.CX P w) (0 + 1) f fd ["part"] (SpM G (runB 3 1 Hk.b_goals_of))
  refine fn_ok2 rfl rfl Fu sc_goals_of ?_
  exact fun cdv A outer s H E B hp =>
    ss_cons (yasg (ytup B (pgs_cons (yname 1 B) (pgs_cons (yname 2 B) (pgs_nil)))) (ytupS (Bx.hK B) (glen_cons (glen_cons (glen_nil))) (gs_cons (g_name) (gs_cons (g_name) (gs_nil)))) (xv 0))
    (ss_one (s_ret (e_tup (a_star (Bx.hK B) (e_sl (sl_any B.hK) (xv 1) (o_pt (e_int)) (o_no)) (xa (e_if (xcmpT (o_eq B.room.units B.hK) (xv 2) (xglobS gb_RING)) (xix B (xv 1) (e_int)) (xv 2)) (a_nil))))))
theorem bd_goals_of {f : Addr} {fd : FuncData} (Fu : Fun G.K "goals_of" "goals_of" s_goals_of f fd) : Binds G.K fd ["part"] [] := Fu.binds (ps := ["part"]) fun _ _ _ _ _ _ us hl => match us, hl with | [_], _ => rfl
abbrev s_names_in : Stmt := topS 14
theorem sc_names_in : FnScope ["parts", "found", "names", "end"] ["parts"] (defScope s_names_in) := ⟨rfl, rfl, rfl, by decide +kernel, rfl, by decide +kernel, by decide +kernel⟩
theorem w_names_in {tk_RING : Tok} (gb_RING : mg "RING" = some (.str ("" : Str) tk_RING)) {f : Addr} {fd : FuncData} (Fu : Fun G.K "names_in" "names_in" s_names_in f fd) : FnOk P w G.K mg base (L2.CX P w) 1 f fd ["parts"] (SpM G Hk.R_names_in) := by
  show FnOk P w G.K mg base (L2.CX P w) (0 + 1) f fd ["parts"] (SpM G (runB 4 1 Hk.b_names_in))
  refine fn_ok2 rfl rfl Fu sc_names_in ?_
  exact fun cdv A outer s H E B hp =>
    ss_cons (yset 1 B (e_lstB (a_nil)))
    (ss_cons (yfor hp B (i_seq (Bx.hK B) (xv 0)) (ytup B (pgs_cons (yname 2 B) (pgs_cons (yname 3 B) (pgs_nil)))) (ytupS (Bx.hK B) (glen_cons (glen_cons (glen_nil))) (gs_cons (g_name) (gs_cons (g_name) (gs_nil)))) (ss_one (yexpr (xlm B PySem.F.slot_list_extend PySem.F.type_list_extend (m_extendA (Bx.hK B)) (xv 1) (xa (e_if (xcmpT (o_eq B.room.units B.hK) (xv 3) (xglobS gb_RING)) (xv 2) (e_tup (a_star (Bx.hK B) (xv 2) (xa (xv 3) (a_nil))))) (a_nil))))))
    (ss_one (s_ret (e_frz (xv 1)))))
theorem bd_names_in {f : Addr} {fd : FuncData} (Fu : Fun G.K "names_in" "names_in" s_names_in f fd) : Binds G.K fd ["parts"] [] := Fu.binds (ps := ["parts"]) fun _ _ _ _ _ _ us hl => match us, hl with | [_], _ => rfl
abbrev s_goals_in : Stmt := topS 15
theorem sc_goals_in : FnScope ["parts", "part", "name", "goal"] ["parts"] (defScope s_goals_in) := ⟨rfl, rfl, rfl, by decide +kernel, rfl, by decide +kernel, by decide +kernel⟩
theorem w_goals_in (z_zip : mg "zip" = none) (c_goals_of : Cal P w G mg base 1 "goals_of" 1 [] Hk.F_goals_of) {f : Addr} {fd : FuncData} (Fu : Fun G.K "goals_in" "goals_in" s_goals_in f fd) : FnOk P w G.K mg base (L2.CX P w) 2 f fd ["parts"] (SpM G Hk.R_goals_in) := by
  show FnOk P w G.K mg base (L2.CX P w) (1 + 1) f fd ["parts"] (SpM G (runB 4 1 Hk.b_goals_in))
  refine fn_ok2 rfl rfl Fu sc_goals_in ?_
  exact fun cdv A outer s H E B hp =>
    ss_one (s_ret (ydc2 [("part", 1), ("name", 2), ("goal", 3)] [2, 3] dEnd B (i_seq (Bx.hK B) (xv 0)) (fun s1 H1 C1 cl1 fp1 => yname 1 (B.blk s1 H1 _ _ fp1)) (g_name) (fun s1 H1 C1 cl1 fp1 => ts_nil) (fun s1 H1 C1 cl1 fp1 => pi_zipB (Bx.hK (B.blk s1 H1 _ _ fp1)) z_zip (xa (xix (B.blk s1 H1 _ _ fp1) (xv 1) (e_int)) (xa (xcall c_goals_of ((B.blk s1 H1 _ _ fp1).le (by omega)) (xa (xv 1) (a_nil))) (a_nil)))) rdb_zip (fun s1 H1 C1 cl1 fp1 => ytup (B.blk s1 H1 _ _ fp1) (pgs_cons (yname 2 (B.blk s1 H1 _ _ fp1)) (pgs_cons (yname 3 (B.blk s1 H1 _ _ fp1)) (pgs_nil)))) (ytupS (Bx.hK B) (glen_cons (glen_cons (glen_nil))) (gs_cons (g_name) (gs_cons (g_name) (gs_nil)))) (fun s1 H1 C1 cl1 fp1 => ts_nil) (fun s1 H1 C1 cl1 fp1 => xv 2) (fun s1 H1 C1 cl1 fp1 => xv 3)))
theorem bd_goals_in {f : Addr} {fd : FuncData} (Fu : Fun G.K "goals_in" "goals_in" s_goals_in f fd) : Binds G.K fd ["parts"] [] := Fu.binds (ps := ["parts"]) fun _ _ _ _ _ _ us hl => match us, hl with | [_], _ => rfl
abbrev s_tupledN : Stmt := topS 5
theorem sc_tupledN : FnScope ["thing", "part"] ["thing"] (defScope s_tupledN) := ⟨rfl, rfl, rfl, by decide +kernel, rfl, by decide +kernel, by decide +kernel⟩
theorem w_tupledN (z_isinstance : mg "isinstance" = none) (z_list : mg "list" = none) (z_tuple : mg "tuple" = none) {f : Addr} {fd : FuncData} (Fu : Fun G.K "tupled" "tupled" s_tupledN f fd) (hmg : mg "tupled" = some (.ref f)) : ∀ n : Nat, Cal P w G mg base (0 + n) "tupled" 1 [] (Hk.F_tupledN n)
  | 0 => Cal.bad hmg Fu.kp
  | n + 1 => by
    have hself := w_tupledN z_isinstance z_list z_tuple Fu hmg n
    refine (Cal.fn hmg Fu (show FnOk P w G.K mg base (L2.CX P w) (0 + n + 1) f fd ["thing"] (SpM G (runB 2 1 (Hk.b_tupledN (Hk.F_tupledN n)))) from fn_ok2 rfl rfl Fu sc_tupledN ?_) (Fu.binds (ps := ["thing"]) fun _ _ _ _ _ _ us hl => match us, hl with | [_], _ => rfl)).isoC
    exact fun cdv A outer s H E B hp =>
        ss_one (s_ret (e_if (xtru B (xisaT B z_isinstance ["list", "tuple"] (xv 0) (pa_cons (xty z_list PyProof.Rows.boot_list) (pa_cons (xty z_tuple PyProof.Rows.boot_tuple) (pa_nil))))) (xt (b_tupleN B.hK) z_tuple PyProof.Rows.boot_tuple (xa (ylc [("part", 1)] lEnd B (i_seq (Bx.hK B) (xv 0)) (fun s1 H1 C1 cl1 fp1 => yname 1 (B.blk s1 H1 _ _ fp1)) (g_name) (fun s1 H1 C1 cl1 fp1 => ts_nil) (fun s1 H1 C1 cl1 fp1 => xcall hself ((B.blk s1 H1 _ _ fp1).le (by omega)) (xa (xv 1) (a_nil)))) (a_nil))) (xv 0)))
abbrev s_Plan_init : Stmt := inClass (topS 21) 1
theorem sc_Plan_init : FnScope ["self", "parts", "found", "part", "names", "twice", "name"] ["self", "parts"] (defScope s_Plan_init) := ⟨rfl, rfl, rfl, by decide +kernel, rfl, by decide +kernel, by decide +kernel⟩
theorem w_Plan_init (hc_Plan : SlX.SCls G.K (G.cls 2)) {pp_own_goals : Addr} (sl_own_goals : SlX.Slot1 G.K (G.cls 2) "own_goals" pp_own_goals 0) {pp_own_parts : Addr} (sl_own_parts : SlX.Slot1 G.K (G.cls 2) "own_parts" pp_own_parts 1) (z_len : mg "len" = none) (z_min : mg "min" = none) (z_sorted : mg "sorted" = none) (z_tuple : mg "tuple" = none) (rs_Clash : Rsx P G mg "Clash" 0) (hN : G.tk = false) (c_goals_in : Cal P w G mg base 2 "goals_in" 1 [] Hk.F_goals_in) (c_names_in : Cal P w G mg base 1 "names_in" 1 [] Hk.F_names_in) (c_tupledN : ∀ n : Nat, Cal P w G mg base (0 + n) "tupled" 1 [] (Hk.F_tupledN n)) (c_turned : Cal P w G mg base 1 "turned" 1 [] Hk.F_turned) {f : Addr} {fd : FuncData} (Fu : Fun G.K "__init__" "Plan.__init__" s_Plan_init f fd) : CallR' P w G mg base 9 f Hk.R_Plan_init := by
  show CallR' P w G mg base (8 + 1) f (starF 1 (runB 7 (1 + 1) Hk.b_Plan_init))
  refine fn_okS (ps := ["self"]) (pv := "parts") rfl rfl Fu sc_Plan_init (fun _ _ _ _ _ _ us rest hl => match us, rest, hl with | [_], [], _ => rfl | [_], _ :: _, _ => rfl) ?_
  exact fun cdv A outer s H E B hp =>
    ss_cons (yset 2 B (xb (b_sorted B.hK B.room.units) z_sorted PyProof.Rows.boot_sorted (xa (ylc [("part", 3)] lEnd B (i_seq (Bx.hK B) (e_wk hN (xcall (c_tupledN 8) (B.le (by omega)) (xa (xv 1) (a_nil))))) (fun s1 H1 C1 cl1 fp1 => yname 3 (B.blk s1 H1 _ _ fp1)) (g_name) (fun s1 H1 C1 cl1 fp1 => ts_nil) (fun s1 H1 C1 cl1 fp1 => xcall c_turned ((B.blk s1 H1 _ _ fp1).le (by omega)) (xa (xv 3) (a_nil)))) (a_nil))))
    (ss_cons (yset 4 B (xcall c_names_in (B.le (by omega)) (xa (xv 2) (a_nil))))
    (ss_cons (ysetLc 5 [("name", 6)] lEnd B (i_seq (Bx.hK B) (xv 4)) (fun s1 H1 C1 cl1 fp1 => yname 6 (B.blk s1 H1 _ _ fp1)) (g_name) (fun s1 H1 C1 cl1 fp1 => ts_one (xcmpT (o_gt) (xlm (B.blk s1 H1 _ _ fp1) PySem.F.slot_list_count PySem.F.type_list_count (m_count (B.blk s1 H1 _ _ fp1).hK) (xv 4) (xa (xv 6) (a_nil))) (e_int))) (fun s1 H1 C1 cl1 fp1 => xv 6))
    (ss_cons (s_if (xcmpT (o_gt) (xb (b_len B.hK) z_len PySem.boot_len (xa (xv 5) (a_nil))) (e_int)) (ss_one (yraise B (by omega) rs_Clash (xb (b_minT B.calm B.hK B.room.units) z_min PyProof.Rows.boot_min (xa (xv 5) (a_nil))))) (ss_nil))
    (ss_cons (yfld B hc_Plan sl_own_parts (xv 0) (xt (b_tuple B.hK B.calm) z_tuple PyProof.Rows.boot_tuple (xa (xv 2) (a_nil))))
    (ss_one (yfld B hc_Plan sl_own_goals (xv 0) (xcall c_goals_in (B.le (by omega)) (xa (xv 2) (a_nil)))))))))
abbrev s_Plan_of : Stmt := inClass (topS 21) 2
theorem sc_Plan_of : FnScope ["cls", "parts"] ["cls", "parts"] (defScope s_Plan_of) := ⟨rfl, rfl, rfl, by decide +kernel, rfl, by decide +kernel, by decide +kernel⟩
theorem w_Plan_of (c_Plan_init : CalIV P w G mg base 9 2 "Plan" Hk.F_Plan_init) {f : Addr} {fd : FuncData} (Fu : Fun G.K "of" "Plan.of" s_Plan_of f fd) : FnOk P w G.K mg base (L2.CX P w) 11 f fd ["cls", "parts"] (SpC G Hk.R_Plan_of) := by
  show FnOk P w G.K mg base (L2.CX P w) (10 + 1) f fd ["cls", "parts"] (SpC G (runC 2 1 Hk.b_Plan_of))
  refine fn_okC rfl rfl Fu sc_Plan_of ?_
  exact fun cdv A outer s H E B hp =>
    ss_one (s_ret (ymakeDS c_Plan_init (B.le (by omega)) (xv 1)))
theorem bd_Plan_of {f : Addr} {fd : FuncData} (Fu : Fun G.K "of" "Plan.of" s_Plan_of f fd) : Binds G.K fd ["cls", "parts"] [] := Fu.binds (ps := ["cls", "parts"]) fun _ _ _ _ _ _ us hl => match us, hl with | [_, _], _ => rfl
abbrev s_Plan_parts : Stmt := inClass (topS 21) 5
theorem sc_Plan_parts : FnScope ["self"] ["self"] (defScope s_Plan_parts) := ⟨rfl, rfl, rfl, by decide +kernel, rfl, by decide +kernel, by decide +kernel⟩
theorem w_Plan_parts (hc_Plan : SlX.SCls G.K (G.cls 2)) {pp_own_parts : Addr} (sl_own_parts : SlX.Slot1 G.K (G.cls 2) "own_parts" pp_own_parts 1) {f : Addr} {fd : FuncData} (Fu : Fun G.K "parts" "Plan.parts" s_Plan_parts f fd) : FnOk P w G.K mg base (L2.CX P w) 1 f fd ["self"] (SpM G Hk.R_Plan_parts) := by
  show FnOk P w G.K mg base (L2.CX P w) (0 + 1) f fd ["self"] (SpM G (runB 1 1 Hk.b_Plan_parts))
  refine fn_ok2 rfl rfl Fu sc_Plan_parts ?_
  exact fun cdv A outer s H E B hp =>
    ss_one (s_ret (xfld B hc_Plan sl_own_parts (xv 0)))
theorem bd_Plan_parts {f : Addr} {fd : FuncData} (Fu : Fun G.K "parts" "Plan.parts" s_Plan_parts f fd) : Binds G.K fd ["self"] [] := Fu.binds (ps := ["self"]) fun _ _ _ _ _ _ us hl => match us, hl with | [_], _ => rfl
abbrev s_Plan___call__ : Stmt := inClass (topS 21) 11
theorem sc_Plan___call__ : FnScope ["self", "name"] ["self", "name"] (defScope s_Plan___call__) := ⟨rfl, rfl, rfl, by decide +kernel, rfl, by decide +kernel, by decide +kernel⟩
theorem w_Plan___call__ (hc_Plan : SlX.SCls G.K (G.cls 2)) {pp_own_goals : Addr} (sl_own_goals : SlX.Slot1 G.K (G.cls 2) "own_goals" pp_own_goals 0) {f : Addr} {fd : FuncData} (Fu : Fun G.K "__call__" "Plan.__call__" s_Plan___call__ f fd) : FnOk P w G.K mg base (L2.CX P w) 1 f fd ["self", "name"] (SpM G Hk.R_Plan___call__) := by
  show FnOk P w G.K mg base (L2.CX P w) (0 + 1) f fd ["self", "name"] (SpM G (runB 2 2 Hk.b_Plan___call__))
  refine fn_ok2 rfl rfl Fu sc_Plan___call__ ?_
  exact fun cdv A outer s H E B hp =>
    ss_one (s_ret (e_get1 B (xfld B hc_Plan sl_own_goals (xv 0)) (xv 1)))
theorem bd_Plan___call__ {f : Addr} {fd : FuncData} (Fu : Fun G.K "__call__" "Plan.__call__" s_Plan___call__ f fd) : Binds G.K fd ["self", "name"] [] := Fu.binds (ps := ["self", "name"]) fun _ _ _ _ _ _ us hl => match us, hl with | [_, _], _ => rfl
abbrev s_way_back : Stmt := topS 24
theorem sc_way_back : FnScope ["back", "last", "met"] ["back", "last"] (defScope s_way_back) := ⟨rfl, rfl, rfl, by decide +kernel, rfl, by decide +kernel, by decide +kernel⟩
theorem w_way_back  {f : Addr} {fd : FuncData} (Fu : Fun G.K "way_back" "way_back" s_way_back f fd) : FnOk P w G.K mg base (L2.CX P w) 1 f fd ["back", "last"] (SpM G Hr.R_way_back) := by
  show FnOk P w G.K mg base (L2.CX P w) (0 + 1) f fd ["back", "last"] (SpM G (runB 3 2 Hr.b_way_back))
  refine fn_ok2 rfl rfl Fu sc_way_back ?_
  exact fun cdv A outer s H E B hp =>
    ss_cons (yset 2 B (e_lstB (a_nil)))
    (ss_cons (s_while (n := 64) hp (L2.PW.pt (w_and (xcmpT (o_inN B.room.units66 B.hK) (xv 1) (xv 0)) (w_and1 (xcmpT (o_notIn B.room.units66 B.hK) (xv 1) (xv 2))))) (ss_cons (yexpr (xlm B PySem.F.slot_list_append PySem.F.type_list_append m_append (xv 2) (xa (xv 1) (a_nil))))
    (ss_one (yset 1 B (xix B (xv 0) (xv 1))))))
    (ss_one (s_ret (e_if (xcmpT (o_in B.room.units66 B.hK) (xv 1) (xv 2)) (e_revL B (e_sl (sl_any B.hK) (xv 2) (o_pt (xlm B PySem.F.slot_list_index PySem.F.type_list_index (m_index B.hK) (xv 2) (xa (xv 1) (a_nil)))) (o_no))) (e_lst (a_nil))))))
theorem bd_way_back {f : Addr} {fd : FuncData} (Fu : Fun G.K "way_back" "way_back" s_way_back f fd) : Binds G.K fd ["back", "last"] [] := Fu.binds (ps := ["back", "last"]) fun _ _ _ _ _ _ us hl => match us, hl with | [_, _], _ => rfl
abbrev s_Choice_steps : Stmt := inClass (topS 25) 2
theorem sc_Choice_steps : FnScope ["self", "found", "home", "name", "worths", "other", "worth"] ["self"] (defScope s_Choice_steps) := ⟨rfl, rfl, rfl, by decide +kernel, rfl, by decide +kernel, by decide +kernel⟩
theorem w_Choice_steps (hc_Choice : SlX.SCls G.K (G.cls 1)) {pp_Choice_own_homes : Addr} (sl_Choice_own_homes : SlX.Slot1 G.K (G.cls 1) "own_homes" pp_Choice_own_homes 0) {pp_own_taken : Addr} (sl_own_taken : SlX.Slot1 G.K (G.cls 1) "own_taken" pp_own_taken 2) {pp_own_worths : Addr} (sl_own_worths : SlX.Slot1 G.K (G.cls 1) "own_worths" pp_own_worths 3) (z_list : mg "list" = none) {tk_FREE : Tok} (gb_FREE : mg "FREE" = some (.str ("" : Str) tk_FREE)) {f : Addr} {fd : FuncData} (Fu : Fun G.K "steps" "Choice.steps" s_Choice_steps f fd) : FnOk P w G.K mg base (L2.CX P w) 1 f fd ["self"] (SpM G Hr.R_Choice_steps) := by
  show FnOk P w G.K mg base (L2.CX P w) (0 + 1) f fd ["self"] (SpM G (runB 7 1 Hr.b_Choice_steps))
  refine fn_ok2 rfl rfl Fu sc_Choice_steps ?_
  exact fun cdv A outer s H E B hp =>
    ss_cons (ysetLc 1 [("home", 2)] lEndB B (i_seq (Bx.hK B) (xfld B hc_Choice sl_Choice_own_homes (xv 0))) (fun s1 H1 C1 cl1 fp1 => yname 2 (B.blk s1 H1 _ _ fp1)) (g_name) (fun s1 H1 C1 cl1 fp1 => ts_one (xcmpT (o_notIn (B.blk s1 H1 _ _ fp1).room.units66 (B.blk s1 H1 _ _ fp1).hK) (xv 2) (e_listVals (B.blk s1 H1 _ _ fp1) z_list (xfld (B.blk s1 H1 _ _ fp1) hc_Choice sl_own_taken (xv 0))))) (fun s1 H1 C1 cl1 fp1 => e_tup (xa (xv 2) (xa (xglobS gb_FREE) (xa (e_int) (a_nil))))))
    (ss_cons (yfor hp B (yitems (xfld B hc_Choice sl_own_taken (xv 0))) (ytup B (pgs_cons (yname 3 B) (pgs_cons (yname 2 B) (pgs_nil)))) (ytupS (Bx.hK B) (glen_cons (glen_cons (glen_nil))) (gs_cons (g_name) (gs_cons (g_name) (gs_nil)))) (ss_cons (yset 4 B (xix B (xfld B hc_Choice sl_own_worths (xv 0)) (xv 3)))
    (ss_cons (yexpr (xlm B PySem.F.slot_list_append PySem.F.type_list_append m_append (xv 1) (xa (e_tup (xa (xglobS gb_FREE) (xa (xv 2) (xa (e_int) (a_nil))))) (a_nil))))
    (ss_one (yexpr (xlm B PySem.F.slot_list_extend PySem.F.type_list_extend m_extend (xv 1) (xa (ylc [("other", 5), ("worth", 6)] lEnd B (yitems (xv 4)) (fun s1 H1 C1 cl1 fp1 => ytup (B.blk s1 H1 _ _ fp1) (pgs_cons (yname 5 (B.blk s1 H1 _ _ fp1)) (pgs_cons (yname 6 (B.blk s1 H1 _ _ fp1)) (pgs_nil)))) (ytupS (Bx.hK B) (glen_cons (glen_cons (glen_nil))) (gs_cons (g_name) (gs_cons (g_name) (gs_nil)))) (fun s1 H1 C1 cl1 fp1 => ts_one (xcmpT (o_ne (B.blk s1 H1 _ _ fp1).room.units (B.blk s1 H1 _ _ fp1).hK) (xv 5) (xv 2))) (fun s1 H1 C1 cl1 fp1 => e_tup (xa (xv 2) (xa (xv 5) (xa (e_op (o_sub) (xv 6) (xix (B.blk s1 H1 _ _ fp1) (xv 4) (xv 2))) (a_nil)))))) (a_nil))))))))
    (ss_one (s_ret (e_frz (xv 1)))))
theorem bd_Choice_steps {f : Addr} {fd : FuncData} (Fu : Fun G.K "steps" "Choice.steps" s_Choice_steps f fd) : Binds G.K fd ["self"] [] := Fu.binds (ps := ["self"]) fun _ _ _ _ _ _ us hl => match us, hl with | [_], _ => rfl
abbrev s_Choice_better_ring : Stmt := inClass (topS 25) 3
theorem sc_Choice_better_ring : FnScope ["self", "steps", "back", "reach", "node", "last", "one", "other", "gain", "way"] ["self"] (defScope s_Choice_better_ring) := ⟨rfl, rfl, rfl, by decide +kernel, rfl, by decide +kernel, by decide +kernel⟩
theorem w_Choice_better_ring (hc_Choice : SlX.SCls G.K (G.cls 1)) {pp_Choice_own_homes : Addr} (sl_Choice_own_homes : SlX.Slot1 G.K (G.cls 1) "own_homes" pp_Choice_own_homes 0) {pp_own_reach : Addr} (sl_own_reach : SlX.Slot1 G.K (G.cls 1) "own_reach" pp_own_reach 1) (z_len : mg "len" = none) {tk_FREE : Tok} (gb_FREE : mg "FREE" = some (.str ("" : Str) tk_FREE)) (c_Choice_steps : CalM P w G mg base 1 1 "steps" 0 Hr.F_Choice_steps) (c_way_back : Cal P w G mg base 1 "way_back" 2 [] Hr.F_way_back) {f : Addr} {fd : FuncData} (Fu : Fun G.K "better_ring" "Choice.better_ring" s_Choice_better_ring f fd) : FnOk P w G.K mg base (L2.CX P w) 2 f fd ["self"] (SpM G Hr.R_Choice_better_ring) := by
  show FnOk P w G.K mg base (L2.CX P w) (1 + 1) f fd ["self"] (SpM G (runB 10 1 Hr.b_Choice_better_ring))
  refine fn_ok2 rfl rfl Fu sc_Choice_better_ring ?_
  exact fun cdv A outer s H E B hp =>
    ss_cons (s_par2 B (xa (ymeth0 c_Choice_steps (B.le (by omega)) (xv 0)) (xa (e_dnew) (a_nil))))
    (ss_cons (ysetDc 3 [("node", 4)] dEndB B (i_seq (Bx.hK B) (e_lst (a_star (Bx.hK B) (xfld B hc_Choice sl_Choice_own_homes (xv 0)) (xa (xglobS gb_FREE) (a_nil))))) (fun s1 H1 C1 cl1 fp1 => yname 4 (B.blk s1 H1 _ _ fp1)) (g_name) (fun s1 H1 C1 cl1 fp1 => ts_nil) (fun s1 H1 C1 cl1 fp1 => xv 4) (fun s1 H1 C1 cl1 fp1 => e_int))
    (ss_cons (yset 5 B (xglobS gb_FREE))
    (ss_cons (s_while (n := 4096) hp (xcmpT (o_isNot) (xv 5) (e_non)) (ss_cons (yset 5 B (e_non))
    (ss_cons (yfor hp B (i_seq (Bx.hK B) (xv 1)) (ytup B (pgs_cons (yname 6 B) (pgs_cons (yname 7 B) (pgs_cons (yname 8 B) (pgs_nil))))) (ytupS (Bx.hK B) (glen_cons (glen_cons (glen_cons (glen_nil)))) (gs_cons (g_name) (gs_cons (g_name) (gs_cons (g_name) (gs_nil))))) (ss_one (s_if (xcmpT (o_gt) (e_op (o_add B.hK) (xix B (xv 3) (xv 6)) (xv 8)) (xix B (xv 3) (xv 7))) (ss_one (yparG B (xa (e_op (o_add B.hK) (xix B (xv 3) (xv 6)) (xv 8)) (xa (xv 6) (xa (xv 7) (a_nil)))) (ytup B (pgs_cons (ypsub B (xv 3) (xv 7)) (pgs_cons (ypsub B (xv 2) (xv 7)) (pgs_cons (yname 5 B) (pgs_nil))))) (t2s_cons t2_sub (t2s_cons t2_sub (t2s_cons t2_name (t2s_nil)))))) (ss_nil))))
    (ss_cons (yset 9 B (xcall c_way_back (B.le (by omega)) (xa (xv 2) (xa (xv 5) (a_nil)))))
    (ss_one (s_if (xcmpT (o_gt) (xb (b_len B.hK) z_len PySem.boot_len (xa (xv 9) (a_nil))) (e_int)) (ss_one (s_ret (xv 9))) (ss_nil)))))))
    (ss_cons (yfld B hc_Choice sl_own_reach (xv 0) (e_frz (xv 3)))
    (ss_one (s_ret (e_non)))))))
theorem bd_Choice_better_ring {f : Addr} {fd : FuncData} (Fu : Fun G.K "better_ring" "Choice.better_ring" s_Choice_better_ring f fd) : Binds G.K fd ["self"] [] := Fu.binds (ps := ["self"]) fun _ _ _ _ _ _ us hl => match us, hl with | [_], _ => rfl
abbrev s_Choice_turn : Stmt := inClass (topS 25) 4
theorem sc_Choice_turn : FnScope ["self", "ring", "after", "name", "home"] ["self", "ring"] (defScope s_Choice_turn) := ⟨rfl, rfl, rfl, by decide +kernel, rfl, by decide +kernel, by decide +kernel⟩
theorem w_Choice_turn (hc_Choice : SlX.SCls G.K (G.cls 1)) {pp_own_taken : Addr} (sl_own_taken : SlX.Slot1 G.K (G.cls 1) "own_taken" pp_own_taken 2) (z_dict : mg "dict" = none) (z_zip : mg "zip" = none) {tk_FREE : Tok} (gb_FREE : mg "FREE" = some (.str ("" : Str) tk_FREE)) {f : Addr} {fd : FuncData} (Fu : Fun G.K "turn" "Choice.turn" s_Choice_turn f fd) : FnOk P w G.K mg base (L2.CX P w) 1 f fd ["self", "ring"] (SpM G Hr.R_Choice_turn) := by
  show FnOk P w G.K mg base (L2.CX P w) (0 + 1) f fd ["self", "ring"] (SpM G (runB 5 2 Hr.b_Choice_turn))
  refine fn_ok2 rfl rfl Fu sc_Choice_turn ?_
  exact fun cdv A outer s H E B hp =>
    ss_cons (yset 2 B (e_dictZip B z_dict z_zip (xa (xv 1) (xa (e_op (o_add B.hK) (e_sl (sl_any B.hK) (xv 1) (o_pt (e_int)) (o_no)) (e_sl (sl_any B.hK) (xv 1) (o_no) (o_pt (e_int)))) (a_nil)))))
    (ss_one (yfld B hc_Choice sl_own_taken (xv 0) (ydc [("name", 3), ("home", 4)] dEnd B (yitems (xfld B hc_Choice sl_own_taken (xv 0))) (fun s1 H1 C1 cl1 fp1 => ytup (B.blk s1 H1 _ _ fp1) (pgs_cons (yname 3 (B.blk s1 H1 _ _ fp1)) (pgs_cons (yname 4 (B.blk s1 H1 _ _ fp1)) (pgs_nil)))) (ytupS (Bx.hK B) (glen_cons (glen_cons (glen_nil))) (gs_cons (g_name) (gs_cons (g_name) (gs_nil)))) (fun s1 H1 C1 cl1 fp1 => ts_nil) (fun s1 H1 C1 cl1 fp1 => xv 3) (fun s1 H1 C1 cl1 fp1 => e_if (xcmpT (o_ne (B.blk s1 H1 _ _ fp1).room.units (B.blk s1 H1 _ _ fp1).hK) (e_get (B.blk s1 H1 _ _ fp1) (xv 2) (xv 4) (xglobS gb_FREE)) (xglobS gb_FREE)) (xix (B.blk s1 H1 _ _ fp1) (xv 2) (xv 4)) (xv 4)))))
theorem bd_Choice_turn {f : Addr} {fd : FuncData} (Fu : Fun G.K "turn" "Choice.turn" s_Choice_turn f fd) : Binds G.K fd ["self", "ring"] [] := Fu.binds (ps := ["self", "ring"]) fun _ _ _ _ _ _ us hl => match us, hl with | [_, _], _ => rfl
abbrev s_Choice_init : Stmt := inClass (topS 25) 1
theorem sc_Choice_init : FnScope ["self", "worths", "homes", "name", "ring"] ["self", "worths", "homes"] (defScope s_Choice_init) := ⟨rfl, rfl, rfl, by decide +kernel, rfl, by decide +kernel, by decide +kernel⟩
theorem w_Choice_init (hc_Choice : SlX.SCls G.K (G.cls 1)) {pp_Choice_own_homes : Addr} (sl_Choice_own_homes : SlX.Slot1 G.K (G.cls 1) "own_homes" pp_Choice_own_homes 0) {pp_own_reach : Addr} (sl_own_reach : SlX.Slot1 G.K (G.cls 1) "own_reach" pp_own_reach 1) {pp_own_taken : Addr} (sl_own_taken : SlX.Slot1 G.K (G.cls 1) "own_taken" pp_own_taken 2) {pp_own_worths : Addr} (sl_own_worths : SlX.Slot1 G.K (G.cls 1) "own_worths" pp_own_worths 3) (c_Choice_better_ring : CalM P w G mg base 2 1 "better_ring" 0 Hr.F_Choice_better_ring) (c_Choice_turn : CalM P w G mg base 1 1 "turn" 1 Hr.F_Choice_turn) {f : Addr} {fd : FuncData} (Fu : Fun G.K "__init__" "Choice.__init__" s_Choice_init f fd) : FnOk P w G.K mg base (L2.CX P w) 3 f fd ["self", "worths", "homes"] (SpM G Hr.R_Choice_init) := by
  show FnOk P w G.K mg base (L2.CX P w) (2 + 1) f fd ["self", "worths", "homes"] (SpM G (runB 5 3 Hr.b_Choice_init))
  refine fn_ok2 rfl rfl Fu sc_Choice_init ?_
  exact fun cdv A outer s H E B hp =>
    ss_cons (yfld B hc_Choice sl_own_worths (xv 0) (xv 1))
    (ss_cons (yfld B hc_Choice sl_Choice_own_homes (xv 0) (xv 2))
    (ss_cons (yfld B hc_Choice sl_own_taken (xv 0) (ydc [("name", 3)] dEnd B (i_keys (xv 1)) (fun s1 H1 C1 cl1 fp1 => yname 3 (B.blk s1 H1 _ _ fp1)) (g_name) (fun s1 H1 C1 cl1 fp1 => ts_nil) (fun s1 H1 C1 cl1 fp1 => xv 3) (fun s1 H1 C1 cl1 fp1 => xv 3)))
    (ss_cons (yfld B hc_Choice sl_own_reach (xv 0) (e_dnew))
    (ss_cons (yset 4 B (ymeth0 c_Choice_better_ring (B.le (by omega)) (xv 0)))
    (ss_one (s_while (n := 4096) hp (xcmpT (o_isNot) (xv 4) (e_non)) (ss_cons (yexpr (ymeth c_Choice_turn (B.le (by omega)) (xv 0) (xa (xv 4) (a_nil))))
    (ss_one (yset 4 B (ymeth0 c_Choice_better_ring (B.le (by omega)) (xv 0)))))))))))
theorem bd_Choice_init {f : Addr} {fd : FuncData} (Fu : Fun G.K "__init__" "Choice.__init__" s_Choice_init f fd) : Binds G.K fd ["self", "worths", "homes"] [] := Fu.binds (ps := ["self", "worths", "homes"]) fun _ _ _ _ _ _ us hl => match us, hl with | [_, _, _], _ => rfl
abbrev s_Choice_place : Stmt := inClass (topS 25) 5
theorem sc_Choice_place : FnScope ["self", "name"] ["self", "name"] (defScope s_Choice_place) := ⟨rfl, rfl, rfl, by decide +kernel, rfl, by decide +kernel, by decide +kernel⟩
theorem w_Choice_place (hc_Choice : SlX.SCls G.K (G.cls 1)) {pp_own_taken : Addr} (sl_own_taken : SlX.Slot1 G.K (G.cls 1) "own_taken" pp_own_taken 2) {f : Addr} {fd : FuncData} (Fu : Fun G.K "place" "Choice.place" s_Choice_place f fd) : FnOk P w G.K mg base (L2.CX P w) 1 f fd ["self", "name"] (SpM G R_Choice_place) := by
  show FnOk P w G.K mg base (L2.CX P w) (0 + 1) f fd ["self", "name"] (SpM G (runB 2 2 b_Choice_place))
  refine fn_ok2 rfl rfl Fu sc_Choice_place ?_
  exact fun cdv A outer s H E B hp =>
    ss_one (s_ret (xix B (xfld B hc_Choice sl_own_taken (xv 0)) (xv 1)))
theorem bd_Choice_place {f : Addr} {fd : FuncData} (Fu : Fun G.K "place" "Choice.place" s_Choice_place f fd) : Binds G.K fd ["self", "name"] [] := Fu.binds (ps := ["self", "name"]) fun _ _ _ _ _ _ us hl => match us, hl with | [_, _], _ => rfl
abbrev s_Choice_gained : Stmt := inClass (topS 25) 7
theorem sc_Choice_gained : FnScope ["self", "name", "home"] ["self"] (defScope s_Choice_gained) := ⟨rfl, rfl, rfl, by decide +kernel, rfl, by decide +kernel, by decide +kernel⟩
theorem w_Choice_gained (hc_Choice : SlX.SCls G.K (G.cls 1)) {pp_own_taken : Addr} (sl_own_taken : SlX.Slot1 G.K (G.cls 1) "own_taken" pp_own_taken 2) {pp_own_worths : Addr} (sl_own_worths : SlX.Slot1 G.K (G.cls 1) "own_worths" pp_own_worths 3) (z_sum : mg "sum" = none) {f : Addr} {fd : FuncData} (Fu : Fun G.K "gained" "Choice.gained" s_Choice_gained f fd) : FnOk P w G.K mg base (L2.CX P w) 1 f fd ["self"] (SpM G R_Choice_gained) := by
  show FnOk P w G.K mg base (L2.CX P w) (0 + 1) f fd ["self"] (SpM G (runB 3 1 b_Choice_gained))
  refine fn_ok2 rfl rfl Fu sc_Choice_gained ?_
  exact fun cdv A outer s H E B hp =>
    ss_one (s_ret (xb (b_sum B.hK B.calm) z_sum PyProof.Rows.boot_sum (xa (ylc [("name", 1), ("home", 2)] lEnd B (yitems (xfld B hc_Choice sl_own_taken (xv 0))) (fun s1 H1 C1 cl1 fp1 => ytup (B.blk s1 H1 _ _ fp1) (pgs_cons (yname 1 (B.blk s1 H1 _ _ fp1)) (pgs_cons (yname 2 (B.blk s1 H1 _ _ fp1)) (pgs_nil)))) (ytupS (Bx.hK B) (glen_cons (glen_cons (glen_nil))) (gs_cons (g_name) (gs_cons (g_name) (gs_nil)))) (fun s1 H1 C1 cl1 fp1 => ts_nil) (fun s1 H1 C1 cl1 fp1 => xix (B.blk s1 H1 _ _ fp1) (xix (B.blk s1 H1 _ _ fp1) (xfld (B.blk s1 H1 _ _ fp1) hc_Choice sl_own_worths (xv 0)) (xv 1)) (xv 2))) (a_nil))))
theorem bd_Choice_gained {f : Addr} {fd : FuncData} (Fu : Fun G.K "gained" "Choice.gained" s_Choice_gained f fd) : Binds G.K fd ["self"] [] := Fu.binds (ps := ["self"]) fun _ _ _ _ _ _ us hl => match us, hl with | [_], _ => rfl
abbrev s_worths_of : Stmt := topS 26
theorem sc_worths_of : FnScope ["own", "must", "low", "home", "name"] ["own", "must"] (defScope s_worths_of) := ⟨rfl, rfl, rfl, by decide +kernel, rfl, by decide +kernel, by decide +kernel⟩
theorem w_worths_of (z_len : mg "len" = none) (c_Sheet_names : CalM P w G mg base 1 0 "names" 0 Hr.F_Sheet_names) (c_Sheet_wants : CalM P w G mg base 1 0 "wants" 1 Hr.F_Sheet_wants) {f : Addr} {fd : FuncData} (Fu : Fun G.K "worths_of" "worths_of" s_worths_of f fd) : FnOk P w G.K mg base (L2.CX P w) 2 f fd ["own", "must"] (SpM G Hr.R_worths_of) := by
  show FnOk P w G.K mg base (L2.CX P w) (1 + 1) f fd ["own", "must"] (SpM G (runB 5 2 Hr.b_worths_of))
  refine fn_ok2 rfl rfl Fu sc_worths_of ?_
  exact fun cdv A outer s H E B hp =>
    ss_cons (yset 2 B (e_op (o_sub) (e_un u_neg (xb (b_len B.hK) z_len PySem.boot_len (xa (ymeth0 c_Sheet_names (B.le (by omega)) (xv 0)) (a_nil)))) (e_int)))
    (ss_one (s_ret (ydc [("name", 4)] dEnd B (i_seq (Bx.hK B) (ymeth0 c_Sheet_names (B.le (by omega)) (xv 0))) (fun s1 H1 C1 cl1 fp1 => yname 4 (B.blk s1 H1 _ _ fp1)) (g_name) (fun s1 H1 C1 cl1 fp1 => ts_nil) (fun s1 H1 C1 cl1 fp1 => xv 4) (fun s1 H1 C1 cl1 fp1 => e_star dEnd (xv 4) (e_if (xcmpT (o_in (B.blk s1 H1 _ _ fp1).room.units66 (B.blk s1 H1 _ _ fp1).hK) (xv 4) (xv 1)) (xv 2) (e_int)) (ydc [("home", 3)] dEnd (B.blk s1 H1 _ _ fp1) (i_seq (Bx.hK (B.blk s1 H1 _ _ fp1)) (ymeth c_Sheet_wants ((B.blk s1 H1 _ _ fp1).le (by omega)) (xv 0) (xa (xv 4) (a_nil)))) (fun s2 H2 C2 cl2 fp2 => yname 3 ((B.blk s1 H1 _ _ fp1).blk s2 H2 _ _ fp2)) (g_name) (fun s2 H2 C2 cl2 fp2 => ts_nil) (fun s2 H2 C2 cl2 fp2 => xv 3) (fun s2 H2 C2 cl2 fp2 => e_int))))))
theorem bd_worths_of {f : Addr} {fd : FuncData} (Fu : Fun G.K "worths_of" "worths_of" s_worths_of f fd) : Binds G.K fd ["own", "must"] [] := Fu.binds (ps := ["own", "must"]) fun _ _ _ _ _ _ us hl => match us, hl with | [_, _], _ => rfl
abbrev s_best_of : Stmt := topS 27
theorem sc_best_of : FnScope ["own"] ["own"] (defScope s_best_of) := ⟨rfl, rfl, rfl, by decide +kernel, rfl, by decide +kernel, by decide +kernel⟩
theorem w_best_of (c_Choice_init : CalI P w G mg base 3 1 "Choice" 2 Hr.F_Choice_init) (c_Sheet_homes : CalM P w G mg base 2 0 "homes" 0 Hr.F_Sheet_homes) (c_worths_of : Cal P w G mg base 2 "worths_of" 2 [] Hr.F_worths_of) {f : Addr} {fd : FuncData} (Fu : Fun G.K "best_of" "best_of" s_best_of f fd) : FnOk P w G.K mg base (L2.CX P w) 5 f fd ["own"] (SpM G Hr.R_best_of) := by
  show FnOk P w G.K mg base (L2.CX P w) (4 + 1) f fd ["own"] (SpM G (runB 1 1 Hr.b_best_of))
  refine fn_ok2 rfl rfl Fu sc_best_of ?_
  exact fun cdv A outer s H E B hp =>
    ss_one (s_ret (ymakeD c_Choice_init (B.le (by omega)) (xa (xcall c_worths_of (B.le (by omega)) (xa (xv 0) (xa (e_tup (a_nil)) (a_nil)))) (xa (ymeth0 c_Sheet_homes (B.le (by omega)) (xv 0)) (a_nil)))))
theorem bd_best_of {f : Addr} {fd : FuncData} (Fu : Fun G.K "best_of" "best_of" s_best_of f fd) : Binds G.K fd ["own"] [] := Fu.binds (ps := ["own"]) fun _ _ _ _ _ _ us hl => match us, hl with | [_], _ => rfl
abbrev s_rowless : Stmt := topS 28
theorem sc_rowless : FnScope ["own"] ["own"] (defScope s_rowless) := ⟨rfl, rfl, rfl, by decide +kernel, rfl, by decide +kernel, by decide +kernel⟩
theorem w_rowless (c_Sheet_init : CalI P w G mg base 9 0 "Sheet" 1 Hr.F_Sheet_init) (c_Sheet_told : CalM P w G mg base 1 0 "told" 0 Hc.F_Sheet_told) {f : Addr} {fd : FuncData} (Fu : Fun G.K "rowless" "rowless" s_rowless f fd) : FnOk P w G.K mg base (L2.CX P w) 11 f fd ["own"] (SpM G Hc.R_rowless) := by
  show FnOk P w G.K mg base (L2.CX P w) (10 + 1) f fd ["own"] (SpM G (runB 1 1 Hc.b_rowless))
  refine fn_ok2 rfl rfl Fu sc_rowless ?_
  exact fun cdv A outer s H E B hp =>
    ss_one (s_ret (ymakeD c_Sheet_init (B.le (by omega)) (xa (e_tup (xa (xix B (ymeth0 c_Sheet_told (B.le (by omega)) (xv 0)) (e_int)) (xa (e_tup (a_nil)) (a_nil)))) (a_nil))))
theorem bd_rowless {f : Addr} {fd : FuncData} (Fu : Fun G.K "rowless" "rowless" s_rowless f fd) : Binds G.K fd ["own"] [] := Fu.binds (ps := ["own"]) fun _ _ _ _ _ _ us hl => match us, hl with | [_], _ => rfl
abbrev s_most_any : Stmt := topS 29
theorem sc_most_any : FnScope ["sheet", "rows", "own"] ["sheet", "rows"] (defScope s_most_any) := ⟨rfl, rfl, rfl, by decide +kernel, rfl, by decide +kernel, by decide +kernel⟩
theorem w_most_any (c_Choice_gained : CalM P w G mg base 1 1 "gained" 0 F_Choice_gained) (c_Sheet_init : CalI P w G mg base 9 0 "Sheet" 1 Hr.F_Sheet_init) (c_best_of : Cal P w G mg base 5 "best_of" 1 [] Hr.F_best_of) (c_rowless : Cal P w G mg base 11 "rowless" 1 [] Hc.F_rowless) {f : Addr} {dV kV : Value} {fd : FuncData} (Fu : FunA G.K "most_any" "most_any" s_most_any f dV kV fd) : FnOk P w G.K mg base (L2.CX P w) 12 f fd ["sheet", "rows"] (SpM G R_most_any) := by
  show FnOk P w G.K mg base (L2.CX P w) (11 + 1) f fd ["sheet", "rows"] (SpM G (runB 3 2 b_most_any))
  refine fn_okA rfl rfl Fu sc_most_any ?_
  exact fun cdv A outer s H E B hp =>
    ss_cons (yset 2 B (ymakeD c_Sheet_init (B.le (by omega)) (xa (xv 0) (a_nil))))
    (ss_one (s_ret (ymeth0 c_Choice_gained (B.le (by omega)) (xcall c_best_of (B.le (by omega)) (xa (e_if (xtru B (xv 1)) (xv 2) (xcall c_rowless (B.le (by omega)) (xa (xv 2) (a_nil)))) (a_nil))))))
abbrev s_sizes_of : Stmt := topS 31
theorem sc_sizes_of : FnScope ["parts", "names", "end"] ["parts"] (defScope s_sizes_of) := ⟨rfl, rfl, rfl, by decide +kernel, rfl, by decide +kernel, by decide +kernel⟩
theorem w_sizes_of (z_len : mg "len" = none) (z_sorted : mg "sorted" = none) {f : Addr} {fd : FuncData} (Fu : Fun G.K "sizes_of" "sizes_of" s_sizes_of f fd) : FnOk P w G.K mg base (L2.CX P w) 1 f fd ["parts"] (SpM G R_sizes_of) := by
  show FnOk P w G.K mg base (L2.CX P w) (0 + 1) f fd ["parts"] (SpM G (runB 3 1 b_sizes_of))
  refine fn_ok2 rfl rfl Fu sc_sizes_of ?_
  exact fun cdv A outer s H E B hp =>
    ss_one (s_ret (xsortD B z_sorted (ylc [("names", 1), ("end", 2)] lEnd B (i_seq (Bx.hK B) (xv 0)) (fun s1 H1 C1 cl1 fp1 => ytup (B.blk s1 H1 _ _ fp1) (pgs_cons (yname 1 (B.blk s1 H1 _ _ fp1)) (pgs_cons (yname 2 (B.blk s1 H1 _ _ fp1)) (pgs_nil)))) (ytupS (Bx.hK B) (glen_cons (glen_cons (glen_nil))) (gs_cons (g_name) (gs_cons (g_name) (gs_nil)))) (fun s1 H1 C1 cl1 fp1 => ts_nil) (fun s1 H1 C1 cl1 fp1 => xb (b_len (B.blk s1 H1 _ _ fp1).hK) z_len PySem.boot_len (xa (xv 1) (a_nil))))))
theorem bd_sizes_of {f : Addr} {fd : FuncData} (Fu : Fun G.K "sizes_of" "sizes_of" s_sizes_of f fd) : Binds G.K fd ["parts"] [] := Fu.binds (ps := ["parts"]) fun _ _ _ _ _ _ us hl => match us, hl with | [_], _ => rfl
abbrev s_ender : Stmt := topS 32
theorem sc_ender : FnScope ["part", "names", "end"] ["part"] (defScope s_ender) := ⟨rfl, rfl, rfl, by decide +kernel, rfl, by decide +kernel, by decide +kernel⟩
theorem w_ender {tk_RING : Tok} (gb_RING : mg "RING" = some (.str ("" : Str) tk_RING)) {f : Addr} {fd : FuncData} (Fu : Fun G.K "ender" "ender" s_ender f fd) : FnOk P w G.K mg base (L2.CX P w) 1 f fd ["part"] (SpM G R_ender) := by
  show FnOk P w G.K mg base (L2.CX P w) (0 + 1) f fd ["part"] (SpM G (runB 3 1 b_ender))
  refine fn_ok2 rfl rfl Fu sc_ender ?_
  exact fun cdv A outer s H E B hp =>
    ss_cons (yasg (ytup B (pgs_cons (yname 1 B) (pgs_cons (yname 2 B) (pgs_nil)))) (ytupS (Bx.hK B) (glen_cons (glen_cons (glen_nil))) (gs_cons (g_name) (gs_cons (g_name) (gs_nil)))) (xv 0))
    (ss_one (s_ret (e_if (xcmpT (o_eq B.room.units B.hK) (xv 2) (xglobS gb_RING)) (xix B (xv 1) (e_int)) (xix B (xv 1) (e_un u_neg (e_int))))))
theorem bd_ender {f : Addr} {fd : FuncData} (Fu : Fun G.K "ender" "ender" s_ender f fd) : Binds G.K fd ["part"] [] := Fu.binds (ps := ["part"]) fun _ _ _ _ _ _ us hl => match us, hl with | [_], _ => rfl
abbrev s_safe_for : Stmt := topS 33
theorem sc_safe_for : FnScope ["plan", "many"] ["plan", "many"] (defScope s_safe_for) := ⟨rfl, rfl, rfl, by decide +kernel, rfl, by decide +kernel, by decide +kernel⟩
theorem w_safe_for (z_sum : mg "sum" = none) (c_Plan_parts : CalP P w G mg base 1 2 "parts" Hk.F_Plan_parts) (c_sizes_of : Cal P w G mg base 1 "sizes_of" 1 [] F_sizes_of) {f : Addr} {fd : FuncData} (Fu : Fun G.K "safe_for" "safe_for" s_safe_for f fd) : FnOk P w G.K mg base (L2.CX P w) 3 f fd ["plan", "many"] (SpM G R_safe_for) := by
  show FnOk P w G.K mg base (L2.CX P w) (2 + 1) f fd ["plan", "many"] (SpM G (runB 2 2 b_safe_for))
  refine fn_ok2 rfl rfl Fu sc_safe_for ?_
  exact fun cdv A outer s H E B hp =>
    ss_one (s_ret (xb (b_sum B.hK B.calm) z_sum PyProof.Rows.boot_sum (xa (e_sl (sl_any B.hK) (xcall c_sizes_of (B.le (by omega)) (xa (yprop c_Plan_parts (B.le (by omega)) (xv 0)) (a_nil))) (o_pt (xv 1)) (o_no)) (a_nil))))
theorem bd_safe_for {f : Addr} {fd : FuncData} (Fu : Fun G.K "safe_for" "safe_for" s_safe_for f fd) : Binds G.K fd ["plan", "many"] [] := Fu.binds (ps := ["plan", "many"]) fun _ _ _ _ _ _ us hl => match us, hl with | [_, _], _ => rfl
abbrev s_worst_gone : Stmt := topS 34
theorem sc_worst_gone : FnScope ["plan", "many", "rows", "part", "size", "name"] ["plan", "many"] (defScope s_worst_gone) := ⟨rfl, rfl, rfl, by decide +kernel, rfl, by decide +kernel, by decide +kernel⟩
theorem w_worst_gone (z_len : mg "len" = none) (z_sorted : mg "sorted" = none) (c_Plan_parts : CalP P w G mg base 1 2 "parts" Hk.F_Plan_parts) (c_as_set : Cal P w G mg base 1 "as_set" 1 [] F_as_set) (c_ender : Cal P w G mg base 1 "ender" 1 [] F_ender) {f : Addr} {fd : FuncData} (Fu : Fun G.K "worst_gone" "worst_gone" s_worst_gone f fd) : FnOk P w G.K mg base (L2.CX P w) 3 f fd ["plan", "many"] (SpM G R_worst_gone) := by
  show FnOk P w G.K mg base (L2.CX P w) (2 + 1) f fd ["plan", "many"] (SpM G (runB 6 2 b_worst_gone))
  refine fn_ok2 rfl rfl Fu sc_worst_gone ?_
  exact fun cdv A outer s H E B hp =>
    ss_cons (yset 2 B (xb (b_sorted B.hK B.room.units) z_sorted PyProof.Rows.boot_sorted (xa (ylc [("part", 3)] lEnd B (i_seq (Bx.hK B) (yprop c_Plan_parts (B.le (by omega)) (xv 0))) (fun s1 H1 C1 cl1 fp1 => yname 3 (B.blk s1 H1 _ _ fp1)) (g_name) (fun s1 H1 C1 cl1 fp1 => ts_nil) (fun s1 H1 C1 cl1 fp1 => e_tup (xa (e_un u_neg (xb (b_len (B.blk s1 H1 _ _ fp1).hK) z_len PySem.boot_len (xa (xix (B.blk s1 H1 _ _ fp1) (xv 3) (e_int)) (a_nil)))) (xa (xcall c_ender ((B.blk s1 H1 _ _ fp1).le (by omega)) (xa (xv 3) (a_nil))) (a_nil))))) (a_nil))))
    (ss_one (s_ret (xcall c_as_set (B.le (by omega)) (xa (ylc [("size", 4), ("name", 5)] lEnd B (i_seq (Bx.hK B) (e_sl (sl_any B.hK) (xv 2) (o_no) (o_pt (xv 1)))) (fun s1 H1 C1 cl1 fp1 => ytup (B.blk s1 H1 _ _ fp1) (pgs_cons (yname 4 (B.blk s1 H1 _ _ fp1)) (pgs_cons (yname 5 (B.blk s1 H1 _ _ fp1)) (pgs_nil)))) (ytupS (Bx.hK B) (glen_cons (glen_cons (glen_nil))) (gs_cons (g_name) (gs_cons (g_name) (gs_nil)))) (fun s1 H1 C1 cl1 fp1 => ts_nil) (fun s1 H1 C1 cl1 fp1 => xv 5)) (a_nil)))))
theorem bd_worst_gone {f : Addr} {fd : FuncData} (Fu : Fun G.K "worst_gone" "worst_gone" s_worst_gone f fd) : Binds G.K fd ["plan", "many"] [] := Fu.binds (ps := ["plan", "many"]) fun _ _ _ _ _ _ us hl => match us, hl with | [_, _], _ => rfl
abbrev s_weak_ones : Stmt := topS 35
theorem sc_weak_ones : FnScope ["plan", "found", "most", "names", "end"] ["plan"] (defScope s_weak_ones) := ⟨rfl, rfl, rfl, by decide +kernel, rfl, by decide +kernel, by decide +kernel⟩
theorem w_weak_ones (z_len : mg "len" = none) (z_max : mg "max" = none) {tk_RING : Tok} (gb_RING : mg "RING" = some (.str ("" : Str) tk_RING)) (c_Plan_parts : CalP P w G mg base 1 2 "parts" Hk.F_Plan_parts) (c_as_set : Cal P w G mg base 1 "as_set" 1 [] F_as_set) {f : Addr} {fd : FuncData} (Fu : Fun G.K "weak_ones" "weak_ones" s_weak_ones f fd) : FnOk P w G.K mg base (L2.CX P w) 3 f fd ["plan"] (SpM G R_weak_ones) := by
  show FnOk P w G.K mg base (L2.CX P w) (2 + 1) f fd ["plan"] (SpM G (runB 5 1 b_weak_ones))
  refine fn_ok2 rfl rfl Fu sc_weak_ones ?_
  exact fun cdv A outer s H E B hp =>
    ss_cons (s_par2 B (xa (e_lstB (a_nil)) (xa (xmaxD0 B z_max (ylc [("names", 3), ("end", 4)] lEnd B (i_seq (Bx.hK B) (yprop c_Plan_parts (B.le (by omega)) (xv 0))) (fun s1 H1 C1 cl1 fp1 => ytup (B.blk s1 H1 _ _ fp1) (pgs_cons (yname 3 (B.blk s1 H1 _ _ fp1)) (pgs_cons (yname 4 (B.blk s1 H1 _ _ fp1)) (pgs_nil)))) (ytupS (Bx.hK B) (glen_cons (glen_cons (glen_nil))) (gs_cons (g_name) (gs_cons (g_name) (gs_nil)))) (fun s1 H1 C1 cl1 fp1 => ts_nil) (fun s1 H1 C1 cl1 fp1 => xb (b_len (B.blk s1 H1 _ _ fp1).hK) z_len PySem.boot_len (xa (xv 3) (a_nil))))) (a_nil))))
    (ss_cons (yfor hp B (i_seq (Bx.hK B) (yprop c_Plan_parts (B.le (by omega)) (xv 0))) (ytup B (pgs_cons (yname 3 B) (pgs_cons (yname 4 B) (pgs_nil)))) (ytupS (Bx.hK B) (glen_cons (glen_cons (glen_nil))) (gs_cons (g_name) (gs_cons (g_name) (gs_nil)))) (ss_one (s_if (xcmpT (o_eq B.room.units B.hK) (xb (b_len B.hK) z_len PySem.boot_len (xa (xv 3) (a_nil))) (xv 2)) (ss_one (yexpr (xlm B PySem.F.slot_list_extend PySem.F.type_list_extend (m_extendA (Bx.hK B)) (xv 1) (xa (e_if (xcmpT (o_eq B.room.units B.hK) (xv 4) (xglobS gb_RING)) (xv 3) (e_sl (sl_any B.hK) (xv 3) (o_pt (e_un u_neg (e_int))) (o_no))) (a_nil))))) (ss_nil))))
    (ss_one (s_ret (xcall c_as_set (B.le (by omega)) (xa (e_frz (xv 1)) (a_nil))))))
theorem bd_weak_ones {f : Addr} {fd : FuncData} (Fu : Fun G.K "weak_ones" "weak_ones" s_weak_ones f fd) : Binds G.K fd ["plan"] [] := Fu.binds (ps := ["plan"]) fun _ _ _ _ _ _ us hl => match us, hl with | [_], _ => rfl
abbrev s_whole_parts : Stmt := topS 36
theorem sc_whole_parts : FnScope ["plan", "gone", "part", "name"] ["plan", "gone"] (defScope s_whole_parts) := ⟨rfl, rfl, rfl, by decide +kernel, rfl, by decide +kernel, by decide +kernel⟩
theorem w_whole_parts (z_any : mg "any" = none) (c_Plan_parts : CalP P w G mg base 1 2 "parts" Hk.F_Plan_parts) {f : Addr} {fd : FuncData} (Fu : Fun G.K "whole_parts" "whole_parts" s_whole_parts f fd) : FnOk P w G.K mg base (L2.CX P w) 3 f fd ["plan", "gone"] (SpM G R_whole_parts) := by
  show FnOk P w G.K mg base (L2.CX P w) (2 + 1) f fd ["plan", "gone"] (SpM G (runB 4 2 b_whole_parts))
  refine fn_ok2 rfl rfl Fu sc_whole_parts ?_
  exact fun cdv A outer s H E B hp =>
    ss_one (s_ret (ylc [("part", 2)] lEnd B (i_seq (Bx.hK B) (yprop c_Plan_parts (B.le (by omega)) (xv 0))) (fun s1 H1 C1 cl1 fp1 => yname 2 (B.blk s1 H1 _ _ fp1)) (g_name) (fun s1 H1 C1 cl1 fp1 => ts_one (c_not (xtru (B.blk s1 H1 _ _ fp1) (xb (b_any (B.blk s1 H1 _ _ fp1).hK (B.blk s1 H1 _ _ fp1).calm) z_any PyProof.Rows.boot_any (xa (ylc [("name", 3)] lEnd (B.blk s1 H1 _ _ fp1) (i_seq (Bx.hK (B.blk s1 H1 _ _ fp1)) (xix (B.blk s1 H1 _ _ fp1) (xv 2) (e_int))) (fun s2 H2 C2 cl2 fp2 => yname 3 ((B.blk s1 H1 _ _ fp1).blk s2 H2 _ _ fp2)) (g_name) (fun s2 H2 C2 cl2 fp2 => ts_nil) (fun s2 H2 C2 cl2 fp2 => xcmp (o_in ((B.blk s1 H1 _ _ fp1).blk s2 H2 _ _ fp2).room.units66 ((B.blk s1 H1 _ _ fp1).blk s2 H2 _ _ fp2).hK) (xv 3) (xv 1))) (a_nil)))))) (fun s1 H1 C1 cl1 fp1 => xv 2)))
theorem bd_whole_parts {f : Addr} {fd : FuncData} (Fu : Fun G.K "whole_parts" "whole_parts" s_whole_parts f fd) : Binds G.K fd ["plan", "gone"] [] := Fu.binds (ps := ["plan", "gone"]) fun _ _ _ _ _ _ us hl => match us, hl with | [_, _], _ => rfl
abbrev s_rest_sheet : Stmt := topS 37
theorem sc_rest_sheet : FnScope ["sheet", "plan", "gone", "own", "away", "whole", "kept", "names", "end", "name", "rest", "left", "empties", "home", "homes"] ["sheet", "plan", "gone"] (defScope s_rest_sheet) := ⟨rfl, rfl, rfl, by decide +kernel, rfl, by decide +kernel, by decide +kernel⟩
theorem w_rest_sheet (z_list : mg "list" = none) (z_tuple : mg "tuple" = none) {tk_RING : Tok} (gb_RING : mg "RING" = some (.str ("" : Str) tk_RING)) (c_Sheet_init : CalI P w G mg base 9 0 "Sheet" 1 Hr.F_Sheet_init) (c_Sheet_checked : CalM P w G mg base 9 0 "checked" 1 Hr.F_Sheet_checked) (c_Sheet_empties : CalM P w G mg base 1 0 "empties" 0 Hd.F_Sheet_empties) (c_Sheet_names : CalM P w G mg base 1 0 "names" 0 Hr.F_Sheet_names) (c_Sheet_wants : CalM P w G mg base 1 0 "wants" 1 Hr.F_Sheet_wants) (c_as_set : Cal P w G mg base 1 "as_set" 1 [] F_as_set) (c_whole_parts : Cal P w G mg base 3 "whole_parts" 2 [] F_whole_parts) {f : Addr} {dV kV : Value} {fd : FuncData} (Fu : FunA G.K "rest_sheet" "rest_sheet" s_rest_sheet f dV kV fd) : FnOk P w G.K mg base (L2.CX P w) 11 f fd ["sheet", "plan", "gone"] (SpM G R_rest_sheet) := by
  show FnOk P w G.K mg base (L2.CX P w) (10 + 1) f fd ["sheet", "plan", "gone"] (SpM G (runB 15 3 b_rest_sheet))
  refine fn_okA rfl rfl Fu sc_rest_sheet ?_
  exact fun cdv A outer s H E B hp =>
    ss_cons (yset 3 B (ymakeD c_Sheet_init (B.le (by omega)) (xa (xv 0) (a_nil))))
    (ss_cons (yset 4 B (ymeth c_Sheet_checked (B.le (by omega)) (xv 3) (xa (xv 2) (a_nil))))
    (ss_cons (yset 5 B (xcall c_whole_parts (B.le (by omega)) (xa (xv 1) (xa (xv 4) (a_nil)))))
    (ss_cons (yset 6 B (ylc2 [("names", 7), ("end", 8), ("name", 9)] [9] lEnd B (i_seq (Bx.hK B) (xv 5)) (fun s1 H1 C1 cl1 fp1 => ytup (B.blk s1 H1 _ _ fp1) (pgs_cons (yname 7 (B.blk s1 H1 _ _ fp1)) (pgs_cons (yname 8 (B.blk s1 H1 _ _ fp1)) (pgs_nil)))) (ytupS (Bx.hK B) (glen_cons (glen_cons (glen_nil))) (gs_cons (g_name) (gs_cons (g_name) (gs_nil)))) (fun s1 H1 C1 cl1 fp1 => ts_nil) (fun s1 H1 C1 cl1 fp1 => xv 7) (fun s1 H1 C1 cl1 fp1 => yname 9 (B.blk s1 H1 _ _ fp1)) (g_name) (fun s1 H1 C1 cl1 fp1 => ts_nil) (fun s1 H1 C1 cl1 fp1 => xv 9)))
    (ss_cons (ysetLc 10 [("name", 9)] lEnd B (i_seq (Bx.hK B) (ymeth0 c_Sheet_names (B.le (by omega)) (xv 3))) (fun s1 H1 C1 cl1 fp1 => yname 9 (B.blk s1 H1 _ _ fp1)) (g_name) (fun s1 H1 C1 cl1 fp1 => ts_one (L2.PW.pt (w_and (xcmpT (o_notIn (B.blk s1 H1 _ _ fp1).room.units66 (B.blk s1 H1 _ _ fp1).hK) (xv 9) (xv 4)) (w_and1 (xcmpT (o_notIn (B.blk s1 H1 _ _ fp1).room.units66 (B.blk s1 H1 _ _ fp1).hK) (xv 9) (xv 6)))))) (fun s1 H1 C1 cl1 fp1 => xv 9))
    (ss_cons (ysetLc 11 [("names", 7), ("end", 8)] lEnd B (i_seq (Bx.hK B) (xv 5)) (fun s1 H1 C1 cl1 fp1 => ytup (B.blk s1 H1 _ _ fp1) (pgs_cons (yname 7 (B.blk s1 H1 _ _ fp1)) (pgs_cons (yname 8 (B.blk s1 H1 _ _ fp1)) (pgs_nil)))) (ytupS (Bx.hK B) (glen_cons (glen_cons (glen_nil))) (gs_cons (g_name) (gs_cons (g_name) (gs_nil)))) (fun s1 H1 C1 cl1 fp1 => ts_one (xcmpT (o_ne (B.blk s1 H1 _ _ fp1).room.units (B.blk s1 H1 _ _ fp1).hK) (xv 8) (xglobS gb_RING))) (fun s1 H1 C1 cl1 fp1 => xix (B.blk s1 H1 _ _ fp1) (xv 7) (e_int)))
    (ss_cons (yset 12 B (xcall c_as_set (B.le (by omega)) (xa (e_op (o_add B.hK) (ylc [("home", 13)] lEnd B (i_seq (Bx.hK B) (ymeth0 c_Sheet_empties (B.le (by omega)) (xv 3))) (fun s1 H1 C1 cl1 fp1 => yname 13 (B.blk s1 H1 _ _ fp1)) (g_name) (fun s1 H1 C1 cl1 fp1 => ts_one (xcmpT (o_notIn (B.blk s1 H1 _ _ fp1).room.units66 (B.blk s1 H1 _ _ fp1).hK) (xv 13) (ylc [("names", 7), ("end", 8)] lEnd (B.blk s1 H1 _ _ fp1) (i_seq (Bx.hK (B.blk s1 H1 _ _ fp1)) (xv 5)) (fun s2 H2 C2 cl2 fp2 => ytup ((B.blk s1 H1 _ _ fp1).blk s2 H2 _ _ fp2) (pgs_cons (yname 7 ((B.blk s1 H1 _ _ fp1).blk s2 H2 _ _ fp2)) (pgs_cons (yname 8 ((B.blk s1 H1 _ _ fp1).blk s2 H2 _ _ fp2)) (pgs_nil)))) (ytupS (Bx.hK B) (glen_cons (glen_cons (glen_nil))) (gs_cons (g_name) (gs_cons (g_name) (gs_nil)))) (fun s2 H2 C2 cl2 fp2 => ts_nil) (fun s2 H2 C2 cl2 fp2 => xv 8)))) (fun s1 H1 C1 cl1 fp1 => xv 13)) (xv 11)) (a_nil))))
    (ss_cons (yset 14 B (e_op (o_add B.hK) (xv 10) (xt (b_list B.hK B.calm) z_list PyProof.Rows.boot_list (xa (xv 12) (a_nil)))))
    (ss_one (s_ret (e_tup (xa (xt (b_tuple B.hK B.calm) z_tuple PyProof.Rows.boot_tuple (xa (ylc [("name", 9)] lEnd B (i_seq (Bx.hK B) (xv 10)) (fun s1 H1 C1 cl1 fp1 => yname 9 (B.blk s1 H1 _ _ fp1)) (g_name) (fun s1 H1 C1 cl1 fp1 => ts_nil) (fun s1 H1 C1 cl1 fp1 => e_tup (xa (xv 9) (xa (xt (b_tuple (B.blk s1 H1 _ _ fp1).hK (B.blk s1 H1 _ _ fp1).calm) z_tuple PyProof.Rows.boot_tuple (xa (ylc [("home", 13)] lEnd (B.blk s1 H1 _ _ fp1) (i_seq (Bx.hK (B.blk s1 H1 _ _ fp1)) (ymeth c_Sheet_wants ((B.blk s1 H1 _ _ fp1).le (by omega)) (xv 3) (xa (xv 9) (a_nil)))) (fun s2 H2 C2 cl2 fp2 => yname 13 ((B.blk s1 H1 _ _ fp1).blk s2 H2 _ _ fp2)) (g_name) (fun s2 H2 C2 cl2 fp2 => ts_one (xcmpT (o_in ((B.blk s1 H1 _ _ fp1).blk s2 H2 _ _ fp2).room.units66 ((B.blk s1 H1 _ _ fp1).blk s2 H2 _ _ fp2).hK) (xv 13) (xv 14))) (fun s2 H2 C2 cl2 fp2 => xv 13)) (a_nil))) (a_nil))))) (a_nil))) (xa (xv 12) (a_nil)))))))))))))
abbrev s_most_repaired : Stmt := topS 38
theorem sc_most_repaired : FnScope ["sheet", "plan", "gone", "rest"] ["sheet", "plan", "gone"] (defScope s_most_repaired) := ⟨rfl, rfl, rfl, by decide +kernel, rfl, by decide +kernel, by decide +kernel⟩
theorem w_most_repaired (z_sum : mg "sum" = none) (ck_most_any_1_ : Cal P w G mg base 12 "most_any" 1 [] (kwF [0, 1] [.bl true] F_most_any)) (ck_rest_sheet_2_gone : Cal P w G mg base 11 "rest_sheet" 2 ["gone"] (kwF [0, 1, 2] [] F_rest_sheet)) (c_sizes_of : Cal P w G mg base 1 "sizes_of" 1 [] F_sizes_of) (c_tupled : ∀ n : Nat, Cal P w G mg base (0 + n) "tupled" 1 [] (F_tupled n)) (c_whole_parts : Cal P w G mg base 3 "whole_parts" 2 [] F_whole_parts) {f : Addr} {dV kV : Value} {fd : FuncData} (Fu : FunA G.K "most_repaired" "most_repaired" s_most_repaired f dV kV fd) : FnOk P w G.K mg base (L2.CX P w) 13 f fd ["sheet", "plan", "gone"] (SpM G R_most_repaired) := by
  show FnOk P w G.K mg base (L2.CX P w) (12 + 1) f fd ["sheet", "plan", "gone"] (SpM G (runB 4 3 b_most_repaired))
  refine fn_okA rfl rfl Fu sc_most_repaired ?_
  exact fun cdv A outer s H E B hp =>
    ss_cons (yset 3 B (xcallK ck_rest_sheet_2_gone (B.le (by omega)) (xa (xv 0) (xa (xv 1) (a_nil))) (k_cons (xv 2) (k_nil))))
    (ss_one (s_ret (e_op (o_add B.hK) (xb (b_sum B.hK B.calm) z_sum PyProof.Rows.boot_sum (xa (xcall c_sizes_of (B.le (by omega)) (xa (xcall c_whole_parts (B.le (by omega)) (xa (xv 1) (xa (xcall (c_tupled 8) (B.le (by omega)) (xa (xv 2) (a_nil))) (a_nil)))) (a_nil))) (a_nil))) (xcall ck_most_any_1_ (B.le (by omega)) (xa (xv 3) (a_nil))))))
abbrev s_old_home : Stmt := topS 39
theorem sc_old_home : FnScope ["plan", "name", "home"] ["plan", "name"] (defScope s_old_home) := ⟨rfl, rfl, rfl, by decide +kernel, rfl, by decide +kernel, by decide +kernel⟩
theorem w_old_home (c_Plan___call__ : CalD P w G mg base 1 2 "__call__" 1 Hk.F_Plan___call__) {f : Addr} {fd : FuncData} (Fu : Fun G.K "old_home" "old_home" s_old_home f fd) : FnOk P w G.K mg base (L2.CX P w) 2 f fd ["plan", "name"] (SpM G R_old_home) := by
  show FnOk P w G.K mg base (L2.CX P w) (1 + 1) f fd ["plan", "name"] (SpM G (runB 3 2 b_old_home))
  refine fn_ok2 rfl rfl Fu sc_old_home ?_
  exact fun cdv A outer s H E B hp =>
    ss_cons (yset 2 B (yinst c_Plan___call__ (B.le (by omega)) (xv 0) (xa (xv 1) (a_nil))))
    (ss_one (s_ret (e_if (xcmpT (o_is) (xv 2) (e_non)) (xv 1) (xv 2))))
theorem bd_old_home {f : Addr} {fd : FuncData} (Fu : Fun G.K "old_home" "old_home" s_old_home f fd) : Binds G.K fd ["plan", "name"] [] := Fu.binds (ps := ["plan", "name"]) fun _ _ _ _ _ _ us hl => match us, hl with | [_, _], _ => rfl
abbrev s_told_worths : Stmt := topS 40
theorem sc_told_worths : FnScope ["sheet", "plan", "gone", "own", "many", "worths", "name", "row", "home", "old", "worth"] ["sheet", "plan", "gone"] (defScope s_told_worths) := ⟨rfl, rfl, rfl, by decide +kernel, rfl, by decide +kernel, by decide +kernel⟩
theorem w_told_worths (z_int : mg "int" = none) (z_len : mg "len" = none) (c_Sheet_init : CalI P w G mg base 9 0 "Sheet" 1 Hr.F_Sheet_init) (c_Sheet_names : CalM P w G mg base 1 0 "names" 0 Hr.F_Sheet_names) (c_Sheet_wants : CalM P w G mg base 1 0 "wants" 1 Hr.F_Sheet_wants) (c_old_home : Cal P w G mg base 2 "old_home" 2 [] F_old_home) (c_without : Cal P w G mg base 11 "without" 2 [] F_without) {f : Addr} {fd : FuncData} (Fu : Fun G.K "told_worths" "told_worths" s_told_worths f fd) : FnOk P w G.K mg base (L2.CX P w) 12 f fd ["sheet", "plan", "gone"] (SpM G R_told_worths) := by
  show FnOk P w G.K mg base (L2.CX P w) (11 + 1) f fd ["sheet", "plan", "gone"] (SpM G (runB 11 3 b_told_worths))
  refine fn_ok2 rfl rfl Fu sc_told_worths ?_
  exact fun cdv A outer s H E B hp =>
    ss_cons (yset 3 B (ymakeD c_Sheet_init (B.le (by omega)) (xa (xcall c_without (B.le (by omega)) (xa (xv 0) (xa (xv 2) (a_nil)))) (a_nil))))
    (ss_cons (s_parT B (xa (e_op (o_add B.hK) (xb (b_len B.hK) z_len PySem.boot_len (xa (ymeth0 c_Sheet_names (B.le (by omega)) (xv 3)) (a_nil))) (e_int)) (xa (e_dnew) (a_nil))) (ytup B (pgs_cons (yname 4 B) (pgs_cons (yname 5 B) (pgs_nil)))) (nm_cons (nm_cons (nm_nil))))
    (ss_cons (yfor hp B (i_seq (Bx.hK B) (ymeth0 c_Sheet_names (B.le (by omega)) (xv 3))) (yname 6 B) (g_name) (ss_cons (yset 7 B (e_star dEnd (xv 6) (e_int) (ydc [("home", 8)] dEnd B (i_seq (Bx.hK B) (ymeth c_Sheet_wants (B.le (by omega)) (xv 3) (xa (xv 6) (a_nil)))) (fun s1 H1 C1 cl1 fp1 => yname 8 (B.blk s1 H1 _ _ fp1)) (g_name) (fun s1 H1 C1 cl1 fp1 => ts_nil) (fun s1 H1 C1 cl1 fp1 => xv 8) (fun s1 H1 C1 cl1 fp1 => xv 4))))
    (ss_cons (yset 9 B (xcall c_old_home (B.le (by omega)) (xa (xv 1) (xa (xv 6) (a_nil)))))
    (ss_one (ysub B (xv 5) (xv 6) (ydc [("home", 8), ("worth", 10)] dEnd B (yitems (xv 7)) (fun s1 H1 C1 cl1 fp1 => ytup (B.blk s1 H1 _ _ fp1) (pgs_cons (yname 8 (B.blk s1 H1 _ _ fp1)) (pgs_cons (yname 10 (B.blk s1 H1 _ _ fp1)) (pgs_nil)))) (ytupS (Bx.hK B) (glen_cons (glen_cons (glen_nil))) (gs_cons (g_name) (gs_cons (g_name) (gs_nil)))) (fun s1 H1 C1 cl1 fp1 => ts_nil) (fun s1 H1 C1 cl1 fp1 => xv 8) (fun s1 H1 C1 cl1 fp1 => e_op (o_add (B.blk s1 H1 _ _ fp1).hK) (xv 10) (xt (b_int) z_int PyProof.Rows.boot_int (xa (xcmp (o_eq (B.blk s1 H1 _ _ fp1).room.units (B.blk s1 H1 _ _ fp1).hK) (xv 8) (xv 9)) (a_nil))))))))))
    (ss_one (s_ret (e_frz (xv 5))))))
theorem bd_told_worths {f : Addr} {fd : FuncData} (Fu : Fun G.K "told_worths" "told_worths" s_told_worths f fd) : Binds G.K fd ["sheet", "plan", "gone"] [] := Fu.binds (ps := ["sheet", "plan", "gone"]) fun _ _ _ _ _ _ us hl => match us, hl with | [_, _, _], _ => rfl
abbrev s_told_choice : Stmt := topS 41
theorem sc_told_choice : FnScope ["sheet", "plan", "gone"] ["sheet", "plan", "gone"] (defScope s_told_choice) := ⟨rfl, rfl, rfl, by decide +kernel, rfl, by decide +kernel, by decide +kernel⟩
theorem w_told_choice (c_Choice_init : CalI P w G mg base 3 1 "Choice" 2 Hr.F_Choice_init) (c_Sheet_init : CalI P w G mg base 9 0 "Sheet" 1 Hr.F_Sheet_init) (c_Sheet_homes : CalM P w G mg base 2 0 "homes" 0 Hr.F_Sheet_homes) (c_told_worths : Cal P w G mg base 12 "told_worths" 3 [] F_told_worths) (c_without : Cal P w G mg base 11 "without" 2 [] F_without) {f : Addr} {fd : FuncData} (Fu : Fun G.K "told_choice" "told_choice" s_told_choice f fd) : FnOk P w G.K mg base (L2.CX P w) 13 f fd ["sheet", "plan", "gone"] (SpM G R_told_choice) := by
  show FnOk P w G.K mg base (L2.CX P w) (12 + 1) f fd ["sheet", "plan", "gone"] (SpM G (runB 3 3 b_told_choice))
  refine fn_ok2 rfl rfl Fu sc_told_choice ?_
  exact fun cdv A outer s H E B hp =>
    ss_one (s_ret (ymakeD c_Choice_init (B.le (by omega)) (xa (xcall c_told_worths (B.le (by omega)) (xa (xv 0) (xa (xv 1) (xa (xv 2) (a_nil))))) (xa (ymeth0 c_Sheet_homes (B.le (by omega)) (ymakeD c_Sheet_init (B.le (by omega)) (xa (xcall c_without (B.le (by omega)) (xa (xv 0) (xa (xv 2) (a_nil)))) (a_nil)))) (a_nil)))))
theorem bd_told_choice {f : Addr} {fd : FuncData} (Fu : Fun G.K "told_choice" "told_choice" s_told_choice f fd) : Binds G.K fd ["sheet", "plan", "gone"] [] := Fu.binds (ps := ["sheet", "plan", "gone"]) fun _ _ _ _ _ _ us hl => match us, hl with | [_, _, _], _ => rfl
abbrev s_fewest_told : Stmt := topS 42
theorem sc_fewest_told : FnScope ["sheet", "plan", "gone", "worths", "choice", "name"] ["sheet", "plan", "gone"] (defScope s_fewest_told) := ⟨rfl, rfl, rfl, by decide +kernel, rfl, by decide +kernel, by decide +kernel⟩
theorem w_fewest_told (z_len : mg "len" = none) (c_Choice_place : CalM P w G mg base 1 1 "place" 1 F_Choice_place) (c_old_home : Cal P w G mg base 2 "old_home" 2 [] F_old_home) (c_told_choice : Cal P w G mg base 13 "told_choice" 3 [] F_told_choice) (c_told_worths : Cal P w G mg base 12 "told_worths" 3 [] F_told_worths) {f : Addr} {dV kV : Value} {fd : FuncData} (Fu : FunA G.K "fewest_told" "fewest_told" s_fewest_told f dV kV fd) : FnOk P w G.K mg base (L2.CX P w) 14 f fd ["sheet", "plan", "gone"] (SpM G R_fewest_told) := by
  show FnOk P w G.K mg base (L2.CX P w) (13 + 1) f fd ["sheet", "plan", "gone"] (SpM G (runB 6 3 b_fewest_told))
  refine fn_okA rfl rfl Fu sc_fewest_told ?_
  exact fun cdv A outer s H E B hp =>
    ss_cons (s_parT B (xa (xcall c_told_worths (B.le (by omega)) (xa (xv 0) (xa (xv 1) (xa (xv 2) (a_nil))))) (xa (xcall c_told_choice (B.le (by omega)) (xa (xv 0) (xa (xv 1) (xa (xv 2) (a_nil))))) (a_nil))) (ytup B (pgs_cons (yname 3 B) (pgs_cons (yname 4 B) (pgs_nil)))) (nm_cons (nm_cons (nm_nil))))
    (ss_one (s_ret (xb (b_len B.hK) z_len PySem.boot_len (xa (ylc [("name", 5)] lEnd B (i_keys (xv 3)) (fun s1 H1 C1 cl1 fp1 => yname 5 (B.blk s1 H1 _ _ fp1)) (g_name) (fun s1 H1 C1 cl1 fp1 => ts_one (xcmpT (o_ne (B.blk s1 H1 _ _ fp1).room.units (B.blk s1 H1 _ _ fp1).hK) (ymeth c_Choice_place ((B.blk s1 H1 _ _ fp1).le (by omega)) (xv 4) (xa (xv 5) (a_nil))) (xcall c_old_home ((B.blk s1 H1 _ _ fp1).le (by omega)) (xa (xv 1) (xa (xv 5) (a_nil)))))) (fun s1 H1 C1 cl1 fp1 => xv 5)) (a_nil)))))
abbrev s__law_box : Stmt := topS 44
theorem sc__law_box : FnScope ["_law_script", "_law_k", "_law_cell"] ["_law_script", "_law_k"] (defScope s__law_box) := ⟨rfl, rfl, rfl, by decide +kernel, rfl, by decide +kernel, by decide +kernel⟩
theorem w__law_box (z_abs : mg "abs" = none) (z_int : mg "int" = none) (z_len : mg "len" = none) {f : Addr} {fd : FuncData} (Fu : Fun G.K "_law_box" "_law_box" s__law_box f fd) : FnOk P w G.K mg base (L2.CX P w) 1 f fd ["_law_script", "_law_k"] (SpM G R__law_box) := by
  show FnOk P w G.K mg base (L2.CX P w) (0 + 1) f fd ["_law_script", "_law_k"] (SpM G (runB 3 2 b__law_box))
  refine fn_ok2 rfl rfl Fu sc__law_box ?_
  exact fun cdv A outer s H E B hp =>
    ss_cons (yset 2 B (e_if (xcmpT (o_lt) (xv 1) (xb (b_len B.hK) z_len PySem.boot_len (xa (xv 0) (a_nil)))) (xix B (xv 0) (xv 1)) (e_int)))
    (ss_one (s_ret (e_lstB (xa (e_op (o_mul) (xb (b_abs) z_abs PyProof.Rows.boot_abs (xa (xv 2) (a_nil))) (xt (b_int) z_int PyProof.Rows.boot_int (xa (xcmp (o_ge) (xb (b_abs) z_abs PyProof.Rows.boot_abs (xa (xv 2) (a_nil))) (e_op (o_pow) (e_int) (e_int))) (a_nil)))) (xa (e_op (o_add B.hK) (e_op (o_add B.hK) (e_op (o_mod) (xt (b_int) z_int PyProof.Rows.boot_int (xa (xv 2) (a_nil))) (e_int)) (e_op (o_mul) (e_int) (xv 1))) (e_int)) (xa (e_int) (a_nil)))))))
theorem bd__law_box {f : Addr} {fd : FuncData} (Fu : Fun G.K "_law_box" "_law_box" s__law_box f fd) : Binds G.K fd ["_law_script", "_law_k"] [] := Fu.binds (ps := ["_law_script", "_law_k"]) fun _ _ _ _ _ _ us hl => match us, hl with | [_, _], _ => rfl
abbrev s__law_take : Stmt := topS 45
theorem sc__law_take : FnScope ["_law_urn", "_law_low_so", "_law_drawn", "_law_once", "_law_far", "_law_twice"] ["_law_urn", "_law_low_so"] (defScope s__law_take) := ⟨rfl, rfl, rfl, by decide +kernel, rfl, by decide +kernel, by decide +kernel⟩
theorem w__law_take (z_int : mg "int" = none) {f : Addr} {fd : FuncData} (Fu : Fun G.K "_law_take" "_law_take" s__law_take f fd) : FnOk P w G.K mg base (L2.CX P w) 1 f fd ["_law_urn", "_law_low_so"] (SpM G R__law_take) := by
  show FnOk P w G.K mg base (L2.CX P w) (0 + 1) f fd ["_law_urn", "_law_low_so"] (SpM G (runB 6 2 b__law_take))
  refine fn_ok2 rfl rfl Fu sc__law_take ?_
  exact fun cdv A outer s H E B hp =>
    ss_cons (s_if (xcmpT (o_gt) (xix B (xv 0) (e_int)) (e_int)) (ss_cons (yset 2 B (e_op (o_mod) (xt (b_int) z_int PyProof.Rows.boot_int (xa (xix B (xv 0) (e_int)) (a_nil))) (xv 1)))
    (ss_cons (ysub B (xv 0) (e_int) (e_op (o_div) (xix B (xv 0) (e_int)) (xv 1)))
    (ss_one (s_ret (xv 2))))) (ss_nil))
    (ss_cons (ysub B (xv 0) (e_int) (e_op (o_add B.hK) (xix B (xv 0) (e_int)) (e_int)))
    (ss_cons (yset 3 B (e_op (o_mod) (xt (b_int) z_int PyProof.Rows.boot_int (xa (e_op (o_mul) (e_op (o_add B.hK) (xix B (xv 0) (e_int)) (e_op (o_mul) (e_int) (xix B (xv 0) (e_int)))) (e_op (o_add B.hK) (e_int) (xix B (xv 0) (e_int)))) (a_nil))) (e_int)))
    (ss_cons (yset 4 B (e_op (o_add B.hK) (e_op (o_mod) (xt (b_int) z_int PyProof.Rows.boot_int (xa (xv 3) (a_nil))) (e_int)) (e_int)))
    (ss_cons (yset 5 B (e_op (o_mod) (xt (b_int) z_int PyProof.Rows.boot_int (xa (e_op (o_mul) (e_op (o_add B.hK) (e_op (o_add B.hK) (xv 3) (xix B (xv 0) (e_int))) (e_op (o_div) (xix B (xv 0) (e_int)) (e_int))) (xv 4)) (a_nil))) (e_int)))
    (ss_one (s_ret (e_op (o_mod) (xt (b_int) z_int PyProof.Rows.boot_int (xa (e_op (o_div) (e_op (o_mod) (xt (b_int) z_int PyProof.Rows.boot_int (xa (e_op (o_add B.hK) (e_op (o_mul) (xv 5) (e_int)) (xv 3)) (a_nil))) (e_int)) (e_int)) (a_nil))) (xv 1))))))))
theorem bd__law_take {f : Addr} {fd : FuncData} (Fu : Fun G.K "_law_take" "_law_take" s__law_take f fd) : Binds G.K fd ["_law_urn", "_law_low_so"] [] := Fu.binds (ps := ["_law_urn", "_law_low_so"]) fun _ _ _ _ _ _ us hl => match us, hl with | [_, _], _ => rfl
abbrev s__law_cells : Stmt := topS 46
theorem sc__law_cells : FnScope ["_law_script", "_law_top", "_law_cells_here", "_law_k", "_law_cell", "_law_at_so"] ["_law_script", "_law_top"] (defScope s__law_cells) := ⟨rfl, rfl, rfl, by decide +kernel, rfl, by decide +kernel, by decide +kernel⟩
theorem w__law_cells (z_enumerate : mg "enumerate" = none) (z_int : mg "int" = none) (z_list : mg "list" = none) {f : Addr} {fd : FuncData} (Fu : Fun G.K "_law_cells" "_law_cells" s__law_cells f fd) : FnOk P w G.K mg base (L2.CX P w) 1 f fd ["_law_script", "_law_top"] (SpM G R__law_cells) := by
  show FnOk P w G.K mg base (L2.CX P w) (0 + 1) f fd ["_law_script", "_law_top"] (SpM G (runB 6 2 b__law_cells))
  refine fn_ok2 rfl rfl Fu sc__law_cells ?_
  exact fun cdv A outer s H E B hp =>
    ss_cons (yset 2 B (xorT B (xt (b_listB B.hK B.calm) z_list PyProof.Rows.boot_list (xa (e_sl (sl_any B.hK) (xv 0) (o_no) (o_pt (xv 1))) (a_nil))) (e_one (e_lstB (xa (e_int) (a_nil))))))
    (ss_cons (yfor hp B (yenum B z_enumerate (xa (e_sl (sl_any B.hK) (xv 0) (o_pt (xv 1)) (o_pt (e_int))) (a_nil))) (ytup B (pgs_cons (yname 3 B) (pgs_cons (yname 4 B) (pgs_nil)))) (ytupS (Bx.hK B) (glen_cons (glen_cons (glen_nil))) (gs_cons (g_name) (gs_cons (g_name) (gs_nil)))) (ss_cons (yset 5 B (e_op (o_mod) (xt (b_int) z_int PyProof.Rows.boot_int (xa (xv 3) (a_nil))) (xv 1)))
    (ss_one (ysub B (xv 2) (xv 5) (e_op (o_add B.hK) (xix B (xv 2) (xv 5)) (e_op (o_mul) (xv 4) (e_op (o_add B.hK) (xv 3) (e_int))))))))
    (ss_one (s_ret (e_frz (xv 2)))))
theorem bd__law_cells {f : Addr} {fd : FuncData} (Fu : Fun G.K "_law_cells" "_law_cells" s__law_cells f fd) : Binds G.K fd ["_law_script", "_law_top"] [] := Fu.binds (ps := ["_law_script", "_law_top"]) fun _ _ _ _ _ _ us hl => match us, hl with | [_, _], _ => rfl
abbrev s__law_same : Stmt := topS 47
theorem sc__law_same : FnScope ["_law_got", "_law_goal", "_law_mine_so", "_law_own"] ["_law_got", "_law_goal"] (defScope s__law_same) := ⟨rfl, rfl, rfl, by decide +kernel, rfl, by decide +kernel, by decide +kernel⟩
theorem w__law_same (z_all : mg "all" = none) (z_bool : mg "bool" = none) (z_int : mg "int" = none) (z_isinstance : mg "isinstance" = none) (z_len : mg "len" = none) (z_list : mg "list" = none) (z_str : mg "str" = none) (z_tuple : mg "tuple" = none) (z_zip : mg "zip" = none) {f : Addr} {fd : FuncData} (Fu : Fun G.K "_law_same" "_law_same" s__law_same f fd) (hmg : mg "_law_same" = some (.ref f)) : ∀ n : Nat, Cal P w G mg base (0 + n) "_law_same" 2 [] (F__law_same n)
  | 0 => Cal.bad hmg Fu.kp
  | n + 1 => by
    have hself := w__law_same z_all z_bool z_int z_isinstance z_len z_list z_str z_tuple z_zip Fu hmg n
    refine (Cal.fn hmg Fu (show FnOk P w G.K mg base (L2.CX P w) (0 + n + 1) f fd ["_law_got", "_law_goal"] (SpM G (runB 4 2 (b__law_same (F__law_same n)))) from fn_ok2 rfl rfl Fu sc__law_same ?_) (Fu.binds (ps := ["_law_got", "_law_goal"]) fun _ _ _ _ _ _ us hl => match us, hl with | [_, _], _ => rfl)).isoC
    exact fun cdv A outer s H E B hp =>
        ss_cons (s_if (xtru B (xisaT B z_isinstance ["list", "tuple"] (xv 1) (pa_cons (xty z_list PyProof.Rows.boot_list) (pa_cons (xty z_tuple PyProof.Rows.boot_tuple) (pa_nil))))) (ss_cons (s_if (L2.PW.pt (w_or (xcmpT (o_ne B.room.units B.hK) (xisa B z_isinstance (xv 0) (xty z_list PyProof.Rows.boot_list)) (xisa B z_isinstance (xv 1) (xty z_list PyProof.Rows.boot_list))) (w_or1 (xcmpT (o_ne B.room.units B.hK) (xisa B z_isinstance (xv 0) (xty z_tuple PyProof.Rows.boot_tuple)) (xisa B z_isinstance (xv 1) (xty z_tuple PyProof.Rows.boot_tuple)))))) (ss_one (s_ret (e_bl))) (ss_nil))
        (ss_one (s_ret (e_and (xcmp (o_eq B.room.units B.hK) (xb (b_len B.hK) z_len PySem.boot_len (xa (xv 0) (a_nil))) (xb (b_len B.hK) z_len PySem.boot_len (xa (xv 1) (a_nil)))) (e_one (xb (b_all B.hK B.calm) z_all PyProof.Rows.boot_all (xa (ylc [("_law_mine_so", 2), ("_law_own", 3)] lEnd B (yzip B z_zip (xa (xv 0) (xa (xv 1) (a_nil)))) (fun s1 H1 C1 cl1 fp1 => ytup (B.blk s1 H1 _ _ fp1) (pgs_cons (yname 2 (B.blk s1 H1 _ _ fp1)) (pgs_cons (yname 3 (B.blk s1 H1 _ _ fp1)) (pgs_nil)))) (ytupS (Bx.hK B) (glen_cons (glen_cons (glen_nil))) (gs_cons (g_name) (gs_cons (g_name) (gs_nil)))) (fun s1 H1 C1 cl1 fp1 => ts_nil) (fun s1 H1 C1 cl1 fp1 => xcall hself ((B.blk s1 H1 _ _ fp1).le (by omega)) (xa (xv 2) (xa (xv 3) (a_nil))))) (a_nil)))))))) (ss_nil))
        (ss_cons (s_if (L2.PW.pt (w_or (xcmpT (o_is) (xv 1) (e_non)) (w_or1 (xtru B (xisaT B z_isinstance ["bool", "str"] (xv 1) (pa_cons (xty z_bool PyProof.Rows.boot_bool) (pa_cons (xty z_str PyProof.Rows.boot_str) (pa_nil)))))))) (ss_one (s_ret (e_and (xcmp (o_eq B.room.units B.hK) (xv 0) (xv 1)) (e_and (xcmp (o_eq B.room.units B.hK) (xisa B z_isinstance (xv 0) (xty z_bool PyProof.Rows.boot_bool)) (xisa B z_isinstance (xv 1) (xty z_bool PyProof.Rows.boot_bool))) (e_one (xcmp (o_eq B.room.units B.hK) (xcmp (o_is) (xv 0) (e_non)) (xcmp (o_is) (xv 1) (e_non)))))))) (ss_nil))
        (ss_one (s_ret (e_and (xisa B z_isinstance (xv 0) (xty z_int PyProof.Rows.boot_int)) (e_and (e_not (xisa B z_isinstance (xv 0) (xty z_bool PyProof.Rows.boot_bool))) (e_one (xcmp (o_eq B.room.units B.hK) (xv 0) (xv 1))))))))
abbrev s__law_crew : Stmt := topS 48
theorem sc__law_crew : FnScope ["_law_size"] ["_law_size"] (defScope s__law_crew) := ⟨rfl, rfl, rfl, by decide +kernel, rfl, by decide +kernel, by decide +kernel⟩
theorem w__law_crew  {f : Addr} {fd : FuncData} (Fu : Fun G.K "_law_crew" "_law_crew" s__law_crew f fd) : FnOk P w G.K mg base (L2.CX P w) 1 f fd ["_law_size"] (SpM G R__law_crew) := by
  show FnOk P w G.K mg base (L2.CX P w) (0 + 1) f fd ["_law_size"] (SpM G (runB 1 1 b__law_crew))
  refine fn_ok2 rfl rfl Fu sc__law_crew ?_
  exact fun cdv A outer s H E B hp =>
    ss_one (s_ret (e_sl (sl_any B.hK) (e_lst (xa (e_str) (xa (e_str) (xa (e_str) (xa (e_str) (xa (e_str) (xa (e_str) (xa (e_str) (a_nil))))))))) (o_no) (o_pt (xv 0))))
theorem bd__law_crew {f : Addr} {fd : FuncData} (Fu : Fun G.K "_law_crew" "_law_crew" s__law_crew f fd) : Binds G.K fd ["_law_size"] [] := Fu.binds (ps := ["_law_size"]) fun _ _ _ _ _ _ us hl => match us, hl with | [_], _ => rfl
abbrev s__law_row_right : Stmt := topS 49
theorem sc__law_row_right : FnScope ["_law_size", "_law_crew_here", "_law_tome", "_law_k", "_law_held", "_law_told", "_law_due"] ["_law_size"] (defScope s__law_row_right) := ⟨rfl, rfl, rfl, by decide +kernel, rfl, by decide +kernel, by decide +kernel⟩
theorem w__law_row_right (z_range : mg "range" = none) (z_tuple : mg "tuple" = none) (c_Plan_of : CalC P w G mg base 11 2 "Plan" "of" 1 Hk.F_Plan_of) (c__law_crew : Cal P w G mg base 1 "_law_crew" 1 [] F__law_crew) (c__law_same : ∀ n : Nat, Cal P w G mg base (0 + n) "_law_same" 2 [] (F__law_same n)) (ck_fewest_told_2_gone : Cal P w G mg base 14 "fewest_told" 2 ["gone"] (kwF [0, 1, 2] [] F_fewest_told)) (ck_most_repaired_2_gone : Cal P w G mg base 13 "most_repaired" 2 ["gone"] (kwF [0, 1, 2] [] F_most_repaired)) (c_safe_for : Cal P w G mg base 3 "safe_for" 2 [] F_safe_for) (c_weak_ones : Cal P w G mg base 3 "weak_ones" 1 [] F_weak_ones) (c_worst_gone : Cal P w G mg base 3 "worst_gone" 2 [] F_worst_gone) {f : Addr} {fd : FuncData} (Fu : Fun G.K "_law_row_right" "_law_row_right" s__law_row_right f fd) : FnOk P w G.K mg base (L2.CX P w) 15 f fd ["_law_size"] (SpM G R__law_row_right) := by
  show FnOk P w G.K mg base (L2.CX P w) (14 + 1) f fd ["_law_size"] (SpM G (runB 7 1 b__law_row_right))
  refine fn_ok2 rfl rfl Fu sc__law_row_right ?_
  exact fun cdv A outer s H E B hp =>
    ss_cons (yset 1 B (xcall c__law_crew (B.le (by omega)) (xa (xv 0) (a_nil))))
    (ss_cons (yset 2 B (e_tup (xa (xt (b_tuple B.hK B.calm) z_tuple PyProof.Rows.boot_tuple (xa (ylc [("_law_k", 3)] lEnd B (yrg1 z_range (xa (xv 0) (a_nil))) (fun s1 H1 C1 cl1 fp1 => yname 3 (B.blk s1 H1 _ _ fp1)) (g_name) (fun s1 H1 C1 cl1 fp1 => ts_nil) (fun s1 H1 C1 cl1 fp1 => e_tup (xa (xix (B.blk s1 H1 _ _ fp1) (xv 1) (xv 3)) (xa (e_tup (xa (xix (B.blk s1 H1 _ _ fp1) (e_op (o_add (B.blk s1 H1 _ _ fp1).hK) (xv 1) (e_lst (xa (e_str) (a_nil)))) (e_op (o_add (B.blk s1 H1 _ _ fp1).hK) (xv 3) (e_int))) (a_nil))) (a_nil))))) (a_nil))) (xa (e_tup (xa (e_str) (a_nil))) (a_nil)))))
    (ss_cons (yset 4 B (yclsm c_Plan_of (B.le (by omega)) (xa (e_tup (xa (e_tup (xa (xt (b_tuple B.hK B.calm) z_tuple PyProof.Rows.boot_tuple (xa (xv 1) (a_nil))) (xa (e_str) (a_nil)))) (a_nil))) (a_nil))))
    (ss_cons (yset 5 B (e_lst (xa (xcall c_safe_for (B.le (by omega)) (xa (xv 4) (xa (e_int) (a_nil)))) (xa (xcall c_safe_for (B.le (by omega)) (xa (xv 4) (xa (e_int) (a_nil)))) (xa (xcall c_worst_gone (B.le (by omega)) (xa (xv 4) (xa (e_int) (a_nil)))) (xa (xcall c_weak_ones (B.le (by omega)) (xa (xv 4) (a_nil))) (a_nil)))))))
    (ss_cons (yset 6 B (e_lst (xa (xv 0) (xa (e_int) (xa (e_tup (xa (xix B (xv 1) (e_op (o_sub) (xv 0) (e_int))) (a_nil))) (xa (e_tup (xa (xix B (xv 1) (e_op (o_sub) (xv 0) (e_int))) (a_nil))) (a_nil)))))))
    (ss_cons (yfor hp B (yrg1 z_range (xa (xv 0) (a_nil))) (yname 3 B) (g_name) (ss_cons (yset 5 B (e_op (o_add B.hK) (xv 5) (e_lst (xa (xcallK ck_most_repaired_2_gone (B.le (by omega)) (xa (xv 2) (xa (xv 4) (a_nil))) (k_cons (e_tup (xa (xix B (xv 1) (xv 3)) (a_nil))) (k_nil))) (xa (xcallK ck_fewest_told_2_gone (B.le (by omega)) (xa (xv 2) (xa (xv 4) (a_nil))) (k_cons (e_tup (xa (xix B (xv 1) (xv 3)) (a_nil))) (k_nil))) (a_nil))))))
    (ss_one (yset 6 B (e_op (o_add B.hK) (xv 6) (e_lst (xa (e_op (o_sub) (e_op (o_sub) (xv 0) (e_int)) (xv 3)) (xa (xv 3) (a_nil)))))))))
    (ss_one (s_ret (xcall (c__law_same 8) (B.le (by omega)) (xa (e_op (o_add B.hK) (xv 5) (e_lst (xa (xcallK ck_most_repaired_2_gone (B.le (by omega)) (xa (xv 2) (xa (xv 4) (a_nil))) (k_cons (e_tup (a_nil)) (k_nil))) (xa (xcallK ck_fewest_told_2_gone (B.le (by omega)) (xa (xv 2) (xa (xv 4) (a_nil))) (k_cons (e_tup (a_nil)) (k_nil))) (a_nil))))) (xa (e_op (o_add B.hK) (xv 6) (e_lst (xa (xv 0) (xa (e_int) (a_nil))))) (a_nil)))))))))))
theorem bd__law_row_right {f : Addr} {fd : FuncData} (Fu : Fun G.K "_law_row_right" "_law_row_right" s__law_row_right f fd) : Binds G.K fd ["_law_size"] [] := Fu.binds (ps := ["_law_size"]) fun _ _ _ _ _ _ us hl => match us, hl with | [_], _ => rfl
abbrev s__law_ring_right : Stmt := topS 50
theorem sc__law_ring_right : FnScope ["_law_size", "_law_is_crowd", "_law_crew_here", "_law_rows_so", "_law_k", "_law_far", "_law_own", "_law_held", "_law_left", "_law_tome", "_law_told", "_law_due"] ["_law_size", "_law_is_crowd"] (defScope s__law_ring_right) := ⟨rfl, rfl, rfl, by decide +kernel, rfl, by decide +kernel, by decide +kernel⟩
theorem w__law_ring_right (z_int : mg "int" = none) (z_range : mg "range" = none) (z_tuple : mg "tuple" = none) (c_Plan_of : CalC P w G mg base 11 2 "Plan" "of" 1 Hk.F_Plan_of) (c__law_crew : Cal P w G mg base 1 "_law_crew" 1 [] F__law_crew) (c__law_same : ∀ n : Nat, Cal P w G mg base (0 + n) "_law_same" 2 [] (F__law_same n)) (ck_fewest_told_2_gone : Cal P w G mg base 14 "fewest_told" 2 ["gone"] (kwF [0, 1, 2] [] F_fewest_told)) (ck_most_repaired_2_gone : Cal P w G mg base 13 "most_repaired" 2 ["gone"] (kwF [0, 1, 2] [] F_most_repaired)) (c_safe_for : Cal P w G mg base 3 "safe_for" 2 [] F_safe_for) (c_weak_ones : Cal P w G mg base 3 "weak_ones" 1 [] F_weak_ones) (c_worst_gone : Cal P w G mg base 3 "worst_gone" 2 [] F_worst_gone) {f : Addr} {fd : FuncData} (Fu : Fun G.K "_law_ring_right" "_law_ring_right" s__law_ring_right f fd) : FnOk P w G.K mg base (L2.CX P w) 15 f fd ["_law_size", "_law_is_crowd"] (SpM G R__law_ring_right) := by
  show FnOk P w G.K mg base (L2.CX P w) (14 + 1) f fd ["_law_size", "_law_is_crowd"] (SpM G (runB 12 2 b__law_ring_right))
  refine fn_ok2 rfl rfl Fu sc__law_ring_right ?_
  exact fun cdv A outer s H E B hp =>
    ss_cons (yset 2 B (xcall c__law_crew (B.le (by omega)) (xa (xv 0) (a_nil))))
    (ss_cons (ysetLc 3 [("_law_k", 4)] lEnd B (yrg1 z_range (xa (xv 0) (a_nil))) (fun s1 H1 C1 cl1 fp1 => yname 4 (B.blk s1 H1 _ _ fp1)) (g_name) (fun s1 H1 C1 cl1 fp1 => ts_nil) (fun s1 H1 C1 cl1 fp1 => e_tup (xa (xix (B.blk s1 H1 _ _ fp1) (xv 2) (xv 4)) (xa (e_tup (xa (xix (B.blk s1 H1 _ _ fp1) (xv 2) (e_op (o_mod) (xt (b_int) z_int PyProof.Rows.boot_int (xa (e_op (o_add (B.blk s1 H1 _ _ fp1).hK) (xv 4) (e_int)) (a_nil))) (xv 0))) (a_nil))) (a_nil)))))
    (ss_cons (s_if (xtru B (xv 1)) (ss_one (ysetLc 3 [("_law_own", 6)] lEnd B (i_seq (Bx.hK B) (xv 2)) (fun s1 H1 C1 cl1 fp1 => yname 6 (B.blk s1 H1 _ _ fp1)) (g_name) (fun s1 H1 C1 cl1 fp1 => ts_nil) (fun s1 H1 C1 cl1 fp1 => e_tup (xa (xv 6) (xa (xt (b_tuple (B.blk s1 H1 _ _ fp1).hK (B.blk s1 H1 _ _ fp1).calm) z_tuple PyProof.Rows.boot_tuple (xa (ylc [("_law_far", 5)] lEnd (B.blk s1 H1 _ _ fp1) (i_seq (Bx.hK (B.blk s1 H1 _ _ fp1)) (xv 2)) (fun s2 H2 C2 cl2 fp2 => yname 5 ((B.blk s1 H1 _ _ fp1).blk s2 H2 _ _ fp2)) (g_name) (fun s2 H2 C2 cl2 fp2 => ts_one (xcmpT (o_ne ((B.blk s1 H1 _ _ fp1).blk s2 H2 _ _ fp2).room.units ((B.blk s1 H1 _ _ fp1).blk s2 H2 _ _ fp2).hK) (xv 5) (xv 6))) (fun s2 H2 C2 cl2 fp2 => xv 5)) (a_nil))) (a_nil)))))) (ss_nil))
    (ss_cons (s_par2 B (xa (yclsm c_Plan_of (B.le (by omega)) (xa (e_tup (xa (e_tup (xa (xt (b_tuple B.hK B.calm) z_tuple PyProof.Rows.boot_tuple (xa (xv 2) (a_nil))) (xa (e_str) (a_nil)))) (a_nil))) (a_nil))) (xa (e_if (L2.PW.pt (w_and (xtru B (xv 1)) (w_and1 (xcmpT (o_gt) (xv 0) (e_int))))) (e_op (o_sub) (xv 0) (e_int)) (e_int)) (a_nil))))
    (ss_cons (yset 9 B (e_tup (xa (xt (b_tuple B.hK B.calm) z_tuple PyProof.Rows.boot_tuple (xa (xv 3) (a_nil))) (xa (e_tup (a_nil)) (a_nil)))))
    (ss_cons (yset 10 B (e_lst (xa (xcall c_safe_for (B.le (by omega)) (xa (xv 7) (xa (e_int) (a_nil)))) (xa (xcall c_safe_for (B.le (by omega)) (xa (xv 7) (xa (e_int) (a_nil)))) (xa (xcall c_worst_gone (B.le (by omega)) (xa (xv 7) (xa (e_int) (a_nil)))) (xa (xcall c_weak_ones (B.le (by omega)) (xa (xv 7) (a_nil))) (a_nil)))))))
    (ss_cons (yset 11 B (e_lst (xa (xv 0) (xa (e_int) (xa (e_tup (xa (xix B (xv 2) (e_int)) (a_nil))) (xa (xt (b_tuple B.hK B.calm) z_tuple PyProof.Rows.boot_tuple (xa (xv 2) (a_nil))) (a_nil)))))))
    (ss_cons (yfor hp B (i_seq (Bx.hK B) (xv 2)) (yname 6 B) (g_name) (ss_cons (yset 10 B (e_op (o_add B.hK) (xv 10) (e_lst (xa (xcallK ck_most_repaired_2_gone (B.le (by omega)) (xa (xv 9) (xa (xv 7) (a_nil))) (k_cons (e_tup (xa (xv 6) (a_nil))) (k_nil))) (xa (xcallK ck_fewest_told_2_gone (B.le (by omega)) (xa (xv 9) (xa (xv 7) (a_nil))) (k_cons (e_tup (xa (xv 6) (a_nil))) (k_nil))) (a_nil))))))
    (ss_one (yset 11 B (e_op (o_add B.hK) (xv 11) (e_lst (xa (xv 8) (xa (e_if (xcmpT (o_gt) (xv 8) (e_int)) (e_int) (e_op (o_sub) (xv 0) (e_int))) (a_nil)))))))))
    (ss_one (s_ret (xcall (c__law_same 8) (B.le (by omega)) (xa (xv 10) (xa (xv 11) (a_nil)))))))))))))
theorem bd__law_ring_right {f : Addr} {fd : FuncData} (Fu : Fun G.K "_law_ring_right" "_law_ring_right" s__law_ring_right f fd) : Binds G.K fd ["_law_size", "_law_is_crowd"] [] := Fu.binds (ps := ["_law_size", "_law_is_crowd"]) fun _ _ _ _ _ _ us hl => match us, hl with | [_, _], _ => rfl
abbrev s__law_right : Stmt := topS 51
theorem sc__law_right : FnScope ["_law_urn", "_law_size"] ["_law_urn"] (defScope s__law_right) := ⟨rfl, rfl, rfl, by decide +kernel, rfl, by decide +kernel, by decide +kernel⟩
theorem w__law_right (c__law_ring_right : Cal P w G mg base 15 "_law_ring_right" 2 [] F__law_ring_right) (c__law_row_right : Cal P w G mg base 15 "_law_row_right" 1 [] F__law_row_right) (c__law_take : Cal P w G mg base 1 "_law_take" 2 [] F__law_take) {f : Addr} {fd : FuncData} (Fu : Fun G.K "_law_right" "_law_right" s__law_right f fd) : FnOk P w G.K mg base (L2.CX P w) 16 f fd ["_law_urn"] (SpM G R__law_right) := by
  show FnOk P w G.K mg base (L2.CX P w) (15 + 1) f fd ["_law_urn"] (SpM G (runB 2 1 b__law_right))
  refine fn_ok2 rfl rfl Fu sc__law_right ?_
  exact fun cdv A outer s H E B hp =>
    ss_cons (s_if (L2.PW.pt (w_or (c_not (xtru B (xcall c__law_row_right (B.le (by omega)) (xa (e_int) (a_nil))))) (w_or (c_not (xtru B (xcall c__law_ring_right (B.le (by omega)) (xa (e_int) (xa (e_bl) (a_nil)))))) (w_or1 (c_not (xtru B (xcall c__law_ring_right (B.le (by omega)) (xa (e_int) (xa (e_bl) (a_nil)))))))))) (ss_one (s_ret (e_bl))) (ss_nil))
    (ss_cons (yset 1 B (e_op (o_add B.hK) (e_int) (xcall c__law_take (B.le (by omega)) (xa (xv 0) (xa (e_int) (a_nil))))))
    (ss_one (s_ret (e_and (xcall c__law_row_right (B.le (by omega)) (xa (xv 1) (a_nil))) (e_and (xcall c__law_ring_right (B.le (by omega)) (xa (xv 1) (xa (e_bl) (a_nil)))) (e_one (xcall c__law_ring_right (B.le (by omega)) (xa (e_op (o_add B.hK) (e_int) (xcall c__law_take (B.le (by omega)) (xa (xv 0) (xa (e_int) (a_nil))))) (xa (e_bl) (a_nil))))))))))
theorem bd__law_right {f : Addr} {fd : FuncData} (Fu : Fun G.K "_law_right" "_law_right" s__law_right f fd) : Binds G.K fd ["_law_urn"] [] := Fu.binds (ps := ["_law_urn"]) fun _ _ _ _ _ _ us hl => match us, hl with | [_], _ => rfl
abbrev s_law : Stmt := topS 52
theorem sc_law : FnScope ["_law_script", "_law_cells_here", "_law_k"] ["_law_script"] (defScope s_law) := ⟨rfl, rfl, rfl, by decide +kernel, rfl, by decide +kernel, by decide +kernel⟩
theorem w_law (z_len : mg "len" = none) (z_range : mg "range" = none) (c__law_box : Cal P w G mg base 1 "_law_box" 2 [] F__law_box) (c__law_cells : Cal P w G mg base 1 "_law_cells" 2 [] F__law_cells) (c__law_right : Cal P w G mg base 16 "_law_right" 1 [] F__law_right) {f : Addr} {fd : FuncData} (Fu : Fun G.K "law" "law" s_law f fd) : FnOk P w G.K mg base (L2.CX P w) 17 f fd ["_law_script"] (SpM G R_law) := by
  show FnOk P w G.K mg base (L2.CX P w) (16 + 1) f fd ["_law_script"] (SpM G (runB 3 1 b_law))
  refine fn_ok2 rfl rfl Fu sc_law ?_
  exact fun cdv A outer s H E B hp =>
    ss_cons (yset 1 B (xcall c__law_cells (B.le (by omega)) (xa (xv 0) (xa (e_int) (a_nil)))))
    (ss_cons (yfor hp B (yrg1 z_range (xa (xb (b_len B.hK) z_len PySem.boot_len (xa (xv 1) (a_nil))) (a_nil))) (yname 2 B) (g_name) (ss_one (s_if (c_not (xtru B (xcall c__law_right (B.le (by omega)) (xa (xcall c__law_box (B.le (by omega)) (xa (xv 1) (xa (xv 2) (a_nil)))) (a_nil))))) (ss_one (s_ret (e_bl))) (ss_nil))))
    (ss_one (s_ret (e_bl))))
end
end K73
/-! the end -/
namespace K73
open PySem PySem.Spec PyProof.Rows L2 Sm Hn
def GG (K : PySem.W.Frag) (C0 : Addr) (C2 : Addr) (C1 : Addr) (XA_Clash : Addr) : Gs := ⟨K, fun c => match c with
  | 0 => C0
  | 2 => C2
  | 1 => C1
  | _ => 0, fun c => match c with
  | 0 => .ref XA_Clash
  | _ => .none, fun c => match c with
  | 0 => some "name"
  | _ => none, false⟩
set_option maxHeartbeats 4000000 in
theorem all_mk (hT : LawTrue F_law) {l : PySem.W.OpenLaw} {w : World} {K : PySem.W.Frag} {h : Heap} {mg : Str → Option Value} {fa : Addr} (X : K.In h) (Gn : h.Ns mainGlobals mg) (hfa : mg "law" = some (.ref fa)) {C0 : Addr} {C2 : Addr} {C1 : Addr}  {XA_Clash : Addr} {nmC_Clash qC_Clash : Str} {NC_Clash fX_Clash cdX_Clash ccX_Clash : Addr} {bsC_Clash subC_Clash : List Value} {snC_Clash : List Str} {abC_Clash : Bool} {colC_Clash : Option Bool} {ddC_Clash odX_Clash anX_Clash cddX_Clash cldX_Clash : Option Addr} {k0_Clash k1_Clash k2_Clash k3_Clash k5_Clash : Option Value} {ocX_Clash kVX_Clash docX_Clash pmX_Clash ctX_Clash cclX_Clash clX_Clash : Value} {osX_Clash ccsX_Clash cslX_Clash } {flX_Clash : Str} {tfX_Clash : Tok} {pp_own_empties : Addr} {pp_own_homes : Addr} {pp_own_rows : Addr} {pp_own_goals : Addr} {pp_own_parts : Addr} {pp_Choice_own_homes : Addr} {pp_own_reach : Addr} {pp_own_taken : Addr} {pp_own_worths : Addr} {tk_FREE : Tok} {tk_RING : Tok} {f_tupled : Addr} {oc_tupled dc_tupled pm_tupled cd_tupled ct_tupled kV_tupled : Value} {od_tupled an_tupled : Option Addr} {os_tupled : Array (Option Value)} {f_as_set : Addr} {oc_as_set dc_as_set pm_as_set cd_as_set ct_as_set kV_as_set : Value} {od_as_set an_as_set : Option Addr} {os_as_set : Array (Option Value)} {f_Sheet_init : Addr} {oc_Sheet_init dc_Sheet_init pm_Sheet_init cd_Sheet_init ct_Sheet_init kV_Sheet_init : Value} {od_Sheet_init an_Sheet_init : Option Addr} {os_Sheet_init : Array (Option Value)} {f_Sheet_names : Addr} {oc_Sheet_names dc_Sheet_names pm_Sheet_names cd_Sheet_names ct_Sheet_names kV_Sheet_names : Value} {od_Sheet_names an_Sheet_names : Option Addr} {os_Sheet_names : Array (Option Value)} {f_Sheet_empties : Addr} {oc_Sheet_empties dc_Sheet_empties pm_Sheet_empties cd_Sheet_empties ct_Sheet_empties kV_Sheet_empties : Value} {od_Sheet_empties an_Sheet_empties : Option Addr} {os_Sheet_empties : Array (Option Value)} {f_Sheet_homes : Addr} {oc_Sheet_homes dc_Sheet_homes pm_Sheet_homes cd_Sheet_homes ct_Sheet_homes kV_Sheet_homes : Value} {od_Sheet_homes an_Sheet_homes : Option Addr} {os_Sheet_homes : Array (Option Value)} {f_Sheet_check : Addr} {oc_Sheet_check dc_Sheet_check pm_Sheet_check cd_Sheet_check ct_Sheet_check kV_Sheet_check : Value} {od_Sheet_check an_Sheet_check : Option Addr} {os_Sheet_check : Array (Option Value)} {f_Sheet_checked : Addr} {oc_Sheet_checked dc_Sheet_checked pm_Sheet_checked cd_Sheet_checked ct_Sheet_checked kV_Sheet_checked : Value} {od_Sheet_checked an_Sheet_checked : Option Addr} {os_Sheet_checked : Array (Option Value)} {f_Sheet_wants : Addr} {oc_Sheet_wants dc_Sheet_wants pm_Sheet_wants cd_Sheet_wants ct_Sheet_wants kV_Sheet_wants : Value} {od_Sheet_wants an_Sheet_wants : Option Addr} {os_Sheet_wants : Array (Option Value)} {f_Sheet_told : Addr} {oc_Sheet_told dc_Sheet_told pm_Sheet_told cd_Sheet_told ct_Sheet_told kV_Sheet_told : Value} {od_Sheet_told an_Sheet_told : Option Addr} {os_Sheet_told : Array (Option Value)} {f_without : Addr} {oc_without dc_without pm_without cd_without ct_without kV_without : Value} {od_without an_without : Option Addr} {os_without : Array (Option Value)} {f_turned : Addr} {oc_turned dc_turned pm_turned cd_turned ct_turned kV_turned : Value} {od_turned an_turned : Option Addr} {os_turned : Array (Option Value)} {f_goals_of : Addr} {oc_goals_of dc_goals_of pm_goals_of cd_goals_of ct_goals_of kV_goals_of : Value} {od_goals_of an_goals_of : Option Addr} {os_goals_of : Array (Option Value)} {f_names_in : Addr} {oc_names_in dc_names_in pm_names_in cd_names_in ct_names_in kV_names_in : Value} {od_names_in an_names_in : Option Addr} {os_names_in : Array (Option Value)} {f_goals_in : Addr} {oc_goals_in dc_goals_in pm_goals_in cd_goals_in ct_goals_in kV_goals_in : Value} {od_goals_in an_goals_in : Option Addr} {os_goals_in : Array (Option Value)} {f_tupledN : Addr} {oc_tupledN dc_tupledN pm_tupledN cd_tupledN ct_tupledN kV_tupledN : Value} {od_tupledN an_tupledN : Option Addr} {os_tupledN : Array (Option Value)} {f_Plan_init : Addr} {oc_Plan_init dc_Plan_init pm_Plan_init cd_Plan_init ct_Plan_init kV_Plan_init : Value} {od_Plan_init an_Plan_init : Option Addr} {os_Plan_init : Array (Option Value)} {f_Plan_of : Addr} {oc_Plan_of dc_Plan_of pm_Plan_of cd_Plan_of ct_Plan_of kV_Plan_of : Value} {od_Plan_of an_Plan_of : Option Addr} {os_Plan_of : Array (Option Value)} {pr_Plan_of : Addr} {rs_Plan_of : List Value} {f_Plan_parts : Addr} {oc_Plan_parts dc_Plan_parts pm_Plan_parts cd_Plan_parts ct_Plan_parts kV_Plan_parts : Value} {od_Plan_parts an_Plan_parts : Option Addr} {os_Plan_parts : Array (Option Value)} {pr_Plan_parts : Addr} {rs_Plan_parts : List Value} {f_Plan___call__ : Addr} {oc_Plan___call__ dc_Plan___call__ pm_Plan___call__ cd_Plan___call__ ct_Plan___call__ kV_Plan___call__ : Value} {od_Plan___call__ an_Plan___call__ : Option Addr} {os_Plan___call__ : Array (Option Value)} {f_way_back : Addr} {oc_way_back dc_way_back pm_way_back cd_way_back ct_way_back kV_way_back : Value} {od_way_back an_way_back : Option Addr} {os_way_back : Array (Option Value)} {f_Choice_steps : Addr} {oc_Choice_steps dc_Choice_steps pm_Choice_steps cd_Choice_steps ct_Choice_steps kV_Choice_steps : Value} {od_Choice_steps an_Choice_steps : Option Addr} {os_Choice_steps : Array (Option Value)} {f_Choice_better_ring : Addr} {oc_Choice_better_ring dc_Choice_better_ring pm_Choice_better_ring cd_Choice_better_ring ct_Choice_better_ring kV_Choice_better_ring : Value} {od_Choice_better_ring an_Choice_better_ring : Option Addr} {os_Choice_better_ring : Array (Option Value)} {f_Choice_turn : Addr} {oc_Choice_turn dc_Choice_turn pm_Choice_turn cd_Choice_turn ct_Choice_turn kV_Choice_turn : Value} {od_Choice_turn an_Choice_turn : Option Addr} {os_Choice_turn : Array (Option Value)} {f_Choice_init : Addr} {oc_Choice_init dc_Choice_init pm_Choice_init cd_Choice_init ct_Choice_init kV_Choice_init : Value} {od_Choice_init an_Choice_init : Option Addr} {os_Choice_init : Array (Option Value)} {f_Choice_place : Addr} {oc_Choice_place dc_Choice_place pm_Choice_place cd_Choice_place ct_Choice_place kV_Choice_place : Value} {od_Choice_place an_Choice_place : Option Addr} {os_Choice_place : Array (Option Value)} {f_Choice_gained : Addr} {oc_Choice_gained dc_Choice_gained pm_Choice_gained cd_Choice_gained ct_Choice_gained kV_Choice_gained : Value} {od_Choice_gained an_Choice_gained : Option Addr} {os_Choice_gained : Array (Option Value)} {f_worths_of : Addr} {oc_worths_of dc_worths_of pm_worths_of cd_worths_of ct_worths_of kV_worths_of : Value} {od_worths_of an_worths_of : Option Addr} {os_worths_of : Array (Option Value)} {f_best_of : Addr} {oc_best_of dc_best_of pm_best_of cd_best_of ct_best_of kV_best_of : Value} {od_best_of an_best_of : Option Addr} {os_best_of : Array (Option Value)} {f_rowless : Addr} {oc_rowless dc_rowless pm_rowless cd_rowless ct_rowless kV_rowless : Value} {od_rowless an_rowless : Option Addr} {os_rowless : Array (Option Value)} {f_most_any D_most_any : Addr} {oc_most_any dc_most_any pm_most_any cd_most_any ct_most_any : Value} {od_most_any an_most_any : Option Addr} {os_most_any : Array (Option Value)} {f_sizes_of : Addr} {oc_sizes_of dc_sizes_of pm_sizes_of cd_sizes_of ct_sizes_of kV_sizes_of : Value} {od_sizes_of an_sizes_of : Option Addr} {os_sizes_of : Array (Option Value)} {f_ender : Addr} {oc_ender dc_ender pm_ender cd_ender ct_ender kV_ender : Value} {od_ender an_ender : Option Addr} {os_ender : Array (Option Value)} {f_safe_for : Addr} {oc_safe_for dc_safe_for pm_safe_for cd_safe_for ct_safe_for kV_safe_for : Value} {od_safe_for an_safe_for : Option Addr} {os_safe_for : Array (Option Value)} {f_worst_gone : Addr} {oc_worst_gone dc_worst_gone pm_worst_gone cd_worst_gone ct_worst_gone kV_worst_gone : Value} {od_worst_gone an_worst_gone : Option Addr} {os_worst_gone : Array (Option Value)} {f_weak_ones : Addr} {oc_weak_ones dc_weak_ones pm_weak_ones cd_weak_ones ct_weak_ones kV_weak_ones : Value} {od_weak_ones an_weak_ones : Option Addr} {os_weak_ones : Array (Option Value)} {f_whole_parts : Addr} {oc_whole_parts dc_whole_parts pm_whole_parts cd_whole_parts ct_whole_parts kV_whole_parts : Value} {od_whole_parts an_whole_parts : Option Addr} {os_whole_parts : Array (Option Value)} {f_rest_sheet : Addr} {oc_rest_sheet dc_rest_sheet pm_rest_sheet cd_rest_sheet ct_rest_sheet kV_rest_sheet : Value} {od_rest_sheet an_rest_sheet : Option Addr} {os_rest_sheet : Array (Option Value)} {f_most_repaired : Addr} {oc_most_repaired dc_most_repaired pm_most_repaired cd_most_repaired ct_most_repaired kV_most_repaired : Value} {od_most_repaired an_most_repaired : Option Addr} {os_most_repaired : Array (Option Value)} {f_old_home : Addr} {oc_old_home dc_old_home pm_old_home cd_old_home ct_old_home kV_old_home : Value} {od_old_home an_old_home : Option Addr} {os_old_home : Array (Option Value)} {f_told_worths : Addr} {oc_told_worths dc_told_worths pm_told_worths cd_told_worths ct_told_worths kV_told_worths : Value} {od_told_worths an_told_worths : Option Addr} {os_told_worths : Array (Option Value)} {f_told_choice : Addr} {oc_told_choice dc_told_choice pm_told_choice cd_told_choice ct_told_choice kV_told_choice : Value} {od_told_choice an_told_choice : Option Addr} {os_told_choice : Array (Option Value)} {f_fewest_told : Addr} {oc_fewest_told dc_fewest_told pm_fewest_told cd_fewest_told ct_fewest_told kV_fewest_told : Value} {od_fewest_told an_fewest_told : Option Addr} {os_fewest_told : Array (Option Value)} {f__law_box : Addr} {oc__law_box dc__law_box pm__law_box cd__law_box ct__law_box kV__law_box : Value} {od__law_box an__law_box : Option Addr} {os__law_box : Array (Option Value)} {f__law_take : Addr} {oc__law_take dc__law_take pm__law_take cd__law_take ct__law_take kV__law_take : Value} {od__law_take an__law_take : Option Addr} {os__law_take : Array (Option Value)} {f__law_cells : Addr} {oc__law_cells dc__law_cells pm__law_cells cd__law_cells ct__law_cells kV__law_cells : Value} {od__law_cells an__law_cells : Option Addr} {os__law_cells : Array (Option Value)} {f__law_same : Addr} {oc__law_same dc__law_same pm__law_same cd__law_same ct__law_same kV__law_same : Value} {od__law_same an__law_same : Option Addr} {os__law_same : Array (Option Value)} {f__law_crew : Addr} {oc__law_crew dc__law_crew pm__law_crew cd__law_crew ct__law_crew kV__law_crew : Value} {od__law_crew an__law_crew : Option Addr} {os__law_crew : Array (Option Value)} {f__law_row_right : Addr} {oc__law_row_right dc__law_row_right pm__law_row_right cd__law_row_right ct__law_row_right kV__law_row_right : Value} {od__law_row_right an__law_row_right : Option Addr} {os__law_row_right : Array (Option Value)} {f__law_ring_right : Addr} {oc__law_ring_right dc__law_ring_right pm__law_ring_right cd__law_ring_right ct__law_ring_right kV__law_ring_right : Value} {od__law_ring_right an__law_ring_right : Option Addr} {os__law_ring_right : Array (Option Value)} {f__law_right : Addr} {oc__law_right dc__law_right pm__law_right cd__law_right ct__law_right kV__law_right : Value} {od__law_right an__law_right : Option Addr} {os__law_right : Array (Option Value)} {f_law : Addr} {oc_law dc_law pm_law cd_law ct_law kV_law : Value} {od_law an_law : Option Addr} {os_law : Array (Option Value)}
    (aC0 : PySem.W.nsIn K mainGlobals "Sheet" = some (some (.ref C0)))
    (aC2 : PySem.W.nsIn K mainGlobals "Plan" = some (some (.ref C2)))
    (aC1 : PySem.W.nsIn K mainGlobals "Choice" = some (some (.ref C1)))
    (a_tupled : PySem.W.nsIn K mainGlobals "tupled" = some (some (.ref f_tupled)))
    (l_tupled : K.lookup f_tupled = some ⟨oc_tupled, od_tupled, .func (PySem.W.fnOf "tupled" "tupled" (defArgs s_tupled) (defBody s_tupled) (defScope s_tupled) .none kV_tupled dc_tupled pm_tupled an_tupled cd_tupled ct_tupled), os_tupled⟩)
    (co_tupled : PySem.W.codeIn K cd_tupled "tupled" = true)
    (k_tupled : PySem.W.keepIn K (.ref f_tupled) = true)
    (a_as_set : PySem.W.nsIn K mainGlobals "as_set" = some (some (.ref f_as_set)))
    (l_as_set : K.lookup f_as_set = some ⟨oc_as_set, od_as_set, .func (PySem.W.fnOf "as_set" "as_set" (defArgs s_as_set) (defBody s_as_set) (defScope s_as_set) .none kV_as_set dc_as_set pm_as_set an_as_set cd_as_set ct_as_set), os_as_set⟩)
    (co_as_set : PySem.W.codeIn K cd_as_set "as_set" = true)
    (k_as_set : PySem.W.keepIn K (.ref f_as_set) = true)
    (a_Sheet_init : PySem.W.findIn K (.ref C0) "__init__" = some (some (.ref f_Sheet_init)))
    (i_Sheet_init : PySem.W.isFn K (.ref f_Sheet_init) = true)
    (l_Sheet_init : K.lookup f_Sheet_init = some ⟨oc_Sheet_init, od_Sheet_init, .func (PySem.W.fnOf "__init__" "Sheet.__init__" (defArgs s_Sheet_init) (defBody s_Sheet_init) (defScope s_Sheet_init) .none kV_Sheet_init dc_Sheet_init pm_Sheet_init an_Sheet_init cd_Sheet_init ct_Sheet_init), os_Sheet_init⟩)
    (co_Sheet_init : PySem.W.codeIn K cd_Sheet_init "Sheet.__init__" = true)
    (k_Sheet_init : PySem.W.keepIn K (.ref f_Sheet_init) = true)
    (a_Sheet_names : PySem.W.findIn K (.ref C0) "names" = some (some (.ref f_Sheet_names)))
    (i_Sheet_names : PySem.W.isFn K (.ref f_Sheet_names) = true)
    (l_Sheet_names : K.lookup f_Sheet_names = some ⟨oc_Sheet_names, od_Sheet_names, .func (PySem.W.fnOf "names" "Sheet.names" (defArgs s_Sheet_names) (defBody s_Sheet_names) (defScope s_Sheet_names) .none kV_Sheet_names dc_Sheet_names pm_Sheet_names an_Sheet_names cd_Sheet_names ct_Sheet_names), os_Sheet_names⟩)
    (co_Sheet_names : PySem.W.codeIn K cd_Sheet_names "Sheet.names" = true)
    (k_Sheet_names : PySem.W.keepIn K (.ref f_Sheet_names) = true)
    (a_Sheet_empties : PySem.W.findIn K (.ref C0) "empties" = some (some (.ref f_Sheet_empties)))
    (i_Sheet_empties : PySem.W.isFn K (.ref f_Sheet_empties) = true)
    (l_Sheet_empties : K.lookup f_Sheet_empties = some ⟨oc_Sheet_empties, od_Sheet_empties, .func (PySem.W.fnOf "empties" "Sheet.empties" (defArgs s_Sheet_empties) (defBody s_Sheet_empties) (defScope s_Sheet_empties) .none kV_Sheet_empties dc_Sheet_empties pm_Sheet_empties an_Sheet_empties cd_Sheet_empties ct_Sheet_empties), os_Sheet_empties⟩)
    (co_Sheet_empties : PySem.W.codeIn K cd_Sheet_empties "Sheet.empties" = true)
    (k_Sheet_empties : PySem.W.keepIn K (.ref f_Sheet_empties) = true)
    (a_Sheet_homes : PySem.W.findIn K (.ref C0) "homes" = some (some (.ref f_Sheet_homes)))
    (i_Sheet_homes : PySem.W.isFn K (.ref f_Sheet_homes) = true)
    (l_Sheet_homes : K.lookup f_Sheet_homes = some ⟨oc_Sheet_homes, od_Sheet_homes, .func (PySem.W.fnOf "homes" "Sheet.homes" (defArgs s_Sheet_homes) (defBody s_Sheet_homes) (defScope s_Sheet_homes) .none kV_Sheet_homes dc_Sheet_homes pm_Sheet_homes an_Sheet_homes cd_Sheet_homes ct_Sheet_homes), os_Sheet_homes⟩)
    (co_Sheet_homes : PySem.W.codeIn K cd_Sheet_homes "Sheet.homes" = true)
    (k_Sheet_homes : PySem.W.keepIn K (.ref f_Sheet_homes) = true)
    (a_Sheet_check : PySem.W.findIn K (.ref C0) "check" = some (some (.ref f_Sheet_check)))
    (i_Sheet_check : PySem.W.isFn K (.ref f_Sheet_check) = true)
    (g1_Sheet_check : PySem.W.specialIn K (.ref f_Sheet_check) "__get__" = some (some (.builtin "function.__get__")))
    (g2_Sheet_check : PySem.W.takesIn K (.ref f_Sheet_check) = some false)
    (g3_Sheet_check : PySem.W.fnIn K f_Sheet_check = true)
    (l_Sheet_check : K.lookup f_Sheet_check = some ⟨oc_Sheet_check, od_Sheet_check, .func (PySem.W.fnOf "check" "Sheet.check" (defArgs s_Sheet_check) (defBody s_Sheet_check) (defScope s_Sheet_check) .none kV_Sheet_check dc_Sheet_check pm_Sheet_check an_Sheet_check cd_Sheet_check ct_Sheet_check), os_Sheet_check⟩)
    (co_Sheet_check : PySem.W.codeIn K cd_Sheet_check "Sheet.check" = true)
    (k_Sheet_check : PySem.W.keepIn K (.ref f_Sheet_check) = true)
    (a_Sheet_checked : PySem.W.findIn K (.ref C0) "checked" = some (some (.ref f_Sheet_checked)))
    (i_Sheet_checked : PySem.W.isFn K (.ref f_Sheet_checked) = true)
    (l_Sheet_checked : K.lookup f_Sheet_checked = some ⟨oc_Sheet_checked, od_Sheet_checked, .func (PySem.W.fnOf "checked" "Sheet.checked" (defArgs s_Sheet_checked) (defBody s_Sheet_checked) (defScope s_Sheet_checked) .none kV_Sheet_checked dc_Sheet_checked pm_Sheet_checked an_Sheet_checked cd_Sheet_checked ct_Sheet_checked), os_Sheet_checked⟩)
    (co_Sheet_checked : PySem.W.codeIn K cd_Sheet_checked "Sheet.checked" = true)
    (k_Sheet_checked : PySem.W.keepIn K (.ref f_Sheet_checked) = true)
    (a_Sheet_wants : PySem.W.findIn K (.ref C0) "wants" = some (some (.ref f_Sheet_wants)))
    (i_Sheet_wants : PySem.W.isFn K (.ref f_Sheet_wants) = true)
    (l_Sheet_wants : K.lookup f_Sheet_wants = some ⟨oc_Sheet_wants, od_Sheet_wants, .func (PySem.W.fnOf "wants" "Sheet.wants" (defArgs s_Sheet_wants) (defBody s_Sheet_wants) (defScope s_Sheet_wants) .none kV_Sheet_wants dc_Sheet_wants pm_Sheet_wants an_Sheet_wants cd_Sheet_wants ct_Sheet_wants), os_Sheet_wants⟩)
    (co_Sheet_wants : PySem.W.codeIn K cd_Sheet_wants "Sheet.wants" = true)
    (k_Sheet_wants : PySem.W.keepIn K (.ref f_Sheet_wants) = true)
    (a_Sheet_told : PySem.W.findIn K (.ref C0) "told" = some (some (.ref f_Sheet_told)))
    (i_Sheet_told : PySem.W.isFn K (.ref f_Sheet_told) = true)
    (l_Sheet_told : K.lookup f_Sheet_told = some ⟨oc_Sheet_told, od_Sheet_told, .func (PySem.W.fnOf "told" "Sheet.told" (defArgs s_Sheet_told) (defBody s_Sheet_told) (defScope s_Sheet_told) .none kV_Sheet_told dc_Sheet_told pm_Sheet_told an_Sheet_told cd_Sheet_told ct_Sheet_told), os_Sheet_told⟩)
    (co_Sheet_told : PySem.W.codeIn K cd_Sheet_told "Sheet.told" = true)
    (k_Sheet_told : PySem.W.keepIn K (.ref f_Sheet_told) = true)
    (a_without : PySem.W.nsIn K mainGlobals "without" = some (some (.ref f_without)))
    (l_without : K.lookup f_without = some ⟨oc_without, od_without, .func (PySem.W.fnOf "without" "without" (defArgs s_without) (defBody s_without) (defScope s_without) .none kV_without dc_without pm_without an_without cd_without ct_without), os_without⟩)
    (co_without : PySem.W.codeIn K cd_without "without" = true)
    (k_without : PySem.W.keepIn K (.ref f_without) = true)
    (a_turned : PySem.W.nsIn K mainGlobals "turned" = some (some (.ref f_turned)))
    (l_turned : K.lookup f_turned = some ⟨oc_turned, od_turned, .func (PySem.W.fnOf "turned" "turned" (defArgs s_turned) (defBody s_turned) (defScope s_turned) .none kV_turned dc_turned pm_turned an_turned cd_turned ct_turned), os_turned⟩)
    (co_turned : PySem.W.codeIn K cd_turned "turned" = true)
    (k_turned : PySem.W.keepIn K (.ref f_turned) = true)
    (a_goals_of : PySem.W.nsIn K mainGlobals "goals_of" = some (some (.ref f_goals_of)))
    (l_goals_of : K.lookup f_goals_of = some ⟨oc_goals_of, od_goals_of, .func (PySem.W.fnOf "goals_of" "goals_of" (defArgs s_goals_of) (defBody s_goals_of) (defScope s_goals_of) .none kV_goals_of dc_goals_of pm_goals_of an_goals_of cd_goals_of ct_goals_of), os_goals_of⟩)
    (co_goals_of : PySem.W.codeIn K cd_goals_of "goals_of" = true)
    (k_goals_of : PySem.W.keepIn K (.ref f_goals_of) = true)
    (a_names_in : PySem.W.nsIn K mainGlobals "names_in" = some (some (.ref f_names_in)))
    (l_names_in : K.lookup f_names_in = some ⟨oc_names_in, od_names_in, .func (PySem.W.fnOf "names_in" "names_in" (defArgs s_names_in) (defBody s_names_in) (defScope s_names_in) .none kV_names_in dc_names_in pm_names_in an_names_in cd_names_in ct_names_in), os_names_in⟩)
    (co_names_in : PySem.W.codeIn K cd_names_in "names_in" = true)
    (k_names_in : PySem.W.keepIn K (.ref f_names_in) = true)
    (a_goals_in : PySem.W.nsIn K mainGlobals "goals_in" = some (some (.ref f_goals_in)))
    (l_goals_in : K.lookup f_goals_in = some ⟨oc_goals_in, od_goals_in, .func (PySem.W.fnOf "goals_in" "goals_in" (defArgs s_goals_in) (defBody s_goals_in) (defScope s_goals_in) .none kV_goals_in dc_goals_in pm_goals_in an_goals_in cd_goals_in ct_goals_in), os_goals_in⟩)
    (co_goals_in : PySem.W.codeIn K cd_goals_in "goals_in" = true)
    (k_goals_in : PySem.W.keepIn K (.ref f_goals_in) = true)
    (a_tupledN : PySem.W.nsIn K mainGlobals "tupled" = some (some (.ref f_tupledN)))
    (l_tupledN : K.lookup f_tupledN = some ⟨oc_tupledN, od_tupledN, .func (PySem.W.fnOf "tupled" "tupled" (defArgs s_tupledN) (defBody s_tupledN) (defScope s_tupledN) .none kV_tupledN dc_tupledN pm_tupledN an_tupledN cd_tupledN ct_tupledN), os_tupledN⟩)
    (co_tupledN : PySem.W.codeIn K cd_tupledN "tupled" = true)
    (k_tupledN : PySem.W.keepIn K (.ref f_tupledN) = true)
    (a_Plan_init : PySem.W.findIn K (.ref C2) "__init__" = some (some (.ref f_Plan_init)))
    (i_Plan_init : PySem.W.isFn K (.ref f_Plan_init) = true)
    (l_Plan_init : K.lookup f_Plan_init = some ⟨oc_Plan_init, od_Plan_init, .func (PySem.W.fnOf "__init__" "Plan.__init__" (defArgs s_Plan_init) (defBody s_Plan_init) (defScope s_Plan_init) .none kV_Plan_init dc_Plan_init pm_Plan_init an_Plan_init cd_Plan_init ct_Plan_init), os_Plan_init⟩)
    (co_Plan_init : PySem.W.codeIn K cd_Plan_init "Plan.__init__" = true)
    (k_Plan_init : PySem.W.keepIn K (.ref f_Plan_init) = true)
    (a_Plan_of : PySem.W.findCls K (.ref C2) (.type "type") "of" = some (.get (.builtin "classmethod.__get__") (.ref pr_Plan_of) .none (.ref C2)))
    (p1_Plan_of : PySem.W.readsIn K C2 (.type "type") = true)
    (p2_Plan_of : PySem.W.specialIn K (.ref C2) "__getattribute__" = some (some (.builtin "type.__getattribute__")))
    (p3_Plan_of : PySem.W.recIn K pr_Plan_of "classmethod" = some (.ref f_Plan_of :: rs_Plan_of))
    (g3_Plan_of : PySem.W.fnIn K f_Plan_of = true)
    (l_Plan_of : K.lookup f_Plan_of = some ⟨oc_Plan_of, od_Plan_of, .func (PySem.W.fnOf "of" "Plan.of" (defArgs s_Plan_of) (defBody s_Plan_of) (defScope s_Plan_of) .none kV_Plan_of dc_Plan_of pm_Plan_of an_Plan_of cd_Plan_of ct_Plan_of), os_Plan_of⟩)
    (co_Plan_of : PySem.W.codeIn K cd_Plan_of "Plan.of" = true)
    (k_Plan_of : PySem.W.keepIn K (.ref f_Plan_of) = true)
    (a_Plan_parts : PySem.W.findIn K (.ref C2) "parts" = some (some (.ref pr_Plan_parts)))
    (p1_Plan_parts : PySem.W.specialIn K (.ref pr_Plan_parts) "__get__" = some (some (.builtin "property.__get__")))
    (p2_Plan_parts : PySem.W.takesIn K (.ref pr_Plan_parts) = some true)
    (p3_Plan_parts : PySem.W.recIn K pr_Plan_parts "property" = some (.ref f_Plan_parts :: rs_Plan_parts))
    (l_Plan_parts : K.lookup f_Plan_parts = some ⟨oc_Plan_parts, od_Plan_parts, .func (PySem.W.fnOf "parts" "Plan.parts" (defArgs s_Plan_parts) (defBody s_Plan_parts) (defScope s_Plan_parts) .none kV_Plan_parts dc_Plan_parts pm_Plan_parts an_Plan_parts cd_Plan_parts ct_Plan_parts), os_Plan_parts⟩)
    (co_Plan_parts : PySem.W.codeIn K cd_Plan_parts "Plan.parts" = true)
    (k_Plan_parts : PySem.W.keepIn K (.ref f_Plan_parts) = true)
    (a_Plan___call__ : PySem.W.findIn K (.ref C2) "__call__" = some (some (.ref f_Plan___call__)))
    (i_Plan___call__ : PySem.W.isFn K (.ref f_Plan___call__) = true)
    (g3_Plan___call__ : PySem.W.fnIn K f_Plan___call__ = true)
    (l_Plan___call__ : K.lookup f_Plan___call__ = some ⟨oc_Plan___call__, od_Plan___call__, .func (PySem.W.fnOf "__call__" "Plan.__call__" (defArgs s_Plan___call__) (defBody s_Plan___call__) (defScope s_Plan___call__) .none kV_Plan___call__ dc_Plan___call__ pm_Plan___call__ an_Plan___call__ cd_Plan___call__ ct_Plan___call__), os_Plan___call__⟩)
    (co_Plan___call__ : PySem.W.codeIn K cd_Plan___call__ "Plan.__call__" = true)
    (k_Plan___call__ : PySem.W.keepIn K (.ref f_Plan___call__) = true)
    (a_way_back : PySem.W.nsIn K mainGlobals "way_back" = some (some (.ref f_way_back)))
    (l_way_back : K.lookup f_way_back = some ⟨oc_way_back, od_way_back, .func (PySem.W.fnOf "way_back" "way_back" (defArgs s_way_back) (defBody s_way_back) (defScope s_way_back) .none kV_way_back dc_way_back pm_way_back an_way_back cd_way_back ct_way_back), os_way_back⟩)
    (co_way_back : PySem.W.codeIn K cd_way_back "way_back" = true)
    (k_way_back : PySem.W.keepIn K (.ref f_way_back) = true)
    (a_Choice_steps : PySem.W.findIn K (.ref C1) "steps" = some (some (.ref f_Choice_steps)))
    (i_Choice_steps : PySem.W.isFn K (.ref f_Choice_steps) = true)
    (l_Choice_steps : K.lookup f_Choice_steps = some ⟨oc_Choice_steps, od_Choice_steps, .func (PySem.W.fnOf "steps" "Choice.steps" (defArgs s_Choice_steps) (defBody s_Choice_steps) (defScope s_Choice_steps) .none kV_Choice_steps dc_Choice_steps pm_Choice_steps an_Choice_steps cd_Choice_steps ct_Choice_steps), os_Choice_steps⟩)
    (co_Choice_steps : PySem.W.codeIn K cd_Choice_steps "Choice.steps" = true)
    (k_Choice_steps : PySem.W.keepIn K (.ref f_Choice_steps) = true)
    (a_Choice_better_ring : PySem.W.findIn K (.ref C1) "better_ring" = some (some (.ref f_Choice_better_ring)))
    (i_Choice_better_ring : PySem.W.isFn K (.ref f_Choice_better_ring) = true)
    (l_Choice_better_ring : K.lookup f_Choice_better_ring = some ⟨oc_Choice_better_ring, od_Choice_better_ring, .func (PySem.W.fnOf "better_ring" "Choice.better_ring" (defArgs s_Choice_better_ring) (defBody s_Choice_better_ring) (defScope s_Choice_better_ring) .none kV_Choice_better_ring dc_Choice_better_ring pm_Choice_better_ring an_Choice_better_ring cd_Choice_better_ring ct_Choice_better_ring), os_Choice_better_ring⟩)
    (co_Choice_better_ring : PySem.W.codeIn K cd_Choice_better_ring "Choice.better_ring" = true)
    (k_Choice_better_ring : PySem.W.keepIn K (.ref f_Choice_better_ring) = true)
    (a_Choice_turn : PySem.W.findIn K (.ref C1) "turn" = some (some (.ref f_Choice_turn)))
    (i_Choice_turn : PySem.W.isFn K (.ref f_Choice_turn) = true)
    (l_Choice_turn : K.lookup f_Choice_turn = some ⟨oc_Choice_turn, od_Choice_turn, .func (PySem.W.fnOf "turn" "Choice.turn" (defArgs s_Choice_turn) (defBody s_Choice_turn) (defScope s_Choice_turn) .none kV_Choice_turn dc_Choice_turn pm_Choice_turn an_Choice_turn cd_Choice_turn ct_Choice_turn), os_Choice_turn⟩)
    (co_Choice_turn : PySem.W.codeIn K cd_Choice_turn "Choice.turn" = true)
    (k_Choice_turn : PySem.W.keepIn K (.ref f_Choice_turn) = true)
    (a_Choice_init : PySem.W.findIn K (.ref C1) "__init__" = some (some (.ref f_Choice_init)))
    (i_Choice_init : PySem.W.isFn K (.ref f_Choice_init) = true)
    (l_Choice_init : K.lookup f_Choice_init = some ⟨oc_Choice_init, od_Choice_init, .func (PySem.W.fnOf "__init__" "Choice.__init__" (defArgs s_Choice_init) (defBody s_Choice_init) (defScope s_Choice_init) .none kV_Choice_init dc_Choice_init pm_Choice_init an_Choice_init cd_Choice_init ct_Choice_init), os_Choice_init⟩)
    (co_Choice_init : PySem.W.codeIn K cd_Choice_init "Choice.__init__" = true)
    (k_Choice_init : PySem.W.keepIn K (.ref f_Choice_init) = true)
    (a_Choice_place : PySem.W.findIn K (.ref C1) "place" = some (some (.ref f_Choice_place)))
    (i_Choice_place : PySem.W.isFn K (.ref f_Choice_place) = true)
    (l_Choice_place : K.lookup f_Choice_place = some ⟨oc_Choice_place, od_Choice_place, .func (PySem.W.fnOf "place" "Choice.place" (defArgs s_Choice_place) (defBody s_Choice_place) (defScope s_Choice_place) .none kV_Choice_place dc_Choice_place pm_Choice_place an_Choice_place cd_Choice_place ct_Choice_place), os_Choice_place⟩)
    (co_Choice_place : PySem.W.codeIn K cd_Choice_place "Choice.place" = true)
    (k_Choice_place : PySem.W.keepIn K (.ref f_Choice_place) = true)
    (a_Choice_gained : PySem.W.findIn K (.ref C1) "gained" = some (some (.ref f_Choice_gained)))
    (i_Choice_gained : PySem.W.isFn K (.ref f_Choice_gained) = true)
    (l_Choice_gained : K.lookup f_Choice_gained = some ⟨oc_Choice_gained, od_Choice_gained, .func (PySem.W.fnOf "gained" "Choice.gained" (defArgs s_Choice_gained) (defBody s_Choice_gained) (defScope s_Choice_gained) .none kV_Choice_gained dc_Choice_gained pm_Choice_gained an_Choice_gained cd_Choice_gained ct_Choice_gained), os_Choice_gained⟩)
    (co_Choice_gained : PySem.W.codeIn K cd_Choice_gained "Choice.gained" = true)
    (k_Choice_gained : PySem.W.keepIn K (.ref f_Choice_gained) = true)
    (a_worths_of : PySem.W.nsIn K mainGlobals "worths_of" = some (some (.ref f_worths_of)))
    (l_worths_of : K.lookup f_worths_of = some ⟨oc_worths_of, od_worths_of, .func (PySem.W.fnOf "worths_of" "worths_of" (defArgs s_worths_of) (defBody s_worths_of) (defScope s_worths_of) .none kV_worths_of dc_worths_of pm_worths_of an_worths_of cd_worths_of ct_worths_of), os_worths_of⟩)
    (co_worths_of : PySem.W.codeIn K cd_worths_of "worths_of" = true)
    (k_worths_of : PySem.W.keepIn K (.ref f_worths_of) = true)
    (a_best_of : PySem.W.nsIn K mainGlobals "best_of" = some (some (.ref f_best_of)))
    (l_best_of : K.lookup f_best_of = some ⟨oc_best_of, od_best_of, .func (PySem.W.fnOf "best_of" "best_of" (defArgs s_best_of) (defBody s_best_of) (defScope s_best_of) .none kV_best_of dc_best_of pm_best_of an_best_of cd_best_of ct_best_of), os_best_of⟩)
    (co_best_of : PySem.W.codeIn K cd_best_of "best_of" = true)
    (k_best_of : PySem.W.keepIn K (.ref f_best_of) = true)
    (a_rowless : PySem.W.nsIn K mainGlobals "rowless" = some (some (.ref f_rowless)))
    (l_rowless : K.lookup f_rowless = some ⟨oc_rowless, od_rowless, .func (PySem.W.fnOf "rowless" "rowless" (defArgs s_rowless) (defBody s_rowless) (defScope s_rowless) .none kV_rowless dc_rowless pm_rowless an_rowless cd_rowless ct_rowless), os_rowless⟩)
    (co_rowless : PySem.W.codeIn K cd_rowless "rowless" = true)
    (k_rowless : PySem.W.keepIn K (.ref f_rowless) = true)
    (a_most_any : PySem.W.nsIn K mainGlobals "most_any" = some (some (.ref f_most_any)))
    (l_most_any : K.lookup f_most_any = some ⟨oc_most_any, od_most_any, .func (PySem.W.fnOf "most_any" "most_any" (defArgs s_most_any) (defBody s_most_any) (defScope s_most_any) .none (.ref D_most_any) dc_most_any pm_most_any an_most_any cd_most_any ct_most_any), os_most_any⟩)
    (co_most_any : PySem.W.codeIn K cd_most_any "most_any" = true)
    (k_most_any : PySem.W.keepIn K (.ref f_most_any) = true)
    (hd_most_any : PySem.W.nsIn K D_most_any "rows" = some (some (.bool true)))
    (a_sizes_of : PySem.W.nsIn K mainGlobals "sizes_of" = some (some (.ref f_sizes_of)))
    (l_sizes_of : K.lookup f_sizes_of = some ⟨oc_sizes_of, od_sizes_of, .func (PySem.W.fnOf "sizes_of" "sizes_of" (defArgs s_sizes_of) (defBody s_sizes_of) (defScope s_sizes_of) .none kV_sizes_of dc_sizes_of pm_sizes_of an_sizes_of cd_sizes_of ct_sizes_of), os_sizes_of⟩)
    (co_sizes_of : PySem.W.codeIn K cd_sizes_of "sizes_of" = true)
    (k_sizes_of : PySem.W.keepIn K (.ref f_sizes_of) = true)
    (a_ender : PySem.W.nsIn K mainGlobals "ender" = some (some (.ref f_ender)))
    (l_ender : K.lookup f_ender = some ⟨oc_ender, od_ender, .func (PySem.W.fnOf "ender" "ender" (defArgs s_ender) (defBody s_ender) (defScope s_ender) .none kV_ender dc_ender pm_ender an_ender cd_ender ct_ender), os_ender⟩)
    (co_ender : PySem.W.codeIn K cd_ender "ender" = true)
    (k_ender : PySem.W.keepIn K (.ref f_ender) = true)
    (a_safe_for : PySem.W.nsIn K mainGlobals "safe_for" = some (some (.ref f_safe_for)))
    (l_safe_for : K.lookup f_safe_for = some ⟨oc_safe_for, od_safe_for, .func (PySem.W.fnOf "safe_for" "safe_for" (defArgs s_safe_for) (defBody s_safe_for) (defScope s_safe_for) .none kV_safe_for dc_safe_for pm_safe_for an_safe_for cd_safe_for ct_safe_for), os_safe_for⟩)
    (co_safe_for : PySem.W.codeIn K cd_safe_for "safe_for" = true)
    (k_safe_for : PySem.W.keepIn K (.ref f_safe_for) = true)
    (a_worst_gone : PySem.W.nsIn K mainGlobals "worst_gone" = some (some (.ref f_worst_gone)))
    (l_worst_gone : K.lookup f_worst_gone = some ⟨oc_worst_gone, od_worst_gone, .func (PySem.W.fnOf "worst_gone" "worst_gone" (defArgs s_worst_gone) (defBody s_worst_gone) (defScope s_worst_gone) .none kV_worst_gone dc_worst_gone pm_worst_gone an_worst_gone cd_worst_gone ct_worst_gone), os_worst_gone⟩)
    (co_worst_gone : PySem.W.codeIn K cd_worst_gone "worst_gone" = true)
    (k_worst_gone : PySem.W.keepIn K (.ref f_worst_gone) = true)
    (a_weak_ones : PySem.W.nsIn K mainGlobals "weak_ones" = some (some (.ref f_weak_ones)))
    (l_weak_ones : K.lookup f_weak_ones = some ⟨oc_weak_ones, od_weak_ones, .func (PySem.W.fnOf "weak_ones" "weak_ones" (defArgs s_weak_ones) (defBody s_weak_ones) (defScope s_weak_ones) .none kV_weak_ones dc_weak_ones pm_weak_ones an_weak_ones cd_weak_ones ct_weak_ones), os_weak_ones⟩)
    (co_weak_ones : PySem.W.codeIn K cd_weak_ones "weak_ones" = true)
    (k_weak_ones : PySem.W.keepIn K (.ref f_weak_ones) = true)
    (a_whole_parts : PySem.W.nsIn K mainGlobals "whole_parts" = some (some (.ref f_whole_parts)))
    (l_whole_parts : K.lookup f_whole_parts = some ⟨oc_whole_parts, od_whole_parts, .func (PySem.W.fnOf "whole_parts" "whole_parts" (defArgs s_whole_parts) (defBody s_whole_parts) (defScope s_whole_parts) .none kV_whole_parts dc_whole_parts pm_whole_parts an_whole_parts cd_whole_parts ct_whole_parts), os_whole_parts⟩)
    (co_whole_parts : PySem.W.codeIn K cd_whole_parts "whole_parts" = true)
    (k_whole_parts : PySem.W.keepIn K (.ref f_whole_parts) = true)
    (a_rest_sheet : PySem.W.nsIn K mainGlobals "rest_sheet" = some (some (.ref f_rest_sheet)))
    (l_rest_sheet : K.lookup f_rest_sheet = some ⟨oc_rest_sheet, od_rest_sheet, .func (PySem.W.fnOf "rest_sheet" "rest_sheet" (defArgs s_rest_sheet) (defBody s_rest_sheet) (defScope s_rest_sheet) .none kV_rest_sheet dc_rest_sheet pm_rest_sheet an_rest_sheet cd_rest_sheet ct_rest_sheet), os_rest_sheet⟩)
    (co_rest_sheet : PySem.W.codeIn K cd_rest_sheet "rest_sheet" = true)
    (k_rest_sheet : PySem.W.keepIn K (.ref f_rest_sheet) = true)
    (a_most_repaired : PySem.W.nsIn K mainGlobals "most_repaired" = some (some (.ref f_most_repaired)))
    (l_most_repaired : K.lookup f_most_repaired = some ⟨oc_most_repaired, od_most_repaired, .func (PySem.W.fnOf "most_repaired" "most_repaired" (defArgs s_most_repaired) (defBody s_most_repaired) (defScope s_most_repaired) .none kV_most_repaired dc_most_repaired pm_most_repaired an_most_repaired cd_most_repaired ct_most_repaired), os_most_repaired⟩)
    (co_most_repaired : PySem.W.codeIn K cd_most_repaired "most_repaired" = true)
    (k_most_repaired : PySem.W.keepIn K (.ref f_most_repaired) = true)
    (a_old_home : PySem.W.nsIn K mainGlobals "old_home" = some (some (.ref f_old_home)))
    (l_old_home : K.lookup f_old_home = some ⟨oc_old_home, od_old_home, .func (PySem.W.fnOf "old_home" "old_home" (defArgs s_old_home) (defBody s_old_home) (defScope s_old_home) .none kV_old_home dc_old_home pm_old_home an_old_home cd_old_home ct_old_home), os_old_home⟩)
    (co_old_home : PySem.W.codeIn K cd_old_home "old_home" = true)
    (k_old_home : PySem.W.keepIn K (.ref f_old_home) = true)
    (a_told_worths : PySem.W.nsIn K mainGlobals "told_worths" = some (some (.ref f_told_worths)))
    (l_told_worths : K.lookup f_told_worths = some ⟨oc_told_worths, od_told_worths, .func (PySem.W.fnOf "told_worths" "told_worths" (defArgs s_told_worths) (defBody s_told_worths) (defScope s_told_worths) .none kV_told_worths dc_told_worths pm_told_worths an_told_worths cd_told_worths ct_told_worths), os_told_worths⟩)
    (co_told_worths : PySem.W.codeIn K cd_told_worths "told_worths" = true)
    (k_told_worths : PySem.W.keepIn K (.ref f_told_worths) = true)
    (a_told_choice : PySem.W.nsIn K mainGlobals "told_choice" = some (some (.ref f_told_choice)))
    (l_told_choice : K.lookup f_told_choice = some ⟨oc_told_choice, od_told_choice, .func (PySem.W.fnOf "told_choice" "told_choice" (defArgs s_told_choice) (defBody s_told_choice) (defScope s_told_choice) .none kV_told_choice dc_told_choice pm_told_choice an_told_choice cd_told_choice ct_told_choice), os_told_choice⟩)
    (co_told_choice : PySem.W.codeIn K cd_told_choice "told_choice" = true)
    (k_told_choice : PySem.W.keepIn K (.ref f_told_choice) = true)
    (a_fewest_told : PySem.W.nsIn K mainGlobals "fewest_told" = some (some (.ref f_fewest_told)))
    (l_fewest_told : K.lookup f_fewest_told = some ⟨oc_fewest_told, od_fewest_told, .func (PySem.W.fnOf "fewest_told" "fewest_told" (defArgs s_fewest_told) (defBody s_fewest_told) (defScope s_fewest_told) .none kV_fewest_told dc_fewest_told pm_fewest_told an_fewest_told cd_fewest_told ct_fewest_told), os_fewest_told⟩)
    (co_fewest_told : PySem.W.codeIn K cd_fewest_told "fewest_told" = true)
    (k_fewest_told : PySem.W.keepIn K (.ref f_fewest_told) = true)
    (a__law_box : PySem.W.nsIn K mainGlobals "_law_box" = some (some (.ref f__law_box)))
    (l__law_box : K.lookup f__law_box = some ⟨oc__law_box, od__law_box, .func (PySem.W.fnOf "_law_box" "_law_box" (defArgs s__law_box) (defBody s__law_box) (defScope s__law_box) .none kV__law_box dc__law_box pm__law_box an__law_box cd__law_box ct__law_box), os__law_box⟩)
    (co__law_box : PySem.W.codeIn K cd__law_box "_law_box" = true)
    (k__law_box : PySem.W.keepIn K (.ref f__law_box) = true)
    (a__law_take : PySem.W.nsIn K mainGlobals "_law_take" = some (some (.ref f__law_take)))
    (l__law_take : K.lookup f__law_take = some ⟨oc__law_take, od__law_take, .func (PySem.W.fnOf "_law_take" "_law_take" (defArgs s__law_take) (defBody s__law_take) (defScope s__law_take) .none kV__law_take dc__law_take pm__law_take an__law_take cd__law_take ct__law_take), os__law_take⟩)
    (co__law_take : PySem.W.codeIn K cd__law_take "_law_take" = true)
    (k__law_take : PySem.W.keepIn K (.ref f__law_take) = true)
    (a__law_cells : PySem.W.nsIn K mainGlobals "_law_cells" = some (some (.ref f__law_cells)))
    (l__law_cells : K.lookup f__law_cells = some ⟨oc__law_cells, od__law_cells, .func (PySem.W.fnOf "_law_cells" "_law_cells" (defArgs s__law_cells) (defBody s__law_cells) (defScope s__law_cells) .none kV__law_cells dc__law_cells pm__law_cells an__law_cells cd__law_cells ct__law_cells), os__law_cells⟩)
    (co__law_cells : PySem.W.codeIn K cd__law_cells "_law_cells" = true)
    (k__law_cells : PySem.W.keepIn K (.ref f__law_cells) = true)
    (a__law_same : PySem.W.nsIn K mainGlobals "_law_same" = some (some (.ref f__law_same)))
    (l__law_same : K.lookup f__law_same = some ⟨oc__law_same, od__law_same, .func (PySem.W.fnOf "_law_same" "_law_same" (defArgs s__law_same) (defBody s__law_same) (defScope s__law_same) .none kV__law_same dc__law_same pm__law_same an__law_same cd__law_same ct__law_same), os__law_same⟩)
    (co__law_same : PySem.W.codeIn K cd__law_same "_law_same" = true)
    (k__law_same : PySem.W.keepIn K (.ref f__law_same) = true)
    (a__law_crew : PySem.W.nsIn K mainGlobals "_law_crew" = some (some (.ref f__law_crew)))
    (l__law_crew : K.lookup f__law_crew = some ⟨oc__law_crew, od__law_crew, .func (PySem.W.fnOf "_law_crew" "_law_crew" (defArgs s__law_crew) (defBody s__law_crew) (defScope s__law_crew) .none kV__law_crew dc__law_crew pm__law_crew an__law_crew cd__law_crew ct__law_crew), os__law_crew⟩)
    (co__law_crew : PySem.W.codeIn K cd__law_crew "_law_crew" = true)
    (k__law_crew : PySem.W.keepIn K (.ref f__law_crew) = true)
    (a__law_row_right : PySem.W.nsIn K mainGlobals "_law_row_right" = some (some (.ref f__law_row_right)))
    (l__law_row_right : K.lookup f__law_row_right = some ⟨oc__law_row_right, od__law_row_right, .func (PySem.W.fnOf "_law_row_right" "_law_row_right" (defArgs s__law_row_right) (defBody s__law_row_right) (defScope s__law_row_right) .none kV__law_row_right dc__law_row_right pm__law_row_right an__law_row_right cd__law_row_right ct__law_row_right), os__law_row_right⟩)
    (co__law_row_right : PySem.W.codeIn K cd__law_row_right "_law_row_right" = true)
    (k__law_row_right : PySem.W.keepIn K (.ref f__law_row_right) = true)
    (a__law_ring_right : PySem.W.nsIn K mainGlobals "_law_ring_right" = some (some (.ref f__law_ring_right)))
    (l__law_ring_right : K.lookup f__law_ring_right = some ⟨oc__law_ring_right, od__law_ring_right, .func (PySem.W.fnOf "_law_ring_right" "_law_ring_right" (defArgs s__law_ring_right) (defBody s__law_ring_right) (defScope s__law_ring_right) .none kV__law_ring_right dc__law_ring_right pm__law_ring_right an__law_ring_right cd__law_ring_right ct__law_ring_right), os__law_ring_right⟩)
    (co__law_ring_right : PySem.W.codeIn K cd__law_ring_right "_law_ring_right" = true)
    (k__law_ring_right : PySem.W.keepIn K (.ref f__law_ring_right) = true)
    (a__law_right : PySem.W.nsIn K mainGlobals "_law_right" = some (some (.ref f__law_right)))
    (l__law_right : K.lookup f__law_right = some ⟨oc__law_right, od__law_right, .func (PySem.W.fnOf "_law_right" "_law_right" (defArgs s__law_right) (defBody s__law_right) (defScope s__law_right) .none kV__law_right dc__law_right pm__law_right an__law_right cd__law_right ct__law_right), os__law_right⟩)
    (co__law_right : PySem.W.codeIn K cd__law_right "_law_right" = true)
    (k__law_right : PySem.W.keepIn K (.ref f__law_right) = true)
    (a_law : PySem.W.nsIn K mainGlobals "law" = some (some (.ref f_law)))
    (l_law : K.lookup f_law = some ⟨oc_law, od_law, .func (PySem.W.fnOf "law" "law" (defArgs s_law) (defBody s_law) (defScope s_law) .none kV_law dc_law pm_law an_law cd_law ct_law), os_law⟩)
    (co_law : PySem.W.codeIn K cd_law "law" = true)
    (k_law : PySem.W.keepIn K (.ref f_law) = true)
    (pg0 : PySem.W.plainGet K C0 Str.empty = true)
    (ic0 : PySem.W.isClsIn K C0 = true)
    (po0 : PySem.W.plainOver K C0 = true)
    (sa0 : PySem.W.findIn K (.ref C0) "__setattr__" = some (some (.builtin "object.__setattr__")))
    (mk0 : PySem.W.makesIn K C0 = true)
    (kc0 : PySem.W.keepIn K (.ref C0) = true)
    (pg2 : PySem.W.plainGet K C2 Str.empty = true)
    (ic2 : PySem.W.isClsIn K C2 = true)
    (po2 : PySem.W.plainOver K C2 = true)
    (sa2 : PySem.W.findIn K (.ref C2) "__setattr__" = some (some (.builtin "object.__setattr__")))
    (mk2 : PySem.W.makesIn K C2 = true)
    (kc2 : PySem.W.keepIn K (.ref C2) = true)
    (pg1 : PySem.W.plainGet K C1 Str.empty = true)
    (ic1 : PySem.W.isClsIn K C1 = true)
    (po1 : PySem.W.plainOver K C1 = true)
    (sa1 : PySem.W.findIn K (.ref C1) "__setattr__" = some (some (.builtin "object.__setattr__")))
    (mk1 : PySem.W.makesIn K C1 = true)
    (kc1 : PySem.W.keepIn K (.ref C1) = true)
    (s1_own_empties : PySem.W.findIn K (.ref C0) "own_empties" = some (some (.ref pp_own_empties)))
    (s2_own_empties : PySem.W.specialIn K (.ref pp_own_empties) "__get__" = some (some (.builtin "member_descriptor.__get__")))
    (s3_own_empties : PySem.W.takesIn K (.ref pp_own_empties) = some true)
    (s4_own_empties : PySem.W.typeIn K (.ref pp_own_empties) = some (.type "member_descriptor"))
    (s5_own_empties : PySem.W.slotIn K pp_own_empties C0 = some 0)
    (s1_own_homes : PySem.W.findIn K (.ref C0) "own_homes" = some (some (.ref pp_own_homes)))
    (s2_own_homes : PySem.W.specialIn K (.ref pp_own_homes) "__get__" = some (some (.builtin "member_descriptor.__get__")))
    (s3_own_homes : PySem.W.takesIn K (.ref pp_own_homes) = some true)
    (s4_own_homes : PySem.W.typeIn K (.ref pp_own_homes) = some (.type "member_descriptor"))
    (s5_own_homes : PySem.W.slotIn K pp_own_homes C0 = some 1)
    (s1_own_rows : PySem.W.findIn K (.ref C0) "own_rows" = some (some (.ref pp_own_rows)))
    (s2_own_rows : PySem.W.specialIn K (.ref pp_own_rows) "__get__" = some (some (.builtin "member_descriptor.__get__")))
    (s3_own_rows : PySem.W.takesIn K (.ref pp_own_rows) = some true)
    (s4_own_rows : PySem.W.typeIn K (.ref pp_own_rows) = some (.type "member_descriptor"))
    (s5_own_rows : PySem.W.slotIn K pp_own_rows C0 = some 2)
    (s1_own_goals : PySem.W.findIn K (.ref C2) "own_goals" = some (some (.ref pp_own_goals)))
    (s2_own_goals : PySem.W.specialIn K (.ref pp_own_goals) "__get__" = some (some (.builtin "member_descriptor.__get__")))
    (s3_own_goals : PySem.W.takesIn K (.ref pp_own_goals) = some true)
    (s4_own_goals : PySem.W.typeIn K (.ref pp_own_goals) = some (.type "member_descriptor"))
    (s5_own_goals : PySem.W.slotIn K pp_own_goals C2 = some 0)
    (s1_own_parts : PySem.W.findIn K (.ref C2) "own_parts" = some (some (.ref pp_own_parts)))
    (s2_own_parts : PySem.W.specialIn K (.ref pp_own_parts) "__get__" = some (some (.builtin "member_descriptor.__get__")))
    (s3_own_parts : PySem.W.takesIn K (.ref pp_own_parts) = some true)
    (s4_own_parts : PySem.W.typeIn K (.ref pp_own_parts) = some (.type "member_descriptor"))
    (s5_own_parts : PySem.W.slotIn K pp_own_parts C2 = some 1)
    (s1_Choice_own_homes : PySem.W.findIn K (.ref C1) "own_homes" = some (some (.ref pp_Choice_own_homes)))
    (s2_Choice_own_homes : PySem.W.specialIn K (.ref pp_Choice_own_homes) "__get__" = some (some (.builtin "member_descriptor.__get__")))
    (s3_Choice_own_homes : PySem.W.takesIn K (.ref pp_Choice_own_homes) = some true)
    (s4_Choice_own_homes : PySem.W.typeIn K (.ref pp_Choice_own_homes) = some (.type "member_descriptor"))
    (s5_Choice_own_homes : PySem.W.slotIn K pp_Choice_own_homes C1 = some 0)
    (s1_own_reach : PySem.W.findIn K (.ref C1) "own_reach" = some (some (.ref pp_own_reach)))
    (s2_own_reach : PySem.W.specialIn K (.ref pp_own_reach) "__get__" = some (some (.builtin "member_descriptor.__get__")))
    (s3_own_reach : PySem.W.takesIn K (.ref pp_own_reach) = some true)
    (s4_own_reach : PySem.W.typeIn K (.ref pp_own_reach) = some (.type "member_descriptor"))
    (s5_own_reach : PySem.W.slotIn K pp_own_reach C1 = some 1)
    (s1_own_taken : PySem.W.findIn K (.ref C1) "own_taken" = some (some (.ref pp_own_taken)))
    (s2_own_taken : PySem.W.specialIn K (.ref pp_own_taken) "__get__" = some (some (.builtin "member_descriptor.__get__")))
    (s3_own_taken : PySem.W.takesIn K (.ref pp_own_taken) = some true)
    (s4_own_taken : PySem.W.typeIn K (.ref pp_own_taken) = some (.type "member_descriptor"))
    (s5_own_taken : PySem.W.slotIn K pp_own_taken C1 = some 2)
    (s1_own_worths : PySem.W.findIn K (.ref C1) "own_worths" = some (some (.ref pp_own_worths)))
    (s2_own_worths : PySem.W.specialIn K (.ref pp_own_worths) "__get__" = some (some (.builtin "member_descriptor.__get__")))
    (s3_own_worths : PySem.W.takesIn K (.ref pp_own_worths) = some true)
    (s4_own_worths : PySem.W.typeIn K (.ref pp_own_worths) = some (.type "member_descriptor"))
    (s5_own_worths : PySem.W.slotIn K pp_own_worths C1 = some 3)
    (xa_Clash : PySem.W.nsIn K mainGlobals "Clash" = some (some (.ref XA_Clash)))
    (xd_Clash : PySem.W.hasDictIn K XA_Clash = true)
    (xt_Clash : PySem.W.typeIn K (.ref XA_Clash) = some (.type "type"))
    (xb_Clash : PySem.W.subIn K (.ref XA_Clash) (.type "BaseException") = some true)
    (xs_Clash : PySem.W.subIn K (.ref XA_Clash) (.ref XA_Clash) = some true)
    (xn_Clash : PySem.W.subIn K (.type "NoneType") (.ref XA_Clash) = some false)
    (xr_Clash_Clash : PySem.W.subIn K (.ref XA_Clash) (.ref XA_Clash) = some true)
    (xl_Clash : K.lookup XA_Clash = some (excClassObj nmC_Clash qC_Clash XA_Clash NC_Clash bsC_Clash [.type "ValueError", .type "Exception", .type "BaseException", .type "object"] true snC_Clash subC_Clash abC_Clash colC_Clash ddC_Clash k0_Clash k1_Clash k2_Clash k3_Clash k5_Clash "ValueError.__new__"))
    (xsa_Clash : PySem.W.findIn K (.ref XA_Clash) "__setattr__" = some (some (.builtin "object.__setattr__")))
    (xm_Clash : PySem.W.mroIn K XA_Clash (.ref XA_Clash) = some true)
    (xkp_Clash : PySem.W.keepIn K (.ref XA_Clash) = true)
    (xi_Clash : PySem.W.findIn K (.ref XA_Clash) "__init__" = some (some (.ref fX_Clash)))
    (xit_Clash : PySem.W.typeIn K (.ref fX_Clash) = some (.type "function"))
    (xf_Clash : K.lookup fX_Clash = some ⟨ocX_Clash, odX_Clash, .func (PySem.W.ksFn "__init__" "Clash.__init__" (defArgs (inClass (topS 3) 0)) (defBody (inClass (topS 3) 0)) (defScope (inClass (topS 3) 0)) .none kVX_Clash docX_Clash pmX_Clash anX_Clash (.ref cdX_Clash) ctX_Clash ccX_Clash), osX_Clash⟩)
    (xco_Clash : PySem.W.codeIn K (.ref cdX_Clash) "Clash.__init__" = true)
    (xcd_Clash : K.lookup cdX_Clash = some ⟨cclX_Clash, cddX_Clash, .fields vsX_Clash, ccsX_Clash⟩)
    (xvs_Clash : vsX_Clash[2]? = some (.str flX_Clash tfX_Clash))
    (xfl_Clash : ((l.prog.main.file : Str) == flX_Clash) = true)
    (xcc_Clash : K.lookup ccX_Clash = some ⟨clX_Clash, cldX_Clash, .cell (some (.ref XA_Clash)), cslX_Clash⟩)
    (xop_Clash : PySem.W.nsIn K cStatics "thirdparty.any" = some none)
    (xtop_Clash : (l.prog.main.scope.names.lookup ("super" : Str)).isSome = false)
    (xsb_Clash : PySem.W.subIn K (.ref XA_Clash) (.type "ValueError") = some true)
    (xno_Clash : PySem.W.findIn K (.ref XA_Clash) "name" = some none)
    (xga_Clash : PySem.W.findIn K (.ref XA_Clash) "__getattribute__" = some (some (.builtin "BaseException.__getattribute__")))
    (xgg_Clash : PySem.W.findIn K (.ref XA_Clash) "__getattr__" = some none)
    (xca_Clash : PySem.W.findIn K (.ref XA_Clash) "__class__" = some (some (.builtin "object.__class__")))
    (xob_Clash : PySem.W.mroIn K XA_Clash (.type "object") = some true)
    (xgs : PySem.W.specialIn K (.builtin "object.__class__") "__get__" = some (some (.builtin "getset_descriptor.__get__")))
    (xgt : PySem.W.takesIn K (.builtin "object.__class__") = some true)
    (xsu : PySem.W.nsIn K mainGlobals "super" = some none)
    (zz_abs : PySem.W.nsIn K mainGlobals "abs" = some none)
    (zz_all : PySem.W.nsIn K mainGlobals "all" = some none)
    (zz_any : PySem.W.nsIn K mainGlobals "any" = some none)
    (zz_bool : PySem.W.nsIn K mainGlobals "bool" = some none)
    (zz_dict : PySem.W.nsIn K mainGlobals "dict" = some none)
    (zz_enumerate : PySem.W.nsIn K mainGlobals "enumerate" = some none)
    (zz_int : PySem.W.nsIn K mainGlobals "int" = some none)
    (zz_isinstance : PySem.W.nsIn K mainGlobals "isinstance" = some none)
    (zz_len : PySem.W.nsIn K mainGlobals "len" = some none)
    (zz_list : PySem.W.nsIn K mainGlobals "list" = some none)
    (zz_max : PySem.W.nsIn K mainGlobals "max" = some none)
    (zz_min : PySem.W.nsIn K mainGlobals "min" = some none)
    (zz_range : PySem.W.nsIn K mainGlobals "range" = some none)
    (zz_set : PySem.W.nsIn K mainGlobals "set" = some none)
    (zz_sorted : PySem.W.nsIn K mainGlobals "sorted" = some none)
    (zz_str : PySem.W.nsIn K mainGlobals "str" = some none)
    (zz_sum : PySem.W.nsIn K mainGlobals "sum" = some none)
    (zz_tuple : PySem.W.nsIn K mainGlobals "tuple" = some none)
    (zz_zip : PySem.W.nsIn K mainGlobals "zip" = some none)
    (gg_FREE : PySem.W.nsIn K mainGlobals "FREE" = some (some (.str ("" : Str) tk_FREE)))
    (gg_RING : PySem.W.nsIn K mainGlobals "RING" = some (some (.str ("" : Str) tk_RING))) :
    ∃ fd : FuncData, (∀ (s : Shared) (v : Value), BindsTo s fd ⟨[v], []⟩ [("_law_script", v)]) ∧ ∀ base : Heap, K.In base → base.Ns mainGlobals mg → FnOk l.prog w K mg base (L2.CX l.prog w) 17 fa fd ["_law_script"] (spLaw K) := by
  have e := hfa.symm.trans (PySem.W.mg_of X Gn a_law)
  cases e
  have Fu_tupled : Fun (GG K C0 C2 C1 XA_Clash).K "tupled" "tupled" s_tupled f_tupled _ := fun_mk (st := s_tupled) l_tupled co_tupled k_tupled
  have Fu_as_set : Fun (GG K C0 C2 C1 XA_Clash).K "as_set" "as_set" s_as_set f_as_set _ := fun_mk (st := s_as_set) l_as_set co_as_set k_as_set
  have Fu_Sheet_init : Fun (GG K C0 C2 C1 XA_Clash).K "__init__" "Sheet.__init__" s_Sheet_init f_Sheet_init _ := fun_mk (st := s_Sheet_init) l_Sheet_init co_Sheet_init k_Sheet_init
  have Fu_Sheet_names : Fun (GG K C0 C2 C1 XA_Clash).K "names" "Sheet.names" s_Sheet_names f_Sheet_names _ := fun_mk (st := s_Sheet_names) l_Sheet_names co_Sheet_names k_Sheet_names
  have Fu_Sheet_empties : Fun (GG K C0 C2 C1 XA_Clash).K "empties" "Sheet.empties" s_Sheet_empties f_Sheet_empties _ := fun_mk (st := s_Sheet_empties) l_Sheet_empties co_Sheet_empties k_Sheet_empties
  have Fu_Sheet_homes : Fun (GG K C0 C2 C1 XA_Clash).K "homes" "Sheet.homes" s_Sheet_homes f_Sheet_homes _ := fun_mk (st := s_Sheet_homes) l_Sheet_homes co_Sheet_homes k_Sheet_homes
  have Fu_Sheet_check : Fun (GG K C0 C2 C1 XA_Clash).K "check" "Sheet.check" s_Sheet_check f_Sheet_check _ := fun_mk (st := s_Sheet_check) l_Sheet_check co_Sheet_check k_Sheet_check
  have Fu_Sheet_checked : Fun (GG K C0 C2 C1 XA_Clash).K "checked" "Sheet.checked" s_Sheet_checked f_Sheet_checked _ := fun_mk (st := s_Sheet_checked) l_Sheet_checked co_Sheet_checked k_Sheet_checked
  have Fu_Sheet_wants : Fun (GG K C0 C2 C1 XA_Clash).K "wants" "Sheet.wants" s_Sheet_wants f_Sheet_wants _ := fun_mk (st := s_Sheet_wants) l_Sheet_wants co_Sheet_wants k_Sheet_wants
  have Fu_Sheet_told : Fun (GG K C0 C2 C1 XA_Clash).K "told" "Sheet.told" s_Sheet_told f_Sheet_told _ := fun_mk (st := s_Sheet_told) l_Sheet_told co_Sheet_told k_Sheet_told
  have Fu_without : Fun (GG K C0 C2 C1 XA_Clash).K "without" "without" s_without f_without _ := fun_mk (st := s_without) l_without co_without k_without
  have Fu_turned : Fun (GG K C0 C2 C1 XA_Clash).K "turned" "turned" s_turned f_turned _ := fun_mk (st := s_turned) l_turned co_turned k_turned
  have Fu_goals_of : Fun (GG K C0 C2 C1 XA_Clash).K "goals_of" "goals_of" s_goals_of f_goals_of _ := fun_mk (st := s_goals_of) l_goals_of co_goals_of k_goals_of
  have Fu_names_in : Fun (GG K C0 C2 C1 XA_Clash).K "names_in" "names_in" s_names_in f_names_in _ := fun_mk (st := s_names_in) l_names_in co_names_in k_names_in
  have Fu_goals_in : Fun (GG K C0 C2 C1 XA_Clash).K "goals_in" "goals_in" s_goals_in f_goals_in _ := fun_mk (st := s_goals_in) l_goals_in co_goals_in k_goals_in
  have Fu_tupledN : Fun (GG K C0 C2 C1 XA_Clash).K "tupled" "tupled" s_tupledN f_tupledN _ := fun_mk (st := s_tupledN) l_tupledN co_tupledN k_tupledN
  have Fu_Plan_init : Fun (GG K C0 C2 C1 XA_Clash).K "__init__" "Plan.__init__" s_Plan_init f_Plan_init _ := fun_mk (st := s_Plan_init) l_Plan_init co_Plan_init k_Plan_init
  have Fu_Plan_of : Fun (GG K C0 C2 C1 XA_Clash).K "of" "Plan.of" s_Plan_of f_Plan_of _ := fun_mk (st := s_Plan_of) l_Plan_of co_Plan_of k_Plan_of
  have Fu_Plan_parts : Fun (GG K C0 C2 C1 XA_Clash).K "parts" "Plan.parts" s_Plan_parts f_Plan_parts _ := fun_mk (st := s_Plan_parts) l_Plan_parts co_Plan_parts k_Plan_parts
  have Fu_Plan___call__ : Fun (GG K C0 C2 C1 XA_Clash).K "__call__" "Plan.__call__" s_Plan___call__ f_Plan___call__ _ := fun_mk (st := s_Plan___call__) l_Plan___call__ co_Plan___call__ k_Plan___call__
  have Fu_way_back : Fun (GG K C0 C2 C1 XA_Clash).K "way_back" "way_back" s_way_back f_way_back _ := fun_mk (st := s_way_back) l_way_back co_way_back k_way_back
  have Fu_Choice_steps : Fun (GG K C0 C2 C1 XA_Clash).K "steps" "Choice.steps" s_Choice_steps f_Choice_steps _ := fun_mk (st := s_Choice_steps) l_Choice_steps co_Choice_steps k_Choice_steps
  have Fu_Choice_better_ring : Fun (GG K C0 C2 C1 XA_Clash).K "better_ring" "Choice.better_ring" s_Choice_better_ring f_Choice_better_ring _ := fun_mk (st := s_Choice_better_ring) l_Choice_better_ring co_Choice_better_ring k_Choice_better_ring
  have Fu_Choice_turn : Fun (GG K C0 C2 C1 XA_Clash).K "turn" "Choice.turn" s_Choice_turn f_Choice_turn _ := fun_mk (st := s_Choice_turn) l_Choice_turn co_Choice_turn k_Choice_turn
  have Fu_Choice_init : Fun (GG K C0 C2 C1 XA_Clash).K "__init__" "Choice.__init__" s_Choice_init f_Choice_init _ := fun_mk (st := s_Choice_init) l_Choice_init co_Choice_init k_Choice_init
  have Fu_Choice_place : Fun (GG K C0 C2 C1 XA_Clash).K "place" "Choice.place" s_Choice_place f_Choice_place _ := fun_mk (st := s_Choice_place) l_Choice_place co_Choice_place k_Choice_place
  have Fu_Choice_gained : Fun (GG K C0 C2 C1 XA_Clash).K "gained" "Choice.gained" s_Choice_gained f_Choice_gained _ := fun_mk (st := s_Choice_gained) l_Choice_gained co_Choice_gained k_Choice_gained
  have Fu_worths_of : Fun (GG K C0 C2 C1 XA_Clash).K "worths_of" "worths_of" s_worths_of f_worths_of _ := fun_mk (st := s_worths_of) l_worths_of co_worths_of k_worths_of
  have Fu_best_of : Fun (GG K C0 C2 C1 XA_Clash).K "best_of" "best_of" s_best_of f_best_of _ := fun_mk (st := s_best_of) l_best_of co_best_of k_best_of
  have Fu_rowless : Fun (GG K C0 C2 C1 XA_Clash).K "rowless" "rowless" s_rowless f_rowless _ := fun_mk (st := s_rowless) l_rowless co_rowless k_rowless
  have Fu_most_any : FunA (GG K C0 C2 C1 XA_Clash).K "most_any" "most_any" s_most_any f_most_any .none (.ref D_most_any) _ := funA_mk (st := s_most_any) l_most_any co_most_any k_most_any
  have Fu_sizes_of : Fun (GG K C0 C2 C1 XA_Clash).K "sizes_of" "sizes_of" s_sizes_of f_sizes_of _ := fun_mk (st := s_sizes_of) l_sizes_of co_sizes_of k_sizes_of
  have Fu_ender : Fun (GG K C0 C2 C1 XA_Clash).K "ender" "ender" s_ender f_ender _ := fun_mk (st := s_ender) l_ender co_ender k_ender
  have Fu_safe_for : Fun (GG K C0 C2 C1 XA_Clash).K "safe_for" "safe_for" s_safe_for f_safe_for _ := fun_mk (st := s_safe_for) l_safe_for co_safe_for k_safe_for
  have Fu_worst_gone : Fun (GG K C0 C2 C1 XA_Clash).K "worst_gone" "worst_gone" s_worst_gone f_worst_gone _ := fun_mk (st := s_worst_gone) l_worst_gone co_worst_gone k_worst_gone
  have Fu_weak_ones : Fun (GG K C0 C2 C1 XA_Clash).K "weak_ones" "weak_ones" s_weak_ones f_weak_ones _ := fun_mk (st := s_weak_ones) l_weak_ones co_weak_ones k_weak_ones
  have Fu_whole_parts : Fun (GG K C0 C2 C1 XA_Clash).K "whole_parts" "whole_parts" s_whole_parts f_whole_parts _ := fun_mk (st := s_whole_parts) l_whole_parts co_whole_parts k_whole_parts
  have Fu_rest_sheet : FunA (GG K C0 C2 C1 XA_Clash).K "rest_sheet" "rest_sheet" s_rest_sheet f_rest_sheet .none kV_rest_sheet _ := funA_mk (st := s_rest_sheet) l_rest_sheet co_rest_sheet k_rest_sheet
  have Fu_most_repaired : FunA (GG K C0 C2 C1 XA_Clash).K "most_repaired" "most_repaired" s_most_repaired f_most_repaired .none kV_most_repaired _ := funA_mk (st := s_most_repaired) l_most_repaired co_most_repaired k_most_repaired
  have Fu_old_home : Fun (GG K C0 C2 C1 XA_Clash).K "old_home" "old_home" s_old_home f_old_home _ := fun_mk (st := s_old_home) l_old_home co_old_home k_old_home
  have Fu_told_worths : Fun (GG K C0 C2 C1 XA_Clash).K "told_worths" "told_worths" s_told_worths f_told_worths _ := fun_mk (st := s_told_worths) l_told_worths co_told_worths k_told_worths
  have Fu_told_choice : Fun (GG K C0 C2 C1 XA_Clash).K "told_choice" "told_choice" s_told_choice f_told_choice _ := fun_mk (st := s_told_choice) l_told_choice co_told_choice k_told_choice
  have Fu_fewest_told : FunA (GG K C0 C2 C1 XA_Clash).K "fewest_told" "fewest_told" s_fewest_told f_fewest_told .none kV_fewest_told _ := funA_mk (st := s_fewest_told) l_fewest_told co_fewest_told k_fewest_told
  have Fu__law_box : Fun (GG K C0 C2 C1 XA_Clash).K "_law_box" "_law_box" s__law_box f__law_box _ := fun_mk (st := s__law_box) l__law_box co__law_box k__law_box
  have Fu__law_take : Fun (GG K C0 C2 C1 XA_Clash).K "_law_take" "_law_take" s__law_take f__law_take _ := fun_mk (st := s__law_take) l__law_take co__law_take k__law_take
  have Fu__law_cells : Fun (GG K C0 C2 C1 XA_Clash).K "_law_cells" "_law_cells" s__law_cells f__law_cells _ := fun_mk (st := s__law_cells) l__law_cells co__law_cells k__law_cells
  have Fu__law_same : Fun (GG K C0 C2 C1 XA_Clash).K "_law_same" "_law_same" s__law_same f__law_same _ := fun_mk (st := s__law_same) l__law_same co__law_same k__law_same
  have Fu__law_crew : Fun (GG K C0 C2 C1 XA_Clash).K "_law_crew" "_law_crew" s__law_crew f__law_crew _ := fun_mk (st := s__law_crew) l__law_crew co__law_crew k__law_crew
  have Fu__law_row_right : Fun (GG K C0 C2 C1 XA_Clash).K "_law_row_right" "_law_row_right" s__law_row_right f__law_row_right _ := fun_mk (st := s__law_row_right) l__law_row_right co__law_row_right k__law_row_right
  have Fu__law_ring_right : Fun (GG K C0 C2 C1 XA_Clash).K "_law_ring_right" "_law_ring_right" s__law_ring_right f__law_ring_right _ := fun_mk (st := s__law_ring_right) l__law_ring_right co__law_ring_right k__law_ring_right
  have Fu__law_right : Fun (GG K C0 C2 C1 XA_Clash).K "_law_right" "_law_right" s__law_right f__law_right _ := fun_mk (st := s__law_right) l__law_right co__law_right k__law_right
  have Fu_law : Fun (GG K C0 C2 C1 XA_Clash).K "law" "law" s_law fa _ := fun_mk (st := s_law) l_law co_law k_law
  have hN : (GG K C0 C2 C1 XA_Clash).tk = false := rfl
  refine ⟨PySem.W.fnOf "law" "law" (defArgs s_law) (defBody s_law) (defScope s_law) .none kV_law dc_law pm_law an_law cd_law ct_law, fun s v => .of_eq rfl, fun base _ _ => ?_⟩
  have z_abs := PySem.W.mg_none_of X Gn zz_abs
  have z_all := PySem.W.mg_none_of X Gn zz_all
  have z_any := PySem.W.mg_none_of X Gn zz_any
  have z_bool := PySem.W.mg_none_of X Gn zz_bool
  have z_dict := PySem.W.mg_none_of X Gn zz_dict
  have z_enumerate := PySem.W.mg_none_of X Gn zz_enumerate
  have z_int := PySem.W.mg_none_of X Gn zz_int
  have z_isinstance := PySem.W.mg_none_of X Gn zz_isinstance
  have z_len := PySem.W.mg_none_of X Gn zz_len
  have z_list := PySem.W.mg_none_of X Gn zz_list
  have z_max := PySem.W.mg_none_of X Gn zz_max
  have z_min := PySem.W.mg_none_of X Gn zz_min
  have z_range := PySem.W.mg_none_of X Gn zz_range
  have z_set := PySem.W.mg_none_of X Gn zz_set
  have z_sorted := PySem.W.mg_none_of X Gn zz_sorted
  have z_str := PySem.W.mg_none_of X Gn zz_str
  have z_sum := PySem.W.mg_none_of X Gn zz_sum
  have z_tuple := PySem.W.mg_none_of X Gn zz_tuple
  have z_zip := PySem.W.mg_none_of X Gn zz_zip
  have gb_FREE := PySem.W.mg_of X Gn gg_FREE
  have gb_RING := PySem.W.mg_of X Gn gg_RING
  have xms := PySem.W.mg_none_of X Gn xsu
  have gx_Clash := PySem.W.mg_of X Gn xa_Clash
  have XK_Clash : XcCls (GG K C0 C2 C1 XA_Clash).K XA_Clash "ValueError.__new__" _ := ⟨⟨_, _, _, _, _, _, _, _, _, _, _, _, _, _, xl_Clash⟩, xsa_Clash, xm_Clash, xb_Clash, xt_Clash, xkp_Clash⟩
  have XI_Clash : XcInit l.prog (GG K C0 C2 C1 XA_Clash).K XA_Clash fX_Clash "ValueError" "ValueError.__init__" _ "name" "Clash.__init__" "name" (defArgs (inClass (topS 3) 0)) (defBody (inClass (topS 3) 0)) (defScope (inClass (topS 3) 0)) cdX_Clash ccX_Clash := ⟨⟨_, _, _, _, _, _, _, _, _, _, xf_Clash, fun s a b => .of_eq rfl⟩, xco_Clash, ⟨_, _, _, _, _, _, xcd_Clash, xvs_Clash, xfl_Clash⟩, ⟨_, _, _, xcc_Clash⟩, xop_Clash, ⟨_, _, _, _, _, _, _, _, _, _, rfl, rfl⟩, ⟨_, rfl, rfl⟩, xtop_Clash, rfl, rfl, rfl, by decide +kernel, by decide +kernel, by decide +kernel, by decide +kernel, by decide +kernel, by decide, by decide, along_V _, xsb_Clash, xno_Clash⟩
  have rs_Clash : Rsx l.prog (GG K C0 C2 C1 XA_Clash) mg "Clash" 0 := ⟨⟨_, _, _, _, _, _, _, _, _, _, _, _, _, _, rfl, rfl, bsV, XK_Clash, XI_Clash, xi_Clash, xit_Clash, gx_Clash⟩, xms⟩
  have xk_Clash : Exk (GG K C0 C2 C1 XA_Clash) 0 "name" := ⟨⟨_, rfl, ⟨xga_Clash, xgg_Clash, xb_Clash, xd_Clash, xca_Clash, xgs, xgt, xob_Clash⟩, xno_Clash⟩, rfl⟩
  have xk : ExkR (GG K C0 C2 C1 XA_Clash) 1 ["name"] := fun c hc => match c, hc with | 0, _ => ⟨_, rfl, xk_Clash⟩
  have hc_Sheet : SlX.SCls (GG K C0 C2 C1 XA_Clash).K ((GG K C0 C2 C1 XA_Clash).cls 0) := ⟨pg0, ic0, po0, sa0⟩
  have hc_Plan : SlX.SCls (GG K C0 C2 C1 XA_Clash).K ((GG K C0 C2 C1 XA_Clash).cls 2) := ⟨pg2, ic2, po2, sa2⟩
  have hc_Choice : SlX.SCls (GG K C0 C2 C1 XA_Clash).K ((GG K C0 C2 C1 XA_Clash).cls 1) := ⟨pg1, ic1, po1, sa1⟩
  have sl_own_empties : SlX.Slot1 (GG K C0 C2 C1 XA_Clash).K ((GG K C0 C2 C1 XA_Clash).cls 0) "own_empties" pp_own_empties 0 := ⟨s1_own_empties, s2_own_empties, s3_own_empties, s4_own_empties, s5_own_empties, by decide⟩
  have sl_own_homes : SlX.Slot1 (GG K C0 C2 C1 XA_Clash).K ((GG K C0 C2 C1 XA_Clash).cls 0) "own_homes" pp_own_homes 1 := ⟨s1_own_homes, s2_own_homes, s3_own_homes, s4_own_homes, s5_own_homes, by decide⟩
  have sl_own_rows : SlX.Slot1 (GG K C0 C2 C1 XA_Clash).K ((GG K C0 C2 C1 XA_Clash).cls 0) "own_rows" pp_own_rows 2 := ⟨s1_own_rows, s2_own_rows, s3_own_rows, s4_own_rows, s5_own_rows, by decide⟩
  have sl_own_goals : SlX.Slot1 (GG K C0 C2 C1 XA_Clash).K ((GG K C0 C2 C1 XA_Clash).cls 2) "own_goals" pp_own_goals 0 := ⟨s1_own_goals, s2_own_goals, s3_own_goals, s4_own_goals, s5_own_goals, by decide⟩
  have sl_own_parts : SlX.Slot1 (GG K C0 C2 C1 XA_Clash).K ((GG K C0 C2 C1 XA_Clash).cls 2) "own_parts" pp_own_parts 1 := ⟨s1_own_parts, s2_own_parts, s3_own_parts, s4_own_parts, s5_own_parts, by decide⟩
  have sl_Choice_own_homes : SlX.Slot1 (GG K C0 C2 C1 XA_Clash).K ((GG K C0 C2 C1 XA_Clash).cls 1) "own_homes" pp_Choice_own_homes 0 := ⟨s1_Choice_own_homes, s2_Choice_own_homes, s3_Choice_own_homes, s4_Choice_own_homes, s5_Choice_own_homes, by decide⟩
  have sl_own_reach : SlX.Slot1 (GG K C0 C2 C1 XA_Clash).K ((GG K C0 C2 C1 XA_Clash).cls 1) "own_reach" pp_own_reach 1 := ⟨s1_own_reach, s2_own_reach, s3_own_reach, s4_own_reach, s5_own_reach, by decide⟩
  have sl_own_taken : SlX.Slot1 (GG K C0 C2 C1 XA_Clash).K ((GG K C0 C2 C1 XA_Clash).cls 1) "own_taken" pp_own_taken 2 := ⟨s1_own_taken, s2_own_taken, s3_own_taken, s4_own_taken, s5_own_taken, by decide⟩
  have sl_own_worths : SlX.Slot1 (GG K C0 C2 C1 XA_Clash).K ((GG K C0 C2 C1 XA_Clash).cls 1) "own_worths" pp_own_worths 3 := ⟨s1_own_worths, s2_own_worths, s3_own_worths, s4_own_worths, s5_own_worths, by decide⟩
  have c_tupled : ∀ n : Nat, Cal l.prog w (GG K C0 C2 C1 XA_Clash) mg base (0 + n) "tupled" 1 [] (F_tupled n) := w_tupled z_isinstance z_list z_tuple Fu_tupled (PySem.W.mg_of X Gn a_tupled)
  have o_as_set := w_as_set (P := l.prog) (w := w) (G := (GG K C0 C2 C1 XA_Clash)) (mg := mg) (base := base) z_set z_sorted z_tuple Fu_as_set
  have c_as_set : Cal l.prog w (GG K C0 C2 C1 XA_Clash) mg base 1 "as_set" 1 [] F_as_set := (Cal.fn (PySem.W.mg_of X Gn a_as_set) Fu_as_set o_as_set (bd_as_set Fu_as_set)).isoC
  have o_Sheet_init := w_Sheet_init (P := l.prog) (w := w) (G := (GG K C0 C2 C1 XA_Clash)) (mg := mg) (base := base) hc_Sheet sl_own_empties sl_own_homes sl_own_rows z_list c_tupled Fu_Sheet_init
  have c_Sheet_init : CalI l.prog w (GG K C0 C2 C1 XA_Clash) mg base 9 0 "Sheet" 1 Hr.F_Sheet_init := ⟨f_Sheet_init, PySem.W.mg_of X Gn aC0, ⟨mk0, a_Sheet_init, i_Sheet_init, kc0⟩, CallW.of0 o_Sheet_init (bd_Sheet_init Fu_Sheet_init)⟩
  have o_Sheet_names := w_Sheet_names (P := l.prog) (w := w) (G := (GG K C0 C2 C1 XA_Clash)) (mg := mg) (base := base) hc_Sheet sl_own_rows z_tuple Fu_Sheet_names
  have c_Sheet_names : CalM l.prog w (GG K C0 C2 C1 XA_Clash) mg base 1 0 "names" 0 Hr.F_Sheet_names := ⟨f_Sheet_names, hc_Sheet, ⟨a_Sheet_names, i_Sheet_names, k_Sheet_names⟩, (CallW.of0 o_Sheet_names (bd_Sheet_names Fu_Sheet_names)).isoF⟩
  have o_Sheet_empties := w_Sheet_empties (P := l.prog) (w := w) (G := (GG K C0 C2 C1 XA_Clash)) (mg := mg) (base := base) hc_Sheet sl_own_empties Fu_Sheet_empties
  have c_Sheet_empties : CalM l.prog w (GG K C0 C2 C1 XA_Clash) mg base 1 0 "empties" 0 Hd.F_Sheet_empties := ⟨f_Sheet_empties, hc_Sheet, ⟨a_Sheet_empties, i_Sheet_empties, k_Sheet_empties⟩, (CallW.of0 o_Sheet_empties (bd_Sheet_empties Fu_Sheet_empties)).isoF⟩
  have o_Sheet_homes := w_Sheet_homes (P := l.prog) (w := w) (G := (GG K C0 C2 C1 XA_Clash)) (mg := mg) (base := base) hc_Sheet sl_own_homes c_as_set Fu_Sheet_homes
  have c_Sheet_homes : CalM l.prog w (GG K C0 C2 C1 XA_Clash) mg base 2 0 "homes" 0 Hr.F_Sheet_homes := ⟨f_Sheet_homes, hc_Sheet, ⟨a_Sheet_homes, i_Sheet_homes, k_Sheet_homes⟩, (CallW.of0 o_Sheet_homes (bd_Sheet_homes Fu_Sheet_homes)).isoF⟩
  have o_Sheet_check := w_Sheet_check (P := l.prog) (w := w) (G := (GG K C0 C2 C1 XA_Clash)) (mg := mg) (base := base) hc_Sheet sl_own_rows Fu_Sheet_check
  have c_Sheet_check : CalMV l.prog w (GG K C0 C2 C1 XA_Clash) mg base 1 0 "check" Hr.F_Sheet_check := ⟨f_Sheet_check, hc_Sheet, ⟨⟨a_Sheet_check, i_Sheet_check, k_Sheet_check⟩, g1_Sheet_check, g2_Sheet_check, by decide, g3_Sheet_check⟩, (o_Sheet_check.imp fun _ _ _ _ q => q.iso)⟩
  have o_Sheet_checked := w_Sheet_checked (P := l.prog) (w := w) (G := (GG K C0 C2 C1 XA_Clash)) (mg := mg) (base := base) c_Sheet_check c_tupled Fu_Sheet_checked
  have c_Sheet_checked : CalM l.prog w (GG K C0 C2 C1 XA_Clash) mg base 9 0 "checked" 1 Hr.F_Sheet_checked := ⟨f_Sheet_checked, hc_Sheet, ⟨a_Sheet_checked, i_Sheet_checked, k_Sheet_checked⟩, (CallW.of0 o_Sheet_checked (bd_Sheet_checked Fu_Sheet_checked)).isoF⟩
  have o_Sheet_wants := w_Sheet_wants (P := l.prog) (w := w) (G := (GG K C0 C2 C1 XA_Clash)) (mg := mg) (base := base) hc_Sheet sl_own_homes sl_own_rows z_tuple Fu_Sheet_wants
  have c_Sheet_wants : CalM l.prog w (GG K C0 C2 C1 XA_Clash) mg base 1 0 "wants" 1 Hr.F_Sheet_wants := ⟨f_Sheet_wants, hc_Sheet, ⟨a_Sheet_wants, i_Sheet_wants, k_Sheet_wants⟩, (CallW.of0 o_Sheet_wants (bd_Sheet_wants Fu_Sheet_wants)).isoF⟩
  have o_Sheet_told := w_Sheet_told (P := l.prog) (w := w) (G := (GG K C0 C2 C1 XA_Clash)) (mg := mg) (base := base) hc_Sheet sl_own_empties sl_own_rows z_tuple Fu_Sheet_told
  have c_Sheet_told : CalM l.prog w (GG K C0 C2 C1 XA_Clash) mg base 1 0 "told" 0 Hc.F_Sheet_told := ⟨f_Sheet_told, hc_Sheet, ⟨a_Sheet_told, i_Sheet_told, k_Sheet_told⟩, (CallW.of0 o_Sheet_told (bd_Sheet_told Fu_Sheet_told)).isoF⟩
  have o_without := w_without (P := l.prog) (w := w) (G := (GG K C0 C2 C1 XA_Clash)) (mg := mg) (base := base) z_tuple c_Sheet_init c_Sheet_checked c_Sheet_told Fu_without
  have c_without : Cal l.prog w (GG K C0 C2 C1 XA_Clash) mg base 11 "without" 2 [] F_without := (Cal.fn (PySem.W.mg_of X Gn a_without) Fu_without o_without (bd_without Fu_without)).isoC
  have o_turned := w_turned (P := l.prog) (w := w) (G := (GG K C0 C2 C1 XA_Clash)) (mg := mg) (base := base) z_min gb_RING hN Fu_turned
  have c_turned : Cal l.prog w (GG K C0 C2 C1 XA_Clash) mg base 1 "turned" 1 [] Hk.F_turned := (Cal.fn (PySem.W.mg_of X Gn a_turned) Fu_turned o_turned (bd_turned Fu_turned)).isoC
  have o_goals_of := w_goals_of (P := l.prog) (w := w) (G := (GG K C0 C2 C1 XA_Clash)) (mg := mg) (base := base) gb_RING Fu_goals_of
  have c_goals_of : Cal l.prog w (GG K C0 C2 C1 XA_Clash) mg base 1 "goals_of" 1 [] Hk.F_goals_of := (Cal.fn (PySem.W.mg_of X Gn a_goals_of) Fu_goals_of o_goals_of (bd_goals_of Fu_goals_of)).isoC
  have o_names_in := w_names_in (P := l.prog) (w := w) (G := (GG K C0 C2 C1 XA_Clash)) (mg := mg) (base := base) gb_RING Fu_names_in
  have c_names_in : Cal l.prog w (GG K C0 C2 C1 XA_Clash) mg base 1 "names_in" 1 [] Hk.F_names_in := (Cal.fn (PySem.W.mg_of X Gn a_names_in) Fu_names_in o_names_in (bd_names_in Fu_names_in)).isoC
  have o_goals_in := w_goals_in (P := l.prog) (w := w) (G := (GG K C0 C2 C1 XA_Clash)) (mg := mg) (base := base) z_zip c_goals_of Fu_goals_in
  have c_goals_in : Cal l.prog w (GG K C0 C2 C1 XA_Clash) mg base 2 "goals_in" 1 [] Hk.F_goals_in := (Cal.fn (PySem.W.mg_of X Gn a_goals_in) Fu_goals_in o_goals_in (bd_goals_in Fu_goals_in)).isoC
  have c_tupledN : ∀ n : Nat, Cal l.prog w (GG K C0 C2 C1 XA_Clash) mg base (0 + n) "tupled" 1 [] (Hk.F_tupledN n) := w_tupledN z_isinstance z_list z_tuple Fu_tupledN (PySem.W.mg_of X Gn a_tupledN)
  have o_Plan_init := w_Plan_init (P := l.prog) (w := w) (G := (GG K C0 C2 C1 XA_Clash)) (mg := mg) (base := base) hc_Plan sl_own_goals sl_own_parts z_len z_min z_sorted z_tuple rs_Clash hN c_goals_in c_names_in c_tupledN c_turned Fu_Plan_init
  have c_Plan_init : CalIV l.prog w (GG K C0 C2 C1 XA_Clash) mg base 9 2 "Plan" Hk.F_Plan_init := ⟨f_Plan_init, PySem.W.mg_of X Gn aC2, ⟨mk2, a_Plan_init, i_Plan_init, kc2⟩, o_Plan_init⟩
  have o_Plan_of := w_Plan_of (P := l.prog) (w := w) (G := (GG K C0 C2 C1 XA_Clash)) (mg := mg) (base := base) c_Plan_init Fu_Plan_of
  have c_Plan_of : CalC l.prog w (GG K C0 C2 C1 XA_Clash) mg base 11 2 "Plan" "of" 1 Hk.F_Plan_of := ⟨_, pr_Plan_of, f_Plan_of, PySem.W.mg_of X Gn aC2, ⟨p1_Plan_of, p2_Plan_of⟩, ⟨a_Plan_of, ⟨_, p3_Plan_of⟩, g3_Plan_of⟩, FnR.isoC (FnOk.cls o_Plan_of (bd_Plan_of Fu_Plan_of))⟩
  have o_Plan_parts := w_Plan_parts (P := l.prog) (w := w) (G := (GG K C0 C2 C1 XA_Clash)) (mg := mg) (base := base) hc_Plan sl_own_parts Fu_Plan_parts
  have c_Plan_parts : CalP l.prog w (GG K C0 C2 C1 XA_Clash) mg base 1 2 "parts" Hk.F_Plan_parts := ⟨pr_Plan_parts, f_Plan_parts, hc_Plan, ⟨a_Plan_parts, p1_Plan_parts, p2_Plan_parts, ⟨_, p3_Plan_parts⟩⟩, (CallW.of0 o_Plan_parts (bd_Plan_parts Fu_Plan_parts)).isoF⟩
  have o_Plan___call__ := w_Plan___call__ (P := l.prog) (w := w) (G := (GG K C0 C2 C1 XA_Clash)) (mg := mg) (base := base) hc_Plan sl_own_goals Fu_Plan___call__
  have c_Plan___call__ : CalD l.prog w (GG K C0 C2 C1 XA_Clash) mg base 1 2 "__call__" 1 Hk.F_Plan___call__ := ⟨f_Plan___call__, hc_Plan, ⟨a_Plan___call__, i_Plan___call__, k_Plan___call__⟩, g3_Plan___call__, (CallW.of0 o_Plan___call__ (bd_Plan___call__ Fu_Plan___call__)).isoF⟩
  have o_way_back := w_way_back (P := l.prog) (w := w) (G := (GG K C0 C2 C1 XA_Clash)) (mg := mg) (base := base)  Fu_way_back
  have c_way_back : Cal l.prog w (GG K C0 C2 C1 XA_Clash) mg base 1 "way_back" 2 [] Hr.F_way_back := (Cal.fn (PySem.W.mg_of X Gn a_way_back) Fu_way_back o_way_back (bd_way_back Fu_way_back))
  have o_Choice_steps := w_Choice_steps (P := l.prog) (w := w) (G := (GG K C0 C2 C1 XA_Clash)) (mg := mg) (base := base) hc_Choice sl_Choice_own_homes sl_own_taken sl_own_worths z_list gb_FREE Fu_Choice_steps
  have c_Choice_steps : CalM l.prog w (GG K C0 C2 C1 XA_Clash) mg base 1 1 "steps" 0 Hr.F_Choice_steps := ⟨f_Choice_steps, hc_Choice, ⟨a_Choice_steps, i_Choice_steps, k_Choice_steps⟩, (CallW.of0 o_Choice_steps (bd_Choice_steps Fu_Choice_steps))⟩
  have o_Choice_better_ring := w_Choice_better_ring (P := l.prog) (w := w) (G := (GG K C0 C2 C1 XA_Clash)) (mg := mg) (base := base) hc_Choice sl_Choice_own_homes sl_own_reach z_len gb_FREE c_Choice_steps c_way_back Fu_Choice_better_ring
  have c_Choice_better_ring : CalM l.prog w (GG K C0 C2 C1 XA_Clash) mg base 2 1 "better_ring" 0 Hr.F_Choice_better_ring := ⟨f_Choice_better_ring, hc_Choice, ⟨a_Choice_better_ring, i_Choice_better_ring, k_Choice_better_ring⟩, (CallW.of0 o_Choice_better_ring (bd_Choice_better_ring Fu_Choice_better_ring))⟩
  have o_Choice_turn := w_Choice_turn (P := l.prog) (w := w) (G := (GG K C0 C2 C1 XA_Clash)) (mg := mg) (base := base) hc_Choice sl_own_taken z_dict z_zip gb_FREE Fu_Choice_turn
  have c_Choice_turn : CalM l.prog w (GG K C0 C2 C1 XA_Clash) mg base 1 1 "turn" 1 Hr.F_Choice_turn := ⟨f_Choice_turn, hc_Choice, ⟨a_Choice_turn, i_Choice_turn, k_Choice_turn⟩, (CallW.of0 o_Choice_turn (bd_Choice_turn Fu_Choice_turn))⟩
  have o_Choice_init := w_Choice_init (P := l.prog) (w := w) (G := (GG K C0 C2 C1 XA_Clash)) (mg := mg) (base := base) hc_Choice sl_Choice_own_homes sl_own_reach sl_own_taken sl_own_worths c_Choice_better_ring c_Choice_turn Fu_Choice_init
  have c_Choice_init : CalI l.prog w (GG K C0 C2 C1 XA_Clash) mg base 3 1 "Choice" 2 Hr.F_Choice_init := ⟨f_Choice_init, PySem.W.mg_of X Gn aC1, ⟨mk1, a_Choice_init, i_Choice_init, kc1⟩, CallW.of0 o_Choice_init (bd_Choice_init Fu_Choice_init)⟩
  have o_Choice_place := w_Choice_place (P := l.prog) (w := w) (G := (GG K C0 C2 C1 XA_Clash)) (mg := mg) (base := base) hc_Choice sl_own_taken Fu_Choice_place
  have c_Choice_place : CalM l.prog w (GG K C0 C2 C1 XA_Clash) mg base 1 1 "place" 1 F_Choice_place := ⟨f_Choice_place, hc_Choice, ⟨a_Choice_place, i_Choice_place, k_Choice_place⟩, (CallW.of0 o_Choice_place (bd_Choice_place Fu_Choice_place)).isoF⟩
  have o_Choice_gained := w_Choice_gained (P := l.prog) (w := w) (G := (GG K C0 C2 C1 XA_Clash)) (mg := mg) (base := base) hc_Choice sl_own_taken sl_own_worths z_sum Fu_Choice_gained
  have c_Choice_gained : CalM l.prog w (GG K C0 C2 C1 XA_Clash) mg base 1 1 "gained" 0 F_Choice_gained := ⟨f_Choice_gained, hc_Choice, ⟨a_Choice_gained, i_Choice_gained, k_Choice_gained⟩, (CallW.of0 o_Choice_gained (bd_Choice_gained Fu_Choice_gained)).isoF⟩
  have o_worths_of := w_worths_of (P := l.prog) (w := w) (G := (GG K C0 C2 C1 XA_Clash)) (mg := mg) (base := base) z_len c_Sheet_names c_Sheet_wants Fu_worths_of
  have c_worths_of : Cal l.prog w (GG K C0 C2 C1 XA_Clash) mg base 2 "worths_of" 2 [] Hr.F_worths_of := (Cal.fn (PySem.W.mg_of X Gn a_worths_of) Fu_worths_of o_worths_of (bd_worths_of Fu_worths_of)).isoC
  have o_best_of := w_best_of (P := l.prog) (w := w) (G := (GG K C0 C2 C1 XA_Clash)) (mg := mg) (base := base) c_Choice_init c_Sheet_homes c_worths_of Fu_best_of
  have c_best_of : Cal l.prog w (GG K C0 C2 C1 XA_Clash) mg base 5 "best_of" 1 [] Hr.F_best_of := (Cal.fn (PySem.W.mg_of X Gn a_best_of) Fu_best_of o_best_of (bd_best_of Fu_best_of)).isoC
  have o_rowless := w_rowless (P := l.prog) (w := w) (G := (GG K C0 C2 C1 XA_Clash)) (mg := mg) (base := base) c_Sheet_init c_Sheet_told Fu_rowless
  have c_rowless : Cal l.prog w (GG K C0 C2 C1 XA_Clash) mg base 11 "rowless" 1 [] Hc.F_rowless := (Cal.fn (PySem.W.mg_of X Gn a_rowless) Fu_rowless o_rowless (bd_rowless Fu_rowless)).isoC
  have o_most_any := w_most_any (P := l.prog) (w := w) (G := (GG K C0 C2 C1 XA_Clash)) (mg := mg) (base := base) c_Choice_gained c_Sheet_init c_best_of c_rowless Fu_most_any
  have ck_most_any_1_ : Cal l.prog w (GG K C0 C2 C1 XA_Clash) mg base 12 "most_any" 1 [] (kwF [0, 1] [.bl true] F_most_any) := Cal.kpd (PySem.W.mg_of X Gn a_most_any) o_most_any.isoS Fu_most_any [0, 1] hd_most_any (vD := .bl true) rfl (fun _ _ => rfl) (fun _ _ _ _ _ us ws h1 h2 => match us, ws, h1, h2 with | [_], [], _, _ => ⟨_, _, _, _, _, _, rfl, rfl, rfl⟩)
  have o_sizes_of := w_sizes_of (P := l.prog) (w := w) (G := (GG K C0 C2 C1 XA_Clash)) (mg := mg) (base := base) z_len z_sorted Fu_sizes_of
  have c_sizes_of : Cal l.prog w (GG K C0 C2 C1 XA_Clash) mg base 1 "sizes_of" 1 [] F_sizes_of := (Cal.fn (PySem.W.mg_of X Gn a_sizes_of) Fu_sizes_of o_sizes_of (bd_sizes_of Fu_sizes_of)).isoC
  have o_ender := w_ender (P := l.prog) (w := w) (G := (GG K C0 C2 C1 XA_Clash)) (mg := mg) (base := base) gb_RING Fu_ender
  have c_ender : Cal l.prog w (GG K C0 C2 C1 XA_Clash) mg base 1 "ender" 1 [] F_ender := (Cal.fn (PySem.W.mg_of X Gn a_ender) Fu_ender o_ender (bd_ender Fu_ender)).isoC
  have o_safe_for := w_safe_for (P := l.prog) (w := w) (G := (GG K C0 C2 C1 XA_Clash)) (mg := mg) (base := base) z_sum c_Plan_parts c_sizes_of Fu_safe_for
  have c_safe_for : Cal l.prog w (GG K C0 C2 C1 XA_Clash) mg base 3 "safe_for" 2 [] F_safe_for := (Cal.fn (PySem.W.mg_of X Gn a_safe_for) Fu_safe_for o_safe_for (bd_safe_for Fu_safe_for)).isoC
  have o_worst_gone := w_worst_gone (P := l.prog) (w := w) (G := (GG K C0 C2 C1 XA_Clash)) (mg := mg) (base := base) z_len z_sorted c_Plan_parts c_as_set c_ender Fu_worst_gone
  have c_worst_gone : Cal l.prog w (GG K C0 C2 C1 XA_Clash) mg base 3 "worst_gone" 2 [] F_worst_gone := (Cal.fn (PySem.W.mg_of X Gn a_worst_gone) Fu_worst_gone o_worst_gone (bd_worst_gone Fu_worst_gone)).isoC
  have o_weak_ones := w_weak_ones (P := l.prog) (w := w) (G := (GG K C0 C2 C1 XA_Clash)) (mg := mg) (base := base) z_len z_max gb_RING c_Plan_parts c_as_set Fu_weak_ones
  have c_weak_ones : Cal l.prog w (GG K C0 C2 C1 XA_Clash) mg base 3 "weak_ones" 1 [] F_weak_ones := (Cal.fn (PySem.W.mg_of X Gn a_weak_ones) Fu_weak_ones o_weak_ones (bd_weak_ones Fu_weak_ones)).isoC
  have o_whole_parts := w_whole_parts (P := l.prog) (w := w) (G := (GG K C0 C2 C1 XA_Clash)) (mg := mg) (base := base) z_any c_Plan_parts Fu_whole_parts
  have c_whole_parts : Cal l.prog w (GG K C0 C2 C1 XA_Clash) mg base 3 "whole_parts" 2 [] F_whole_parts := (Cal.fn (PySem.W.mg_of X Gn a_whole_parts) Fu_whole_parts o_whole_parts (bd_whole_parts Fu_whole_parts)).isoC
  have o_rest_sheet := w_rest_sheet (P := l.prog) (w := w) (G := (GG K C0 C2 C1 XA_Clash)) (mg := mg) (base := base) z_list z_tuple gb_RING c_Sheet_init c_Sheet_checked c_Sheet_empties c_Sheet_names c_Sheet_wants c_as_set c_whole_parts Fu_rest_sheet
  have ck_rest_sheet_2_gone : Cal l.prog w (GG K C0 C2 C1 XA_Clash) mg base 11 "rest_sheet" 2 ["gone"] (kwF [0, 1, 2] [] F_rest_sheet) := Cal.kp (PySem.W.mg_of X Gn a_rest_sheet) o_rest_sheet.isoS Fu_rest_sheet [0, 1, 2] (fun _ _ _ _ _ us ws h1 h2 => match us, ws, h1, h2 with | [_, _], [_], _, _ => rfl)
  have o_most_repaired := w_most_repaired (P := l.prog) (w := w) (G := (GG K C0 C2 C1 XA_Clash)) (mg := mg) (base := base) z_sum ck_most_any_1_ ck_rest_sheet_2_gone c_sizes_of c_tupled c_whole_parts Fu_most_repaired
  have ck_most_repaired_2_gone : Cal l.prog w (GG K C0 C2 C1 XA_Clash) mg base 13 "most_repaired" 2 ["gone"] (kwF [0, 1, 2] [] F_most_repaired) := Cal.kp (PySem.W.mg_of X Gn a_most_repaired) o_most_repaired.isoS Fu_most_repaired [0, 1, 2] (fun _ _ _ _ _ us ws h1 h2 => match us, ws, h1, h2 with | [_, _], [_], _, _ => rfl)
  have o_old_home := w_old_home (P := l.prog) (w := w) (G := (GG K C0 C2 C1 XA_Clash)) (mg := mg) (base := base) c_Plan___call__ Fu_old_home
  have c_old_home : Cal l.prog w (GG K C0 C2 C1 XA_Clash) mg base 2 "old_home" 2 [] F_old_home := (Cal.fn (PySem.W.mg_of X Gn a_old_home) Fu_old_home o_old_home (bd_old_home Fu_old_home)).isoC
  have o_told_worths := w_told_worths (P := l.prog) (w := w) (G := (GG K C0 C2 C1 XA_Clash)) (mg := mg) (base := base) z_int z_len c_Sheet_init c_Sheet_names c_Sheet_wants c_old_home c_without Fu_told_worths
  have c_told_worths : Cal l.prog w (GG K C0 C2 C1 XA_Clash) mg base 12 "told_worths" 3 [] F_told_worths := (Cal.fn (PySem.W.mg_of X Gn a_told_worths) Fu_told_worths o_told_worths (bd_told_worths Fu_told_worths)).isoC
  have o_told_choice := w_told_choice (P := l.prog) (w := w) (G := (GG K C0 C2 C1 XA_Clash)) (mg := mg) (base := base) c_Choice_init c_Sheet_init c_Sheet_homes c_told_worths c_without Fu_told_choice
  have c_told_choice : Cal l.prog w (GG K C0 C2 C1 XA_Clash) mg base 13 "told_choice" 3 [] F_told_choice := (Cal.fn (PySem.W.mg_of X Gn a_told_choice) Fu_told_choice o_told_choice (bd_told_choice Fu_told_choice)).isoC
  have o_fewest_told := w_fewest_told (P := l.prog) (w := w) (G := (GG K C0 C2 C1 XA_Clash)) (mg := mg) (base := base) z_len c_Choice_place c_old_home c_told_choice c_told_worths Fu_fewest_told
  have ck_fewest_told_2_gone : Cal l.prog w (GG K C0 C2 C1 XA_Clash) mg base 14 "fewest_told" 2 ["gone"] (kwF [0, 1, 2] [] F_fewest_told) := Cal.kp (PySem.W.mg_of X Gn a_fewest_told) o_fewest_told.isoS Fu_fewest_told [0, 1, 2] (fun _ _ _ _ _ us ws h1 h2 => match us, ws, h1, h2 with | [_, _], [_], _, _ => rfl)
  have o__law_box := w__law_box (P := l.prog) (w := w) (G := (GG K C0 C2 C1 XA_Clash)) (mg := mg) (base := base) z_abs z_int z_len Fu__law_box
  have c__law_box : Cal l.prog w (GG K C0 C2 C1 XA_Clash) mg base 1 "_law_box" 2 [] F__law_box := (Cal.fn (PySem.W.mg_of X Gn a__law_box) Fu__law_box o__law_box (bd__law_box Fu__law_box))
  have o__law_take := w__law_take (P := l.prog) (w := w) (G := (GG K C0 C2 C1 XA_Clash)) (mg := mg) (base := base) z_int Fu__law_take
  have c__law_take : Cal l.prog w (GG K C0 C2 C1 XA_Clash) mg base 1 "_law_take" 2 [] F__law_take := (Cal.fn (PySem.W.mg_of X Gn a__law_take) Fu__law_take o__law_take (bd__law_take Fu__law_take)).viewC
  have o__law_cells := w__law_cells (P := l.prog) (w := w) (G := (GG K C0 C2 C1 XA_Clash)) (mg := mg) (base := base) z_enumerate z_int z_list Fu__law_cells
  have c__law_cells : Cal l.prog w (GG K C0 C2 C1 XA_Clash) mg base 1 "_law_cells" 2 [] F__law_cells := (Cal.fn (PySem.W.mg_of X Gn a__law_cells) Fu__law_cells o__law_cells (bd__law_cells Fu__law_cells)).isoC
  have c__law_same : ∀ n : Nat, Cal l.prog w (GG K C0 C2 C1 XA_Clash) mg base (0 + n) "_law_same" 2 [] (F__law_same n) := w__law_same z_all z_bool z_int z_isinstance z_len z_list z_str z_tuple z_zip Fu__law_same (PySem.W.mg_of X Gn a__law_same)
  have o__law_crew := w__law_crew (P := l.prog) (w := w) (G := (GG K C0 C2 C1 XA_Clash)) (mg := mg) (base := base)  Fu__law_crew
  have c__law_crew : Cal l.prog w (GG K C0 C2 C1 XA_Clash) mg base 1 "_law_crew" 1 [] F__law_crew := (Cal.fn (PySem.W.mg_of X Gn a__law_crew) Fu__law_crew o__law_crew (bd__law_crew Fu__law_crew)).isoC
  have o__law_row_right := w__law_row_right (P := l.prog) (w := w) (G := (GG K C0 C2 C1 XA_Clash)) (mg := mg) (base := base) z_range z_tuple c_Plan_of c__law_crew c__law_same ck_fewest_told_2_gone ck_most_repaired_2_gone c_safe_for c_weak_ones c_worst_gone Fu__law_row_right
  have c__law_row_right : Cal l.prog w (GG K C0 C2 C1 XA_Clash) mg base 15 "_law_row_right" 1 [] F__law_row_right := (Cal.fn (PySem.W.mg_of X Gn a__law_row_right) Fu__law_row_right o__law_row_right (bd__law_row_right Fu__law_row_right)).isoC
  have o__law_ring_right := w__law_ring_right (P := l.prog) (w := w) (G := (GG K C0 C2 C1 XA_Clash)) (mg := mg) (base := base) z_int z_range z_tuple c_Plan_of c__law_crew c__law_same ck_fewest_told_2_gone ck_most_repaired_2_gone c_safe_for c_weak_ones c_worst_gone Fu__law_ring_right
  have c__law_ring_right : Cal l.prog w (GG K C0 C2 C1 XA_Clash) mg base 15 "_law_ring_right" 2 [] F__law_ring_right := (Cal.fn (PySem.W.mg_of X Gn a__law_ring_right) Fu__law_ring_right o__law_ring_right (bd__law_ring_right Fu__law_ring_right)).isoC
  have o__law_right := w__law_right (P := l.prog) (w := w) (G := (GG K C0 C2 C1 XA_Clash)) (mg := mg) (base := base) c__law_ring_right c__law_row_right c__law_take Fu__law_right
  have c__law_right : Cal l.prog w (GG K C0 C2 C1 XA_Clash) mg base 16 "_law_right" 1 [] F__law_right := (Cal.fn (PySem.W.mg_of X Gn a__law_right) Fu__law_right o__law_right (bd__law_right Fu__law_right)).viewC
  exact law_ok (w_law z_len z_range c__law_box c__law_cells c__law_right Fu_law) hT
end K73
/-! Hn1: what the shared helpers compute. -/
namespace Hn
open PySem PySem.Spec PyProof.Rows L2 Sm

/-- the urn, with room for m drawings more -/
def Urn (o : Bo) (m : Nat) : Prop := ∃ a b c : Int, o = .lst [.d (.int a), .d (.int b), .d (.int c)] ∧ 0 ≤ a ∧ 0 ≤ b ∧ b < 2 ^ 62 ∧ 0 ≤ c ∧ c + m < 2 ^ 40
theorem Urn.pure {o : Bo} {m : Nat} (u : Urn o m) : pureB o = true := by
  obtain ⟨a, b, c, rfl, _⟩ := u
  rfl
theorem Urn.less {o : Bo} {m k : Nat} (u : Urn o m) (h : k ≤ m) : Urn o k := by
  obtain ⟨a, b, c, e, h1, h2, h3, h4, h5⟩ := u
  exact ⟨a, b, c, e, h1, h2, h3, h4, by omega⟩
theorem small_mul {i j : Int} (h : -(2 ^ 64) < j ∧ j < 2 ^ 64) : mulOk i j = true := by
  unfold mulOk smallI
  simp only [Bool.or_eq_true, decide_eq_true_eq]
  exact .inl (.inr h)
theorem small_mul' {i j : Int} (h : -(2 ^ 64) < i ∧ i < 2 ^ 64) : mulOk i j = true := by
  unfold mulOk smallI
  simp only [Bool.or_eq_true, decide_eq_true_eq]
  exact .inl (.inl h)
theorem small_div {j : Int} (h : 0 < j) (h2 : j < 1073741824) : divOk j = true := by
  unfold divOk
  simp [h, h2]
/-- a drawing: from the box itself -/
theorem take_raw {o : Bo} {m : Nat} {low : Int} (u : Urn o (m + 1)) (h0 : 0 < low) (h1 : low < 1000000) : ∃ (r : Int) (o' : Bo), R__law_take [.loc 0, .d (.int low)] [o] = .ok (.d (.int r)) [o'] ∧ 0 ≤ r ∧ r < low ∧ Urn o' m := by
  obtain ⟨a, b, c, rfl, ha, hb, hb2, hc, hm⟩ := u
  unfold R__law_take runB b__law_take
  by_cases h : 0 < a
  · refine ⟨a % low, .lst [.d (.int (a / low)), .d (.int b), .d (.int c)], ?_, Int.emod_nonneg _ (by omega), Int.emod_lt_of_pos _ h0, a / low, b, c, rfl, Int.ediv_nonneg ha (by omega), hb, hb2, hc, by omega⟩
    simp [sSeq, sqz, sIf, sSet, sSub, sRet, mTst, m2, mN, mV, mC, aCons, aNil, Rz.to, Rz.bind, pIx, pGt, pCmp, pInt, pMod, pDiv, dctAt, seqAt, lstAt, toB, li, lift, Sm.lift, atI, ixN, h, h0, small_div h0 (by omega), stSub, oz]
  · have e1 : mulOk 48271 (c + 1) = true := small_mul' (by omega)
    have e2 : mulOk (b + 48271 * (c + 1)) (39373 + (c + 1)) = true := small_mul (by omega)
    generalize hv : (b + 48271 * (c + 1)) * (39373 + (c + 1)) % 2147483647 = v at *
    have hv0 : 0 ≤ v := by
      rw [← hv]
      exact Int.emod_nonneg _ (by omega)
    have hv1 : v < 2147483647 := by
      rw [← hv]
      exact Int.emod_lt_of_pos _ (by omega)
    have e3 : mulOk (v + (c + 1) + b / 1000003) (v % 40009 + 7) = true := small_mul (by omega)
    generalize hw : (v + (c + 1) + b / 1000003) * (v % 40009 + 7) % 2147483629 = x at *
    have hw0 : 0 ≤ x := by
      rw [← hw]
      exact Int.emod_nonneg _ (by omega)
    have hw1 : x < 2147483629 := by
      rw [← hw]
      exact Int.emod_lt_of_pos _ (by omega)
    have e4 : mulOk x 48271 = true := small_mul (by omega)
    have e5 : divOk 1000003 = true := by decide
    have e6 : divOk 64 = true := by decide
    refine ⟨(x * 48271 + v) % 2147483587 / 64 % low, .lst [.d (.int a), .d (.int b), .d (.int (c + 1))], ?_, Int.emod_nonneg _ (by omega), Int.emod_lt_of_pos _ h0, a, b, c + 1, rfl, ha, hb, hb2, by omega, by omega⟩
    simp [sSeq, sqz, sIf, sSet, sSub, sRet, sNil, mTst, m2, mN, mV, mC, aCons, aNil, Rz.to, Rz.bind, pIx, pGt, pCmp, pInt, pMod, pDiv, pAdd, pMul, dctAt, seqAt, lstAt, toB, li, lift, Sm.lift, atI, ixN, h, h0, e1, e2, e3, e4, e5, e6, hv, hw, stSub, oz]
end Hn
/-! Hn2: take in any store, few, mixed. -/
namespace Hn
open PySem PySem.Spec PyProof.Rows L2 Sm
@[simp] theorem pures_d : ∀ ts : List Dt, pures (ts.map Dv.d) = some ts
  | [] => rfl
  | t :: ts => by
    show (pures (ts.map Dv.d)).map (t :: ·) = _
    rw [pures_d ts]
    rfl
theorem view_ok {F : FM} {ts : List Dt} {n : Nat} {S : Sto} {o o' : Bo} {r : Dt} {rest : Sto} (hS : S[n]? = some o) (hp : pureB o = true) (hF : F (.loc 0 :: ts.map .d) [o] = .ok (.d r) (o' :: rest)) (hp' : pureB o' = true) : view F (.loc n :: ts.map .d) S = .ok (.d r) (S.set n o') := by
  show (match pures (ts.map Dv.d), S[n]? with
    | some _, some o => if pureB o = true then (match F (.loc 0 :: ts.map .d) [o] with
      | .ok (.d t) (o' :: _) => if pureB o' = true then Rz.ok (Dv.d t) (S.set n o') else .bad
      | .er c t (o' :: _) => if pureB o' = true then .er c t (S.set n o') else .bad
      | _ => .bad) else .bad
    | _, _ => .bad) = _
  rw [pures_d, hS]
  simp [hp, hF, hp']
theorem iso_ok {F : FM} {ts : List Dt} {S S' : Sto} {r : Dt} (hF : F (ts.map .d) [] = .ok (.d r) S') : iso F (ts.map .d) S = .ok (.d r) S := by
  show (match pures (ts.map Dv.d) with
    | some _ => (match F (ts.map .d) [] with
      | .ok (.d t) _ => Rz.ok (Dv.d t) S
      | .er c t _ => .er c t S
      | _ => .bad)
    | none => .bad) = _
  rw [pures_d, hF]
theorem runB_rt {n p : Nat} {b : SM} {ds : List Dv} {S S' : Sto} {d : Dv} (hl : ds.length = p) (hb : b (ds.map some ++ List.replicate (n - p) none) S = .rt d S') : runB n p b ds S = .ok d S' := by
  unfold runB
  rw [if_pos hl, hb]
theorem take_ok {S : Sto} {n : Nat} {o : Bo} {m : Nat} {low : Int} (hS : S[n]? = some o) (u : Urn o (m + 1)) (h0 : 0 < low) (h1 : low < 1000000) : ∃ (r : Int) (o' : Bo), F__law_take [.loc n, .d (.int low)] S = .ok (.d (.int r)) (S.set n o') ∧ 0 ≤ r ∧ r < low ∧ Urn o' m := by
  obtain ⟨r, o', e, a, b, u'⟩ := take_raw u h0 h1
  exact ⟨r, o', view_ok (ts := [.int low]) hS u.pure e u'.pure, a, b, u'⟩
theorem rgOk0 {j : Int} (h0 : 0 ≤ j) (h1 : j < 16777216) : rgOk 0 j = true := decide_eq_true ⟨by omega, by omega, by omega, by omega⟩
theorem iRg_ok {f : List Dv → Option (List Dt)} {as : M (List Dv)} {ρ : Sm.Env} {S S1 : Sto} {ds : List Dv} {ts : List Dt} (h1 : as ρ S = .ok ds S1) (h2 : f ds = some ts) : iRg f as ρ S = .ok ts S1 := by
  show (as ρ S).bind (fun ds S1 => li (f ds) S1) = _
  rw [h1, bind_ok, h2, li_some]
theorem q_rg {n : Nat} (h : n < 1000) : rg1 [.d (.int (n : Int))] = some (rgL 0 n) := by
  show (if rgOk 0 (n : Int) = true then some (rgL 0 (n : Int).toNat) else none) = _
  rw [if_pos (rgOk0 (by omega) (by omega)), Int.toNat_natCast]
end Hn
/-! Hn3: cells. -/
namespace Hn
open PySem PySem.Spec PyProof.Rows L2 Sm
/-- ints as data -/
def dI (l : List Int) : List Dt := l.map .int
def dvI (l : List Int) : List Dv := l.map fun i => .d (.int i)
theorem dvI_get {l : List Int} {j : Nat} (h : j < l.length) : (dvI l)[j]? = some (.d (.int l[j])) := by
  unfold dvI
  rw [List.getElem?_map, List.getElem?_eq_getElem h]
  rfl
theorem dvI_len {l : List Int} : (dvI l).length = l.length := by
  unfold dvI
  simp
theorem dvI_set {l : List Int} {j : Nat} {x : Int} : (dvI l).set j (.d (.int x)) = dvI (l.set j x) := by
  unfold dvI
  rw [List.map_set]
theorem ixN_at {n : Nat} {x : Int} (h0 : 0 ≤ x) (h1 : x < n) : ixN n x = some x.toNat := by
  unfold ixN
  rw [if_pos h0, if_pos h1]
def cBody : SM := sSeq (sSet 5 (m2 pMod (mN pInt (aCons (mV 3) (aNil))) (mV 1))) (sSub (mV 2) (mV 5) (m2 pAdd (m2 pIx (mV 2) (mV 5)) (m2 pMul (mV 4) (m2 pAdd (mV 3) (mC (.int 2))))))
theorem cells_turn {P : Dt} {l : List Int} {i c : Int} {z : Option Dv} (hl : l.length = 3) (h0 : 0 ≤ i) (h1 : i < 2 ^ 40) : ∃ (l' : List Int) (z' : Option Dv), cBody [some (.d P), some (.d (.int 3)), some (.loc 0), some (.d (.int i)), some (.d (.int c)), z] [.lst (dvI l)] = .nx [some (.d P), some (.d (.int 3)), some (.loc 0), some (.d (.int i)), some (.d (.int c)), z'] [.lst (dvI l')] ∧ l'.length = 3 := by
  have m0 : 0 ≤ i % 3 := Int.emod_nonneg _ (by omega)
  have m1' : i % 3 < 3 := Int.emod_lt_of_pos _ (by omega)
  have hj : (i % 3).toNat < l.length := by omega
  have hm : mulOk c (i + 2) = true := small_mul (by omega)
  have hix : ixN (dvI l).length (i % 3) = some (i % 3).toNat := ixN_at m0 (by rw [dvI_len, hl]; exact m1')
  have hat : atI (dvI l) (i % 3) = some (.d (.int l[(i % 3).toNat])) := by
    unfold atI
    rw [hix]
    exact dvI_get hj
  refine ⟨l.set (i % 3).toNat (l[(i % 3).toNat] + c * (i + 2)), some (.d (.int (i % 3))), ?_, by rw [List.length_set]; exact hl⟩
  unfold cBody
  simp [pInt, pMod, pAdd, pMul, hm, pIx, dctAt, seqAt, lstAt, hat, stSub, hix, dvI_set]
theorem cells_loop {P : Dt} : ∀ (ts : List Dt), (∀ t ∈ ts, ∃ i c : Int, t = .tup [.int i, .int c] ∧ 0 ≤ i ∧ i < 2 ^ 40) → ∀ (l : List Int) (z3 z4 z5 : Option Dv), l.length = 3 →
    ∃ (l' : List Int) (z3' z4' z5' : Option Dv), forL (gT (gsCons (gN 3) (gsCons (gN 4) (gsNil)))) cBody ts [some (.d P), some (.d (.int 3)), some (.loc 0), z3, z4, z5] [.lst (dvI l)] = .nx [some (.d P), some (.d (.int 3)), some (.loc 0), z3', z4', z5'] [.lst (dvI l')] ∧ l'.length = 3
  | [], _, l, z3, z4, z5, hl => ⟨l, z3, z4, z5, rfl, hl⟩
  | t :: ts, h, l, z3, z4, z5, hl => by
    obtain ⟨i, c, rfl, h0, h1⟩ := h t List.mem_cons_self
    obtain ⟨l1, z1, e1, hl1⟩ := cells_turn (P := P) (l := l) (c := c) (z := z5) hl h0 h1
    obtain ⟨l2, a, b, d, e2, hl2⟩ := cells_loop ts (fun t ht => h t (List.mem_cons_of_mem _ ht)) l1 (some (.d (.int i))) (some (.d (.int c))) z1 hl1
    refine ⟨l2, a, b, d, ?_, hl2⟩
    unfold forL
    show (match cBody [some (.d P), some (.d (.int 3)), some (.loc 0), some (.d (.int i)), some (.d (.int c)), z5] [.lst (dvI l)] with
      | .nx ρ2 S2 => forL (gT (gsCons (gN 3) (gsCons (gN 4) (gsNil)))) cBody ts ρ2 S2
      | .ct ρ2 S2 => forL (gT (gsCons (gN 3) (gsCons (gN 4) (gsNil)))) cBody ts ρ2 S2
      | .bk ρ2 S2 => .nx ρ2 S2
      | r => r) = _
    rw [e1]
    exact e2
theorem enL_mem {ns : List Int} (hz : ns.length < 1000) : ∀ t ∈ enL (dI ns), ∃ i c : Int, t = .tup [.int i, .int c] ∧ 0 ≤ i ∧ i < 2 ^ 40 := fun t ht => by
  unfold enL at ht
  obtain ⟨j, hj, e⟩ := List.mem_filterMap.mp ht
  have hj' := List.mem_range.mp hj
  unfold dI at hj' e
  rw [List.length_map] at hj'
  rw [List.getElem?_map, List.getElem?_eq_getElem hj'] at e
  cases e
  exact ⟨j, ns[j], rfl, by omega, by omega⟩
theorem cut0 {xs : List Dt} {k : Nat} : cutL xs none (some (k : Int)) = xs.take k := by
  unfold cutL
  rw [HT.sIx_none, HT.sIx_nat, List.drop_zero, Nat.sub_zero, ← List.take_eq_take_min]
theorem cut1 {xs : List Dt} {k n : Nat} : ∃ a b : Nat, cutL xs (some (k : Int)) (some (n : Int)) = (xs.drop a).take b ∧ (xs.length ≤ k → (xs.drop a).take b = []) := by
  refine ⟨min k xs.length, min n xs.length - min k xs.length, ?_, fun h => ?_⟩
  · unfold cutL
    rw [HT.sIx_nat, HT.sIx_nat]
  · rw [Nat.min_eq_right h, List.drop_length]
    simp
end Hn
/-! Hn4: cells, whole. -/
namespace Hn
open PySem PySem.Spec PyProof.Rows L2 Sm
def cSlice : M (List Dt) := iRg en1 (aCons (mSl pSl (mV 0) (oPt (mV 1)) (oPt (mC (.int 63)))) (aNil))
theorem cells_it {ns : List Int} {z : Option Dv} {S : Sto} : ∃ ms : List Int, cSlice [some (.d (.scr (dI ns))), some (.d (.int 3)), z, none, none, none] S = .ok (enL (dI ms)) S ∧ ms.length ≤ ns.length ∧ (ns.length ≤ 3 → ms = []) := by
  obtain ⟨a, b, e, he⟩ := cut1 (xs := dI ns) (k := 3) (n := 63)
  refine ⟨(ns.drop a).take b, ?_, ?_, fun h => ?_⟩
  · refine iRg_ok (ds := [.d (.lst (dI ((ns.drop a).take b)))]) ?_ rfl
    have e' : pSl (some 3) (some 63) (.d (.scr (dI ns))) S = some (.d (.lst (dI ((ns.drop a).take b))), S) := by
      have : cutL (dI ns) (some (3 : Int)) (some (63 : Int)) = dI ((ns.drop a).take b) := by
        refine e.trans ?_
        unfold dI
        rw [List.map_take, List.map_drop]
      show some (Dv.d (.lst (cutL (dI ns) (some 3) (some 63))), S) = _
      rw [this]
    simp only [aCons_s, mSl_s, mV_s, mC_s, oPt_s, aNil_s, List.getElem?_cons_zero, List.getElem?_cons_succ, bind_ok, e', Sm.lift_some]
  · rw [List.length_take, List.length_drop]
    omega
  · have := he (by unfold dI; rw [List.length_map]; exact h)
    unfold dI at this
    rw [← List.map_drop, ← List.map_take] at this
    exact List.map_eq_nil_iff.mp this
def cHead : M Dv := mOrT pTru (mN pListB (aCons (mSl pSl (mV 0) (oNo) (oPt (mV 1))) (aNil))) (mN pLstB (aCons (mC (.int 0)) (aNil)))
theorem dI_d (l : List Int) : (dI l).map Dv.d = dvI l := by
  unfold dI dvI
  rw [List.map_map]
  rfl
theorem cells_head (ns : List Int) : cHead [some (.d (.scr (dI ns))), some (.d (.int 3)), none, none, none, none] [] = (if ns = [] then .ok (.loc 1) [.lst [], .lst (dvI [0])] else .ok (.loc 0) [.lst (dvI (ns.take 3))]) := by
  have e' : pSl none (some 3) (.d (.scr (dI ns))) [] = some (.d (.lst (dI (ns.take 3))), []) := by
    have : cutL (dI ns) none (some (3 : Int)) = dI (ns.take 3) := by
      refine (cut0 (xs := dI ns) (k := 3)).trans ?_
      unfold dI
      rw [List.map_take]
    show some (Dv.d (.lst (cutL (dI ns) none (some 3))), ([] : Sto)) = _
    rw [this]
  have p1 : pListB [.d (.lst (dI (ns.take 3)))] [] = some (.loc 0, [.lst (dvI (ns.take 3))]) := by
    have : itemsOf [] (.d (.lst (dI (ns.take 3)))) = some (dI (ns.take 3)) := by
      simp [itemsOf, dctAt, seqAt, lstAt]
    show (match itemsOf [] (.d (.lst (dI (ns.take 3)))) with
      | some ts => some (Dv.loc ([] : Sto).length, ([] : Sto) ++ [Bo.lst (ts.map Dv.d)])
      | none => none) = _
    rw [this]
    simp only [dI_d]
    rfl
  have t1 : pTru (.loc 0) [.lst (dvI (ns.take 3))] = some (!(dvI (ns.take 3)).isEmpty) := rfl
  unfold cHead
  simp only [mOrT_s, mN_s, aCons_s, mSl_s, mV_s, oNo_s, oPt_s, aNil_s, List.getElem?_cons_zero, List.getElem?_cons_succ, bind_ok, e', Sm.lift_some, p1, t1, li_some]
  cases ns with
  | nil => rfl
  | cons a r => rfl
theorem frz_dvI {l : List Int} {S : Sto} {n : Nat} (h : S[n]? = some (.lst (dvI l))) : frz (.loc n) S = some (.d (.lst (dI l)), S.set n .dead) := by
  unfold frz
  simp only [h, ← dI_d, pures_d]
theorem cells_ok {ns : List Int} (hz : ns.length ≤ 63) {S : Sto} : ∃ cs : List Int, F__law_cells [.d (.scr (dI ns)), .d (.int 3)] S = .ok (.d (.lst (dI cs))) S ∧ cs.length ≤ 3 := by
  have go : ∃ (cs : List Int) (S' : Sto), b__law_cells [some (.d (.scr (dI ns))), some (.d (.int 3)), none, none, none, none] [] = .rt (.d (.lst (dI cs))) S' ∧ cs.length ≤ 3 := by
    have hb : b__law_cells = sSeq (sSet 2 cHead) (sSeq (sFor cSlice (gT (gsCons (gN 3) (gsCons (gN 4) (gsNil)))) cBody) (sRet (mFrz (mV 2)))) := rfl
    rw [hb, sSeq_s, sSet_s, cells_head]
    by_cases h : ns = []
    · rw [if_pos h, to_ok, sqz_nx, sSeq_s, sFor_s]
      obtain ⟨ms, e, _, e0⟩ := cells_it (ns := ns) (z := some (.loc 1)) (S := [.lst [], .lst (dvI [0])])
      have hms := e0 (by rw [h]; exact Nat.zero_le _)
      subst hms
      show ∃ (cs : List Int) (S' : Sto), sqz ((cSlice [some (.d (.scr (dI ns))), some (.d (.int 3)), some (.loc 1), none, none, none] [.lst [], .lst (dvI [0])]).to _ _) _ = .rt (.d (.lst (dI cs))) S' ∧ cs.length ≤ 3
      rw [e]
      exact ⟨[0], _, rfl, by decide⟩
    · rw [if_neg h, to_ok, sqz_nx, sSeq_s, sFor_s]
      obtain ⟨ms, e, hm, e0⟩ := cells_it (ns := ns) (z := some (.loc 0)) (S := [.lst (dvI (ns.take 3))])
      show ∃ (cs : List Int) (S' : Sto), sqz ((cSlice [some (.d (.scr (dI ns))), some (.d (.int 3)), some (.loc 0), none, none, none] [.lst (dvI (ns.take 3))]).to _ _) _ = .rt (.d (.lst (dI cs))) S' ∧ cs.length ≤ 3
      rw [e, to_ok]
      show ∃ (cs : List Int) (S' : Sto), sqz (forL (gT (gsCons (gN 3) (gsCons (gN 4) (gsNil)))) cBody (enL (dI ms)) [some (.d (.scr (dI ns))), some (.d (.int 3)), some (.loc 0), none, none, none] [.lst (dvI (ns.take 3))]) (sRet (mFrz (mV 2))) = .rt (.d (.lst (dI cs))) S' ∧ cs.length ≤ 3
      by_cases h3 : ns.length ≤ 3
      · have hms := e0 h3
        subst hms
        refine ⟨ns.take 3, [.dead], ?_, by rw [List.length_take]; omega⟩
        show sRet (mFrz (mV 2)) [some (.d (.scr (dI ns))), some (.d (.int 3)), some (.loc 0), none, none, none] [.lst (dvI (ns.take 3))] = _
        simp only [sRet_s, mFrz_s, mV_s, List.getElem?_cons_zero, List.getElem?_cons_succ, bind_ok, frz_dvI (S := [.lst (dvI (ns.take 3))]) (n := 0) rfl, Sm.lift_some, to_ok]
        rfl
      · obtain ⟨l', a, b, d, e2, hl'⟩ := cells_loop (P := .scr (dI ns)) (enL (dI ms)) (enL_mem (by omega)) (ns.take 3) none none none (by rw [List.length_take]; omega)
        rw [e2, sqz_nx]
        refine ⟨l', [.dead], ?_, by omega⟩
        simp only [sRet_s, mFrz_s, mV_s, List.getElem?_cons_zero, List.getElem?_cons_succ, bind_ok, frz_dvI (S := [.lst (dvI l')]) (n := 0) rfl, Sm.lift_some, to_ok]
        rfl
  obtain ⟨cs, S', e, hc⟩ := go
  exact ⟨cs, iso_ok (ts := [.scr (dI ns), .int 3]) (runB_rt (ds := [.d (.scr (dI ns)), .d (.int 3)]) rfl e), hc⟩
end Hn
/-! Hn5: nested texts, tupled, lists. -/
namespace Hn
open PySem PySem.Spec PyProof.Rows L2 Sm
/-- texts in lists and tuples, of nesting at most n -/
def Tx : Nat → Dt → Prop
  | 0, t => ∃ s, PyData.strOk s = true ∧ t = .str s
  | n + 1, t => (∃ s, PyData.strOk s = true ∧ t = .str s) ∨ ∃ xs, (t = .tup xs ∨ t = .lst xs) ∧ xs.length ≤ 1000 ∧ ∀ x ∈ xs, Tx n x
theorem Tx.up : ∀ {n : Nat} {t : Dt}, Tx n t → Tx (n + 1) t
  | 0, t, h => .inl h
  | n + 1, t, .inl h => .inl h
  | n + 1, t, .inr ⟨xs, h, hz, hx⟩ => .inr ⟨xs, h, hz, fun x m => (hx x m).up⟩
mutual
/-- all lists made tuples -/
def tp : Dt → Dt
  | .tup xs => .tup (tps xs)
  | .lst xs => .tup (tps xs)
  | t => t
def tps : List Dt → List Dt
  | [] => []
  | x :: xs => tp x :: tps xs
end
mutual
/-- all tuples made lists -/
def tl : Dt → Dt
  | .tup xs => .lst (tls xs)
  | .lst xs => .lst (tls xs)
  | t => t
def tls : List Dt → List Dt
  | [] => []
  | x :: xs => tl x :: tls xs
end
theorem tls_len : ∀ xs : List Dt, (tls xs).length = xs.length
  | [] => rfl
  | x :: xs => by
    show (tls xs).length + 1 = xs.length + 1
    rw [tls_len xs]
/-- a comprehension that turns each item by F -/
theorem map_loop {F : FM} {f : Dt → Dt} {P : Dt} : ∀ (xs : List Dt), (∀ x ∈ xs, ∀ S, F [.d x] S = .ok (.d (f x)) S) → ∀ S : Sto, lcL (gN 1) cYes (mF F (aCons (mV 1) (aNil))) [some (.d P), none] xs S = .ok ((xs.map f).map .d) S
  | [], _, S => rfl
  | x :: xs, h, S => by
    show bz (some ([some (Dv.d P), some (Dv.d x)] : Sm.Env)) _ = _
    simp only [bz_some, cYes_s, nox_ok, bind_ok, if_true, mF_s, aCons_s, mV_s, aNil_s, List.getElem?_cons_zero, List.getElem?_cons_succ, h x List.mem_cons_self S, map_loop xs (fun y hy => h y (List.mem_cons_of_mem _ hy)) S]
    rfl
theorem pLst_d {ts : List Dt} {S : Sto} (h : ts.length ≤ 16777216) : pLst (ts.map .d) S = some (.d (.lst ts), S) := by
  unfold pLst
  rw [pures_d]
  exact if_pos h
theorem pTuple_lst {ts : List Dt} {S : Sto} : pTuple [.d (.lst ts)] S = some (.d (.tup ts), S) := by
  simp [pTuple, dctAt, lstT, lstAt]
theorem comp_ok {F : FM} {f : Dt → Dt} {P : Dt} {xs : List Dt} (hP : seqOf (.d P) = some xs) (hz : xs.length ≤ 1000) (h : ∀ x ∈ xs, ∀ S, F [.d x] S = .ok (.d (f x)) S) (S : Sto) : mN pLst (mLcI [1] (iSeq (mV 0)) (gN 1) cYes (mF F (aCons (mV 1) (aNil)))) [some (.d P), none] S = .ok (.d (.lst (xs.map f))) S := by
  have h1 : mLcI [1] (iSeq (mV 0)) (gN 1) cYes (mF F (aCons (mV 1) (aNil))) [some (.d P), none] S = .ok ((xs.map f).map .d) S := by
    rw [mLcI_s, iSeq_s, mV_s]
    show ((li (seqOf (.d P)) S).bind fun ts S1 => if ts.length ≤ 16777216 then _ else _) = _
    rw [hP, li_some, bind_ok, if_pos (by omega)]
    exact map_loop xs h S
  rw [mN_s, h1, bind_ok, pLst_d (by rw [List.length_map]; omega), Sm.lift_some]
theorem tps_map : ∀ xs : List Dt, tps xs = xs.map tp
  | [] => rfl
  | x :: xs => by
    show tp x :: tps xs = tp x :: xs.map tp
    rw [tps_map xs]
theorem tls_map : ∀ xs : List Dt, tls xs = xs.map tl
  | [] => rfl
  | x :: xs => by
    show tl x :: tls xs = tl x :: xs.map tl
    rw [tls_map xs]
theorem isa_seq {t : Dt} {xs : List Dt} {S : Sto} (h : t = .tup xs ∨ t = .lst xs) : pIsa ["list", "tuple"] (.d t) S = some (.d (.bl true), S) := by
  rcases h with rfl | rfl <;> rfl
theorem tupled_ok : ∀ (n : Nat) (t : Dt) (S : Sto), Tx n t → F_tupled (n + 1) [.d t] S = .ok (.d (tp t)) S := by
  have str : ∀ (n : Nat) (s : Str) (S : Sto), F_tupled (n + 1) [.d (.str s)] S = .ok (.d (tp (.str s))) S := fun n s S => iso_ok (ts := [.str s]) (S' := []) rfl
  have seq : ∀ (n : Nat) (t : Dt) (xs : List Dt) (S : Sto), (t = .tup xs ∨ t = .lst xs) → xs.length ≤ 1000 → (∀ x ∈ xs, ∀ S, F_tupled n [.d x] S = .ok (.d (tp x)) S) → F_tupled (n + 1) [.d t] S = .ok (.d (tp t)) S := fun n t xs S ht hz hx => by
    have hP : seqOf (.d t) = some xs := by rcases ht with rfl | rfl <;> rfl
    have e := comp_ok (P := t) hP hz hx []
    have et : tp t = .tup (xs.map tp) := by
      rw [← tps_map]
      rcases ht with rfl | rfl <;> rfl
    refine iso_ok (ts := [t]) (S' := []) (runB_rt (ds := [.d t]) rfl ?_)
    show b_tupled (F_tupled n) [some (.d t), none] [] = _
    unfold b_tupled
    have c : mTru pTru (m1 (pIsa ["list", "tuple"]) (mV 0)) [some (.d t), none] [] = .ok true [] := by
      simp only [mTru_s, m1_s, mV_s, List.getElem?_cons_zero, bind_ok, isa_seq ht, Sm.lift_some]
      rfl
    rw [sRet_s, mIf_s, c, bind_ok, if_pos rfl, mN_s, aCons_s, e, bind_ok, aNil_s, bind_ok, bind_ok, et, pTuple_lst]
    rfl
  intro n
  induction n with
  | zero =>
    intro t S h
    obtain ⟨s, hs, rfl⟩ := h
    exact str 0 s S
  | succ n ih =>
    intro t S h
    rcases h with ⟨s, hs, rfl⟩ | ⟨xs, ht, hz, hx⟩
    · exact str (n + 1) s S
    · exact seq (n + 1) t xs S ht hz fun x m S => ih x S (hx x m)
end Hn
/-! Hn6: same. -/
namespace Hn
open PySem PySem.Spec PyProof.Rows L2 Sm
end Hn
/-! Hn7: dicts of distinct texts. -/
namespace Hn
open PySem PySem.Spec PyProof.Rows L2 Sm
abbrev kS (l : List Str) : List Key := l.map Sum.inr
end Hn
/-! Hn8: turns of lists of texts that are sorted. -/
namespace Hn
open PySem PySem.Spec PyProof.Rows L2 Sm
theorem alike_strs : ∀ a b : Str, PySem.W.alike (encT (.str a)) (encT (.str b)) = true := fun a b => by
  show PySem.W.alike (.str a) (.str b) = true
  simp only [PySem.W.alike]
theorem sortChk_strs {l : List Str} (h : l.length ≤ 1000) : sortChk (l.map .str) = true := by
  unfold sortChk
  simp only [Bool.and_eq_true, decide_eq_true_eq, Bool.or_eq_true, List.all_eq_true]
  refine ⟨⟨⟨fun t ht => ?_, fun t ht u hu => ?_⟩, .inr (.inl fun t ht => ?_)⟩, by rw [List.length_map]; omega⟩
  · obtain ⟨a, _, rfl⟩ := List.mem_map.mp ht
    refine ⟨rfl, ?_⟩
    show PyData.depth (.str a) ≤ 60
    simp only [PyData.depth]
    omega
  · obtain ⟨a, _, rfl⟩ := List.mem_map.mp ht
    obtain ⟨b, _, rfl⟩ := List.mem_map.mp hu
    exact alike_strs a b
  · obtain ⟨a, _, rfl⟩ := List.mem_map.mp ht
    rfl
theorem seqT_lst {ts : List Dt} {S : Sto} : seqT S (.d (.lst ts)) = some ts := by
  unfold seqT seqAt lstAt
  simp
end Hn
/-! Hn9: rows of a sheet, sorted. -/
namespace Hn
open PySem PySem.Spec PyProof.Rows L2 Sm
def row (e : Str × List Str) : Dt := .tup [.str e.1, .tup (e.2.map .str)]
theorem toPys_strs : ∀ l : List Str, toPys (l.map .str) = some (l.map PyData.str)
  | [] => rfl
  | a :: l => by
    show (match toPy (.str a), toPys (l.map .str) with
      | some a, some b => some (a :: b)
      | _, _ => none) = _
    rw [toPys_strs l]
    rfl
end Hn
/-! Hn10: nested texts compare equal to themselves. -/
namespace Hn
open PySem PySem.Spec PyProof.Rows L2 Sm
theorem Tx.tl : ∀ {n : Nat} {t : Dt}, Tx n t → Tx n (tl t)
  | 0, t, h => by
    obtain ⟨s, hs, rfl⟩ := h
    exact ⟨s, hs, rfl⟩
  | n + 1, t, h => by
    rcases h with ⟨s, hs, rfl⟩ | ⟨xs, ht, hz, hx⟩
    · exact .inl ⟨s, hs, rfl⟩
    · refine .inr ⟨tls xs, ?_, by rw [tls_len]; exact hz, fun y hy => ?_⟩
      · rcases ht with rfl | rfl <;> exact .inr rfl
      · rw [tls_map] at hy
        obtain ⟨x, hm, rfl⟩ := List.mem_map.mp hy
        exact (hx x hm).tl
end Hn
/-! Hn11: small steps that many loops need. -/
namespace Hn
open PySem PySem.Spec PyProof.Rows L2 Sm
theorem dlook_at {α : Type} {f : Nat → α} : ∀ {l : List Str} {i a : Nat} {s : Str}, l.Nodup → l[i]? = some s → dlook (kS l) ((List.range' a l.length).map f) (.inr s) = some (f (a + i))
  | [], i, a, s, _, h => by simp at h
  | x :: l, 0, a, s, nd, h => by
    simp at h
    subst h
    show (if (Sum.inr x : Key) = .inr x then some (f a) else _) = _
    rw [if_pos rfl]
    rfl
  | x :: l, i + 1, a, s, nd, h => by
    have h' : l[i]? = some s := by simpa using h
    obtain ⟨n1, n2⟩ := List.nodup_cons.mp nd
    have hne : ¬ (Sum.inr x : Key) = .inr s := fun z => by
      cases z
      exact n1 (List.mem_of_getElem? h')
    show (if (Sum.inr x : Key) = .inr s then _ else dlook (kS l) ((List.range' (a + 1) l.length).map f) (.inr s)) = _
    rw [if_neg hne, dlook_at n2 h']
    congr 1
    congr 1
    omega
theorem forL_nx {g : GM} {b : SM} {t : Dt} {ts : List Dt} {ρ ρ1 ρ2 : Sm.Env} {S S2 : Sto} (hg : g (.d t) ρ = some ρ1) (h : b ρ1 S = .nx ρ2 S2) : forL g b (t :: ts) ρ S = forL g b ts ρ2 S2 := by
  show oz (g (.d t) ρ) _ = _
  rw [hg, oz_some, h]
theorem shaped_str {s : Str} (h : PyData.strOk s = true) : SeqAt.shaped (.str s) = true := by
  unfold SeqAt.shaped
  simp [PyData.canLay0, h, PyData.depth]
theorem eqv_strs (a b : Str) : PyData.eqv (.str a) (.str b) = decide (a = b) := by
  show (a == b) = _
  cases e : a == b with
  | true => exact (decide_eq_true (by simpa using e)).symm
  | false => exact (decide_eq_false (by simpa using e)).symm
theorem eqDv_str {a b : Str} {S : Sto} (h1 : PyData.strOk a = true) (h2 : PyData.strOk b = true) : eqDv S (.d (.str a)) (.d (.str b)) = some (decide (a = b)) := by
  show (if SeqAt.shaped (.str a) = true ∧ SeqAt.shaped (.str b) = true then some (PyData.eqv (.str a) (.str b)) else none) = _
  rw [if_pos ⟨shaped_str h1, shaped_str h2⟩, eqv_strs]
theorem ne_s {a b : Str} {S : Sto} (h1 : PyData.strOk a = true) (h2 : PyData.strOk b = true) : pNe (.d (.str a)) (.d (.str b)) S = some (.d (.bl (!decide (a = b))), S) := by
  unfold pNe
  rw [eqDv_str h1 h2]
/-- one turn of a comprehension that keeps the item -/
theorem lc_yes {g : GM} {c : M Bool} {e : M Dv} {ρ ρ1 : Sm.Env} {t : Dt} {ts : List Dt} {S S1 S2 S3 : Sto} {d : Dv} {ds : List Dv} (hg : g (.d t) ρ = some ρ1) (hc : c ρ1 S = .ok true S1) (he : e ρ1 S1 = .ok d S2) (hr : lcL g c e ρ ts S2 = .ok ds S3) : lcL g c e ρ (t :: ts) S = .ok (d :: ds) S3 := by
  show bz (g (.d t) ρ) _ = _
  rw [hg, bz_some, hc, nox_ok, bind_ok, if_pos rfl, he, nox_ok, bind_ok, hr, bind_ok]
theorem lc_no {g : GM} {c : M Bool} {e : M Dv} {ρ ρ1 : Sm.Env} {t : Dt} {ts : List Dt} {S S1 S3 : Sto} {ds : List Dv} (hg : g (.d t) ρ = some ρ1) (hc : c ρ1 S = .ok false S1) (hr : lcL g c e ρ ts S1 = .ok ds S3) : lcL g c e ρ (t :: ts) S = .ok ds S3 := by
  show bz (g (.d t) ρ) _ = _
  rw [hg, bz_some, hc, nox_ok, bind_ok, if_neg (by decide), hr]
theorem mLcI_ok {vs : List Nat} {it : M (List Dt)} {g : GM} {c : M Bool} {e : M Dv} {ρ : Sm.Env} {S S1 S2 : Sto} {ts : List Dt} {ds : List Dv} (hi : it ρ S = .ok ts S1) (hz : ts.length ≤ 16777216) (h : lcL g c e (wipeE ρ vs) ts S1 = .ok ds S2) : mLcI vs it g c e ρ S = .ok ds S2 := by
  rw [mLcI_s, hi, bind_ok, if_pos hz, h]
end Hn
/-! Hn12: a drawn sheet: the table is filled. -/
namespace Hn
open PySem PySem.Spec PyProof.Rows L2 Sm
def pool : List Str := ["a", "ann", "bob", "cat", "dan", "eve", "fay", "new", "old", "x", "zzzzzzzz"]
abbrev bx (l : List Str) : Bo := .lst (l.map fun s => Dv.d (.str s))
abbrev locs (n : Nat) : List Dv := (List.range' 2 n).map Dv.loc
section
variable {P1 P2 P5 : Dt} {L : List Str} {n : Nat} {folk emp : List Str} {st wd : Int} {z11 z12 z13 z14 : Option Dv}
/-- what the boxes hold -/
def Gd (folk : List Str) (c : Nat) (bs : List (List Str)) : Prop := ∀ l ∈ bs, l.length ≤ c ∧ ∀ x ∈ l, x ∈ pool
end
end Hn
/-! Hn13: a drawn sheet: wishes of both sides, of one. -/
namespace Hn
open PySem PySem.Spec PyProof.Rows L2 Sm
theorem pool_ok : ∀ x ∈ pool, PyData.strOk x = true := by decide +kernel
def tAppA : SM := sDrop (mLm pAppend (m2 pIx (mV 8) (m2 pIx (mV 6) (mV 11))) (aCons (mV 13) (aNil)))
def tAppB : SM := sDrop (mLm pAppend (m2 pIx (mV 8) (mV 13)) (aCons (m2 pIx (mV 6) (mV 11)) (aNil)))
def tB : SM := sSeq (sSet 14 (mF F__law_take (aCons (mV 0) (aCons (mV 10) (aNil)))))
    (sSeq (sIf (cOr (mTst (m2 pEq (mV 14) (mC (.int 0)))) (cAnd (mTst (m2 pEq (mV 14) (mC (.int 1)))) (mTst (m2 pGt (mV 9) (mC (.int 0)))))) tAppA (sNil))
    (sIf (cOr (mTst (m2 pEq (mV 14) (mC (.int 0)))) (cAnd (mTst (m2 pEq (mV 14) (mC (.int 2)))) (mTst (m2 pGt (mV 9) (mC (.int 0)))))) tAppB (sNil)))
section
variable {P1 P2 P5 : Dt} {L : List Str} {n : Nat} {folk emp : List Str} {st wd : Int} {z11 z12 z13 z14 : Option Dv}
theorem Gd.up {c d : Nat} {bs : List (List Str)} (g : Gd folk c bs) (h : c ≤ d) : Gd folk d bs := fun m hm => ⟨Nat.le_trans (g m hm).1 h, (g m hm).2⟩
def tC : SM := sFor (iSeq (mSl pSl (mV 6) (oPt (m2 pAdd (mV 11) (mC (.int 1)))) (oNo))) (gN 13) tB
end
end Hn
/-! Hn14: a drawn sheet: its rows, sorted. -/
namespace Hn
open PySem PySem.Spec PyProof.Rows L2 Sm
/-- the wishes of a row -/
def ws (s : Str) (l : List Str) : List Str := sortS (ddS (l.filter fun x => !decide (x = s)))
def tFil : M Dv := mN pLst (mLcI [16] (iSeq (mFrz (m2 pIx (mV 8) (mV 17)))) (gN 16) (mTst (m2 pNe (mV 16) (mV 17))) (mV 16))
def tRow : M Dv := mN pTup (aCons (mV 17) (aCons (mN pTuple (aCons (m1 pSortSet tFil) (aNil))) (aNil)))
abbrev eR (P1 P2 P5 : Dt) (L : List Str) (n : Nat) (folk emp : List Str) (st wd : Int) (z11 z12 z13 z14 z16 z17 : Option Dv) : Sm.Env :=
  [some (.loc 0), some (.d P1), some (.d P2), some (.d (.lst (L.map .str))), some (.d (.int (n : Int))), some (.d P5), some (.d (.lst (folk.map .str))), some (.d (.lst (emp.map .str))), some (.loc 1), some (.d (.int st)), some (.d (.int wd)), z11, z12, z13, z14, none, z16, z17]
structure Kept (folk : List Str) (bs : List (List Str)) (o : Bo) (k : Nat) (S : Sto) : Prop where
  o0 : S[0]? = some o
  o1 : S[1]? = some (.dct (kS folk) (locs folk.length))
  bx : ∀ (j : Nat) (l : List Str), k ≤ j → bs[j]? = some l → S[2 + j]? = some (bx l)
section
variable {P1 P2 P5 : Dt} {L : List Str} {n : Nat} {folk emp : List Str} {st wd : Int} {z11 z12 z13 z14 z16 z17 : Option Dv}
theorem fil_loop {s : Str} (hs : s ∈ pool) : ∀ (l : List Str), (∀ x ∈ l, x ∈ pool) → ∀ S : Sto, lcL (gN 16) (mTst (m2 pNe (mV 16) (mV 17))) (mV 16) (eR P1 P2 P5 L n folk emp st wd z11 z12 z13 z14 none (some (.d (.str s)))) (l.map .str) S = .ok (((l.filter fun x => !decide (x = s)).map .str).map .d) S
  | [], _, S => rfl
  | x :: l, h, S => by
    have ih := fil_loop hs l (fun y hy => h y (List.mem_cons_of_mem _ hy)) S
    have hne : pNe (.d (.str x)) (.d (.str s)) S = some (.d (.bl (!decide (x = s))), S) := ne_s (pool_ok x (h x List.mem_cons_self)) (pool_ok s hs)
    have hc : mTst (m2 pNe (mV 16) (mV 17)) (eR P1 P2 P5 L n folk emp st wd z11 z12 z13 z14 (some (.d (.str x))) (some (.d (.str s)))) S = .ok (!decide (x = s)) S := by
      simp only [mTst_s, m2_s, mV_s, List.getElem?_cons_zero, List.getElem?_cons_succ, bind_ok, hne, Sm.lift_some, toB_s, li_some]
    by_cases e : x = s
    · rw [List.map_cons, lc_no (ρ1 := eR P1 P2 P5 L n folk emp st wd z11 z12 z13 z14 (some (.d (.str x))) (some (.d (.str s)))) rfl (by rw [hc]; simp [e]) ih]
      simp [e]
    · rw [List.map_cons, lc_yes (ρ1 := eR P1 P2 P5 L n folk emp st wd z11 z12 z13 z14 (some (.d (.str x))) (some (.d (.str s)))) rfl (by rw [hc]; simp [e]) (show mV 16 _ S = .ok (.d (.str x)) S from rfl) ih]
      simp [e]
theorem pures_bx (l : List Str) : pures (l.map fun s => Dv.d (.str s)) = some (l.map .str) := by
  have : (l.map fun s => Dv.d (.str s)) = (l.map Dt.str).map Dv.d := by
    rw [List.map_map]
    rfl
  rw [this, pures_d]
theorem row_ok {o : Bo} {bs : List (List Str)} {k : Nat} {S : Sto} {s : Str} {l : List Str} (K : Kept folk bs o k S) (nd : folk.Nodup) (hs : folk[k]? = some s) (hb : bs[k]? = some l) (pf : ∀ x ∈ folk, x ∈ pool) (g : Gd folk 1000 bs) :
    tRow (eR P1 P2 P5 L n folk emp st wd z11 z12 z13 z14 z16 (some (.d (.str s)))) S = .ok (.d (row (s, ws s l))) (S.set (2 + k) .dead) := by
  obtain ⟨g1, g2⟩ := g l (List.mem_of_getElem? hb)
  have hsp := pf s (List.mem_of_getElem? hs)
  have e1 : pIx (.loc 1) (.d (.str s)) S = some (.loc (2 + k), S) := by
    have := dlook_at (f := Dv.loc) (a := 2) nd hs
    unfold pIx
    have d : dctAt S (.loc 1) = some (kS folk, locs folk.length) := by
      unfold dctAt
      simp only [K.o1]
    rw [d]
    show (match dlook (kS folk) (locs folk.length) (.inr s) with
      | some x => some (x, S)
      | none => none) = _
    rw [this]
  have e2 : frz (.loc (2 + k)) S = some (.d (.lst (l.map .str)), S.set (2 + k) .dead) := by
    unfold frz
    simp only [K.bx k l (Nat.le_refl _) hb, pures_bx]
  have it : iSeq (mFrz (m2 pIx (mV 8) (mV 17))) (eR P1 P2 P5 L n folk emp st wd z11 z12 z13 z14 z16 (some (.d (.str s)))) S = .ok (l.map .str) (S.set (2 + k) .dead) := by
    simp only [iSeq_s, mFrz_s, m2_s, mV_s, List.getElem?_cons_zero, List.getElem?_cons_succ, bind_ok, e1, e2, Sm.lift_some]
    rfl
  have lc := fil_loop (P1 := P1) (P2 := P2) (P5 := P5) (L := L) (n := n) (folk := folk) (emp := emp) (st := st) (wd := wd) (z11 := z11) (z12 := z12) (z13 := z13) (z14 := z14) hsp l g2 (S.set (2 + k) .dead)
  have hfl : (l.filter fun x => !decide (x = s)).length ≤ 1000 := Nat.le_trans (List.length_filter_le _ _) g1
  have lc2 : mLcI [16] (iSeq (mFrz (m2 pIx (mV 8) (mV 17)))) (gN 16) (mTst (m2 pNe (mV 16) (mV 17))) (mV 16) (eR P1 P2 P5 L n folk emp st wd z11 z12 z13 z14 z16 (some (.d (.str s)))) S = .ok (((l.filter fun x => !decide (x = s)).map .str).map .d) (S.set (2 + k) .dead) :=
    mLcI_ok it (by rw [List.length_map]; omega) lc
  have e3 : pLst (((l.filter fun x => !decide (x = s)).map Dt.str).map .d) (S.set (2 + k) .dead) = some (.d (.lst ((l.filter fun x => !decide (x = s)).map .str)), S.set (2 + k) .dead) := pLst_d (by rw [List.length_map]; omega)
  have e4 : pSortSet (.d (.lst ((l.filter fun x => !decide (x = s)).map .str))) (S.set (2 + k) .dead) = some (.d (.lst ((ws s l).map .str)), S.set (2 + k) .dead) := by
    unfold pSortSet
    have : (itemsOf (S.set (2 + k) .dead) (.d (.lst ((l.filter fun x => !decide (x = s)).map .str)))).bind strsOf = some (l.filter fun x => !decide (x = s)) := by
      unfold itemsOf
      simp only [dctAt, seqAt, lstAt, pures_d, Option.bind_some, strsOf_map]
    rw [this]
    exact if_pos (by omega)
  have e5 : pTup [.d (.str s), .d (.tup ((ws s l).map .str))] (S.set (2 + k) .dead) = some (.d (row (s, ws s l)), S.set (2 + k) .dead) := rfl
  unfold tRow tFil
  simp only [mN_s, aCons_s, m1_s, mV_s, aNil_s, List.getElem?_cons_zero, List.getElem?_cons_succ, bind_ok, lc2, e3, e4, pTuple_lst, e5, Sm.lift_some]
theorem Kept.next {o : Bo} {bs : List (List Str)} {k : Nat} {S : Sto} (K : Kept folk bs o k S) : Kept folk bs o (k + 1) (S.set (2 + k) .dead) := by
  refine ⟨?_, ?_, fun j l hj hl => ?_⟩
  · rw [List.getElem?_set_ne (by omega)]
    exact K.o0
  · rw [List.getElem?_set_ne (by omega)]
    exact K.o1
  · rw [List.getElem?_set_ne (by omega)]
    exact K.bx j l (by omega) hl
end
/-! sorted -/
def Asc (l : List Str) : Prop := l.Pairwise fun a b => ltS a b = true
theorem asc_of {l : List Str} (h : l.Pairwise fun a b => leS a b = true) (nd : l.Nodup) : Asc l := by
  refine List.Pairwise.imp₂ (fun {a b} h1 h2 => ?_) h nd
  by_cases hl : a.cps.toList < b.cps.toList
  · exact decide_eq_true hl
  · exfalso
    have : leS b a = true := by
      unfold leS
      simp [hl]
    exact h2 (leS_anti h1 this)
theorem asc_sort {l : List Str} (nd : l.Nodup) : Asc (sortS l) := asc_of (sortS_sorted l) ((sortS_perm l).nodup_iff.mpr nd)
end Hn
/-! Hn15: a drawn sheet. -/
namespace Hn
open PySem PySem.Spec PyProof.Rows L2 Sm
structure Tome (t : Dt) (rows : List (Str × List Str)) (emps : List Str) (most free : Nat) : Prop where
  eq : t = .tup [.tup (rows.map row), .tup (emps.map .str)]
  pn : ∀ e ∈ rows, e.1 ∈ pool
  pw : ∀ e ∈ rows, ∀ x ∈ e.2, x ∈ pool ∧ x ≠ e.1
  sw : ∀ e ∈ rows, Asc e.2
  sn : Asc (rows.map (·.1))
  se : Asc emps
  pe : ∀ x ∈ emps, x ∈ pool
  nd : (rows.map (·.1) ++ emps).Nodup
  z0 : 0 < rows.length
  z1 : rows.length ≤ most
  z2 : emps.length ≤ free
abbrev e3 (P1 P2 : Dt) (z3 z4 z5 z6 z7 z8 z9 z10 : Option Dv) : Sm.Env := [some (.loc 0), some (.d P1), some (.d P2), z3, z4, z5, z6, z7, z8, z9, z10, none, none, none, none, none, none, none]
end Hn
/-! Hs1: comprehensions without side effects; texts in sequences and dicts. -/
namespace Hn
open PySem PySem.Spec PyProof.Rows L2 Sm
end Hn
/-! Hs2: sheets: what the methods of Sheet compute. -/
namespace Hn
open PySem PySem.Spec PyProof.Rows L2 Sm
/-- the row of x -/
def lk : List (Str × List Str) → Str → List Str
  | [], _ => []
  | e :: r, x => if e.1 = x then e.2 else lk r x
theorem lk_mem : ∀ {rows : List (Str × List Str)} {x : Str}, x ∈ rows.map (·.1) → (x, lk rows x) ∈ rows
  | [], x, h => absurd h List.not_mem_nil
  | a :: r, x, h => by
    show (x, if a.1 = x then a.2 else lk r x) ∈ _
    by_cases e : a.1 = x
    · subst e
      rw [if_pos rfl]
      exact List.mem_cons_self
    · rw [if_neg e]
      rcases List.mem_cons.mp h with h | h
      · exact absurd h.symm e
      · exact List.mem_cons_of_mem _ (lk_mem h)
abbrev folk (rows : List (Str × List Str)) : List Str := rows.map (·.1)
abbrev tupS (l : List Str) : Dt := .tup (l.map .str)
abbrev shD (l : List (Str × List Str)) (m : List Str) : Dt := .tup [.tup (l.map row), .tup (m.map .str)]
/-- t, whatever its lists and tuples, is the sheet of these rows and empty homes -/
structure Sd (t : Dt) (rows : List (Str × List Str)) (emps : List Str) : Prop where
  tx : Tx 7 t
  eq : tp t = shD rows emps
  nd : (folk rows ++ emps).Nodup
  z1 : rows.length ≤ 100
  z2 : emps.length ≤ 100
  z3 : ∀ r ∈ rows, r.2.length ≤ 100
theorem Sd.ndf {t : Dt} {rows : List (Str × List Str)} {emps : List Str} (h : Sd t rows emps) : (folk rows).Nodup := (List.nodup_append.mp h.nd).1
section
variable {t : Dt} {rows : List (Str × List Str)} {emps : List Str} {S : Sto} {n : Nat}
/-- g, whatever its lists and tuples, is a row of these names -/
structure Nm (g : Dt) (l : List Str) : Prop where
  tp : ∀ S : Sto, F_tupled 8 [.d g] S = .ok (.d (tupS l)) S
  z : l.length ≤ 1000
theorem Nm.of {g : Dt} {l : List Str} (tx : Tx 7 g) (eq : Hn.tp g = tupS l) (z : l.length ≤ 1000) : Nm g l := ⟨fun S => by
  rw [← eq]
  exact tupled_ok 7 g S tx, z⟩
theorem Nm.none : Nm (.ltp []) [] := ⟨fun S => iso_ok (ts := [.ltp []]) (S' := []) rfl, Nat.zero_le _⟩
/-- the one wants the other's home, and the other its own -/
def suits (rows : List (Str × List Str)) (a b : Str) : Bool := decide (b ∈ lk rows a) && decide (a ∈ lk rows b)
def suited (rows : List (Str × List Str)) (a : Str) : List Str := (lk rows a).filter fun b => decide (b ∈ folk rows) && suits rows a b
end
end Hn
/-! Hs3: Swapping: what its making computes. -/
namespace Hn
open PySem PySem.Spec PyProof.Rows L2 Sm
abbrev prD (p : Str × Str) : Dt := .tup [.str p.1, .str p.2]
def nms (rows : List (Str × List Str)) (gone : List Str) : List Str := (folk rows).filter fun x => !decide (x ∈ gone)
def near (rows : List (Str × List Str)) (gone : List Str) (a : Str) : List Str := (suited rows a).filter fun x => !decide (x ∈ gone)
def prs (rows : List (Str × List Str)) (gone : List Str) : List (Str × Str) := (nms rows gone).flatMap fun a => ((near rows gone a).filter (ltS a)).map fun b => (a, b)
abbrev nearO (rows : List (Str × List Str)) (gone : List Str) : Dt := .dct (kS (nms rows gone)) ((nms rows gone).map fun x => tupS (near rows gone x))
def insW (n : Nat) (rows : List (Str × List Str)) (gone : List Str) : Bo := .ins 1 [some (.loc (n + 2)), some (.d (tupS (nms rows gone))), some (.d (nearO rows gone)), some (.d (.lst ((prs rows gone).map prD)))]
theorem st0 {S0 : Sto} {x x' : Bo} {r : List Bo} : (S0 ++ x :: r).set S0.length x' = S0 ++ x' :: r := by
  rw [List.set_append_right _ _ (Nat.le_refl _), Nat.sub_self]
  rfl
section
variable {S0 : Sto} {t g : Dt} {rows : List (Str × List Str)} {emps gone : List Str}
end
end Hn
/-! Hs4: most: what it computes, with what it keeps. -/
namespace Hn
open PySem PySem.Spec PyProof.Rows L2 Sm
/-- as many as there can be, by trying -/
def mostF (nr : Str → List Str) : Nat → List Str → Int
  | 0, _ => 0
  | _ + 1, [] => 0
  | n + 1, a :: rest => maxI (mostF nr n rest :: ((nr a).filter fun o => decide (o ∈ rest)).map fun o => 1 + mostF nr n (rest.filter fun y => !decide (y = o)))
abbrev less (rest : List Str) (o : Str) : List Str := rest.filter fun y => !decide (y = o)
theorem less_len {rest : List Str} {o : Str} (h : o ∈ rest) : (less rest o).length < rest.length := by
  induction rest with
  | nil => exact absurd h List.not_mem_nil
  | cons a r ih =>
    unfold less
    by_cases e : a = o
    · rw [List.filter_cons_of_neg (by simp [e]), List.length_cons]
      exact Nat.lt_succ_of_le (List.length_filter_le _ _)
    · rw [List.filter_cons_of_pos (by simp [e]), List.length_cons, List.length_cons]
      rcases List.mem_cons.mp h with h | h
      · exact absurd h.symm e
      · exact Nat.succ_lt_succ (ih h)
theorem mostF_any (nr : Str → List Str) : ∀ (n m : Nat) (l : List Str), l.length ≤ n → l.length ≤ m → mostF nr n l = mostF nr m l
  | 0, 0, _, _, _ => rfl
  | 0, m + 1, l, h, _ => by
    have e : l = [] := List.eq_nil_of_length_eq_zero (by omega)
    subst e
    rfl
  | n + 1, 0, l, _, h => by
    have e : l = [] := List.eq_nil_of_length_eq_zero (by omega)
    subst e
    rfl
  | n + 1, m + 1, [], _, _ => rfl
  | n + 1, m + 1, a :: rest, h1, h2 => by
    have h1' : rest.length ≤ n := by simpa using h1
    have h2' : rest.length ≤ m := by simpa using h2
    show maxI _ = maxI _
    rw [mostF_any nr n m rest h1' h2']
    congr 2
    refine List.map_congr_left fun o ho => ?_
    have hl : (less rest o).length ≤ rest.length := List.length_filter_le _ _
    rw [mostF_any nr n m (less rest o) (by omega) (by omega)]
def mostV (nr : Str → List Str) (l : List Str) : Int := mostF nr l.length l
theorem mostV_cons (nr : Str → List Str) (a : Str) (rest : List Str) : mostV nr (a :: rest) = maxI (mostV nr rest :: ((nr a).filter fun o => decide (o ∈ rest)).map fun o => 1 + mostV nr (less rest o)) := by
  show maxI _ = _
  congr 2
  refine List.map_congr_left fun o ho => ?_
  rw [mostF_any nr rest.length (less rest o).length (less rest o) (List.length_filter_le _ _) (Nat.le_refl _)]
  rfl
/-- so many entries at the most -/
def tk (K : Nat) : Nat → Nat
  | 0 => 0
  | 1 => 0
  | n + 2 => 1 + tk K (n + 1) + K * tk K n
abbrev kL (l : List Str) : List Key := l.map Sum.inr
section
variable {v : List Str → Dv} {es : List (List Str)} {l : List Str}
end
section
variable {S : Sto} {n : Nat} {rows : List (Str × List Str)} {gone : List Str} {K : Nat}
abbrev vL (rows : List (Str × List Str)) (gone : List Str) (l : List Str) : Dv := .d (.int (mostV (near rows gone) l))
abbrev dcW (rows : List (Str × List Str)) (gone : List Str) (es : List (List Str)) : Bo := .dcT (es.map kL) (es.map (vL rows gone))
/-- S, but for what is known -/
def StW (S : Sto) (n : Nat) (rows : List (Str × List Str)) (gone : List Str) (es : List (List Str)) : Sto := S.set (n + 2) (dcW rows gone es)
/-- a Swapping stands at n -/
structure Bs (S : Sto) (n : Nat) (rows : List (Str × List Str)) (gone : List Str) : Prop where
  i0 : S[n]? = some (insW n rows gone)
  i2 : n + 2 < S.length
theorem Bs.a2 (B : Bs S n rows gone) {es : List (List Str)} : (StW S n rows gone es)[n + 2]? = some (dcW rows gone es) := List.getElem?_set_self B.i2
end
end Hn
/-! Hs5: sets of pairs without a common name: the greatest, by going through the names. -/
namespace Hn
open PySem PySem.Spec PyProof.Rows L2 Sm
/-- two pairs without a common name -/
def Dj (p q : Str × Str) : Prop := p.1 ≠ q.1 ∧ p.1 ≠ q.2 ∧ p.2 ≠ q.1 ∧ p.2 ≠ q.2
theorem Dj.symm {p q : Str × Str} (h : Dj p q) : Dj q p := ⟨fun z => h.1 z.symm, fun z => h.2.2.1 z.symm, fun z => h.2.1 z.symm, fun z => h.2.2.2 z.symm⟩
structure Mt (P : List (Str × Str)) (left : List Str) (m : List (Str × Str)) : Prop where
  pw : m.Pairwise Dj
  all : ∀ p ∈ m, p ∈ P ∧ p.1 ∈ left ∧ p.2 ∈ left
theorem maxI_all : ∀ (l : List Int), l ≠ [] → maxI l ∈ l ∧ ∀ y ∈ l, y ≤ maxI l
  | [], h => absurd rfl h
  | [a], _ => ⟨List.mem_cons_self, fun y hy => by rw [List.mem_singleton.mp hy]; exact Int.le_refl _⟩
  | a :: b :: r, _ => by
    obtain ⟨i1, i2⟩ := maxI_all (b :: r) (by simp)
    show max a (maxI (b :: r)) ∈ _ ∧ ∀ y ∈ _, y ≤ max a (maxI (b :: r))
    refine ⟨?_, fun y hy => ?_⟩
    · by_cases h : a ≤ maxI (b :: r)
      · rw [Int.max_eq_right h]
        exact List.mem_cons_of_mem _ i1
      · rw [Int.max_eq_left (by omega)]
        exact List.mem_cons_self
    · rcases List.mem_cons.mp hy with rfl | hy
      · omega
      · have := i2 y hy
        omega
section
variable {P : List (Str × Str)} {nr : Str → List Str} {names : List Str}
/-- who suits whom, by pairs and by rows -/
structure Fit (P : List (Str × Str)) (nr : Str → List Str) (names : List Str) : Prop where
  ne : ∀ p ∈ P, p.1 ≠ p.2
  iff : ∀ a ∈ names, ∀ o ∈ names, a ≠ o → (o ∈ nr a ↔ ((a, o) ∈ P ∨ (o, a) ∈ P))
theorem mt_upper (f : Fit P nr names) : ∀ (n : Nat) (left : List Str), left.length ≤ n → (∀ x ∈ left, x ∈ names) → ∀ m, Mt P left m → (m.length : Int) ≤ mostV nr left
  | n, [], _, _, m, h => by
    cases m with
    | nil => exact Int.le_refl _
    | cons p m => exact absurd (h.all p List.mem_cons_self).2.1 List.not_mem_nil
  | 0, a :: rest, hn, _, _, _ => by simp at hn
  | n + 1, a :: rest, hn, hs, m, h => by
    have hn' : rest.length ≤ n := by simpa using hn
    have hsr : ∀ x ∈ rest, x ∈ names := fun x hx => hs x (List.mem_cons_of_mem _ hx)
    rw [mostV_cons]
    have mx := (maxI_all (mostV nr rest :: ((nr a).filter fun o => decide (o ∈ rest)).map fun o => 1 + mostV nr (less rest o)) (by simp)).2
    by_cases ht : ∃ p ∈ m, p.1 = a ∨ p.2 = a
    · obtain ⟨p, hp, hpa⟩ := ht
      have hpm := h.all p hp
      have hne := f.ne p hpm.1
      have pr := List.perm_cons_erase hp
      have pw2 := (pr.pairwise_iff (R := Dj) (fun h => h.symm)).mp h.pw
      obtain ⟨d1, d2⟩ := List.pairwise_cons.mp pw2
      have hlen : m.length = (m.erase p).length + 1 := pr.length_eq
      have key : ∀ o, o ∈ rest → o ∈ nr a → (∀ q ∈ m.erase p, q.1 ≠ a ∧ q.1 ≠ o ∧ q.2 ≠ a ∧ q.2 ≠ o) → (m.length : Int) ≤ maxI (mostV nr rest :: ((nr a).filter fun o => decide (o ∈ rest)).map fun o => 1 + mostV nr (less rest o)) := fun o ho hno hq => by
        have hl := less_len ho
        have sub : Mt P (less rest o) (m.erase p) := ⟨d2, fun q hqm => by
          have hq0 := h.all q (List.mem_of_mem_erase hqm)
          obtain ⟨q1, q2, q3, q4⟩ := hq q hqm
          refine ⟨hq0.1, List.mem_filter.mpr ⟨?_, by simpa using q2⟩, List.mem_filter.mpr ⟨?_, by simpa using q4⟩⟩
          · rcases List.mem_cons.mp hq0.2.1 with z | z
            · exact absurd z q1
            · exact z
          · rcases List.mem_cons.mp hq0.2.2 with z | z
            · exact absurd z q3
            · exact z⟩
        have ih := mt_upper f n (less rest o) (by omega) (fun x hx => hsr x (List.mem_filter.mp hx).1) _ sub
        have := mx (1 + mostV nr (less rest o)) (List.mem_cons_of_mem _ (List.mem_map.mpr ⟨o, List.mem_filter.mpr ⟨hno, decide_eq_true ho⟩, rfl⟩))
        omega
      rcases hpa with e | e
      · have ho : p.2 ∈ rest := by
          rcases List.mem_cons.mp hpm.2.2 with z | z
          · exact absurd (e.trans z.symm) hne
          · exact z
        refine key p.2 ho ((f.iff a (hs a List.mem_cons_self) p.2 (hsr _ ho) (by rw [← e]; exact hne)).mpr (.inl (by rw [← e]; exact hpm.1))) fun q hq => ?_
        obtain ⟨z1, z2, z3, z4⟩ := d1 q hq
        rw [e] at z1 z2
        exact ⟨fun z => z1 z.symm, fun z => z3 z.symm, fun z => z2 z.symm, fun z => z4 z.symm⟩
      · have ho : p.1 ∈ rest := by
          rcases List.mem_cons.mp hpm.2.1 with z | z
          · exact absurd (z.trans e.symm) hne
          · exact z
        refine key p.1 ho ((f.iff a (hs a List.mem_cons_self) p.1 (hsr _ ho) (by rw [← e]; exact fun z => hne z.symm)).mpr (.inr (by rw [← e]; exact hpm.1))) fun q hq => ?_
        obtain ⟨z1, z2, z3, z4⟩ := d1 q hq
        rw [e] at z3 z4
        exact ⟨fun z => z3 z.symm, fun z => z1 z.symm, fun z => z4 z.symm, fun z => z2 z.symm⟩
    · have sub : Mt P rest m := ⟨h.pw, fun q hq => by
        obtain ⟨h1, h2, h3⟩ := h.all q hq
        refine ⟨h1, ?_, ?_⟩
        · rcases List.mem_cons.mp h2 with z | z
          · exact absurd ⟨q, hq, .inl z⟩ ht
          · exact z
        · rcases List.mem_cons.mp h3 with z | z
          · exact absurd ⟨q, hq, .inr z⟩ ht
          · exact z⟩
      have ih := mt_upper f n rest hn' hsr m sub
      have := mx (mostV nr rest) List.mem_cons_self
      omega
theorem mt_lower (f : Fit P nr names) : ∀ (n : Nat) (left : List Str), left.length ≤ n → left.Nodup → (∀ x ∈ left, x ∈ names) → ∃ m, Mt P left m ∧ (m.length : Int) = mostV nr left
  | n, [], _, _, _ => ⟨[], ⟨List.Pairwise.nil, fun p hp => absurd hp List.not_mem_nil⟩, rfl⟩
  | 0, a :: rest, hn, _, _ => by simp at hn
  | n + 1, a :: rest, hn, nd, hs => by
    have hn' : rest.length ≤ n := by simpa using hn
    obtain ⟨n1, n2⟩ := List.nodup_cons.mp nd
    have hsr : ∀ x ∈ rest, x ∈ names := fun x hx => hs x (List.mem_cons_of_mem _ hx)
    rw [mostV_cons]
    have mx := (maxI_all (mostV nr rest :: ((nr a).filter fun o => decide (o ∈ rest)).map fun o => 1 + mostV nr (less rest o)) (by simp)).1
    rcases List.mem_cons.mp mx with e | e
    · obtain ⟨m, hm, el⟩ := mt_lower f n rest hn' n2 hsr
      exact ⟨m, ⟨hm.pw, fun p hp => ⟨(hm.all p hp).1, List.mem_cons_of_mem _ (hm.all p hp).2.1, List.mem_cons_of_mem _ (hm.all p hp).2.2⟩⟩, by rw [el, e]⟩
    · obtain ⟨o, ho, eo⟩ := List.mem_map.mp e
      obtain ⟨ho1, ho2⟩ := List.mem_filter.mp ho
      have hor : o ∈ rest := of_decide_eq_true ho2
      have hao : a ≠ o := fun z => n1 (by rw [z]; exact hor)
      have hl := less_len hor
      obtain ⟨m, hm, el⟩ := mt_lower f n (less rest o) (by omega) (n2.filter _) fun x hx => hsr x (List.mem_filter.mp hx).1
      have hin : ∀ x, x ∈ less rest o → x ∈ rest ∧ x ≠ a ∧ x ≠ o := fun x hx => by
        obtain ⟨h1, h2⟩ := List.mem_filter.mp hx
        exact ⟨h1, fun z => n1 (by rw [← z]; exact h1), by simpa using h2⟩
      have key : ∀ p ∈ P, (p = (a, o) ∨ p = (o, a)) → ∃ m, Mt P (a :: rest) m ∧ (m.length : Int) = maxI (mostV nr rest :: ((nr a).filter fun o => decide (o ∈ rest)).map fun o => 1 + mostV nr (less rest o)) := fun p hp hpe => by
        refine ⟨p :: m, ⟨List.pairwise_cons.mpr ⟨fun q hq => ?_, hm.pw⟩, fun q hq => ?_⟩, ?_⟩
        · obtain ⟨_, b1, b2⟩ := hm.all q hq
          obtain ⟨_, b3, b4⟩ := hin _ b1
          obtain ⟨_, b5, b6⟩ := hin _ b2
          rcases hpe with rfl | rfl
          · exact ⟨fun z => b3 z.symm, fun z => b5 z.symm, fun z => b4 z.symm, fun z => b6 z.symm⟩
          · exact ⟨fun z => b4 z.symm, fun z => b6 z.symm, fun z => b3 z.symm, fun z => b5 z.symm⟩
        · rcases List.mem_cons.mp hq with rfl | hq
          · rcases hpe with rfl | rfl
            · exact ⟨hp, List.mem_cons_self, List.mem_cons_of_mem _ hor⟩
            · exact ⟨hp, List.mem_cons_of_mem _ hor, List.mem_cons_self⟩
          · obtain ⟨b0, b1, b2⟩ := hm.all q hq
            exact ⟨b0, List.mem_cons_of_mem _ (hin _ b1).1, List.mem_cons_of_mem _ (hin _ b2).1⟩
        · rw [← eo, List.length_cons, ← el]
          omega
      rcases (f.iff a (hs a List.mem_cons_self) o (hsr o hor) hao).mp ho1 with h | h
      · exact key _ h (.inl rfl)
      · exact key _ h (.inr rfl)
theorem mostV_half (nr : Str → List Str) : ∀ (n : Nat) (l : List Str), l.length ≤ n → 2 * mostV nr l ≤ l.length ∧ 0 ≤ mostV nr l
  | n, [], _ => by
    show 2 * (0 : Int) ≤ 0 ∧ (0 : Int) ≤ 0
    omega
  | 0, a :: rest, hn => by simp at hn
  | n + 1, a :: rest, hn => by
    have hn' : rest.length ≤ n := by simpa using hn
    rw [mostV_cons, List.length_cons]
    obtain ⟨mx, mx2⟩ := maxI_all (mostV nr rest :: ((nr a).filter fun o => decide (o ∈ rest)).map fun o => 1 + mostV nr (less rest o)) (by simp)
    obtain ⟨h1, h2⟩ := mostV_half nr n rest hn'
    have h3 := mx2 _ List.mem_cons_self
    refine ⟨?_, by omega⟩
    rcases List.mem_cons.mp mx with e | e
    · rw [e]
      omega
    · obtain ⟨o, ho, eo⟩ := List.mem_map.mp e
      obtain ⟨ho1, ho2⟩ := List.mem_filter.mp ho
      have hl := less_len (of_decide_eq_true ho2)
      obtain ⟨h4, h5⟩ := mostV_half nr n (less rest o) (by omega)
      rw [← eo]
      omega
theorem dj_nodup {m : List (Str × Str)} (h : m.Pairwise Dj) : m.Nodup := h.imp fun h e => h.1 (by rw [e])
/-- the same pairs, in the order of P -/
theorem mt_order {left : List Str} {m : List (Str × Str)} (nd : P.Nodup) (h : Mt P left m) : ∃ m', m'.Sublist P ∧ m'.Perm m ∧ Mt P left m' := by
  have hp : (P.filter fun p => decide (p ∈ m)).Perm m := (List.perm_ext_iff_of_nodup (nd.filter _) (dj_nodup h.pw)).mpr fun p => by
    rw [List.mem_filter]
    exact ⟨fun z => of_decide_eq_true z.2, fun z => ⟨(h.all p z).1, decide_eq_true z⟩⟩
  refine ⟨_, List.filter_sublist, hp, (hp.pairwise_iff (R := Dj) (fun h => h.symm)).mpr h.pw, fun p hp' => h.all p (hp.mem_iff.mp hp')⟩
/-- all lists of pairs of P, in its order, without a common name -/
def tch (p q : Str × Str) : Bool := decide (q.1 ∈ [p.1, p.2]) || decide (q.2 ∈ [p.1, p.2])
def free (p : Str × Str) (m : List (Str × Str)) : Bool := (m.filter (tch p)).isEmpty
def stepM (found : List (List (Str × Str))) (p : Str × Str) : List (List (Str × Str)) := found ++ (found.filter (free p)).map fun m => m ++ [p]
def allM (P : List (Str × Str)) : List (List (Str × Str)) := P.foldl stepM [[]]
theorem free_iff {p : Str × Str} {m : List (Str × Str)} : free p m = true ↔ ∀ q ∈ m, Dj q p := by
  unfold free tch
  rw [List.isEmpty_iff, List.filter_eq_nil_iff]
  refine ⟨fun h q hq => ?_, fun h q hq => ?_⟩
  · have := h q hq
    simp only [List.mem_cons, List.not_mem_nil, or_false, Bool.or_eq_true, decide_eq_true_eq, not_or] at this
    exact ⟨this.1.1, this.1.2, this.2.1, this.2.2⟩
  · obtain ⟨h1, h2, h3, h4⟩ := h q hq
    simp [h1, h2, h3, h4]
theorem sub_one {α : Type} {l : List α} {p : α} (h : l.Sublist [p]) : l = [] ∨ l = [p] := by
  cases h with
  | cons _ w => exact .inl (List.sublist_nil.mp w)
  | cons_cons _ w => exact .inr (by rw [List.sublist_nil.mp w])
theorem allM_gen : ∀ (P Q : List (Str × Str)) (acc : List (List (Str × Str))), (∀ m, m ∈ acc ↔ m.Sublist Q ∧ m.Pairwise Dj) → ∀ m, m ∈ P.foldl stepM acc ↔ m.Sublist (Q ++ P) ∧ m.Pairwise Dj
  | [], Q, acc, h, m => by
    rw [List.append_nil]
    exact h m
  | p :: P, Q, acc, h, m => by
    have hs : ∀ m, m ∈ stepM acc p ↔ m.Sublist (Q ++ [p]) ∧ m.Pairwise Dj := fun m => by
      unfold stepM
      rw [List.mem_append, h, List.mem_map]
      constructor
      · rintro (⟨h1, h2⟩ | ⟨m', hm, rfl⟩)
        · exact ⟨h1.trans (List.sublist_append_left _ _), h2⟩
        · obtain ⟨h3, h4⟩ := List.mem_filter.mp hm
          obtain ⟨h5, h6⟩ := (h m').mp h3
          refine ⟨h5.append (List.Sublist.refl _), List.pairwise_append.mpr ⟨h6, List.pairwise_singleton _ _, fun q hq r hr => ?_⟩⟩
          rw [List.mem_singleton.mp hr]
          exact free_iff.mp h4 q hq
      · rintro ⟨h1, h2⟩
        obtain ⟨l1, l2, rfl, h3, h4⟩ := List.sublist_append_iff.mp h1
        rcases sub_one h4 with rfl | rfl
        · rw [List.append_nil] at h2 ⊢
          exact .inl ⟨h3, h2⟩
        · obtain ⟨h5, _, h6⟩ := List.pairwise_append.mp h2
          exact .inr ⟨l1, List.mem_filter.mpr ⟨(h l1).mpr ⟨h3, h5⟩, free_iff.mpr fun q hq => h6 q hq p List.mem_cons_self⟩, rfl⟩
    show m ∈ P.foldl stepM (stepM acc p) ↔ _
    rw [allM_gen P (Q ++ [p]) (stepM acc p) hs m, List.append_assoc]
    rfl
theorem allM_iff {m : List (Str × Str)} : m ∈ allM P ↔ m.Sublist P ∧ m.Pairwise Dj := by
  have := allM_gen P [] [[]] (fun m => by
    rw [List.mem_singleton]
    constructor
    · rintro rfl
      exact ⟨List.Sublist.slnil, List.Pairwise.nil⟩
    · rintro ⟨h, _⟩
      exact List.sublist_nil.mp h) m
  rw [List.nil_append] at this
  exact this
/-- the greatest of all -/
theorem allM_top (f : Fit P nr names) (nd : P.Nodup) (ndn : names.Nodup) (hP : ∀ p ∈ P, p.1 ∈ names ∧ p.2 ∈ names) : (∀ m ∈ allM P, (m.length : Int) ≤ mostV nr names) ∧ ∃ m ∈ allM P, (m.length : Int) = mostV nr names := by
  refine ⟨fun m hm => ?_, ?_⟩
  · obtain ⟨h1, h2⟩ := allM_iff.mp hm
    exact mt_upper f names.length names (Nat.le_refl _) (fun _ h => h) m ⟨h2, fun p hp => ⟨h1.subset hp, hP p (h1.subset hp)⟩⟩
  · obtain ⟨m, hm, el⟩ := mt_lower f names.length names (Nat.le_refl _) ndn fun _ h => h
    obtain ⟨m', s1, s2, s3⟩ := mt_order nd hm
    exact ⟨m', allM_iff.mpr ⟨s1, s3.pw⟩, by rw [s2.length_eq, el]⟩
end
end Hn
/-! Hs6: the law's own trying of all sets of pairs. -/
namespace Hn
open PySem PySem.Spec PyProof.Rows L2 Sm
def cnt (j : Nat) (L : List (List (Str × Str))) : Nat := (L.filter fun m => decide (m.length = j)).length
def ch : Nat → Nat → Nat
  | 0, 0 => 1
  | 0, _ + 1 => 0
  | _ + 1, 0 => 1
  | n + 1, j + 1 => ch n (j + 1) + ch n j
theorem ch_zero (n : Nat) : ch n 0 = 1 := by
  cases n <;> rfl
theorem ch_step (n j : Nat) : ch n j ≤ ch (n + 1) j := by
  cases j with
  | zero =>
    rw [ch_zero, ch_zero]
    exact Nat.le_refl _
  | succ j => exact Nat.le_add_right _ _
theorem ch_mono {n m : Nat} (h : n ≤ m) (j : Nat) : ch n j ≤ ch m j := by
  induction h with
  | refl => exact Nat.le_refl _
  | step _ ih => exact Nat.le_trans ih (ch_step _ _)
theorem cnt_cons (j : Nat) (m : List (Str × Str)) (L : List (List (Str × Str))) : cnt j (m :: L) = (if m.length = j then 1 else 0) + cnt j L := by
  unfold cnt
  by_cases h : m.length = j
  · rw [List.filter_cons_of_pos (by simpa using h), if_pos h, List.length_cons, Nat.add_comm]
  · rw [List.filter_cons_of_neg (by simpa using h), if_neg h, Nat.zero_add]
theorem cnt_step {L : List (List (Str × Str))} {p : Str × Str} {n : Nat} (h : ∀ j, cnt j L ≤ ch n j) : ∀ j, cnt j (stepM L p) ≤ ch (n + 1) j := fun j => by
  have e : cnt j (stepM L p) = cnt j L + cnt j ((L.filter (free p)).map fun m => m ++ [p]) := by
    unfold cnt stepM
    rw [List.filter_append, List.length_append]
  rw [e]
  cases j with
  | zero =>
    have z : cnt 0 ((L.filter (free p)).map fun m => m ++ [p]) = 0 := by
      unfold cnt
      rw [List.length_eq_zero_iff, List.filter_eq_nil_iff]
      intro m hm
      obtain ⟨m', _, rfl⟩ := List.mem_map.mp hm
      simp
    rw [z, Nat.add_zero]
    exact Nat.le_trans (h 0) (ch_step _ _)
  | succ j =>
    have z : cnt (j + 1) ((L.filter (free p)).map fun m => m ++ [p]) ≤ cnt j L := by
      unfold cnt
      rw [List.filter_map, List.length_map]
      have es : ((fun m : List (Str × Str) => decide (m.length = j + 1)) ∘ fun m => m ++ [p]) = fun m => decide (m.length = j) := by
        funext m
        simp
      rw [es]
      exact (List.Sublist.filter _ List.filter_sublist).length_le
    show _ ≤ ch n (j + 1) + ch n j
    exact Nat.add_le_add (h (j + 1)) (Nat.le_trans z (h j))
theorem cnt_all : ∀ (P : List (Str × Str)) (L : List (List (Str × Str))) (n : Nat), (∀ j, cnt j L ≤ ch n j) → ∀ j, cnt j (P.foldl stepM L) ≤ ch (n + P.length) j
  | [], L, n, h, j => h j
  | p :: P, L, n, h, j => by
    have := cnt_all P (stepM L p) (n + 1) (cnt_step h) j
    rw [List.length_cons, show n + (P.length + 1) = n + 1 + P.length by omega]
    exact this
theorem cnt_total : ∀ L : List (List (Str × Str)), (∀ m ∈ L, m.length ≤ 4) → L.length = cnt 0 L + cnt 1 L + cnt 2 L + cnt 3 L + cnt 4 L
  | [], _ => rfl
  | m :: L, h => by
    have ih := cnt_total L fun x hx => h x (List.mem_cons_of_mem _ hx)
    have hm := h m List.mem_cons_self
    rw [List.length_cons, cnt_cons, cnt_cons, cnt_cons, cnt_cons, cnt_cons]
    rcases (by omega : m.length = 0 ∨ m.length = 1 ∨ m.length = 2 ∨ m.length = 3 ∨ m.length = 4) with e | e | e | e | e <;> rw [e] <;> simp <;> omega
theorem ch64 : ch 64 0 + ch 64 1 + ch 64 2 + ch 64 3 + ch 64 4 ≤ 16777216 := by
  have h1 : ∀ n, ch n 1 = n := fun n => by
    induction n with
    | zero => rfl
    | succ n ih =>
      show ch n 1 + ch n 0 = _
      rw [ih, ch_zero]
  have h2 : ∀ n, 2 * ch n 2 ≤ n * n := fun n => by
    induction n with
    | zero => exact Nat.le_refl _
    | succ n ih =>
      show 2 * (ch n 2 + ch n 1) ≤ _
      rw [h1, Nat.add_mul, Nat.mul_add, Nat.mul_add]
      omega
  have h3 : ∀ n, n ≤ 64 → ch n 3 ≤ n * 2048 := fun n => by
    induction n with
    | zero => exact fun _ => Nat.le_refl _
    | succ n ih =>
      intro hn
      show ch n 3 + ch n 2 ≤ _
      have a := ih (by omega)
      have b := h2 n
      have c : n * n ≤ 64 * 64 := Nat.mul_le_mul (by omega) (by omega)
      omega
  have h4 : ∀ n, n ≤ 64 → ch n 4 ≤ n * 131072 := fun n => by
    induction n with
    | zero => exact fun _ => Nat.le_refl _
    | succ n ih =>
      intro hn
      show ch n 4 + ch n 3 ≤ _
      have a := ih (by omega)
      have b := h3 n (by omega)
      have c : n * 2048 ≤ 63 * 2048 := Nat.mul_le_mul_right _ (by omega)
      omega
  have a := h1 64
  have b := h2 64
  have c := h3 64 (Nat.le_refl _)
  have d := h4 64 (Nat.le_refl _)
  rw [ch_zero]
  omega
theorem allM_len {P : List (Str × Str)} (hz : P.length ≤ 64) (h : ∀ m ∈ allM P, m.length ≤ 4) : (allM P).length ≤ 16777216 := by
  rw [cnt_total _ h]
  have hc : ∀ j, cnt j (allM P) ≤ ch 64 j := fun j => by
    have := cnt_all P [[]] 0 (fun j => by
      cases j with
      | zero => exact Nat.le_refl _
      | succ j => exact Nat.zero_le _) j
    rw [Nat.zero_add] at this
    exact Nat.le_trans this (ch_mono hz j)
  have := ch64
  have a := hc 0
  have b := hc 1
  have c := hc 2
  have d := hc 3
  have e := hc 4
  omega
def okP (p : Str × Str) : Prop := PyData.strOk p.1 = true ∧ PyData.strOk p.2 = true
section
variable {P0 : Dt}
end
end Hn
/-! Hs7: the law's own look at a sheet: folk, wants, suits. -/
namespace Hn
open PySem PySem.Spec PyProof.Rows L2 Sm
section
variable {rows : List (Str × List Str)} {emps : List Str}
def wantsL (rows : List (Str × List Str)) (emps : List Str) (x : Str) : List Str := (lk rows x).filter fun y => decide (y ∈ folk rows ++ emps)
abbrev lstS (l : List Str) : Dt := .lst (l.map .str)
/-! sorted pairs -/
/-- who suits whom, by the law's own look -/
def sP (rows : List (Str × List Str)) (emps : List Str) (a b : Str) : Bool := ltS a b && (decide (b ∈ folk rows) && decide (a ∈ wantsL rows emps b))
def prs0 (rows : List (Str × List Str)) (emps : List Str) (l : List Str) : List (Str × Str) := l.flatMap fun a => ((wantsL rows emps a).filter (sP rows emps a)).map fun b => (a, b)
end
end Hn
/-! Hs8: sheets of the laws, and what most tells of them. -/
namespace Hn
open PySem PySem.Spec PyProof.Rows L2 Sm
/-- all names that are drawn -/
def allN : List Str := ["a", "ann", "b", "bob", "c", "cat", "dan", "eve", "fay", "new", "old", "x", "zzzzzzzz"]
/-- a sheet of few households -/
structure Gs8 (rows : List (Str × List Str)) (emps : List Str) : Prop where
  nd : (folk rows ++ emps).Nodup
  ok : ∀ r ∈ rows, PyData.strOk r.1 = true ∧ ∀ x ∈ r.2, PyData.strOk x = true
  oke : ∀ x ∈ emps, PyData.strOk x = true
  wn : ∀ r ∈ rows, r.2.Nodup
  wl : ∀ r ∈ rows, r.2.length ≤ 11
  z : rows.length ≤ 8
  ze : emps.length ≤ 20
  af : Asc (folk rows)
  aw : ∀ r ∈ rows, Asc r.2
  ns : ∀ r ∈ rows, r.1 ∉ r.2
  nm : ∀ r ∈ rows, r.1 ∈ allN
theorem tps_strs' : ∀ l : List Str, tps (l.map .str) = l.map .str
  | [] => rfl
  | a :: l => by
    show Dt.str a :: tps (l.map .str) = _
    rw [tps_strs' l]
    rfl
theorem tps_rows' : ∀ l : List (Str × List Str), tps (l.map row) = l.map row
  | [] => rfl
  | a :: l => by
    show tp (row a) :: tps (l.map row) = _
    rw [tps_rows' l]
    show Dt.tup [.str a.1, .tup (tps (a.2.map .str))] :: _ = _
    rw [tps_strs']
    rfl
theorem tx_strs' {l : List Str} (h : ∀ s ∈ l, PyData.strOk s = true) (hz : l.length ≤ 1000) : Tx 1 (tupS l) :=
  .inr ⟨_, .inl rfl, by rw [List.length_map]; exact hz, fun x hx => by
    obtain ⟨s, hs, rfl⟩ := List.mem_map.mp hx
    exact ⟨s, h s hs, rfl⟩⟩
theorem Tx.ups {n m : Nat} {t : Dt} (h : Tx n t) (hm : n ≤ m) : Tx m t := by
  induction hm with
  | refl => exact h
  | step _ ih => exact ih.up
section
variable {rows : List (Str × List Str)} {emps gone : List Str}
theorem Gs8.ndf (h : Gs8 rows emps) : (folk rows).Nodup := (List.nodup_append.mp h.nd).1
theorem Gs8.tx (h : Gs8 rows emps) : Tx 4 (shD rows emps) := by
  have t1 : Tx 3 (tupS emps) := (tx_strs' h.oke (by have := h.ze; omega)).ups (by omega)
  have t2 : ∀ e ∈ rows, Tx 2 (row e) := fun e he => by
    obtain ⟨a, c⟩ := h.ok e he
    refine .inr ⟨_, .inl rfl, by show 2 ≤ 1000; omega, fun x hx => ?_⟩
    rcases List.mem_cons.mp hx with rfl | hx
    · exact .inl ⟨e.1, a, rfl⟩
    · rcases List.mem_cons.mp hx with rfl | hx
      · exact tx_strs' c (by have := h.wl e he; omega)
      · exact absurd hx List.not_mem_nil
  have t3 : Tx 3 (.tup (rows.map row)) := .inr ⟨_, .inl rfl, by rw [List.length_map]; have := h.z; omega, fun x hx => by
    obtain ⟨e, he, rfl⟩ := List.mem_map.mp hx
    exact t2 e he⟩
  exact .inr ⟨_, .inl rfl, by show 2 ≤ 1000; omega, fun x hx => by
    rcases List.mem_cons.mp hx with rfl | hx
    · exact t3
    · rcases List.mem_cons.mp hx with rfl | hx
      · exact t1
      · exact absurd hx List.not_mem_nil⟩
theorem Gs8.tp (h : Gs8 rows emps) : tp (shD rows emps) = shD rows emps := by
  show Dt.tup [.tup (tps (rows.map row)), .tup (tps (emps.map .str))] = _
  rw [tps_rows', tps_strs']
theorem Gs8.sd (h : Gs8 rows emps) : Sd (shD rows emps) rows emps := ⟨h.tx.ups (by omega), h.tp, h.nd, by have := h.z; omega, by have := h.ze; omega, fun r hr => by have := h.wl r hr; omega⟩
theorem Nm.tup {l : List Str} (h : ∀ s ∈ l, PyData.strOk s = true) (hz : l.length ≤ 1000) : Nm (tupS l) l := .of ((tx_strs' h hz).ups (by omega)) (by
  show Dt.tup (tps (l.map .str)) = _
  rw [tps_strs']) hz
theorem Nm.lst {l : List Str} (h : ∀ s ∈ l, PyData.strOk s = true) (hz : l.length ≤ 1000) : Nm (lstS l) l := .of ((show Tx 1 (lstS l) from .inr ⟨_, .inr rfl, by rw [List.length_map]; exact hz, fun x hx => by
    obtain ⟨s, hs, rfl⟩ := List.mem_map.mp hx
    exact ⟨s, h s hs, rfl⟩⟩).ups (by omega)) (by
  show Dt.tup (tps (l.map .str)) = _
  rw [tps_strs']) hz
theorem lt_tri {a b : Str} (h : a ≠ b) : ltS a b = true ∨ ltS b a = true := by
  by_cases h1 : a.cps.toList < b.cps.toList
  · exact .inl (decide_eq_true h1)
  · by_cases h2 : b.cps.toList < a.cps.toList
    · exact .inr (decide_eq_true h2)
    · refine absurd (leS_anti (a := a) (b := b) ?_ ?_) h
      · unfold leS
        simp [h2]
      · unfold leS
        simp [h1]
theorem lt_ne {a b : Str} (h : ltS a b = true) : a ≠ b := fun e => by
  subst e
  exact List.lt_irrefl _ (of_decide_eq_true h)
theorem mem_prs0 {p : Str × Str} {l : List Str} : p ∈ prs0 rows emps l ↔ p.1 ∈ l ∧ p.2 ∈ wantsL rows emps p.1 ∧ sP rows emps p.1 p.2 = true := by
  unfold prs0
  rw [List.mem_flatMap]
  constructor
  · rintro ⟨a, ha, h⟩
    obtain ⟨b, hb, rfl⟩ := List.mem_map.mp h
    obtain ⟨h1, h2⟩ := List.mem_filter.mp hb
    exact ⟨ha, h1, h2⟩
  · rintro ⟨h1, h2, h3⟩
    exact ⟨p.1, h1, List.mem_map.mpr ⟨p.2, List.mem_filter.mpr ⟨h2, h3⟩, rfl⟩⟩
theorem mem_wants {x y : Str} : y ∈ wantsL rows emps x ↔ y ∈ lk rows x ∧ y ∈ folk rows ++ emps := by
  unfold wantsL
  rw [List.mem_filter, decide_eq_true_eq]
theorem mem_prs {a b : Str} (ha : a ∈ folk rows) : (a, b) ∈ prs0 rows emps (folk rows) ↔ ltS a b = true ∧ b ∈ folk rows ∧ b ∈ lk rows a ∧ a ∈ lk rows b := by
  rw [mem_prs0]
  unfold sP
  rw [Bool.and_eq_true, Bool.and_eq_true, decide_eq_true_eq, decide_eq_true_eq, mem_wants, mem_wants]
  constructor
  · rintro ⟨_, ⟨h1, _⟩, h2, h3, h4, _⟩
    exact ⟨h2, h3, h1, h4⟩
  · rintro ⟨h1, h2, h3, h4⟩
    exact ⟨ha, ⟨h3, List.mem_append_left _ h2⟩, h1, h2, h4, List.mem_append_left _ ha⟩
theorem lk_nodup (h : ∀ r ∈ rows, r.2.Nodup) {x : Str} (hx : x ∈ folk rows) : (lk rows x).Nodup := h _ (lk_mem hx)
theorem prs0_nodup (h : Gs8 rows emps) : ∀ l : List Str, (∀ x ∈ l, x ∈ folk rows) → l.Nodup → (prs0 rows emps l).Nodup
  | [], _, _ => List.nodup_nil
  | a :: l, hl, nd => by
    obtain ⟨n1, n2⟩ := List.nodup_cons.mp nd
    have ih := prs0_nodup h l (fun x hx => hl x (List.mem_cons_of_mem _ hx)) n2
    have e : prs0 rows emps (a :: l) = (((wantsL rows emps a).filter (sP rows emps a)).map fun b => (a, b)) ++ prs0 rows emps l := by
      unfold prs0
      rw [List.flatMap_cons]
    rw [e, List.nodup_append]
    refine ⟨?_, ih, fun p hp q hq z => ?_⟩
    · have hw : ((wantsL rows emps a).filter (sP rows emps a)).Nodup := ((lk_nodup h.wn (hl a List.mem_cons_self)).filter _).filter _
      exact List.Pairwise.map _ (fun x y hxy z => hxy (by injection z)) hw
    · obtain ⟨b, _, rfl⟩ := List.mem_map.mp hp
      subst z
      exact n1 (mem_prs0.mp hq).1
theorem prs0_few (h : Gs8 rows emps) : (prs0 rows emps (folk rows)).length ≤ 64 := by
  have key : ∀ l : List Str, (∀ x ∈ l, x ∈ folk rows) → (prs0 rows emps l).length ≤ 8 * l.length := fun l => by
    induction l with
    | nil => exact fun _ => Nat.le_refl _
    | cons a l ih =>
      intro hl
      have i := ih fun x hx => hl x (List.mem_cons_of_mem _ hx)
      have e : prs0 rows emps (a :: l) = (((wantsL rows emps a).filter (sP rows emps a)).map fun b => (a, b)) ++ prs0 rows emps l := by
        unfold prs0
        rw [List.flatMap_cons]
      have hw : ((wantsL rows emps a).filter (sP rows emps a)).length ≤ (folk rows).length := List.Nodup.length_le_of_subset (((lk_nodup h.wn (hl a List.mem_cons_self)).filter _).filter _) fun x hx => by
        have := (List.mem_filter.mp hx).2
        unfold sP at this
        rw [Bool.and_eq_true, Bool.and_eq_true, decide_eq_true_eq] at this
        exact this.2.1
      rw [List.length_map] at hw
      have := h.z
      rw [e, List.length_append, List.length_map, List.length_cons, Nat.mul_succ]
      omega
  have := key (folk rows) fun _ h => h
  rw [List.length_map] at this
  have := h.z
  omega
def apartL (P : List (Str × Str)) (gone : List Str) : List (Str × Str) := P.filter fun p => !decide (p.1 ∈ gone) && !decide (p.2 ∈ gone)
structure Best (P : List (Str × Str)) (k : Int) : Prop where
  top : (∀ m ∈ allM P, (m.length : Int) ≤ k) ∧ ∃ m ∈ allM P, (m.length : Int) = k
  len : (allM P).length ≤ 16777216
  ok : ∀ p ∈ P, okP p
  z : P.length ≤ 64
theorem best_of (h : Gs8 rows emps) {P : List (Str × Str)} (hp : P.Perm (prs0 rows emps (folk rows))) : Best (apartL P gone) (mostV (near rows gone) (nms rows gone)) := by
  have memP : ∀ p ∈ P, p.1 ∈ folk rows ∧ p.2 ∈ folk rows ∧ ltS p.1 p.2 = true := fun p hpp => by
    have h1 := hp.mem_iff.mp hpp
    have h2 := (mem_prs0.mp h1).1
    obtain ⟨h3, h4, _, _⟩ := (mem_prs (b := p.2) h2).mp h1
    exact ⟨h2, h4, h3⟩
  have memA : ∀ p ∈ apartL P gone, p ∈ P ∧ p.1 ∉ gone ∧ p.2 ∉ gone := fun p hpp => by
    obtain ⟨h1, h2⟩ := List.mem_filter.mp hpp
    simp only [Bool.and_eq_true, Bool.not_eq_true', decide_eq_false_iff_not] at h2
    exact ⟨h1, h2.1, h2.2⟩
  have inA : ∀ p ∈ P, p.1 ∉ gone → p.2 ∉ gone → p ∈ apartL P gone := fun p h1 h2 h3 => List.mem_filter.mpr ⟨h1, by simp [h2, h3]⟩
  have inN : ∀ x, x ∈ nms rows gone ↔ x ∈ folk rows ∧ x ∉ gone := fun x => by
    unfold nms
    rw [List.mem_filter]
    simp
  have nd : (apartL P gone).Nodup := (hp.nodup_iff.mpr (prs0_nodup h _ (fun _ h => h) h.ndf)).filter _
  have fit : Fit (apartL P gone) (near rows gone) (nms rows gone) := ⟨fun p hpp => lt_ne (memP p (memA p hpp).1).2.2, fun a ha o ho hne => by
    obtain ⟨a1, a2⟩ := (inN a).mp ha
    obtain ⟨o1, o2⟩ := (inN o).mp ho
    have e1 : o ∈ near rows gone a ↔ o ∈ lk rows a ∧ a ∈ lk rows o := by
      unfold near suited suits
      rw [List.mem_filter, List.mem_filter]
      simp only [Bool.and_eq_true, Bool.not_eq_true', decide_eq_false_iff_not, decide_eq_true_eq]
      exact ⟨fun z => ⟨z.1.1, z.1.2.2.2⟩, fun z => ⟨⟨z.1, o1, z.1, z.2⟩, o2⟩⟩
    rw [e1]
    constructor
    · rintro ⟨z1, z2⟩
      rcases lt_tri hne with l | l
      · exact .inl (inA _ (hp.mem_iff.mpr ((mem_prs a1).mpr ⟨l, o1, z1, z2⟩)) a2 o2)
      · exact .inr (inA _ (hp.mem_iff.mpr ((mem_prs o1).mpr ⟨l, a1, z2, z1⟩)) o2 a2)
    · rintro (z | z)
      · obtain ⟨_, _, z1, z2⟩ := (mem_prs a1).mp (hp.mem_iff.mp (memA _ z).1)
        exact ⟨z1, z2⟩
      · obtain ⟨_, _, z1, z2⟩ := (mem_prs o1).mp (hp.mem_iff.mp (memA _ z).1)
        exact ⟨z2, z1⟩⟩
  have ndn : (nms rows gone).Nodup := h.ndf.filter _
  have top := allM_top fit nd ndn fun p hpp => by
    obtain ⟨h1, h2, h3⟩ := memA p hpp
    exact ⟨(inN _).mpr ⟨(memP p h1).1, h2⟩, (inN _).mpr ⟨(memP p h1).2.1, h3⟩⟩
  have hz : (apartL P gone).length ≤ 64 := Nat.le_trans (List.length_filter_le _ _) (by rw [hp.length_eq]; exact prs0_few h)
  refine ⟨top, allM_len hz fun m hm => ?_, fun p hpp => ?_, hz⟩
  · have h1 := top.1 m hm
    have h2 := (mostV_half (near rows gone) _ (nms rows gone) (Nat.le_refl _)).1
    have h3 : (nms rows gone).length ≤ (folk rows).length := List.length_filter_le _ _
    rw [List.length_map] at h3
    have := h.z
    omega
  · obtain ⟨h1, h2, _⟩ := memP p (memA p hpp).1
    exact ⟨(h.ok _ (lk_mem h1)).1, (h.ok _ (lk_mem h2)).1⟩
end
end Hn
/-! Ht1: more of Swapping: behind, firsts, least, open ones, partners. -/
namespace Hn
open PySem PySem.Spec PyProof.Rows L2 Sm
section
variable {S : Sto} {n : Nat} {rows : List (Str × List Str)} {emps gone : List Str}
/-- a sheet few enough, with its Swapping -/
structure Sw8 (rows : List (Str × List Str)) (gone : List Str) : Prop where
  wl : ∀ r ∈ rows, r.2.length ≤ 11
  z : rows.length ≤ 8
  ok : ∀ r ∈ rows, PyData.strOk r.1 = true
theorem Gs8.sw (h : Gs8 rows emps) : Sw8 rows gone := ⟨h.wl, h.z, fun r hr => (h.ok r hr).1⟩
end
end Hn
/-! Ht2: least, open ones, partners. -/
namespace Hn
open PySem PySem.Spec PyProof.Rows L2 Sm
section
variable {S : Sto} {n : Nat} {rows : List (Str × List Str)} {gone : List Str}
end
end Hn
/-! Ht3: the order of pairs and of lists of pairs. -/
namespace Hn
open PySem PySem.Spec PyProof.Rows L2 Sm
def ltQ (p q : Str × Str) : Bool := if p.1 = q.1 then ltS p.2 q.2 else ltS p.1 q.1
section
variable {rows : List (Str × List Str)} {gone : List Str}
end
end Hn
/-! Ht4: the least way is the least of all. -/
namespace Hn
open PySem PySem.Spec PyProof.Rows L2 Sm
section
variable {rows : List (Str × List Str)} {gone : List Str}
end
end Hn
/-! Hl1: sheets by pairs: linked. -/
namespace Hn
open PySem PySem.Spec PyProof.Rows L2 Sm
abbrev evens (a n : Nat) : List Dv := (List.range' a n).map fun i => .loc (2 * i)
/-- the table: its boxes by name -/
structure Tb (L : List Str) (adj : Str → List Str) (S : Sto) : Prop where
  d : S[2 * L.length + 1]? = some (.dct (kS L) (evens 0 L.length))
  b : ∀ i s, L[i]? = some s → S[2 * i]? = some (bx (adj s))
section
variable {L : List Str} {adj : Str → List Str} {S : Sto}
theorem Tb.ix (T : Tb L adj S) (nd : L.Nodup) {i : Nat} {s : Str} (h : L[i]? = some s) : pIx (.loc (2 * L.length + 1)) (.d (.str s)) S = some (.loc (2 * i), S) := by
  have e : dctAt S (.loc (2 * L.length + 1)) = some (kS L, evens 0 L.length) := by
    unfold dctAt
    simp only [T.d]
  have e2 := dlook_at (f := fun i => Dv.loc (2 * i)) (a := 0) nd h
  rw [Nat.zero_add] at e2
  unfold pIx
  simp only [e, show kOf (.d (.str s)) = some (.inr s) from rfl, e2]
/-- pairs put into the table -/
def addP (adj : Str → List Str) (p : Str × Str) : Str → List Str := fun x => if x = p.2 then (if x = p.1 then adj x ++ [p.2] else adj x) ++ [p.1] else if x = p.1 then adj x ++ [p.2] else adj x
def linkR (L : List Str) (ps : List (Str × Str)) : List (Str × List Str) := (sortS L).map fun x => (x, sortS (ps.foldl addP (fun _ => []) x))
/-- the line is a text, or a list of texts -/
structure Ln (line : Dt) (L : List Str) : Prop where
  any : anyOf (.d line) = some (L.map .str)
  srt : ∀ S : Sto, pSortedA [.d line] S = some (.d (.lst ((sortS L).map .str)), S)
end
end Hn
/-! Hl2: sheets by pairs are sheets; sorting by putting in. -/
namespace Hn
open PySem PySem.Spec PyProof.Rows L2 Sm
def putS (a : Str) : List Str → List Str
  | [] => [a]
  | b :: l => if leS a b = true then a :: b :: l else b :: putS a l
theorem Ln.lst {L : List Str} (hz : L.length ≤ 1000) : Ln (lstS L) L := ⟨rfl, fun S => by
  have e : srtOf S (.d (lstS L)) = some (L.map .str) := seqT_lst
  unfold pSortedA
  simp only [e]
  rw [if_pos (sortChk_strs hz), sort_strs]⟩
theorem Ln.str {z : Str} {L : List Str} (h : Sm.signs z = L.map .str) (hz : z.length ≤ 16777216) (hz2 : L.length ≤ 1000) : Ln (.str z) L := ⟨by
  show some (Sm.signs z) = _
  rw [h], fun S => by
  have e : srtOf S (.d (.str z)) = some (L.map .str) := by
    show (if z.length ≤ 16777216 then some (Sm.signs z) else none) = _
    rw [if_pos hz, h]
  unfold pSortedA
  simp only [e]
  rw [if_pos (sortChk_strs hz2), sort_strs]⟩
def oth (x : Str) (p : Str × Str) : Option Str := if x = p.1 then some p.2 else if x = p.2 then some p.1 else none
structure Pr (L : List Str) (ps : List (Str × Str)) : Prop where
  nd : L.Nodup
  ok : ∀ x ∈ L, PyData.strOk x = true
  nm : ∀ x ∈ L, x ∈ allN
  mem : ∀ p ∈ ps, p.1 ∈ L ∧ p.2 ∈ L ∧ p.1 ≠ p.2
  sep : ps.Pairwise fun p q => p ≠ q ∧ p ≠ (q.2, q.1)
  z : L.length ≤ 8
  z2 : ps.length ≤ 400
theorem adj_is (x : Str) : ∀ (ps : List (Str × Str)) (adj : Str → List Str), (∀ p ∈ ps, p.1 ≠ p.2) → ps.foldl addP adj x = adj x ++ ps.filterMap (oth x)
  | [], adj, _ => by simp
  | p :: ps, adj, h => by
    have ih := adj_is x ps (addP adj p) fun q hq => h q (List.mem_cons_of_mem _ hq)
    show ps.foldl addP (addP adj p) x = _
    rw [ih, List.filterMap_cons]
    have hne := h p List.mem_cons_self
    unfold oth addP
    by_cases h1 : x = p.1
    · have h2 : ¬ x = p.2 := fun z => hne (h1.symm.trans z)
      simp [h1, hne]
    · by_cases h2 : x = p.2
      · have h3 : ¬ p.2 = p.1 := fun z => hne z.symm
        simp [h2, h3]
      · simp [h1, h2]
theorem oth_some {x y : Str} {p : Str × Str} (h : oth x p = some y) : p = (x, y) ∨ p = (y, x) := by
  unfold oth at h
  split at h
  · rename_i e
    cases h
    exact .inl (by rw [e])
  · split at h
    · rename_i e
      cases h
      exact .inr (by rw [e])
    · cases h
section
variable {L : List Str} {ps : List (Str × Str)}
theorem Pr.adj_nodup (h : Pr L ps) (x : Str) : (ps.filterMap (oth x)).Nodup := by
  refine List.Pairwise.filterMap (oth x) (fun p q hpq y hy y' hy' e => ?_) h.sep
  subst e
  rcases oth_some hy with rfl | rfl <;> rcases oth_some hy' with rfl | rfl
  · exact hpq.1 rfl
  · exact hpq.2 rfl
  · exact hpq.2 rfl
  · exact hpq.1 rfl
theorem Pr.adj_sub (h : Pr L ps) {x y : Str} (hy : y ∈ ps.filterMap (oth x)) : y ∈ L := by
  obtain ⟨p, hp, e⟩ := List.mem_filterMap.mp hy
  obtain ⟨h1, h2, _⟩ := h.mem p hp
  rcases oth_some e with rfl | rfl
  · exact h2
  · exact h1
theorem Pr.gs (h : Pr L ps) : Gs8 (linkR L ps) [] := by
  have ef : folk (linkR L ps) = sortS L := by
    unfold linkR folk
    rw [List.map_map]
    exact List.map_id _
  have hr : ∀ r ∈ linkR L ps, r.1 ∈ L ∧ r.2 = sortS (ps.filterMap (oth r.1)) := fun r hr => by
    obtain ⟨x, hx, rfl⟩ := List.mem_map.mp hr
    refine ⟨(sortS_perm L).mem_iff.mp hx, ?_⟩
    show sortS (ps.foldl addP (fun _ => []) x) = _
    rw [adj_is x ps _ fun p hp => (h.mem p hp).2.2, List.nil_append]
  refine ⟨?_, fun r hr' => ?_, fun x hx => absurd hx List.not_mem_nil, fun r hr' => ?_, fun r hr' => ?_, ?_, Nat.zero_le _, by rw [ef]; exact asc_sort h.nd, fun r hr' => by rw [(hr r hr').2]; exact asc_sort (h.adj_nodup _), fun r hr' z => ?_, fun r hr' => h.nm _ (hr r hr').1⟩
  · rw [List.append_nil, ef]
    exact (sortS_perm L).nodup_iff.mpr h.nd
  · obtain ⟨h1, h2⟩ := hr r hr'
    refine ⟨h.ok _ h1, fun y hy => ?_⟩
    rw [h2] at hy
    exact h.ok _ (h.adj_sub ((sortS_perm _).mem_iff.mp hy))
  · rw [(hr r hr').2]
    exact (sortS_perm _).nodup_iff.mpr (h.adj_nodup _)
  · rw [(hr r hr').2, (sortS_perm _).length_eq]
    have := List.Nodup.length_le_of_subset (h.adj_nodup r.1) fun y hy => h.adj_sub hy
    have := h.z
    omega
  · unfold linkR
    rw [List.length_map, (sortS_perm L).length_eq]
    exact h.z
  · rw [(hr r hr').2] at z
    obtain ⟨p, hp, e⟩ := List.mem_filterMap.mp ((sortS_perm _).mem_iff.mp z)
    rcases oth_some e with rfl | rfl
    · exact (h.mem _ hp).2.2 rfl
    · exact (h.mem _ hp).2.2 rfl
end
end Hn
/-! Hl3: same, of all plain things. -/
namespace Hn
open PySem PySem.Spec PyProof.Rows L2 Sm
def Atm (t : Dt) : Prop := (∃ s, PyData.strOk s = true ∧ t = .str s) ∨ (∃ i : Int, t = .int i) ∨ (∃ b : Bool, t = .bl b) ∨ t = .non
/-- plain things in lists and tuples, of nesting at most n -/
def Ty : Nat → Dt → Prop
  | 0, t => Atm t
  | n + 1, t => Atm t ∨ ∃ xs, (t = .tup xs ∨ t = .lst xs) ∧ xs.length ≤ 1000 ∧ ∀ x ∈ xs, Ty n x
theorem Ty.up : ∀ {n : Nat} {t : Dt}, Ty n t → Ty (n + 1) t
  | 0, t, h => .inl h
  | n + 1, t, .inl h => .inl h
  | n + 1, t, .inr ⟨xs, h, hz, hx⟩ => .inr ⟨xs, h, hz, fun x m => (hx x m).up⟩
theorem Ty.ups {n m : Nat} {t : Dt} (h : Ty n t) (hm : n ≤ m) : Ty m t := by
  induction hm with
  | refl => exact h
  | step _ ih => exact ih.up
end Hn
/-! Hu1: the law's own best. -/
namespace Hn
open PySem PySem.Spec PyProof.Rows L2 Sm
section
variable {rows : List (Str × List Str)} {emps gone : List Str}
end
end Hn
/-! Hu2: sheets by hand, and what is asked of plain things. -/
namespace Hn
open PySem PySem.Spec PyProof.Rows L2 Sm
theorem pt1 {a : Dt} {S : Sto} : pTup [.d a] S = some (.d (.tup [a]), S) := rfl
theorem pt2 {a b : Dt} {S : Sto} : pTup [.d a, .d b] S = some (.d (.tup [a, b]), S) := rfl
end Hn
/-! Hv1: open ones, partners; comprehensions that go on knowing. -/
namespace Hn
open PySem PySem.Spec PyProof.Rows L2 Sm
section
variable {S : Sto} {n : Nat} {rows : List (Str × List Str)} {emps gone : List Str}
end
end Hn
/-! Hv2: plain things compared with []; who is moved; open ones by the law's own look. -/
namespace Hn
open PySem PySem.Spec PyProof.Rows L2 Sm
section
variable {rows : List (Str × List Str)} {gone : List Str}
end
end Hn
/-! Hx0: how many ways there are: at most 764. -/
namespace Hn
open PySem PySem.Spec PyProof.Rows L2 Sm
/-- a way over V, in order -/
structure Wy (V : List Str) (m : List (Str × Str)) : Prop where
  dj : m.Pairwise Dj
  ri : m.Pairwise fun a b => ltQ a b = true
  all : ∀ p ∈ m, p.1 ∈ V ∧ p.2 ∈ V ∧ ltS p.1 p.2 = true
end Hn
/-! Hv3: the law's own best, with its order; who is met. -/
namespace Hn
open PySem PySem.Spec PyProof.Rows L2 Sm
section
variable {rows : List (Str × List Str)} {emps gone : List Str}
end
end Hn
/-! Hv4: with whom one swaps in some best choice. -/
namespace Hn
open PySem PySem.Spec PyProof.Rows L2 Sm
section
variable {rows : List (Str × List Str)} {emps gone : List Str}
abbrev two (rows : List (Str × List Str)) (gone : List Str) (a b : Str) : List Str := (nms rows gone).filter fun y => !decide (y ∈ [a, b])
end
end Hn
/-! Hb: the source of draws, and a law from its right half. -/
namespace Hn
open PySem PySem.Spec PyProof.Rows L2 Sm
theorem b2i_small (b : Bool) : -(2 ^ 64) < (if b then (1 : Int) else 0) ∧ (if b then (1 : Int) else 0) < 2 ^ 64 := by
  cases b <;> decide
theorem box_ok {c : Int} (hc0 : 0 ≤ c) (hc1 : c < 1000000000) {cs : List Int} {k : Nat} (hk : k < 100) {S : Sto} : ∃ o : Bo, runB 3 2 (boxM c) [.d (.lst (dI cs)), .d (.int (k : Int))] S = .ok (.loc S.length) (S ++ [o]) ∧ Urn o 1000000 := by
  have hcell : ∃ x : Int, mIf (mTst (m2 pLt (mV 1) (mN pLen (aCons (mV 0) (aNil))))) (m2 pIx (mV 0) (mV 1)) (mC (.int 0)) [some (.d (.lst (dI cs))), some (.d (.int (k : Int))), none] S = .ok (.d (.int x)) S := by
    have hl : pLen [.d (.lst (dI cs))] S = some (.d (.int ((dI cs).length : Int)), S) := by
      simp [pLen, dctAt, seqAt, lstAt]
    by_cases h : k < cs.length
    · refine ⟨cs[k], ?_⟩
      have hx : pIx (.d (.lst (dI cs))) (.d (.int (k : Int))) S = some (.d (.int cs[k]), S) := by
        have : atI ((dI cs).map Dv.d) (k : Int) = some (.d (.int cs[k])) := by
          rw [dI_d]
          exact atI_nat (dvI_get h)
        simp only [pIx, dctAt, seqAt, lstAt, this]
      have hc : pLt (.d (.int (k : Int))) (.d (.int ((dI cs).length : Int))) S = some (.d (.bl true), S) := by
        unfold pLt pCmp dI
        simp [h]
      simp only [mIf_s, mTst_s, m2_s, mN_s, mV_s, aCons_s, aNil_s, List.getElem?_cons_zero, List.getElem?_cons_succ, bind_ok, hl, Sm.lift_some, hc, toB_s, li_some, if_true, hx]
    · refine ⟨0, ?_⟩
      have hc : pLt (.d (.int (k : Int))) (.d (.int ((dI cs).length : Int))) S = some (.d (.bl false), S) := by
        unfold pLt pCmp dI
        simp [h]
      simp only [mIf_s, mTst_s, m2_s, mN_s, mV_s, mC_s, aCons_s, aNil_s, List.getElem?_cons_zero, List.getElem?_cons_succ, bind_ok, hl, Sm.lift_some, hc, toB_s, li_some]
      rfl
  obtain ⟨x, hx⟩ := hcell
  have e1 : mulOk (if x < 0 then -x else x) (if decide (10 ^ 18 ≤ (if x < 0 then -x else x)) = true then 1 else 0) = true := small_mul (b2i_small _)
  have e2 : mulOk 39373 (k : Int) = true := small_mul (by omega)
  have h0 : 0 ≤ x % 2305843009213693951 := Int.emod_nonneg _ (by omega)
  have h1 : x % 2305843009213693951 < 2305843009213693951 := Int.emod_lt_of_pos _ (by omega)
  refine ⟨.lst [.d (.int ((if x < 0 then -x else x) * (if decide (10 ^ 18 ≤ (if x < 0 then -x else x)) = true then 1 else 0))), .d (.int (x % 2305843009213693951 + 39373 * k + c)), .d (.int 0)], ?_, _, _, 0, rfl, ?_, by omega, by omega, by omega, by omega⟩
  · refine runB_rt (ds := [.d (.lst (dI cs)), .d (.int (k : Int))]) rfl ?_
    show boxM c [some (.d (.lst (dI cs))), some (.d (.int (k : Int))), none] S = _
    unfold boxM
    rw [sSeq_s, sSet_s, hx, to_ok, sqz_nx]
    have hp : pPow (.d (.int 10)) (.d (.int 18)) S = some (.d (.int (10 ^ 18)), S) := by
      have hd : decide (0 ≤ (18 : Int) ∧ (18 : Int) ≤ 1000000 ∧ (10 : Int).natAbs < 2 ^ 64) = true := by decide
      show (if decide (0 ≤ (18 : Int) ∧ (18 : Int) ≤ 1000000 ∧ (10 : Int).natAbs < 2 ^ 64) = true then some (Dv.d (.int (10 ^ (18 : Int).toNat)), S) else none) = _
      rw [if_pos hd]
      rfl
    have ha : pAbs [.d (.int x)] S = some (.d (.int (if x < 0 then -x else x)), S) := rfl
    generalize hy : (if x < 0 then -x else x) = y at *
    have hg : pGe (.d (.int y)) (.d (.int (10 ^ 18))) S = some (.d (.bl (decide (10 ^ 18 ≤ y))), S) := rfl
    have hi : pInt [.d (.bl (decide (10 ^ 18 ≤ y)))] S = some (.d (.int (if decide (10 ^ 18 ≤ y) = true then 1 else 0)), S) := rfl
    have hm1 : pMul (.d (.int y)) (.d (.int (if decide (10 ^ 18 ≤ y) = true then 1 else 0))) S = some (.d (.int (y * (if decide (10 ^ 18 ≤ y) = true then 1 else 0))), S) := if_pos e1
    have hm2 : pMul (.d (.int 39373)) (.d (.int (k : Int))) S = some (.d (.int (39373 * k)), S) := show (if mulOk 39373 (k : Int) = true then some (Dv.d (Dt.int (39373 * k)), S) else none) = _ from if_pos e2
    have hii : pInt [.d (.int x)] S = some (.d (.int x), S) := rfl
    have hmd : pMod (.d (.int x)) (.d (.int 2305843009213693951)) S = some (.d (.int (x % 2305843009213693951)), S) := show (if (0 : Int) < 2305843009213693951 then some (Dv.d (Dt.int (x % 2305843009213693951)), S) else none) = _ from if_pos (by omega)
    have ha1 : ∀ i j : Int, pAdd (.d (.int i)) (.d (.int j)) S = some (.d (.int (i + j)), S) := fun _ _ => rfl
    have hB : ∀ a b c : Dv, pLstB [a, b, c] S = some (.loc S.length, S ++ [.lst [a, b, c]]) := fun a b c => if_pos (show 3 ≤ 16777216 by omega)
    have hset : ([some (Dv.d (.lst (dI cs))), some (Dv.d (.int (k : Int))), none] : Sm.Env).set 2 (some (.d (.int x))) = [some (Dv.d (.lst (dI cs))), some (Dv.d (.int (k : Int))), some (.d (.int x))] := rfl
    rw [hset]
    simp only [sRet_s, mN_s, m2_s, mC_s, aCons_s, mV_s, aNil_s, List.getElem?_cons_zero, List.getElem?_cons_succ, bind_ok, ha, Sm.lift_some, hp, hg, hi, hm1, hm2, hii, hmd, ha1, hB, to_ok]
  · refine Int.mul_nonneg (by split <;> omega) (by split <;> omega)
end Hn
/-! Hx1: walking on from statement to statement; by hand, by the kernel; the turns of a law. -/
namespace Hn
open PySem PySem.Spec PyProof.Rows L2 Sm
def okT (r : Rz Dv) : Bool := match r with
  | .ok (.d (.bl b)) _ => b
  | _ => false
/-- what a statement leads to -/
def Wq (Q : Sz → Prop) (r : Sz) : Prop := Q r
section
variable {Q : Sz → Prop} {a b c : SM} {ρ ρ1 ρ2 : Sm.Env} {S S1 S2 : Sto} {r : Sz} {g : GM} {it : M (List Dt)} {ts : List Dt} {ζ : Type}
theorem Wq.seq (h : a ρ S = .nx ρ1 S1) (k : Wq Q (b ρ1 S1)) : Wq Q (sSeq a b ρ S) := by
  unfold Wq at *
  rw [sSeq_s, h, sqz_nx]
  exact k
theorem Wq.one (h : a ρ S = r) (k : Q r) : Wq Q (a ρ S) := by
  unfold Wq
  rw [h]
  exact k
theorem st_set {i : Nat} {m : M Dv} {d : Dv} (h : m ρ S = .ok d S1) : sSet i m ρ S = .nx (ρ.set i (some d)) S1 := by
  rw [sSet_s, h, to_ok]
theorem st_ret {m : M Dv} {d : Dv} (h : m ρ S = .ok d S1) : sRet m ρ S = .rt d S1 := by
  rw [sRet_s, h, to_ok]
theorem st_if_f {k : M Bool} (h : k ρ S = .ok false S1) (e : b ρ S1 = r) : sIf k a b ρ S = r := by
  rw [sIf_s, h, to_ok, if_neg (by decide), e]
end
end Hn
/-! Hw1: a drawn sheet, in the other order: its steps. -/
namespace Hw
open PySem PySem.Spec PyProof.Rows L2 Sm Hn
def tAppA : SM := sDrop (mLm pAppend (m2 pIx (mV 6) (m2 pIx (mV 7) (mV 11))) (aCons (mV 13) (aNil)))
def tAppB : SM := sDrop (mLm pAppend (m2 pIx (mV 6) (mV 13)) (aCons (m2 pIx (mV 7) (mV 11)) (aNil)))
def tB : SM := sSeq (sSet 14 (mF F__law_take (aCons (mV 0) (aCons (mV 10) (aNil)))))
    (sSeq (sIf (cOr (mTst (m2 pEq (mV 14) (mC (.int 0)))) (cAnd (mTst (m2 pEq (mV 14) (mC (.int 1)))) (mTst (m2 pGt (mV 9) (mC (.int 0)))))) tAppA (sNil))
    (sIf (cOr (mTst (m2 pEq (mV 14) (mC (.int 0)))) (cAnd (mTst (m2 pEq (mV 14) (mC (.int 2)))) (mTst (m2 pGt (mV 9) (mC (.int 0)))))) tAppB (sNil)))
def tC : SM := sFor (iSeq (mSl pSl (mV 7) (oPt (m2 pAdd (mV 11) (mC (.int 1)))) (oNo))) (gN 13) tB
def tFil : M Dv := mN pLst (mLcI [16] (iSeq (mFrz (m2 pIx (mV 6) (mV 17)))) (gN 16) (mTst (m2 pNe (mV 16) (mV 17))) (mV 16))
def tRow : M Dv := mN pTup (aCons (mV 17) (aCons (mN pTuple (aCons (m1 pSortSet tFil) (aNil))) (aNil)))
abbrev eR (P1 P2 P5 : Dt) (L : List Str) (n : Nat) (folk emp : List Str) (st wd : Int) (z11 z12 z13 z14 z16 z17 : Option Dv) : Sm.Env :=
  [some (.loc 0), some (.d P1), some (.d P2), some (.d (.lst (L.map .str))), some (.d (.int (n : Int))), some (.d P5), some (.loc 1), some (.d (.lst (folk.map .str))), some (.d (.lst (emp.map .str))), some (.d (.int st)), some (.d (.int wd)), z11, z12, z13, z14, none, z16, z17]
section
variable {P1 P2 P5 : Dt} {L : List Str} {n : Nat} {folk emp : List Str} {st wd : Int} {z11 z12 z13 z14 z16 z17 : Option Dv}
theorem fil_loop {s : Str} (hs : s ∈ pool) : ∀ (l : List Str), (∀ x ∈ l, x ∈ pool) → ∀ S : Sto, lcL (gN 16) (mTst (m2 pNe (mV 16) (mV 17))) (mV 16) (eR P1 P2 P5 L n folk emp st wd z11 z12 z13 z14 none (some (.d (.str s)))) (l.map .str) S = .ok (((l.filter fun x => !decide (x = s)).map .str).map .d) S
  | [], _, S => rfl
  | x :: l, h, S => by
    have ih := fil_loop hs l (fun y hy => h y (List.mem_cons_of_mem _ hy)) S
    have hne : pNe (.d (.str x)) (.d (.str s)) S = some (.d (.bl (!decide (x = s))), S) := ne_s (pool_ok x (h x List.mem_cons_self)) (pool_ok s hs)
    have hc : mTst (m2 pNe (mV 16) (mV 17)) (eR P1 P2 P5 L n folk emp st wd z11 z12 z13 z14 (some (.d (.str x))) (some (.d (.str s)))) S = .ok (!decide (x = s)) S := by
      simp only [mTst_s, m2_s, mV_s, List.getElem?_cons_zero, List.getElem?_cons_succ, bind_ok, hne, Sm.lift_some, toB_s, li_some]
    by_cases e : x = s
    · rw [List.map_cons, lc_no (ρ1 := eR P1 P2 P5 L n folk emp st wd z11 z12 z13 z14 (some (.d (.str x))) (some (.d (.str s)))) rfl (by rw [hc]; simp [e]) ih]
      simp [e]
    · rw [List.map_cons, lc_yes (ρ1 := eR P1 P2 P5 L n folk emp st wd z11 z12 z13 z14 (some (.d (.str x))) (some (.d (.str s)))) rfl (by rw [hc]; simp [e]) (show mV 16 _ S = .ok (.d (.str x)) S from rfl) ih]
      simp [e]
theorem row_ok {o : Bo} {bs : List (List Str)} {k : Nat} {S : Sto} {s : Str} {l : List Str} (K : Kept folk bs o k S) (nd : folk.Nodup) (hs : folk[k]? = some s) (hb : bs[k]? = some l) (pf : ∀ x ∈ folk, x ∈ pool) (g : Gd folk 1000 bs) :
    tRow (eR P1 P2 P5 L n folk emp st wd z11 z12 z13 z14 z16 (some (.d (.str s)))) S = .ok (.d (row (s, ws s l))) (S.set (2 + k) .dead) := by
  obtain ⟨g1, g2⟩ := g l (List.mem_of_getElem? hb)
  have hsp := pf s (List.mem_of_getElem? hs)
  have e1 : pIx (.loc 1) (.d (.str s)) S = some (.loc (2 + k), S) := by
    have := dlook_at (f := Dv.loc) (a := 2) nd hs
    unfold pIx
    have d : dctAt S (.loc 1) = some (kS folk, Hn.locs folk.length) := by
      unfold dctAt
      simp only [K.o1]
    rw [d]
    show (match dlook (kS folk) (Hn.locs folk.length) (.inr s) with
      | some x => some (x, S)
      | none => none) = _
    rw [this]
  have e2 : frz (.loc (2 + k)) S = some (.d (.lst (l.map .str)), S.set (2 + k) .dead) := by
    unfold frz
    simp only [K.bx k l (Nat.le_refl _) hb, pures_bx]
  have it : iSeq (mFrz (m2 pIx (mV 6) (mV 17))) (eR P1 P2 P5 L n folk emp st wd z11 z12 z13 z14 z16 (some (.d (.str s)))) S = .ok (l.map .str) (S.set (2 + k) .dead) := by
    simp only [iSeq_s, mFrz_s, m2_s, mV_s, List.getElem?_cons_zero, List.getElem?_cons_succ, bind_ok, e1, e2, Sm.lift_some]
    rfl
  have lc := fil_loop (P1 := P1) (P2 := P2) (P5 := P5) (L := L) (n := n) (folk := folk) (emp := emp) (st := st) (wd := wd) (z11 := z11) (z12 := z12) (z13 := z13) (z14 := z14) hsp l g2 (S.set (2 + k) .dead)
  have hfl : (l.filter fun x => !decide (x = s)).length ≤ 1000 := Nat.le_trans (List.length_filter_le _ _) g1
  have lc2 : mLcI [16] (iSeq (mFrz (m2 pIx (mV 6) (mV 17)))) (gN 16) (mTst (m2 pNe (mV 16) (mV 17))) (mV 16) (eR P1 P2 P5 L n folk emp st wd z11 z12 z13 z14 z16 (some (.d (.str s)))) S = .ok (((l.filter fun x => !decide (x = s)).map .str).map .d) (S.set (2 + k) .dead) :=
    mLcI_ok it (by rw [List.length_map]; omega) lc
  have e3 : pLst (((l.filter fun x => !decide (x = s)).map Dt.str).map .d) (S.set (2 + k) .dead) = some (.d (.lst ((l.filter fun x => !decide (x = s)).map .str)), S.set (2 + k) .dead) := pLst_d (by rw [List.length_map]; omega)
  have e4 : pSortSet (.d (.lst ((l.filter fun x => !decide (x = s)).map .str))) (S.set (2 + k) .dead) = some (.d (.lst ((ws s l).map .str)), S.set (2 + k) .dead) := by
    unfold pSortSet
    have : (itemsOf (S.set (2 + k) .dead) (.d (.lst ((l.filter fun x => !decide (x = s)).map .str)))).bind strsOf = some (l.filter fun x => !decide (x = s)) := by
      unfold itemsOf
      simp only [dctAt, seqAt, lstAt, pures_d, Option.bind_some, strsOf_map]
    rw [this]
    exact if_pos (by omega)
  have e5 : pTup [.d (.str s), .d (.tup ((ws s l).map .str))] (S.set (2 + k) .dead) = some (.d (row (s, ws s l)), S.set (2 + k) .dead) := rfl
  unfold tRow tFil
  simp only [mN_s, aCons_s, m1_s, mV_s, aNil_s, List.getElem?_cons_zero, List.getElem?_cons_succ, bind_ok, lc2, e3, e4, pTuple_lst, e5, Sm.lift_some]
end
end Hw
/-! Hw2: a drawn sheet, in the other order. -/
namespace Hw
open PySem PySem.Spec PyProof.Rows L2 Sm Hn
end Hw
/-! Hw3: a woven sheet. -/
namespace Hw
open PySem PySem.Spec PyProof.Rows L2 Sm Hn
section
variable {ln : List Str} {wd : Int}
/-- the pairs so far -/
structure Wv (ln : List Str) (k : Nat) (ps : List (Str × Str)) : Prop where
  nd : ps.Nodup
  mem : ∀ p ∈ ps, p.1 ∈ ln.take k ∧ p.2 ∈ ln ∧ ltS p.1 p.2 = true
  z : ps.length ≤ 8 * k
end
end Hw
/-! Hx2: what most turns of the swaps family need. -/
namespace Hn
open PySem PySem.Spec PyProof.Rows L2 Sm
section
variable {rows : List (Str × List Str)} {emps : List Str}
end
end Hn
/-! Hx3: == and in on things without bools. -/
namespace Hn
open PySem PySem.Spec PyProof.Rows L2 Sm
def Atz (t : Dt) : Prop := (∃ s, PyData.strOk s = true ∧ t = .str s) ∨ (∃ i : Int, t = .int i) ∨ t = .non
/-- texts, ints, None, in lists and tuples of nesting at most n -/
def Tz : Nat → Dt → Prop
  | 0, t => Atz t
  | n + 1, t => Atz t ∨ ∃ xs, (t = .tup xs ∨ t = .lst xs) ∧ ∀ x ∈ xs, Tz n x
theorem Tz.up : ∀ {n : Nat} {t : Dt}, Tz n t → Tz (n + 1) t
  | 0, t, h => .inl h
  | n + 1, t, h => h.imp id fun ⟨xs, a, b⟩ => ⟨xs, a, fun x hx => (b x hx).up⟩
theorem Tz.ups {n m : Nat} {t : Dt} (h : Tz n t) (hm : n ≤ m) : Tz m t := by
  induction hm with
  | refl => exact h
  | step _ ih => exact ih.up
theorem Tz.at {n : Nat} {t : Dt} (h : Tz n t) : Atz t ∨ ∃ k xs, n = k + 1 ∧ (t = .tup xs ∨ t = .lst xs) ∧ ∀ x ∈ xs, Tz k x := by
  cases n with
  | zero => exact .inl h
  | succ n => exact h.imp id fun ⟨xs, a, b⟩ => ⟨n, xs, rfl, a, b⟩
theorem Tz.str {s : Str} (h : PyData.strOk s = true) : Tz 0 (.str s) := .inl ⟨s, h, rfl⟩
theorem Tz.int (i : Int) : Tz 0 (.int i) := .inr (.inl ⟨i, rfl⟩)
theorem Tz.non : Tz 0 .non := .inr (.inr rfl)
theorem Tz.tup {n : Nat} {xs : List Dt} (h : ∀ x ∈ xs, Tz n x) : Tz (n + 1) (.tup xs) := .inr ⟨xs, .inl rfl, h⟩
theorem Tz.lst {n : Nat} {xs : List Dt} (h : ∀ x ∈ xs, Tz n x) : Tz (n + 1) (.lst xs) := .inr ⟨xs, .inr rfl, h⟩
theorem Tz.pr {p : Str × Str} (h : okP p) : Tz 1 (prD p) := .tup fun x hx => by
  simp only [List.mem_cons, List.not_mem_nil, or_false] at hx
  rcases hx with rfl | rfl
  · exact .str h.1
  · exact .str h.2
theorem Tz.names {l : List Str} (h : ∀ x ∈ l, PyData.strOk x = true) : Tz 1 (tupS l) := .tup fun x hx => by
  obtain ⟨s, hs, rfl⟩ := List.mem_map.mp hx
  exact .str (h s hs)
end Hn
/-! Hx4: fresh lists, snapshots. -/
namespace Hn
open PySem PySem.Spec PyProof.Rows L2 Sm
section
variable {F : FM} {ts xs : List Dt} {S S1 : Sto} {n : Nat}
end
end Hn
namespace Hn
open PySem PySem.Spec PyProof.Rows L2 Sm
section
variable {B L : Sto} {k : Nat}
end
end Hn
namespace Hn
open PySem PySem.Spec PyProof.Rows L2 Sm
end Hn
namespace Hn
open PySem PySem.Spec PyProof.Rows L2 Sm
end Hn
namespace Hn
open PySem PySem.Spec PyProof.Rows L2 Sm
end Hn
/-! Hx5: drawn sets of households. -/
namespace Hn
open PySem PySem.Spec PyProof.Rows L2 Sm
structure Gone (rows : List (Str × List Str)) (gone : List Str) : Prop where
  sub : gone.Sublist (folk rows)
  z : gone.length ≤ 8
  mem : ∀ x ∈ gone, x ∈ folk rows
  ok : ∀ x ∈ gone, PyData.strOk x = true
theorem Gs8.gone {rows : List (Str × List Str)} {emps gone : List Str} (G : Gs8 rows emps) (h : gone.Sublist (folk rows)) : Gone rows gone :=
  ⟨h, Nat.le_trans h.length_le (by rw [List.length_map]; exact G.z), fun x hx => h.subset hx, fun x hx => (G.ok _ (lk_mem (h.subset hx))).1⟩
theorem Gone.tup {rows : List (Str × List Str)} {gone : List Str} (g : Gone rows gone) : Nm (tupS gone) gone := Nm.tup g.ok (by have := g.z; omega)
theorem Gone.lst {rows : List (Str × List Str)} {gone : List Str} (g : Gone rows gone) : Nm (lstS gone) gone := Nm.lst g.ok (by have := g.z; omega)
end Hn
/-! Hy1: parts of a set, by going on from one to the next; plain. -/
namespace Hn
open PySem PySem.Spec PyProof.Rows L2 Sm
def setS (l : List Str) : List Str := sortS (ddS l)
/-- who is met next -/
def nxt (adj : Str → List Str) (T found new : List Str) : List Str := (setS (new.flatMap adj)).filter fun y => decide (y ∈ T) && !decide (y ∈ found)
/-- going on; n: turns -/
def bfs (adj : Str → List Str) (T : List Str) : Nat → List Str → List Str → List Str
  | 0, found, _ => found
  | n + 1, found, new => if new.isEmpty = true then found else bfs adj T n (found ++ nxt adj T found new) (nxt adj T found new)
/-- what is still to be met -/
def left (T found : List Str) : List Str := T.filter fun y => !decide (y ∈ found)
/-- one leads to the other within T -/
inductive Rc (adj : Str → List Str) (T : List Str) : Str → Str → Prop
  | refl (x : Str) : Rc adj T x x
  | step {x y z : Str} : Rc adj T x y → z ∈ adj y → z ∈ T → Rc adj T x z
/-- the part of x in T -/
def part (adj : Str → List Str) (T : List Str) (x : Str) : List Str := setS (bfs adj T (T.length + 3) [x] [x])
theorem Rc.trans {adj : Str → List Str} {T : List Str} {x y z : Str} (h : Rc adj T x y) (k : Rc adj T y z) : Rc adj T x z := by
  induction k with
  | refl => exact h
  | step _ a b ih => exact .step ih a b
theorem Rc.mem {adj : Str → List Str} {T : List Str} {x y : Str} (h : Rc adj T x y) (hx : x ∈ T) : y ∈ T := by
  cases h with
  | refl => exact hx
  | step _ _ b => exact b
theorem Rc.symm {adj : Str → List Str} {T : List Str} (sy : ∀ x ∈ T, ∀ y ∈ T, y ∈ adj x → x ∈ adj y) {x y : Str} (hx : x ∈ T) (h : Rc adj T x y) : Rc adj T y x := by
  induction h with
  | refl => exact .refl _
  | step r a b ih => exact Rc.trans (.step (.refl _) (sy _ (r.mem hx) _ b a) (r.mem hx)) ih
/-- all parts, as they are met going along l -/
def goAll (adj : Str → List Str) (T : List Str) : List Str → List (List Str) → List (List Str)
  | [], acc => acc
  | x :: l, acc => if (acc.any fun p => decide (x ∈ p)) = true then goAll adj T l acc else goAll adj T l (acc ++ [part adj T x])
def rest (T : List Str) (acc : List (List Str)) : List Str := T.filter fun y => !acc.any fun p => decide (y ∈ p)
/-- the parts of T -/
def parts (adj : Str → List Str) (T : List Str) : List (List Str) := goAll adj T T []
end Hn
/-! Hy2: parts by the program's way. -/
namespace Hn
open PySem PySem.Spec PyProof.Rows L2 Sm
section
variable {S0 : Sto} {n m : Nat} {rows : List (Str × List Str)} {gone : List Str}
end
end Hn
/-! Hy3: all parts by the program's way. -/
namespace Hn
open PySem PySem.Spec PyProof.Rows L2 Sm
/-- what parts are -/
structure PartsOk (T : List Str) (L : List (List Str)) : Prop where
  ne : ∀ l ∈ L, l ≠ []
  sub : ∀ l ∈ L, ∀ x ∈ l, x ∈ T
  asc : ∀ l ∈ L, Asc l
  z : L.length ≤ T.length
/-- no names of boxes from k on -/
def Low (k : Nat) (S : Sto) : Prop := ∀ j, k ≤ j → S.all (noL j) = true
theorem Low.dead {k : Nat} {S J : Sto} (h : Low k S) (hJ : ∀ b ∈ J, b = .dead) : Low k (S ++ J) := fun j hj => by
  rw [List.all_append, h j hj, Bool.true_and, List.all_eq_true]
  intro b hb
  rw [hJ b hb]
  rfl
section
variable {S0 : Sto} {n m : Nat} {rows : List (Str × List Str)} {gone : List Str}
end
end Hn
/-! Hy4: all parts by the law's way. -/
namespace Hn
open PySem PySem.Spec PyProof.Rows L2 Sm
/-- P tells who is beside whom -/
def AdjP (adj : Str → List Str) (P : List (Str × Str)) (T : List Str) : Prop := ∀ u ∈ T, ∀ y ∈ T, y ∈ adj u ↔ (u, y) ∈ P ∨ (y, u) ∈ P
section
variable {P : List (Str × Str)} {crew : Dt}
theorem AdjP.sub {adj : Str → List Str} {T U : List Str} (h : AdjP adj P T) (hs : ∀ x ∈ U, x ∈ T) : AdjP adj P U := fun u hu y hy => h u (hs u hu) y (hs y hy)
end
end Hn
/-! Hy5: a Swapping made in an empty store; checks on plain things by the kernel. -/
namespace Hn
open PySem PySem.Spec PyProof.Rows L2 Sm
theorem hand_ofA {F : FM} {ts : List Dt} (h : okT (iso F (ts.map .d) []) = true) (S : Sto) : iso F (ts.map .d) S = .ok (.d (.bl true)) S := by
  have e : ∀ S, iso F (ts.map .d) S = (match F (ts.map .d) [] with
      | .ok (.d t) _ => Rz.ok (Dv.d t) S
      | .er c t _ => .er c t S
      | _ => .bad) := fun S => by
    show (match pures (ts.map Dv.d) with
      | some _ => _
      | none => _) = _
    rw [pures_d] <;> rfl
  rw [e] at h ⊢
  cases hF : F (ts.map .d) [] with
  | ok d S1 =>
    rw [hF] at h
    cases d with
    | d t =>
      cases t with
      | bl b =>
        have : b = true := h
        subst this
        rfl
      | _ => cases h
    | loc n => cases h
  | er c t S1 =>
    rw [hF] at h
    cases h
  | bad =>
    rw [hF] at h
    cases h
section
variable {rows : List (Str × List Str)} {emps gone : List Str}
end
end Hn
/-! K73H: each size by itself. -/
namespace K73
open PySem PySem.Spec PyProof.Rows L2 Sm Hn
theorem row_2 (S : Sto) : F__law_row_right [.d (.int 2)] S = .ok (.d (.bl true)) S := hand_ofA (F := R__law_row_right) (ts := [.int 2]) (by decide +kernel) S
theorem ring_2 (S : Sto) : F__law_ring_right [.d (.int 2), .d (.bl false)] S = .ok (.d (.bl true)) S := hand_ofA (F := R__law_ring_right) (ts := [.int 2, .bl false]) (by decide +kernel) S
theorem crowd_2 (S : Sto) : F__law_ring_right [.d (.int 2), .d (.bl true)] S = .ok (.d (.bl true)) S := hand_ofA (F := R__law_ring_right) (ts := [.int 2, .bl true]) (by decide +kernel) S
theorem row_3 (S : Sto) : F__law_row_right [.d (.int 3)] S = .ok (.d (.bl true)) S := hand_ofA (F := R__law_row_right) (ts := [.int 3]) (by decide +kernel) S
theorem ring_3 (S : Sto) : F__law_ring_right [.d (.int 3), .d (.bl false)] S = .ok (.d (.bl true)) S := hand_ofA (F := R__law_ring_right) (ts := [.int 3, .bl false]) (by decide +kernel) S
theorem crowd_3 (S : Sto) : F__law_ring_right [.d (.int 3), .d (.bl true)] S = .ok (.d (.bl true)) S := hand_ofA (F := R__law_ring_right) (ts := [.int 3, .bl true]) (by decide +kernel) S
theorem row_4 (S : Sto) : F__law_row_right [.d (.int 4)] S = .ok (.d (.bl true)) S := hand_ofA (F := R__law_row_right) (ts := [.int 4]) (by decide +kernel) S
theorem ring_4 (S : Sto) : F__law_ring_right [.d (.int 4), .d (.bl false)] S = .ok (.d (.bl true)) S := hand_ofA (F := R__law_ring_right) (ts := [.int 4, .bl false]) (by decide +kernel) S
theorem crowd_4 (S : Sto) : F__law_ring_right [.d (.int 4), .d (.bl true)] S = .ok (.d (.bl true)) S := hand_ofA (F := R__law_ring_right) (ts := [.int 4, .bl true]) (by decide +kernel) S
theorem row_5 (S : Sto) : F__law_row_right [.d (.int 5)] S = .ok (.d (.bl true)) S := hand_ofA (F := R__law_row_right) (ts := [.int 5]) (by decide +kernel) S
theorem ring_5 (S : Sto) : F__law_ring_right [.d (.int 5), .d (.bl false)] S = .ok (.d (.bl true)) S := hand_ofA (F := R__law_ring_right) (ts := [.int 5, .bl false]) (by decide +kernel) S
theorem crowd_5 (S : Sto) : F__law_ring_right [.d (.int 5), .d (.bl true)] S = .ok (.d (.bl true)) S := hand_ofA (F := R__law_ring_right) (ts := [.int 5, .bl true]) (by decide +kernel) S
theorem row_6 (S : Sto) : F__law_row_right [.d (.int 6)] S = .ok (.d (.bl true)) S := hand_ofA (F := R__law_row_right) (ts := [.int 6]) (by decide +kernel) S
theorem ring_6 (S : Sto) : F__law_ring_right [.d (.int 6), .d (.bl false)] S = .ok (.d (.bl true)) S := hand_ofA (F := R__law_ring_right) (ts := [.int 6, .bl false]) (by decide +kernel) S
theorem crowd_6 (S : Sto) : F__law_ring_right [.d (.int 6), .d (.bl true)] S = .ok (.d (.bl true)) S := hand_ofA (F := R__law_ring_right) (ts := [.int 6, .bl true]) (by decide +kernel) S
theorem row_7 (S : Sto) : F__law_row_right [.d (.int 7)] S = .ok (.d (.bl true)) S := hand_ofA (F := R__law_row_right) (ts := [.int 7]) (by decide +kernel) S
theorem ring_7 (S : Sto) : F__law_ring_right [.d (.int 7), .d (.bl false)] S = .ok (.d (.bl true)) S := hand_ofA (F := R__law_ring_right) (ts := [.int 7, .bl false]) (by decide +kernel) S
end K73
/-! HzB: a law of two numbers that is a loop. -/
namespace Hn
open PySem PySem.Spec PyProof.Rows L2 Sm
theorem law_loopF {c : Int} (hc0 : 0 ≤ c) (hc1 : c < 1000000000) {R : FM} (hR : ∀ (S : Sto) (n : Nat) (o : Bo), S[n]? = some o → Urn o 1000000 → ∃ o', R [.loc n] S = .ok (.d (.bl true)) (S.set n o')) (P : Dt) (cs : List Int) : ∀ (ks : List Nat) (z : Option Dv), (∀ k ∈ ks, k < 100) → ∀ S : Sto, ∃ (z' : Option Dv) (S' : Sto), forL (gN 2) (sIf (cNot (mTru pTru (mF R (aCons (mF (runB 3 2 (boxM c)) (aCons (mV 1) (aCons (mV 2) (aNil)))) (aNil))))) (sRet (mC (.bl false))) (sNil)) (ks.map fun k => Dt.int ((k : Nat) : Int)) [some (.d P), some (.d (.lst (dI cs))), z] S = .nx [some (.d P), some (.d (.lst (dI cs))), z'] S'
  | [], z, _, S => ⟨z, S, rfl⟩
  | k :: ks, z, h, S => by
    obtain ⟨o, e1, u⟩ := box_ok hc0 hc1 (cs := cs) (h k List.mem_cons_self) (S := S)
    obtain ⟨o', e2⟩ := hR (S ++ [o]) S.length o (by rw [List.getElem?_append_right (Nat.le_refl _), Nat.sub_self]; rfl) u
    obtain ⟨z', S', e3⟩ := law_loopF hc0 hc1 hR P cs ks (some (.d (.int (k : Int)))) (fun j hj => h j (List.mem_cons_of_mem _ hj)) ((S ++ [o]).set S.length o')
    refine ⟨z', S', ?_⟩
    have tr : ∀ (b : Bool) (S : Sto), pTru (.d (.bl b)) S = some b := fun _ _ => rfl
    rw [List.map_cons, forL_nx (ρ1 := [some (.d P), some (.d (.lst (dI cs))), some (.d (.int (k : Int)))]) rfl (ρ2 := [some (.d P), some (.d (.lst (dI cs))), some (.d (.int (k : Int)))]) (S2 := (S ++ [o]).set S.length o') ?_, e3]
    simp only [sIf_s, cNot_s, mTru_s, mF_s, aCons_s, mV_s, aNil_s, List.getElem?_cons_zero, List.getElem?_cons_succ, bind_ok, e1, e2, tr, li_some, to_ok, Bool.not_true, Bool.false_eq_true, if_false, sNil_s]
end Hn
/-! HzC: a law of three numbers that is a loop. -/
namespace Hn
open PySem PySem.Spec PyProof.Rows L2 Sm
theorem law_ofF3 {c : Int} (hc0 : 0 ≤ c) (hc1 : c < 1000000000) {R : FM} (hR : ∀ (S : Sto) (n : Nat) (o : Bo), S[n]? = some o → Urn o 1000000 → ∃ o', R [.loc n] S = .ok (.d (.bl true)) (S.set n o')) : LawTrue (runB 3 1 (lawMF 3 (runB 3 2 (boxM c)) R)) := fun ns hl hb => by
  obtain ⟨cs, ec, hc⟩ := cells_ok (ns := ns) hl (S := [])
  obtain ⟨z', S', el⟩ := law_loopF hc0 hc1 hR (.scr (dI ns)) cs (List.range cs.length) none (fun k hk => by have := List.mem_range.mp hk; omega) []
  refine ⟨S', runB_rt (ds := [.d (.scr (dI ns))]) rfl ?_⟩
  show lawMF 3 (runB 3 2 (boxM c)) R [some (.d (.scr (dI ns))), none, none] [] = _
  have hit : iRg rg1 (aCons (mN pLen (aCons (mV 1) (aNil))) (aNil)) [some (.d (.scr (dI ns))), some (.d (.lst (dI cs))), none] [] = .ok ((List.range cs.length).map fun k => Dt.int ((k : Nat) : Int)) [] := by
    have hl2 : pLen [.d (.lst (dI cs))] [] = some (.d (.int (cs.length : Int)), []) := by
      simp [pLen, dctAt, seqAt, lstAt, dI]
    refine iRg_ok (ds := [.d (.int (cs.length : Int))]) (by simp only [aCons_s, mN_s, mV_s, aNil_s, List.getElem?_cons_zero, List.getElem?_cons_succ, bind_ok, hl2, Sm.lift_some]) ?_
    rw [q_rg (by omega)]
    unfold rgL
    simp
  have hcs : F__law_cells [.d (.scr (dI ns)), .d (.int 3)] [] = .ok (.d (.lst (dI cs))) [] := ec
  have s1 : sSet 1 (mF F__law_cells (aCons (mV 0) (aCons (mC (.int 3)) (aNil)))) [some (.d (.scr (dI ns))), none, none] [] = .nx [some (.d (.scr (dI ns))), some (.d (.lst (dI cs))), none] [] := by
    simp only [sSet_s, mF_s, aCons_s, mV_s, mC_s, aNil_s, List.getElem?_cons_zero, List.getElem?_cons_succ, bind_ok, hcs, to_ok]
    rfl
  unfold lawMF
  rw [sSeq_s, s1, sqz_nx, sSeq_s, sFor_s, hit, to_ok, el, sqz_nx]
  rfl
end Hn
/-! K73U: sizes drawn. -/
namespace K73
open PySem PySem.Spec PyProof.Rows L2 Sm Hn
theorem row_ok {i : Int} (h1 : 2 ≤ i) (h2 : i < 8) (S : Sto) : F__law_row_right [.d (.int i)] S = .ok (.d (.bl true)) S := by
  have h : i = 2 ∨ i = 3 ∨ i = 4 ∨ i = 5 ∨ i = 6 ∨ i = 7 := by omega
  rcases h with rfl | rfl | rfl | rfl | rfl | rfl
  · exact row_2 S
  · exact row_3 S
  · exact row_4 S
  · exact row_5 S
  · exact row_6 S
  · exact row_7 S
theorem ring_ok {i : Int} (h1 : 2 ≤ i) (h2 : i < 8) (S : Sto) : F__law_ring_right [.d (.int i), .d (.bl false)] S = .ok (.d (.bl true)) S := by
  have h : i = 2 ∨ i = 3 ∨ i = 4 ∨ i = 5 ∨ i = 6 ∨ i = 7 := by omega
  rcases h with rfl | rfl | rfl | rfl | rfl | rfl
  · exact ring_2 S
  · exact ring_3 S
  · exact ring_4 S
  · exact ring_5 S
  · exact ring_6 S
  · exact ring_7 S
theorem crowd_ok {i : Int} (h1 : 2 ≤ i) (h2 : i < 7) (S : Sto) : F__law_ring_right [.d (.int i), .d (.bl true)] S = .ok (.d (.bl true)) S := by
  have h : i = 2 ∨ i = 3 ∨ i = 4 ∨ i = 5 ∨ i = 6 := by omega
  rcases h with rfl | rfl | rfl | rfl | rfl
  · exact crowd_2 S
  · exact crowd_3 S
  · exact crowd_4 S
  · exact crowd_5 S
  · exact crowd_6 S
theorem right_ok {o : Bo} (u : Urn o 1000000) : ∃ o', R__law_right [.loc 0] [o] = .ok (.d (.bl true)) [o'] ∧ Urn o' 0 := by
  obtain ⟨r, o1, e1, a1, b1, u1⟩ := take_ok (S := [o]) (n := 0) (o := o) (m := 1) (low := 6) rfl (u.less (by omega)) (by omega) (by omega)
  obtain ⟨s, o2, e2, a2, b2, u2⟩ := take_ok (S := [o1]) (n := 0) (o := o1) (m := 0) (low := 5) rfl u1 (by omega) (by omega)
  have e1' : F__law_take [.loc 0, .d (.int 6)] [o] = .ok (.d (.int r)) [o1] := e1
  have e2' : F__law_take [.loc 0, .d (.int 5)] [o1] = .ok (.d (.int s)) [o2] := e2
  have ad : ∀ (i j : Int) S, pAdd (.d (.int i)) (.d (.int j)) S = some (.d (.int (i + j)), S) := fun i j S => rfl
  have k1 := fun S => row_3 S
  have k2 := fun S => crowd_3 S
  have k3 := fun S => ring_2 S
  have r1 := fun S => row_ok (i := 2 + r) (by omega) (by omega) S
  have r2 := fun S => ring_ok (i := 2 + r) (by omega) (by omega) S
  have r3 := fun S => crowd_ok (i := 2 + s) (by omega) (by omega) S
  have tr : ∀ (b : Bool) (S : Sto), pTru (.d (.bl b)) S = some b := fun _ _ => rfl
  refine ⟨o2, runB_rt (ds := [.loc 0]) rfl ?_, u2⟩
  show b__law_right [some (.loc 0), none] [o] = _
  unfold b__law_right
  have c1 : sIf (cOr (cNot (mTru pTru (mF F__law_row_right (aCons (mC (.int 3)) (aNil))))) (cOr (cNot (mTru pTru (mF F__law_ring_right (aCons (mC (.int 3)) (aCons (mC (.bl true)) (aNil)))))) (cNot (mTru pTru (mF F__law_ring_right (aCons (mC (.int 2)) (aCons (mC (.bl false)) (aNil)))))))) (sRet (mC (.bl false))) (sNil) [some (.loc 0), none] [o] = .nx [some (.loc 0), none] [o] := by
    refine st_if_f (S1 := [o]) ?_ rfl
    simp only [sSeq_s, sSet_s, sRet_s, sDrop_s, sIf_s, sFor_s, sPars_s, sNil_s, sqz_nx, sqz_rt, m1_s, m2_s, mN_s, mF_s, mV_s, mC_s, aCons_s, aNil_s, aApp_s, mIf_s, mTst_s, toB_s, mTru_s, cAnd_s, cOr_s, cNot_s, cYes_s, mAnd_s, mSl_s, oPt_s, oNo_s, mFrz_s, gN_s, gT_s, List.getElem?_cons_zero, List.getElem?_cons_succ, bind_ok, to_ok, Sm.lift_some, li_some, oz_some, bz_some, nox_ok, k1, k2, k3, tr, Bool.not_true, Bool.false_eq_true, if_false]
  have c2 : sSet 1 (m2 pAdd (mC (.int 2)) (mF F__law_take (aCons (mV 0) (aCons (mC (.int 6)) (aNil))))) [some (.loc 0), none] [o] = .nx [some (.loc 0), some (.d (.int (2 + r)))] [o1] := by
    refine st_set (d := .d (.int (2 + r))) (S1 := [o1]) ?_
    simp only [sSeq_s, sSet_s, sRet_s, sDrop_s, sIf_s, sFor_s, sPars_s, sNil_s, sqz_nx, sqz_rt, m1_s, m2_s, mN_s, mF_s, mV_s, mC_s, aCons_s, aNil_s, aApp_s, mIf_s, mTst_s, toB_s, mTru_s, cAnd_s, cOr_s, cNot_s, cYes_s, mAnd_s, mSl_s, oPt_s, oNo_s, mFrz_s, gN_s, gT_s, List.getElem?_cons_zero, List.getElem?_cons_succ, bind_ok, to_ok, Sm.lift_some, li_some, oz_some, bz_some, nox_ok, e1', ad]
  rw [sSeq_s, c1, sqz_nx, sSeq_s, c2, sqz_nx]
  refine st_ret ?_
  simp only [mAnd_s, sSeq_s, sSet_s, sRet_s, sDrop_s, sIf_s, sFor_s, sPars_s, sNil_s, sqz_nx, sqz_rt, m1_s, m2_s, mN_s, mF_s, mV_s, mC_s, aCons_s, aNil_s, aApp_s, mIf_s, mTst_s, toB_s, mTru_s, cAnd_s, cOr_s, cNot_s, cYes_s, mAnd_s, mSl_s, oPt_s, oNo_s, mFrz_s, gN_s, gT_s, List.getElem?_cons_zero, List.getElem?_cons_succ, bind_ok, to_ok, Sm.lift_some, li_some, oz_some, bz_some, nox_ok, r1, r2, e2', ad, r3, if_true]
theorem law_true : LawTrue F_law := law_ofF3 (c := 1849) (by decide) (by decide) fun S n o hS u => by
  obtain ⟨o', e, u'⟩ := right_ok u
  exact ⟨o', view_ok (ts := []) (rest := []) hS u.pure e u'.pure⟩
end K73
open PySem PySem.W PyProof.Rows
set_option maxHeartbeats 0 in
theorem PySem.Challenge.cw_crosshomes_k73_known_withdrawals_holds : PySem.Challenge.rw_crosshomes_k73_known_withdrawals.Holds := by
  w_on; o_law; k_head; (case hw => w_witness2)
  k_fill
  refine L2.walk_ofB (l := PySem.Challenge.rw_crosshomes_k73_known_withdrawals) (n := 63) (k := 17) (x := "_law_script") (CX := fun w => L2.CX PySem.Challenge.pw_crosshomes_k73_known_withdrawals w) (sp := fun w => Sm.spLaw _) rfl (by decide) rfl ⟨rfl, by decide, by decide⟩ (fun w h Y => PySem.W.kIn_of Y) ?F (fun _ _ a ns hl hb _ hS => Sm.law_hsp hl hb hS) (fun _ _ _ _ _ h => Sm.law_cx h)
  case F =>
    intro w mg fa h KX Gn hmg
    refine' K73.all_mk K73.law_true KX Gn hmg ?aC0 ?aC2 ?aC1 ?a_tupled ?l_tupled ?co_tupled ?k_tupled ?a_as_set ?l_as_set ?co_as_set ?k_as_set ?a_Sheet_init ?i_Sheet_init ?l_Sheet_init ?co_Sheet_init ?k_Sheet_init ?a_Sheet_names ?i_Sheet_names ?l_Sheet_names ?co_Sheet_names ?k_Sheet_names ?a_Sheet_empties ?i_Sheet_empties ?l_Sheet_empties ?co_Sheet_empties ?k_Sheet_empties ?a_Sheet_homes ?i_Sheet_homes ?l_Sheet_homes ?co_Sheet_homes ?k_Sheet_homes ?a_Sheet_check ?i_Sheet_check ?g1_Sheet_check ?g2_Sheet_check ?g3_Sheet_check ?l_Sheet_check ?co_Sheet_check ?k_Sheet_check ?a_Sheet_checked ?i_Sheet_checked ?l_Sheet_checked ?co_Sheet_checked ?k_Sheet_checked ?a_Sheet_wants ?i_Sheet_wants ?l_Sheet_wants ?co_Sheet_wants ?k_Sheet_wants ?a_Sheet_told ?i_Sheet_told ?l_Sheet_told ?co_Sheet_told ?k_Sheet_told ?a_without ?l_without ?co_without ?k_without ?a_turned ?l_turned ?co_turned ?k_turned ?a_goals_of ?l_goals_of ?co_goals_of ?k_goals_of ?a_names_in ?l_names_in ?co_names_in ?k_names_in ?a_goals_in ?l_goals_in ?co_goals_in ?k_goals_in ?a_tupledN ?l_tupledN ?co_tupledN ?k_tupledN ?a_Plan_init ?i_Plan_init ?l_Plan_init ?co_Plan_init ?k_Plan_init ?a_Plan_of ?p1_Plan_of ?p2_Plan_of ?p3_Plan_of ?g3_Plan_of ?l_Plan_of ?co_Plan_of ?k_Plan_of ?a_Plan_parts ?p1_Plan_parts ?p2_Plan_parts ?p3_Plan_parts ?l_Plan_parts ?co_Plan_parts ?k_Plan_parts ?a_Plan___call__ ?i_Plan___call__ ?g3_Plan___call__ ?l_Plan___call__ ?co_Plan___call__ ?k_Plan___call__ ?a_way_back ?l_way_back ?co_way_back ?k_way_back ?a_Choice_steps ?i_Choice_steps ?l_Choice_steps ?co_Choice_steps ?k_Choice_steps ?a_Choice_better_ring ?i_Choice_better_ring ?l_Choice_better_ring ?co_Choice_better_ring ?k_Choice_better_ring ?a_Choice_turn ?i_Choice_turn ?l_Choice_turn ?co_Choice_turn ?k_Choice_turn ?a_Choice_init ?i_Choice_init ?l_Choice_init ?co_Choice_init ?k_Choice_init ?a_Choice_place ?i_Choice_place ?l_Choice_place ?co_Choice_place ?k_Choice_place ?a_Choice_gained ?i_Choice_gained ?l_Choice_gained ?co_Choice_gained ?k_Choice_gained ?a_worths_of ?l_worths_of ?co_worths_of ?k_worths_of ?a_best_of ?l_best_of ?co_best_of ?k_best_of ?a_rowless ?l_rowless ?co_rowless ?k_rowless ?a_most_any ?l_most_any ?co_most_any ?k_most_any ?hd_most_any ?a_sizes_of ?l_sizes_of ?co_sizes_of ?k_sizes_of ?a_ender ?l_ender ?co_ender ?k_ender ?a_safe_for ?l_safe_for ?co_safe_for ?k_safe_for ?a_worst_gone ?l_worst_gone ?co_worst_gone ?k_worst_gone ?a_weak_ones ?l_weak_ones ?co_weak_ones ?k_weak_ones ?a_whole_parts ?l_whole_parts ?co_whole_parts ?k_whole_parts ?a_rest_sheet ?l_rest_sheet ?co_rest_sheet ?k_rest_sheet ?a_most_repaired ?l_most_repaired ?co_most_repaired ?k_most_repaired ?a_old_home ?l_old_home ?co_old_home ?k_old_home ?a_told_worths ?l_told_worths ?co_told_worths ?k_told_worths ?a_told_choice ?l_told_choice ?co_told_choice ?k_told_choice ?a_fewest_told ?l_fewest_told ?co_fewest_told ?k_fewest_told ?a__law_box ?l__law_box ?co__law_box ?k__law_box ?a__law_take ?l__law_take ?co__law_take ?k__law_take ?a__law_cells ?l__law_cells ?co__law_cells ?k__law_cells ?a__law_same ?l__law_same ?co__law_same ?k__law_same ?a__law_crew ?l__law_crew ?co__law_crew ?k__law_crew ?a__law_row_right ?l__law_row_right ?co__law_row_right ?k__law_row_right ?a__law_ring_right ?l__law_ring_right ?co__law_ring_right ?k__law_ring_right ?a__law_right ?l__law_right ?co__law_right ?k__law_right ?a_law ?l_law ?co_law ?k_law ?pg0 ?ic0 ?po0 ?sa0 ?mk0 ?kc0 ?pg2 ?ic2 ?po2 ?sa2 ?mk2 ?kc2 ?pg1 ?ic1 ?po1 ?sa1 ?mk1 ?kc1 ?s1_own_empties ?s2_own_empties ?s3_own_empties ?s4_own_empties ?s5_own_empties ?s1_own_homes ?s2_own_homes ?s3_own_homes ?s4_own_homes ?s5_own_homes ?s1_own_rows ?s2_own_rows ?s3_own_rows ?s4_own_rows ?s5_own_rows ?s1_own_goals ?s2_own_goals ?s3_own_goals ?s4_own_goals ?s5_own_goals ?s1_own_parts ?s2_own_parts ?s3_own_parts ?s4_own_parts ?s5_own_parts ?s1_Choice_own_homes ?s2_Choice_own_homes ?s3_Choice_own_homes ?s4_Choice_own_homes ?s5_Choice_own_homes ?s1_own_reach ?s2_own_reach ?s3_own_reach ?s4_own_reach ?s5_own_reach ?s1_own_taken ?s2_own_taken ?s3_own_taken ?s4_own_taken ?s5_own_taken ?s1_own_worths ?s2_own_worths ?s3_own_worths ?s4_own_worths ?s5_own_worths ?xa_Clash ?xd_Clash ?xt_Clash ?xb_Clash ?xs_Clash ?xn_Clash ?xr_Clash_Clash ?xl_Clash ?xsa_Clash ?xm_Clash ?xkp_Clash ?xi_Clash ?xit_Clash ?xf_Clash ?xco_Clash ?xcd_Clash ?xvs_Clash ?xfl_Clash ?xcc_Clash ?xop_Clash ?xtop_Clash ?xsb_Clash ?xno_Clash ?xga_Clash ?xgg_Clash ?xca_Clash ?xob_Clash ?xgs ?xgt ?xsu ?zz_abs ?zz_all ?zz_any ?zz_bool ?zz_dict ?zz_enumerate ?zz_int ?zz_isinstance ?zz_len ?zz_list ?zz_max ?zz_min ?zz_range ?zz_set ?zz_sorted ?zz_str ?zz_sum ?zz_tuple ?zz_zip ?gg_FREE ?gg_RING
    (case aC0 => k_is)
    (case aC2 => k_is)
    (case aC1 => k_is)
    (case a_tupled => k_is)
    (case l_tupled => k_is)
    (case co_tupled => k_is)
    (case k_tupled => k_is)
    (case a_as_set => k_is)
    (case l_as_set => k_is)
    (case co_as_set => k_is)
    (case k_as_set => k_is)
    (case a_Sheet_init => k_is)
    (case i_Sheet_init => k_is)
    (case l_Sheet_init => k_is)
    (case co_Sheet_init => k_is)
    (case k_Sheet_init => k_is)
    (case a_Sheet_names => k_is)
    (case i_Sheet_names => k_is)
    (case l_Sheet_names => k_is)
    (case co_Sheet_names => k_is)
    (case k_Sheet_names => k_is)
    (case a_Sheet_empties => k_is)
    (case i_Sheet_empties => k_is)
    (case l_Sheet_empties => k_is)
    (case co_Sheet_empties => k_is)
    (case k_Sheet_empties => k_is)
    (case a_Sheet_homes => k_is)
    (case i_Sheet_homes => k_is)
    (case l_Sheet_homes => k_is)
    (case co_Sheet_homes => k_is)
    (case k_Sheet_homes => k_is)
    (case a_Sheet_check => k_is)
    (case i_Sheet_check => k_is)
    (case g1_Sheet_check => k_is)
    (case g2_Sheet_check => k_is)
    (case g3_Sheet_check => k_is)
    (case l_Sheet_check => k_is)
    (case co_Sheet_check => k_is)
    (case k_Sheet_check => k_is)
    (case a_Sheet_checked => k_is)
    (case i_Sheet_checked => k_is)
    (case l_Sheet_checked => k_is)
    (case co_Sheet_checked => k_is)
    (case k_Sheet_checked => k_is)
    (case a_Sheet_wants => k_is)
    (case i_Sheet_wants => k_is)
    (case l_Sheet_wants => k_is)
    (case co_Sheet_wants => k_is)
    (case k_Sheet_wants => k_is)
    (case a_Sheet_told => k_is)
    (case i_Sheet_told => k_is)
    (case l_Sheet_told => k_is)
    (case co_Sheet_told => k_is)
    (case k_Sheet_told => k_is)
    (case a_without => k_is)
    (case l_without => k_is)
    (case co_without => k_is)
    (case k_without => k_is)
    (case a_turned => k_is)
    (case l_turned => k_is)
    (case co_turned => k_is)
    (case k_turned => k_is)
    (case a_goals_of => k_is)
    (case l_goals_of => k_is)
    (case co_goals_of => k_is)
    (case k_goals_of => k_is)
    (case a_names_in => k_is)
    (case l_names_in => k_is)
    (case co_names_in => k_is)
    (case k_names_in => k_is)
    (case a_goals_in => k_is)
    (case l_goals_in => k_is)
    (case co_goals_in => k_is)
    (case k_goals_in => k_is)
    (case a_tupledN => k_is)
    (case l_tupledN => k_is)
    (case co_tupledN => k_is)
    (case k_tupledN => k_is)
    (case a_Plan_init => k_is)
    (case i_Plan_init => k_is)
    (case l_Plan_init => k_is)
    (case co_Plan_init => k_is)
    (case k_Plan_init => k_is)
    (case a_Plan_of => k_is)
    (case p1_Plan_of => k_is)
    (case p2_Plan_of => k_is)
    (case p3_Plan_of => k_is)
    (case g3_Plan_of => k_is)
    (case l_Plan_of => k_is)
    (case co_Plan_of => k_is)
    (case k_Plan_of => k_is)
    (case a_Plan_parts => k_is)
    (case p1_Plan_parts => k_is)
    (case p2_Plan_parts => k_is)
    (case p3_Plan_parts => k_is)
    (case l_Plan_parts => k_is)
    (case co_Plan_parts => k_is)
    (case k_Plan_parts => k_is)
    (case a_Plan___call__ => k_is)
    (case i_Plan___call__ => k_is)
    (case g3_Plan___call__ => k_is)
    (case l_Plan___call__ => k_is)
    (case co_Plan___call__ => k_is)
    (case k_Plan___call__ => k_is)
    (case a_way_back => k_is)
    (case l_way_back => k_is)
    (case co_way_back => k_is)
    (case k_way_back => k_is)
    (case a_Choice_steps => k_is)
    (case i_Choice_steps => k_is)
    (case l_Choice_steps => k_is)
    (case co_Choice_steps => k_is)
    (case k_Choice_steps => k_is)
    (case a_Choice_better_ring => k_is)
    (case i_Choice_better_ring => k_is)
    (case l_Choice_better_ring => k_is)
    (case co_Choice_better_ring => k_is)
    (case k_Choice_better_ring => k_is)
    (case a_Choice_turn => k_is)
    (case i_Choice_turn => k_is)
    (case l_Choice_turn => k_is)
    (case co_Choice_turn => k_is)
    (case k_Choice_turn => k_is)
    (case a_Choice_init => k_is)
    (case i_Choice_init => k_is)
    (case l_Choice_init => k_is)
    (case co_Choice_init => k_is)
    (case k_Choice_init => k_is)
    (case a_Choice_place => k_is)
    (case i_Choice_place => k_is)
    (case l_Choice_place => k_is)
    (case co_Choice_place => k_is)
    (case k_Choice_place => k_is)
    (case a_Choice_gained => k_is)
    (case i_Choice_gained => k_is)
    (case l_Choice_gained => k_is)
    (case co_Choice_gained => k_is)
    (case k_Choice_gained => k_is)
    (case a_worths_of => k_is)
    (case l_worths_of => k_is)
    (case co_worths_of => k_is)
    (case k_worths_of => k_is)
    (case a_best_of => k_is)
    (case l_best_of => k_is)
    (case co_best_of => k_is)
    (case k_best_of => k_is)
    (case a_rowless => k_is)
    (case l_rowless => k_is)
    (case co_rowless => k_is)
    (case k_rowless => k_is)
    (case a_most_any => k_is)
    (case l_most_any => k_is)
    (case co_most_any => k_is)
    (case k_most_any => k_is)
    (case hd_most_any => k_is)
    (case a_sizes_of => k_is)
    (case l_sizes_of => k_is)
    (case co_sizes_of => k_is)
    (case k_sizes_of => k_is)
    (case a_ender => k_is)
    (case l_ender => k_is)
    (case co_ender => k_is)
    (case k_ender => k_is)
    (case a_safe_for => k_is)
    (case l_safe_for => k_is)
    (case co_safe_for => k_is)
    (case k_safe_for => k_is)
    (case a_worst_gone => k_is)
    (case l_worst_gone => k_is)
    (case co_worst_gone => k_is)
    (case k_worst_gone => k_is)
    (case a_weak_ones => k_is)
    (case l_weak_ones => k_is)
    (case co_weak_ones => k_is)
    (case k_weak_ones => k_is)
    (case a_whole_parts => k_is)
    (case l_whole_parts => k_is)
    (case co_whole_parts => k_is)
    (case k_whole_parts => k_is)
    (case a_rest_sheet => k_is)
    (case l_rest_sheet => k_is)
    (case co_rest_sheet => k_is)
    (case k_rest_sheet => k_is)
    (case a_most_repaired => k_is)
    (case l_most_repaired => k_is)
    (case co_most_repaired => k_is)
    (case k_most_repaired => k_is)
    (case a_old_home => k_is)
    (case l_old_home => k_is)
    (case co_old_home => k_is)
    (case k_old_home => k_is)
    (case a_told_worths => k_is)
    (case l_told_worths => k_is)
    (case co_told_worths => k_is)
    (case k_told_worths => k_is)
    (case a_told_choice => k_is)
    (case l_told_choice => k_is)
    (case co_told_choice => k_is)
    (case k_told_choice => k_is)
    (case a_fewest_told => k_is)
    (case l_fewest_told => k_is)
    (case co_fewest_told => k_is)
    (case k_fewest_told => k_is)
    (case a__law_box => k_is)
    (case l__law_box => k_is)
    (case co__law_box => k_is)
    (case k__law_box => k_is)
    (case a__law_take => k_is)
    (case l__law_take => k_is)
    (case co__law_take => k_is)
    (case k__law_take => k_is)
    (case a__law_cells => k_is)
    (case l__law_cells => k_is)
    (case co__law_cells => k_is)
    (case k__law_cells => k_is)
    (case a__law_same => k_is)
    (case l__law_same => k_is)
    (case co__law_same => k_is)
    (case k__law_same => k_is)
    (case a__law_crew => k_is)
    (case l__law_crew => k_is)
    (case co__law_crew => k_is)
    (case k__law_crew => k_is)
    (case a__law_row_right => k_is)
    (case l__law_row_right => k_is)
    (case co__law_row_right => k_is)
    (case k__law_row_right => k_is)
    (case a__law_ring_right => k_is)
    (case l__law_ring_right => k_is)
    (case co__law_ring_right => k_is)
    (case k__law_ring_right => k_is)
    (case a__law_right => k_is)
    (case l__law_right => k_is)
    (case co__law_right => k_is)
    (case k__law_right => k_is)
    (case a_law => k_is)
    (case l_law => k_is)
    (case co_law => k_is)
    (case k_law => k_is)
    (case pg0 => k_is)
    (case ic0 => k_is)
    (case po0 => k_is)
    (case sa0 => k_is)
    (case mk0 => k_is)
    (case kc0 => k_is)
    (case pg2 => k_is)
    (case ic2 => k_is)
    (case po2 => k_is)
    (case sa2 => k_is)
    (case mk2 => k_is)
    (case kc2 => k_is)
    (case pg1 => k_is)
    (case ic1 => k_is)
    (case po1 => k_is)
    (case sa1 => k_is)
    (case mk1 => k_is)
    (case kc1 => k_is)
    (case s1_own_empties => k_is)
    (case s2_own_empties => k_is)
    (case s3_own_empties => k_is)
    (case s4_own_empties => k_is)
    (case s5_own_empties => k_is)
    (case s1_own_homes => k_is)
    (case s2_own_homes => k_is)
    (case s3_own_homes => k_is)
    (case s4_own_homes => k_is)
    (case s5_own_homes => k_is)
    (case s1_own_rows => k_is)
    (case s2_own_rows => k_is)
    (case s3_own_rows => k_is)
    (case s4_own_rows => k_is)
    (case s5_own_rows => k_is)
    (case s1_own_goals => k_is)
    (case s2_own_goals => k_is)
    (case s3_own_goals => k_is)
    (case s4_own_goals => k_is)
    (case s5_own_goals => k_is)
    (case s1_own_parts => k_is)
    (case s2_own_parts => k_is)
    (case s3_own_parts => k_is)
    (case s4_own_parts => k_is)
    (case s5_own_parts => k_is)
    (case s1_Choice_own_homes => k_is)
    (case s2_Choice_own_homes => k_is)
    (case s3_Choice_own_homes => k_is)
    (case s4_Choice_own_homes => k_is)
    (case s5_Choice_own_homes => k_is)
    (case s1_own_reach => k_is)
    (case s2_own_reach => k_is)
    (case s3_own_reach => k_is)
    (case s4_own_reach => k_is)
    (case s5_own_reach => k_is)
    (case s1_own_taken => k_is)
    (case s2_own_taken => k_is)
    (case s3_own_taken => k_is)
    (case s4_own_taken => k_is)
    (case s5_own_taken => k_is)
    (case s1_own_worths => k_is)
    (case s2_own_worths => k_is)
    (case s3_own_worths => k_is)
    (case s4_own_worths => k_is)
    (case s5_own_worths => k_is)
    (case xa_Clash => k_is)
    (case xd_Clash => k_is)
    (case xt_Clash => k_is)
    (case xb_Clash => k_is)
    (case xs_Clash => k_is)
    (case xn_Clash => k_is)
    (case xr_Clash_Clash => k_is)
    (case xl_Clash => k_is)
    (case xsa_Clash => k_is)
    (case xm_Clash => k_is)
    (case xkp_Clash => k_is)
    (case xi_Clash => k_is)
    (case xit_Clash => k_is)
    (case xf_Clash => k_is)
    (case xco_Clash => k_is)
    (case xcd_Clash => k_is)
    (case xvs_Clash => first | rfl | decide +kernel)
    (case xfl_Clash => first | rfl | decide +kernel)
    (case xcc_Clash => k_is)
    (case xop_Clash => k_is)
    (case xtop_Clash => first | rfl | decide +kernel)
    (case xsb_Clash => k_is)
    (case xno_Clash => k_is)
    (case xga_Clash => k_is)
    (case xgg_Clash => k_is)
    (case xca_Clash => k_is)
    (case xob_Clash => k_is)
    (case xgs => k_is)
    (case xgt => k_is)
    (case xsu => k_is)
    (case zz_abs => k_is)
    (case zz_all => k_is)
    (case zz_any => k_is)
    (case zz_bool => k_is)
    (case zz_dict => k_is)
    (case zz_enumerate => k_is)
    (case zz_int => k_is)
    (case zz_isinstance => k_is)
    (case zz_len => k_is)
    (case zz_list => k_is)
    (case zz_max => k_is)
    (case zz_min => k_is)
    (case zz_range => k_is)
    (case zz_set => k_is)
    (case zz_sorted => k_is)
    (case zz_str => k_is)
    (case zz_sum => k_is)
    (case zz_tuple => k_is)
    (case zz_zip => k_is)
    (case gg_FREE => k_is)
    (case gg_RING => k_is)
