import PyProof.Rows.All
import Wide.All
import OpenK.AllK
import Wide.FinOn
import HandS.ForMost
import HandS.Exc
import HandS.TryOnly
import HandS.ExcOwn
import HandS.WordsExc
import HandS.More
import HandS.Slots
import HandS.SlotsOwn
import HandS.Star
import HandS.Flow
import HandS.Style
import HandS.TupAny
import HandS.Zip
import HandS.IsInst
import HandS.Conv
import HandS.Defaults
import HandS.DictComp
import HandS.Deep
import HandS.Wide
import HandS.Lambda
import KE.SortData
import HandS.Small
import HandS.SetFor
import HandS.SetKeys
import HandS.TupSets
import HandS.Strs
import HandS.Words
import HandS.EndBits
import PyProof.CollectStr
import OpenK.KMeth
import OpenK.KOps
import PyProof.Rows.SortStr
import PyProof.Rows.StrMeet
import HandS.NoneIn
import KE.KDictZip
import KE.GoesZip
import KE.GoesMore
import KE.KItemsList
import HandS.DictTup
import PyProof.FactsAll.tuple_0
import PyProof.FactsAll.tuple_2
import KE.DataMinMax
import KE.KDictPairs
import KE.KTryMore
import HandS.ExcInit
import HandS.ExcSuper
import HandS.ExcField
import HandS.ExcIs
import KE.KExcSuper
import KE.KExcInit
import HandS.ExcValue
import KE.KCallOwn
import KE.KDictSum
import KE.KIsNot
import HandS.ClsMeth
import PyProof.AutoSeq1
import HandS.SortKw
import PyProof.Claim2Refuses
import PyProof.ConsumeWalk
import PyProof.DictWalks
import PyProof.DictKinds
import KE.KOpsOwn
import PyProof.ReprRoads
import PyProof.CallFns
import HandS.Text
import KE.KUnpackStar
import PyProof.StrLawsRepr
import PyProof.ReprLen
import KE.DatumOrd
import HandS.EndTab
import KE.KNestM
import PySem.Challenge.RW_crosshomes_k14_texts_of_sheets
set_option Elab.async false
set_option linter.all false
set_option maxRecDepth 100000
namespace Sm
open PySem PySem.Spec PyProof.Rows L2
inductive Dt where
  | non | bl (b : Bool) | int (i : Int) | str (s : Str)
  | tup (xs : List Dt) | lst (xs : List Dt) | dct (ks : List Key) (xs : List Dt) | obj (c : Nat) (xs : List Dt)
  /-- a list of the outside, read alone -/
  | scr (xs : List Dt)
  /-- a tuple of the written part -/
  | ltp (xs : List Dt)
  /-- a caught exception: its class, its one field -/
  | exc (c : Nat) (xs : List Dt)
  /-- a tuple that surely has no dict of its own -/
  | ntp (xs : List Dt)
inductive Dv where
  | d (t : Dt) | loc (n : Nat)
inductive Bo where
  | lst (xs : List Dv) | dct (ks : List Key) (xs : List Dv) | ins (c : Nat) (fs : List (Option Dv)) | dead
  /-- a tuple that holds boxes; a dict with tuples as keys -/
  | tp (xs : List Dv) | dcT (ks : List (List Key)) (xs : List Dv)
abbrev Sto := List Bo
abbrev Env := List (Option Dv)
structure Gs where
  K : PySem.W.Frag
  cls : Nat → Addr
  exc : Nat → Value
  fld : Nat → Option Str
  /-- tuples are keys of dicts (true), or tuples without a dict are told apart (false) -/
  tk : Bool
  /-- the tables of code objects of defs that make a lambda, the lambdas' names -/
  T : List (Addr × Str) := []
structure Al where
  live : List (List Addr)
  hid : List Addr
def Al.all (A : Al) : List Addr := A.live.flatten ++ A.hid
def TupA (tk : Bool) (A : Al) (H : Hp) (a : Addr) (vs : List V) : Prop := (H a = some (.tup vs) ∨ (tk = false ∧ ∃ o, H a = some (.frz o (.tup vs)))) ∧ a ∉ A.all
def NtpA (A : Al) (H : Hp) (a : Addr) (vs : List V) : Prop := (∃ o : Obj, H a = some (.frz o (.tup vs)) ∧ o.dict = none ∧ o.cls = .type "tuple") ∧ a ∉ A.all
def LstA (A : Al) (H : Hp) (a : Addr) (vs : List V) : Prop := H a = some (.lst vs) ∧ a ∉ A.all
def ScrA (K : PySem.W.Frag) (A : Al) (H : Hp) (a : Addr) (vs : List V) : Prop := (Rd H a (.lst vs) ∧ a ∉ A.all) ∨ ∀ H', SqL K H' a vs
def SlIs (ws : List (Option V)) (vs : List V) : Prop := ∀ (i : Nat) (v : V), vs[i]? = some v → ws[i]? = some (some v)
def XoH (a : Addr) (cls : Value) (d : Addr) : HO := .ext fun h => ∃ o vs, h.get? a = some o ∧ o.cls = cls ∧ o.dict = some d ∧ o.data = .fields vs
mutual
def RV (G : Gs) (A : Al) (H : Hp) : Dt → V → Prop
  | .non, v => v = .non
  | .bl b, v => v = .bl b
  | .int i, v => v = .int i
  | .str s, v => v = .str s
  | .tup xs, v => ∃ a vs, v = .ref a ∧ TupA G.tk A H a vs ∧ RVs G A H xs vs
  | .lst xs, v => ∃ a vs, v = .ref a ∧ LstA A H a vs ∧ RVs G A H xs vs
  | .scr xs, v => ∃ a vs, v = .ref a ∧ ScrA G.K A H a vs ∧ RVs G A H xs vs
  | .ltp xs, v => ∃ a vs, v = .ref a ∧ (∀ H', SqT G.K H' a vs) ∧ RVs G A H xs vs
  | .exc c xs, v => ∃ a d f u, v = .ref a ∧ a ∉ A.all ∧ d ∉ A.all ∧ H a = some (XoH a (G.exc c) d) ∧ H d = some (.xd [(f, u)]) ∧ G.fld c = some f ∧ RVs G A H xs [u]
  | .ntp xs, v => ∃ a vs, v = .ref a ∧ NtpA A H a vs ∧ RVs G A H xs vs
  | .dct ks xs, v => ∃ a kvs, v = .ref a ∧ a ∉ A.all ∧ Rd H a (.dK kvs) ∧ kvs.map (·.1) = ks ∧ RVs G A H xs (kvs.map (·.2))
  | .obj c xs, v => ∃ a dx ws vs, v = .ref a ∧ a ∉ A.all ∧ dx ∉ A.all ∧ (∃ u, H dx = some u) ∧ SlX.Slt H a (G.cls c) dx ws ∧ SlIs ws vs ∧ RVs G A H xs vs
def RVs (G : Gs) (A : Al) (H : Hp) : List Dt → List V → Prop
  | [], vs => vs = []
  | t :: ts, vs => ∃ v r, vs = v :: r ∧ RV G A H t v ∧ RVs G A H ts r
end
def RD (G : Gs) (A : Al) (H : Hp) : Dv → V → Prop
  | .d t, v => RV G A H t v
  | .loc n, v => ∃ l, A.live[n]? = some l ∧ ∀ a r, l = a :: r → v = .ref a
abbrev RDs (G : Gs) (A : Al) (H : Hp) : List Dv → List V → Prop := Paired (RD G A H)
def RF (G : Gs) (A : Al) (H : Hp) (fs : List (Option Dv)) (ws : List (Option V)) : Prop := ∀ (i : Nat) (d : Dv), fs[i]? = some (some d) → ∃ v, ws[i]? = some (some v) ∧ RD G A H d v
def RB (G : Gs) (A : Al) (H : Hp) (l : List Addr) : Bo → Prop
  | .lst xs => ∃ a vs, l = [a] ∧ H a = some (.lst vs) ∧ RDs G A H xs vs
  | .dct ks xs => ∃ a kvs, l = [a] ∧ H a = some (.dK kvs) ∧ kvs.map (·.1) = ks ∧ RDs G A H xs (kvs.map (·.2))
  | .ins c fs => ∃ a dx ws, l = [a, dx] ∧ SlX.Slt H a (G.cls c) dx ws ∧ RF G A H fs ws
  | .dead => True
  | .tp xs => ∃ a vs, l = [a] ∧ H a = some (.tup vs) ∧ RDs G A H xs vs
  | .dcT ks xs => ∃ a kvs, l = [a] ∧ H a = some (.dT kvs) ∧ kvs.map (·.1) = ks ∧ RDs G A H xs (kvs.map (·.2))
def TabA (A : Al) (H : Hp) (p : Addr × Str) : Prop := ∃ ps : Array Value, H p.1 = some (.tbl ps) ∧ p.1 ∉ A.all ∧ TriplesOk ps.toList ∧ ∀ (pos : Pos) (cv : Value), codeAmong pos ps.toList = some cv → ∃ c, cv = .ref c ∧ H c = some (LamX.CodeO c p.2) ∧ c ∉ A.all
def TabsA (G : Gs) (A : Al) (H : Hp) : Prop := ∀ p ∈ G.T, TabA A H p
structure StR (G : Gs) (A : Al) (S : Sto) (H : Hp) : Prop where
  len : A.live.length = S.length
  nd : A.all.Nodup
  alive : ∀ a ∈ A.all, ∃ o, H a = some o
  box : ∀ (i : Nat) (l : List Addr) (o : Bo), A.live[i]? = some l → S[i]? = some o → RB G A H l o
  tabs : TabsA G A H
theorem codeO_dK {c : Addr} {q : Str} (kvs : List (Key × V)) : LamX.CodeO c q ≠ .dK kvs := fun z => by
  unfold LamX.CodeO at z
  cases z
def KeepT (A : Al) (H : Hp) (A' : Al) (H' : Hp) : Prop := ∀ a u, a ∉ A.all → H a = some u → (∀ kvs, u ≠ .dK kvs) → H' a = some u ∧ a ∉ A'.all
theorem TabsA.keep {G : Gs} {A A' : Al} {H H' : Hp} (t : TabsA G A H) (k : KeepT A H A' H') : TabsA G A' H' := fun p hp => by
  obtain ⟨ps, h1, h2, h3, h4⟩ := t p hp
  obtain ⟨k1, k2⟩ := k _ _ h2 h1 fun _ z => by cases z
  refine ⟨ps, k1, k2, h3, fun pos cv hc => ?_⟩
  obtain ⟨c, e, hco, hn⟩ := h4 pos cv hc
  obtain ⟨k3, k4⟩ := k _ _ hn hco codeO_dK
  exact ⟨c, e, k3, k4⟩
theorem TabsA.back {G : Gs} {A A' : Al} {H H' : Hp} (t0 : TabsA G A H) (t : TabsA G A' H') (k : ∀ a q, a ∈ A.all → a ∉ A'.all → H' a = some (LamX.CodeO a q) → False) : TabsA G A H' := fun p hp => by
  obtain ⟨_, _, h2, _, _⟩ := t0 p hp
  obtain ⟨ps, h1, _, h3, h4⟩ := t p hp
  refine ⟨ps, h1, h2, h3, fun pos cv hc => ?_⟩
  obtain ⟨c, e, hco, hn⟩ := h4 pos cv hc
  exact ⟨c, e, hco, fun z => k c p.2 z hn hco⟩
theorem codeO_lst {c : Addr} {q : Str} {vs : List V} : LamX.CodeO c q ≠ .lst vs := fun z => by
  unfold LamX.CodeO at z
  cases z
theorem TabsA.out {G : Gs} {A A' : Al} {H : Hp} (t : TabsA G A H) (k : ∀ a, a ∉ A.all → a ∉ A'.all) : TabsA G A' H := t.keep fun a u n e _ => ⟨e, k a n⟩
structure EnvR (G : Gs) (A : Al) (H : Hp) (ρ : Env) (σ : L2.St) : Prop where
  len : ρ.length = σ.length
  at_ : ∀ (i : Nat) (d : Dv), ρ[i]? = some (some d) → ∃ v, σ[i]? = some (some v) ∧ RD G A H d v
def Fz (u : HO) (r : Option HO) : Prop := r = some u ∨ ((∃ kvs, u = .dK kvs) ∧ ∃ o, r = some (.frz o u)) ∨ ∃ ps ps' : Array Value, u = .tbl ps ∧ r = some (.tbl ps')
structure Ext (A : Al) (H : Hp) (A' : Al) (H' : Hp) : Prop where
  live : ∀ (i : Nat) (l : List Addr), A.live[i]? = some l → A'.live[i]? = some l ∨ A'.live[i]? = some []
  hid : ∀ a u, H a = some u → a ∉ A.live.flatten → (a ∈ A'.hid ↔ a ∈ A.hid)
  keep : ∀ a u, H a = some u → a ∉ A.live.flatten → Fz u (H' a) ∧ a ∉ A'.live.flatten
  keepH : ∀ a u, H a = some u → a ∉ A.live.flatten → a ∈ A.hid → H' a = some u
section
variable {G : Gs} {A A' A1 : Al} {H H' H1 : Hp} {S S' : Sto}
theorem mem_all {a : Addr} : a ∉ A.all ↔ a ∉ A.live.flatten ∧ a ∉ A.hid := by
  unfold Al.all
  rw [List.mem_append]
  exact ⟨fun h => ⟨fun z => h (.inl z), fun z => h (.inr z)⟩, fun h z => z.elim h.1 h.2⟩
theorem Fz.there {u : HO} {r : Option HO} (h : Fz u r) : ∃ v, r = some v := by
  rcases h with h | ⟨_, o, h⟩ | ⟨_, _, _, h⟩
  · exact ⟨_, h⟩
  · exact ⟨_, h⟩
  · exact ⟨_, h⟩
theorem Fz.eq {u : HO} {r : Option HO} (h : Fz u r) (n : ¬ ∃ kvs, u = .dK kvs) (n2 : ∀ ps, u ≠ .tbl ps := by intro _ z; cases z) : r = some u := by
  rcases h with h | ⟨z, _⟩ | ⟨ps, _, z, _⟩
  · exact h
  · exact absurd z n
  · exact absurd z (n2 ps)
theorem Fz.step {u v : HO} {r : Option HO} (h : Fz u (some v)) (k : Fz v r) : Fz u r := by
  rcases h with h | ⟨z, o, h⟩ | ⟨ps, ps', e, h⟩
  · cases h
    exact k
  · cases h
    exact .inr (.inl ⟨z, o, k.eq fun ⟨_, z⟩ => by cases z⟩)
  · cases h
    rcases k with k | ⟨⟨_, z⟩, _⟩ | ⟨_, qs, _, k⟩
    · exact .inr (.inr ⟨ps, ps', e, k⟩)
    · cases z
    · exact .inr (.inr ⟨ps, qs, e, k⟩)
theorem Ext.refl : Ext A H A H := ⟨fun _ _ h => .inl h, fun _ _ _ _ => Iff.rfl, fun _ _ h n => ⟨.inl h, n⟩, fun _ _ h _ _ => h⟩
theorem Ext.trans (x : Ext A H A1 H1) (y : Ext A1 H1 A' H') : Ext A H A' H' := by
  refine ⟨fun i l h => ?_, fun a u h n => ?_, fun a u h n => ?_, fun a u h n m => ?_⟩
  · rcases x.live i l h with h | h
    · exact y.live i l h
    · rcases y.live i [] h with h | h
      · exact .inr h
      · exact .inr h
  · obtain ⟨h1, n1⟩ := x.keep a u h n
    obtain ⟨v, hv⟩ := h1.there
    exact (y.hid a v hv n1).trans (x.hid a u h n)
  · obtain ⟨h1, n1⟩ := x.keep a u h n
    obtain ⟨v, hv⟩ := h1.there
    obtain ⟨h2, n2⟩ := y.keep a v hv n1
    rw [hv] at h1
    exact ⟨h1.step h2, n2⟩
  · have h1 := x.keepH a u h n m
    have n1 := (x.keep a u h n).2
    exact y.keepH a u h1 n1 ((x.hid a u h n).mpr m)
theorem Ext.all {a : Addr} {u : HO} (x : Ext A H A' H') (h : H a = some u) (n : a ∉ A.all) : Fz u (H' a) ∧ a ∉ A'.all := by
  obtain ⟨n1, n2⟩ := mem_all.mp n
  obtain ⟨h1, m1⟩ := x.keep a u h n1
  exact ⟨h1, mem_all.mpr ⟨m1, fun z => n2 ((x.hid a u h n1).mp z)⟩⟩
end
def Nf (u : HO) : Prop := (∀ o u', u ≠ .frz o u') ∧ ∀ ps, u ≠ .tbl ps
def Lk (u : HO) : Prop := ∃ kvs, u = .dK kvs
structure Kq (A : Al) (H : Hp) (A' : Al) (H' : Hp) : Prop where
  rd : ∀ a u, Nf u → a ∉ A.all → Rd H a u → Rd H' a u ∧ a ∉ A'.all
  ex : ∀ a u, Nf u → ¬ Lk u → a ∉ A.all → H a = some u → H' a = some u ∧ a ∉ A'.all
  there : ∀ a u, a ∉ A.all → H a = some u → (∃ u', H' a = some u') ∧ a ∉ A'.all
  ef : ∀ a o vs, a ∉ A.all → H a = some (.frz o (.tup vs)) → H' a = some (.frz o (.tup vs)) ∧ a ∉ A'.all
structure Kp (A : Al) (H : Hp) (A' : Al) (H' : Hp) : Prop extends Kq A H A' H' where
  live : ∀ (i : Nat) (l : List Addr), A.live[i]? = some l → A'.live[i]? = some l ∨ A'.live[i]? = some []
section
variable {G : Gs} {A A' A1 : Al} {H H' H1 : Hp} {S S' : Sto}
theorem nf_tup {xs : List V} : Nf (.tup xs) := ⟨(fun _ _ z => by cases z), (fun _ z => by cases z)⟩
theorem nf_lst {xs : List V} : Nf (.lst xs) := ⟨(fun _ _ z => by cases z), (fun _ z => by cases z)⟩
theorem nf_dK {xs : List (Key × V)} : Nf (.dK xs) := ⟨(fun _ _ z => by cases z), (fun _ z => by cases z)⟩
theorem nf_ins {C dx : Addr} {xs : List (Str × V)} : Nf (.ins C dx xs) := ⟨(fun _ _ z => by cases z), (fun _ z => by cases z)⟩
theorem nf_slo {a C dx : Addr} {xs : List (Option V)} : Nf (SlX.SlO a C dx xs) := ⟨(fun _ _ z => by cases z), (fun _ z => by cases z)⟩
theorem nf_xd {xs : List (Str × V)} : Nf (.xd xs) := ⟨(fun _ _ z => by cases z), (fun _ z => by cases z)⟩
theorem lk_ins {C dx : Addr} {xs : List (Str × V)} : ¬ Lk (.ins C dx xs) := fun z => by
  obtain ⟨_, z⟩ := z
  cases z
theorem lk_slo {a C dx : Addr} {xs : List (Option V)} : ¬ Lk (SlX.SlO a C dx xs) := fun z => by
  obtain ⟨_, z⟩ := z
  cases z
theorem lk_xd {xs : List (Str × V)} : ¬ Lk (.xd xs) := fun z => by
  obtain ⟨_, z⟩ := z
  cases z
theorem Ext.kp (x : Ext A H A' H') : Kp A H A' H' := by
  refine ⟨⟨fun a u nf n h => ?_, fun a u nf lk n h => ?_, fun a u n h => ⟨(x.all h n).1.there, (x.all h n).2⟩, fun a o vs n h => ⟨(x.all h n).1.eq (fun ⟨_, z⟩ => by cases z), (x.all h n).2⟩⟩, x.live⟩
  · rcases h with h | ⟨o, h⟩
    · obtain ⟨h1, n1⟩ := x.all h n
      rcases h1 with h1 | ⟨_, o, h1⟩ | ⟨ps, _, z, _⟩
      · exact ⟨.inl h1, n1⟩
      · exact ⟨.inr ⟨o, h1⟩, n1⟩
      · exact absurd z (nf.2 ps)
    · obtain ⟨h1, n1⟩ := x.all h n
      exact ⟨.inr ⟨o, h1.eq fun ⟨_, z⟩ => by cases z⟩, n1⟩
  · obtain ⟨h1, n1⟩ := x.all h n
    exact ⟨h1.eq lk nf.2, n1⟩
theorem lk_tup {xs : List V} : ¬ Lk (.tup xs) := fun z => by
  obtain ⟨_, z⟩ := z
  cases z
theorem TupA.kp {tk : Bool} {a : Addr} {vs : List V} (x : Kq A H A' H') (h : TupA tk A H a vs) : TupA tk A' H' a vs := by
  obtain ⟨h | ⟨e, o, h⟩, n⟩ := h
  · obtain ⟨k, m⟩ := x.ex a _ nf_tup lk_tup n h
    exact ⟨.inl k, m⟩
  · obtain ⟨k, m⟩ := x.ef a o vs n h
    exact ⟨.inr ⟨e, o, k⟩, m⟩
theorem NtpA.kp {a : Addr} {vs : List V} (x : Kq A H A' H') (h : NtpA A H a vs) : NtpA A' H' a vs := by
  obtain ⟨⟨o, h1, h2⟩, n⟩ := h
  obtain ⟨k, m⟩ := x.ef a o vs n h1
  exact ⟨⟨o, k, h2⟩, m⟩
theorem lk_lst {xs : List V} : ¬ Lk (.lst xs) := fun z => by
  obtain ⟨_, z⟩ := z
  cases z
theorem LstA.kp {a : Addr} {vs : List V} (x : Kq A H A' H') (h : LstA A H a vs) : LstA A' H' a vs := x.ex a _ nf_lst lk_lst h.2 h.1
theorem ScrA.kp {K : PySem.W.Frag} {a : Addr} {vs : List V} (x : Kq A H A' H') (h : ScrA K A H a vs) : ScrA K A' H' a vs := by
  rcases h with ⟨h, n⟩ | h
  · exact .inl (x.rd a _ nf_lst n h)
  · exact .inr h
theorem ScrA.sq {K : PySem.W.Frag} {a : Addr} {vs : List V} (h : ScrA K A H a vs) : SqL K H a vs := by
  rcases h with ⟨h, _⟩ | h
  · exact .inl h
  · exact h H
theorem LstA.sq {K : PySem.W.Frag} {a : Addr} {vs : List V} (h : LstA A H a vs) : SqL K H a vs := .inl (.inl h.1)
theorem TupA.rd {tk : Bool} {a : Addr} {vs : List V} (h : TupA tk A H a vs) : Rd H a (.tup vs) := h.1.elim .inl fun z => .inr z.2
theorem TupA.sq {tk : Bool} {K : PySem.W.Frag} {a : Addr} {vs : List V} (h : TupA tk A H a vs) : SqT K H a vs := .inl h.rd
theorem slt_kp {a C dx : Addr} {ws : List (Option V)} (x : Kq A H A' H') (h : SlX.Slt H a C dx ws) (n : a ∉ A.all) (n2 : dx ∉ A.all) : SlX.Slt H' a C dx ws ∧ a ∉ A'.all := by
  rcases h with ⟨h, hw⟩ | ⟨h, h2⟩
  · obtain ⟨e, m⟩ := x.ex a _ nf_ins lk_ins n h
    exact ⟨.inl ⟨e, hw⟩, m⟩
  · obtain ⟨e, m⟩ := x.ex a _ nf_slo lk_slo n h
    obtain ⟨e2, m2⟩ := x.ex dx _ nf_xd lk_xd n2 h2
    exact ⟨.inr ⟨e, e2⟩, m⟩
theorem nf_xo {a d : Addr} {cls : Value} : Nf (XoH a cls d) := ⟨(fun o v z => by
  unfold XoH at z
  cases z), (fun ps z => by
  unfold XoH at z
  cases z)⟩
theorem lk_xo {a d : Addr} {cls : Value} : ¬ Lk (XoH a cls d) := fun z => by
  obtain ⟨_, z⟩ := z
  unfold XoH at z
  cases z
mutual
theorem RV.kq (x : Kq A H A' H') : ∀ {t : Dt} {v : V}, RV G A H t v → RV G A' H' t v
  | .non, _, h => h
  | .bl _, _, h => h
  | .int _, _, h => h
  | .str _, _, h => h
  | .tup xs, v, h => by
    obtain ⟨a, vs, e, ht, hs⟩ := h
    exact ⟨a, vs, e, ht.kp x, RVs.kq x hs⟩
  | .lst xs, v, h => by
    obtain ⟨a, vs, e, ht, hs⟩ := h
    exact ⟨a, vs, e, ht.kp x, RVs.kq x hs⟩
  | .scr xs, v, h => by
    obtain ⟨a, vs, e, ht, hs⟩ := h
    exact ⟨a, vs, e, ht.kp x, RVs.kq x hs⟩
  | .ltp xs, v, h => by
    obtain ⟨a, vs, e, ht, hs⟩ := h
    exact ⟨a, vs, e, ht, RVs.kq x hs⟩
  | .exc c xs, v, h => by
    obtain ⟨a, d, f, u, e, n1, n2, h1, h2, ef, hs⟩ := h
    obtain ⟨k1, m1⟩ := x.ex a _ nf_xo lk_xo n1 h1
    obtain ⟨k2, m2⟩ := x.ex d _ nf_xd lk_xd n2 h2
    exact ⟨a, d, f, u, e, m1, m2, k1, k2, ef, RVs.kq x hs⟩
  | .ntp xs, v, h => by
    obtain ⟨a, vs, e, ht, hs⟩ := h
    exact ⟨a, vs, e, ht.kp x, RVs.kq x hs⟩
  | .dct ks xs, v, h => by
    obtain ⟨a, kvs, e, n, r, ek, hs⟩ := h
    obtain ⟨r1, n1⟩ := x.rd a _ nf_dK n r
    exact ⟨a, kvs, e, n1, r1, ek, RVs.kq x hs⟩
  | .obj c xs, v, h => by
    obtain ⟨a, dx, ws, vs, e, n, n2, ⟨u, hu⟩, hsl, hi, hs⟩ := h
    obtain ⟨h1, n1⟩ := slt_kp x hsl n n2
    obtain ⟨h3, n3⟩ := x.there dx u n2 hu
    exact ⟨a, dx, ws, vs, e, n1, n3, h3, h1, hi, RVs.kq x hs⟩
theorem RVs.kq (x : Kq A H A' H') : ∀ {t : List Dt} {v : List V}, RVs G A H t v → RVs G A' H' t v
  | [], _, h => h
  | t :: ts, vs, h => by
    obtain ⟨v, r, e, h1, h2⟩ := h
    exact ⟨v, r, e, RV.kq x h1, RVs.kq x h2⟩
end
theorem RV.kp {t : Dt} {v : V} (h : RV G A H t v) (x : Kp A H A' H') : RV G A' H' t v := RV.kq x.toKq h
theorem RVs.kp {t : List Dt} {v : List V} (h : RVs G A H t v) (x : Kp A H A' H') : RVs G A' H' t v := RVs.kq x.toKq h
theorem RD.kp (x : Kp A H A' H') {d : Dv} {v : V} (h : RD G A H d v) : RD G A' H' d v := by
  cases d with
  | d t => exact RV.kp (t := t) h x
  | loc n =>
    obtain ⟨l, e, f⟩ := h
    rcases x.live n l e with e | e
    · exact ⟨l, e, f⟩
    · exact ⟨[], e, fun a r z => by cases z⟩
theorem RDs.kp (x : Kp A H A' H') {ds : List Dv} {vs : List V} (h : RDs G A H ds vs) : RDs G A' H' ds vs := Paired.mapP h fun _ _ z => RD.kp x z
theorem EnvR.kp (x : Kp A H A' H') {ρ : Env} {σ : L2.St} (h : EnvR G A H ρ σ) : EnvR G A' H' ρ σ :=
  ⟨h.len, fun i d e => let ⟨v, e1, r⟩ := h.at_ i d e; ⟨v, e1, RD.kp x r⟩⟩
theorem RF.kp (x : Kp A H A' H') {fs : List (Option Dv)} {ws : List (Option V)} (h : RF G A H fs ws) : RF G A' H' fs ws :=
  fun i d e => let ⟨v, e1, r⟩ := h i d e; ⟨v, e1, RD.kp x r⟩
theorem RVs.paired : ∀ {ts : List Dt} {vs : List V}, RVs G A H ts vs ↔ Paired (RV G A H) ts vs
  | [], vs => ⟨fun h => by
      have e : vs = [] := h
      subst e
      exact .nil, fun h => by
      cases h
      exact (rfl : ([] : List V) = [])⟩
  | t :: ts, vs => ⟨fun h => by
      obtain ⟨v, r, e, h1, h2⟩ := h
      subst e
      exact .cons h1 (RVs.paired.mp h2), fun h => by
      cases h with
      | cons h1 h2 => exact ⟨_, _, rfl, h1, RVs.paired.mpr h2⟩⟩
theorem RVs.rds {ts : List Dt} {vs : List V} (h : RVs G A H ts vs) : RDs G A H (ts.map .d) vs := by
  have p := RVs.paired.mp h
  induction p with
  | nil => exact .nil
  | cons r _ ih => exact .cons r (ih (RVs.paired.mpr ‹_›))
theorem RVs.length {ts : List Dt} {vs : List V} (h : RVs G A H ts vs) : ts.length = vs.length := (RVs.paired.mp h).length
theorem RVs.get : ∀ {ts : List Dt} {vs : List V} {i : Nat} {t : Dt}, RVs G A H ts vs → ts[i]? = some t → ∃ v, vs[i]? = some v ∧ RV G A H t v
  | [], _, i, t, _, e => by simp at e
  | t :: ts, _, 0, _, h, e => by
    obtain ⟨v, r, rfl, h1, h2⟩ := h
    simp at e
    subst e
    exact ⟨v, rfl, h1⟩
  | t :: ts, _, i + 1, _, h, e => by
    obtain ⟨v, r, rfl, h1, h2⟩ := h
    obtain ⟨u, e1, r1⟩ := RVs.get (i := i) h2 (by simpa using e)
    exact ⟨u, by simpa using e1, r1⟩
theorem RVs.get' : ∀ {ts : List Dt} {vs : List V} {i : Nat} {v : V}, RVs G A H ts vs → vs[i]? = some v → ∃ t, ts[i]? = some t ∧ RV G A H t v
  | [], vs, i, v, h, e => by
    have z : vs = [] := h
    subst z
    simp at e
  | t :: ts, _, 0, _, h, e => by
    obtain ⟨v, r, rfl, h1, h2⟩ := h
    simp at e
    subst e
    exact ⟨t, rfl, h1⟩
  | t :: ts, _, i + 1, _, h, e => by
    obtain ⟨v, r, rfl, h1, h2⟩ := h
    obtain ⟨u, e1, r1⟩ := RVs.get' (i := i) h2 (by simpa using e)
    exact ⟨u, by simpa using e1, r1⟩
theorem RVs.append : ∀ {ts us : List Dt} {vs ws : List V}, RVs G A H ts vs → RVs G A H us ws → RVs G A H (ts ++ us) (vs ++ ws)
  | [], _, _, _, h, h2 => by
    have z : _ = [] := h
    subst z
    exact h2
  | t :: ts, _, _, _, h, h2 => by
    obtain ⟨v, r, rfl, h1, h3⟩ := h
    exact ⟨v, r ++ _, rfl, h1, RVs.append h3 h2⟩
theorem RVs.take {ts : List Dt} {vs : List V} (n : Nat) (h : RVs G A H ts vs) : RVs G A H (ts.take n) (vs.take n) := by
  induction ts generalizing vs n with
  | nil =>
    have z : vs = [] := h
    subst z
    simp [RVs]
  | cons t ts ih =>
    obtain ⟨v, r, rfl, h1, h2⟩ := h
    cases n with
    | zero => exact (rfl : ([] : List V) = [])
    | succ n => exact ⟨v, r.take n, rfl, h1, ih n h2⟩
theorem RVs.drop {ts : List Dt} {vs : List V} (n : Nat) (h : RVs G A H ts vs) : RVs G A H (ts.drop n) (vs.drop n) := by
  induction ts generalizing vs n with
  | nil =>
    have z : vs = [] := h
    subst z
    simp [RVs]
  | cons t ts ih =>
    obtain ⟨v, r, rfl, h1, h2⟩ := h
    cases n with
    | zero => exact ⟨v, r, rfl, h1, h2⟩
    | succ n => exact ih n h2
theorem RDs.get {ds : List Dv} {vs : List V} {i : Nat} {d : Dv} (h : RDs G A H ds vs) (e : ds[i]? = some d) : ∃ v, vs[i]? = some v ∧ RD G A H d v := L2.paired_get h e
theorem RDs.append : ∀ {ds es : List Dv} {vs ws : List V}, RDs G A H ds vs → RDs G A H es ws → RDs G A H (ds ++ es) (vs ++ ws)
  | _, _, _, _, .nil, h => h
  | _, _, _, _, .cons r t, h => .cons r (RDs.append t h)
theorem RDs.set : ∀ {ds : List Dv} {vs : List V} (i : Nat) {d : Dv} {v : V}, RDs G A H ds vs → RD G A H d v → RDs G A H (ds.set i d) (vs.set i v)
  | _, _, _, _, _, .nil, _ => .nil
  | _, _, 0, _, _, .cons _ t, r => .cons r t
  | _, _, i + 1, _, _, .cons q t, r => .cons q (RDs.set i t r)
theorem RDs.eraseIdx : ∀ {ds : List Dv} {vs : List V} (i : Nat), RDs G A H ds vs → RDs G A H (ds.eraseIdx i) (vs.eraseIdx i)
  | _, _, _, .nil => .nil
  | _, _, 0, .cons _ t => t
  | _, _, i + 1, .cons q t => .cons q (RDs.eraseIdx i t)
end
end Sm
namespace Sm
open PySem PySem.Spec PyProof.Rows L2
section
variable {G : Gs} {A A' A1 : Al} {H H' H1 : Hp} {S S' : Sto} {p a : Addr} {o u : HO}
theorem StR.out (s : StR G A S H) (h : H p = none) : p ∉ A.all := fun z => by
  obtain ⟨o, e⟩ := s.alive p z
  rw [h] at e
  cases e
theorem upd_old (h : H p = none) (e : H a = some u) : upd H p o a = some u := by
  rw [upd_ne (ne_of_none e h)]
  exact e
theorem Ext.new (h : H p = none) : Ext A H A (upd H p o) := ⟨fun _ _ e => .inl e, fun _ _ _ _ => Iff.rfl, fun _ _ e n => ⟨.inl (upd_old h e), n⟩, fun _ _ e _ _ => upd_old h e⟩
theorem live_set {i : Nat} {x : List Addr} (h : A.live[i]? = some x) : ∀ a ∈ x, a ∈ A.live.flatten := fun a ha => List.mem_flatten.mpr ⟨x, List.mem_of_getElem? h, ha⟩
theorem RB.keep {l : List Addr} {b : Bo} (k : Kp A H A' H') (hl : ∀ a ∈ l, H' a = H a) (h : RB G A H l b) : RB G A' H' l b := by
  cases b with
  | lst xs =>
    obtain ⟨a, vs, rfl, e, r⟩ := h
    exact ⟨a, vs, rfl, (hl a (by simp)).trans e, r.kp k⟩
  | dct ks xs =>
    obtain ⟨a, vs, rfl, e, ek, r⟩ := h
    exact ⟨a, vs, rfl, (hl a (by simp)).trans e, ek, r.kp k⟩
  | ins c fs =>
    obtain ⟨a, dx, ws, rfl, e, r⟩ := h
    refine ⟨a, dx, ws, rfl, ?_, r.kp k⟩
    rcases e with ⟨e, hw⟩ | ⟨e, e2⟩
    · exact .inl ⟨(hl a (by simp)).trans e, hw⟩
    · exact .inr ⟨(hl a (by simp)).trans e, (hl dx (by simp)).trans e2⟩
  | dead => trivial
  | tp xs =>
    obtain ⟨a, vs, rfl, e, r⟩ := h
    exact ⟨a, vs, rfl, (hl a (by simp)).trans e, r.kp k⟩
  | dcT ks xs =>
    obtain ⟨a, vs, rfl, e, ek, r⟩ := h
    exact ⟨a, vs, rfl, (hl a (by simp)).trans e, ek, r.kp k⟩
theorem StR.new (s : StR G A S H) (h : H p = none) : StR G A S (upd H p o) := by
  refine ⟨s.len, s.nd, fun a ha => ?_, fun i l b e1 e2 => (s.box i l b e1 e2).keep (Ext.new h).kp fun a ha => ?_, s.tabs.keep fun a u n e _ => ⟨upd_old h e, n⟩⟩
  · obtain ⟨u, e⟩ := s.alive a ha
    exact ⟨u, upd_old h e⟩
  · have z : a ∈ A.all := List.mem_append_left _ (live_set e1 a ha)
    obtain ⟨u, e⟩ := s.alive a z
    rw [upd_old h e, e]
theorem RV.tup_new {ts : List Dt} {vs : List V} (s : StR G A S H) (h : H p = none) (r : RVs G A H ts vs) : RV G A (upd H p (.tup vs)) (.tup ts) (.ref p) :=
  ⟨p, vs, rfl, ⟨.inl upd_same, s.out h⟩, r.kp (Ext.new h).kp⟩
theorem RV.lst_new {ts : List Dt} {vs : List V} (s : StR G A S H) (h : H p = none) (r : RVs G A H ts vs) : RV G A (upd H p (.lst vs)) (.lst ts) (.ref p) :=
  ⟨p, vs, rfl, ⟨upd_same, s.out h⟩, r.kp (Ext.new h).kp⟩
def Al.push (A : Al) (l : List Addr) : Al := ⟨A.live ++ [l], A.hid⟩
theorem push_all {l : List Addr} {b : Addr} : b ∈ (A.push l).all ↔ b ∈ A.all ∨ b ∈ l := by
  unfold Al.push Al.all
  simp only [List.flatten_append, List.mem_append, List.flatten_cons, List.flatten_nil, List.append_nil]
  constructor
  · rintro ((h | h) | h)
    · exact .inl (.inl h)
    · exact .inr h
    · exact .inl (.inr h)
  · rintro ((h | h) | h)
    · exact .inl (.inl h)
    · exact .inr h
    · exact .inl (.inr h)
theorem push_old {l x : List Addr} {i : Nat} (h : A.live[i]? = some x) : (A.push l).live[i]? = some x := by
  unfold Al.push
  have := (List.getElem?_eq_some_iff.mp h).1
  rw [List.getElem?_append_left this]
  exact h
theorem push_at {l x : List Addr} {i : Nat} (h : (A.push l).live[i]? = some x) : A.live[i]? = some x ∨ (i = A.live.length ∧ x = l) := by
  unfold Al.push at h
  simp only at h
  by_cases hi : i < A.live.length
  · rw [List.getElem?_append_left hi] at h
    exact .inl h
  · rw [List.getElem?_append_right (by omega)] at h
    by_cases h0 : i - A.live.length = 0
    · rw [h0] at h
      simp at h
      exact .inr ⟨by omega, h.symm⟩
    · obtain ⟨k, hk⟩ : ∃ k, i - A.live.length = k + 1 := ⟨i - A.live.length - 1, by omega⟩
      rw [hk] at h
      simp at h
theorem push_nd {l : List Addr} (hn : A.all.Nodup) (hl : l.Nodup) (hx : ∀ b ∈ l, b ∉ A.all) : (A.push l).all.Nodup := by
  unfold Al.push Al.all at *
  simp only [List.flatten_append, List.flatten_cons, List.flatten_nil, List.append_nil]
  rw [List.nodup_append] at hn
  obtain ⟨n1, n2, n3⟩ := hn
  rw [List.nodup_append, List.nodup_append]
  refine ⟨⟨n1, hl, fun x hx1 y hy e => ?_⟩, n2, fun x hx1 y hy e => ?_⟩
  · subst e
    exact hx x hy (List.mem_append_left _ hx1)
  · subst e
    rcases List.mem_append.mp hx1 with z | z
    · exact n3 x z x hy rfl
    · exact hx x z (List.mem_append_right _ hy)
theorem Ext.push {l : List Addr} (hk : ∀ b v, H b = some v → H' b = some v) (hl : ∀ b ∈ l, H b = none) : Ext A H (A.push l) H' := by
  refine ⟨fun i x h => .inl (push_old h), fun _ _ _ _ => Iff.rfl, fun b v h n => ⟨.inl (hk b v h), fun z => ?_⟩, fun b v h _ _ => hk b v h⟩
  unfold Al.push at z
  simp only [List.flatten_append, List.mem_append, List.flatten_cons, List.flatten_nil, List.append_nil] at z
  rcases z with z | z
  · exact n z
  · rw [hl b z] at h
    cases h
theorem StR.push {l : List Addr} {b : Bo} (s : StR G A S H) (hk : ∀ b v, H b = some v → H' b = some v) (hl : ∀ b ∈ l, H b = none) (hl' : ∀ b ∈ l, ∃ v, H' b = some v) (hn : l.Nodup) (hb : RB G (A.push l) H' l b) : StR G (A.push l) (S ++ [b]) H' := by
  have x : Ext A H (A.push l) H' := Ext.push hk hl
  refine ⟨by simp [Al.push, s.len], push_nd s.nd hn fun c hc => s.out (hl c hc), fun c hc => ?_, fun i k o e1 e2 => ?_, s.tabs.keep fun a u n e _ => ⟨hk a u e, fun z => (push_all.mp z).elim n fun z => by rw [hl a z] at e; cases e⟩⟩
  · rcases push_all.mp hc with z | z
    · obtain ⟨v, e⟩ := s.alive c z
      exact ⟨v, hk c v e⟩
    · exact hl' c z
  · rcases push_at e1 with z | ⟨z, rfl⟩
    · have hi : i < S.length := by
        rw [← s.len]
        exact (List.getElem?_eq_some_iff.mp z).1
      rw [List.getElem?_append_left hi] at e2
      refine (s.box i k o z e2).keep x.kp fun c hc => ?_
      obtain ⟨v, e⟩ := s.alive c (List.mem_append_left _ (live_set z c hc))
      rw [hk c v e, e]
    · subst z
      rw [s.len, List.getElem?_append_right (Nat.le_refl _)] at e2
      simp at e2
      subst e2
      exact hb
theorem push_loc {l : List Addr} (s : StR G A S H) : (A.push l).live[S.length]? = some l := by
  unfold Al.push
  simp only
  rw [← s.len, List.getElem?_append_right (Nat.le_refl _)]
  simp
theorem RD.loc_new {r : List Addr} (s : StR G A S H) : RD G (A.push (p :: r)) H' (.loc S.length) (.ref p) :=
  ⟨p :: r, push_loc s, fun b q z => by
    injection z with z1 z2
    rw [z1]⟩
theorem box_lst {ds : List Dv} {vs : List V} (s : StR G A S H) (h : H p = none) (r : RDs G A H ds vs) :
    Ext A H (A.push [p]) (upd H p (.lst vs)) ∧ StR G (A.push [p]) (S ++ [.lst ds]) (upd H p (.lst vs)) ∧ RD G (A.push [p]) (upd H p (.lst vs)) (.loc S.length) (.ref p) := by
  have hk : ∀ b v, H b = some v → upd H p (.lst vs) b = some v := fun b v e => upd_old h e
  have hl : ∀ b ∈ [p], H b = none := fun b hb => by
    simp at hb
    rw [hb]
    exact h
  have x : Ext A H (A.push [p]) (upd H p (.lst vs)) := Ext.push hk hl
  refine ⟨x, s.push hk hl (fun b hb => ?_) (by simp) ⟨p, vs, rfl, upd_same, r.kp x.kp⟩, RD.loc_new s⟩
  simp at hb
  rw [hb]
  exact ⟨_, upd_same⟩
theorem box_dct {kvs : List (Key × V)} {ks : List Key} {ds : List Dv} (s : StR G A S H) (h : H p = none) (ek : kvs.map (·.1) = ks) (r : RDs G A H ds (kvs.map (·.2))) :
    Ext A H (A.push [p]) (upd H p (.dK kvs)) ∧ StR G (A.push [p]) (S ++ [.dct ks ds]) (upd H p (.dK kvs)) ∧ RD G (A.push [p]) (upd H p (.dK kvs)) (.loc S.length) (.ref p) := by
  have hk : ∀ b v, H b = some v → upd H p (.dK kvs) b = some v := fun b v e => upd_old h e
  have hl : ∀ b ∈ [p], H b = none := fun b hb => by
    simp at hb
    rw [hb]
    exact h
  have x : Ext A H (A.push [p]) (upd H p (.dK kvs)) := Ext.push hk hl
  refine ⟨x, s.push hk hl (fun b hb => ?_) (by simp) ⟨p, kvs, rfl, upd_same, ek, r.kp x.kp⟩, RD.loc_new s⟩
  simp at hb
  rw [hb]
  exact ⟨_, upd_same⟩
theorem box_ins {c : Nat} {dx : Addr} (s : StR G A S H) (h : H p = none) (h2 : H dx = none) (ne : dx ≠ p) :
    Ext A H (A.push [p, dx]) (upd (upd H dx (.own p)) p (.ins (G.cls c) dx [])) ∧ StR G (A.push [p, dx]) (S ++ [.ins c []]) (upd (upd H dx (.own p)) p (.ins (G.cls c) dx [])) ∧
      RD G (A.push [p, dx]) (upd (upd H dx (.own p)) p (.ins (G.cls c) dx [])) (.loc S.length) (.ref p) := by
  have h3 : upd H dx (.own p) p = none := by
    rw [upd_ne ne.symm]
    exact h
  have hk : ∀ b v, H b = some v → upd (upd H dx (.own p)) p (.ins (G.cls c) dx []) b = some v := fun b v e => upd_old h3 (upd_old h2 e)
  have hl : ∀ b ∈ [p, dx], H b = none := fun b hb => by
    simp at hb
    rcases hb with rfl | rfl
    · exact h
    · exact h2
  have x : Ext A H (A.push [p, dx]) (upd (upd H dx (.own p)) p (.ins (G.cls c) dx [])) := Ext.push hk hl
  refine ⟨x, s.push hk hl (fun b hb => ?_) (by simp [ne.symm]) ⟨p, dx, [], rfl, .inl ⟨upd_same, rfl⟩, fun i d e => by simp at e⟩, RD.loc_new s⟩
  simp at hb
  rcases hb with rfl | rfl
  · exact ⟨_, upd_same⟩
  · rw [upd_ne ne, upd_same]
    exact ⟨_, rfl⟩
theorem nd_flat : ∀ {L : List (List Addr)}, L.flatten.Nodup → (∀ x ∈ L, x.Nodup) ∧ ∀ (i j : Nat) (x y : List Addr) (b : Addr), L[i]? = some x → L[j]? = some y → b ∈ x → b ∈ y → i = j
  | [], _ => ⟨fun x z => by simp at z, fun i j x y b h => by simp at h⟩
  | l :: L, h => by
    rw [List.flatten_cons, List.nodup_append] at h
    obtain ⟨h1, h2, h3⟩ := h
    obtain ⟨i1, i2⟩ := nd_flat h2
    have mem : ∀ {k : Nat} {z : List Addr} {b : Addr}, L[k]? = some z → b ∈ z → b ∈ L.flatten := fun e hb => List.mem_flatten.mpr ⟨_, List.mem_of_getElem? e, hb⟩
    refine ⟨fun x hx => ?_, fun i j x y b e1 e2 b1 b2 => ?_⟩
    · rcases List.mem_cons.mp hx with rfl | hx
      · exact h1
      · exact i1 x hx
    · cases i with
      | zero =>
        cases j with
        | zero => rfl
        | succ j =>
          simp at e1 e2
          subst e1
          exact absurd rfl (h3 b b1 b (mem e2 b2))
      | succ i =>
        cases j with
        | zero =>
          simp at e1 e2
          subst e2
          exact absurd rfl (h3 b b2 b (mem e1 b1))
        | succ j =>
          simp at e1 e2
          rw [i2 i j x y b e1 e2 b1 b2]
theorem nd_live {i j : Nat} {x y : List Addr} {b : Addr} (hn : A.all.Nodup) (h1 : A.live[i]? = some x) (h2 : A.live[j]? = some y) (b1 : b ∈ x) (b2 : b ∈ y) : i = j := by
  unfold Al.all at hn
  rw [List.nodup_append] at hn
  exact (nd_flat hn.1).2 i j x y b h1 h2 b1 b2
theorem Ext.box {i : Nat} {l : List Addr} (h : A.live[i]? = some l) (hk : ∀ b, b ∉ l → H' b = H b) : Ext A H A H' :=
  ⟨fun _ _ e => .inl e, fun _ _ _ _ => Iff.rfl, fun b v e n => ⟨.inl (by rw [hk b fun z => n (live_set h b z)]; exact e), n⟩, fun b v e n _ => by rw [hk b fun z => n (live_set h b z)]; exact e⟩
theorem StR.setBox {i : Nat} {l : List Addr} {b : Bo} (s : StR G A S H) (h : A.live[i]? = some l) (hk : ∀ c, c ∉ l → H' c = H c) (ha : ∀ c ∈ l, ∃ v, H' c = some v) (hb : RB G A H' l b) : StR G A (S.set i b) H' := by
  have x : Ext A H A H' := Ext.box h hk
  refine ⟨by simp [s.len], s.nd, fun c hc => ?_, fun j k o e1 e2 => ?_, s.tabs.keep fun a u n e _ => ⟨(hk a fun z => n (List.mem_append_left _ (live_set h a z))).trans e, n⟩⟩
  · by_cases hcl : c ∈ l
    · exact ha c hcl
    · rw [hk c hcl]
      exact s.alive c hc
  · by_cases hj : j = i
    · subst hj
      have hi : j < S.length := by
        rw [← s.len]
        exact (List.getElem?_eq_some_iff.mp h).1
      rw [List.getElem?_set_self hi] at e2
      cases e2
      rw [h] at e1
      cases e1
      exact hb
    · rw [List.getElem?_set_ne (fun z => hj z.symm)] at e2
      exact (s.box j k o e1 e2).keep x.kp fun c hc => hk c fun z => hj (nd_live s.nd e1 h hc z)
theorem loc_lst {n : Nat} {xs : List Dv} {v : V} (s : StR G A S H) (r : RD G A H (.loc n) v) (e : S[n]? = some (.lst xs)) : ∃ a vs, v = .ref a ∧ A.live[n]? = some [a] ∧ H a = some (.lst vs) ∧ RDs G A H xs vs := by
  obtain ⟨l, h, f⟩ := r
  obtain ⟨a, vs, rfl, e1, r1⟩ := s.box n l _ h e
  exact ⟨a, vs, f a [] rfl, h, e1, r1⟩
theorem loc_dct {n : Nat} {ks : List Key} {xs : List Dv} {v : V} (s : StR G A S H) (r : RD G A H (.loc n) v) (e : S[n]? = some (.dct ks xs)) :
    ∃ a kvs, v = .ref a ∧ A.live[n]? = some [a] ∧ H a = some (.dK kvs) ∧ kvs.map (·.1) = ks ∧ RDs G A H xs (kvs.map (·.2)) := by
  obtain ⟨l, h, f⟩ := r
  obtain ⟨a, kvs, rfl, e1, ek, r1⟩ := s.box n l _ h e
  exact ⟨a, kvs, f a [] rfl, h, e1, ek, r1⟩
theorem loc_ins {n c : Nat} {fs : List (Option Dv)} {v : V} (s : StR G A S H) (r : RD G A H (.loc n) v) (e : S[n]? = some (.ins c fs)) :
    ∃ a dx ws, v = .ref a ∧ A.live[n]? = some [a, dx] ∧ dx ≠ a ∧ SlX.Slt H a (G.cls c) dx ws ∧ RF G A H fs ws := by
  obtain ⟨l, h, f⟩ := r
  obtain ⟨a, dx, ws, rfl, e1, r1⟩ := s.box n l _ h e
  refine ⟨a, dx, ws, f a [dx] rfl, h, fun z => ?_, e1, r1⟩
  subst z
  have hn := s.nd
  unfold Al.all at hn
  rw [List.nodup_append] at hn
  have := (nd_flat hn.1).1 _ (List.mem_of_getElem? h)
  simp at this
theorem set_lst {n : Nat} {a : Addr} {xs' : List Dv} {vs' : List V} (s : StR G A S H) (h : A.live[n]? = some [a]) (r : RDs G A H xs' vs') :
    Ext A H A (upd H a (.lst vs')) ∧ StR G A (S.set n (.lst xs')) (upd H a (.lst vs')) := by
  have hk : ∀ c, c ∉ [a] → upd H a (.lst vs') c = H c := fun c hc => upd_ne (by simpa using hc)
  have x : Ext A H A (upd H a (.lst vs')) := Ext.box h hk
  refine ⟨x, s.setBox h hk (fun c hc => ?_) ⟨a, vs', rfl, upd_same, r.kp x.kp⟩⟩
  simp at hc
  rw [hc]
  exact ⟨_, upd_same⟩
theorem set_dct {n : Nat} {a : Addr} {ks' : List Key} {xs' : List Dv} {kvs' : List (Key × V)} (s : StR G A S H) (h : A.live[n]? = some [a]) (ek : kvs'.map (·.1) = ks') (r : RDs G A H xs' (kvs'.map (·.2))) :
    Ext A H A (upd H a (.dK kvs')) ∧ StR G A (S.set n (.dct ks' xs')) (upd H a (.dK kvs')) := by
  have hk : ∀ c, c ∉ [a] → upd H a (.dK kvs') c = H c := fun c hc => upd_ne (by simpa using hc)
  have x : Ext A H A (upd H a (.dK kvs')) := Ext.box h hk
  refine ⟨x, s.setBox h hk (fun c hc => ?_) ⟨a, kvs', rfl, upd_same, ek, r.kp x.kp⟩⟩
  simp at hc
  rw [hc]
  exact ⟨_, upd_same⟩
theorem set_ins {n c : Nat} {a dx : Addr} {fs' : List (Option Dv)} {ws' : List (Option V)} (s : StR G A S H) (h : A.live[n]? = some [a, dx]) (ne : dx ≠ a) (r : RF G A H fs' ws') :
    Ext A H A (SlX.slH H a (G.cls c) dx ws') ∧ StR G A (S.set n (.ins c fs')) (SlX.slH H a (G.cls c) dx ws') := by
  have hk : ∀ b, b ∉ [a, dx] → SlX.slH H a (G.cls c) dx ws' b = H b := fun b hb => by
    simp at hb
    exact SlX.slH_ne hb.1 hb.2
  have x : Ext A H A (SlX.slH H a (G.cls c) dx ws') := Ext.box h hk
  refine ⟨x, s.setBox h hk (fun b hb => ?_) ⟨a, dx, ws', rfl, SlX.slH_slt ne, r.kp x.kp⟩⟩
  simp at hb
  unfold SlX.slH
  rcases hb with rfl | rfl
  · exact ⟨_, upd_same⟩
  · rw [upd_ne ne, upd_same]
    exact ⟨_, rfl⟩
end
end Sm
namespace Sm
open PySem PySem.Spec PyProof.Rows L2
inductive Rz (α : Type) where
  | ok (a : α) (S : Sto) | er (c : Nat) (t : Dt) (S : Sto) | bad
def Rz.bind {α β : Type} (r : Rz α) (f : α → Sto → Rz β) : Rz β := match r with
  | .ok a S => f a S
  | .er c t S => .er c t S
  | .bad => .bad
abbrev M (α : Type) := Env → Sto → Rz α
@[simp] theorem bind_ok {α β : Type} {a : α} {S : Sto} {f : α → Sto → Rz β} : (Rz.ok a S).bind f = f a S := rfl
@[simp] theorem bind_bad {α β : Type} {f : α → Sto → Rz β} : (Rz.bad : Rz α).bind f = .bad := rfl
@[simp] theorem bind_er {α β : Type} {c : Nat} {t : Dt} {S : Sto} {f : α → Sto → Rz β} : (Rz.er c t S : Rz α).bind f = .er c t S := rfl
def ExR (G : Gs) (A : Al) (H : Hp) (c : Nat) (t : Dt) (cls : Value) (d : Option Addr) : Prop :=
  cls = G.exc c ∧ ((G.fld c = none ∧ t = .non ∧ d = none) ∨ ∃ a f v, G.fld c = some f ∧ d = some a ∧ a ∉ A.all ∧ H a = some (.xd [(f, v)]) ∧ RV G A H t v)
def Po {α : Type} (G : Gs) (E : XK) (A : Al) (H : Hp) (r : Rz α) (k : Al → Hp → α → Prop) : Prop := match r with
  | .ok a S' => ∀ A' H', Ext A H A' H' → StR G A' S' H' → k A' H' a
  | .er c t S' => ∀ A' H' cls d, Ext A H A' H' → StR G A' S' H' → ExR G A' H' c t cls d → E cls d H'
  | .bad => False
section
variable {G : Gs} {E : XK} {A A' A1 : Al} {H H' H1 : Hp} {S S' S1 : Sto}
theorem Po.mono {α : Type} {r : Rz α} {k : Al → Hp → α → Prop} (x : Ext A H A1 H1) (h : Po G E A H r k) : Po G E A1 H1 r k := by
  cases r with
  | ok a S => exact fun A' H' y s => h A' H' (x.trans y) s
  | er c t S => exact fun A' H' cls d y s e => h A' H' cls d (x.trans y) s e
  | bad => exact h
theorem Po.step {α β : Type} {r : Rz α} {f : α → Sto → Rz β} {k : Al → Hp → β → Prop} {k' : Al → Hp → α → Prop} (h : Po G E A H (r.bind f) k)
    (q : ∀ a S1 A1 H1, Ext A H A1 H1 → StR G A1 S1 H1 → Po G E A1 H1 (f a S1) k → k' A1 H1 a) : Po G E A H r k' := by
  cases r with
  | ok a S => exact fun A' H' y s => q a S A' H' y s (Po.mono y h)
  | er c t S => exact h
  | bad => exact h
theorem Po.now {α : Type} {a : α} {k : Al → Hp → α → Prop} (h : Po G E A H (.ok a S) k) (s : StR G A S H) : k A H a := h A H .refl s
theorem Po.at {α : Type} {a : α} {k : Al → Hp → α → Prop} (h : Po G E A H (.ok a S1) k) (x : Ext A H A1 H1) (s : StR G A1 S1 H1) : k A1 H1 a := h A1 H1 x s
end
abbrev kD (G : Gs) (Q : VK) : Al → Hp → Dv → Prop := fun A' H' d => ∀ v, RD G A' H' d v → Q v H'
abbrev Wa (W : WX) (σ : L2.St) : XK := fun c d H => W c d σ H
def tM (G : Gs) (W : WX) (m : M Dv) : TE := fun σ H Q => ∃ A ρ S, EnvR G A H ρ σ ∧ StR G A S H ∧ Po G (Wa W σ) A H (m ρ S) (kD G Q)
def tMT (G : Gs) (W : WX) (m : M Bool) : TT := fun σ H Q => ∃ A ρ S, EnvR G A H ρ σ ∧ StR G A S H ∧ Po G (Wa W σ) A H (m ρ S) fun _ H' b => Q b H'
def tMA (G : Gs) (W : WX) (m : M (List Dv)) : TA := fun σ H Q => ∃ A ρ S, EnvR G A H ρ σ ∧ StR G A S H ∧ Po G (Wa W σ) A H (m ρ S) fun A' H' ds => ∀ vs, RDs G A' H' ds vs → Q vs H'
abbrev Pz (α : Type) := Option (α × Sto)
def lift {α : Type} : Pz α → Rz α
  | some (a, S) => .ok a S
  | none => .bad
@[simp] theorem lift_some {α : Type} {a : α} {S : Sto} : lift (some (a, S)) = .ok a S := rfl
@[simp] theorem lift_none {α : Type} : lift (none : Pz α) = .bad := rfl
theorem Po.lift {α : Type} {G : Gs} {E E' : XK} {A : Al} {H : Hp} {o : Pz α} {k : Al → Hp → α → Prop} (h : Po G E A H (lift o) k) : Po G E' A H (Sm.lift o) k := by
  cases o with
  | none => exact h
  | some p => exact h
abbrev P1 := Dv → Sto → Pz Dv
abbrev P2 := Dv → Dv → Sto → Pz Dv
abbrev PN := List Dv → Sto → Pz Dv
abbrev PT1 := Dv → Sto → Option Bool
abbrev Ez : XK := fun _ _ _ => False
def q1 (G : Gs) (p : P1) : V → Hp → VK → Prop := fun x H Q => ∃ A S d, RD G A H d x ∧ StR G A S H ∧ Po G Ez A H (lift (p d S)) (kD G Q)
def q2 (G : Gs) (p : P2) : R2 := fun x y H Q => ∃ A S d e, RD G A H d x ∧ RD G A H e y ∧ StR G A S H ∧ Po G Ez A H (lift (p d e S)) (kD G Q)
def qN (G : Gs) (p : PN) : List V → Hp → VK → Prop := fun xs H Q => ∃ A S ds, RDs G A H ds xs ∧ StR G A S H ∧ Po G Ez A H (lift (p ds S)) (kD G Q)
def li {α : Type} (o : Option α) (S : Sto) : Rz α := match o with
  | some a => .ok a S
  | none => .bad
@[simp] theorem li_some {α : Type} {a : α} {S : Sto} : li (some a) S = .ok a S := rfl
@[simp] theorem li_none {α : Type} {S : Sto} : li (none : Option α) S = .bad := rfl
def mV (i : Nat) : M Dv := fun ρ S => match ρ[i]? with
  | some (some d) => .ok d S
  | _ => .bad
def mC (t : Dt) : M Dv := fun _ S => .ok (.d t) S
def m1 (p : P1) (a : M Dv) : M Dv := fun ρ S => (a ρ S).bind fun x S1 => lift (p x S1)
def m2 (p : P2) (a b : M Dv) : M Dv := fun ρ S => (a ρ S).bind fun x S1 => (b ρ S1).bind fun y S2 => lift (p x y S2)
def mN (p : PN) (a : M (List Dv)) : M Dv := fun ρ S => (a ρ S).bind fun xs S1 => lift (p xs S1)
def aNil : M (List Dv) := fun _ S => .ok [] S
def aCons (a : M Dv) (r : M (List Dv)) : M (List Dv) := fun ρ S => (a ρ S).bind fun x S1 => (r ρ S1).bind fun xs S2 => .ok (x :: xs) S2
def toB (d : Dv) : Option Bool := match d with
  | .d (.bl b) => some b
  | _ => none
def mTst (a : M Dv) : M Bool := fun ρ S => (a ρ S).bind fun d S1 => li (toB d) S1
def mTru (p : PT1) (a : M Dv) : M Bool := fun ρ S => (a ρ S).bind fun d S1 => li (p d S1) S1
def cAnd (a b : M Bool) : M Bool := fun ρ S => (a ρ S).bind fun c S1 => if c = true then b ρ S1 else .ok false S1
def cOr (a b : M Bool) : M Bool := fun ρ S => (a ρ S).bind fun c S1 => if c = true then .ok true S1 else b ρ S1
def cNot (a : M Bool) : M Bool := fun ρ S => (a ρ S).bind fun c S1 => .ok (!c) S1
def mIf (c : M Bool) (a b : M Dv) : M Dv := fun ρ S => (c ρ S).bind fun k S1 => if k = true then a ρ S1 else b ρ S1
def mAnd (a b : M Dv) : M Dv := fun ρ S => (a ρ S).bind fun x S1 => (li (toB x) S1).bind fun c S2 => if c = true then b ρ S2 else .ok (.d (.bl false)) S2
def mOr (a b : M Dv) : M Dv := fun ρ S => (a ρ S).bind fun x S1 => (li (toB x) S1).bind fun c S2 => if c = true then .ok (.d (.bl true)) S2 else b ρ S2
def mNot (a : M Dv) : M Dv := fun ρ S => (a ρ S).bind fun x S1 => (li (toB x) S1).bind fun c S2 => .ok (.d (.bl (!c))) S2
def mOrT (p : PT1) (a b : M Dv) : M Dv := fun ρ S => (a ρ S).bind fun x S1 => (li (p x S1) S1).bind fun c S2 => if c = true then .ok x S2 else b ρ S2
def mNotT (p : PT1) (a : M Dv) : M Dv := fun ρ S => (a ρ S).bind fun x S1 => (li (p x S1) S1).bind fun c S2 => .ok (.d (.bl (!c))) S2
theorem _root_.L2.PE.sm {X : Cx} {e : Expr} {t t' : TE} (h : PE X e t) (f : ∀ σ H Q, t' σ H Q → t σ H Q) : PE X e t' := ⟨fun pins s σ H Q I q => h.run pins s σ H Q I (f σ H Q q)⟩
theorem _root_.L2.PT.sm {X : Cx} {e : Expr} {t t' : TT} (h : PT X e t) (f : ∀ σ H Q, t' σ H Q → t σ H Q) : PT X e t' := ⟨fun pins s σ H Q I q => h.run pins s σ H Q I (f σ H Q q)⟩
theorem _root_.L2.PW.sm {X : Cx} {e : Expr} {t t' : TT} (h : PW X e t) (f : ∀ σ H Q, t' σ H Q → t σ H Q) : PW X e t' := ⟨fun wh pins s σ H Q I q => h.run wh pins s σ H Q I (f σ H Q q)⟩
theorem _root_.L2.PA.sm {X : Cx} {e : List Expr} {t t' : TA} (h : PA X e t) (f : ∀ σ H Q, t' σ H Q → t σ H Q) : PA X e t' := ⟨fun pos pins s σ H Q I q => h.run pos pins s σ H Q I (f σ H Q q)⟩
theorem _root_.L2.OpR.sm {X : Cx} {f : Value → Value → Sem Value} {r r' : R2} (h : OpR X f r) (k : ∀ x y H Q, r' x y H Q → r x y H Q) : OpR X f r' :=
  fun pins s σ H x y v u Q I rx ry q => h pins s σ H x y v u Q I rx ry (k x y H Q q)
theorem _root_.L2.UnR.sm {X : Cx} {f : Value → Sem Value} {r r' : V → Hp → VK → Prop} (h : UnR X f r) (k : ∀ x H Q, r' x H Q → r x H Q) : UnR X f r' :=
  fun pins s σ H x v Q I rx q => h pins s σ H x v Q I rx (k x H Q q)
theorem _root_.L2.CallR.sm {X : Cx} {f : Value} {r r' : List V → Hp → VK → Prop} (h : CallR X f r) (k : ∀ x H Q, r' x H Q → r x H Q) : CallR X f r' :=
  fun pins s σ H x v Q I rx q => h pins s σ H x v Q I rx (k x H Q q)
theorem _root_.L2.IxR.sm {X : Cx} {r r' : R2} (h : IxR X r) (k : ∀ x y H Q, r' x y H Q → r x y H Q) : IxR X r' :=
  fun a b pins s σ H x y v u Q I rx ry q => h a b pins s σ H x y v u Q I rx ry (k x y H Q q)
theorem _root_.L2.MtR.sm {X : Cx} {id : String} {r r' : V → List V → Hp → VK → Prop} (h : MtR X id r) (k : ∀ x xs H Q, r' x xs H Q → r x xs H Q) : MtR X id r' :=
  fun pins s σ H x xs v us Q I rx rxs q => h pins s σ H x xs v us Q I rx rxs (k x xs H Q q)
section
variable {X : Cx} {G : Gs} {E : XK} {W : WX} {a b c e : Expr} {es : List Expr} {pos : Pos} {ma mb : M Dv} {ca cb : M Bool}
theorem e_var {i : Nat} {x : Str} (hN : X.N[i]? = some x) (hv : Vis X.env.scope x) (hd : (x == ("__debug__" : Str)) = false) (hcd : (x == ("__classdict__" : Str)) = false) : PE X (.Name x pos) (tM G W (mV i)) := by
  refine (pe_var hN hv hd hcd).sm fun σ H Q h => ?_
  obtain ⟨A, ρ, S, he, hs, p⟩ := h
  unfold mV at p
  cases e1 : ρ[i]? with
  | none =>
    rw [e1] at p
    exact p.elim
  | some o =>
    cases o with
    | none =>
      rw [e1] at p
      exact p.elim
    | some d =>
      rw [e1] at p
      obtain ⟨v, e2, r⟩ := he.at_ i d e1
      exact ⟨v, e2, Po.now p hs v r⟩
theorem e_of {t : Dt} {v : V} (h : PE X e (tC v)) (r : ∀ A H, RV G A H t v) : PE X e (tM G W (mC t)) := by
  refine h.sm fun σ H Q h => ?_
  obtain ⟨A, ρ, S, he, hs, p⟩ := h
  exact Po.now p hs v (r A H)
theorem e_int {i : Int} {j : Nat} : PE X (.Constant (.int i) j pos) (tM G W (mC (.int i))) := e_of pe_int fun _ _ => rfl
theorem e_bl {b : Bool} {j : Nat} : PE X (.Constant (.bool b) j pos) (tM G W (mC (.bl b))) := e_of pe_bl fun _ _ => rfl
theorem e_non {j : Nat} : PE X (.Constant .none j pos) (tM G W (mC .non)) := e_of pe_non fun _ _ => rfl
theorem e_str {x : Str} {j : Nat} : PE X (.Constant (.str x) j pos) (tM G W (mC (.str x))) := e_of pe_str fun _ _ => rfl
theorem then2 {σ : L2.St} {H : Hp} {ta tb : TE} {p : P2} {Q : VK} {r : R2} (ha : ta = tM G W ma) (hb : tb = tM G W mb) (h : tM G W (m2 p ma mb) σ H Q) (hr : ∀ x y H, q2 G p x y H Q → r x y H Q) :
    ta σ H fun x H1 => tb σ H1 fun y H2 => r x y H2 Q := by
  subst ha hb
  obtain ⟨A, ρ, S, he, hs, p0⟩ := h
  refine ⟨A, ρ, S, he, hs, Po.step p0 fun d S1 A1 H1 x1 s1 p1 v rv => ?_⟩
  refine ⟨A1, ρ, S1, he.kp x1.kp, s1, Po.step p1 fun d2 S2 A2 H2 x2 s2 p2 v2 rv2 => ?_⟩
  exact hr v v2 H2 ⟨A2, S2, d, d2, rv.kp x2.kp, rv2, s2, Po.lift p2⟩
theorem e_op {op : Operator} {p : P2} (ho : OpR X (binaryOp op) (q2 G p)) (ha : PE X a (tM G W ma)) (hb : PE X b (tM G W mb)) : PE X (.BinOp a op b pos) (tM G W (m2 p ma mb)) :=
  (pe_op ho ha hb).sm fun _ _ _ h => then2 rfl rfl h fun _ _ _ q => q
theorem e_cmp {op : CmpOp} {p : P2} (ho : OpR X (compareOp op) (q2 G p)) (ha : PE X a (tM G W ma)) (hb : PE X b (tM G W mb)) (hm : behindInMarks op b = false) : PE X (.Compare a [op] [b] pos) (tM G W (m2 p ma mb)) :=
  (pe_cmpR ho ha hb hm).sm fun _ _ _ h => then2 rfl rfl h fun _ _ _ q => q
theorem toB_po {d : Dv} {S : Sto} {A : Al} {H : Hp} {v : V} {k : Al → Hp → Bool → Prop} (h : Po G E A H (li (toB d) S) k) (s : StR G A S H) (r : RD G A H d v) : ∃ b, v = .bl b ∧ k A H b := by
  cases d with
  | loc n => exact h.elim
  | d t =>
    cases t with
    | bl b => exact ⟨b, r, Po.now h s⟩
    | _ => exact h.elim
theorem c_cmp {op : CmpOp} {p : P2} (ho : OpR X (compareOp op) (q2 G p)) (ha : PE X a (tM G W ma)) (hb : PE X b (tM G W mb)) (hm : behindInMarks op b = false) : PT X (.Compare a [op] [b] pos) (tMT G W (mTst (m2 p ma mb))) := by
  refine (pt_cmpR ho ha hb hm).sm fun σ H Q h => ?_
  obtain ⟨A, ρ, S, he, hs, p0⟩ := h
  refine then2 (Q := fun x H' => ∃ k, x = .bl k ∧ Q k H') rfl rfl ⟨A, ρ, S, he, hs, Po.step p0 fun d S1 A1 H1 x1 s1 p1 v rv => ?_⟩ fun _ _ _ q => q
  exact toB_po p1 s1 rv
def TruS (G : Gs) (p : PT1) : Prop := ∀ (A : Al) (S : Sto) (H : Hp) (d : Dv) (v : V) (b : Bool), RD G A H d v → StR G A S H → p d S = some b → TruV G.K v H b
theorem c_tru {p : PT1} (hp : TruS G p) (hK : G.K = X.K) (ha : PE X a (tM G W ma)) (he : ∀ whole, isTrue a X.env whole = (do let v ← whole; standAt a.pos; holding [v] (truthy v))) : PT X a (tMT G W (mTru p ma)) := by
  refine (pt_truth ha he).sm fun σ H Q h => ?_
  obtain ⟨A, ρ, S, he, hs, p0⟩ := h
  refine ⟨A, ρ, S, he, hs, Po.step p0 fun d S1 A1 H1 x1 s1 p1 v rv => ?_⟩
  rw [← hK]
  cases e1 : p d S1 with
  | none =>
    rw [e1] at p1
    exact p1.elim
  | some b =>
    rw [e1] at p1
    exact ⟨b, hp A1 S1 H1 d v b rv s1 e1, Po.now p1 s1⟩
theorem w_and1 (ha : PT X a (tMT G W ca)) : PW X (.BoolOp .And [a] pos) (tMT G W ca) := pw_and1 ha
theorem w_or1 (ha : PT X a (tMT G W ca)) : PW X (.BoolOp .Or [a] pos) (tMT G W ca) := pw_or1 ha
theorem w_and (ha : PT X a (tMT G W ca)) (hb : PW X (.BoolOp .And (b :: es) pos) (tMT G W cb)) : PW X (.BoolOp .And (a :: b :: es) pos) (tMT G W (cAnd ca cb)) := by
  refine (pw_and ha hb).sm fun σ H Q h => ?_
  obtain ⟨A, ρ, S, he, hs, p0⟩ := h
  refine ⟨A, ρ, S, he, hs, Po.step p0 fun c S1 A1 H1 x1 s1 p1 => ?_⟩
  cases c with
  | true => exact ⟨A1, ρ, S1, he.kp x1.kp, s1, p1⟩
  | false => exact Po.now p1 s1
theorem w_or (ha : PT X a (tMT G W ca)) (hb : PW X (.BoolOp .Or (b :: es) pos) (tMT G W cb)) : PW X (.BoolOp .Or (a :: b :: es) pos) (tMT G W (cOr ca cb)) := by
  refine (pw_or ha hb).sm fun σ H Q h => ?_
  obtain ⟨A, ρ, S, he, hs, p0⟩ := h
  refine ⟨A, ρ, S, he, hs, Po.step p0 fun c S1 A1 H1 x1 s1 p1 => ?_⟩
  cases c with
  | true => exact Po.now p1 s1
  | false => exact ⟨A1, ρ, S1, he.kp x1.kp, s1, p1⟩
theorem c_not (ha : PT X a (tMT G W ca)) : PT X (.UnaryOp .Not a pos) (tMT G W (cNot ca)) := by
  refine (pt_not ha).sm fun σ H Q h => ?_
  obtain ⟨A, ρ, S, he, hs, p0⟩ := h
  exact ⟨A, ρ, S, he, hs, Po.step p0 fun c S1 A1 H1 x1 s1 p1 => Po.now p1 s1⟩
theorem e_if (hc : PT X c (tMT G W ca)) (ha : PE X a (tM G W ma)) (hb : PE X b (tM G W mb)) : PE X (.IfExp c a b pos) (tM G W (mIf ca ma mb)) := by
  refine (pe_ifExp hc ha hb).sm fun σ H Q h => ?_
  obtain ⟨A, ρ, S, he, hs, p0⟩ := h
  refine ⟨A, ρ, S, he, hs, Po.step p0 fun c S1 A1 H1 x1 s1 p1 => ?_⟩
  cases c with
  | true => exact ⟨A1, ρ, S1, he.kp x1.kp, s1, p1⟩
  | false => exact ⟨A1, ρ, S1, he.kp x1.kp, s1, p1⟩
theorem e_one {op : BoolOp} {t : TE} (h : PE X a t) : PE X (.BoolOp op [a] pos) t := pe_one h
theorem e_and (ha : PE X a (tM G W ma)) (hb : PE X (.BoolOp .And (b :: es) pos) (tM G W mb)) : PE X (.BoolOp .And (a :: b :: es) pos) (tM G W (mAnd ma mb)) := by
  refine (pe_and ha hb).sm fun σ H Q h => ?_
  obtain ⟨A, ρ, S, he, hs, p0⟩ := h
  refine ⟨A, ρ, S, he, hs, Po.step p0 fun d S1 A1 H1 x1 s1 p1 v rv => ?_⟩
  cases d with
  | loc n => exact p1.elim
  | d t =>
    cases t with
    | bl b =>
      refine ⟨b, rv, ?_⟩
      cases b with
      | true => exact ⟨A1, ρ, S1, he.kp x1.kp, s1, p1⟩
      | false => exact Po.now p1 s1 _ rfl
    | _ => exact p1.elim
theorem e_not (ha : PE X a (tM G W ma)) : PE X (.UnaryOp .Not a pos) (tM G W (mNot ma)) := by
  refine (pe_not ha).sm fun σ H Q h => ?_
  obtain ⟨A, ρ, S, he, hs, p0⟩ := h
  refine ⟨A, ρ, S, he, hs, Po.step p0 fun d S1 A1 H1 x1 s1 p1 v rv => ?_⟩
  cases d with
  | loc n => exact p1.elim
  | d t =>
    cases t with
    | bl b => exact ⟨b, rv, Po.now p1 s1 _ rfl⟩
    | _ => exact p1.elim
theorem e_orT {p : PT1} (hp : TruS G p) (hK : G.K = X.K) (ha : PE X a (tM G W ma)) (hb : PE X (.BoolOp .Or (b :: es) pos) (tM G W mb)) : PE X (.BoolOp .Or (a :: b :: es) pos) (tM G W (mOrT p ma mb)) := by
  refine (pe_orT ha hb).sm fun σ H Q h => ?_
  obtain ⟨A, ρ, S, he, hs, p0⟩ := h
  refine ⟨A, ρ, S, he, hs, Po.step p0 fun d S1 A1 H1 x1 s1 p1 v rv => ?_⟩
  rw [← hK]
  cases e1 : p d S1 with
  | none =>
    rw [e1] at p1
    exact p1.elim
  | some k =>
    rw [e1] at p1
    refine ⟨k, hp A1 S1 H1 d v k rv s1 e1, ?_⟩
    cases k with
    | true => exact Po.now p1 s1 v rv
    | false => exact ⟨A1, ρ, S1, he.kp x1.kp, s1, p1⟩
theorem a_nil : PA X [] (tMA G W aNil) := by
  refine pa_nil.sm fun σ H Q h => ?_
  obtain ⟨A, ρ, S, he, hs, p0⟩ := h
  exact Po.now p0 hs [] .nil
theorem a_cons {mr : M (List Dv)} (ha : PE X e (tM G W ma)) (hr : PA X es (tMA G W mr)) (hs : starEach (e :: es) X.env = (false, eval e X.env) :: starEach es X.env) : PA X (e :: es) (tMA G W (aCons ma mr)) := by
  refine (pa_cons ha hr hs).sm fun σ H Q h => ?_
  obtain ⟨A, ρ, S, he, hs, p0⟩ := h
  refine ⟨A, ρ, S, he, hs, Po.step p0 fun d S1 A1 H1 x1 s1 p1 v rv => ?_⟩
  refine ⟨A1, ρ, S1, he.kp x1.kp, s1, Po.step p1 fun ds S2 A2 H2 x2 s2 p2 vs rvs => ?_⟩
  exact Po.now p2 s2 _ (.cons (rv.kp x2.kp) rvs)
theorem e_callB {x : Str} {p' : Pos} {p : PN} {id : String} {ma : M (List Dv)} (hc : CallR X (.builtin id) (qN G p)) (hg : Gl X x) (hm : X.mg x = none) (hv : bootBuiltins x = some (.builtin id)) (ha : PA X (e :: es) (tMA G W ma)) (hn : x ≠ "__name__") (hdb : (x == ("__debug__" : Str)) = false)
    (he : starEach (e :: es) X.env = (false, eval e X.env) :: starEach es X.env) (hpl : (backTo pos (starEach es X.env)).any (·.1) = false) : PE X (.Call (.Name x p') (e :: es) [] pos) (tM G W (mN p ma)) := by
  refine (pe_callB hc hg hm hv ha hn hdb he hpl).sm fun σ H Q h => ?_
  obtain ⟨A, ρ, S, he, hs, p0⟩ := h
  exact ⟨A, ρ, S, he, hs, Po.step p0 fun ds S1 A1 H1 x1 s1 p1 vs rvs => ⟨A1, S1, ds, rvs, s1, Po.lift p1⟩⟩
theorem e_callT {x : Str} {p' : Pos} {p : PN} {T : String} {ma : M (List Dv)} (hc : CallR X (.type T) (qN G p)) (hg : Gl X x) (hm : X.mg x = none) (hv : bootBuiltins x = some (.type T)) (ha : PA X (e :: es) (tMA G W ma)) (hn : x ≠ "__name__") (hdb : (x == ("__debug__" : Str)) = false)
    (he : starEach (e :: es) X.env = (false, eval e X.env) :: starEach es X.env) (hpl : (backTo pos (starEach es X.env)).any (·.1) = false) : PE X (.Call (.Name x p') (e :: es) [] pos) (tM G W (mN p ma)) := by
  refine (pe_callTy hc hg hm hv ha hn hdb he hpl).sm fun σ H Q h => ?_
  obtain ⟨A, ρ, S, he, hs, p0⟩ := h
  exact ⟨A, ρ, S, he, hs, Po.step p0 fun ds S1 A1 H1 x1 s1 p1 vs rvs => ⟨A1, S1, ds, rvs, s1, Po.lift p1⟩⟩
theorem e_un {op : UnaryOp} {p : P1} (ho : UnR X (unaryOp op) (q1 G p)) (ha : PE X a (tM G W ma)) : PE X (.UnaryOp op a pos) (tM G W (m1 p ma)) := by
  refine (pe_un ho ha).sm fun σ H Q h => ?_
  obtain ⟨A, ρ, S, he, hs, p0⟩ := h
  exact ⟨A, ρ, S, he, hs, Po.step p0 fun d S1 A1 H1 x1 s1 p1 v rv => ⟨A1, S1, d, rv, s1, Po.lift p1⟩⟩
theorem e_ix {p : P2} (hr : IxR X (q2 G p)) (ha : PE X a (tM G W ma)) (hb : PE X b (tM G W mb)) (hs : PlainIx b) : PE X (.Subscript a b pos) (tM G W (m2 p ma mb)) :=
  (pe_ix hr ha hb hs).sm fun _ _ _ h => then2 rfl rfl h fun _ _ _ q => q
def pures : List Dv → Option (List Dt)
  | [] => some []
  | .d t :: r => (pures r).map (t :: ·)
  | .loc _ :: _ => none
theorem line_of {n : Nat} (h : n ≤ 16777216) : n ≤ sizeLine := by rw [sizeLine_eq]; exact h
def pTup : PN := fun ds S => match pures ds with
  | some ts => if ts.length ≤ 16777216 then some (.d (.tup ts), S) else none
  | none => none
def pLst : PN := fun ds S => match pures ds with
  | some ts => if ts.length ≤ 16777216 then some (.d (.lst ts), S) else none
  | none => none
def pLstB : PN := fun ds S => if ds.length ≤ 16777216 then some (.loc S.length, S ++ [.lst ds]) else none
theorem pures_rvs {A : Al} {H : Hp} : ∀ {ds : List Dv} {ts : List Dt} {vs : List V}, pures ds = some ts → RDs G A H ds vs → RVs G A H ts vs
  | [], ts, vs, e, r => by
    cases e
    cases r
    exact (rfl : ([] : List V) = [])
  | .d t :: ds, ts, vs, e, r => by
    unfold pures at e
    cases e1 : pures ds with
    | none =>
      rw [e1] at e
      cases e
    | some us =>
      rw [e1] at e
      cases e
      cases r with
      | cons r1 r2 => exact ⟨_, _, rfl, r1, pures_rvs e1 r2⟩
  | .loc n :: ds, ts, vs, e, r => by
    cases e
theorem tup_po {A : Al} {S : Sto} {H : Hp} {ds : List Dv} {vs : List V} {Q : VK} (s : StR G A S H) (r : RDs G A H ds vs) (p : Po G E A H (lift (pTup ds S)) (kD G Q)) : vs.length ≤ sizeLine ∧ ∀ q, H q = none → Q (.ref q) (upd H q (.tup vs)) := by
  unfold pTup at p
  cases e1 : pures ds with
  | none =>
    rw [e1] at p
    exact p.elim
  | some ts =>
    rw [e1] at p
    have r1 := pures_rvs e1 r
    by_cases hl : ts.length ≤ 16777216
    · simp only [hl, if_true] at p
      refine ⟨by rw [← r1.length]; exact line_of hl, fun q hq => Po.at p (Ext.new hq) (s.new hq) _ (RV.tup_new s hq r1)⟩
    · simp only [hl, if_false] at p
      exact p.elim
theorem lst_po {A : Al} {S : Sto} {H : Hp} {ds : List Dv} {vs : List V} {Q : VK} (s : StR G A S H) (r : RDs G A H ds vs) (p : Po G E A H (lift (pLst ds S)) (kD G Q)) : vs.length ≤ sizeLine ∧ ∀ q, H q = none → Q (.ref q) (upd H q (.lst vs)) := by
  unfold pLst at p
  cases e1 : pures ds with
  | none =>
    rw [e1] at p
    exact p.elim
  | some ts =>
    rw [e1] at p
    have r1 := pures_rvs e1 r
    by_cases hl : ts.length ≤ 16777216
    · simp only [hl, if_true] at p
      refine ⟨by rw [← r1.length]; exact line_of hl, fun q hq => Po.at p (Ext.new hq) (s.new hq) _ (RV.lst_new s hq r1)⟩
    · simp only [hl, if_false] at p
      exact p.elim
theorem lstB_po {A : Al} {S : Sto} {H : Hp} {ds : List Dv} {vs : List V} {Q : VK} (s : StR G A S H) (r : RDs G A H ds vs) (p : Po G E A H (lift (pLstB ds S)) (kD G Q)) : vs.length ≤ sizeLine ∧ ∀ q, H q = none → Q (.ref q) (upd H q (.lst vs)) := by
  unfold pLstB at p
  by_cases hl : ds.length ≤ 16777216
  · simp only [hl, if_true] at p
    refine ⟨by rw [← Paired.length r]; exact line_of hl, fun q hq => ?_⟩
    obtain ⟨x1, s1, r1⟩ := box_lst s hq r
    exact Po.at p x1 s1 _ r1
  · simp only [hl, if_false] at p
    exact p.elim
theorem e_tup {k : Nat} {ma : M (List Dv)} (h : PA X es (tMA G W ma)) : PE X (.Tuple es k pos) (tM G W (mN pTup ma)) := by
  refine (pe_tup h).sm fun σ H Q h => ?_
  obtain ⟨A, ρ, S, he, hs, p0⟩ := h
  exact ⟨A, ρ, S, he, hs, Po.step p0 fun ds S1 A1 H1 x1 s1 p1 vs rvs => tup_po s1 rvs p1⟩
theorem e_lst {ma : M (List Dv)} (h : PA X es (tMA G W ma)) : PE X (.List es pos) (tM G W (mN pLst ma)) := by
  refine (pe_lst h).sm fun σ H Q h => ?_
  obtain ⟨A, ρ, S, he, hs, p0⟩ := h
  exact ⟨A, ρ, S, he, hs, Po.step p0 fun ds S1 A1 H1 x1 s1 p1 vs rvs => lst_po s1 rvs p1⟩
theorem e_lstB {ma : M (List Dv)} (h : PA X es (tMA G W ma)) : PE X (.List es pos) (tM G W (mN pLstB ma)) := by
  refine (pe_lst h).sm fun σ H Q h => ?_
  obtain ⟨A, ρ, S, he, hs, p0⟩ := h
  exact ⟨A, ρ, S, he, hs, Po.step p0 fun ds S1 A1 H1 x1 s1 p1 vs rvs => lstB_po s1 rvs p1⟩
end
end Sm
namespace Sm
open PySem PySem.Spec PyProof.Rows L2
inductive Sz where
  | nx (ρ : Env) (S : Sto) | rt (d : Dv) (S : Sto) | bk (ρ : Env) (S : Sto) | ct (ρ : Env) (S : Sto) | er (c : Nat) (t : Dt) (ρ : Env) (S : Sto) | bad
abbrev SM := Env → Sto → Sz
def Rz.to {α : Type} (r : Rz α) (ρ : Env) (f : α → Sto → Sz) : Sz := match r with
  | .ok a S => f a S
  | .er c t S => .er c t ρ S
  | .bad => .bad
@[simp] theorem to_ok {α : Type} {a : α} {S : Sto} {ρ : Env} {f : α → Sto → Sz} : (Rz.ok a S).to ρ f = f a S := rfl
@[simp] theorem to_bad {α : Type} {ρ : Env} {f : α → Sto → Sz} : (Rz.bad : Rz α).to ρ f = .bad := rfl
@[simp] theorem to_er {α : Type} {c : Nat} {t : Dt} {S : Sto} {ρ : Env} {f : α → Sto → Sz} : (Rz.er c t S : Rz α).to ρ f = .er c t ρ S := rfl
def PoS (G : Gs) (W : WX) (A : Al) (H : Hp) (r : Sz) (D : Ends) : Prop := match r with
  | .nx ρ S => ∀ A' H' σ', Ext A H A' H' → StR G A' S H' → EnvR G A' H' ρ σ' → D.nx σ' H'
  | .rt d S => ∀ A' H' v, Ext A H A' H' → StR G A' S H' → RD G A' H' d v → D.rt v H'
  | .bk ρ S => ∀ A' H' σ', Ext A H A' H' → StR G A' S H' → EnvR G A' H' ρ σ' → D.bk σ' H'
  | .ct ρ S => ∀ A' H' σ', Ext A H A' H' → StR G A' S H' → EnvR G A' H' ρ σ' → D.ct σ' H'
  | .er c t ρ S => ∀ A' H' σ' cls d, Ext A H A' H' → StR G A' S H' → EnvR G A' H' ρ σ' → ExR G A' H' c t cls d → W cls d σ' H'
  | .bad => False
section
variable {G : Gs} {W : WX} {A A' A1 : Al} {H H' H1 : Hp} {S S' S1 : Sto}
theorem PoS.mono {r : Sz} {D : Ends} (x : Ext A H A1 H1) (h : PoS G W A H r D) : PoS G W A1 H1 r D := by
  cases r with
  | nx ρ S => exact fun A' H' σ' y s e => h A' H' σ' (x.trans y) s e
  | rt d S => exact fun A' H' σ' y s e => h A' H' σ' (x.trans y) s e
  | bk ρ S => exact fun A' H' σ' y s e => h A' H' σ' (x.trans y) s e
  | ct ρ S => exact fun A' H' σ' y s e => h A' H' σ' (x.trans y) s e
  | er c t ρ S => exact fun A' H' σ' cls d y s e r => h A' H' σ' cls d (x.trans y) s e r
  | bad => exact h
theorem PoS.step {α : Type} {r : Rz α} {ρ : Env} {σ : L2.St} {f : α → Sto → Sz} {D : Ends} {k' : Al → Hp → α → Prop} (he : EnvR G A H ρ σ) (h : PoS G W A H (r.to ρ f) D)
    (q : ∀ a S1 A1 H1, Ext A H A1 H1 → StR G A1 S1 H1 → EnvR G A1 H1 ρ σ → PoS G W A1 H1 (f a S1) D → k' A1 H1 a) : Po G (Wa W σ) A H r k' := by
  cases r with
  | ok a S => exact fun A' H' y s => q a S A' H' y s (he.kp y.kp) (PoS.mono y h)
  | er c t S => exact fun A' H' cls d y s e => h A' H' σ cls d y s (he.kp y.kp) e
  | bad => exact h
theorem PoS.nx_now {ρ : Env} {σ : L2.St} {D : Ends} (h : PoS G W A H (.nx ρ S) D) (s : StR G A S H) (e : EnvR G A H ρ σ) : D.nx σ H := h A H σ .refl s e
def sqz (r : Sz) (f : Env → Sto → Sz) : Sz := match r with
  | .nx ρ S => f ρ S
  | r => r
theorem PoS.sq {r : Sz} {f : Env → Sto → Sz} {D D' : Ends} (h : PoS G W A H (sqz r f) D) (hr : D'.rt = D.rt) (hb : D'.bk = D.bk) (hc : D'.ct = D.ct)
    (q : ∀ ρ S1 A1 H1 σ1, Ext A H A1 H1 → StR G A1 S1 H1 → EnvR G A1 H1 ρ σ1 → PoS G W A1 H1 (f ρ S1) D → D'.nx σ1 H1) : PoS G W A H r D' := by
  cases r with
  | nx ρ S => exact fun A' H' σ' y s e => q ρ S A' H' σ' y s e (PoS.mono y h)
  | rt d S =>
    show ∀ A' H' v, Ext A H A' H' → StR G A' S H' → RD G A' H' d v → D'.rt v H'
    rw [hr]
    exact h
  | bk ρ S =>
    show ∀ A' H' σ', Ext A H A' H' → StR G A' S H' → EnvR G A' H' ρ σ' → D'.bk σ' H'
    rw [hb]
    exact h
  | ct ρ S =>
    show ∀ A' H' σ', Ext A H A' H' → StR G A' S H' → EnvR G A' H' ρ σ' → D'.ct σ' H'
    rw [hc]
    exact h
  | er c t ρ S => exact h
  | bad => exact h
end
def tMS (G : Gs) (W : WX) (m : SM) : TS := fun D σ H => ∃ A ρ S, EnvR G A H ρ σ ∧ StR G A S H ∧ PoS G W A H (m ρ S) D
theorem _root_.L2.PS.sm {X : Cx} {e : Stmt} {t t' : TS} (h : PS X e t) (f : ∀ D σ H, t' D σ H → t D σ H) : PS X e t' := ⟨fun pins s σ H D I q => h.run pins s σ H D I (f D σ H q)⟩
theorem _root_.L2.PSs.sm {X : Cx} {e : List Stmt} {t t' : TS} (h : PSs X e t) (f : ∀ D σ H, t' D σ H → t D σ H) : PSs X e t' := ⟨fun pins s σ H D I q => h.run pins s σ H D I (f D σ H q)⟩
def sNil : SM := fun ρ S => .nx ρ S
def sSeq (a b : SM) : SM := fun ρ S => sqz (a ρ S) b
def sSet (i : Nat) (m : M Dv) : SM := fun ρ S => (m ρ S).to ρ fun d S1 => .nx (ρ.set i (some d)) S1
def sIf (c : M Bool) (a b : SM) : SM := fun ρ S => (c ρ S).to ρ fun k S1 => if k = true then a ρ S1 else b ρ S1
def sRet (m : M Dv) : SM := fun ρ S => (m ρ S).to ρ fun d S1 => .rt d S1
def sDrop (m : M Dv) : SM := fun ρ S => (m ρ S).to ρ fun _ S1 => .nx ρ S1
abbrev GM := Dv → Env → Option Env
def gN (i : Nat) : GM := fun d ρ => some (ρ.set i (some d))
abbrev GMs := List Dt → Env → Option Env
def gsNil : GMs := fun ts ρ => match ts with
  | [] => some ρ
  | _ => none
def gsCons (g : GM) (r : GMs) : GMs := fun ts ρ => match ts with
  | [] => none
  | t :: ts => match g (.d t) ρ with
    | some ρ1 => r ts ρ1
    | none => none
def gT (gs : GMs) : GM := fun d ρ => match d with
  | .d (.tup ts) => gs ts ρ
  | _ => none
def oz {α : Type} (o : Option α) (f : α → Sz) : Sz := match o with
  | some a => f a
  | none => .bad
def sAsg (g : GM) (m : M Dv) : SM := fun ρ S => (m ρ S).to ρ fun d S1 => oz (g d ρ) fun ρ1 => .nx ρ1 S1
def forL (g : GM) (b : SM) : List Dt → SM
  | [], ρ, S => .nx ρ S
  | t :: ts, ρ, S => oz (g (.d t) ρ) fun ρ1 => match b ρ1 S with
    | .nx ρ2 S2 => forL g b ts ρ2 S2
    | .ct ρ2 S2 => forL g b ts ρ2 S2
    | .bk ρ2 S2 => .nx ρ2 S2
    | r => r
def sFor (it : M (List Dt)) (g : GM) (b : SM) : SM := fun ρ S => (it ρ S).to ρ fun ts S1 => forL g b ts ρ S1
section
variable {X : Cx} {G : Gs} {W : WX} {a b c e : Expr} {es : List Expr} {pos : Pos} {ma mb : M Dv} {ca cb : M Bool} {st : Stmt} {sts : List Stmt} {sa sb : SM}
theorem ss_nil : PSs X [] (tMS G W sNil) := by
  refine pss_nil.sm fun D σ H h => ?_
  obtain ⟨A, ρ, S, he, hs, p⟩ := h
  exact PoS.nx_now p hs he
theorem ss_cons (h1 : PS X st (tMS G W sa)) (h2 : PSs X sts (tMS G W sb)) : PSs X (st :: sts) (tMS G W (sSeq sa sb)) := by
  refine (pss_cons h1 h2).sm fun D σ H h => ?_
  obtain ⟨A, ρ, S, he, hs, p⟩ := h
  exact ⟨A, ρ, S, he, hs, PoS.sq p rfl rfl rfl fun ρ1 S1 A1 H1 σ1 x s e q => ⟨A1, ρ1, S1, e, s, q⟩⟩
theorem ss_one (h1 : PS X st (tMS G W sa)) : PSs X [st] (tMS G W sa) := pss_one h1
theorem s_expr (h : PE X e (tM G W ma)) (hs : swapsWith e none pos.line X.env = pure false) : PS X (.Expr e pos) (tMS G W (sDrop ma)) := by
  refine (ps_expr h hs).sm fun D σ H h => ?_
  obtain ⟨A, ρ, S, he, hs, p⟩ := h
  exact ⟨A, ρ, S, he, hs, PoS.step he p fun d S1 A1 H1 x s e q v rv => PoS.nx_now q s e⟩
theorem s_ret (h : PE X e (tM G W ma)) : PS X (.Return (some e) pos) (tMS G W (sRet ma)) := by
  refine (ps_ret h).sm fun D σ H h => ?_
  obtain ⟨A, ρ, S, he, hs, p⟩ := h
  exact ⟨A, ρ, S, he, hs, PoS.step he p fun d S1 A1 H1 x s e q v rv => q A1 H1 v .refl s rv⟩
theorem s_if (hc : PT X c (tMT G W ca)) (ha : PSs X sts (tMS G W sa)) {sts' : List Stmt} (hb : PSs X sts' (tMS G W sb)) : PS X (.If c sts sts' pos) (tMS G W (sIf ca sa sb)) := by
  refine (ps_if hc ha hb).sm fun D σ H h => ?_
  obtain ⟨A, ρ, S, he, hs, p⟩ := h
  refine ⟨A, ρ, S, he, hs, PoS.step he p fun k S1 A1 H1 x s e q => ?_⟩
  cases k with
  | true => exact ⟨A1, ρ, S1, e, s, q⟩
  | false => exact ⟨A1, ρ, S1, e, s, q⟩
theorem EnvR.set {A : Al} {H : Hp} {ρ : Env} {σ : L2.St} {i : Nat} {d : Dv} {v : V} (h : EnvR G A H ρ σ) (r : RD G A H d v) : EnvR G A H (ρ.set i (some d)) (σ.set i (some v)) := by
  refine ⟨by simp [h.len], fun j d' e => ?_⟩
  by_cases hj : i = j
  · subst hj
    have hi : i < ρ.length := by
      have := (List.getElem?_eq_some_iff.mp e).1
      simpa using this
    rw [List.getElem?_set_self hi] at e
    cases e
    exact ⟨v, by rw [List.getElem?_set_self (by rw [← h.len]; exact hi)], r⟩
  · rw [List.getElem?_set_ne hj] at e
    obtain ⟨u, e1, r1⟩ := h.at_ j d' e
    exact ⟨u, by rw [List.getElem?_set_ne hj]; exact e1, r1⟩
theorem s_set {i : Nat} {x : Str} {pos' : Pos} (hN : X.N.Nodup) (hi : X.N[i]? = some x) (hx : Loc X.env.scope x) (h : PE X e (tM G W ma)) (hs : swapsWith e (some (.Name x pos')) pos.line X.env = pure false) (hf : X.fn x = true ∨ X.env.scope.names.lookup x = some .local) :
    PS X (.Assign [.Name x pos'] e pos) (tMS G W (sSet i ma)) := by
  refine (ps_set hN hi hx h hs hf).sm fun D σ H h => ?_
  obtain ⟨A, ρ, S, he, hs, p⟩ := h
  exact ⟨A, ρ, S, he, hs, PoS.step he p fun d S1 A1 H1 x s e q v rv => PoS.nx_now q s (e.set rv)⟩
def TgS (G : Gs) (t : TG) (g : GM) (L : List Nat) : Prop := ∀ (A : Al) (S : Sto) (ρ ρ' : Env) (σ : L2.St) (H : Hp) (d : Dv) (v : V) (Q : L2.St → Hp → Prop), EnvR G A H ρ σ → StR G A S H → RD G A H d v → g d ρ = some ρ' →
  (∀ σ', EnvR G A H ρ' σ' → (∀ j : Nat, j ∉ L → σ'[j]? = σ[j]?) → σ'.length = σ.length → Q σ' H) → t v σ H Q
def TgSs (G : Gs) (t : TGs) (g : GMs) (L : List Nat) : Prop := ∀ (A : Al) (S : Sto) (ρ ρ' : Env) (σ : L2.St) (H : Hp) (ts : List Dt) (vs : List V) (Q : L2.St → Hp → Prop), EnvR G A H ρ σ → StR G A S H → RVs G A H ts vs → g ts ρ = some ρ' →
  (∀ σ', EnvR G A H ρ' σ' → (∀ j : Nat, j ∉ L → σ'[j]? = σ[j]?) → σ'.length = σ.length → Q σ' H) → t vs σ H Q
theorem g_name {i : Nat} : TgS G (gName i) (gN i) [i] := by
  intro A S ρ ρ' σ H d v Q he hs r e q
  cases e
  refine q _ (he.set r) (fun j hj => ?_) (by simp)
  simp at hj
  rw [List.getElem?_set_ne (fun z => hj z.symm)]
theorem gs_nil : TgSs G gNil gsNil [] := by
  intro A S ρ ρ' σ H ts vs Q he hs r e q
  cases ts with
  | nil =>
    have z : vs = [] := r
    subst z
    cases e
    exact ⟨rfl, q σ he (fun _ _ => rfl) rfl⟩
  | cons t ts => cases e
theorem gs_cons {t : TG} {u : TGs} {g : GM} {gs : GMs} {L L' : List Nat} (h1 : TgS G t g L) (h2 : TgSs G u gs L') : TgSs G (gCons t u) (gsCons g gs) (L ++ L') := by
  intro A S ρ ρ' σ H ts vs Q he hs r e q
  cases ts with
  | nil => cases e
  | cons x ts =>
    obtain ⟨v, w, rfl, r1, r2⟩ := r
    unfold gsCons at e
    simp only at e
    cases e1 : g (.d x) ρ with
    | none =>
      rw [e1] at e
      cases e
    | some ρ1 =>
      rw [e1] at e
      refine ⟨v, w, rfl, h1 A S ρ ρ1 σ H (.d x) v _ he hs r1 e1 fun σ1 he1 k1 l1 => ?_⟩
      exact h2 A S ρ1 ρ' σ1 H ts w _ he1 hs r2 e fun σ2 he2 k2 l2 => q σ2 he2 (fun j hj => by
        rw [List.mem_append] at hj
        rw [k2 j fun z => hj (.inr z), k1 j fun z => hj (.inl z)]) (l2.trans l1)
def GLen (gs : GMs) (n : Nat) : Prop := ∀ ts ρ ρ', gs ts ρ = some ρ' → ts.length = n
theorem glen_nil : GLen gsNil 0 := fun ts ρ ρ' e => by
  cases ts with
  | nil => rfl
  | cons => cases e
theorem glen_cons {g : GM} {gs : GMs} {n : Nat} (h : GLen gs n) : GLen (gsCons g gs) (n + 1) := fun ts ρ ρ' e => by
  cases ts with
  | nil => cases e
  | cons x ts =>
    unfold gsCons at e
    simp only at e
    cases e1 : g (.d x) ρ with
    | none =>
      rw [e1] at e
      cases e
    | some ρ1 =>
      rw [e1] at e
      simp [h ts ρ1 ρ' e]
theorem g_tup {u : TGs} {gs : GMs} {L : List Nat} {n : Nat} (hl : GLen gs n) (h : TgSs G u gs L) : TgS G (gTup G.K n u) (gT gs) L := by
  intro A S ρ ρ' σ H d v Q he hs r e q
  cases d with
  | loc k => cases e
  | d t =>
    cases t with
    | tup ts =>
      obtain ⟨a, vs, rfl, ht, hv⟩ := r
      refine ⟨a, vs, rfl, ht.sq, ?_, h A S ρ ρ' σ H ts vs Q he hs hv e q⟩
      rw [← hv.length]
      exact hl ts ρ ρ' e
    | _ => cases e
theorem oz_po {A : Al} {H : Hp} {α : Type} {o : Option α} {f : α → Sz} {D : Ends} (h : PoS G W A H (oz o f) D) : ∃ a, o = some a ∧ PoS G W A H (f a) D := by
  cases o with
  | none => exact h.elim
  | some a => exact ⟨a, rfl, h⟩
theorem s_asg {tg : Expr} {t : TG} {g : GM} {L : List Nat} (hg : PG X tg t) (hgs : TgS G t g L) (h : PE X e (tM G W ma)) (hs : swapsWithSole [tg] e pos.line X.env = pure false) (hw : swappedStores [tg] e X.env = pure none) (h1 : (assignEach [tg] X.env).map (·.2) = [assign tg X.env]) :
    PS X (.Assign [tg] e pos) (tMS G W (sAsg g ma)) := by
  refine (ps_asg h hg hs hw h1).sm fun D σ H h => ?_
  obtain ⟨A, ρ, S, he, hs, p⟩ := h
  refine ⟨A, ρ, S, he, hs, PoS.step he p fun d S1 A1 H1 x s e q v rv => ?_⟩
  obtain ⟨ρ1, e1, q1⟩ := oz_po q
  exact hgs A1 S1 ρ ρ1 σ H1 d v _ e s rv e1 fun σ' he' _ _ => PoS.nx_now q1 s he'
end
structure Wk (G : Gs) (J : It) (A : Al) (H : Hp) (ts : List Dt) : Prop where
  go : ∀ (i : Nat) A' H', i < ts.length → Ext A H A' H' → J.go i H'
  yld : ∀ (i : Nat) A' H' S x H2, i < ts.length → Ext A H A' H' → StR G A' S H' → J.yld i H' x H2 → ∃ t, ts[i]? = some t ∧ Ext A' H' A' H2 ∧ StR G A' S H2 ∧ RV G A' H2 t x
  stop : ∀ A' H', Ext A H A' H' → J.stop ts.length H'
def PIS (X : Cx) (G : Gs) (W : WX) (tg iter : Expr) (m : M (List Dt)) : Prop := ∃ wi : TI, PI X tg iter wi ∧ ∀ (σ : L2.St) (H : Hp) (A : Al) (ρ : Env) (S : Sto) (R : It → Hp → Prop), EnvR G A H ρ σ → StR G A S H →
  Po G (Wa W σ) A H (m ρ S) (fun A' H' ts => ∀ J, Wk G J A' H' ts → R J H') → wi σ H R
section
variable {X : Cx} {G : Gs} {W : WX} {tg iter : Expr} {pos : Pos} {it : M (List Dt)} {g : GM} {sb : SM} {t : TG} {L : List Nat} {body : List Stmt}
theorem s_for (hp : PassesOwn (model X.prog X.w) X.A X.env X.xe) (hc : X.calm = true) (hi : PIS X G W tg iter it) (hg : PG X tg t) (hgs : TgS G t g L) (hb : PSs X body (tMS G W sb)) (hs : ∀ x, foldedSetIterable iter X.env x = pure x) :
    PS X (.For tg iter body [] pos) (tMS G W (sFor it g sb)) := by
  obtain ⟨wi, pi, hw⟩ := hi
  refine (ps_for hp hc pi hg hb hs).sm fun D σ H h => ?_
  obtain ⟨A, ρ, S, he, hs, p⟩ := h
  refine hw σ H A ρ S _ he hs (PoS.step he p fun ts S1 A1 H1 x1 s1 e1 p1 J wk => ?_)
  refine ⟨fun i m σ' H' => ∃ A' ρ' S', Ext A1 H1 A' H' ∧ EnvR G A' H' ρ' σ' ∧ StR G A' S' H' ∧ i ≤ ts.length ∧ m = ts.length - i ∧ PoS G W A' H' (forL g sb (ts.drop i) ρ' S') D, ⟨_, A1, ρ, S1, .refl, e1, s1, Nat.zero_le _, rfl, p1⟩, fun i m σ' H' hW => ?_⟩
  obtain ⟨A', ρ', S', x', e', s', hi, hm, q⟩ := hW
  by_cases hlt : i < ts.length
  · refine .inr ⟨wk.go i A' H' hlt x', fun σ2 H2 => ∃ A2 ρ2 S2, Ext A1 H1 A2 H2 ∧ EnvR G A2 H2 ρ2 σ2 ∧ StR G A2 S2 H2 ∧ PoS G W A2 H2 (forL g sb (ts.drop (i + 1)) ρ2 S2) D, fun σ2 H2 hN => ?_, fun v H2 hy => ?_⟩
    · obtain ⟨A2, ρ2, S2, x2, e2, s2, q2⟩ := hN
      exact ⟨ts.length - (i + 1), by omega, A2, ρ2, S2, x2, e2, s2, by omega, rfl, q2⟩
    · obtain ⟨d, ed, xy, sy, rv⟩ := wk.yld i A' H' S' v H2 hlt x' s' hy
      have hd : ts.drop i = d :: ts.drop (i + 1) := by
        rw [List.drop_eq_getElem_cons hlt]
        rw [List.getElem?_eq_getElem hlt] at ed
        cases ed
        rfl
      rw [hd] at q
      unfold forL at q
      obtain ⟨ρ1, eg, q1⟩ := oz_po q
      refine hgs A' S' ρ' ρ1 σ' H2 (.d d) v _ (e'.kp xy.kp) sy rv eg fun σ2 e2 _ _ => ?_
      refine ⟨A', ρ1, S', e2, sy, ?_⟩
      have q1 := PoS.mono xy q1
      cases eb : sb ρ1 S' with
      | nx ρ2 S2 =>
        rw [eb] at q1
        exact fun A2 H3 σ3 y s e => ⟨A2, ρ2, S2, (x'.trans xy).trans y, e, s, PoS.mono y q1⟩
      | ct ρ2 S2 =>
        rw [eb] at q1
        exact fun A2 H3 σ3 y s e => ⟨A2, ρ2, S2, (x'.trans xy).trans y, e, s, PoS.mono y q1⟩
      | bk ρ2 S2 =>
        rw [eb] at q1
        exact q1
      | rt d S2 =>
        rw [eb] at q1
        exact q1
      | er c t ρ2 S2 =>
        rw [eb] at q1
        exact q1
      | bad =>
        rw [eb] at q1
        exact q1.elim
  · have hz : i = ts.length := by omega
    subst hz
    rw [List.drop_length] at q
    exact .inl ⟨wk.stop A' H' x', q A' H' σ' .refl s' e'⟩
end
end Sm
namespace Sm
open PySem PySem.Spec PyProof.Rows L2
abbrev FM := List Dv → Sto → Rz Dv
def SpM (G : Gs) (F : FM) : Sp := fun vs H Q E => ∃ A S ds, RDs G A H ds vs ∧ StR G A S H ∧ Po G E A H (F ds S) (kD G Q)
def runB (n p : Nat) (b : SM) : FM := fun ds S => if ds.length = p then (match b (ds.map some ++ List.replicate (n - p) none) S with
  | .nx _ S' => .ok (.d .non) S'
  | .rt d S' => .ok d S'
  | .er c t _ S' => .er c t S'
  | _ => .bad) else .bad
structure Bx (X : Cx) (G : Gs) (W : WX) (k : Nat) : Prop where
  calm : X.calm = true
  nd : X.N.Nodup
  tk : Takes X W
  hK : G.K = X.K
  room : Room k X.A
abbrev W0 : WX := fun _ _ _ _ => False
theorem Bx.blk {X : Cx} {G : Gs} {W : WX} {k : Nat} (B : Bx X G W k) (s : Shared) (H : Hp) (scope : Scope) (cenv : PySem.Env) (fp : List Addr) : Bx (X.blk s H scope cenv fp) G W0 k := ⟨B.calm, B.nd, takes0, B.hK, B.room⟩
theorem Bx.le {X : Cx} {G : Gs} {W : WX} {k j : Nat} (B : Bx X G W k) (h : j ≤ k) : Bx X G W j := ⟨B.calm, B.nd, B.tk, B.hK, B.room.mono h⟩
section
variable {P : Program} {w : World} {G : Gs} {mg : Str → Option Value} {base : Heap}
theorem start_rds {A : Al} {H : Hp} : ∀ {ds : List Dv} {vs : List V} (n : Nat), RDs G A H ds vs → EnvR G A H (ds.map some ++ List.replicate n none) (vs.map some ++ List.replicate n none) := by
  intro ds vs n r
  refine ⟨by simp [Paired.length r], fun i d e => ?_⟩
  by_cases hi : i < ds.length
  · have hi2 : i < vs.length := by rw [← Paired.length r]; exact hi
    rw [List.getElem?_append_left (by simpa using hi)] at e
    simp at e
    obtain ⟨v, ev, rv⟩ := r.get e
    refine ⟨v, ?_, rv⟩
    rw [List.getElem?_append_left (by simpa using hi2)]
    simp [ev]
  · rw [List.getElem?_append_right (by simp; omega)] at e
    rw [List.getElem?_replicate] at e
    split at e
    · cases e
    · cases e
theorem fn_ok {x qual : Str} {st : Stmt} {f : Addr} {fd : FuncData} {N ps : List Str} {k : Nat} {b : SM} (F : Fun G.K x qual st f fd) (S : FnScope N ps (defScope st)) 
    (hbody : ∀ (cdv : Value) (A : Around) (outer : List PySem.Env) (s : Shared) (H : Hp) (E : XK), Bx (cxOf (L2.CX P w) P w G.K mg base N qual (defScope st) f cdv A outer s H E) G (fun c d _ H' => E c d H') k →
      PassesOwn (model P w) (A.deeper (envOfC qual (defScope st) s.heap.objs.size f cdv)) (envOfC qual (defScope st) s.heap.objs.size f cdv) (cxOf (L2.CX P w) P w G.K mg base N qual (defScope st) f cdv A outer s H E).xe →
      PSs (cxOf (L2.CX P w) P w G.K mg base N qual (defScope st) f cdv A outer s H E) (defBody st) (tMS G (fun c d _ H' => E c d H') b)) :
    FnOk P w G.K mg base (L2.CX P w) (k + 1) f fd ps (SpM G (runB N.length ps.length b)) := by
  refine F.okX S (fun vs H Q E h => ?_) (fun cdv A outer s H vs Q E hr h => ?_)
  · obtain ⟨A, S', ds, r, s, p⟩ := h
    unfold runB at p
    split at p
    · rename_i e
      rw [← Paired.length r]
      exact e
    · exact p.elim
  · refine ⟨_, hbody cdv A outer s H E ⟨rfl, S.nd, takes_of rfl rfl rfl rfl, rfl, hr⟩ (passes_of rfl), ?_⟩
    obtain ⟨A', S', ds, r, s', p⟩ := h
    unfold runB at p
    split at p
    · rename_i e
      refine ⟨A', ds.map some ++ List.replicate (N.length - ps.length) none, S', ?_, s', ?_⟩
      · have := start_rds (N.length - vs.length) r
        rw [show N.length - ps.length = N.length - vs.length by rw [← e, Paired.length r]]
        exact this
      · cases eb : b (ds.map some ++ List.replicate (N.length - ps.length) none) S' with
        | nx ρ S1 =>
          rw [eb] at p
          exact fun A1 H1 σ1 y s1 e1 => p A1 H1 y s1 .non rfl
        | rt d S1 =>
          rw [eb] at p
          exact fun A1 H1 v y s1 e1 => p A1 H1 y s1 v e1
        | er c t ρ S1 =>
          rw [eb] at p
          exact fun A1 H1 σ1 cls d y s1 e1 x1 => p A1 H1 cls d y s1 x1
        | bk ρ S1 =>
          rw [eb] at p
          exact p.elim
        | ct ρ S1 =>
          rw [eb] at p
          exact p.elim
        | bad =>
          rw [eb] at p
          exact p.elim
    · exact p.elim
def CallW (P : Program) (w : World) (G : Gs) (mg : Str → Option Value) (base : Heap) (k : Nat) (f : Addr) (n : Nat) (ks : List Str) (F : FM) : Prop :=
  ∀ (A : Around) (outer : List PySem.Env) (s : Shared) (H : Hp) (us ws : List Value) (vs zs : List V) (Q : VK) (E : XK), Room k A → Env0 P w G.K mg base A outer s H → Vals vs us → Vals zs ws → vs.length = n → zs.length = ks.length → SpM G F (vs ++ zs) H Q E →
    codeAny (model P w) A (.call (.ref f) ⟨us, ks.zip ws⟩) (CR (L2.CX P w) outer P w H s Q E) s
theorem CallW.imp {k : Nat} {f : Addr} {n : Nat} {ks : List Str} {F F' : FM} (h : CallW P w G mg base k f n ks F) (i : ∀ vs H Q E, SpM G F' vs H Q E → SpM G F vs H Q E) : CallW P w G mg base k f n ks F' :=
  fun A outer s H us ws vs zs Q E hr e0 r rz l1 l2 q => h A outer s H us ws vs zs Q E hr e0 r rz l1 l2 (i _ _ _ _ q)
theorem CallW.of {k : Nat} {f : Addr} {fd : FuncData} {ps : List Str} {n : Nat} {F : FM} {ds : List Value} {dvs : List V} {dds : List Dt} (h : FnOk P w G.K mg base (L2.CX P w) k f fd ps (SpM G F)) (b : Binds G.K fd ps ds) (hd : Vals dvs ds) (hr : ∀ A H, RVs G A H dds dvs) :
    CallW P w G mg base k f n [] (fun xs => F (xs ++ dds.map .d)) := by
  intro A outer s H us ws vs zs Q E hr' e0 r rz l1 l2 q
  have hz : zs = [] := by
    cases zs with
    | nil => rfl
    | cons z zs => simp at l2
  subst hz
  rw [List.append_nil] at q
  obtain ⟨A', S', es, rd, s', p⟩ := q
  have q2 : SpM G F (vs ++ dvs) H Q E := ⟨A', S', es ++ dds.map .d, rd.append (hr A' H).rds, s', p⟩
  have hl := h.len _ _ _ _ q2
  have hV := Vals.append r hd
  exact h.run A outer s H ⟨us, []⟩ (us ++ ds) (vs ++ dvs) Q E hr' e0 (b s us (e0.mod.kin.keeps fun b o e => (e0.bs b o e).1) (by rw [← hl, hV.length])) hV q2
theorem CallW.of0 {k : Nat} {f : Addr} {fd : FuncData} {ps : List Str} {n : Nat} {F : FM} (h : FnOk P w G.K mg base (L2.CX P w) k f fd ps (SpM G F)) (b : Binds G.K fd ps []) : CallW P w G mg base k f n [] F := by
  have := CallW.of (n := n) (dds := []) h b .nil (fun _ _ => (rfl : ([] : List V) = []))
  simpa using this
end
def mF (F : FM) (a : M (List Dv)) : M Dv := fun ρ S => (a ρ S).bind F
def aApp (a b : M (List Dv)) : M (List Dv) := fun ρ S => (a ρ S).bind fun xs S1 => (b ρ S1).bind fun ys S2 => .ok (xs ++ ys) S2
section
variable {X : Cx} {G : Gs} {W : WX} {k : Nat} {f : Addr} {n : Nat} {ks : List Str} {F : FM}
theorem runF {pins : List (Addr × Obj)} {σ : L2.St} {H : Hp} {s : Shared} {Q : VK} {us ws : List Value} {vs zs : List V} (R : CallW X.prog X.w G X.mg X.base k f n ks F) (B : Bx X G W k) (I : Inv X pins σ H s) (r : Vals vs us) (rz : Vals zs ws) (l1 : vs.length = n) (l2 : zs.length = ks.length)
    (h : SpM G F (vs ++ zs) H Q (Wa W σ)) : wpAny (model X.prog X.w) X.A (call (.ref f) us (ks.zip ws)) (EP X pins σ Q) X.xe s := by
  refine wpAny_call (codeAny_mono (R X.A X.stack s H us ws vs zs Q (Wa W σ) B.room (by rw [B.hK]; exact I.env0) r rz l1 l2 h) fun r s' hq => ?_)
  cases r with
  | error e => exact passAt B.tk σ pins H s e s' I hq
  | ok fl =>
    cases fl with
    | ret u => exact I.after hq
    | next => exact False.elim hq
    | brk => exact False.elim hq
    | cont => exact False.elim hq
variable {x : Str} {p pos : Pos} {e : Expr} {es : List Expr} {kws : List Keyword} {ma mk : M (List Dv)}
theorem _root_.L2.PK.sm {X : Cx} {e : List Keyword} {t t' : TA} (h : PK X e t) (f : ∀ σ H Q, t' σ H Q → t σ H Q) : PK X e t' := ⟨fun pos pins s σ H Q I q => h.run pos pins s σ H Q I (f σ H Q q)⟩
theorem k_nil : PK X [] (tMA G W aNil) := by
  refine pk_nil.sm fun σ H Q h => ?_
  obtain ⟨A, ρ, S, he, hs, p0⟩ := h
  exact Po.now p0 hs [] .nil
theorem k_cons {m : M Dv} {mr : M (List Dv)} {nm : Option Str} {kpos : Pos} (ha : PE X e (tM G W m)) (hr : PK X kws (tMA G W mr)) : PK X (⟨nm, e, kpos⟩ :: kws) (tMA G W (aCons m mr)) := by
  refine (pk_cons ha hr).sm fun σ H Q h => ?_
  obtain ⟨A, ρ, S, he, hs, p0⟩ := h
  refine ⟨A, ρ, S, he, hs, Po.step p0 fun d S1 A1 H1 x1 s1 p1 v rv => ?_⟩
  refine ⟨A1, ρ, S1, he.kp x1.kp, s1, Po.step p1 fun ds S2 A2 H2 x2 s2 p2 vs rvs => ?_⟩
  exact Po.now p2 s2 _ (.cons (rv.kp x2.kp) rvs)
def ALen (m : M (List Dv)) (n : Nat) : Prop := ∀ ρ S ds S', m ρ S = .ok ds S' → ds.length = n
theorem al_nil : ALen aNil 0 := fun ρ S ds S' e => by cases e; rfl
theorem al_cons {m : M Dv} {mr : M (List Dv)} {n : Nat} (h : ALen mr n) : ALen (aCons m mr) (n + 1) := fun ρ S ds S' e => by
  unfold aCons at e
  cases e1 : m ρ S with
  | bad => rw [e1] at e; cases e
  | er c t S1 => rw [e1] at e; cases e
  | ok d S1 =>
    rw [e1] at e
    simp only [bind_ok] at e
    cases e2 : mr ρ S1 with
    | bad => rw [e2] at e; cases e
    | er c t S2 => rw [e2] at e; cases e
    | ok ds2 S2 =>
      rw [e2] at e
      cases e
      simp [h ρ S1 ds2 S' e2]
theorem Po.step' {α β : Type} {G : Gs} {E : XK} {A : Al} {H : Hp} {r : Rz α} {f : α → Sto → Rz β} {k : Al → Hp → β → Prop} {k' : Al → Hp → α → Prop} (h : Po G E A H (r.bind f) k)
    (q : ∀ a S1 A1 H1, r = .ok a S1 → Ext A H A1 H1 → StR G A1 S1 H1 → Po G E A1 H1 (f a S1) k → k' A1 H1 a) : Po G E A H r k' := by
  cases r with
  | ok a S => exact fun A' H' y s => q a S A' H' rfl y s (Po.mono y h)
  | er c t S => exact h
  | bad => exact h
theorem e_call (R : CallW X.prog X.w G X.mg X.base k f n [] F) (B : Bx X G W k) (hg : Gl X x) (hm : X.mg x = some (.ref f)) (hk : PySem.W.keepIn X.K (.ref f) = true) (ha : PA X (e :: es) (tMA G W ma)) (al : ALen ma n) (hdb : (x == ("__debug__" : Str)) = false)
    (he : starEach (e :: es) X.env = (false, eval e X.env) :: starEach es X.env) (hpl : (backTo pos (starEach es X.env)).any (·.1) = false) : PE X (.Call (.Name x p) (e :: es) [] pos) (tM G W (mF F ma)) := by
  refine ⟨fun pins s σ H Q I h => ?_⟩
  obtain ⟨A, ρ, S, he', hs, p0⟩ := h
  refine wpAny_Call_Name_kw (ld_glob I hg hm ?_ hdb)
  refine PySem.W.callWith_K (h₀ := X.base) I.ok.mod.kin hk (thn (ha.run pos pins s σ H (fun vs H' => vs.length = n ∧ SpM G F (vs ++ []) H' Q (Wa W σ)) I ⟨A, ρ, S, he', hs, Po.step' p0 fun ds S1 A1 H1 e0 x1 s1 p1 vs rvs => ⟨by rw [← Paired.length rvs]; exact al ρ S ds S1 e0, A1, S1, ds, by rw [List.append_nil]; exact rvs, s1, p1⟩⟩) fun us s1 ⟨vs, H1, I1, r, l, q⟩ => ⟨I1.kIn, ?_⟩) he hpl
  exact runF (ws := []) (zs := []) R B I1 r .nil l rfl q
theorem e_call0 (R : CallW X.prog X.w G X.mg X.base k f 0 [] F) (B : Bx X G W k) (hg : Gl X x) (hm : X.mg x = some (.ref f)) (hk : PySem.W.keepIn X.K (.ref f) = true) (hdb : (x == ("__debug__" : Str)) = false) : PE X (.Call (.Name x p) [] [] pos) (tM G W (mF F aNil)) := by
  refine ⟨fun pins s σ H Q I h => ?_⟩
  obtain ⟨A, ρ, S, he', hs, p0⟩ := h
  refine wpAny_Call_Name_kw (ld_glob I hg hm ?_ hdb)
  exact PySem.W.callWith_K0 I.kIn hk (runF (us := []) (ws := []) (vs := []) (zs := []) R B I .nil .nil rfl rfl ⟨A, S, [], .nil, hs, p0⟩)
theorem e_callK0 (R : CallW X.prog X.w G X.mg X.base k f 0 ks F) (B : Bx X G W k) (hg : Gl X x) (hm : X.mg x = some (.ref f)) (hk : PySem.W.keepIn X.K (.ref f) = true) (hkw : PK X kws (tMA G W mk)) (al2 : ALen mk ks.length)
    (hall : (backToKw pos (keywordEach kws X.env)).all (·.1.isSome) = true) (hks : (backToKw pos (keywordEach kws X.env)).filterMap (·.1) = ks) (hdb : (x == ("__debug__" : Str)) = false)
    (hpl : ((backTo pos (starEach [] X.env)).any (·.1) || (backToKw pos (keywordEach kws X.env)).any (·.1.isNone)) = false) : PE X (.Call (.Name x p) [] kws pos) (tM G W (mF F mk)) := by
  refine ⟨fun pins s σ H Q I h => ?_⟩
  obtain ⟨A, ρ, S, he', hs, p0⟩ := h
  refine wpAny_Call_Name_kw (ld_glob I hg hm ?_ hdb)
  refine PySem.W.callWith_KW0 (h₀ := X.base) I.ok.mod.kin hk hall ?_ hpl
  refine thn (hkw.run pos pins s σ H (fun zs H2 => zs.length = ks.length ∧ SpM G F ([] ++ zs) H2 Q (Wa W σ)) I ⟨A, ρ, S, he', hs, Po.step' p0 fun ys S2 A2 H2 e2 x2 s2 p3 zs rzs => ⟨by rw [← Paired.length rzs]; exact al2 ρ S ys S2 e2, A2, S2, ys, rzs, s2, p3⟩⟩) fun ws s2 ⟨zs, H2, I2, rz, l2, q2⟩ => ⟨I2.kIn, ?_⟩
  rw [hks]
  exact runF (us := []) (vs := []) R B I2 .nil rz rfl l2 q2
end
end Sm
namespace Sm
open PySem PySem.Spec PyProof.Rows L2
def isIns (c : Nat) (d : Dv) (S : Sto) : Bool := match d with
  | .d (.obj c' _) => c' == c
  | .loc n => (match S[n]? with
    | some (.ins c' _) => c' == c
    | _ => false)
  | _ => false
theorem isIns_slt {G : Gs} {A : Al} {S : Sto} {H : Hp} {c : Nat} {d : Dv} {v : V} (s : StR G A S H) (r : RD G A H d v) (h : isIns c d S = true) : ∃ a dx ws, v = .ref a ∧ SlX.Slt H a (G.cls c) dx ws := by
  cases d with
  | d t =>
    cases t with
    | obj c' xs =>
      obtain ⟨a, dx, ws, vs, e, _, _, _, hs, _⟩ := r
      have : c' = c := by simpa [isIns] using h
      subst this
      exact ⟨a, dx, ws, e, hs⟩
    | _ => simp [isIns] at h
  | loc n =>
    cases e : S[n]? with
    | none => simp [isIns, e] at h
    | some o =>
      cases o with
      | ins c' fs =>
        have : c' = c := by simpa [isIns, e] using h
        subst this
        obtain ⟨a, dx, ws, e1, _, _, hs, _⟩ := loc_ins s r e
        exact ⟨a, dx, ws, e1, hs⟩
      | _ => simp [isIns, e] at h
def pFld (c i : Nat) : P1 := fun d S => match d with
  | .d (.obj c' xs) => if c' = c then (match xs[i]? with
    | some t => some (.d t, S)
    | none => none) else none
  | .loc n => (match S[n]? with
    | some (.ins c' fs) => if c' = c then (match fs[i]? with
      | some (some d) => some (d, S)
      | _ => none) else none
    | _ => none)
  | _ => none
theorem fld_at {G : Gs} {A : Al} {S S' : Sto} {H : Hp} {c i : Nat} {d d' : Dv} {v : V} (s : StR G A S H) (r : RD G A H d v) (h : pFld c i d S = some (d', S')) : S' = S ∧ ∃ a dx ws u, v = .ref a ∧ SlX.Slt H a (G.cls c) dx ws ∧ ws[i]? = some (some u) ∧ RD G A H d' u := by
  cases d with
  | d t =>
    cases t with
    | obj c' xs =>
      obtain ⟨a, dx, ws, vs, e, _, _, _, hs, hi, hv⟩ := r
      unfold pFld at h
      simp only at h
      split at h
      · rename_i hc
        subst hc
        cases ex : xs[i]? with
        | none => rw [ex] at h; cases h
        | some t =>
          rw [ex] at h
          cases h
          obtain ⟨u, eu, ru⟩ := hv.get ex
          exact ⟨rfl, a, dx, ws, u, e, hs, hi i u eu, ru⟩
      · cases h
    | _ => cases h
  | loc n =>
    unfold pFld at h
    simp only at h
    cases e : S[n]? with
    | none => rw [e] at h; cases h
    | some o =>
      rw [e] at h
      cases o with
      | ins c' fs =>
        simp only at h
        split at h
        · rename_i hc
          subst hc
          obtain ⟨a, dx, ws, e1, _, _, hs, hf⟩ := loc_ins s r e
          cases ex : fs[i]? with
          | none => rw [ex] at h; cases h
          | some o =>
            rw [ex] at h
            cases o with
            | none => cases h
            | some d2 =>
              cases h
              obtain ⟨u, eu, ru⟩ := hf i d' ex
              exact ⟨rfl, a, dx, ws, u, e1, hs, eu, ru⟩
        · cases h
      | _ => cases h
def putF (i : Nat) (d : Dv) (fs : List (Option Dv)) : List (Option Dv) := (fs ++ List.replicate (i + 1 - fs.length) none).set i (some d)
def stFld (c i : Nat) (o d : Dv) (S : Sto) : Option Sto := match o with
  | .loc n => (match S[n]? with
    | some (.ins c' fs) => if c' = c then some (S.set n (.ins c (putF i d fs))) else none
    | _ => none)
  | _ => none
theorem putF_rf {G : Gs} {A : Al} {H : Hp} {i : Nat} {d : Dv} {v : V} {fs : List (Option Dv)} {ws : List (Option V)} (h : RF G A H fs ws) (r : RD G A H d v) : RF G A H (putF i d fs) (SlX.putS i v ws) := by
  intro j e he
  by_cases hj : i = j
  · subst hj
    have hl : i < (fs ++ List.replicate (i + 1 - fs.length) (none : Option Dv)).length := by simp; omega
    unfold putF at he
    rw [List.getElem?_set_self hl] at he
    cases he
    exact ⟨v, SlX.putS_get i v ws, r⟩
  · unfold putF at he
    rw [List.getElem?_set_ne hj] at he
    have h2 : fs[j]? = some (some e) := by
      by_cases hlt : j < fs.length
      · rw [List.getElem?_append_left hlt] at he
        exact he
      · rw [List.getElem?_append_right (by omega), List.getElem?_replicate] at he
        split at he <;> cases he
    obtain ⟨u, eu, ru⟩ := h j e h2
    exact ⟨u, (SlX.putS_ne (fun z => hj z.symm)).mpr eu, ru⟩
def sFld (c i : Nat) (mo mv : M Dv) : SM := fun ρ S => (mv ρ S).to ρ fun d S1 => (mo ρ S1).to ρ fun o S2 => oz (stFld c i o d S2) fun S3 => .nx ρ S3
def mMeth (c : Nat) (F : FM) (mo : M Dv) (ma : M (List Dv)) : M Dv := fun ρ S => (mo ρ S).bind fun o S1 => if isIns c o S1 = true then (ma ρ S1).bind fun ds S2 => F (o :: ds) S2 else .bad
section
variable {X : Cx} {G : Gs} {W : WX} {k n : Nat} {f g C : Addr} {ks : List Str} {F : FM} {x m : Str} {p pos pos' apos : Pos} {o e value : Expr} {es : List Expr} {kws : List Keyword} {mo mv : M Dv} {ma mk : M (List Dv)} {c i : Nat}
theorem e_fld {pp : Addr} (B : Bx X G W k) (cl : SlX.SCls X.K (G.cls c)) (sl : SlX.Slot1 X.K (G.cls c) m pp i) (he : PE X e (tM G W mo)) (hb : attributeBase e m X.env (eval e X.env) = eval e X.env) : PE X (.Attribute e m pos) (tM G W (m1 (pFld c i) mo)) := by
  refine (SlX.pe_sl he hb).sm fun σ H Q h => ?_
  obtain ⟨A, ρ, S, he, hs, p0⟩ := h
  refine ⟨A, ρ, S, he, hs, Po.step p0 fun d S1 A1 H1 x1 s1 p1 v rv => ?_⟩
  cases e1 : pFld c i d S1 with
  | none => rw [e1] at p1; exact p1.elim
  | some q =>
    obtain ⟨d', S2⟩ := q
    rw [e1] at p1
    obtain ⟨e2, a, dx, ws, u, ev, hsl, hw, ru⟩ := fld_at s1 rv e1
    subst e2
    exact ⟨a, G.cls c, dx, pp, ws, i, u, ev, hsl, cl, sl, hw, Po.now p1 s1 u ru⟩
theorem s_fld {pp : Addr} (B : Bx X G W k) (cl : SlX.SCls X.K (G.cls c)) (sl : SlX.Slot1 X.K (G.cls c) m pp i) (ho : PE X o (tM G W mo)) (hv : PE X value (tM G W mv)) (hs : swapsWith value (some (.Attribute o m pos')) pos.line X.env = pure false) :
    PS X (.Assign [.Attribute o m pos'] value pos) (tMS G W (sFld c i mo mv)) := by
  refine (SlX.ps_sl ho hv hs).sm fun D σ H h => ?_
  obtain ⟨A, ρ, S, he, hs, p0⟩ := h
  refine ⟨A, ρ, S, he, hs, PoS.step he p0 fun d S1 A1 H1 x1 s1 e1 p1 v rv => ?_⟩
  refine ⟨A1, ρ, S1, e1, s1, PoS.step e1 p1 fun o' S2 A2 H2 x2 s2 e2 p2 y ry => ?_⟩
  obtain ⟨S3, e3, p3⟩ := oz_po p2
  unfold stFld at e3
  cases o' with
  | d t => cases e3
  | loc n =>
    simp only at e3
    cases es : S2[n]? with
    | none => rw [es] at e3; cases e3
    | some b =>
      rw [es] at e3
      cases b with
      | ins c' fs =>
        simp only at e3
        split at e3
        · rename_i hc
          subst hc
          cases e3
          obtain ⟨a, dx, ws, ey, hl, ne, hsl, hf⟩ := loc_ins s2 ry es
          obtain ⟨x3, s3⟩ := set_ins s2 hl ne (putF_rf (i := i) hf (rv.kp x2.kp))
          exact ⟨a, G.cls c', dx, pp, ws, i, ey, hsl, cl, sl, p3 A2 _ σ x3 s3 (e2.kp x3.kp)⟩
        · cases e3
      | _ => cases e3
theorem e_meth {pl : Sem Bool} (R : CallW X.prog X.w G X.mg X.base k g (n + 1) [] F) (B : Bx X G W k) (cl : SlX.SCls X.K (G.cls c)) (hm : Meth X.K (G.cls c) m g) (ho : PE X o (tM G W mo)) (ha : PA X (e :: es) (tMA G W ma)) (al : ALen ma n)
    (hst : starEach (e :: es) X.env = (false, eval e X.env) :: starEach es X.env) (hpl : (backTo pos (starEach es X.env)).any (·.1) = false)
    (ht : eval (.Call (.Attribute o m apos) (e :: es) [] pos) X.env = (do
      let ov ← eval o X.env
      standAt apos.atName
      let (f, first) ← holding [ov] (getMethod ov m pl)
      callWith pos f first (backTo pos (starEach (e :: es) X.env)) (backToKw pos (keywordEach [] X.env)))) :
    PE X (.Call (.Attribute o m apos) (e :: es) [] pos) (tM G W (mMeth c F mo ma)) := by
  refine ⟨fun pins s σ H Q I h => ?_⟩
  obtain ⟨A, ρ, S, he', hs, p0⟩ := h
  refine PySem.W.methodCall_KW (pl := pl) (thn (ho.run pins s σ H (fun y H1 => ∃ a dx ws, y = .ref a ∧ SlX.Slt H1 a (G.cls c) dx ws ∧ tMA G W ma σ H1 fun vs H2 => vs.length = n ∧ SpM G F ((V.ref a :: vs) ++ []) H2 Q (Wa W σ)) I ⟨A, ρ, S, he', hs, Po.step p0 fun d S1 A1 H1 x1 s1 p1 v rv => ?_⟩) fun u s1 ⟨y, H1, I1, rx, a, dx, ws, ex, hsl, q⟩ => ?_) ht
  · by_cases hi : isIns c d S1 = true
    · simp only [hi, if_true] at p1
      obtain ⟨a, dx, ws, ev, hsl⟩ := isIns_slt s1 rv hi
      subst ev
      refine ⟨a, dx, ws, rfl, hsl, A1, ρ, S1, he'.kp x1.kp, s1, Po.step' p1 fun ds S2 A2 H2 e0 x2 s2 p2 vs rvs => ?_⟩
      exact ⟨by rw [← Paired.length rvs]; exact al ρ S1 ds S2 e0, A2, S2, d :: ds, by rw [List.append_nil]; exact .cons (rv.kp x2.kp) rvs, s2, p2⟩
    · simp only [hi] at p1
      exact p1.elim
  · subst ex
    obtain rfl : u = Value.ref a := rx
    refine SlX.getmethsl_ok I1 hsl cl hm ?_
    refine PySem.W.callWith_K (first := [.ref a]) (h₀ := X.base) I.ok.mod.kin hm.kp (thn (ha.run pos pins s1 σ H1 _ I1 q) fun us s2 ⟨vs, H2, I2, r, l, q2⟩ => ⟨I2.kIn, ?_⟩) hst hpl
    exact runF (us := .ref a :: us) (vs := .ref a :: vs) (ws := []) (zs := []) R B I2 (.cons rfl r) .nil (by simp [l]) rfl q2
theorem e_meth0 {pl : Sem Bool} (R : CallW X.prog X.w G X.mg X.base k g 1 [] F) (B : Bx X G W k) (cl : SlX.SCls X.K (G.cls c)) (hm : Meth X.K (G.cls c) m g) (ho : PE X o (tM G W mo))
    (ht : eval (.Call (.Attribute o m apos) [] [] pos) X.env = (do
      let ov ← eval o X.env
      standAt apos.atName
      let (f, first) ← holding [ov] (getMethod ov m pl)
      callWith pos f first (backTo pos (starEach [] X.env)) (backToKw pos (keywordEach [] X.env)))) :
    PE X (.Call (.Attribute o m apos) [] [] pos) (tM G W (mMeth c F mo aNil)) := by
  refine ⟨fun pins s σ H Q I h => ?_⟩
  obtain ⟨A, ρ, S, he', hs, p0⟩ := h
  refine PySem.W.methodCall_KW (pl := pl) (thn (ho.run pins s σ H (fun y H1 => ∃ a dx ws, y = .ref a ∧ SlX.Slt H1 a (G.cls c) dx ws ∧ SpM G F ([V.ref a] ++ []) H1 Q (Wa W σ)) I ⟨A, ρ, S, he', hs, Po.step p0 fun d S1 A1 H1 x1 s1 p1 v rv => ?_⟩) fun u s1 ⟨y, H1, I1, rx, a, dx, ws, ex, hsl, q⟩ => ?_) ht
  · by_cases hi : isIns c d S1 = true
    · simp only [hi, if_true] at p1
      obtain ⟨a, dx, ws, ev, hsl⟩ := isIns_slt s1 rv hi
      subst ev
      exact ⟨a, dx, ws, rfl, hsl, A1, S1, [d], .cons rv .nil, s1, p1⟩
    · simp only [hi] at p1
      exact p1.elim
  · subst ex
    obtain rfl : u = Value.ref a := rx
    refine SlX.getmethsl_ok I1 hsl cl hm ?_
    exact PySem.W.callWith_K0 (first := [.ref a]) I1.kIn hm.kp (runF (us := [.ref a]) (vs := [.ref a]) (ws := []) (zs := []) R B I1 (.cons rfl .nil) .nil rfl rfl q)
theorem runMake {pins : List (Addr × Obj)} {σ : L2.St} {H : Hp} {s : Shared} {Q : VK} {us ws : List Value} {vs zs : List V} (M : Mk X.K (G.cls c) f) (R : CallW X.prog X.w G X.mg X.base k f (n + 1) ks F) (B : Bx X G W (k + 1)) (I : Inv X pins σ H s) (r : Vals vs us) (rz : Vals zs ws) (l1 : vs.length = n) (l2 : zs.length = ks.length)
    (h : ∀ x dx, H x = none → H dx = none → dx ≠ x → SpM G F (V.ref x :: (vs ++ zs)) (upd (upd H dx (.own x)) x (.ins (G.cls c) dx [])) (fun v H2 => v = .non ∧ Q (.ref x) H2) (Wa W σ)) :
    wpAny (model X.prog X.w) X.A (call (.ref (G.cls c)) us (ks.zip ws)) (EP X pins σ Q) X.xe s := by
  have hq := h (s.heap.objs.size + 1) s.heap.objs.size (I.hok.fresh (Nat.le_succ _)) (I.hok.fresh (Nat.le_refl _)) (Nat.ne_of_lt (Nat.lt_succ_self _))
  have I2 := Inv.made (C := G.cls c) I
  have r2 : Vals (V.ref (s.heap.objs.size + 1) :: vs) (Value.ref (s.heap.objs.size + 1) :: us) := .cons rfl r
  refine wpAny_call (make_map (f := f) I.kIn M.makes M.init (beq_iff_eq.mp M.fn) (codeAny_mono (R _ X.stack _ _ (Value.ref (s.heap.objs.size + 1) :: us) ws _ zs _ (Wa W σ) (B.room.make (G.cls c) us (ks.zip ws)) (by rw [B.hK]; exact I2.env0.make (G.cls c) us (ks.zip ws)) r2 rz (by simp [l1]) l2 hq) fun r s' hq' => ?_))
  cases r with
  | error e => exact passAt B.tk σ pins _ _ e s' I2 hq'
  | ok fl =>
    cases fl with
    | ret u =>
      obtain ⟨v, H', I3, rv, ev, q3⟩ := I2.after hq'
      subst ev
      exact ⟨rv, ⟨V.ref (s.heap.objs.size + 1), H', I3, rfl, q3⟩⟩
    | next => exact False.elim hq'
    | brk => exact False.elim hq'
    | cont => exact False.elim hq'
theorem make_po {A : Al} {σ : L2.St} {S1 : Sto} {H1 : Hp} {ds : List Dv} {vs : List V} {Q : VK} (s1 : StR G A S1 H1) (rvs : RDs G A H1 ds vs)
    (p1 : Po G (Wa W σ) A H1 ((F (.loc S1.length :: ds) (S1 ++ [.ins c []])).bind fun r S2 => match r with
      | .d .non => .ok (.loc S1.length) S2
      | _ => .bad) (kD G Q)) : ∀ x dx, H1 x = none → H1 dx = none → dx ≠ x → SpM G F (V.ref x :: vs) (upd (upd H1 dx (.own x)) x (.ins (G.cls c) dx [])) (fun v H2 => v = .non ∧ Q (.ref x) H2) (Wa W σ) := by
  intro x dx hx hdx ne
  obtain ⟨x3, s3, r3⟩ := box_ins (c := c) s1 hx hdx ne
  refine ⟨A.push [x, dx], S1 ++ [.ins c []], .loc S1.length :: ds, .cons r3 (rvs.kp x3.kp), s3, Po.step (Po.mono x3 p1) fun r S2 A2 H2 x2 s2 p2 v rv => ?_⟩
  cases r with
  | loc n => exact p2.elim
  | d t =>
    cases t with
    | non => exact ⟨rv, Po.now p2 s2 _ (r3.kp x2.kp)⟩
    | _ => exact p2.elim
end
def dpures : List (Option Dv) → Option (List Dt)
  | [] => some []
  | some (.d t) :: r => (dpures r).map (t :: ·)
  | _ :: _ => none
def frz (d : Dv) (S : Sto) : Pz Dv := match d with
  | .loc n => (match S[n]? with
    | some (.lst xs) => (match pures xs with
      | some ts => some (.d (.lst ts), S.set n .dead)
      | none => none)
    | some (.ins c fs) => (match dpures fs with
      | some ts => some (.d (.obj c ts), S.set n .dead)
      | none => none)
    | some (.dct ks xs) => (match pures xs with
      | some ts => some (.d (.dct ks ts), S.set n .dead)
      | none => none)
    | _ => none)
  | .d t => some (.d t, S)
def Al.drop (A : Al) (n : Nat) : Al := ⟨A.live.set n [], A.hid⟩
section
variable {G : Gs} {A : Al} {H : Hp} {S : Sto} {n : Nat} {l : List Addr}
theorem drop_flat (A : Al) (n : Nat) : ∀ b, b ∈ (A.drop n).live.flatten → b ∈ A.live.flatten := by
  intro b hb
  obtain ⟨x, hx, hb⟩ := List.mem_flatten.mp hb
  unfold Al.drop at hx
  obtain ⟨i, hi⟩ := List.mem_iff_getElem?.mp hx
  simp only at hi
  by_cases e : n = i
  · subst e
    by_cases hl : n < A.live.length
    · rw [List.getElem?_set_self hl] at hi
      cases hi
      cases hb
    · rw [List.getElem?_eq_none (by simp; omega)] at hi
      cases hi
  · rw [List.getElem?_set_ne e] at hi
    exact List.mem_flatten.mpr ⟨x, List.mem_of_getElem? hi, hb⟩
theorem Ext.drop : Ext A H (A.drop n) H := by
  refine ⟨fun i x e => ?_, fun _ _ _ _ => Iff.rfl, fun a u h m => ⟨.inl h, fun z => m (drop_flat A n a z)⟩, fun _ _ h _ _ => h⟩
  unfold Al.drop
  simp only
  by_cases ei : n = i
  · subst ei
    rw [List.getElem?_set_self (List.getElem?_eq_some_iff.mp e).1]
    exact .inr rfl
  · rw [List.getElem?_set_ne ei]
    exact .inl e
theorem drop_nd (hn : A.all.Nodup) : (A.drop n).all.Nodup := by
  have key : ∀ {L : List (List Addr)} {n : Nat}, L.flatten.Nodup → (L.set n []).flatten.Nodup := by
    intro L
    induction L with
    | nil => intro n h; simpa using h
    | cons x L ih =>
      intro n h
      rw [List.flatten_cons, List.nodup_append] at h
      obtain ⟨h1, h2, h3⟩ := h
      cases n with
      | zero =>
        simpa using h2
      | succ n =>
        rw [List.set_cons_succ, List.flatten_cons, List.nodup_append]
        refine ⟨h1, ih h2, fun a ha b hb => h3 a ha b ?_⟩
        obtain ⟨y, hy, hb⟩ := List.mem_flatten.mp hb
        obtain ⟨i, hi⟩ := List.mem_iff_getElem?.mp hy
        by_cases e : n = i
        · subst e
          by_cases hl : n < L.length
          · rw [List.getElem?_set_self hl] at hi
            cases hi
            cases hb
          · rw [List.getElem?_eq_none (by simp; omega)] at hi
            cases hi
        · rw [List.getElem?_set_ne e] at hi
          exact List.mem_flatten.mpr ⟨y, List.mem_of_getElem? hi, hb⟩
  unfold Al.all at *
  rw [List.nodup_append] at *
  obtain ⟨h1, h2, h3⟩ := hn
  exact ⟨key h1, h2, fun a ha b hb => h3 a (drop_flat A n a ha) b hb⟩
theorem StR.drop (s : StR G A S H) : StR G (A.drop n) (S.set n .dead) H := by
  refine ⟨by simp [Al.drop, s.len], drop_nd s.nd, fun a ha => ?_, fun i k o e1 e2 => ?_, s.tabs.out fun a m z => m ?_⟩
  · refine s.alive a ?_
    unfold Al.all at *
    rcases List.mem_append.mp ha with z | z
    · exact List.mem_append_left _ (drop_flat A n a z)
    · exact List.mem_append_right _ z
  · by_cases ei : n = i
    · subst ei
      by_cases hl : n < S.length
      · rw [List.getElem?_set_self hl] at e2
        cases e2
        trivial
      · rw [List.getElem?_eq_none (by simp; omega)] at e2
        cases e2
    · rw [List.getElem?_set_ne ei] at e2
      unfold Al.drop at e1
      simp only at e1
      rw [List.getElem?_set_ne ei] at e1
      exact (s.box i k o e1 e2).keep Ext.drop.kp fun _ _ => rfl
  · unfold Al.all at *
    rcases List.mem_append.mp z with z | z
    · exact List.mem_append_left _ (drop_flat A n a z)
    · exact List.mem_append_right _ z
theorem drop_out (hn : A.all.Nodup) (h : A.live[n]? = some l) : ∀ a ∈ l, a ∉ (A.drop n).all := by
  intro a ha z
  have hn' := hn
  unfold Al.all at hn z
  rw [List.nodup_append] at hn
  rcases List.mem_append.mp z with z | z
  · obtain ⟨x, hx, hb⟩ := List.mem_flatten.mp z
    obtain ⟨i, hi⟩ := List.mem_iff_getElem?.mp hx
    unfold Al.drop at hi
    simp only at hi
    by_cases e : n = i
    · subst e
      rw [List.getElem?_set_self (List.getElem?_eq_some_iff.mp h).1] at hi
      cases hi
      cases hb
    · rw [List.getElem?_set_ne e] at hi
      exact e (nd_live hn' h hi ha hb)
  · exact hn.2.2 a (live_set h a ha) a z rfl
theorem dpures_rvs {fs : List (Option Dv)} {ts : List Dt} {ws : List (Option V)} (e : dpures fs = some ts) (h : RF G A H fs ws) : ∃ vs, SlIs ws vs ∧ RVs G A H ts vs := by
  induction fs generalizing ts ws with
  | nil =>
    cases e
    exact ⟨[], fun i v z => by simp at z, (rfl : ([] : List V) = [])⟩
  | cons f fs ih =>
    cases f with
    | none => cases e
    | some d =>
      cases d with
      | loc n => cases e
      | d t =>
        unfold dpures at e
        cases e1 : dpures fs with
        | none => rw [e1] at e; cases e
        | some us =>
          rw [e1] at e
          cases e
          obtain ⟨v, ev, rv⟩ := h 0 (.d t) rfl
          cases ws with
          | nil => simp at ev
          | cons w0 ws =>
            obtain ⟨vs, hi, hv⟩ := ih (ws := ws) e1 fun i d he => by
              have := h (i + 1) d (by simpa using he)
              simpa using this
            refine ⟨v :: vs, fun i u z => ?_, v, vs, rfl, rv, hv⟩
            cases i with
            | zero =>
              simp at z ev
              subst z
              simpa using ev
            | succ i =>
              have := hi i u (by simpa using z)
              simpa using this
theorem frz_po {d d' : Dv} {S' : Sto} {v : V} (s : StR G A S H) (r : RD G A H d v) (e : frz d S = some (d', S')) : ∃ A', Ext A H A' H ∧ StR G A' S' H ∧ RD G A' H d' v := by
  cases d with
  | d t =>
    cases e
    exact ⟨A, .refl, s, r⟩
  | loc n =>
    unfold frz at e
    simp only at e
    cases es : S[n]? with
    | none => rw [es] at e; cases e
    | some o =>
      rw [es] at e
      cases o with
      | lst xs =>
        simp only at e
        cases ep : pures xs with
        | none => rw [ep] at e; cases e
        | some ts =>
          rw [ep] at e
          cases e
          obtain ⟨a, vs, rfl, hl, ha, rv⟩ := loc_lst s r es
          exact ⟨A.drop n, .drop, s.drop, a, vs, rfl, ⟨ha, drop_out s.nd hl a (by simp)⟩, (pures_rvs ep rv).kp Ext.drop.kp⟩
      | dct ks xs =>
        simp only at e
        cases ep : pures xs with
        | none => rw [ep] at e; cases e
        | some ts =>
          rw [ep] at e
          cases e
          obtain ⟨a, kvs, rfl, hl, ha, ek, rv⟩ := loc_dct s r es
          exact ⟨A.drop n, .drop, s.drop, a, kvs, rfl, drop_out s.nd hl a (by simp), .inl ha, ek, (pures_rvs ep rv).kp Ext.drop.kp⟩
      | ins c fs =>
        simp only at e
        cases ep : dpures fs with
        | none => rw [ep] at e; cases e
        | some ts =>
          rw [ep] at e
          cases e
          obtain ⟨a, dx, ws, rfl, hl, ne, hs, hf⟩ := loc_ins s r es
          obtain ⟨vs, hi, hv⟩ := dpures_rvs ep hf
          obtain ⟨u, hu⟩ := s.alive dx (List.mem_append_left _ (live_set hl dx (by simp)))
          exact ⟨A.drop n, .drop, s.drop, a, dx, ws, vs, rfl, drop_out s.nd hl a (by simp), drop_out s.nd hl dx (by simp), ⟨u, hu⟩, hs, hi, hv.kp Ext.drop.kp⟩
      | dead => cases e
      | tp xs => cases e
      | dcT ks xs => cases e
end
def mFrz (m : M Dv) : M Dv := fun ρ S => (m ρ S).bind fun d S1 => lift (frz d S1)
theorem e_frz {X : Cx} {G : Gs} {W : WX} {e : Expr} {m : M Dv} (h : PE X e (tM G W m)) : PE X e (tM G W (mFrz m)) := by
  refine h.sm fun σ H Q h => ?_
  obtain ⟨A, ρ, S, he, hs, p0⟩ := h
  refine ⟨A, ρ, S, he, hs, Po.step p0 fun d S1 A1 H1 x1 s1 p1 v rv => ?_⟩
  cases e1 : frz d S1 with
  | none => rw [e1] at p1; exact p1.elim
  | some q =>
    obtain ⟨d', S2⟩ := q
    rw [e1] at p1
    obtain ⟨A2, x2, s2, r2⟩ := frz_po s1 rv e1
    exact Po.at p1 x2 s2 v r2
end Sm
namespace Sm
open PySem PySem.Spec PyProof.Rows L2
section
variable {G : Gs} {A A' A0 : Al} {H H' : Hp} {S S' : Sto}
theorem Kq.same (h : ∀ a, a ∉ A.all → a ∉ A'.all) : Kq A H A' H :=
  ⟨fun a u _ n r => ⟨r, h a n⟩, fun a u _ _ n r => ⟨r, h a n⟩, fun a u n r => ⟨⟨u, r⟩, h a n⟩, fun a o vs n r => ⟨r, h a n⟩⟩
theorem ExR.kq (x : Kq A H A' H') {c : Nat} {t : Dt} {cls : Value} {d : Option Addr} (h : ExR G A H c t cls d) : ExR G A' H' c t cls d := by
  obtain ⟨e, h⟩ := h
  refine ⟨e, ?_⟩
  rcases h with h | ⟨a, f, v, e1, e2, n, e3, r⟩
  · exact .inl h
  · obtain ⟨h1, n1⟩ := x.ex a _ nf_xd lk_xd n e3
    exact .inr ⟨a, f, v, e1, e2, n1, h1, RV.kq x r⟩
theorem pures_map : ∀ {ds : List Dv} {ts : List Dt}, pures ds = some ts → ds = ts.map .d
  | [], ts, e => by cases e; rfl
  | .d t :: ds, ts, e => by
    unfold pures at e
    cases e1 : pures ds with
    | none => rw [e1] at e; cases e
    | some us =>
      rw [e1] at e
      cases e
      simp [pures_map e1]
  | .loc n :: ds, ts, e => by cases e
theorem rds_pure {xs : List Dv} {vs : List V} (h : (pures xs).isSome = true) (x : Kq A H A' H') (r : RDs G A H xs vs) : RDs G A' H' xs vs := by
  cases e : pures xs with
  | none => rw [e] at h; cases h
  | some ts =>
    have r2 := RVs.kq x (pures_rvs e r)
    rw [pures_map e]
    exact r2.rds
theorem StR.alive' (s : StR G A S H) {a : Addr} {i : Nat} {l : List Addr} (h : A.live[i]? = some l) (ha : a ∈ l) : ∃ u, H a = some u := s.alive a (List.mem_append_left _ (live_set h a ha))
end
def iso (F : FM) : FM := fun ds S => match pures ds with
  | some _ => (match F ds [] with
    | .ok (.d t) _ => .ok (.d t) S
    | .er c t _ => .er c t S
    | _ => .bad)
  | none => .bad
theorem SpM.iso {G : Gs} {F : FM} {vs : List V} {H : Hp} {Q : VK} {E : XK} (h : SpM G (iso F) vs H Q E) : SpM G F vs H Q E := by
  obtain ⟨A, S, ds, r, s, p⟩ := h
  unfold Sm.iso at p
  cases ep : pures ds with
  | none => rw [ep] at p; exact p.elim
  | some ts =>
    rw [ep] at p
    have eall : ∀ a, a ∈ (⟨[], A.all⟩ : Al).all ↔ a ∈ A.all := fun a => by simp [Al.all]
    have s0 : StR G ⟨[], A.all⟩ [] H := ⟨rfl, by simpa [Al.all] using s.nd, fun a ha => s.alive a ((eall a).mp ha), fun i l o e => by simp at e, s.tabs.out fun a n z => n ((eall a).mp z)⟩
    have r0 : RDs G ⟨[], A.all⟩ H ds vs := rds_pure (by rw [ep]; rfl) (Kq.same fun a n z => n ((eall a).mp z)) r
    refine ⟨⟨[], A.all⟩, [], ds, r0, s0, ?_⟩
    have key : ∀ A' H', Ext ⟨[], A.all⟩ H A' H' → TabsA G A' H' → Ext A H A H' ∧ StR G A S H' ∧ ∀ a, a ∉ A'.all → a ∉ A.all := by
      intro A' H' x tb
      have sub : ∀ a, a ∉ A'.all → a ∉ A.all := fun a n z => by
        obtain ⟨u, e⟩ := s.alive a z
        exact (mem_all.mp n).2 ((x.hid a u e (by simp)).mpr z)
      have kp : ∀ a u, H a = some u → a ∈ A.all → H' a = some u := fun a u e m => x.keepH a u e (by simp) m
      have x1 : Ext A H A H' := ⟨fun _ _ e => .inl e, fun _ _ _ _ => Iff.rfl, fun a u e n => ⟨(x.keep a u e (by simp)).1, n⟩, fun a u e n m => kp a u e (List.mem_append_right _ m)⟩
      refine ⟨x1, ⟨s.len, s.nd, fun a ha => ?_, fun i l o e1 e2 => (s.box i l o e1 e2).keep x1.kp fun a ha => ?_, tb.out sub⟩, sub⟩
      · obtain ⟨u, e⟩ := s.alive a ha
        exact ⟨u, kp a u e ha⟩
      · obtain ⟨u, e⟩ := s.alive' e1 ha
        rw [kp a u e (List.mem_append_left _ (live_set e1 a ha)), e]
    cases eF : F ds [] with
    | bad => rw [eF] at p; exact p.elim
    | er c t S1 =>
      rw [eF] at p
      intro A' H' cls d x s1 e
      obtain ⟨x1, s2, sub⟩ := key A' H' x s1.tabs
      exact p A H' cls d x1 s2 (e.kq (Kq.same sub))
    | ok d S1 =>
      rw [eF] at p
      cases d with
      | loc n => exact p.elim
      | d t =>
        intro A' H' x s1 v rv
        obtain ⟨x1, s2, sub⟩ := key A' H' x s1.tabs
        exact p A H' x1 s2 v (RV.kq (t := t) (Kq.same sub) rv)
def pureB (b : Bo) : Bool := match b with
  | .lst xs => (pures xs).isSome
  | .dct _ xs => (pures xs).isSome
  | .ins _ fs => fs.all fun o => match o with
    | none => true
    | some (.d _) => true
    | _ => false
  | .dead => false
  | .tp xs => (pures xs).isSome
  | .dcT _ xs => (pures xs).isSome
theorem rb_pure {G : Gs} {A A' : Al} {H H' : Hp} {l : List Addr} {b : Bo} (hp : pureB b = true) (x : Kq A H A' H') (hl : ∀ a ∈ l, H' a = H a) (h : RB G A H l b) : RB G A' H' l b := by
  cases b with
  | lst xs =>
    obtain ⟨a, vs, rfl, e, r⟩ := h
    exact ⟨a, vs, rfl, (hl a (by simp)).trans e, rds_pure hp x r⟩
  | dct ks xs =>
    obtain ⟨a, vs, rfl, e, ek, r⟩ := h
    exact ⟨a, vs, rfl, (hl a (by simp)).trans e, ek, rds_pure hp x r⟩
  | ins c fs =>
    obtain ⟨a, dx, ws, rfl, e, r⟩ := h
    refine ⟨a, dx, ws, rfl, ?_, fun i d hd => ?_⟩
    · rcases e with ⟨e, hw⟩ | ⟨e, e2⟩
      · exact .inl ⟨(hl a (by simp)).trans e, hw⟩
      · exact .inr ⟨(hl a (by simp)).trans e, (hl dx (by simp)).trans e2⟩
    · obtain ⟨v, ev, rv⟩ := r i d hd
      refine ⟨v, ev, ?_⟩
      have hm : some d ∈ fs := List.mem_of_getElem? hd
      have := List.all_eq_true.mp hp _ hm
      cases d with
      | d t => exact RV.kq (t := t) x rv
      | loc n => simp at this
  | dead => cases hp
  | tp xs =>
    obtain ⟨a, vs, rfl, e, r⟩ := h
    exact ⟨a, vs, rfl, (hl a (by simp)).trans e, rds_pure hp x r⟩
  | dcT ks xs =>
    obtain ⟨a, vs, rfl, e, ek, r⟩ := h
    exact ⟨a, vs, rfl, (hl a (by simp)).trans e, ek, rds_pure hp x r⟩
def view (F : FM) : FM := fun ds S => match ds with
  | .loc n :: r => (match pures r, S[n]? with
    | some _, some o => if pureB o = true then (match F (.loc 0 :: r) [o] with
      | .ok (.d t) (o' :: _) => if pureB o' = true then .ok (.d t) (S.set n o') else .bad
      | .er c t (o' :: _) => if pureB o' = true then .er c t (S.set n o') else .bad
      | _ => .bad) else .bad
    | _, _ => .bad)
  | _ => .bad
theorem SpM.view {G : Gs} {F : FM} {vs : List V} {H : Hp} {Q : VK} {E : XK} (h : SpM G (view F) vs H Q E) : SpM G F vs H Q E := by
  obtain ⟨A, S, ds, r, s, p⟩ := h
  cases r with
  | nil => exact p.elim
  | @cons d v ds' vs' rd rr =>
    cases d with
    | d t => exact p.elim
    | loc n =>
      unfold Sm.view at p
      simp only at p
      cases ep : pures ds' with
      | none => rw [ep] at p; exact p.elim
      | some ts =>
        cases eo : S[n]? with
        | none => rw [ep, eo] at p; exact p.elim
        | some o =>
          rw [ep, eo] at p
          simp only at p
          by_cases hpo : pureB o = true
          · simp only [hpo, if_true] at p
            obtain ⟨l, hl, fl⟩ := rd
            have hbox := s.box n l o hl eo
            have hin : ∀ a, a ∈ (⟨[l], (A.drop n).all⟩ : Al).all ↔ a ∈ A.all := by
              intro a
              unfold Al.all
              simp only [List.flatten_cons, List.flatten_nil, List.append_nil, List.mem_append]
              constructor
              · rintro (h | h | h)
                · exact .inl (live_set hl a h)
                · exact .inl (drop_flat A n a h)
                · exact .inr h
              · rintro (h | h)
                · obtain ⟨x, hx, hb⟩ := List.mem_flatten.mp h
                  obtain ⟨i, hi⟩ := List.mem_iff_getElem?.mp hx
                  by_cases e : n = i
                  · subst e
                    rw [hl] at hi
                    cases hi
                    exact .inl hb
                  · refine .inr (.inl (List.mem_flatten.mpr ⟨x, ?_, hb⟩))
                    unfold Al.drop
                    simp only
                    exact List.mem_of_getElem? (i := i) (by rw [List.getElem?_set_ne e]; exact hi)
                · exact .inr (.inr h)
            have hlnd : l.Nodup := by
              have hn := s.nd
              unfold Al.all at hn
              rw [List.nodup_append] at hn
              exact (nd_flat hn.1).1 _ (List.mem_of_getElem? hl)
            have hnd : (⟨[l], (A.drop n).all⟩ : Al).all.Nodup := by
              show (([l] : List (List Addr)).flatten ++ (A.drop n).all).Nodup
              simp only [List.flatten_cons, List.flatten_nil, List.append_nil]
              rw [List.nodup_append]
              exact ⟨hlnd, drop_nd s.nd, fun a ha b hb e => drop_out s.nd hl a ha (by rw [e]; exact hb)⟩
            have k0 : Kq A H ⟨[l], (A.drop n).all⟩ H := Kq.same fun a n z => n ((hin a).mp z)
            have s0 : StR G ⟨[l], (A.drop n).all⟩ [o] H := by
              refine ⟨rfl, hnd, fun a ha => s.alive a ((hin a).mp ha), fun i l' o' e1 e2 => ?_, s.tabs.out fun a n z => n ((hin a).mp z)⟩
              cases i with
              | zero =>
                simp at e1 e2
                subst e1 e2
                exact rb_pure hpo k0 (fun _ _ => rfl) hbox
              | succ i => simp at e1
            have r0 : RDs G ⟨[l], (A.drop n).all⟩ H (.loc 0 :: ds') (v :: vs') := .cons ⟨l, rfl, fl⟩ (rds_pure (by rw [ep]; rfl) k0 rr)
            refine ⟨_, [o], _, r0, s0, ?_⟩
            have key : ∀ A' H' o' rest, Ext ⟨[l], (A.drop n).all⟩ H A' H' → StR G A' (o' :: rest) H' → pureB o' = true → Ext A H A H' ∧ StR G A (S.set n o') H' ∧ ∀ a, a ∉ A'.all → a ∉ A.all := by
              intro A' H' o' rest x s1 hp'
              have kp : ∀ a u, H a = some u → a ∉ l → a ∈ A.all → H' a = some u := fun a u e hn hm => x.keepH a u e (by simpa using hn) (by
                have z := (hin a).mpr hm
                rcases List.mem_append.mp z with z | z
                · simp at z
                  exact absurd z hn
                · exact z)
              have x1 : Ext A H A H' := ⟨fun _ _ e => .inl e, fun _ _ _ _ => Iff.rfl, fun a u e m => ⟨(x.keep a u e (by simpa using fun z => m (live_set hl a z))).1, m⟩, fun a u e m hm => kp a u e (fun z => m (live_set hl a z)) (List.mem_append_right _ hm)⟩
              have hl' : A'.live[0]? = some l := by
                rcases x.live 0 l rfl with z | z
                · exact z
                · exfalso
                  have b0 := s1.box 0 [] o' z rfl
                  cases o' with
                  | lst xs => obtain ⟨a, vs, e, _⟩ := b0; cases e
                  | dct ks xs => obtain ⟨a, vs, e, _⟩ := b0; cases e
                  | ins c fs => obtain ⟨a, dx, vs, e, _⟩ := b0; cases e
                  | dead => cases hp'
                  | tp xs => obtain ⟨a, vs, e, _⟩ := b0; cases e
                  | dcT ks xs => obtain ⟨a, vs, e, _⟩ := b0; cases e
              have sub : ∀ a, a ∉ A'.all → a ∉ A.all := by
                intro a m z
                have z2 := (hin a).mpr z
                rcases List.mem_append.mp z2 with z3 | z3
                · simp at z3
                  exact m (List.mem_append_left _ (live_set hl' a z3))
                · obtain ⟨u, e⟩ := s.alive a z
                  by_cases hal : a ∈ l
                  · exact m (List.mem_append_left _ (live_set hl' a hal))
                  · exact (mem_all.mp m).2 ((x.hid a u e (by simpa using hal)).mpr z3)
              have hbox' : RB G A H' l o' := rb_pure hp' (Kq.same sub) (fun _ _ => rfl) (s1.box 0 l o' hl' rfl)
              refine ⟨x1, ⟨by simp [s.len], s.nd, fun a ha => ?_, fun i k b e1 e2 => ?_, s1.tabs.out sub⟩, sub⟩
              · by_cases hal : a ∈ l
                · exact s1.alive' hl' hal
                · obtain ⟨u, e⟩ := s.alive a ha
                  exact ⟨u, kp a u e hal ha⟩
              · by_cases ei : n = i
                · subst ei
                  have hlt : n < S.length := (List.getElem?_eq_some_iff.mp eo).1
                  rw [List.getElem?_set_self hlt] at e2
                  cases e2
                  rw [hl] at e1
                  cases e1
                  exact hbox'
                · rw [List.getElem?_set_ne ei] at e2
                  refine (s.box i k b e1 e2).keep x1.kp fun a ha => ?_
                  obtain ⟨u, e⟩ := s.alive' e1 ha
                  rw [kp a u e (fun z => ei (nd_live s.nd hl e1 z ha)) (List.mem_append_left _ (live_set e1 a ha)), e]
            cases eF : F (.loc 0 :: ds') [o] with
            | bad => rw [eF] at p; exact p.elim
            | er c t S1 =>
              rw [eF] at p
              cases S1 with
              | nil => exact p.elim
              | cons o' rest =>
                simp only at p
                by_cases hp' : pureB o' = true
                · simp only [hp', if_true] at p
                  intro A' H' cls d x s1 e
                  obtain ⟨x1, s2, sub⟩ := key A' H' o' rest x s1 hp'
                  exact p A H' cls d x1 s2 (e.kq (Kq.same sub))
                · simp only [hp'] at p
                  exact p.elim
            | ok d S1 =>
              rw [eF] at p
              cases d with
              | loc m => exact p.elim
              | d t =>
                cases S1 with
                | nil => exact p.elim
                | cons o' rest =>
                  simp only at p
                  by_cases hp' : pureB o' = true
                  · simp only [hp', if_true] at p
                    intro A' H' x s1 v' rv
                    obtain ⟨x1, s2, sub⟩ := key A' H' o' rest x s1 hp'
                    exact p A H' x1 s2 v' (RV.kq (t := t) (Kq.same sub) rv)
                  · simp only [hp'] at p
                    exact p.elim
          · simp only [hpo] at p
            exact p.elim
theorem CallW.isoF {P : Program} {w : World} {G : Gs} {mg : Str → Option Value} {base : Heap} {k : Nat} {f : Addr} {n : Nat} {ks : List Str} {F : FM} (h : CallW P w G mg base k f n ks F) : CallW P w G mg base k f n ks (iso F) := h.imp fun _ _ _ _ q => q.iso
theorem CallW.viewF {P : Program} {w : World} {G : Gs} {mg : Str → Option Value} {base : Heap} {k : Nat} {f : Addr} {n : Nat} {ks : List Str} {F : FM} (h : CallW P w G mg base k f n ks F) : CallW P w G mg base k f n ks (view F) := h.imp fun _ _ _ _ q => q.view
end Sm
namespace Sm
open PySem PySem.Spec PyProof.Rows L2
def nox {α : Type} (r : Rz α) : Rz α := match r with
  | .ok a S => .ok a S
  | _ => .bad
@[simp] theorem nox_ok {α : Type} {a : α} {S : Sto} : nox (.ok a S) = .ok a S := rfl
@[simp] theorem nox_bad {α : Type} : nox (.bad : Rz α) = .bad := rfl
def wipeE (ρ : Env) : List Nat → Env
  | [] => ρ
  | v :: vs => (wipeE ρ vs).set v none
theorem EnvR.wipe {G : Gs} {A : Al} {H : Hp} {ρ : Env} {σ : L2.St} (h : EnvR G A H ρ σ) : ∀ vs, EnvR G A H (wipeE ρ vs) (wipe σ vs)
  | [] => h
  | v :: vs => by
    have ih := EnvR.wipe h vs
    refine ⟨by show ((wipeE ρ vs).set v none).length = ((L2.wipe σ vs).set v none).length; simp [ih.len], fun i d e => ?_⟩
    have e' : ((wipeE ρ vs).set v none)[i]? = some (some d) := e
    by_cases hv : v = i
    · subst hv
      by_cases hl : v < (wipeE ρ vs).length
      · rw [List.getElem?_set_self hl] at e'
        cases e'
      · rw [List.getElem?_eq_none (by simp; omega)] at e'
        cases e'
    · rw [List.getElem?_set_ne hv] at e'
      obtain ⟨u, eu, r⟩ := ih.at_ i d e'
      exact ⟨u, by show ((L2.wipe σ vs).set v none)[i]? = _; rw [List.getElem?_set_ne hv]; exact eu, r⟩
theorem wipe_same {σ σ' : L2.St} {vs L : List Nat} (hL : ∀ i ∈ L, i ∈ vs) (hk : ∀ j : Nat, j ∉ L → σ'[j]? = σ[j]?) (hl : σ'.length = σ.length) : L2.wipe σ' vs = L2.wipe σ vs := by
  apply List.ext_getElem?
  intro j
  by_cases hj : j ∈ vs
  · have key : ∀ (τ : L2.St) (ws : List Nat), j ∈ ws → j < τ.length → (L2.wipe τ ws)[j]? = some none := by
      intro τ ws
      induction ws with
      | nil => intro h; cases h
      | cons w ws ih =>
        intro h hlt
        show ((L2.wipe τ ws).set w none)[j]? = some none
        by_cases e : w = j
        · subst e
          rw [List.getElem?_set_self (by rw [wipe_length]; exact hlt)]
        · rw [List.getElem?_set_ne e]
          exact ih (by rcases List.mem_cons.mp h with z | z; exact absurd z.symm e; exact z) hlt
    by_cases hlt : j < σ.length
    · rw [key σ vs hj hlt, key σ' vs hj (by rw [hl]; exact hlt)]
    · rw [List.getElem?_eq_none (by rw [wipe_length]; omega), List.getElem?_eq_none (by rw [wipe_length]; omega)]
  · rw [wipe_out hj, wipe_out hj]
    exact hk j fun z => hj (hL j z)
def Al.hide (A : Al) (D : Addr) : Al := ⟨A.live, D :: A.hid⟩
def Al.show_ (A : Al) (D : Addr) : Al := ⟨A.live, A.hid.filter fun a => decide (a ≠ D)⟩
section
variable {G : Gs} {A A' : Al} {H H' : Hp} {S : Sto} {D : Addr} {o : HO}
theorem Ext.hide (h : H D = none) : Ext A H (A.hide D) (upd H D o) :=
  ⟨fun _ _ e => .inl e, fun a u e _ => ⟨fun z => by
    rcases List.mem_cons.mp z with z | z
    · exact absurd z (ne_of_none e h)
    · exact z, fun z => List.mem_cons_of_mem _ z⟩, fun a u e n => ⟨.inl (upd_old h e), n⟩, fun a u e _ _ => upd_old h e⟩
theorem hide_all {a : Addr} : a ∈ (A.hide D).all ↔ a = D ∨ a ∈ A.all := by
  unfold Al.hide Al.all
  simp only [List.mem_append, List.mem_cons]
  constructor
  · rintro (h | h | h)
    · exact .inr (.inl h)
    · exact .inl h
    · exact .inr (.inr h)
  · rintro (h | h | h)
    · exact .inr (.inl h)
    · exact .inl h
    · exact .inr (.inr h)
theorem StR.hide (s : StR G A S H) (h : H D = none) : StR G (A.hide D) S (upd H D o) := by
  have hD := s.out h
  refine ⟨s.len, ?_, fun a ha => ?_, fun i l b e1 e2 => (s.box i l b e1 e2).keep (Ext.hide h).kp fun a ha => ?_, s.tabs.keep fun a u n e _ => ⟨upd_old h e, fun z => (hide_all.mp z).elim (fun z => ne_of_none e h z) n⟩⟩
  · have hn := s.nd
    unfold Al.hide Al.all at *
    simp only at *
    rw [List.nodup_append] at *
    obtain ⟨n1, n2, n3⟩ := hn
    refine ⟨n1, List.nodup_cons.mpr ⟨fun z => hD (List.mem_append_right _ z), n2⟩, fun a ha b hb e => ?_⟩
    rcases List.mem_cons.mp hb with z | z
    · subst e z
      exact hD (List.mem_append_left _ ha)
    · exact n3 a ha b z e
  · rcases hide_all.mp ha with z | z
    · subst z
      exact ⟨_, upd_same⟩
    · obtain ⟨u, e⟩ := s.alive a z
      exact ⟨u, upd_old h e⟩
  · obtain ⟨u, e⟩ := s.alive' e1 ha
    rw [upd_old h e, e]
theorem kp_poke (hD : D ∈ A.hid) : Kp A H A (upd H D o) := by
  have hne : ∀ a, a ∉ A.all → a ≠ D := fun a n z => n (by rw [z]; exact List.mem_append_right _ hD)
  refine ⟨⟨fun a u _ n r => ⟨?_, n⟩, fun a u _ _ n r => ⟨by rw [upd_ne (hne a n)]; exact r, n⟩, fun a u n r => ⟨⟨u, by rw [upd_ne (hne a n)]; exact r⟩, n⟩, fun a o vs n r => ⟨by rw [upd_ne (hne a n)]; exact r, n⟩⟩, fun _ _ e => .inl e⟩
  rcases r with r | ⟨ob, r⟩
  · exact .inl (by rw [upd_ne (hne a n)]; exact r)
  · exact .inr ⟨ob, by rw [upd_ne (hne a n)]; exact r⟩
theorem StR.poke (s : StR G A S H) (hD : D ∈ A.hid) : StR G A S (upd H D o) := by
  refine ⟨s.len, s.nd, fun a ha => ?_, fun i l b e1 e2 => (s.box i l b e1 e2).keep (kp_poke hD) fun a ha => ?_, s.tabs.keep fun a u n e _ => ⟨by rw [upd_ne fun z => n (by rw [z]; exact List.mem_append_right _ hD)]; exact e, n⟩⟩
  · by_cases e : a = D
    · subst e
      exact ⟨_, upd_same⟩
    · rw [upd_ne e]
      exact s.alive a ha
  · have hn := s.nd
    unfold Al.all at hn
    rw [List.nodup_append] at hn
    exact upd_ne (hn.2.2 a (live_set e1 a ha) D hD)
theorem show_all {a : Addr} : a ∈ (A.show_ D).all → a ∈ A.all := by
  unfold Al.show_ Al.all
  simp only [List.mem_append, List.mem_filter]
  rintro (h | ⟨h, _⟩)
  · exact .inl h
  · exact .inr h
theorem kp_show : Kp A H (A.show_ D) H :=
  ⟨Kq.same fun a n z => n (show_all z), fun _ _ e => .inl e⟩
theorem StR.show_ (s : StR G A S H) : StR G (A.show_ D) S H := by
  refine ⟨s.len, ?_, fun a ha => s.alive a (show_all ha), fun i l b e1 e2 => (s.box i l b e1 e2).keep kp_show fun _ _ => rfl, s.tabs.out fun a n z => n (show_all z)⟩
  have hn := s.nd
  unfold Al.show_ Al.all at *
  simp only at *
  rw [List.nodup_append] at *
  obtain ⟨n1, n2, n3⟩ := hn
  exact ⟨n1, n2.filter _, fun a ha b hb => n3 a ha b (List.mem_filter.mp hb).1⟩
theorem show_out (s : StR G A S H) (hD : D ∈ A.hid) : D ∉ (A.show_ D).all := by
  intro z
  have hn := s.nd
  unfold Al.show_ Al.all at z
  unfold Al.all at hn
  rw [List.nodup_append] at hn
  simp only [List.mem_append, List.mem_filter] at z
  rcases z with z | ⟨_, z⟩
  · exact hn.2.2 D z D hD rfl
  · simp at z
structure ExtB (D : Addr) (A : Al) (H : Hp) (A' : Al) (H' : Hp) : Prop where
  live : ∀ (i : Nat) (l : List Addr), A.live[i]? = some l → A'.live[i]? = some l ∨ A'.live[i]? = some []
  hid : ∀ a u, a ≠ D → H a = some u → a ∉ A.live.flatten → (a ∈ A'.hid ↔ a ∈ A.hid)
  keep : ∀ a u, a ≠ D → H a = some u → a ∉ A.live.flatten → Fz u (H' a) ∧ a ∉ A'.live.flatten
  keepH : ∀ a u, a ≠ D → H a = some u → a ∉ A.live.flatten → a ∈ A.hid → H' a = some u
  inH : D ∈ A'.hid
theorem ExtB.start : ExtB D A H (A.hide D) (upd H D o) :=
  ⟨fun _ _ e => .inl e, fun a u ne e _ => ⟨fun z => by
    rcases List.mem_cons.mp z with z | z
    · exact absurd z ne
    · exact z, fun z => List.mem_cons_of_mem _ z⟩, fun a u ne e n => ⟨.inl (by rw [upd_ne ne]; exact e), n⟩, fun a u ne e _ _ => by rw [upd_ne ne]; exact e, List.mem_cons_self⟩
theorem ExtB.step {A1 : Al} {H1 : Hp} (x : ExtB D A H A1 H1) (y : Ext A1 H1 A' H') (s : StR G A1 S H1) : ExtB D A H A' H' := by
  refine ⟨fun i l e => ?_, fun a u ne e n => ?_, fun a u ne e n => ?_, fun a u ne e n m => ?_, ?_⟩
  · rcases x.live i l e with z | z
    · exact y.live i l z
    · rcases y.live i [] z with z | z
      · exact .inr z
      · exact .inr z
  · obtain ⟨h1, n1⟩ := x.keep a u ne e n
    obtain ⟨v, hv⟩ := h1.there
    exact (y.hid a v hv n1).trans (x.hid a u ne e n)
  · obtain ⟨h1, n1⟩ := x.keep a u ne e n
    obtain ⟨v, hv⟩ := h1.there
    obtain ⟨h2, n2⟩ := y.keep a v hv n1
    rw [hv] at h1
    exact ⟨h1.step h2, n2⟩
  · exact y.keepH a u (x.keepH a u ne e n m) (x.keep a u ne e n).2 ((x.hid a u ne e n).mpr m)
  · obtain ⟨u, e⟩ := s.alive D (List.mem_append_right _ x.inH)
    have hn := s.nd
    unfold Al.all at hn
    rw [List.nodup_append] at hn
    exact (y.hid D u e fun z => hn.2.2 D z D x.inH rfl).mpr x.inH
theorem ExtB.poke {A1 : Al} {H1 : Hp} (x : ExtB D A H A1 H1) : ExtB D A H A1 (upd H1 D o) :=
  ⟨x.live, x.hid, fun a u ne e n => ⟨by rw [upd_ne ne]; exact (x.keep a u ne e n).1, (x.keep a u ne e n).2⟩, fun a u ne e n m => by rw [upd_ne ne]; exact x.keepH a u ne e n m, x.inH⟩
theorem ExtB.done {A1 : Al} {H1 : Hp} (x : ExtB D A H A1 H1) (h : H D = none) : Ext A H (A1.show_ D) H1 :=
  ⟨x.live, fun a u e n => by
    have ne := ne_of_none e h
    unfold Al.show_
    simp only [List.mem_filter]
    exact ⟨fun z => (x.hid a u ne e n).mp z.1, fun z => ⟨(x.hid a u ne e n).mpr z, by simpa using ne⟩⟩, fun a u e n => x.keep a u (ne_of_none e h) e n, fun a u e n m => x.keepH a u (ne_of_none e h) e n m⟩
theorem Ext.ofB {A1 : Al} {H1 : Hp} (x : ExtB D A H A1 H1) (h : H D = none) : Ext A H A1 H1 :=
  ⟨x.live, fun a u e n => x.hid a u (ne_of_none e h) e n, fun a u e n => x.keep a u (ne_of_none e h) e n, fun a u e n m => x.keepH a u (ne_of_none e h) e n m⟩
theorem hid_keep (s : StR G A S H) (hD : D ∈ A.hid) (x : Ext A H A' H') : H' D = H D := by
  obtain ⟨u, e⟩ := s.alive D (List.mem_append_right _ hD)
  have hn := s.nd
  unfold Al.all at hn
  rw [List.nodup_append] at hn
  rw [x.keepH D u e (fun z => hn.2.2 D z D hD rfl) hD, e]
end
def bz {α β : Type} (o : Option α) (f : α → Rz β) : Rz β := match o with
  | some a => f a
  | none => .bad
def lcL (g : GM) (c : M Bool) (e : M Dv) (ρ : Env) : List Dt → Sto → Rz (List Dv)
  | [], S => .ok [] S
  | t :: ts, S => bz (g (.d t) ρ) fun ρ1 => (nox (c ρ1 S)).bind fun k S1 => if k = true then (nox (e ρ1 S1)).bind fun d S2 => (lcL g c e ρ ts S2).bind fun ds S3 => .ok (d :: ds) S3 else lcL g c e ρ ts S1
def cYes : M Bool := fun _ S => .ok true S
def mLcI (vs : List Nat) (it : M (List Dt)) (g : GM) (c : M Bool) (e : M Dv) : M (List Dv) := fun ρ S => (it ρ S).bind fun ts S1 => if ts.length ≤ 16777216 then lcL g c e (wipeE ρ vs) ts S1 else .bad
section
variable {X : Cx} {G : Gs} {W : WX} {kk : Nat} {elt tg iter : Expr} {ifs : List Expr} {scope : Scope} {own : List (Str × Nat)} {pos : Pos} {it : M (List Dt)} {g : GM} {t : TG} {L : List Nat} {cm : M Bool} {em : M Dv}
theorem ts_nil {X : Cx} : PTs X [] (tMT G W0 cYes) := by
  refine ⟨fun pins s σ H Q I h => ?_⟩
  obtain ⟨A, ρ, S, he, hs, p⟩ := h
  exact pts_nil.run pins s σ H Q I (Po.now p hs)
theorem ts_one {X : Cx} {c : Expr} (h : PT X c (tMT G W0 cm)) : PTs X [c] (tMT G W0 cm) := pts_one h
theorem lc_loop {σ : L2.St} {H1 : Hp} {A1 : Al} {ρ : Env} {S1 : Sto} {ts : List Dt} {J : It} {D : Addr} {E : XK} {vs : List Nat} {Fin : Hp → Prop} (hgs : TgS G t g L) (hL : ∀ i ∈ L, i ∈ vs) (wk : Wk G J A1 H1 ts) (he : EnvR G A1 H1 ρ σ) (hs : StR G A1 S1 H1) (hD : H1 D = none) (hlen : ts.length ≤ 16777216)
    {kf : List Dv → Sto → Rz Dv} {Qf : Al → Hp → Dv → Prop}
    (p : Po G E A1 H1 ((lcL g cm em (wipeE ρ vs) ts S1).bind kf) Qf)
    (hfin : ∀ ds ws S' A' H', StR G A' S' H' → ExtB D A1 H1 A' H' → H' D = some (.lst ws) → RDs G A' H' ds ws → Po G E A1 H1 (kf ds S') Qf → Fin H') :
    ∃ W : Nat → Nat → Hp → Prop, (∃ m, W 0 m (upd H1 D (.lst []))) ∧ ∀ i m H, W i m H →
      (J.stop i H ∧ Fin H) ∨ (J.go i H ∧ ∃ Nx : Hp → Prop, (∀ H', Nx H' → ∃ m', m' < m ∧ W (i + 1) m' H') ∧ ∀ x H', J.yld i H x H' → t x (wipe σ vs) H' fun σ2 H2 => wipe σ2 vs = wipe σ vs ∧ tMT G W0 cm σ2 H2 fun b H3 =>
        if b = true then tM G W0 em σ2 H3 fun y H4 => ∃ acc, H4 D = some (.lst acc) ∧ acc.length < sizeLine ∧ Nx (upd H4 D (.lst (acc ++ [y]))) else Nx H3) := by
  let Inw : Nat → Hp → Prop := fun i H' => ∃ A' S' ds ws, StR G A' S' H' ∧ ExtB D A1 H1 A' H' ∧ H' D = some (.lst ws) ∧ RDs G A' H' ds ws ∧ ws.length ≤ i ∧ i ≤ ts.length ∧
    Po G E A1 H1 ((lcL g cm em (wipeE ρ vs) (ts.drop i) S').bind fun es S'' => kf (ds ++ es) S'') Qf
  refine ⟨fun i m H' => m = ts.length - i ∧ Inw i H', ⟨_, rfl, A1.hide D, S1, [], [], hs.hide hD, .start, upd_same, .nil, Nat.le_refl _, Nat.zero_le _, ?_⟩, fun i m H' hW => ?_⟩
  · simpa using p
  · obtain ⟨hm, A', S', ds, ws, s', x', hDw, rds, hwl, hi, q⟩ := hW
    by_cases hlt : i < ts.length
    · refine .inr ⟨wk.go i A' H' hlt (.ofB x' hD), Inw (i + 1), fun H2 hN => ⟨ts.length - (i + 1), by omega, rfl, hN⟩, fun x H2 hy => ?_⟩
      obtain ⟨d, ed, xy, sy, rv⟩ := wk.yld i A' H' S' x H2 hlt (.ofB x' hD) s' hy
      have hd : ts.drop i = d :: ts.drop (i + 1) := by
        rw [List.drop_eq_getElem_cons hlt]
        rw [List.getElem?_eq_getElem hlt] at ed
        cases ed
        rfl
      rw [hd] at q
      unfold lcL at q
      cases eg : g (.d d) (wipeE ρ vs) with
      | none => rw [eg] at q; exact q.elim
      | some ρ1 =>
        rw [eg] at q
        have x2 := x'.step xy s'
        have hw : EnvR G A' H2 (wipeE ρ vs) (wipe σ vs) := (he.kp (Ext.ofB x2 hD).kp).wipe vs
        refine hgs A' S' _ ρ1 (wipe σ vs) H2 (.d d) x _ hw sy rv eg fun σ2 he2 hk2 hl2 => ?_
        refine ⟨?_, ?_⟩
        · have z := wipe_same (σ := wipe σ vs) (σ' := σ2) hL hk2 hl2
          rw [z]
          apply List.ext_getElem?
          intro j
          by_cases hj : j ∈ vs
          · have key : ∀ (τ : L2.St) (us : List Nat), j ∈ us → j < τ.length → (L2.wipe τ us)[j]? = some none := by
              intro τ us
              induction us with
              | nil => intro h; cases h
              | cons w us ih =>
                intro h hlt
                show ((L2.wipe τ us).set w none)[j]? = some none
                by_cases e : w = j
                · subst e
                  rw [List.getElem?_set_self (by rw [wipe_length]; exact hlt)]
                · rw [List.getElem?_set_ne e]
                  exact ih (by rcases List.mem_cons.mp h with z | z; exact absurd z.symm e; exact z) hlt
            by_cases hl : j < σ.length
            · rw [key σ vs hj hl, key (L2.wipe σ vs) vs hj (by rw [wipe_length]; exact hl)]
            · rw [List.getElem?_eq_none (by rw [wipe_length, wipe_length]; omega), List.getElem?_eq_none (by rw [wipe_length]; omega)]
          · rw [wipe_out hj]
        · have hDH2 : H2 D = some (.lst ws) := (hid_keep s' x'.inH xy).trans hDw
          have rds2 := rds.kp xy.kp
          -- the test
          refine ⟨A', ρ1, S', he2, sy, ?_⟩
          simp only [bz] at q
          cases ec : cm ρ1 S' with
          | bad => rw [ec] at q; exact q.elim
          | er c0 t0 S0 => rw [ec] at q; exact q.elim
          | ok k S2 =>
            rw [ec] at q
            simp only [nox_ok, bind_ok] at q
            intro A3 H3 x3 s3
            have xb3 := x2.step x3 sy
            have hD3 : H3 D = some (.lst ws) := (hid_keep sy x2.inH x3).trans hDH2
            cases k with
            | false =>
              simp only [Bool.false_eq_true, if_false] at q ⊢
              exact ⟨A3, S2, ds, ws, s3, xb3, hD3, rds2.kp x3.kp, by omega, by omega, q⟩
            | true =>
              simp only [if_true] at q ⊢
              refine ⟨A3, ρ1, S2, he2.kp x3.kp, s3, ?_⟩
              cases ee : em ρ1 S2 with
              | bad => rw [ee] at q; exact q.elim
              | er c0 t0 S0 => rw [ee] at q; exact q.elim
              | ok dv S4 =>
                rw [ee] at q
                simp only [nox_ok, bind_ok] at q
                intro A4 H4 x4 s4 y ry
                have xb4 := xb3.step x4 s3
                have hD4 : H4 D = some (.lst ws) := (hid_keep s3 xb3.inH x4).trans hD3
                refine ⟨ws, hD4, Nat.lt_of_lt_of_le (show ws.length < 16777216 by omega) (line_of (Nat.le_refl _)), A4, S4, ds ++ [dv], ws ++ [y], s4.poke xb4.inH, xb4.poke, upd_same, ?_, by simp; omega, by omega, ?_⟩
                · exact (((rds2.kp x3.kp).kp x4.kp).append (.cons ry .nil)).kp (kp_poke xb4.inH)
                · have e1 : ((lcL g cm em (wipeE ρ vs) (ts.drop (i + 1)) S4).bind fun es S'' => kf (ds ++ [dv] ++ es) S'') = (((lcL g cm em (wipeE ρ vs) (ts.drop (i + 1)) S4).bind fun ds S3 => .ok (dv :: ds) S3).bind fun es S'' => kf (ds ++ es) S'') := by
                    cases lcL g cm em (wipeE ρ vs) (ts.drop (i + 1)) S4 with
                    | ok a b => simp
                    | er c0 t0 S0 => rfl
                    | bad => rfl
                  rw [e1]
                  exact q
    · have hz : i = ts.length := by omega
      subst hz
      rw [List.drop_length] at q
      simp only [lcL, bind_ok, List.append_nil] at q
      exact .inl ⟨wk.stop A' H' (.ofB x' hD), hfin ds ws S' A' H' s' x' hDw rds q⟩
theorem bind_assoc {α β γ : Type} (r : Rz α) (f : α → Sto → Rz β) (h : β → Sto → Rz γ) : (r.bind f).bind h = r.bind fun a S => (f a S).bind h := by
  cases r <;> rfl
theorem adopt_all {A : Al} {D : Addr} (hD : D ∈ A.hid) {a : Addr} : a ∈ ((A.show_ D).push [D]).all → a ∈ A.all := by
  intro h
  rcases push_all.mp h with z | z
  · exact show_all z
  · simp at z
    subst z
    exact List.mem_append_right _ hD
theorem adopt_kp {A : Al} {D : Addr} {H : Hp} (hD : D ∈ A.hid) : Kp A H ((A.show_ D).push [D]) H := ⟨Kq.same fun a n z => n (adopt_all hD z), fun i l e => .inl (push_old e)⟩
theorem adopt {A : Al} {S : Sto} {H : Hp} {D : Addr} {b : Bo} (s : StR G A S H) (hD : D ∈ A.hid) (hb : RB G ((A.show_ D).push [D]) H [D] b) : StR G ((A.show_ D).push [D]) (S ++ [b]) H := by
  refine ⟨by simp [Al.push, Al.show_, s.len], push_nd (s.show_ (D := D)).nd (by simp) fun c hc => ?_, fun c hc => s.alive c (adopt_all hD hc), (fun i k o e1 e2 => ?_), s.tabs.out fun a n z => n (adopt_all hD z)⟩
  · simp at hc
    rw [hc]
    exact show_out s hD
  · rcases push_at e1 with z | ⟨z, rfl⟩
    · have hi : i < S.length := by
        rw [← s.len]
        exact (List.getElem?_eq_some_iff.mp z).1
      rw [List.getElem?_append_left hi] at e2
      exact (s.box i k o z e2).keep (adopt_kp hD) fun _ _ => rfl
    · subst z
      have e3 : (A.show_ D).live.length = S.length := s.len
      rw [e3, List.getElem?_append_right (Nat.le_refl _)] at e2
      simp at e2
      subst e2
      exact hb
theorem adopt_ext {A A1 : Al} {H H1 : Hp} {D : Addr} (x : ExtB D A H A1 H1) (h : H D = none) : Ext A H ((A1.show_ D).push [D]) H1 := by
  have y := x.done h
  refine ⟨fun i l e => ?_, y.hid, fun a u e n => ⟨(y.keep a u e n).1, fun z => ?_⟩, y.keepH⟩
  · rcases y.live i l e with z | z
    · exact .inl (push_old z)
    · exact .inr (push_old z)
  · unfold Al.push at z
    simp only [List.flatten_append, List.mem_append, List.flatten_cons, List.flatten_nil, List.append_nil] at z
    rcases z with z | z
    · exact (y.keep a u e n).2 z
    · simp at z
      exact ne_of_none e h z
theorem adopt_loc {A : Al} {S : Sto} {H : Hp} {D : Addr} (s : StR G A S H) : RD G ((A.show_ D).push [D]) H (.loc S.length) (.ref D) := by
  refine ⟨[D], ?_, fun b q z => by
    injection z with z1 z2
    rw [z1]⟩
  unfold Al.push Al.show_
  simp only
  rw [← s.len, List.getElem?_append_right (Nat.le_refl _)]
  simp
theorem lst_end {A A1 : Al} {S : Sto} {H H1 : Hp} {D : Addr} {ds : List Dv} {ws : List V} {E : XK} {Q : VK} (s : StR G A S H) (x : ExtB D A1 H1 A H) (h : H1 D = none) (hw : H D = some (.lst ws)) (r : RDs G A H ds ws) (p : Po G E A1 H1 (lift (pLst ds S)) (kD G Q)) : Q (.ref D) H := by
  unfold pLst at p
  cases ep : pures ds with
  | none => rw [ep] at p; exact p.elim
  | some ts =>
    rw [ep] at p
    by_cases hl : ts.length ≤ 16777216
    · simp only [hl, if_true] at p
      exact Po.at p (x.done h) s.show_ _ ⟨D, ws, rfl, ⟨hw, show_out s x.inH⟩, (pures_rvs ep r).kp kp_show⟩
    · simp only [hl, if_false] at p
      exact p.elim
theorem lstB_end {A A1 : Al} {S : Sto} {H H1 : Hp} {D : Addr} {ds : List Dv} {ws : List V} {E : XK} {Q : VK} (s : StR G A S H) (x : ExtB D A1 H1 A H) (h : H1 D = none) (hw : H D = some (.lst ws)) (r : RDs G A H ds ws) (p : Po G E A1 H1 (lift (pLstB ds S)) (kD G Q)) : Q (.ref D) H := by
  unfold pLstB at p
  by_cases hl : ds.length ≤ 16777216
  · simp only [hl, if_true] at p
    exact Po.at p (adopt_ext x h) (adopt s x.inH ⟨D, ws, rfl, hw, r.kp (adopt_kp x.inH)⟩) _ (adopt_loc s)
  · simp only [hl, if_false] at p
    exact p.elim
def LEnd (G : Gs) (pe : PN) : Prop := ∀ {A A1 : Al} {S : Sto} {H H1 : Hp} {D : Addr} {ds : List Dv} {ws : List V} {E : XK} {Q : VK}, StR G A S H → ExtB D A1 H1 A H → H1 D = none → H D = some (.lst ws) → RDs G A H ds ws → Po G E A1 H1 (lift (pe ds S)) (kD G Q) → Q (.ref D) H
theorem lEnd : LEnd G pLst := fun s x h hw r p => lst_end s x h hw r p
theorem lEndB : LEnd G pLstB := fun s x h hw r p => lstB_end s x h hw r p
theorem lc_read {wi : TI} {pe : PN} {vs : List Nat} (hpe : LEnd G pe) (hw : ∀ (σ : L2.St) (H : Hp) (A : Al) (ρ : Env) (S : Sto) (R : It → Hp → Prop), EnvR G A H ρ σ → StR G A S H → Po G (Wa W σ) A H (it ρ S) (fun A' H' ts => ∀ J, Wk G J A' H' ts → R J H') → wi σ H R)
    (hgs : TgS G t g L) (hL : ∀ i ∈ L, i ∈ vs) (σ : L2.St) (H : Hp) (Q : VK) (h : tM G W (mN pe (mLcI vs it g cm em)) σ H Q) : tLc wi t (tMT G W0 cm) (tM G W0 em) vs σ H Q := by
  obtain ⟨A, ρ, S, he, hs, p⟩ := h
  refine hw σ H A ρ S _ he hs ?_
  unfold mN mLcI at p
  rw [bind_assoc] at p
  refine Po.step p fun ts S1 A1 H1 x1 s1 p1 J wk D hD => ?_
  by_cases hl : ts.length ≤ 16777216
  · simp only [hl, if_true] at p1
    exact lc_loop (Fin := fun H => Q (.ref D) H) hgs hL wk (he.kp x1.kp) s1 hD hl p1 fun ds ws S' A' H' s' x' hDw r q => hpe s' x' hD hDw r q
  · simp only [hl, if_false] at p1
    exact p1.elim
theorem e_lc' {pe : PN} (hpe : LEnd G pe) (B : Bx X G W kk) (hi : PIS X G W tg iter it) (ok : BlkOk X.N X.env.scope scope own) (hg : ∀ (s : Shared) (H : Hp) (C : Addr) (cl : List (Str × Addr)) (fp : List Addr), PG (X.blk s H scope (compEnvC scope cl C X.env) fp) tg t) (hgs : TgS G t g L) (hL : ∀ i ∈ L, i ∈ own.map (·.2))
    (ht : ∀ (s : Shared) (H : Hp) (C : Addr) (cl : List (Str × Addr)) (fp : List Addr), PTs (X.blk s H scope (compEnvC scope cl C X.env) fp) ifs (tMT G W0 cm)) (he : ∀ (s : Shared) (H : Hp) (C : Addr) (cl : List (Str × Addr)) (fp : List Addr), PE (X.blk s H scope (compEnvC scope cl C X.env) fp) elt (tM G W0 em))
    (hs : ∀ x, foldedSetIterable iter X.env x = pure x) : PE X (.ListComp elt [⟨tg, iter, ifs, 0⟩] scope pos) (tM G W (mN pe (mLcI (own.map (·.2)) it g cm em))) := by
  obtain ⟨wi, pi, hw⟩ := hi
  exact (pe_lc B.calm B.nd pi ok hg ht he hs).sm fun σ H Q h => lc_read hpe hw hgs hL σ H Q h
theorem s_setLc {pe : PN} {i : Nat} {y : Str} {py spos : Pos} (hpe : LEnd G pe) (B : Bx X G W kk) (hy : X.N[i]? = some y) (hyl : X.env.scope.names.lookup y = some .local) (hsw : swapsWith (.ListComp elt [⟨tg, iter, ifs, 0⟩] scope pos) (some (.Name y py)) spos.line X.env = pure true)
    (hi : PIS X G W tg iter it) (ok : BlkOk X.N X.env.scope scope own) (hg : ∀ (s : Shared) (H : Hp) (C : Addr) (cl : List (Str × Addr)) (fp : List Addr), PG (X.blk s H scope (compEnvC scope cl C X.env) fp) tg t) (hgs : TgS G t g L) (hL : ∀ i ∈ L, i ∈ own.map (·.2))
    (ht : ∀ (s : Shared) (H : Hp) (C : Addr) (cl : List (Str × Addr)) (fp : List Addr), PTs (X.blk s H scope (compEnvC scope cl C X.env) fp) ifs (tMT G W0 cm)) (he : ∀ (s : Shared) (H : Hp) (C : Addr) (cl : List (Str × Addr)) (fp : List Addr), PE (X.blk s H scope (compEnvC scope cl C X.env) fp) elt (tM G W0 em))
    (hs : ∀ x, foldedSetIterable iter X.env x = pure x) : PS X (.Assign [.Name y py] (.ListComp elt [⟨tg, iter, ifs, 0⟩] scope pos) spos) (tMS G W (sSet i (mN pe (mLcI (own.map (·.2)) it g cm em)))) := by
  obtain ⟨wi, pi, hw⟩ := hi
  refine (ps_setLc (i := i) B.calm B.nd hy hyl hsw pi ok hg ht he hs).sm fun D σ H h => ?_
  obtain ⟨A, ρ, S, he', hs', p⟩ := h
  refine lc_read (W := W) hpe hw hgs hL σ H _ ⟨A, ρ, S, he', hs', PoS.step he' p fun d S1 A1 H1 x s e q v rv => PoS.nx_now q s (e.set rv)⟩
def kOf (d : Dv) : Option Key := match d with
  | .d (.int i) => some (.inl i)
  | .d (.str s) => some (.inr s)
  | _ => none
theorem kOf_rd {A : Al} {H : Hp} {d : Dv} {k : Key} {v : V} (h : kOf d = some k) (r : RD G A H d v) : v = kV k := by
  cases d with
  | loc n => cases h
  | d t =>
    cases t with
    | int i =>
      cases h
      exact r
    | str s =>
      cases h
      exact r
    | _ => cases h
end
end Sm
namespace Sm
open PySem PySem.Spec PyProof.Rows L2
def hasK (ks : List Key) (j : Key) : Bool := ks.any fun k => decide (k = j)
def dputX {α : Type} (ks : List Key) (xs : List α) (j : Key) (y : α) : List α := if hasK ks j = true then List.zipWith (fun k x => if k = j then y else x) ks xs else xs ++ [y]
def dputK (ks : List Key) (j : Key) : List Key := if hasK ks j = true then ks else ks ++ [j]
def dlook {α : Type} : List Key → List α → Key → Option α
  | k :: ks, x :: xs, j => if k = j then some x else dlook ks xs j
  | _, _, _ => none
section
variable {G : Gs} {A : Al} {H : Hp}
theorem any_key {kvs : List (Key × V)} {j : Key} : (kvs.any fun kv => decide (kv.1 = j)) = hasK (kvs.map (·.1)) j := by
  unfold hasK
  rw [List.any_map]
  rfl
theorem dput_keys {kvs : List (Key × V)} {j : Key} {y : V} : (putK kvs j y).map (·.1) = dputK (kvs.map (·.1)) j := by
  unfold putK dputK
  rw [any_key]
  by_cases h : hasK (kvs.map (·.1)) j = true
  · rw [if_pos h, if_pos h, List.map_map]
    apply List.map_congr_left
    intro kv _
    simp only [Function.comp]
    split <;> rfl
  · rw [if_neg h, if_neg h]
    simp
theorem dput_rds {kvs : List (Key × V)} {j : Key} {y : V} {xs : List Dv} {d : Dv} (h : RDs G A H xs (kvs.map (·.2))) (r : RD G A H d y) : RDs G A H (dputX (kvs.map (·.1)) xs j d) ((putK kvs j y).map (·.2)) := by
  unfold putK dputX
  rw [any_key]
  by_cases hj : hasK (kvs.map (·.1)) j = true
  · rw [if_pos hj, if_pos hj]
    clear hj
    induction kvs generalizing xs with
    | nil =>
      cases h
      exact .nil
    | cons kv kvs ih =>
      cases h with
      | cons q t =>
        refine .cons ?_ (ih t)
        by_cases e : kv.1 = j
        · simp only [e, if_true]
          exact r
        · simp only [e, if_false]
          exact q
  · rw [if_neg hj, if_neg hj]
    rw [List.map_append]
    exact h.append (.cons r .nil)
theorem dlook_val {kvs : List (Key × V)} {j : Key} : ∀ {xs : List Dv}, RDs G A H xs (kvs.map (·.2)) → (∀ d, dlook (kvs.map (·.1)) xs j = some d → ∃ v, valV kvs j = some v ∧ RD G A H d v) ∧ (dlook (kvs.map (·.1)) xs j = none → valV kvs j = none) := by
  induction kvs with
  | nil =>
    intro xs h
    cases h
    exact ⟨fun d e => by simp [dlook] at e, fun _ => rfl⟩
  | cons kv kvs ih =>
    intro xs h
    cases h with
    | cons q t =>
      rename_i x xs
      by_cases e : kv.1 = j
      · rw [valV_pos e]
        simp only [List.map_cons, dlook, e, if_true]
        refine ⟨fun d ed => ?_, fun z => by cases z⟩
        cases ed
        exact ⟨_, rfl, q⟩
      · rw [valV_neg e]
        simp only [List.map_cons, dlook, e, if_false]
        exact ih t
end
def dcL (g : GM) (c : M Bool) (ek ev : M Dv) (ρ : Env) : List Dt → List Key → List Dv → Sto → Rz (List Key × List Dv)
  | [], ks, xs, S => .ok (ks, xs) S
  | t :: ts, ks, xs, S => bz (g (.d t) ρ) fun ρ1 => (nox (c ρ1 S)).bind fun b S1 => if b = true then (nox (ek ρ1 S1)).bind fun kd S2 => (nox (ev ρ1 S2)).bind fun d S3 => bz (kOf kd) fun k => dcL g c ek ev ρ ts (dputK ks k) (dputX ks xs k d) S3
    else dcL g c ek ev ρ ts ks xs S1
def pDct (ks : List Key) (ds : List Dv) (S : Sto) : Rz Dv := match pures ds with
  | some ts => .ok (.d (.dct ks ts)) S
  | none => .bad
abbrev PD := List Key → List Dv → Sto → Rz Dv
def mDc (pe : PD) (vs : List Nat) (it : M (List Dt)) (g : GM) (c : M Bool) (ek ev : M Dv) : M Dv := fun ρ S => (it ρ S).bind fun ts S1 => if ts.length ≤ 16777216 then (dcL g c ek ev (wipeE ρ vs) ts [] [] S1).bind fun q S2 => pe q.1 q.2 S2 else .bad
section
variable {X : Cx} {G : Gs} {W : WX} {kk : Nat} {kx vx tg iter : Expr} {ifs : List Expr} {scope : Scope} {own : List (Str × Nat)} {pos : Pos} {it : M (List Dt)} {g : GM} {t : TG} {L : List Nat} {cm : M Bool} {ek ev : M Dv}
theorem wipe_wipe (σ : L2.St) (vs : List Nat) : L2.wipe (L2.wipe σ vs) vs = L2.wipe σ vs := by
  apply List.ext_getElem?
  intro j
  by_cases hj : j ∈ vs
  · have key : ∀ (τ : L2.St) (us : List Nat), j ∈ us → j < τ.length → (L2.wipe τ us)[j]? = some none := by
      intro τ us
      induction us with
      | nil => intro h; cases h
      | cons w us ih =>
        intro h hlt
        show ((L2.wipe τ us).set w none)[j]? = some none
        by_cases e : w = j
        · subst e
          rw [List.getElem?_set_self (by rw [wipe_length]; exact hlt)]
        · rw [List.getElem?_set_ne e]
          exact ih (by rcases List.mem_cons.mp h with z | z; exact absurd z.symm e; exact z) hlt
    by_cases hl : j < σ.length
    · rw [key σ vs hj hl, key (L2.wipe σ vs) vs hj (by rw [wipe_length]; exact hl)]
    · rw [List.getElem?_eq_none (by rw [wipe_length, wipe_length]; omega), List.getElem?_eq_none (by rw [wipe_length]; omega)]
  · rw [wipe_out hj]
theorem dc_loop {σ : L2.St} {H1 : Hp} {A1 : Al} {ρ : Env} {S1 : Sto} {ts : List Dt} {J : It} {D : Addr} {E : XK} {vs : List Nat} {Fin : Hp → Prop} (hgs : TgS G t g L) (hL : ∀ i ∈ L, i ∈ vs) (wk : Wk G J A1 H1 ts) (he : EnvR G A1 H1 ρ σ) (hs : StR G A1 S1 H1) (hD : H1 D = none) (hlen : ts.length ≤ 16777216)
    {pe : PD} {Qf : Al → Hp → Dv → Prop}
    (p : Po G E A1 H1 ((dcL g cm ek ev (wipeE ρ vs) ts [] [] S1).bind fun q S2 => pe q.1 q.2 S2) Qf)
    (hfin : ∀ ds kvs S' A' H', StR G A' S' H' → ExtB D A1 H1 A' H' → H' D = some (.dK kvs) → RDs G A' H' ds (kvs.map (·.2)) → Po G E A1 H1 (pe (kvs.map (·.1)) ds S') Qf → Fin H') :
    ∃ W : Nat → Nat → Hp → Prop, (∃ m, W 0 m (upd H1 D (.dK []))) ∧ ∀ i m H, W i m H →
      (J.stop i H ∧ Fin H) ∨ (J.go i H ∧ ∃ Nx : Hp → Prop, (∀ H', Nx H' → ∃ m', m' < m ∧ W (i + 1) m' H') ∧ ∀ x H', J.yld i H x H' → t x (wipe σ vs) H' fun σ2 H2 => wipe σ2 vs = wipe σ vs ∧ tMT G W0 cm σ2 H2 fun b H3 =>
        if b = true then tM G W0 ek σ2 H3 fun y H4 => tM G W0 ev σ2 H4 fun z H5 => ∃ kvs k, y = kV k ∧ H5 D = some (.dK kvs) ∧ kvs.length < sizeLine ∧ Nx (upd H5 D (.dK (putK kvs k z))) else Nx H3) := by
  let Inw : Nat → Hp → Prop := fun i H' => ∃ A' S' ds kvs, StR G A' S' H' ∧ ExtB D A1 H1 A' H' ∧ H' D = some (.dK kvs) ∧ RDs G A' H' ds (kvs.map (·.2)) ∧ kvs.length ≤ i ∧ i ≤ ts.length ∧
    Po G E A1 H1 ((dcL g cm ek ev (wipeE ρ vs) (ts.drop i) (kvs.map (·.1)) ds S').bind fun q S2 => pe q.1 q.2 S2) Qf
  refine ⟨fun i m H' => m = ts.length - i ∧ Inw i H', ⟨_, rfl, A1.hide D, S1, [], [], hs.hide hD, .start, upd_same, .nil, Nat.le_refl _, Nat.zero_le _, p⟩, fun i m H' hW => ?_⟩
  obtain ⟨hm, A', S', ds, kvs, s', x', hDw, rds, hwl, hi, q⟩ := hW
  by_cases hlt : i < ts.length
  · refine .inr ⟨wk.go i A' H' hlt (.ofB x' hD), Inw (i + 1), fun H2 hN => ⟨ts.length - (i + 1), by omega, rfl, hN⟩, fun x H2 hy => ?_⟩
    obtain ⟨d, ed, xy, sy, rv⟩ := wk.yld i A' H' S' x H2 hlt (.ofB x' hD) s' hy
    have hd : ts.drop i = d :: ts.drop (i + 1) := by
      rw [List.drop_eq_getElem_cons hlt]
      rw [List.getElem?_eq_getElem hlt] at ed
      cases ed
      rfl
    rw [hd] at q
    unfold dcL at q
    cases eg : g (.d d) (wipeE ρ vs) with
    | none => rw [eg] at q; exact q.elim
    | some ρ1 =>
      rw [eg] at q
      have x2 := x'.step xy s'
      have hw : EnvR G A' H2 (wipeE ρ vs) (wipe σ vs) := (he.kp (Ext.ofB x2 hD).kp).wipe vs
      refine hgs A' S' _ ρ1 (wipe σ vs) H2 (.d d) x _ hw sy rv eg fun σ2 he2 hk2 hl2 => ?_
      refine ⟨by rw [wipe_same (σ := wipe σ vs) (σ' := σ2) hL hk2 hl2, wipe_wipe], ?_⟩
      have hDH2 : H2 D = some (.dK kvs) := (hid_keep s' x'.inH xy).trans hDw
      have rds2 := rds.kp xy.kp
      refine ⟨A', ρ1, S', he2, sy, ?_⟩
      simp only [bz] at q
      cases ec : cm ρ1 S' with
      | bad => rw [ec] at q; exact q.elim
      | er c0 t0 S0 => rw [ec] at q; exact q.elim
      | ok k S2 =>
        rw [ec] at q
        simp only [nox_ok, bind_ok] at q
        intro A3 H3 x3 s3
        have xb3 := x2.step x3 sy
        have hD3 : H3 D = some (.dK kvs) := (hid_keep sy x2.inH x3).trans hDH2
        cases k with
        | false =>
          simp only [Bool.false_eq_true, if_false] at q ⊢
          exact ⟨A3, S2, ds, kvs, s3, xb3, hD3, rds2.kp x3.kp, by omega, by omega, q⟩
        | true =>
          simp only [if_true] at q ⊢
          refine ⟨A3, ρ1, S2, he2.kp x3.kp, s3, ?_⟩
          cases ee : ek ρ1 S2 with
          | bad => rw [ee] at q; exact q.elim
          | er c0 t0 S0 => rw [ee] at q; exact q.elim
          | ok kd S4 =>
            rw [ee] at q
            simp only [nox_ok, bind_ok] at q
            intro A4 H4 x4 s4 y ry
            have xb4 := xb3.step x4 s3
            have hD4 : H4 D = some (.dK kvs) := (hid_keep s3 xb3.inH x4).trans hD3
            refine ⟨A4, ρ1, S4, (he2.kp x3.kp).kp x4.kp, s4, ?_⟩
            cases ev' : ev ρ1 S4 with
            | bad => rw [ev'] at q; exact q.elim
            | er c0 t0 S0 => rw [ev'] at q; exact q.elim
            | ok dv S5 =>
              rw [ev'] at q
              simp only [nox_ok, bind_ok] at q
              intro A5 H5 x5 s5 z rz
              have xb5 := xb4.step x5 s4
              have hD5 : H5 D = some (.dK kvs) := (hid_keep s4 xb4.inH x5).trans hD4
              cases ek' : kOf kd with
              | none => rw [ek'] at q; exact q.elim
              | some k =>
                rw [ek'] at q
                have rds5 := (((rds2.kp x3.kp).kp x4.kp).kp x5.kp)
                refine ⟨kvs, k, kOf_rd ek' ry, hD5, Nat.lt_of_lt_of_le (show kvs.length < 16777216 by omega) (line_of (Nat.le_refl _)), A5, S5, _, putK kvs k z, s5.poke xb5.inH, xb5.poke, upd_same, (dput_rds rds5 rz).kp (kp_poke xb5.inH), ?_, by omega, ?_⟩
                · have := length_putK kvs k z
                  omega
                · rw [dput_keys]
                  exact q
  · have hz : i = ts.length := by omega
    subst hz
    rw [List.drop_length] at q
    exact .inl ⟨wk.stop A' H' (.ofB x' hD), hfin ds kvs S' A' H' s' x' hDw rds q⟩
def DEnd (G : Gs) (pe : PD) : Prop := ∀ {A A1 : Al} {S : Sto} {H H1 : Hp} {D : Addr} {ds : List Dv} {kvs : List (Key × V)} {E : XK} {Q : VK}, StR G A S H → ExtB D A1 H1 A H → H1 D = none → H D = some (.dK kvs) → RDs G A H ds (kvs.map (·.2)) → Po G E A1 H1 (pe (kvs.map (·.1)) ds S) (kD G Q) → Q (.ref D) H
theorem dEnd : DEnd G pDct := fun {A A1 S H H1 D ds kvs E Q} s x h hw r p => by
  unfold pDct at p
  cases ep : pures ds with
  | none => rw [ep] at p; exact p.elim
  | some ts =>
    rw [ep] at p
    exact Po.at p (x.done h) s.show_ _ ⟨D, kvs, rfl, show_out s x.inH, .inl hw, rfl, (pures_rvs ep r).kp kp_show⟩
theorem e_dc {pe : PD} (hpe : DEnd G pe) (B : Bx X G W kk) (hi : PIS X G W tg iter it) (ok : BlkOk X.N X.env.scope scope own) (hg : ∀ (s : Shared) (H : Hp) (C : Addr) (cl : List (Str × Addr)) (fp : List Addr), PG (X.blk s H scope (compEnvC scope cl C X.env) fp) tg t) (hgs : TgS G t g L) (hL : ∀ i ∈ L, i ∈ own.map (·.2))
    (ht : ∀ (s : Shared) (H : Hp) (C : Addr) (cl : List (Str × Addr)) (fp : List Addr), PTs (X.blk s H scope (compEnvC scope cl C X.env) fp) ifs (tMT G W0 cm)) (hk : ∀ (s : Shared) (H : Hp) (C : Addr) (cl : List (Str × Addr)) (fp : List Addr), PE (X.blk s H scope (compEnvC scope cl C X.env) fp) kx (tM G W0 ek))
    (he : ∀ (s : Shared) (H : Hp) (C : Addr) (cl : List (Str × Addr)) (fp : List Addr), PE (X.blk s H scope (compEnvC scope cl C X.env) fp) vx (tM G W0 ev))
    (hs : ∀ x, foldedSetIterable iter X.env x = pure x) : PE X (.DictComp kx vx [⟨tg, iter, ifs, 0⟩] scope pos) (tM G W (mDc pe (own.map (·.2)) it g cm ek ev)) := by
  obtain ⟨wi, pi, hw⟩ := hi
  refine (pe_dc B.calm B.nd pi ok hg ht hk he hs).sm fun σ H Q h => ?_
  obtain ⟨A, ρ, S, he, hs, p⟩ := h
  refine hw σ H A ρ S _ he hs ?_
  unfold mDc at p
  refine Po.step p fun ts S1 A1 H1 x1 s1 p1 J wk D hD => ?_
  by_cases hl : ts.length ≤ 16777216
  · simp only [hl, if_true] at p1
    exact dc_loop (Fin := fun H => Q (.ref D) H) hgs hL wk (he.kp x1.kp) s1 hD hl p1 fun ds kvs S' A' H' s' x' hDw r q => hpe s' x' hD hDw r q
  · simp only [hl, if_false] at p1
    exact p1.elim
end
def iSq (K : PySem.W.Frag) (tl : TE) : TI := fun σ H R => tl σ H fun x H1 => ∃ a, x = .ref a ∧ (((∃ xs, SqL K H1 a xs) ∧ R (Itl K a) H1) ∨ ((∃ xs, SqT K H1 a xs) ∧ R (Itt K a) H1))
theorem pi_sq {X : Cx} {tg l : Expr} {tl : TE} (hl : PE X l tl) : PI X tg l (iSq X.K tl) := by
  refine ⟨fun pins s σ H R I h => ?_⟩
  refine thn (hl.run pins s σ H _ I h) fun v s1 ⟨x, H1, I1, r1, q1⟩ => ?_
  obtain ⟨a, e, q⟩ := q1
  subst e
  cases r1
  rcases q with ⟨⟨xs, hq⟩, q⟩ | ⟨⟨xs, hq⟩, q⟩
  · obtain ⟨its, rv, p, hz⟩ := I1.list hq
    refine wpAny_pyIter_list p.isList ?_
    refine ⟨s1.heap.objs.size, [s1.heap.objs.size], _, _, H1, rfl, I1.kept (t' := s1.toks) fun b o e => Heap.get?_push_of_some _ e, turn_list a _, ⟨_, Heap.get?_push_size _ rfl, rfl, rfl⟩, fun b hb => ?_, q⟩
    have e : b = s1.heap.objs.size := by simpa using hb
    subst e
    exact I1.fpOk (Nat.le_refl _) (I1.hok.fresh (Nat.le_refl _))
  · obtain ⟨its, rv, p, hz⟩ := I1.tuple hq
    refine wpAny_pyIter_tuple (show s1.heap.IsTuple a its.toArray from p) ?_
    refine ⟨s1.heap.objs.size, [s1.heap.objs.size], _, _, H1, rfl, I1.kept (t' := s1.toks) fun b o e => Heap.get?_push_of_some _ e, turn_tuple a _, ⟨_, Heap.get?_push_size _ rfl, rfl, rfl⟩, fun b hb => ?_, q⟩
    have e : b = s1.heap.objs.size := by simpa using hb
    subst e
    exact I1.fpOk (Nat.le_refl _) (I1.hok.fresh (Nat.le_refl _))
def seqOf (d : Dv) : Option (List Dt) := match d with
  | .d (.tup ts) => some ts
  | .d (.lst ts) => some ts
  | .d (.scr ts) => some ts
  | .d (.ltp ts) => some ts
  | _ => none
def iSeq (m : M Dv) : M (List Dt) := fun ρ S => (m ρ S).bind fun d S1 => li (seqOf d) S1
section
variable {X : Cx} {G : Gs} {W : WX} {kk : Nat} {tg iter e : Expr} {m : M Dv}
theorem wk_list {A : Al} {H : Hp} {a : Addr} {vs : List V} {ts : List Dt} (h : ∀ A' H', Ext A H A' H' → SqL G.K H' a vs) (r : RVs G A H ts vs) : Wk G (Itl G.K a) A H ts := by
  refine ⟨fun i A' H' hi x => ?_, fun i A' H' S v H2 hi x s hy => ?_, fun A' H' x => ?_⟩
  · obtain ⟨v, ev, _⟩ := r.get (List.getElem?_eq_getElem hi)
    exact ⟨vs, v, h A' H' x, ev⟩
  · obtain ⟨rfl, hv⟩ := hy
    obtain ⟨t, et, rt⟩ := r.get' (hv vs (h A' H2 x))
    exact ⟨t, et, .refl, s, rt.kp x.kp⟩
  · exact ⟨vs, h A' H' x, by rw [r.length]; exact Nat.le_refl _⟩
theorem wk_tup {A : Al} {H : Hp} {a : Addr} {vs : List V} {ts : List Dt} (h : ∀ A' H', Ext A H A' H' → SqT G.K H' a vs) (r : RVs G A H ts vs) : Wk G (Itt G.K a) A H ts := by
  refine ⟨fun i A' H' hi x => ?_, fun i A' H' S v H2 hi x s hy => ?_, fun A' H' x => ?_⟩
  · obtain ⟨v, ev, _⟩ := r.get (List.getElem?_eq_getElem hi)
    exact ⟨vs, v, h A' H' x, ev⟩
  · obtain ⟨rfl, hv⟩ := hy
    obtain ⟨t, et, rt⟩ := r.get' (hv vs (h A' H2 x))
    exact ⟨t, et, .refl, s, rt.kp x.kp⟩
  · exact ⟨vs, h A' H' x, by rw [r.length]; exact Nat.le_refl _⟩
theorem li_po {α : Type} {E : XK} {A : Al} {H : Hp} {S : Sto} {o : Option α} {k : Al → Hp → α → Prop} (h : Po G E A H (li o S) k) (s : StR G A S H) : ∃ a, o = some a ∧ k A H a := by
  cases o with
  | none => exact h.elim
  | some a => exact ⟨a, rfl, Po.now h s⟩
theorem seq_wk {A : Al} {H : Hp} {d : Dv} {v : V} {ts : List Dt} (h : seqOf d = some ts) (r : RD G A H d v) : ∃ a, v = .ref a ∧ (((∃ xs, SqL G.K H a xs) ∧ Wk G (Itl G.K a) A H ts) ∨ ((∃ xs, SqT G.K H a xs) ∧ Wk G (Itt G.K a) A H ts)) := by
  cases d with
  | loc n => cases h
  | d t =>
    cases t with
    | tup xs =>
      cases h
      obtain ⟨a, vs, e, ht, hv⟩ := r
      exact ⟨a, e, .inr ⟨⟨vs, ht.sq⟩, wk_tup (fun A' H' x => (ht.kp x.kp.toKq).sq) hv⟩⟩
    | lst xs =>
      cases h
      obtain ⟨a, vs, e, ht, hv⟩ := r
      exact ⟨a, e, .inl ⟨⟨vs, ht.sq⟩, wk_list (fun A' H' x => (ht.kp x.kp.toKq).sq) hv⟩⟩
    | scr xs =>
      cases h
      obtain ⟨a, vs, e, ht, hv⟩ := r
      exact ⟨a, e, .inl ⟨⟨vs, ht.sq⟩, wk_list (fun A' H' x => (ht.kp x.kp.toKq).sq) hv⟩⟩
    | ltp xs =>
      cases h
      obtain ⟨a, vs, e, ht, hv⟩ := r
      exact ⟨a, e, .inr ⟨⟨vs, ht H⟩, wk_tup (fun A' H' x => ht H') hv⟩⟩
    | _ => cases h
theorem i_seq (hK : G.K = X.K) (he : PE X e (tM G W m)) : PIS X G W tg e (iSeq m) := by
  refine ⟨_, pi_sq he, fun σ H A ρ S R he hs p => ?_⟩
  refine ⟨A, ρ, S, he, hs, Po.step p fun d S1 A1 H1 x1 s1 p1 v rv => ?_⟩
  obtain ⟨ts, e1, k⟩ := li_po p1 s1
  obtain ⟨a, ev, h⟩ := seq_wk e1 rv
  rw [← hK]
  rcases h with ⟨h, w⟩ | ⟨h, w⟩
  · exact ⟨a, ev, .inl ⟨h, k _ w⟩⟩
  · exact ⟨a, ev, .inr ⟨h, k _ w⟩⟩
def rgOk (i j : Int) : Bool := decide (-(2 ^ 62) ≤ i ∧ i < 2 ^ 62 ∧ -(2 ^ 62) ≤ j ∧ j < 2 ^ 62)
def rgL (lo : Int) (n : Nat) : List Dt := (List.range n).map fun i => .int (lo + (i : Nat))
def rg1 (ds : List Dv) : Option (List Dt) := match ds with
  | [.d (.int j)] => if rgOk 0 j = true then some (rgL 0 j.toNat) else none
  | _ => none
def iRg (f : List Dv → Option (List Dt)) (ma : M (List Dv)) : M (List Dt) := fun ρ S => (ma ρ S).bind fun ds S1 => li (f ds) S1
theorem wk_range {A : Al} {H : Hp} {lo : Int} {n : Nat} : Wk G (Itr lo n) A H (rgL lo n) := by
  have hl : (rgL lo n).length = n := by simp [rgL]
  refine ⟨fun i A' H' hi x => by rw [hl] at hi; exact hi, fun i A' H' S v H2 hi x s hy => ?_, fun A' H' x => by rw [hl]; exact Nat.le_refl n⟩
  obtain ⟨rfl, rfl⟩ := hy
  rw [hl] at hi
  refine ⟨.int (lo + (i : Nat)), ?_, .refl, s, rfl⟩
  unfold rgL
  rw [List.getElem?_map, List.getElem?_range hi]
  rfl
theorem i_rg1 {a : Expr} {ma : M (List Dv)} {p pos : Pos} (hg : Gl X "range") (hm : X.mg "range" = none) (ha : PA X [a] (tMA G W ma)) (hs : starEach [a] X.env = [(false, eval a X.env)]) : PIS X G W tg (.Call (.Name "range" p) [a] [] pos) (iRg rg1 ma) := by
  refine ⟨_, pi_range1 hg hm ha hs, fun σ H A ρ S R he hs p => ?_⟩
  refine ⟨A, ρ, S, he, hs, Po.step p fun ds S1 A1 H1 x1 s1 p1 vs rv => ?_⟩
  obtain ⟨ts, e1, k⟩ := li_po p1 s1
  unfold rg1 at e1
  split at e1
  · rename_i j
    split at e1
    · rename_i hb
      cases e1
      cases rv with
      | cons r1 r2 =>
        cases r2
        have hb := of_decide_eq_true hb
        exact ⟨j, by rw [show _ = V.int j from r1], hb.2.2.1, hb.2.2.2, k _ wk_range⟩
    · cases e1
  · cases e1
def lstOf (d : Dv) : Option (List Dt) := match d with
  | .d (.lst ts) => some ts
  | .d (.scr ts) => some ts
  | _ => none
def enL (ts : List Dt) : List Dt := (List.range ts.length).filterMap fun i => (ts[i]?).map fun t => .tup [.int (i : Nat), t]
def en1 (ds : List Dv) : Option (List Dt) := match ds with
  | [d] => (lstOf d).map enL
  | _ => none
theorem range_fm {α : Type} (f : Nat → Option α) : ∀ n i : Nat, (∀ j, j < n → (f j).isSome = true) → i < n → ((List.range n).filterMap f)[i]? = f i := by
  intro n
  induction n with
  | zero => intro i _ hi; omega
  | succ n ih =>
    intro i hf hi
    rw [List.range_succ, List.filterMap_append]
    have hl : ((List.range n).filterMap f).length = n := by
      have : ∀ m, m ≤ n → ((List.range m).filterMap f).length = m := by
        intro m
        induction m with
        | zero => intro _; rfl
        | succ m ihm =>
          intro hm
          rw [List.range_succ, List.filterMap_append, List.length_append, ihm (by omega)]
          have hs := hf m (by omega)
          cases e : f m with
          | none => rw [e] at hs; cases hs
          | some y => simp [e]
      exact this n (Nat.le_refl n)
    by_cases h : i < n
    · rw [List.getElem?_append_left (by omega)]
      exact ih i (fun j hj => hf j (by omega)) h
    · have : i = n := by omega
      subst this
      rw [List.getElem?_append_right (by omega), hl]
      have hs := hf i (by omega)
      cases e : f i with
      | none => rw [e] at hs; cases hs
      | some y => simp [e]
theorem fm_length {α : Type} (f : Nat → Option α) : ∀ n : Nat, (∀ j, j < n → (f j).isSome = true) → ((List.range n).filterMap f).length = n := by
  intro n
  induction n with
  | zero => intro _; rfl
  | succ n ih =>
    intro hf
    rw [List.range_succ, List.filterMap_append, List.length_append, ih (fun j hj => hf j (by omega))]
    have hs := hf n (by omega)
    cases e : f n with
    | none => rw [e] at hs; cases hs
    | some y => simp [e]
theorem enL_get {ts : List Dt} {i : Nat} (h : i < ts.length) : (enL ts)[i]? = some (.tup [.int (i : Nat), ts[i]]) := by
  unfold enL
  rw [range_fm _ _ _ (fun j hj => by simp [List.getElem?_eq_getElem hj]) h]
  simp [List.getElem?_eq_getElem h]
theorem enL_length (ts : List Dt) : (enL ts).length = ts.length := by
  unfold enL
  rw [fm_length _ _ (fun j hj => by simp [List.getElem?_eq_getElem hj])]
theorem lst_at {A : Al} {H : Hp} {d : Dv} {v : V} {ts : List Dt} (h : lstOf d = some ts) (r : RD G A H d v) : ∃ a vs, v = .ref a ∧ (∀ A' H', Ext A H A' H' → SqL G.K H' a vs) ∧ RVs G A H ts vs := by
  cases d with
  | loc n => cases h
  | d t =>
    cases t with
    | lst xs =>
      cases h
      obtain ⟨a, vs, e, ht, hv⟩ := r
      exact ⟨a, vs, e, fun A' H' x => (ht.kp x.kp.toKq).sq, hv⟩
    | scr xs =>
      cases h
      obtain ⟨a, vs, e, ht, hv⟩ := r
      exact ⟨a, vs, e, fun A' H' x => (ht.kp x.kp.toKq).sq, hv⟩
    | _ => cases h
theorem tup_at {A : Al} {H : Hp} {t : Dt} {v : V} {ts : List Dt} (h : t = .tup ts) (r : RV G A H t v) : ∃ a vs, v = .ref a ∧ (∀ A' H', Ext A H A' H' → SqT G.K H' a vs) ∧ RVs G A H ts vs := by
  subst h
  obtain ⟨a, vs, e, ht, hv⟩ := r
  exact ⟨a, vs, e, fun A' H' x => (ht.kp x.kp.toKq).sq, hv⟩
theorem wk_enum {A : Al} {H : Hp} {a : Addr} {vs : List V} {ts : List Dt} (h : ∀ A' H', Ext A H A' H' → SqL G.K H' a vs) (r : RVs G A H ts vs) : Wk G (Ite G.K a) A H (enL ts) := by
  have hl := enL_length ts
  refine ⟨fun i A' H' hi x => ?_, fun i A' H' S v H2 hi x s hy => ?_, fun A' H' x => ?_⟩
  · rw [hl] at hi
    obtain ⟨v, ev, _⟩ := r.get (List.getElem?_eq_getElem hi)
    exact ⟨vs, v, h A' H' x, ev⟩
  · rw [hl] at hi
    obtain ⟨T, y, rfl, hT, rfl, hv⟩ := hy
    obtain ⟨t, et, rt⟩ := r.get' (hv vs (h A' H' x))
    rw [List.getElem?_eq_getElem hi] at et
    cases et
    exact ⟨_, enL_get hi, .new hT, s.new hT, RV.tup_new s hT ⟨_, _, rfl, rfl, _, _, rfl, rt.kp x.kp, rfl⟩⟩
  · exact ⟨vs, h A' H' x, by rw [hl, r.length]; exact Nat.le_refl _⟩
theorem i_enum {a : Expr} {ma : M (List Dv)} {p pos tpos : Pos} {elts : List Expr} {kk : Nat} (hK : G.K = X.K) (hg : Gl X "enumerate") (hm : X.mg "enumerate" = none) (ha : PA X [a] (tMA G W ma)) (hs : starEach [a] X.env = [(false, eval a X.env)]) : PIS X G W (.Tuple elts kk tpos) (.Call (.Name "enumerate" p) [a] [] pos) (iRg en1 ma) := by
  refine ⟨_, pi_enum hg hm ha hs, fun σ H A ρ S R he hs p => ?_⟩
  refine ⟨A, ρ, S, he, hs, Po.step p fun ds S1 A1 H1 x1 s1 p1 vs rv => ?_⟩
  obtain ⟨ts, e1, k⟩ := li_po p1 s1
  cases rv with
  | nil => cases e1
  | cons r1 r2 =>
    cases r2 with
    | cons => cases e1
    | nil =>
      rename_i d v
      unfold en1 at e1
      simp only at e1
      cases el : lstOf d with
      | none => rw [el] at e1; cases e1
      | some us =>
        rw [el] at e1
        cases e1
        obtain ⟨a, ws, rfl, hq, hv⟩ := lst_at el r1
        rw [← hK]
        exact ⟨a, ws, rfl, hq A1 H1 .refl, k _ (wk_enum hq hv)⟩
def zpL (xs ys : List Dt) : List Dt := (List.zip xs ys).map fun p => .tup [p.1, p.2]
def zp2 (ds : List Dv) : Option (List Dt) := match ds with
  | [.d (.tup xs), .d (.tup ys)] => some (zpL xs ys)
  | [d, e] => (match lstOf d, lstOf e with
    | some xs, some ys => some (zpL xs ys)
    | _, _ => none)
  | _ => none
theorem zpL_length (xs ys : List Dt) : (zpL xs ys).length = min xs.length ys.length := by simp [zpL]
theorem zpL_get {xs ys : List Dt} {i : Nat} {x y : Dt} (hx : xs[i]? = some x) (hy : ys[i]? = some y) : (zpL xs ys)[i]? = some (.tup [x, y]) := by
  unfold zpL
  rw [List.getElem?_map, List.zip, List.getElem?_zipWith, hx, hy]
  rfl
theorem wk_zipL {A : Al} {H : Hp} {a b : Addr} {vs ws : List V} {xs ys : List Dt} (h : ∀ A' H', Ext A H A' H' → SqL G.K H' a vs) (r : RVs G A H xs vs) (h2 : ∀ A' H', Ext A H A' H' → SqL G.K H' b ws) (r2 : RVs G A H ys ws) : Wk G (Itz G.K a b) A H (zpL xs ys) := by
  have hl := zpL_length xs ys
  refine ⟨fun i A' H' hi x => ?_, fun i A' H' S v H2 hi x s hy => ?_, fun A' H' x => ?_⟩
  · rw [hl] at hi
    obtain ⟨v, ev, _⟩ := r.get (List.getElem?_eq_getElem (show i < xs.length by omega))
    obtain ⟨w, ew, _⟩ := r2.get (List.getElem?_eq_getElem (show i < ys.length by omega))
    exact ⟨vs, ws, v, w, h A' H' x, h2 A' H' x, ev, ew⟩
  · obtain ⟨T, x1, y1, rfl, hT, rfl, hv, hw⟩ := hy
    obtain ⟨t, et, rt⟩ := r.get' (hv vs (h A' H' x))
    obtain ⟨u, eu, ru⟩ := r2.get' (hw ws (h2 A' H' x))
    exact ⟨_, zpL_get et eu, .new hT, s.new hT, RV.tup_new s hT ⟨_, _, rfl, rt.kp x.kp, _, _, rfl, ru.kp x.kp, rfl⟩⟩
  · refine ⟨vs, ws, h A' H' x, h2 A' H' x, ?_⟩
    rw [hl, r.length, r2.length]
    omega
theorem wk_zipT {A : Al} {H : Hp} {a b : Addr} {vs ws : List V} {xs ys : List Dt} (h : ∀ A' H', Ext A H A' H' → SqT G.K H' a vs) (r : RVs G A H xs vs) (h2 : ∀ A' H', Ext A H A' H' → SqT G.K H' b ws) (r2 : RVs G A H ys ws) : Wk G (RZ.ItzT G.K a b) A H (zpL xs ys) := by
  have hl := zpL_length xs ys
  refine ⟨fun i A' H' hi x => ?_, fun i A' H' S v H2 hi x s hy => ?_, fun A' H' x => ?_⟩
  · rw [hl] at hi
    obtain ⟨v, ev, _⟩ := r.get (List.getElem?_eq_getElem (show i < xs.length by omega))
    obtain ⟨w, ew, _⟩ := r2.get (List.getElem?_eq_getElem (show i < ys.length by omega))
    exact ⟨vs, ws, v, w, h A' H' x, h2 A' H' x, ev, ew⟩
  · obtain ⟨T, x1, y1, rfl, hT, rfl, hv, hw⟩ := hy
    obtain ⟨t, et, rt⟩ := r.get' (hv vs (h A' H' x))
    obtain ⟨u, eu, ru⟩ := r2.get' (hw ws (h2 A' H' x))
    exact ⟨_, zpL_get et eu, .new hT, s.new hT, RV.tup_new s hT ⟨_, _, rfl, rt.kp x.kp, _, _, rfl, ru.kp x.kp, rfl⟩⟩
  · refine ⟨vs, ws, h A' H' x, h2 A' H' x, ?_⟩
    rw [hl, r.length, r2.length]
    omega
theorem i_zip {a b : Expr} {ma : M (List Dv)} {p pos tpos : Pos} {elts : List Expr} {kk : Nat} (hK : G.K = X.K) (hg : Gl X "zip") (hm : X.mg "zip" = none) (ha : PA X [a, b] (tMA G W ma)) (hs : starEach [a, b] X.env = (false, eval a X.env) :: starEach [b] X.env) (hpl : (backTo pos (starEach [b] X.env)).any (·.1) = false) :
    PIS X G W (.Tuple elts kk tpos) (.Call (.Name "zip" p) [a, b] [] pos) (iRg zp2 ma) := by
  refine ⟨_, RZ.pi_zipA hg hm ha hs hpl, fun σ H A ρ S R he hs p => ?_⟩
  refine ⟨A, ρ, S, he, hs, Po.step p fun ds S1 A1 H1 x1 s1 p1 vs rv => ?_⟩
  obtain ⟨ts, e1, k⟩ := li_po p1 s1
  rw [← hK]
  unfold zp2 at e1
  split at e1
  · rename_i xs ys
    cases e1
    cases rv with
    | cons r1 r2 =>
      cases r2 with
      | cons r2 r3 =>
        cases r3
        obtain ⟨a, us, rfl, ha, ru⟩ := tup_at rfl r1
        obtain ⟨b, ws, rfl, hb, rw'⟩ := tup_at rfl r2
        exact ⟨a, b, us, ws, rfl, .inr ⟨ha A1 H1 .refl, hb A1 H1 .refl, k _ (wk_zipT ha ru hb rw')⟩⟩
  · rename_i d e _
    cases ed : lstOf d with
    | none => rw [ed] at e1; cases e1
    | some xs =>
      cases ee : lstOf e with
      | none => rw [ed, ee] at e1; cases e1
      | some ys =>
        rw [ed, ee] at e1
        cases e1
        cases rv with
        | cons r1 r2 =>
          cases r2 with
          | cons r2 r3 =>
            cases r3
            obtain ⟨a, us, rfl, ha, ru⟩ := lst_at ed r1
            obtain ⟨b, ws, rfl, hb, rw'⟩ := lst_at ee r2
            exact ⟨a, b, us, ws, rfl, .inl ⟨ha A1 H1 .refl, hb A1 H1 .refl, k _ (wk_zipL ha ru hb rw')⟩⟩
  · cases e1
def kT (k : Key) : Dt := match k with
  | .inl i => .int i
  | .inr s => .str s
def dKeys (d : Dv) : Option (List Dt) := match d with
  | .d (.dct ks _) => some (ks.map kT)
  | _ => none
def iDc (f : Dv → Option (List Dt)) (m : M Dv) : M (List Dt) := fun ρ S => (m ρ S).bind fun d S1 => li (f d) S1
theorem kT_rv {A : Al} {H : Hp} (k : Key) : RV G A H (kT k) (kV k) := by
  cases k with
  | inl i => exact (rfl : V.int i = V.int i)
  | inr s => exact (rfl : V.str s = V.str s)
end
end Sm
namespace Sm
open PySem PySem.Spec PyProof.Rows L2
section
variable {G : Gs} {E : XK} {A : Al} {S : Sto} {H : Hp} {Q : VK} {ts : List Dt} {vs : List V}
theorem poT (p : Po G E A H (lift (some (Dv.d (.tup ts), S))) (kD G Q)) (s : StR G A S H) (r : RVs G A H ts vs) : ∀ q, H q = none → Q (.ref q) (upd H q (.tup vs)) :=
  fun _ hq => Po.at p (Ext.new hq) (s.new hq) _ (RV.tup_new s hq r)
theorem poL (p : Po G E A H (lift (some (Dv.d (.lst ts), S))) (kD G Q)) (s : StR G A S H) (r : RVs G A H ts vs) : ∀ q, H q = none → Q (.ref q) (upd H q (.lst vs)) :=
  fun _ hq => Po.at p (Ext.new hq) (s.new hq) _ (RV.lst_new s hq r)
theorem poB {ds : List Dv} (p : Po G E A H (lift (some (Dv.loc S.length, S ++ [.lst ds]))) (kD G Q)) (s : StR G A S H) (r : RDs G A H ds vs) : ∀ q, H q = none → Q (.ref q) (upd H q (.lst vs)) := fun _ hq => by
  obtain ⟨x1, s1, r1⟩ := box_lst s hq r
  exact Po.at p x1 s1 _ r1
end
def lstAt (S : Sto) (d : Dv) : Option (List Dv) := match d with
  | .d (.lst ts) => some (ts.map .d)
  | .loc n => (match S[n]? with
    | some (.lst ds) => some ds
    | _ => none)
  | _ => none
theorem lstAt_rd {G : Gs} {A : Al} {S : Sto} {H : Hp} {d : Dv} {v : V} {ds : List Dv} (s : StR G A S H) (r : RD G A H d v) (h : lstAt S d = some ds) : ∃ a vs, v = .ref a ∧ H a = some (.lst vs) ∧ RDs G A H ds vs := by
  cases d with
  | d t =>
    cases t with
    | lst ts =>
      obtain ⟨a, vs, e, hl, hv⟩ := r
      cases h
      exact ⟨a, vs, e, hl.1, hv.rds⟩
    | _ => cases h
  | loc n =>
    unfold lstAt at h
    simp only at h
    cases e : S[n]? with
    | none => rw [e] at h; cases h
    | some o =>
      rw [e] at h
      cases o with
      | lst xs =>
        cases h
        obtain ⟨a, vs, ev, _, hl, hv⟩ := loc_lst s r e
        exact ⟨a, vs, ev, hl, hv⟩
      | _ => cases h
def seqAt (S : Sto) (d : Dv) : Option (List Dv) := match d with
  | .d (.tup ts) => some (ts.map .d)
  | .d (.scr ts) => some (ts.map .d)
  | .d (.ltp ts) => some (ts.map .d)
  | d => lstAt S d
theorem seqAt_rd {G : Gs} {A : Al} {S : Sto} {H : Hp} {d : Dv} {v : V} {ds : List Dv} (s : StR G A S H) (r : RD G A H d v) (h : seqAt S d = some ds) : ∃ a vs, v = .ref a ∧ (SqL G.K H a vs ∨ SqT G.K H a vs) ∧ RDs G A H ds vs := by
  unfold seqAt at h
  split at h
  · obtain ⟨a, vs, e, ht, hv⟩ := r
    cases h
    exact ⟨a, vs, e, .inr ht.sq, hv.rds⟩
  · obtain ⟨a, vs, e, ht, hv⟩ := r
    cases h
    exact ⟨a, vs, e, .inl ht.sq, hv.rds⟩
  · obtain ⟨a, vs, e, ht, hv⟩ := r
    cases h
    exact ⟨a, vs, e, .inr (ht H), hv.rds⟩
  · obtain ⟨a, vs, e, hl, hv⟩ := lstAt_rd s r h
    exact ⟨a, vs, e, .inl (.inl (.inl hl)), hv⟩
def pAdd : P2 := fun d e S => match d, e with
  | .d (.int i), .d (.int j) => some (.d (.int (i + j)), S)
  | .d (.str a), .d (.str b) => if a.length + b.length ≤ 16777216 then some (.d (.str (a ++ b)), S) else none
  | .d (.tup a), .d (.tup b) => if a.length + b.length ≤ 16777216 then some (.d (.tup (a ++ b)), S) else none
  | .d (.lst a), .d (.lst b) => if a.length + b.length ≤ 16777216 then some (.d (.lst (a ++ b)), S) else none
  | _, _ => none
def pAddB : P2 := fun d e S => match lstAt S d, lstAt S e with
  | some a, some b => if a.length + b.length ≤ 16777216 then some (.loc S.length, S ++ [.lst (a ++ b)]) else none
  | _, _ => none
def smallI (i : Int) : Bool := decide (-(2 ^ 64) < i ∧ i < 2 ^ 64)
def mulOk (i j : Int) : Bool := smallI i || smallI j || decide (i.natAbs.log2 + j.natAbs.log2 < 1000000)
def divOk (j : Int) : Bool := decide (0 < j ∧ j < 1073741824) || decide (0 < j ∧ j.natAbs.log2 < 9000)
def pMul : P2 := fun d e S => match d, e with
  | .d (.int i), .d (.int j) => if mulOk i j = true then some (.d (.int (i * j)), S) else none
  | .d (.lst a), .d (.int j) => if decide (-(2 ^ 63) ≤ j ∧ j < 2 ^ 63 ∧ a.length * j.toNat ≤ 16777216) = true then some (.d (.lst (List.replicate j.toNat a).flatten), S) else none
  | _, _ => none
def pDiv : P2 := fun d e S => match d, e with
  | .d (.int i), .d (.int j) => if divOk j = true then some (.d (.int (i / j)), S) else none
  | _, _ => none
def pMod : P2 := fun d e S => match d, e with
  | .d (.int i), .d (.int j) => if 0 < j then some (.d (.int (i % j)), S) else none
  | _, _ => none
def pPow : P2 := fun d e S => match d, e with
  | .d (.int i), .d (.int j) => if decide (0 ≤ j ∧ j ≤ 1000000 ∧ i.natAbs < 2 ^ 64) = true then some (.d (.int (i ^ j.toNat)), S) else none
  | _, _ => none
def pNeg : P1 := fun d S => match d with
  | .d (.int i) => some (.d (.int (-i)), S)
  | _ => none
theorem rvs_rep {G : Gs} {A : Al} {H : Hp} {ts : List Dt} {vs : List V} (r : RVs G A H ts vs) : ∀ k : Nat, RVs G A H (List.replicate k ts).flatten (List.replicate k vs).flatten
  | 0 => (rfl : ([] : List V) = [])
  | k + 1 => by
    simp only [List.replicate_succ, List.flatten_cons]
    exact r.append (rvs_rep r k)
section
variable {X : Cx} {G : Gs} {W : WX} {k : Nat}
theorem o_add (hK : G.K = X.K) : OpR X (binaryOp .Add) (q2 G pAdd) := by
  refine (op_add.or (op_add_str.or (op_catA.or op_cat))).sm fun x y H Q h => ?_
  obtain ⟨A, S, d, e, rd, re, s, p⟩ := h
  unfold pAdd at p
  split at p
  · exact .inl ⟨_, _, rd, re, Po.now p s _ rfl⟩
  · split at p
    · rename_i hl
      exact .inr (.inl ⟨_, _, rd, re, line_of hl, Po.now p s _ rfl⟩)
    · exact p.elim
  · split at p
    · rename_i hl
      obtain ⟨a, vs, rfl, ha, hv⟩ := rd
      obtain ⟨b, ws, rfl, hb, hw⟩ := re
      refine .inr (.inr (.inl ⟨a, b, vs, ws, rfl, rfl, ?_, ?_, ?_, fun e => ?_, fun ne e => ?_, fun ne ne2 q hq => poT p s (hv.append hw) q hq⟩))
      · rw [← hK]; exact ha.sq
      · rw [← hK]; exact hb.sq
      · rw [← hv.length, ← hw.length]; exact line_of hl
      · subst e
        have z := hv.length
        simp at z
        subst z
        exact Po.now p s (.ref b) ⟨b, ws, rfl, hb, hw⟩
      · subst e
        have z := hw.length
        simp at z
        subst z
        rw [List.append_nil] at p
        exact Po.now p s (.ref a) ⟨a, vs, rfl, ha, hv⟩
    · exact p.elim
  · split at p
    · rename_i hl
      obtain ⟨a, vs, rfl, ha, hv⟩ := rd
      obtain ⟨b, ws, rfl, hb, hw⟩ := re
      refine .inr (.inr (.inr ⟨a, b, vs, ws, rfl, rfl, ha.1, hb.1, ?_, poL p s (hv.append hw)⟩))
      rw [← hv.length, ← hw.length]; exact line_of hl
    · exact p.elim
  · exact p.elim
theorem o_addB : OpR X (binaryOp .Add) (q2 G pAddB) := by
  refine op_cat.sm fun x y H Q h => ?_
  obtain ⟨A, S, d, e, rd, re, s, p⟩ := h
  unfold pAddB at p
  split at p
  · rename_i a b e1 e2
    split at p
    · rename_i hl
      obtain ⟨a, vs, rfl, ha, hv⟩ := lstAt_rd s rd e1
      obtain ⟨b, ws, rfl, hb, hw⟩ := lstAt_rd s re e2
      refine ⟨a, b, vs, ws, rfl, rfl, ha, hb, ?_, poB p s (hv.append hw)⟩
      rw [← Paired.length hv, ← Paired.length hw]; exact line_of hl
    · exact p.elim
  · exact p.elim
theorem o_mul : OpR X (binaryOp .Mult) (q2 G pMul) := by
  refine (op_mul.or (op_mulW.or op_rep)).sm fun x y H Q h => ?_
  obtain ⟨A, S, d, e, rd, re, s, p⟩ := h
  unfold pMul at p
  split at p
  · split at p
    · rename_i hl
      unfold mulOk smallI at hl
      simp only [Bool.or_eq_true, decide_eq_true_eq] at hl
      rcases hl with (hl | hl) | hl
      · exact .inl ⟨_, _, rd, re, .inl hl, Po.now p s _ rfl⟩
      · exact .inl ⟨_, _, rd, re, .inr hl, Po.now p s _ rfl⟩
      · exact .inr (.inl ⟨_, _, rd, re, hl, Po.now p s _ rfl⟩)
    · exact p.elim
  · split at p
    · rename_i hl
      have hl := of_decide_eq_true hl
      obtain ⟨a, vs, rfl, ha, hv⟩ := rd
      refine .inr (.inr ⟨a, _, vs, rfl, re, ha.1, hl.1, hl.2.1, ?_, poL p s (rvs_rep hv _)⟩)
      rw [← hv.length]; exact line_of hl.2.2
    · exact p.elim
  · exact p.elim
theorem o_div : OpR X (binaryOp .FloorDiv) (q2 G pDiv) := by
  refine (op_fdiv.or op_fdivW).sm fun x y H Q h => ?_
  obtain ⟨A, S, d, e, rd, re, s, p⟩ := h
  unfold pDiv at p
  split at p
  · split at p
    · rename_i hl
      unfold divOk at hl
      simp only [Bool.or_eq_true, decide_eq_true_eq] at hl
      rcases hl with hl | hl
      · exact .inl ⟨_, _, rd, re, hl, Po.now p s _ rfl⟩
      · exact .inr ⟨_, _, rd, re, hl, Po.now p s _ rfl⟩
    · exact p.elim
  · exact p.elim
theorem o_mod : OpR X (binaryOp .Mod) (q2 G pMod) := by
  refine op_mod.sm fun x y H Q h => ?_
  obtain ⟨A, S, d, e, rd, re, s, p⟩ := h
  unfold pMod at p
  split at p
  · split at p
    · rename_i hl
      exact ⟨_, _, rd, re, hl, Po.now p s _ rfl⟩
    · exact p.elim
  · exact p.elim
theorem o_pow : OpR X (binaryOp .Pow) (q2 G pPow) := by
  refine op_pow.sm fun x y H Q h => ?_
  obtain ⟨A, S, d, e, rd, re, s, p⟩ := h
  unfold pPow at p
  split at p
  · split at p
    · rename_i hl
      have hl := of_decide_eq_true hl
      exact ⟨_, _, rd, re, hl, Po.now p s _ rfl⟩
    · exact p.elim
  · exact p.elim
theorem u_neg : UnR X (unaryOp .USub) (q1 G pNeg) := by
  refine un_neg.sm fun x H Q h => ?_
  obtain ⟨A, S, d, rd, s, p⟩ := h
  unfold pNeg at p
  split at p
  · exact ⟨_, rd, Po.now p s _ rfl⟩
  · exact p.elim
end
mutual
def toPy : Dt → Option PyData
  | .non => some .none
  | .bl b => some (.bool b)
  | .int i => some (.int i)
  | .str s => some (.str s)
  | .tup xs => (toPys xs).map .tuple
  | .lst xs => (toPys xs).map .list
  | .scr xs => (toPys xs).map .list
  | .ltp xs => (toPys xs).map .tuple
  | .dct _ _ => none
  | .obj _ _ => none
  | .exc _ _ => none
  | .ntp _ => none
def toPys : List Dt → Option (List PyData)
  | [] => some []
  | t :: ts => match toPy t, toPys ts with
    | some a, some b => some (a :: b)
    | _, _ => none
end
mutual
theorem RV.dp {G : Gs} {A : Al} {H : Hp} : ∀ {t : Dt} {v : V} {d : PyData}, toPy t = some d → RV G A H t v → Dp G.K H v d
  | .non, v, d, e, r => by
    cases e
    obtain rfl : v = .non := r
    exact .non
  | .bl b, v, d, e, r => by
    cases e
    obtain rfl : v = .bl b := r
    exact .bl b
  | .int i, v, d, e, r => by
    cases e
    obtain rfl : v = .int i := r
    exact .int i
  | .str x, v, d, e, r => by
    cases e
    obtain rfl : v = .str x := r
    exact .str x
  | .tup xs, v, d, e, r => by
    obtain ⟨a, vs, rfl, h, hv⟩ := r
    unfold toPy at e
    cases e1 : toPys xs with
    | none => rw [e1] at e; cases e
    | some ds =>
      rw [e1] at e
      cases e
      exact .tup h.sq (RVs.dp e1 hv)
  | .lst xs, v, d, e, r => by
    obtain ⟨a, vs, rfl, h, hv⟩ := r
    unfold toPy at e
    cases e1 : toPys xs with
    | none => rw [e1] at e; cases e
    | some ds =>
      rw [e1] at e
      cases e
      exact .lst h.sq (RVs.dp e1 hv)
  | .scr xs, v, d, e, r => by
    obtain ⟨a, vs, rfl, h, hv⟩ := r
    unfold toPy at e
    cases e1 : toPys xs with
    | none => rw [e1] at e; cases e
    | some ds =>
      rw [e1] at e
      cases e
      exact .lst h.sq (RVs.dp e1 hv)
  | .ltp xs, v, d, e, r => by
    obtain ⟨a, vs, rfl, h, hv⟩ := r
    unfold toPy at e
    cases e1 : toPys xs with
    | none => rw [e1] at e; cases e
    | some ds =>
      rw [e1] at e
      cases e
      exact .tup (h H) (RVs.dp e1 hv)
  | .dct ks xs, v, d, e, r => by cases e
  | .obj c xs, v, d, e, r => by cases e
  | .exc c xs, v, d, e, r => by cases e
  | .ntp xs, v, d, e, r => by cases e
theorem RVs.dp {G : Gs} {A : Al} {H : Hp} : ∀ {ts : List Dt} {vs : List V} {ds : List PyData}, toPys ts = some ds → RVs G A H ts vs → DpAll G.K H vs ds
  | [], vs, ds, e, r => by
    cases e
    obtain rfl : vs = [] := r
    exact .nil
  | t :: ts, vs, ds, e, r => by
    obtain ⟨v, w, rfl, r1, r2⟩ := r
    unfold toPys at e
    cases e1 : toPy t with
    | none => rw [e1] at e; cases e
    | some a =>
      cases e2 : toPys ts with
      | none => rw [e1, e2] at e; cases e
      | some b =>
        rw [e1, e2] at e
        cases e
        exact .cons (RV.dp e1 r1) (RVs.dp e2 r2)
end
def pyDv (S : Sto) (d : Dv) : Option PyData := match d with
  | .d t => toPy t
  | .loc n => (match S[n]? with
    | some (.lst ds) => ((pures ds).bind toPys).map .list
    | _ => none)
theorem pyDv_dp {G : Gs} {A : Al} {S : Sto} {H : Hp} {d : Dv} {v : V} {y : PyData} (s : StR G A S H) (r : RD G A H d v) (h : pyDv S d = some y) : Dp G.K H v y := by
  cases d with
  | d t => exact RV.dp h r
  | loc n =>
    unfold pyDv at h
    simp only at h
    cases e : S[n]? with
    | none => rw [e] at h; cases h
    | some o =>
      rw [e] at h
      cases o with
      | lst xs =>
        obtain ⟨a, vs, rfl, _, hl, hv⟩ := loc_lst s r e
        simp only at h
        cases e1 : pures xs with
        | none => rw [e1] at h; cases h
        | some ts =>
          rw [e1] at h
          simp only [Option.bind_some] at h
          cases e2 : toPys ts with
          | none => rw [e2] at h; cases h
          | some ds =>
            rw [e2] at h
            cases h
            exact .lst (.inl (.inl hl)) (RVs.dp e2 (pures_rvs e1 hv))
      | _ => cases h
def eqDv (S : Sto) (d e : Dv) : Option Bool := match pyDv S d, pyDv S e with
  | some x, some y => if SeqAt.shaped x = true ∧ SeqAt.shaped y = true then some (PyData.eqv x y) else none
  | _, _ => none
theorem eqDv_to {S : Sto} {d e : Dv} {b : Bool} (h : eqDv S d e = some b) : ∃ x y, pyDv S d = some x ∧ pyDv S e = some y ∧ SeqAt.shaped x = true ∧ SeqAt.shaped y = true ∧ b = PyData.eqv x y := by
  unfold eqDv at h
  split at h
  · rename_i x y e1 e2
    split at h
    · rename_i hs
      cases h
      exact ⟨x, y, e1, e2, hs.1, hs.2, rfl⟩
    · cases h
  · cases h
def pEq : P2 := fun d e S => match eqDv S d e with
  | some b => some (.d (.bl b), S)
  | none => none
def pNe : P2 := fun d e S => match eqDv S d e with
  | some b => some (.d (.bl (!b)), S)
  | none => none
def pCmp (f : Int → Int → Bool) (g : Str → Str → Bool) : P2 := fun d e S => match d, e with
  | .d (.int i), .d (.int j) => some (.d (.bl (f i j)), S)
  | .d (.str i), .d (.str j) => some (.d (.bl (g i j)), S)
  | _, _ => none
def ltS (i j : Str) : Bool := decide (i.cps.toList < j.cps.toList)
def pLt : P2 := pCmp (fun i j => decide (i < j)) ltS
def pLe : P2 := pCmp (fun i j => decide (i ≤ j)) fun i j => !ltS j i
def pGt : P2 := pCmp (fun i j => decide (j < i)) fun i j => ltS j i
def pGe : P2 := pCmp (fun i j => decide (j ≤ i)) fun i j => !ltS i j
section
variable {X : Cx} {G : Gs} {W : WX} {k : Nat}
theorem o_eq (hu : X.A.units + 64 < cLine) (hK : G.K = X.K) : OpR X (compareOp .Eq) (q2 G pEq) := by
  refine (op_eqD hu).sm fun x y H Q h => ?_
  obtain ⟨A, S, d, e, rd, re, s, p⟩ := h
  unfold pEq at p
  split at p
  · rename_i b hb
    obtain ⟨u, v, e1, e2, s1, s2, eb⟩ := eqDv_to hb
    subst eb
    rw [← hK]
    exact ⟨u, v, pyDv_dp s rd e1, pyDv_dp s re e2, s1, s2, Po.now p s _ rfl⟩
  · exact p.elim
theorem o_ne (hu : X.A.units + 64 < cLine) (hK : G.K = X.K) : OpR X (compareOp .NotEq) (q2 G pNe) := by
  refine (op_neD hu).sm fun x y H Q h => ?_
  obtain ⟨A, S, d, e, rd, re, s, p⟩ := h
  unfold pNe at p
  split at p
  · rename_i b hb
    obtain ⟨u, v, e1, e2, s1, s2, eb⟩ := eqDv_to hb
    subst eb
    rw [← hK]
    exact ⟨u, v, pyDv_dp s rd e1, pyDv_dp s re e2, s1, s2, Po.now p s _ rfl⟩
  · exact p.elim
theorem cmp_read {f : Int → Int → Bool} {g : Str → Str → Bool} {x y : V} {H : Hp} {Q : VK} (h : q2 G (pCmp f g) x y H Q) : (∃ i j, x = .int i ∧ y = .int j ∧ Q (.bl (f i j)) H) ∨ ∃ i j, x = .str i ∧ y = .str j ∧ Q (.bl (g i j)) H := by
  obtain ⟨A, S, d, e, rd, re, s, p⟩ := h
  unfold pCmp at p
  split at p
  · exact .inl ⟨_, _, rd, re, Po.now p s _ rfl⟩
  · exact .inr ⟨_, _, rd, re, Po.now p s _ rfl⟩
  · exact p.elim
theorem o_lt : OpR X (compareOp .Lt) (q2 G pLt) := (op_lt.or op_lt_str).sm fun _ _ _ _ h => cmp_read h
theorem o_le : OpR X (compareOp .LtE) (q2 G pLe) := (op_le.or op_le_str).sm fun _ _ _ _ h => cmp_read h
theorem o_gt : OpR X (compareOp .Gt) (q2 G pGt) := (op_gt.or op_gt_str).sm fun _ _ _ _ h => cmp_read h
theorem o_ge : OpR X (compareOp .GtE) (q2 G pGe) := (op_ge.or op_ge_str).sm fun _ _ _ _ h => cmp_read h
theorem isN_rd {A : Al} {H : Hp} {t : Dt} {v : V} (r : RV G A H t v) : decide (v = .non) = (match t with | .non => true | _ => false) := by
  cases t with
  | non => obtain rfl : v = .non := r; rfl
  | bl b => obtain rfl : v = .bl b := r; rfl
  | int i => obtain rfl : v = .int i := r; rfl
  | str i => obtain rfl : v = .str i := r; rfl
  | tup xs => obtain ⟨a, vs, rfl, _⟩ := r; rfl
  | lst xs => obtain ⟨a, vs, rfl, _⟩ := r; rfl
  | scr xs => obtain ⟨a, vs, rfl, _⟩ := r; rfl
  | ltp xs => obtain ⟨a, vs, rfl, _⟩ := r; rfl
  | dct ks xs => obtain ⟨a, vs, rfl, _⟩ := r; rfl
  | obj c xs => obtain ⟨a, _, _, _, rfl, _⟩ := r; rfl
  | exc c xs => obtain ⟨a, _, _, _, rfl, _⟩ := r; rfl
  | ntp xs => obtain ⟨a, vs, rfl, _⟩ := r; rfl
end
end Sm
namespace Sm
open PySem PySem.Spec PyProof.Rows L2
def isNon : Dt → Bool
  | .non => true
  | _ => false
def pIsN : P2 := fun d e S => match d, e with
  | .d t, .d .non => some (.d (.bl (isNon t)), S)
  | _, _ => none
def flatT : Dt → Bool
  | .non => true
  | .bl _ => true
  | .int _ => true
  | .str _ => true
  | _ => false
def eqF : Dt → Dt → Bool
  | .non, .non => true
  | .bl a, .bl b => a == b
  | .bl a, .int b => (if a then 1 else 0) == b
  | .int a, .bl b => a == (if b then 1 else 0)
  | .int a, .int b => a == b
  | .str a, .str b => a == b
  | _, _ => false
section
variable {G : Gs} {A : Al} {H : Hp}
theorem flat_rv {t : Dt} {v : V} (r : RV G A H t v) (f : flatT t = true) : flatV v = true := by
  cases t with
  | non => obtain rfl : v = .non := r; rfl
  | bl b => obtain rfl : v = .bl b := r; rfl
  | int i => obtain rfl : v = .int i := r; rfl
  | str i => obtain rfl : v = .str i := r; rfl
  | _ => cases f
theorem eqF_rv {t u : Dt} {v w : V} (r : RV G A H t v) (r2 : RV G A H u w) (f : flatT t = true) (f2 : flatT u = true) : eqV v w = eqF t u := by
  cases t with
  | non =>
    obtain rfl : v = .non := r
    cases u with
    | non => obtain rfl : w = .non := r2; rfl
    | bl b => obtain rfl : w = .bl b := r2; rfl
    | int i => obtain rfl : w = .int i := r2; rfl
    | str i => obtain rfl : w = .str i := r2; rfl
    | _ => cases f2
  | bl b =>
    obtain rfl : v = .bl b := r
    cases u with
    | non => obtain rfl : w = .non := r2; rfl
    | bl b => obtain rfl : w = .bl b := r2; rfl
    | int i => obtain rfl : w = .int i := r2; rfl
    | str i => obtain rfl : w = .str i := r2; rfl
    | _ => cases f2
  | int i =>
    obtain rfl : v = .int i := r
    cases u with
    | non => obtain rfl : w = .non := r2; rfl
    | bl b => obtain rfl : w = .bl b := r2; rfl
    | int i => obtain rfl : w = .int i := r2; rfl
    | str i => obtain rfl : w = .str i := r2; rfl
    | _ => cases f2
  | str i =>
    obtain rfl : v = .str i := r
    cases u with
    | non => obtain rfl : w = .non := r2; rfl
    | bl b => obtain rfl : w = .bl b := r2; rfl
    | int i => obtain rfl : w = .int i := r2; rfl
    | str i => obtain rfl : w = .str i := r2; rfl
    | _ => cases f2
  | _ => cases f
theorem all_flat : ∀ {ts : List Dt} {vs : List V}, RVs G A H ts vs → ts.all flatT = true → vs.all flatV = true
  | [], vs, r, _ => by
    obtain rfl : vs = [] := r
    rfl
  | t :: ts, vs, r, f => by
    obtain ⟨v, w, rfl, r1, r2⟩ := r
    rw [List.all_cons, Bool.and_eq_true] at f
    rw [List.all_cons, Bool.and_eq_true]
    exact ⟨flat_rv r1 f.1, all_flat r2 f.2⟩
theorem any_flat {u : Dt} {w : V} (ru : RV G A H u w) (fu : flatT u = true) : ∀ {ts : List Dt} {vs : List V}, RVs G A H ts vs → ts.all flatT = true → inV w vs = ts.any fun t => eqF t u
  | [], vs, r, _ => by
    obtain rfl : vs = [] := r
    rfl
  | t :: ts, vs, r, f => by
    obtain ⟨v, w', rfl, r1, r2⟩ := r
    rw [List.all_cons, Bool.and_eq_true] at f
    have ih := any_flat ru fu r2 f.2
    unfold inV at ih ⊢
    rw [List.any_cons, List.any_cons, eqF_rv r1 ru f.1 fu, ih]
end
def dctAt (S : Sto) (d : Dv) : Option (List Key × List Dv) := match d with
  | .d (.dct ks xs) => some (ks, xs.map .d)
  | .loc n => (match S[n]? with
    | some (.dct ks xs) => some (ks, xs)
    | _ => none)
  | _ => none
theorem dctAt_rd {G : Gs} {A : Al} {S : Sto} {H : Hp} {d : Dv} {v : V} {ks : List Key} {xs : List Dv} (s : StR G A S H) (r : RD G A H d v) (h : dctAt S d = some (ks, xs)) : ∃ a kvs, v = .ref a ∧ Rd H a (.dK kvs) ∧ kvs.map (·.1) = ks ∧ RDs G A H xs (kvs.map (·.2)) := by
  cases d with
  | d t =>
    cases t with
    | dct ks' xs' =>
      obtain ⟨a, kvs, e, _, hl, ek, hv⟩ := r
      cases h
      exact ⟨a, kvs, e, hl, ek, hv.rds⟩
    | _ => cases h
  | loc n =>
    unfold dctAt at h
    simp only at h
    cases e : S[n]? with
    | none => rw [e] at h; cases h
    | some o =>
      rw [e] at h
      cases o with
      | dct ks' xs' =>
        cases h
        obtain ⟨a, kvs, ev, _, hl, ek, hv⟩ := loc_dct s r e
        exact ⟨a, kvs, ev, .inl hl, ek, hv⟩
      | _ => cases h
def inSeq (x : Dv) (ds : List Dv) : Option Bool := match x with
  | .d u => if flatT u = true then (match pures ds with
    | some ts => if ts.all flatT = true then some (ts.any fun t => eqF t u) else none
    | none => none) else none
  | _ => none
def inDv (S : Sto) (x e : Dv) : Option Bool := match dctAt S e with
  | some (ks, _) => (kOf x).map (hasK ks)
  | none => (match seqAt S e with
    | some ds => inSeq x ds
    | none => none)
def inDat (S : Sto) (x e : Dv) : Option Bool := match pyDv S x, pyDv S e with
  | some d, some (.list ds) => if SeqAt.shaped d = true ∧ SeqAt.shaped (.list ds) = true then some (ds.any fun z => PyData.eqv z d) else none
  | some d, some (.tuple ds) => if SeqAt.shaped d = true ∧ SeqAt.shaped (.tuple ds) = true then some (ds.any fun z => PyData.eqv z d) else none
  | _, _ => none
def pIn : P2 := fun d e S => match inDv S d e with
  | some b => some (.d (.bl b), S)
  | none => (match inDat S d e with
    | some b => some (.d (.bl b), S)
    | none => none)
def pNotIn : P2 := fun d e S => match inDv S d e with
  | some b => some (.d (.bl (!b)), S)
  | none => (match inDat S d e with
    | some b => some (.d (.bl (!b)), S)
    | none => none)
theorem valV_has {kvs : List (Key × V)} {k : Key} : (valV kvs k).isSome = hasK (kvs.map (·.1)) k := by
  induction kvs with
  | nil => rfl
  | cons p r ih =>
    unfold hasK at ih ⊢
    rw [List.map_cons, List.any_cons]
    by_cases e : p.1 = k
    · rw [valV_pos e]
      simp [e]
    · have : valV (p :: r) k = valV r k := by
        unfold valV
        rw [List.find?_cons_of_neg (by simpa using e)]
      rw [this, ih]
      simp [e]
section
variable {X : Cx} {G : Gs} {W : WX} {k : Nat}
theorem op_inDct (hu : X.A.units + 1 < cLine) : OpR X (compareOp .In) (fun x y H Q => ∃ a o, y = .ref a ∧ DGet H a x o ∧ Q (.bl o.isSome) H) := by
  intro pins s σ H x y v u Q I rx ry h
  obtain ⟨a, o, rfl, g, q⟩ := h
  obtain rfl : u = Value.ref a := ry
  exact d_in hu I g rx fun s3 I3 => ⟨.bl o.isSome, H, I3, rfl, q⟩
theorem in_read {x y : V} {H : Hp} {A : Al} {S : Sto} {d e : Dv} {b : Bool} (hK : G.K = X.K) (rd : RD G A H d x) (re : RD G A H e y) (s : StR G A S H) (h : inDv S d e = some b) :
    (∃ p xs, y = .ref p ∧ (SqL X.K H p xs ∨ SqT X.K H p xs) ∧ flatV x = true ∧ xs.all flatV = true ∧ inV x xs = b) ∨ ∃ a o, y = .ref a ∧ DGet H a x o ∧ o.isSome = b := by
  unfold inDv at h
  split at h
  · rename_i ks xs e1
    obtain ⟨a, kvs, ev, hl, ek, hv⟩ := dctAt_rd s re e1
    cases ek2 : kOf d with
    | none => rw [ek2] at h; cases h
    | some j =>
      rw [ek2] at h
      cases h
      have ex := kOf_rd ek2 rd
      exact .inr ⟨a, valV kvs j, ev, .inl ⟨kvs, j, hl, ex, rfl⟩, by rw [valV_has, ek]⟩
  · split at h
    · rename_i ds e2
      obtain ⟨a, vs, ev, hs, hv⟩ := seqAt_rd s re e2
      unfold inSeq at h
      split at h
      · rename_i u
        split at h
        · rename_i fu
          split at h
          · rename_i ts e3
            split at h
            · rename_i ft
              cases h
              have rv := pures_rvs e3 hv
              rw [hK] at hs
              exact .inl ⟨a, vs, ev, hs, flat_rv rd fu, all_flat rv ft, any_flat rd fu rv ft⟩
            · cases h
          · cases h
        · cases h
      · cases h
    · cases h
theorem _root_.L2.Room.units66 {k : Nat} {A : Around} (r : Room k A) : A.units + 66 < cLine := by have := r.un; omega
def rInT (K : PySem.W.Frag) : R2 := fun x y H Q => ∃ d ds, Dp K H x d ∧ Dp K H y (.tuple ds) ∧ SeqAt.shaped d = true ∧ SeqAt.shaped (.tuple ds) = true ∧ Q (.bl (ds.any fun z => PyData.eqv z d)) H
theorem op_inT (hu : X.A.units + 65 < cLine) : OpR X (compareOp .In) (rInT X.K) := by
  intro pins s σ H x y v u Q I rx ry h
  obtain ⟨d, ds, hd, he, sd, se, q⟩ := h
  obtain ⟨as, r1⟩ := Dp.reads I d x v hd rx
  obtain ⟨bs, r2⟩ := Dp.reads I (.tuple ds) y u he ry
  exact SeqAt.in_tuple_reads r2 r1 (SeqAt.canLay_of_shaped se) (SeqAt.canLay_of_shaped sd) (room_in_shaped sd hu) ⟨.bl _, H, I, rfl, q⟩
theorem inDat_read {x y : V} {H : Hp} {A : Al} {S : Sto} {d e : Dv} {b : Bool} (hK : G.K = X.K) (rd : RD G A H d x) (re : RD G A H e y) (s : StR G A S H) (h : inDat S d e = some b) :
    ∃ z ds, Dp X.K H x z ∧ SeqAt.shaped z = true ∧ (ds.any fun u => PyData.eqv u z) = b ∧ ((Dp X.K H y (.list ds) ∧ SeqAt.shaped (.list ds) = true) ∨ (Dp X.K H y (.tuple ds) ∧ SeqAt.shaped (.tuple ds) = true)) := by
  unfold inDat at h
  split at h
  · rename_i z ds e1 e2
    split at h
    · rename_i hs
      cases h
      rw [← hK]
      exact ⟨z, ds, pyDv_dp s rd e1, hs.1, rfl, .inl ⟨pyDv_dp s re e2, hs.2⟩⟩
    · cases h
  · rename_i z ds e1 e2
    split at h
    · rename_i hs
      cases h
      rw [← hK]
      exact ⟨z, ds, pyDv_dp s rd e1, hs.1, rfl, .inr ⟨pyDv_dp s re e2, hs.2⟩⟩
    · cases h
  · cases h
theorem o_in (hu : X.A.units + 66 < cLine) (hK : G.K = X.K) : OpR X (compareOp .In) (q2 G pIn) := by
  refine ((op_in_seq.or (op_inDct (by omega))).or ((op_inD (by omega)).or (op_inT (by omega)))).sm fun x y H Q h => ?_
  obtain ⟨A, S, d, e, rd, re, s, p⟩ := h
  unfold pIn at p
  split at p
  · rename_i b hb
    have q := Po.now p s _ rfl
    rcases in_read hK rd re s hb with ⟨a, xs, e1, e2, e3, e4, e5⟩ | ⟨a, o, e1, e2, e3⟩
    · exact .inl (.inl ⟨a, xs, e1, e2, e3, e4, by simp only [Bool.false_eq_true, if_false]; rw [e5]; exact q⟩)
    · exact .inl (.inr ⟨a, o, e1, e2, by rw [e3]; exact q⟩)
  · split at p
    · rename_i b hb
      have q := Po.now p s _ rfl
      obtain ⟨z, ds, h1, h2, h3, h4 | h4⟩ := inDat_read hK rd re s hb
      · exact .inr (.inl ⟨z, ds, h1, h4.1, h2, h4.2, by rw [h3]; exact q⟩)
      · exact .inr (.inr ⟨z, ds, h1, h4.1, h2, h4.2, by rw [h3]; exact q⟩)
    · exact p.elim
theorem o_is : OpR X (compareOp .Is) (q2 G pIsN) := by
  refine op_isN.sm fun x y H Q h => ?_
  obtain ⟨A, S, d, e, rd, re, s, p⟩ := h
  unfold pIsN at p
  split at p
  · rename_i t
    refine ⟨re, ?_⟩
    rw [isN_rd rd]
    exact Po.now p s _ (by cases t <;> rfl)
  · exact p.elim
end
def pIx : P2 := fun d e S => match dctAt S d with
  | some (ks, xs) => (match kOf e with
    | some j => (match dlook ks xs j with
      | some x => some (x, S)
      | none => none)
    | none => none)
  | none => (match e with
    | .d (.int i) => (match d with
      | .d (.str z) => if z.length ≤ 16777216 then (match atI z.cps.toList i with
        | some c => some (.d (.str ⟨#[c]⟩), S)
        | none => none) else none
      | d => (match seqAt S d with
        | some ds => (match atI ds i with
          | some x => some (x, S)
          | none => none)
        | none => none))
    | _ => none)
theorem atI_rd {G : Gs} {A : Al} {H : Hp} {ds : List Dv} {vs : List V} {i : Int} {x : Dv} (r : RDs G A H ds vs) (h : atI ds i = some x) : ∃ v, atI vs i = some v ∧ RD G A H x v := by
  unfold atI at h ⊢
  rw [← Paired.length r]
  cases e : ixN ds.length i with
  | none => rw [e] at h; cases h
  | some j =>
    rw [e] at h
    exact r.get h
section
variable {X : Cx} {G : Gs} {W : WX} {k : Nat}
theorem ix_dct (hu : X.A.units + 1 < cLine) : IxR X (fun x y H Q => ∃ a v, x = .ref a ∧ DGet H a y (some v) ∧ Q v H) := by
  intro value slice pins s σ H x y o i Q I rx ry h hs
  obtain ⟨a, v, rfl, g, q⟩ := h
  obtain rfl : o = Value.ref a := rx
  have hT := dict_typeIs I g
  have h2 : wpAny (model X.prog X.w) X.A (getItem (.ref a) i) (EP X pins σ Q) X.xe s := d_getItem hu I g ry fun w' s3 I3 rw' => ⟨v, H, I3, rw', q⟩
  unfold subscriptTail
  refine wpAny_bind ?_
  rw [getitemInPython_of_ne hT.not_modules]
  refine wpAny_bind (wpAny_specialOf hT PySem.F.slot_dict_getitem.lookup ?_)
  have h3 : wpAny (model X.prog X.w) X.A (subscripted slice false (.ref a) i) (fun r s' => wpAny (model X.prog X.w) X.A (letTemporaryGo value (.ref a) r >>= fun _ => pure r) (EP X pins σ Q) X.xe s') X.xe s := by
    rw [hs]
    exact wpAny_operating (thn h2 fun r s' z => wpAny_bind (wpAny_letTemporaryGo (wpAny_pure z)))
  first
    | exact wpAny_pure (wpAny_bind h3)
    | exact wpAny_bind (wpAny_pure (wpAny_bind h3))
    | exact wpAny_bind h3
theorem i_ix (hu : X.A.units + 64 < cLine) (hK : G.K = X.K) : IxR X (q2 G pIx) := by
  refine (ix_seq.or (ix_dct (by omega))).sm fun x y H Q h => ?_
  obtain ⟨A, S, d, e, rd, re, s, p⟩ := h
  unfold pIx at p
  split at p
  · rename_i ks xs e1
    obtain ⟨a, kvs, ev, hl, ek, hv⟩ := dctAt_rd s rd e1
    split at p
    · rename_i j ej
      split at p
      · rename_i w ew
        have ex := kOf_rd ej re
        rw [← ek] at ew
        obtain ⟨v, e2, rv⟩ := (dlook_val (j := j) hv).1 w ew
        exact .inr ⟨a, v, ev, .inl ⟨kvs, j, hl, ex, e2.symm⟩, Po.now p s v rv⟩
      · exact p.elim
    · exact p.elim
  · split at p
    · rename_i i
      split at p
      · rename_i z
        split at p
        · rename_i hl
          split at p
          · rename_i c ec
            exact .inl (.inr (.inr ⟨_, i, c, rd, re, line_of hl, ec, Po.now p s _ rfl⟩))
          · exact p.elim
        · exact p.elim
      · split at p
        · rename_i ds e1
          split at p
          · rename_i w ew
            obtain ⟨a, vs, ev, hs, hv⟩ := seqAt_rd s rd e1
            obtain ⟨v, e2, rv⟩ := atI_rd hv ew
            rw [hK] at hs
            rcases hs with hs | hs
            · exact .inl (.inl ⟨a, vs, i, v, ev, re, hs, e2, Po.now p s v rv⟩)
            · exact .inl (.inr (.inl ⟨a, vs, i, v, ev, re, hs, e2, Po.now p s v rv⟩))
          · exact p.elim
        · exact p.elim
    · exact p.elim
end
def tMO (G : Gs) (W : WX) (m : M (Option Int)) : TO := fun σ H Q => ∃ A ρ S, EnvR G A H ρ σ ∧ StR G A S H ∧ Po G (Wa W σ) A H (m ρ S) fun _ H' o => Q o H'
def oNo : M (Option Int) := fun _ S => .ok none S
def oPt (m : M Dv) : M (Option Int) := fun ρ S => (m ρ S).bind fun d S1 => match d with
  | .d (.int i) => .ok (some i) S1
  | _ => .bad
def cutL {α : Type} (xs : List α) (lo hi : Option Int) : List α := (xs.drop (HT.sIx xs.length 0 lo)).take (HT.sIx xs.length xs.length hi - HT.sIx xs.length 0 lo)
abbrev PSl := Option Int → Option Int → P1
def pSl : PSl := fun lo hi d S => match d with
  | .d (.lst xs) => some (.d (.lst (cutL xs lo hi)), S)
  | .d (.scr xs) => some (.d (.lst (cutL xs lo hi)), S)
  | .d (.tup xs) => some (.d (.tup (cutL xs lo hi)), S)
  | .d (.str z) => if z.length ≤ 16777216 then some (.d (.str (cutS z lo hi)), S) else none
  | .loc n => (match S[n]? with
    | some (.lst ds) => (match pures ds with
      | some xs => some (.d (.lst (cutL xs lo hi)), S)
      | none => none)
    | _ => none)
  | _ => none
def mSl (p : PSl) (m : M Dv) (l h : M (Option Int)) : M Dv := fun ρ S => (m ρ S).bind fun d S1 => (l ρ S1).bind fun lo S2 => (h ρ S2).bind fun hi S3 => lift (p lo hi d S3)
def qSl (G : Gs) (p : PSl) : V → Option Int → Option Int → Hp → VK → Prop := fun x lo hi H Q => ∃ A S d, RD G A H d x ∧ StR G A S H ∧ Po G Ez A H (lift (p lo hi d S)) (kD G Q)
theorem cut_rvs {G : Gs} {A : Al} {H : Hp} {ts : List Dt} {vs : List V} {lo hi : Option Int} (r : RVs G A H ts vs) : RVs G A H (cutL ts lo hi) (cutV vs lo hi) := by
  unfold cutL cutV
  rw [← r.length]
  exact (r.drop _).take _
theorem cut_all {α : Type} {xs : List α} {lo hi : Option Int} (h : HT.sIx xs.length 0 lo = 0 ∧ HT.sIx xs.length xs.length hi = xs.length) : cutL xs lo hi = xs := by
  unfold cutL
  rw [h.1, h.2]
  simp
section
variable {X : Cx} {G : Gs} {W : WX} {k : Nat} {e : Expr} {m : M Dv} {lo hi : Option Expr} {ml mh : M (Option Int)} {pos p2 : Pos} {p : PSl}
theorem o_no : PO X none (tMO G W oNo) := ⟨fun pins s σ H Q I h => by
  obtain ⟨A, ρ, S, he, hs, p⟩ := h
  exact po_none.run pins s σ H Q I (Po.now p hs)⟩
theorem o_pt (h : PE X e (tM G W m)) : PO X (some e) (tMO G W (oPt m)) := ⟨fun pins s σ H Q I q => by
  obtain ⟨A, ρ, S, he, hs, p⟩ := q
  refine (po_some h).run pins s σ H Q I ⟨A, ρ, S, he, hs, Po.step p fun d S1 A1 H1 x1 s1 p1 v rv => ?_⟩
  split at p1
  · exact ⟨_, rv, Po.now p1 s1⟩
  · exact p1.elim⟩
theorem _root_.L2.SlR.sm {X : Cx} {r r' : V → Option Int → Option Int → Hp → VK → Prop} (h : SlR X r) (f : ∀ x lo hi H Q, r' x lo hi H Q → r x lo hi H Q) : SlR X r' :=
  fun pins s σ H x v vl vu lo hi sl Q I rx a b c q => h pins s σ H x v vl vu lo hi sl Q I rx a b c (f x lo hi H Q q)
theorem e_sl (hr : SlR X (qSl G p)) (he : PE X e (tM G W m)) (hl : PO X lo (tMO G W ml)) (hh : PO X hi (tMO G W mh)) : PE X (.Subscript e (.Slice lo hi none p2) pos) (tM G W (mSl p m ml mh)) := by
  refine (pe_slice hr he hl hh).sm fun σ H Q h => ?_
  obtain ⟨A, ρ, S, he, hs, p0⟩ := h
  refine ⟨A, ρ, S, he, hs, Po.step p0 fun d S1 A1 H1 x1 s1 p1 v rv => ?_⟩
  refine ⟨A1, ρ, S1, he.kp x1.kp, s1, Po.step p1 fun l S2 A2 H2 x2 s2 p2 => ?_⟩
  refine ⟨A2, ρ, S2, (he.kp x1.kp).kp x2.kp, s2, Po.step p2 fun h S3 A3 H3 x3 s3 p3 => ?_⟩
  exact ⟨A3, S3, d, (rv.kp x2.kp).kp x3.kp, s3, Po.lift p3⟩
theorem sl_any (hK : G.K = X.K) : SlR X (qSl G pSl) := by
  refine (sl_list.or (sl_tupA.or sl_str)).sm fun x lo hi H Q h => ?_
  obtain ⟨A, S, d, rd, s, p⟩ := h
  unfold pSl at p
  split at p
  · obtain ⟨a, vs, rfl, ha, hv⟩ := rd
    refine .inl ⟨a, vs, rfl, ?_, poL p s (cut_rvs hv)⟩
    rw [← hK]; exact ha.sq
  · obtain ⟨a, vs, rfl, ha, hv⟩ := rd
    refine .inl ⟨a, vs, rfl, ?_, poL p s (cut_rvs hv)⟩
    rw [← hK]; exact ha.sq
  · obtain ⟨a, vs, rfl, ha, hv⟩ := rd
    refine .inr (.inl ⟨a, vs, rfl, ?_, fun hw => ?_, fun _ => poT p s (cut_rvs hv)⟩)
    · rw [← hK]; exact ha.sq
    · rw [← hv.length] at hw
      rw [cut_all hw] at p
      exact Po.now p s _ ⟨a, vs, rfl, ha, hv⟩
  · split at p
    · rename_i hl
      exact .inr (.inr ⟨_, rd, line_of hl, Po.now p s _ rfl⟩)
    · exact p.elim
  · rename_i n
    split at p
    · rename_i ds e1
      split at p
      · rename_i xs e2
        obtain ⟨a, vs, rfl, _, hl, hv⟩ := loc_lst s rd e1
        exact .inl ⟨a, vs, rfl, .inl (.inl hl), poL p s (cut_rvs (pures_rvs e2 hv))⟩
      · exact p.elim
    · exact p.elim
  · exact p.elim
end
end Sm
namespace Sm
open PySem PySem.Spec PyProof.Rows L2
section
variable {G : Gs} {A : Al} {H : Hp}
theorem RDs.one {d : Dv} {vs : List V} (r : RDs G A H [d] vs) : ∃ v, vs = [v] ∧ RD G A H d v := by
  cases r with
  | cons h t =>
    cases t
    exact ⟨_, rfl, h⟩
theorem keys_rvs : ∀ {kvs : List (Key × V)}, RVs G A H ((kvs.map (·.1)).map kT) (kvs.map fun kv => kV kv.1)
  | [] => (rfl : ([] : List V) = [])
  | kv :: r => ⟨_, _, rfl, kT_rv kv.1, keys_rvs⟩
end
def pLen : PN := fun ds S => match ds with
  | [.d (.str z)] => if z.length ≤ 16777216 then some (.d (.int (z.length : Nat)), S) else none
  | [d] => (match dctAt S d with
    | some (ks, _) => some (.d (.int (ks.length : Nat)), S)
    | none => (match seqAt S d with
      | some xs => some (.d (.int (xs.length : Nat)), S)
      | none => none))
  | _ => none
def itemsOf (S : Sto) (d : Dv) : Option (List Dt) := match dctAt S d with
  | some (ks, _) => some (ks.map kT)
  | none => (match seqAt S d with
    | some xs => pures xs
    | none => none)
def pList : PN := fun ds S => match ds with
  | [d] => (match itemsOf S d with
    | some ts => some (.d (.lst ts), S)
    | none => none)
  | _ => none
def pListB : PN := fun ds S => match ds with
  | [d] => (match itemsOf S d with
    | some ts => some (.loc S.length, S ++ [.lst (ts.map .d)])
    | none => none)
  | _ => none
def pInt : PN := fun ds S => match ds with
  | [.d (.int i)] => some (.d (.int i), S)
  | [.d (.bl b)] => some (.d (.int (if b then 1 else 0)), S)
  | _ => none
def pAbs : PN := fun ds S => match ds with
  | [.d (.int i)] => some (.d (.int (if i < 0 then -i else i)), S)
  | _ => none
def blsOf : List Dt → Option (List Bool)
  | [] => some []
  | .bl b :: r => (blsOf r).map (b :: ·)
  | _ => none
def lstT (S : Sto) (d : Dv) : Option (List Dt) := match d with
  | .d (.scr xs) => some xs
  | d => (lstAt S d).bind pures
def pTuple : PN := fun ds S => match ds with
  | [.d (.tup ts)] => some (.d (.tup ts), S)
  | [d] => (match dctAt S d with
    | some (ks, _) => some (.d (.tup (ks.map kT)), S)
    | none => (match lstT S d with
      | some ts => some (.d (.tup ts), S)
      | none => none))
  | _ => none
def pAll : PN := fun ds S => match ds with
  | [d] => (match (lstT S d).bind blsOf with
    | some bs => some (.d (.bl (bs.all id)), S)
    | none => none)
  | _ => none
def pAny : PN := fun ds S => match ds with
  | [d] => (match (lstT S d).bind blsOf with
    | some bs => some (.d (.bl (bs.any id)), S)
    | none => none)
  | _ => none
theorem lstT_rd {G : Gs} {A : Al} {S : Sto} {H : Hp} {d : Dv} {v : V} {ts : List Dt} (s : StR G A S H) (r : RD G A H d v) (h : lstT S d = some ts) : ∃ a vs, v = .ref a ∧ SqL G.K H a vs ∧ RVs G A H ts vs := by
  unfold lstT at h
  split at h
  · cases h
    obtain ⟨a, vs, rfl, ha, hv⟩ := r
    exact ⟨a, vs, rfl, ha.sq, hv⟩
  · cases e : lstAt S d with
    | none => rw [e] at h; cases h
    | some ds =>
      rw [e] at h
      obtain ⟨a, vs, rfl, hl, hv⟩ := lstAt_rd s r e
      exact ⟨a, vs, rfl, .inl (.inl hl), pures_rvs h hv⟩
theorem bls_rv {G : Gs} {A : Al} {H : Hp} : ∀ {ts : List Dt} {bs : List Bool} {vs : List V}, blsOf ts = some bs → RVs G A H ts vs → vs = bs.map V.bl
  | [], bs, vs, e, r => by
    cases e
    exact r
  | t :: ts, bs, vs, e, r => by
    obtain ⟨v, w, rfl, r1, r2⟩ := r
    cases t with
    | bl b =>
      unfold blsOf at e
      cases e1 : blsOf ts with
      | none => rw [e1] at e; cases e
      | some cs =>
        rw [e1] at e
        cases e
        obtain rfl : v = .bl b := r1
        rw [bls_rv e1 r2]
        rfl
    | _ => cases e
theorem collect_src {prog : Program} {w : World} {A : Around} {E : Value → Shared → Prop} {s : Shared} {T : String} {r d : Addr} {n : Nat} {P : Nat → Value → Prop} {OK : Heap → Prop} {Q : List Value → Shared → Prop}
    (K : PySem.W.KdlSrc prog w T r d n P OK) (hh : A.handled = none) (hok : OK s.heap) (hn : n ≤ sizeLine)
    (hQ : ∀ (h' : Heap) (tk : Nat) (acc : Array Value), (∀ b o, s.heap.get? b = some o → h'.get? b = some o) → ItemsOf P acc n → Q acc.toList { s with heap := h', toks := tk }) : wpAny (model prog w) A (collect (.ref r)) Q E s := by
  unfold collect
  refine wpAny_bind (wpAny_runValue (codeAny_builtin F.entry_proto_collect ?_))
  rw [Around.under_plainId F.plain_proto_collect _]
  show wpAny _ A.in1 (newList [] >>= fun z => again (.builtin "list.__iadd__" ⟨[z, .ref r], []⟩)) _ _ s
  refine wpAny_bind (wpAny_newObj_type ?_)
  refine wpAny_pure ⟨plainId_quiet F.plain_list_iadd _, codeAny_builtin F.entry_list_iadd ?_⟩
  rw [Around.under_plainId F.plain_list_iadd _]
  have hS : (s.heap.push { cls := .type "list", data := .seq ([] : List Value).toArray }).get? s.heap.objs.size = some { cls := .type "list", data := .seq #[] 0 } := Heap.get?_push_size _ rfl
  have hlt := K.there _ hok
  refine wpAny_mono (PySem.W.kdl_extend (A := A) (R := fun z s' => z = .ok (.ret (.ref s.heap.objs.size)) ∧ wpAny (model prog w) A (load s.heap.objs.size >>= fun o => match o.data with
      | Data.seq xs _ => pure xs.toList
      | _ => unsupported "internal:collect") Q E s') (s := { s with heap := s.heap.push { cls := .type "list", data := .seq ([] : List Value).toArray } }) K hh (K.keep _ _ hok fun b _ o e => Heap.get?_push_of_some _ e) s.heap.objs.size (Nat.ne_of_gt hlt.1) (Nat.ne_of_gt hlt.2) _ 0 hS (fun h' tk acc c k1 e1 hi => ?_) hn) (fun fin s' h => ?_) fun e s' h => ?_
  · refine ⟨rfl, wpAny_bind (wpAny_load e1 ?_)⟩
    exact wpAny_pure (hQ h' tk acc (fun b o e => k1 b o (Nat.ne_of_lt (Heap.lt_size e)) (Heap.get?_push_of_some _ e)) hi)
  · cases fin with
    | done f =>
      obtain ⟨e, h⟩ := h
      cases e
      exact h
    | again c' => exact ⟨h.1, codeAny_mono h.2 fun r s'' hr => by
        obtain ⟨rfl, hr⟩ := hr
        exact hr⟩
  · exact absurd h.1 (by simp)
theorem call_tuple_src {prog : Program} {w : World} {A : Around} {E : Value → Shared → Prop} {s : Shared} {r d : Addr} {n : Nat} {P : Nat → Value → Prop} {OK : Heap → Prop} {Q : Value → Shared → Prop}
    (K : PySem.W.KdlSrc prog w "dict" r d n P OK) (hh : A.handled = none) (hok : OK s.heap) (hn : n ≤ sizeLine)
    (hQ : ∀ (h' : Heap) (tk : Nat) (acc : Array Value), (∀ b o, s.heap.get? b = some o → h'.get? b = some o) → ItemsOf P acc n → Q (.ref h'.objs.size) { s with heap := h'.push { cls := .type "tuple", data := .seq acc }, toks := tk }) : wpAny (model prog w) A (call (.type "tuple") [.ref r]) Q E s := by
  have hnew : codeAny (model prog w) A.in1 (.call (.builtin "tuple.__new__") ⟨[.type "tuple", .ref r], []⟩) (wants (fun obj s₁ => s₁.TypeIs obj "tuple" ∧ Q obj s₁) E) s := by
    refine codeAny_of_tree ?_
    show wpAny _ A.in1.in1 (do checkBuiltinCall "tuple.__new__" ⟨[.type "tuple", .ref r], []⟩; again (.builtin "tuple.__new__" ⟨[.type "tuple", .ref r], []⟩)) _ _ s
    refine wpAny_bind (wpAny_of_eq (F.newCall_tuple_1 _) (wpAny_pure ⟨plainId_quiet F.plain_tuple_new _, codeAny_builtin F.entry_tuple_new ?_⟩))
    rw [Around.under_plainId F.plain_tuple_new _]
    have hsub := sub_tuple_self
    have hinit := init_tuple_lookup
    have hmh := madeHere_tuple
    have hTI : s.TypeIs (.ref r) "dict" := K.type s hok
    have hh1 : A.in1.in1.handled = none := hh
    wp_walk using wpAny_typeOf hTI, collect_src (A := A.in1.in1) K hh1 hok hn
    intro h' tk acc hk hacc
    show wpAny _ _ (Builtin.Tuple.tupleExact acc.toList.toArray >>= fun v => ret v) _ _ _
    unfold Builtin.Tuple.tupleExact
    refine wpAny_bind (wpAny_newObj_type ?_ (by show acc.toList.toArray.size ≤ sizeLine; simp only [Array.toArray_toList]; rw [hacc.1]; exact hn))
    refine wpAny_pure ?_
    rw [show acc.toList.toArray = acc by simp]
    exact ⟨⟨_, Heap.get?_push_size _ rfl, rfl⟩, hQ h' tk acc hk hacc⟩
  refine callType_codes (Q₁ := fun obj s₁ => s₁.TypeIs obj "tuple" ∧ Q obj s₁) F.called_tuple (F.typeCall_tuple_1 _) F.entry_object_init hnew fun obj s₁ h₁ => ?_
  exact ⟨h₁.1, F.args_object_init_2 obj _, object_init_meets F.called_tuple.init.lookup F.called_tuple.made (by decide) prog w A.in1 _ s₁ ⟨h₁.1, rfl, h₁.2⟩⟩
section
variable {X : Cx} {G : Gs} {W : WX} {k : Nat}
theorem keys_vals {kvs : List (Key × V)} {vs : List (Key × Value)} {P : Program} {w : World} (rk : KV kvs vs) {acc : Array Value} (h : ItemsOf (fun i v => ∃ k x, vs[i]? = some (k, x) ∧ (mixKind P w).is k v = true) acc vs.length) : Vals (kvs.map fun kv => kV kv.1) acc.toList := by
  have hl : kvs.length = vs.length := Paired.length rk
  refine vals_of_at (by simp [h.1, hl]) fun j x w h1 h2 => ?_
  obtain ⟨k, y, hky, hi⟩ := h.2 j w (by rw [← Array.getElem?_toList]; exact h2)
  have e1 : (kvs.map (·.1))[j]? = some k := by
    rw [KV.keys rk, List.getElem?_map, hky]
    rfl
  have e2 : (kvs.map fun kv => kV kv.1)[j]? = some (kV k) := by
    rw [show (kvs.map fun kv => kV kv.1) = (kvs.map (·.1)).map kV by rw [List.map_map]; rfl, List.getElem?_map, e1]
    rfl
  rw [e2] at h1
  cases h1
  exact keyIs_rel hi
theorem call_list_dR (hc : X.calm = true) : CallR X (.type "list") (fun xs H Q => ∃ p kvs, xs = [.ref p] ∧ Rd H p (.dK kvs) ∧ ∀ q, H q = none → Q (.ref q) (upd H q (.lst (kvs.map fun kv => kV kv.1)))) := by
  intro pins s σ H xs us Q I r h
  obtain ⟨p, kvs, rfl, hk, q⟩ := h
  obtain rfl := Vals.ref1 r
  obtain ⟨z, lo, vs, rk, hd⟩ := dk_rd I.hok hk
  obtain ⟨ep, hat⟩ := hd.dictAt
  have hl : kvs.length = vs.length := Paired.length rk
  refine PySem.W.kdl_call (PySem.W.kdl_dict (knd := mixKind X.prog X.w) (kvs := vs) (ep := ep) lo) (I.ok.hd hc) hat (by rw [← hl]; exact z) fun h' tk acc c' hkeep hS hacc => ?_
  exact ⟨.ref s.heap.objs.size, upd H s.heap.objs.size (.lst (kvs.map fun kv => kV kv.1)), I.laid hkeep (Nat.le_refl _) (show ObjOk X.prog X.w _ _ _ (.lst (kvs.map fun kv => kV kv.1)) from ⟨by rw [List.length_map]; exact z, acc.toList, c', keys_vals rk hacc, by rw [Array.toArray_toList]; exact hS⟩), rfl, q _ (I.hok.fresh (Nat.le_refl _))⟩
theorem call_tuple_dR (hc : X.calm = true) : CallR X (.type "tuple") (fun xs H Q => ∃ p kvs, xs = [.ref p] ∧ Rd H p (.dK kvs) ∧ ∀ q, H q = none → Q (.ref q) (upd H q (.tup (kvs.map fun kv => kV kv.1)))) := by
  intro pins s σ H xs us Q I r h
  obtain ⟨p, kvs, rfl, hk, q⟩ := h
  obtain rfl := Vals.ref1 r
  obtain ⟨z, lo, vs, rk, hd⟩ := dk_rd I.hok hk
  obtain ⟨ep, hat⟩ := hd.dictAt
  have hl : kvs.length = vs.length := Paired.length rk
  refine call_tuple_src (PySem.W.kdl_dict (knd := mixKind X.prog X.w) (kvs := vs) (ep := ep) lo) (I.ok.hd hc) hat (by rw [← hl]; exact z) fun h' tk acc hkeep hacc => ?_
  have I2 : Inv X pins σ H { s with heap := h', toks := tk } := I.kept hkeep
  exact ⟨.ref h'.objs.size, upd H h'.objs.size (.tup (kvs.map fun kv => kV kv.1)), I2.laid (t' := tk) (fun c o e => Heap.get?_push_of_some _ e) (Nat.le_refl _) (show ObjOk X.prog X.w _ _ _ (.tup (kvs.map fun kv => kV kv.1)) from ⟨by rw [List.length_map]; exact z, acc.toList, keys_vals rk hacc, by rw [Array.toArray_toList]; exact IsTup.new _ _⟩), rfl, q _ (I2.hok.fresh (Nat.le_refl _))⟩
theorem call_len_dR : CallR X (.builtin "len") (fun xs H Q => ∃ a kvs, xs = [.ref a] ∧ Rd H a (.dK kvs) ∧ Q (.int (kvs.length : Nat)) H) := by
  intro pins s σ H xs us Q I r h
  obtain ⟨p, kvs, rfl, hk, q⟩ := h
  obtain rfl := Vals.ref1 r
  exact d_len I hk fun t s' I' => ⟨.int (kvs.length : Nat), H, I', ⟨t, rfl⟩, q⟩
theorem items_rd {A : Al} {S : Sto} {H : Hp} {d : Dv} {v : V} {ts : List Dt} (s : StR G A S H) (r : RD G A H d v) (h : itemsOf S d = some ts) :
    (∃ a kvs, v = .ref a ∧ Rd H a (.dK kvs) ∧ ts = (kvs.map (·.1)).map kT) ∨ ∃ a vs, v = .ref a ∧ (SqL G.K H a vs ∨ SqT G.K H a vs) ∧ RVs G A H ts vs := by
  unfold itemsOf at h
  split at h
  · rename_i ks xs e1
    obtain ⟨a, kvs, ev, hl, ek, hv⟩ := dctAt_rd s r e1
    cases h
    exact .inl ⟨a, kvs, ev, hl, by rw [ek]⟩
  · split at h
    · rename_i ds e2
      obtain ⟨a, vs, ev, hs, hv⟩ := seqAt_rd s r e2
      exact .inr ⟨a, vs, ev, hs, pures_rvs h hv⟩
    · cases h
theorem b_len (hK : G.K = X.K) : CallR X (.builtin "len") (qN G pLen) := by
  refine (call_len_seq.or (call_len_str.or call_len_dR)).sm fun xs H Q h => ?_
  obtain ⟨A, S, ds, rd, s, p⟩ := h
  unfold pLen at p
  split at p
  · obtain ⟨v, rfl, r⟩ := RDs.one rd
    split at p
    · rename_i z hl
      obtain rfl : v = .str _ := r
      exact .inr (.inl ⟨_, rfl, line_of hl, Po.now p s _ rfl⟩)
    · exact p.elim
  · obtain ⟨v, rfl, r⟩ := RDs.one rd
    split at p
    · rename_i ks xs e1
      obtain ⟨a, kvs, rfl, hl, ek, hv⟩ := dctAt_rd s r e1
      refine .inr (.inr ⟨a, kvs, rfl, hl, ?_⟩)
      rw [show kvs.length = ks.length by rw [← ek, List.length_map]]
      exact Po.now p s _ rfl
    · split at p
      · rename_i xs e2
        obtain ⟨a, vs, rfl, hs, hv⟩ := seqAt_rd s r e2
        refine .inl ⟨a, vs, rfl, by rw [← hK]; exact hs, ?_⟩
        rw [← Paired.length hv]
        exact Po.now p s _ rfl
      · exact p.elim
  · exact p.elim
theorem b_list (hK : G.K = X.K) (hc : X.calm = true) : CallR X (.type "list") (qN G pList) := by
  refine (call_list_of.or (call_list_dR hc)).sm fun xs H Q h => ?_
  obtain ⟨A, S, ds, rd, s, p⟩ := h
  unfold pList at p
  split at p
  · obtain ⟨v, rfl, r⟩ := RDs.one rd
    split at p
    · rename_i ts e1
      rcases items_rd s r e1 with ⟨a, kvs, rfl, hl, rfl⟩ | ⟨a, vs, rfl, hs, hv⟩
      · exact .inr ⟨a, kvs, rfl, hl, poL p s keys_rvs⟩
      · exact .inl ⟨a, vs, rfl, by rw [← hK]; exact hs, poL p s hv⟩
    · exact p.elim
  · exact p.elim
theorem b_listB (hK : G.K = X.K) (hc : X.calm = true) : CallR X (.type "list") (qN G pListB) := by
  refine (call_list_of.or (call_list_dR hc)).sm fun xs H Q h => ?_
  obtain ⟨A, S, ds, rd, s, p⟩ := h
  unfold pListB at p
  split at p
  · obtain ⟨v, rfl, r⟩ := RDs.one rd
    split at p
    · rename_i ts e1
      rcases items_rd s r e1 with ⟨a, kvs, rfl, hl, rfl⟩ | ⟨a, vs, rfl, hs, hv⟩
      · exact .inr ⟨a, kvs, rfl, hl, poB p s keys_rvs.rds⟩
      · exact .inl ⟨a, vs, rfl, by rw [← hK]; exact hs, poB p s hv.rds⟩
    · exact p.elim
  · exact p.elim
theorem b_tuple (hK : G.K = X.K) (hc : X.calm = true) : CallR X (.type "tuple") (qN G pTuple) := by
  refine (call_tuple_of.or (call_tuple_dR hc)).sm fun xs H Q h => ?_
  obtain ⟨A, S, ds, rd, s, p⟩ := h
  unfold pTuple at p
  split at p
  · obtain ⟨v, rfl, r⟩ := RDs.one rd
    obtain ⟨a, vs, rfl, ha, hv⟩ := r
    exact .inl ⟨a, vs, rfl, .inr ⟨by rw [← hK]; exact ha.sq, Po.now p s _ ⟨a, vs, rfl, ha, hv⟩⟩⟩
  · obtain ⟨v, rfl, r⟩ := RDs.one rd
    split at p
    · rename_i ks xs e1
      obtain ⟨a, kvs, rfl, hl, ek, hv⟩ := dctAt_rd s r e1
      subst ek
      exact .inr ⟨a, kvs, rfl, hl, poT p s keys_rvs⟩
    · split at p
      · rename_i ts e2
        obtain ⟨a, vs, rfl, hs, hv⟩ := lstT_rd s r e2
        exact .inl ⟨a, vs, rfl, .inl ⟨by rw [← hK]; exact hs, poT p s hv⟩⟩
      · exact p.elim
  · exact p.elim
theorem b_int : CallR X (.type "int") (qN G pInt) := by
  refine call_int1.sm fun xs H Q h => ?_
  obtain ⟨A, S, ds, rd, s, p⟩ := h
  unfold pInt at p
  split at p
  · obtain ⟨v, rfl, r⟩ := RDs.one rd
    obtain rfl : v = .int _ := r
    exact .inl ⟨_, rfl, Po.now p s _ rfl⟩
  · obtain ⟨v, rfl, r⟩ := RDs.one rd
    obtain rfl : v = .bl _ := r
    exact .inr ⟨_, rfl, Po.now p s _ rfl⟩
  · exact p.elim
theorem b_abs : CallR X (.builtin "abs") (qN G pAbs) := by
  refine call_abs.sm fun xs H Q h => ?_
  obtain ⟨A, S, ds, rd, s, p⟩ := h
  unfold pAbs at p
  split at p
  · obtain ⟨v, rfl, r⟩ := RDs.one rd
    obtain rfl : v = .int _ := r
    exact ⟨_, rfl, Po.now p s _ rfl⟩
  · exact p.elim
theorem b_all (hK : G.K = X.K) (hc : X.calm = true) : CallR X (.builtin "all") (qN G pAll) := by
  refine (cr_all hc).sm fun xs H Q h => ?_
  obtain ⟨A, S, ds, rd, s, p⟩ := h
  unfold pAll at p
  split at p
  · obtain ⟨v, rfl, r⟩ := RDs.one rd
    split at p
    · rename_i bs e
      obtain ⟨ts, e1, e2⟩ := Option.bind_eq_some_iff.mp e
      obtain ⟨a, vs, rfl, hs, hv⟩ := lstT_rd s r e1
      obtain rfl := bls_rv e2 hv
      exact ⟨a, bs, rfl, by rw [← hK]; exact hs, Po.now p s _ rfl⟩
    · exact p.elim
  · exact p.elim
theorem b_any (hK : G.K = X.K) (hc : X.calm = true) : CallR X (.builtin "any") (qN G pAny) := by
  refine (cr_any hc).sm fun xs H Q h => ?_
  obtain ⟨A, S, ds, rd, s, p⟩ := h
  unfold pAny at p
  split at p
  · obtain ⟨v, rfl, r⟩ := RDs.one rd
    split at p
    · rename_i bs e
      obtain ⟨ts, e1, e2⟩ := Option.bind_eq_some_iff.mp e
      obtain ⟨a, vs, rfl, hs, hv⟩ := lstT_rd s r e1
      obtain rfl := bls_rv e2 hv
      exact ⟨a, bs, rfl, by rw [← hK]; exact hs, Po.now p s _ rfl⟩
    · exact p.elim
  · exact p.elim
end
end Sm
namespace Sm
open PySem PySem.Spec PyProof.Rows L2
def isaT (a b : String) : Bool := a == b || (a == "bool" && b == "int")
def tyL : List String := ["NoneType", "bool", "int", "str", "tuple", "list", "dict"]
def tyR : List String := ["bool", "int", "str", "tuple", "list", "dict"]
theorem kit_all : ∀ a ∈ tyL, ∀ b ∈ tyR, kitB a b = some (isaT a b) := by decide +kernel
theorem kit_any {K : PySem.W.Frag} {a : String} (ha : a ∈ tyL) : ∀ {bs : List String}, (∀ b ∈ bs, b ∈ tyR) → PySem.W.kitAny K (.type a) (bs.map Value.type) = some (bs.any (isaT a))
  | [], _ => kitAny_nil
  | b :: bs, h => by
    have h1 := kit_ty (K := K) (kit_all a ha b (h b List.mem_cons_self))
    have h2 := kit_any (K := K) ha (bs := bs) fun c hc => h c (List.mem_cons_of_mem _ hc)
    refine kitAny_cons h1 (fun e => ?_) fun e => ?_
    · rw [List.any_cons, e]
      exact h2
    · rw [List.any_cons, e]
      rfl
def tyDv (S : Sto) (d : Dv) : Option String := match d with
  | .d .non => some "NoneType"
  | .d (.bl _) => some "bool"
  | .d (.int _) => some "int"
  | .d (.str _) => some "str"
  | .d (.tup _) => some "tuple"
  | .d (.lst _) => some "list"
  | .d (.scr _) => some "list"
  | .d (.ltp _) => some "tuple"
  | .d (.dct _ _) => some "dict"
  | .loc n => (match S[n]? with
    | some (.lst _) => some "list"
    | some (.dct _ _) => some "dict"
    | _ => none)
  | _ => none
theorem tyDv_rd {G : Gs} {A : Al} {S : Sto} {H : Hp} {d : Dv} {v : V} {T : String} (s : StR G A S H) (r : RD G A H d v) (h : tyDv S d = some T) : T ∈ tyL ∧ TyX G.K H v (.type T) := by
  unfold tyDv at h
  split at h
  · cases h
    obtain rfl : v = .non := r
    exact ⟨by decide, .base .non⟩
  · cases h
    obtain rfl : v = .bl _ := r
    exact ⟨by decide, .base (.bl _)⟩
  · cases h
    obtain rfl : v = .int _ := r
    exact ⟨by decide, .base (.int _)⟩
  · cases h
    obtain rfl : v = .str _ := r
    exact ⟨by decide, .base (.str _)⟩
  · cases h
    obtain ⟨a, vs, rfl, ha, _⟩ := r
    refine ⟨by decide, ?_⟩
    rcases ha.sq with (h | ⟨o, h⟩) | ⟨o, its, n, h1, h2, _⟩
    · exact .base (.tup h)
    · exact .fTuple h
    · exact .kTuple h1 h2
  · cases h
    obtain ⟨a, vs, rfl, ha, _⟩ := r
    exact ⟨by decide, .base (.lst ha.1)⟩
  · cases h
    obtain ⟨a, vs, rfl, ha, _⟩ := r
    refine ⟨by decide, ?_⟩
    rcases ha.sq with (h | ⟨o, h⟩) | ⟨o, its, n, h1, h2, _⟩
    · exact .base (.lst h)
    · exact .base (.frz h)
    · exact .kList h1 h2
  · cases h
    obtain ⟨a, vs, rfl, ha, _⟩ := r
    refine ⟨by decide, ?_⟩
    rcases ha H with (h | ⟨o, h⟩) | ⟨o, its, n, h1, h2, _⟩
    · exact .base (.tup h)
    · exact .fTuple h
    · exact .kTuple h1 h2
  · cases h
    obtain ⟨a, kvs, rfl, _, h, _⟩ := r
    refine ⟨by decide, ?_⟩
    rcases h with h | ⟨o, h⟩
    · exact .base (.dK h)
    · exact .fDict h
  · rename_i n
    split at h
    · rename_i e
      cases h
      obtain ⟨a, vs, rfl, _, hl, _⟩ := loc_lst s r e
      exact ⟨by decide, .base (.lst hl)⟩
    · rename_i e
      cases h
      obtain ⟨a, vs, rfl, _, hl, _⟩ := loc_dct s r e
      exact ⟨by decide, .base (.dK hl)⟩
    · cases h
  · cases h
def pIsa (bs : List String) : P1 := fun d S => match tyDv S d with
  | some T => some (.d (.bl (bs.any (isaT T))), S)
  | none => none
theorem clsv_all : ∀ bs : List String, Paired ClsV (bs.map V.ty) (bs.map Value.type)
  | [] => .nil
  | b :: bs => .cons (.ty b) (clsv_all bs)
section
variable {X : Cx} {G : Gs} {W : WX} {k : Nat} {e T : Expr} {es : List Expr} {p pos tpos : Pos} {m : M Dv} {bs : List String} {b : String}
theorem e_isa (hK : G.K = X.K) (hg : Gl X "isinstance") (hm : X.mg "isinstance" = none) (hb : b ∈ tyR) (he : PE X e (tM G W m)) (hT : PE X T (tC (.ty b))) (hs : starEach [e, T] X.env = (false, eval e X.env) :: starEach [T] X.env) (hs2 : starEach [T] X.env = (false, eval T X.env) :: starEach [] X.env)
    (hpl : (backTo pos (starEach [T] X.env)).any (·.1) = false) : PE X (.Call (.Name "isinstance" p) [e, T] [] pos) (tM G W (m1 (pIsa [b]) m)) := by
  refine (pe_callB call_isi hg hm PyProof.Rows.boot_isinstance (pa_cons he (pa_cons hT pa_nil hs2) hs) (by decide) (by decide) hs hpl).sm fun σ H Q h => ?_
  obtain ⟨A, ρ, S, he, hs, p0⟩ := h
  refine ⟨A, ρ, S, he, hs, Po.step p0 fun d S1 A1 H1 x1 s1 p1 v rv => ?_⟩
  unfold pIsa at p1
  split at p1
  · rename_i U hU
    obtain ⟨hL, ty⟩ := tyDv_rd s1 rv hU
    rw [hK] at ty
    have h1 := kit_ty (K := X.K) (kit_all U hL b hb)
    refine ⟨v, .ty b, .type U, .type b, _, rfl, .ty b, ty, h1, ?_⟩
    have := Po.now p1 s1 (.bl ([b].any (isaT U))) rfl
    simpa using this
  · exact p1.elim
theorem e_isaT (hK : G.K = X.K) (hg : Gl X "isinstance") (hm : X.mg "isinstance" = none) (bs : List String) (hb : ∀ b ∈ bs, b ∈ tyR) (hz : bs.length ≤ 100) (he : PE X e (tM G W m)) (hes : PA X es (fun σ H Q => Q (bs.map V.ty) H)) {kk : Nat} (hs : starEach [e, .Tuple es kk tpos] X.env = (false, eval e X.env) :: starEach [.Tuple es kk tpos] X.env)
    (hs2 : starEach [.Tuple es kk tpos] X.env = (false, eval (.Tuple es kk tpos) X.env) :: starEach [] X.env) (hpl : (backTo pos (starEach [.Tuple es kk tpos] X.env)).any (·.1) = false) : PE X (.Call (.Name "isinstance" p) [e, .Tuple es kk tpos] [] pos) (tM G W (m1 (pIsa bs) m)) := by
  refine (pe_callB call_isiT hg hm PyProof.Rows.boot_isinstance (pa_cons he (pa_cons (pe_tup hes) pa_nil hs2) hs) (by decide) (by decide) hs hpl).sm fun σ H Q h => ?_
  obtain ⟨A, ρ, S, he, hs, p0⟩ := h
  refine ⟨A, ρ, S, he, hs, Po.step p0 fun d S1 A1 H1 x1 s1 p1 v rv => ⟨by rw [List.length_map]; exact line_of (by omega), fun q hq => ?_⟩⟩
  unfold pIsa at p1
  split at p1
  · rename_i U hU
    obtain ⟨hL, ty⟩ := tyDv_rd (s1.new (o := .tup (bs.map V.ty)) hq) (RD.kp (Ext.new hq).kp rv) hU
    rw [hK] at ty
    exact ⟨v, q, bs.map V.ty, .type U, bs.map Value.type, _, rfl, upd_same, clsv_all bs, ty, kit_any hL hb, Po.at p1 (Ext.new hq) (s1.new hq) _ rfl⟩
  · exact p1.elim
end
def stSub (o i d : Dv) (S : Sto) : Option Sto := match o with
  | .loc n => (match S[n]? with
    | some (.lst xs) => (match i with
      | .d (.int k) => (match ixN xs.length k with
        | some j => some (S.set n (.lst (xs.set j d)))
        | none => none)
      | _ => none)
    | some (.dct ks xs) => (match kOf i with
      | some j => if ks.length < 16777216 then some (S.set n (.dct (dputK ks j) (dputX ks xs j d))) else none
      | none => none)
    | _ => none)
  | _ => none
def sSub (mo mi mv : M Dv) : SM := fun ρ S => (mv ρ S).to ρ fun d S1 => (mo ρ S1).to ρ fun o S2 => (mi ρ S2).to ρ fun i S3 => oz (stSub o i d S3) fun S4 => .nx ρ S4
section
variable {X : Cx} {G : Gs} {W : WX} {k : Nat} {o i value : Expr} {p pos pos' : Pos} {mo mi mv : M Dv}
theorem line_lt {n : Nat} (h : n < 16777216) : n < sizeLine := by rw [sizeLine_eq]; exact h
theorem s_sub (hu : X.A.units + 64 < cLine) (ho : PE X o (tM G W mo)) (hi : PE X i (tM G W mi)) (hv : PE X value (tM G W mv)) (hs : swapsWith value (some (.Subscript o i pos')) pos.line X.env = pure false) : PS X (.Assign [.Subscript o i pos'] value pos) (tMS G W (sSub mo mi mv)) := by
  refine ⟨fun pins s σ H D I h => ?_⟩
  obtain ⟨A, ρ, S, he, st, p0⟩ := h
  refine wpAny_Assign_Subscript (thn (hv.run pins s σ H (fun v H1 => tM G W mo σ H1 fun x H2 => tM G W mi σ H2 fun y H3 => (rSetL x y v H3 (fun H4 => D.nx σ H4)) ∨ rSetD x y v H3 (fun H4 => D.nx σ H4)) I ⟨A, ρ, S, he, st, PoS.step he p0 fun d S1 A1 H1 x1 s1 e1 p1 v rv => ?_⟩)
    fun r s1 ⟨v, H1, I1, rv, q1⟩ => thn (ho.run pins s1 σ H1 _ I1 q1) fun u s2 ⟨x, H2, I2, rx, q2⟩ => thn (hi.run pins s2 σ H2 _ I2 q2) fun iv s3 ⟨y, H3, I3, ry, q3⟩ => ?_) hs
  · refine ⟨A1, ρ, S1, e1, s1, PoS.step e1 p1 fun o' S2 A2 H2 x2 s2 e2 p2 x rx => ?_⟩
    refine ⟨A2, ρ, S2, e2, s2, PoS.step e2 p2 fun i' S3 A3 H3 x3 s3 e3 p3 y ry => ?_⟩
    obtain ⟨S4, es, p4⟩ := oz_po p3
    have rx := RD.kp x3.kp rx
    have rv := RD.kp x3.kp (RD.kp x2.kp rv)
    unfold stSub at es
    split at es
    · rename_i n
      split at es
      · rename_i xs eo
        obtain ⟨a, vs, rfl, hl, ha, hvs⟩ := loc_lst s3 rx eo
        split at es
        · rename_i kk
          split at es
          · rename_i j ej
            cases es
            obtain ⟨x4, s4⟩ := set_lst s3 hl (hvs.set j rv)
            obtain rfl : y = .int kk := ry
            refine .inl ⟨a, vs, kk, j, rfl, rfl, ha, by rw [← Paired.length hvs]; exact ej, p4 A3 _ σ x4 s4 (e3.kp x4.kp)⟩
          · cases es
        · cases es
      · rename_i ks xs eo
        obtain ⟨a, kvs, rfl, hl, ha, ek, hvs⟩ := loc_dct s3 rx eo
        split at es
        · rename_i j ej
          split at es
          · rename_i hz
            cases es
            subst ek
            obtain ⟨x4, s4⟩ := set_dct s3 hl (dput_keys (kvs := kvs) (j := j) (y := v)) (dput_rds hvs rv)
            refine .inr ⟨a, _, rfl, .inl ⟨kvs, j, ha, kOf_rd ej ry, line_lt (by simpa using hz), rfl⟩, p4 A3 _ σ x4 s4 (e3.kp x4.kp)⟩
          · cases es
        · cases es
      · cases es
    · cases es
  · rcases q3 with q3 | q3
    · exact thn (set_list pins s3 σ H3 x y v u iv r _ I3 rx ry rv q3) fun _ s4 ⟨H4, I4, q4⟩ => ⟨σ, H4, I4, q4⟩
    · exact thn (set_dict (by omega) pins s3 σ H3 x y v u iv r _ I3 rx ry rv q3) fun _ s4 ⟨H4, I4, q4⟩ => ⟨σ, H4, I4, q4⟩
end
abbrev PM := Dv → List Dv → Sto → Pz Dv
def isLs (S : Sto) (d : Dv) : Bool := match lstAt S d with
  | some _ => true
  | none => false
def mLm (p : PM) (mo : M Dv) (ma : M (List Dv)) : M Dv := fun ρ S => (mo ρ S).bind fun o S1 => if isLs S1 o = true then (ma ρ S1).bind fun ds S2 => lift (p o ds S2) else .bad
def pAppend : PM := fun o ds S => match o, ds with
  | .loc n, [x] => (match S[n]? with
    | some (.lst xs) => if xs.length < 16777216 then some (.d .non, S.set n (.lst (xs ++ [x]))) else none
    | _ => none)
  | _, _ => none
def pExtend : PM := fun o ds S => match o, ds with
  | .loc n, [y] => (match S[n]?, lstAt S y with
    | some (.lst xs), some zs => if xs.length + zs.length ≤ 16777216 then some (.d .non, S.set n (.lst (xs ++ zs))) else none
    | _, _ => none)
  | _, _ => none
def pPopAt : PM := fun o ds S => match o, ds with
  | .loc n, [.d (.int i)] => (match S[n]? with
    | some (.lst xs) => if -(2 ^ 63) ≤ i ∧ i < 2 ^ 63 then (match seqIndex? i xs.length with
      | some j => (match xs[j]? with
        | some x => some (x, S.set n (.lst (xs.eraseIdx j)))
        | none => none)
      | none => none) else none
    | _ => none)
  | _, _ => none
def qM (G : Gs) (p : PM) : V → List V → Hp → VK → Prop := fun x xs H Q => ∃ A S d ds, RD G A H d x ∧ RDs G A H ds xs ∧ StR G A S H ∧ Po G Ez A H (lift (p d ds S)) (kD G Q)
section
variable {X : Cx} {G : Gs} {W : WX} {k : Nat} {o e : Expr} {es : List Expr} {name : Str} {id : String} {apos cpos : Pos} {mo : M Dv} {ma : M (List Dv)} {p : PM}
theorem isLs_ty (hK : G.K = X.K) {A : Al} {S : Sto} {H : Hp} {d : Dv} {v : V} (s : StR G A S H) (r : RD G A H d v) (h : isLs S d = true) : tyV X.K "list" v H := by
  unfold isLs at h
  split at h
  · rename_i ds e
    obtain ⟨a, vs, rfl, hl, _⟩ := lstAt_rd s r e
    exact .inl ⟨rfl, vs, .inl (.inl hl)⟩
  · cases h
theorem e_lm (hK : G.K = X.K) (slot : Slot "list" name id) (hty : typeOf (.builtin id) = pure (.type "method_descriptor")) (hm : MtR X id (qM G p)) (ho : PE X o (tM G W mo)) (ha : PA X (e :: es) (tMA G W ma)) (hbase : attributeBase o name X.env (eval o X.env) = eval o X.env)
    (hfew : ((backTo cpos (starEach (e :: es) X.env)).all (fun x => !x.1) && (backToKw cpos (keywordEach [] X.env)).all (fun x => x.1.isSome) && decide ((e :: es).length + ([] : List Keyword).length + (if ([] : List Keyword).isEmpty then 0 else 1) < 30)) = true)
    (hline : (apos.endLine == cpos.line) = true) (hs : starEach (e :: es) X.env = (false, eval e X.env) :: starEach es X.env) (hplain : (backTo cpos (starEach es X.env)).any (·.1) = false) : PE X (.Call (.Attribute o name apos) (e :: es) [] cpos) (tM G W (mLm p mo ma)) := by
  refine (pe_bm PySem.F.plainAttrs_list slot hty hm ho ha hbase hfew hline hs hplain).sm fun σ H Q h => ?_
  obtain ⟨A, ρ, S, he, st, p0⟩ := h
  refine ⟨A, ρ, S, he, st, Po.step p0 fun d S1 A1 H1 x1 s1 p1 v rv => ?_⟩
  by_cases hi : isLs S1 d = true
  · simp only [hi, if_true] at p1
    refine ⟨isLs_ty hK s1 rv hi, A1, ρ, S1, he.kp x1.kp, s1, Po.step p1 fun ds S2 A2 H2 x2 s2 p2 vs rvs => ?_⟩
    exact ⟨A2, S2, d, ds, RD.kp x2.kp rv, rvs, s2, Po.lift p2⟩
  · simp only [hi] at p1
    exact p1.elim
theorem m_append : MtR X "list.append" (qM G pAppend) := by
  refine L2.MtR.sm (show MtR X "list.append" rAppend from mt_append) fun x xs H Q h => ?_
  obtain ⟨A, S, d, ds, rd, rds, s, p⟩ := h
  unfold pAppend at p
  split at p
  · obtain ⟨v, rfl, r⟩ := RDs.one rds
    split at p
    · rename_i e
      split at p
      · rename_i hz
        obtain ⟨a, vs, rfl, hl, ha, hvs⟩ := loc_lst s rd e
        obtain ⟨x2, s2⟩ := set_lst s hl (hvs.append (.cons r .nil))
        exact ⟨a, vs, v, rfl, rfl, ha, by rw [← Paired.length hvs]; exact line_lt hz, Po.at p x2 s2 _ rfl⟩
      · exact p.elim
    · exact p.elim
  · exact p.elim
theorem m_extend : MtR X "list.extend" (qM G pExtend) := by
  refine L2.MtR.sm (show MtR X "list.extend" rExtend from mt_extend) fun x xs H Q h => ?_
  obtain ⟨A, S, d, ds, rd, rds, s, p⟩ := h
  unfold pExtend at p
  split at p
  · obtain ⟨v, rfl, r⟩ := RDs.one rds
    split at p
    · rename_i e1 e2
      split at p
      · rename_i hz
        obtain ⟨a, vs, rfl, hl, ha, hvs⟩ := loc_lst s rd e1
        obtain ⟨b, ws, rfl, hb, hws⟩ := lstAt_rd s r e2
        obtain ⟨x2, s2⟩ := set_lst s hl (hvs.append hws)
        exact ⟨a, b, vs, ws, rfl, rfl, ha, hb, by rw [← Paired.length hvs, ← Paired.length hws]; exact line_of hz, Po.at p x2 s2 _ rfl⟩
      · exact p.elim
    · exact p.elim
  · exact p.elim
theorem m_popAt : MtR X "list.pop" (qM G pPopAt) := by
  refine L2.MtR.sm (show MtR X "list.pop" rPopAt from mt_popAt) fun x xs H Q h => ?_
  obtain ⟨A, S, d, ds, rd, rds, s, p⟩ := h
  unfold pPopAt at p
  split at p
  · obtain ⟨v, rfl, r⟩ := RDs.one rds
    obtain rfl : v = .int _ := r
    split at p
    · rename_i e1
      split at p
      · rename_i hi
        split at p
        · rename_i j ej
          split at p
          · rename_i y ey
            obtain ⟨a, vs, rfl, hl, ha, hvs⟩ := loc_lst s rd e1
            obtain ⟨x2, s2⟩ := set_lst s hl (hvs.eraseIdx j)
            obtain ⟨v, e2, rv⟩ := hvs.get ey
            rw [Paired.length hvs] at ej
            exact ⟨a, vs, _, j, v, rfl, rfl, ha, hi.1, hi.2, ej, e2, Po.at p x2 s2 _ (RD.kp x2.kp rv)⟩
          · exact p.elim
        · exact p.elim
      · exact p.elim
    · exact p.elim
  · exact p.elim
end
end Sm
namespace Sm
open PySem PySem.Spec PyProof.Rows L2
open PySem.W (EachIs dataLe dataLt alike AllAlike Sortable)
def encT (t : Dt) : PyData := (toPy t).getD .none
def leT (a b : Dt) : Bool := !dataLt (encT b) (encT a)
def ColR (X : Cx) (G : Gs) (A : Al) (H : Hp) (pins : List (Addr × Obj)) (σ : L2.St) (s : Shared) (x : Value) (C : List Dt → Prop) : Prop :=
  ∀ Q' : List Value → Shared → Prop, (∀ s' us (bs : List (Dt × V)), L2.Inv X pins σ H s' → Vals (bs.map (·.2)) us → (∀ b ∈ bs, RV G A H b.1 b.2) → C (bs.map (·.1)) → Q' us s') → wpAny (model X.prog X.w) X.A.in1 (collect x) Q' X.xe s
structure SortOk (ts : List Dt) : Prop where
  py : ∀ t ∈ ts, ∃ d, toPy t = some d
  al : AllAlike (ts.map encT)
  so : Sortable (ts.map encT) ∨ (ts.length ≤ 1 ∧ ∀ t ∈ ts, encT t ≠ .none)
  dp : ∀ t ∈ ts, (encT t).depth ≤ 60
  sz : ts.length ≤ 16777216
theorem each_of_vals {G : Gs} {A : Al} {H : Hp} : ∀ {bs : List (Dt × V)} {us : List Value}, Vals (bs.map (·.2)) us → (∀ b ∈ bs, RV G A H b.1 b.2) → EachIs (fun (u : Value) (b : Dt × V) => RelV b.2 u ∧ RV G A H b.1 b.2) us bs
  | [], us, r, _ => by
    cases r
    exact .nil
  | b :: bs, us, r, h => by
    cases r with
    | cons r1 r2 => exact .cons ⟨r1, h b List.mem_cons_self⟩ (each_of_vals r2 fun c hc => h c (List.mem_cons_of_mem _ hc))
theorem vals_of_each {G : Gs} {A : Al} {H : Hp} : ∀ {bs : List (Dt × V)} {us : List Value}, EachIs (fun (u : Value) (b : Dt × V) => RelV b.2 u ∧ RV G A H b.1 b.2) us bs → Vals (bs.map (·.2)) us ∧ RVs G A H (bs.map (·.1)) (bs.map (·.2))
  | [], us, r => by
    cases r
    exact ⟨.nil, (rfl : ([] : List V) = [])⟩
  | b :: bs, us, r => by
    cases r with
    | cons r1 r2 =>
      obtain ⟨h1, h2⟩ := vals_of_each r2
      exact ⟨.cons r1.1 h1, _, _, rfl, r1.2, h2⟩
theorem sortsAt {prog : Program} {w : World} {A : Around} {s : Shared} {vs : List Value} {ds : List PyData} (e : EachIs (fun v d => ∃ as, Reads s.heap v d as) vs ds) (hal : AllAlike ds) (hk : Sortable ds ∨ (ds.length ≤ 1 ∧ ∀ d ∈ ds, d ≠ .none)) (hu : ∀ d, d ∈ ds → A.units + d.depth < cLine) : PySem.W.SortsAt prog w A s (PySem.W.dataKind s.heap ds) vs := by
  rcases hk with hk | ⟨h1, h2⟩
  · exact PySem.W.SortsAt.data e hal hk hu
  · refine ⟨fun v hv => ?_, general', fun E x y a b Q ha hb hq => ?_, fun h => ?_⟩
    · obtain ⟨d, hd, as, r⟩ := e.left v hv
      exact ⟨_, PySem.W.dataKind_some hal hd r⟩
    · obtain ⟨d, as, hd, ra, rfl⟩ := PySem.W.dataKind_inv ha
      obtain ⟨d', as', hd', rb, rfl⟩ := PySem.W.dataKind_inv hb
      show wpAny _ _ (oneLt' false x y) _ _ _
      exact PySem.W.oneLt_alike (fun hb => by cases hb) ra rb (hal d hd d' hd') (h2 d hd) (Nat.lt_of_le_of_lt (Nat.add_le_add_left (Nat.min_le_left _ _) _) (hu d hd)) hq
    · have len : ∀ {us : List Value} {es : List PyData}, EachIs (fun v d => ∃ as, Reads s.heap v d as) us es → us.length = es.length := by
        intro us es h
        induction h with
        | nil => rfl
        | cons _ _ ih => simp [ih]
      rw [len e] at h
      omega
section
variable {X : Cx} {G : Gs}
theorem sorted_col {pins : List (Addr × Obj)} {σ : L2.St} {s : Shared} {H : Hp} {A : Al} {x : Value} {C : List Dt → Prop} {Q : VK} (hK : G.K = X.K) (hu : X.A.units + 64 < cLine) (hc : ColR X G A H pins σ s x C) (hok : ∀ ts, C ts → SortOk ts)
    (q : ∀ ts vs, C ts → RVs G A H (ts.mergeSort leT) vs → ∀ p, H p = none → Q (.ref p) (upd H p (.lst vs))) : wpAny (model X.prog X.w) X.A (call (.builtin "sorted") [x]) (EP X pins σ Q) X.xe s := by
  refine Calls.call_function_entry kind_sorted plain_sorted entry_sorted (args_sorted1 _) ?_
  unfold Builtin.«sorted»
  refine wpAny_bind (m := checkCount "sorted" 1 1 _) (wpAny_pure ?_)
  refine wpAny_bind (hc _ fun s1 us bs I1 rv rb hC => ?_)
  have ok := hok _ hC
  have hl : us.length = bs.length := by rw [← rv.length, List.length_map]
  have hz : bs.length ≤ sizeLine := by
    have := ok.sz
    rw [List.length_map] at this
    exact line_of this
  refine wpAny_bind (wpAny_newList ?_ (by rw [hl]; exact hz))
  have hoL : (s1.heap.push (seqObj "list" us.toArray 0)).get? s1.heap.objs.size = some (seqObj "list" us.toArray 0) := Heap.get?_push_size _ rfl
  have e0 := each_of_vals rv rb
  have er : EachIs (fun v (b : Dt × V) => ∃ as, Reads (PySem.W.sortingHeap (s1.heap.push (seqObj "list" us.toArray 0)) s1.heap.objs.size us) v (encT b.1) as) us bs := by
    refine (PySem.W.each_mem e0).mono fun v b hb => ?_
    obtain ⟨⟨r1, r2⟩, hm⟩ := hb
    obtain ⟨d, hd⟩ := ok.py b.1 (List.mem_map.mpr ⟨b, hm, rfl⟩)
    have dp := RV.dp hd r2
    rw [hK] at dp
    obtain ⟨as, ra⟩ := Dp.reads I1 d b.2 v dp r1
    have ee : encT b.1 = d := by
      unfold encT
      rw [hd]
      rfl
    rw [ee]
    exact ⟨as, PyProof.Rows.Reads.keeps (fun c o hc => PySem.W.sortingHeap_old (Nat.ne_of_lt (Heap.lt_size hc)) (Heap.get?_push_of_some _ hc)) ra⟩
  have em : bs.map (fun b => encT b.1) = (bs.map (·.1)).map encT := by
    rw [List.map_map]
    rfl
  have hal : AllAlike (bs.map fun b => encT b.1) := by
    rw [em]
    exact ok.al
  have hso : Sortable (bs.map fun b => encT b.1) ∨ ((bs.map fun b => encT b.1).length ≤ 1 ∧ ∀ d ∈ bs.map (fun b => encT b.1), d ≠ .none) := by
    rw [em]
    rcases ok.so with h | ⟨h1, h2⟩
    · exact .inl h
    · refine .inr ⟨by rw [List.length_map]; exact h1, fun d hd => ?_⟩
      obtain ⟨t, ht, rfl⟩ := List.mem_map.mp hd
      exact h2 t ht
  have hdp : ∀ b, b ∈ bs → X.A.in1.units + 1 + (encT b.1).depth < cLine := fun b hb => by
    have := ok.dp b.1 (List.mem_map.mpr ⟨b, hb, rfl⟩)
    have hi : X.A.in1.units = X.A.units + 1 := rfl
    omega
  refine wpAny_bind (wpAny_holding (wpAny_call_entry slot_list_sort ⟨_, hoL, rfl⟩ entry_list_sort (PySem.W.list_sort_vals (κ := PySem.W.dataKind (PySem.W.sortingHeap (s1.heap.push (seqObj "list" us.toArray 0)) s1.heap.objs.size us) (bs.map fun b => encT b.1)) hoL
    (sortsAt (s := { s1 with heap := PySem.W.sortingHeap (s1.heap.push (seqObj "list" us.toArray 0)) s1.heap.objs.size us }) (PySem.W.each_map (R := fun v d => ∃ as, Reads (PySem.W.sortingHeap (s1.heap.push (seqObj "list" us.toArray 0)) s1.heap.objs.size us) v d as) (fun b : Dt × V => encT b.1) er) hal hso (PySem.W.bound_map hdp)) (by rw [hl]; exact hz) ⟨.none, rfl, ?_⟩) (args_list_sort _)))
  have eo := PySem.W.sortVals_data false e0 er hal
  have el : (PySem.W.sortVals (PySem.W.dataKind (PySem.W.sortingHeap (s1.heap.push (seqObj "list" us.toArray 0)) s1.heap.objs.size us) (bs.map fun b => encT b.1)) false us us).length = bs.length := by
    rw [PySem.W.sortVals_length false rfl]
    exact hl
  generalize PySem.W.sortVals (PySem.W.dataKind (PySem.W.sortingHeap (s1.heap.push (seqObj "list" us.toArray 0)) s1.heap.objs.size us) (bs.map fun b => encT b.1)) false us us = out at eo el
  obtain ⟨c, hcL⟩ := sortedHeap_at (vs := us) (out := out.toArray) hoL
  obtain ⟨h1, h2⟩ := vals_of_each eo
  have hm : (bs.mergeSort (dataLe false fun b => encT b.1)).map (·.1) = (bs.map (·.1)).mergeSort leT := List.map_mergeSort fun a _ b _ => rfl
  rw [hm] at h2
  have keep : ∀ b o, s1.heap.get? b = some o → (sortedHeap (s1.heap.push (seqObj "list" us.toArray 0)) s1.heap.objs.size us out.toArray).get? b = some o := fun b o e => by
    have hlt := Heap.lt_size e
    rw [sortedHeap_old (Nat.ne_of_lt hlt) (by rw [size_push']; exact Nat.lt_succ_of_lt hlt)]
    exact Heap.get?_push_of_some _ e
  have hfin := q _ _ hC h2 s1.heap.objs.size (I1.hok.fresh (Nat.le_refl _))
  refine wpAny_pure ⟨_, rfl, .ref s1.heap.objs.size, _, I1.laid keep (Nat.le_refl _) (show ObjOk X.prog X.w _ _ _ (.lst ((bs.mergeSort (dataLe false fun b => encT b.1)).map (·.2))) from ⟨?_, out, c, h1, hcL⟩), rfl, hfin⟩
  rw [List.length_map, List.length_mergeSort]
  exact hz
theorem col_seq {pins : List (Addr × Obj)} {σ : L2.St} {s : Shared} {H : Hp} {A : Al} {a : Addr} {vs : List V} {ts : List Dt} (I : L2.Inv X pins σ H s) (hs : SqL X.K H a vs ∨ SqT X.K H a vs) (hv : RVs G A H ts vs) : ColR X G A H pins σ s (.ref a) fun us => us = ts := by
  intro Q' hq
  have fin : ∀ (its : List Value) (h' : Heap), Vals vs its → (∀ b o', s.heap.get? b = some o' → h'.get? b = some o') → Q' its { s with heap := h' } := fun its h' r k => by
    have hl := hv.length
    refine hq _ its (ts.zip vs) (I.kept (t' := s.toks) k) ?_ (fun b hb => ?_) ?_
    · rw [List.map_snd_zip (by omega)]
      exact r
    · obtain ⟨i, hi⟩ := List.mem_iff_getElem?.mp hb
      obtain ⟨e1, e2⟩ := List.getElem?_zip_eq_some.mp hi
      obtain ⟨v, e3, r3⟩ := hv.get e1
      rw [e2] at e3
      cases e3
      exact r3
    · exact List.map_fst_zip (by omega)
  rcases hs with hs | hs
  · obtain ⟨its, r, pl, hz⟩ := I.list hs
    obtain ⟨o, ho, hc, n, hd⟩ := pl.isList
    refine wpAny_collect_seq a (.inl rfl) ho hc hd (fun h' k => fin its h' r k) ?_
    rw [List.size_toArray, ← r.length]
    exact hz
  · obtain ⟨its, r, pl, hz⟩ := I.tuple hs
    obtain ⟨o, ho, hc, n, hd⟩ := pl
    refine wpAny_collect_seq a (.inr rfl) ho hc hd (fun h' k => fin its h' r k) ?_
    rw [List.size_toArray, ← r.length]
    exact hz
end
def isTupP : PyData → Bool
  | .tuple (_ :: _) => true
  | _ => false
def isAtom : PyData → Bool
  | .none => false
  | .tuple _ => false
  | _ => true
def isNoneP : PyData → Bool
  | .none => true
  | _ => false
def sortChk (ts : List Dt) : Bool := ts.all (fun t => (toPy t).isSome && decide ((encT t).depth ≤ 60)) && (ts.all fun t => ts.all fun u => alike (encT t) (encT u)) && ((ts.all fun t => isTupP (encT t)) || ((ts.all fun t => isAtom (encT t)) || (decide (ts.length ≤ 1) && ts.all fun t => !isNoneP (encT t)))) && decide (ts.length ≤ 16777216)
theorem sortChk_ok {ts : List Dt} (h : sortChk ts = true) : SortOk ts := by
  unfold sortChk at h
  simp only [Bool.and_eq_true, decide_eq_true_eq, Bool.or_eq_true, List.all_eq_true] at h
  obtain ⟨⟨⟨h1, h2⟩, h3⟩, h4⟩ := h
  refine ⟨fun t ht => Option.isSome_iff_exists.mp (h1 t ht).1, fun d hd d' hd' => ?_, ?_, fun t ht => (h1 t ht).2, h4⟩
  · obtain ⟨t, ht, rfl⟩ := List.mem_map.mp hd
    obtain ⟨t', ht', rfl⟩ := List.mem_map.mp hd'
    exact h2 t ht t' ht'
  · rcases h3 with h3 | h3 | ⟨h5, h6⟩
    · refine .inl (.inl fun d hd => ?_)
      obtain ⟨t, ht, rfl⟩ := List.mem_map.mp hd
      have := h3 t ht
      unfold isTupP at this
      split at this
      · rename_i x r e
        exact ⟨x, r, e⟩
      · cases this
    · refine .inl (.inr fun d hd => ?_)
      obtain ⟨t, ht, rfl⟩ := List.mem_map.mp hd
      have := h3 t ht
      unfold isAtom at this
      split at this
      · cases this
      · cases this
      · rename_i n1 n2
        exact ⟨n1, fun xs => n2 xs⟩
    · refine .inr ⟨h5, fun t ht z => ?_⟩
      have := h6 t ht
      rw [z] at this
      cases this
def putL {α : Type} (le : α → α → Bool) (a : α) : List α → List α
  | [] => [a]
  | b :: l => if le a b = true then a :: b :: l else b :: putL le a l
def isortL {α : Type} (le : α → α → Bool) : List α → List α
  | [] => []
  | a :: l => putL le a (isortL le l)
theorem putL_app {α : Type} {le : α → α → Bool} {a : α} : ∀ (l m : List α), (∀ b ∈ l, le a b = false) → (∀ b ∈ m, le a b = true) → putL le a (l ++ m) = l ++ a :: m
  | [], [], _, _ => rfl
  | [], b :: m, _, h => by
    show (if le a b = true then a :: b :: m else b :: putL le a m) = _
    rw [if_pos (h b List.mem_cons_self)]
    rfl
  | b :: l, m, h, h2 => by
    show (if le a b = true then a :: b :: (l ++ m) else b :: putL le a (l ++ m)) = _
    rw [if_neg (by rw [h b List.mem_cons_self]; decide), putL_app l m (fun c hc => h c (List.mem_cons_of_mem _ hc)) h2]
    rfl
theorem isortL_is {α : Type} {le : α → α → Bool} (tr : ∀ a b c, le a b = true → le b c = true → le a c = true) (tot : ∀ a b, (le a b || le b a) = true) : ∀ l : List α, isortL le l = l.mergeSort le
  | [] => by simp [isortL]
  | a :: l => by
    obtain ⟨l1, l2, e1, e2, h⟩ := List.mergeSort_cons tr tot a l
    have s := List.pairwise_mergeSort tr tot (a :: l)
    rw [e1, List.pairwise_append] at s
    rw [e1]
    show putL le a (isortL le l) = _
    rw [isortL_is tr tot l, e2]
    exact putL_app l1 l2 (fun b hb => by simpa using h b hb) (List.pairwise_cons.mp s.2.1).1
theorem leT_total (a b : Dt) : (leT a b || leT b a) = true := by
  unfold leT
  cases h1 : PySem.W.dataLt (encT b) (encT a) with
  | false => rfl
  | true =>
    cases h2 : PySem.W.dataLt (encT a) (encT b) with
    | false => rfl
    | true =>
      have := lex_trans _ _ _ h1 h2
      rw [lex_irrefl] at this
      cases this
theorem leT_trans {a b c : Dt} (h : leT a b = true) (h2 : leT b c = true) : leT a c = true := by
  unfold leT at *
  cases h3 : PySem.W.dataLt (encT c) (encT a) with
  | false => rfl
  | true =>
    rcases lex_negTrans _ (PySem.W.keyToks (encT b)) _ h3 with h4 | h4
    · rw [show PySem.W.dataLt (encT c) (encT b) = true from h4] at h2
      cases h2
    · rw [show PySem.W.dataLt (encT b) (encT a) = true from h4] at h
      cases h
theorem isort_leT (ts : List Dt) : isortL leT ts = ts.mergeSort leT := isortL_is (le := leT) (fun _ _ _ h h2 => leT_trans h h2) leT_total ts
def seqT (S : Sto) (d : Dv) : Option (List Dt) := (seqAt S d).bind pures
def pSorted : PN := fun ds S => match ds with
  | [d] => (match seqT S d with
    | some ts => if sortChk ts = true then some (.d (.lst (isortL leT ts)), S) else none
    | none => none)
  | _ => none
section
variable {X : Cx} {G : Gs}
theorem b_sorted (hK : G.K = X.K) (hu : X.A.units + 64 < cLine) : CallR X (.builtin "sorted") (qN G pSorted) := by
  intro pins s σ H xs us Q I rx h
  obtain ⟨A, S, ds, rd, st, p⟩ := h
  unfold pSorted at p
  split at p
  · obtain ⟨v, rfl, r⟩ := RDs.one rd
    split at p
    · rename_i ts e
      split at p
      · rename_i hz
        obtain ⟨ds, e1, e2⟩ := Option.bind_eq_some_iff.mp e
        obtain ⟨a, vs, rfl, hs, hv⟩ := seqAt_rd st r e1
        rw [hK] at hs
        obtain rfl := Vals.ref1 rx
        exact sorted_col hK hu (col_seq I hs (pures_rvs e2 hv)) (fun us eu => by rw [eu]; exact sortChk_ok hz) fun us vs' eu hv' => by
          subst eu
          exact poL p st (by rw [isort_leT]; exact hv')
      · exact p.elim
    · exact p.elim
  · exact p.elim
end
end Sm
namespace Sm
open PySem PySem.Spec PyProof.Rows L2
def keyX (e : Int × Value) : Key := match e.2 with
  | .int i _ => .inl i
  | .str z _ => .inr z
  | _ => .inl 0
def GoodX (P : Program) (w : World) (e : Int × Value) : Prop := (mixKind P w).is (keyX e) e.2 = true ∧ e.1 = (mixKind P w).hash (keyX e)
theorem keyX_of {P : Program} {w : World} {k : Key} {v : Value} {h : Int} (e : (mixKind P w).is k v = true) : keyX (h, v) = k := by
  rcases keyIs_shape (k := k) (v := v) e with ⟨i, t, rfl, rfl⟩ | ⟨x, t, rfl, rfl⟩
  · rfl
  · rfl
theorem scan_of {P : Program} {w : World} {k : Key} {v : Value} (e : (mixKind P w).is k v = true) : v.scannable = true := key_scan (keyIs_rel e)
structure SetC (P : Program) (w : World) (es : Array (Int × Value)) (t : SetTable) (S : Key → Bool) (n : Nat) : Prop where
  good : ∀ e ∈ es.toList, GoodX P w e
  nd : (es.toList.map keyX).Nodup
  mem : ∀ k, S k = true ↔ k ∈ es.toList.map keyX
  lt : es.size < scanBound
  fit : t.fits es.size = true
  sz : es.size = n
  ris : Ris t.place.toList
  led : w.params.followText "set-order" = true ∨ t.led = true
def SetX (P : Program) (w : World) (h : Heap) (a : Addr) (S : Key → Bool) (n : Nat) : Prop := ∃ o es ep t, h.get? a = some o ∧ o.ExactSet ∧ o.data = .set es ep t ∧ SetC P w es t S n
section
variable {P : Program} {w : World} {A : Around} {E : Value → Shared → Prop} {s : Shared} {h h' : Heap} {a : Addr} {S S' : Key → Bool} {n : Nat} {es es' : Array (Int × Value)} {t t' : SetTable}
theorem SetC.elems (c : SetC P w es t S n) : ElemsOf (mixKind P w) es.toList := fun e he => ⟨⟨_, (c.good e he).1, (c.good e he).2⟩, scan_of (c.good e he).1⟩
theorem good_key {e : Int × Value} (g : GoodX P w e) (k : Key) : (mixKind P w).is k e.2 = true ↔ keyX e = k :=
  ⟨fun z => (mixKind P w).inj e.2 _ _ g.1 z, fun z => by rw [← z]; exact g.1⟩
theorem SetC.has (c : SetC P w es t S n) (k : Key) : S k = true ↔ ∃ e ∈ es.toList, (mixKind P w).is k e.2 = true := by
  rw [c.mem, List.mem_map]
  exact ⟨fun ⟨e, he, q⟩ => ⟨e, he, (good_key (c.good e he) k).2 q⟩, fun ⟨e, he, q⟩ => ⟨e, he, (good_key (c.good e he) k).1 q⟩⟩
theorem SetX.at (R : SetX P w h a S n) (k : ∀ o, h.get? a = some o → h'.get? a = some o) : SetX P w h' a S n := by
  obtain ⟨o, es, ep, t, ho, q⟩ := R
  exact ⟨o, es, ep, t, k o ho, q⟩
theorem SetX.congr (R : SetX P w h a S n) (e : ∀ k, S' k = S k) : SetX P w h a S' n := by
  rw [show S' = S from funext e]
  exact R
theorem SetC.perm (c : SetC P w es t S n) (p : es'.toList.Perm es.toList) (f : t'.fits es'.size = true) (r : Ris t'.place.toList) (l : t'.led = t.led) : SetC P w es' t' S n := by
  have z : es'.size = es.size := by rw [← Array.length_toList, p.length_eq, Array.length_toList]
  exact ⟨fun e he => c.good e (p.mem_iff.mp he), (p.map keyX).nodup_iff.mpr c.nd, fun k => (c.mem k).trans (p.map keyX).mem_iff.symm, by rw [z]; exact c.lt, f, z.trans c.sz, r, c.led.imp id fun q => l.trans q⟩
theorem setX_tail {g : Bool → Sem Unit} (hg : ∀ (b : Bool) (s₁ : Shared) (Q' : Unit → Shared → Prop), Q' () s₁ → wpAny (model P w) A (g b) Q' E s₁) {o : Obj} {ep : Nat} (ho : s.heap.get? a = some o) (hx : o.ExactSet) (hd : o.data = .set es ep t)
    (c : SetC P w es' t' S n) {dummy : Bool} {R : Option Bool → Shared → Prop} (hR : ∀ h', Heap.SameBut a s.heap h' → SetX P w h' a S n → R (some true) { s with heap := h' }) :
    wpAny (model P w) A (do
      storeSet a es' t'
      if (!dummy && t'.tooFull) = true then do
        g (relayAll t' es' (SetTable.grown es'.size)).2.2
        storeSet a (relayAll t' es' (SetTable.grown es'.size)).1 (relayAll t' es' (SetTable.grown es'.size)).2.1
        pure (some true)
      else pure (some true)) R E s := by
  have o1 := store_at (es' := es') (t' := t') ho hd
  have b1 := Heap.SameBut.update s.heap a (Obj.putSet es' t')
  refine wpAny_bind (wpAny_storeSet_of ho hd ?_ (fits_of_scanBound c.lt))
  split
  · have c2 := c.perm (relayAll_perm t' es' (SetTable.grown es'.size)) (relayAll_fits t' es' _) (relayAll_ris t' es' _) (relayAll_led t' es' _)
    generalize relayAll t' es' (SetTable.grown es'.size) = Z at c2 ⊢
    obtain ⟨es2, t3, gave⟩ := Z
    dsimp only at c2 ⊢
    refine wpAny_bind (hg _ _ _ (wpAny_bind (wpAny_storeSet_of o1 rfl ?_ (fits_of_scanBound c2.lt))))
    have o2 := store_at (es' := es2) (t' := t3) o1 rfl
    exact wpAny_pure (hR _ (b1.trans (Heap.SameBut.update _ a _)) ⟨_, es2, _, t3, o2, hx, rfl, c2⟩)
  · exact wpAny_pure (hR _ b1 ⟨_, es', _, t', o1, hx, rfl, c⟩)
theorem setX_add {k : Key} {x : Value} {Q : Bool → Shared → Prop} (hk : (mixKind P w).is k x = true) (R : SetX P w s.heap a S n) (room : n + 1 < scanBound)
    (hQ : ∀ h', Heap.SameBut a s.heap h' → SetX P w h' a (fun j => S j || decide (j = k)) (if S k = true then n else n + 1) → Q (!S k) { s with heap := h' }) : wpAny (model P w) A (setAddHashed a x ((mixKind P w).hash k)) Q E s := by
  obtain ⟨o, es, ep, t, ho, hx, hd, c⟩ := R
  have hsc : x.scannable = true := scan_of hk
  unfold setAddHashed setAddHashedIn
  refine wpAny_holding (wpAny_bind (wpAny_setState_of ho hd c.fit ?_))
  dsimp only
  rw [byScan_of hsc c.lt c.elems]
  simp only [↓reduceIte]
  unfold setAddByScan
  refine wpAny_bind (wpAny_bind (wpAny_rule (wpAny_bind (wpAny_setScan_of hk ho hd c.fit c.elems ?_))))
  cases hfi : List.findIdx? (fun e => (mixKind P w).is k e.2) es.toList with
  | some j =>
    obtain ⟨hj, pj, _⟩ := List.findIdx?_eq_some_iff_getElem.mp hfi
    have hSk : S k = true := (c.has k).2 ⟨es.toList[j], List.getElem_mem hj, pj⟩
    have q := hQ s.heap (Heap.SameBut.refl a s.heap) ⟨o, es, ep, t, ho, hx, hd, ⟨c.good, c.nd, fun i => by
      rw [Bool.or_eq_true, decide_eq_true_eq, ← c.mem i]
      exact ⟨fun z => z.elim id fun e => e ▸ hSk, .inl⟩, c.lt, c.fit, by rw [if_pos hSk]; exact c.sz, c.ris, c.led⟩⟩
    rw [hSk] at q
    exact wpAny_pure (wpAny_pure q)
  | none =>
    have hnk : k ∉ es.toList.map keyX := fun z => by
      obtain ⟨e, he, q⟩ := (c.has k).1 ((c.mem k).2 z)
      rw [List.findIdx?_eq_none_iff.mp hfi e he] at q
      cases q
    have hSk : S k = false := by
      cases q : S k with
      | false => rfl
      | true => exact absurd ((c.mem k).1 q) hnk
    have hgw : ∀ (b : Bool) {s₁ : Shared} {Q' : Unit → Shared → Prop}, Q' () s₁ → wpAny (model P w) A (match b with | true => rule "set.scan.the-table-gave-way" | false => pure ()) Q' E s₁ := fun b s₁ Q' q => by
      cases b
      · exact wpAny_pure q
      · exact wpAny_rule q
    have pm := layNew_perm t es ((mixKind P w).hash k) x
    have hf := layNew_fits t es ((mixKind P w).hash k) x
    have hr := layNew_ris t es ((mixKind P w).hash k) x c.ris
    have hl := layNew_led t es ((mixKind P w).hash k) x
    generalize layNew t es ((mixKind P w).hash k) x = Z at pm hf hr hl ⊢
    obtain ⟨es1, t1, dummy, gave⟩ := Z
    dsimp only at pm hf hr hl ⊢
    rw [Array.toList_push] at pm
    have pc : es1.toList.Perm (((mixKind P w).hash k, x) :: es.toList) := pm.trans (List.perm_append_singleton _ _)
    have pk : (es1.toList.map keyX).Perm (k :: es.toList.map keyX) := by
      have := pc.map keyX
      rw [List.map_cons, keyX_of hk] at this
      exact this
    have hz : es1.size = n + 1 := by rw [← Array.length_toList, pc.length_eq, List.length_cons, Array.length_toList, c.sz]
    have cc : ∀ t2 : SetTable, t2.fits es1.size = true → Ris t2.place.toList → t2.led = t.led → SetC P w es1 t2 (fun j => S j || decide (j = k)) (n + 1) := fun t2 f r l =>
      ⟨fun e he => (List.mem_cons.mp (pc.mem_iff.mp he)).elim (fun z => by rw [z]; exact ⟨by rw [keyX_of hk]; exact hk, by rw [keyX_of hk]⟩) (c.good e), pk.nodup_iff.mpr (List.nodup_cons.mpr ⟨hnk, c.nd⟩), fun i => by
        rw [Bool.or_eq_true, decide_eq_true_eq, c.mem i, pk.mem_iff, List.mem_cons]
        exact Or.comm, by rw [hz]; exact room, f, hz, r, c.led.imp id fun q => l.trans q⟩
    have fin : ∀ h', Heap.SameBut a s.heap h' → SetX P w h' a (fun j => S j || decide (j = k)) (n + 1) → Q true { s with heap := h' } := fun h' sb r => by
      have q := hQ h' sb
      rw [hSk] at q
      exact q r
    have hrule : ∀ (b : Bool) (s₁ : Shared) (Q' : Unit → Shared → Prop), Q' () s₁ → wpAny (model P w) A (match b with | true => rule "set.scan.the-table-gave-way" | false => pure ()) Q' E s₁ := fun b s₁ Q' q => hgw b q
    refine wpAny_bind (hgw _ ?_)
    split
    · refine wpAny_bind ?_
      rw [hashByValue_scannable 8 hsc]
      refine wpAny_pure ?_
      refine setX_tail ?_ ho hx hd (cc _ ?_ ?_ ?_) ?_
      · intro b s₁ Q' q
        cases b <;> first | exact wpAny_pure q | exact wpAny_rule q
      · split <;> first | exact hf | exact SetTable.fits_plain_off hf
      · split <;> exact hr
      · split <;> exact hl
      · intro h' sb r
        dsimp only
        exact wpAny_pure (fin h' sb r)
    · refine wpAny_bind (wpAny_pure ?_)
      simp only [↓reduceIte]
      refine setX_tail ?_ ho hx hd (cc _ hf hr hl) ?_
      · intro b s₁ Q' q
        cases b <;> first | exact wpAny_pure q | exact wpAny_rule q
      · intro h' sb r
        dsimp only
        exact wpAny_pure (fin h' sb r)
theorem setX_fresh {h : Heap} (ho : h.get? a = some { cls := .type "set", dict := none, data := .set #[] 0 (.fresh 0 0 (!w.params.followText "set-order")) }) : SetX P w h a (fun _ => false) 0 :=
  ⟨_, #[], 0, _, ho, ⟨rfl, rfl, rfl⟩, rfl, ⟨fun e he => by simp at he, by simp, fun k => by simp, by decide, by rfl, rfl, List.Pairwise.nil, by
    show _ ∨ (!w.params.followText "set-order") = true
    cases w.params.followText "set-order"
    · exact .inr rfl
    · exact .inl rfl⟩⟩
theorem setX_loop {I : Addr} {fp wr : List Addr} {G : Array GenState → Array GenState → Prop} {Pv : Nat → Value → Prop} {St : Nat → Shared → Prop} {R : Result → Shared → Prop} (W : WalksS P w A.in1 I fp wr G n Pv St) (D : Addr) (hD : D ∉ fp) (ks : List Key) (hn : n = ks.length) (hb : ks.length + 1 < scanBound)
    (hval : ∀ i v, Pv i v → ∃ k, ks[i]? = some k ∧ (mixKind P w).is k v = true) : ∀ (m i : Nat) (s : Shared), n - i = m → i ≤ n → St i s → (∃ c, c ≤ i ∧ SetX P w s.heap D (hasK (ks.take i)) c) →
      (∀ s' c, Moved (D :: wr) G s s' → c ≤ n → SetX P w s'.heap D (hasK ks) c → R (.ok (.ret .none)) s') → codeAny (model P w) A (.builtin "set.update.loop" ⟨[.ref D, .ref I], []⟩) R s := by
  have hDw : D ∉ wr := fun z => hD (W.sub _ z)
  have sub : ∀ b ∈ wr, b ∈ D :: wr := fun b hb => List.mem_cons_of_mem _ hb
  intro m
  induction m with
  | zero =>
    intro i s hm hi hst ⟨c, hc, hS⟩ hR
    obtain rfl : i = n := by omega
    refine codeAny_builtin F.entry_set_update_loop ?_
    rw [Around.under_plainId F.plain_set_update_loop _]
    show wpAny _ A.in1 (pyNext (.ref I) >>= fun z => _) _ _ s
    refine wpAny_bind (W.done s _ _ hst fun s' hv => wpAny_pure (hR s' c (hv.mono sub) hc ?_))
    rw [List.take_of_length_le (by omega)] at hS
    exact hS.at fun o e => hv.heap D o hDw e
  | succ m ih =>
    intro i s hm hi hst ⟨c, hc, hS⟩ hR
    have hlt : i < n := by omega
    refine codeAny_builtin F.entry_set_update_loop ?_
    rw [Around.under_plainId F.plain_set_update_loop _]
    show wpAny _ A.in1 (pyNext (.ref I) >>= fun z => _) _ _ s
    refine wpAny_bind (W.item i s _ _ hlt hst fun v s' hP hst' hv => ?_)
    obtain ⟨k, hk, hkv⟩ := hval i v hP
    have hS1 : SetX P w s'.heap D (hasK (ks.take i)) c := hS.at fun o e => hv.heap D o hDw e
    show wpAny _ A.in1 (holding [v] (setAdd D v) >>= fun z => _) _ _ s'
    refine wpAny_bind (wpAny_holding ?_)
    unfold setAdd
    refine wpAny_holding (wpAny_bind ((mixKind P w).pyHash (k := k) hkv ?_))
    refine setX_add (s := { s' with toks := s'.toks + 1 }) hkv hS1 (by omega) fun h' sb hS2 => ?_
    have hS3 : SetX P w h' D (hasK (ks.take (i + 1))) (if hasK (ks.take i) k = true then c else c + 1) := hS2.congr fun j => by
      rw [List.take_add_one, hk]
      unfold hasK
      simp [List.any_append, eq_comm]
    have hc3 : (if hasK (ks.take i) k = true then c else c + 1) ≤ i + 1 := by split <;> omega
    refine wpAny_pure ⟨plainId_quiet F.plain_set_update_loop _, ih (i + 1) _ (by omega) hlt (W.frame _ s' _ _ hst' (Nat.le_succ _) fun b hb o e => ?_) ⟨_, hc3, hS3⟩ fun s'' c2 hm2 hc2 hS4 => ?_⟩
    · rw [sb.2 b fun z => hD (z ▸ hb)]
      exact e
    · refine hR s'' c2 (Moved.trans W.gtrans ((hv.mono sub).then_heap (Nat.le_succ _) fun b o hb e => ?_) hm2) hc2 hS4
      rw [sb.2 b fun z => hb (by rw [z]; exact List.mem_cons_self)]
      exact e
end
end Sm
namespace Sm
open PySem PySem.Spec PyProof.Rows L2
abbrev newSetO (w : World) : Obj := { cls := .type "set", dict := none, data := .set #[] 0 (.fresh 0 0 (!w.params.followText "set-order")) }
def Fills (P : Program) (w : World) (s : Shared) (x : Value) (ks : List Key) : Prop :=
  ∀ (A : Around) (id : String) (E : Value → Shared → Prop) (Q : Unit → Shared → Prop), A.handled = none →
    (∀ h' tk c, c ≤ ks.length → SetX P w h' s.heap.objs.size (hasK ks) c → (∀ b o, s.heap.get? b = some o → h'.get? b = some o) → Q () { s with heap := h', toks := tk }) →
    wpAny (model P w) A (Builtin.Frozenset.updateFrom id s.heap.objs.size x) Q E { s with heap := s.heap.push (newSetO w) }
section
variable {P : Program} {w : World} {A : Around} {E : Value → Shared → Prop} {s : Shared} {l : Addr} {ks : List Key}
set_option maxHeartbeats 3200000 in
theorem call_setX {x : Value} {Q : Value → Shared → Prop} (hh : A.handled = none) (hU : Fills P w s x ks)
    (h : ∀ (h' : Heap) (tk c : Nat), c ≤ ks.length → SetX P w h' s.heap.objs.size (hasK ks) c → (∀ b o, s.heap.get? b = some o → h'.get? b = some o) → Q (.ref s.heap.objs.size) { s with heap := h', toks := tk }) : wpAny (model P w) A (call (.type "set") [x]) Q E s := by
  obtain ⟨c, tl, hmro⟩ := F.called_set.mro
  have hmade := F.called_set.made
  have hsub := F.called_set.sub
  refine wpAny_call (codeAny_of_tree ?_)
  show wpAny _ _ (callAny (.type "set") _) _ _ _
  refine wpAny_pure ⟨Code.quiet_builtin _ (by decide +kernel), codeAny_builtin F.entry_type_call ?_⟩
  rw [Around.under_plain (weight_type_call_type "set" [x] []) rfl]
  have h1 := F.called_set.notType
  have h2 := F.called_set.canCreate
  have hct := F.typeCall_set_1 x
  repeat (any_goals (first | assumption | wp_step))
  refine codeAny_mono (code_set_led1 x (E := E) (Q₁ := fun obj s₁ => obj = .ref s.heap.objs.size ∧ s₁ = { s with heap := s.heap.push (newSetO w) }) ⟨rfl, rfl⟩) fun r s₁ hr => ?_
  cases r with
  | error e => exact hr
  | ok fl =>
    cases fl with
    | ret obj =>
      obtain ⟨rfl, rfl⟩ := hr
      have hS : (s.heap.push (newSetO w)).get? s.heap.objs.size = some (newSetO w) := Heap.get?_push_size _ rfl
      have hT : Shared.TypeIs { s with heap := s.heap.push (newSetO w) } (.ref s.heap.objs.size) "set" := ⟨_, hS, rfl⟩
      have hli := F.called_set.init.lookup
      have hbi := F.called_set.init.bind (.ref s.heap.objs.size)
      repeat (any_goals (first | assumption | wp_step))
      refine codeAny_mono (codeAny_call_builtin (R := wants (fun r s₂ => r = .none ∧ ∃ h' tk c, s₂ = { s with heap := h', toks := tk } ∧ c ≤ ks.length ∧ SetX P w h' s.heap.objs.size (hasK ks) c ∧ (∀ b o, s.heap.get? b = some o → h'.get? b = some o)) E) F.called_set.init.plain F.entry_set_init (check_set_init_1 hT ?_)) fun r₂ s₂ hr₂ => ?_
      · unfold Builtin.«set.__init__» noKeywords
        generalize hUF : Builtin.Frozenset.updateFrom = UF
        wp_walk
        subst hUF
        refine hU _ _ _ _ (by simp [hh]) fun h' tk c hc hS' hk => ?_
        show wpAny _ _ (ret Value.none) _ _ _
        exact wpAny_pure ⟨rfl, h', tk, c, rfl, hc, hS', hk⟩
      · cases r₂ with
        | error e => exact hr₂
        | ok fl₂ =>
          cases fl₂ with
          | ret r =>
            obtain ⟨rfl, h', tk, c', rfl, hc, hS', hk⟩ := hr₂
            repeat (any_goals (first | assumption | wp_step))
            exact h _ _ _ hc hS' hk
          | _ => exact hr₂.elim
    | _ => exact hr.elim
theorem fill_start {T : String} {x : Value} {id : String} {D : Addr} {Q : Unit → Shared → Prop} (hT : s.TypeIs x T) (h1 : isSubtype (.type T) (.type "set") = pure false) (h2 : isSubtype (.type T) (.type "frozenset") = pure false) (hd : (Value.type T == Value.type "dict") = false)
    (h : wpAny (model P w) A (do
      let _ ← runValue (.builtin "set.update.loop" ⟨[.ref D, ← pyIter x], []⟩)) Q E s) : wpAny (model P w) A (Builtin.Frozenset.updateFrom id D x) Q E s := by
  unfold Builtin.Frozenset.updateFrom Builtin.Frozenset.isAnySet
  refine wpAny_bind (wpAny_bind (wpAny_isInstance hT h1 (wpAny_isInstance hT h2 ?_)))
  refine wpAny_bind (wpAny_typeOf hT ?_)
  rw [hd]
  exact h
theorem fills_walk {T : String} {oI : Obj} {fp wr : List Addr} {n : Nat} {Pv : Nat → Value → Prop} {St : Nat → Heap → Prop} {x : Value} (hT : ∀ h, (∀ b o, s.heap.get? b = some o → h.get? b = some o) → Shared.TypeIs { s with heap := h } x T)
    (h1 : isSubtype (.type T) (.type "set") = pure false) (h2 : isSubtype (.type T) (.type "frozenset") = pure false) (hd : (Value.type T == Value.type "dict") = false)
    (hi : ∀ (A : Around) (E : Value → Shared → Prop) (Q : Value → Shared → Prop), Q (.ref (s.heap.objs.size + 1)) { s with heap := (s.heap.push (newSetO w)).push oI } → wpAny (model P w) A (pyIter x) Q E { s with heap := s.heap.push (newSetO w) })
    (hW : ∀ A : Around, A.handled = none → Walks P w A (s.heap.objs.size + 1) fp [s.heap.objs.size + 1] n Pv St) (h0 : St 0 ((s.heap.push (newSetO w)).push oI)) (hD : s.heap.objs.size ∉ fp) (hn : n = ks.length) (hb : ks.length + 1 < scanBound) (hval : ∀ (i : Nat) (v : Value), Pv i v → ∃ k : Key, ks[i]? = some k ∧ (mixKind P w).is k v = true) : Fills P w s x ks := by
  intro A id E Q hh hQ
  refine fill_start (hT _ fun b o e => Heap.get?_push_of_some _ e) h1 h2 hd ?_
  refine wpAny_bind (hi _ _ _ (wpAny_bind (wpAny_runValue ?_)))
  have g0 : ((s.heap.push (newSetO w)).push oI).get? s.heap.objs.size = some (newSetO w) := Heap.get?_push_of_some _ (Heap.get?_push_size _ rfl)
  refine setX_loop ((hW A.in1 hh).toS) s.heap.objs.size hD ks hn hb hval (n - 0) 0 _ (by omega) (Nat.zero_le _) h0 ⟨0, Nat.le_refl 0, SetX.congr (setX_fresh g0) fun k => rfl⟩ fun s' c hm hc hS' => ?_
  obtain ⟨h', g', d', tk', os'⟩ := s'
  have eg : g' = s.gens := hm.gens
  have ed : d' = s.drawn := hm.drawn
  have eo : os' = s.os := hm.os
  subst eg ed eo
  refine wpAny_pure (hQ h' tk' c (by omega) hS' fun b o e => ?_)
  have hb0 : b < s.heap.objs.size := Heap.lt_size e
  exact hm.heap b o (by
    simp only [List.mem_cons, List.not_mem_nil, or_false, not_or]
    exact ⟨Nat.ne_of_lt hb0, Nat.ne_of_lt (Nat.lt_succ_of_lt hb0)⟩) (Heap.get?_push_of_some _ (Heap.get?_push_of_some _ e))
end
end Sm
namespace Sm
open PySem PySem.Spec PyProof.Rows L2
theorem key_is {P : Program} {w : World} {k : Key} {u : Value} (r : RelV (kV k) u) : (mixKind P w).is k u = true := by
  cases k with
  | inl i =>
    obtain ⟨t, rfl⟩ := r
    exact keyIs_int i t
  | inr x =>
    obtain ⟨t, rfl⟩ := r
    exact keyIs_str x t
theorem keys_at' : ∀ {ks : List Key} {its : List Value}, Vals (ks.map kV) its → ∀ (i : Nat) (v : Value), its[i]? = some v → ∃ k : Key, ks[i]? = some k ∧ RelV (kV k) v
  | [], _, r, i, v, e => by
    cases r
    simp at e
  | k :: ks, _, r, i, v, e => by
    cases r with
    | cons r1 r2 =>
      cases i with
      | zero =>
        simp at e
        subst e
        exact ⟨k, rfl, r1⟩
      | succ i =>
        obtain ⟨k', e1, e2⟩ := keys_at' r2 i v (by simpa using e)
        exact ⟨k', by simpa using e1, e2⟩
section
variable {P : Program} {w : World} {A : Around} {E : Value → Shared → Prop} {s : Shared} {l : Addr} {ks : List Key}
theorem fills_list {its : List Value} (hl : s.heap.IsList l its.toArray) (r : Vals (ks.map kV) its) (hb : ks.length + 1 < scanBound) : Fills P w s (.ref l) ks := by
  have hlt : l < s.heap.objs.size := by
    obtain ⟨o, ho, _⟩ := hl
    exact Heap.lt_size ho
  have hz : (s.heap.push (newSetO w)).objs.size = s.heap.objs.size + 1 := Heap.size_push ..
  refine fills_walk (wr := []) (T := "list") (oI := { cls := .type "list_iterator", data := .fields #[.ref l, .int 0 0] }) (fun h k => ?_) PySem.F.sub_list_set PySem.F.sub_list_frozenset (by decide) (fun A E Q q => ?_)
    (fun A hh => Walks.list hh (s.heap.objs.size + 1) l (Nat.ne_of_lt (Nat.lt_succ_of_lt hlt)) its.toArray) ⟨⟨{ cls := .type "list_iterator", data := .fields #[.ref l, .int 0 0] }, ?_, rfl, rfl⟩, (hl.push _).push _⟩ ?_ ?_ hb fun i v e => ?_
  · obtain ⟨o, ho, hc, _⟩ := hl
    exact ⟨o, k _ _ ho, hc⟩
  · refine wpAny_pyIter_list (hl.push _) ?_
    rw [hz]
    exact q
  · rw [← hz]
    exact Heap.get?_push_size _ rfl
  · simp only [List.mem_cons, List.not_mem_nil, or_false, not_or]
    exact ⟨Nat.ne_of_lt (Nat.lt_succ_self _), Nat.ne_of_gt hlt⟩
  · have := r.length
    rw [List.length_map] at this
    simp [← this]
  · obtain ⟨k, e1, e2⟩ := keys_at' r i v (by simpa using e)
    exact ⟨k, e1, key_is e2⟩
theorem fills_tuple {its : List Value} (hl : s.heap.IsTuple l its.toArray) (r : Vals (ks.map kV) its) (hb : ks.length + 1 < scanBound) : Fills P w s (.ref l) ks := by
  have hlt : l < s.heap.objs.size := by
    obtain ⟨o, ho, _⟩ := hl
    exact Heap.lt_size ho
  have hz : (s.heap.push (newSetO w)).objs.size = s.heap.objs.size + 1 := Heap.size_push ..
  refine fills_walk (wr := []) (T := "tuple") (oI := { cls := .type "tuple_iterator", data := .fields #[.ref l, .int 0 0] }) (fun h k => ?_) PySem.F.sub_tuple_set PySem.F.sub_tuple_frozenset (by decide) (fun A E Q q => ?_)
    (fun A hh => Walks.tuple hh (s.heap.objs.size + 1) l (Nat.ne_of_lt (Nat.lt_succ_of_lt hlt)) its.toArray) ⟨⟨{ cls := .type "tuple_iterator", data := .fields #[.ref l, .int 0 0] }, ?_, rfl, rfl⟩, (hl.push _).push _⟩ ?_ ?_ hb fun i v e => ?_
  · obtain ⟨o, ho, hc, _⟩ := hl
    exact ⟨o, k _ _ ho, hc⟩
  · refine wpAny_pyIter_tuple (hl.push _) ?_
    rw [hz]
    exact q
  · rw [← hz]
    exact Heap.get?_push_size _ rfl
  · simp only [List.mem_cons, List.not_mem_nil, or_false, not_or]
    exact ⟨Nat.ne_of_lt (Nat.lt_succ_self _), Nat.ne_of_gt hlt⟩
  · have := r.length
    rw [List.length_map] at this
    simp [← this]
  · obtain ⟨k, e1, e2⟩ := keys_at' r i v (by simpa using e)
    exact ⟨k, e1, key_is e2⟩
theorem above_go : ∀ (f z n : Nat), SetTable.sizeAbove.go n f z ≤ max z (2 * n)
  | 0, z, n => by
    unfold SetTable.sizeAbove.go
    omega
  | f + 1, z, n => by
    unfold SetTable.sizeAbove.go
    split
    · have := above_go f (z * 2) n
      omega
    · omega
theorem above_le (n : Nat) : SetTable.sizeAbove n ≤ max 8 (2 * n) := above_go 64 8 n
theorem relaid_nil (t : SetTable) (wanted : Nat) : ∃ t', t.relaid #[] wanted = some (t', #[]) ∧ t'.place = #[] ∧ t'.led = t.led ∧ t'.fits 0 = true := by
  have hl : ((List.range (SetTable.sizeAbove wanted - 1 + 1)).filterMap fun j => ((Array.replicate (SetTable.sizeAbove wanted - 1 + 1) (none : Option Nat)).getD j none).map (j, ·)) = [] := by
    rw [List.filterMap_eq_nil_iff]
    intro j _
    have : (Array.replicate (SetTable.sizeAbove wanted - 1 + 1) (none : Option Nat)).getD j none = none := by
      unfold Array.getD
      split
      · simp
      · rfl
    rw [this]
    rfl
  have e : t.relaid #[] wanted = some (⟨SetTable.sizeAbove wanted - 1, #[], #[], t.finger, t.led, t.movedTo (SetTable.sizeAbove wanted - 1), t.plain⟩, #[]) := by
    show ((some (Array.replicate (SetTable.sizeAbove wanted - 1 + 1) (none : Option Nat))).bind fun owner => some (({ mask := SetTable.sizeAbove wanted - 1, place := (((List.range (SetTable.sizeAbove wanted - 1 + 1)).filterMap fun j => (owner.getD j none).map (j, ·)).map (·.1)).toArray, dummies := #[], finger := t.finger, led := t.led, moves := t.movedTo (SetTable.sizeAbove wanted - 1), plain := t.plain } : SetTable), (((List.range (SetTable.sizeAbove wanted - 1 + 1)).filterMap fun j => (owner.getD j none).map (j, ·)).map (·.2)).toArray)) = _
    rw [Option.bind_some, hl]
    rfl
  exact ⟨_, e, rfl, rfl, rfl⟩
theorem setX_room {D : Addr} {led : Bool} {n : Nat} {Q : Unit → Shared → Prop} (hS : s.heap.get? D = some { cls := .type "set", dict := none, data := .set #[] 0 (.fresh 0 0 led) }) (hl : w.params.followText "set-order" = true ∨ led = true) (hn : n ≤ 4000)
    (hQ : ∀ h', Heap.SameBut D s.heap h' → SetX P w h' D (fun _ => false) 0 → Q () { s with heap := h' }) : wpAny (model P w) A (setRoomFor D n) Q E s := by
  have base : SetC P w #[] (.fresh 0 0 led) (fun _ => false) 0 := ⟨fun e he => by simp at he, by simp, fun k => by simp, by decide, by rfl, rfl, List.Pairwise.nil, hl⟩
  unfold setRoomFor
  refine wpAny_bind (wpAny_setState_of hS rfl (by rfl) ?_)
  dsimp only
  cases hr : (SetTable.fresh 0 0 led).roomFor n with
  | none => exact wpAny_pure (hQ s.heap (Heap.SameBut.refl D s.heap) ⟨_, #[], 0, _, hS, ⟨rfl, rfl, rfl⟩, rfl, base⟩)
  | some wanted =>
    have hw : wanted = n * 2 := by
      unfold SetTable.roomFor at hr
      split at hr
      · have := Option.some.inj hr
        simpa [SetTable.fresh] using this.symm
      · cases hr
    subst hw
    show wpAny _ _ (setRelay D (n * 2)) _ _ _
    rw [setRelay_eq]
    refine wpAny_bind (wpAny_setState_of hS rfl (by rfl) ?_)
    dsimp only
    have hz : ¬ SetTable.sizeAbove (n * 2) > sizeLine := by
      have := above_le (n * 2)
      rw [sizeLine_eq]
      omega
    rw [if_neg hz]
    obtain ⟨t', e1, e2, e3, e4⟩ := relaid_nil (SetTable.fresh 0 0 led) (n * 2)
    have em : (#[] : Array (Int × Value)).map (·.1) = #[] := by simp
    rw [em, e1]
    refine wpAny_bind ?_
    show wpAny _ _ (if ((#[] : Array Nat).filterMap fun j => (#[] : Array (Int × Value))[j]?).size != (#[] : Array (Int × Value)).size then _ else pure (((#[] : Array Nat).filterMap fun j => (#[] : Array (Int × Value))[j]?), t') : Sem (Array (Int × Value) × SetTable)) _ _ _
    have ef : ((#[] : Array Nat).filterMap fun j => (#[] : Array (Int × Value))[j]?) = #[] := by simp
    rw [ef]
    refine wpAny_pure ?_
    refine wpAny_storeSet_of hS rfl ?_ (by simp)
    refine hQ _ (Heap.SameBut.update s.heap D _) ⟨_, #[], _, t', store_at hS rfl, ⟨rfl, rfl, rfl⟩, rfl, ⟨fun e he => by simp at he, by simp, fun k => by simp, by decide, e4, rfl, ?_, ?_⟩⟩
    · rw [e2]
      exact List.Pairwise.nil
    · rw [e3]
      exact hl
theorem pairs_at {kk : List (Key × Value)} : ∀ {es : List DictEntry}, Pairs (mixKind P w) es kk → ∀ (i : Nat) (e : DictEntry), es[i]? = some e → ∃ k : Key, (kk.map (·.1))[i]? = some k ∧ (mixKind P w).is k e.key = true
  | _, .nil, i, e, h => by simp at h
  | _, .cons h1 h2 h3, 0, e, h => by
    simp at h
    subst h
    exact ⟨_, rfl, h1⟩
  | _, .cons h1 h2 h3, i + 1, e, h => by
    obtain ⟨k, e1, e2⟩ := pairs_at h3 i e (by simpa using h)
    exact ⟨k, by simpa using e1, e2⟩
theorem pairs_len {kk : List (Key × Value)} : ∀ {es : List DictEntry}, Pairs (mixKind P w) es kk → es.length = kk.length
  | _, .nil => rfl
  | _, .cons _ _ h3 => by simp [pairs_len h3]
theorem fills_dict {vs : List (Key × Value)} (lo : (l == sysModules) = false) (hd : s.heap.DictOf (mixKind P w) l vs) (hk : vs.map (·.1) = ks) (hb : ks.length ≤ 4000) : Fills P w s (.ref l) ks := by
  intro A id E Q hh hQ
  obtain ⟨o, es, ep, ho, hx, hdat, hkeys, hpairs, nd⟩ := hd
  have hlt : l < s.heap.objs.size := Heap.lt_size ho
  have ho1 : (s.heap.push (newSetO w)).get? l = some o := Heap.get?_push_of_some _ ho
  have hT : Shared.TypeIs { s with heap := s.heap.push (newSetO w) } (.ref l) "dict" := ⟨o, ho1, hx.1⟩
  have hlen : es.size = ks.length := by
    rw [← hk, List.length_map, ← pairs_len hpairs, Array.length_toList]
  unfold Builtin.Frozenset.updateFrom Builtin.Frozenset.isAnySet
  refine wpAny_bind (wpAny_bind (wpAny_isInstance hT PySem.F.sub_dict_set (wpAny_isInstance hT PySem.F.sub_dict_frozenset ?_)))
  refine wpAny_bind (wpAny_typeOf hT ?_)
  have e1 : (Value.type "dict" == Value.type "dict") = true := by decide
  rw [e1]
  refine wpAny_bind (wpAny_rule ?_)
  show wpAny _ _ (pure l >>= fun d => _) _ _ _
  refine wpAny_bind (wpAny_pure ?_)
  dsimp only
  rw [lo]
  refine wpAny_bind (wpAny_dictEpoch ho1 hdat ?_)
  refine wpAny_bind (wpAny_dictEntries ho1 hdat ?_)
  have hS : (s.heap.push (newSetO w)).get? s.heap.objs.size = some (newSetO w) := Heap.get?_push_size _ rfl
  have hled : w.params.followText "set-order" = true ∨ (!w.params.followText "set-order") = true := by
    cases w.params.followText "set-order"
    · exact .inr rfl
    · exact .inl rfl
  refine wpAny_bind (setX_room (s := { s with heap := s.heap.push (newSetO w) }) hS hled (by omega) fun h1 sb1 hS1 => ?_)
  have ho2 : h1.get? l = some o := by
    rw [sb1.2 l (Nat.ne_of_lt hlt)]
    exact ho1
  refine wpAny_bind (wpAny_dictEntries ho2 hdat ?_)
  refine wpAny_bind ?_
  refine _root_.TI.forIn_rng _ (fun rest b s' => ∃ i h' c, rest = List.range' i (es.size - i) ∧ i ≤ es.size ∧ s' = { s with heap := h' } ∧ SetX P w h' s.heap.objs.size (hasK (ks.take i)) c ∧ c ≤ i ∧ Heap.SameBut s.heap.objs.size (s.heap.push (newSetO w)) h') _ (fun x rest b s' hI => ?_) (fun b s' hI => ?_) _ ⟨0, h1, 0, by simp, Nat.zero_le _, rfl, hS1, Nat.le_refl 0, sb1⟩
  · obtain ⟨i, h', c, er, hi, rfl, hS', hc, sb⟩ := hI
    have hlt2 : i < es.size := by
      rcases Nat.lt_or_ge i es.size with z | z
      · exact z
      · rw [show es.size - i = 0 by omega] at er
        cases er
    rw [show es.size - i = (es.size - (i + 1)) + 1 by omega, List.range'_succ] at er
    cases er
    have ho3 : h'.get? l = some o := by
      rw [sb.2 l (Nat.ne_of_lt hlt)]
      exact ho1
    refine wpAny_bind (wpAny_dictEntries ho3 hdat ?_)
    have ee : es[x]? = some es[x] := Array.getElem?_eq_getElem hlt2
    rw [ee]
    dsimp only
    obtain ⟨k, ek, eis⟩ := pairs_at hpairs x es[x] (by rw [Array.getElem?_toList]; exact ee)
    rw [hk] at ek
    obtain ⟨k2, q1, q2⟩ := hkeys es[x] (Array.getElem_mem hlt2)
    have ekk : k2 = k := (mixKind P w).inj _ _ _ q1 eis
    subst ekk
    rw [q2]
    refine wpAny_bind (wpAny_holding (setX_add (s := { s with heap := h' }) eis hS' (by have : scanBound = scanBound := rfl; unfold scanBound; omega) fun h2 sb2 hS2 => ?_))
    have ho4 : h2.get? l = some o := by
      rw [sb2.2 l (Nat.ne_of_lt hlt)]
      exact ho3
    refine wpAny_bind (wpAny_dictEpoch ho4 hdat ?_)
    have ne : (ep != ep) = false := by simp
    rw [ne]
    refine wpAny_pure ⟨x + 1, h2, _, rfl, hlt2, rfl, SetX.congr hS2 fun j => ?_, ?_, sb.trans sb2⟩
    · rw [List.take_add_one, ek]
      unfold hasK
      simp [List.any_append, eq_comm]
    · split <;> omega
  · obtain ⟨i, h', c, er, hi, rfl, hS', hc, sb⟩ := hI
    have hie : i = es.size := by
      rcases Nat.lt_or_ge i es.size with z | z
      · rw [show es.size - i = (es.size - (i + 1)) + 1 by omega, List.range'_succ] at er
        cases er
      · omega
    subst hie
    rw [List.take_of_length_le (by omega)] at hS'
    refine wpAny_pure (hQ h' s.toks c (by omega) hS' fun b o e => ?_)
    rw [sb.2 b (Nat.ne_of_lt (Heap.lt_size e))]
    exact Heap.get?_push_of_some _ e
end
end Sm
namespace Sm
open PySem PySem.Spec PyProof.Rows L2
def leS (a b : Str) : Bool := !decide (b.cps.toList < a.cps.toList)
theorem leS_iff {a b : Str} : leS a b = true ↔ a.cps.toList ≤ b.cps.toList := by
  unfold leS
  simp
theorem leS_trans {a b c : Str} (h : leS a b = true) (h2 : leS b c = true) : leS a c = true := leS_iff.mpr (List.le_trans (leS_iff.mp h) (leS_iff.mp h2))
theorem leS_total (a b : Str) : (leS a b || leS b a) = true := by
  rw [Bool.or_eq_true, leS_iff, leS_iff]
  exact List.le_total _ _
theorem leS_anti {a b : Str} (h : leS a b = true) (h2 : leS b a = true) : a = b := PySem.W.str_of_cps (List.le_antisymm (leS_iff.mp h) (leS_iff.mp h2))
theorem leS_refl (a : Str) : leS a a = true := leS_iff.mpr (List.le_refl _)
def sortS (l : List Str) : List Str := isortL leS l
theorem sortS_ms (l : List Str) : sortS l = l.mergeSort leS := isortL_is (le := leS) (fun _ _ _ h h2 => leS_trans h h2) leS_total l
theorem sortS_perm (l : List Str) : (sortS l).Perm l := by
  rw [sortS_ms]
  exact List.mergeSort_perm l leS
theorem sortS_sorted (l : List Str) : (sortS l).Pairwise fun a b => leS a b = true := by
  rw [sortS_ms]
  exact List.pairwise_mergeSort (le := leS) (fun _ _ _ h h2 => leS_trans h h2) leS_total l
theorem sorted_eq : ∀ {l m : List Str}, l.Pairwise (fun a b => leS a b = true) → m.Pairwise (fun a b => leS a b = true) → l.Perm m → l = m
  | [], m, _, _, p => by
    rw [List.nil_perm.mp p]
  | a :: l, [], _, _, p => absurd p.length_eq (by simp)
  | a :: l, b :: m, h1, h2, p => by
    obtain ⟨a1, a2⟩ := List.pairwise_cons.mp h1
    obtain ⟨b1, b2⟩ := List.pairwise_cons.mp h2
    have e : a = b := by
      have hb : b ∈ a :: l := p.mem_iff.mpr List.mem_cons_self
      have ha : a ∈ b :: m := p.mem_iff.mp List.mem_cons_self
      rcases List.mem_cons.mp hb with z | z
      · exact z.symm
      · rcases List.mem_cons.mp ha with z2 | z2
        · exact z2
        · exact leS_anti (a1 b z) (b1 a z2)
    subst e
    rw [sorted_eq a2 b2 (List.Perm.cons_inv p)]
theorem sortS_congr {l m : List Str} (p : l.Perm m) : sortS l = sortS m := sorted_eq (sortS_sorted l) (sortS_sorted m) ((sortS_perm l).trans (p.trans (sortS_perm m).symm))
def ddS : List Str → List Str
  | [] => []
  | a :: l => if (ddS l).contains a = true then ddS l else a :: ddS l
theorem ddS_mem {x : Str} : ∀ {l : List Str}, x ∈ ddS l ↔ x ∈ l
  | [] => Iff.rfl
  | a :: l => by
    unfold ddS
    split
    · rename_i h
      have h : a ∈ ddS l := by simpa using h
      rw [List.mem_cons, ddS_mem (l := l)]
      exact ⟨.inr, fun z => z.elim (fun e => by rw [e]; exact ddS_mem.mp h) id⟩
    · rw [List.mem_cons, List.mem_cons, ddS_mem (l := l)]
theorem ddS_len : ∀ l : List Str, (ddS l).length ≤ l.length
  | [] => Nat.le_refl _
  | a :: l => by
    have := ddS_len l
    unfold ddS
    split
    · rw [List.length_cons]
      omega
    · rw [List.length_cons, List.length_cons]
      omega
theorem ddS_nodup : ∀ l : List Str, (ddS l).Nodup
  | [] => List.nodup_nil
  | a :: l => by
    unfold ddS
    split
    · exact ddS_nodup l
    · rename_i h
      exact List.nodup_cons.mpr ⟨by simpa using h, ddS_nodup l⟩
theorem leT_str (a b : Str) : leT (.str a) (.str b) = leS a b := by
  show (!PySem.W.dataLt (.str b) (.str a)) = _
  rw [PySem.W.dataLt_str]
  rfl
theorem sort_strs (l : List Str) : isortL leT (l.map Dt.str) = (sortS l).map Dt.str := by
  rw [isort_leT, sortS_ms]
  exact (List.map_mergeSort (f := Dt.str) (r := leS) (s := leT) fun a _ b _ => (leT_str a b).symm).symm
theorem sortOk_strs {l : List Str} (h : l.length ≤ 16777216) : SortOk (l.map Dt.str) := by
  refine ⟨fun t ht => ?_, fun d hd d' hd' => ?_, .inl (.inr fun d hd => ?_), fun t ht => ?_, by rw [List.length_map]; exact h⟩
  · obtain ⟨a, _, rfl⟩ := List.mem_map.mp ht
    exact ⟨_, rfl⟩
  · obtain ⟨t, ht, rfl⟩ := List.mem_map.mp hd
    obtain ⟨t', ht', rfl⟩ := List.mem_map.mp hd'
    obtain ⟨a, _, rfl⟩ := List.mem_map.mp ht
    obtain ⟨b, _, rfl⟩ := List.mem_map.mp ht'
    show PySem.W.alike (.str a) (.str b) = true
    simp only [PySem.W.alike]
  · obtain ⟨t, ht, rfl⟩ := List.mem_map.mp hd
    obtain ⟨a, _, rfl⟩ := List.mem_map.mp ht
    exact And.intro (fun z => PyData.noConfusion (show PyData.str a = PyData.none from z)) fun xs z => PyData.noConfusion (show PyData.str a = PyData.tuple xs from z)
  · obtain ⟨a, _, rfl⟩ := List.mem_map.mp ht
    show PyData.depth (.str a) ≤ 60
    simp only [PyData.depth]
    omega
def strsOf : List Dt → Option (List Str)
  | [] => some []
  | .str a :: r => (strsOf r).map (a :: ·)
  | _ => none
theorem strsOf_eq : ∀ {ts : List Dt} {l : List Str}, strsOf ts = some l → ts = l.map .str
  | [], l, e => by
    cases e
    rfl
  | t :: ts, l, e => by
    cases t with
    | str a =>
      unfold strsOf at e
      cases e1 : strsOf ts with
      | none => rw [e1] at e; cases e
      | some m =>
        rw [e1] at e
        cases e
        rw [strsOf_eq e1]
        rfl
    | _ => cases e
theorem strsOf_map : ∀ l : List Str, strsOf (l.map .str) = some l
  | [] => rfl
  | a :: l => by
    show (strsOf (l.map .str)).map (a :: ·) = _
    rw [strsOf_map l]
    rfl
def pSortSet : P1 := fun d S => match (itemsOf S d).bind strsOf with
  | some l => if l.length ≤ 4000 then some (.d (.lst ((sortS (ddS l)).map .str)), S) else none
  | none => none
def strOfV (v : Value) : Str := match v with
  | .str z _ => z
  | _ => Str.empty
theorem kT_inj : ∀ {l m : List Key}, l.map kT = m.map kT → l = m
  | [], [], _ => rfl
  | [], _ :: _, e => by cases e
  | _ :: _, [], e => by cases e
  | a :: l, b :: m, e => by
    rw [List.map_cons, List.map_cons] at e
    injection e with e1 e2
    rw [kT_inj e2]
    cases a with
    | inl i => cases b with
      | inl j => cases e1; rfl
      | inr y => cases e1
    | inr x => cases b with
      | inl j => cases e1
      | inr y => cases e1; rfl
theorem strs_rv {G : Gs} {A : Al} {H : Hp} : ∀ {l : List Str} {vs : List V}, RVs G A H (l.map .str) vs → vs = l.map V.str
  | [], vs, r => r
  | a :: l, vs, r => by
    obtain ⟨v, w, rfl, r1, r2⟩ := r
    obtain rfl : v = .str a := r1
    rw [strs_rv r2]
    rfl
theorem rvs_strs {G : Gs} {A : Al} {H : Hp} : ∀ l : List Str, RVs G A H (l.map .str) (l.map V.str)
  | [] => (rfl : ([] : List V) = [])
  | a :: l => ⟨_, _, rfl, rfl, rvs_strs l⟩
section
variable {X : Cx} {G : Gs} {W : WX} {k : Nat}
theorem hasK_inr {l : List Str} {x : Str} : hasK (l.map Sum.inr) (Sum.inr x : Key) = true ↔ x ∈ l := by
  unfold hasK
  simp [List.any_eq_true]
theorem hasK_inl {l : List Str} {i : Int} : ¬ hasK (l.map Sum.inr) (Sum.inl i : Key) = true := by
  unfold hasK
  simp [List.any_eq_true]
theorem col_set {pins : List (Addr × Obj)} {σ : L2.St} {s : Shared} {H : Hp} {A : Al} {a : Addr} {l : List Str} {c : Nat} (I : L2.Inv X pins σ H s) (hh : X.A.handled = none) (hS : SetX X.prog X.w s.heap a (hasK (l.map Sum.inr)) c) : ColR X G A H pins σ s (.ref a) fun us => ∃ m : List Str, us = m.map .str ∧ m.Perm (ddS l) := by
  intro Q' hq
  obtain ⟨o, es, ep, t, ho, hx, hd, cc⟩ := hS
  refine collect_set hh ⟨o, ho, hx.1, hd⟩ cc.fit cc.lt cc.ris cc.led fun s' out k hz hg ho' hp => ?_
  have J : L2.Inv X pins σ H { s with heap := s'.heap, gens := s'.gens, drawn := s'.drawn, toks := s'.toks } := I.call (ch := []) (Un.kept k) (I.hok.kept k) (by rw [hg]; exact I.bare) (fun _ z => nomatch z)
  have e : s' = { s with heap := s'.heap, gens := s'.gens, drawn := s'.drawn, toks := s'.toks } := by
    cases s'
    cases s
    cases ho'
    rfl
  have I2 : L2.Inv X pins σ H s' := by
    rw [e]
    exact J
  have hall : ∀ v ∈ out, ∃ (z : Str) (tk : Tok), v = .str z tk ∧ z ∈ l := fun v hv => by
    obtain ⟨e, he, rfl⟩ := List.mem_map.mp (hp.mem_iff.mp hv)
    have g := (cc.good e he).1
    have hm : hasK (l.map Sum.inr) (keyX e) = true := (cc.mem _).2 (List.mem_map.mpr ⟨e, he, rfl⟩)
    rcases keyIs_shape (k := keyX e) (v := e.2) g with ⟨i, t, e1, e2⟩ | ⟨z, t, e1, e2⟩
    · rw [e1] at hm
      exact absurd hm hasK_inl
    · rw [e1] at hm
      exact ⟨z, t, e2, hasK_inr.mp hm⟩
  have hkey : ∀ e ∈ es.toList, keyX e = Sum.inr (strOfV e.2) := fun e he => by
    have g := (cc.good e he).1
    have hm : hasK (l.map Sum.inr) (keyX e) = true := (cc.mem _).2 (List.mem_map.mpr ⟨e, he, rfl⟩)
    rcases keyIs_shape (k := keyX e) (v := e.2) g with ⟨i, t, e1, e2⟩ | ⟨z, t, e1, e2⟩
    · rw [e1] at hm
      exact absurd hm hasK_inl
    · rw [e1, e2]
      rfl
  have hmap : es.toList.map keyX = (es.toList.map fun e => strOfV e.2).map Sum.inr := by
    rw [List.map_map]
    exact List.map_congr_left hkey
  have nd : (es.toList.map fun e => strOfV e.2).Nodup := by
    have := cc.nd
    rw [hmap] at this
    exact (List.pairwise_map.mp this).imp fun h e => h (by rw [e])
  have pm : (out.map strOfV).Perm (es.toList.map fun e => strOfV e.2) := by
    have := hp.map strOfV
    rw [List.map_map] at this
    exact this
  have pd : (out.map strOfV).Perm (ddS l) := by
    refine pm.trans ((List.perm_ext_iff_of_nodup nd (ddS_nodup l)).mpr fun x => ?_)
    rw [ddS_mem, ← hasK_inr (l := l), cc.mem, hmap]
    exact ⟨fun h => List.mem_map.mpr ⟨x, h, rfl⟩, fun h => by
      obtain ⟨y, hy, e⟩ := List.mem_map.mp h
      cases e
      exact hy⟩
  have hv : ∀ (us : List Value), (∀ v ∈ us, ∃ (z : Str) (tk : Tok), v = .str z tk ∧ z ∈ l) → Vals ((us.map fun v => ((Dt.str (strOfV v), V.str (strOfV v)) : Dt × V)).map (·.2)) us := fun us => by
    induction us with
    | nil => exact fun _ => .nil
    | cons u us ih =>
      intro h
      obtain ⟨z, tk, e, _⟩ := h u List.mem_cons_self
      subst e
      exact .cons ⟨tk, rfl⟩ (ih fun v hv => h v (List.mem_cons_of_mem _ hv))
  refine hq s' out (out.map fun v => (Dt.str (strOfV v), V.str (strOfV v))) I2 (hv out hall) (fun b hb => ?_) ⟨out.map strOfV, ?_, pd⟩
  · obtain ⟨v, _, rfl⟩ := List.mem_map.mp hb
    rfl
  · rw [List.map_map, List.map_map]
    rfl
theorem keys_strs {l : List Str} : (l.map Sum.inr : List Key).map kV = l.map V.str := by
  rw [List.map_map]
  rfl
theorem fills_of {pins : List (Addr × Obj)} {σ : L2.St} {s : Shared} {H : Hp} {A : Al} {S : Sto} {d : Dv} {a : Addr} {ts : List Dt} {l : List Str} (I : L2.Inv X pins σ H s) (hK : G.K = X.K) (st : StR G A S H) (r : RD G A H d (.ref a)) (h : itemsOf S d = some ts) (hl : strsOf ts = some l) (hz : l.length ≤ 4000) :
    Fills X.prog X.w s (.ref a) (l.map Sum.inr) := by
  have et := strsOf_eq hl
  rcases items_rd st r h with ⟨b, kvs, e, hd, e2⟩ | ⟨b, vs, e, hs, hv⟩
  · cases e
    obtain ⟨z, lo, vs, rk, dd⟩ := dk_rd I.hok hd
    refine fills_dict lo dd ?_ (by rw [List.length_map]; exact hz)
    rw [← KV.keys rk]
    have : (kvs.map (·.1)).map kT = (l.map Sum.inr : List Key).map kT := by
      rw [← e2, et, List.map_map]
      rfl
    exact kT_inj this
  · cases e
    have ev : vs = (l.map Sum.inr : List Key).map kV := by
      rw [keys_strs]
      subst et
      exact strs_rv hv
    rw [hK] at hs
    have hb : (l.map Sum.inr : List Key).length + 1 < scanBound := by
      rw [List.length_map]
      show l.length + 1 < 4096
      omega
    rcases hs with hs | hs
    · obtain ⟨its, rr, pl, _⟩ := I.list hs
      rw [ev] at rr
      exact fills_list pl.isList rr hb
    · obtain ⟨its, rr, pl, _⟩ := I.tuple hs
      rw [ev] at rr
      obtain ⟨o, ho, hc, n, hd⟩ := pl
      exact fills_tuple ⟨o, ho, hc, n, hd⟩ rr hb
def SetXO (P : Program) (w : World) (a : Addr) (S : Key → Bool) (n : Nat) : HO := .ext fun h => SetX P w h a S n
theorem setXO_new {P : Program} {w : World} {H : Hp} {h : Heap} {a : Addr} {S : Key → Bool} {n : Nat} (R : SetX P w h a S n) : ObjOk P w H h a (SetXO P w a S n) := by
  have ⟨o, _, _, _, ho, _⟩ := R
  exact ⟨R, ⟨o, ho⟩, fun h1 h2 p k => SetX.at p k⟩
theorem cr_setX (hc : X.calm = true) : CallR X (.type "set") (fun xs H Q => ∃ (a : Addr) (l : List Str), xs = [.ref a] ∧ (∀ pins σ s, L2.Inv X pins σ H s → Fills X.prog X.w s (.ref a) (l.map Sum.inr)) ∧ ∀ p c, H p = none → Q (.ref p) (upd H p (SetXO X.prog X.w p (hasK (l.map Sum.inr)) c))) := by
  intro pins s σ H xs us Q I r h
  obtain ⟨a, l, rfl, hf, q⟩ := h
  obtain rfl := Vals.ref1 r
  refine call_setX (I.ok.hd hc) (hf pins σ s I) fun h' tk c _ hS hk => ?_
  exact ⟨.ref s.heap.objs.size, upd H s.heap.objs.size (SetXO X.prog X.w s.heap.objs.size (hasK (l.map Sum.inr)) c), I.laid hk (Nat.le_refl _) (setXO_new hS), rfl, q _ c (I.hok.fresh (Nat.le_refl _))⟩
theorem cr_sortX (hc : X.calm = true) (hu : X.A.units + 64 < cLine) : CallR X (.builtin "sorted") (fun xs H Q => ∃ (a : Addr) (l : List Str) (c : Nat), xs = [.ref a] ∧ l.length ≤ 4000 ∧ H a = some (SetXO X.prog X.w a (hasK (l.map Sum.inr)) c) ∧ ∀ p, H p = none → Q (.ref p) (upd H p (.lst ((sortS (ddS l)).map V.str)))) := by
  intro pins s σ H xs us Q I r h
  obtain ⟨a, l, c, rfl, hz, hH, q⟩ := h
  obtain rfl := Vals.ref1 r
  have hS : SetX X.prog X.w s.heap a (hasK (l.map Sum.inr)) c := (show ObjOk X.prog X.w H s.heap a (SetXO X.prog X.w a (hasK (l.map Sum.inr)) c) from I.hok a _ hH).1
  refine sorted_col (G := ⟨X.K, fun _ => a, fun _ => .none, fun _ => none, true, []⟩) (A := ⟨[], []⟩) rfl hu (col_set I (I.ok.hd hc) hS) (fun ts hC => ?_) fun ts vs hC hv p hp => ?_
  · obtain ⟨m, rfl, hm⟩ := hC
    refine sortOk_strs ?_
    have h1 := hm.length_eq
    have h2 : (ddS l).length ≤ l.length := ddS_len l
    omega
  · obtain ⟨m, rfl, hm⟩ := hC
    rw [← isort_leT, sort_strs, sortS_congr hm] at hv
    rw [strs_rv hv]
    exact q p hp
theorem e_sortSet {a : Expr} {p p2 q pos : Pos} {m : M Dv} (hc : X.calm = true) (hu : X.A.units + 64 < cLine) (hK : G.K = X.K) (hg : Gl X "sorted") (hm : X.mg "sorted" = none) (hg2 : Gl X "set") (hm2 : X.mg "set" = none) (ha : PE X a (tM G W m)) (hs : starEach [a] X.env = (false, eval a X.env) :: starEach [] X.env)
    (hs2 : starEach [.Call (.Name "set" p2) [a] [] q] X.env = (false, eval (.Call (.Name "set" p2) [a] [] q) X.env) :: starEach [] X.env) (hpl : (backTo q (starEach [] X.env)).any (·.1) = false) (hpl2 : (backTo pos (starEach [] X.env)).any (·.1) = false) :
    PE X (.Call (.Name "sorted" p) [.Call (.Name "set" p2) [a] [] q] [] pos) (tM G W (m1 pSortSet m)) := by
  have h1 := pe_callTy (p := p2) (pos := q) (cr_setX (X := X) hc) hg2 hm2 PyProof.Rows.boot_set (pa_cons ha pa_nil hs) (by decide) (by decide) hs hpl
  refine (pe_callB (p := p) (pos := pos) (cr_sortX hc hu) hg hm PyProof.Rows.boot_sorted (pa_cons h1 pa_nil hs2) (by decide) (by decide) hs2 hpl2).sm fun σ H Q h => ?_
  obtain ⟨A, ρ, S, he, st, p0⟩ := h
  refine ⟨A, ρ, S, he, st, Po.step p0 fun d S1 A1 H1 x1 s1 p1 v rv => ?_⟩
  unfold pSortSet at p1
  split at p1
  · rename_i l el
    obtain ⟨ts, e1, e2⟩ := Option.bind_eq_some_iff.mp el
    split at p1
    · rename_i hz
      have href : ∃ b, v = .ref b := by
        rcases items_rd s1 rv e1 with ⟨b, _, e, _⟩ | ⟨b, _, e, _⟩
        · exact ⟨b, e⟩
        · exact ⟨b, e⟩
      obtain ⟨b, rfl⟩ := href
      refine ⟨b, l, rfl, fun pins σ' s' I => fills_of I hK s1 rv e1 e2 hz, fun D c hD => ⟨D, l, c, rfl, hz, upd_same, fun r hr => ?_⟩⟩
      have x2 : Ext A1 H1 A1 (upd H1 D (SetXO X.prog X.w D (hasK (l.map Sum.inr)) c)) := Ext.new hD
      have s2 := s1.new (o := SetXO X.prog X.w D (hasK (l.map Sum.inr)) c) hD
      exact Po.at p1 (x2.trans (Ext.new hr)) (s2.new hr) _ (RV.lst_new s2 hr (rvs_strs (sortS (ddS l))))
    · exact p1.elim
  · exact p1.elim
end
end Sm
namespace Sm
open PySem PySem.Spec PyProof.Rows L2
def setAll : List Nat → List Dv → Env → Env
  | i :: is, d :: ds, ρ => setAll is ds (ρ.set i (some d))
  | _, _, ρ => ρ
def setAllV : List Nat → List V → L2.St → L2.St
  | i :: is, v :: vs, σ => setAllV is vs (σ.set i (some v))
  | _, _, σ => σ
theorem setAll_env {G : Gs} {A : Al} {H : Hp} (is : List Nat) : ∀ {ds : List Dv} {vs : List V} {ρ : Env} {σ : L2.St}, EnvR G A H ρ σ → RDs G A H ds vs → EnvR G A H (setAll is ds ρ) (setAllV is vs σ) := by
  induction is with
  | nil =>
    intro ds vs ρ σ h r
    cases r <;> exact h
  | cons i is ih =>
    intro ds vs ρ σ h r
    cases r with
    | nil => exact h
    | cons r t => exact ih (h.set r) t
def sPars (is : List Nat) (ma : M (List Dv)) : SM := fun ρ S => (ma ρ S).to ρ fun ds S1 => if ds.length = is.length then .nx (setAll is ds ρ) S1 else .bad
def NmG (u : TGs) (is : List Nat) : Prop := ∀ (vs : List V) (σ : L2.St) (H : Hp) (Q : L2.St → Hp → Prop), vs.length = is.length → Q (setAllV is vs σ) H → u vs σ H Q
theorem nm_nil : NmG gNil [] := fun vs σ H Q hl q => by
  cases vs with
  | nil => exact ⟨rfl, q⟩
  | cons => cases hl
theorem nm_cons {i : Nat} {u : TGs} {is : List Nat} (h : NmG u is) : NmG (gCons (gName i) u) (i :: is) := fun vs σ H Q hl q => by
  cases vs with
  | nil => cases hl
  | cons v vs => exact ⟨v, vs, rfl, h vs _ H Q (by simpa using hl) q⟩
section
variable {X : Cx} {G : Gs} {W : WX} {k : Nat}
theorem pars_po {A : Al} {H H' : Hp} {is : List Nat} {ds : List Dv} {vs : List V} {ρ : Env} {σ : L2.St} {S : Sto} {D : Ends} (e : EnvR G A H ρ σ) (s : StR G A S H) (r : RDs G A H ds vs) (p : PoS G W A H (if ds.length = is.length then Sz.nx (setAll is ds ρ) S else .bad) D) : vs.length = is.length ∧ D.nx (setAllV is vs σ) H := by
  split at p
  · rename_i hl
    exact ⟨by rw [← Paired.length r]; exact hl, PoS.nx_now p s (setAll_env is e r)⟩
  · exact p.elim
theorem s_par2 {i j : Nat} {x y : Str} {a b : Expr} {ma : M (List Dv)} {px py pt pos pt2 : Pos} {kt k2 : Nat} (B : Bx X G W k) (ha : PA X [a, b] (tMA G W ma)) (hi : X.N[i]? = some x := by rfl) (hj : X.N[j]? = some y := by rfl) (hij : i ≠ j := by decide) (hx : X.env.scope.names.lookup x = some .local := by rfl) (hy : X.env.scope.names.lookup y = some .local := by rfl)
    (hw : swappedStores [.Tuple [.Name x px, .Name y py] kt pt] (.Tuple [a, b] k2 pt2) X.env = pure (some [x, y]) := by rfl) (hs : swapsWithSole [.Tuple [.Name x px, .Name y py] kt pt] (.Tuple [a, b] k2 pt2) pos.line X.env = pure false := by rfl) :
    PS X (.Assign [.Tuple [.Name x px, .Name y py] kt pt] (.Tuple [a, b] k2 pt2) pos) (tMS G W (sPars [i, j] ma)) := by
  refine (ps_par B.calm B.nd hi hj hij hx hy ha hw hs).sm fun D σ H h => ?_
  obtain ⟨A, ρ, S, he, st, p⟩ := h
  refine ⟨A, ρ, S, he, st, PoS.step he p fun ds S1 A1 H1 x1 s1 e1 p1 vs rvs => ?_⟩
  obtain ⟨hl, q⟩ := pars_po (is := [i, j]) (H' := H1) e1 s1 rvs p1
  match vs, hl, q with
  | [v, w], _, q => exact ⟨v, w, rfl, q⟩
theorem s_parT {tgs es : List Expr} {u : TGs} {n : Nat} {is : List Nat} {ma : M (List Dv)} {pt pt2 pos : Pos} {kt k2 : Nat} (B : Bx X G W k) (ha : PA X es (tMA G W ma)) (hg : PG X (.Tuple tgs kt pt) (gTup X.K n u)) (hu : NmG u is) (hn : n = is.length := by rfl) (hz : is.length ≤ 100 := by decide)
    (hs : swapsWithSole [.Tuple tgs kt pt] (.Tuple es k2 pt2) pos.line X.env = pure false := by rfl) (hw : swappedStores [.Tuple tgs kt pt] (.Tuple es k2 pt2) X.env = pure none := by rfl) (h1 : (assignEach [.Tuple tgs kt pt] X.env).map (·.2) = [assign (.Tuple tgs kt pt) X.env] := by rfl) :
    PS X (.Assign [.Tuple tgs kt pt] (.Tuple es k2 pt2) pos) (tMS G W (sPars is ma)) := by
  refine (ps_asg (pe_tup ha) hg hs hw h1).sm fun D σ H h => ?_
  obtain ⟨A, ρ, S, he, st, p⟩ := h
  refine ⟨A, ρ, S, he, st, PoS.step he p fun ds S1 A1 H1 x1 s1 e1 p1 vs rvs => ?_⟩
  obtain ⟨hl, _⟩ := pars_po (is := is) (H' := H1) e1 s1 rvs p1
  refine ⟨by rw [hl]; exact line_of (by omega), fun q hq => ⟨q, vs, rfl, .inl (.inl upd_same), by rw [hl, hn], hu vs σ _ _ hl ?_⟩⟩
  have x2 : Ext A1 H1 A1 (upd H1 q (.tup vs)) := Ext.new hq
  exact (pars_po (is := is) (H' := upd H1 q (.tup vs)) (e1.kp x2.kp) (s1.new hq) (rvs.kp x2.kp) (PoS.mono x2 p1)).2
def mDnew : M Dv := fun _ S => .ok (.loc S.length) (S ++ [.dct [] []])
theorem e_dnew {pos : Pos} : PE X (.Dict [] [] pos) (tM G W mDnew) := by
  refine pe_dnewK.sm fun σ H Q h p hp => ?_
  obtain ⟨A, ρ, S, he, st, p0⟩ := h
  obtain ⟨x1, s1, r1⟩ := box_dct (kvs := []) (ks := []) (ds := []) st hp rfl .nil
  exact Po.at p0 x1 s1 _ r1
end
def pTru : PT1 := fun d S => match d with
  | .d .non => some false
  | .d (.bl b) => some b
  | .d (.int i) => some (i != 0)
  | .d (.str y) => if y.length ≤ 16777216 then some ((y.length : Int) != 0) else none
  | .d (.tup xs) => some (!xs.isEmpty)
  | .d (.lst xs) => some (!xs.isEmpty)
  | .d (.scr xs) => some (!xs.isEmpty)
  | .loc n => (match S[n]? with
    | some (.lst xs) => some (!xs.isEmpty)
    | some (.dct ks _) => some (!ks.isEmpty)
    | _ => none)
  | _ => none
theorem empty_len {α β : Type} {xs : List α} {ys : List β} (h : xs.length = ys.length) : xs.isEmpty = ys.isEmpty := by
  cases xs <;> cases ys <;> simp at h ⊢
theorem tru_ok' {G : Gs} : TruS G pTru := by
  intro A S H d v b r s h
  unfold pTru at h
  split at h
  · cases h
    obtain rfl : v = .non := r
    exact rfl
  · cases h
    obtain rfl : v = .bl _ := r
    exact rfl
  · cases h
    obtain rfl : v = .int _ := r
    exact rfl
  · split at h
    · rename_i hl
      cases h
      obtain rfl : v = .str _ := r
      exact ⟨line_of hl, rfl⟩
    · cases h
  · cases h
    obtain ⟨a, vs, rfl, ha, hv⟩ := r
    exact .inr (.inl ⟨vs, ha.sq, by rw [empty_len hv.length]⟩)
  · cases h
    obtain ⟨a, vs, rfl, ha, hv⟩ := r
    exact .inl ⟨vs, ha.sq, by rw [empty_len hv.length]⟩
  · cases h
    obtain ⟨a, vs, rfl, ha, hv⟩ := r
    exact .inl ⟨vs, ha.sq, by rw [empty_len hv.length]⟩
  · split at h
    · rename_i e
      cases h
      obtain ⟨a, vs, rfl, _, hl, hv⟩ := loc_lst s r e
      exact .inl ⟨vs, .inl (.inl hl), by rw [empty_len (Paired.length hv)]⟩
    · rename_i e
      cases h
      obtain ⟨a, kvs, rfl, _, hl, ek, hv⟩ := loc_dct s r e
      refine .inr (.inr ⟨kvs, hl, ?_⟩)
      rw [← ek]
      cases kvs <;> rfl
    · cases h
  · cases h
structure Cal (P : Program) (w : World) (G : Gs) (mg : Str → Option Value) (base : Heap) (k : Nat) (x : Str) (n : Nat) (ks : List Str) (F : FM) : Prop where
  ex : ∃ f, mg x = some (.ref f) ∧ PySem.W.keepIn G.K (.ref f) = true ∧ CallW P w G mg base k f n ks F
theorem Cal.isoC {P : Program} {w : World} {G : Gs} {mg : Str → Option Value} {base : Heap} {k : Nat} {x : Str} {n : Nat} {ks : List Str} {F : FM} (h : Cal P w G mg base k x n ks F) : Cal P w G mg base k x n ks (iso F) := by
  obtain ⟨f, h1, h2, h3⟩ := h.ex
  exact ⟨f, h1, h2, h3.isoF⟩
theorem Cal.viewC {P : Program} {w : World} {G : Gs} {mg : Str → Option Value} {base : Heap} {k : Nat} {x : Str} {n : Nat} {ks : List Str} {F : FM} (h : Cal P w G mg base k x n ks F) : Cal P w G mg base k x n ks (view F) := by
  obtain ⟨f, h1, h2, h3⟩ := h.ex
  exact ⟨f, h1, h2, h3.viewF⟩
section
variable {X : Cx} {G : Gs} {W : WX} {k n : Nat} {x m : Str} {p pos pos' apos : Pos} {a b c e T : Expr} {es : List Expr} {kws : List Keyword} {ma mk : M (List Dv)} {mo m1' mb : M Dv} {F : FM} {ks : List Str} {id T' : String} {pn : PN}
theorem xv (i : Nat) (hN : X.N[i]? = some x := by rfl) (hv : Vis X.env.scope x := by first | exact Or.inl rfl | exact Or.inr (Or.inl rfl) | exact Or.inr (Or.inr rfl)) (hd : (x == ("__debug__" : Str)) = false := by decide) (hcd : (x == ("__classdict__" : Str)) = false := by decide) : PE X (.Name x pos) (tM G W (mV i)) := e_var hN hv hd hcd
theorem xa (h : PE X e (tM G W mo)) (r : PA X es (tMA G W ma)) (hs : starEach (e :: es) X.env = (false, eval e X.env) :: starEach es X.env := by rfl) : PA X (e :: es) (tMA G W (aCons mo ma)) := a_cons h r hs
theorem xcall (R : Cal X.prog X.w G X.mg X.base k x n [] F) (B : Bx X G W k) (ha : PA X (e :: es) (tMA G W ma)) (al : ALen ma n := by repeat (first | exact al_nil | refine al_cons ?_)) (hg : Gl X x := by rfl) (hdb : (x == ("__debug__" : Str)) = false := by decide)
    (he : starEach (e :: es) X.env = (false, eval e X.env) :: starEach es X.env := by rfl) (hpl : (backTo pos (starEach es X.env)).any (·.1) = false := by rfl) : PE X (.Call (.Name x p) (e :: es) [] pos) (tM G W (mF F ma)) := by
  obtain ⟨f, h1, h2, h3⟩ := R.ex
  exact e_call h3 B hg h1 (by rw [← B.hK]; exact h2) ha al hdb he hpl
theorem xcall0 (R : Cal X.prog X.w G X.mg X.base k x 0 [] F) (B : Bx X G W k) (hg : Gl X x := by rfl) (hdb : (x == ("__debug__" : Str)) = false := by decide) : PE X (.Call (.Name x p) [] [] pos) (tM G W (mF F aNil)) := by
  obtain ⟨f, h1, h2, h3⟩ := R.ex
  exact e_call0 h3 B hg h1 (by rw [← B.hK]; exact h2) hdb
theorem xcallK0 (R : Cal X.prog X.w G X.mg X.base k x 0 ks F) (B : Bx X G W k) (hkw : PK X kws (tMA G W mk)) (al2 : ALen mk ks.length := by repeat (first | exact al_nil | refine al_cons ?_)) (hg : Gl X x := by rfl)
    (hall : (backToKw pos (keywordEach kws X.env)).all (·.1.isSome) = true := by rfl) (hks : (backToKw pos (keywordEach kws X.env)).filterMap (·.1) = ks := by rfl) (hdb : (x == ("__debug__" : Str)) = false := by decide)
    (hpl : ((backTo pos (starEach [] X.env)).any (·.1) || (backToKw pos (keywordEach kws X.env)).any (·.1.isNone)) = false := by rfl) : PE X (.Call (.Name x p) [] kws pos) (tM G W (mF F mk)) := by
  obtain ⟨f, h1, h2, h3⟩ := R.ex
  exact e_callK0 h3 B hg h1 (by rw [← B.hK]; exact h2) hkw al2 hall hks hdb hpl
theorem xb (hc : CallR X (.builtin id) (qN G pn)) (hm : X.mg x = none) (hv : bootBuiltins x = some (.builtin id)) (ha : PA X (e :: es) (tMA G W ma)) (hg : Gl X x := by rfl) (hn : x ≠ "__name__" := by decide) (hdb : (x == ("__debug__" : Str)) = false := by decide)
    (he : starEach (e :: es) X.env = (false, eval e X.env) :: starEach es X.env := by rfl) (hpl : (backTo pos (starEach es X.env)).any (·.1) = false := by rfl) : PE X (.Call (.Name x p) (e :: es) [] pos) (tM G W (mN pn ma)) := e_callB hc hg hm hv ha hn hdb he hpl
theorem xt (hc : CallR X (.type T') (qN G pn)) (hm : X.mg x = none) (hv : bootBuiltins x = some (.type T')) (ha : PA X (e :: es) (tMA G W ma)) (hg : Gl X x := by rfl) (hn : x ≠ "__name__" := by decide) (hdb : (x == ("__debug__" : Str)) = false := by decide)
    (he : starEach (e :: es) X.env = (false, eval e X.env) :: starEach es X.env := by rfl) (hpl : (backTo pos (starEach es X.env)).any (·.1) = false := by rfl) : PE X (.Call (.Name x p) (e :: es) [] pos) (tM G W (mN pn ma)) := e_callT hc hg hm hv ha hn hdb he hpl
theorem xty (hm : X.mg x = none) (hv : bootBuiltins x = some (.type T')) (hg : Gl X x := by rfl) (hn : x ≠ "__name__" := by decide) (hdb : (x == ("__debug__" : Str)) = false := by decide) : PE X (.Name x pos) (tC (.ty T')) := pe_bltn hg hm hv rfl hn hdb
theorem xcmp {op : CmpOp} {pp : P2} (ho : OpR X (compareOp op) (q2 G pp)) (ha : PE X a (tM G W mo)) (hb : PE X b (tM G W mb)) (hm : behindInMarks op b = false := by first | rfl | exact nomark _ | with_unfolding_all rfl) : PE X (.Compare a [op] [b] pos) (tM G W (m2 pp mo mb)) := e_cmp ho ha hb hm
theorem xcmpT {op : CmpOp} {pp : P2} (ho : OpR X (compareOp op) (q2 G pp)) (ha : PE X a (tM G W mo)) (hb : PE X b (tM G W mb)) (hm : behindInMarks op b = false := by first | rfl | exact nomark _ | with_unfolding_all rfl) : PT X (.Compare a [op] [b] pos) (tMT G W (mTst (m2 pp mo mb))) := c_cmp ho ha hb hm
theorem xtru (B : Bx X G W k) (ha : PE X a (tM G W mo)) (he : ∀ whole, isTrue a X.env whole = (do let v ← whole; standAt a.pos; holding [v] (truthy v)) := by exact fun _ => rfl) : PT X a (tMT G W (mTru pTru mo)) := c_tru tru_ok' B.hK ha he
theorem xorT (B : Bx X G W k) (ha : PE X a (tM G W mo)) (hb : PE X (.BoolOp .Or (b :: es) pos) (tM G W mb)) : PE X (.BoolOp .Or (a :: b :: es) pos) (tM G W (mOrT pTru mo mb)) := e_orT tru_ok' B.hK ha hb
theorem xix (B : Bx X G W k) (ha : PE X a (tM G W mo)) (hb : PE X b (tM G W mb)) (hs : PlainIx b := by exact fun _ _ => rfl) : PE X (.Subscript a b pos) (tM G W (m2 pIx mo mb)) := e_ix (i_ix B.room.units B.hK) ha hb hs
theorem xisa (B : Bx X G W k) (hm : X.mg "isinstance" = none) {bt : String} (he : PE X e (tM G W mo)) (hT : PE X T (tC (.ty bt))) (hb : bt ∈ tyR := by decide) (hg : Gl X "isinstance" := by rfl) (hs : starEach [e, T] X.env = (false, eval e X.env) :: starEach [T] X.env := by rfl) (hs2 : starEach [T] X.env = (false, eval T X.env) :: starEach [] X.env := by rfl)
    (hpl : (backTo pos (starEach [T] X.env)).any (·.1) = false := by rfl) : PE X (.Call (.Name "isinstance" p) [e, T] [] pos) (tM G W (m1 (pIsa [bt]) mo)) := e_isa B.hK hg hm hb he hT hs hs2 hpl
theorem xisaT (B : Bx X G W k) (hm : X.mg "isinstance" = none) (bs : List String) {kk : Nat} {tpos : Pos} (he : PE X e (tM G W mo)) (hes : PA X es (fun σ H Q => Q (bs.map V.ty) H)) (hb : ∀ b ∈ bs, b ∈ tyR := by decide) (hz : bs.length ≤ 100 := by decide) (hg : Gl X "isinstance" := by rfl)
    (hs : starEach [e, .Tuple es kk tpos] X.env = (false, eval e X.env) :: starEach [.Tuple es kk tpos] X.env := by rfl) (hs2 : starEach [.Tuple es kk tpos] X.env = (false, eval (.Tuple es kk tpos) X.env) :: starEach [] X.env := by rfl)
    (hpl : (backTo pos (starEach [.Tuple es kk tpos] X.env)).any (·.1) = false := by rfl) : PE X (.Call (.Name "isinstance" p) [e, .Tuple es kk tpos] [] pos) (tM G W (m1 (pIsa bs) mo)) := e_isaT B.hK hg hm bs hb hz he hes hs hs2 hpl
theorem xss {q p2 : Pos} (B : Bx X G W k) (z1 : X.mg "sorted" = none) (z2 : X.mg "set" = none) (ha : PE X a (tM G W mo)) (hg : Gl X "sorted" := by rfl) (hg2 : Gl X "set" := by rfl) (hs : starEach [a] X.env = (false, eval a X.env) :: starEach [] X.env := by rfl)
    (hs2 : starEach [.Call (.Name "set" p2) [a] [] q] X.env = (false, eval (.Call (.Name "set" p2) [a] [] q) X.env) :: starEach [] X.env := by rfl) (hpl : (backTo q (starEach [] X.env)).any (·.1) = false := by rfl) (hpl2 : (backTo pos (starEach [] X.env)).any (·.1) = false := by rfl) :
    PE X (.Call (.Name "sorted" p) [.Call (.Name "set" p2) [a] [] q] [] pos) (tM G W (m1 pSortSet mo)) := e_sortSet B.calm B.room.units B.hK hg z1 hg2 z2 ha hs hs2 hpl hpl2
theorem xlm {pm : PM} {name : Str} {o : Expr} {cpos : Pos} (B : Bx X G W k) (slot : Slot "list" name id) (hty : typeOf (.builtin id) = pure (.type "method_descriptor")) (hm : MtR X id (qM G pm)) (ho : PE X o (tM G W mo)) (ha : PA X (e :: es) (tMA G W ma)) (hbase : attributeBase o name X.env (eval o X.env) = eval o X.env := by rfl)
    (hfew : ((backTo cpos (starEach (e :: es) X.env)).all (fun x => !x.1) && (backToKw cpos (keywordEach [] X.env)).all (fun x => x.1.isSome) && decide ((e :: es).length + ([] : List Keyword).length + (if ([] : List Keyword).isEmpty then 0 else 1) < 30)) = true := by rfl)
    (hline : (apos.endLine == cpos.line) = true := by rfl) (hs : starEach (e :: es) X.env = (false, eval e X.env) :: starEach es X.env := by rfl) (hplain : (backTo cpos (starEach es X.env)).any (·.1) = false := by rfl) : PE X (.Call (.Attribute o name apos) (e :: es) [] cpos) (tM G W (mLm pm mo ma)) := e_lm B.hK slot hty hm ho ha hbase hfew hline hs hplain
theorem xfld {c i : Nat} {pp : Addr} (B : Bx X G W k) (cl : SlX.SCls X.K (G.cls c)) (sl : SlX.Slot1 X.K (G.cls c) m pp i) (he : PE X e (tM G W mo)) (hb : attributeBase e m X.env (eval e X.env) = eval e X.env := by rfl) : PE X (.Attribute e m pos) (tM G W (m1 (pFld c i) mo)) := e_fld B cl sl he hb
end
end Sm
namespace Sm
open PySem PySem.Spec PyProof.Rows L2
section
variable {X : Cx} {G : Gs} {W : WX} {k n : Nat} {x m : Str} {p pos pos' apos cpos : Pos} {a b c e o tg iter elt value kx vx : Expr} {es ifs : List Expr} {kws : List Keyword} {ma mk : M (List Dv)} {mo mb ek ev : M Dv} {F : FM} {ks : List Str} {it : M (List Dt)} {g : GM} {t : TG} {L : List Nat} {sb : SM} {body : List Stmt} {cm : M Bool} {scope : Scope}
theorem yset (i : Nat) (B : Bx X G W k) (h : PE X e (tM G W mo)) (hi : X.N[i]? = some x := by rfl) (hx : Loc X.env.scope x := by first | exact Or.inl rfl | exact Or.inr rfl) (hs : swapsWith e (some (.Name x pos')) pos.line X.env = pure false := by rfl) (hf : X.fn x = true ∨ X.env.scope.names.lookup x = some .local := by first | exact Or.inl rfl | exact Or.inr rfl) :
    PS X (.Assign [.Name x pos'] e pos) (tMS G W (sSet i mo)) := s_set B.nd hi hx h hs hf
theorem yasg (hg : PG X tg t) (hgs : TgS G t g L) (h : PE X e (tM G W mo)) (hs : swapsWithSole [tg] e pos.line X.env = pure false := by rfl) (hw : swappedStores [tg] e X.env = pure none := by rfl) (h1 : (assignEach [tg] X.env).map (·.2) = [assign tg X.env] := by rfl) : PS X (.Assign [tg] e pos) (tMS G W (sAsg g mo)) := s_asg hg hgs h hs hw h1
theorem ysub {i' : Expr} {mi mv : M Dv} (B : Bx X G W k) (ho : PE X o (tM G W mo)) (hi : PE X i' (tM G W mi)) (hv : PE X value (tM G W mv)) (hs : swapsWith value (some (.Subscript o i' pos')) pos.line X.env = pure false := by rfl) : PS X (.Assign [.Subscript o i' pos'] value pos) (tMS G W (sSub mo mi mv)) := s_sub B.room.units ho hi hv hs
theorem yfld {cc i : Nat} {pp : Addr} {mv : M Dv} (B : Bx X G W k) (cl : SlX.SCls X.K (G.cls cc)) (sl : SlX.Slot1 X.K (G.cls cc) m pp i) (ho : PE X o (tM G W mo)) (hv : PE X value (tM G W mv)) (hs : swapsWith value (some (.Attribute o m pos')) pos.line X.env = pure false := by rfl) : PS X (.Assign [.Attribute o m pos'] value pos) (tMS G W (sFld cc i mo mv)) := s_fld B cl sl ho hv hs
theorem yfor (hp : PassesOwn (model X.prog X.w) X.A X.env X.xe) (B : Bx X G W k) (hi : PIS X G W tg iter it) (hg : PG X tg t) (hgs : TgS G t g L) (hb : PSs X body (tMS G W sb)) (hs : ∀ x, foldedSetIterable iter X.env x = pure x := by exact fun _ => rfl) : PS X (.For tg iter body [] pos) (tMS G W (sFor it g sb)) := s_for hp B.calm hi hg hgs hb hs
theorem yexpr (h : PE X e (tM G W mo)) (hs : swapsWith e none pos.line X.env = pure false := by rfl) : PS X (.Expr e pos) (tMS G W (sDrop mo)) := s_expr h hs
theorem yname (i : Nat) (B : Bx X G W k) (hi : X.N[i]? = some x := by rfl) (hx : Loc X.env.scope x := by first | exact Or.inl rfl | exact Or.inr rfl) (hf : X.fn x = true ∨ X.env.scope.names.lookup x = some .local := by first | exact Or.inl rfl | exact Or.inr rfl) : PG X (.Name x pos) (gName i) := pg_name B.nd hi hx hf
theorem ytup {es : List Expr} {kt : Nat} {u : TGs} {n : Nat} (B : Bx X G W k) (h : PGs X es u) (hn : (assignEach es X.env).length = n := by rfl) (hst : (assignEach es X.env).findIdx? (·.1) = none := by rfl) : PG X (.Tuple es kt pos) (gTup X.K n u) := pg_tup B.calm h hn hst
theorem ytupS {u : TGs} {gs : GMs} {L : List Nat} {n : Nat} (hK : G.K = X.K) (hl : GLen gs n) (h : TgSs G u gs L) : TgS G (gTup X.K n u) (gT gs) L := by
  rw [← hK]
  exact g_tup hl h
theorem yrg1 (z : X.mg "range" = none) (ha : PA X [a] (tMA G W ma)) (hg : Gl X "range" := by rfl) (hs : starEach [a] X.env = [(false, eval a X.env)] := by rfl) : PIS X G W tg (.Call (.Name "range" p) [a] [] pos) (iRg rg1 ma) := i_rg1 hg z ha hs
theorem yenum {tpos : Pos} {kk : Nat} (B : Bx X G W k) (z : X.mg "enumerate" = none) (ha : PA X [a] (tMA G W ma)) (hg : Gl X "enumerate" := by rfl) (hs : starEach [a] X.env = [(false, eval a X.env)] := by rfl) : PIS X G W (.Tuple es kk tpos) (.Call (.Name "enumerate" p) [a] [] pos) (iRg en1 ma) := i_enum B.hK hg z ha hs
theorem yzip {tpos : Pos} {kk : Nat} (B : Bx X G W k) (z : X.mg "zip" = none) (ha : PA X [a, b] (tMA G W ma)) (hg : Gl X "zip" := by rfl) (hs : starEach [a, b] X.env = (false, eval a X.env) :: starEach [b] X.env := by rfl) (hpl : (backTo pos (starEach [b] X.env)).any (·.1) = false := by rfl) : PIS X G W (.Tuple es kk tpos) (.Call (.Name "zip" p) [a, b] [] pos) (iRg zp2 ma) := i_zip B.hK hg z ha hs hpl
theorem ylc (own : List (Str × Nat)) {pe : PN} (hpe : LEnd G pe) (B : Bx X G W k) (hi : PIS X G W tg iter it) (hg : ∀ (s : Shared) (H : Hp) (C : Addr) (cl : List (Str × Addr)) (fp : List Addr), PG (X.blk s H scope (compEnvC scope cl C X.env) fp) tg t) (hgs : TgS G t g L)
    (ht : ∀ (s : Shared) (H : Hp) (C : Addr) (cl : List (Str × Addr)) (fp : List Addr), PTs (X.blk s H scope (compEnvC scope cl C X.env) fp) ifs (tMT G W0 cm)) (he : ∀ (s : Shared) (H : Hp) (C : Addr) (cl : List (Str × Addr)) (fp : List Addr), PE (X.blk s H scope (compEnvC scope cl C X.env) fp) elt (tM G W0 mo))
    (ok : blkC X.N X.env.scope scope own = true := by rfl) (hL : ∀ i ∈ L, i ∈ own.map (·.2) := by decide) (hs : ∀ x, foldedSetIterable iter X.env x = pure x := by exact fun _ => rfl) : PE X (.ListComp elt [⟨tg, iter, ifs, 0⟩] scope pos) (tM G W (mN pe (mLcI (own.map (·.2)) it g cm mo))) := e_lc' hpe B hi (blkOk_by ok) hg hgs hL ht he hs
theorem ysetLc (i : Nat) (own : List (Str × Nat)) {y : Str} {py spos : Pos} {pe : PN} (hpe : LEnd G pe) (B : Bx X G W k) (hi : PIS X G W tg iter it) (hg : ∀ (s : Shared) (H : Hp) (C : Addr) (cl : List (Str × Addr)) (fp : List Addr), PG (X.blk s H scope (compEnvC scope cl C X.env) fp) tg t) (hgs : TgS G t g L)
    (ht : ∀ (s : Shared) (H : Hp) (C : Addr) (cl : List (Str × Addr)) (fp : List Addr), PTs (X.blk s H scope (compEnvC scope cl C X.env) fp) ifs (tMT G W0 cm)) (he : ∀ (s : Shared) (H : Hp) (C : Addr) (cl : List (Str × Addr)) (fp : List Addr), PE (X.blk s H scope (compEnvC scope cl C X.env) fp) elt (tM G W0 mo))
    (hy : X.N[i]? = some y := by rfl) (hyl : X.env.scope.names.lookup y = some .local := by rfl) (hk : X.env.scope.kind = .function := by rfl) (hl : (py.line == pos.line) = true := by rfl) (hn : (scope.names.any fun (n, k) => n == y && (k == .local || k == .cell)) = false := by rfl)
    (ok : blkC X.N X.env.scope scope own = true := by rfl) (hL : ∀ i ∈ L, i ∈ own.map (·.2) := by decide) (hs : ∀ x, foldedSetIterable iter X.env x = pure x := by exact fun _ => rfl) : PS X (.Assign [.Name y py] (.ListComp elt [⟨tg, iter, ifs, 0⟩] scope pos) spos) (tMS G W (sSet i (mN pe (mLcI (own.map (·.2)) it g cm mo)))) :=
  s_setLc hpe B hy hyl (sw_true hk hyl hl hn) hi (blkOk_by ok) hg hgs hL ht he hs
theorem ydc (own : List (Str × Nat)) {pe : PD} (hpe : DEnd G pe) (B : Bx X G W k) (hi : PIS X G W tg iter it) (hg : ∀ (s : Shared) (H : Hp) (C : Addr) (cl : List (Str × Addr)) (fp : List Addr), PG (X.blk s H scope (compEnvC scope cl C X.env) fp) tg t) (hgs : TgS G t g L)
    (ht : ∀ (s : Shared) (H : Hp) (C : Addr) (cl : List (Str × Addr)) (fp : List Addr), PTs (X.blk s H scope (compEnvC scope cl C X.env) fp) ifs (tMT G W0 cm)) (hk : ∀ (s : Shared) (H : Hp) (C : Addr) (cl : List (Str × Addr)) (fp : List Addr), PE (X.blk s H scope (compEnvC scope cl C X.env) fp) kx (tM G W0 ek))
    (he : ∀ (s : Shared) (H : Hp) (C : Addr) (cl : List (Str × Addr)) (fp : List Addr), PE (X.blk s H scope (compEnvC scope cl C X.env) fp) vx (tM G W0 ev)) (ok : blkC X.N X.env.scope scope own = true := by rfl) (hL : ∀ i ∈ L, i ∈ own.map (·.2) := by decide) (hs : ∀ x, foldedSetIterable iter X.env x = pure x := by exact fun _ => rfl) :
    PE X (.DictComp kx vx [⟨tg, iter, ifs, 0⟩] scope pos) (tM G W (mDc pe (own.map (·.2)) it g cm ek ev)) := e_dc hpe B hi (blkOk_by ok) hg hgs hL ht hk he hs
structure CalI (P : Program) (w : World) (G : Gs) (mg : Str → Option Value) (base : Heap) (k c : Nat) (x : Str) (n : Nat) (F : FM) : Prop where
  ex : ∃ f, mg x = some (.ref (G.cls c)) ∧ Mk G.K (G.cls c) f ∧ CallW P w G mg base k f (n + 1) [] F
structure CalM (P : Program) (w : World) (G : Gs) (mg : Str → Option Value) (base : Heap) (k c : Nat) (x : Str) (n : Nat) (F : FM) : Prop where
  ex : ∃ f, SlX.SCls G.K (G.cls c) ∧ Meth G.K (G.cls c) x f ∧ CallW P w G mg base k f (n + 1) [] F
theorem ymeth0 {cc : Nat} {pl : Sem Bool} (R : CalM X.prog X.w G X.mg X.base k cc m 0 F) (B : Bx X G W k) (ho : PE X o (tM G W mo)) (ht : eval (.Call (.Attribute o m apos) [] [] pos) X.env = (do
      let ov ← eval o X.env
      standAt apos.atName
      let (f, first) ← holding [ov] (getMethod ov m pl)
      callWith pos f first (backTo pos (starEach [] X.env)) (backToKw pos (keywordEach [] X.env))) := by rfl) : PE X (.Call (.Attribute o m apos) [] [] pos) (tM G W (mMeth cc F mo aNil)) := by
  obtain ⟨f, h1, h2, h3⟩ := R.ex
  exact e_meth0 h3 B (by rw [← B.hK]; exact h1) (by rw [← B.hK]; exact h2) ho ht
theorem ymeth {cc : Nat} {pl : Sem Bool} (R : CalM X.prog X.w G X.mg X.base k cc m n F) (B : Bx X G W k) (ho : PE X o (tM G W mo)) (ha : PA X (e :: es) (tMA G W ma)) (al : ALen ma n := by repeat (first | exact al_nil | refine al_cons ?_)) (ht : eval (.Call (.Attribute o m apos) (e :: es) [] pos) X.env = (do
      let ov ← eval o X.env
      standAt apos.atName
      let (f, first) ← holding [ov] (getMethod ov m pl)
      callWith pos f first (backTo pos (starEach (e :: es) X.env)) (backToKw pos (keywordEach [] X.env))) := by rfl) (hst : starEach (e :: es) X.env = (false, eval e X.env) :: starEach es X.env := by rfl) (hpl : (backTo pos (starEach es X.env)).any (·.1) = false := by rfl) : PE X (.Call (.Attribute o m apos) (e :: es) [] pos) (tM G W (mMeth cc F mo ma)) := by
  obtain ⟨f, h1, h2, h3⟩ := R.ex
  exact e_meth h3 B (by rw [← B.hK]; exact h1) (by rw [← B.hK]; exact h2) ho ha al hst hpl ht
end
section
variable {P : Program} {w : World} {G : Gs} {mg : Str → Option Value} {base : Heap} {k : Nat} {x qual : Str} {st : Stmt} {f : Addr} {fd : FuncData} {ps ks : List Str} {F : FM} {n : Nat}
theorem Cal.bad (h : mg x = some (.ref f)) (kp : PySem.W.keepIn G.K (.ref f) = true) : Cal P w G mg base k x n ks fun _ _ => .bad :=
  ⟨f, h, kp, fun A outer s H us ws vs zs Q E hr e0 r rz l1 l2 q => by
    obtain ⟨_, _, _, _, _, p⟩ := q
    exact p.elim⟩
theorem Cal.fn (h : mg x = some (.ref f)) (Fu : Fun G.K x qual st f fd) (ok : FnOk P w G.K mg base (L2.CX P w) k f fd ps (SpM G F)) (b : Binds G.K fd ps []) : Cal P w G mg base k x n [] F := ⟨f, h, Fu.kp, CallW.of0 ok b⟩
theorem fn_ok2 {x qual : Str} {st : Stmt} {f : Addr} {fd : FuncData} {N ps : List Str} {k n p : Nat} {b : SM} (hn : N.length = n) (hps : ps.length = p) (F : Fun G.K x qual st f fd) (S : FnScope N ps (defScope st)) 
    (hbody : ∀ (cdv : Value) (A : Around) (outer : List PySem.Env) (s : Shared) (H : Hp) (E : XK), Bx (cxOf (L2.CX P w) P w G.K mg base N qual (defScope st) f cdv A outer s H E) G (fun c d _ H' => E c d H') k →
      PassesOwn (model P w) (A.deeper (envOfC qual (defScope st) s.heap.objs.size f cdv)) (envOfC qual (defScope st) s.heap.objs.size f cdv) (cxOf (L2.CX P w) P w G.K mg base N qual (defScope st) f cdv A outer s H E).xe →
      PSs (cxOf (L2.CX P w) P w G.K mg base N qual (defScope st) f cdv A outer s H E) (defBody st) (tMS G (fun c d _ H' => E c d H') b)) :
    FnOk P w G.K mg base (L2.CX P w) (k + 1) f fd ps (SpM G (runB n p b)) := by
  subst hn hps
  exact fn_ok F S hbody
end
end Sm
namespace Sm
open PySem PySem.Spec PyProof.Rows L2
def spLaw (K : PySem.W.Frag) : Sp := fun vs H Q _ => ∃ (a : Addr) (ns : List Int), vs = [.ref a] ∧ SqL K H a (ns.map V.int) ∧ ns.length ≤ 63 ∧ (∀ z ∈ ns, Builtin.Int.intBits z ≤ 1048576) ∧ ∀ H', Q (.bl true) H'
def LawTrue (F : FM) : Prop := ∀ ns : List Int, ns.length ≤ 63 → (∀ z ∈ ns, Builtin.Int.intBits z ≤ 1048576) → ∃ S', F [.d (.scr (ns.map Dt.int))] [] = .ok (.d (.bl true)) S'
theorem rvs_ints {G : Gs} {A : Al} {H : Hp} : ∀ l : List Int, RVs G A H (l.map .int) (l.map V.int)
  | [] => (rfl : ([] : List V) = [])
  | a :: l => ⟨_, _, rfl, rfl, rvs_ints l⟩
theorem law_sp {G : Gs} {F : FM} (h : LawTrue F) {vs : List V} {H : Hp} {Q : VK} {E : XK} (tb : TabsA G ⟨[], []⟩ H) (q : spLaw G.K vs H Q E) : SpM G F vs H Q E := by
  obtain ⟨a, ns, rfl, hS, hl, hb, q⟩ := q
  obtain ⟨S', e⟩ := h ns hl hb
  refine ⟨⟨[], []⟩, [], [.d (.scr (ns.map .int))], .cons ⟨a, ns.map V.int, rfl, ?_, rvs_ints ns⟩ .nil, ⟨rfl, List.nodup_nil, fun b hb => absurd hb (List.not_mem_nil), (fun i l o e => by simp at e), tb⟩, ?_⟩
  · rcases hS with hS | hS
    · exact .inl ⟨hS, List.not_mem_nil⟩
    · exact .inr fun H' => .inr hS
  · rw [e]
    intro A' H' x s v r
    obtain rfl : v = .bl true := r
    exact q H'
theorem law_ok {P : Program} {w : World} {G : Gs} {mg : Str → Option Value} {base : Heap} {k : Nat} {f : Addr} {fd : FuncData} {ps : List Str} {F : FM} (ok : FnOk P w G.K mg base (L2.CX P w) k f fd ps (SpM G F)) (h : LawTrue F) (ht : G.T = [] := by rfl) : FnOk P w G.K mg base (L2.CX P w) k f fd ps (spLaw G.K) :=
  have tb : ∀ H, TabsA G ⟨[], []⟩ H := fun H p hp => by
    rw [ht] at hp
    cases hp
  ⟨fun vs H Q E q => ok.len vs H Q E (law_sp h (tb _) q), fun A outer s H args us vs Q E hr e0 b r q => ok.run A outer s H args us vs Q E hr e0 b r (law_sp h (tb _) q)⟩
theorem law_hsp {K : PySem.W.Frag} {H : Hp} {a : Addr} {ns : List Int} (hl : ns.length ≤ 63) (hb : ∀ z ∈ ns, Builtin.Int.intBits z ≤ 1048576) (hS : SqL K H a (ns.map V.int)) : spLaw K [.ref a] H (fun v _ => v = .bl true) fun _ _ _ => False := ⟨a, ns, rfl, hS, hl, hb, fun _ => rfl⟩
theorem law_cx {P : Program} {w : World} {H : Hp} {s : Shared} {e : Value} {s' : Shared} (h : L2.CX P w [] H s (fun _ _ _ => False) e s') : False := by
  obtain ⟨_, _, _, _, _, _, _, _, _, _, _, _, z⟩ := h
  exact z
end Sm
namespace Sm
open PySem PySem.Spec PyProof.Rows L2
section
variable {ρ : Env} {S S' : Sto} {d x y : Dv} {t : Dt} {i : Nat} {a b : SM} {m ma mb : M Dv} {c ca cb : M Bool} {as : M (List Dv)} {it : M (List Dt)} {g : GM} {gs : GMs}
@[simp] theorem sSeq_s : sSeq a b ρ S = sqz (a ρ S) b := rfl
@[simp] theorem sqz_nx {ρ' : Env} : sqz (.nx ρ' S) b = b ρ' S := rfl
@[simp] theorem sqz_rt : sqz (.rt d S) b = .rt d S := rfl
@[simp] theorem sNil_s : sNil ρ S = .nx ρ S := rfl
@[simp] theorem sSet_s : sSet i m ρ S = (m ρ S).to ρ fun d S1 => .nx (ρ.set i (some d)) S1 := rfl
@[simp] theorem sIf_s : sIf c a b ρ S = (c ρ S).to ρ fun k S1 => if k = true then a ρ S1 else b ρ S1 := rfl
@[simp] theorem sRet_s : sRet m ρ S = (m ρ S).to ρ fun d S1 => .rt d S1 := rfl
@[simp] theorem sDrop_s : sDrop m ρ S = (m ρ S).to ρ fun _ S1 => .nx ρ S1 := rfl
@[simp] theorem sAsg_s : sAsg g m ρ S = (m ρ S).to ρ fun d S1 => oz (g d ρ) fun ρ1 => .nx ρ1 S1 := rfl
@[simp] theorem oz_some {α : Type} {v : α} {f : α → Sz} : oz (some v) f = f v := rfl
@[simp] theorem sFor_s : sFor it g b ρ S = (it ρ S).to ρ fun ts S1 => forL g b ts ρ S1 := rfl
@[simp] theorem forL_nil : forL g b [] ρ S = .nx ρ S := rfl
@[simp] theorem sSub_s {mo mi mv : M Dv} : sSub mo mi mv ρ S = (mv ρ S).to ρ fun d S1 => (mo ρ S1).to ρ fun o S2 => (mi ρ S2).to ρ fun i S3 => oz (stSub o i d S3) fun S4 => .nx ρ S4 := rfl
@[simp] theorem sFld_s {cc : Nat} {mo mv : M Dv} : sFld cc i mo mv ρ S = (mv ρ S).to ρ fun d S1 => (mo ρ S1).to ρ fun o S2 => oz (stFld cc i o d S2) fun S3 => .nx ρ S3 := rfl
@[simp] theorem sPars_s {is : List Nat} : sPars is as ρ S = (as ρ S).to ρ fun ds S1 => if ds.length = is.length then .nx (setAll is ds ρ) S1 else .bad := rfl
@[simp] theorem mV_s : mV i ρ S = (match ρ[i]? with
  | some (some d) => .ok d S
  | _ => .bad) := rfl
@[simp] theorem mC_s : mC t ρ S = .ok (.d t) S := rfl
@[simp] theorem m1_s {p : P1} : m1 p m ρ S = (m ρ S).bind fun x S1 => lift (p x S1) := rfl
@[simp] theorem m2_s {p : P2} : m2 p ma mb ρ S = (ma ρ S).bind fun x S1 => (mb ρ S1).bind fun y S2 => lift (p x y S2) := rfl
@[simp] theorem mN_s {p : PN} : mN p as ρ S = (as ρ S).bind fun xs S1 => lift (p xs S1) := rfl
@[simp] theorem mF_s {F : FM} : mF F as ρ S = (as ρ S).bind F := rfl
@[simp] theorem aNil_s : aNil ρ S = .ok [] S := rfl
@[simp] theorem aCons_s : aCons m as ρ S = (m ρ S).bind fun x S1 => (as ρ S1).bind fun xs S2 => .ok (x :: xs) S2 := rfl
@[simp] theorem aApp_s {bs : M (List Dv)} : aApp as bs ρ S = (as ρ S).bind fun xs S1 => (bs ρ S1).bind fun ys S2 => .ok (xs ++ ys) S2 := rfl
@[simp] theorem mTst_s : mTst m ρ S = (m ρ S).bind fun d S1 => li (toB d) S1 := rfl
@[simp] theorem toB_s {k : Bool} : toB (.d (.bl k)) = some k := rfl
@[simp] theorem mTru_s {p : PT1} : mTru p m ρ S = (m ρ S).bind fun d S1 => li (p d S1) S1 := rfl
@[simp] theorem cAnd_s : cAnd ca cb ρ S = (ca ρ S).bind fun c S1 => if c = true then cb ρ S1 else .ok false S1 := rfl
@[simp] theorem cOr_s : cOr ca cb ρ S = (ca ρ S).bind fun c S1 => if c = true then .ok true S1 else cb ρ S1 := rfl
@[simp] theorem cNot_s : cNot ca ρ S = (ca ρ S).bind fun c S1 => .ok (!c) S1 := rfl
@[simp] theorem cYes_s : cYes ρ S = .ok true S := rfl
@[simp] theorem mIf_s : mIf c ma mb ρ S = (c ρ S).bind fun k S1 => if k = true then ma ρ S1 else mb ρ S1 := rfl
@[simp] theorem mAnd_s : mAnd ma mb ρ S = (ma ρ S).bind fun x S1 => (li (toB x) S1).bind fun c S2 => if c = true then mb ρ S2 else .ok (.d (.bl false)) S2 := rfl
@[simp] theorem mOr_s : mOr ma mb ρ S = (ma ρ S).bind fun x S1 => (li (toB x) S1).bind fun c S2 => if c = true then .ok (.d (.bl true)) S2 else mb ρ S2 := rfl
@[simp] theorem mNot_s : mNot ma ρ S = (ma ρ S).bind fun x S1 => (li (toB x) S1).bind fun c S2 => .ok (.d (.bl (!c))) S2 := rfl
@[simp] theorem mOrT_s {p : PT1} : mOrT p ma mb ρ S = (ma ρ S).bind fun x S1 => (li (p x S1) S1).bind fun c S2 => if c = true then .ok x S2 else mb ρ S2 := rfl
@[simp] theorem mNotT_s {p : PT1} : mNotT p ma ρ S = (ma ρ S).bind fun x S1 => (li (p x S1) S1).bind fun c S2 => .ok (.d (.bl (!c))) S2 := rfl
@[simp] theorem mFrz_s : mFrz m ρ S = (m ρ S).bind fun d S1 => lift (frz d S1) := rfl
@[simp] theorem mSl_s {p : PSl} {l h : M (Option Int)} : mSl p m l h ρ S = (m ρ S).bind fun d S1 => (l ρ S1).bind fun lo S2 => (h ρ S2).bind fun hi S3 => lift (p lo hi d S3) := rfl
@[simp] theorem oNo_s : oNo ρ S = .ok none S := rfl
@[simp] theorem oPt_s : oPt m ρ S = (m ρ S).bind fun d S1 => (match d with
  | .d (.int i) => .ok (some i) S1
  | _ => .bad) := rfl
@[simp] theorem mLm_s {p : PM} : mLm p m as ρ S = (m ρ S).bind fun o S1 => if isLs S1 o = true then (as ρ S1).bind fun ds S2 => lift (p o ds S2) else .bad := rfl
@[simp] theorem mDnew_s : mDnew ρ S = .ok (.loc S.length) (S ++ [.dct [] []]) := rfl
@[simp] theorem iSeq_s : iSeq m ρ S = (m ρ S).bind fun d S1 => li (seqOf d) S1 := rfl
@[simp] theorem iRg_s {f : List Dv → Option (List Dt)} : iRg f as ρ S = (as ρ S).bind fun ds S1 => li (f ds) S1 := rfl
@[simp] theorem iDc_s {f : Dv → Option (List Dt)} : iDc f m ρ S = (m ρ S).bind fun d S1 => li (f d) S1 := rfl
@[simp] theorem mLcI_s {vs : List Nat} : mLcI vs it g c m ρ S = (it ρ S).bind fun ts S1 => if ts.length ≤ 16777216 then lcL g c m (wipeE ρ vs) ts S1 else .bad := rfl
@[simp] theorem gN_s : gN i d ρ = some (ρ.set i (some d)) := rfl
@[simp] theorem gT_s {ts : List Dt} : gT gs (.d (.tup ts)) ρ = gs ts ρ := rfl
@[simp] theorem gsNil_s : gsNil [] ρ = some ρ := rfl
@[simp] theorem bz_some {α β : Type} {v : α} {f : α → Rz β} : bz (some v) f = f v := rfl
@[simp] theorem wipe_nil : wipeE ρ [] = ρ := rfl
@[simp] theorem wipe_cons {v : Nat} {vs : List Nat} : wipeE ρ (v :: vs) = (wipeE ρ vs).set v none := rfl
@[simp] theorem lcL_nil : lcL g c m ρ [] S = .ok [] S := rfl
@[simp] theorem pures_nil : pures [] = some [] := rfl
@[simp] theorem pures_cons {ds : List Dv} : pures (.d t :: ds) = (pures ds).map (t :: ·) := rfl
@[simp] theorem shaped_int (i : Int) : SeqAt.shaped (.int i) = true := rfl
@[simp] theorem eqDv_int {i j : Int} : eqDv S (.d (.int i)) (.d (.int j)) = some (decide (i = j)) := by
  show (if SeqAt.shaped (.int i) = true ∧ SeqAt.shaped (.int j) = true then some (PyData.eqv (.int i) (.int j)) else none) = _
  rw [if_pos ⟨shaped_int i, shaped_int j⟩]
  congr 1
end
end Sm
namespace Sm
open PySem PySem.Spec PyProof.Rows L2
abbrev CallR' (P : Program) (w : World) (G : Gs) (mg : Str → Option Value) (base : Heap) (k : Nat) (f : Addr) (F : FM) : Prop := FnR P w G.K mg base (L2.CX P w) k f (SpM G F)
section
variable {P : Program} {w : World} {G : Gs} {mg : Str → Option Value} {base : Heap}
end
structure CalV (P : Program) (w : World) (G : Gs) (mg : Str → Option Value) (base : Heap) (k : Nat) (x : Str) (F : FM) : Prop where
  ex : ∃ f, mg x = some (.ref f) ∧ PySem.W.keepIn G.K (.ref f) = true ∧ CallR' P w G mg base k f F
structure CalMV (P : Program) (w : World) (G : Gs) (mg : Str → Option Value) (base : Heap) (k c : Nat) (x : Str) (F : FM) : Prop where
  ex : ∃ f, SlX.SCls G.K (G.cls c) ∧ BMeth G.K (G.cls c) x f ∧ CallR' P w G mg base k f F
def aStar (m : M Dv) (r : M (List Dv)) : M (List Dv) := fun ρ S => (m ρ S).bind fun x S1 => (li (seqOf x) S1).bind fun ts S2 => (r ρ S2).bind fun ys S3 => .ok (ts.map .d ++ ys) S3
theorem seqOf_rd {G : Gs} {A : Al} {H : Hp} {d : Dv} {v : V} {ts : List Dt} (h : seqOf d = some ts) (r : RD G A H d v) : ∃ a vs, v = .ref a ∧ (SqT G.K H a vs ∨ SqL G.K H a vs) ∧ RVs G A H ts vs := by
  cases d with
  | loc n => cases h
  | d t =>
    cases t with
    | tup xs =>
      cases h
      obtain ⟨a, vs, e, ht, hv⟩ := r
      exact ⟨a, vs, e, .inl ht.sq, hv⟩
    | lst xs =>
      cases h
      obtain ⟨a, vs, e, ht, hv⟩ := r
      exact ⟨a, vs, e, .inr ht.sq, hv⟩
    | scr xs =>
      cases h
      obtain ⟨a, vs, e, ht, hv⟩ := r
      exact ⟨a, vs, e, .inr ht.sq, hv⟩
    | ltp xs =>
      cases h
      obtain ⟨a, vs, e, ht, hv⟩ := r
      exact ⟨a, vs, e, .inl (ht H), hv⟩
    | _ => cases h
theorem li_bd {α β : Type} {G : Gs} {E : XK} {A : Al} {H : Hp} {S : Sto} {o : Option α} {f : α → Sto → Rz β} {k : Al → Hp → β → Prop} (h : Po G E A H ((li o S).bind f) k) : ∃ a, o = some a ∧ Po G E A H (f a S) k := by
  cases o with
  | none => exact h.elim
  | some a => exact ⟨a, rfl, h⟩
section
variable {X : Cx} {G : Gs} {W : WX} {k c : Nat} {x m : Str} {p pos apos : Pos} {e o : Expr} {es : List Expr} {ma : M (List Dv)} {mo : M Dv} {F : FM}
theorem a_star (hK : G.K = X.K) (he : PE X e (tM G W mo)) (hr : PA X es (tMA G W ma)) (hs : starEach (.Starred e p :: es) X.env = (true, eval e X.env) :: starEach es X.env := by rfl) : PA X (.Starred e p :: es) (tMA G W (aStar mo ma)) := by
  refine (StX.pa_star he hr hs).sm fun σ H Q h => ?_
  obtain ⟨A, ρ, S, he', hs', p0⟩ := h
  refine ⟨A, ρ, S, he', hs', Po.step p0 fun d S1 A1 H1 x1 s1 p1 v rv => ?_⟩
  obtain ⟨ts, e1, kk⟩ := li_bd p1
  obtain ⟨a, vs, ev, hq, rvs⟩ := seqOf_rd e1 rv
  rw [hK] at hq
  refine ⟨a, vs, ev, hq, A1, ρ, S1, he'.kp x1.kp, s1, Po.step kk fun ds S2 A2 H2 x2 s2 p2 ys rys => ?_⟩
  exact Po.now p2 s2 _ ((RVs.rds (rvs.kp x2.kp)).append rys)
end
end Sm
namespace Sm
open PySem PySem.Spec PyProof.Rows L2
def permL {α : Type} (ix : List Nat) (xs : List α) : List α := ix.filterMap fun i => xs[i]?
def kwF (ix : List Nat) (dds : List Dt) (F : FM) : FM := fun xs => F (permL ix (xs ++ dds.map .d))
theorem perm_rds {G : Gs} {A : Al} {H : Hp} {ds : List Dv} {vs : List V} (r : RDs G A H ds vs) : ∀ ix : List Nat, RDs G A H (permL ix ds) (permL ix vs)
  | [] => .nil
  | i :: ix => by
    have ih := perm_rds r ix
    unfold permL at ih ⊢
    rw [List.filterMap_cons, List.filterMap_cons]
    by_cases hi : i < ds.length
    · have hi2 : i < vs.length := by rw [← Paired.length r]; exact hi
      obtain ⟨v, ev, rv⟩ := r.get (List.getElem?_eq_getElem hi)
      rw [List.getElem?_eq_getElem hi, ev]
      exact .cons rv ih
    · have hi2 : ¬ i < vs.length := by rw [← Paired.length r]; exact hi
      rw [List.getElem?_eq_none (by omega), List.getElem?_eq_none (by omega)]
      exact ih
theorem perm_vals {vs : List V} {us : List Value} (r : Vals vs us) : ∀ ix : List Nat, Vals (permL ix vs) (permL ix us)
  | [] => .nil
  | i :: ix => by
    have ih := perm_vals r ix
    unfold permL at ih ⊢
    rw [List.filterMap_cons, List.filterMap_cons]
    have key : ∀ {vs : List V} {us : List Value} (i : Nat), Vals vs us → (vs[i]? = none ∧ us[i]? = none) ∨ ∃ v u, vs[i]? = some v ∧ us[i]? = some u ∧ RelV v u := by
      intro vs us i r
      induction r generalizing i with
      | nil => exact .inl ⟨by simp, by simp⟩
      | cons a b ih =>
        cases i with
        | zero => exact .inr ⟨_, _, rfl, rfl, a⟩
        | succ i => simpa using ih i
    rcases key i r with ⟨e1, e2⟩ | ⟨v, u, e1, e2, rv⟩
    · rw [e1, e2]
      exact ih
    · rw [e1, e2]
      exact .cons rv ih
structure FunA (K : PySem.W.Frag) (x qual : Str) (st : Stmt) (f : Addr) (dV kV : Value) (fd : FuncData) : Prop where
  ex : ∃ (oc : Value) (od : Option Addr) (doc pm : Value) (an : Option Addr) (cdv ct : Value) (osl : Array (Option Value)),
    fd = PySem.W.fnOf x qual (defArgs st) (defBody st) (defScope st) dV kV doc pm an cdv ct ∧ K.lookup f = some ⟨oc, od, .func fd, osl⟩ ∧ PySem.W.codeIn K cdv qual = true
  kp : PySem.W.keepIn K (.ref f) = true
theorem funA_mk {K : PySem.W.Frag} {x qual : Str} {st : Stmt} {f : Addr} {oc : Value} {od an : Option Addr} {osl : Array (Option Value)} {dV kV doc pm cdv ct : Value} (l : K.lookup f = some ⟨oc, od, .func (PySem.W.fnOf x qual (defArgs st) (defBody st) (defScope st) dV kV doc pm an cdv ct), osl⟩)
    (c : PySem.W.codeIn K cdv qual = true) (k : PySem.W.keepIn K (.ref f) = true) : FunA K x qual st f dV kV (PySem.W.fnOf x qual (defArgs st) (defBody st) (defScope st) dV kV doc pm an cdv ct) := ⟨⟨oc, od, doc, pm, an, cdv, ct, osl, rfl, l, c⟩, k⟩
section
variable {P : Program} {w : World} {G : Gs} {mg : Str → Option Value} {base : Heap} {x qual : Str} {st : Stmt} {f : Addr} {dV kV : Value} {fd : FuncData} {ps ks : List Str} {k n : Nat} {F : FM}
theorem CallW.kp (ok : FnOk P w G.K mg base (L2.CX P w) k f fd ps (SpM G F)) (Fu : FunA G.K x qual st f dV kV fd) (ix : List Nat)
    (hb : ∀ (doc pm : Value) (an : Option Addr) (cdv ct : Value) (us ws : List Value), us.length = n → ws.length = ks.length → bindArgs (PySem.W.fnOf x qual (defArgs st) (defBody st) (defScope st) dV kV doc pm an cdv ct) ⟨us, ks.zip ws⟩ = pure (ps.zip (permL ix (us ++ ws)))) :
    CallW P w G mg base k f n ks (kwF ix [] F) := by
  intro A outer s H us ws vs zs Q E hr e0 r rz l1 l2 q
  obtain ⟨A', S', ds, rd, s', p⟩ := q
  obtain ⟨oc, od, doc, pm, an, cdv, ct, osl, rfl, lk, hcd⟩ := Fu.ex
  have q2 : SpM G F (permL ix (vs ++ zs)) H Q E := ⟨A', S', permL ix ds, perm_rds rd ix, s', by unfold kwF at p; simpa using p⟩
  refine ok.run A outer s H ⟨us, ks.zip ws⟩ (permL ix (us ++ ws)) (permL ix (vs ++ zs)) Q E hr e0 ?_ (perm_vals (Vals.append r rz) ix) q2
  exact .of_eq (hb doc pm an cdv ct us ws (by rw [← r.length, l1]) (by rw [← rz.length, l2]))
theorem Cal.kp (h : mg x = some (.ref f)) (ok : FnOk P w G.K mg base (L2.CX P w) k f fd ps (SpM G F)) (Fu : FunA G.K x qual st f dV kV fd) (ix : List Nat)
    (hb : ∀ (doc pm : Value) (an : Option Addr) (cdv ct : Value) (us ws : List Value), us.length = n → ws.length = ks.length → bindArgs (PySem.W.fnOf x qual (defArgs st) (defBody st) (defScope st) dV kV doc pm an cdv ct) ⟨us, ks.zip ws⟩ = pure (ps.zip (permL ix (us ++ ws)))) : Cal P w G mg base k x n ks (kwF ix [] F) :=
  ⟨f, h, Fu.kp, CallW.kp ok Fu ix hb⟩
theorem _root_.L2.FnOk.isoS (h : FnOk P w G.K mg base (L2.CX P w) k f fd ps (SpM G F)) : FnOk P w G.K mg base (L2.CX P w) k f fd ps (SpM G (iso F)) := h.imp fun _ _ _ _ q => q.iso
end
end Sm
namespace Sm
open PySem PySem.Spec PyProof.Rows L2
section
variable {G : Gs} {A A' A1 A2 : Al} {H H' H1 H2 : Hp} {S : Sto} {D : Addr}
end
section
variable {X : Cx} {G : Gs} {W : WX} {kk : Nat} {elt tg iter tg1 iter1 : Expr} {ifs ifs1 : List Expr} {scope : Scope} {own : List (Str × Nat)} {pos : Pos} {it : M (List Dt)} {g g1 : GM} {t t1 : TG} {L L1 : List Nat} {cm cm1 em' : M Bool} {em it1 : M Dv}
end
end Sm
namespace Sm
open PySem PySem.Spec PyProof.Rows L2
section
variable {κ : Type} [DecidableEq κ]
variable {G : Gs} {A : Al} {H : Hp}
end
section
variable {G : Gs} {A : Al} {H : Hp} {S : Sto}
end
section
variable {X : Cx} {G : Gs} {W : WX} {k : Nat} {o i e value : Expr} {es : List Expr} {p pos pos' : Pos} {mo mi mv : M Dv} {ma : M (List Dv)}
end
end Sm
namespace Sm
open PySem PySem.Spec PyProof.Rows L2
def signs (s : Str) : List Dt := s.cps.toList.map fun c => .str ⟨#[c]⟩
def anyOf (d : Dv) : Option (List Dt) := match d with
  | .d (.str s) => some (signs s)
  | d => seqOf d
def iAny (m : M Dv) : M (List Dt) := fun ρ S => (m ρ S).bind fun d S1 => li (anyOf d) S1
def iSqS (K : PySem.W.Frag) (tl : TE) : TI := fun σ H R => tl σ H fun x H1 => (∃ z, x = .str z ∧ R (Its z) H1) ∨ ∃ a, x = .ref a ∧ (((∃ xs, SqL K H1 a xs) ∧ R (Itl K a) H1) ∨ ((∃ xs, SqT K H1 a xs) ∧ R (Itt K a) H1))
theorem pi_sqS {X : Cx} {tg l : Expr} {tl : TE} (hl : PE X l tl) : PI X tg l (iSqS X.K tl) := by
  refine ⟨fun pins s σ H R I h => ?_⟩
  refine thn (hl.run pins s σ H _ I h) fun v s1 ⟨x, H1, I1, r1, q1⟩ => ?_
  rcases q1 with ⟨z, e, q⟩ | ⟨a, e, q⟩
  · subst e
    obtain ⟨t, rfl⟩ := r1
    cases ha : z.cps.all (· < 128)
    · exact wpAny_pyIter_wide ha (pi_one (tk := s1.toks) I1 _ (turn_str _ z t "str_iterator" (.inr rfl)) ⟨_, Heap.get?_push_size _ rfl, rfl, rfl⟩ q)
    · exact wpAny_pyIter_ascii ha (pi_one (tk := s1.toks) I1 _ (turn_str _ z t "str_ascii_iterator" (.inl rfl)) ⟨_, Heap.get?_push_size _ rfl, rfl, rfl⟩ q)
  · subst e
    cases r1
    rcases q with ⟨⟨xs, hq⟩, q⟩ | ⟨⟨xs, hq⟩, q⟩
    · obtain ⟨its, rv, p, hz⟩ := I1.list hq
      refine wpAny_pyIter_list p.isList ?_
      refine ⟨s1.heap.objs.size, [s1.heap.objs.size], _, _, H1, rfl, I1.kept (t' := s1.toks) fun b o e => Heap.get?_push_of_some _ e, turn_list a _, ⟨_, Heap.get?_push_size _ rfl, rfl, rfl⟩, fun b hb => ?_, q⟩
      have e : b = s1.heap.objs.size := by simpa using hb
      subst e
      exact I1.fpOk (Nat.le_refl _) (I1.hok.fresh (Nat.le_refl _))
    · obtain ⟨its, rv, p, hz⟩ := I1.tuple hq
      refine wpAny_pyIter_tuple (show s1.heap.IsTuple a its.toArray from p) ?_
      refine ⟨s1.heap.objs.size, [s1.heap.objs.size], _, _, H1, rfl, I1.kept (t' := s1.toks) fun b o e => Heap.get?_push_of_some _ e, turn_tuple a _, ⟨_, Heap.get?_push_size _ rfl, rfl, rfl⟩, fun b hb => ?_, q⟩
      have e : b = s1.heap.objs.size := by simpa using hb
      subst e
      exact I1.fpOk (Nat.le_refl _) (I1.hok.fresh (Nat.le_refl _))
section
variable {X : Cx} {G : Gs} {W : WX} {kk : Nat} {tg iter e : Expr} {m : M Dv}
theorem wk_str {A : Al} {H : Hp} {z : Str} : Wk G (Its z) A H (signs z) := by
  have hl : (signs z).length = z.cps.size := by simp [signs]
  refine ⟨fun i A' H' hi x => by rw [hl] at hi; exact hi, fun i A' H' S v H2 hi x s hy => ?_, fun A' H' x => by rw [hl]; exact Nat.le_refl _⟩
  obtain ⟨rfl, c, ec, rfl⟩ := hy
  refine ⟨.str ⟨#[c]⟩, ?_, .refl, s, rfl⟩
  unfold signs
  rw [List.getElem?_map]
  have : z.cps.toList[i]? = some c := by simpa using ec
  rw [this]
  rfl
theorem i_any (hK : G.K = X.K) (he : PE X e (tM G W m)) : PIS X G W tg e (iAny m) := by
  refine ⟨_, pi_sqS he, fun σ H A ρ S R he hs p => ?_⟩
  refine ⟨A, ρ, S, he, hs, Po.step p fun d S1 A1 H1 x1 s1 p1 v rv => ?_⟩
  obtain ⟨ts, e1, k⟩ := li_po p1 s1
  unfold anyOf at e1
  split at e1
  · cases e1
    exact .inl ⟨_, rv, k _ wk_str⟩
  · obtain ⟨a, ev, h⟩ := seq_wk e1 rv
    rw [← hK]
    rcases h with ⟨h, w⟩ | ⟨h, w⟩
    · exact .inr ⟨a, ev, .inl ⟨h, k _ w⟩⟩
    · exact .inr ⟨a, ev, .inr ⟨h, k _ w⟩⟩
def srtOf (S : Sto) (d : Dv) : Option (List Dt) := match d with
  | .d (.str z) => if z.length ≤ 16777216 then some (signs z) else none
  | d => seqT S d
def pSortedA : PN := fun ds S => match ds with
  | [d] => (match srtOf S d with
    | some ts => if sortChk ts = true then some (.d (.lst (isortL leT ts)), S) else none
    | none => none)
  | _ => none
end
end Sm
namespace Sm
open PySem PySem.Spec PyProof.Rows L2
def pairOf (S : Sto) (d : Dv) : Option (Key × Dv) := match d with
  | .d (.tup [k, v]) => (kOf (.d k)).map fun j => (j, .d v)
  | .loc n => (match S[n]? with
    | some (.tp [k, v]) => (kOf k).map fun j => (j, v)
    | _ => none)
  | _ => none
def pairsOf (S : Sto) : List Dv → Option (List (Key × Dv))
  | [] => some []
  | d :: ds => match pairOf S d, pairsOf S ds with
    | some p, some ps => some (p :: ps)
    | _, _ => none
def foldD (ps : List (Key × Dv)) (q : List Key × List Dv) : List Key × List Dv := ps.foldl (fun q p => (dputK q.1 p.1, dputX q.1 q.2 p.1 p.2)) q
def pDictD : PN := fun ds S => match ds with
  | [d] => (match (lstAt S d).bind (pairsOf S) with
    | some ps => (match pures (foldD ps ([], [])).2 with
      | some ts => some (.d (.dct (foldD ps ([], [])).1 ts), S)
      | none => none)
    | none => none)
  | _ => none
section
variable {G : Gs} {A : Al} {H : Hp} {S : Sto}
end
section
variable {X : Cx} {G : Gs} {W : WX} {k : Nat} {es : List Expr} {pos p : Pos} {ma : M (List Dv)} {tg a b c : Expr}
end
end Sm
namespace Sm
open PySem PySem.Spec PyProof.Rows L2
theorem xglob {X : Cx} {G : Gs} {W : WX} {i : Int} {tk : Tok} {x : Str} {pos : Pos} (hm : X.mg x = some (.int i tk)) (hg : Gl X x := by rfl) (hd : (x == ("__debug__" : Str)) = false := by decide) : PE X (.Name x pos) (tM G W (mC (.int i))) :=
  e_of (pe_glob (v := .int i) hg hm ⟨_, rfl⟩ hd) fun _ _ => rfl
end Sm
namespace Sm
open PySem PySem.Spec PyProof.Rows L2
end Sm
namespace Hn
open PySem PySem.Spec PyProof.Rows L2 Sm
def b_tupled (self : FM) : SM := sRet (mIf (mTru pTru (m1 (pIsa ["list", "tuple"]) (mV 0))) (mN pTuple (aCons (mN pLst (mLcI [1] (iSeq (mV 0)) (gN 1) (cYes) (mF self (aCons (mV 1) (aNil))))) (aNil))) (mV 0))
def F_tupled : Nat → FM
  | 0 => fun _ _ => .bad
  | n + 1 => iso (runB 2 1 (b_tupled (F_tupled n)))
def b__law_take : SM := sSeq (sIf (mTst (m2 pGt (m2 pIx (mV 0) (mC (.int 0))) (mC (.int 0)))) (sSeq (sSet 2 (m2 pMod (mN pInt (aCons (m2 pIx (mV 0) (mC (.int 0))) (aNil))) (mV 1)))
    (sSeq (sSub (mV 0) (mC (.int 0)) (m2 pDiv (m2 pIx (mV 0) (mC (.int 0))) (mV 1)))
    (sRet (mV 2)))) (sNil))
    (sSeq (sSub (mV 0) (mC (.int 2)) (m2 pAdd (m2 pIx (mV 0) (mC (.int 2))) (mC (.int 1))))
    (sSeq (sSet 3 (m2 pMod (mN pInt (aCons (m2 pMul (m2 pAdd (m2 pIx (mV 0) (mC (.int 1))) (m2 pMul (mC (.int 48271)) (m2 pIx (mV 0) (mC (.int 2))))) (m2 pAdd (mC (.int 39373)) (m2 pIx (mV 0) (mC (.int 2))))) (aNil))) (mC (.int 2147483647))))
    (sSeq (sSet 4 (m2 pAdd (m2 pMod (mN pInt (aCons (mV 3) (aNil))) (mC (.int 40009))) (mC (.int 7))))
    (sSeq (sSet 5 (m2 pMod (mN pInt (aCons (m2 pMul (m2 pAdd (m2 pAdd (mV 3) (m2 pIx (mV 0) (mC (.int 2)))) (m2 pDiv (m2 pIx (mV 0) (mC (.int 1))) (mC (.int 1000003)))) (mV 4)) (aNil))) (mC (.int 2147483629))))
    (sRet (m2 pMod (mN pInt (aCons (m2 pDiv (m2 pMod (mN pInt (aCons (m2 pAdd (m2 pMul (mV 5) (mC (.int 48271))) (mV 3)) (aNil))) (mC (.int 2147483587))) (mC (.int 64))) (aNil))) (mV 1)))))))
def R__law_take : FM := runB 6 2 b__law_take
def F__law_take : FM := view (R__law_take)
def b__law_cells : SM := sSeq (sSet 2 (mOrT pTru (mN pListB (aCons (mSl pSl (mV 0) (oNo) (oPt (mV 1))) (aNil))) (mN pLstB (aCons (mC (.int 0)) (aNil)))))
    (sSeq (sFor (iRg en1 (aCons (mSl pSl (mV 0) (oPt (mV 1)) (oPt (mC (.int 63)))) (aNil))) (gT (gsCons (gN 3) (gsCons (gN 4) (gsNil)))) (sSeq (sSet 5 (m2 pMod (mN pInt (aCons (mV 3) (aNil))) (mV 1)))
    (sSub (mV 2) (mV 5) (m2 pAdd (m2 pIx (mV 2) (mV 5)) (m2 pMul (mV 4) (m2 pAdd (mV 3) (mC (.int 2))))))))
    (sRet (mFrz (mV 2))))
def R__law_cells : FM := runB 6 2 b__law_cells
def F__law_cells : FM := iso (R__law_cells)
def b__law_same (self : FM) : SM := sSeq (sIf (mTru pTru (m1 (pIsa ["list", "tuple"]) (mV 1))) (sSeq (sIf (cOr (mTst (m2 pNe (m1 (pIsa ["list"]) (mV 0)) (m1 (pIsa ["list"]) (mV 1)))) (mTst (m2 pNe (m1 (pIsa ["tuple"]) (mV 0)) (m1 (pIsa ["tuple"]) (mV 1))))) (sRet (mC (.bl false))) (sNil))
    (sRet (mAnd (m2 pEq (mN pLen (aCons (mV 0) (aNil))) (mN pLen (aCons (mV 1) (aNil)))) (mN pAll (aCons (mN pLst (mLcI [2, 3] (iRg zp2 (aCons (mV 0) (aCons (mV 1) (aNil)))) (gT (gsCons (gN 2) (gsCons (gN 3) (gsNil)))) (cYes) (mF self (aCons (mV 2) (aCons (mV 3) (aNil)))))) (aNil)))))) (sNil))
    (sSeq (sIf (cOr (mTst (m2 pIsN (mV 1) (mC .non))) (mTru pTru (m1 (pIsa ["bool", "str"]) (mV 1)))) (sRet (mAnd (m2 pEq (mV 0) (mV 1)) (mAnd (m2 pEq (m1 (pIsa ["bool"]) (mV 0)) (m1 (pIsa ["bool"]) (mV 1))) (m2 pEq (m2 pIsN (mV 0) (mC .non)) (m2 pIsN (mV 1) (mC .non)))))) (sNil))
    (sRet (mAnd (m1 (pIsa ["int"]) (mV 0)) (mAnd (mNot (m1 (pIsa ["bool"]) (mV 0))) (m2 pEq (mV 0) (mV 1))))))
def F__law_same : Nat → FM
  | 0 => fun _ _ => .bad
  | n + 1 => iso (runB 4 2 (b__law_same (F__law_same n)))
def b__law_few : SM := sRet (mN pTuple (aCons (mN pLst (mLcI [3] (iSeq (mV 1)) (gN 3) (mTst (m2 pEq (mF F__law_take (aCons (mV 0) (aCons (mV 2) (aNil)))) (mC (.int 0)))) (mV 3))) (aNil)))
def R__law_few : FM := runB 4 3 b__law_few
def F__law_few : FM := view (R__law_few)
def b__law_mixed : SM := sSeq (sPars [2, 3] (aCons (mN pListB (aCons (mV 1) (aNil))) (aCons (mN pLstB (aNil)) (aNil))))
    (sSeq (sFor (iRg rg1 (aCons (mN pLen (aCons (mV 1) (aNil))) (aNil))) (gN 4) (sDrop (mLm pAppend (mV 3) (aCons (mLm pPopAt (mV 2) (aCons (mF F__law_take (aCons (mV 0) (aCons (mN pLen (aCons (mV 2) (aNil))) (aNil)))) (aNil))) (aNil)))))
    (sRet (mN pTuple (aCons (mV 3) (aNil)))))
def R__law_mixed : FM := runB 5 2 b__law_mixed
def F__law_mixed : FM := view (R__law_mixed)
def b__law_tome : SM := sSeq (sSet 3 (mN pLst (aCons (mC (.str ("a" : Str))) (aCons (mC (.str ("ann" : Str))) (aCons (mC (.str ("bob" : Str))) (aCons (mC (.str ("cat" : Str))) (aCons (mC (.str ("dan" : Str))) (aCons (mC (.str ("eve" : Str))) (aCons (mC (.str ("fay" : Str))) (aCons (mC (.str ("new" : Str))) (aCons (mC (.str ("old" : Str))) (aCons (mC (.str ("x" : Str))) (aCons (mC (.str ("zzzzzzzz" : Str))) (aNil))))))))))))))
    (sSeq (sPars [4, 5] (aCons (m2 pAdd (mC (.int 1)) (mF F__law_take (aCons (mV 0) (aCons (mV 1) (aNil))))) (aCons (mF F__law_take (aCons (mV 0) (aCons (m2 pAdd (mV 2) (mC (.int 1))) (aNil)))) (aNil))))
    (sSeq (sSet 3 (mN pList (aCons (mF F__law_mixed (aCons (mV 0) (aCons (mV 3) (aNil)))) (aNil))))
    (sSeq (sPars [6, 7] (aCons (mSl pSl (mV 3) (oNo) (oPt (mV 4))) (aCons (mSl pSl (mV 3) (oPt (mV 4)) (oPt (m2 pAdd (mV 4) (mV 5)))) (aNil))))
    (sSeq (sPars [8, 9, 10] (aCons (mDnew) (aCons (mF F__law_take (aCons (mV 0) (aCons (mC (.int 4)) (aNil)))) (aCons (m2 pAdd (mC (.int 3)) (mF F__law_take (aCons (mV 0) (aCons (mC (.int 4)) (aNil))))) (aNil)))))
    (sSeq (sFor (iRg rg1 (aCons (mV 4) (aNil))) (gN 11) (sSeq (sSet 12 (m2 pMul (mN pLst (aCons (m2 pIx (mV 6) (m2 pMod (mN pInt (aCons (m2 pAdd (mV 11) (mC (.int 1))) (aNil))) (mV 4))) (aNil))) (mN pInt (aCons (m2 pEq (mV 9) (mC (.int 3))) (aNil)))))
    (sSeq (sSet 12 (m2 pAdd (mV 12) (mN pList (aCons (mF F__law_few (aCons (mV 0) (aCons (mV 7) (aCons (mC (.int 3)) (aNil))))) (aNil)))))
    (sSub (mV 8) (m2 pIx (mV 6) (mV 11)) (m2 pAddB (mV 12) (m2 pMul (mSl pSl (mV 3) (oPt (m1 pNeg (mC (.int 1)))) (oNo)) (mN pInt (aCons (m2 pEq (mF F__law_take (aCons (mV 0) (aCons (mC (.int 6)) (aNil)))) (mC (.int 0))) (aNil)))))))))
    (sSeq (sFor (iRg rg1 (aCons (mV 4) (aNil))) (gN 11) (sFor (iSeq (mSl pSl (mV 6) (oPt (m2 pAdd (mV 11) (mC (.int 1)))) (oNo))) (gN 13) (sSeq (sSet 14 (mF F__law_take (aCons (mV 0) (aCons (mV 10) (aNil)))))
    (sSeq (sIf (cOr (mTst (m2 pEq (mV 14) (mC (.int 0)))) (cAnd (mTst (m2 pEq (mV 14) (mC (.int 1)))) (mTst (m2 pGt (mV 9) (mC (.int 0)))))) (sDrop (mLm pAppend (m2 pIx (mV 8) (m2 pIx (mV 6) (mV 11))) (aCons (mV 13) (aNil)))) (sNil))
    (sIf (cOr (mTst (m2 pEq (mV 14) (mC (.int 0)))) (cAnd (mTst (m2 pEq (mV 14) (mC (.int 2)))) (mTst (m2 pGt (mV 9) (mC (.int 0)))))) (sDrop (mLm pAppend (m2 pIx (mV 8) (mV 13)) (aCons (m2 pIx (mV 6) (mV 11)) (aNil)))) (sNil))))))
    (sSeq (sSet 15 (mN pLst (mLcI [17] (iSeq (mV 6)) (gN 17) (cYes) (mN pTup (aCons (mV 17) (aCons (mN pTuple (aCons (m1 pSortSet (mN pLst (mLcI [16] (iSeq (mFrz (m2 pIx (mV 8) (mV 17)))) (gN 16) (mTst (m2 pNe (mV 16) (mV 17))) (mV 16)))) (aNil))) (aNil)))))))
    (sRet (mN pTup (aCons (mN pTuple (aCons (mN pSorted (aCons (mV 15) (aNil))) (aNil))) (aCons (mN pTuple (aCons (mN pSorted (aCons (mV 7) (aNil))) (aNil))) (aNil))))))))))))
def R__law_tome : FM := runB 18 3 b__law_tome
def F__law_tome : FM := view (R__law_tome)
def b__law_lists (self : FM) : SM := sRet (mIf (mTru pTru (m1 (pIsa ["list", "tuple"]) (mV 0))) (mN pLst (mLcI [1] (iSeq (mV 0)) (gN 1) (cYes) (mF self (aCons (mV 1) (aNil))))) (mV 0))
def F__law_lists : Nat → FM
  | 0 => fun _ _ => .bad
  | n + 1 => iso (runB 2 1 (b__law_lists (F__law_lists n)))
end Hn
namespace Hn
open PySem PySem.Spec PyProof.Rows L2 Sm
def boxM (c : Int) : SM := sSeq (sSet 2 (mIf (mTst (m2 pLt (mV 1) (mN pLen (aCons (mV 0) (aNil))))) (m2 pIx (mV 0) (mV 1)) (mC (.int 0))))
    (sRet (mN pLstB (aCons (m2 pMul (mN pAbs (aCons (mV 2) (aNil))) (mN pInt (aCons (m2 pGe (mN pAbs (aCons (mV 2) (aNil))) (m2 pPow (mC (.int 10)) (mC (.int 18)))) (aNil)))) (aCons (m2 pAdd (m2 pAdd (m2 pMod (mN pInt (aCons (mV 2) (aNil))) (mC (.int 2305843009213693951))) (m2 pMul (mC (.int 39373)) (mV 1))) (mC (.int c))) (aCons (mC (.int 0)) (aNil))))))
def lawM (top : Int) (B R : FM) : SM := sSeq (sSet 1 (mF F__law_cells (aCons (mV 0) (aCons (mC (.int top)) (aNil)))))
    (sRet (mN pAll (aCons (mN pLst (mLcI [2] (iRg rg1 (aCons (mN pLen (aCons (mV 1) (aNil))) (aNil))) (gN 2) (cYes) (mF R (aCons (mF B (aCons (mV 1) (aCons (mV 2) (aNil)))) (aNil))))) (aNil))))
def b_Sheet_init : SM := sSeq (sAsg (gT (gsCons (gN 2) (gsCons (gN 3) (gsNil)))) (mF (F_tupled 8) (aCons (mV 1) (aNil))))
    (sSeq (sFld 0 2 (mV 0) (mDc pDct [4, 5] (iSeq (mV 2)) (gT (gsCons (gN 4) (gsCons (gN 5) (gsNil)))) (cYes) (mV 4) (mV 5)))
    (sSeq (sFld 0 0 (mV 0) (mV 3))
    (sFld 0 1 (mV 0) (mDc pDct [4] (iSeq (m2 pAdd (mN pList (aCons (m1 (pFld 0 2) (mV 0)) (aNil))) (mN pList (aCons (mV 3) (aNil))))) (gN 4) (cYes) (mV 4) (mC (.bl true))))))
def R_Sheet_init : FM := runB 6 2 b_Sheet_init
def F_Sheet_init : FM := R_Sheet_init
def b__law_folk : SM := sRet (mN pLst (mLcI [1] (iSeq (m2 pIx (mV 0) (mC (.int 0)))) (gN 1) (cYes) (m2 pIx (mV 1) (mC (.int 0)))))
def R__law_folk : FM := runB 2 1 b__law_folk
def F__law_folk : FM := iso (R__law_folk)
def b__law_wants : SM := sSeq (sSet 1 (m2 pAdd (mF F__law_folk (aCons (mV 0) (aNil))) (mN pList (aCons (m2 pIx (mV 0) (mC (.int 1))) (aNil)))))
    (sRet (mN pDictD (aCons (mN pLst (mLcI [3] (iSeq (m2 pIx (mV 0) (mC (.int 0)))) (gN 3) (cYes) (mN pTup (aCons (m2 pIx (mV 3) (mC (.int 0))) (aCons (mN pLst (mLcI [2] (iSeq (m2 pIx (mV 3) (mC (.int 1)))) (gN 2) (mTst (m2 pIn (mV 2) (mV 1))) (mV 2))) (aNil)))))) (aNil))))
def R__law_wants : FM := runB 4 1 b__law_wants
def F__law_wants : FM := iso (R__law_wants)
end Hn
namespace Hw
open PySem PySem.Spec PyProof.Rows L2 Sm Hn
end Hw
namespace Hn
open PySem PySem.Spec PyProof.Rows L2 Sm
end Hn
namespace Sm
open PySem PySem.Spec PyProof.Rows L2
section
variable {G : Gs} {A A' A0 : Al} {H H' : Hp} {S S' : Sto}
def opts {α : Type} : List (Option α) → Option (List α)
  | [] => some []
  | some a :: r => (opts r).map (a :: ·)
  | none :: _ => none
def deepR (S : Sto) : Nat → Dv → Option Dt
  | _, .d t => some t
  | 0, .loc _ => none
  | n + 1, .loc i => match S[i]? with
    | some (.lst xs) => (opts (xs.map (deepR S n))).map .lst
    | _ => none
def nonL (H : Hp) (a : Addr) : Bool := match H a with
  | some (.lst _) => false
  | _ => true
theorem deep_rvs {B : Al} (hB : ∀ a, a ∉ A.all → a ∉ B.all) (hL : ∀ a vs, H a = some (.lst vs) → a ∉ B.all) (s : StR G A S H) : ∀ (n : Nat) (d : Dv) (v : V) (t : Dt), RD G A H d v → deepR S n d = some t → RV G B H t v := by
  intro n
  induction n with
  | zero =>
    intro d v t r e
    cases d with
    | d u =>
      cases e
      exact RV.kq (t := t) (Kq.same hB) r
    | loc i => cases e
  | succ n ih =>
    intro d v t r e
    cases d with
    | d u =>
      cases e
      exact RV.kq (t := t) (Kq.same hB) r
    | loc i =>
      unfold deepR at e
      cases es : S[i]? with
      | none => rw [es] at e; cases e
      | some o =>
        rw [es] at e
        cases o with
        | lst xs =>
          simp only at e
          obtain ⟨a, vs, rfl, hl, ha, rx⟩ := loc_lst s r es
          cases eo : opts (xs.map (deepR S n)) with
          | none => rw [eo] at e; cases e
          | some ts =>
            rw [eo] at e
            cases e
            refine ⟨a, vs, rfl, ⟨ha, hL a vs ha⟩, ?_⟩
            clear es ha hl
            induction rx generalizing ts with
            | nil =>
              cases eo
              exact (rfl : ([] : List V) = [])
            | cons r1 r2 ihx =>
              rename_i d1 v1 ds1 vs1
              rw [List.map_cons] at eo
              cases e1 : deepR S n d1 with
              | none => rw [e1] at eo; cases eo
              | some t1 =>
                rw [e1] at eo
                unfold opts at eo
                cases e2 : opts (ds1.map (deepR S n)) with
                | none => rw [e2] at eo; cases eo
                | some ts1 =>
                  rw [e2] at eo
                  cases eo
                  exact ⟨v1, vs1, rfl, ih d1 v1 t1 r1 e1, ihx ts1 e2⟩
        | _ => cases e
end
def makeF (c : Nat) (F : FM) : FM := fun ds S => (F (.loc S.length :: ds) (S ++ [.ins c []])).bind fun r S2 => match r with
  | .d .non => .ok (.loc S.length) S2
  | _ => .bad
def makeD (c : Nat) (F : FM) : FM := fun ds S => (makeF c F ds S).bind fun d S1 => lift (frz d S1)
abbrev isoMk (c : Nat) (F : FM) : FM := iso (makeD c F)
section
variable {X : Cx} {G : Gs} {W : WX} {k n : Nat} {f : Addr} {F : FM} {x : Str} {p pos : Pos} {e : Expr} {es : List Expr} {ma : M (List Dv)} {c : Nat}
theorem makeD_po {A : Al} {σ : L2.St} {S1 : Sto} {H1 : Hp} {ds : List Dv} {vs : List V} {Q : VK} (s1 : StR G A S1 H1) (rvs : RDs G A H1 ds vs) (p1 : Po G (Wa W σ) A H1 (isoMk c F ds S1) (kD G Q)) :
    ∃ A S ds, StR G A S H1 ∧ RDs G A H1 ds vs ∧ Po G (Wa W σ) A H1 ((F (.loc S.length :: ds) (S ++ [.ins c []])).bind fun r S2 => match r with
      | .d .non => .ok (.loc S.length) S2
      | _ => .bad) (kD G Q) := by
  obtain ⟨A0, S0, ds0, r0, s0, p0⟩ := SpM.iso (F := makeD c F) (E := Wa W σ) ⟨A, S1, ds, rvs, s1, p1⟩
  refine ⟨A0, S0, ds0, s0, r0, Po.step (r := makeF c F ds0 S0) p0 fun d S2 A2 H2 x2 s2 p2 v rv => ?_⟩
  cases e1 : frz d S2 with
  | none => rw [e1] at p2; exact p2.elim
  | some q =>
    obtain ⟨d', S3⟩ := q
    rw [e1] at p2
    obtain ⟨A3, x3, s3, r3⟩ := frz_po s2 rv e1
    exact Po.at p2 x3 s3 v r3
theorem e_makeD (M : Mk X.K (G.cls c) f) (R : CallW X.prog X.w G X.mg X.base k f (n + 1) [] F) (B : Bx X G W (k + 1)) (hg : Gl X x) (hm : X.mg x = some (.ref (G.cls c))) (ha : PA X (e :: es) (tMA G W ma)) (al : ALen ma n) (hdb : (x == ("__debug__" : Str)) = false)
    (he : starEach (e :: es) X.env = (false, eval e X.env) :: starEach es X.env) (hpl : (backTo pos (starEach es X.env)).any (·.1) = false) : PE X (.Call (.Name x p) (e :: es) [] pos) (tM G W (mF (isoMk c F) ma)) := by
  refine ⟨fun pins s σ H Q I h => ?_⟩
  obtain ⟨A, ρ, S, he', hs, p0⟩ := h
  refine wpAny_Call_Name_kw (ld_glob I hg hm ?_ hdb)
  refine PySem.W.callWith_K (h₀ := X.base) I.ok.mod.kin M.kp (thn (ha.run pos pins s σ H (fun vs H1 => vs.length = n ∧ ∀ x dx, H1 x = none → H1 dx = none → dx ≠ x → SpM G F (V.ref x :: (vs ++ [])) (upd (upd H1 dx (.own x)) x (.ins (G.cls c) dx [])) (fun v H2 => v = .non ∧ Q (.ref x) H2) (Wa W σ)) I
    ⟨A, ρ, S, he', hs, Po.step' p0 fun ds S1 A1 H1 e0 x1 s1 p1 vs rvs => ⟨by rw [← Paired.length rvs]; exact al ρ S ds S1 e0, by
      rw [List.append_nil]
      obtain ⟨A2, S2, ds2, s2, r2, p2⟩ := makeD_po s1 rvs p1
      exact make_po s2 r2 p2⟩⟩) fun us s1 ⟨vs, H1, I1, r, l, q⟩ => ⟨I1.kIn, ?_⟩) he hpl
  exact runMake (ws := []) (zs := []) M R B I1 r .nil l rfl q
theorem ymakeD {cc : Nat} (R : CalI X.prog X.w G X.mg X.base k cc x n F) (B : Bx X G W (k + 1)) (ha : PA X (e :: es) (tMA G W ma)) (al : ALen ma n := by repeat (first | exact al_nil | refine al_cons ?_)) (hg : Gl X x := by rfl) (hdb : (x == ("__debug__" : Str)) = false := by decide)
    (he : starEach (e :: es) X.env = (false, eval e X.env) :: starEach es X.env := by rfl) (hpl : (backTo pos (starEach es X.env)).any (·.1) = false := by rfl) : PE X (.Call (.Name x p) (e :: es) [] pos) (tM G W (mF (isoMk cc F) ma)) := by
  obtain ⟨f, h1, h2, h3⟩ := R.ex
  exact e_makeD (by rw [← B.hK]; exact h2) h3 B hg h1 ha al hdb he hpl
end
section
variable {P : Program} {w : World} {G : Gs} {mg : Str → Option Value} {base : Heap} {k c : Nat} {x : Str} {n : Nat} {ks : List Str} {F : FM} {f : Addr} {fd : FuncData} {ps : List Str}
end
end Sm
namespace Sm
open PySem PySem.Spec PyProof.Rows L2
def pInS : P2 := fun d e S => match d, e with
  | .d (.str i), .d (.str j) => some (.d (.bl (!(Builtin.Str.occurrences j i 0 j.length 1).isEmpty)), S)
  | _, _ => none
section
variable {X : Cx} {G : Gs} {W : WX} {a b c e : Expr} {pos : Pos} {mo mb mc : M Dv} {x : Str}
theorem o_inS : OpR X (compareOp .In) (q2 G pInS) := by
  refine op_in_str.sm fun x y H Q h => ?_
  obtain ⟨A, S, d, e, rd, re, st, p⟩ := h
  unfold pInS at p
  split at p
  · rename_i i j
    exact ⟨i, j, rd, re, Po.now p st _ rfl⟩
  · exact p.elim
def mChain (p q : P2) (a b c : M Dv) : M Dv := fun ρ S => (a ρ S).bind fun x S1 => (b ρ S1).bind fun y S2 => (lift (p x y S2)).bind fun z S3 => (li (toB z) S3).bind fun k S4 => if k = true then (c ρ S4).bind fun w S5 => lift (q y w S5) else .ok (.d (.bl false)) S4
theorem xchain {op op' : CmpOp} {p q : P2} (ho : OpR X (compareOp op) (q2 G p)) (ho' : OpR X (compareOp op') (q2 G q)) (ha : PE X a (tM G W mo)) (hb : PE X b (tM G W mb)) (hc : PE X c (tM G W mc)) (hm : lastMarks [op, op'] [b, c] = false := by first | rfl | with_unfolding_all rfl) :
    PE X (.Compare a [op, op'] [b, c] pos) (tM G W (mChain p q mo mb mc)) := by
  refine (pe_chain ho ho' ha hb hc hm).sm fun σ H Q h => ?_
  obtain ⟨A, ρ, S, he, hs, p0⟩ := h
  refine ⟨A, ρ, S, he, hs, Po.step p0 fun d1 S1 A1 H1 x1 s1 p1 v1 r1 => ?_⟩
  refine ⟨A1, ρ, S1, he.kp x1.kp, s1, Po.step p1 fun d2 S2 A2 H2 x2 s2 p2 v2 r2 => ?_⟩
  refine ⟨A2, S2, d1, d2, r1.kp x2.kp, r2, s2, Po.lift (Po.step p2 fun d3 S3 A3 H3 x3 s3 p3 v3 r3 => ?_)⟩
  cases d3 with
  | loc n => exact p3.elim
  | d t =>
    cases t with
    | bl k =>
      refine ⟨k, r3, ?_⟩
      cases k with
      | false => exact Po.now p3 s3 _ rfl
      | true => exact ⟨A3, ρ, S3, (he.kp x1.kp).kp (x2.trans x3).kp, s3, Po.step (f := fun w S5 => lift (q d2 w S5)) p3 fun d4 S4 A4 H4 x4 s4 p5 v4 r4 => ⟨A4, S4, d2, d4, (r2.kp x3.kp).kp x4.kp, r4, s4, Po.lift p5⟩⟩
    | _ => exact p3.elim
theorem xglobS {i : Str} {tk : Tok} {pos : Pos} (hm : X.mg x = some (.str i tk)) (hg : Gl X x := by rfl) (hd : (x == ("__debug__" : Str)) = false := by decide) : PE X (.Name x pos) (tM G W (mC (.str i))) :=
  e_of (pe_glob (v := .str i) hg hm ⟨_, rfl⟩ hd) fun _ _ => rfl
end
end Sm
namespace Sm
open PySem PySem.Spec PyProof.Rows L2
end Sm
namespace Sm
open PySem PySem.Spec PyProof.Rows L2
section
variable {G : Gs} {A A' : Al} {H H' : Hp} {S S' : Sto} {n : Nat} {a D : Addr} {vs : List V} {xs : List Dv}
abbrev Al.bor (A : Al) (n : Nat) (a : Addr) : Al := (A.drop n).hide a
def Al.ret (A : Al) (n : Nat) (a : Addr) : Al := ⟨A.live.set n [a], A.hid.filter fun b => decide (b ≠ a)⟩
theorem bor_live {i : Nat} {l : List Addr} (h : A.live[i]? = some l) : (A.bor n a).live[i]? = some (if i = n then [] else l) := by
  show (A.live.set n [])[i]? = _
  by_cases e : n = i
  · subst e
    rw [List.getElem?_set_self (List.getElem?_eq_some_iff.mp h).1, if_pos rfl]
  · rw [List.getElem?_set_ne e, if_neg (fun z => e z.symm), h]
theorem bor_all (hn : A.all.Nodup) (hl : A.live[n]? = some [a]) {b : Addr} : b ∈ (A.bor n a).all → b ∈ A.all := fun h => by
  rcases hide_all.mp h with z | z
  · rw [z]
    exact List.mem_append_left _ (live_set hl a (by simp))
  · unfold Al.all at *
    rcases List.mem_append.mp z with z | z
    · exact List.mem_append_left _ (drop_flat A n b z)
    · exact List.mem_append_right _ z
theorem bor_kp (hn : A.all.Nodup) (hl : A.live[n]? = some [a]) : Kp A H (A.bor n a) H := ⟨Kq.same fun b m z => m (bor_all hn hl z), fun i l e => by
  have := bor_live (n := n) (a := a) e
  by_cases h : i = n
  · rw [if_pos h] at this
    exact .inr this
  · rw [if_neg h] at this
    exact .inl this⟩
theorem bor_ext (hl : A.live[n]? = some [a]) : Ext A H (A.bor n a) H := by
  have hal : a ∈ A.live.flatten := live_set hl a (by simp)
  refine ⟨fun i l e => ?_, fun c u e m => ⟨fun z => ?_, fun z => List.mem_cons_of_mem _ z⟩, fun c u e m => ⟨.inl e, fun z => m (drop_flat A n c z)⟩, fun c u e _ _ => e⟩
  · have := bor_live (n := n) (a := a) e
    by_cases h : i = n
    · rw [if_pos h] at this
      exact .inr this
    · rw [if_neg h] at this
      exact .inl this
  · rcases List.mem_cons.mp z with z | z
    · rw [z] at m
      exact absurd hal m
    · exact z
theorem StR.bor (s : StR G A S H) (hl : A.live[n]? = some [a]) : StR G (A.bor n a) (S.set n .dead) H := by
  have hout := drop_out s.nd hl a (by simp)
  refine ⟨by simp [Al.drop, Al.hide, s.len], ?_, fun b hb => s.alive b (bor_all s.nd hl hb), (fun i k o e1 e2 => ?_), s.tabs.out fun b m z => m (bor_all s.nd hl z)⟩
  · have hd := drop_nd (n := n) s.nd
    unfold Al.hide Al.all at *
    rw [List.nodup_append] at *
    obtain ⟨n1, n2, n3⟩ := hd
    refine ⟨n1, List.nodup_cons.mpr ⟨fun z => hout (List.mem_append_right _ z), n2⟩, fun c hc b hb e => ?_⟩
    rcases List.mem_cons.mp hb with z | z
    · subst e z
      exact hout (List.mem_append_left _ hc)
    · exact n3 c hc b z e
  · by_cases ei : n = i
    · subst ei
      have hlt : n < S.length := by rw [← s.len]; exact (List.getElem?_eq_some_iff.mp hl).1
      rw [List.getElem?_set_self hlt] at e2
      cases e2
      trivial
    · rw [List.getElem?_set_ne ei] at e2
      have e1' : A.live[i]? = some k := by
        have : (A.live.set n [])[i]? = some k := e1
        rw [List.getElem?_set_ne ei] at this
        exact this
      exact (s.box i k o e1' e2).keep (bor_kp s.nd hl) fun _ _ => rfl
theorem set_flat : ∀ {L : List (List Addr)} {n : Nat} {b : Addr}, L[n]? = some [] → (b ∈ (L.set n [a]).flatten ↔ b = a ∨ b ∈ L.flatten)
  | [], n, b, h => by simp at h
  | l :: L, 0, b, h => by
    simp at h
    subst h
    simp
  | l :: L, n + 1, b, h => by
    have ih := set_flat (b := b) (L := L) (n := n) (by simpa using h)
    rw [List.set_cons_succ, List.flatten_cons, List.flatten_cons, List.mem_append, List.mem_append, ih]
    constructor
    · rintro (z | z | z)
      · exact .inr (.inl z)
      · exact .inl z
      · exact .inr (.inr z)
    · rintro (z | z | z)
      · exact .inr (.inl z)
      · exact .inl z
      · exact .inr (.inr z)
theorem set_flat_nd : ∀ {L : List (List Addr)} {n : Nat}, L[n]? = some [] → a ∉ L.flatten → L.flatten.Nodup → (L.set n [a]).flatten.Nodup
  | [], n, h, _, _ => by simp at h
  | l :: L, 0, h, m, d => by
    simp at h
    subst h
    rw [List.set_cons_zero, List.flatten_cons]
    rw [List.flatten_cons, List.nil_append] at m d
    exact List.nodup_cons.mpr ⟨m, d⟩
  | l :: L, n + 1, h, m, d => by
    rw [List.flatten_cons, List.mem_append, not_or] at m
    rw [List.flatten_cons, List.nodup_append] at d
    obtain ⟨d1, d2, d3⟩ := d
    have h' : L[n]? = some [] := by simpa using h
    rw [List.set_cons_succ, List.flatten_cons, List.nodup_append]
    refine ⟨d1, set_flat_nd h' m.2 d2, fun x hx y hy e => ?_⟩
    rcases (set_flat h').mp hy with z | z
    · subst e z
      exact m.1 hx
    · exact d3 x hx y z e
theorem ret_all (hn : A'.live[n]? = some []) (ha : a ∈ A'.hid) {b : Addr} : b ∈ (A'.ret n a).all → b ∈ A'.all := fun h => by
  unfold Al.ret Al.all at h
  rcases List.mem_append.mp h with z | z
  · rcases (set_flat hn).mp z with z | z
    · rw [z]
      exact List.mem_append_right _ ha
    · exact List.mem_append_left _ z
  · exact List.mem_append_right _ (List.mem_filter.mp z).1
def isLoc (n : Nat) : Dv → Bool
  | .loc m => m == n
  | .d _ => false
def noL (n : Nat) : Bo → Bool
  | .lst xs => xs.all fun d => !isLoc n d
  | .dct _ xs => xs.all fun d => !isLoc n d
  | .ins _ fs => fs.all fun f => match f with
    | none => true
    | some d => !isLoc n d
  | .dead => true
  | .tp xs => xs.all fun d => !isLoc n d
  | .dcT _ xs => xs.all fun d => !isLoc n d
theorem RD.ret {d : Dv} {v : V} (hn : A'.live[n]? = some []) (sub : ∀ b, b ∉ A'.all → b ∉ (A'.ret n a).all) (h : isLoc n d = false) (r : RD G A' H' d v) : RD G (A'.ret n a) H' d v := by
  cases d with
  | d t => exact RV.kq (t := t) (Kq.same sub) r
  | loc m =>
    obtain ⟨l, e, f⟩ := r
    have hm : n ≠ m := fun z => by
      subst z
      simp [isLoc] at h
    exact ⟨l, by show (A'.live.set n [a])[m]? = _; rw [List.getElem?_set_ne hm]; exact e, f⟩
theorem RDs.ret {ds : List Dv} {ws : List V} (hn : A'.live[n]? = some []) (sub : ∀ b, b ∉ A'.all → b ∉ (A'.ret n a).all) (h : (ds.all fun d => !isLoc n d) = true) (r : RDs G A' H' ds ws) : RDs G (A'.ret n a) H' ds ws := by
  induction r with
  | nil => exact .nil
  | cons r1 r2 ih =>
    rw [List.all_cons, Bool.and_eq_true] at h
    exact .cons (RD.ret hn sub (by simpa using h.1) r1) (ih h.2)
theorem RB.ret {l : List Addr} {b : Bo} (hn : A'.live[n]? = some []) (sub : ∀ b, b ∉ A'.all → b ∉ (A'.ret n a).all) (h : noL n b = true) (r : RB G A' H' l b) : RB G (A'.ret n a) H' l b := by
  cases b with
  | lst ys =>
    obtain ⟨c, ws, rfl, ec, rc⟩ := r
    exact ⟨c, ws, rfl, ec, rc.ret hn sub h⟩
  | dct ks ys =>
    obtain ⟨c, ws, rfl, ec, ek, rc⟩ := r
    exact ⟨c, ws, rfl, ec, ek, rc.ret hn sub h⟩
  | ins c fs =>
    obtain ⟨c1, dx, ws, rfl, ec, rc⟩ := r
    refine ⟨c1, dx, ws, rfl, ec, fun i d e => ?_⟩
    obtain ⟨v, ev, rv⟩ := rc i d e
    refine ⟨v, ev, RD.ret hn sub ?_ rv⟩
    have := List.all_eq_true.mp h (some d) (List.mem_of_getElem? e)
    simpa using this
  | dead => trivial
  | tp ys =>
    obtain ⟨c, ws, rfl, ec, rc⟩ := r
    exact ⟨c, ws, rfl, ec, rc.ret hn sub h⟩
  | dcT ks ys =>
    obtain ⟨c, ws, rfl, ec, ek, rc⟩ := r
    exact ⟨c, ws, rfl, ec, ek, rc.ret hn sub h⟩
theorem ret_ok (s : StR G A S H) (hl : A.live[n]? = some [a]) (hH : H a = some (.lst vs)) (hp : (pures xs).isSome = true) (hx : RDs G A H xs vs) (hD : H D = none) (s' : StR G A' S' H') (x : ExtB D (A.bor n a) H A' H') (hno : S'.all (noL n) = true) : StR G (A'.ret n a) (S'.set n (.lst xs)) H' ∧ ExtB D A H (A'.ret n a) H' ∧ (∀ b, b ∉ A'.all → b ∉ (A'.ret n a).all) := by
  have hal : a ∈ A.live.flatten := live_set hl a (by simp)
  have hDa : a ≠ D := fun z => by
    rw [z, hD] at hH
    cases hH
  have hout := drop_out s.nd hl a (by simp)
  have hnf : a ∉ (A.bor n a).live.flatten := fun z => hout (List.mem_append_left _ z)
  have hah : a ∈ A'.hid := (x.hid a _ hDa hH hnf).mpr List.mem_cons_self
  have hnl : A'.live[n]? = some [] := by
    have := bor_live (n := n) (a := a) hl
    rw [if_pos rfl] at this
    rcases x.live n [] this with z | z <;> exact z
  have hlt : n < A'.live.length := (List.getElem?_eq_some_iff.mp hnl).1
  have hH' : H' a = some (.lst vs) := x.keepH a _ hDa hH hnf List.mem_cons_self
  have hal' : a ∉ A'.live.flatten := (x.keep a _ hDa hH hnf).2
  have ca : ∀ c u, H c = some u → c ∉ A.live.flatten → c ≠ a := fun c u _ m z => by
    rw [z] at m
    exact m hal
  have cf : ∀ c, c ∉ A.live.flatten → c ∉ (A.bor n a).live.flatten := fun c m z => m (drop_flat A n c z)
  have xr : ExtB D A H (A'.ret n a) H' := by
    refine ⟨fun i l e => ?_, fun c u ne e m => ?_, fun c u ne e m => ⟨(x.keep c u ne e (cf c m)).1, fun z => ?_⟩, fun c u ne e m h => x.keepH c u ne e (cf c m) (List.mem_cons_of_mem _ h), ?_⟩
    · show (A'.live.set n [a])[i]? = _ ∨ (A'.live.set n [a])[i]? = _
      by_cases ei : n = i
      · subst ei
        rw [hl] at e
        cases e
        rw [List.getElem?_set_self hlt]
        exact .inl rfl
      · rw [List.getElem?_set_ne ei]
        have := bor_live (n := n) (a := a) e
        rw [if_neg (fun z => ei z.symm)] at this
        exact x.live i l this
    · show c ∈ A'.hid.filter _ ↔ _
      rw [List.mem_filter]
      have := x.hid c u ne e (cf c m)
      constructor
      · rintro ⟨h1, _⟩
        rcases List.mem_cons.mp (this.mp h1) with z | z
        · exact absurd z (ca c u e m)
        · exact z
      · exact fun h => ⟨this.mpr (List.mem_cons_of_mem _ h), by simpa using ca c u e m⟩
    · rcases (set_flat hnl).mp z with z | z
      · exact ca c u e m z
      · exact (x.keep c u ne e (cf c m)).2 z
    · show D ∈ A'.hid.filter _
      rw [List.mem_filter]
      exact ⟨x.inH, by simpa using fun z => hDa z.symm⟩
  have sub : ∀ b, b ∉ A'.all → b ∉ (A'.ret n a).all := fun b m z => m (ret_all hnl hah z)
  refine ⟨⟨by simp [Al.ret, s'.len], ?_, fun b hb => s'.alive b (ret_all hnl hah hb), (fun i k o e1 e2 => ?_), s'.tabs.out sub⟩, xr, sub⟩
  · have hn := s'.nd
    unfold Al.ret Al.all at *
    rw [List.nodup_append] at *
    obtain ⟨n1, n2, n3⟩ := hn
    refine ⟨set_flat_nd hnl hal' n1, n2.filter _, fun c hc b hb e => ?_⟩
    obtain ⟨h1, h2⟩ := List.mem_filter.mp hb
    rcases (set_flat hnl).mp hc with z | z
    · rw [← e, z] at h2
      simp at h2
    · exact n3 c z b h1 e
  · have e1' : (A'.live.set n [a])[i]? = some k := e1
    by_cases ei : n = i
    · subst ei
      rw [List.getElem?_set_self hlt] at e1'
      rw [List.getElem?_set_self (by rw [← s'.len]; exact hlt)] at e2
      cases e1'
      cases e2
      exact ⟨a, vs, rfl, hH', rds_pure hp (Ext.ofB xr hD).kp.toKq hx⟩
    · rw [List.getElem?_set_ne ei] at e1' e2
      exact (s'.box i k o e1' e2).ret hnl sub (List.all_eq_true.mp hno _ (List.mem_of_getElem? e2))
end
section
variable {X : Cx} {G : Gs} {W : WX} {kk : Nat} {elt tg iter : Expr} {ifs : List Expr} {scope : Scope} {own : List (Str × Nat)} {pos : Pos} {it : M (List Dt)} {g : GM} {t : TG} {L : List Nat} {cm : M Bool} {em : M Dv}
theorem lc_loopR {σ : L2.St} {H1 H0 : Hp} {A1 A0 : Al} {ρ : Env} {S1 : Sto} {ts : List Dt} {J : It} {D : Addr} {E : XK} {vs : List Nat} {Fin : Hp → Prop} (hgs : TgS G t g L) (hL : ∀ i ∈ L, i ∈ vs) (wk : Wk G J A1 H1 ts) (he : EnvR G A1 H1 ρ σ) (hs : StR G A1 S1 H1) (hD : H1 D = none) (hlen : ts.length ≤ 16777216)
    {kf : List Dv → Sto → Rz Dv} {Qf : Al → Hp → Dv → Prop}
    (p : Po G E A0 H0 ((lcL g cm em (wipeE ρ vs) ts S1).bind kf) Qf)
    (hfin : ∀ ds ws S' A' H', StR G A' S' H' → ExtB D A1 H1 A' H' → H' D = some (.lst ws) → RDs G A' H' ds ws → Po G E A0 H0 (kf ds S') Qf → Fin H') :
    ∃ W : Nat → Nat → Hp → Prop, (∃ m, W 0 m (upd H1 D (.lst []))) ∧ ∀ i m H, W i m H →
      (J.stop i H ∧ Fin H) ∨ (J.go i H ∧ ∃ Nx : Hp → Prop, (∀ H', Nx H' → ∃ m', m' < m ∧ W (i + 1) m' H') ∧ ∀ x H', J.yld i H x H' → t x (wipe σ vs) H' fun σ2 H2 => wipe σ2 vs = wipe σ vs ∧ tMT G W0 cm σ2 H2 fun b H3 =>
        if b = true then tM G W0 em σ2 H3 fun y H4 => ∃ acc, H4 D = some (.lst acc) ∧ acc.length < sizeLine ∧ Nx (upd H4 D (.lst (acc ++ [y]))) else Nx H3) := by
  let Inw : Nat → Hp → Prop := fun i H' => ∃ A' S' ds ws, StR G A' S' H' ∧ ExtB D A1 H1 A' H' ∧ H' D = some (.lst ws) ∧ RDs G A' H' ds ws ∧ ws.length ≤ i ∧ i ≤ ts.length ∧
    Po G E A0 H0 ((lcL g cm em (wipeE ρ vs) (ts.drop i) S').bind fun es S'' => kf (ds ++ es) S'') Qf
  refine ⟨fun i m H' => m = ts.length - i ∧ Inw i H', ⟨_, rfl, A1.hide D, S1, [], [], hs.hide hD, .start, upd_same, .nil, Nat.le_refl _, Nat.zero_le _, ?_⟩, fun i m H' hW => ?_⟩
  · simpa using p
  · obtain ⟨hm, A', S', ds, ws, s', x', hDw, rds, hwl, hi, q⟩ := hW
    by_cases hlt : i < ts.length
    · refine .inr ⟨wk.go i A' H' hlt (.ofB x' hD), Inw (i + 1), fun H2 hN => ⟨ts.length - (i + 1), by omega, rfl, hN⟩, fun x H2 hy => ?_⟩
      obtain ⟨d, ed, xy, sy, rv⟩ := wk.yld i A' H' S' x H2 hlt (.ofB x' hD) s' hy
      have hd : ts.drop i = d :: ts.drop (i + 1) := by
        rw [List.drop_eq_getElem_cons hlt]
        rw [List.getElem?_eq_getElem hlt] at ed
        cases ed
        rfl
      rw [hd] at q
      unfold lcL at q
      cases eg : g (.d d) (wipeE ρ vs) with
      | none => rw [eg] at q; exact q.elim
      | some ρ1 =>
        rw [eg] at q
        have x2 := x'.step xy s'
        have hw : EnvR G A' H2 (wipeE ρ vs) (wipe σ vs) := (he.kp (Ext.ofB x2 hD).kp).wipe vs
        refine hgs A' S' _ ρ1 (wipe σ vs) H2 (.d d) x _ hw sy rv eg fun σ2 he2 hk2 hl2 => ?_
        refine ⟨?_, ?_⟩
        · have z := wipe_same (σ := wipe σ vs) (σ' := σ2) hL hk2 hl2
          rw [z]
          apply List.ext_getElem?
          intro j
          by_cases hj : j ∈ vs
          · have key : ∀ (τ : L2.St) (us : List Nat), j ∈ us → j < τ.length → (L2.wipe τ us)[j]? = some none := by
              intro τ us
              induction us with
              | nil => intro h; cases h
              | cons w us ih =>
                intro h hlt
                show ((L2.wipe τ us).set w none)[j]? = some none
                by_cases e : w = j
                · subst e
                  rw [List.getElem?_set_self (by rw [wipe_length]; exact hlt)]
                · rw [List.getElem?_set_ne e]
                  exact ih (by rcases List.mem_cons.mp h with z | z; exact absurd z.symm e; exact z) hlt
            by_cases hl : j < σ.length
            · rw [key σ vs hj hl, key (L2.wipe σ vs) vs hj (by rw [wipe_length]; exact hl)]
            · rw [List.getElem?_eq_none (by rw [wipe_length, wipe_length]; omega), List.getElem?_eq_none (by rw [wipe_length]; omega)]
          · rw [wipe_out hj]
        · have hDH2 : H2 D = some (.lst ws) := (hid_keep s' x'.inH xy).trans hDw
          have rds2 := rds.kp xy.kp
          -- the test
          refine ⟨A', ρ1, S', he2, sy, ?_⟩
          simp only [bz] at q
          cases ec : cm ρ1 S' with
          | bad => rw [ec] at q; exact q.elim
          | er c0 t0 S0 => rw [ec] at q; exact q.elim
          | ok k S2 =>
            rw [ec] at q
            simp only [nox_ok, bind_ok] at q
            intro A3 H3 x3 s3
            have xb3 := x2.step x3 sy
            have hD3 : H3 D = some (.lst ws) := (hid_keep sy x2.inH x3).trans hDH2
            cases k with
            | false =>
              simp only [Bool.false_eq_true, if_false] at q ⊢
              exact ⟨A3, S2, ds, ws, s3, xb3, hD3, rds2.kp x3.kp, by omega, by omega, q⟩
            | true =>
              simp only [if_true] at q ⊢
              refine ⟨A3, ρ1, S2, he2.kp x3.kp, s3, ?_⟩
              cases ee : em ρ1 S2 with
              | bad => rw [ee] at q; exact q.elim
              | er c0 t0 S0 => rw [ee] at q; exact q.elim
              | ok dv S4 =>
                rw [ee] at q
                simp only [nox_ok, bind_ok] at q
                intro A4 H4 x4 s4 y ry
                have xb4 := xb3.step x4 s3
                have hD4 : H4 D = some (.lst ws) := (hid_keep s3 xb3.inH x4).trans hD3
                refine ⟨ws, hD4, Nat.lt_of_lt_of_le (show ws.length < 16777216 by omega) (line_of (Nat.le_refl _)), A4, S4, ds ++ [dv], ws ++ [y], s4.poke xb4.inH, xb4.poke, upd_same, ?_, by simp; omega, by omega, ?_⟩
                · exact (((rds2.kp x3.kp).kp x4.kp).append (.cons ry .nil)).kp (kp_poke xb4.inH)
                · have e1 : ((lcL g cm em (wipeE ρ vs) (ts.drop (i + 1)) S4).bind fun es S'' => kf (ds ++ [dv] ++ es) S'') = (((lcL g cm em (wipeE ρ vs) (ts.drop (i + 1)) S4).bind fun ds S3 => .ok (dv :: ds) S3).bind fun es S'' => kf (ds ++ es) S'') := by
                    cases lcL g cm em (wipeE ρ vs) (ts.drop (i + 1)) S4 with
                    | ok a b => simp
                    | er c0 t0 S0 => rfl
                    | bad => rfl
                  rw [e1]
                  exact q
    · have hz : i = ts.length := by omega
      subst hz
      rw [List.drop_length] at q
      simp only [lcL, bind_ok, List.append_nil] at q
      exact .inl ⟨wk.stop A' H' (.ofB x' hD), hfin ds ws S' A' H' s' x' hDw rds q⟩
def mLcR (pe : PN) (i : Nat) (vs : List Nat) (g : GM) (c : M Bool) (e : M Dv) : M Dv := fun ρ S => match ρ[i]? with
  | some (some (.loc n)) => (match S[n]? with
    | some (.lst xs) => (match pures xs with
      | some ts => if ts.length ≤ 16777216 then (lcL g c e (wipeE ρ vs) ts (S.set n .dead)).bind fun ds S2 => if (pures ds).isSome = true ∧ S2.all (noL n) = true then lift (pe ds (S2.set n (.lst xs))) else .bad
        else .bad
      | none => .bad)
    | _ => .bad)
  | _ => .bad
theorem e_lcR {x : Str} {i : Nat} {xpos : Pos} {pe : PN} (hpe : LEnd G pe) (B : Bx X G W kk) (hN : X.N[i]? = some x) (hv : Vis X.env.scope x) (hd : (x == ("__debug__" : Str)) = false) (hcd : (x == ("__classdict__" : Str)) = false) (ok : BlkOk X.N X.env.scope scope own) (hg : ∀ (s : Shared) (H : Hp) (C : Addr) (cl : List (Str × Addr)) (fp : List Addr), PG (X.blk s H scope (compEnvC scope cl C X.env) fp) tg t) (hgs : TgS G t g L) (hL : ∀ i ∈ L, i ∈ own.map (·.2))
    (ht : ∀ (s : Shared) (H : Hp) (C : Addr) (cl : List (Str × Addr)) (fp : List Addr), PTs (X.blk s H scope (compEnvC scope cl C X.env) fp) ifs (tMT G W0 cm)) (he : ∀ (s : Shared) (H : Hp) (C : Addr) (cl : List (Str × Addr)) (fp : List Addr), PE (X.blk s H scope (compEnvC scope cl C X.env) fp) elt (tM G W0 em))
    (hs : ∀ z, foldedSetIterable (.Name x xpos) X.env z = pure z) : PE X (.ListComp elt [⟨tg, .Name x xpos, ifs, 0⟩] scope pos) (tM G W (mLcR pe i (own.map (·.2)) g cm em)) := by
  refine (pe_lc B.calm B.nd (pi_sq (pe_var hN hv hd hcd)) ok hg ht he hs).sm fun σ H Q h => ?_
  obtain ⟨A, ρ, S, he', hs', p⟩ := h
  unfold mLcR at p
  cases e1 : ρ[i]? with
  | none => rw [e1] at p; exact p.elim
  | some o =>
    cases o with
    | none => rw [e1] at p; exact p.elim
    | some d =>
      rw [e1] at p
      obtain ⟨v, ev, rv⟩ := he'.at_ i d e1
      cases d with
      | d t => exact p.elim
      | loc n =>
        simp only at p
        cases es : S[n]? with
        | none => rw [es] at p; exact p.elim
        | some b =>
          rw [es] at p
          cases b with
          | lst xs =>
            simp only at p
            cases ep : pures xs with
            | none => rw [ep] at p; exact p.elim
            | some ts =>
              rw [ep] at p
              simp only at p
              split at p
              · rename_i hlen
                obtain ⟨a, ws, rfl, hl, hH, rx⟩ := loc_lst hs' rv es
                have x1 : Ext A H (A.bor n a) H := bor_ext hl
                have s1 := hs'.bor hl
                have hnf : a ∉ (A.bor n a).live.flatten := fun z => drop_out hs'.nd hl a (by simp) (List.mem_append_left _ z)
                have rts : RVs G (A.bor n a) H ts ws := (pures_rvs ep rx).kp (bor_kp hs'.nd hl)
                have wk : Wk G (Itl G.K a) (A.bor n a) H ts := wk_list (fun A' H' x => .inl (.inl (x.keepH a _ hH hnf List.mem_cons_self))) rts
                refine ⟨_, ev, a, rfl, .inl ⟨⟨ws, .inl (.inl hH)⟩, ?_⟩⟩
                rw [← B.hK]
                intro D hD
                refine lc_loopR (A0 := A) (H0 := H) (Fin := fun H => Q (.ref D) H) hgs hL wk (he'.kp x1.kp) s1 hD hlen p fun ds ws' S' A' H' s' x' hDw r q => ?_
                by_cases hc : (pures ds).isSome = true ∧ S'.all (noL n) = true
                · rw [if_pos hc] at q
                  obtain ⟨s2, x2, sub⟩ := ret_ok hs' hl hH (by rw [ep]; rfl) rx hD s' x' hc.2
                  exact hpe s2 x2 hD hDw (rds_pure hc.1 (Kq.same sub) r) q
                · rw [if_neg hc] at q
                  exact q.elim
              · exact p.elim
          | _ => exact p.elim
theorem ylcR (i : Nat) (own : List (Str × Nat)) {x : Str} {xpos : Pos} {pe : PN} (hpe : LEnd G pe) (B : Bx X G W kk) (hg : ∀ (s : Shared) (H : Hp) (C : Addr) (cl : List (Str × Addr)) (fp : List Addr), PG (X.blk s H scope (compEnvC scope cl C X.env) fp) tg t) (hgs : TgS G t g L)
    (ht : ∀ (s : Shared) (H : Hp) (C : Addr) (cl : List (Str × Addr)) (fp : List Addr), PTs (X.blk s H scope (compEnvC scope cl C X.env) fp) ifs (tMT G W0 cm)) (he : ∀ (s : Shared) (H : Hp) (C : Addr) (cl : List (Str × Addr)) (fp : List Addr), PE (X.blk s H scope (compEnvC scope cl C X.env) fp) elt (tM G W0 em))
    (hN : X.N[i]? = some x := by rfl) (hv : Vis X.env.scope x := by first | exact Or.inl rfl | exact Or.inr (Or.inl rfl) | exact Or.inr (Or.inr rfl)) (hd : (x == ("__debug__" : Str)) = false := by decide) (hcd : (x == ("__classdict__" : Str)) = false := by decide)
    (ok : blkC X.N X.env.scope scope own = true := by rfl) (hL : ∀ i ∈ L, i ∈ own.map (·.2) := by decide) (hs : ∀ z, foldedSetIterable (.Name x xpos) X.env z = pure z := by exact fun _ => rfl) : PE X (.ListComp elt [⟨tg, .Name x xpos, ifs, 0⟩] scope pos) (tM G W (mLcR pe i (own.map (·.2)) g cm em)) := e_lcR hpe B hN hv hd hcd (blkOk_by ok) hg hgs hL ht he hs
end
end Sm
namespace Hn
open PySem PySem.Spec PyProof.Rows L2 Sm
end Hn
namespace Sm
open PySem PySem.Spec PyProof.Rows L2
section
variable {X : Cx} {G : Gs} {W : WX} {k n : Nat} {f : Addr} {ks : List Str} {F : FM} {c : Nat} {m : Str} {pos : Pos} {o i e : Expr} {mo mi mx : M Dv}
structure PropS (K : PySem.W.Frag) (C : Addr) (f : Str) (p g : Addr) : Prop where
  at_ : PySem.W.findIn K (.ref C) f = some (some (.ref p))
  get : PySem.W.specialIn K (.ref p) "__get__" = some (some (.builtin "property.__get__"))
  tk : PySem.W.takesIn K (.ref p) = some true
  rc : ∃ rest, PySem.W.recIn K p "property" = some (.ref g :: rest)
end
structure CalP (P : Program) (w : World) (G : Gs) (mg : Str → Option Value) (base : Heap) (k c : Nat) (x : Str) (F : FM) : Prop where
  ex : ∃ p f, SlX.SCls G.K (G.cls c) ∧ PropS G.K (G.cls c) x p f ∧ CallW P w G mg base k f 1 [] F
structure CalD (P : Program) (w : World) (G : Gs) (mg : Str → Option Value) (base : Heap) (k c : Nat) (x : Str) (n : Nat) (F : FM) : Prop where
  ex : ∃ f, SlX.SCls G.K (G.cls c) ∧ Meth G.K (G.cls c) x f ∧ PySem.W.fnIn G.K f = true ∧ CallW P w G mg base k f (n + 1) [] F
section
variable {X : Cx} {G : Gs} {W : WX} {k : Nat} {F : FM} {c : Nat} {m : Str} {pos : Pos} {o i e : Expr} {mo mi mx : M Dv}
end
end Sm
namespace Sm
open PySem PySem.Spec PyProof.Rows L2
section
variable {P : Program} {w : World} {G : Gs} {mg : Str → Option Value} {base : Heap} {x qual : Str} {st : Stmt} {f : Addr} {dV kV : Value} {fd : FuncData} {ps ks : List Str} {k n : Nat} {F : FM}
end
section
variable {X : Cx} {G : Gs}
end
section
variable {X : Cx} {G : Gs}
end
end Sm
namespace Sm
open PySem PySem.Spec PyProof.Rows L2
section
variable {X : Cx} {G : Gs} {W : WX} {k : Nat} {F : FM} {c : Nat} {pos : Pos} {o e : Expr} {mo mx : M Dv}
end
section
variable {G : Gs} {A B : Al} {H : Hp}
end
section
variable {G : Gs} {A A' A0 : Al} {H H' : Hp} {S S' : Sto}
end
section
variable {P : Program} {w : World} {G : Gs} {mg : Str → Option Value} {base : Heap} {k : Nat} {x : Str} {n : Nat} {ks : List Str} {F : FM}
end
end Sm
namespace Hn
open PySem PySem.Spec PyProof.Rows L2 Sm
end Hn
namespace Sm
open PySem PySem.Spec PyProof.Rows L2
section
variable {X : Cx} {G : Gs} {W : WX} {k : Nat}
end
section
variable {X : Cx} {G : Gs} {W : WX} {k : Nat} {a : Expr} {p p2 q pos : Pos} {mo : M Dv}
end
end Sm
namespace Sm
open PySem PySem.Spec PyProof.Rows L2
section
variable {G : Gs} {A A' A0 : Al} {H H' : Hp} {S S' : Sto}
end
section
variable {P : Program} {w : World} {G : Gs} {mg : Str → Option Value} {base : Heap} {k : Nat} {x : Str} {n : Nat} {ks : List Str} {F : FM}
end
end Sm
namespace Sm
open PySem PySem.Spec PyProof.Rows L2
section
variable {X : Cx} {G : Gs} {W : WX} {k : Nat} {f : Addr} {F : FM} {c : Nat} {p pos : Pos} {o : Expr} {mo : M Dv}
end
end Sm
namespace Sm
open PySem PySem.Spec PyProof.Rows L2
section
variable {prog : Program} {w : World} {K : Type} [DecidableEq K] {knd : KeyKind prog w K} {A : Around} {E : Value → Shared → Prop} {s : Shared}
end
end Sm
namespace Sm
open PySem PySem.Spec PyProof.Rows L2
section
variable {X : Cx} {G : Gs} {W : WX} {kk : Nat}
end
end Sm
namespace Sm
open PySem PySem.Spec PyProof.Rows L2
section
variable {X : Cx} {G : Gs} {W : WX} {kk : Nat} {e : Expr} {apos cpos : Pos}
end
end Sm
namespace Sm
open PySem PySem.Spec PyProof.Rows L2
section
variable {X : Cx} {G : Gs} {W : WX} {kk : Nat} {e e2 e3 : Expr}
def pRevL : P1 := fun d S => match lstT S d with
  | some ts => some (.d (.lst ts.reverse), S)
  | none => none
theorem RVs.rev {A : Al} {H : Hp} : ∀ {ts : List Dt} {vs : List V}, RVs G A H ts vs → RVs G A H ts.reverse vs.reverse
  | [], vs, h => by
    have z : vs = [] := h
    subst z
    exact h
  | t :: ts, vs, h => by
    obtain ⟨v, r, rfl, h1, h2⟩ := h
    rw [List.reverse_cons, List.reverse_cons]
    exact (RVs.rev h2).append ⟨v, [], rfl, h1, rfl⟩
theorem e_revL {k0 : Nat} {p1 p2 p3 pos : Pos} {m : M Dv} (B : Bx X G W kk) (he : PE X e (tM G W m)) : PE X (.Subscript e (.Slice none none (some (.UnaryOp .USub (.Constant (.int 1) k0 p1) p2)) p3) pos) (tM G W (m1 pRevL m)) := by
  refine (pe_revL he).sm fun σ H Q h => ?_
  obtain ⟨A, ρ, S, he, st, p0⟩ := h
  refine ⟨A, ρ, S, he, st, Po.step p0 fun d S1 A1 H1 x1 s1 p1 v rv => ?_⟩
  unfold pRevL at p1
  split at p1
  · rename_i ts e1
    obtain ⟨a, vs, rfl, hq, hv⟩ := lstT_rd s1 rv e1
    rw [B.hK] at hq
    exact ⟨a, vs, rfl, hq, fun q hq2 => Po.at p1 (Ext.new hq2) (s1.new hq2) _ (RV.lst_new s1 hq2 hv.rev)⟩
  · exact p1.elim
end
end Sm
namespace Sm
open PySem PySem.Spec PyProof.Rows L2
section
variable {X : Cx} {G : Gs} {W : WX} {kk : Nat}
variable {kx vx tg iter : Expr} {ifs : List Expr} {scope : Scope} {pos spos py : Pos} {y : Str} {it : M (List Dt)} {g : GM} {t : TG} {L : List Nat} {cm : M Bool} {ek ev : M Dv} {pe : PD}
end
end Sm
namespace Sm
open PySem PySem.Spec PyProof.Rows L2
end Sm
namespace Hr
open PySem PySem.Spec PyProof.Rows L2 Sm Hn
def b_Sheet_init : SM := sSeq (sAsg (gT (gsCons (gN 2) (gsCons (gN 3) (gsNil)))) (mF (F_tupled 8) (aCons (mV 1) (aNil))))
    (sSeq (sFld 0 2 (mV 0) (mDc pDct [4, 5] (iSeq (mV 2)) (gT (gsCons (gN 4) (gsCons (gN 5) (gsNil)))) (cYes) (mV 4) (mV 5)))
    (sSeq (sFld 0 0 (mV 0) (mV 3))
    (sFld 0 1 (mV 0) (mDc pDct [4] (iSeq (m2 pAdd (mN pList (aCons (m1 (pFld 0 2) (mV 0)) (aNil))) (mN pList (aCons (mV 3) (aNil))))) (gN 4) (cYes) (mV 4) (mC (.bl true))))))
def R_Sheet_init : FM := runB 6 2 b_Sheet_init
def F_Sheet_init : FM := R_Sheet_init
def b_Sheet_names : SM := sRet (mN pTuple (aCons (m1 (pFld 0 2) (mV 0)) (aNil)))
def R_Sheet_names : FM := runB 1 1 b_Sheet_names
def F_Sheet_names : FM := iso (R_Sheet_names)
abbrev l1__law_ways : SM := sSet 4 (m2 pAdd (mV 4) (mN pLst (mLcI [6] (iSeq (m2 pAdd (mN pLst (aCons (mV 3) (aNil))) (m2 pIx (mV 1) (mV 3)))) (gN 6) (mTst (m2 pNotIn (mV 6) (mV 5))) (m2 pAdd (mV 5) (mN pTup (aCons (mV 6) (aNil)))))))
abbrev l2__law_ways : SM := sSeq (sSet 4 (mN pLst (aNil)))
    (sSeq (sFor (iSeq (mV 2)) (gN 5) (l1__law_ways))
    (sSet 2 (mV 4)))
def b__law_ways : SM := sSeq (sPars [1, 2] (aCons (mF F__law_wants (aCons (mV 0) (aNil))) (aCons (mN pLst (aCons (mN pTup (aNil)) (aNil))) (aNil))))
    (sSeq (sFor (iDc dKeys (mV 1)) (gN 3) (l2__law_ways))
    (sRet (mV 2)))
def R__law_ways : FM := runB 7 1 b__law_ways
def F__law_ways : FM := iso (R__law_ways)
end Hr
namespace Sm
open PySem PySem.Spec PyProof.Rows L2
section
variable {X : Cx} {G : Gs} {W : WX} {kk : Nat} {e : Expr} {apos cpos : Pos}
end
end Sm
namespace Sm
open PySem PySem.Spec PyProof.Rows L2
section
variable {X : Cx} {G : Gs} {W : WX} {kk : Nat} {elt tg iter : Expr} {ifs : List Expr} {scope : Scope} {own : List (Str × Nat)} {pos : Pos} {it : M (List Dt)} {g : GM} {t : TG} {L : List Nat} {cm : M Bool} {em : M Dv}
end
end Sm
namespace Sm
open PySem PySem.Spec PyProof.Rows L2
section
variable {X : Cx} {G : Gs}
end
end Sm
namespace Sm
open PySem PySem.Spec PyProof.Rows L2
section
variable {X : Cx} {G : Gs}
end
section
variable {G : Gs} {A A' A0 : Al} {H H' : Hp} {S S' : Sto}
end
end Sm
namespace Sm
open PySem PySem.Spec PyProof.Rows L2
section
variable {X : Cx} {G : Gs} {W : WX} {k : Nat}
end
end Sm
namespace Sm
open PySem PySem.Spec PyProof.Rows L2
end Sm
namespace Sm
open PySem PySem.Spec PyProof.Rows L2
section
variable {X : Cx} {G : Gs} {W : WX} {k : Nat} {es : List Expr} {e o : Expr} {pos apos cpos : Pos}
end
end Sm
namespace Sm
open PySem PySem.Spec PyProof.Rows L2
def minTx (x : Str) (l : List Str) : Str := l.foldl (fun a y => if PySem.W.dataLt (.str y) (.str a) then y else a) x
section
variable {X : Cx} {G : Gs} {W : WX} {k : Nat}
end
end Sm
namespace Sm
open PySem PySem.Spec PyProof.Rows L2
section
variable {X : Cx} {G : Gs} {W : WX} {k : Nat}
end
end Sm
namespace Sm
open PySem PySem.Spec PyProof.Rows L2
section
variable {X : Cx} {G : Gs} {W : WX} {k : Nat}
end
end Sm
namespace Sm
open PySem PySem.Spec PyProof.Rows L2
section
variable {X : Cx} {G : Gs} {W : WX} {k : Nat} {e : Expr} {A : Al} {H : Hp}
end
end Sm
namespace Sm
open PySem PySem.Spec PySem.W
section
variable {M : Model} {A : Around} {E : Value → Shared → Prop} {s : Shared} {α β : Type}
theorem turns_idle {f : α → β → Sem (ForInStep β)} {u : β} : ∀ (cs : List α), (∀ c ∈ cs, ∀ Q : ForInStep β → Shared → Prop, Q (.yield u) s → wpAny M A (f c u) Q E s) → ∀ Q : β → Shared → Prop, Q u s → wpAny M A (forIn cs u f) Q E s
  | [], _, Q, q => by
    rw [List.forIn_nil]
    exact wpAny_pure q
  | c :: cs, h, Q, q => by
    rw [List.forIn_cons]
    refine wpAny_bind (h c List.mem_cons_self _ ?_)
    exact turns_idle cs (fun x hx => h x (List.mem_cons_of_mem _ hx)) Q q
theorem turns_hit {f : α → β → Sem (ForInStep β)} {u d : β} {v : α → Bool} : ∀ (cs : List α), (∀ c ∈ cs, ∀ Q : ForInStep β → Shared → Prop, Q (if v c = true then .done d else .yield u) s → wpAny M A (f c u) Q E s) → ∀ Q : β → Shared → Prop, Q (if cs.any v = true then d else u) s → wpAny M A (forIn cs u f) Q E s
  | [], _, Q, q => by
    rw [List.forIn_nil]
    exact wpAny_pure q
  | c :: cs, h, Q, q => by
    rw [List.forIn_cons]
    refine wpAny_bind (h c List.mem_cons_self _ ?_)
    rw [List.any_cons] at q
    cases hv : v c with
    | true =>
      rw [hv] at q
      exact wpAny_pure q
    | false =>
      rw [hv] at q
      exact turns_hit cs (fun x hx => h x (List.mem_cons_of_mem _ hx)) Q q
end
theorem any_each {K : Frag} {cls : Value} : ∀ {cs : List Value} {b : Bool}, exmAny K cls cs = some b → (∀ c ∈ cs, ∃ v, exmOne K cls c = some v) ∧ cs.any (fun c => exmOne K cls c == some true) = b
  | [], b, h => by
    cases h
    exact ⟨fun c hc => absurd hc List.not_mem_nil, rfl⟩
  | c :: cs, b, h => by
    obtain ⟨b1, d1, h1, h2, rfl⟩ := exmAny_cons h
    obtain ⟨k1, k2⟩ := any_each h2
    refine ⟨fun x hx => ?_, ?_⟩
    · rcases List.mem_cons.mp hx with rfl | hx
      · exact ⟨b1, h1⟩
      · exact k1 x hx
    · rw [List.any_cons, h1, k2]
      cases b1 <;> rfl
theorem exm_all {M : Model} {K : Frag} {cs : List Value} {cls : Value} {tp e : Addr} {b : Bool} {h : Heap} (X : K.In h) (LT : Looks M h (typeOf (.ref e)) cls) (hp : h.get? tp = some { cls := .type "tuple", data := .seq cs.toArray }) (hx : exmAny K cls cs = some b) :
    Looks M h (excMatches (.ref e) (.ref tp)) b := by
  intro A Q E s k q
  obtain ⟨ev, an⟩ := any_each hx
  have isT : Looks M h (isInstance (.ref tp) (.type "tuple")) true := ((Looks.ld hp).andThen .now).andThen (Looks.of_pure isSubtype_tuple_tuple)
  unfold excMatches
  refine wpAny_bind ((isT.keeps k).here ?_)
  dsimp only
  rw [if_pos rfl]
  have there := k _ _ hp
  first
    | refine wpAny_bind (wpAny_seqItems there rfl ?_)
    | refine wpAny_bind (wpAny_bind (wpAny_seqItems there rfl (wpAny_pure ?_)))
  dsimp only [Option.getD_some, Option.getD]
  refine wpAny_bind (wpAny_pure ?_)
  refine wpAny_bind (turns_idle _ (fun c hc Q hQ => ?_) _ ?_)
  · obtain ⟨v, hv⟩ := ev c (by simpa using hc)
    refine wpAny_bind (((exm_cls (M := M) X hv).1.keeps k).here ?_)
    simp only [Bool.not_true, Bool.false_eq_true, if_false]
    exact wpAny_pure hQ
  refine wpAny_bind ((LT.keeps k).here ?_)
  refine wpAny_bind (turns_hit (v := fun c => exmOne K cls c == some true) (d := (some true, ())) _ (fun c hc Q hQ => ?_) _ ?_)
  · obtain ⟨v, hv⟩ := ev c (by simpa using hc)
    refine wpAny_bind (((exm_cls (M := M) X hv).2.keeps k).here ?_)
    simp only [hv] at hQ
    cases v
    · simp only [Bool.false_eq_true, if_false]
      exact wpAny_pure hQ
    · simp only [if_true]
      exact wpAny_pure hQ
  rw [an]
  cases b
  · exact wpAny_pure q
  · exact wpAny_pure q
end Sm
set_option maxHeartbeats 1000000
namespace Sm
open PySem PySem.Spec PyProof.Rows PySem.W PySem.Calls Builtin.ObjectAttr
structure Bsx (B nw ni : String) (tl : List Value) : Prop where
  fb : ExcBaseFacts B nw ni tl
  ks : KxsFacts B ni
  st : StoreFacts B tl "object.__setattr__" "object"
theorem bsV : Bsx "ValueError" "ValueError.__new__" "ValueError.__init__" [.type "ValueError", .type "Exception", .type "BaseException", .type "object"] := ⟨F.excBase_ValueError, kxs_ValueError, F.store_ValueError⟩
structure XcCls (K : Frag) (C : Addr) (nw : String) (tl : List Value) : Prop where
  at_ : ∃ nm q N bs sn sub ab col dd k0 k1 k2 k3 k5, K.lookup C = some (excClassObj nm q C N bs tl true sn sub ab col dd k0 k1 k2 k3 k5 nw)
  sa : findIn K (.ref C) "__setattr__" = some (some (.builtin "object.__setattr__"))
  self_ : mroIn K C (.ref C) = some true
  exC : subIn K (.ref C) (.type "BaseException") = some true
  tyC : typeIn K (.ref C) = some (.type "type")
  kC : keepIn K (.ref C) = true
abbrev eo (C t : Addr) (d : Option Addr) : Obj := { cls := .ref C, dict := d, data := .fields #[.ref t, .none, .none, .none, .bool false, .none] }
section
variable {prog : Program} {w : World} {A : Around} {E : Value → Shared → Prop} {h : Heap} {g : Array GenState} {dr : Drawn} {tk : Nat} {os : OsState} {K : Frag} {C : Addr} {B nw ni : String} {tl : List Value}
theorem XcCls.cd (T : XcCls K C nw tl) : ∃ cd, clsIn K C = some cd ∧ cd.mro = .ref C :: tl ∧ cd.hasDict = true := by
  obtain ⟨nm, q, N, bs, sn, sub, ab, col, dd, k0, k1, k2, k3, k5, hC⟩ := T.at_
  exact ⟨_, by unfold clsIn; rw [hC] <;> rfl, rfl, rfl⟩
theorem mw_call (Y : Bsx B nw ni tl) (T : XcCls K C nw tl) (X : K.In h) {u e t0 : Addr} {rest : List Value} {Q : Value → Shared → Prop} (he : h.get? e = some (eo C t0 none)) (hu : h.get? u = some (kxs_mw ni e)) (hr : rest.length ≤ sizeLine)
    (hq : ∀ h' t1, (∀ b o, b ≠ e → h.get? b = some o → h'.get? b = some o) → h'.get? e = some (eo C t1 none) → Q .none ⟨h', g, dr, tk, os⟩) :
    wpAny (model prog w) A (call (.ref u) rest) Q E ⟨h, g, dr, tk, os⟩ := by
  obtain ⟨nm, q, N, bs, sn, sub, ab, col, dd, k0, k1, k2, k3, k5, hC⟩ := T.at_
  refine wpAny_call (codeAny_of_tree ?_)
  show wpAny _ A.in1 (callAny (.ref u) ⟨rest, []⟩) _ _ _
  simp only [callAny]
  refine wpAny_bind (wpAny_load hu ?_)
  have ty : (Value.type "method-wrapper" == Value.type "method" || Value.type "method-wrapper" == Value.type "builtin_function_or_method" || Value.type "method-wrapper" == Value.type "method-wrapper") = true := by decide
  simp only [kxs_mw, ty, if_true]
  refine KFB.if_so (by decide) (wpAny_bind (ESX.check_bound Y.fb (X _ _ hC) he rfl (wpAny_bind (wpAny_pure (wpAny_pure ?_)))))
  refine ⟨plainId_quiet Y.fb.init.plain _, codeAny_builtin Y.fb.initEntry ?_⟩
  exact exc_init_tree (cls := .ref C) (t0 := t0) (dv := none) (c2 := .none) (c3 := .none) (b4 := .bool false) he hr fun h' k e' _ => hq h' _ k e'
theorem fst_fld (Y : Bsx B nw ni tl) (T : XcCls K C nw tl) (X : K.In h) {x t0 : Addr} {f : Str} {v : Value} {Q : Unit → Shared → Prop} (hx : h.get? x = some (eo C t0 none)) (ha : findIn K (.ref C) f = some none)
    (hq : ∀ h' tk' dx, (∀ b o, b ≠ x → h.get? b = some o → h'.get? b = some o) → h.objs.size ≤ dx → dx ≠ x → h'.get? x = some (eo C t0 (some dx)) → h'.Ns1 dx (fun y => if y = f then some v else none) → Q () ⟨h', g, dr, tk', os⟩) :
    wpAny (model prog w) A (setAttr (.ref x) f v) Q E ⟨h, g, dr, tk, os⟩ := by
  obtain ⟨cd, hcd, hm, hh⟩ := T.cd
  have I : InstAt h x (eo C t0 none) C none := ⟨hx, rfl, rfl, trivial⟩
  have hxs : x ≠ h.objs.size := Nat.ne_of_lt (Heap.lt_size hx)
  refine set_plain X I T.sa ?_
  have ob : (Value.ref C :: tl).contains (.type "object") = true := by rw [List.contains_cons, Y.st.hasOwner, Bool.or_true]
  have mr : mroIn K C (.type "object") = some true := by
    unfold mroIn
    rw [hcd, Option.bind_some, hm, if_neg (show ¬ ((Value.ref C :: tl).isEmpty = true) from Bool.false_ne_true), ob]
  have sub : Looks (model prog w) h (isInstance (.ref x) (.type "object")) true := I.type.andThen (looks_mroIn X mr)
  have SO := F.store_object
  refine codeAny_call_builtin SO.slot.plain SO.entry (@check_slot (model prog w) _ _ ⟨h, g, dr, tk + 1, os⟩ "object.__setattr__" "object" "__setattr__" (.ref x) [.str f tk, v] [] _ SO.kind SO.split sub (SO.args (.ref x) (.str f tk) v) ?_)
  have hmr : Looks (model prog w) h (mroOf (.ref C)) cd.mro := (looks_clsIn X hcd).andThen .now
  have tkr : Looks (model prog w) h (storeTaker? none) none := .now
  have pass : refuseLoop (.ref x) "__setattr__" cd.mro = pure () := by
    rw [hm, refuseLoop_ref]
    exact Y.st.passes _
  rw [osa_eq, refuse_eq]
  refine wpAny_bind (wpAny_bind (I.type.at (wpAny_bind (hmr.at ?_))))
  rw [pass]
  refine wpAny_pure (wpAny_bind (I.type.at (wpAny_bind ((looks_findIn X ha).at (wpAny_bind (tkr.at ?_))))))
  have hcls : Looks (model prog w) h (classData C) cd := looks_clsIn X hcd
  show wpAny _ _ (Builtin.ObjectAttr.storeInOwnDict (.ref x) (.ref C) (.str f tk) f v false) _ _ _
  obtain ⟨nm, bs, mro, ns, qn, hd, sn, sb, ab, col, del⟩ := cd
  dsimp only at hh
  subst hh
  unfold Builtin.ObjectAttr.storeInOwnDict Builtin.ObjectAttr.ownDictForStores
  repeat (first | with_reducible refine HandSPX.store_in_new ?_ ?_ | with_reducible refine wpAny_loadPart_at hx ?_ | with_reducible refine hcls.at ?_ | wp_step)
  · exact ⟨_, #[], _, (Heap.get?_update_ne _ _ _ _ hxs.symm).trans (Heap.get?_push_at rfl rfl), rfl, fun e he => absurd he (by simp), fun _ => rfl⟩
  · intro h' tk' hn' hs
    have hx1 : (h.push { cls := .type "dict", data := .dict #[] }).get? x = some (eo C t0 none) := Heap.get?_push_of_some _ hx
    refine hq h' tk' h.objs.size (fun b o hb ho => ?_) (Nat.le_refl _) hxs.symm ?_ hn'
    · exact (hs.2 b (Nat.ne_of_lt (Heap.lt_size ho))).trans ((Heap.get?_update_ne _ _ _ _ hb).trans (Heap.get?_push_of_some _ ho))
    · exact (hs.2 x hxs).trans (Heap.get?_update_self _ hx1 rfl)
end
section
variable {prog : Program} {w : World} {A : Around} {h : Heap} {g : Array GenState} {dr : Drawn} {tk : Nat} {os : OsState} {K : Frag} {C fI : Addr} {B nw ni : String} {tl : List Value} {f : Str}
theorem mcall_eq {o : Expr} {name x : Str} {apos p3 pos : Pos} {env : PySem.Env} (hp : (apos.endLine == pos.line) = true) : eval (.Call (.Attribute o name apos) [.Name x p3] [] pos) env = (do
      let ov ← attributeBase o name env (eval o env)
      standAt apos.atName
      let (f, first) ← holding [ov] (getMethod ov name (do return (← importBound o env).getD true))
      callWith pos f first (backTo pos (starEach [.Name x p3] env)) []) := by
  show (do
      let ov ← attributeBase o name env (eval o env)
      standAt apos.atName
      methodCall o name apos pos env ov 1 (backTo pos (starEach [.Name x p3] env)) []) = _
  have e : ∀ ov, methodCall o name apos pos env ov 1 (backTo pos (starEach [.Name x p3] env)) [] = (do
      let (f, first) ← holding [ov] (getMethod ov name (do return (← importBound o env).getD true))
      callWith pos f first (backTo pos (starEach [.Name x p3] env)) []) := fun ov => by
    unfold methodCall methodCallPos
    simp only [hp, Bool.or_true, if_true, pure_bind]
    rfl
  simp only [e]
structure XcInit (prog : Program) (K : Frag) (C fI : Addr) (B ni : String) (tl : List Value) (f : Str) (q p : Str) (params : Arguments) (body : List Stmt) (scope : Scope) (cda cc : Addr) : Prop where
  fn : ∃ nm dV kV doc pm an ct oc od osl, K.lookup fI = some ⟨oc, od, .func (ksFn nm q params body scope dV kV doc pm an (.ref cda) ct cc), osl⟩ ∧ ∀ s a b, BindsTo s (ksFn nm q params body scope dV kV doc pm an (.ref cda) ct cc) ⟨[a, b], []⟩ [("self", a), (p, b)]
  code : codeIn K (.ref cda) q = true
  file : ∃ ccl cdd vs ccs fl tf, K.lookup cda = some ⟨ccl, cdd, .fields vs, ccs⟩ ∧ vs[2]? = some (.str fl tf) ∧ ((prog.main.file : Str) == fl) = true
  cell : ∃ cl cld csl, K.lookup cc = some ⟨cl, cld, .cell (some (.ref C)), csl⟩
  open_ : nsIn K cStatics "thirdparty.any" = some none
  body_ : ∃ p0 p1 p2 p3 p4 p5 p6 p7 p8 p9, body = [.Expr (.Call (.Attribute (.Call (.Name "super" p0) [] [] p1) "__init__" p2) [.Name p p3] [] p4) p5, .Assign [.Attribute (.Name "self" p6) f p7] (.Name p p8) p9] ∧ (p2.endLine == p4.line) = true
  head : ∃ ar, (params.posonlyargs ++ params.args).head? = some ar ∧ ar.arg = "self"
  top : (prog.main.scope.names.lookup ("super" : Str)).isSome = false
  kind : scope.kind = .function
  co : scope.isCoroutine = false
  gen : scope.isGenerator = false
  noc : ∀ x ∈ scope.names, x.2 ≠ .cell
  kself : scope.names.lookup ("self" : Str) = some .local
  kp : scope.names.lookup p = some .local
  ksup : scope.names.lookup ("super" : Str) = some .globalImplicit
  kcls : scope.names.lookup ("__class__" : Str) = some .free
  ne : (p == ("self" : Str)) = false
  nd : (p == ("__debug__" : Str)) = false
  along : alongIn K "__init__" tl = some (some (.builtin ni))
  sub : subIn K (.ref C) (.type B) = some true
  none_ : findIn K (.ref C) f = some none
theorem init_run {q p : Str} {params : Arguments} {body : List Stmt} {scope : Scope} {cda cc : Addr} {mg mb : Str → Option Value} {e t0 : Addr} {v : Value} {R : Result → Shared → Prop} (Y : Bsx B nw ni tl) (T : XcCls K C nw tl) (J : XcInit prog K C fI B ni tl f q p params body scope cda cc)
    (X : K.In h) (lim : h.NoLimit) (room : A.depth < recursionLimit) (Gn : h.Ns mainGlobals mg) (Bn : h.Ns builtinsNs mb) (ms : mg "super" = none) (mbs : mb "super" = some (.type "super")) (he : h.get? e = some (eo C t0 none)) (hKe : ∀ o, K.lookup e ≠ some o)
    (hq : ∀ h' tk' t1 dx, (∀ b o, b ≠ e → h.get? b = some o → h'.get? b = some o) → h.objs.size ≤ dx → dx ≠ e → h'.get? e = some (eo C t1 (some dx)) → h'.Ns1 dx (fun y => if y = f then some v else none) → R (.ok (.ret .none)) ⟨h', g, dr, tk', os⟩) :
    codeAny (model prog w) A (.call (.ref fI) ⟨[.ref e, v], []⟩) R ⟨h, g, dr, tk, os⟩ := by
  obtain ⟨nm, dV, kV, doc, pm, an, ct, oc, od, osl, lk, hb⟩ := J.fn
  obtain ⟨ccl, cdd, vs, ccs, fl, tf, lc, hvs, hfile⟩ := J.file
  obtain ⟨cl, cld, csl, lcc⟩ := J.cell
  obtain ⟨p0, p1, p2, p3, p4, p5, p6, p7, p8, p9, rfl, hps⟩ := J.body_
  obtain ⟨ar, hhead, har⟩ := J.head
  obtain ⟨nmC, qC, N, bs, sn, sub, ab, col, dd, k0, k1, k2, k3, k5, hC⟩ := T.at_
  obtain ⟨cd, hcd, hm, _⟩ := T.cd
  refine ks_codeAny_call_defAt (fd := ksFn nm q params _ scope dV kV doc pm an (.ref cda) ct cc) (binds := [("self", .ref e), (p, v)]) room (X _ _ lk) rfl lim (codeRec_of X J.code) rfl (hb _ _ _) J.noc (fun x hx => ?_) (fun h1 hns kp1 => ?_) J.co J.gen J.kind
  · rcases List.mem_cons.mp hx with rfl | hx
    · exact J.kself
    · rcases List.mem_cons.mp hx with rfl | hx
      · exact J.kp
      · exact absurd hx List.not_mem_nil
  have mself : ([("self", Value.ref e), (p, v)] : List (Str × Value)).reverse.lookup ("self" : Str) = some (.ref e) := by
    have z : (("self" : Str) == p) = false := by
      have := J.ne
      simp only [beq_eq_false_iff_ne, ne_eq] at this ⊢
      exact fun y => this y.symm
    simp [List.lookup, z]
  have mp : ([("self", Value.ref e), (p, v)] : List (Str × Value)).reverse.lookup p = some v := by simp [List.lookup]
  have X1 := X.keeps kp1
  have he1 := kp1 _ _ he
  have hL : h.objs.size ≠ e := Nat.ne_of_gt (Heap.lt_size he)
  have hni : ∀ L, interactive (callEnv (ksFn nm q params [.Expr (.Call (.Attribute (.Call (.Name "super" p0) [] [] p1) "__init__" p2) [.Name p p3] [] p4) p5, .Assign [.Attribute (.Name "self" p6) f p7] (.Name p p8) p9] scope dV kV doc pm an (.ref cda) ct cc) L fI) = false := fun L => by
    show (scope.kind == .module && _) = false
    rw [J.kind]
    rfl
  refine ks_wpAt_execs_cons (ks_wpAt_Expr_any (hi := hni _) (ks_wpAt_MethodCall (he := mcall_eq hps) (ks_wpAt_super_base (env := ksEnv q scope h.objs.size fI (.ref cda) cc) J.ksup J.kcls (by decide) rfl (X1 _ _ lk) rfl hhead rfl (X1 _ _ lc) rfl hvs hfile J.top ?_)))
  refine ks_loadName_global J.kind J.ksup (loadGlobal_builtin (env := ksEnv q scope h.objs.size fI (.ref cda) cc) (Gn.keeps kp1) ms (Bn.keeps kp1) mbs ⟨rfl, ?_⟩)
  refine wpAny_loadName_free J.kind J.kcls rfl ⟨_, X1 _ _ lcc, rfl⟩ ?_
  rw [har]
  refine wpAny_loadName_local J.kind J.kself hns mself ?_
  refine ks_wpAny_isType_cls (X1 _ _ hC) rfl ⟨rfl, ?_⟩
  refine ks_wpAny_call_super (X1 _ _ hC) rfl he1 rfl (fun c z => by cases z) (looks_mroIn X1 T.self_) (fun h2 hso kp2 => ?_)
  have X2 := X1.keeps kp2
  have he2 := kp2 _ _ he1
  have I2 : InstAt h2 e (eo C t0 none) C none := ⟨he2, rfl, rfl, trivial⟩
  have mro2 : Looks (model prog w) h2 (mroOf (.ref C)) (.ref C :: tl) := by
    rw [← hm]
    exact (looks_clsIn X2 hcd).andThen .now
  refine kxs_getMethod Y.ks hso (looks_opaque X2 J.open_) mro2 (l := tl) (ESX.drop_own C tl) X2 J.along (I2.type.andThen (looks_subIn X2 J.sub)) (ks_ne X2 I2 hcd) (by decide) ?_
  have hns2 := hns.keeps kp2
  have kp3 : ∀ b o, h2.get? b = some o → (h2.push (kxs_mw ni e)).get? b = some o := fun b o z => Heap.get?_push_of_some _ z
  have hns3 := hns2.keeps kp3
  have X3 := X2.keeps kp3
  refine kxs_callWith (i := ni) (x := e) rfl (evalArgs_plain (spliced_cons (wpAny_Name (wpAny_loadName_local J.kind J.kp hns3 mp (spliced_nil ⟨Heap.get?_push_size _ rfl, ?_⟩)) J.nd)))
  refine mw_call Y T X3 (kp3 _ _ he2) (Heap.get?_push_size _ rfl) (by rw [sizeLine_eq]; simp) fun h4 t1 kp4 he4 => ?_
  have neL : ∀ b, b ≠ e → ∀ o, h1.get? b = some o → h4.get? b = some o := fun b hb o z => kp4 b o hb (kp3 b o (kp2 b o z))
  have hns4 : h4.Ns h.objs.size (fun x => ([("self", Value.ref e), (p, v)] : List (Str × Value)).reverse.lookup x) := by
    obtain ⟨o, es, ep, ho, r⟩ := hns
    exact ⟨o, es, ep, neL _ hL o ho, r⟩
  have X4 : K.In h4 := fun b o z => neL b (fun y => hKe o (y ▸ z)) o (X1 _ _ z)
  refine ks_wpAt_execs_cons (ks_wpAt_Assign_Attr ?_)
  refine wpAt_of_wpAny (wpAny_Name (env := ksEnv q scope h.objs.size fI (.ref cda) cc) ?_ J.nd)
  refine wpAny_loadName_local (m := fun x => ([("self", Value.ref e), (p, v)] : List (Str × Value)).reverse.lookup x) J.kind J.kp hns4 mp ?_
  refine wpAny_Name (env := ksEnv q scope h.objs.size fI (.ref cda) cc) ?_ (by decide)
  refine wpAny_loadName_local (m := fun x => ([("self", Value.ref e), (p, v)] : List (Str × Value)).reverse.lookup x) J.kind J.kself hns4 mself ?_
  refine fst_fld Y T X4 he4 J.none_ fun h5 tk5 dx kp5 hdx ndx he5 hn5 => ?_
  refine wpAt_of_wpAny (wpAny_execs_nil ?_)
  refine hq h5 tk5 t1 dx (fun b o hb z => kp5 b o hb (neL b hb o (kp1 b o z))) ?_ ndx he5 hn5
  exact Nat.le_trans (Nat.le_of_lt (Heap.lt_size (neL _ hL _ (hns.choose_spec.choose_spec.choose_spec.1)))) hdx
end
end Sm
set_option maxHeartbeats 1000000
namespace Sm
open PySem PySem.Spec PyProof.Rows L2
theorem boot_super : bootBuiltins ("super" : Str) = some (.type "super") := by kernel_rfl
def tXmk (C : Addr) (f : Str) (ta : TA) : L2.St → Hp → XK → Prop := fun σ H Q => ta σ H fun vs H1 => ∃ v, vs = [v] ∧ ∀ dx, H1 dx = none → Q (.ref C) (some dx) (upd H1 dx (.xd [(f, v)]))
theorem pmk_x {X : Cx} {e : Expr} {x : Str} {p pos : Pos} {ta : TA} {k : Nat} {C fI cda cc : Addr} {B nw ni : String} {tl : List Value} {f q pr : Str} {params : Arguments} {body : List Stmt} {scope : Scope} (Y : Bsx B nw ni tl) (T : XcCls X.K C nw tl) (J : XcInit X.prog X.K C fI B ni tl f q pr params body scope cda cc)
    (iC : PySem.W.findIn X.K (.ref C) "__init__" = some (some (.ref fI))) (tI : PySem.W.typeIn X.K (.ref fI) = some (.type "function")) (ms : X.mg "super" = none) (hr : Room (k + 1) X.A) (hg : Gl X x) (hm : X.mg x = some (.ref C)) (ha : PA X [e] ta) (hdb : (x == ("__debug__" : Str)) = false := by decide)
    (he : starEach [e] X.env = (false, eval e X.env) :: starEach [] X.env := by rfl) : PMk X (.Call (.Name x p) [e] [] pos) (tXmk C f ta) := by
  intro pins s σ H Q I h
  obtain ⟨nm, q', N, bs, sn, sub, ab, col, dd, k0, k1, k2, k3, k5, hC⟩ := T.at_
  refine wpAny_Call_Name_kw (ld_glob I hg hm ?_ hdb)
  refine PySem.W.callWith_K (h₀ := X.base) I.ok.mod.kin T.kC (thn (ha.run pos pins s σ H _ I h) fun us s1 ⟨vs, H1, I1, r1, v, ev, q1⟩ => ⟨I1.kIn, ?_⟩) he rfl
  subst ev
  cases r1 with
  | @cons _ u _ ur ru rr =>
    cases rr
    show wpAny _ _ (call (.ref C) [u]) _ _ _
    obtain ⟨hp, g, dr, tk, os⟩ := s1
    have kk : ∀ b o, hp.get? b = some o → ((hp.push (PySem.W.kdv_tup [u])).push (PySem.HandSPX.excO C hp.objs.size)).get? b = some o := fun b o z => Heap.get?_push_of_some _ (Heap.get?_push_of_some _ z)
    have ge : ((hp.push (PySem.W.kdv_tup [u])).push (PySem.HandSPX.excO C hp.objs.size)).get? (hp.objs.size + 1) = some (eo C hp.objs.size none) := by heap_get
    obtain ⟨mb, hb1, hb2⟩ := I1.mod.blt
    have kb : ∀ b o, X.base.get? b = some o → ((hp.push (PySem.W.kdv_tup [u])).push (PySem.HandSPX.excO C hp.objs.size)).get? b = some o := fun b o z => kk b o (I1.bk b o z)
    have nK : ∀ o, X.K.lookup (hp.objs.size + 1) ≠ some o := fun o z => by
      have := Heap.lt_size (I1.kIn _ _ z)
      exact absurd (show hp.objs.size + 1 < hp.objs.size from this) (by omega)
    refine wpAny_call (PySem.HandSPX.call_own Y.fb (fun _ => rfl) (I1.kIn _ _ hC) (PySem.W.looks_findIn I1.kIn iC) (fun self => PySem.W.bind_fn I1.kIn self tI) (by rw [sizeLine_eq]; simp)
      (init_run Y T J (I1.kIn.keeps kk) (I1.nolimit.keeps kk) (hr.make C [u] []).depth (I1.mod.glob.keeps kb) (hb1.keeps kb) ms ((hb2 "super" (by decide)).trans boot_super) ge nK fun h' tk' t1 dx kp hdx ndx he' hn' => ⟨rfl, ?_⟩))
    have hd0 : hp.objs.size + 2 ≤ dx := by
      have e2 : ((hp.push (PySem.W.kdv_tup [u])).push (PySem.HandSPX.excO C hp.objs.size)).objs.size = hp.objs.size + 2 := by rw [Heap.size_push, Heap.size_push]
      rw [e2] at hdx
      exact hdx
    obtain ⟨G, g1, g2⟩ := restrict h' fun b => decide (b ≠ hp.objs.size + 1)
    have gk : ∀ b, b ≠ hp.objs.size + 1 → G.get? b = h'.get? b := fun b hb => g1 b (decide_eq_true hb)
    have gn : G.get? (hp.objs.size + 1) = none := g2 _ (by simp)
    have lt : ∀ {b : Addr} {o : Obj}, hp.get? b = some o → b ≠ hp.objs.size + 1 := fun {b o} z => by
      have h0 : b < hp.objs.size := Heap.lt_size z
      exact Nat.ne_of_lt (show b < hp.objs.size + 1 from Nat.lt_succ_of_lt h0)
    have hd1 : H1 dx = none := I1.hok.fresh (show hp.objs.size ≤ dx by omega)
    have ha1 : H1 (hp.objs.size + 1) = none := I1.hok.fresh (show hp.objs.size ≤ hp.objs.size + 1 by omega)
    have ok : ObjOk X.prog X.w (upd H1 dx (.xd [(f, v)])) G dx (.xd [(f, v)]) := by
      refine ⟨_, hn'.at fun o y => (gk dx ndx).trans y, fun z => relO_put (fs := []) (mA := fun _ => none) ru (fun _ => True.intro) z⟩
    have I2 : Inv X pins σ (upd H1 dx (.xd [(f, v)])) ⟨G, g, dr, tk', os⟩ := I1.laid (t' := tk') (a := dx) (o := .xd [(f, v)]) (h' := G) (fun b o z => (gk b (lt z)).trans (kp b o (lt z) (kk b o z))) (show hp.objs.size ≤ dx by omega) ok
    refine ⟨hp.objs.size + 1, _, _, ⟨G, g, dr, tk', os⟩, _, .ref C, some dx, rfl, I2, fun b o z => ?_, gn, he', ⟨rfl, rfl⟩, rfl, rfl, ?_, rfl, I2.bare, raises_own T.exC T.tyC, q1 dx hd1⟩
    · have z' : G.get? b = some o := z
      by_cases hb : b = hp.objs.size + 1
      · rw [hb, gn] at z'
        cases z'
      · exact (gk b hb).symm.trans z'
    · rw [upd_ne (Ne.symm ndx)]
      exact ha1
def sRaise (c : Nat) (m : M Dv) : SM := fun ρ S => (m ρ S).to ρ fun d S1 => match d with
  | .d t => .er c t ρ S1
  | .loc _ => .bad
structure Rsx (P : Program) (G : Gs) (mg : Str → Option Value) (x : Str) (c : Nat) : Prop where
  cl : ∃ C B nw ni tl f fI q pr params body scope cda cc, G.exc c = .ref C ∧ G.fld c = some f ∧ Bsx B nw ni tl ∧ XcCls G.K C nw tl ∧ XcInit P G.K C fI B ni tl f q pr params body scope cda cc ∧
    PySem.W.findIn G.K (.ref C) "__init__" = some (some (.ref fI)) ∧ PySem.W.typeIn G.K (.ref fI) = some (.type "function") ∧ mg x = some (.ref C)
  ms : mg "super" = none
theorem ps_raiseX {X : Cx} {G : Gs} {W : WX} {k c : Nat} {e : Expr} {x : Str} {p pos pos' : Pos} {m : M Dv} (B : Bx X G W (k + 1)) (Z : Rsx X.prog G X.mg x c) (hg : Gl X x) (he : PE X e (tM G W m)) (hdb : (x == ("__debug__" : Str)) = false := by decide)
    (hs : starEach [e] X.env = (false, eval e X.env) :: starEach [] X.env := by rfl) : PS X (.Raise (some (.Call (.Name x p) [e] [] pos)) none pos') (tMS G W (sRaise c m)) := by
  obtain ⟨⟨C, Bn, nw, ni, tl, f, fI, q, pr, params, body, scope, cda, cc, eC, ef, Y, T, J, iC, tI, hm⟩, ms⟩ := Z
  rw [B.hK] at T J iC tI
  have ha : PA X [e] (tMA G W (aCons m aNil)) := a_cons he a_nil hs
  refine (ps_raise B.calm B.tk (pmk_x Y T J iC tI ms B.room hg hm ha hdb hs)).sm fun D σ H h => ?_
  obtain ⟨A, ρ, S, er, sr, h⟩ := h
  refine ⟨A, ρ, S, er, sr, ?_⟩
  unfold sRaise at h
  show Po G (Wa W σ) A H ((m ρ S).bind fun x S1 => Rz.bind (.ok [] S1) fun xs S2 => .ok (x :: xs) S2) _
  cases em : m ρ S with
  | bad => rw [em] at h; exact h.elim
  | er c' t S1 =>
    rw [em] at h
    exact fun A' H' cls d y s z => h A' H' σ cls d y s (er.kp y.kp) z
  | ok d S1 =>
    rw [em] at h
    cases d with
    | loc n => exact h.elim
    | d t =>
      intro A1 H1 y1 s1 vs rv
      cases rv with
      | @cons _ v _ vr r1 r2 =>
        cases r2
        refine ⟨v, rfl, fun dx hd => ?_⟩
        have y2 : Ext A1 H1 A1 (upd H1 dx (.xd [(f, v)])) := Ext.new hd
        refine h A1 _ σ _ _ (y1.trans y2) (s1.new hd) (er.kp (y1.trans y2).kp) ⟨eC.symm, .inr ⟨dx, f, v, ef, rfl, s1.out hd, upd_same, RV.kp r1 y2.kp⟩⟩
end Sm
set_option maxHeartbeats 1000000
namespace Sm
open PySem PySem.Spec PyProof.Rows L2
inductive NmL (X : Cx) : List Expr → List Value → Prop
  | nil : NmL X [] []
  | cons {x : Str} {c : Value} {p : Pos} {es : List Expr} {cs : List Value} : Names X x c → NmL X es cs → NmL X (.Name x p :: es) (c :: cs)
section
variable {X : Cx} {pins : List (Addr × Obj)} {σ : L2.St} {H : Hp} {s : Shared}
theorem hush (I : Inv X pins σ H s) (a : Addr) : Inv (X.suite a (X.pn ++ pins)) [] σ H s :=
  ⟨I.ok.suite a (X.pn ++ pins), I.os, I.bare, I.base, I.loc, I.cell, I.free, I.freeC, fun p hp => I.pin p (by simpa using hp), I.hok, I.len⟩
theorem loud {a : Addr} (I : Inv (X.suite a (X.pn ++ pins)) [] σ H s) (ok : X.Ok) : Inv X pins σ H s :=
  ⟨ok, I.os, I.bare, I.base, I.loc, I.cell, I.free, I.freeC, fun p hp => I.pin p (by simpa using hp), I.hok, I.len⟩
theorem nml_len {es : List Expr} {cs : List Value} (h : NmL X es cs) : cs.length = es.length := by
  induction h with
  | nil => rfl
  | cons _ _ ih => rw [List.length_cons, List.length_cons, ih]
theorem nml_run {E : Value → Shared → Prop} {a : Addr} {pos : Pos} {es : List Expr} {cs : List Value} (n : NmL X es cs) (I : Inv (X.suite a (X.pn ++ pins)) [] σ H s) : ∀ {Q : List Value → Shared → Prop}, Q cs s →
    wpAny (model X.prog X.w) (X.A.mark (some (.ref a))) (spliced (backTo pos (starEach es X.env))) Q E s := by
  induction n with
  | nil => exact fun q => Calls.spliced_nil q
  | @cons x c p es cs hx _ ih =>
    intro Q q
    show wpAny _ _ (spliced ((false, eval (.Name x p) X.env) :: backTo pos (starEach es X.env))) _ _ _
    refine Calls.spliced_cons ?_
    have nx : wpAny (model X.prog X.w) (X.A.mark (some (.ref a))) (spliced (backTo pos (starEach es X.env))) (fun vs s2 => Q (c :: vs) s2) E s := ih q
    obtain ⟨hg, hd, hm | ⟨hm, hv, hn⟩⟩ := hx
    · exact ld_glob (X := X.suite a (X.pn ++ pins)) I hg hm nx hd
    · exact ld_blt (X := X.suite a (X.pn ++ pins)) I hg hm hv nx hn hd
theorem flies_on {B h h' : Heap} {l : List PySem.Env} {a : Addr} {Z : Obj → Prop} (f : HandSPX.FlyingZ B l a Z h) (k : ∀ b o, h.get? b = some o → h'.get? b = some o) : HandSPX.FlyingZ B l a Z h' := by
  obtain ⟨f1, f2, f3, oe, vs, T, oT, ts, e1, e2, e3, e4, e5, e6, e7, e8, e9⟩ := f
  exact ⟨fun b o z => k b o (f1 b o z), f2, Heap.FunFrames.of_keeps (fun b o z _ => ⟨o, k b o z, rfl⟩) f3, oe, vs, T, oT, ts, k _ _ e1, e2, e3, e4, e5, e6, k _ _ e7, e8, e9⟩
theorem track {B : Heap} {sI s' : Shared} {a d : Addr} {cls : Value} (I : Inv X pins σ H sI) (nb : ∀ b o, sI.heap.get? b = some o → b ∉ frs X.stack → B.get? b = some o) (fl : HandSPX.FlyingZ B X.stack a (Zc cls (some d)) s'.heap) (up : sI.heap.UpToSlots s'.heap)
    (na : H a = none) (os : s'.os = sI.os) (ag : AllBare s'.gens) : Inv X pins σ (upd H a (XoH a cls d)) s' := by
  obtain ⟨f1, f2, f3, f4⟩ := id fl
  obtain ⟨oe, vs, T, oT, ts, e1, e2, e3, _⟩ := f4
  obtain ⟨G, g1, g2⟩ := restrict s'.heap fun b => decide (b ≠ a)
  have gk : ∀ b, b ≠ a → G.get? b = s'.heap.get? b := fun b hb => g1 b (decide_eq_true hb)
  have gn : G.get? a = none := g2 a (by simp)
  have J : Inv X pins σ H { s' with heap := G } := by
    refine I.landed nb (s' := { s' with heap := G }) (fun b o z => ?_) (fun b o z nf => ?_) os ag
    · refine (gk b fun y => ?_).trans (f1 b o z)
      rw [y, f2] at z
      cases z
    · obtain ⟨sl, z2⟩ := up b o z nf
      refine ⟨sl, (gk b fun y => ?_).trans z2⟩
      rw [y, e1] at z2
      have z3 := Option.some.inj z2
      exact nf vs (by rw [z3] at e3; exact e3)
  have ok : ObjOk X.prog X.w (upd H a (XoH a cls d)) s'.heap a (XoH a cls d) := by
    refine ⟨⟨oe, vs, e1, e2.1, e2.2, e3⟩, ⟨oe, e1⟩, fun h1 h2 z k => ?_⟩
    obtain ⟨o, w, z1, z2⟩ := z
    exact ⟨o, w, k o z1, z2⟩
  obtain ⟨hp, g, dr, tk, os'⟩ := s'
  refine J.laidN (t' := tk) (h' := hp) (fun b o z => ?_) gn na ok
  have z' : G.get? b = some o := z
  by_cases hb : b = a
  · rw [hb, gn] at z'
    cases z'
  · exact (gk b hb).symm.trans z'
end
def wT (K : PySem.W.Frag) (cs : List Value) (i j : Nat) (W : WX) (D : Ends) : WX := fun cls d σ H => ∃ b, PySem.W.exmAny K cls cs = some b ∧
  (b = true → ∃ dd, d = some dd ∧ ∀ a, H a = none → D.nx (((σ.set i (some (.ref a))).set j (some (.ref a))).set i none) (upd H a (XoH a cls dd))) ∧ (b = false → W cls d σ H)
section
variable {X : Cx} {es : List Expr} {cs : List Value} {n v : Str} {i j kx : Nat} {body : List Stmt} {np pos pos' p1 p2 p3 : Pos} {tb : WX → TS} {W : WX}
theorem ps_tryH (hs : X.stack = X.env :: X.outer) (hf : X.env.frame = some X.env.locals) (hN : X.N.Nodup) (hi : X.N[i]? = some n) (hln : X.env.kindOf n = some .local) (hj : X.N[j]? = some v) (hlv : X.env.kindOf v = some .local) (nn : (n == ("__debug__" : Str)) = false) (ncd : (n == ("__classdict__" : Str)) = false)
    (hsw : swapsWith (.Name n p2) (some (.Name v p1)) p3.line X.env = pure false) (hi' : i < X.N.length) (hle : es.length ≤ 1000) (nm : NmL X es cs) (tk : Takes X W)
    (hb : ∀ (W' : WX) (pn : List (Addr × Obj)) (xe : Value → Shared → Prop), Takes (X.tr pn xe) W' → PassesOwn (model X.prog X.w) X.A X.env xe → PSs (X.tr pn xe) body (tb W')) :
    PS X (.Try body [.ExceptHandler (some (.Tuple es kx np)) (some n) [.Assign [.Name v p1] (.Name n p2) p3] pos'] [] [] pos) (fun D σ H => tb (wT X.K cs i j W D) D σ H) := by
  refine ⟨fun pins s σ H D I h => ?_⟩
  have ok := I.ok
  have fr : X.A.frames = some (X.env :: X.outer) := by rw [ok.frames, hs]
  refine wpAny_Try_except (wpAny_mono ((hb (wT X.K cs i j W D) (X.pn ++ pins) _ (fun u s' xx => ?_) PassesOwn.looking).run [] s σ H D (I.toTry _) h) (fun f s1 hsp => ?_) fun e s1 he => he)
  · obtain ⟨a, B, sI, pins', σ', H', cls, d, rfl, J', nb, up, sky, na, os, ag, b, hb1, yes, no⟩ := xx
    have J : Inv X pins σ' H' sI := J'.ofTry ok
    have sky2 : Sky B (X.env :: X.outer) a (Zc cls d) X.env.locals s'.heap := hs ▸ sky
    show wpAny (model X.prog X.w) X.A (noteFrame (.ref a) X.env) _ _ _
    refine Sky.land Zc.steady fr hf sky2 fun h3 fl3 up3 => ?_
    have J3 : Inv X pins σ' H' { s' with heap := h3 } := J.landed nb fl3.1 (up.trans up3) os ag
    have S3 := hush J3 a
    obtain ⟨oe3, vs3, he3, hz3, hd3⟩ := fl3.there
    refine wpAny_handleBy_cons (codeAny_handlers_test ?_) (by intro z; cases z)
    refine wpAny_Tuple (nml_run nm S3 ⟨?_, ?_⟩)
    · rw [nml_len nm, sizeLine_eq]
      exact Nat.le_trans hle (by decide)
    have kt : ∀ b o, h3.get? b = some o → (h3.push { cls := .type "tuple", data := .seq cs.toArray }).get? b = some o := fun b o z => Heap.get?_push_of_some _ z
    have fl4 := flies_on fl3 kt
    have up4 : sI.heap.UpToSlots (h3.push { cls := .type "tuple", data := .seq cs.toArray }) := (up.trans up3).trans (Heap.UpToSlots.of_keeps kt)
    have LT : PySem.W.Looks (model X.prog X.w) (h3.push { cls := .type "tuple", data := .seq cs.toArray }) (typeOf (.ref a)) cls := fun A Q E s k q => wpAny_typeOf_ref (k _ _ (kt _ _ he3)) (by rw [hz3.1]; exact q)
    refine (exm_all (M := model X.prog X.w) (J3.kIn.keeps kt) LT (Heap.get?_push_size h3 rfl) hb1).here ?_
    cases b with
    | true =>
      obtain ⟨dd, rfl, yes2⟩ := yes rfl
      refine codeAny_handlers_suite_as ?_
      refine HandSPX.lands_againZ fl4 fun h5 fl5 up5 => ?_
      have I5 : Inv X pins σ' (upd H' a (XoH a cls dd)) { s' with heap := h5 } := track J nb (by rw [hs]; exact fl5) (up4.trans up5) na os ag
      refine store_ok (X := X.suite a (X.pn ++ pins)) (v := .ref a) (hush I5 a) hN hi (.inl hln) rfl (fun s6 S6 => ?_) (.inr hln)
      have li : i < (σ'.set i (some (V.ref a))).length := by
        rw [S6.len]
        exact hi'
      have pa : PSs (X.suite a (X.pn ++ pins)) [.Assign [.Name v p1] (.Name n p2) p3] _ := pss_one (ps_set hN hj (.inl hlv) (pe_var hi (.inl hln) nn ncd) hsw (.inr hlv))
      refine wpAny_mono (pa.run [] s6 _ _ { nx := fun σ2 H2 => D.nx (σ2.set i none) H2, rt := fun _ _ => False } S6 ⟨.ref a, by rw [List.getElem?_set_self (by simpa using li)], yes2 a na⟩) (fun f s7 hsp => ?_) fun _ _ z => z.elim
      cases f with
      | next =>
        obtain ⟨σ7, H7, S7, q7⟩ := hsp
        exact gone_ok (loud S7 ok) hN hi hln fun s8 J8 => ⟨_, _, J8, q7⟩
      | brk => obtain ⟨_, _, _, z⟩ := hsp; exact z.elim
      | cont => obtain ⟨_, _, _, z⟩ := hsp; exact z.elim
      | ret u => obtain ⟨_, _, _, _, _, z⟩ := hsp; exact z.elim
    | false =>
      refine wpAny_handleBy_nil ?_
      obtain ⟨k1, k2, k3, oe, vs, T, oT, ts', he, hz, hd, h1, hr⟩ := id fl4
      unfold PySem.passOn
      refine wpAny_bind (wpAny_field he hd h1 ?_)
      rw [if_neg (show ¬ ((Value.ref T == Value.none) = true) from by simp)]
      have fin : wpAny (model X.prog X.w) X.A (setFlight (.ref a) X.env.frame) (fun _ s5 => wpAny (model X.prog X.w) X.A (throw (.ref a) : Sem Flow) (SP X pins D) X.xe s5) X.xe { s' with heap := h3.push { cls := .type "tuple", data := .seq cs.toArray } } := by
        rw [hf]
        refine HandSPX.setFlight_upZ fl4 fun h5 hh5 up5 => wpAny_throw (tk _ _ ⟨a, B, sI, pins, σ', H', cls, d, rfl, J, nb, up4.trans up5, .inr (.inr ?_), na, os, ag, no rfl⟩)
        rw [hs]
        exact hh5
      first
        | exact wpAny_bind (wpAny_pure (wpAny_bind fin))
        | exact wpAny_bind fin
  · cases f with
    | next => obtain ⟨σ', H', J', q⟩ := hsp; exact wpAny_execs_nil ⟨σ', H', J'.ofTry ok, q⟩
    | brk => obtain ⟨σ', H', J', q⟩ := hsp; exact ⟨σ', H', J'.ofTry ok, q⟩
    | cont => obtain ⟨σ', H', J', q⟩ := hsp; exact ⟨σ', H', J'.ofTry ok, q⟩
    | ret u => obtain ⟨v, σ', H', J', r, q⟩ := hsp; exact ⟨v, σ', H', J'.ofTry ok, r, q⟩
end
end Sm
set_option maxHeartbeats 1000000
namespace Sm
open PySem PySem.Spec PyProof.Rows L2
structure Exk (G : Gs) (c : Nat) (f : Str) : Prop where
  cl : ∃ D, G.exc c = .ref D ∧ ExcC G.K D ∧ PySem.W.findIn G.K (.ref D) f = some none
  fl : G.fld c = some f
def sTry (hit : Nat → Option Bool) (i j : Nat) (mb : SM) : SM := fun ρ S => match mb ρ S with
  | .er c t ρ1 S1 => (match hit c with
    | some true => .nx ((ρ1.set j (some (.d (.exc c [t])))).set i none) S1
    | some false => .er c t ρ1 S1
    | none => .bad)
  | r => r
section
variable {X : Cx} {G : Gs} {W : WX} {k : Nat} {es : List Expr} {cs : List Value} {n v : Str} {i j kx : Nat} {body : List Stmt} {np pos pos' p1 p2 p3 : Pos} {mb : SM} {hit : Nat → Option Bool}
theorem s_try (B : Bx X G W k) (hs : X.stack = X.env :: X.outer) (hf : X.env.frame = some X.env.locals) (hi : X.N[i]? = some n) (hln : X.env.kindOf n = some .local) (hj : X.N[j]? = some v) (hlv : X.env.kindOf v = some .local)
    (nm : NmL X es cs) (hle : es.length ≤ 1000) (hh : ∀ c b, hit c = some b → PySem.W.exmAny G.K (G.exc c) cs = some b) (hfl : ∀ c, hit c = some true → ∃ f, G.fld c = some f)
    (hb : ∀ (W' : WX) (pn : List (Addr × Obj)) (xe : Value → Shared → Prop), Bx (X.tr pn xe) G W' k → PassesOwn (model X.prog X.w) X.A X.env xe → PSs (X.tr pn xe) body (tMS G W' mb))
    (nn : (n == ("__debug__" : Str)) = false := by decide) (ncd : (n == ("__classdict__" : Str)) = false := by decide) (hsw : swapsWith (.Name n p2) (some (.Name v p1)) p3.line X.env = pure false := by rfl) :
    PS X (.Try body [.ExceptHandler (some (.Tuple es kx np)) (some n) [.Assign [.Name v p1] (.Name n p2) p3] pos'] [] [] pos) (tMS G W (sTry hit i j mb)) := by
  have hi' : i < X.N.length := (List.getElem?_eq_some_iff.mp hi).1
  refine (ps_tryH hs hf B.nd hi hln hj hlv nn ncd hsw hi' hle nm B.tk fun W' pn xe tk hp => hb W' pn xe ⟨B.calm, B.nd, tk, B.hK, B.room⟩ hp).sm fun D σ H h => ?_
  obtain ⟨A, ρ, S, er, sr, h⟩ := h
  refine ⟨A, ρ, S, er, sr, ?_⟩
  unfold sTry at h
  cases em : mb ρ S with
  | nx ρ1 S1 => rw [em] at h; exact h
  | rt d S1 => rw [em] at h; exact h
  | bk ρ1 S1 => rw [em] at h; exact h
  | ct ρ1 S1 => rw [em] at h; exact h
  | bad => rw [em] at h; exact h
  | er c t ρ1 S1 =>
    rw [em] at h
    intro A1 H1 σ1 cls d y1 s1 e1 z1
    dsimp only at h
    cases eh : hit c with
    | none => rw [eh] at h; exact h.elim
    | some b =>
      rw [eh] at h
      refine ⟨b, by rw [z1.1, ← B.hK]; exact hh c b eh, fun hb => ?_, fun hb => ?_⟩
      · subst hb
        obtain ⟨f0, ef0⟩ := hfl c eh
        rcases z1.2 with ⟨z, _⟩ | ⟨dd, f, u, ef, ed, nd, hd, rt⟩
        · rw [ef0] at z
          cases z
        · refine ⟨dd, ed, fun a na => ?_⟩
          have y2 : Ext A1 H1 A1 (upd H1 a (XoH a cls dd)) := Ext.new na
          have nad : dd ≠ a := fun z => by
            rw [← z, hd] at na
            cases na
          have rv : RD G A1 (upd H1 a (XoH a cls dd)) (.d (.exc c [t])) (.ref a) := ⟨a, dd, f, u, rfl, s1.out na, nd, by rw [upd_same, z1.1], by rw [upd_ne nad]; exact hd, ef, u, [], rfl, RV.kp rt y2.kp, rfl⟩
          refine h A1 _ _ (y1.trans y2) (s1.new na) ⟨?_, fun m d' em' => ?_⟩
          · simp only [List.length_set]
            exact e1.len
          · by_cases hmi : m = i
            · subst hmi
              rw [List.getElem?_set] at em'
              split at em'
              · split at em' <;> cases em'
              · rename_i z
                exact absurd rfl z
            · rw [List.getElem?_set_ne (Ne.symm hmi)] at em'
              rw [List.getElem?_set_ne (Ne.symm hmi)]
              by_cases hmj : m = j
              · subst hmj
                rw [List.getElem?_set] at em'
                rw [if_pos rfl] at em'
                split at em'
                · rename_i lt
                  cases em'
                  refine ⟨.ref a, ?_, rv⟩
                  rw [List.getElem?_set_self (by rw [List.length_set, ← e1.len]; exact lt)]
                · cases em'
              · rw [List.getElem?_set_ne (Ne.symm hmj)] at em'
                rw [List.getElem?_set_ne (Ne.symm hmj), List.getElem?_set_ne (Ne.symm hmi)]
                obtain ⟨w, ew, rw'⟩ := e1.at_ m d' em'
                exact ⟨w, ew, RD.kp y2.kp rw'⟩
      · subst hb
        exact h A1 H1 σ1 cls d y1 s1 e1 z1
end
section
open PySem.W
variable {prog : Program} {w : World} {A : Around} {E : Value → Shared → Prop} {s : Shared} {K : Frag} {x D : Addr} {ox od : Obj}
theorem cls_of_exc {Q : Option Value → Shared → Prop} (C : ExcC K D) (X : K.In s.heap) (I : InstAt s.heap x ox D (some od)) (h : Q (some (.ref D)) { s with toks := s.toks + 1 }) : wpAny (model prog w) A (getAttr? (.ref x) "__class__") Q E s := by
  have hf : findObj K D (some od) "__class__" = some (.bind (.builtin "getset_descriptor.__get__") (.builtin "object.__class__")) := findObj_data (by obtain ⟨cd, hc, _⟩ := any_some C.hd; rw [hc]; rfl) C.ha C.hn C.ht
  obtain ⟨hp, g, d, t, os⟩ := s
  have l0 := I.type (M := model prog w)
  have l1 := looks_findIn (M := model prog w) X C.hg
  have l2 := looks_findIn (M := model prog w) X C.hk
  have l3 := looks_find (M := model prog w) X I hf
  have sub : Looks (model prog w) hp (isInstance (.ref x) (.type "BaseException")) true := l0.andThen (looks_subIn X C.hs)
  have e2 : (Value.builtin "BaseException.__getattribute__" == Value.builtin "object.__getattribute__") = false := by decide +kernel
  have e1 : (onTheHeap (Value.ref D) && Value.builtin "BaseException.__getattribute__" == Value.builtin "object.__getattribute__") = false := by rw [e2]; rfl
  have e0 : (false && onTheHeap (Value.builtin "BaseException.__getattribute__")) = false := rfl
  unfold getAttr?; unfold getAttrBy?; unfold getAttrBy
  refine wpAny_bind (wpAny_mkText (wpAny_bind (wpAny_attempt (wpAny_holding (wpAny_bind (l0.at (wpAny_bind (l1.at ?_))))))))
  show wpAny _ _ (if (onTheHeap (Value.ref D) && Value.builtin "BaseException.__getattribute__" == Value.builtin "object.__getattribute__") = true then _ else _) _ _ _
  rw [e1]; rw [if_neg Bool.false_ne_true]
  unfold getAttrByItsOwn; unfold hookBefore
  refine wpAny_bind ?_; rw [if_pos (show onTheHeap (Value.ref D) = true from rfl)]
  refine l2.at ?_
  refine wpAny_bind (wpAny_attempt (wpAny_holding ?_)); unfold callGetattribute
  rw [e0]; rw [if_neg Bool.false_ne_true]
  unfold boundAndCalled; rw [F.excAttr_ValueError.ga.bind (.ref x)]
  refine wpAny_bind (wpAny_pure ?_); show wpAny _ _ (call (.builtin "BaseException.__getattribute__") [.ref x, .str "__class__" t]) _ _ _
  refine wpAny_call (codeAny_call_builtin F.excAttr_ValueError.ga.plain F.entry_bexc_ga ?_)
  refine @check_slot (model prog w) _ _ ⟨hp, g, d, t + 1, os⟩ "BaseException.__getattribute__" "BaseException" "__getattribute__" (.ref x) [.str "__class__" t] [] _ (by decide +kernel) (by decide +kernel) sub (F.args_bexc_ga (.ref x) (.str "__class__" t)) ?_
  unfold Builtin.«object.__getattribute__»
  refine wpAny_bind (wpAny_of_eq (a := ((Value.ref x : Value), [Value.str "__class__" t])) (by first | rfl | (simp only [slotArgs]; rfl)) ?_)
  refine wpAny_bind (wpAny_pure (wpAny_bind (l0.at (wpAny_bind (l3.at ?_)))))
  show wpAny _ _ (holding [Value.builtin "object.__class__"] (call (.builtin "getset_descriptor.__get__") [.builtin "object.__class__", .ref x, .ref D]) >>= ret) _ _ _
  refine wpAny_bind (wpAny_holding (wpAny_call (class_get (s := ⟨hp, g, d, t + 1, os⟩) (ox := ox) (od := some od) X I C.hm ?_)))
  refine wpAny_pure ?_; show wpAny _ _ (handedOut (.ref D)) _ _ _
  rw [handedOut_of (v := .ref D) rfl]
  first
    | exact wpAny_pure (wpAny_pure h)
    | exact wpAny_pure h
    | exact wpAny_pure (wpAny_bind (wpAny_pure (wpAny_pure h)))
theorem kitx_exc (C : ExcC K D) : KitX K (.ref x) (.ref D) (fun h => InstAt h x ox D (some od)) where
  ty := fun _ _ _ I => I.type
  it := fun M h X _ => by
    obtain ⟨cd, hc, _⟩ := any_some C.hd
    unfold clsIn at hc
    split at hc
    · rename_i c' d' cd' sl' ho
      exact fun A' Q' E' s' k q => by
        unfold isType loadHead
        exact wpAny_bind (wpAny_loadPart (k _ _ (X _ _ ho)) (wpAny_pure q))
    · cases hc
  ne := fun h tp dd its n sl X htp => by
    obtain ⟨cd, hc, _⟩ := any_some C.hd
    refine Bool.eq_false_iff.mpr fun q => ?_
    have e : D = tp := Value.ref.inj (beq_iff_eq.mp q)
    subst e
    unfold clsIn at hc
    split at hc
    · rename_i c' d' cd' sl' ho
      have z := (X _ _ ho).symm.trans htp
      cases z
    · cases hc
  ca := fun X I k => cls_of_exc C X I k
end
def TyE (K : PySem.W.Frag) (H : Hp) (x : V) (t : Value) : Prop := TyX K H x t ∨ ∃ a d D f u, x = .ref a ∧ H a = some (XoH a (.ref D) d) ∧ H d = some (.xd [(f, u)]) ∧ ExcC K D ∧ t = .ref D
section
variable {X : Cx} {pins : List (Addr × Obj)} {σ : L2.St} {H : Hp} {s : Shared}
theorem xo_inst {a d D : Addr} {f : Str} {u : V} (I : Inv X pins σ H s) (ha : H a = some (XoH a (.ref D) d)) (hd : H d = some (.xd [(f, u)])) : ∃ ox od, PySem.W.InstAt s.heap a ox D (some od) ∧ ∃ w, PySem.W.lookIn f od = some (some w) ∧ RelV u w := by
  obtain ⟨⟨ox, vs, e1, e2, e3, e4⟩, _⟩ := (show ObjOk X.prog X.w H s.heap a (XoH a (.ref D) d) from I.hok a _ ha)
  obtain ⟨mA, hn, hr⟩ := (show ObjOk X.prog X.w H s.heap d (.xd [(f, u)]) from I.hok d _ hd)
  obtain ⟨od, ho, hl⟩ := lookIn_ns hn
  have r := hr f
  have el : ([(f, u)] : List (Str × V)).lookup f = some u := by simp [List.lookup]
  rw [el] at r
  cases em : mA f with
  | none => rw [em] at r; exact r.elim
  | some w =>
    rw [em] at r
    refine ⟨ox, od, ⟨e1, e2, by unfold PySem.W.notCls; rw [e4] <;> rfl, by rw [e3]; exact ho⟩, w, by rw [hl f, em], r⟩
theorem kit_ofE {x : V} {u t : Value} (I : Inv X pins σ H s) (rx : RelV x u) (ty : TyE X.K H x t) : ∃ P : Heap → Prop, PySem.W.KitX X.K u t P ∧ P s.heap ∧ u ≠ .builtin "__main__.__loader__#opaque" := by
  rcases ty with ty | ⟨a, d, D, f, u', rfl, ha, hd, C, rfl⟩
  · exact kit_of I rx ty
  · cases (show u = Value.ref a from rx)
    obtain ⟨ox, od, J, _⟩ := xo_inst I ha hd
    exact ⟨_, kitx_exc C, J, fun z => nomatch z⟩
def rE1 (K : PySem.W.Frag) : List V → Hp → VK → Prop := fun xs H Q => ∃ (x c : V) (t u : Value) (b : Bool), xs = [x, c] ∧ ClsV c u ∧ TyE K H x t ∧ PySem.W.kitOne K t u = some b ∧ Q (.bl b) H
theorem call_e1 : CallR X (.builtin "isinstance") (rE1 X.K) := by
  intro pins s σ H xs us Q I r h
  obtain ⟨x, c, t, u, b, rfl, kc, ty, e, q⟩ := h
  obtain ⟨u1, u2, rfl, r1, r2⟩ := vals2 r
  have e2 := kc.eq r2
  subst e2
  obtain ⟨P, Z, p, hx⟩ := kit_ofE I r1 ty
  exact PySem.W.kia_one Z I.kIn p e hx fun tk => ⟨.bl b, H, I.tok tk, rfl, q⟩
end
def pIsE (f : Nat → Option Bool) : P1 := fun d S => match d with
  | .d (.exc c _) => (match f c with
    | some b => some (.d (.bl b), S)
    | none => none)
  | .d .non => some (.d (.bl false), S)
  | _ => none
def pExf (f : Nat → Bool) : P1 := fun d S => match d with
  | .d (.exc c [t]) => if f c = true then some (.d t, S) else none
  | _ => none
section
variable {X : Cx} {G : Gs} {W : WX} {k : Nat} {e T : Expr} {es : List Expr} {p pos tpos : Pos} {m : M Dv} {f : Nat → Option Bool}
theorem ty_exc {A : Al} {H : Hp} {S : Sto} {c : Nat} {xs : List Dt} {v : V} {fn : Str} (r : RV G A H (.exc c xs) v) (hx : Exk G c fn) : TyE G.K H v (G.exc c) := by
  obtain ⟨a, d, f, u, rfl, _, _, ha, hd, _, _⟩ := r
  obtain ⟨D, eD, C, _⟩ := hx.cl
  rw [eD] at ha ⊢
  exact .inr ⟨a, d, D, f, u, rfl, ha, hd, C, rfl⟩
theorem e_isE {u : Value} {c0 : V} (hK : G.K = X.K) (hg : Gl X "isinstance") (hm : X.mg "isinstance" = none) (hc : ClsV c0 u) (hf : ∀ c b, f c = some b → (∃ fn, Exk G c fn) ∧ PySem.W.kitOne G.K (G.exc c) u = some b) (hnn : PySem.W.kitOne G.K (.type "NoneType") u = some false)
    (he : PE X e (tM G W m)) (hT : PE X T (tC c0)) (hs : starEach [e, T] X.env = (false, eval e X.env) :: starEach [T] X.env) (hs2 : starEach [T] X.env = (false, eval T X.env) :: starEach [] X.env)
    (hpl : (backTo pos (starEach [T] X.env)).any (·.1) = false) : PE X (.Call (.Name "isinstance" p) [e, T] [] pos) (tM G W (m1 (pIsE f) m)) := by
  refine (pe_callB call_e1 hg hm PyProof.Rows.boot_isinstance (pa_cons he (pa_cons hT pa_nil hs2) hs) (by decide) (by decide) hs hpl).sm fun σ H Q h => ?_
  obtain ⟨A, ρ, S, he, hs, p0⟩ := h
  refine ⟨A, ρ, S, he, hs, Po.step p0 fun d S1 A1 H1 x1 s1 q1 v rv => ?_⟩
  unfold pIsE at q1
  split at q1
  · rename_i c xs
    split at q1
    · rename_i b eb
      obtain ⟨⟨fn, hx⟩, hk⟩ := hf c b eb
      have ty := ty_exc (S := S1) rv hx
      rw [hK] at ty hk
      exact ⟨v, c0, _, u, b, rfl, hc, ty, hk, Po.now q1 s1 (.bl b) rfl⟩
    · exact q1.elim
  · obtain rfl : v = .non := rv
    rw [hK] at hnn
    exact ⟨.non, c0, _, u, false, rfl, hc, .inl (.base .non), hnn, Po.now q1 s1 (.bl false) rfl⟩
  · exact q1.elim
theorem e_exf {fn : Str} {g : Nat → Bool} (hK : G.K = X.K) (hf : ∀ c, g c = true → Exk G c fn) (he : PE X e (tM G W m)) (hb : attributeBase e fn X.env (eval e X.env) = eval e X.env) : PE X (.Attribute e fn pos) (tM G W (m1 (pExf g) m)) := by
  refine ⟨fun pins s σ H Q I h => ?_⟩
  obtain ⟨A, ρ, S, er, sr, p0⟩ := h
  refine attr_of hb (thn (he.run pins s σ H (fun v H1 => ∃ a d D u, v = .ref a ∧ H1 a = some (XoH a (.ref D) d) ∧ H1 d = some (.xd [(fn, u)]) ∧ ExcC G.K D ∧ PySem.W.findIn G.K (.ref D) fn = some none ∧ Q u H1) I ⟨A, ρ, S, er, sr, Po.step p0 fun d S1 A1 H1 x1 s1 q1 v rv => ?_⟩) fun u0 s1 hh => ?_)
  · unfold pExf at q1
    split at q1
    · rename_i c t
      split at q1
      · rename_i hg
        have hx := hf c hg
        obtain ⟨a, dd, f, u, rfl, na, nd, ha, hd, ef, rt⟩ := (show RV G A1 H1 (.exc c [t]) v from rv)
        rw [hx.fl] at ef
        cases ef
        obtain ⟨D, eD, C, hn⟩ := hx.cl
        rw [eD] at ha
        obtain ⟨u1, r1, e1, r2, r3⟩ := rt
        cases e1
        exact ⟨a, dd, D, u, rfl, ha, hd, C, hn, Po.now q1 s1 u r2⟩
      · exact q1.elim
    · exact q1.elim
  · obtain ⟨v, H1, I1, rx, a, d, D, u, rfl, ha, hd, C, hn, q⟩ := hh
    obtain rfl : u0 = Value.ref a := rx
    obtain ⟨ox, od, J, w, hl, rw'⟩ := xo_inst I1 ha hd
    rw [hK] at C hn
    exact HandSPX.exc_get I1.kIn J C.hg C.hk C.hs (PySem.W.findObj_own C.hd hn rfl hl) (handed_of rw') ⟨u, H1, I1.tok _, rw', q⟩
end
end Sm
set_option maxHeartbeats 1000000
namespace Sm
open PySem PySem.Spec PyProof.Rows L2
def tbl (l : List Bool) : Nat → Option Bool := fun c => l[c]?
def tblT (l : List Bool) : Nat → Bool := fun c => l.getD c false
def orL (a b : List Bool) : List Bool := List.zipWith (· || ·) a b
def ExmR (G : Gs) (bs : List Bool) (u : Value) : Prop := ∀ c b, tbl bs c = some b → PySem.W.exmOne G.K (G.exc c) u = some b
def HitR (G : Gs) (bs : List Bool) (us : List Value) : Prop := ∀ c b, tbl bs c = some b → PySem.W.exmAny G.K (G.exc c) us = some b
def KitR (G : Gs) (bs : List Bool) (u : Value) : Prop := (∀ c b, tbl bs c = some b → PySem.W.kitOne G.K (G.exc c) u = some b) ∧ PySem.W.kitOne G.K (.type "NoneType") u = some false
def ExkR (G : Gs) (n : Nat) (fs : List Str) : Prop := ∀ c, c < n → ∃ f, fs[c]? = some f ∧ Exk G c f
section
variable {G : Gs} {a b : List Bool} {u : Value} {us : List Value}
theorem tbl_or {c : Nat} {x : Bool} (h : tbl (orL a b) c = some x) : ∃ y z, tbl a c = some y ∧ tbl b c = some z ∧ x = (y || z) := by
  unfold tbl orL at *
  rw [List.getElem?_zipWith] at h
  cases ea : a[c]? with
  | none => rw [ea] at h; cases h
  | some y =>
    cases eb : b[c]? with
    | none => rw [ea, eb] at h; cases h
    | some z =>
      rw [ea, eb] at h
      cases h
      exact ⟨y, z, rfl, rfl, rfl⟩
theorem hitR_nil {n : Nat} : HitR G (List.replicate n false) [] := fun c b h => by
  unfold tbl at h
  rw [List.getElem?_replicate] at h
  split at h
  · cases h
    rfl
  · cases h
theorem hitR_cons (h : ExmR G a u) (k : HitR G b us) : HitR G (orL a b) (u :: us) := fun c x e => by
  obtain ⟨y, z, e1, e2, rfl⟩ := tbl_or e
  have h1 := h c y e1
  have h2 := k c z e2
  unfold PySem.W.exmAny
  rw [h1, h2]
  try rfl
end
section
open PySem.W
variable {K : Frag} {t : Value} {C : Addr} {b : Bool}
theorem kit_own (hd : hasDictIn K C = true) (ht : typeIn K (.ref C) = some (.type "type")) (ss : subIn K (.ref C) (.ref C) = some true) (hs : subIn K t (.ref C) = some b) : kitOne K t (.ref C) = some b := by
  unfold kitOne
  by_cases q : (t == .ref C) = true
  · rw [if_pos q]
    have e : t = .ref C := beq_iff_eq.mp q
    rw [e, ss] at hs
    exact hs
  · rw [if_neg q]
    unfold kitCls
    obtain ⟨cd, hc, _⟩ := any_some hd
    have e2 : ((clsIn K C).isSome && typeIn K (.ref C) == some (.type "type")) = true := by rw [hc, ht] <;> rfl
    dsimp only
    rw [if_pos e2]
    exact hs
theorem kit_typ {T : String} (hm : kitMeta T = true) (hn : (t == .type T) = false) (hs : subIn K t (.type T) = some b) : kitOne K t (.type T) = some b := by
  unfold kitOne
  rw [if_neg (by rw [hn]; decide)]
  unfold kitCls
  dsimp only
  rw [if_pos hm]
  exact hs
theorem along_V (K : Frag) : alongIn K "__init__" [.type "ValueError", .type "Exception", .type "BaseException", .type "object"] = some (some (.builtin "ValueError.__init__")) := by kernel_rfl
end
section
variable {X : Cx} {G : Gs} {W : WX} {k : Nat} {e : Expr} {x : Str} {p pos pos' tpos : Pos} {m : M Dv} {bs : List Bool}
theorem yraise {c : Nat} (B : Bx X G W k) (hk : 1 ≤ k) (Z : Rsx X.prog G X.mg x c) (he : PE X e (tM G W m)) (hg : Gl X x := by rfl) (hdb : (x == ("__debug__" : Str)) = false := by decide)
    (hs : starEach [e] X.env = (false, eval e X.env) :: starEach [] X.env := by rfl) : PS X (.Raise (some (.Call (.Name x p) [e] [] pos)) none pos') (tMS G W (sRaise c m)) :=
  ps_raiseX (k := 0) (B.le hk) Z hg he hdb hs
theorem ynm {c : Value} (hm : X.mg x = some c) (hg : Gl X x := by rfl) (hd : (x == ("__debug__" : Str)) = false := by decide) : Names X x c := ⟨hg, hd, .inl hm⟩
theorem ytry {es : List Expr} {cs : List Value} {n v : Str} {kx : Nat} {body : List Stmt} {np p1 p2 p3 : Pos} {mb : SM} {fs : List Str} (i j : Nat) (B : Bx X G W k) (nm : NmL X es cs) (hh : HitR G bs cs) (hx : ExkR G bs.length fs)
    (hb : ∀ (W' : WX) (pn : List (Addr × Obj)) (xe : Value → Shared → Prop), Bx (X.tr pn xe) G W' k → PassesOwn (model X.prog X.w) X.A X.env xe → PSs (X.tr pn xe) body (tMS G W' mb))
    (hle : es.length ≤ 1000 := by decide) (hs : X.stack = X.env :: X.outer := by rfl) (hf : X.env.frame = some X.env.locals := by rfl) (hi : X.N[i]? = some n := by rfl) (hln : X.env.kindOf n = some .local := by rfl) (hj : X.N[j]? = some v := by rfl) (hlv : X.env.kindOf v = some .local := by rfl)
    (nn : (n == ("__debug__" : Str)) = false := by decide) (ncd : (n == ("__classdict__" : Str)) = false := by decide) (hsw : swapsWith (.Name n p2) (some (.Name v p1)) p3.line X.env = pure false := by rfl) :
    PS X (.Try body [.ExceptHandler (some (.Tuple es kx np)) (some n) [.Assign [.Name v p1] (.Name n p2) p3] pos'] [] [] pos) (tMS G W (sTry (tbl bs) i j mb)) := by
  refine s_try B hs hf hi hln hj hlv nm hle hh (fun c hc => ?_) hb nn ncd hsw
  unfold tbl at hc
  obtain ⟨f, _, z⟩ := hx c (List.getElem?_eq_some_iff.mp hc).1
  exact ⟨f, z.fl⟩
theorem xglR {C : Addr} (hm : X.mg x = some (.ref C)) (hg : Gl X x := by rfl) (hd : (x == ("__debug__" : Str)) = false := by decide) : PE X (.Name x p) (tC (.ref C)) := pe_glob hg hm rfl hd
theorem xisE {T : Expr} {u : Value} {c0 : V} {fs : List Str} (B : Bx X G W k) (hm : X.mg "isinstance" = none) (hc : ClsV c0 u) (hr : KitR G bs u) (hx : ExkR G bs.length fs) (he : PE X e (tM G W m)) (hT : PE X T (tC c0)) (hg : Gl X "isinstance" := by rfl)
    (hs : starEach [e, T] X.env = (false, eval e X.env) :: starEach [T] X.env := by rfl) (hs2 : starEach [T] X.env = (false, eval T X.env) :: starEach [] X.env := by rfl) (hpl : (backTo pos (starEach [T] X.env)).any (·.1) = false := by rfl) :
    PE X (.Call (.Name "isinstance" p) [e, T] [] pos) (tM G W (m1 (pIsE (tbl bs)) m)) := by
  refine e_isE B.hK hg hm hc (fun c b h => ⟨?_, hr.1 c b h⟩) hr.2 he hT hs hs2 hpl
  obtain ⟨f, _, z⟩ := hx c (List.getElem?_eq_some_iff.mp (show bs[c]? = some b from h)).1
  exact ⟨f, z⟩
theorem xexf {fn : Str} {fs : List Str} (B : Bx X G W k) (hx : ExkR G bs.length fs) (ht : ∀ c, tblT bs c = true → fs[c]? = some fn) (he : PE X e (tM G W m)) (hb : attributeBase e fn X.env (eval e X.env) = eval e X.env := by rfl) :
    PE X (.Attribute e fn pos) (tM G W (m1 (pExf (tblT bs)) m)) := by
  refine e_exf B.hK (fun c hc => ?_) he hb
  have lt : c < bs.length := by
    unfold tblT at hc
    by_cases h : c < bs.length
    · exact h
    · simp [List.getD, List.getElem?_eq_none (Nat.le_of_not_lt h)] at hc
  obtain ⟨f, ef, z⟩ := hx c lt
  have := ht c hc
  rw [ef] at this
  cases this
  exact z
end
end Sm
namespace He
open PySem PySem.Spec PyProof.Rows L2 Sm Hn
end He
namespace Sm
open PySem PySem.Spec PyProof.Rows L2
section
variable {X : Cx} {G : Gs} {W : WX} {kk : Nat} {e : Expr} {apos cpos : Pos}
end
end Sm
namespace Sm
open PySem PySem.Spec PyProof.Rows L2
section
variable {X : Cx} {G : Gs} {W : WX} {k : Nat} {e : Expr} {A : Al} {H : Hp}
end
end Sm
namespace Sm
open PySem PySem.Spec PyProof.Rows L2
section
variable {X : Cx} {G : Gs} {W : WX} {k n : Nat} {f : Addr} {F : FM} {c : Nat} {pos : Pos} {e fe : Expr} {es : List Expr} {mo : M Dv} {ma : M (List Dv)}
end
structure ClK (K : PySem.W.Frag) (C : Addr) : Prop where
  cl : SlX.SCls K C
  ha : PySem.W.findIn K (.ref C) "__class__" = some (some (.builtin "object.__class__"))
  hn : PySem.W.specialIn K (.builtin "object.__class__") "__get__" = some (some (.builtin "getset_descriptor.__get__"))
  htk : PySem.W.takesIn K (.builtin "object.__class__") = some true
  hm : PySem.W.mroIn K C (.type "object") = some true
structure IsC (G : Gs) (n c : Nat) : Prop where
  own : ∀ c', c' < n → ClK G.K (G.cls c') ∧ PySem.W.kitOne G.K (.ref (G.cls c')) (.ref (G.cls c)) = some (c' == c)
  ty : ∀ T ∈ tyL, PySem.W.kitOne G.K (.type T) (.ref (G.cls c)) = some false
section
variable {X : Cx} {G : Gs} {W : WX} {k n c : Nat} {p pos : Pos} {e T : Expr} {m : M Dv}
end
section
variable {X : Cx} {G : Gs} {W : WX} {kk : Nat} {e : Expr} {apos cpos : Pos}
end
end Sm
namespace Sm
open PySem PySem.Spec PyProof.Rows L2
section
variable {prog : Program} {w : World} {A : Around} {E : Value → Shared → Prop} {s : Shared}
end
section
variable {X : Cx} {G : Gs} {W : WX} {kk : Nat} {e : Expr}
end
end Sm
namespace Sm
open PySem PySem.Spec PyProof.Rows L2
section
variable {X : Cx} {G : Gs} {W : WX} {p : Pos} {e : Expr} {es : List Expr} {ma : M (List Dv)} {mo : M Dv}
end
end Sm
set_option maxHeartbeats 1000000
namespace Sm
open PySem PySem.Spec PyProof.Rows L2
structure CalIV (P : Program) (w : World) (G : Gs) (mg : Str → Option Value) (base : Heap) (k c : Nat) (x : Str) (F : FM) : Prop where
  ex : ∃ f, mg x = some (.ref (G.cls c)) ∧ Mk G.K (G.cls c) f ∧ CallR' P w G mg base k f F
section
variable {X : Cx} {G : Gs} {W : WX} {k n : Nat} {f : Addr} {F : FM} {x : Str} {p pos sp_ : Pos} {e : Expr} {es : List Expr} {ma : M (List Dv)} {mo : M Dv} {c : Nat}
end
def SpC (G : Gs) (F : FM) : Sp := fun vs H Q E => ∃ v0 ws, vs = v0 :: ws ∧ SpM G F ws H Q E
section
variable {P : Program} {w : World} {G : Gs} {mg : Str → Option Value} {base : Heap}
structure CalC (P : Program) (w : World) (G : Gs) (mg : Str → Option Value) (base : Heap) (k c : Nat) (x m : Str) (n : Nat) (F : FM) : Prop where
  ex : ∃ mc q g, mg x = some (.ref (G.cls c)) ∧ ClX.CRead G.K (G.cls c) mc ∧ ClX.CMet G.K (G.cls c) mc m q g ∧ FnR P w G.K mg base (L2.CX P w) k g (SpC G F)
end
section
variable {X : Cx} {G : Gs} {W : WX} {k n : Nat} {f : Addr} {F : FM} {x m : Str} {p pos apos : Pos} {e : Expr} {es : List Expr} {ma : M (List Dv)} {c : Nat}
end
end Sm
set_option maxHeartbeats 1000000
namespace Sm
open PySem PySem.Spec PyProof.Rows L2
section
variable {prog : Program} {w : World} {A : Around} {R : Result → Shared → Prop} {s : Shared} {kx vx t0 i0 t1 i1 : Expr} {ifs0 ifs1 : List Expr} {scope : Scope} {pos : Pos} {it : Value} {D : Addr} {env : PySem.Env}
end
section
variable {X : Cx}
end
end Sm
set_option maxHeartbeats 1000000
namespace Sm
open PySem PySem.Spec PyProof.Rows L2
section
variable {X : Cx} {G : Gs} {W : WX} {kk : Nat} {kx vx tg iter tg1 iter1 : Expr} {ifs ifs1 : List Expr} {scope : Scope} {own : List (Str × Nat)} {pos : Pos} {it it1 : M (List Dt)} {g g1 : GM} {t t1 : TG} {L L1 : List Nat} {cm cm1 : M Bool} {ek ev : M Dv}
end
end Sm
namespace Sm
open PySem PySem.Spec PyProof.Rows L2
open Sem (wp)
section
variable {X : Cx} {G : Gs}
end
section
variable {X : Cx} {G : Gs} {W : WX} {kk : Nat} {e e2 : Expr}
end
end Sm
namespace Sm
open PySem PySem.Spec PyProof.Rows L2
structure CalDK (P : Program) (w : World) (G : Gs) (mg : Str → Option Value) (base : Heap) (k c : Nat) (x : Str) (ks : List Str) (F : FM) : Prop where
  ex : ∃ f, SlX.SCls G.K (G.cls c) ∧ Meth G.K (G.cls c) x f ∧ PySem.W.fnIn G.K f = true ∧ CallW P w G mg base k f 1 ks F
section
variable {X : Cx} {G : Gs} {W : WX} {k : Nat} {f : Addr} {F : FM} {c : Nat} {pos : Pos} {fe : Expr} {mo : M Dv} {mk : M (List Dv)} {kws : List Keyword} {ks : List Str}
end
end Sm
namespace Hk
open PySem PySem.Spec PyProof.Rows L2 Sm Hn
end Hk
namespace Sm
open PySem PySem.Spec PyProof.Rows L2
section
variable {X : Cx} {G : Gs} {W : WX} {k : Nat} {a : Expr} {p pos q kp : Pos} {j : Nat} {m : M Dv}
end
end Sm
namespace Sm
open PySem PySem.Spec PyProof.Rows L2
section
variable {X : Cx} {G : Gs} {W : WX} {k : Nat} {a : Expr} {p pos q kp : Pos} {j : Nat} {m : M Dv}
end
end Sm
namespace Sm
open PySem PySem.Spec PyProof.Rows L2
section
variable {X : Cx} {G : Gs} {W : WX} {k : Nat}
end
end Sm
namespace Hd
open PySem PySem.Spec PyProof.Rows L2 Sm Hn
def b__law_of : SM := sRet (m2 pIx (mV 1) (mF F__law_take (aCons (mV 0) (aCons (mN pLen (aCons (mV 1) (aNil))) (aNil)))))
def R__law_of : FM := runB 2 2 b__law_of
def F__law_of : FM := view (R__law_of)
end Hd
set_option maxHeartbeats 1000000
namespace Sm
open PySem PySem.Spec PyProof.Rows L2
section
variable {X : Cx} {G : Gs} {W : WX} {k n : Nat} {f : Addr} {F : FM} {x : Str} {p pos sp_ : Pos} {e : Expr} {es : List Expr} {ma : M (List Dv)} {mo : M Dv} {c : Nat}
end
end Sm
namespace Hc
open PySem PySem.Spec PyProof.Rows L2 Sm Hn
end Hc
namespace Sm
open PySem PySem.Spec PyProof.Rows L2
section
variable {prog : Program} {w : World} {A : Around} {R : Result → Shared → Prop} {I : Addr} {fp wr : List Addr} {n : Nat} {P : Nat → Value → Prop} {St : Nat → Heap → Prop} {E : Value → Shared → Prop} {s : Shared}
end
end Sm
namespace Sm
open PySem PySem.Spec PyProof.Rows L2
theorem strs_rvs {G : Gs} {A : Al} {H : Hp} {ts : List Dt} {ss : List Str} {vs : List V} (e : strsOf ts = some ss) (r : RVs G A H ts vs) : vs = ss.map V.str := by
  rw [strsOf_eq e] at r
  exact strs_rv r
section
variable {X : Cx} {G : Gs} {W : WX} {k : Nat} {a e : Expr} {ma me : M Dv} {apos cpos pos : Pos}
end
end Sm
namespace Sm
open PySem PySem.Spec PyProof.Rows L2
section
variable {prog : Program} {w : World} {A : Around} {E : Value → Shared → Prop} {s : Shared}
end
end Sm
namespace Sm
open PySem PySem.Spec PyProof.Rows L2
end Sm
namespace Sm
open PySem PySem.Spec PyProof.Rows L2
end Sm
namespace Sm
open PySem PySem.Spec PyProof.Rows L2
structure IsCL (G : Gs) (l : List Nat) (c : Nat) : Prop where
  own : ∀ c', c' ∈ l → ClK G.K (G.cls c') ∧ PySem.W.kitOne G.K (.ref (G.cls c')) (.ref (G.cls c)) = some (c' == c)
  ty : ∀ T ∈ tyL, PySem.W.kitOne G.K (.type T) (.ref (G.cls c)) = some false
def pIsaL (l : List Nat) (c : Nat) : P1 := fun d S => match d with
  | .d (.obj c' _) => if c' ∈ l then some (.d (.bl (c' == c)), S) else none
  | .d (.ntp _) => some (.d (.bl false), S)
  | .loc m => (match S[m]? with
    | some (.ins c' _) => if c' ∈ l then some (.d (.bl (c' == c)), S) else none
    | some (.lst _) => some (.d (.bl false), S)
    | some (.dct _ _) => some (.d (.bl false), S)
    | _ => none)
  | d => (match tyDv S d with
    | some _ => some (.d (.bl false), S)
    | none => none)
section
variable {X : Cx} {G : Gs} {W : WX} {k c : Nat} {l : List Nat} {p pos : Pos} {e T : Expr} {m : M Dv}
end
end Sm
namespace Sm
open PySem PySem.Spec PyProof.Rows L2
section
variable {X : Cx} {G : Gs} {W : WX} {kk : Nat} {elt tg iter tg1 iter1 : Expr} {ifs ifs1 : List Expr} {scope : Scope} {own : List (Str × Nat)} {pos : Pos} {it : M (List Dt)} {g g1 : GM} {t t1 : TG} {L L1 : List Nat} {cm cm1 em' : M Bool} {em it1 : M Dv}
end
end Sm
namespace Sm
open PySem PySem.Spec PyProof.Rows L2
section
variable {X : Cx} {G : Gs} {W : WX} {a b c e : Expr} {pos : Pos} {mo mb mc : M Dv} {x : Str}
theorem chain_read {p q : P2} {σ : L2.St} {H : Hp} {Q : VK} (h : tM G W (mChain p q mo mb mc) σ H Q) : tChain (q2 G p) (q2 G q) (tM G W mo) (tM G W mb) (tM G W mc) σ H Q := by
  obtain ⟨A, ρ, S, he, hs, p0⟩ := h
  refine ⟨A, ρ, S, he, hs, Po.step p0 fun d1 S1 A1 H1 x1 s1 p1 v1 r1 => ?_⟩
  refine ⟨A1, ρ, S1, he.kp x1.kp, s1, Po.step p1 fun d2 S2 A2 H2 x2 s2 p2 v2 r2 => ?_⟩
  refine ⟨A2, S2, d1, d2, r1.kp x2.kp, r2, s2, Po.lift (Po.step p2 fun d3 S3 A3 H3 x3 s3 p3 v3 r3 => ?_)⟩
  cases d3 with
  | loc n => exact p3.elim
  | d t =>
    cases t with
    | bl k =>
      refine ⟨k, r3, ?_⟩
      cases k with
      | false => exact Po.now p3 s3 _ rfl
      | true => exact ⟨A3, ρ, S3, (he.kp x1.kp).kp (x2.trans x3).kp, s3, Po.step (f := fun w S5 => lift (q d2 w S5)) p3 fun d4 S4 A4 H4 x4 s4 p5 v4 r4 => ⟨A4, S4, d2, d4, (r2.kp x3.kp).kp x4.kp, r4, s4, Po.lift p5⟩⟩
    | _ => exact p3.elim
theorem xchainT {op op' : CmpOp} {p q : P2} (ho : OpR X (compareOp op) (q2 G p)) (ho' : OpR X (compareOp op') (q2 G q)) (ha : PE X a (tM G W mo)) (hb : PE X b (tM G W mb)) (hc : PE X c (tM G W mc)) (hm : lastMarks [op, op'] [b, c] = false := by first | rfl | with_unfolding_all rfl) :
    PT X (.Compare a [op, op'] [b, c] pos) (tMT G W (mTst (mChain p q mo mb mc))) := by
  refine (pt_chain ho ho' ha hb hc hm).sm fun σ H Q h => ?_
  obtain ⟨A, ρ, S, he, hs, p0⟩ := h
  exact chain_read ⟨A, ρ, S, he, hs, Po.step p0 fun d S1 A1 H1 x1 s1 p1 v rv => toB_po p1 s1 rv⟩
end
end Sm
namespace Sm
open PySem PySem.Spec PyProof.Rows L2
section
variable {X : Cx} {G : Gs} {W : WX} {k : Nat}
end
end Sm
namespace Sm
open PySem PySem.Spec PyProof.Rows L2
section
variable {X : Cx} {G : Gs} {W : WX}
end
end Sm
set_option maxHeartbeats 1000000
namespace Sm
open PySem PySem.Spec PyProof.Rows L2
section
variable {prog : Program} {w : World} {A : Around} {E : Value → Shared → Prop} {s : Shared} {K : PySem.W.Frag} {x C L f : Addr} {h₀ : Heap} {m : Str → Option Value} {ox : Obj} {od : Option Obj} {b tb : Value}
open PySem.W PySem.Calls in
end
structure NfC (G : Gs) (l : List Nat) (c : Nat) : Prop where
  own : ∀ c', c' ∈ l → PySem.W.notFirst G.K (G.cls c) (.ref (G.cls c')) = true
  ty : ∀ T ∈ tyL, PySem.W.subIn G.K (.type T) (.ref (G.cls c)) = some false
def knd (l : List Nat) (d : Dv) (S : Sto) : Bool := (pIsaL l 0 d S).isSome
section
variable {X : Cx} {G : Gs} {W : WX} {k c : Nat} {l : List Nat}
end
section
variable {X : Cx} {G : Gs} {W : WX} {k n : Nat} {f : Addr} {F : FM} {c : Nat} {l : List Nat} {pos : Pos} {e o : Expr} {mx mo : M Dv}
structure NeC (K : PySem.W.Frag) (C : Addr) : Prop where
  ne : PySem.W.findIn K (.ref C) "__ne__" = some (some (.builtin "object.__ne__"))
  so : PySem.W.subIn K (.ref C) (.type "object") = some true
end
section
variable {X : Cx} {G : Gs} {W : WX} {k n : Nat} {f : Addr} {F : FM} {c : Nat} {pos pos' : Pos} {o i value : Expr} {mo mi mv : M Dv}
end
end Sm
namespace Sm
open PySem PySem.Spec PyProof.Rows L2
section
variable {X : Cx} {G : Gs} {W : WX} {k n : Nat} {f : Addr} {F : FM} {c : Nat} {l : List Nat} {pos : Pos} {e o : Expr} {mx mo : M Dv}
end
end Sm
namespace Sm
open PySem PySem.Spec PyProof.Rows L2
abbrev Quiet (A : Around) : Prop := A.guards = some []
structure FnG (P : Program) (w : World) (K : PySem.W.Frag) (mg : Str → Option Value) (base : Heap) (k : Nat) (f : Addr) (fd : FuncData) (ps : List Str) (sp : Sp) : Prop where
  len : ∀ vs H Q E, sp vs H Q E → vs.length = ps.length
  go : ∀ (A : Around), Quiet A → Room k A →
    ∀ (outer : List PySem.Env) (s : Shared) (H : Hp), Env0 P w K mg base A outer s H →
    ∀ (args : Args) (us : List Value) (vs : List V), BindsTo s fd args (ps.zip us) → Vals vs us →
    ∀ (Q : VK) (E : XK), sp vs H Q E → codeAny (model P w) A (.call (.ref f) args) (CR (L2.CX P w) outer P w H s Q E) s
section
variable {P : Program} {w : World} {G : Gs} {mg : Str → Option Value} {base : Heap}
def CallG (P : Program) (w : World) (G : Gs) (mg : Str → Option Value) (base : Heap) (k : Nat) (f : Addr) (n : Nat) (F : FM) : Prop :=
  ∀ (A : Around), Quiet A → Room k A → ∀ (outer : List PySem.Env) (s : Shared) (H : Hp), Env0 P w G.K mg base A outer s H →
    ∀ (us : List Value) (vs : List V), Vals vs us → vs.length = n → ∀ (Q : VK) (E : XK), SpM G F vs H Q E →
    codeAny (model P w) A (.call (.ref f) ⟨us, []⟩) (CR (L2.CX P w) outer P w H s Q E) s
structure CalG (P : Program) (w : World) (G : Gs) (mg : Str → Option Value) (base : Heap) (k : Nat) (x : Str) (n : Nat) (F : FM) : Prop where
  ex : ∃ f, mg x = some (.ref f) ∧ PySem.W.keepIn G.K (.ref f) = true ∧ CallG P w G mg base k f n F
end
section
variable {X : Cx} {G : Gs} {W : WX} {k n : Nat} {f : Addr} {F : FM} {x : Str} {p pos : Pos} {e : Expr} {es : List Expr} {ma : M (List Dv)}
end
section
variable {X : Cx} {G : Gs}
end
end Sm
namespace Sm
open PySem PySem.Spec PyProof.Rows L2
section
variable {P : Program} {w : World} {K : PySem.W.Frag} {mg mb : Str → Option Value} {k : Nat} {fa a : Addr} {fd : FuncData} {x : Str} {sp : Sp} {s : Shared} {vs : List Value} {ns : List Int}
end
end Sm
namespace Sm
open PySem PySem.Spec PyProof.Rows L2
mutual
def noLst : Dt → Bool
  | .lst _ => false
  | .scr _ => false
  | .tup xs => noLsts xs
  | .ltp xs => noLsts xs
  | .ntp xs => noLsts xs
  | .dct _ xs => noLsts xs
  | .obj _ xs => !xs.isEmpty && noLsts xs
  | .exc _ _ => false
  | .non => true
  | .bl _ => true
  | .int _ => true
  | .str _ => true
def noLsts : List Dt → Bool
  | [] => true
  | t :: ts => noLst t && noLsts ts
end
section
variable {G : Gs} {A B : Al} {H : Hp}
mutual
theorem rv_noLst (hk : ∀ a u, H a = some u → (∀ us, u ≠ .lst us) → a ∉ A.all → a ∉ B.all) : ∀ {t : Dt} {v : V}, noLst t = true → RV G A H t v → RV G B H t v
  | .tup xs, v, h, r => by
    obtain ⟨a, us, e, ⟨h1, h2⟩, h3⟩ := r
    refine ⟨a, us, e, ⟨h1, ?_⟩, rvs_noLst hk h h3⟩
    rcases h1 with h1 | ⟨_, o, h1⟩ <;> exact hk a _ h1 (fun _ z => by cases z) h2
  | .ntp xs, v, h, r => by
    obtain ⟨a, us, e, ⟨⟨o, h1, h4⟩, h2⟩, h3⟩ := r
    exact ⟨a, us, e, ⟨⟨o, h1, h4⟩, hk a _ h1 (fun _ z => by cases z) h2⟩, rvs_noLst hk h h3⟩
  | .ltp xs, v, h, r => by
    obtain ⟨a, us, e, h1, h3⟩ := r
    exact ⟨a, us, e, h1, rvs_noLst hk h h3⟩
  | .dct ks xs, v, h, r => by
    obtain ⟨a, kvs, e, h2, h1, h4, h3⟩ := r
    refine ⟨a, kvs, e, ?_, h1, h4, rvs_noLst hk h h3⟩
    rcases h1 with h1 | ⟨o, h1⟩ <;> exact hk a _ h1 (fun _ z => by cases z) h2
  | .obj c xs, v, h, r => by
    obtain ⟨a, dx, ws, us, e, h1, h2, ⟨u0, h3⟩, h4, h5, h6⟩ := r
    obtain ⟨g1, g2⟩ := Bool.and_eq_true_iff.mp (show (!xs.isEmpty && noLsts xs) = true from h)
    rcases id h4 with ⟨q1, q2⟩ | ⟨q1, q2⟩
    · exfalso
      subst q2
      cases xs with
      | nil => cases g1
      | cons x xs =>
        obtain ⟨v0, w0, e0, _, _⟩ := id h6
        subst e0
        have := h5 0 v0 rfl
        cases this
    · refine ⟨a, dx, ws, us, e, hk a _ q1 (fun _ z => ?_) h1, hk dx _ q2 (fun _ z => by cases z) h2, ⟨u0, h3⟩, h4, h5, rvs_noLst hk g2 h6⟩
      unfold SlX.SlO at z
      cases z
  | .non, v, h, r => r
  | .bl _, v, h, r => r
  | .int _, v, h, r => r
  | .str _, v, h, r => r
  | .lst _, v, h, r => by cases h
  | .scr _, v, h, r => by cases h
  | .exc _ _, v, h, r => by cases h
theorem rvs_noLst (hk : ∀ a u, H a = some u → (∀ us, u ≠ .lst us) → a ∉ A.all → a ∉ B.all) : ∀ {ts : List Dt} {vs : List V}, noLsts ts = true → RVs G A H ts vs → RVs G B H ts vs
  | [], vs, _, r => r
  | t :: ts, vs, h, r => by
    obtain ⟨h1, h2⟩ := Bool.and_eq_true_iff.mp (show (noLst t && noLsts ts) = true from h)
    obtain ⟨v, w, e, r1, r2⟩ := r
    exact ⟨v, w, e, rv_noLst hk h1 r1, rvs_noLst hk h2 r2⟩
end
end
def deepE (S : Sto) (o : Option Dv) : Option Dv := o.bind fun d => (deepR S 3 d).map .d
def mSnapE (m : M Dv) : M Dv := fun ρ S => match m (ρ.map (deepE S)) [] with
  | .ok (.d t) _ => if noLst t = true then .ok (.d t) S else .bad
  | _ => .bad
theorem deepE_at {S : Sto} {ρ : Env} {i : Nat} {d : Dv} (h : (ρ.map (deepE S))[i]? = some (some d)) : ∃ d0 t, ρ[i]? = some (some d0) ∧ deepR S 3 d0 = some t ∧ d = .d t := by
  rw [List.getElem?_map] at h
  cases e : ρ[i]? with
  | none => rw [e] at h; cases h
  | some o =>
    rw [e] at h
    cases o with
    | none => cases h
    | some d0 =>
      have h1 : (deepR S 3 d0).map Dv.d = some d := Option.some.inj h
      cases e1 : deepR S 3 d0 with
      | none => rw [e1] at h1; cases h1
      | some t =>
        rw [e1] at h1
        cases h1
        exact ⟨d0, t, rfl, e1, rfl⟩
section
variable {X : Cx} {G : Gs} {W : WX} {e : Expr} {m : M Dv}
theorem e_snapE (h : PE X e (tM G W m)) : PE X e (tM G W (mSnapE m)) := by
  refine h.sm fun σ H Q q => ?_
  obtain ⟨A, ρ, S, he, s, p⟩ := q
  unfold mSnapE at p
  let B : Al := ⟨[], A.all.filter (nonL H)⟩
  have eB : ∀ a, a ∈ B.all ↔ a ∈ A.all ∧ nonL H a = true := fun a => by
    show a ∈ ([] : List (List Addr)).flatten ++ A.all.filter (nonL H) ↔ _
    rw [List.flatten_nil, List.nil_append, List.mem_filter]
  have hnb : ∀ a, a ∉ B.live.flatten := fun a => by
    show a ∉ ([] : List (List Addr)).flatten
    simp
  have hB : ∀ a, a ∉ A.all → a ∉ B.all := fun a n z => n ((eB a).mp z).1
  have hL : ∀ a vs, H a = some (.lst vs) → a ∉ B.all := fun a vs e z => by
    have := ((eB a).mp z).2
    unfold nonL at this
    rw [e] at this
    cases this
  have s0 : StR G B [] H := ⟨rfl, by
    show (([] : List (List Addr)).flatten ++ A.all.filter (nonL H)).Nodup
    rw [List.flatten_nil, List.nil_append]
    exact List.Pairwise.filter _ s.nd, fun a ha => s.alive a ((eB a).mp ha).1, (fun i l o e => by simp [B] at e), s.tabs.out hB⟩
  have e0 : EnvR G B H (ρ.map (deepE S)) σ := by
    refine ⟨by rw [List.length_map]; exact he.1, fun i d q => ?_⟩
    obtain ⟨d0, t, q1, q2, rfl⟩ := deepE_at q
    obtain ⟨v, q3, q4⟩ := he.2 i d0 q1
    exact ⟨v, q3, deep_rvs hB hL s 3 d0 v t q4 q2⟩
  refine ⟨B, ρ.map (deepE S), [], e0, s0, ?_⟩
  have kp : ∀ A' H', Ext B H A' H' → ∀ a u, H a = some u → a ∈ A.all → H' a = some u := fun A' H' x a u e m => by
    by_cases hn : nonL H a = true
    · exact x.keepH a u e (hnb _) (List.mem_filter.mpr ⟨m, hn⟩)
    · refine (x.keep a u e (hnb _)).1.eq (fun ⟨kvs, z⟩ => ?_) fun ps z => ?_
      all_goals
        subst z
        unfold nonL at hn
        rw [e] at hn
        exact hn rfl
  have key : ∀ A' H', Ext B H A' H' → TabsA G A' H' → Ext A H A H' ∧ StR G A S H' := by
    intro A' H' x tb
    have x1 : Ext A H A H' := ⟨fun _ _ e => .inl e, fun _ _ _ _ => Iff.rfl, fun a u e n => ⟨(x.keep a u e (hnb _)).1, n⟩, fun a u e n m => kp A' H' x a u e (List.mem_append_right _ m)⟩
    refine ⟨x1, ⟨s.len, s.nd, fun a ha => ?_, fun i l o e1 e2 => (s.box i l o e1 e2).keep x1.kp fun a ha => ?_, s.tabs.back tb fun a q m n e => ?_⟩⟩
    · obtain ⟨u, e⟩ := s.alive a ha
      exact ⟨u, kp A' H' x a u e ha⟩
    · obtain ⟨u, e⟩ := s.alive' e1 ha
      rw [kp A' H' x a u e (List.mem_append_left _ (live_set e1 a ha)), e]
    · obtain ⟨u, e0⟩ := s.alive a m
      by_cases hn : nonL H a = true
      · exact (mem_all.mp n).2 ((x.hid a u e0 (hnb _)).mpr (List.mem_filter.mpr ⟨m, hn⟩))
      · unfold nonL at hn
        rw [e0] at hn
        cases u <;> first | exact hn rfl | exact codeO_lst (Option.some.inj (e.symm.trans (kp A' H' x a _ e0 m)))
  cases eF : m (ρ.map (deepE S)) [] with
  | bad => rw [eF] at p; exact p.elim
  | er c t S1 => rw [eF] at p; exact p.elim
  | ok d S1 =>
    rw [eF] at p
    cases d with
    | loc n => exact p.elim
    | d t =>
      simp only at p
      split at p
      · rename_i hf
        intro A' H' x s1 v rv
        obtain ⟨x1, s2⟩ := key A' H' x s1.tabs
        refine p A H' x1 s2 v ?_
        refine rv_noLst (A := A') (fun a u ha hu n z => ?_) hf rv
        obtain ⟨u', e⟩ := s.alive a z
        have e' := kp A' H' x a u' e z
        rw [ha] at e'
        cases e'
        by_cases hn : nonL H a = true
        · exact (mem_all.mp n).2 ((x.hid a u e (hnb _)).mpr (List.mem_filter.mpr ⟨z, hn⟩))
        · unfold nonL at hn
          rw [e] at hn
          cases u <;> first | exact hu _ rfl | exact hn rfl
      · exact p.elim
end
end Sm
set_option maxHeartbeats 1000000
namespace Sm
open PySem PySem.Spec PyProof.Rows L2
structure CalMK (P : Program) (w : World) (G : Gs) (mg : Str → Option Value) (base : Heap) (k c : Nat) (x : Str) (ks : List Str) (F : FM) : Prop where
  ex : ∃ f, SlX.SCls G.K (G.cls c) ∧ Meth G.K (G.cls c) x f ∧ CallW P w G mg base k f 1 ks F
structure CalIK (P : Program) (w : World) (G : Gs) (mg : Str → Option Value) (base : Heap) (k c : Nat) (x : Str) (ks : List Str) (F : FM) : Prop where
  ex : ∃ f, mg x = some (.ref (G.cls c)) ∧ Mk G.K (G.cls c) f ∧ CallW P w G mg base k f 1 ks F
section
variable {X : Cx} {G : Gs} {W : WX} {k : Nat} {F : FM} {c : Nat} {m x : Str} {pos apos p : Pos} {o : Expr} {mo : M Dv} {mk : M (List Dv)} {kws : List Keyword} {ks : List Str}
end
end Sm
namespace Sm
open PySem PySem.Spec PyProof.Rows L2
def FnRK (P : Program) (w : World) (K : PySem.W.Frag) (mg : Str → Option Value) (base : Heap) (k : Nat) (g : Addr) (ks : List Str) (sp : Sp) : Prop :=
  ∀ (A : Around) (outer : List PySem.Env) (s : Shared) (H : Hp) (v0 : Value) (x0 : V) (ws : List Value) (zs : List V) (Q : VK) (E : XK), Room k A → Env0 P w K mg base A outer s H →
    RelV x0 v0 → Vals zs ws → zs.length = ks.length → sp (x0 :: zs) H Q E → codeAny (model P w) A (.call (.ref g) ⟨[v0], ks.zip ws⟩) (CR (L2.CX P w) outer P w H s Q E) s
section
variable {P : Program} {w : World} {G : Gs} {mg : Str → Option Value} {base : Heap}
structure CalCK (P : Program) (w : World) (G : Gs) (mg : Str → Option Value) (base : Heap) (k c : Nat) (x m : Str) (ks : List Str) (F : FM) : Prop where
  ex : ∃ mc q g, mg x = some (.ref (G.cls c)) ∧ ClX.CRead G.K (G.cls c) mc ∧ ClX.CMet G.K (G.cls c) mc m q g ∧ FnRK P w G.K mg base k g ks (SpC G F)
end
section
variable {X : Cx} {G : Gs} {W : WX} {k : Nat} {ks : List Str} {F : FM} {x m : Str} {p pos apos : Pos} {kws : List Keyword} {mk : M (List Dv)} {c : Nat}
end
end Sm
namespace Sm
open PySem PySem.Spec PyProof.Rows L2
structure IsBL (G : Gs) (l : List Nat) (b : String) : Prop where
  own : ∀ c, c ∈ l → ClK G.K (G.cls c) ∧ PySem.W.kitOne G.K (.ref (G.cls c)) (.type b) = some false
section
variable {X : Cx} {G : Gs} {W : WX} {k : Nat} {l : List Nat} {b : String} {p pos : Pos} {e T : Expr} {m : M Dv}
end
def pNotInS : P2 := fun d e S => match d, e with
  | .d (.str i), .d (.str j) => some (.d (.bl (Builtin.Str.occurrences j i 0 j.length 1).isEmpty), S)
  | _, _ => none
theorem o_notInS {X : Cx} {G : Gs} : OpR X (compareOp .NotIn) (q2 G pNotInS) := by
  intro pins s σ H x y v u Q I rx ry h
  obtain ⟨A, S, d, e, rd, re, st, p⟩ := h
  unfold pNotInS at p
  split at p
  · rename_i i j
    obtain rfl : x = .str i := rd
    obtain rfl : y = .str j := re
    obtain ⟨t, rfl⟩ := rx
    obtain ⟨t', rfl⟩ := ry
    exact PyProof.Rows.notIn_str (fin_bl I (Po.now p st _ rfl) (by simp))
  · exact p.elim
end Sm
set_option maxHeartbeats 1000000
namespace Sm
open PySem PySem.Spec PyProof.Rows L2
def mSplit (mo me : M Dv) : M Dv := fun ρ S => (mo ρ S).bind fun d S1 => match d with
  | .d (.str a) => (me ρ S1).bind fun e S2 => (match e with
    | .d (.str b) => if (b.length == 0) = false ∧ a.length + 2 ≤ sizeLine then .ok (.d (.lst ((Txt.split a b).map .str))) S2 else .bad
    | _ => .bad)
  | _ => .bad
def mJoin (mo me : M Dv) : M Dv := fun ρ S => (mo ρ S).bind fun d S1 => match d with
  | .d (.str a) => (me ρ S1).bind fun e S2 => (match (seqT S2 e).bind strsOf with
    | some ys => if (ys.map (·.length)).sum + ys.length * a.length ≤ 16777216 then .ok (.d (.str (Txt.join a ys))) S2 else .bad
    | none => .bad)
  | _ => .bad
def mEndsW (mo me : M Dv) : M Dv := fun ρ S => (mo ρ S).bind fun d S1 => match d with
  | .d (.str a) => (me ρ S1).bind fun e S2 => (match e with
    | .d (.str b) => .ok (.d (.bl (Txt.endswith a b))) S2
    | _ => .bad)
  | _ => .bad
section
variable {X : Cx} {G : Gs} {W : WX} {o e : Expr} {mo me : M Dv} {apos pos : Pos}
theorem e_split (ho : PE X o (tM G W mo)) (he : PE X e (tM G W me)) (h1 : starEach [e] X.env = [(false, eval e X.env)] := by rfl) (h2 : attributeBase o "split" X.env (eval o X.env) = eval o X.env := by rfl) (h3 : (apos.endLine == pos.line) = true := by rfl) :
    PE X (.Call (.Attribute o "split" apos) [e] [] pos) (tM G W (mSplit mo me)) := by
  refine (pe_split ho he h1 h2 h3).sm fun σ H Q h => ?_
  obtain ⟨A, ρ, S, er, st, p0⟩ := h
  unfold mSplit at p0
  refine ⟨A, ρ, S, er, st, Po.step p0 fun d S1 A1 H1 x1 s1 p1 v rv => ?_⟩
  split at p1
  · rename_i a
    have ev : v = .str a := rv
    refine ⟨⟨a, ev⟩, A1, ρ, S1, er.kp x1.kp, s1, Po.step p1 fun e S2 A2 H2 x2 s2 p2 w rw => ?_⟩
    split at p2
    · rename_i b
      split at p2
      · rename_i hb
        exact ⟨a, b, ev, congrArg (fun z => [z]) (rw : w = .str b), hb.1, hb.2, fun p hp => Po.at p2 (Ext.new hp) (s2.new hp) _ (RV.lst_new s2 hp (rvs_strs _))⟩
      · exact p2.elim
    · exact p2.elim
  · exact p1.elim
theorem e_join (hK : G.K = X.K) (ho : PE X o (tM G W mo)) (he : PE X e (tM G W me)) (h1 : starEach [e] X.env = [(false, eval e X.env)] := by rfl) (h2 : attributeBase o "join" X.env (eval o X.env) = eval o X.env := by rfl) (h3 : (apos.endLine == pos.line) = true := by rfl) :
    PE X (.Call (.Attribute o "join" apos) [e] [] pos) (tM G W (mJoin mo me)) := by
  refine (pe_join ho he h1 h2 h3).sm fun σ H Q h => ?_
  obtain ⟨A, ρ, S, er, st, p0⟩ := h
  unfold mJoin at p0
  refine ⟨A, ρ, S, er, st, Po.step p0 fun d S1 A1 H1 x1 s1 p1 v rv => ?_⟩
  split at p1
  · rename_i a
    have ev : v = .str a := rv
    refine ⟨⟨a, ev⟩, A1, ρ, S1, er.kp x1.kp, s1, Po.step p1 fun e S2 A2 H2 x2 s2 p2 w rw => ?_⟩
    split at p2
    · rename_i ys ey
      split at p2
      · rename_i hb
        obtain ⟨ts, e1, e2⟩ := Option.bind_eq_some_iff.mp ey
        obtain ⟨ds, e3, e4⟩ := Option.bind_eq_some_iff.mp (show (seqAt S2 e).bind pures = some ts from e1)
        obtain ⟨q, vs, rfl, hq, hv⟩ := seqAt_rd s2 rw e3
        have evs := strs_rvs e2 (pures_rvs e4 hv)
        subst evs
        rw [hK] at hq
        exact ⟨a, q, ys, ev, rfl, hq, hb, Po.now p2 s2 _ rfl⟩
      · exact p2.elim
    · exact p2.elim
  · exact p1.elim
end
end Sm
set_option maxHeartbeats 1000000
namespace Sm
open PySem PySem.Spec PyProof.Rows L2
theorem star_list {prog : Program} {w : World} {A : Around} {E : Value → Shared → Prop} {s : Shared} {l : Addr} {items : Array Value} {Q : List Value → Shared → Prop} (hl : s.heap.IsList l items) (hh : A.handled = none) (h1 : 1 ≤ items.size) (hz : items.size ≤ sizeLine)
    (q : ∀ (h' : Heap) (tk : Nat), (∀ b o, s.heap.get? b = some o → h'.get? b = some o) → Q (items.toList.take 1 ++ [.ref h'.objs.size]) ⟨h'.push { cls := .type "list", data := .seq (items.toList.drop 1).toArray }, s.gens, s.drawn, tk, s.os⟩) : wpAny (model prog w) A (unpackItems (.ref l) 2 (some 1)) Q E s := by
  have hlt : l < s.heap.objs.size := by
    obtain ⟨o, ho, _⟩ := hl
    exact Heap.lt_size ho
  unfold unpackItems
  refine wpAny_bind ?_
  unfold notIterableAtAll
  refine wpAny_bind (wpAny_specialOf hl.typeIs slot_list_iter.lookup ?_)
  refine wpAny_pure ?_
  dsimp only
  rw [if_neg (show ¬ (false = true) from Bool.false_ne_true)]
  refine wpAny_bind (wpAny_holding (wpAny_pyIter_list hl ?_))
  generalize hg : s.heap.push { cls := Value.type "list_iterator", data := Data.fields #[Value.ref l, Value.int 0 0] } = g
  have gl : g.IsList l items := by
    rw [← hg]
    exact hl.push _
  have gi : g.IsListIter s.heap.objs.size l 0 := by
    rw [← hg]
    exact ⟨_, Heap.get?_push_size _ rfl, rfl, rfl⟩
  have gk : ∀ b o, s.heap.get? b = some o → g.get? b = some o := fun b o z => by
    rw [← hg]
    exact Heap.get?_push_of_some _ z
  have gs : g.objs.size = s.heap.objs.size + 1 := by
    rw [← hg, Heap.size_push]
  have hne : l ≠ s.heap.objs.size := Nat.ne_of_lt hlt
  refine wpAny_bind (wpAny_holding (PySem.W.kun_draw hne 1 0 _ _ gi gl (by omega) fun h2 i2 same => ?_))
  have k2 : ∀ b o, s.heap.get? b = some o → h2.get? b = some o := fun b o z => (same.2 b (Nat.ne_of_lt (Heap.lt_size z))).trans (gk b o z)
  have l2 : h2.IsList l items := by
    obtain ⟨o, ho, e1, e2⟩ := gl
    exact ⟨o, (same.2 l hne).trans ho, e1, e2⟩
  have len1 : ((items.toList.drop 0).take 1).length = 1 := by
    rw [List.length_take, List.drop_zero, Array.length_toList]
    omega
  rw [if_neg (by rw [len1]; omega)]
  refine wpAny_bind (wpAny_holding (PySem.W.kun_collect (I := s.heap.objs.size) (ax := l) (items := items) (k := 1) (T := "list_iterator") (.inr (.inr (.inl rfl))) (Walks.list (by exact hh) _ _ hne items) (fun i u z => z.1.typeIs) h1 ⟨i2, l2⟩ (by show s.heap.objs.size < h2.objs.size; rw [same.1, gs]; omega) (by show l < h2.objs.size; rw [same.1, gs]; exact Nat.lt_succ_of_lt hlt) (fun h3 tk k3 => ?_) hz))
  have k4 : ∀ b o, s.heap.get? b = some o → h3.get? b = some o := fun b o z => k3 b o (Nat.ne_of_lt (Heap.lt_size z)) (k2 b o z)
  rw [if_neg (by omega)]
  have e0 : (items.toList.drop 1).length - (2 - 1 - 1) = (items.toList.drop 1).length := by omega
  refine wpAny_bind ?_
  have lz : (items.toList.drop 1).length ≤ sizeLine := by
    rw [List.length_drop, Array.length_toList]
    omega
  refine wpAny_newList ?_ (by rw [List.length_take]; exact Nat.le_trans (Nat.min_le_right _ _) lz)
  have q3 := q h3 tk k4
  rw [show (2 : Nat) - 1 - 1 = 0 from rfl, Nat.sub_zero, List.take_length, List.drop_length, List.append_nil, List.drop_zero]
  exact wpAny_pure q3
def gStar1 (i j : Nat) : GM := fun d ρ => match d with
  | .d (.lst (x :: xs)) => some ((ρ.set i (some (.d x))).set j (some (.d (.lst xs))))
  | _ => none
section
variable {X : Cx} {G : Gs} {W : WX} {e : Expr} {mo : M Dv} {x y : Str} {px py ps pt pos : Pos} {kt i j : Nat}
theorem pg_star1 {e0 e1 : Expr} {t : TGs} (hc : X.calm = true) (h : PGs X [e0, e1] t) (n2 : (assignEach [e0, .Starred e1 ps] X.env).length = 2 := by rfl) (n1 : (assignEach [e0, .Starred e1 ps] X.env).findIdx? (fun z => z.1) = some 1 := by rfl) (ns : (assignEach [e0, .Starred e1 ps] X.env).map (·.2) = (assignEach [e0, e1] X.env).map (·.2) := by rfl) :
    PG X (.Tuple [e0, .Starred e1 ps] kt pt) (fun v σ H Q => ∃ a u us, v = .ref a ∧ SqL X.K H a (u :: us) ∧ ∀ D, H D = none → t [u, .ref D] σ (upd H D (.lst us)) Q) := by
  refine ⟨fun pins s σ H v u0 Q I r h0 => ?_⟩
  obtain ⟨a, u, us, rfl, hq, q⟩ := h0
  cases (show u0 = Value.ref a from r)
  obtain ⟨its, rv, pl, hz⟩ := I.list hq
  cases rv with
  | @cons _ w _ ws ru rus =>
    have hlen := rus.length
    rw [PySem.assign]
    refine wpAny_bind (wpAny_standAt ?_)
    unfold unpack
    rw [n2, n1, ns]
    refine wpAny_bind (wpAny_holding (star_list pl.isList (I.ok.hd hc) (by simp) (by simp only [List.size_toArray, List.length_cons]; rw [List.length_cons] at hz; omega) fun h' tk kp => ?_))
    have I1 : Inv X pins σ H { s with heap := h', toks := tk } := I.kept (t' := tk) kp
    have I2 : Inv X pins σ (upd H h'.objs.size (.lst us)) { s with heap := h'.push { cls := .type "list", data := .seq ws.toArray }, toks := tk } :=
      I1.laid (t' := tk) (fun b o z => Heap.get?_push_of_some _ z) (Nat.le_refl _) (by
        refine (show ObjOk X.prog X.w _ _ _ (.lst us) from ⟨by rw [List.length_cons] at hz; omega, ws, 0, rus, ?_⟩)
        exact Heap.get?_push_size _ rfl)
    exact h.run pins _ σ _ [u, .ref h'.objs.size] [w, .ref h'.objs.size] Q I2 (.cons ru (.cons rfl .nil)) (q _ (I1.hok.fresh (Nat.le_refl _)))
theorem yasgStar {k : Nat} (i j : Nat) (B : Bx X G W k) (h : PE X e (tM G W mo)) (hi : X.N[i]? = some x := by rfl) (hj : X.N[j]? = some y := by rfl) (hx : Loc X.env.scope x := by first | exact Or.inl rfl | exact Or.inr rfl) (hy : Loc X.env.scope y := by first | exact Or.inl rfl | exact Or.inr rfl)
    (hf : X.fn x = true ∨ X.env.scope.names.lookup x = some .local := by first | exact Or.inl rfl | exact Or.inr rfl) (hf2 : X.fn y = true ∨ X.env.scope.names.lookup y = some .local := by first | exact Or.inl rfl | exact Or.inr rfl)
    (n2 : (assignEach [.Name x px, .Starred (.Name y py) ps] X.env).length = 2 := by rfl) (n1 : (assignEach [.Name x px, .Starred (.Name y py) ps] X.env).findIdx? (fun z => z.1) = some 1 := by rfl) (ns : (assignEach [.Name x px, .Starred (.Name y py) ps] X.env).map (·.2) = (assignEach [.Name x px, .Name y py] X.env).map (·.2) := by rfl)
    (nc : (assignEach [.Name x px, .Name y py] X.env).map (·.2) = assign (.Name x px) X.env :: (assignEach [.Name y py] X.env).map (·.2) := by rfl) (nc2 : (assignEach [.Name y py] X.env).map (·.2) = assign (.Name y py) X.env :: (assignEach [] X.env).map (·.2) := by rfl)
    (hs : swapsWithSole [.Tuple [.Name x px, .Starred (.Name y py) ps] kt pt] e pos.line X.env = pure false := by rfl) (hw : swappedStores [.Tuple [.Name x px, .Starred (.Name y py) ps] kt pt] e X.env = pure none := by rfl) (h1 : (assignEach [.Tuple [.Name x px, .Starred (.Name y py) ps] kt pt] X.env).map (·.2) = [assign (.Tuple [.Name x px, .Starred (.Name y py) ps] kt pt) X.env] := by rfl) :
    PS X (.Assign [.Tuple [.Name x px, .Starred (.Name y py) ps] kt pt] e pos) (tMS G W (sAsg (gStar1 i j) mo)) := by
  refine (ps_asg h (pg_star1 B.calm (pgs_cons (pg_name B.nd hi hx hf) (pgs_cons (pg_name B.nd hj hy hf2) pgs_nil nc2) nc) n2 n1 ns) hs hw h1).sm fun D σ H h => ?_
  obtain ⟨A, ρ, S, he, st, p⟩ := h
  refine ⟨A, ρ, S, he, st, PoS.step he p fun d S1 A1 H1 x1 s er q v rv => ?_⟩
  obtain ⟨ρ1, e1, q1⟩ := oz_po q
  unfold gStar1 at e1
  split at e1
  · rename_i t ts
    cases e1
    obtain ⟨a, vs, rfl, ht, hv⟩ := (show RV G A1 H1 (.lst (t :: ts)) v from rv)
    obtain ⟨u, us, rfl, r1, r2⟩ := hv
    refine ⟨a, u, us, rfl, by rw [← B.hK]; exact ht.sq, fun D' hD => ⟨u, [.ref D'], rfl, .ref D', [], rfl, rfl, ?_⟩⟩
    have kq := (Ext.new (A := A1) (o := .lst us) hD)
    exact q1 A1 _ _ kq (s.new hD) (((er.kp kq.kp).set (d := .d t) (RV.kp r1 kq.kp)).set (d := .d (.lst ts)) (RV.lst_new s hD r2))
  · cases e1
end
section
variable {X : Cx} {G : Gs} {W : WX} {o e : Expr} {mo me : M Dv} {apos pos : Pos}
theorem e_endsw (ho : PE X o (tM G W mo)) (he : PE X e (tM G W me)) (h1 : starEach [e] X.env = [(false, eval e X.env)] := by rfl) (h2 : attributeBase o "endswith" X.env (eval o X.env) = eval o X.env := by rfl) (h3 : (apos.endLine == pos.line) = true := by rfl) :
    PE X (.Call (.Attribute o "endswith" apos) [e] [] pos) (tM G W (mEndsW mo me)) := by
  refine (pe_m1 F.slot_str_endswith F.type_str_endswith mt_endswith ho he h1 h2 h3).sm fun σ H Q h => ?_
  obtain ⟨A, ρ, S, er, st, p0⟩ := h
  unfold mEndsW at p0
  refine ⟨A, ρ, S, er, st, Po.step p0 fun d S1 A1 H1 x1 s1 p1 v rv => ?_⟩
  split at p1
  · rename_i a
    have ev : v = .str a := rv
    refine ⟨⟨a, ev⟩, A1, ρ, S1, er.kp x1.kp, s1, Po.step p1 fun e S2 A2 H2 x2 s2 p2 w rw => ?_⟩
    split at p2
    · rename_i b
      exact ⟨a, b, ev, congrArg (fun z => [z]) (rw : w = .str b), Po.now p2 s2 _ rfl⟩
    · exact p2.elim
  · exact p1.elim
end
end Sm
set_option maxHeartbeats 1000000
namespace Sm
open PySem PySem.Spec PyProof.Rows L2
section
variable {X : Cx} {pins : List (Addr × Obj)} {σ : L2.St} {H : Hp} {s : Shared}
end
section
variable {X : Cx} {x : Str} {c0 : Value} {n v : Str} {i j : Nat} {body : List Stmt} {np pos pos' p1 p2 p3 : Pos} {tb : WX → TS} {W : WX}
end
section
variable {X : Cx} {G : Gs} {W : WX} {k : Nat} {x : Str} {c0 : Value} {n v : Str} {i j : Nat} {body : List Stmt} {np pos pos' p1 p2 p3 : Pos} {mb : SM} {hit : Nat → Option Bool}
end
section
variable {X : Cx} {G : Gs} {W : WX} {k : Nat} {e : Expr} {p pos pos' tpos : Pos} {m : M Dv} {bs : List Bool}
end
end Sm
namespace K14
open PySem PySem.Spec PyProof.Rows L2 Sm Hn
def b_is_name : SM := sRet (mAnd (m1 (pIsa ["str"]) (mV 0)) (mAnd (mChain pLe pLe (mC (.int 1)) (mN pLen (aCons (mV 0) (aNil))) (mC (.int 8))) (mN pAll (aCons (mN pLst (mLcI [1] (iAny (mV 0)) (gN 1) (cYes) (m2 pInS (mV 1) (mC (.str ("abcdefghijklmnopqrstuvwxyz" : Str)))))) (aNil)))))
def R_is_name : FM := runB 2 1 b_is_name
def F_is_name : FM := iso (R_is_name)
def b_rises : SM := sRet (mN pAll (aCons (mN pLst (mLcI [1, 2] (iRg zp2 (aCons (mV 0) (aCons (mSl pSl (mV 0) (oPt (mC (.int 1))) (oNo)) (aNil)))) (gT (gsCons (gN 1) (gsCons (gN 2) (gsNil)))) (cYes) (m2 pLt (mV 1) (mV 2)))) (aNil)))
def R_rises : FM := runB 3 1 b_rises
def F_rises : FM := iso (R_rises)
def b_is_set : SM := sRet (mAnd (m1 (pIsa ["tuple"]) (mV 0)) (mAnd (mN pAll (aCons (mN pLst (mLcI [1] (iSeq (mV 0)) (gN 1) (cYes) (mF F_is_name (aCons (mV 1) (aNil))))) (aNil))) (mF F_rises (aCons (mV 0) (aNil)))))
def R_is_set : FM := runB 2 1 b_is_set
def F_is_set : FM := iso (R_is_set)
def b_Sheet_init : SM := sSeq (sAsg (gT (gsCons (gN 2) (gsCons (gN 3) (gsNil)))) (mF (F_tupled 8) (aCons (mV 1) (aNil))))
    (sSeq (sFld 0 2 (mV 0) (mDc pDct [4, 5] (iSeq (mV 2)) (gT (gsCons (gN 4) (gsCons (gN 5) (gsNil)))) (cYes) (mV 4) (mV 5)))
    (sSeq (sFld 0 0 (mV 0) (mV 3))
    (sFld 0 1 (mV 0) (mDc pDct [4] (iSeq (m2 pAdd (mN pList (aCons (m1 (pFld 0 2) (mV 0)) (aNil))) (mN pList (aCons (mV 3) (aNil))))) (gN 4) (cYes) (mV 4) (mC (.bl true))))))
def R_Sheet_init : FM := runB 6 2 b_Sheet_init
def F_Sheet_init : FM := R_Sheet_init
def b_Sheet_names : SM := sRet (mN pTuple (aCons (m1 (pFld 0 2) (mV 0)) (aNil)))
def R_Sheet_names : FM := runB 1 1 b_Sheet_names
def F_Sheet_names : FM := iso (R_Sheet_names)
def b_Sheet_empties : SM := sRet (m1 (pFld 0 0) (mV 0))
def R_Sheet_empties : FM := runB 1 1 b_Sheet_empties
def F_Sheet_empties : FM := iso (R_Sheet_empties)
def b_Sheet_wishes : SM := sRet (m2 pIx (m1 (pFld 0 2) (mV 0)) (mV 1))
def R_Sheet_wishes : FM := runB 2 2 b_Sheet_wishes
def F_Sheet_wishes : FM := iso (R_Sheet_wishes)
def b_sheet_text : SM := sSeq (sSet 1 (mF (isoMk 0 F_Sheet_init) (aCons (mV 0) (aNil))))
    (sSeq (sSet 2 (mN pLstB (mLcI [3] (iSeq (mMeth 0 F_Sheet_names (mV 1) aNil)) (gN 3) (cYes) (mJoin (mC (.str (" " : Str))) (mN pLst (aCons (m2 pAdd (mV 3) (mC (.str (":" : Str)))) (aStar (mMeth 0 F_Sheet_wishes (mV 1) (aCons (mV 3) (aNil))) (aNil))))))))
    (sSeq (sDrop (mLm pExtend (mV 2) (aCons (m2 pMul (mN pLst (aCons (mJoin (mC (.str (" " : Str))) (mN pLst (aCons (mC (.str ("+" : Str))) (aStar (mMeth 0 F_Sheet_empties (mV 1) aNil) (aNil))))) (aNil))) (mN pInt (aCons (m2 pGt (mN pLen (aCons (mMeth 0 F_Sheet_empties (mV 1) aNil) (aNil))) (mC (.int 0))) (aNil)))) (aNil))))
    (sRet (mJoin (mC (.str ("\n" : Str))) (mV 2)))))
def R_sheet_text : FM := runB 4 1 b_sheet_text
def F_sheet_text : FM := iso (R_sheet_text)
def b_row_in : SM := sSeq (sAsg (gStar1 1 2) (mSplit (mV 0) (mC (.str (" " : Str)))))
    (sSeq (sPars [3, 4] (aCons (mIf (mTru pTru (mEndsW (mV 1) (mC (.str (":" : Str))))) (mSl pSl (mV 1) (oNo) (oPt (m1 pNeg (mC (.int 1))))) (mV 1)) (aCons (mN pTuple (aCons (mV 2) (aNil))) (aNil))))
    (sSeq (sIf (cOr (cNot (mTru pTru (mEndsW (mV 1) (mC (.str (":" : Str)))))) (cOr (cNot (mTru pTru (mF F_is_name (aCons (mV 3) (aNil))))) (cOr (cNot (mTru pTru (mF F_is_set (aCons (mV 4) (aNil))))) (mTst (m2 pIn (mV 3) (mV 4)))))) (sRet (mC .non)) (sNil))
    (sRet (mN pTup (aCons (mV 3) (aCons (mV 4) (aNil)))))))
def R_row_in : FM := runB 5 1 b_row_in
def F_row_in : FM := iso (R_row_in)
def b_empties_in : SM := sSeq (sAsg (gStar1 2 3) (mSplit (mV 0) (mC (.str (" " : Str)))))
    (sSeq (sSet 4 (mN pTuple (aCons (mV 3) (aNil))))
    (sSeq (sIf (cOr (mTst (m2 pNe (mV 2) (mC (.str ("+" : Str))))) (cOr (mTst (m2 pEq (mN pLen (aCons (mV 4) (aNil))) (mC (.int 0)))) (cNot (mTru pTru (mF F_is_set (aCons (mV 4) (aNil))))))) (sRet (mC .non)) (sNil))
    (sRet (mIf (mTru pTru (mN pAny (aCons (mN pLst (mLcI [5] (iSeq (mV 1)) (gN 5) (cYes) (m2 pIn (m2 pIx (mV 5) (mC (.int 0))) (mV 4)))) (aNil)))) (mC .non) (mV 4)))))
def R_empties_in : FM := runB 6 2 b_empties_in
def F_empties_in : FM := iso (R_empties_in)
abbrev l1_sheet_in : SM := sSeq (sPars [5, 6] (aCons (mF F_row_in (aCons (mV 4) (aNil))) (aCons (mSnapE (mF F_empties_in (aCons (mV 4) (aCons (mV 1) (aNil))))) (aNil))))
    (sSeq (sIf (cOr (mTst (m2 pGt (mN pLen (aCons (mV 2) (aNil))) (mC (.int 0)))) (cAnd (mTst (m2 pIsN (mV 5) (mC .non))) (mTst (m2 pIsN (mV 6) (mC .non))))) (sRaise 0 (mV 3)) (sNil))
    (sIf (mTst (m2 pIsN (mV 5) (mC .non))) (sSet 2 (mV 6)) (sIf (cAnd (mTst (m2 pGt (mN pLen (aCons (mV 1) (aNil))) (mC (.int 0)))) (mTst (m2 pGe (m2 pIx (m2 pIx (mV 1) (m1 pNeg (mC (.int 1)))) (mC (.int 0))) (m2 pIx (mV 5) (mC (.int 0)))))) (sRaise 0 (mV 3)) (sDrop (mLm pAppend (mV 1) (aCons (mV 5) (aNil)))))))
def b_sheet_in : SM := sSeq (sPars [1, 2] (aCons (mN pLstB (aNil)) (aCons (mN pTup (aNil)) (aNil))))
    (sSeq (sFor (iRg en1 (aCons (mIf (mTst (m2 pNe (mV 0) (mC (.str ("" : Str))))) (mSplit (mV 0) (mC (.str ("\n" : Str)))) (mN pLst (aNil))) (aNil))) (gT (gsCons (gN 3) (gsCons (gN 4) (gsNil)))) (l1_sheet_in))
    (sRet (mN pTup (aCons (mN pTuple (aCons (mV 1) (aNil))) (aCons (mV 2) (aNil))))))
def R_sheet_in : FM := runB 7 1 b_sheet_in
def F_sheet_in : FM := iso (R_sheet_in)
abbrev b__law_box : SM := boxM 785
abbrev R__law_box : FM := runB 3 2 b__law_box
abbrev F__law_box : FM := R__law_box
def b__law_is_word : SM := sSeq (sIf (cOr (cNot (mTru pTru (m1 (pIsa ["str"]) (mV 0)))) (cNot (mTst (mChain pLt pLt (mC (.int 0)) (mN pLen (aCons (mV 0) (aNil))) (mC (.int 9)))))) (sRet (mC (.bl false))) (sNil))
    (sRet (m2 pEq (mN pLst (mLcI [1] (iAny (mV 0)) (gN 1) (mTst (m2 pNotInS (mV 1) (mC (.str ("abcdefghijklmnopqrstuvwxyz" : Str))))) (mV 1))) (mN pLst (aNil))))
def R__law_is_word : FM := runB 2 1 b__law_is_word
def F__law_is_word : FM := iso (R__law_is_word)
def b__law_six : SM := sSeq (sSet 0 (mN pTup (aCons (mN pTup (aCons (mC (.str ("ann" : Str))) (aCons (mN pTup (aCons (mC (.str ("bob" : Str))) (aNil))) (aNil)))) (aCons (mN pTup (aCons (mC (.str ("bob" : Str))) (aCons (mN pTup (aCons (mC (.str ("ann" : Str))) (aCons (mC (.str ("cat" : Str))) (aNil)))) (aNil)))) (aCons (mN pTup (aCons (mC (.str ("cat" : Str))) (aCons (mN pTup (aCons (mC (.str ("bob" : Str))) (aCons (mC (.str ("dan" : Str))) (aCons (mC (.str ("eve" : Str))) (aNil))))) (aNil)))) (aCons (mN pTup (aCons (mC (.str ("dan" : Str))) (aCons (mN pTup (aCons (mC (.str ("cat" : Str))) (aCons (mC (.str ("eve" : Str))) (aNil)))) (aNil)))) (aNil)))))))
    (sRet (mN pTup (aCons (m2 pAdd (mV 0) (mN pTup (aCons (mN pTup (aCons (mC (.str ("eve" : Str))) (aCons (mN pTup (aCons (mC (.str ("cat" : Str))) (aCons (mC (.str ("dan" : Str))) (aNil)))) (aNil)))) (aCons (mN pTup (aCons (mC (.str ("fay" : Str))) (aCons (mN pTup (aCons (mC (.str ("cat" : Str))) (aCons (mC (.str ("new" : Str))) (aNil)))) (aNil)))) (aNil))))) (aCons (mN pTup (aCons (mC (.str ("new" : Str))) (aNil))) (aNil)))))
def R__law_six : FM := runB 1 0 b__law_six
def F__law_six : FM := iso (R__law_six)
def b__law_sheet : SM := sSeq (sSet 1 (mN pLst (mLcI [3] (iSeq (m2 pIx (mV 0) (mC (.int 0)))) (gN 3) (cYes) (m2 pAdd (m2 pAdd (m2 pIx (mV 3) (mC (.int 0))) (mC (.str (":" : Str)))) (mJoin (mC (.str ("" : Str))) (mN pLst (mLcI [2] (iSeq (m2 pIx (mV 3) (mC (.int 1)))) (gN 2) (cYes) (m2 pAdd (mC (.str (" " : Str))) (mV 2)))))))))
    (sRet (mJoin (mC (.str ("\n" : Str))) (m2 pAdd (mV 1) (m2 pMul (mN pLst (aCons (m2 pAdd (mC (.str ("+" : Str))) (mJoin (mC (.str ("" : Str))) (mN pLst (mLcI [2] (iSeq (m2 pIx (mV 0) (mC (.int 1)))) (gN 2) (cYes) (m2 pAdd (mC (.str (" " : Str))) (mV 2)))))) (aNil))) (mN pInt (aCons (m2 pNe (m2 pIx (mV 0) (mC (.int 1))) (mN pTup (aNil))) (aNil)))))))
def R__law_sheet : FM := runB 4 1 b__law_sheet
def F__law_sheet : FM := iso (R__law_sheet)
def b__law_bent_text : SM := sSeq (sPars [2, 3] (aCons (mF F__law_take (aCons (mV 0) (aCons (mC (.int 7)) (aNil)))) (aCons (mF F__law_take (aCons (mV 0) (aCons (m2 pAdd (mN pLen (aCons (mV 1) (aNil))) (mC (.int 1))) (aNil)))) (aNil))))
    (sSeq (sSet 4 (mN pLst (aCons (mC (.str (" " : Str))) (aCons (mC (.str ("\n" : Str))) (aCons (mC (.str (":" : Str))) (aCons (mC (.str ("+" : Str))) (aCons (mC (.str (">" : Str))) (aCons (mC (.str (";" : Str))) (aCons (mC (.str ("-" : Str))) (aCons (mC (.str ("a" : Str))) (aCons (mC (.str ("n" : Str))) (aCons (mC (.str ("z" : Str))) (aCons (mC (.str ("A" : Str))) (aCons (mC (.str ("0" : Str))) (aCons (mC (.str ("," : Str))) (aNil))))))))))))))))
    (sSeq (sIf (mTst (m2 pLt (mV 2) (mC (.int 2)))) (sRet (m2 pAdd (m2 pAdd (mSl pSl (mV 1) (oNo) (oPt (mV 3))) (mF Hd.F__law_of (aCons (mV 0) (aCons (mV 4) (aNil))))) (mSl pSl (mV 1) (oPt (mV 3)) (oNo)))) (sNil))
    (sSeq (sIf (mTst (m2 pEq (mV 2) (mC (.int 2)))) (sRet (m2 pAdd (mSl pSl (mV 1) (oNo) (oPt (mV 3))) (mSl pSl (mV 1) (oPt (m2 pAdd (mV 3) (mC (.int 1)))) (oNo)))) (sNil))
    (sSeq (sIf (mTst (m2 pEq (mV 2) (mC (.int 3)))) (sRet (m2 pAdd (m2 pAdd (mSl pSl (mV 1) (oNo) (oPt (mV 3))) (mSl pSl (mV 1) (oPt (mV 3)) (oPt (m2 pAdd (mV 3) (mC (.int 1)))))) (mSl pSl (mV 1) (oPt (mV 3)) (oNo)))) (sNil))
    (sSeq (sIf (mTst (m2 pEq (mV 2) (mC (.int 4)))) (sRet (m2 pAdd (m2 pAdd (mSl pSl (mV 1) (oNo) (oPt (mV 3))) (mF Hd.F__law_of (aCons (mV 0) (aCons (mV 4) (aNil))))) (mSl pSl (mV 1) (oPt (m2 pAdd (mV 3) (mC (.int 1)))) (oNo)))) (sNil))
    (sSeq (sSet 5 (mF Hd.F__law_of (aCons (mV 0) (aCons (mN pLst (aCons (mC (.str (" " : Str))) (aCons (mC (.str ("\n" : Str))) (aCons (mC (.str (">" : Str))) (aCons (mC (.str ("; " : Str))) (aNil)))))) (aNil)))))
    (sSeq (sSet 6 (mSplit (mV 1) (mV 5)))
    (sSeq (sSet 3 (mF F__law_take (aCons (mV 0) (aCons (mN pLen (aCons (mV 6) (aNil))) (aNil)))))
    (sSeq (sIf (mTst (m2 pEq (mV 2) (mC (.int 5)))) (sRet (mJoin (mV 5) (m2 pAdd (mSl pSl (mV 6) (oNo) (oPt (mV 3))) (mSl pSl (mV 6) (oPt (m2 pAdd (mV 3) (mC (.int 1)))) (oNo))))) (sNil))
    (sSeq (sSet 7 (m1 pRevL (mSl pSl (mV 6) (oPt (mV 3)) (oPt (m2 pAdd (mV 3) (mC (.int 2)))))))
    (sRet (mJoin (mV 5) (m2 pAdd (m2 pAdd (mSl pSl (mV 6) (oNo) (oPt (mV 3))) (mV 7)) (mSl pSl (mV 6) (oPt (m2 pAdd (mV 3) (mC (.int 2)))) (oNo)))))))))))))))
def R__law_bent_text : FM := runB 8 2 b__law_bent_text
def F__law_bent_text : FM := view (R__law_bent_text)
abbrev l1__law_read : SM := sSeq (sSet 5 (mSplit (mV 4) (mC (.str (" " : Str)))))
    (sSeq (sSet 6 (mSl pSl (mV 5) (oPt (mC (.int 1))) (oNo)))
    (sSeq (sIf (cOr (mTst (m2 pNe (mV 2) (mN pTup (aNil)))) (cOr (cNot (mTru pTru (mN pAll (aCons (mN pLst (mLcI [7] (iSeq (mV 6)) (gN 7) (cYes) (mF F__law_is_word (aCons (mV 7) (aNil))))) (aNil))))) (mTst (m2 pNe (mV 6) (m1 pSortSet (mV 6)))))) (sRet (mV 3)) (sNil))
    (sIf (mTst (m2 pEq (m2 pIx (mV 5) (mC (.int 0))) (mC (.str ("+" : Str))))) (sSeq (sIf (cOr (mTst (m2 pEq (mV 6) (mN pLst (aNil)))) (mTst (m2 pNe (mLcR pLst 1 [7] (gN 7) (mTst (m2 pIn (m2 pIx (mV 7) (mC (.int 0))) (mV 6))) (mV 7)) (mN pLst (aNil))))) (sRet (mV 3)) (sNil))
    (sSet 2 (mN pTuple (aCons (mV 6) (aNil))))) (sSeq (sSet 8 (mSl pSl (m2 pIx (mV 5) (mC (.int 0))) (oNo) (oPt (m1 pNeg (mC (.int 1))))))
    (sSeq (sIf (cOr (mTst (m2 pNe (mSl pSl (m2 pIx (mV 5) (mC (.int 0))) (oPt (m1 pNeg (mC (.int 1)))) (oNo)) (mC (.str (":" : Str))))) (cOr (cNot (mTru pTru (mF F__law_is_word (aCons (mV 8) (aNil))))) (mTst (m2 pIn (mV 8) (mV 6))))) (sRet (mV 3)) (sNil))
    (sSeq (sIf (cAnd (mTst (m2 pNe (mV 1) (mN pLst (aNil)))) (mTst (m2 pGe (m2 pIx (m2 pIx (mV 1) (m1 pNeg (mC (.int 1)))) (mC (.int 0))) (mV 8)))) (sRet (mV 3)) (sNil))
    (sDrop (mLm pAppend (mV 1) (aCons (mN pTup (aCons (mV 8) (aCons (mN pTuple (aCons (mV 6) (aNil))) (aNil)))) (aNil))))))))))
def b__law_read : SM := sSeq (sPars [1, 2] (aCons (mN pLstB (aNil)) (aCons (mN pTup (aNil)) (aNil))))
    (sSeq (sFor (iRg en1 (aCons (mIf (mTst (m2 pNe (mV 0) (mC (.str ("" : Str))))) (mSplit (mV 0) (mC (.str ("\n" : Str)))) (mN pLst (aNil))) (aNil))) (gT (gsCons (gN 3) (gsCons (gN 4) (gsNil)))) (l1__law_read))
    (sRet (mN pTup (aCons (mN pTuple (aCons (mV 1) (aNil))) (aCons (mV 2) (aNil))))))
def R__law_read : FM := runB 9 1 b__law_read
def F__law_read : FM := iso (R__law_read)
def b__law_heard : SM := sSeq (sAsg (gT (gsCons (gN 1) (gsCons (gN 2) (gsNil)))) (mN pTup (aCons (mC .non) (aCons (mC .non) (aNil)))))
    (sSeq (sTry (tbl [true]) 3 1 (sSet 2 (mF F_sheet_in (aCons (mV 0) (aNil)))))
    (sSeq (sIf (mTst (m2 pIsN (mV 1) (mC .non))) (sRet (mV 2)) (sNil))
    (sRet (mIf (cAnd (mTru pTru (m1 (pIsE (tbl [true])) (mV 1))) (mTru pTru (m1 (pIsE (tbl [true])) (mV 1)))) (m1 (pExf (tblT [true])) (mV 1)) (mC (.str ("other" : Str)))))))
def R__law_heard : FM := runB 4 1 b__law_heard
def F__law_heard : FM := iso (R__law_heard)
def b__law_by_hand_right : SM := sSeq (sPars [0, 1] (aCons (mF F__law_six aNil) (aCons (mN pTup (aCons (mN pTup (aNil)) (aCons (mN pTup (aNil)) (aNil)))) (aNil))))
    (sSeq (sSet 2 (mC (.str ("ann: bob\nbob: ann cat\ncat: bob dan eve\ndan: cat eve\neve: cat dan\nfay: cat new\n+ new" : Str))))
    (sSeq (sSet 3 (mN pLst (aCons (mF F_sheet_text (aCons (mV 0) (aNil))) (aCons (mF F_sheet_text (aCons (mV 1) (aNil))) (aCons (mF F_sheet_text (aCons (mN pTup (aCons (mN pTup (aNil)) (aCons (mN pTup (aCons (mC (.str ("a" : Str))) (aCons (mC (.str ("b" : Str))) (aNil)))) (aNil)))) (aNil))) (aCons (mF F_sheet_text (aCons (mN pTup (aCons (mN pTup (aCons (mN pTup (aCons (mC (.str ("b" : Str))) (aCons (mN pTup (aNil)) (aNil)))) (aNil))) (aCons (mN pTup (aNil)) (aNil)))) (aNil))) (aNil)))))))
    (sSeq (sSet 4 (mN pLst (aCons (mV 2) (aCons (mC (.str ("" : Str))) (aCons (mC (.str ("+ a b" : Str))) (aCons (mC (.str ("b:" : Str))) (aNil)))))))
    (sSeq (sSet 2 (mN pLst (aCons (mV 2) (aCons (mC (.str ("" : Str))) (aCons (mC (.str ("+ a b" : Str))) (aCons (mC (.str ("b:" : Str))) (aCons (mC (.str ("a:\na:" : Str))) (aCons (mC (.str ("b:\na:" : Str))) (aCons (mC (.str ("a:\n+ x\nb:" : Str))) (aCons (mC (.str ("a:\n+ x\n+ y" : Str))) (aCons (mC (.str ("a:\n+ x\n" : Str))) (aCons (mC (.str ("a:\n" : Str))) (aCons (mC (.str ("\n" : Str))) (aCons (mC (.str (" " : Str))) (aNil)))))))))))))))
    (sSeq (sSet 2 (m2 pAdd (mV 2) (mN pLst (aCons (mC (.str ("a: a" : Str))) (aCons (mC (.str ("a: c b" : Str))) (aCons (mC (.str ("a: b b" : Str))) (aCons (mC (.str ("a:  b" : Str))) (aCons (mC (.str ("a: b " : Str))) (aCons (mC (.str (" a: b" : Str))) (aCons (mC (.str ("a" : Str))) (aCons (mC (.str ("a b" : Str))) (aCons (mC (.str ("a : b" : Str))) (aCons (mC (.str (":" : Str))) (aCons (mC (.str (": a" : Str))) (aCons (mC (.str ("+" : Str))) (aNil))))))))))))))))
    (sSeq (sSet 2 (m2 pAdd (mV 2) (mN pLst (aCons (mC (.str ("+ " : Str))) (aCons (mC (.str ("+a" : Str))) (aNil))))))
    (sSeq (sSet 2 (m2 pAdd (mV 2) (mN pLst (aCons (mC (.str ("a:\n+ a" : Str))) (aCons (mC (.str ("a:\n+ b b" : Str))) (aCons (mC (.str ("+ b a" : Str))) (aCons (mC (.str ("A:" : Str))) (aCons (mC (.str ("a: B" : Str))) (aCons (mC (.str ("abcdefghi:" : Str))) (aCons (mC (.str ("abcdefgh: b" : Str))) (aCons (mC (.str ("a:b" : Str))) (aNil))))))))))))
    (sSeq (sSet 2 (m2 pAdd (mV 2) (mN pLst (aCons (mC (.str ("a: +" : Str))) (aCons (mC (.str ("+: a" : Str))) (aCons (mC (.str ("a:\n\nb:" : Str))) (aNil)))))))
    (sSeq (sSet 5 (m2 pAdd (mN pLst (aCons (mV 0) (aCons (mV 1) (aCons (mN pTup (aCons (mN pTup (aNil)) (aCons (mN pTup (aCons (mC (.str ("a" : Str))) (aCons (mC (.str ("b" : Str))) (aNil)))) (aNil)))) (aCons (mN pTup (aCons (mN pTup (aCons (mN pTup (aCons (mC (.str ("b" : Str))) (aCons (mN pTup (aNil)) (aNil)))) (aNil))) (aCons (mN pTup (aNil)) (aNil)))) (aCons (mC (.int 1)) (aCons (mC (.int 1)) (aCons (mC (.int 2)) (aCons (mC (.int 2)) (aCons (mC (.int 2)) (aCons (mC (.int 1)) (aCons (mC (.int 0)) (aCons (mC (.int 0)) (aNil)))))))))))))) (m2 pMul (mN pLst (aCons (mC (.int 0)) (aNil))) (mC (.int 14)))))
    (sSeq (sSet 5 (m2 pAdd (mV 5) (mN pLst (aCons (mC (.int 1)) (aCons (mC (.int 1)) (aCons (mC (.int 0)) (aCons (mC (.int 0)) (aCons (mC (.int 0)) (aCons (mC (.int 0)) (aCons (mN pTup (aCons (mN pTup (aCons (mN pTup (aCons (mC (.str ("abcdefgh" : Str))) (aCons (mN pTup (aCons (mC (.str ("b" : Str))) (aNil))) (aNil)))) (aNil))) (aCons (mN pTup (aNil)) (aNil)))) (aCons (mC (.int 0)) (aCons (mC (.int 0)) (aCons (mC (.int 0)) (aCons (mC (.int 1)) (aNil)))))))))))))))
    (sRet (mF (F__law_same 8) (aCons (m2 pAdd (mV 3) (mN pLst (mLcI [6] (iSeq (mV 2)) (gN 6) (cYes) (mF F__law_heard (aCons (mV 6) (aNil)))))) (aCons (m2 pAdd (mV 4) (mV 5)) (aNil)))))))))))))))
def R__law_by_hand_right : FM := runB 7 0 b__law_by_hand_right
def F__law_by_hand_right : FM := iso (R__law_by_hand_right)
abbrev l1__law_right : SM := sSeq (sSet 6 (mF F__law_bent_text (aCons (mV 0) (aCons (mV 3) (aNil)))))
    (sSeq (sSet 6 (mIf (mTst (m2 pGt (mV 5) (mC (.int 5)))) (mF F__law_bent_text (aCons (mV 0) (aCons (mV 6) (aNil)))) (mV 6)))
    (sIf (cNot (mTru pTru (mF (F__law_same 8) (aCons (mF F__law_heard (aCons (mV 6) (aNil))) (aCons (mF F__law_read (aCons (mV 6) (aNil))) (aNil)))))) (sRet (mC (.bl false))) (sNil)))
abbrev l2__law_right : SM := sSeq (sSet 2 (mF F__law_tome (aCons (mV 0) (aCons (mC (.int 8)) (aCons (mC (.int 3)) (aNil))))))
    (sSeq (sPars [3, 4] (aCons (mF F__law_sheet (aCons (mV 2) (aNil))) (aCons (mF (F__law_lists 8) (aCons (mV 2) (aNil))) (aNil))))
    (sSeq (sIf (cOr (cNot (mTru pTru (mF (F__law_same 8) (aCons (mN pLst (aCons (mF F_sheet_text (aCons (mV 2) (aNil))) (aCons (mF (kwF [0] [] F_sheet_text) (aCons (mV 4) (aNil))) (aNil)))) (aCons (mN pLst (aCons (mV 3) (aCons (mV 3) (aNil)))) (aNil)))))) (mTst (m2 pNe (mV 4) (mF (F__law_lists 8) (aCons (mV 2) (aNil)))))) (sRet (mC (.bl false))) (sNil))
    (sSeq (sIf (cNot (mTru pTru (mF (F__law_same 8) (aCons (mN pLst (aCons (mF F_sheet_in (aCons (mV 3) (aNil))) (aCons (mF (kwF [0] [] F_sheet_in) (aCons (mV 3) (aNil))) (aNil)))) (aCons (mN pLst (aCons (mV 2) (aCons (mV 2) (aNil)))) (aNil)))))) (sRet (mC (.bl false))) (sNil))
    (sFor (iRg rg1 (aCons (mC (.int 8)) (aNil))) (gN 5) (l1__law_right)))))
def b__law_right : SM := sSeq (sIf (cNot (mTru pTru (mF F__law_by_hand_right aNil))) (sRet (mC (.bl false))) (sNil))
    (sSeq (sFor (iRg rg1 (aCons (mC (.int 10)) (aNil))) (gN 1) (l2__law_right))
    (sRet (mC (.bl true))))
def R__law_right : FM := runB 7 1 b__law_right
def F__law_right : FM := view (R__law_right)
abbrev b_law : SM := lawM 3 F__law_box F__law_right
abbrev R_law : FM := runB 3 1 b_law
abbrev F_law : FM := R_law
end K14
namespace K14
open PySem PySem.Spec PyProof.Rows L2 Sm Hn
def topS (i : Nat) : Stmt := PySem.Challenge.pw_crosshomes_k14_texts_of_sheets.main.body.getD i (.Pass ⟨0, 0, 0, 0⟩)
section
variable {P : Program} {w : World} {G : Gs} {mg : Str → Option Value} {base : Heap}
abbrev s_tupled : Stmt := topS 9
theorem sc_tupled : FnScope ["thing", "part"] ["thing"] (defScope s_tupled) := ⟨rfl, rfl, rfl, by decide +kernel, rfl, by decide +kernel, by decide +kernel⟩
theorem w_tupled (z_isinstance : mg "isinstance" = none) (z_list : mg "list" = none) (z_tuple : mg "tuple" = none) {f : Addr} {fd : FuncData} (Fu : Fun G.K "tupled" "tupled" s_tupled f fd) (hmg : mg "tupled" = some (.ref f)) : ∀ n : Nat, Cal P w G mg base (0 + n) "tupled" 1 [] (F_tupled n)
  | 0 => Cal.bad hmg Fu.kp
  | n + 1 => by
    have hself := w_tupled z_isinstance z_list z_tuple Fu hmg n
    refine (Cal.fn hmg Fu (show FnOk P w G.K mg base (L2.CX P w) (0 + n + 1) f fd ["thing"] (SpM G (runB 2 1 (b_tupled (F_tupled n)))) from fn_ok2 rfl rfl Fu sc_tupled ?_) (Fu.binds (ps := ["thing"]) fun _ _ _ _ _ _ us hl => match us, hl with | [_], _ => rfl)).isoC
    exact fun cdv A outer s H E B hp =>
        ss_one (s_ret (e_if (xtru B (xisaT B z_isinstance ["list", "tuple"] (xv 0) (pa_cons (xty z_list PyProof.Rows.boot_list) (pa_cons (xty z_tuple PyProof.Rows.boot_tuple) (pa_nil))))) (xt (b_tuple B.hK B.calm) z_tuple PyProof.Rows.boot_tuple (xa (ylc [("part", 1)] lEnd B (i_seq (Bx.hK B) (xv 0)) (fun s1 H1 C1 cl1 fp1 => yname 1 (B.blk s1 H1 _ _ fp1)) (g_name) (fun s1 H1 C1 cl1 fp1 => ts_nil) (fun s1 H1 C1 cl1 fp1 => xcall hself ((B.blk s1 H1 _ _ fp1).le (by omega)) (xa (xv 1) (a_nil)))) (a_nil))) (xv 0)))
abbrev s_is_name : Stmt := topS 10
theorem sc_is_name : FnScope ["thing", "sign"] ["thing"] (defScope s_is_name) := ⟨rfl, rfl, rfl, by decide +kernel, rfl, by decide +kernel, by decide +kernel⟩
theorem w_is_name (z_all : mg "all" = none) (z_isinstance : mg "isinstance" = none) (z_len : mg "len" = none) (z_str : mg "str" = none) {tk_LETTERS : Tok} (gb_LETTERS : mg "LETTERS" = some (.str ("abcdefghijklmnopqrstuvwxyz" : Str) tk_LETTERS)) {tk_LONGEST : Tok} (gb_LONGEST : mg "LONGEST" = some (.int 8 tk_LONGEST)) {f : Addr} {fd : FuncData} (Fu : Fun G.K "is_name" "is_name" s_is_name f fd) : FnOk P w G.K mg base (L2.CX P w) 1 f fd ["thing"] (SpM G R_is_name) := by
  show FnOk P w G.K mg base (L2.CX P w) (0 + 1) f fd ["thing"] (SpM G (runB 2 1 b_is_name))
  refine fn_ok2 rfl rfl Fu sc_is_name ?_
  exact fun cdv A outer s H E B hp =>
    ss_one (s_ret (e_and (xisa B z_isinstance (xv 0) (xty z_str PyProof.Rows.boot_str)) (e_and (xchain (o_le) (o_le) (e_int) (xb (b_len B.hK) z_len PySem.boot_len (xa (xv 0) (a_nil))) (xglob gb_LONGEST)) (e_one (xb (b_all B.hK B.calm) z_all PyProof.Rows.boot_all (xa (ylc [("sign", 1)] lEnd B (i_any (Bx.hK B) (xv 0)) (fun s1 H1 C1 cl1 fp1 => yname 1 (B.blk s1 H1 _ _ fp1)) (g_name) (fun s1 H1 C1 cl1 fp1 => ts_nil) (fun s1 H1 C1 cl1 fp1 => xcmp (o_inS) (xv 1) (xglobS gb_LETTERS))) (a_nil)))))))
theorem bd_is_name {f : Addr} {fd : FuncData} (Fu : Fun G.K "is_name" "is_name" s_is_name f fd) : Binds G.K fd ["thing"] [] := Fu.binds (ps := ["thing"]) fun _ _ _ _ _ _ us hl => match us, hl with | [_], _ => rfl
abbrev s_rises : Stmt := topS 11
theorem sc_rises : FnScope ["row", "one", "other"] ["row"] (defScope s_rises) := ⟨rfl, rfl, rfl, by decide +kernel, rfl, by decide +kernel, by decide +kernel⟩
theorem w_rises (z_all : mg "all" = none) (z_zip : mg "zip" = none) {f : Addr} {fd : FuncData} (Fu : Fun G.K "rises" "rises" s_rises f fd) : FnOk P w G.K mg base (L2.CX P w) 1 f fd ["row"] (SpM G R_rises) := by
  show FnOk P w G.K mg base (L2.CX P w) (0 + 1) f fd ["row"] (SpM G (runB 3 1 b_rises))
  refine fn_ok2 rfl rfl Fu sc_rises ?_
  exact fun cdv A outer s H E B hp =>
    ss_one (s_ret (xb (b_all B.hK B.calm) z_all PyProof.Rows.boot_all (xa (ylc [("one", 1), ("other", 2)] lEnd B (yzip B z_zip (xa (xv 0) (xa (e_sl (sl_any B.hK) (xv 0) (o_pt (e_int)) (o_no)) (a_nil)))) (fun s1 H1 C1 cl1 fp1 => ytup (B.blk s1 H1 _ _ fp1) (pgs_cons (yname 1 (B.blk s1 H1 _ _ fp1)) (pgs_cons (yname 2 (B.blk s1 H1 _ _ fp1)) (pgs_nil)))) (ytupS (Bx.hK B) (glen_cons (glen_cons (glen_nil))) (gs_cons (g_name) (gs_cons (g_name) (gs_nil)))) (fun s1 H1 C1 cl1 fp1 => ts_nil) (fun s1 H1 C1 cl1 fp1 => xcmp (o_lt) (xv 1) (xv 2))) (a_nil))))
theorem bd_rises {f : Addr} {fd : FuncData} (Fu : Fun G.K "rises" "rises" s_rises f fd) : Binds G.K fd ["row"] [] := Fu.binds (ps := ["row"]) fun _ _ _ _ _ _ us hl => match us, hl with | [_], _ => rfl
abbrev s_is_set : Stmt := topS 12
theorem sc_is_set : FnScope ["thing", "part"] ["thing"] (defScope s_is_set) := ⟨rfl, rfl, rfl, by decide +kernel, rfl, by decide +kernel, by decide +kernel⟩
theorem w_is_set (z_all : mg "all" = none) (z_isinstance : mg "isinstance" = none) (z_tuple : mg "tuple" = none) (c_is_name : Cal P w G mg base 1 "is_name" 1 [] F_is_name) (c_rises : Cal P w G mg base 1 "rises" 1 [] F_rises) {f : Addr} {fd : FuncData} (Fu : Fun G.K "is_set" "is_set" s_is_set f fd) : FnOk P w G.K mg base (L2.CX P w) 2 f fd ["thing"] (SpM G R_is_set) := by
  show FnOk P w G.K mg base (L2.CX P w) (1 + 1) f fd ["thing"] (SpM G (runB 2 1 b_is_set))
  refine fn_ok2 rfl rfl Fu sc_is_set ?_
  exact fun cdv A outer s H E B hp =>
    ss_one (s_ret (e_and (xisa B z_isinstance (xv 0) (xty z_tuple PyProof.Rows.boot_tuple)) (e_and (xb (b_all B.hK B.calm) z_all PyProof.Rows.boot_all (xa (ylc [("part", 1)] lEnd B (i_seq (Bx.hK B) (xv 0)) (fun s1 H1 C1 cl1 fp1 => yname 1 (B.blk s1 H1 _ _ fp1)) (g_name) (fun s1 H1 C1 cl1 fp1 => ts_nil) (fun s1 H1 C1 cl1 fp1 => xcall c_is_name ((B.blk s1 H1 _ _ fp1).le (by omega)) (xa (xv 1) (a_nil)))) (a_nil))) (e_one (xcall c_rises (B.le (by omega)) (xa (xv 0) (a_nil)))))))
theorem bd_is_set {f : Addr} {fd : FuncData} (Fu : Fun G.K "is_set" "is_set" s_is_set f fd) : Binds G.K fd ["thing"] [] := Fu.binds (ps := ["thing"]) fun _ _ _ _ _ _ us hl => match us, hl with | [_], _ => rfl
abbrev s_Sheet_init : Stmt := inClass (topS 15) 1
theorem sc_Sheet_init : FnScope ["self", "sheet", "rows", "empties", "name", "wants"] ["self", "sheet"] (defScope s_Sheet_init) := ⟨rfl, rfl, rfl, by decide +kernel, rfl, by decide +kernel, by decide +kernel⟩
theorem w_Sheet_init (hc_Sheet : SlX.SCls G.K (G.cls 0)) {pp_own_empties : Addr} (sl_own_empties : SlX.Slot1 G.K (G.cls 0) "own_empties" pp_own_empties 0) {pp_own_homes : Addr} (sl_own_homes : SlX.Slot1 G.K (G.cls 0) "own_homes" pp_own_homes 1) {pp_own_rows : Addr} (sl_own_rows : SlX.Slot1 G.K (G.cls 0) "own_rows" pp_own_rows 2) (z_list : mg "list" = none) (c_tupled : ∀ n : Nat, Cal P w G mg base (0 + n) "tupled" 1 [] (F_tupled n)) {f : Addr} {fd : FuncData} (Fu : Fun G.K "__init__" "Sheet.__init__" s_Sheet_init f fd) : FnOk P w G.K mg base (L2.CX P w) 9 f fd ["self", "sheet"] (SpM G R_Sheet_init) := by
  show FnOk P w G.K mg base (L2.CX P w) (8 + 1) f fd ["self", "sheet"] (SpM G (runB 6 2 b_Sheet_init))
  refine fn_ok2 rfl rfl Fu sc_Sheet_init ?_
  exact fun cdv A outer s H E B hp =>
    ss_cons (yasg (ytup B (pgs_cons (yname 2 B) (pgs_cons (yname 3 B) (pgs_nil)))) (ytupS (Bx.hK B) (glen_cons (glen_cons (glen_nil))) (gs_cons (g_name) (gs_cons (g_name) (gs_nil)))) (xcall (c_tupled 8) (B.le (by omega)) (xa (xv 1) (a_nil))))
    (ss_cons (yfld B hc_Sheet sl_own_rows (xv 0) (ydc [("name", 4), ("wants", 5)] dEnd B (i_seq (Bx.hK B) (xv 2)) (fun s1 H1 C1 cl1 fp1 => ytup (B.blk s1 H1 _ _ fp1) (pgs_cons (yname 4 (B.blk s1 H1 _ _ fp1)) (pgs_cons (yname 5 (B.blk s1 H1 _ _ fp1)) (pgs_nil)))) (ytupS (Bx.hK B) (glen_cons (glen_cons (glen_nil))) (gs_cons (g_name) (gs_cons (g_name) (gs_nil)))) (fun s1 H1 C1 cl1 fp1 => ts_nil) (fun s1 H1 C1 cl1 fp1 => xv 4) (fun s1 H1 C1 cl1 fp1 => xv 5)))
    (ss_cons (yfld B hc_Sheet sl_own_empties (xv 0) (xv 3))
    (ss_one (yfld B hc_Sheet sl_own_homes (xv 0) (ydc [("name", 4)] dEnd B (i_seq (Bx.hK B) (e_op (o_add B.hK) (xt (b_list B.hK B.calm) z_list PyProof.Rows.boot_list (xa (xfld B hc_Sheet sl_own_rows (xv 0)) (a_nil))) (xt (b_list B.hK B.calm) z_list PyProof.Rows.boot_list (xa (xv 3) (a_nil))))) (fun s1 H1 C1 cl1 fp1 => yname 4 (B.blk s1 H1 _ _ fp1)) (g_name) (fun s1 H1 C1 cl1 fp1 => ts_nil) (fun s1 H1 C1 cl1 fp1 => xv 4) (fun s1 H1 C1 cl1 fp1 => e_bl))))))
theorem bd_Sheet_init {f : Addr} {fd : FuncData} (Fu : Fun G.K "__init__" "Sheet.__init__" s_Sheet_init f fd) : Binds G.K fd ["self", "sheet"] [] := Fu.binds (ps := ["self", "sheet"]) fun _ _ _ _ _ _ us hl => match us, hl with | [_, _], _ => rfl
abbrev s_Sheet_names : Stmt := inClass (topS 15) 2
theorem sc_Sheet_names : FnScope ["self"] ["self"] (defScope s_Sheet_names) := ⟨rfl, rfl, rfl, by decide +kernel, rfl, by decide +kernel, by decide +kernel⟩
theorem w_Sheet_names (hc_Sheet : SlX.SCls G.K (G.cls 0)) {pp_own_rows : Addr} (sl_own_rows : SlX.Slot1 G.K (G.cls 0) "own_rows" pp_own_rows 2) (z_tuple : mg "tuple" = none) {f : Addr} {fd : FuncData} (Fu : Fun G.K "names" "Sheet.names" s_Sheet_names f fd) : FnOk P w G.K mg base (L2.CX P w) 1 f fd ["self"] (SpM G R_Sheet_names) := by
  show FnOk P w G.K mg base (L2.CX P w) (0 + 1) f fd ["self"] (SpM G (runB 1 1 b_Sheet_names))
  refine fn_ok2 rfl rfl Fu sc_Sheet_names ?_
  exact fun cdv A outer s H E B hp =>
    ss_one (s_ret (xt (b_tuple B.hK B.calm) z_tuple PyProof.Rows.boot_tuple (xa (xfld B hc_Sheet sl_own_rows (xv 0)) (a_nil))))
theorem bd_Sheet_names {f : Addr} {fd : FuncData} (Fu : Fun G.K "names" "Sheet.names" s_Sheet_names f fd) : Binds G.K fd ["self"] [] := Fu.binds (ps := ["self"]) fun _ _ _ _ _ _ us hl => match us, hl with | [_], _ => rfl
abbrev s_Sheet_empties : Stmt := inClass (topS 15) 3
theorem sc_Sheet_empties : FnScope ["self"] ["self"] (defScope s_Sheet_empties) := ⟨rfl, rfl, rfl, by decide +kernel, rfl, by decide +kernel, by decide +kernel⟩
theorem w_Sheet_empties (hc_Sheet : SlX.SCls G.K (G.cls 0)) {pp_own_empties : Addr} (sl_own_empties : SlX.Slot1 G.K (G.cls 0) "own_empties" pp_own_empties 0) {f : Addr} {fd : FuncData} (Fu : Fun G.K "empties" "Sheet.empties" s_Sheet_empties f fd) : FnOk P w G.K mg base (L2.CX P w) 1 f fd ["self"] (SpM G R_Sheet_empties) := by
  show FnOk P w G.K mg base (L2.CX P w) (0 + 1) f fd ["self"] (SpM G (runB 1 1 b_Sheet_empties))
  refine fn_ok2 rfl rfl Fu sc_Sheet_empties ?_
  exact fun cdv A outer s H E B hp =>
    ss_one (s_ret (xfld B hc_Sheet sl_own_empties (xv 0)))
theorem bd_Sheet_empties {f : Addr} {fd : FuncData} (Fu : Fun G.K "empties" "Sheet.empties" s_Sheet_empties f fd) : Binds G.K fd ["self"] [] := Fu.binds (ps := ["self"]) fun _ _ _ _ _ _ us hl => match us, hl with | [_], _ => rfl
abbrev s_Sheet_wishes : Stmt := inClass (topS 15) 9
theorem sc_Sheet_wishes : FnScope ["self", "name"] ["self", "name"] (defScope s_Sheet_wishes) := ⟨rfl, rfl, rfl, by decide +kernel, rfl, by decide +kernel, by decide +kernel⟩
theorem w_Sheet_wishes (hc_Sheet : SlX.SCls G.K (G.cls 0)) {pp_own_rows : Addr} (sl_own_rows : SlX.Slot1 G.K (G.cls 0) "own_rows" pp_own_rows 2) {f : Addr} {fd : FuncData} (Fu : Fun G.K "wishes" "Sheet.wishes" s_Sheet_wishes f fd) : FnOk P w G.K mg base (L2.CX P w) 1 f fd ["self", "name"] (SpM G R_Sheet_wishes) := by
  show FnOk P w G.K mg base (L2.CX P w) (0 + 1) f fd ["self", "name"] (SpM G (runB 2 2 b_Sheet_wishes))
  refine fn_ok2 rfl rfl Fu sc_Sheet_wishes ?_
  exact fun cdv A outer s H E B hp =>
    ss_one (s_ret (xix B (xfld B hc_Sheet sl_own_rows (xv 0)) (xv 1)))
theorem bd_Sheet_wishes {f : Addr} {fd : FuncData} (Fu : Fun G.K "wishes" "Sheet.wishes" s_Sheet_wishes f fd) : Binds G.K fd ["self", "name"] [] := Fu.binds (ps := ["self", "name"]) fun _ _ _ _ _ _ us hl => match us, hl with | [_, _], _ => rfl
abbrev s_sheet_text : Stmt := topS 21
theorem sc_sheet_text : FnScope ["sheet", "own", "lines", "name"] ["sheet"] (defScope s_sheet_text) := ⟨rfl, rfl, rfl, by decide +kernel, rfl, by decide +kernel, by decide +kernel⟩
theorem w_sheet_text (z_int : mg "int" = none) (z_len : mg "len" = none) {tk_BLANK : Tok} (gb_BLANK : mg "BLANK" = some (.str (" " : Str) tk_BLANK)) {tk_COLON : Tok} (gb_COLON : mg "COLON" = some (.str (":" : Str) tk_COLON)) {tk_EMPTIES : Tok} (gb_EMPTIES : mg "EMPTIES" = some (.str ("+" : Str) tk_EMPTIES)) {tk_FEED : Tok} (gb_FEED : mg "FEED" = some (.str ("\n" : Str) tk_FEED)) (c_Sheet_init : CalI P w G mg base 9 0 "Sheet" 1 F_Sheet_init) (c_Sheet_empties : CalM P w G mg base 1 0 "empties" 0 F_Sheet_empties) (c_Sheet_names : CalM P w G mg base 1 0 "names" 0 F_Sheet_names) (c_Sheet_wishes : CalM P w G mg base 1 0 "wishes" 1 F_Sheet_wishes) {f : Addr} {fd : FuncData} (Fu : Fun G.K "sheet_text" "sheet_text" s_sheet_text f fd) : FnOk P w G.K mg base (L2.CX P w) 11 f fd ["sheet"] (SpM G R_sheet_text) := by
  show FnOk P w G.K mg base (L2.CX P w) (10 + 1) f fd ["sheet"] (SpM G (runB 4 1 b_sheet_text))
  refine fn_ok2 rfl rfl Fu sc_sheet_text ?_
  exact fun cdv A outer s H E B hp =>
    ss_cons (yset 1 B (ymakeD c_Sheet_init (B.le (by omega)) (xa (xv 0) (a_nil))))
    (ss_cons (ysetLc 2 [("name", 3)] lEndB B (i_seq (Bx.hK B) (ymeth0 c_Sheet_names (B.le (by omega)) (xv 1))) (fun s1 H1 C1 cl1 fp1 => yname 3 (B.blk s1 H1 _ _ fp1)) (g_name) (fun s1 H1 C1 cl1 fp1 => ts_nil) (fun s1 H1 C1 cl1 fp1 => e_join (B.blk s1 H1 _ _ fp1).hK (xglobS gb_BLANK) (e_lst (xa (e_op (o_add (B.blk s1 H1 _ _ fp1).hK) (xv 3) (xglobS gb_COLON)) (a_star (Bx.hK (B.blk s1 H1 _ _ fp1)) (ymeth c_Sheet_wishes ((B.blk s1 H1 _ _ fp1).le (by omega)) (xv 1) (xa (xv 3) (a_nil))) (a_nil))))))
    (ss_cons (yexpr (xlm B PySem.F.slot_list_extend PySem.F.type_list_extend m_extend (xv 2) (xa (e_op (o_mul) (e_lst (xa (e_join B.hK (xglobS gb_BLANK) (e_lst (xa (xglobS gb_EMPTIES) (a_star (Bx.hK B) (ymeth0 c_Sheet_empties (B.le (by omega)) (xv 1)) (a_nil))))) (a_nil))) (xt (b_int) z_int PyProof.Rows.boot_int (xa (xcmp (o_gt) (xb (b_len B.hK) z_len PySem.boot_len (xa (ymeth0 c_Sheet_empties (B.le (by omega)) (xv 1)) (a_nil))) (e_int)) (a_nil)))) (a_nil))))
    (ss_one (s_ret (e_join B.hK (xglobS gb_FEED) (xv 2))))))
theorem bd_sheet_text {f : Addr} {fd : FuncData} (Fu : Fun G.K "sheet_text" "sheet_text" s_sheet_text f fd) : Binds G.K fd ["sheet"] [] := Fu.binds (ps := ["sheet"]) fun _ _ _ _ _ _ us hl => match us, hl with | [_], _ => rfl
abbrev s_row_in : Stmt := topS 22
theorem sc_row_in : FnScope ["line", "word", "wants", "name", "names"] ["line"] (defScope s_row_in) := ⟨rfl, rfl, rfl, by decide +kernel, rfl, by decide +kernel, by decide +kernel⟩
theorem w_row_in (z_tuple : mg "tuple" = none) {tk_BLANK : Tok} (gb_BLANK : mg "BLANK" = some (.str (" " : Str) tk_BLANK)) {tk_COLON : Tok} (gb_COLON : mg "COLON" = some (.str (":" : Str) tk_COLON)) (c_is_name : Cal P w G mg base 1 "is_name" 1 [] F_is_name) (c_is_set : Cal P w G mg base 2 "is_set" 1 [] F_is_set) {f : Addr} {fd : FuncData} (Fu : Fun G.K "row_in" "row_in" s_row_in f fd) : FnOk P w G.K mg base (L2.CX P w) 3 f fd ["line"] (SpM G R_row_in) := by
  show FnOk P w G.K mg base (L2.CX P w) (2 + 1) f fd ["line"] (SpM G (runB 5 1 b_row_in))
  refine fn_ok2 rfl rfl Fu sc_row_in ?_
  exact fun cdv A outer s H E B hp =>
    ss_cons (yasgStar 1 2 B (e_split (xv 0) (xglobS gb_BLANK)))
    (ss_cons (s_par2 B (xa (e_if (xtru B (e_endsw (xv 1) (xglobS gb_COLON))) (e_sl (sl_any B.hK) (xv 1) (o_no) (o_pt (e_un u_neg (e_int)))) (xv 1)) (xa (xt (b_tuple B.hK B.calm) z_tuple PyProof.Rows.boot_tuple (xa (xv 2) (a_nil))) (a_nil))))
    (ss_cons (s_if (L2.PW.pt (w_or (c_not (xtru B (e_endsw (xv 1) (xglobS gb_COLON)))) (w_or (c_not (xtru B (xcall c_is_name (B.le (by omega)) (xa (xv 3) (a_nil))))) (w_or (c_not (xtru B (xcall c_is_set (B.le (by omega)) (xa (xv 4) (a_nil))))) (w_or1 (xcmpT (o_in B.room.units66 B.hK) (xv 3) (xv 4))))))) (ss_one (s_ret (e_non))) (ss_nil))
    (ss_one (s_ret (e_tup (xa (xv 3) (xa (xv 4) (a_nil))))))))
theorem bd_row_in {f : Addr} {fd : FuncData} (Fu : Fun G.K "row_in" "row_in" s_row_in f fd) : Binds G.K fd ["line"] [] := Fu.binds (ps := ["line"]) fun _ _ _ _ _ _ us hl => match us, hl with | [_], _ => rfl
abbrev s_empties_in : Stmt := topS 23
theorem sc_empties_in : FnScope ["line", "rows", "word", "names", "found", "row"] ["line", "rows"] (defScope s_empties_in) := ⟨rfl, rfl, rfl, by decide +kernel, rfl, by decide +kernel, by decide +kernel⟩
theorem w_empties_in (z_any : mg "any" = none) (z_len : mg "len" = none) (z_tuple : mg "tuple" = none) {tk_BLANK : Tok} (gb_BLANK : mg "BLANK" = some (.str (" " : Str) tk_BLANK)) {tk_EMPTIES : Tok} (gb_EMPTIES : mg "EMPTIES" = some (.str ("+" : Str) tk_EMPTIES)) (c_is_set : Cal P w G mg base 2 "is_set" 1 [] F_is_set) {f : Addr} {fd : FuncData} (Fu : Fun G.K "empties_in" "empties_in" s_empties_in f fd) : FnOk P w G.K mg base (L2.CX P w) 3 f fd ["line", "rows"] (SpM G R_empties_in) := by
  show FnOk P w G.K mg base (L2.CX P w) (2 + 1) f fd ["line", "rows"] (SpM G (runB 6 2 b_empties_in))
  refine fn_ok2 rfl rfl Fu sc_empties_in ?_
  exact fun cdv A outer s H E B hp =>
    ss_cons (yasgStar 2 3 B (e_split (xv 0) (xglobS gb_BLANK)))
    (ss_cons (yset 4 B (xt (b_tuple B.hK B.calm) z_tuple PyProof.Rows.boot_tuple (xa (xv 3) (a_nil))))
    (ss_cons (s_if (L2.PW.pt (w_or (xcmpT (o_ne B.room.units B.hK) (xv 2) (xglobS gb_EMPTIES)) (w_or (xcmpT (o_eq B.room.units B.hK) (xb (b_len B.hK) z_len PySem.boot_len (xa (xv 4) (a_nil))) (e_int)) (w_or1 (c_not (xtru B (xcall c_is_set (B.le (by omega)) (xa (xv 4) (a_nil))))))))) (ss_one (s_ret (e_non))) (ss_nil))
    (ss_one (s_ret (e_if (xtru B (xb (b_any B.hK B.calm) z_any PyProof.Rows.boot_any (xa (ylc [("row", 5)] lEnd B (i_seq (Bx.hK B) (xv 1)) (fun s1 H1 C1 cl1 fp1 => yname 5 (B.blk s1 H1 _ _ fp1)) (g_name) (fun s1 H1 C1 cl1 fp1 => ts_nil) (fun s1 H1 C1 cl1 fp1 => xcmp (o_in (B.blk s1 H1 _ _ fp1).room.units66 (B.blk s1 H1 _ _ fp1).hK) (xix (B.blk s1 H1 _ _ fp1) (xv 5) (e_int)) (xv 4))) (a_nil)))) (e_non) (xv 4))))))
theorem bd_empties_in {f : Addr} {fd : FuncData} (Fu : Fun G.K "empties_in" "empties_in" s_empties_in f fd) : Binds G.K fd ["line", "rows"] [] := Fu.binds (ps := ["line", "rows"]) fun _ _ _ _ _ _ us hl => match us, hl with | [_, _], _ => rfl
abbrev s_sheet_in : Stmt := topS 24
theorem sc_sheet_in : FnScope ["text", "rows", "empties", "number", "line", "row", "some"] ["text"] (defScope s_sheet_in) := ⟨rfl, rfl, rfl, by decide +kernel, rfl, by decide +kernel, by decide +kernel⟩
theorem w_sheet_in (z_enumerate : mg "enumerate" = none) (z_len : mg "len" = none) (z_tuple : mg "tuple" = none) {tk_FEED : Tok} (gb_FEED : mg "FEED" = some (.str ("\n" : Str) tk_FEED)) (rs_BadLine : Rsx P G mg "BadLine" 0) (c_empties_in : Cal P w G mg base 3 "empties_in" 2 [] F_empties_in) (c_row_in : Cal P w G mg base 3 "row_in" 1 [] F_row_in) {f : Addr} {fd : FuncData} (Fu : Fun G.K "sheet_in" "sheet_in" s_sheet_in f fd) : FnOk P w G.K mg base (L2.CX P w) 4 f fd ["text"] (SpM G R_sheet_in) := by
  show FnOk P w G.K mg base (L2.CX P w) (3 + 1) f fd ["text"] (SpM G (runB 7 1 b_sheet_in))
  refine fn_ok2 rfl rfl Fu sc_sheet_in ?_
  exact fun cdv A outer s H E B hp =>
    ss_cons (s_par2 B (xa (e_lstB (a_nil)) (xa (e_tup (a_nil)) (a_nil))))
    (ss_cons (yfor hp B (yenum B z_enumerate (xa (e_if (xcmpT (o_ne B.room.units B.hK) (xv 0) (e_str)) (e_split (xv 0) (xglobS gb_FEED)) (e_lst (a_nil))) (a_nil))) (ytup B (pgs_cons (yname 3 B) (pgs_cons (yname 4 B) (pgs_nil)))) (ytupS (Bx.hK B) (glen_cons (glen_cons (glen_nil))) (gs_cons (g_name) (gs_cons (g_name) (gs_nil)))) (ss_cons (s_par2 B (xa (xcall c_row_in (B.le (by omega)) (xa (xv 4) (a_nil))) (xa (e_snapE (xcall c_empties_in (B.le (by omega)) (xa (xv 4) (xa (xv 1) (a_nil))))) (a_nil))))
    (ss_cons (s_if (L2.PW.pt (w_or (xcmpT (o_gt) (xb (b_len B.hK) z_len PySem.boot_len (xa (xv 2) (a_nil))) (e_int)) (w_or1 (L2.PW.pt (w_and (xcmpT (o_is) (xv 5) (e_non)) (w_and1 (xcmpT (o_is) (xv 6) (e_non)))))))) (ss_one (yraise B (by omega) rs_BadLine (xv 3))) (ss_nil))
    (ss_one (s_if (xcmpT (o_is) (xv 5) (e_non)) (ss_one (yset 2 B (xv 6))) (ss_one (s_if (L2.PW.pt (w_and (xcmpT (o_gt) (xb (b_len B.hK) z_len PySem.boot_len (xa (xv 1) (a_nil))) (e_int)) (w_and1 (xcmpT (o_ge) (xix B (xix B (xv 1) (e_un u_neg (e_int))) (e_int)) (xix B (xv 5) (e_int)))))) (ss_one (yraise B (by omega) rs_BadLine (xv 3))) (ss_one (yexpr (xlm B PySem.F.slot_list_append PySem.F.type_list_append m_append (xv 1) (xa (xv 5) (a_nil))))))))))))
    (ss_one (s_ret (e_tup (xa (xt (b_tuple B.hK B.calm) z_tuple PyProof.Rows.boot_tuple (xa (xv 1) (a_nil))) (xa (xv 2) (a_nil)))))))
theorem bd_sheet_in {f : Addr} {fd : FuncData} (Fu : Fun G.K "sheet_in" "sheet_in" s_sheet_in f fd) : Binds G.K fd ["text"] [] := Fu.binds (ps := ["text"]) fun _ _ _ _ _ _ us hl => match us, hl with | [_], _ => rfl
abbrev s__law_box : Stmt := topS 26
theorem sc__law_box : FnScope ["_law_script", "_law_k", "_law_cell"] ["_law_script", "_law_k"] (defScope s__law_box) := ⟨rfl, rfl, rfl, by decide +kernel, rfl, by decide +kernel, by decide +kernel⟩
theorem w__law_box (z_abs : mg "abs" = none) (z_int : mg "int" = none) (z_len : mg "len" = none) {f : Addr} {fd : FuncData} (Fu : Fun G.K "_law_box" "_law_box" s__law_box f fd) : FnOk P w G.K mg base (L2.CX P w) 1 f fd ["_law_script", "_law_k"] (SpM G R__law_box) := by
  show FnOk P w G.K mg base (L2.CX P w) (0 + 1) f fd ["_law_script", "_law_k"] (SpM G (runB 3 2 b__law_box))
  refine fn_ok2 rfl rfl Fu sc__law_box ?_
  exact fun cdv A outer s H E B hp =>
    ss_cons (yset 2 B (e_if (xcmpT (o_lt) (xv 1) (xb (b_len B.hK) z_len PySem.boot_len (xa (xv 0) (a_nil)))) (xix B (xv 0) (xv 1)) (e_int)))
    (ss_one (s_ret (e_lstB (xa (e_op (o_mul) (xb (b_abs) z_abs PyProof.Rows.boot_abs (xa (xv 2) (a_nil))) (xt (b_int) z_int PyProof.Rows.boot_int (xa (xcmp (o_ge) (xb (b_abs) z_abs PyProof.Rows.boot_abs (xa (xv 2) (a_nil))) (e_op (o_pow) (e_int) (e_int))) (a_nil)))) (xa (e_op (o_add B.hK) (e_op (o_add B.hK) (e_op (o_mod) (xt (b_int) z_int PyProof.Rows.boot_int (xa (xv 2) (a_nil))) (e_int)) (e_op (o_mul) (e_int) (xv 1))) (e_int)) (xa (e_int) (a_nil)))))))
theorem bd__law_box {f : Addr} {fd : FuncData} (Fu : Fun G.K "_law_box" "_law_box" s__law_box f fd) : Binds G.K fd ["_law_script", "_law_k"] [] := Fu.binds (ps := ["_law_script", "_law_k"]) fun _ _ _ _ _ _ us hl => match us, hl with | [_, _], _ => rfl
abbrev s__law_take : Stmt := topS 27
theorem sc__law_take : FnScope ["_law_urn", "_law_low_so", "_law_drawn", "_law_once", "_law_far", "_law_twice"] ["_law_urn", "_law_low_so"] (defScope s__law_take) := ⟨rfl, rfl, rfl, by decide +kernel, rfl, by decide +kernel, by decide +kernel⟩
theorem w__law_take (z_int : mg "int" = none) {f : Addr} {fd : FuncData} (Fu : Fun G.K "_law_take" "_law_take" s__law_take f fd) : FnOk P w G.K mg base (L2.CX P w) 1 f fd ["_law_urn", "_law_low_so"] (SpM G R__law_take) := by
  show FnOk P w G.K mg base (L2.CX P w) (0 + 1) f fd ["_law_urn", "_law_low_so"] (SpM G (runB 6 2 b__law_take))
  refine fn_ok2 rfl rfl Fu sc__law_take ?_
  exact fun cdv A outer s H E B hp =>
    ss_cons (s_if (xcmpT (o_gt) (xix B (xv 0) (e_int)) (e_int)) (ss_cons (yset 2 B (e_op (o_mod) (xt (b_int) z_int PyProof.Rows.boot_int (xa (xix B (xv 0) (e_int)) (a_nil))) (xv 1)))
    (ss_cons (ysub B (xv 0) (e_int) (e_op (o_div) (xix B (xv 0) (e_int)) (xv 1)))
    (ss_one (s_ret (xv 2))))) (ss_nil))
    (ss_cons (ysub B (xv 0) (e_int) (e_op (o_add B.hK) (xix B (xv 0) (e_int)) (e_int)))
    (ss_cons (yset 3 B (e_op (o_mod) (xt (b_int) z_int PyProof.Rows.boot_int (xa (e_op (o_mul) (e_op (o_add B.hK) (xix B (xv 0) (e_int)) (e_op (o_mul) (e_int) (xix B (xv 0) (e_int)))) (e_op (o_add B.hK) (e_int) (xix B (xv 0) (e_int)))) (a_nil))) (e_int)))
    (ss_cons (yset 4 B (e_op (o_add B.hK) (e_op (o_mod) (xt (b_int) z_int PyProof.Rows.boot_int (xa (xv 3) (a_nil))) (e_int)) (e_int)))
    (ss_cons (yset 5 B (e_op (o_mod) (xt (b_int) z_int PyProof.Rows.boot_int (xa (e_op (o_mul) (e_op (o_add B.hK) (e_op (o_add B.hK) (xv 3) (xix B (xv 0) (e_int))) (e_op (o_div) (xix B (xv 0) (e_int)) (e_int))) (xv 4)) (a_nil))) (e_int)))
    (ss_one (s_ret (e_op (o_mod) (xt (b_int) z_int PyProof.Rows.boot_int (xa (e_op (o_div) (e_op (o_mod) (xt (b_int) z_int PyProof.Rows.boot_int (xa (e_op (o_add B.hK) (e_op (o_mul) (xv 5) (e_int)) (xv 3)) (a_nil))) (e_int)) (e_int)) (a_nil))) (xv 1))))))))
theorem bd__law_take {f : Addr} {fd : FuncData} (Fu : Fun G.K "_law_take" "_law_take" s__law_take f fd) : Binds G.K fd ["_law_urn", "_law_low_so"] [] := Fu.binds (ps := ["_law_urn", "_law_low_so"]) fun _ _ _ _ _ _ us hl => match us, hl with | [_, _], _ => rfl
abbrev s__law_cells : Stmt := topS 28
theorem sc__law_cells : FnScope ["_law_script", "_law_top", "_law_cells_here", "_law_k", "_law_cell", "_law_at_so"] ["_law_script", "_law_top"] (defScope s__law_cells) := ⟨rfl, rfl, rfl, by decide +kernel, rfl, by decide +kernel, by decide +kernel⟩
theorem w__law_cells (z_enumerate : mg "enumerate" = none) (z_int : mg "int" = none) (z_list : mg "list" = none) {f : Addr} {fd : FuncData} (Fu : Fun G.K "_law_cells" "_law_cells" s__law_cells f fd) : FnOk P w G.K mg base (L2.CX P w) 1 f fd ["_law_script", "_law_top"] (SpM G R__law_cells) := by
  show FnOk P w G.K mg base (L2.CX P w) (0 + 1) f fd ["_law_script", "_law_top"] (SpM G (runB 6 2 b__law_cells))
  refine fn_ok2 rfl rfl Fu sc__law_cells ?_
  exact fun cdv A outer s H E B hp =>
    ss_cons (yset 2 B (xorT B (xt (b_listB B.hK B.calm) z_list PyProof.Rows.boot_list (xa (e_sl (sl_any B.hK) (xv 0) (o_no) (o_pt (xv 1))) (a_nil))) (e_one (e_lstB (xa (e_int) (a_nil))))))
    (ss_cons (yfor hp B (yenum B z_enumerate (xa (e_sl (sl_any B.hK) (xv 0) (o_pt (xv 1)) (o_pt (e_int))) (a_nil))) (ytup B (pgs_cons (yname 3 B) (pgs_cons (yname 4 B) (pgs_nil)))) (ytupS (Bx.hK B) (glen_cons (glen_cons (glen_nil))) (gs_cons (g_name) (gs_cons (g_name) (gs_nil)))) (ss_cons (yset 5 B (e_op (o_mod) (xt (b_int) z_int PyProof.Rows.boot_int (xa (xv 3) (a_nil))) (xv 1)))
    (ss_one (ysub B (xv 2) (xv 5) (e_op (o_add B.hK) (xix B (xv 2) (xv 5)) (e_op (o_mul) (xv 4) (e_op (o_add B.hK) (xv 3) (e_int))))))))
    (ss_one (s_ret (e_frz (xv 2)))))
theorem bd__law_cells {f : Addr} {fd : FuncData} (Fu : Fun G.K "_law_cells" "_law_cells" s__law_cells f fd) : Binds G.K fd ["_law_script", "_law_top"] [] := Fu.binds (ps := ["_law_script", "_law_top"]) fun _ _ _ _ _ _ us hl => match us, hl with | [_, _], _ => rfl
abbrev s__law_of : Stmt := topS 29
theorem sc__law_of : FnScope ["_law_urn", "_law_some_so"] ["_law_urn", "_law_some_so"] (defScope s__law_of) := ⟨rfl, rfl, rfl, by decide +kernel, rfl, by decide +kernel, by decide +kernel⟩
theorem w__law_of (z_len : mg "len" = none) (c__law_take : Cal P w G mg base 1 "_law_take" 2 [] F__law_take) {f : Addr} {fd : FuncData} (Fu : Fun G.K "_law_of" "_law_of" s__law_of f fd) : FnOk P w G.K mg base (L2.CX P w) 2 f fd ["_law_urn", "_law_some_so"] (SpM G Hd.R__law_of) := by
  show FnOk P w G.K mg base (L2.CX P w) (1 + 1) f fd ["_law_urn", "_law_some_so"] (SpM G (runB 2 2 Hd.b__law_of))
  refine fn_ok2 rfl rfl Fu sc__law_of ?_
  exact fun cdv A outer s H E B hp =>
    ss_one (s_ret (xix B (xv 1) (xcall c__law_take (B.le (by omega)) (xa (xv 0) (xa (xb (b_len B.hK) z_len PySem.boot_len (xa (xv 1) (a_nil))) (a_nil))))))
theorem bd__law_of {f : Addr} {fd : FuncData} (Fu : Fun G.K "_law_of" "_law_of" s__law_of f fd) : Binds G.K fd ["_law_urn", "_law_some_so"] [] := Fu.binds (ps := ["_law_urn", "_law_some_so"]) fun _ _ _ _ _ _ us hl => match us, hl with | [_, _], _ => rfl
abbrev s__law_same : Stmt := topS 30
theorem sc__law_same : FnScope ["_law_got", "_law_goal", "_law_mine_so", "_law_own"] ["_law_got", "_law_goal"] (defScope s__law_same) := ⟨rfl, rfl, rfl, by decide +kernel, rfl, by decide +kernel, by decide +kernel⟩
theorem w__law_same (z_all : mg "all" = none) (z_bool : mg "bool" = none) (z_int : mg "int" = none) (z_isinstance : mg "isinstance" = none) (z_len : mg "len" = none) (z_list : mg "list" = none) (z_str : mg "str" = none) (z_tuple : mg "tuple" = none) (z_zip : mg "zip" = none) {f : Addr} {fd : FuncData} (Fu : Fun G.K "_law_same" "_law_same" s__law_same f fd) (hmg : mg "_law_same" = some (.ref f)) : ∀ n : Nat, Cal P w G mg base (0 + n) "_law_same" 2 [] (F__law_same n)
  | 0 => Cal.bad hmg Fu.kp
  | n + 1 => by
    have hself := w__law_same z_all z_bool z_int z_isinstance z_len z_list z_str z_tuple z_zip Fu hmg n
    refine (Cal.fn hmg Fu (show FnOk P w G.K mg base (L2.CX P w) (0 + n + 1) f fd ["_law_got", "_law_goal"] (SpM G (runB 4 2 (b__law_same (F__law_same n)))) from fn_ok2 rfl rfl Fu sc__law_same ?_) (Fu.binds (ps := ["_law_got", "_law_goal"]) fun _ _ _ _ _ _ us hl => match us, hl with | [_, _], _ => rfl)).isoC
    exact fun cdv A outer s H E B hp =>
        ss_cons (s_if (xtru B (xisaT B z_isinstance ["list", "tuple"] (xv 1) (pa_cons (xty z_list PyProof.Rows.boot_list) (pa_cons (xty z_tuple PyProof.Rows.boot_tuple) (pa_nil))))) (ss_cons (s_if (L2.PW.pt (w_or (xcmpT (o_ne B.room.units B.hK) (xisa B z_isinstance (xv 0) (xty z_list PyProof.Rows.boot_list)) (xisa B z_isinstance (xv 1) (xty z_list PyProof.Rows.boot_list))) (w_or1 (xcmpT (o_ne B.room.units B.hK) (xisa B z_isinstance (xv 0) (xty z_tuple PyProof.Rows.boot_tuple)) (xisa B z_isinstance (xv 1) (xty z_tuple PyProof.Rows.boot_tuple)))))) (ss_one (s_ret (e_bl))) (ss_nil))
        (ss_one (s_ret (e_and (xcmp (o_eq B.room.units B.hK) (xb (b_len B.hK) z_len PySem.boot_len (xa (xv 0) (a_nil))) (xb (b_len B.hK) z_len PySem.boot_len (xa (xv 1) (a_nil)))) (e_one (xb (b_all B.hK B.calm) z_all PyProof.Rows.boot_all (xa (ylc [("_law_mine_so", 2), ("_law_own", 3)] lEnd B (yzip B z_zip (xa (xv 0) (xa (xv 1) (a_nil)))) (fun s1 H1 C1 cl1 fp1 => ytup (B.blk s1 H1 _ _ fp1) (pgs_cons (yname 2 (B.blk s1 H1 _ _ fp1)) (pgs_cons (yname 3 (B.blk s1 H1 _ _ fp1)) (pgs_nil)))) (ytupS (Bx.hK B) (glen_cons (glen_cons (glen_nil))) (gs_cons (g_name) (gs_cons (g_name) (gs_nil)))) (fun s1 H1 C1 cl1 fp1 => ts_nil) (fun s1 H1 C1 cl1 fp1 => xcall hself ((B.blk s1 H1 _ _ fp1).le (by omega)) (xa (xv 2) (xa (xv 3) (a_nil))))) (a_nil)))))))) (ss_nil))
        (ss_cons (s_if (L2.PW.pt (w_or (xcmpT (o_is) (xv 1) (e_non)) (w_or1 (xtru B (xisaT B z_isinstance ["bool", "str"] (xv 1) (pa_cons (xty z_bool PyProof.Rows.boot_bool) (pa_cons (xty z_str PyProof.Rows.boot_str) (pa_nil)))))))) (ss_one (s_ret (e_and (xcmp (o_eq B.room.units B.hK) (xv 0) (xv 1)) (e_and (xcmp (o_eq B.room.units B.hK) (xisa B z_isinstance (xv 0) (xty z_bool PyProof.Rows.boot_bool)) (xisa B z_isinstance (xv 1) (xty z_bool PyProof.Rows.boot_bool))) (e_one (xcmp (o_eq B.room.units B.hK) (xcmp (o_is) (xv 0) (e_non)) (xcmp (o_is) (xv 1) (e_non)))))))) (ss_nil))
        (ss_one (s_ret (e_and (xisa B z_isinstance (xv 0) (xty z_int PyProof.Rows.boot_int)) (e_and (e_not (xisa B z_isinstance (xv 0) (xty z_bool PyProof.Rows.boot_bool))) (e_one (xcmp (o_eq B.room.units B.hK) (xv 0) (xv 1))))))))
abbrev s__law_few : Stmt := topS 31
theorem sc__law_few : FnScope ["_law_urn", "_law_pool", "_law_one_of", "_law_own"] ["_law_urn", "_law_pool", "_law_one_of"] (defScope s__law_few) := ⟨rfl, rfl, rfl, by decide +kernel, rfl, by decide +kernel, by decide +kernel⟩
theorem w__law_few (z_tuple : mg "tuple" = none) (c__law_take : Cal P w G mg base 1 "_law_take" 2 [] F__law_take) {f : Addr} {fd : FuncData} (Fu : Fun G.K "_law_few" "_law_few" s__law_few f fd) : FnOk P w G.K mg base (L2.CX P w) 2 f fd ["_law_urn", "_law_pool", "_law_one_of"] (SpM G R__law_few) := by
  show FnOk P w G.K mg base (L2.CX P w) (1 + 1) f fd ["_law_urn", "_law_pool", "_law_one_of"] (SpM G (runB 4 3 b__law_few))
  refine fn_ok2 rfl rfl Fu sc__law_few ?_
  exact fun cdv A outer s H E B hp =>
    ss_one (s_ret (xt (b_tuple B.hK B.calm) z_tuple PyProof.Rows.boot_tuple (xa (ylc [("_law_own", 3)] lEnd B (i_seq (Bx.hK B) (xv 1)) (fun s1 H1 C1 cl1 fp1 => yname 3 (B.blk s1 H1 _ _ fp1)) (g_name) (fun s1 H1 C1 cl1 fp1 => ts_one (xcmpT (o_eq (B.blk s1 H1 _ _ fp1).room.units (B.blk s1 H1 _ _ fp1).hK) (xcall c__law_take ((B.blk s1 H1 _ _ fp1).le (by omega)) (xa (xv 0) (xa (xv 2) (a_nil)))) (e_int))) (fun s1 H1 C1 cl1 fp1 => xv 3)) (a_nil))))
theorem bd__law_few {f : Addr} {fd : FuncData} (Fu : Fun G.K "_law_few" "_law_few" s__law_few f fd) : Binds G.K fd ["_law_urn", "_law_pool", "_law_one_of"] [] := Fu.binds (ps := ["_law_urn", "_law_pool", "_law_one_of"]) fun _ _ _ _ _ _ us hl => match us, hl with | [_, _, _], _ => rfl
abbrev s__law_mixed : Stmt := topS 32
theorem sc__law_mixed : FnScope ["_law_urn", "_law_pool", "_law_left", "_law_found", "_law_turn"] ["_law_urn", "_law_pool"] (defScope s__law_mixed) := ⟨rfl, rfl, rfl, by decide +kernel, rfl, by decide +kernel, by decide +kernel⟩
theorem w__law_mixed (z_len : mg "len" = none) (z_list : mg "list" = none) (z_range : mg "range" = none) (z_tuple : mg "tuple" = none) (c__law_take : Cal P w G mg base 1 "_law_take" 2 [] F__law_take) {f : Addr} {fd : FuncData} (Fu : Fun G.K "_law_mixed" "_law_mixed" s__law_mixed f fd) : FnOk P w G.K mg base (L2.CX P w) 2 f fd ["_law_urn", "_law_pool"] (SpM G R__law_mixed) := by
  show FnOk P w G.K mg base (L2.CX P w) (1 + 1) f fd ["_law_urn", "_law_pool"] (SpM G (runB 5 2 b__law_mixed))
  refine fn_ok2 rfl rfl Fu sc__law_mixed ?_
  exact fun cdv A outer s H E B hp =>
    ss_cons (s_par2 B (xa (xt (b_listB B.hK B.calm) z_list PyProof.Rows.boot_list (xa (xv 1) (a_nil))) (xa (e_lstB (a_nil)) (a_nil))))
    (ss_cons (yfor hp B (yrg1 z_range (xa (xb (b_len B.hK) z_len PySem.boot_len (xa (xv 1) (a_nil))) (a_nil))) (yname 4 B) (g_name) (ss_one (yexpr (xlm B PySem.F.slot_list_append PySem.F.type_list_append m_append (xv 3) (xa (xlm B PySem.F.slot_list_pop PySem.F.type_list_pop m_popAt (xv 2) (xa (xcall c__law_take (B.le (by omega)) (xa (xv 0) (xa (xb (b_len B.hK) z_len PySem.boot_len (xa (xv 2) (a_nil))) (a_nil)))) (a_nil))) (a_nil))))))
    (ss_one (s_ret (xt (b_tuple B.hK B.calm) z_tuple PyProof.Rows.boot_tuple (xa (xv 3) (a_nil))))))
theorem bd__law_mixed {f : Addr} {fd : FuncData} (Fu : Fun G.K "_law_mixed" "_law_mixed" s__law_mixed f fd) : Binds G.K fd ["_law_urn", "_law_pool"] [] := Fu.binds (ps := ["_law_urn", "_law_pool"]) fun _ _ _ _ _ _ us hl => match us, hl with | [_, _], _ => rfl
abbrev s__law_tome : Stmt := topS 33
theorem sc__law_tome : FnScope ["_law_urn", "_law_most_so", "_law_free_so", "_law_left", "_law_many_so", "_law_empty_so", "_law_folk", "_law_free", "_law_table", "_law_style", "_law_wide", "_law_k", "_law_wants", "_law_far", "_law_way", "_law_rows_so", "_law_flat", "_law_own"] ["_law_urn", "_law_most_so", "_law_free_so"] (defScope s__law_tome) := ⟨rfl, rfl, rfl, by decide +kernel, rfl, by decide +kernel, by decide +kernel⟩
theorem w__law_tome (z_int : mg "int" = none) (z_list : mg "list" = none) (z_range : mg "range" = none) (z_set : mg "set" = none) (z_sorted : mg "sorted" = none) (z_tuple : mg "tuple" = none) (c__law_few : Cal P w G mg base 2 "_law_few" 3 [] F__law_few) (c__law_mixed : Cal P w G mg base 2 "_law_mixed" 2 [] F__law_mixed) (c__law_take : Cal P w G mg base 1 "_law_take" 2 [] F__law_take) {f : Addr} {fd : FuncData} (Fu : Fun G.K "_law_tome" "_law_tome" s__law_tome f fd) : FnOk P w G.K mg base (L2.CX P w) 3 f fd ["_law_urn", "_law_most_so", "_law_free_so"] (SpM G R__law_tome) := by
  show FnOk P w G.K mg base (L2.CX P w) (2 + 1) f fd ["_law_urn", "_law_most_so", "_law_free_so"] (SpM G (runB 18 3 b__law_tome))
  refine fn_ok2 rfl rfl Fu sc__law_tome ?_
  exact fun cdv A outer s H E B hp =>
    ss_cons (yset 3 B (e_lst (xa (e_str) (xa (e_str) (xa (e_str) (xa (e_str) (xa (e_str) (xa (e_str) (xa (e_str) (xa (e_str) (xa (e_str) (xa (e_str) (xa (e_str) (a_nil))))))))))))))
    (ss_cons (s_par2 B (xa (e_op (o_add B.hK) (e_int) (xcall c__law_take (B.le (by omega)) (xa (xv 0) (xa (xv 1) (a_nil))))) (xa (xcall c__law_take (B.le (by omega)) (xa (xv 0) (xa (e_op (o_add B.hK) (xv 2) (e_int)) (a_nil)))) (a_nil))))
    (ss_cons (yset 3 B (xt (b_list B.hK B.calm) z_list PyProof.Rows.boot_list (xa (xcall c__law_mixed (B.le (by omega)) (xa (xv 0) (xa (xv 3) (a_nil)))) (a_nil))))
    (ss_cons (s_par2 B (xa (e_sl (sl_any B.hK) (xv 3) (o_no) (o_pt (xv 4))) (xa (e_sl (sl_any B.hK) (xv 3) (o_pt (xv 4)) (o_pt (e_op (o_add B.hK) (xv 4) (xv 5)))) (a_nil))))
    (ss_cons (s_parT B (xa (e_dnew) (xa (xcall c__law_take (B.le (by omega)) (xa (xv 0) (xa (e_int) (a_nil)))) (xa (e_op (o_add B.hK) (e_int) (xcall c__law_take (B.le (by omega)) (xa (xv 0) (xa (e_int) (a_nil))))) (a_nil)))) (ytup B (pgs_cons (yname 8 B) (pgs_cons (yname 9 B) (pgs_cons (yname 10 B) (pgs_nil))))) (nm_cons (nm_cons (nm_cons (nm_nil)))))
    (ss_cons (yfor hp B (yrg1 z_range (xa (xv 4) (a_nil))) (yname 11 B) (g_name) (ss_cons (yset 12 B (e_op (o_mul) (e_lst (xa (xix B (xv 6) (e_op (o_mod) (xt (b_int) z_int PyProof.Rows.boot_int (xa (e_op (o_add B.hK) (xv 11) (e_int)) (a_nil))) (xv 4))) (a_nil))) (xt (b_int) z_int PyProof.Rows.boot_int (xa (xcmp (o_eq B.room.units B.hK) (xv 9) (e_int)) (a_nil)))))
    (ss_cons (yset 12 B (e_op (o_add B.hK) (xv 12) (xt (b_list B.hK B.calm) z_list PyProof.Rows.boot_list (xa (xcall c__law_few (B.le (by omega)) (xa (xv 0) (xa (xv 7) (xa (e_int) (a_nil))))) (a_nil)))))
    (ss_one (ysub B (xv 8) (xix B (xv 6) (xv 11)) (e_op o_addB (xv 12) (e_op (o_mul) (e_sl (sl_any B.hK) (xv 3) (o_pt (e_un u_neg (e_int))) (o_no)) (xt (b_int) z_int PyProof.Rows.boot_int (xa (xcmp (o_eq B.room.units B.hK) (xcall c__law_take (B.le (by omega)) (xa (xv 0) (xa (e_int) (a_nil)))) (e_int)) (a_nil))))))))))
    (ss_cons (yfor hp B (yrg1 z_range (xa (xv 4) (a_nil))) (yname 11 B) (g_name) (ss_one (yfor hp B (i_seq (Bx.hK B) (e_sl (sl_any B.hK) (xv 6) (o_pt (e_op (o_add B.hK) (xv 11) (e_int))) (o_no))) (yname 13 B) (g_name) (ss_cons (yset 14 B (xcall c__law_take (B.le (by omega)) (xa (xv 0) (xa (xv 10) (a_nil)))))
    (ss_cons (s_if (L2.PW.pt (w_or (xcmpT (o_eq B.room.units B.hK) (xv 14) (e_int)) (w_or1 (L2.PW.pt (w_and (xcmpT (o_eq B.room.units B.hK) (xv 14) (e_int)) (w_and1 (xcmpT (o_gt) (xv 9) (e_int)))))))) (ss_one (yexpr (xlm B PySem.F.slot_list_append PySem.F.type_list_append m_append (xix B (xv 8) (xix B (xv 6) (xv 11))) (xa (xv 13) (a_nil))))) (ss_nil))
    (ss_one (s_if (L2.PW.pt (w_or (xcmpT (o_eq B.room.units B.hK) (xv 14) (e_int)) (w_or1 (L2.PW.pt (w_and (xcmpT (o_eq B.room.units B.hK) (xv 14) (e_int)) (w_and1 (xcmpT (o_gt) (xv 9) (e_int)))))))) (ss_one (yexpr (xlm B PySem.F.slot_list_append PySem.F.type_list_append m_append (xix B (xv 8) (xv 13)) (xa (xix B (xv 6) (xv 11)) (a_nil))))) (ss_nil))))))))
    (ss_cons (ysetLc 15 [("_law_own", 17)] lEnd B (i_seq (Bx.hK B) (xv 6)) (fun s1 H1 C1 cl1 fp1 => yname 17 (B.blk s1 H1 _ _ fp1)) (g_name) (fun s1 H1 C1 cl1 fp1 => ts_nil) (fun s1 H1 C1 cl1 fp1 => e_tup (xa (xv 17) (xa (xt (b_tuple (B.blk s1 H1 _ _ fp1).hK (B.blk s1 H1 _ _ fp1).calm) z_tuple PyProof.Rows.boot_tuple (xa (xss (B.blk s1 H1 _ _ fp1) z_sorted z_set (ylc [("_law_flat", 16)] lEnd (B.blk s1 H1 _ _ fp1) (i_seq (Bx.hK (B.blk s1 H1 _ _ fp1)) (e_frz (xix (B.blk s1 H1 _ _ fp1) (xv 8) (xv 17)))) (fun s2 H2 C2 cl2 fp2 => yname 16 ((B.blk s1 H1 _ _ fp1).blk s2 H2 _ _ fp2)) (g_name) (fun s2 H2 C2 cl2 fp2 => ts_one (xcmpT (o_ne ((B.blk s1 H1 _ _ fp1).blk s2 H2 _ _ fp2).room.units ((B.blk s1 H1 _ _ fp1).blk s2 H2 _ _ fp2).hK) (xv 16) (xv 17))) (fun s2 H2 C2 cl2 fp2 => xv 16))) (a_nil))) (a_nil)))))
    (ss_one (s_ret (e_tup (xa (xt (b_tuple B.hK B.calm) z_tuple PyProof.Rows.boot_tuple (xa (xb (b_sorted B.hK B.room.units) z_sorted PyProof.Rows.boot_sorted (xa (xv 15) (a_nil))) (a_nil))) (xa (xt (b_tuple B.hK B.calm) z_tuple PyProof.Rows.boot_tuple (xa (xb (b_sorted B.hK B.room.units) z_sorted PyProof.Rows.boot_sorted (xa (xv 7) (a_nil))) (a_nil))) (a_nil)))))))))))))
theorem bd__law_tome {f : Addr} {fd : FuncData} (Fu : Fun G.K "_law_tome" "_law_tome" s__law_tome f fd) : Binds G.K fd ["_law_urn", "_law_most_so", "_law_free_so"] [] := Fu.binds (ps := ["_law_urn", "_law_most_so", "_law_free_so"]) fun _ _ _ _ _ _ us hl => match us, hl with | [_, _, _], _ => rfl
abbrev s__law_lists : Stmt := topS 34
theorem sc__law_lists : FnScope ["_law_matter", "_law_bit"] ["_law_matter"] (defScope s__law_lists) := ⟨rfl, rfl, rfl, by decide +kernel, rfl, by decide +kernel, by decide +kernel⟩
theorem w__law_lists (z_isinstance : mg "isinstance" = none) (z_list : mg "list" = none) (z_tuple : mg "tuple" = none) {f : Addr} {fd : FuncData} (Fu : Fun G.K "_law_lists" "_law_lists" s__law_lists f fd) (hmg : mg "_law_lists" = some (.ref f)) : ∀ n : Nat, Cal P w G mg base (0 + n) "_law_lists" 1 [] (F__law_lists n)
  | 0 => Cal.bad hmg Fu.kp
  | n + 1 => by
    have hself := w__law_lists z_isinstance z_list z_tuple Fu hmg n
    refine (Cal.fn hmg Fu (show FnOk P w G.K mg base (L2.CX P w) (0 + n + 1) f fd ["_law_matter"] (SpM G (runB 2 1 (b__law_lists (F__law_lists n)))) from fn_ok2 rfl rfl Fu sc__law_lists ?_) (Fu.binds (ps := ["_law_matter"]) fun _ _ _ _ _ _ us hl => match us, hl with | [_], _ => rfl)).isoC
    exact fun cdv A outer s H E B hp =>
        ss_one (s_ret (e_if (xtru B (xisaT B z_isinstance ["list", "tuple"] (xv 0) (pa_cons (xty z_list PyProof.Rows.boot_list) (pa_cons (xty z_tuple PyProof.Rows.boot_tuple) (pa_nil))))) (ylc [("_law_bit", 1)] lEnd B (i_seq (Bx.hK B) (xv 0)) (fun s1 H1 C1 cl1 fp1 => yname 1 (B.blk s1 H1 _ _ fp1)) (g_name) (fun s1 H1 C1 cl1 fp1 => ts_nil) (fun s1 H1 C1 cl1 fp1 => xcall hself ((B.blk s1 H1 _ _ fp1).le (by omega)) (xa (xv 1) (a_nil)))) (xv 0)))
abbrev s__law_is_word : Stmt := topS 35
theorem sc__law_is_word : FnScope ["_law_matter", "_law_sign"] ["_law_matter"] (defScope s__law_is_word) := ⟨rfl, rfl, rfl, by decide +kernel, rfl, by decide +kernel, by decide +kernel⟩
theorem w__law_is_word (z_isinstance : mg "isinstance" = none) (z_len : mg "len" = none) (z_str : mg "str" = none) {f : Addr} {fd : FuncData} (Fu : Fun G.K "_law_is_word" "_law_is_word" s__law_is_word f fd) : FnOk P w G.K mg base (L2.CX P w) 1 f fd ["_law_matter"] (SpM G R__law_is_word) := by
  show FnOk P w G.K mg base (L2.CX P w) (0 + 1) f fd ["_law_matter"] (SpM G (runB 2 1 b__law_is_word))
  refine fn_ok2 rfl rfl Fu sc__law_is_word ?_
  exact fun cdv A outer s H E B hp =>
    ss_cons (s_if (L2.PW.pt (w_or (c_not (xtru B (xisa B z_isinstance (xv 0) (xty z_str PyProof.Rows.boot_str)))) (w_or1 (c_not (xchainT (o_lt) (o_lt) (e_int) (xb (b_len B.hK) z_len PySem.boot_len (xa (xv 0) (a_nil))) (e_int)))))) (ss_one (s_ret (e_bl))) (ss_nil))
    (ss_one (s_ret (xcmp (o_eq B.room.units B.hK) (ylc [("_law_sign", 1)] lEnd B (i_any (Bx.hK B) (xv 0)) (fun s1 H1 C1 cl1 fp1 => yname 1 (B.blk s1 H1 _ _ fp1)) (g_name) (fun s1 H1 C1 cl1 fp1 => ts_one (xcmpT (o_notInS) (xv 1) (e_str))) (fun s1 H1 C1 cl1 fp1 => xv 1)) (e_lst (a_nil)))))
theorem bd__law_is_word {f : Addr} {fd : FuncData} (Fu : Fun G.K "_law_is_word" "_law_is_word" s__law_is_word f fd) : Binds G.K fd ["_law_matter"] [] := Fu.binds (ps := ["_law_matter"]) fun _ _ _ _ _ _ us hl => match us, hl with | [_], _ => rfl
abbrev s__law_six : Stmt := topS 36
theorem sc__law_six : FnScope ["_law_rows_so"] [] (defScope s__law_six) := ⟨rfl, rfl, rfl, by decide +kernel, rfl, by decide +kernel, by decide +kernel⟩
theorem w__law_six  {f : Addr} {fd : FuncData} (Fu : Fun G.K "_law_six" "_law_six" s__law_six f fd) : FnOk P w G.K mg base (L2.CX P w) 1 f fd [] (SpM G R__law_six) := by
  show FnOk P w G.K mg base (L2.CX P w) (0 + 1) f fd [] (SpM G (runB 1 0 b__law_six))
  refine fn_ok2 rfl rfl Fu sc__law_six ?_
  exact fun cdv A outer s H E B hp =>
    ss_cons (yset 0 B (e_tup (xa (e_tup (xa (e_str) (xa (e_tup (xa (e_str) (a_nil))) (a_nil)))) (xa (e_tup (xa (e_str) (xa (e_tup (xa (e_str) (xa (e_str) (a_nil)))) (a_nil)))) (xa (e_tup (xa (e_str) (xa (e_tup (xa (e_str) (xa (e_str) (xa (e_str) (a_nil))))) (a_nil)))) (xa (e_tup (xa (e_str) (xa (e_tup (xa (e_str) (xa (e_str) (a_nil)))) (a_nil)))) (a_nil)))))))
    (ss_one (s_ret (e_tup (xa (e_op (o_add B.hK) (xv 0) (e_tup (xa (e_tup (xa (e_str) (xa (e_tup (xa (e_str) (xa (e_str) (a_nil)))) (a_nil)))) (xa (e_tup (xa (e_str) (xa (e_tup (xa (e_str) (xa (e_str) (a_nil)))) (a_nil)))) (a_nil))))) (xa (e_tup (xa (e_str) (a_nil))) (a_nil))))))
theorem bd__law_six {f : Addr} {fd : FuncData} (Fu : Fun G.K "_law_six" "_law_six" s__law_six f fd) : Binds G.K fd [] [] := Fu.binds (ps := []) fun _ _ _ _ _ _ us hl => match us, hl with | [], _ => rfl
abbrev s__law_sheet : Stmt := topS 37
theorem sc__law_sheet : FnScope ["_law_tome_here", "_law_rows_so", "_law_flat", "_law_own"] ["_law_tome_here"] (defScope s__law_sheet) := ⟨rfl, rfl, rfl, by decide +kernel, rfl, by decide +kernel, by decide +kernel⟩
theorem w__law_sheet (z_int : mg "int" = none) {f : Addr} {fd : FuncData} (Fu : Fun G.K "_law_sheet" "_law_sheet" s__law_sheet f fd) : FnOk P w G.K mg base (L2.CX P w) 1 f fd ["_law_tome_here"] (SpM G R__law_sheet) := by
  show FnOk P w G.K mg base (L2.CX P w) (0 + 1) f fd ["_law_tome_here"] (SpM G (runB 4 1 b__law_sheet))
  refine fn_ok2 rfl rfl Fu sc__law_sheet ?_
  exact fun cdv A outer s H E B hp =>
    ss_cons (ysetLc 1 [("_law_own", 3)] lEnd B (i_seq (Bx.hK B) (xix B (xv 0) (e_int))) (fun s1 H1 C1 cl1 fp1 => yname 3 (B.blk s1 H1 _ _ fp1)) (g_name) (fun s1 H1 C1 cl1 fp1 => ts_nil) (fun s1 H1 C1 cl1 fp1 => e_op (o_add (B.blk s1 H1 _ _ fp1).hK) (e_op (o_add (B.blk s1 H1 _ _ fp1).hK) (xix (B.blk s1 H1 _ _ fp1) (xv 3) (e_int)) (e_str)) (e_join (B.blk s1 H1 _ _ fp1).hK (e_str) (ylc [("_law_flat", 2)] lEnd (B.blk s1 H1 _ _ fp1) (i_seq (Bx.hK (B.blk s1 H1 _ _ fp1)) (xix (B.blk s1 H1 _ _ fp1) (xv 3) (e_int))) (fun s2 H2 C2 cl2 fp2 => yname 2 ((B.blk s1 H1 _ _ fp1).blk s2 H2 _ _ fp2)) (g_name) (fun s2 H2 C2 cl2 fp2 => ts_nil) (fun s2 H2 C2 cl2 fp2 => e_op (o_add ((B.blk s1 H1 _ _ fp1).blk s2 H2 _ _ fp2).hK) (e_str) (xv 2))))))
    (ss_one (s_ret (e_join B.hK (e_str) (e_op (o_add B.hK) (xv 1) (e_op (o_mul) (e_lst (xa (e_op (o_add B.hK) (e_str) (e_join B.hK (e_str) (ylc [("_law_flat", 2)] lEnd B (i_seq (Bx.hK B) (xix B (xv 0) (e_int))) (fun s1 H1 C1 cl1 fp1 => yname 2 (B.blk s1 H1 _ _ fp1)) (g_name) (fun s1 H1 C1 cl1 fp1 => ts_nil) (fun s1 H1 C1 cl1 fp1 => e_op (o_add (B.blk s1 H1 _ _ fp1).hK) (e_str) (xv 2))))) (a_nil))) (xt (b_int) z_int PyProof.Rows.boot_int (xa (xcmp (o_ne B.room.units B.hK) (xix B (xv 0) (e_int)) (e_tup (a_nil))) (a_nil))))))))
theorem bd__law_sheet {f : Addr} {fd : FuncData} (Fu : Fun G.K "_law_sheet" "_law_sheet" s__law_sheet f fd) : Binds G.K fd ["_law_tome_here"] [] := Fu.binds (ps := ["_law_tome_here"]) fun _ _ _ _ _ _ us hl => match us, hl with | [_], _ => rfl
abbrev s__law_bent_text : Stmt := topS 38
theorem sc__law_bent_text : FnScope ["_law_urn", "_law_text_so", "_law_sort_so", "_law_k", "_law_signs", "_law_gap_so", "_law_bits", "_law_both"] ["_law_urn", "_law_text_so"] (defScope s__law_bent_text) := ⟨rfl, rfl, rfl, by decide +kernel, rfl, by decide +kernel, by decide +kernel⟩
theorem w__law_bent_text (z_len : mg "len" = none) (c__law_of : Cal P w G mg base 2 "_law_of" 2 [] Hd.F__law_of) (c__law_take : Cal P w G mg base 1 "_law_take" 2 [] F__law_take) {f : Addr} {fd : FuncData} (Fu : Fun G.K "_law_bent_text" "_law_bent_text" s__law_bent_text f fd) : FnOk P w G.K mg base (L2.CX P w) 3 f fd ["_law_urn", "_law_text_so"] (SpM G R__law_bent_text) := by
  show FnOk P w G.K mg base (L2.CX P w) (2 + 1) f fd ["_law_urn", "_law_text_so"] (SpM G (runB 8 2 b__law_bent_text))
  refine fn_ok2 rfl rfl Fu sc__law_bent_text ?_
  exact fun cdv A outer s H E B hp =>
    ss_cons (s_par2 B (xa (xcall c__law_take (B.le (by omega)) (xa (xv 0) (xa (e_int) (a_nil)))) (xa (xcall c__law_take (B.le (by omega)) (xa (xv 0) (xa (e_op (o_add B.hK) (xb (b_len B.hK) z_len PySem.boot_len (xa (xv 1) (a_nil))) (e_int)) (a_nil)))) (a_nil))))
    (ss_cons (yset 4 B (e_lst (xa (e_str) (xa (e_str) (xa (e_str) (xa (e_str) (xa (e_str) (xa (e_str) (xa (e_str) (xa (e_str) (xa (e_str) (xa (e_str) (xa (e_str) (xa (e_str) (xa (e_str) (a_nil))))))))))))))))
    (ss_cons (s_if (xcmpT (o_lt) (xv 2) (e_int)) (ss_one (s_ret (e_op (o_add B.hK) (e_op (o_add B.hK) (e_sl (sl_any B.hK) (xv 1) (o_no) (o_pt (xv 3))) (xcall c__law_of (B.le (by omega)) (xa (xv 0) (xa (xv 4) (a_nil))))) (e_sl (sl_any B.hK) (xv 1) (o_pt (xv 3)) (o_no))))) (ss_nil))
    (ss_cons (s_if (xcmpT (o_eq B.room.units B.hK) (xv 2) (e_int)) (ss_one (s_ret (e_op (o_add B.hK) (e_sl (sl_any B.hK) (xv 1) (o_no) (o_pt (xv 3))) (e_sl (sl_any B.hK) (xv 1) (o_pt (e_op (o_add B.hK) (xv 3) (e_int))) (o_no))))) (ss_nil))
    (ss_cons (s_if (xcmpT (o_eq B.room.units B.hK) (xv 2) (e_int)) (ss_one (s_ret (e_op (o_add B.hK) (e_op (o_add B.hK) (e_sl (sl_any B.hK) (xv 1) (o_no) (o_pt (xv 3))) (e_sl (sl_any B.hK) (xv 1) (o_pt (xv 3)) (o_pt (e_op (o_add B.hK) (xv 3) (e_int))))) (e_sl (sl_any B.hK) (xv 1) (o_pt (xv 3)) (o_no))))) (ss_nil))
    (ss_cons (s_if (xcmpT (o_eq B.room.units B.hK) (xv 2) (e_int)) (ss_one (s_ret (e_op (o_add B.hK) (e_op (o_add B.hK) (e_sl (sl_any B.hK) (xv 1) (o_no) (o_pt (xv 3))) (xcall c__law_of (B.le (by omega)) (xa (xv 0) (xa (xv 4) (a_nil))))) (e_sl (sl_any B.hK) (xv 1) (o_pt (e_op (o_add B.hK) (xv 3) (e_int))) (o_no))))) (ss_nil))
    (ss_cons (yset 5 B (xcall c__law_of (B.le (by omega)) (xa (xv 0) (xa (e_lst (xa (e_str) (xa (e_str) (xa (e_str) (xa (e_str) (a_nil)))))) (a_nil)))))
    (ss_cons (yset 6 B (e_split (xv 1) (xv 5)))
    (ss_cons (yset 3 B (xcall c__law_take (B.le (by omega)) (xa (xv 0) (xa (xb (b_len B.hK) z_len PySem.boot_len (xa (xv 6) (a_nil))) (a_nil)))))
    (ss_cons (s_if (xcmpT (o_eq B.room.units B.hK) (xv 2) (e_int)) (ss_one (s_ret (e_join B.hK (xv 5) (e_op (o_add B.hK) (e_sl (sl_any B.hK) (xv 6) (o_no) (o_pt (xv 3))) (e_sl (sl_any B.hK) (xv 6) (o_pt (e_op (o_add B.hK) (xv 3) (e_int))) (o_no)))))) (ss_nil))
    (ss_cons (yset 7 B (e_revL B (e_sl (sl_any B.hK) (xv 6) (o_pt (xv 3)) (o_pt (e_op (o_add B.hK) (xv 3) (e_int))))))
    (ss_one (s_ret (e_join B.hK (xv 5) (e_op (o_add B.hK) (e_op (o_add B.hK) (e_sl (sl_any B.hK) (xv 6) (o_no) (o_pt (xv 3))) (xv 7)) (e_sl (sl_any B.hK) (xv 6) (o_pt (e_op (o_add B.hK) (xv 3) (e_int))) (o_no))))))))))))))))
theorem bd__law_bent_text {f : Addr} {fd : FuncData} (Fu : Fun G.K "_law_bent_text" "_law_bent_text" s__law_bent_text f fd) : Binds G.K fd ["_law_urn", "_law_text_so"] [] := Fu.binds (ps := ["_law_urn", "_law_text_so"]) fun _ _ _ _ _ _ us hl => match us, hl with | [_, _], _ => rfl
abbrev s__law_read : Stmt := topS 39
theorem sc__law_read : FnScope ["_law_text_so", "_law_rows_so", "_law_free", "_law_k", "_law_line", "_law_some", "_law_bag", "_law_own", "_law_whom"] ["_law_text_so"] (defScope s__law_read) := ⟨rfl, rfl, rfl, by decide +kernel, rfl, by decide +kernel, by decide +kernel⟩
theorem w__law_read (z_all : mg "all" = none) (z_enumerate : mg "enumerate" = none) (z_set : mg "set" = none) (z_sorted : mg "sorted" = none) (z_tuple : mg "tuple" = none) (c__law_is_word : Cal P w G mg base 1 "_law_is_word" 1 [] F__law_is_word) {f : Addr} {fd : FuncData} (Fu : Fun G.K "_law_read" "_law_read" s__law_read f fd) : FnOk P w G.K mg base (L2.CX P w) 2 f fd ["_law_text_so"] (SpM G R__law_read) := by
  show FnOk P w G.K mg base (L2.CX P w) (1 + 1) f fd ["_law_text_so"] (SpM G (runB 9 1 b__law_read))
  refine fn_ok2 rfl rfl Fu sc__law_read ?_
  exact fun cdv A outer s H E B hp =>
    ss_cons (s_par2 B (xa (e_lstB (a_nil)) (xa (e_tup (a_nil)) (a_nil))))
    (ss_cons (yfor hp B (yenum B z_enumerate (xa (e_if (xcmpT (o_ne B.room.units B.hK) (xv 0) (e_str)) (e_split (xv 0) (e_str)) (e_lst (a_nil))) (a_nil))) (ytup B (pgs_cons (yname 3 B) (pgs_cons (yname 4 B) (pgs_nil)))) (ytupS (Bx.hK B) (glen_cons (glen_cons (glen_nil))) (gs_cons (g_name) (gs_cons (g_name) (gs_nil)))) (ss_cons (yset 5 B (e_split (xv 4) (e_str)))
    (ss_cons (yset 6 B (e_sl (sl_any B.hK) (xv 5) (o_pt (e_int)) (o_no)))
    (ss_cons (s_if (L2.PW.pt (w_or (xcmpT (o_ne B.room.units B.hK) (xv 2) (e_tup (a_nil))) (w_or (c_not (xtru B (xb (b_all B.hK B.calm) z_all PyProof.Rows.boot_all (xa (ylc [("_law_own", 7)] lEnd B (i_seq (Bx.hK B) (xv 6)) (fun s1 H1 C1 cl1 fp1 => yname 7 (B.blk s1 H1 _ _ fp1)) (g_name) (fun s1 H1 C1 cl1 fp1 => ts_nil) (fun s1 H1 C1 cl1 fp1 => xcall c__law_is_word ((B.blk s1 H1 _ _ fp1).le (by omega)) (xa (xv 7) (a_nil)))) (a_nil))))) (w_or1 (xcmpT (o_ne B.room.units B.hK) (xv 6) (xss B z_sorted z_set (xv 6))))))) (ss_one (s_ret (xv 3))) (ss_nil))
    (ss_one (s_if (xcmpT (o_eq B.room.units B.hK) (xix B (xv 5) (e_int)) (e_str)) (ss_cons (s_if (L2.PW.pt (w_or (xcmpT (o_eq B.room.units B.hK) (xv 6) (e_lst (a_nil))) (w_or1 (xcmpT (o_ne B.room.units B.hK) (ylcR 1 [("_law_own", 7)] lEnd B (fun s1 H1 C1 cl1 fp1 => yname 7 (B.blk s1 H1 _ _ fp1)) (g_name) (fun s1 H1 C1 cl1 fp1 => ts_one (xcmpT (o_in (B.blk s1 H1 _ _ fp1).room.units66 (B.blk s1 H1 _ _ fp1).hK) (xix (B.blk s1 H1 _ _ fp1) (xv 7) (e_int)) (xv 6))) (fun s1 H1 C1 cl1 fp1 => xv 7)) (e_lst (a_nil)))))) (ss_one (s_ret (xv 3))) (ss_nil))
    (ss_one (yset 2 B (xt (b_tuple B.hK B.calm) z_tuple PyProof.Rows.boot_tuple (xa (xv 6) (a_nil)))))) (ss_cons (yset 8 B (e_sl (sl_any B.hK) (xix B (xv 5) (e_int)) (o_no) (o_pt (e_un u_neg (e_int)))))
    (ss_cons (s_if (L2.PW.pt (w_or (xcmpT (o_ne B.room.units B.hK) (e_sl (sl_any B.hK) (xix B (xv 5) (e_int)) (o_pt (e_un u_neg (e_int))) (o_no)) (e_str)) (w_or (c_not (xtru B (xcall c__law_is_word (B.le (by omega)) (xa (xv 8) (a_nil))))) (w_or1 (xcmpT (o_in B.room.units66 B.hK) (xv 8) (xv 6)))))) (ss_one (s_ret (xv 3))) (ss_nil))
    (ss_cons (s_if (L2.PW.pt (w_and (xcmpT (o_ne B.room.units B.hK) (xv 1) (e_lst (a_nil))) (w_and1 (xcmpT (o_ge) (xix B (xix B (xv 1) (e_un u_neg (e_int))) (e_int)) (xv 8))))) (ss_one (s_ret (xv 3))) (ss_nil))
    (ss_one (yexpr (xlm B PySem.F.slot_list_append PySem.F.type_list_append m_append (xv 1) (xa (e_tup (xa (xv 8) (xa (xt (b_tuple B.hK B.calm) z_tuple PyProof.Rows.boot_tuple (xa (xv 6) (a_nil))) (a_nil)))) (a_nil))))))))))))))
    (ss_one (s_ret (e_tup (xa (xt (b_tuple B.hK B.calm) z_tuple PyProof.Rows.boot_tuple (xa (xv 1) (a_nil))) (xa (xv 2) (a_nil)))))))
theorem bd__law_read {f : Addr} {fd : FuncData} (Fu : Fun G.K "_law_read" "_law_read" s__law_read f fd) : Binds G.K fd ["_law_text_so"] [] := Fu.binds (ps := ["_law_text_so"]) fun _ _ _ _ _ _ us hl => match us, hl with | [_], _ => rfl
abbrev s__law_heard : Stmt := topS 40
theorem sc__law_heard : FnScope ["_law_text_so", "_law_caught", "_law_found", "error"] ["_law_text_so"] (defScope s__law_heard) := ⟨rfl, rfl, rfl, by decide +kernel, rfl, by decide +kernel, by decide +kernel⟩
theorem w__law_heard (z_ValueError : mg "ValueError" = none) (z_isinstance : mg "isinstance" = none) {XA_BadLine : Addr} (gx_BadLine : mg "BadLine" = some (.ref XA_BadLine)) {XA_BadText : Addr} (gx_BadText : mg "BadText" = some (.ref XA_BadText)) {XA_Clash : Addr} (gx_Clash : mg "Clash" = some (.ref XA_Clash)) {XA_Taken : Addr} (gx_Taken : mg "Taken" = some (.ref XA_Taken)) (em_BadLine : ExmR G [true] (.ref XA_BadLine)) (em_BadText : ExmR G [false] (.ref XA_BadText)) (em_Clash : ExmR G [false] (.ref XA_Clash)) (em_Taken : ExmR G [false] (.ref XA_Taken)) (ki_BadLine : KitR G [true] (.ref XA_BadLine)) (ki_ValueError : KitR G [true] (.type "ValueError")) (xk : ExkR G 1 ["number"]) (c_sheet_in : Cal P w G mg base 4 "sheet_in" 1 [] F_sheet_in) {f : Addr} {fd : FuncData} (Fu : Fun G.K "_law_heard" "_law_heard" s__law_heard f fd) : FnOk P w G.K mg base (L2.CX P w) 5 f fd ["_law_text_so"] (SpM G R__law_heard) := by
  show FnOk P w G.K mg base (L2.CX P w) (4 + 1) f fd ["_law_text_so"] (SpM G (runB 4 1 b__law_heard))
  refine fn_ok2 rfl rfl Fu sc__law_heard ?_
  exact fun cdv A outer s H E B hp =>
    ss_cons (yasg (ytup B (pgs_cons (yname 1 B) (pgs_cons (yname 2 B) (pgs_nil)))) (ytupS (Bx.hK B) (glen_cons (glen_cons (glen_nil))) (gs_cons (g_name) (gs_cons (g_name) (gs_nil)))) (e_tup (xa (e_non) (xa (e_non) (a_nil)))))
    (ss_cons (ytry (bs := [true]) 3 1 B (NmL.cons (ynm gx_BadLine) (NmL.cons (ynm gx_BadText) (NmL.cons (ynm gx_Clash) (NmL.cons (ynm gx_Taken) NmL.nil)))) (hitR_cons (a := [true]) (b := [false]) em_BadLine (hitR_cons (a := [false]) (b := [false]) em_BadText (hitR_cons (a := [false]) (b := [false]) em_Clash (hitR_cons (a := [false]) (b := [false]) em_Taken (hitR_nil (n := 1)))))) xk (fun W1 pn1 xe1 B1 hp => ss_one (yset 2 B1 (xcall c_sheet_in (B1.le (by omega)) (xa (xv 0) (a_nil))))))
    (ss_cons (s_if (xcmpT (o_is) (xv 1) (e_non)) (ss_one (s_ret (xv 2))) (ss_nil))
    (ss_one (s_ret (e_if (L2.PW.pt (w_and (xtru B (xisE (bs := [true]) B z_isinstance (.own _) ki_BadLine xk (xv 1) (xglR gx_BadLine))) (w_and1 (xtru B (xisE (bs := [true]) B z_isinstance (.ty _) ki_ValueError xk (xv 1) (xty z_ValueError PyProof.Rows.Boot.«ValueError»)))))) (xexf (bs := [true]) B xk (by intro c hc; rcases c with _ | _ | _ | _ | c <;> first | rfl | exact absurd hc (by decide) | exact absurd hc (by simp [Sm.tblT])) (xv 1)) (e_str))))))
theorem bd__law_heard {f : Addr} {fd : FuncData} (Fu : Fun G.K "_law_heard" "_law_heard" s__law_heard f fd) : Binds G.K fd ["_law_text_so"] [] := Fu.binds (ps := ["_law_text_so"]) fun _ _ _ _ _ _ us hl => match us, hl with | [_], _ => rfl
abbrev s__law_by_hand_right : Stmt := topS 41
theorem sc__law_by_hand_right : FnScope ["_law_six_here", "_law_none_so", "_law_some", "_law_got", "_law_goal", "_law_due", "_law_own"] [] (defScope s__law_by_hand_right) := ⟨rfl, rfl, rfl, by decide +kernel, rfl, by decide +kernel, by decide +kernel⟩
theorem w__law_by_hand_right (c__law_heard : Cal P w G mg base 5 "_law_heard" 1 [] F__law_heard) (c__law_same : ∀ n : Nat, Cal P w G mg base (0 + n) "_law_same" 2 [] (F__law_same n)) (c__law_six : Cal P w G mg base 1 "_law_six" 0 [] F__law_six) (c_sheet_text : Cal P w G mg base 11 "sheet_text" 1 [] F_sheet_text) {f : Addr} {fd : FuncData} (Fu : Fun G.K "_law_by_hand_right" "_law_by_hand_right" s__law_by_hand_right f fd) : FnOk P w G.K mg base (L2.CX P w) 12 f fd [] (SpM G R__law_by_hand_right) := by
  show FnOk P w G.K mg base (L2.CX P w) (11 + 1) f fd [] (SpM G (runB 7 0 b__law_by_hand_right))
  refine fn_ok2 rfl rfl Fu sc__law_by_hand_right ?_
  exact fun cdv A outer s H E B hp =>
    ss_cons (s_par2 B (xa (xcall0 c__law_six (B.le (by omega))) (xa (e_tup (xa (e_tup (a_nil)) (xa (e_tup (a_nil)) (a_nil)))) (a_nil))))
    (ss_cons (yset 2 B (e_str))
    (ss_cons (yset 3 B (e_lst (xa (xcall c_sheet_text (B.le (by omega)) (xa (xv 0) (a_nil))) (xa (xcall c_sheet_text (B.le (by omega)) (xa (xv 1) (a_nil))) (xa (xcall c_sheet_text (B.le (by omega)) (xa (e_tup (xa (e_tup (a_nil)) (xa (e_tup (xa (e_str) (xa (e_str) (a_nil)))) (a_nil)))) (a_nil))) (xa (xcall c_sheet_text (B.le (by omega)) (xa (e_tup (xa (e_tup (xa (e_tup (xa (e_str) (xa (e_tup (a_nil)) (a_nil)))) (a_nil))) (xa (e_tup (a_nil)) (a_nil)))) (a_nil))) (a_nil)))))))
    (ss_cons (yset 4 B (e_lst (xa (xv 2) (xa (e_str) (xa (e_str) (xa (e_str) (a_nil)))))))
    (ss_cons (yset 2 B (e_lst (xa (xv 2) (xa (e_str) (xa (e_str) (xa (e_str) (xa (e_str) (xa (e_str) (xa (e_str) (xa (e_str) (xa (e_str) (xa (e_str) (xa (e_str) (xa (e_str) (a_nil)))))))))))))))
    (ss_cons (yset 2 B (e_op (o_add B.hK) (xv 2) (e_lst (xa (e_str) (xa (e_str) (xa (e_str) (xa (e_str) (xa (e_str) (xa (e_str) (xa (e_str) (xa (e_str) (xa (e_str) (xa (e_str) (xa (e_str) (xa (e_str) (a_nil))))))))))))))))
    (ss_cons (yset 2 B (e_op (o_add B.hK) (xv 2) (e_lst (xa (e_str) (xa (e_str) (a_nil))))))
    (ss_cons (yset 2 B (e_op (o_add B.hK) (xv 2) (e_lst (xa (e_str) (xa (e_str) (xa (e_str) (xa (e_str) (xa (e_str) (xa (e_str) (xa (e_str) (xa (e_str) (a_nil))))))))))))
    (ss_cons (yset 2 B (e_op (o_add B.hK) (xv 2) (e_lst (xa (e_str) (xa (e_str) (xa (e_str) (a_nil)))))))
    (ss_cons (yset 5 B (e_op (o_add B.hK) (e_lst (xa (xv 0) (xa (xv 1) (xa (e_tup (xa (e_tup (a_nil)) (xa (e_tup (xa (e_str) (xa (e_str) (a_nil)))) (a_nil)))) (xa (e_tup (xa (e_tup (xa (e_tup (xa (e_str) (xa (e_tup (a_nil)) (a_nil)))) (a_nil))) (xa (e_tup (a_nil)) (a_nil)))) (xa (e_int) (xa (e_int) (xa (e_int) (xa (e_int) (xa (e_int) (xa (e_int) (xa (e_int) (xa (e_int) (a_nil)))))))))))))) (e_op (o_mul) (e_lst (xa (e_int) (a_nil))) (e_int))))
    (ss_cons (yset 5 B (e_op (o_add B.hK) (xv 5) (e_lst (xa (e_int) (xa (e_int) (xa (e_int) (xa (e_int) (xa (e_int) (xa (e_int) (xa (e_tup (xa (e_tup (xa (e_tup (xa (e_str) (xa (e_tup (xa (e_str) (a_nil))) (a_nil)))) (a_nil))) (xa (e_tup (a_nil)) (a_nil)))) (xa (e_int) (xa (e_int) (xa (e_int) (xa (e_int) (a_nil)))))))))))))))
    (ss_one (s_ret (xcall (c__law_same 8) (B.le (by omega)) (xa (e_op (o_add B.hK) (xv 3) (ylc [("_law_own", 6)] lEnd B (i_seq (Bx.hK B) (xv 2)) (fun s1 H1 C1 cl1 fp1 => yname 6 (B.blk s1 H1 _ _ fp1)) (g_name) (fun s1 H1 C1 cl1 fp1 => ts_nil) (fun s1 H1 C1 cl1 fp1 => xcall c__law_heard ((B.blk s1 H1 _ _ fp1).le (by omega)) (xa (xv 6) (a_nil))))) (xa (e_op (o_add B.hK) (xv 4) (xv 5)) (a_nil))))))))))))))))
theorem bd__law_by_hand_right {f : Addr} {fd : FuncData} (Fu : Fun G.K "_law_by_hand_right" "_law_by_hand_right" s__law_by_hand_right f fd) : Binds G.K fd [] [] := Fu.binds (ps := []) fun _ _ _ _ _ _ us hl => match us, hl with | [], _ => rfl
abbrev s__law_right : Stmt := topS 42
theorem sc__law_right : FnScope ["_law_urn", "_law_turn", "_law_tome_here", "_law_goal", "_law_soft", "_law_lap", "_law_some"] ["_law_urn"] (defScope s__law_right) := ⟨rfl, rfl, rfl, by decide +kernel, rfl, by decide +kernel, by decide +kernel⟩
theorem w__law_right (z_range : mg "range" = none) (c__law_bent_text : Cal P w G mg base 3 "_law_bent_text" 2 [] F__law_bent_text) (c__law_by_hand_right : Cal P w G mg base 12 "_law_by_hand_right" 0 [] F__law_by_hand_right) (c__law_heard : Cal P w G mg base 5 "_law_heard" 1 [] F__law_heard) (c__law_lists : ∀ n : Nat, Cal P w G mg base (0 + n) "_law_lists" 1 [] (F__law_lists n)) (c__law_read : Cal P w G mg base 2 "_law_read" 1 [] F__law_read) (c__law_same : ∀ n : Nat, Cal P w G mg base (0 + n) "_law_same" 2 [] (F__law_same n)) (c__law_sheet : Cal P w G mg base 1 "_law_sheet" 1 [] F__law_sheet) (c__law_tome : Cal P w G mg base 3 "_law_tome" 3 [] F__law_tome) (c_sheet_in : Cal P w G mg base 4 "sheet_in" 1 [] F_sheet_in) (ck_sheet_in_0_text : Cal P w G mg base 4 "sheet_in" 0 ["text"] (kwF [0] [] F_sheet_in)) (c_sheet_text : Cal P w G mg base 11 "sheet_text" 1 [] F_sheet_text) (ck_sheet_text_0_sheet : Cal P w G mg base 11 "sheet_text" 0 ["sheet"] (kwF [0] [] F_sheet_text)) {f : Addr} {fd : FuncData} (Fu : Fun G.K "_law_right" "_law_right" s__law_right f fd) : FnOk P w G.K mg base (L2.CX P w) 13 f fd ["_law_urn"] (SpM G R__law_right) := by
  show FnOk P w G.K mg base (L2.CX P w) (12 + 1) f fd ["_law_urn"] (SpM G (runB 7 1 b__law_right))
  refine fn_ok2 rfl rfl Fu sc__law_right ?_
  exact fun cdv A outer s H E B hp =>
    ss_cons (s_if (c_not (xtru B (xcall0 c__law_by_hand_right (B.le (by omega))))) (ss_one (s_ret (e_bl))) (ss_nil))
    (ss_cons (yfor hp B (yrg1 z_range (xa (e_int) (a_nil))) (yname 1 B) (g_name) (ss_cons (yset 2 B (xcall c__law_tome (B.le (by omega)) (xa (xv 0) (xa (e_int) (xa (e_int) (a_nil))))))
    (ss_cons (s_par2 B (xa (xcall c__law_sheet (B.le (by omega)) (xa (xv 2) (a_nil))) (xa (xcall (c__law_lists 8) (B.le (by omega)) (xa (xv 2) (a_nil))) (a_nil))))
    (ss_cons (s_if (L2.PW.pt (w_or (c_not (xtru B (xcall (c__law_same 8) (B.le (by omega)) (xa (e_lst (xa (xcall c_sheet_text (B.le (by omega)) (xa (xv 2) (a_nil))) (xa (xcallK0 ck_sheet_text_0_sheet (B.le (by omega)) (k_cons (xv 4) (k_nil))) (a_nil)))) (xa (e_lst (xa (xv 3) (xa (xv 3) (a_nil)))) (a_nil)))))) (w_or1 (xcmpT (o_ne B.room.units B.hK) (xv 4) (xcall (c__law_lists 8) (B.le (by omega)) (xa (xv 2) (a_nil))))))) (ss_one (s_ret (e_bl))) (ss_nil))
    (ss_cons (s_if (c_not (xtru B (xcall (c__law_same 8) (B.le (by omega)) (xa (e_lst (xa (xcall c_sheet_in (B.le (by omega)) (xa (xv 3) (a_nil))) (xa (xcallK0 ck_sheet_in_0_text (B.le (by omega)) (k_cons (xv 3) (k_nil))) (a_nil)))) (xa (e_lst (xa (xv 2) (xa (xv 2) (a_nil)))) (a_nil)))))) (ss_one (s_ret (e_bl))) (ss_nil))
    (ss_one (yfor hp B (yrg1 z_range (xa (e_int) (a_nil))) (yname 5 B) (g_name) (ss_cons (yset 6 B (xcall c__law_bent_text (B.le (by omega)) (xa (xv 0) (xa (xv 3) (a_nil)))))
    (ss_cons (yset 6 B (e_if (xcmpT (o_gt) (xv 5) (e_int)) (xcall c__law_bent_text (B.le (by omega)) (xa (xv 0) (xa (xv 6) (a_nil)))) (xv 6)))
    (ss_one (s_if (c_not (xtru B (xcall (c__law_same 8) (B.le (by omega)) (xa (xcall c__law_heard (B.le (by omega)) (xa (xv 6) (a_nil))) (xa (xcall c__law_read (B.le (by omega)) (xa (xv 6) (a_nil))) (a_nil)))))) (ss_one (s_ret (e_bl))) (ss_nil))))))))))))
    (ss_one (s_ret (e_bl))))
theorem bd__law_right {f : Addr} {fd : FuncData} (Fu : Fun G.K "_law_right" "_law_right" s__law_right f fd) : Binds G.K fd ["_law_urn"] [] := Fu.binds (ps := ["_law_urn"]) fun _ _ _ _ _ _ us hl => match us, hl with | [_], _ => rfl
abbrev s_law : Stmt := topS 43
theorem sc_law : FnScope ["_law_script", "_law_cells_here", "_law_k"] ["_law_script"] (defScope s_law) := ⟨rfl, rfl, rfl, by decide +kernel, rfl, by decide +kernel, by decide +kernel⟩
theorem w_law (z_all : mg "all" = none) (z_len : mg "len" = none) (z_range : mg "range" = none) (c__law_box : Cal P w G mg base 1 "_law_box" 2 [] F__law_box) (c__law_cells : Cal P w G mg base 1 "_law_cells" 2 [] F__law_cells) (c__law_right : Cal P w G mg base 13 "_law_right" 1 [] F__law_right) {f : Addr} {fd : FuncData} (Fu : Fun G.K "law" "law" s_law f fd) : FnOk P w G.K mg base (L2.CX P w) 14 f fd ["_law_script"] (SpM G R_law) := by
  show FnOk P w G.K mg base (L2.CX P w) (13 + 1) f fd ["_law_script"] (SpM G (runB 3 1 b_law))
  refine fn_ok2 rfl rfl Fu sc_law ?_
  exact fun cdv A outer s H E B hp =>
    ss_cons (yset 1 B (xcall c__law_cells (B.le (by omega)) (xa (xv 0) (xa (e_int) (a_nil)))))
    (ss_one (s_ret (xb (b_all B.hK B.calm) z_all PyProof.Rows.boot_all (xa (ylc [("_law_k", 2)] lEnd B (yrg1 z_range (xa (xb (b_len B.hK) z_len PySem.boot_len (xa (xv 1) (a_nil))) (a_nil))) (fun s1 H1 C1 cl1 fp1 => yname 2 (B.blk s1 H1 _ _ fp1)) (g_name) (fun s1 H1 C1 cl1 fp1 => ts_nil) (fun s1 H1 C1 cl1 fp1 => xcall c__law_right ((B.blk s1 H1 _ _ fp1).le (by omega)) (xa (xcall c__law_box ((B.blk s1 H1 _ _ fp1).le (by omega)) (xa (xv 1) (xa (xv 2) (a_nil)))) (a_nil)))) (a_nil)))))
end
end K14
namespace K14
open PySem PySem.Spec PyProof.Rows L2 Sm Hn
def GG (K : PySem.W.Frag) (C0 : Addr) (XA_BadLine : Addr) : Gs := ⟨K, fun c => match c with
  | 0 => C0
  | _ => 0, fun c => match c with
  | 0 => .ref XA_BadLine
  | _ => .none, fun c => match c with
  | 0 => some "number"
  | _ => none, true, []⟩
set_option maxHeartbeats 4000000 in
theorem all_mk (hT : LawTrue F_law) {l : PySem.W.OpenLaw} {w : World} {K : PySem.W.Frag} {h : Heap} {mg : Str → Option Value} {fa : Addr} (X : K.In h) (Gn : h.Ns mainGlobals mg) (hfa : mg "law" = some (.ref fa)) {C0 : Addr}  {XA_BadLine : Addr} {XA_BadText : Addr} {XA_Clash : Addr} {XA_Taken : Addr} {nmC_BadLine qC_BadLine : Str} {NC_BadLine fX_BadLine cdX_BadLine ccX_BadLine : Addr} {bsC_BadLine subC_BadLine : List Value} {snC_BadLine : List Str} {abC_BadLine : Bool} {colC_BadLine : Option Bool} {ddC_BadLine odX_BadLine anX_BadLine cddX_BadLine cldX_BadLine : Option Addr} {k0_BadLine k1_BadLine k2_BadLine k3_BadLine k5_BadLine : Option Value} {ocX_BadLine kVX_BadLine docX_BadLine pmX_BadLine ctX_BadLine cclX_BadLine clX_BadLine : Value} {osX_BadLine ccsX_BadLine cslX_BadLine } {flX_BadLine : Str} {tfX_BadLine : Tok} {pp_own_empties : Addr} {pp_own_homes : Addr} {pp_own_rows : Addr} {tk_BLANK : Tok} {tk_COLON : Tok} {tk_EMPTIES : Tok} {tk_FEED : Tok} {tk_LETTERS : Tok} {tk_LONGEST : Tok} {f_tupled : Addr} {oc_tupled dc_tupled pm_tupled cd_tupled ct_tupled kV_tupled : Value} {od_tupled an_tupled : Option Addr} {os_tupled : Array (Option Value)} {f_is_name : Addr} {oc_is_name dc_is_name pm_is_name cd_is_name ct_is_name kV_is_name : Value} {od_is_name an_is_name : Option Addr} {os_is_name : Array (Option Value)} {f_rises : Addr} {oc_rises dc_rises pm_rises cd_rises ct_rises kV_rises : Value} {od_rises an_rises : Option Addr} {os_rises : Array (Option Value)} {f_is_set : Addr} {oc_is_set dc_is_set pm_is_set cd_is_set ct_is_set kV_is_set : Value} {od_is_set an_is_set : Option Addr} {os_is_set : Array (Option Value)} {f_Sheet_init : Addr} {oc_Sheet_init dc_Sheet_init pm_Sheet_init cd_Sheet_init ct_Sheet_init kV_Sheet_init : Value} {od_Sheet_init an_Sheet_init : Option Addr} {os_Sheet_init : Array (Option Value)} {f_Sheet_names : Addr} {oc_Sheet_names dc_Sheet_names pm_Sheet_names cd_Sheet_names ct_Sheet_names kV_Sheet_names : Value} {od_Sheet_names an_Sheet_names : Option Addr} {os_Sheet_names : Array (Option Value)} {f_Sheet_empties : Addr} {oc_Sheet_empties dc_Sheet_empties pm_Sheet_empties cd_Sheet_empties ct_Sheet_empties kV_Sheet_empties : Value} {od_Sheet_empties an_Sheet_empties : Option Addr} {os_Sheet_empties : Array (Option Value)} {f_Sheet_wishes : Addr} {oc_Sheet_wishes dc_Sheet_wishes pm_Sheet_wishes cd_Sheet_wishes ct_Sheet_wishes kV_Sheet_wishes : Value} {od_Sheet_wishes an_Sheet_wishes : Option Addr} {os_Sheet_wishes : Array (Option Value)} {f_sheet_text : Addr} {oc_sheet_text dc_sheet_text pm_sheet_text cd_sheet_text ct_sheet_text kV_sheet_text : Value} {od_sheet_text an_sheet_text : Option Addr} {os_sheet_text : Array (Option Value)} {f_row_in : Addr} {oc_row_in dc_row_in pm_row_in cd_row_in ct_row_in kV_row_in : Value} {od_row_in an_row_in : Option Addr} {os_row_in : Array (Option Value)} {f_empties_in : Addr} {oc_empties_in dc_empties_in pm_empties_in cd_empties_in ct_empties_in kV_empties_in : Value} {od_empties_in an_empties_in : Option Addr} {os_empties_in : Array (Option Value)} {f_sheet_in : Addr} {oc_sheet_in dc_sheet_in pm_sheet_in cd_sheet_in ct_sheet_in kV_sheet_in : Value} {od_sheet_in an_sheet_in : Option Addr} {os_sheet_in : Array (Option Value)} {f__law_box : Addr} {oc__law_box dc__law_box pm__law_box cd__law_box ct__law_box kV__law_box : Value} {od__law_box an__law_box : Option Addr} {os__law_box : Array (Option Value)} {f__law_take : Addr} {oc__law_take dc__law_take pm__law_take cd__law_take ct__law_take kV__law_take : Value} {od__law_take an__law_take : Option Addr} {os__law_take : Array (Option Value)} {f__law_cells : Addr} {oc__law_cells dc__law_cells pm__law_cells cd__law_cells ct__law_cells kV__law_cells : Value} {od__law_cells an__law_cells : Option Addr} {os__law_cells : Array (Option Value)} {f__law_of : Addr} {oc__law_of dc__law_of pm__law_of cd__law_of ct__law_of kV__law_of : Value} {od__law_of an__law_of : Option Addr} {os__law_of : Array (Option Value)} {f__law_same : Addr} {oc__law_same dc__law_same pm__law_same cd__law_same ct__law_same kV__law_same : Value} {od__law_same an__law_same : Option Addr} {os__law_same : Array (Option Value)} {f__law_few : Addr} {oc__law_few dc__law_few pm__law_few cd__law_few ct__law_few kV__law_few : Value} {od__law_few an__law_few : Option Addr} {os__law_few : Array (Option Value)} {f__law_mixed : Addr} {oc__law_mixed dc__law_mixed pm__law_mixed cd__law_mixed ct__law_mixed kV__law_mixed : Value} {od__law_mixed an__law_mixed : Option Addr} {os__law_mixed : Array (Option Value)} {f__law_tome : Addr} {oc__law_tome dc__law_tome pm__law_tome cd__law_tome ct__law_tome kV__law_tome : Value} {od__law_tome an__law_tome : Option Addr} {os__law_tome : Array (Option Value)} {f__law_lists : Addr} {oc__law_lists dc__law_lists pm__law_lists cd__law_lists ct__law_lists kV__law_lists : Value} {od__law_lists an__law_lists : Option Addr} {os__law_lists : Array (Option Value)} {f__law_is_word : Addr} {oc__law_is_word dc__law_is_word pm__law_is_word cd__law_is_word ct__law_is_word kV__law_is_word : Value} {od__law_is_word an__law_is_word : Option Addr} {os__law_is_word : Array (Option Value)} {f__law_six : Addr} {oc__law_six dc__law_six pm__law_six cd__law_six ct__law_six kV__law_six : Value} {od__law_six an__law_six : Option Addr} {os__law_six : Array (Option Value)} {f__law_sheet : Addr} {oc__law_sheet dc__law_sheet pm__law_sheet cd__law_sheet ct__law_sheet kV__law_sheet : Value} {od__law_sheet an__law_sheet : Option Addr} {os__law_sheet : Array (Option Value)} {f__law_bent_text : Addr} {oc__law_bent_text dc__law_bent_text pm__law_bent_text cd__law_bent_text ct__law_bent_text kV__law_bent_text : Value} {od__law_bent_text an__law_bent_text : Option Addr} {os__law_bent_text : Array (Option Value)} {f__law_read : Addr} {oc__law_read dc__law_read pm__law_read cd__law_read ct__law_read kV__law_read : Value} {od__law_read an__law_read : Option Addr} {os__law_read : Array (Option Value)} {f__law_heard : Addr} {oc__law_heard dc__law_heard pm__law_heard cd__law_heard ct__law_heard kV__law_heard : Value} {od__law_heard an__law_heard : Option Addr} {os__law_heard : Array (Option Value)} {f__law_by_hand_right : Addr} {oc__law_by_hand_right dc__law_by_hand_right pm__law_by_hand_right cd__law_by_hand_right ct__law_by_hand_right kV__law_by_hand_right : Value} {od__law_by_hand_right an__law_by_hand_right : Option Addr} {os__law_by_hand_right : Array (Option Value)} {f__law_right : Addr} {oc__law_right dc__law_right pm__law_right cd__law_right ct__law_right kV__law_right : Value} {od__law_right an__law_right : Option Addr} {os__law_right : Array (Option Value)} {f_law : Addr} {oc_law dc_law pm_law cd_law ct_law kV_law : Value} {od_law an_law : Option Addr} {os_law : Array (Option Value)}
    (aC0 : PySem.W.nsIn K mainGlobals "Sheet" = some (some (.ref C0)))
    (a_tupled : PySem.W.nsIn K mainGlobals "tupled" = some (some (.ref f_tupled)))
    (l_tupled : K.lookup f_tupled = some ⟨oc_tupled, od_tupled, .func (PySem.W.fnOf "tupled" "tupled" (defArgs s_tupled) (defBody s_tupled) (defScope s_tupled) .none kV_tupled dc_tupled pm_tupled an_tupled cd_tupled ct_tupled), os_tupled⟩)
    (co_tupled : PySem.W.codeIn K cd_tupled "tupled" = true)
    (k_tupled : PySem.W.keepIn K (.ref f_tupled) = true)
    (a_is_name : PySem.W.nsIn K mainGlobals "is_name" = some (some (.ref f_is_name)))
    (l_is_name : K.lookup f_is_name = some ⟨oc_is_name, od_is_name, .func (PySem.W.fnOf "is_name" "is_name" (defArgs s_is_name) (defBody s_is_name) (defScope s_is_name) .none kV_is_name dc_is_name pm_is_name an_is_name cd_is_name ct_is_name), os_is_name⟩)
    (co_is_name : PySem.W.codeIn K cd_is_name "is_name" = true)
    (k_is_name : PySem.W.keepIn K (.ref f_is_name) = true)
    (a_rises : PySem.W.nsIn K mainGlobals "rises" = some (some (.ref f_rises)))
    (l_rises : K.lookup f_rises = some ⟨oc_rises, od_rises, .func (PySem.W.fnOf "rises" "rises" (defArgs s_rises) (defBody s_rises) (defScope s_rises) .none kV_rises dc_rises pm_rises an_rises cd_rises ct_rises), os_rises⟩)
    (co_rises : PySem.W.codeIn K cd_rises "rises" = true)
    (k_rises : PySem.W.keepIn K (.ref f_rises) = true)
    (a_is_set : PySem.W.nsIn K mainGlobals "is_set" = some (some (.ref f_is_set)))
    (l_is_set : K.lookup f_is_set = some ⟨oc_is_set, od_is_set, .func (PySem.W.fnOf "is_set" "is_set" (defArgs s_is_set) (defBody s_is_set) (defScope s_is_set) .none kV_is_set dc_is_set pm_is_set an_is_set cd_is_set ct_is_set), os_is_set⟩)
    (co_is_set : PySem.W.codeIn K cd_is_set "is_set" = true)
    (k_is_set : PySem.W.keepIn K (.ref f_is_set) = true)
    (a_Sheet_init : PySem.W.findIn K (.ref C0) "__init__" = some (some (.ref f_Sheet_init)))
    (i_Sheet_init : PySem.W.isFn K (.ref f_Sheet_init) = true)
    (l_Sheet_init : K.lookup f_Sheet_init = some ⟨oc_Sheet_init, od_Sheet_init, .func (PySem.W.fnOf "__init__" "Sheet.__init__" (defArgs s_Sheet_init) (defBody s_Sheet_init) (defScope s_Sheet_init) .none kV_Sheet_init dc_Sheet_init pm_Sheet_init an_Sheet_init cd_Sheet_init ct_Sheet_init), os_Sheet_init⟩)
    (co_Sheet_init : PySem.W.codeIn K cd_Sheet_init "Sheet.__init__" = true)
    (k_Sheet_init : PySem.W.keepIn K (.ref f_Sheet_init) = true)
    (a_Sheet_names : PySem.W.findIn K (.ref C0) "names" = some (some (.ref f_Sheet_names)))
    (i_Sheet_names : PySem.W.isFn K (.ref f_Sheet_names) = true)
    (l_Sheet_names : K.lookup f_Sheet_names = some ⟨oc_Sheet_names, od_Sheet_names, .func (PySem.W.fnOf "names" "Sheet.names" (defArgs s_Sheet_names) (defBody s_Sheet_names) (defScope s_Sheet_names) .none kV_Sheet_names dc_Sheet_names pm_Sheet_names an_Sheet_names cd_Sheet_names ct_Sheet_names), os_Sheet_names⟩)
    (co_Sheet_names : PySem.W.codeIn K cd_Sheet_names "Sheet.names" = true)
    (k_Sheet_names : PySem.W.keepIn K (.ref f_Sheet_names) = true)
    (a_Sheet_empties : PySem.W.findIn K (.ref C0) "empties" = some (some (.ref f_Sheet_empties)))
    (i_Sheet_empties : PySem.W.isFn K (.ref f_Sheet_empties) = true)
    (l_Sheet_empties : K.lookup f_Sheet_empties = some ⟨oc_Sheet_empties, od_Sheet_empties, .func (PySem.W.fnOf "empties" "Sheet.empties" (defArgs s_Sheet_empties) (defBody s_Sheet_empties) (defScope s_Sheet_empties) .none kV_Sheet_empties dc_Sheet_empties pm_Sheet_empties an_Sheet_empties cd_Sheet_empties ct_Sheet_empties), os_Sheet_empties⟩)
    (co_Sheet_empties : PySem.W.codeIn K cd_Sheet_empties "Sheet.empties" = true)
    (k_Sheet_empties : PySem.W.keepIn K (.ref f_Sheet_empties) = true)
    (a_Sheet_wishes : PySem.W.findIn K (.ref C0) "wishes" = some (some (.ref f_Sheet_wishes)))
    (i_Sheet_wishes : PySem.W.isFn K (.ref f_Sheet_wishes) = true)
    (l_Sheet_wishes : K.lookup f_Sheet_wishes = some ⟨oc_Sheet_wishes, od_Sheet_wishes, .func (PySem.W.fnOf "wishes" "Sheet.wishes" (defArgs s_Sheet_wishes) (defBody s_Sheet_wishes) (defScope s_Sheet_wishes) .none kV_Sheet_wishes dc_Sheet_wishes pm_Sheet_wishes an_Sheet_wishes cd_Sheet_wishes ct_Sheet_wishes), os_Sheet_wishes⟩)
    (co_Sheet_wishes : PySem.W.codeIn K cd_Sheet_wishes "Sheet.wishes" = true)
    (k_Sheet_wishes : PySem.W.keepIn K (.ref f_Sheet_wishes) = true)
    (a_sheet_text : PySem.W.nsIn K mainGlobals "sheet_text" = some (some (.ref f_sheet_text)))
    (l_sheet_text : K.lookup f_sheet_text = some ⟨oc_sheet_text, od_sheet_text, .func (PySem.W.fnOf "sheet_text" "sheet_text" (defArgs s_sheet_text) (defBody s_sheet_text) (defScope s_sheet_text) .none kV_sheet_text dc_sheet_text pm_sheet_text an_sheet_text cd_sheet_text ct_sheet_text), os_sheet_text⟩)
    (co_sheet_text : PySem.W.codeIn K cd_sheet_text "sheet_text" = true)
    (k_sheet_text : PySem.W.keepIn K (.ref f_sheet_text) = true)
    (a_row_in : PySem.W.nsIn K mainGlobals "row_in" = some (some (.ref f_row_in)))
    (l_row_in : K.lookup f_row_in = some ⟨oc_row_in, od_row_in, .func (PySem.W.fnOf "row_in" "row_in" (defArgs s_row_in) (defBody s_row_in) (defScope s_row_in) .none kV_row_in dc_row_in pm_row_in an_row_in cd_row_in ct_row_in), os_row_in⟩)
    (co_row_in : PySem.W.codeIn K cd_row_in "row_in" = true)
    (k_row_in : PySem.W.keepIn K (.ref f_row_in) = true)
    (a_empties_in : PySem.W.nsIn K mainGlobals "empties_in" = some (some (.ref f_empties_in)))
    (l_empties_in : K.lookup f_empties_in = some ⟨oc_empties_in, od_empties_in, .func (PySem.W.fnOf "empties_in" "empties_in" (defArgs s_empties_in) (defBody s_empties_in) (defScope s_empties_in) .none kV_empties_in dc_empties_in pm_empties_in an_empties_in cd_empties_in ct_empties_in), os_empties_in⟩)
    (co_empties_in : PySem.W.codeIn K cd_empties_in "empties_in" = true)
    (k_empties_in : PySem.W.keepIn K (.ref f_empties_in) = true)
    (a_sheet_in : PySem.W.nsIn K mainGlobals "sheet_in" = some (some (.ref f_sheet_in)))
    (l_sheet_in : K.lookup f_sheet_in = some ⟨oc_sheet_in, od_sheet_in, .func (PySem.W.fnOf "sheet_in" "sheet_in" (defArgs s_sheet_in) (defBody s_sheet_in) (defScope s_sheet_in) .none kV_sheet_in dc_sheet_in pm_sheet_in an_sheet_in cd_sheet_in ct_sheet_in), os_sheet_in⟩)
    (co_sheet_in : PySem.W.codeIn K cd_sheet_in "sheet_in" = true)
    (k_sheet_in : PySem.W.keepIn K (.ref f_sheet_in) = true)
    (a__law_box : PySem.W.nsIn K mainGlobals "_law_box" = some (some (.ref f__law_box)))
    (l__law_box : K.lookup f__law_box = some ⟨oc__law_box, od__law_box, .func (PySem.W.fnOf "_law_box" "_law_box" (defArgs s__law_box) (defBody s__law_box) (defScope s__law_box) .none kV__law_box dc__law_box pm__law_box an__law_box cd__law_box ct__law_box), os__law_box⟩)
    (co__law_box : PySem.W.codeIn K cd__law_box "_law_box" = true)
    (k__law_box : PySem.W.keepIn K (.ref f__law_box) = true)
    (a__law_take : PySem.W.nsIn K mainGlobals "_law_take" = some (some (.ref f__law_take)))
    (l__law_take : K.lookup f__law_take = some ⟨oc__law_take, od__law_take, .func (PySem.W.fnOf "_law_take" "_law_take" (defArgs s__law_take) (defBody s__law_take) (defScope s__law_take) .none kV__law_take dc__law_take pm__law_take an__law_take cd__law_take ct__law_take), os__law_take⟩)
    (co__law_take : PySem.W.codeIn K cd__law_take "_law_take" = true)
    (k__law_take : PySem.W.keepIn K (.ref f__law_take) = true)
    (a__law_cells : PySem.W.nsIn K mainGlobals "_law_cells" = some (some (.ref f__law_cells)))
    (l__law_cells : K.lookup f__law_cells = some ⟨oc__law_cells, od__law_cells, .func (PySem.W.fnOf "_law_cells" "_law_cells" (defArgs s__law_cells) (defBody s__law_cells) (defScope s__law_cells) .none kV__law_cells dc__law_cells pm__law_cells an__law_cells cd__law_cells ct__law_cells), os__law_cells⟩)
    (co__law_cells : PySem.W.codeIn K cd__law_cells "_law_cells" = true)
    (k__law_cells : PySem.W.keepIn K (.ref f__law_cells) = true)
    (a__law_of : PySem.W.nsIn K mainGlobals "_law_of" = some (some (.ref f__law_of)))
    (l__law_of : K.lookup f__law_of = some ⟨oc__law_of, od__law_of, .func (PySem.W.fnOf "_law_of" "_law_of" (defArgs s__law_of) (defBody s__law_of) (defScope s__law_of) .none kV__law_of dc__law_of pm__law_of an__law_of cd__law_of ct__law_of), os__law_of⟩)
    (co__law_of : PySem.W.codeIn K cd__law_of "_law_of" = true)
    (k__law_of : PySem.W.keepIn K (.ref f__law_of) = true)
    (a__law_same : PySem.W.nsIn K mainGlobals "_law_same" = some (some (.ref f__law_same)))
    (l__law_same : K.lookup f__law_same = some ⟨oc__law_same, od__law_same, .func (PySem.W.fnOf "_law_same" "_law_same" (defArgs s__law_same) (defBody s__law_same) (defScope s__law_same) .none kV__law_same dc__law_same pm__law_same an__law_same cd__law_same ct__law_same), os__law_same⟩)
    (co__law_same : PySem.W.codeIn K cd__law_same "_law_same" = true)
    (k__law_same : PySem.W.keepIn K (.ref f__law_same) = true)
    (a__law_few : PySem.W.nsIn K mainGlobals "_law_few" = some (some (.ref f__law_few)))
    (l__law_few : K.lookup f__law_few = some ⟨oc__law_few, od__law_few, .func (PySem.W.fnOf "_law_few" "_law_few" (defArgs s__law_few) (defBody s__law_few) (defScope s__law_few) .none kV__law_few dc__law_few pm__law_few an__law_few cd__law_few ct__law_few), os__law_few⟩)
    (co__law_few : PySem.W.codeIn K cd__law_few "_law_few" = true)
    (k__law_few : PySem.W.keepIn K (.ref f__law_few) = true)
    (a__law_mixed : PySem.W.nsIn K mainGlobals "_law_mixed" = some (some (.ref f__law_mixed)))
    (l__law_mixed : K.lookup f__law_mixed = some ⟨oc__law_mixed, od__law_mixed, .func (PySem.W.fnOf "_law_mixed" "_law_mixed" (defArgs s__law_mixed) (defBody s__law_mixed) (defScope s__law_mixed) .none kV__law_mixed dc__law_mixed pm__law_mixed an__law_mixed cd__law_mixed ct__law_mixed), os__law_mixed⟩)
    (co__law_mixed : PySem.W.codeIn K cd__law_mixed "_law_mixed" = true)
    (k__law_mixed : PySem.W.keepIn K (.ref f__law_mixed) = true)
    (a__law_tome : PySem.W.nsIn K mainGlobals "_law_tome" = some (some (.ref f__law_tome)))
    (l__law_tome : K.lookup f__law_tome = some ⟨oc__law_tome, od__law_tome, .func (PySem.W.fnOf "_law_tome" "_law_tome" (defArgs s__law_tome) (defBody s__law_tome) (defScope s__law_tome) .none kV__law_tome dc__law_tome pm__law_tome an__law_tome cd__law_tome ct__law_tome), os__law_tome⟩)
    (co__law_tome : PySem.W.codeIn K cd__law_tome "_law_tome" = true)
    (k__law_tome : PySem.W.keepIn K (.ref f__law_tome) = true)
    (a__law_lists : PySem.W.nsIn K mainGlobals "_law_lists" = some (some (.ref f__law_lists)))
    (l__law_lists : K.lookup f__law_lists = some ⟨oc__law_lists, od__law_lists, .func (PySem.W.fnOf "_law_lists" "_law_lists" (defArgs s__law_lists) (defBody s__law_lists) (defScope s__law_lists) .none kV__law_lists dc__law_lists pm__law_lists an__law_lists cd__law_lists ct__law_lists), os__law_lists⟩)
    (co__law_lists : PySem.W.codeIn K cd__law_lists "_law_lists" = true)
    (k__law_lists : PySem.W.keepIn K (.ref f__law_lists) = true)
    (a__law_is_word : PySem.W.nsIn K mainGlobals "_law_is_word" = some (some (.ref f__law_is_word)))
    (l__law_is_word : K.lookup f__law_is_word = some ⟨oc__law_is_word, od__law_is_word, .func (PySem.W.fnOf "_law_is_word" "_law_is_word" (defArgs s__law_is_word) (defBody s__law_is_word) (defScope s__law_is_word) .none kV__law_is_word dc__law_is_word pm__law_is_word an__law_is_word cd__law_is_word ct__law_is_word), os__law_is_word⟩)
    (co__law_is_word : PySem.W.codeIn K cd__law_is_word "_law_is_word" = true)
    (k__law_is_word : PySem.W.keepIn K (.ref f__law_is_word) = true)
    (a__law_six : PySem.W.nsIn K mainGlobals "_law_six" = some (some (.ref f__law_six)))
    (l__law_six : K.lookup f__law_six = some ⟨oc__law_six, od__law_six, .func (PySem.W.fnOf "_law_six" "_law_six" (defArgs s__law_six) (defBody s__law_six) (defScope s__law_six) .none kV__law_six dc__law_six pm__law_six an__law_six cd__law_six ct__law_six), os__law_six⟩)
    (co__law_six : PySem.W.codeIn K cd__law_six "_law_six" = true)
    (k__law_six : PySem.W.keepIn K (.ref f__law_six) = true)
    (a__law_sheet : PySem.W.nsIn K mainGlobals "_law_sheet" = some (some (.ref f__law_sheet)))
    (l__law_sheet : K.lookup f__law_sheet = some ⟨oc__law_sheet, od__law_sheet, .func (PySem.W.fnOf "_law_sheet" "_law_sheet" (defArgs s__law_sheet) (defBody s__law_sheet) (defScope s__law_sheet) .none kV__law_sheet dc__law_sheet pm__law_sheet an__law_sheet cd__law_sheet ct__law_sheet), os__law_sheet⟩)
    (co__law_sheet : PySem.W.codeIn K cd__law_sheet "_law_sheet" = true)
    (k__law_sheet : PySem.W.keepIn K (.ref f__law_sheet) = true)
    (a__law_bent_text : PySem.W.nsIn K mainGlobals "_law_bent_text" = some (some (.ref f__law_bent_text)))
    (l__law_bent_text : K.lookup f__law_bent_text = some ⟨oc__law_bent_text, od__law_bent_text, .func (PySem.W.fnOf "_law_bent_text" "_law_bent_text" (defArgs s__law_bent_text) (defBody s__law_bent_text) (defScope s__law_bent_text) .none kV__law_bent_text dc__law_bent_text pm__law_bent_text an__law_bent_text cd__law_bent_text ct__law_bent_text), os__law_bent_text⟩)
    (co__law_bent_text : PySem.W.codeIn K cd__law_bent_text "_law_bent_text" = true)
    (k__law_bent_text : PySem.W.keepIn K (.ref f__law_bent_text) = true)
    (a__law_read : PySem.W.nsIn K mainGlobals "_law_read" = some (some (.ref f__law_read)))
    (l__law_read : K.lookup f__law_read = some ⟨oc__law_read, od__law_read, .func (PySem.W.fnOf "_law_read" "_law_read" (defArgs s__law_read) (defBody s__law_read) (defScope s__law_read) .none kV__law_read dc__law_read pm__law_read an__law_read cd__law_read ct__law_read), os__law_read⟩)
    (co__law_read : PySem.W.codeIn K cd__law_read "_law_read" = true)
    (k__law_read : PySem.W.keepIn K (.ref f__law_read) = true)
    (a__law_heard : PySem.W.nsIn K mainGlobals "_law_heard" = some (some (.ref f__law_heard)))
    (l__law_heard : K.lookup f__law_heard = some ⟨oc__law_heard, od__law_heard, .func (PySem.W.fnOf "_law_heard" "_law_heard" (defArgs s__law_heard) (defBody s__law_heard) (defScope s__law_heard) .none kV__law_heard dc__law_heard pm__law_heard an__law_heard cd__law_heard ct__law_heard), os__law_heard⟩)
    (co__law_heard : PySem.W.codeIn K cd__law_heard "_law_heard" = true)
    (k__law_heard : PySem.W.keepIn K (.ref f__law_heard) = true)
    (a__law_by_hand_right : PySem.W.nsIn K mainGlobals "_law_by_hand_right" = some (some (.ref f__law_by_hand_right)))
    (l__law_by_hand_right : K.lookup f__law_by_hand_right = some ⟨oc__law_by_hand_right, od__law_by_hand_right, .func (PySem.W.fnOf "_law_by_hand_right" "_law_by_hand_right" (defArgs s__law_by_hand_right) (defBody s__law_by_hand_right) (defScope s__law_by_hand_right) .none kV__law_by_hand_right dc__law_by_hand_right pm__law_by_hand_right an__law_by_hand_right cd__law_by_hand_right ct__law_by_hand_right), os__law_by_hand_right⟩)
    (co__law_by_hand_right : PySem.W.codeIn K cd__law_by_hand_right "_law_by_hand_right" = true)
    (k__law_by_hand_right : PySem.W.keepIn K (.ref f__law_by_hand_right) = true)
    (a__law_right : PySem.W.nsIn K mainGlobals "_law_right" = some (some (.ref f__law_right)))
    (l__law_right : K.lookup f__law_right = some ⟨oc__law_right, od__law_right, .func (PySem.W.fnOf "_law_right" "_law_right" (defArgs s__law_right) (defBody s__law_right) (defScope s__law_right) .none kV__law_right dc__law_right pm__law_right an__law_right cd__law_right ct__law_right), os__law_right⟩)
    (co__law_right : PySem.W.codeIn K cd__law_right "_law_right" = true)
    (k__law_right : PySem.W.keepIn K (.ref f__law_right) = true)
    (a_law : PySem.W.nsIn K mainGlobals "law" = some (some (.ref f_law)))
    (l_law : K.lookup f_law = some ⟨oc_law, od_law, .func (PySem.W.fnOf "law" "law" (defArgs s_law) (defBody s_law) (defScope s_law) .none kV_law dc_law pm_law an_law cd_law ct_law), os_law⟩)
    (co_law : PySem.W.codeIn K cd_law "law" = true)
    (k_law : PySem.W.keepIn K (.ref f_law) = true)
    (pg0 : PySem.W.plainGet K C0 Str.empty = true)
    (ic0 : PySem.W.isClsIn K C0 = true)
    (po0 : PySem.W.plainOver K C0 = true)
    (sa0 : PySem.W.findIn K (.ref C0) "__setattr__" = some (some (.builtin "object.__setattr__")))
    (mk0 : PySem.W.makesIn K C0 = true)
    (kc0 : PySem.W.keepIn K (.ref C0) = true)
    (s1_own_empties : PySem.W.findIn K (.ref C0) "own_empties" = some (some (.ref pp_own_empties)))
    (s2_own_empties : PySem.W.specialIn K (.ref pp_own_empties) "__get__" = some (some (.builtin "member_descriptor.__get__")))
    (s3_own_empties : PySem.W.takesIn K (.ref pp_own_empties) = some true)
    (s4_own_empties : PySem.W.typeIn K (.ref pp_own_empties) = some (.type "member_descriptor"))
    (s5_own_empties : PySem.W.slotIn K pp_own_empties C0 = some 0)
    (s1_own_homes : PySem.W.findIn K (.ref C0) "own_homes" = some (some (.ref pp_own_homes)))
    (s2_own_homes : PySem.W.specialIn K (.ref pp_own_homes) "__get__" = some (some (.builtin "member_descriptor.__get__")))
    (s3_own_homes : PySem.W.takesIn K (.ref pp_own_homes) = some true)
    (s4_own_homes : PySem.W.typeIn K (.ref pp_own_homes) = some (.type "member_descriptor"))
    (s5_own_homes : PySem.W.slotIn K pp_own_homes C0 = some 1)
    (s1_own_rows : PySem.W.findIn K (.ref C0) "own_rows" = some (some (.ref pp_own_rows)))
    (s2_own_rows : PySem.W.specialIn K (.ref pp_own_rows) "__get__" = some (some (.builtin "member_descriptor.__get__")))
    (s3_own_rows : PySem.W.takesIn K (.ref pp_own_rows) = some true)
    (s4_own_rows : PySem.W.typeIn K (.ref pp_own_rows) = some (.type "member_descriptor"))
    (s5_own_rows : PySem.W.slotIn K pp_own_rows C0 = some 2)
    (xa_BadLine : PySem.W.nsIn K mainGlobals "BadLine" = some (some (.ref XA_BadLine)))
    (xd_BadLine : PySem.W.hasDictIn K XA_BadLine = true)
    (xt_BadLine : PySem.W.typeIn K (.ref XA_BadLine) = some (.type "type"))
    (xb_BadLine : PySem.W.subIn K (.ref XA_BadLine) (.type "BaseException") = some true)
    (xs_BadLine : PySem.W.subIn K (.ref XA_BadLine) (.ref XA_BadLine) = some true)
    (xn_BadLine : PySem.W.subIn K (.type "NoneType") (.ref XA_BadLine) = some false)
    (xa_BadText : PySem.W.nsIn K mainGlobals "BadText" = some (some (.ref XA_BadText)))
    (xd_BadText : PySem.W.hasDictIn K XA_BadText = true)
    (xt_BadText : PySem.W.typeIn K (.ref XA_BadText) = some (.type "type"))
    (xb_BadText : PySem.W.subIn K (.ref XA_BadText) (.type "BaseException") = some true)
    (xs_BadText : PySem.W.subIn K (.ref XA_BadText) (.ref XA_BadText) = some true)
    (xn_BadText : PySem.W.subIn K (.type "NoneType") (.ref XA_BadText) = some false)
    (xa_Clash : PySem.W.nsIn K mainGlobals "Clash" = some (some (.ref XA_Clash)))
    (xd_Clash : PySem.W.hasDictIn K XA_Clash = true)
    (xt_Clash : PySem.W.typeIn K (.ref XA_Clash) = some (.type "type"))
    (xb_Clash : PySem.W.subIn K (.ref XA_Clash) (.type "BaseException") = some true)
    (xs_Clash : PySem.W.subIn K (.ref XA_Clash) (.ref XA_Clash) = some true)
    (xn_Clash : PySem.W.subIn K (.type "NoneType") (.ref XA_Clash) = some false)
    (xa_Taken : PySem.W.nsIn K mainGlobals "Taken" = some (some (.ref XA_Taken)))
    (xd_Taken : PySem.W.hasDictIn K XA_Taken = true)
    (xt_Taken : PySem.W.typeIn K (.ref XA_Taken) = some (.type "type"))
    (xb_Taken : PySem.W.subIn K (.ref XA_Taken) (.type "BaseException") = some true)
    (xs_Taken : PySem.W.subIn K (.ref XA_Taken) (.ref XA_Taken) = some true)
    (xn_Taken : PySem.W.subIn K (.type "NoneType") (.ref XA_Taken) = some false)
    (xr_BadLine_BadLine : PySem.W.subIn K (.ref XA_BadLine) (.ref XA_BadLine) = some true)
    (xr_BadLine_BadText : PySem.W.subIn K (.ref XA_BadLine) (.ref XA_BadText) = some false)
    (xr_BadLine_Clash : PySem.W.subIn K (.ref XA_BadLine) (.ref XA_Clash) = some false)
    (xr_BadLine_Taken : PySem.W.subIn K (.ref XA_BadLine) (.ref XA_Taken) = some false)
    (xr_BadLine_ValueError : PySem.W.subIn K (.ref XA_BadLine) (.type "ValueError") = some true)
    (xn_ValueError : PySem.W.subIn K (.type "NoneType") (.type "ValueError") = some false)
    (xl_BadLine : K.lookup XA_BadLine = some (excClassObj nmC_BadLine qC_BadLine XA_BadLine NC_BadLine bsC_BadLine [.type "ValueError", .type "Exception", .type "BaseException", .type "object"] true snC_BadLine subC_BadLine abC_BadLine colC_BadLine ddC_BadLine k0_BadLine k1_BadLine k2_BadLine k3_BadLine k5_BadLine "ValueError.__new__"))
    (xsa_BadLine : PySem.W.findIn K (.ref XA_BadLine) "__setattr__" = some (some (.builtin "object.__setattr__")))
    (xm_BadLine : PySem.W.mroIn K XA_BadLine (.ref XA_BadLine) = some true)
    (xkp_BadLine : PySem.W.keepIn K (.ref XA_BadLine) = true)
    (xi_BadLine : PySem.W.findIn K (.ref XA_BadLine) "__init__" = some (some (.ref fX_BadLine)))
    (xit_BadLine : PySem.W.typeIn K (.ref fX_BadLine) = some (.type "function"))
    (xf_BadLine : K.lookup fX_BadLine = some ⟨ocX_BadLine, odX_BadLine, .func (PySem.W.ksFn "__init__" "BadLine.__init__" (defArgs (inClass (topS 5) 0)) (defBody (inClass (topS 5) 0)) (defScope (inClass (topS 5) 0)) .none kVX_BadLine docX_BadLine pmX_BadLine anX_BadLine (.ref cdX_BadLine) ctX_BadLine ccX_BadLine), osX_BadLine⟩)
    (xco_BadLine : PySem.W.codeIn K (.ref cdX_BadLine) "BadLine.__init__" = true)
    (xcd_BadLine : K.lookup cdX_BadLine = some ⟨cclX_BadLine, cddX_BadLine, .fields vsX_BadLine, ccsX_BadLine⟩)
    (xvs_BadLine : vsX_BadLine[2]? = some (.str flX_BadLine tfX_BadLine))
    (xfl_BadLine : ((l.prog.main.file : Str) == flX_BadLine) = true)
    (xcc_BadLine : K.lookup ccX_BadLine = some ⟨clX_BadLine, cldX_BadLine, .cell (some (.ref XA_BadLine)), cslX_BadLine⟩)
    (xop_BadLine : PySem.W.nsIn K cStatics "thirdparty.any" = some none)
    (xtop_BadLine : (l.prog.main.scope.names.lookup ("super" : Str)).isSome = false)
    (xsb_BadLine : PySem.W.subIn K (.ref XA_BadLine) (.type "ValueError") = some true)
    (xno_BadLine : PySem.W.findIn K (.ref XA_BadLine) "number" = some none)
    (xga_BadLine : PySem.W.findIn K (.ref XA_BadLine) "__getattribute__" = some (some (.builtin "BaseException.__getattribute__")))
    (xgg_BadLine : PySem.W.findIn K (.ref XA_BadLine) "__getattr__" = some none)
    (xca_BadLine : PySem.W.findIn K (.ref XA_BadLine) "__class__" = some (some (.builtin "object.__class__")))
    (xob_BadLine : PySem.W.mroIn K XA_BadLine (.type "object") = some true)
    (xgs : PySem.W.specialIn K (.builtin "object.__class__") "__get__" = some (some (.builtin "getset_descriptor.__get__")))
    (xgt : PySem.W.takesIn K (.builtin "object.__class__") = some true)
    (xsu : PySem.W.nsIn K mainGlobals "super" = some none)
    (zz_ValueError : PySem.W.nsIn K mainGlobals "ValueError" = some none)
    (zz_abs : PySem.W.nsIn K mainGlobals "abs" = some none)
    (zz_all : PySem.W.nsIn K mainGlobals "all" = some none)
    (zz_any : PySem.W.nsIn K mainGlobals "any" = some none)
    (zz_bool : PySem.W.nsIn K mainGlobals "bool" = some none)
    (zz_enumerate : PySem.W.nsIn K mainGlobals "enumerate" = some none)
    (zz_int : PySem.W.nsIn K mainGlobals "int" = some none)
    (zz_isinstance : PySem.W.nsIn K mainGlobals "isinstance" = some none)
    (zz_len : PySem.W.nsIn K mainGlobals "len" = some none)
    (zz_list : PySem.W.nsIn K mainGlobals "list" = some none)
    (zz_range : PySem.W.nsIn K mainGlobals "range" = some none)
    (zz_set : PySem.W.nsIn K mainGlobals "set" = some none)
    (zz_sorted : PySem.W.nsIn K mainGlobals "sorted" = some none)
    (zz_str : PySem.W.nsIn K mainGlobals "str" = some none)
    (zz_tuple : PySem.W.nsIn K mainGlobals "tuple" = some none)
    (zz_zip : PySem.W.nsIn K mainGlobals "zip" = some none)
    (gg_BLANK : PySem.W.nsIn K mainGlobals "BLANK" = some (some (.str (" " : Str) tk_BLANK)))
    (gg_COLON : PySem.W.nsIn K mainGlobals "COLON" = some (some (.str (":" : Str) tk_COLON)))
    (gg_EMPTIES : PySem.W.nsIn K mainGlobals "EMPTIES" = some (some (.str ("+" : Str) tk_EMPTIES)))
    (gg_FEED : PySem.W.nsIn K mainGlobals "FEED" = some (some (.str ("\n" : Str) tk_FEED)))
    (gg_LETTERS : PySem.W.nsIn K mainGlobals "LETTERS" = some (some (.str ("abcdefghijklmnopqrstuvwxyz" : Str) tk_LETTERS)))
    (gg_LONGEST : PySem.W.nsIn K mainGlobals "LONGEST" = some (some (.int 8 tk_LONGEST))) :
    ∃ fd : FuncData, (∀ (s : Shared) (v : Value), BindsTo s fd ⟨[v], []⟩ [("_law_script", v)]) ∧ ∀ base : Heap, K.In base → base.Ns mainGlobals mg → FnOk l.prog w K mg base (L2.CX l.prog w) 14 fa fd ["_law_script"] (spLaw K) := by
  have e := hfa.symm.trans (PySem.W.mg_of X Gn a_law)
  cases e
  have Fu_tupled : Fun (GG K C0 XA_BadLine).K "tupled" "tupled" s_tupled f_tupled _ := fun_mk (st := s_tupled) l_tupled co_tupled k_tupled
  have Fu_is_name : Fun (GG K C0 XA_BadLine).K "is_name" "is_name" s_is_name f_is_name _ := fun_mk (st := s_is_name) l_is_name co_is_name k_is_name
  have Fu_rises : Fun (GG K C0 XA_BadLine).K "rises" "rises" s_rises f_rises _ := fun_mk (st := s_rises) l_rises co_rises k_rises
  have Fu_is_set : Fun (GG K C0 XA_BadLine).K "is_set" "is_set" s_is_set f_is_set _ := fun_mk (st := s_is_set) l_is_set co_is_set k_is_set
  have Fu_Sheet_init : Fun (GG K C0 XA_BadLine).K "__init__" "Sheet.__init__" s_Sheet_init f_Sheet_init _ := fun_mk (st := s_Sheet_init) l_Sheet_init co_Sheet_init k_Sheet_init
  have Fu_Sheet_names : Fun (GG K C0 XA_BadLine).K "names" "Sheet.names" s_Sheet_names f_Sheet_names _ := fun_mk (st := s_Sheet_names) l_Sheet_names co_Sheet_names k_Sheet_names
  have Fu_Sheet_empties : Fun (GG K C0 XA_BadLine).K "empties" "Sheet.empties" s_Sheet_empties f_Sheet_empties _ := fun_mk (st := s_Sheet_empties) l_Sheet_empties co_Sheet_empties k_Sheet_empties
  have Fu_Sheet_wishes : Fun (GG K C0 XA_BadLine).K "wishes" "Sheet.wishes" s_Sheet_wishes f_Sheet_wishes _ := fun_mk (st := s_Sheet_wishes) l_Sheet_wishes co_Sheet_wishes k_Sheet_wishes
  have Fu_sheet_text : Fun (GG K C0 XA_BadLine).K "sheet_text" "sheet_text" s_sheet_text f_sheet_text _ := fun_mk (st := s_sheet_text) l_sheet_text co_sheet_text k_sheet_text
  have Fu_row_in : Fun (GG K C0 XA_BadLine).K "row_in" "row_in" s_row_in f_row_in _ := fun_mk (st := s_row_in) l_row_in co_row_in k_row_in
  have Fu_empties_in : Fun (GG K C0 XA_BadLine).K "empties_in" "empties_in" s_empties_in f_empties_in _ := fun_mk (st := s_empties_in) l_empties_in co_empties_in k_empties_in
  have Fu_sheet_in : Fun (GG K C0 XA_BadLine).K "sheet_in" "sheet_in" s_sheet_in f_sheet_in _ := fun_mk (st := s_sheet_in) l_sheet_in co_sheet_in k_sheet_in
  have Fu__law_box : Fun (GG K C0 XA_BadLine).K "_law_box" "_law_box" s__law_box f__law_box _ := fun_mk (st := s__law_box) l__law_box co__law_box k__law_box
  have Fu__law_take : Fun (GG K C0 XA_BadLine).K "_law_take" "_law_take" s__law_take f__law_take _ := fun_mk (st := s__law_take) l__law_take co__law_take k__law_take
  have Fu__law_cells : Fun (GG K C0 XA_BadLine).K "_law_cells" "_law_cells" s__law_cells f__law_cells _ := fun_mk (st := s__law_cells) l__law_cells co__law_cells k__law_cells
  have Fu__law_of : Fun (GG K C0 XA_BadLine).K "_law_of" "_law_of" s__law_of f__law_of _ := fun_mk (st := s__law_of) l__law_of co__law_of k__law_of
  have Fu__law_same : Fun (GG K C0 XA_BadLine).K "_law_same" "_law_same" s__law_same f__law_same _ := fun_mk (st := s__law_same) l__law_same co__law_same k__law_same
  have Fu__law_few : Fun (GG K C0 XA_BadLine).K "_law_few" "_law_few" s__law_few f__law_few _ := fun_mk (st := s__law_few) l__law_few co__law_few k__law_few
  have Fu__law_mixed : Fun (GG K C0 XA_BadLine).K "_law_mixed" "_law_mixed" s__law_mixed f__law_mixed _ := fun_mk (st := s__law_mixed) l__law_mixed co__law_mixed k__law_mixed
  have Fu__law_tome : Fun (GG K C0 XA_BadLine).K "_law_tome" "_law_tome" s__law_tome f__law_tome _ := fun_mk (st := s__law_tome) l__law_tome co__law_tome k__law_tome
  have Fu__law_lists : Fun (GG K C0 XA_BadLine).K "_law_lists" "_law_lists" s__law_lists f__law_lists _ := fun_mk (st := s__law_lists) l__law_lists co__law_lists k__law_lists
  have Fu__law_is_word : Fun (GG K C0 XA_BadLine).K "_law_is_word" "_law_is_word" s__law_is_word f__law_is_word _ := fun_mk (st := s__law_is_word) l__law_is_word co__law_is_word k__law_is_word
  have Fu__law_six : Fun (GG K C0 XA_BadLine).K "_law_six" "_law_six" s__law_six f__law_six _ := fun_mk (st := s__law_six) l__law_six co__law_six k__law_six
  have Fu__law_sheet : Fun (GG K C0 XA_BadLine).K "_law_sheet" "_law_sheet" s__law_sheet f__law_sheet _ := fun_mk (st := s__law_sheet) l__law_sheet co__law_sheet k__law_sheet
  have Fu__law_bent_text : Fun (GG K C0 XA_BadLine).K "_law_bent_text" "_law_bent_text" s__law_bent_text f__law_bent_text _ := fun_mk (st := s__law_bent_text) l__law_bent_text co__law_bent_text k__law_bent_text
  have Fu__law_read : Fun (GG K C0 XA_BadLine).K "_law_read" "_law_read" s__law_read f__law_read _ := fun_mk (st := s__law_read) l__law_read co__law_read k__law_read
  have Fu__law_heard : Fun (GG K C0 XA_BadLine).K "_law_heard" "_law_heard" s__law_heard f__law_heard _ := fun_mk (st := s__law_heard) l__law_heard co__law_heard k__law_heard
  have Fu__law_by_hand_right : Fun (GG K C0 XA_BadLine).K "_law_by_hand_right" "_law_by_hand_right" s__law_by_hand_right f__law_by_hand_right _ := fun_mk (st := s__law_by_hand_right) l__law_by_hand_right co__law_by_hand_right k__law_by_hand_right
  have Fu__law_right : Fun (GG K C0 XA_BadLine).K "_law_right" "_law_right" s__law_right f__law_right _ := fun_mk (st := s__law_right) l__law_right co__law_right k__law_right
  have Fu_law : Fun (GG K C0 XA_BadLine).K "law" "law" s_law fa _ := fun_mk (st := s_law) l_law co_law k_law
  have h2 : (GG K C0 XA_BadLine).tk = true := rfl
  refine ⟨PySem.W.fnOf "law" "law" (defArgs s_law) (defBody s_law) (defScope s_law) .none kV_law dc_law pm_law an_law cd_law ct_law, fun s v => .of_eq rfl, fun base _ _ => ?_⟩
  have z_ValueError := PySem.W.mg_none_of X Gn zz_ValueError
  have z_abs := PySem.W.mg_none_of X Gn zz_abs
  have z_all := PySem.W.mg_none_of X Gn zz_all
  have z_any := PySem.W.mg_none_of X Gn zz_any
  have z_bool := PySem.W.mg_none_of X Gn zz_bool
  have z_enumerate := PySem.W.mg_none_of X Gn zz_enumerate
  have z_int := PySem.W.mg_none_of X Gn zz_int
  have z_isinstance := PySem.W.mg_none_of X Gn zz_isinstance
  have z_len := PySem.W.mg_none_of X Gn zz_len
  have z_list := PySem.W.mg_none_of X Gn zz_list
  have z_range := PySem.W.mg_none_of X Gn zz_range
  have z_set := PySem.W.mg_none_of X Gn zz_set
  have z_sorted := PySem.W.mg_none_of X Gn zz_sorted
  have z_str := PySem.W.mg_none_of X Gn zz_str
  have z_tuple := PySem.W.mg_none_of X Gn zz_tuple
  have z_zip := PySem.W.mg_none_of X Gn zz_zip
  have gb_BLANK := PySem.W.mg_of X Gn gg_BLANK
  have gb_COLON := PySem.W.mg_of X Gn gg_COLON
  have gb_EMPTIES := PySem.W.mg_of X Gn gg_EMPTIES
  have gb_FEED := PySem.W.mg_of X Gn gg_FEED
  have gb_LETTERS := PySem.W.mg_of X Gn gg_LETTERS
  have gb_LONGEST := PySem.W.mg_of X Gn gg_LONGEST
  have xms := PySem.W.mg_none_of X Gn xsu
  have gx_BadLine := PySem.W.mg_of X Gn xa_BadLine
  have gx_BadText := PySem.W.mg_of X Gn xa_BadText
  have gx_Clash := PySem.W.mg_of X Gn xa_Clash
  have gx_Taken := PySem.W.mg_of X Gn xa_Taken
  have XK_BadLine : XcCls (GG K C0 XA_BadLine).K XA_BadLine "ValueError.__new__" _ := ⟨⟨_, _, _, _, _, _, _, _, _, _, _, _, _, _, xl_BadLine⟩, xsa_BadLine, xm_BadLine, xb_BadLine, xt_BadLine, xkp_BadLine⟩
  have XI_BadLine : XcInit l.prog (GG K C0 XA_BadLine).K XA_BadLine fX_BadLine "ValueError" "ValueError.__init__" _ "number" "BadLine.__init__" "number" (defArgs (inClass (topS 5) 0)) (defBody (inClass (topS 5) 0)) (defScope (inClass (topS 5) 0)) cdX_BadLine ccX_BadLine := ⟨⟨_, _, _, _, _, _, _, _, _, _, xf_BadLine, fun s a b => .of_eq rfl⟩, xco_BadLine, ⟨_, _, _, _, _, _, xcd_BadLine, xvs_BadLine, xfl_BadLine⟩, ⟨_, _, _, xcc_BadLine⟩, xop_BadLine, ⟨_, _, _, _, _, _, _, _, _, _, rfl, rfl⟩, ⟨_, rfl, rfl⟩, xtop_BadLine, rfl, rfl, rfl, by decide +kernel, by decide +kernel, by decide +kernel, by decide +kernel, by decide +kernel, by decide, by decide, along_V _, xsb_BadLine, xno_BadLine⟩
  have rs_BadLine : Rsx l.prog (GG K C0 XA_BadLine) mg "BadLine" 0 := ⟨⟨_, _, _, _, _, _, _, _, _, _, _, _, _, _, rfl, rfl, bsV, XK_BadLine, XI_BadLine, xi_BadLine, xit_BadLine, gx_BadLine⟩, xms⟩
  have xk_BadLine : Exk (GG K C0 XA_BadLine) 0 "number" := ⟨⟨_, rfl, ⟨xga_BadLine, xgg_BadLine, xb_BadLine, xd_BadLine, xca_BadLine, xgs, xgt, xob_BadLine⟩, xno_BadLine⟩, rfl⟩
  have xk : ExkR (GG K C0 XA_BadLine) 1 ["number"] := fun c hc => match c, hc with | 0, _ => ⟨_, rfl, xk_BadLine⟩
  have em_BadLine : ExmR (GG K C0 XA_BadLine) [true] (.ref XA_BadLine) := fun c b hc => match c, hc with | 0, hc => by cases hc; exact PySem.W.exm_ref xb_BadLine xd_BadLine xt_BadLine xr_BadLine_BadLine
  have em_BadText : ExmR (GG K C0 XA_BadLine) [false] (.ref XA_BadText) := fun c b hc => match c, hc with | 0, hc => by cases hc; exact PySem.W.exm_ref xb_BadText xd_BadText xt_BadText xr_BadLine_BadText
  have em_Clash : ExmR (GG K C0 XA_BadLine) [false] (.ref XA_Clash) := fun c b hc => match c, hc with | 0, hc => by cases hc; exact PySem.W.exm_ref xb_Clash xd_Clash xt_Clash xr_BadLine_Clash
  have em_Taken : ExmR (GG K C0 XA_BadLine) [false] (.ref XA_Taken) := fun c b hc => match c, hc with | 0, hc => by cases hc; exact PySem.W.exm_ref xb_Taken xd_Taken xt_Taken xr_BadLine_Taken
  have ki_BadLine : KitR (GG K C0 XA_BadLine) [true] (.ref XA_BadLine) := ⟨fun c b hc => match c, hc with | 0, hc => (by cases hc; exact kit_own xd_BadLine xt_BadLine xs_BadLine xr_BadLine_BadLine), kit_own xd_BadLine xt_BadLine xs_BadLine xn_BadLine⟩
  have ki_ValueError : KitR (GG K C0 XA_BadLine) [true] (.type "ValueError") := ⟨fun c b hc => match c, hc with | 0, hc => (by cases hc; exact kit_typ (by decide +kernel) (by rfl) xr_BadLine_ValueError), kit_typ (by decide +kernel) (by decide) xn_ValueError⟩
  have hc_Sheet : SlX.SCls (GG K C0 XA_BadLine).K ((GG K C0 XA_BadLine).cls 0) := ⟨pg0, ic0, po0, sa0⟩
  have sl_own_empties : SlX.Slot1 (GG K C0 XA_BadLine).K ((GG K C0 XA_BadLine).cls 0) "own_empties" pp_own_empties 0 := ⟨s1_own_empties, s2_own_empties, s3_own_empties, s4_own_empties, s5_own_empties, by decide⟩
  have sl_own_homes : SlX.Slot1 (GG K C0 XA_BadLine).K ((GG K C0 XA_BadLine).cls 0) "own_homes" pp_own_homes 1 := ⟨s1_own_homes, s2_own_homes, s3_own_homes, s4_own_homes, s5_own_homes, by decide⟩
  have sl_own_rows : SlX.Slot1 (GG K C0 XA_BadLine).K ((GG K C0 XA_BadLine).cls 0) "own_rows" pp_own_rows 2 := ⟨s1_own_rows, s2_own_rows, s3_own_rows, s4_own_rows, s5_own_rows, by decide⟩
  have c_tupled : ∀ n : Nat, Cal l.prog w (GG K C0 XA_BadLine) mg base (0 + n) "tupled" 1 [] (F_tupled n) := w_tupled z_isinstance z_list z_tuple Fu_tupled (PySem.W.mg_of X Gn a_tupled)
  have o_is_name := w_is_name (P := l.prog) (w := w) (G := (GG K C0 XA_BadLine)) (mg := mg) (base := base) z_all z_isinstance z_len z_str gb_LETTERS gb_LONGEST Fu_is_name
  have c_is_name : Cal l.prog w (GG K C0 XA_BadLine) mg base 1 "is_name" 1 [] F_is_name := (Cal.fn (PySem.W.mg_of X Gn a_is_name) Fu_is_name o_is_name (bd_is_name Fu_is_name)).isoC
  have o_rises := w_rises (P := l.prog) (w := w) (G := (GG K C0 XA_BadLine)) (mg := mg) (base := base) z_all z_zip Fu_rises
  have c_rises : Cal l.prog w (GG K C0 XA_BadLine) mg base 1 "rises" 1 [] F_rises := (Cal.fn (PySem.W.mg_of X Gn a_rises) Fu_rises o_rises (bd_rises Fu_rises)).isoC
  have o_is_set := w_is_set (P := l.prog) (w := w) (G := (GG K C0 XA_BadLine)) (mg := mg) (base := base) z_all z_isinstance z_tuple c_is_name c_rises Fu_is_set
  have c_is_set : Cal l.prog w (GG K C0 XA_BadLine) mg base 2 "is_set" 1 [] F_is_set := (Cal.fn (PySem.W.mg_of X Gn a_is_set) Fu_is_set o_is_set (bd_is_set Fu_is_set)).isoC
  have o_Sheet_init := w_Sheet_init (P := l.prog) (w := w) (G := (GG K C0 XA_BadLine)) (mg := mg) (base := base) hc_Sheet sl_own_empties sl_own_homes sl_own_rows z_list c_tupled Fu_Sheet_init
  have c_Sheet_init : CalI l.prog w (GG K C0 XA_BadLine) mg base 9 0 "Sheet" 1 F_Sheet_init := ⟨f_Sheet_init, PySem.W.mg_of X Gn aC0, ⟨mk0, a_Sheet_init, i_Sheet_init, kc0⟩, CallW.of0 o_Sheet_init (bd_Sheet_init Fu_Sheet_init)⟩
  have o_Sheet_names := w_Sheet_names (P := l.prog) (w := w) (G := (GG K C0 XA_BadLine)) (mg := mg) (base := base) hc_Sheet sl_own_rows z_tuple Fu_Sheet_names
  have c_Sheet_names : CalM l.prog w (GG K C0 XA_BadLine) mg base 1 0 "names" 0 F_Sheet_names := ⟨f_Sheet_names, hc_Sheet, ⟨a_Sheet_names, i_Sheet_names, k_Sheet_names⟩, (CallW.of0 o_Sheet_names (bd_Sheet_names Fu_Sheet_names)).isoF⟩
  have o_Sheet_empties := w_Sheet_empties (P := l.prog) (w := w) (G := (GG K C0 XA_BadLine)) (mg := mg) (base := base) hc_Sheet sl_own_empties Fu_Sheet_empties
  have c_Sheet_empties : CalM l.prog w (GG K C0 XA_BadLine) mg base 1 0 "empties" 0 F_Sheet_empties := ⟨f_Sheet_empties, hc_Sheet, ⟨a_Sheet_empties, i_Sheet_empties, k_Sheet_empties⟩, (CallW.of0 o_Sheet_empties (bd_Sheet_empties Fu_Sheet_empties)).isoF⟩
  have o_Sheet_wishes := w_Sheet_wishes (P := l.prog) (w := w) (G := (GG K C0 XA_BadLine)) (mg := mg) (base := base) hc_Sheet sl_own_rows Fu_Sheet_wishes
  have c_Sheet_wishes : CalM l.prog w (GG K C0 XA_BadLine) mg base 1 0 "wishes" 1 F_Sheet_wishes := ⟨f_Sheet_wishes, hc_Sheet, ⟨a_Sheet_wishes, i_Sheet_wishes, k_Sheet_wishes⟩, (CallW.of0 o_Sheet_wishes (bd_Sheet_wishes Fu_Sheet_wishes)).isoF⟩
  have o_sheet_text := w_sheet_text (P := l.prog) (w := w) (G := (GG K C0 XA_BadLine)) (mg := mg) (base := base) z_int z_len gb_BLANK gb_COLON gb_EMPTIES gb_FEED c_Sheet_init c_Sheet_empties c_Sheet_names c_Sheet_wishes Fu_sheet_text
  have c_sheet_text : Cal l.prog w (GG K C0 XA_BadLine) mg base 11 "sheet_text" 1 [] F_sheet_text := (Cal.fn (PySem.W.mg_of X Gn a_sheet_text) Fu_sheet_text o_sheet_text (bd_sheet_text Fu_sheet_text)).isoC
  have ck_sheet_text_0_sheet : Cal l.prog w (GG K C0 XA_BadLine) mg base 11 "sheet_text" 0 ["sheet"] (kwF [0] [] F_sheet_text) := Cal.kp (PySem.W.mg_of X Gn a_sheet_text) o_sheet_text.isoS (funA_mk (st := s_sheet_text) l_sheet_text co_sheet_text k_sheet_text) [0] (fun _ _ _ _ _ us ws h1 h2 => match us, ws, h1, h2 with | [], [_], _, _ => rfl)
  have o_row_in := w_row_in (P := l.prog) (w := w) (G := (GG K C0 XA_BadLine)) (mg := mg) (base := base) z_tuple gb_BLANK gb_COLON c_is_name c_is_set Fu_row_in
  have c_row_in : Cal l.prog w (GG K C0 XA_BadLine) mg base 3 "row_in" 1 [] F_row_in := (Cal.fn (PySem.W.mg_of X Gn a_row_in) Fu_row_in o_row_in (bd_row_in Fu_row_in)).isoC
  have o_empties_in := w_empties_in (P := l.prog) (w := w) (G := (GG K C0 XA_BadLine)) (mg := mg) (base := base) z_any z_len z_tuple gb_BLANK gb_EMPTIES c_is_set Fu_empties_in
  have c_empties_in : Cal l.prog w (GG K C0 XA_BadLine) mg base 3 "empties_in" 2 [] F_empties_in := (Cal.fn (PySem.W.mg_of X Gn a_empties_in) Fu_empties_in o_empties_in (bd_empties_in Fu_empties_in)).isoC
  have o_sheet_in := w_sheet_in (P := l.prog) (w := w) (G := (GG K C0 XA_BadLine)) (mg := mg) (base := base) z_enumerate z_len z_tuple gb_FEED rs_BadLine c_empties_in c_row_in Fu_sheet_in
  have c_sheet_in : Cal l.prog w (GG K C0 XA_BadLine) mg base 4 "sheet_in" 1 [] F_sheet_in := (Cal.fn (PySem.W.mg_of X Gn a_sheet_in) Fu_sheet_in o_sheet_in (bd_sheet_in Fu_sheet_in)).isoC
  have ck_sheet_in_0_text : Cal l.prog w (GG K C0 XA_BadLine) mg base 4 "sheet_in" 0 ["text"] (kwF [0] [] F_sheet_in) := Cal.kp (PySem.W.mg_of X Gn a_sheet_in) o_sheet_in.isoS (funA_mk (st := s_sheet_in) l_sheet_in co_sheet_in k_sheet_in) [0] (fun _ _ _ _ _ us ws h1 h2 => match us, ws, h1, h2 with | [], [_], _, _ => rfl)
  have o__law_box := w__law_box (P := l.prog) (w := w) (G := (GG K C0 XA_BadLine)) (mg := mg) (base := base) z_abs z_int z_len Fu__law_box
  have c__law_box : Cal l.prog w (GG K C0 XA_BadLine) mg base 1 "_law_box" 2 [] F__law_box := (Cal.fn (PySem.W.mg_of X Gn a__law_box) Fu__law_box o__law_box (bd__law_box Fu__law_box))
  have o__law_take := w__law_take (P := l.prog) (w := w) (G := (GG K C0 XA_BadLine)) (mg := mg) (base := base) z_int Fu__law_take
  have c__law_take : Cal l.prog w (GG K C0 XA_BadLine) mg base 1 "_law_take" 2 [] F__law_take := (Cal.fn (PySem.W.mg_of X Gn a__law_take) Fu__law_take o__law_take (bd__law_take Fu__law_take)).viewC
  have o__law_cells := w__law_cells (P := l.prog) (w := w) (G := (GG K C0 XA_BadLine)) (mg := mg) (base := base) z_enumerate z_int z_list Fu__law_cells
  have c__law_cells : Cal l.prog w (GG K C0 XA_BadLine) mg base 1 "_law_cells" 2 [] F__law_cells := (Cal.fn (PySem.W.mg_of X Gn a__law_cells) Fu__law_cells o__law_cells (bd__law_cells Fu__law_cells)).isoC
  have o__law_of := w__law_of (P := l.prog) (w := w) (G := (GG K C0 XA_BadLine)) (mg := mg) (base := base) z_len c__law_take Fu__law_of
  have c__law_of : Cal l.prog w (GG K C0 XA_BadLine) mg base 2 "_law_of" 2 [] Hd.F__law_of := (Cal.fn (PySem.W.mg_of X Gn a__law_of) Fu__law_of o__law_of (bd__law_of Fu__law_of)).viewC
  have c__law_same : ∀ n : Nat, Cal l.prog w (GG K C0 XA_BadLine) mg base (0 + n) "_law_same" 2 [] (F__law_same n) := w__law_same z_all z_bool z_int z_isinstance z_len z_list z_str z_tuple z_zip Fu__law_same (PySem.W.mg_of X Gn a__law_same)
  have o__law_few := w__law_few (P := l.prog) (w := w) (G := (GG K C0 XA_BadLine)) (mg := mg) (base := base) z_tuple c__law_take Fu__law_few
  have c__law_few : Cal l.prog w (GG K C0 XA_BadLine) mg base 2 "_law_few" 3 [] F__law_few := (Cal.fn (PySem.W.mg_of X Gn a__law_few) Fu__law_few o__law_few (bd__law_few Fu__law_few)).viewC
  have o__law_mixed := w__law_mixed (P := l.prog) (w := w) (G := (GG K C0 XA_BadLine)) (mg := mg) (base := base) z_len z_list z_range z_tuple c__law_take Fu__law_mixed
  have c__law_mixed : Cal l.prog w (GG K C0 XA_BadLine) mg base 2 "_law_mixed" 2 [] F__law_mixed := (Cal.fn (PySem.W.mg_of X Gn a__law_mixed) Fu__law_mixed o__law_mixed (bd__law_mixed Fu__law_mixed)).viewC
  have o__law_tome := w__law_tome (P := l.prog) (w := w) (G := (GG K C0 XA_BadLine)) (mg := mg) (base := base) z_int z_list z_range z_set z_sorted z_tuple c__law_few c__law_mixed c__law_take Fu__law_tome
  have c__law_tome : Cal l.prog w (GG K C0 XA_BadLine) mg base 3 "_law_tome" 3 [] F__law_tome := (Cal.fn (PySem.W.mg_of X Gn a__law_tome) Fu__law_tome o__law_tome (bd__law_tome Fu__law_tome)).viewC
  have c__law_lists : ∀ n : Nat, Cal l.prog w (GG K C0 XA_BadLine) mg base (0 + n) "_law_lists" 1 [] (F__law_lists n) := w__law_lists z_isinstance z_list z_tuple Fu__law_lists (PySem.W.mg_of X Gn a__law_lists)
  have o__law_is_word := w__law_is_word (P := l.prog) (w := w) (G := (GG K C0 XA_BadLine)) (mg := mg) (base := base) z_isinstance z_len z_str Fu__law_is_word
  have c__law_is_word : Cal l.prog w (GG K C0 XA_BadLine) mg base 1 "_law_is_word" 1 [] F__law_is_word := (Cal.fn (PySem.W.mg_of X Gn a__law_is_word) Fu__law_is_word o__law_is_word (bd__law_is_word Fu__law_is_word)).isoC
  have o__law_six := w__law_six (P := l.prog) (w := w) (G := (GG K C0 XA_BadLine)) (mg := mg) (base := base)  Fu__law_six
  have c__law_six : Cal l.prog w (GG K C0 XA_BadLine) mg base 1 "_law_six" 0 [] F__law_six := (Cal.fn (PySem.W.mg_of X Gn a__law_six) Fu__law_six o__law_six (bd__law_six Fu__law_six)).isoC
  have o__law_sheet := w__law_sheet (P := l.prog) (w := w) (G := (GG K C0 XA_BadLine)) (mg := mg) (base := base) z_int Fu__law_sheet
  have c__law_sheet : Cal l.prog w (GG K C0 XA_BadLine) mg base 1 "_law_sheet" 1 [] F__law_sheet := (Cal.fn (PySem.W.mg_of X Gn a__law_sheet) Fu__law_sheet o__law_sheet (bd__law_sheet Fu__law_sheet)).isoC
  have o__law_bent_text := w__law_bent_text (P := l.prog) (w := w) (G := (GG K C0 XA_BadLine)) (mg := mg) (base := base) z_len c__law_of c__law_take Fu__law_bent_text
  have c__law_bent_text : Cal l.prog w (GG K C0 XA_BadLine) mg base 3 "_law_bent_text" 2 [] F__law_bent_text := (Cal.fn (PySem.W.mg_of X Gn a__law_bent_text) Fu__law_bent_text o__law_bent_text (bd__law_bent_text Fu__law_bent_text)).viewC
  have o__law_read := w__law_read (P := l.prog) (w := w) (G := (GG K C0 XA_BadLine)) (mg := mg) (base := base) z_all z_enumerate z_set z_sorted z_tuple c__law_is_word Fu__law_read
  have c__law_read : Cal l.prog w (GG K C0 XA_BadLine) mg base 2 "_law_read" 1 [] F__law_read := (Cal.fn (PySem.W.mg_of X Gn a__law_read) Fu__law_read o__law_read (bd__law_read Fu__law_read)).isoC
  have o__law_heard := w__law_heard (P := l.prog) (w := w) (G := (GG K C0 XA_BadLine)) (mg := mg) (base := base) z_ValueError z_isinstance gx_BadLine gx_BadText gx_Clash gx_Taken em_BadLine em_BadText em_Clash em_Taken ki_BadLine ki_ValueError xk c_sheet_in Fu__law_heard
  have c__law_heard : Cal l.prog w (GG K C0 XA_BadLine) mg base 5 "_law_heard" 1 [] F__law_heard := (Cal.fn (PySem.W.mg_of X Gn a__law_heard) Fu__law_heard o__law_heard (bd__law_heard Fu__law_heard)).isoC
  have o__law_by_hand_right := w__law_by_hand_right (P := l.prog) (w := w) (G := (GG K C0 XA_BadLine)) (mg := mg) (base := base) c__law_heard c__law_same c__law_six c_sheet_text Fu__law_by_hand_right
  have c__law_by_hand_right : Cal l.prog w (GG K C0 XA_BadLine) mg base 12 "_law_by_hand_right" 0 [] F__law_by_hand_right := (Cal.fn (PySem.W.mg_of X Gn a__law_by_hand_right) Fu__law_by_hand_right o__law_by_hand_right (bd__law_by_hand_right Fu__law_by_hand_right)).isoC
  have o__law_right := w__law_right (P := l.prog) (w := w) (G := (GG K C0 XA_BadLine)) (mg := mg) (base := base) z_range c__law_bent_text c__law_by_hand_right c__law_heard c__law_lists c__law_read c__law_same c__law_sheet c__law_tome c_sheet_in ck_sheet_in_0_text c_sheet_text ck_sheet_text_0_sheet Fu__law_right
  have c__law_right : Cal l.prog w (GG K C0 XA_BadLine) mg base 13 "_law_right" 1 [] F__law_right := (Cal.fn (PySem.W.mg_of X Gn a__law_right) Fu__law_right o__law_right (bd__law_right Fu__law_right)).viewC
  exact law_ok (w_law z_all z_len z_range c__law_box c__law_cells c__law_right Fu_law) hT
end K14
namespace Rq
open PySem PySem.Spec PyProof.Rows L2 Sm
def Sg (x : Str) : Prop := ∀ c ∈ x.cps.toList, c < 0x110000
theorem sg_ok {x : Str} : PyData.strOk x = true ↔ Sg x := by
  unfold PyData.strOk Sg
  rw [Array.all_eq_true']
  constructor
  · intro h c hc
    exact of_decide_eq_true (h c (Array.mem_toList_iff.mp hc))
  · intro h c hc
    exact decide_eq_true (h c (Array.mem_toList_iff.mpr hc))
structure Sh (d : PyData) (w n : Nat) : Prop where
  s : d.showable = true
  h : d.hasDict = false
  n : d.depth = n
  w : d.shown.length ≤ w
  g : Sg d.shown
  l : d.canLay0 = true
structure Shs (ds : List PyData) (w n : Nat) : Prop where
  s : PyData.showableAll ds = true
  h : PyData.hasDictAll ds = false
  n : PyData.depthAll ds = n
  w : ((PyData.shownAll ds).map (·.length)).sum + 2 * (PyData.shownAll ds).length ≤ w
  g : ∀ t ∈ PyData.shownAll ds, Sg t
  l : PyData.canLayAll0 ds = true
end Rq
namespace Hn
open PySem PySem.Spec PyProof.Rows L2 Sm
def Urn (o : Bo) (m : Nat) : Prop := ∃ a b c : Int, o = .lst [.d (.int a), .d (.int b), .d (.int c)] ∧ 0 ≤ a ∧ 0 ≤ b ∧ b < 2 ^ 62 ∧ 0 ≤ c ∧ c + m < 2 ^ 40
theorem Urn.pure {o : Bo} {m : Nat} (u : Urn o m) : pureB o = true := by
  obtain ⟨a, b, c, rfl, _⟩ := u
  rfl
theorem Urn.less {o : Bo} {m k : Nat} (u : Urn o m) (h : k ≤ m) : Urn o k := by
  obtain ⟨a, b, c, e, h1, h2, h3, h4, h5⟩ := u
  exact ⟨a, b, c, e, h1, h2, h3, h4, by omega⟩
theorem small_mul {i j : Int} (h : -(2 ^ 64) < j ∧ j < 2 ^ 64) : mulOk i j = true := by
  unfold mulOk smallI
  simp only [Bool.or_eq_true, decide_eq_true_eq]
  exact .inl (.inr h)
theorem small_mul' {i j : Int} (h : -(2 ^ 64) < i ∧ i < 2 ^ 64) : mulOk i j = true := by
  unfold mulOk smallI
  simp only [Bool.or_eq_true, decide_eq_true_eq]
  exact .inl (.inl h)
theorem small_div {j : Int} (h : 0 < j) (h2 : j < 1073741824) : divOk j = true := by
  unfold divOk
  simp [h, h2]
theorem take_raw {o : Bo} {m : Nat} {low : Int} (u : Urn o (m + 1)) (h0 : 0 < low) (h1 : low < 1000000) : ∃ (r : Int) (o' : Bo), R__law_take [.loc 0, .d (.int low)] [o] = .ok (.d (.int r)) [o'] ∧ 0 ≤ r ∧ r < low ∧ Urn o' m := by
  obtain ⟨a, b, c, rfl, ha, hb, hb2, hc, hm⟩ := u
  unfold R__law_take runB b__law_take
  by_cases h : 0 < a
  · refine ⟨a % low, .lst [.d (.int (a / low)), .d (.int b), .d (.int c)], ?_, Int.emod_nonneg _ (by omega), Int.emod_lt_of_pos _ h0, a / low, b, c, rfl, Int.ediv_nonneg ha (by omega), hb, hb2, hc, by omega⟩
    simp [sSeq, sqz, sIf, sSet, sSub, sRet, mTst, m2, mN, mV, mC, aCons, aNil, Rz.to, Rz.bind, pIx, pGt, pCmp, pInt, pMod, pDiv, dctAt, seqAt, lstAt, toB, li, lift, Sm.lift, atI, ixN, h, h0, small_div h0 (by omega), stSub, oz]
  · have e1 : mulOk 48271 (c + 1) = true := small_mul' (by omega)
    have e2 : mulOk (b + 48271 * (c + 1)) (39373 + (c + 1)) = true := small_mul (by omega)
    generalize hv : (b + 48271 * (c + 1)) * (39373 + (c + 1)) % 2147483647 = v at *
    have hv0 : 0 ≤ v := by
      rw [← hv]
      exact Int.emod_nonneg _ (by omega)
    have hv1 : v < 2147483647 := by
      rw [← hv]
      exact Int.emod_lt_of_pos _ (by omega)
    have e3 : mulOk (v + (c + 1) + b / 1000003) (v % 40009 + 7) = true := small_mul (by omega)
    generalize hw : (v + (c + 1) + b / 1000003) * (v % 40009 + 7) % 2147483629 = x at *
    have hw0 : 0 ≤ x := by
      rw [← hw]
      exact Int.emod_nonneg _ (by omega)
    have hw1 : x < 2147483629 := by
      rw [← hw]
      exact Int.emod_lt_of_pos _ (by omega)
    have e4 : mulOk x 48271 = true := small_mul (by omega)
    have e5 : divOk 1000003 = true := by decide
    have e6 : divOk 64 = true := by decide
    refine ⟨(x * 48271 + v) % 2147483587 / 64 % low, .lst [.d (.int a), .d (.int b), .d (.int (c + 1))], ?_, Int.emod_nonneg _ (by omega), Int.emod_lt_of_pos _ h0, a, b, c + 1, rfl, ha, hb, hb2, by omega, by omega⟩
    simp [sSeq, sqz, sIf, sSet, sSub, sRet, sNil, mTst, m2, mN, mV, mC, aCons, aNil, Rz.to, Rz.bind, pIx, pGt, pCmp, pInt, pMod, pDiv, pAdd, pMul, dctAt, seqAt, lstAt, toB, li, lift, Sm.lift, atI, ixN, h, h0, e1, e2, e3, e4, e5, e6, hv, hw, stSub, oz]
end Hn
namespace Hn
open PySem PySem.Spec PyProof.Rows L2 Sm
@[simp] theorem pures_d : ∀ ts : List Dt, pures (ts.map Dv.d) = some ts
  | [] => rfl
  | t :: ts => by
    show (pures (ts.map Dv.d)).map (t :: ·) = _
    rw [pures_d ts]
    rfl
theorem view_ok {F : FM} {ts : List Dt} {n : Nat} {S : Sto} {o o' : Bo} {r : Dt} {rest : Sto} (hS : S[n]? = some o) (hp : pureB o = true) (hF : F (.loc 0 :: ts.map .d) [o] = .ok (.d r) (o' :: rest)) (hp' : pureB o' = true) : view F (.loc n :: ts.map .d) S = .ok (.d r) (S.set n o') := by
  show (match pures (ts.map Dv.d), S[n]? with
    | some _, some o => if pureB o = true then (match F (.loc 0 :: ts.map .d) [o] with
      | .ok (.d t) (o' :: _) => if pureB o' = true then Rz.ok (Dv.d t) (S.set n o') else .bad
      | .er c t (o' :: _) => if pureB o' = true then .er c t (S.set n o') else .bad
      | _ => .bad) else .bad
    | _, _ => .bad) = _
  rw [pures_d, hS]
  simp [hp, hF, hp']
theorem iso_ok {F : FM} {ts : List Dt} {S S' : Sto} {r : Dt} (hF : F (ts.map .d) [] = .ok (.d r) S') : iso F (ts.map .d) S = .ok (.d r) S := by
  show (match pures (ts.map Dv.d) with
    | some _ => (match F (ts.map .d) [] with
      | .ok (.d t) _ => Rz.ok (Dv.d t) S
      | .er c t _ => .er c t S
      | _ => .bad)
    | none => .bad) = _
  rw [pures_d, hF]
theorem runB_rt {n p : Nat} {b : SM} {ds : List Dv} {S S' : Sto} {d : Dv} (hl : ds.length = p) (hb : b (ds.map some ++ List.replicate (n - p) none) S = .rt d S') : runB n p b ds S = .ok d S' := by
  unfold runB
  rw [if_pos hl, hb]
theorem take_ok {S : Sto} {n : Nat} {o : Bo} {m : Nat} {low : Int} (hS : S[n]? = some o) (u : Urn o (m + 1)) (h0 : 0 < low) (h1 : low < 1000000) : ∃ (r : Int) (o' : Bo), F__law_take [.loc n, .d (.int low)] S = .ok (.d (.int r)) (S.set n o') ∧ 0 ≤ r ∧ r < low ∧ Urn o' m := by
  obtain ⟨r, o', e, a, b, u'⟩ := take_raw u h0 h1
  exact ⟨r, o', view_ok (ts := [.int low]) hS u.pure e u'.pure, a, b, u'⟩
theorem few_loop {k : Int} (hk : 0 < k) (hk1 : k < 1000000) (P : Dt) : ∀ (ts : List Dt) (m : Nat) (o : Bo), Urn o (ts.length + m) →
    ∃ (r : List Dt) (o' : Bo), lcL (gN 3) (mTst (m2 pEq (mF F__law_take (aCons (mV 0) (aCons (mV 2) aNil))) (mC (.int 0)))) (mV 3) [some (.loc 0), some (.d P), some (.d (.int k)), none] ts [o] = .ok (r.map .d) [o'] ∧ r.Sublist ts ∧ Urn o' m
  | [], m, o, u => ⟨[], o, rfl, List.Sublist.slnil, by simpa using u⟩
  | t :: ts, m, o, u => by
    obtain ⟨x, o1, e1, x0, x1, u1⟩ := take_ok (S := [o]) (n := 0) (m := ts.length + m) rfl (u.less (by simp; omega)) hk hk1
    obtain ⟨r, o2, e2, hs, u2⟩ := few_loop hk hk1 P ts m o1 u1
    have e1' : F__law_take [.loc 0, .d (.int k)] [o] = .ok (.d (.int x)) [o1] := e1
    by_cases hx : x = 0
    · refine ⟨t :: r, o2, ?_, hs.cons₂ t, u2⟩
      unfold lcL
      simp [e1', pEq, hx, e2]
    · refine ⟨r, o2, ?_, hs.cons t, u2⟩
      unfold lcL
      simp [e1', pEq, hx, e2]
theorem few_ok {S : Sto} {n : Nat} {o : Bo} {m : Nat} {k : Int} {P : Dt} {ts : List Dt} (hP : seqOf (.d P) = some ts) (hz : ts.length ≤ 1000) (hS : S[n]? = some o) (u : Urn o (ts.length + m)) (h0 : 0 < k) (h1 : k < 1000000) :
    ∃ (r : List Dt) (o' : Bo), F__law_few [.loc n, .d P, .d (.int k)] S = .ok (.d (.tup r)) (S.set n o') ∧ r.Sublist ts ∧ Urn o' m := by
  obtain ⟨r, o', e, hs, u'⟩ := few_loop h0 h1 P ts m o u
  refine ⟨r, o', view_ok (ts := [P, .int k]) (rest := []) hS u.pure ?_ u'.pure, hs, u'⟩
  have hl : r.length ≤ 16777216 := by
    have := hs.length_le
    omega
  have hl2 : ts.length ≤ 16777216 := by omega
  unfold R__law_few runB b__law_few
  simp [hP, hl2, e, pLst, hl, pTuple, lstT, lstAt, dctAt]
theorem er_map {α β : Type} (f : α → β) : ∀ (l : List α) (i : Nat), (l.map f).eraseIdx i = (l.eraseIdx i).map f
  | [], _ => by simp
  | a :: l, 0 => rfl
  | a :: l, i + 1 => by
    show f a :: (l.map f).eraseIdx i = _
    rw [er_map f l i]
    rfl
theorem mixed_loop : ∀ (ts : List Dt) (P : Dt) (L R : List Dt) (m : Nat) (o : Bo) (z : Option Dv), ts.length = L.length → L.length < 1000 → R.length + L.length < 1000 → Urn o (L.length + m) →
    ∃ (R' : List Dt) (o' : Bo) (z' : Option Dv), forL (gN 4) (sDrop (mLm pAppend (mV 3) (aCons (mLm pPopAt (mV 2) (aCons (mF F__law_take (aCons (mV 0) (aCons (mN pLen (aCons (mV 2) (aNil))) (aNil)))) (aNil))) (aNil)))) ts [some (.loc 0), some (.d P), some (.loc 1), some (.loc 2), z] [o, .lst (L.map .d), .lst (R.map .d)]
      = .nx [some (.loc 0), some (.d P), some (.loc 1), some (.loc 2), z'] [o', .lst [], .lst (R'.map .d)] ∧ R'.Perm (R ++ L) ∧ Urn o' m
  | [], P, L, R, m, o, z, hl, _, _, u => by
    have e : L = [] := List.eq_nil_of_length_eq_zero (by simpa using hl.symm)
    subst e
    exact ⟨R, o, z, rfl, by simp, by simpa using u⟩
  | t :: ts, P, L, R, m, o, z, hl, hz, hz2, u => by
    have hpos : 0 < L.length := by
      rw [← hl]
      simp
    obtain ⟨x, o1, e1, x0, x1, u1⟩ := take_ok (S := [o, .lst (L.map .d), .lst (R.map .d)]) (n := 0) (m := L.length - 1 + m) (low := (L.length : Int)) rfl (u.less (by omega)) (by omega) (by omega)
    have hj : x.toNat < L.length := by omega
    have e1' : F__law_take [.loc 0, .d (.int (L.length : Int))] [o, .lst (L.map .d), .lst (R.map .d)] = .ok (.d (.int x)) [o1, .lst (L.map .d), .lst (R.map .d)] := e1
    have hlen : (L.eraseIdx x.toNat).length = L.length - 1 := by
      rw [List.length_eraseIdx_of_lt hj]
    obtain ⟨R', o2, z', e2, hp, u2⟩ := mixed_loop ts P (L.eraseIdx x.toNat) (R ++ [L[x.toNat]]) m o1 (some (.d t)) (by rw [hlen, ← hl]; simp) (by omega) (by simp; omega) (by rw [hlen]; exact u1)
    have hix : seqIndex? x L.length = some x.toNat := by
      have := (ixN_seq (n := L.length) (i := x) (j := x.toNat) (by unfold ixN; rw [if_pos x0, if_pos x1])).1
      exact this
    have hpr : (R ++ [L[x.toNat]] ++ L.eraseIdx x.toNat).Perm (R ++ L) := by
      rw [List.append_assoc]
      refine List.Perm.append_left R ?_
      exact L2.erase_perm L x.toNat L[x.toNat] (List.getElem?_eq_getElem hj)
    refine ⟨R', o2, z', ?_, hp.trans hpr, u2⟩
    have hR : R.length < 16777216 := by omega
    have hb : (-9223372036854775808 ≤ x ∧ x < 9223372036854775808) := by omega
    unfold forL
    simp only [gN_s, oz_some]
    have step : sDrop (mLm pAppend (mV 3) (aCons (mLm pPopAt (mV 2) (aCons (mF F__law_take (aCons (mV 0) (aCons (mN pLen (aCons (mV 2) (aNil))) (aNil)))) (aNil))) (aNil))) [some (.loc 0), some (.d P), some (.loc 1), some (.loc 2), some (.d t)] [o, .lst (L.map .d), .lst (R.map .d)]
        = .nx [some (.loc 0), some (.d P), some (.loc 1), some (.loc 2), some (.d t)] [o1, .lst ((L.eraseIdx x.toNat).map .d), .lst ((R ++ [L[x.toNat]]).map .d)] := by
      simp [isLs, lstAt, pLen, dctAt, seqAt, e1', pPopAt, hb, hix, List.getElem?_eq_getElem hj, pAppend, hR, er_map]
    show (match sDrop _ [some (.loc 0), some (.d P), some (.loc 1), some (.loc 2), some (.d t)] _ with
      | .nx ρ2 S2 => _
      | .ct ρ2 S2 => _
      | .bk ρ2 S2 => _
      | r => _) = _
    rw [step]
    exact e2
theorem pLstB_nil {S : Sto} : pLstB [] S = some (.loc S.length, S ++ [.lst []]) := if_pos (Nat.zero_le _)
theorem rgOk0 {j : Int} (h0 : 0 ≤ j) (h1 : j < 16777216) : rgOk 0 j = true := decide_eq_true ⟨by omega, by omega, by omega, by omega⟩
theorem iRg_ok {f : List Dv → Option (List Dt)} {as : M (List Dv)} {ρ : Sm.Env} {S S1 : Sto} {ds : List Dv} {ts : List Dt} (h1 : as ρ S = .ok ds S1) (h2 : f ds = some ts) : iRg f as ρ S = .ok ts S1 := by
  show (as ρ S).bind (fun ds S1 => li (f ds) S1) = _
  rw [h1, bind_ok, h2, li_some]
theorem q_rg {n : Nat} (h : n < 1000) : rg1 [.d (.int (n : Int))] = some (rgL 0 n) := by
  show (if rgOk 0 (n : Int) = true then some (rgL 0 (n : Int).toNat) else none) = _
  rw [if_pos (rgOk0 (by omega) (by omega)), Int.toNat_natCast]
abbrev eL (L : List Dt) : Sm.Env := [some (.loc 0), some (.d (.lst L)), some (.loc 1), some (.loc 2), none]
theorem q_len {L : List Dt} {S : Sto} : pLen [.d (.lst L)] S = some (.d (.int (L.length : Int)), S) := by
  simp [pLen, dctAt, seqAt, lstAt]
theorem q_i {L : List Dt} {S : Sto} (h : L.length < 1000) : iRg rg1 (aCons (mN pLen (aCons (mV 1) (aNil))) (aNil)) (eL L) S = .ok (rgL 0 L.length) S := by
  exact iRg_ok (ds := [.d (.int (L.length : Int))]) (by simp only [aCons_s, mN_s, mV_s, aNil_s, List.getElem?_cons_zero, List.getElem?_cons_succ, bind_ok, q_len, Sm.lift_some]) (q_rg h)
theorem q_1 {L : List Dt} {o : Bo} : sPars [2, 3] (aCons (mN pListB (aCons (mV 1) (aNil))) (aCons (mN pLstB (aNil)) (aNil))) [some (.loc 0), some (.d (.lst L)), none, none, none] [o] = .nx (eL L) [o, .lst (L.map .d), .lst []] := by
  have p1 : pListB [.d (.lst L)] [o] = some (.loc 1, [o, .lst (L.map .d)]) := by
    simp [pListB, itemsOf, dctAt, seqAt, lstAt]
  simp only [sPars_s, aCons_s, mN_s, mV_s, aNil_s, List.getElem?_cons_zero, List.getElem?_cons_succ, bind_ok, p1, Sm.lift_some, pLstB_nil, to_ok]
  rfl
theorem q_3 {L r : List Dt} {o' : Bo} {z' : Option Dv} : sRet (mN pTuple (aCons (mV 3) (aNil))) [some (.loc 0), some (.d (.lst L)), some (.loc 1), some (.loc 2), z'] [o', .lst [], .lst (r.map .d)] = .rt (.d (.tup r)) [o', .lst [], .lst (r.map .d)] := by
  have e1 : pTuple [.loc 2] [o', .lst [], .lst (r.map .d)] = some (.d (.tup r), [o', .lst [], .lst (r.map .d)]) := by
    simp [pTuple, dctAt, lstT, lstAt]
  simp only [sRet_s, mN_s, aCons_s, mV_s, aNil_s, List.getElem?_cons_zero, List.getElem?_cons_succ, bind_ok, e1, Sm.lift_some, to_ok]
theorem mixed_raw {o : Bo} {m : Nat} {L : List Dt} (hz : L.length < 1000) (u : Urn o (L.length + m)) :
    ∃ (r : List Dt) (o' : Bo), R__law_mixed [.loc 0, .d (.lst L)] [o] = .ok (.d (.tup r)) [o', .lst [], .lst (r.map .d)] ∧ r.Perm L ∧ Urn o' m := by
  obtain ⟨r, o', z', e, hp, u'⟩ := mixed_loop (rgL 0 L.length) (.lst L) L [] m o none (by unfold rgL; rw [List.length_map, List.length_range]) hz (by rw [List.length_nil, Nat.zero_add]; exact hz) u
  refine ⟨r, o', ?_, hp, u'⟩
  refine runB_rt (ds := [.loc 0, .d (.lst L)]) rfl ?_
  show b__law_mixed [some (.loc 0), some (.d (.lst L)), none, none, none] [o] = _
  unfold b__law_mixed
  rw [sSeq_s, q_1, sqz_nx, sSeq_s, sFor_s, q_i hz, to_ok]
  rw [show forL (gN 4) _ (rgL 0 L.length) (eL L) [o, .lst (L.map .d), .lst []] = _ from e, sqz_nx, q_3]
theorem mixed_ok {S : Sto} {n : Nat} {o : Bo} {m : Nat} {L : List Dt} (hz : L.length < 1000) (hS : S[n]? = some o) (u : Urn o (L.length + m)) :
    ∃ (r : List Dt) (o' : Bo), F__law_mixed [.loc n, .d (.lst L)] S = .ok (.d (.tup r)) (S.set n o') ∧ r.Perm L ∧ Urn o' m := by
  obtain ⟨r, o', e, hp, u'⟩ := mixed_raw hz u
  exact ⟨r, o', view_ok (ts := [.lst L]) hS u.pure e u'.pure, hp, u'⟩
end Hn
namespace Hn
open PySem PySem.Spec PyProof.Rows L2 Sm
def dI (l : List Int) : List Dt := l.map .int
def dvI (l : List Int) : List Dv := l.map fun i => .d (.int i)
theorem dvI_get {l : List Int} {j : Nat} (h : j < l.length) : (dvI l)[j]? = some (.d (.int l[j])) := by
  unfold dvI
  rw [List.getElem?_map, List.getElem?_eq_getElem h]
  rfl
theorem dvI_len {l : List Int} : (dvI l).length = l.length := by
  unfold dvI
  simp
theorem dvI_set {l : List Int} {j : Nat} {x : Int} : (dvI l).set j (.d (.int x)) = dvI (l.set j x) := by
  unfold dvI
  rw [List.map_set]
theorem ixN_at {n : Nat} {x : Int} (h0 : 0 ≤ x) (h1 : x < n) : ixN n x = some x.toNat := by
  unfold ixN
  rw [if_pos h0, if_pos h1]
def cBody : SM := sSeq (sSet 5 (m2 pMod (mN pInt (aCons (mV 3) (aNil))) (mV 1))) (sSub (mV 2) (mV 5) (m2 pAdd (m2 pIx (mV 2) (mV 5)) (m2 pMul (mV 4) (m2 pAdd (mV 3) (mC (.int 2))))))
theorem cells_turn {P : Dt} {l : List Int} {i c : Int} {z : Option Dv} (hl : l.length = 3) (h0 : 0 ≤ i) (h1 : i < 2 ^ 40) : ∃ (l' : List Int) (z' : Option Dv), cBody [some (.d P), some (.d (.int 3)), some (.loc 0), some (.d (.int i)), some (.d (.int c)), z] [.lst (dvI l)] = .nx [some (.d P), some (.d (.int 3)), some (.loc 0), some (.d (.int i)), some (.d (.int c)), z'] [.lst (dvI l')] ∧ l'.length = 3 := by
  have m0 : 0 ≤ i % 3 := Int.emod_nonneg _ (by omega)
  have m1' : i % 3 < 3 := Int.emod_lt_of_pos _ (by omega)
  have hj : (i % 3).toNat < l.length := by omega
  have hm : mulOk c (i + 2) = true := small_mul (by omega)
  have hix : ixN (dvI l).length (i % 3) = some (i % 3).toNat := ixN_at m0 (by rw [dvI_len, hl]; exact m1')
  have hat : atI (dvI l) (i % 3) = some (.d (.int l[(i % 3).toNat])) := by
    unfold atI
    rw [hix]
    exact dvI_get hj
  refine ⟨l.set (i % 3).toNat (l[(i % 3).toNat] + c * (i + 2)), some (.d (.int (i % 3))), ?_, by rw [List.length_set]; exact hl⟩
  unfold cBody
  simp [pInt, pMod, pAdd, pMul, hm, pIx, dctAt, seqAt, lstAt, hat, stSub, hix, dvI_set]
theorem cells_loop {P : Dt} : ∀ (ts : List Dt), (∀ t ∈ ts, ∃ i c : Int, t = .tup [.int i, .int c] ∧ 0 ≤ i ∧ i < 2 ^ 40) → ∀ (l : List Int) (z3 z4 z5 : Option Dv), l.length = 3 →
    ∃ (l' : List Int) (z3' z4' z5' : Option Dv), forL (gT (gsCons (gN 3) (gsCons (gN 4) (gsNil)))) cBody ts [some (.d P), some (.d (.int 3)), some (.loc 0), z3, z4, z5] [.lst (dvI l)] = .nx [some (.d P), some (.d (.int 3)), some (.loc 0), z3', z4', z5'] [.lst (dvI l')] ∧ l'.length = 3
  | [], _, l, z3, z4, z5, hl => ⟨l, z3, z4, z5, rfl, hl⟩
  | t :: ts, h, l, z3, z4, z5, hl => by
    obtain ⟨i, c, rfl, h0, h1⟩ := h t List.mem_cons_self
    obtain ⟨l1, z1, e1, hl1⟩ := cells_turn (P := P) (l := l) (c := c) (z := z5) hl h0 h1
    obtain ⟨l2, a, b, d, e2, hl2⟩ := cells_loop ts (fun t ht => h t (List.mem_cons_of_mem _ ht)) l1 (some (.d (.int i))) (some (.d (.int c))) z1 hl1
    refine ⟨l2, a, b, d, ?_, hl2⟩
    unfold forL
    show (match cBody [some (.d P), some (.d (.int 3)), some (.loc 0), some (.d (.int i)), some (.d (.int c)), z5] [.lst (dvI l)] with
      | .nx ρ2 S2 => forL (gT (gsCons (gN 3) (gsCons (gN 4) (gsNil)))) cBody ts ρ2 S2
      | .ct ρ2 S2 => forL (gT (gsCons (gN 3) (gsCons (gN 4) (gsNil)))) cBody ts ρ2 S2
      | .bk ρ2 S2 => .nx ρ2 S2
      | r => r) = _
    rw [e1]
    exact e2
theorem enL_mem {ns : List Int} (hz : ns.length < 1000) : ∀ t ∈ enL (dI ns), ∃ i c : Int, t = .tup [.int i, .int c] ∧ 0 ≤ i ∧ i < 2 ^ 40 := fun t ht => by
  unfold enL at ht
  obtain ⟨j, hj, e⟩ := List.mem_filterMap.mp ht
  have hj' := List.mem_range.mp hj
  unfold dI at hj' e
  rw [List.length_map] at hj'
  rw [List.getElem?_map, List.getElem?_eq_getElem hj'] at e
  cases e
  exact ⟨j, ns[j], rfl, by omega, by omega⟩
theorem cut0 {xs : List Dt} {k : Nat} : cutL xs none (some (k : Int)) = xs.take k := by
  unfold cutL
  rw [HT.sIx_none, HT.sIx_nat, List.drop_zero, Nat.sub_zero, ← List.take_eq_take_min]
theorem cut1 {xs : List Dt} {k n : Nat} : ∃ a b : Nat, cutL xs (some (k : Int)) (some (n : Int)) = (xs.drop a).take b ∧ (xs.length ≤ k → (xs.drop a).take b = []) := by
  refine ⟨min k xs.length, min n xs.length - min k xs.length, ?_, fun h => ?_⟩
  · unfold cutL
    rw [HT.sIx_nat, HT.sIx_nat]
  · rw [Nat.min_eq_right h, List.drop_length]
    simp
end Hn
namespace Hn
open PySem PySem.Spec PyProof.Rows L2 Sm
def cSlice : M (List Dt) := iRg en1 (aCons (mSl pSl (mV 0) (oPt (mV 1)) (oPt (mC (.int 63)))) (aNil))
theorem cells_it {ns : List Int} {z : Option Dv} {S : Sto} : ∃ ms : List Int, cSlice [some (.d (.scr (dI ns))), some (.d (.int 3)), z, none, none, none] S = .ok (enL (dI ms)) S ∧ ms.length ≤ ns.length ∧ (ns.length ≤ 3 → ms = []) := by
  obtain ⟨a, b, e, he⟩ := cut1 (xs := dI ns) (k := 3) (n := 63)
  refine ⟨(ns.drop a).take b, ?_, ?_, fun h => ?_⟩
  · refine iRg_ok (ds := [.d (.lst (dI ((ns.drop a).take b)))]) ?_ rfl
    have e' : pSl (some 3) (some 63) (.d (.scr (dI ns))) S = some (.d (.lst (dI ((ns.drop a).take b))), S) := by
      have : cutL (dI ns) (some (3 : Int)) (some (63 : Int)) = dI ((ns.drop a).take b) := by
        refine e.trans ?_
        unfold dI
        rw [List.map_take, List.map_drop]
      show some (Dv.d (.lst (cutL (dI ns) (some 3) (some 63))), S) = _
      rw [this]
    simp only [aCons_s, mSl_s, mV_s, mC_s, oPt_s, aNil_s, List.getElem?_cons_zero, List.getElem?_cons_succ, bind_ok, e', Sm.lift_some]
  · rw [List.length_take, List.length_drop]
    omega
  · have := he (by unfold dI; rw [List.length_map]; exact h)
    unfold dI at this
    rw [← List.map_drop, ← List.map_take] at this
    exact List.map_eq_nil_iff.mp this
def cHead : M Dv := mOrT pTru (mN pListB (aCons (mSl pSl (mV 0) (oNo) (oPt (mV 1))) (aNil))) (mN pLstB (aCons (mC (.int 0)) (aNil)))
theorem dI_d (l : List Int) : (dI l).map Dv.d = dvI l := by
  unfold dI dvI
  rw [List.map_map]
  rfl
theorem cells_head (ns : List Int) : cHead [some (.d (.scr (dI ns))), some (.d (.int 3)), none, none, none, none] [] = (if ns = [] then .ok (.loc 1) [.lst [], .lst (dvI [0])] else .ok (.loc 0) [.lst (dvI (ns.take 3))]) := by
  have e' : pSl none (some 3) (.d (.scr (dI ns))) [] = some (.d (.lst (dI (ns.take 3))), []) := by
    have : cutL (dI ns) none (some (3 : Int)) = dI (ns.take 3) := by
      refine (cut0 (xs := dI ns) (k := 3)).trans ?_
      unfold dI
      rw [List.map_take]
    show some (Dv.d (.lst (cutL (dI ns) none (some 3))), ([] : Sto)) = _
    rw [this]
  have p1 : pListB [.d (.lst (dI (ns.take 3)))] [] = some (.loc 0, [.lst (dvI (ns.take 3))]) := by
    have : itemsOf [] (.d (.lst (dI (ns.take 3)))) = some (dI (ns.take 3)) := by
      simp [itemsOf, dctAt, seqAt, lstAt]
    show (match itemsOf [] (.d (.lst (dI (ns.take 3)))) with
      | some ts => some (Dv.loc ([] : Sto).length, ([] : Sto) ++ [Bo.lst (ts.map Dv.d)])
      | none => none) = _
    rw [this]
    simp only [dI_d]
    rfl
  have t1 : pTru (.loc 0) [.lst (dvI (ns.take 3))] = some (!(dvI (ns.take 3)).isEmpty) := rfl
  unfold cHead
  simp only [mOrT_s, mN_s, aCons_s, mSl_s, mV_s, oNo_s, oPt_s, aNil_s, List.getElem?_cons_zero, List.getElem?_cons_succ, bind_ok, e', Sm.lift_some, p1, t1, li_some]
  cases ns with
  | nil => rfl
  | cons a r => rfl
theorem frz_dvI {l : List Int} {S : Sto} {n : Nat} (h : S[n]? = some (.lst (dvI l))) : frz (.loc n) S = some (.d (.lst (dI l)), S.set n .dead) := by
  unfold frz
  simp only [h, ← dI_d, pures_d]
theorem cells_ok {ns : List Int} (hz : ns.length ≤ 63) {S : Sto} : ∃ cs : List Int, F__law_cells [.d (.scr (dI ns)), .d (.int 3)] S = .ok (.d (.lst (dI cs))) S ∧ cs.length ≤ 3 := by
  have go : ∃ (cs : List Int) (S' : Sto), b__law_cells [some (.d (.scr (dI ns))), some (.d (.int 3)), none, none, none, none] [] = .rt (.d (.lst (dI cs))) S' ∧ cs.length ≤ 3 := by
    have hb : b__law_cells = sSeq (sSet 2 cHead) (sSeq (sFor cSlice (gT (gsCons (gN 3) (gsCons (gN 4) (gsNil)))) cBody) (sRet (mFrz (mV 2)))) := rfl
    rw [hb, sSeq_s, sSet_s, cells_head]
    by_cases h : ns = []
    · rw [if_pos h, to_ok, sqz_nx, sSeq_s, sFor_s]
      obtain ⟨ms, e, _, e0⟩ := cells_it (ns := ns) (z := some (.loc 1)) (S := [.lst [], .lst (dvI [0])])
      have hms := e0 (by rw [h]; exact Nat.zero_le _)
      subst hms
      show ∃ (cs : List Int) (S' : Sto), sqz ((cSlice [some (.d (.scr (dI ns))), some (.d (.int 3)), some (.loc 1), none, none, none] [.lst [], .lst (dvI [0])]).to _ _) _ = .rt (.d (.lst (dI cs))) S' ∧ cs.length ≤ 3
      rw [e]
      exact ⟨[0], _, rfl, by decide⟩
    · rw [if_neg h, to_ok, sqz_nx, sSeq_s, sFor_s]
      obtain ⟨ms, e, hm, e0⟩ := cells_it (ns := ns) (z := some (.loc 0)) (S := [.lst (dvI (ns.take 3))])
      show ∃ (cs : List Int) (S' : Sto), sqz ((cSlice [some (.d (.scr (dI ns))), some (.d (.int 3)), some (.loc 0), none, none, none] [.lst (dvI (ns.take 3))]).to _ _) _ = .rt (.d (.lst (dI cs))) S' ∧ cs.length ≤ 3
      rw [e, to_ok]
      show ∃ (cs : List Int) (S' : Sto), sqz (forL (gT (gsCons (gN 3) (gsCons (gN 4) (gsNil)))) cBody (enL (dI ms)) [some (.d (.scr (dI ns))), some (.d (.int 3)), some (.loc 0), none, none, none] [.lst (dvI (ns.take 3))]) (sRet (mFrz (mV 2))) = .rt (.d (.lst (dI cs))) S' ∧ cs.length ≤ 3
      by_cases h3 : ns.length ≤ 3
      · have hms := e0 h3
        subst hms
        refine ⟨ns.take 3, [.dead], ?_, by rw [List.length_take]; omega⟩
        show sRet (mFrz (mV 2)) [some (.d (.scr (dI ns))), some (.d (.int 3)), some (.loc 0), none, none, none] [.lst (dvI (ns.take 3))] = _
        simp only [sRet_s, mFrz_s, mV_s, List.getElem?_cons_zero, List.getElem?_cons_succ, bind_ok, frz_dvI (S := [.lst (dvI (ns.take 3))]) (n := 0) rfl, Sm.lift_some, to_ok]
        rfl
      · obtain ⟨l', a, b, d, e2, hl'⟩ := cells_loop (P := .scr (dI ns)) (enL (dI ms)) (enL_mem (by omega)) (ns.take 3) none none none (by rw [List.length_take]; omega)
        rw [e2, sqz_nx]
        refine ⟨l', [.dead], ?_, by omega⟩
        simp only [sRet_s, mFrz_s, mV_s, List.getElem?_cons_zero, List.getElem?_cons_succ, bind_ok, frz_dvI (S := [.lst (dvI l')]) (n := 0) rfl, Sm.lift_some, to_ok]
        rfl
  obtain ⟨cs, S', e, hc⟩ := go
  exact ⟨cs, iso_ok (ts := [.scr (dI ns), .int 3]) (runB_rt (ds := [.d (.scr (dI ns)), .d (.int 3)]) rfl e), hc⟩
end Hn
namespace Hn
open PySem PySem.Spec PyProof.Rows L2 Sm
def Tx : Nat → Dt → Prop
  | 0, t => ∃ s, PyData.strOk s = true ∧ t = .str s
  | n + 1, t => (∃ s, PyData.strOk s = true ∧ t = .str s) ∨ ∃ xs, (t = .tup xs ∨ t = .lst xs) ∧ xs.length ≤ 1000 ∧ ∀ x ∈ xs, Tx n x
theorem Tx.up : ∀ {n : Nat} {t : Dt}, Tx n t → Tx (n + 1) t
  | 0, t, h => .inl h
  | n + 1, t, .inl h => .inl h
  | n + 1, t, .inr ⟨xs, h, hz, hx⟩ => .inr ⟨xs, h, hz, fun x m => (hx x m).up⟩
mutual
def tp : Dt → Dt
  | .tup xs => .tup (tps xs)
  | .lst xs => .tup (tps xs)
  | t => t
def tps : List Dt → List Dt
  | [] => []
  | x :: xs => tp x :: tps xs
end
mutual
def tl : Dt → Dt
  | .tup xs => .lst (tls xs)
  | .lst xs => .lst (tls xs)
  | t => t
def tls : List Dt → List Dt
  | [] => []
  | x :: xs => tl x :: tls xs
end
theorem tls_len : ∀ xs : List Dt, (tls xs).length = xs.length
  | [] => rfl
  | x :: xs => by
    show (tls xs).length + 1 = xs.length + 1
    rw [tls_len xs]
theorem map_loop {F : FM} {f : Dt → Dt} {P : Dt} : ∀ (xs : List Dt), (∀ x ∈ xs, ∀ S, F [.d x] S = .ok (.d (f x)) S) → ∀ S : Sto, lcL (gN 1) cYes (mF F (aCons (mV 1) (aNil))) [some (.d P), none] xs S = .ok ((xs.map f).map .d) S
  | [], _, S => rfl
  | x :: xs, h, S => by
    show bz (some ([some (Dv.d P), some (Dv.d x)] : Sm.Env)) _ = _
    simp only [bz_some, cYes_s, nox_ok, bind_ok, if_true, mF_s, aCons_s, mV_s, aNil_s, List.getElem?_cons_zero, List.getElem?_cons_succ, h x List.mem_cons_self S, map_loop xs (fun y hy => h y (List.mem_cons_of_mem _ hy)) S]
    rfl
theorem pLst_d {ts : List Dt} {S : Sto} (h : ts.length ≤ 16777216) : pLst (ts.map .d) S = some (.d (.lst ts), S) := by
  unfold pLst
  rw [pures_d]
  exact if_pos h
theorem pTuple_lst {ts : List Dt} {S : Sto} : pTuple [.d (.lst ts)] S = some (.d (.tup ts), S) := by
  simp [pTuple, dctAt, lstT, lstAt]
theorem comp_ok {F : FM} {f : Dt → Dt} {P : Dt} {xs : List Dt} (hP : seqOf (.d P) = some xs) (hz : xs.length ≤ 1000) (h : ∀ x ∈ xs, ∀ S, F [.d x] S = .ok (.d (f x)) S) (S : Sto) : mN pLst (mLcI [1] (iSeq (mV 0)) (gN 1) cYes (mF F (aCons (mV 1) (aNil)))) [some (.d P), none] S = .ok (.d (.lst (xs.map f))) S := by
  have h1 : mLcI [1] (iSeq (mV 0)) (gN 1) cYes (mF F (aCons (mV 1) (aNil))) [some (.d P), none] S = .ok ((xs.map f).map .d) S := by
    rw [mLcI_s, iSeq_s, mV_s]
    show ((li (seqOf (.d P)) S).bind fun ts S1 => if ts.length ≤ 16777216 then _ else _) = _
    rw [hP, li_some, bind_ok, if_pos (by omega)]
    exact map_loop xs h S
  rw [mN_s, h1, bind_ok, pLst_d (by rw [List.length_map]; omega), Sm.lift_some]
theorem tps_map : ∀ xs : List Dt, tps xs = xs.map tp
  | [] => rfl
  | x :: xs => by
    show tp x :: tps xs = tp x :: xs.map tp
    rw [tps_map xs]
theorem tls_map : ∀ xs : List Dt, tls xs = xs.map tl
  | [] => rfl
  | x :: xs => by
    show tl x :: tls xs = tl x :: xs.map tl
    rw [tls_map xs]
theorem isa_seq {t : Dt} {xs : List Dt} {S : Sto} (h : t = .tup xs ∨ t = .lst xs) : pIsa ["list", "tuple"] (.d t) S = some (.d (.bl true), S) := by
  rcases h with rfl | rfl <;> rfl
theorem tupled_ok : ∀ (n : Nat) (t : Dt) (S : Sto), Tx n t → F_tupled (n + 1) [.d t] S = .ok (.d (tp t)) S := by
  have str : ∀ (n : Nat) (s : Str) (S : Sto), F_tupled (n + 1) [.d (.str s)] S = .ok (.d (tp (.str s))) S := fun n s S => iso_ok (ts := [.str s]) (S' := []) rfl
  have seq : ∀ (n : Nat) (t : Dt) (xs : List Dt) (S : Sto), (t = .tup xs ∨ t = .lst xs) → xs.length ≤ 1000 → (∀ x ∈ xs, ∀ S, F_tupled n [.d x] S = .ok (.d (tp x)) S) → F_tupled (n + 1) [.d t] S = .ok (.d (tp t)) S := fun n t xs S ht hz hx => by
    have hP : seqOf (.d t) = some xs := by rcases ht with rfl | rfl <;> rfl
    have e := comp_ok (P := t) hP hz hx []
    have et : tp t = .tup (xs.map tp) := by
      rw [← tps_map]
      rcases ht with rfl | rfl <;> rfl
    refine iso_ok (ts := [t]) (S' := []) (runB_rt (ds := [.d t]) rfl ?_)
    show b_tupled (F_tupled n) [some (.d t), none] [] = _
    unfold b_tupled
    have c : mTru pTru (m1 (pIsa ["list", "tuple"]) (mV 0)) [some (.d t), none] [] = .ok true [] := by
      simp only [mTru_s, m1_s, mV_s, List.getElem?_cons_zero, bind_ok, isa_seq ht, Sm.lift_some]
      rfl
    rw [sRet_s, mIf_s, c, bind_ok, if_pos rfl, mN_s, aCons_s, e, bind_ok, aNil_s, bind_ok, bind_ok, et, pTuple_lst]
    rfl
  intro n
  induction n with
  | zero =>
    intro t S h
    obtain ⟨s, hs, rfl⟩ := h
    exact str 0 s S
  | succ n ih =>
    intro t S h
    rcases h with ⟨s, hs, rfl⟩ | ⟨xs, ht, hz, hx⟩
    · exact str (n + 1) s S
    · exact seq (n + 1) t xs S ht hz fun x m S => ih x S (hx x m)
theorem lists_ok : ∀ (n : Nat) (t : Dt) (S : Sto), Tx n t → F__law_lists (n + 1) [.d t] S = .ok (.d (tl t)) S := by
  have str : ∀ (n : Nat) (s : Str) (S : Sto), F__law_lists (n + 1) [.d (.str s)] S = .ok (.d (tl (.str s))) S := fun n s S => iso_ok (ts := [.str s]) (S' := []) rfl
  have seq : ∀ (n : Nat) (t : Dt) (xs : List Dt) (S : Sto), (t = .tup xs ∨ t = .lst xs) → xs.length ≤ 1000 → (∀ x ∈ xs, ∀ S, F__law_lists n [.d x] S = .ok (.d (tl x)) S) → F__law_lists (n + 1) [.d t] S = .ok (.d (tl t)) S := fun n t xs S ht hz hx => by
    have hP : seqOf (.d t) = some xs := by rcases ht with rfl | rfl <;> rfl
    have e := comp_ok (P := t) hP hz hx []
    have et : tl t = .lst (xs.map tl) := by
      rw [← tls_map]
      rcases ht with rfl | rfl <;> rfl
    refine iso_ok (ts := [t]) (S' := []) (runB_rt (ds := [.d t]) rfl ?_)
    show b__law_lists (F__law_lists n) [some (.d t), none] [] = _
    unfold b__law_lists
    have c : mTru pTru (m1 (pIsa ["list", "tuple"]) (mV 0)) [some (.d t), none] [] = .ok true [] := by
      simp only [mTru_s, m1_s, mV_s, List.getElem?_cons_zero, bind_ok, isa_seq ht, Sm.lift_some]
      rfl
    rw [sRet_s, mIf_s, c, bind_ok, if_pos rfl, e, et]
    rfl
  intro n
  induction n with
  | zero =>
    intro t S h
    obtain ⟨s, hs, rfl⟩ := h
    exact str 0 s S
  | succ n ih =>
    intro t S h
    rcases h with ⟨s, hs, rfl⟩ | ⟨xs, ht, hz, hx⟩
    · exact str (n + 1) s S
    · exact seq (n + 1) t xs S ht hz fun x m S => ih x S (hx x m)
end Hn
namespace Hn
open PySem PySem.Spec PyProof.Rows L2 Sm
theorem eq_bl {a b : Bool} {S : Sto} : eqDv S (.d (.bl a)) (.d (.bl b)) = some (a == b) := by
  show (if SeqAt.shaped (.bool a) = true ∧ SeqAt.shaped (.bool b) = true then some (PyData.eqv (.bool a) (.bool b)) else none) = _
  rw [if_pos ⟨rfl, rfl⟩]
  cases a <;> cases b <;> rfl
theorem eqv_str (s : Str) : PyData.eqv (.str s) (.str s) = true := by
  simp [PyData.eqv]
theorem eq_str {s : Str} {S : Sto} (hs : PyData.strOk s = true) : eqDv S (.d (.str s)) (.d (.str s)) = some true := by
  show (if SeqAt.shaped (.str s) = true ∧ SeqAt.shaped (.str s) = true then some (PyData.eqv (.str s) (.str s)) else none) = _
  have h : SeqAt.shaped (.str s) = true := by
    unfold SeqAt.shaped
    simp [PyData.canLay0, hs, PyData.depth]
  rw [if_pos ⟨h, h⟩, eqv_str]
theorem pNe_bl {a : Bool} {S : Sto} : pNe (.d (.bl a)) (.d (.bl a)) S = some (.d (.bl false), S) := by
  unfold pNe
  rw [eq_bl]
  cases a <;> rfl
theorem pEq_bl {a : Bool} {S : Sto} : pEq (.d (.bl a)) (.d (.bl a)) S = some (.d (.bl true), S) := by
  unfold pEq
  rw [eq_bl]
  cases a <;> rfl
theorem pEq_int {i : Int} {S : Sto} : pEq (.d (.int i)) (.d (.int i)) S = some (.d (.bl true), S) := by
  unfold pEq
  rw [eqDv_int]
  simp
theorem pEq_str {s : Str} {S : Sto} (hs : PyData.strOk s = true) : pEq (.d (.str s)) (.d (.str s)) S = some (.d (.bl true), S) := by
  unfold pEq
  rw [eq_str hs]
def zEl (F : FM) : M Dv := mF F (aCons (mV 2) (aCons (mV 3) (aNil)))
theorem zip_loop {F : FM} {P R : Dt} : ∀ (xs : List Dt), (∀ x ∈ xs, ∀ S, F [.d x, .d x] S = .ok (.d (.bl true)) S) → ∀ S : Sto, lcL (gT (gsCons (gN 2) (gsCons (gN 3) (gsNil)))) cYes (zEl F) [some (.d P), some (.d R), none, none] (zpL xs xs) S = .ok (xs.map fun _ => Dv.d (.bl true)) S
  | [], _, S => rfl
  | x :: xs, h, S => by
    show bz (some ([some (Dv.d P), some (Dv.d R), some (Dv.d x), some (Dv.d x)] : Sm.Env)) _ = _
    unfold zEl
    simp only [bz_some, cYes_s, nox_ok, bind_ok, if_true, mF_s, aCons_s, mV_s, aNil_s, List.getElem?_cons_zero, List.getElem?_cons_succ, h x List.mem_cons_self S]
    show ((lcL (gT (gsCons (gN 2) (gsCons (gN 3) (gsNil)))) cYes (zEl F) [some (.d P), some (.d R), none, none] (zpL xs xs) S).bind fun ds S3 => Rz.ok (Dv.d (.bl true) :: ds) S3) = _
    rw [zip_loop xs (fun y hy => h y (List.mem_cons_of_mem _ hy)) S]
    rfl
theorem all_true (l : List Dt) (S : Sto) : pAll [.d (.lst (l.map fun _ => .bl true))] S = some (.d (.bl true), S) := by
  have hb : ∀ l : List Dt, blsOf (l.map fun _ => Dt.bl true) = some (l.map fun _ => true) := fun l => by
    induction l with
    | nil => rfl
    | cons a l ih =>
      show (blsOf (l.map fun _ => Dt.bl true)).map (true :: ·) = _
      rw [ih]
      rfl
  have e : (lstT S (.d (.lst (l.map fun _ => .bl true)))).bind blsOf = some (l.map fun _ => true) := by
    show ((some ((l.map fun _ => Dt.bl true).map Dv.d)).bind pures).bind blsOf = _
    rw [Option.bind_some, pures_d, Option.bind_some, hb]
  unfold pAll
  simp only [e]
  simp
theorem len_seq {t : Dt} {xs : List Dt} {S : Sto} (h : t = .tup xs ∨ t = .lst xs) : pLen [.d t] S = some (.d (.int (xs.length : Int)), S) := by
  rcases h with rfl | rfl
  · simp [pLen, dctAt, seqAt, lstAt]
  · simp [pLen, dctAt, seqAt, lstAt]
theorem isa_l {t : Dt} {xs : List Dt} {S : Sto} (h : t = .tup xs ∨ t = .lst xs) : ∃ b, pIsa ["list"] (.d t) S = some (.d (.bl b), S) := by
  rcases h with rfl | rfl <;> exact ⟨_, rfl⟩
theorem isa_t {t : Dt} {xs : List Dt} {S : Sto} (h : t = .tup xs ∨ t = .lst xs) : ∃ b, pIsa ["tuple"] (.d t) S = some (.d (.bl b), S) := by
  rcases h with rfl | rfl <;> exact ⟨_, rfl⟩
end Hn
namespace Hn
open PySem PySem.Spec PyProof.Rows L2 Sm
abbrev kS (l : List Str) : List Key := l.map Sum.inr
theorem dput_new {ks : List Key} {xs : List Dv} {j : Key} {y : Dv} (h : hasK ks j = false) : dputK ks j = ks ++ [j] ∧ dputX ks xs j y = xs ++ [y] := by
  unfold dputK dputX
  simp [h]
theorem hasK_new {l : List Str} {x : Str} (h : x ∉ l) : hasK (kS l) (.inr x) = false := by
  cases e : hasK (kS l) (.inr x) with
  | false => rfl
  | true => exact absurd (hasK_inr.mp e) h
theorem kT_strs (l : List Str) : (kS l).map kT = l.map .str := by
  rw [List.map_map]
  rfl
end Hn
namespace Hn
open PySem PySem.Spec PyProof.Rows L2 Sm
theorem alike_strs : ∀ a b : Str, PySem.W.alike (encT (.str a)) (encT (.str b)) = true := fun a b => by
  show PySem.W.alike (.str a) (.str b) = true
  simp only [PySem.W.alike]
theorem sortChk_strs {l : List Str} (h : l.length ≤ 1000) : sortChk (l.map .str) = true := by
  unfold sortChk
  simp only [Bool.and_eq_true, decide_eq_true_eq, Bool.or_eq_true, List.all_eq_true]
  refine ⟨⟨⟨fun t ht => ?_, fun t ht u hu => ?_⟩, .inr (.inl fun t ht => ?_)⟩, by rw [List.length_map]; omega⟩
  · obtain ⟨a, _, rfl⟩ := List.mem_map.mp ht
    refine ⟨rfl, ?_⟩
    show PyData.depth (.str a) ≤ 60
    simp only [PyData.depth]
    omega
  · obtain ⟨a, _, rfl⟩ := List.mem_map.mp ht
    obtain ⟨b, _, rfl⟩ := List.mem_map.mp hu
    exact alike_strs a b
  · obtain ⟨a, _, rfl⟩ := List.mem_map.mp ht
    rfl
theorem seqT_tup {ts : List Dt} {S : Sto} : seqT S (.d (.tup ts)) = some ts := by
  unfold seqT seqAt
  simp
theorem seqT_lst {ts : List Dt} {S : Sto} : seqT S (.d (.lst ts)) = some ts := by
  unfold seqT seqAt lstAt
  simp
theorem pSorted_strs {l : List Str} (h : l.length ≤ 1000) {S : Sto} : pSorted [.d (.tup (l.map .str))] S = some (.d (.lst ((sortS l).map .str)), S) ∧ pSorted [.d (.lst (l.map .str))] S = some (.d (.lst ((sortS l).map .str)), S) := by
  constructor
  · unfold pSorted
    simp only [seqT_tup]
    rw [if_pos (sortChk_strs h), sort_strs]
  · unfold pSorted
    simp only [seqT_lst]
    rw [if_pos (sortChk_strs h), sort_strs]
end Hn
namespace Hn
open PySem PySem.Spec PyProof.Rows L2 Sm
def row (e : Str × List Str) : Dt := .tup [.str e.1, .tup (e.2.map .str)]
theorem toPys_strs : ∀ l : List Str, toPys (l.map .str) = some (l.map PyData.str)
  | [] => rfl
  | a :: l => by
    show (match toPy (.str a), toPys (l.map .str) with
      | some a, some b => some (a :: b)
      | _, _ => none) = _
    rw [toPys_strs l]
    rfl
theorem toPy_row (e : Str × List Str) : toPy (row e) = some (.tuple [.str e.1, .tuple (e.2.map PyData.str)]) := by
  show (toPys [.str e.1, .tup (e.2.map .str)]).map PyData.tuple = _
  have h : toPy (.tup (e.2.map .str)) = some (.tuple (e.2.map PyData.str)) := by
    show (toPys (e.2.map .str)).map PyData.tuple = _
    rw [toPys_strs]
    rfl
  have h2 : toPys [.str e.1, .tup (e.2.map .str)] = some [.str e.1, .tuple (e.2.map PyData.str)] := by
    simp only [toPys, h]
    rfl
  rw [h2]
  rfl
theorem enc_row (e : Str × List Str) : encT (row e) = .tuple [.str e.1, .tuple (e.2.map PyData.str)] := by
  unfold encT
  rw [toPy_row]
  rfl
theorem alikeAll_strs : ∀ l m : List Str, PySem.W.alikeAll (l.map PyData.str) (m.map PyData.str) = true
  | [], m => by
    simp only [List.map_nil, PySem.W.alikeAll]
  | a :: l, [] => by
    simp only [List.map_nil, List.map_cons, PySem.W.alikeAll]
  | a :: l, b :: m => by
    simp only [List.map_cons, PySem.W.alikeAll, PySem.W.alike, alikeAll_strs l m, Bool.and_self]
theorem alike_rows (e f : Str × List Str) : PySem.W.alike (encT (row e)) (encT (row f)) = true := by
  rw [enc_row, enc_row]
  simp only [PySem.W.alike, PySem.W.alikeAll, alikeAll_strs, Bool.and_self]
theorem depth_strs : ∀ l : List Str, PyData.depthAll (l.map PyData.str) = 0
  | [] => by simp only [List.map_nil, PyData.depthAll]
  | a :: l => by
    simp only [List.map_cons, PyData.depthAll, PyData.depth, depth_strs l]
    rfl
theorem depth_row (e : Str × List Str) : (encT (row e)).depth ≤ 60 := by
  rw [enc_row]
  simp only [PyData.depth, PyData.depthAll, depth_strs]
  omega
theorem sortChk_rows {l : List (Str × List Str)} (h : l.length ≤ 1000) : sortChk (l.map row) = true := by
  unfold sortChk
  simp only [Bool.and_eq_true, decide_eq_true_eq, Bool.or_eq_true, List.all_eq_true]
  refine ⟨⟨⟨fun t ht => ?_, fun t ht u hu => ?_⟩, .inl fun t ht => ?_⟩, by rw [List.length_map]; omega⟩
  · obtain ⟨a, _, rfl⟩ := List.mem_map.mp ht
    exact ⟨by rw [toPy_row]; rfl, depth_row a⟩
  · obtain ⟨a, _, rfl⟩ := List.mem_map.mp ht
    obtain ⟨b, _, rfl⟩ := List.mem_map.mp hu
    exact alike_rows a b
  · obtain ⟨a, _, rfl⟩ := List.mem_map.mp ht
    rw [enc_row]
    rfl
end Hn
namespace Hn
open PySem PySem.Spec PyProof.Rows L2 Sm
mutual
theorem tp_tl : ∀ t : Dt, tp (tl t) = tp t
  | .non => rfl
  | .bl _ => rfl
  | .int _ => rfl
  | .str _ => rfl
  | .tup xs => by
    show Dt.tup (tps (tls xs)) = .tup (tps xs)
    rw [tps_tls xs]
  | .lst xs => by
    show Dt.tup (tps (tls xs)) = .tup (tps xs)
    rw [tps_tls xs]
  | .dct _ _ => rfl
  | .obj _ _ => rfl
  | .scr _ => rfl
  | .ltp _ => rfl
  | .exc _ _ => rfl
  | .ntp _ => rfl
theorem tps_tls : ∀ xs : List Dt, tps (tls xs) = tps xs
  | [] => rfl
  | x :: xs => by
    show tp (tl x) :: tps (tls xs) = tp x :: tps xs
    rw [tp_tl x, tps_tls xs]
end
theorem Tx.tl : ∀ {n : Nat} {t : Dt}, Tx n t → Tx n (tl t)
  | 0, t, h => by
    obtain ⟨s, hs, rfl⟩ := h
    exact ⟨s, hs, rfl⟩
  | n + 1, t, h => by
    rcases h with ⟨s, hs, rfl⟩ | ⟨xs, ht, hz, hx⟩
    · exact .inl ⟨s, hs, rfl⟩
    · refine .inr ⟨tls xs, ?_, by rw [tls_len]; exact hz, fun y hy => ?_⟩
      · rcases ht with rfl | rfl <;> exact .inr rfl
      · rw [tls_map] at hy
        obtain ⟨x, hm, rfl⟩ := List.mem_map.mp hy
        exact (hx x hm).tl
theorem tx_py : ∀ (n : Nat) (t : Dt), Tx n t → ∃ d, toPy t = some d ∧ d.canLay0 = true ∧ d.depth ≤ n ∧ PyData.eqv d d = true
  | 0, t, h => by
    obtain ⟨s, hs, rfl⟩ := h
    exact ⟨.str s, rfl, by simp only [PyData.canLay0, hs], by simp only [PyData.depth]; omega, eqv_str s⟩
  | n + 1, t, h => by
    rcases h with ⟨s, hs, rfl⟩ | ⟨xs, ht, hz, hx⟩
    · exact ⟨.str s, rfl, by simp only [PyData.canLay0, hs], by simp only [PyData.depth]; omega, eqv_str s⟩
    · have all : ∀ ys : List Dt, (∀ y ∈ ys, Tx n y) → ∃ ds, toPys ys = some ds ∧ PyData.canLayAll0 ds = true ∧ PyData.depthAll ds ≤ n ∧ PyData.eqvAll ds ds = true := fun ys => by
        induction ys with
        | nil => exact fun _ => ⟨[], rfl, by simp only [PyData.canLayAll0], by simp only [PyData.depthAll]; omega, by simp only [PyData.eqvAll]⟩
        | cons y ys ih =>
          intro hy
          obtain ⟨d, e1, c1, p1, q1⟩ := tx_py n y (hy y List.mem_cons_self)
          obtain ⟨ds, e2, c2, p2, q2⟩ := ih fun z hz => hy z (List.mem_cons_of_mem _ hz)
          refine ⟨d :: ds, ?_, by simp only [PyData.canLayAll0, c1, c2, Bool.and_self], ?_, by simp only [PyData.eqvAll, q1, q2, Bool.and_self]⟩
          · simp only [toPys, e1, e2]
          · simp only [PyData.depthAll]
            omega
      obtain ⟨ds, e, c, p, q⟩ := all xs hx
      rcases ht with rfl | rfl
      · refine ⟨.tuple ds, ?_, by simp only [PyData.canLay0, c], ?_, by simp only [PyData.eqv, q]⟩
        · show (toPys xs).map PyData.tuple = _
          rw [e]
          rfl
        · simp only [PyData.depth]
          omega
      · refine ⟨.list ds, ?_, by simp only [PyData.canLay0, c], ?_, by simp only [PyData.eqv, q]⟩
        · show (toPys xs).map PyData.list = _
          rw [e]
          rfl
        · simp only [PyData.depth]
          omega
theorem pNe_tx {n : Nat} {t : Dt} (h : Tx n t) (hn : n ≤ 64) (S : Sto) : pNe (.d t) (.d t) S = some (.d (.bl false), S) := by
  obtain ⟨d, e, c, p, q⟩ := tx_py n t h
  have hs : SeqAt.shaped d = true := by
    unfold SeqAt.shaped
    simp only [c, Bool.true_and, decide_eq_true_eq]
    omega
  have : eqDv S (.d t) (.d t) = some true := by
    unfold eqDv
    simp only [pyDv, e]
    rw [if_pos ⟨hs, hs⟩, q]
  unfold pNe
  rw [this]
  rfl
end Hn
namespace Hn
open PySem PySem.Spec PyProof.Rows L2 Sm
theorem perm_map_inv {α β : Type} {f : α → β} {g : β → α} (hg : ∀ a, g (f a) = a) {r : List β} {l : List α} (h : r.Perm (l.map f)) : ∃ m : List α, r = m.map f ∧ m.Perm l := by
  refine ⟨r.map g, ?_, ?_⟩
  · rw [List.map_map]
    have : ∀ x ∈ r, (f ∘ g) x = id x := fun x hx => by
      obtain ⟨a, _, rfl⟩ := List.mem_map.mp (h.mem_iff.mp hx)
      show f (g (f a)) = f a
      rw [hg]
    rw [List.map_congr_left this, List.map_id]
  · have := h.map g
    rw [List.map_map, show (g ∘ f) = id from funext hg, List.map_id] at this
    exact this
def unS : Dt → Str
  | .str s => s
  | _ => Str.empty
theorem perm_strs {r : List Dt} {l : List Str} (h : r.Perm (l.map .str)) : ∃ m : List Str, r = m.map .str ∧ m.Perm l := perm_map_inv (g := unS) (fun _ => rfl) h
theorem sub_strs {r : List Dt} {l : List Str} (h : r.Sublist (l.map .str)) : ∃ m : List Str, r = m.map .str ∧ m.Sublist l := by
  obtain ⟨m, h1, h2⟩ := List.sublist_map_iff.mp h
  exact ⟨m, h2, h1⟩
theorem pLst_v {ds : List Dv} {ts : List Dt} {S : Sto} (e : ds = ts.map .d) (h : ts.length ≤ 16777216) : pLst ds S = some (.d (.lst ts), S) := by
  rw [e]
  exact pLst_d h
theorem pList_t {ts : List Dt} {S : Sto} : pList [.d (.tup ts)] S = some (.d (.lst ts), S) := by
  simp [pList, itemsOf, dctAt, seqAt]
theorem ix_lst {ts : List Dt} {i : Nat} {t : Dt} {S : Sto} (h : ts[i]? = some t) : pIx (.d (.lst ts)) (.d (.int (i : Nat))) S = some (.d t, S) := by
  have : atI (ts.map Dv.d) ((i : Nat) : Int) = some (.d t) := atI_nat (by rw [List.getElem?_map, h]; rfl)
  simp only [pIx, dctAt, seqAt, lstAt, this]
theorem ix_tup {ts : List Dt} {i : Nat} {t : Dt} {S : Sto} (h : ts[i]? = some t) : pIx (.d (.tup ts)) (.d (.int (i : Nat))) S = some (.d t, S) := by
  have : atI (ts.map Dv.d) ((i : Nat) : Int) = some (.d t) := atI_nat (by rw [List.getElem?_map, h]; rfl)
  simp only [pIx, dctAt, seqAt, lstAt, this]
theorem ix_strs {l : List Str} {i : Nat} {s : Str} {S : Sto} (h : l[i]? = some s) : pIx (.d (.lst (l.map .str))) (.d (.int (i : Nat))) S = some (.d (.str s), S) := ix_lst (by rw [List.getElem?_map, h]; rfl)
theorem dlook_at {α : Type} {f : Nat → α} : ∀ {l : List Str} {i a : Nat} {s : Str}, l.Nodup → l[i]? = some s → dlook (kS l) ((List.range' a l.length).map f) (.inr s) = some (f (a + i))
  | [], i, a, s, _, h => by simp at h
  | x :: l, 0, a, s, nd, h => by
    simp at h
    subst h
    show (if (Sum.inr x : Key) = .inr x then some (f a) else _) = _
    rw [if_pos rfl]
    rfl
  | x :: l, i + 1, a, s, nd, h => by
    have h' : l[i]? = some s := by simpa using h
    obtain ⟨n1, n2⟩ := List.nodup_cons.mp nd
    have hne : ¬ (Sum.inr x : Key) = .inr s := fun z => by
      cases z
      exact n1 (List.mem_of_getElem? h')
    show (if (Sum.inr x : Key) = .inr s then _ else dlook (kS l) ((List.range' (a + 1) l.length).map f) (.inr s)) = _
    rw [if_neg hne, dlook_at n2 h']
    congr 1
    congr 1
    omega
theorem forL_nx {g : GM} {b : SM} {t : Dt} {ts : List Dt} {ρ ρ1 ρ2 : Sm.Env} {S S2 : Sto} (hg : g (.d t) ρ = some ρ1) (h : b ρ1 S = .nx ρ2 S2) : forL g b (t :: ts) ρ S = forL g b ts ρ2 S2 := by
  show oz (g (.d t) ρ) _ = _
  rw [hg, oz_some, h]
theorem rgL0 (n : Nat) : rgL 0 n = (List.range' 0 n).map fun (i : Nat) => Dt.int (i : Int) := by
  unfold rgL
  rw [List.range_eq_range']
  exact List.map_congr_left fun i _ => by rw [Int.zero_add]
theorem mul_b {ts : List Dt} {b : Bool} {S : Sto} (h : ts.length ≤ 16777216) : pMul (.d (.lst ts)) (.d (.int (if b then 1 else 0))) S = some (.d (.lst (if b then ts else [])), S) := by
  have hc : ∀ j : Int, j = 0 ∨ j = 1 → decide (-(2 ^ 63) ≤ j ∧ j < 2 ^ 63 ∧ ts.length * j.toNat ≤ 16777216) = true := fun j hj => by
    refine decide_eq_true ⟨by rcases hj with rfl | rfl <;> decide, by rcases hj with rfl | rfl <;> decide, ?_⟩
    rcases hj with rfl | rfl
    · simp
    · simpa using h
  cases b
  · show (if decide (-(2 ^ 63) ≤ (0 : Int) ∧ (0 : Int) < 2 ^ 63 ∧ ts.length * (0 : Int).toNat ≤ 16777216) = true then some (Dv.d (.lst (List.replicate (0 : Int).toNat ts).flatten), S) else none) = _
    rw [if_pos (hc 0 (.inl rfl))]
    rfl
  · show (if decide (-(2 ^ 63) ≤ (1 : Int) ∧ (1 : Int) < 2 ^ 63 ∧ ts.length * (1 : Int).toNat ≤ 16777216) = true then some (Dv.d (.lst (List.replicate (1 : Int).toNat ts).flatten), S) else none) = _
    rw [if_pos (hc 1 (.inr rfl))]
    show some (Dv.d (.lst (ts ++ [])), S) = _
    rw [List.append_nil]
    rfl
theorem add_l {a b : List Dt} {S : Sto} (h : a.length + b.length ≤ 16777216) : pAdd (.d (.lst a)) (.d (.lst b)) S = some (.d (.lst (a ++ b)), S) := if_pos h
theorem add_i {i j : Int} {S : Sto} : pAdd (.d (.int i)) (.d (.int j)) S = some (.d (.int (i + j)), S) := rfl
theorem int_i {i : Int} {S : Sto} : pInt [.d (.int i)] S = some (.d (.int i), S) := rfl
theorem int_b {b : Bool} {S : Sto} : pInt [.d (.bl b)] S = some (.d (.int (if b then 1 else 0)), S) := rfl
theorem mod_i {i j : Int} {S : Sto} (h : 0 < j) : pMod (.d (.int i)) (.d (.int j)) S = some (.d (.int (i % j)), S) := if_pos h
theorem eq_i {i j : Int} {S : Sto} : pEq (.d (.int i)) (.d (.int j)) S = some (.d (.bl (decide (i = j))), S) := by
  unfold pEq
  rw [eqDv_int]
theorem gt_i {i j : Int} {S : Sto} : pGt (.d (.int i)) (.d (.int j)) S = some (.d (.bl (decide (j < i))), S) := rfl
theorem lt_i {i j : Int} {S : Sto} : pLt (.d (.int i)) (.d (.int j)) S = some (.d (.bl (decide (i < j))), S) := rfl
theorem shaped_str {s : Str} (h : PyData.strOk s = true) : SeqAt.shaped (.str s) = true := by
  unfold SeqAt.shaped
  simp [PyData.canLay0, h, PyData.depth]
theorem eqv_strs (a b : Str) : PyData.eqv (.str a) (.str b) = decide (a = b) := by
  show (a == b) = _
  cases e : a == b with
  | true => exact (decide_eq_true (by simpa using e)).symm
  | false => exact (decide_eq_false (by simpa using e)).symm
theorem eqDv_str {a b : Str} {S : Sto} (h1 : PyData.strOk a = true) (h2 : PyData.strOk b = true) : eqDv S (.d (.str a)) (.d (.str b)) = some (decide (a = b)) := by
  show (if SeqAt.shaped (.str a) = true ∧ SeqAt.shaped (.str b) = true then some (PyData.eqv (.str a) (.str b)) else none) = _
  rw [if_pos ⟨shaped_str h1, shaped_str h2⟩, eqv_strs]
theorem eq_s {a b : Str} {S : Sto} (h1 : PyData.strOk a = true) (h2 : PyData.strOk b = true) : pEq (.d (.str a)) (.d (.str b)) S = some (.d (.bl (decide (a = b))), S) := by
  unfold pEq
  rw [eqDv_str h1 h2]
theorem ne_s {a b : Str} {S : Sto} (h1 : PyData.strOk a = true) (h2 : PyData.strOk b = true) : pNe (.d (.str a)) (.d (.str b)) S = some (.d (.bl (!decide (a = b))), S) := by
  unfold pNe
  rw [eqDv_str h1 h2]
theorem cut_to {α : Type} {xs : List α} {k : Nat} : cutL xs none (some (k : Int)) = xs.take k := by
  unfold cutL
  rw [HT.sIx_none, HT.sIx_nat, List.drop_zero, Nat.sub_zero, ← List.take_eq_take_min]
theorem cut_from {α : Type} {xs : List α} {k : Nat} : cutL xs (some (k : Int)) none = xs.drop k := by
  unfold cutL
  rw [HT.sIx_none, HT.sIx_nat, List.take_of_length_le (by rw [List.length_drop]; omega)]
  by_cases h : k ≤ xs.length
  · rw [Nat.min_eq_left h]
  · rw [Nat.min_eq_right (by omega), List.drop_length, List.drop_eq_nil_of_le (by omega)]
theorem cut_mid {α : Type} {xs : List α} {a b : Nat} (h : a + b ≤ xs.length) : cutL xs (some (a : Int)) (some ((a : Int) + (b : Int))) = (xs.drop a).take b := by
  unfold cutL
  rw [HT.sIx_nat, show ((a : Int) + (b : Int)) = ((a + b : Nat) : Int) from rfl, HT.sIx_nat, Nat.min_eq_left (show a ≤ xs.length by omega), Nat.min_eq_left h, Nat.add_sub_cancel_left]
theorem cut_map {α β : Type} {f : α → β} {xs : List α} {lo hi : Option Int} : cutL (xs.map f) lo hi = (cutL xs lo hi).map f := by
  unfold cutL
  rw [List.length_map, List.map_take, List.map_drop]
theorem cut_sub {α : Type} {xs : List α} {lo hi : Option Int} : (cutL xs lo hi).Sublist xs := (List.take_sublist _ _).trans (List.drop_sublist _ _)
theorem sl_l {ts : List Dt} {lo hi : Option Int} {S : Sto} : pSl lo hi (.d (.lst ts)) S = some (.d (.lst (cutL ts lo hi)), S) := rfl
theorem sl_t {ts : List Dt} {lo hi : Option Int} {S : Sto} : pSl lo hi (.d (.tup ts)) S = some (.d (.tup (cutL ts lo hi)), S) := rfl
theorem lc_yes {g : GM} {c : M Bool} {e : M Dv} {ρ ρ1 : Sm.Env} {t : Dt} {ts : List Dt} {S S1 S2 S3 : Sto} {d : Dv} {ds : List Dv} (hg : g (.d t) ρ = some ρ1) (hc : c ρ1 S = .ok true S1) (he : e ρ1 S1 = .ok d S2) (hr : lcL g c e ρ ts S2 = .ok ds S3) : lcL g c e ρ (t :: ts) S = .ok (d :: ds) S3 := by
  show bz (g (.d t) ρ) _ = _
  rw [hg, bz_some, hc, nox_ok, bind_ok, if_pos rfl, he, nox_ok, bind_ok, hr, bind_ok]
theorem lc_no {g : GM} {c : M Bool} {e : M Dv} {ρ ρ1 : Sm.Env} {t : Dt} {ts : List Dt} {S S1 S3 : Sto} {ds : List Dv} (hg : g (.d t) ρ = some ρ1) (hc : c ρ1 S = .ok false S1) (hr : lcL g c e ρ ts S1 = .ok ds S3) : lcL g c e ρ (t :: ts) S = .ok ds S3 := by
  show bz (g (.d t) ρ) _ = _
  rw [hg, bz_some, hc, nox_ok, bind_ok, if_neg (by decide), hr]
theorem mLcI_ok {vs : List Nat} {it : M (List Dt)} {g : GM} {c : M Bool} {e : M Dv} {ρ : Sm.Env} {S S1 S2 : Sto} {ts : List Dt} {ds : List Dv} (hi : it ρ S = .ok ts S1) (hz : ts.length ≤ 16777216) (h : lcL g c e (wipeE ρ vs) ts S1 = .ok ds S2) : mLcI vs it g c e ρ S = .ok ds S2 := by
  rw [mLcI_s, hi, bind_ok, if_pos hz, h]
theorem iSeq_l {m : M Dv} {ρ : Sm.Env} {S S1 : Sto} {ts : List Dt} (h : m ρ S = .ok (.d (.lst ts)) S1) : iSeq m ρ S = .ok ts S1 := by
  rw [iSeq_s, h, bind_ok]
  rfl
theorem iSeq_t {m : M Dv} {ρ : Sm.Env} {S S1 : Sto} {ts : List Dt} (h : m ρ S = .ok (.d (.tup ts)) S1) : iSeq m ρ S = .ok ts S1 := by
  rw [iSeq_s, h, bind_ok]
  rfl
end Hn
namespace Hn
open PySem PySem.Spec PyProof.Rows L2 Sm
def pool : List Str := ["a", "ann", "bob", "cat", "dan", "eve", "fay", "new", "old", "x", "zzzzzzzz"]
abbrev bx (l : List Str) : Bo := .lst (l.map fun s => Dv.d (.str s))
abbrev locs (n : Nat) : List Dv := (List.range' 2 n).map Dv.loc
abbrev StT (o : Bo) (fs : List Str) (bs : List (List Str)) : Sto := o :: .dct (kS fs) (locs fs.length) :: bs.map bx
abbrev eT (P1 P2 P5 : Dt) (L : List Str) (n : Nat) (folk emp : List Str) (st wd : Int) (z11 z12 z13 z14 : Option Dv) : Sm.Env :=
  [some (.loc 0), some (.d P1), some (.d P2), some (.d (.lst (L.map .str))), some (.d (.int (n : Int))), some (.d P5), some (.d (.lst (folk.map .str))), some (.d (.lst (emp.map .str))), some (.loc 1), some (.d (.int st)), some (.d (.int wd)), z11, z12, z13, z14, none, none, none]
def tA1 : SM := sSet 12 (m2 pMul (mN pLst (aCons (m2 pIx (mV 6) (m2 pMod (mN pInt (aCons (m2 pAdd (mV 11) (mC (.int 1))) (aNil))) (mV 4))) (aNil))) (mN pInt (aCons (m2 pEq (mV 9) (mC (.int 3))) (aNil))))
def tA2 : SM := sSet 12 (m2 pAdd (mV 12) (mN pList (aCons (mF F__law_few (aCons (mV 0) (aCons (mV 7) (aCons (mC (.int 3)) (aNil))))) (aNil))))
def tA3 : SM := sSub (mV 8) (m2 pIx (mV 6) (mV 11)) (m2 pAddB (mV 12) (m2 pMul (mSl pSl (mV 3) (oPt (m1 pNeg (mC (.int 1)))) (oNo)) (mN pInt (aCons (m2 pEq (mF F__law_take (aCons (mV 0) (aCons (mC (.int 6)) (aNil)))) (mC (.int 0))) (aNil)))))
def tA : SM := sSeq tA1 (sSeq tA2 tA3)
section
variable {P1 P2 P5 : Dt} {L : List Str} {n : Nat} {folk emp : List Str} {st wd : Int} {z11 z12 z13 z14 : Option Dv}
theorem setbx (o d : Bo) : ∀ (bs : List (List Str)) (i : Nat) (l : List Str), ((o :: d :: bs.map bx).set (2 + i) (bx l) : Sto) = o :: d :: (bs.set i l).map bx := fun bs i l => by
  rw [show 2 + i = i + 1 + 1 by omega, List.set_cons_succ, List.set_cons_succ, List.map_set]
theorem tA1_ok {k : Nat} (hn : n = folk.length) (hk : k < folk.length) {S : Sto} : ∃ w : List Str, tA1 (eT P1 P2 P5 L n folk emp st wd (some (.d (.int (k : Int)))) z12 z13 z14) S = .nx (eT P1 P2 P5 L n folk emp st wd (some (.d (.int (k : Int)))) (some (.d (.lst (w.map .str)))) z13 z14) S ∧ w.length ≤ 1 ∧ ∀ x ∈ w, x ∈ folk := by
  have hj : (k + 1) % n < folk.length := by
    rw [← hn]
    exact Nat.mod_lt _ (by omega)
  have e1 : ((k : Int) + 1) % (n : Int) = (((k + 1) % n : Nat) : Int) := by
    rw [Int.natCast_emod]
    rfl
  have e2 : pIx (.d (.lst (folk.map .str))) (.d (.int (((k + 1) % n : Nat) : Int))) S = some (.d (.str folk[(k + 1) % n]), S) := ix_strs (List.getElem?_eq_getElem hj)
  have e3 : pLst [.d (.str folk[(k + 1) % n])] S = some (.d (.lst [.str folk[(k + 1) % n]]), S) := pLst_v (ts := [.str folk[(k + 1) % n]]) rfl (by show 1 ≤ 16777216; omega)
  have e4 : pMod (.d (.int ((k : Int) + 1))) (.d (.int (n : Int))) S = some (.d (.int (((k + 1) % n : Nat) : Int)), S) := by
    rw [mod_i (by omega), e1]
  have e5 : ∀ b : Bool, pMul (.d (.lst [.str folk[(k + 1) % n]])) (.d (.int (if b then 1 else 0))) S = some (.d (.lst (if b then [.str folk[(k + 1) % n]] else [])), S) := fun b => mul_b (by show 1 ≤ 16777216; omega)
  refine ⟨if decide (st = 3) then [folk[(k + 1) % n]] else [], ?_, ?_, ?_⟩
  · unfold tA1
    simp only [sSet_s, m2_s, mN_s, aCons_s, aNil_s, mV_s, mC_s, List.getElem?_cons_zero, List.getElem?_cons_succ, bind_ok, add_i, Sm.lift_some, int_i, e4, e2, e3, eq_i, int_b, e5, to_ok]
    cases decide (st = 3) <;> rfl
  · split <;> simp
  · intro x hx
    split at hx
    · rw [List.mem_singleton.mp hx]
      exact List.getElem_mem hj
    · exact absurd hx List.not_mem_nil
theorem tA2_ok {o : Bo} {d : Bo} {R : List Bo} {w : List Str} {m : Nat} (hz : emp.length ≤ 20) (hw : w.length ≤ 1) (u : Urn o (emp.length + m)) : ∃ (r : List Str) (o' : Bo), tA2 (eT P1 P2 P5 L n folk emp st wd z11 (some (.d (.lst (w.map .str)))) z13 z14) (o :: d :: R) = .nx (eT P1 P2 P5 L n folk emp st wd z11 (some (.d (.lst ((w ++ r).map .str)))) z13 z14) (o' :: d :: R) ∧ r.Sublist emp ∧ Urn o' m := by
  obtain ⟨r0, o', e, hs, u'⟩ := few_ok (S := o :: d :: R) (n := 0) (P := .lst (emp.map .str)) (ts := emp.map .str) (k := 3) (m := m) rfl (by rw [List.length_map]; omega) rfl (by rw [List.length_map]; exact u) (by omega) (by omega)
  obtain ⟨r, rfl, hr⟩ := sub_strs hs
  refine ⟨r, o', ?_, hr, u'⟩
  have e' : F__law_few [.loc 0, .d (.lst (emp.map .str)), .d (.int 3)] (o :: d :: R) = .ok (.d (.tup (r.map .str))) (o' :: d :: R) := e
  have ha : pAdd (.d (.lst (w.map .str))) (.d (.lst (r.map .str))) (o' :: d :: R) = some (.d (.lst ((w ++ r).map .str)), o' :: d :: R) := by
    rw [List.map_append]
    refine add_l ?_
    have := hr.length_le
    simp only [List.length_map]
    omega
  unfold tA2
  simp only [sSet_s, m2_s, mN_s, mF_s, aCons_s, aNil_s, mV_s, mC_s, List.getElem?_cons_zero, List.getElem?_cons_succ, bind_ok, Sm.lift_some, e', pList_t, ha, to_ok]
  rfl
theorem tA3_ok {k : Nat} {o : Bo} {bs : List (List Str)} {w : List Str} {m : Nat} (hn : folk.length ≤ 100) (hk : k < folk.length) (nd : folk.Nodup) (hb : bs.length = k) (hw : w.length ≤ 100) (hL : L.length ≤ 100) (u : Urn o (1 + m)) :
    ∃ (r : List Str) (o' : Bo), tA3 (eT P1 P2 P5 L n folk emp st wd (some (.d (.int (k : Int)))) (some (.d (.lst (w.map .str)))) z13 z14) (StT o (folk.take k) bs) = .nx (eT P1 P2 P5 L n folk emp st wd (some (.d (.int (k : Int)))) (some (.d (.lst (w.map .str)))) z13 z14) (StT o' (folk.take (k + 1)) (bs ++ [w ++ r])) ∧ r.length ≤ 100 ∧ (∀ x ∈ r, x ∈ L) ∧ Urn o' m := by
  have hlt : (folk.take k).length = k := by
    rw [List.length_take]
    omega
  obtain ⟨x, o', e, x0, x1, u'⟩ := take_ok (S := StT o (folk.take k) bs) (n := 0) (m := m) (low := 6) rfl (u.less (by omega)) (by omega) (by omega)
  have e' : F__law_take [.loc 0, .d (.int 6)] (StT o (folk.take k) bs) = .ok (.d (.int x)) (StT o' (folk.take k) bs) := e
  let t : List Str := cutL L (some (-1)) none
  have ht : t.length ≤ 100 := Nat.le_trans cut_sub.length_le hL
  have e1 : ∀ S, pSl (some (-1)) none (.d (.lst (L.map .str))) S = some (.d (.lst (t.map .str)), S) := fun S => by
    rw [sl_l, cut_map]
  have e2 : ∀ (b : Bool) (S : Sto), pMul (.d (.lst (t.map .str))) (.d (.int (if b then 1 else 0))) S = some (.d (.lst ((if b then t else []).map .str)), S) := fun b S => by
    rw [mul_b (by rw [List.length_map]; omega)]
    cases b <;> rfl
  have en : ∀ S : Sto, pNeg (.d (.int 1)) S = some (.d (.int (-1)), S) := fun S => rfl
  generalize hr : (if decide (x = 0) then t else []) = r at *
  have hr1 : r.length ≤ 100 := by
    rw [← hr]
    split
    · exact ht
    · simp
  have hr2 : ∀ y ∈ r, y ∈ L := fun y hy => by
    rw [← hr] at hy
    split at hy
    · exact cut_sub.subset hy
    · exact absurd hy List.not_mem_nil
  have e2' : pMul (.d (.lst (t.map .str))) (.d (.int (if decide (x = 0) then 1 else 0))) (StT o' (folk.take k) bs) = some (.d (.lst (r.map .str)), StT o' (folk.take k) bs) := by
    rw [e2, hr]
  have hS : (StT o' (folk.take k) bs).length = 2 + k := by
    simp only [List.length_cons, List.length_map]
    omega
  have e3 : pAddB (.d (.lst (w.map .str))) (.d (.lst (r.map .str))) (StT o' (folk.take k) bs) = some (.loc (2 + k), StT o' (folk.take k) bs ++ [bx (w ++ r)]) := by
    show (if ((w.map Dt.str).map Dv.d).length + ((r.map Dt.str).map Dv.d).length ≤ 16777216 then some (Dv.loc (StT o' (folk.take k) bs).length, StT o' (folk.take k) bs ++ [Bo.lst ((w.map Dt.str).map Dv.d ++ (r.map Dt.str).map Dv.d)]) else none) = _
    rw [if_pos (by simp only [List.length_map]; omega), hS, List.map_map, List.map_map, ← List.map_append]
    rfl
  have e4 : ∀ S, pIx (.d (.lst (folk.map .str))) (.d (.int (k : Int))) S = some (.d (.str folk[k]), S) := fun S => ix_strs (List.getElem?_eq_getElem hk)
  have hne : folk[k] ∉ folk.take k := fun z => by
    obtain ⟨i, hi⟩ := List.mem_iff_getElem?.mp z
    rw [List.getElem?_take] at hi
    split at hi
    · rename_i hik
      have := (List.getElem?_inj (by omega) nd).mp (hi.trans (List.getElem?_eq_getElem hk).symm)
      omega
    · cases hi
  have htk : folk.take (k + 1) = folk.take k ++ [folk[k]] := by
    rw [List.take_succ, List.getElem?_eq_getElem hk]
    rfl
  have e5 : stSub (.loc 1) (.d (.str folk[k])) (.loc (2 + k)) (StT o' (folk.take k) bs ++ [bx (w ++ r)]) = some (StT o' (folk.take (k + 1)) (bs ++ [w ++ r])) := by
    obtain ⟨k1, k2⟩ := dput_new (xs := locs (folk.take k).length) (y := .loc (2 + k)) (hasK_new hne)
    show (if (kS (folk.take k)).length < 16777216 then some ((StT o' (folk.take k) bs ++ [bx (w ++ r)]).set 1 (.dct (dputK (kS (folk.take k)) (.inr folk[k])) (dputX (kS (folk.take k)) (locs (folk.take k).length) (.inr folk[k]) (.loc (2 + k))))) else none) = _
    rw [if_pos (by rw [List.length_map, hlt]; omega), k1, k2]
    have a1 : kS (folk.take k) ++ [.inr folk[k]] = kS (folk.take (k + 1)) := by
      rw [htk, kS, kS, List.map_append]
      rfl
    have a2 : locs (folk.take k).length ++ [Dv.loc (2 + k)] = locs (folk.take (k + 1)).length := by
      rw [hlt, htk, List.length_append, hlt, List.length_singleton, locs, locs, List.range'_concat, List.map_append, Nat.one_mul]
      rfl
    rw [a1, a2]
    show some (o' :: _ :: (bs.map bx ++ [bx (w ++ r)])) = some (o' :: _ :: (bs ++ [w ++ r]).map bx)
    rw [List.map_append]
    rfl
  refine ⟨r, o', ?_, hr1, hr2, u'⟩
  unfold tA3
  simp only [sSub_s, m2_s, mN_s, mF_s, m1_s, mSl_s, oPt_s, oNo_s, aCons_s, aNil_s, mV_s, mC_s, List.getElem?_cons_zero, List.getElem?_cons_succ, bind_ok, Sm.lift_some, en, e1, e', eq_i, int_b, e2', e3, e4, e5, to_ok, oz_some]
def Gd (folk : List Str) (c : Nat) (bs : List (List Str)) : Prop := ∀ l ∈ bs, l.length ≤ c ∧ ∀ x ∈ l, x ∈ pool
theorem tA_ok {k : Nat} {o : Bo} {bs : List (List Str)} {m : Nat} (hn : n = folk.length) (hf : folk.length ≤ 20) (hk : k < folk.length) (nd : folk.Nodup) (hb : bs.length = k) (he : emp.length ≤ 20) (hL : L.length ≤ 20) (pf : ∀ x ∈ folk, x ∈ pool) (pe : ∀ x ∈ emp, x ∈ pool) (pl : ∀ x ∈ L, x ∈ pool) (g : Gd folk 200 bs) (u : Urn o (emp.length + (1 + m))) :
    ∃ (w : List Str) (o' : Bo) (z : Option Dv), tA (eT P1 P2 P5 L n folk emp st wd (some (.d (.int (k : Int)))) z12 z13 z14) (StT o (folk.take k) bs) = .nx (eT P1 P2 P5 L n folk emp st wd (some (.d (.int (k : Int)))) z z13 z14) (StT o' (folk.take (k + 1)) (bs ++ [w])) ∧ Gd folk 200 (bs ++ [w]) ∧ Urn o' m := by
  obtain ⟨w1, e1, l1, p1⟩ := tA1_ok (P1 := P1) (P2 := P2) (P5 := P5) (L := L) (emp := emp) (st := st) (wd := wd) (z12 := z12) (z13 := z13) (z14 := z14) hn hk (S := StT o (folk.take k) bs)
  obtain ⟨w2, o2, e2, s2, u2⟩ := tA2_ok (P1 := P1) (P2 := P2) (P5 := P5) (L := L) (n := n) (folk := folk) (st := st) (wd := wd) (z11 := some (.d (.int (k : Int)))) (z13 := z13) (z14 := z14) (d := .dct (kS (folk.take k)) (locs (folk.take k).length)) (R := bs.map bx) he l1 u
  have hl2 : (w1 ++ w2).length ≤ 100 := by
    have := s2.length_le
    rw [List.length_append]
    omega
  obtain ⟨w3, o3, e3, l3, p3, u3⟩ := tA3_ok (P1 := P1) (P2 := P2) (P5 := P5) (L := L) (n := n) (emp := emp) (st := st) (wd := wd) (z13 := z13) (z14 := z14) (by omega) hk nd hb hl2 (by omega) u2
  refine ⟨w1 ++ w2 ++ w3, o3, some (.d (.lst ((w1 ++ w2).map .str))), ?_, fun l hl => ?_, u3⟩
  · unfold tA
    rw [sSeq_s, e1, sqz_nx, sSeq_s, e2, sqz_nx, e3]
  · rcases List.mem_append.mp hl with hl | hl
    · exact g l hl
    · rw [List.mem_singleton.mp hl]
      refine ⟨by rw [List.length_append]; omega, fun x hx => ?_⟩
      rcases List.mem_append.mp hx with hx | hx
      · rcases List.mem_append.mp hx with hx | hx
        · exact pf x (p1 x hx)
        · exact pe x (s2.subset hx)
      · exact pl x (p3 x hx)
theorem tA_loop (hn : n = folk.length) (hf : folk.length ≤ 20) (nd : folk.Nodup) (he : emp.length ≤ 20) (hL : L.length ≤ 20) (pf : ∀ x ∈ folk, x ∈ pool) (pe : ∀ x ∈ emp, x ∈ pool) (pl : ∀ x ∈ L, x ∈ pool) : ∀ (q k : Nat) (bs : List (List Str)) (o : Bo) (m : Nat) (z11 z12 : Option Dv), k + q = folk.length → bs.length = k → Gd folk 200 bs → Urn o (q * (emp.length + 1) + m) →
    ∃ (bs' : List (List Str)) (o' : Bo) (z11' z12' : Option Dv), forL (gN 11) tA ((List.range' k q).map fun (i : Nat) => Dt.int (i : Int)) (eT P1 P2 P5 L n folk emp st wd z11 z12 z13 z14) (StT o (folk.take k) bs) = .nx (eT P1 P2 P5 L n folk emp st wd z11' z12' z13 z14) (StT o' folk bs') ∧ bs'.length = folk.length ∧ Gd folk 200 bs' ∧ Urn o' m
  | 0, k, bs, o, m, z11, z12, hq, hb, g, u => by
    refine ⟨bs, o, z11, z12, ?_, by omega, g, u.less (by omega)⟩
    rw [List.take_of_length_le (by omega)]
    rfl
  | q + 1, k, bs, o, m, z11, z12, hq, hb, g, u => by
    obtain ⟨w, o1, z, e1, g1, u1⟩ := tA_ok (P1 := P1) (P2 := P2) (P5 := P5) (st := st) (wd := wd) (z12 := z12) (z13 := z13) (z14 := z14) (k := k) (m := q * (emp.length + 1) + m) hn hf (by omega) nd hb he hL pf pe pl g (u.less (by rw [Nat.add_mul]; omega))
    obtain ⟨bs', o', a, b, e2, h1, h2, h3⟩ := tA_loop hn hf nd he hL pf pe pl q (k + 1) (bs ++ [w]) o1 m (some (.d (.int (k : Int)))) z (by omega) (by rw [List.length_append, hb]; rfl) g1 u1
    refine ⟨bs', o', a, b, ?_, h1, h2, h3⟩
    rw [List.range'_succ, List.map_cons]
    rw [forL_nx (ρ1 := eT P1 P2 P5 L n folk emp st wd (some (.d (.int (k : Int)))) z12 z13 z14) rfl e1]
    exact e2
end
end Hn
namespace Hn
open PySem PySem.Spec PyProof.Rows L2 Sm
theorem pool_ok : ∀ x ∈ pool, PyData.strOk x = true := by decide +kernel
def tAppA : SM := sDrop (mLm pAppend (m2 pIx (mV 8) (m2 pIx (mV 6) (mV 11))) (aCons (mV 13) (aNil)))
def tAppB : SM := sDrop (mLm pAppend (m2 pIx (mV 8) (mV 13)) (aCons (m2 pIx (mV 6) (mV 11)) (aNil)))
def tB : SM := sSeq (sSet 14 (mF F__law_take (aCons (mV 0) (aCons (mV 10) (aNil)))))
    (sSeq (sIf (cOr (mTst (m2 pEq (mV 14) (mC (.int 0)))) (cAnd (mTst (m2 pEq (mV 14) (mC (.int 1)))) (mTst (m2 pGt (mV 9) (mC (.int 0)))))) tAppA (sNil))
    (sIf (cOr (mTst (m2 pEq (mV 14) (mC (.int 0)))) (cAnd (mTst (m2 pEq (mV 14) (mC (.int 2)))) (mTst (m2 pGt (mV 9) (mC (.int 0)))))) tAppB (sNil)))
section
variable {P1 P2 P5 : Dt} {L : List Str} {n : Nat} {folk emp : List Str} {st wd : Int} {z11 z12 z13 z14 : Option Dv}
theorem St_ix {o : Bo} {bs : List (List Str)} {i : Nat} {s : Str} (nd : folk.Nodup) (h : folk[i]? = some s) : pIx (.loc 1) (.d (.str s)) (StT o folk bs) = some (.loc (2 + i), StT o folk bs) := by
  have := dlook_at (f := Dv.loc) (a := 2) nd h
  show (match dlook (kS folk) (locs folk.length) (.inr s) with
    | some x => some (x, StT o folk bs)
    | none => none) = _
  rw [this]
theorem St_bx {o d : Bo} {bs : List (List Str)} {i : Nat} {l : List Str} (h : bs[i]? = some l) : (o :: d :: bs.map bx)[2 + i]? = some (bx l) := by
  rw [show 2 + i = i + 1 + 1 by omega, List.getElem?_cons_succ, List.getElem?_cons_succ, List.getElem?_map, h]
  rfl
theorem app_ok {o : Bo} {bs : List (List Str)} {i : Nat} {l : List Str} {y : Str} (h : bs[i]? = some l) (hl : l.length < 1000) : isLs (StT o folk bs) (.loc (2 + i)) = true ∧ pAppend (.loc (2 + i)) [.d (.str y)] (StT o folk bs) = some (.d .non, StT o folk (bs.set i (l ++ [y]))) := by
  have e := St_bx (o := o) (d := .dct (kS folk) (locs folk.length)) h
  constructor
  · unfold isLs lstAt
    simp only [show (StT o folk bs)[2 + i]? = some (bx l) from e]
  · unfold pAppend
    simp only [show (StT o folk bs)[2 + i]? = some (bx l) from e]
    rw [if_pos (by rw [List.length_map]; omega)]
    have : (l.map fun s => Dv.d (.str s)) ++ [Dv.d (.str y)] = (l ++ [y]).map fun s => Dv.d (.str s) := by rw [List.map_append]; rfl
    rw [this]
    show some (Dv.d Dt.non, (StT o folk bs).set (2 + i) (bx (l ++ [y]))) = _
    rw [setbx]
theorem Gd.put {c : Nat} {bs : List (List Str)} {i : Nat} {l : List Str} {y : Str} (g : Gd folk c bs) (h : bs[i]? = some l) (hy : y ∈ pool) : Gd folk (c + 1) (bs.set i (l ++ [y])) := fun m hm => by
  rcases List.mem_or_eq_of_mem_set hm with hm | rfl
  · exact ⟨Nat.le_succ_of_le (g m hm).1, (g m hm).2⟩
  · obtain ⟨a, b⟩ := g l (List.mem_of_getElem? h)
    refine ⟨by rw [List.length_append, List.length_singleton]; omega, fun x hx => ?_⟩
    rcases List.mem_append.mp hx with hx | hx
    · exact b x hx
    · rw [List.mem_singleton.mp hx]
      exact hy
theorem Gd.up {c d : Nat} {bs : List (List Str)} (g : Gd folk c bs) (h : c ≤ d) : Gd folk d bs := fun m hm => ⟨Nat.le_trans (g m hm).1 h, (g m hm).2⟩
theorem tAppA_ok {k : Nat} {x : Str} {o : Bo} {bs : List (List Str)} {c : Nat} (hk : k < folk.length) (nd : folk.Nodup) (hb : bs.length = folk.length) (g : Gd folk c bs) (hc : c < 1000) (hx : x ∈ pool) : ∃ bs', tAppA (eT P1 P2 P5 L n folk emp st wd (some (.d (.int (k : Int)))) z12 (some (.d (.str x))) z14) (StT o folk bs) = .nx (eT P1 P2 P5 L n folk emp st wd (some (.d (.int (k : Int)))) z12 (some (.d (.str x))) z14) (StT o folk bs') ∧ bs'.length = folk.length ∧ Gd folk (c + 1) bs' := by
  have hk' : k < bs.length := by omega
  have h := List.getElem?_eq_getElem hk'
  obtain ⟨a1, a2⟩ := app_ok (folk := folk) (o := o) (y := x) h (by have := (g _ (List.mem_of_getElem? h)).1; omega)
  have e4 : ∀ S, pIx (.d (.lst (folk.map .str))) (.d (.int (k : Int))) S = some (.d (.str folk[k]), S) := fun S => ix_strs (List.getElem?_eq_getElem hk)
  have e5 := St_ix (o := o) (bs := bs) nd (List.getElem?_eq_getElem hk)
  refine ⟨_, ?_, by rw [List.length_set]; exact hb, g.put h hx⟩
  unfold tAppA
  simp only [sDrop_s, mLm_s, m2_s, aCons_s, aNil_s, mV_s, List.getElem?_cons_zero, List.getElem?_cons_succ, bind_ok, Sm.lift_some, e4, e5, a1, if_true, a2, to_ok]
theorem tAppB_ok {k : Nat} {x : Str} {o : Bo} {bs : List (List Str)} {c : Nat} (hk : k < folk.length) (nd : folk.Nodup) (hb : bs.length = folk.length) (g : Gd folk c bs) (hc : c < 1000) (hx : x ∈ folk) (pf : ∀ x ∈ folk, x ∈ pool) : ∃ bs', tAppB (eT P1 P2 P5 L n folk emp st wd (some (.d (.int (k : Int)))) z12 (some (.d (.str x))) z14) (StT o folk bs) = .nx (eT P1 P2 P5 L n folk emp st wd (some (.d (.int (k : Int)))) z12 (some (.d (.str x))) z14) (StT o folk bs') ∧ bs'.length = folk.length ∧ Gd folk (c + 1) bs' := by
  obtain ⟨j, hj⟩ := List.mem_iff_getElem?.mp hx
  have hj' : j < bs.length := by
    rw [hb]
    exact (List.getElem?_eq_some_iff.mp hj).1
  have h := List.getElem?_eq_getElem hj'
  obtain ⟨a1, a2⟩ := app_ok (folk := folk) (o := o) (y := folk[k]) h (by have := (g _ (List.mem_of_getElem? h)).1; omega)
  have e4 : ∀ S, pIx (.d (.lst (folk.map .str))) (.d (.int (k : Int))) S = some (.d (.str folk[k]), S) := fun S => ix_strs (List.getElem?_eq_getElem hk)
  have e5 := St_ix (o := o) (bs := bs) nd hj
  refine ⟨_, ?_, by rw [List.length_set]; exact hb, g.put h (pf _ (List.getElem_mem hk))⟩
  unfold tAppB
  simp only [sDrop_s, mLm_s, m2_s, aCons_s, aNil_s, mV_s, List.getElem?_cons_zero, List.getElem?_cons_succ, bind_ok, Sm.lift_some, e4, e5, a1, if_true, a2, to_ok]
theorem cond_ok {x a b s c : Int} {ρ : Sm.Env} {S : Sto} {i j : Nat} (h1 : ρ[i]? = some (some (.d (.int x)))) (h2 : ρ[j]? = some (some (.d (.int s)))) : ∃ t, cOr (mTst (m2 pEq (mV i) (mC (.int a)))) (cAnd (mTst (m2 pEq (mV i) (mC (.int b)))) (mTst (m2 pGt (mV j) (mC (.int c))))) ρ S = .ok t S := by
  simp only [cOr_s, cAnd_s, mTst_s, m2_s, mV_s, mC_s, h1, h2, bind_ok, eq_i, gt_i, Sm.lift_some, toB_s, li_some]
  by_cases h : x = a
  · exact ⟨true, by simp [h]⟩
  · by_cases h' : x = b
    · exact ⟨_, by rw [if_neg (by simpa using h), if_pos (by simpa using h')]⟩
    · exact ⟨false, by rw [if_neg (by simpa using h), if_neg (by simpa using h')]⟩
theorem tB_ok {k : Nat} {x : Str} {o : Bo} {bs : List (List Str)} {c m : Nat} (hk : k < folk.length) (nd : folk.Nodup) (hb : bs.length = folk.length) (g : Gd folk c bs) (hc : c + 2 < 1000) (hx : x ∈ folk) (pf : ∀ x ∈ folk, x ∈ pool) (hw : 0 < wd) (hw2 : wd < 1000) (u : Urn o (1 + m)) :
    ∃ (bs' : List (List Str)) (o' : Bo) (z : Option Dv), tB (eT P1 P2 P5 L n folk emp st wd (some (.d (.int (k : Int)))) z12 (some (.d (.str x))) z14) (StT o folk bs) = .nx (eT P1 P2 P5 L n folk emp st wd (some (.d (.int (k : Int)))) z12 (some (.d (.str x))) z) (StT o' folk bs') ∧ bs'.length = folk.length ∧ Gd folk (c + 2) bs' ∧ Urn o' m := by
  obtain ⟨r, o', e, x0, x1, u'⟩ := take_ok (S := StT o folk bs) (n := 0) (m := m) (low := wd) rfl (u.less (by omega)) hw (by omega)
  have e' : F__law_take [.loc 0, .d (.int wd)] (StT o folk bs) = .ok (.d (.int r)) (StT o' folk bs) := e
  have s1 : sSet 14 (mF F__law_take (aCons (mV 0) (aCons (mV 10) (aNil)))) (eT P1 P2 P5 L n folk emp st wd (some (.d (.int (k : Int)))) z12 (some (.d (.str x))) z14) (StT o folk bs) = .nx (eT P1 P2 P5 L n folk emp st wd (some (.d (.int (k : Int)))) z12 (some (.d (.str x))) (some (.d (.int r)))) (StT o' folk bs) := by
    simp only [sSet_s, mF_s, aCons_s, aNil_s, mV_s, List.getElem?_cons_zero, List.getElem?_cons_succ, bind_ok, e', to_ok]
    rfl
  obtain ⟨t1, c1⟩ := cond_ok (x := r) (a := 0) (b := 1) (s := st) (c := 0) (S := StT o' folk bs) (ρ := eT P1 P2 P5 L n folk emp st wd (some (.d (.int (k : Int)))) z12 (some (.d (.str x))) (some (.d (.int r)))) (i := 14) (j := 9) rfl rfl
  have s2 : ∃ bs1, sIf (cOr (mTst (m2 pEq (mV 14) (mC (.int 0)))) (cAnd (mTst (m2 pEq (mV 14) (mC (.int 1)))) (mTst (m2 pGt (mV 9) (mC (.int 0)))))) tAppA (sNil) (eT P1 P2 P5 L n folk emp st wd (some (.d (.int (k : Int)))) z12 (some (.d (.str x))) (some (.d (.int r)))) (StT o' folk bs) = .nx (eT P1 P2 P5 L n folk emp st wd (some (.d (.int (k : Int)))) z12 (some (.d (.str x))) (some (.d (.int r)))) (StT o' folk bs1) ∧ bs1.length = folk.length ∧ Gd folk (c + 1) bs1 := by
    rw [sIf_s, c1, to_ok]
    cases t1
    · exact ⟨bs, rfl, hb, g.up (by omega)⟩
    · exact tAppA_ok hk nd hb g (by omega) (pf x hx)
  obtain ⟨bs1, e2, hb1, g1⟩ := s2
  obtain ⟨t2, c2⟩ := cond_ok (x := r) (a := 0) (b := 2) (s := st) (c := 0) (S := StT o' folk bs1) (ρ := eT P1 P2 P5 L n folk emp st wd (some (.d (.int (k : Int)))) z12 (some (.d (.str x))) (some (.d (.int r)))) (i := 14) (j := 9) rfl rfl
  have s3 : ∃ bs2, sIf (cOr (mTst (m2 pEq (mV 14) (mC (.int 0)))) (cAnd (mTst (m2 pEq (mV 14) (mC (.int 2)))) (mTst (m2 pGt (mV 9) (mC (.int 0)))))) tAppB (sNil) (eT P1 P2 P5 L n folk emp st wd (some (.d (.int (k : Int)))) z12 (some (.d (.str x))) (some (.d (.int r)))) (StT o' folk bs1) = .nx (eT P1 P2 P5 L n folk emp st wd (some (.d (.int (k : Int)))) z12 (some (.d (.str x))) (some (.d (.int r)))) (StT o' folk bs2) ∧ bs2.length = folk.length ∧ Gd folk (c + 2) bs2 := by
    rw [sIf_s, c2, to_ok]
    cases t2
    · exact ⟨bs1, rfl, hb1, g1.up (by omega)⟩
    · exact tAppB_ok hk nd hb1 g1 (by omega) hx pf
  obtain ⟨bs2, e3, hb2, g2⟩ := s3
  refine ⟨bs2, o', some (.d (.int r)), ?_, hb2, g2, u'⟩
  unfold tB
  rw [sSeq_s, s1, sqz_nx, sSeq_s, e2, sqz_nx, e3]
theorem tB_loop {k : Nat} (hk : k < folk.length) (nd : folk.Nodup) (pf : ∀ x ∈ folk, x ∈ pool) (hw : 0 < wd) (hw2 : wd < 1000) : ∀ (fs : List Str) (bs : List (List Str)) (o : Bo) (c m : Nat) (z13 z14 : Option Dv), (∀ x ∈ fs, x ∈ folk) → bs.length = folk.length → Gd folk c bs → c + 2 * fs.length < 1000 → Urn o (fs.length + m) →
    ∃ (bs' : List (List Str)) (o' : Bo) (z13' z14' : Option Dv), forL (gN 13) tB (fs.map .str) (eT P1 P2 P5 L n folk emp st wd (some (.d (.int (k : Int)))) z12 z13 z14) (StT o folk bs) = .nx (eT P1 P2 P5 L n folk emp st wd (some (.d (.int (k : Int)))) z12 z13' z14') (StT o' folk bs') ∧ bs'.length = folk.length ∧ Gd folk (c + 2 * fs.length) bs' ∧ Urn o' m
  | [], bs, o, c, m, z13, z14, hf, hb, g, hc, u => ⟨bs, o, z13, z14, rfl, hb, g, u.less (by simp)⟩
  | x :: fs, bs, o, c, m, z13, z14, hf, hb, g, hc, u => by
    rw [List.length_cons] at hc u
    obtain ⟨bs1, o1, z, e1, hb1, g1, u1⟩ := tB_ok (P1 := P1) (P2 := P2) (P5 := P5) (L := L) (n := n) (emp := emp) (st := st) (z12 := z12) (z14 := z14) (x := x) (m := fs.length + m) hk nd hb g (by omega) (hf x List.mem_cons_self) pf hw hw2 (u.less (by omega))
    obtain ⟨bs2, o2, a, b, e2, hb2, g2, u2⟩ := tB_loop hk nd pf hw hw2 fs bs1 o1 (c + 2) m (some (.d (.str x))) z (fun y hy => hf y (List.mem_cons_of_mem _ hy)) hb1 g1 (by omega) u1
    refine ⟨bs2, o2, a, b, ?_, hb2, g2.up (by rw [List.length_cons]; omega), u2⟩
    rw [List.map_cons, forL_nx (ρ1 := eT P1 P2 P5 L n folk emp st wd (some (.d (.int (k : Int)))) z12 (some (.d (.str x))) z14) rfl e1]
    exact e2
def tC : SM := sFor (iSeq (mSl pSl (mV 6) (oPt (m2 pAdd (mV 11) (mC (.int 1)))) (oNo))) (gN 13) tB
theorem tC_ok {k : Nat} {o : Bo} {bs : List (List Str)} {c m : Nat} (hz : folk.length ≤ 20) (hk : k < folk.length) (nd : folk.Nodup) (pf : ∀ x ∈ folk, x ∈ pool) (hw : 0 < wd) (hw2 : wd < 1000) (hb : bs.length = folk.length) (g : Gd folk c bs) (hc : c + 40 < 1000) (u : Urn o (20 + m)) :
    ∃ (bs' : List (List Str)) (o' : Bo) (z13' z14' : Option Dv), tC (eT P1 P2 P5 L n folk emp st wd (some (.d (.int (k : Int)))) z12 z13 z14) (StT o folk bs) = .nx (eT P1 P2 P5 L n folk emp st wd (some (.d (.int (k : Int)))) z12 z13' z14') (StT o' folk bs') ∧ bs'.length = folk.length ∧ Gd folk (c + 40) bs' ∧ Urn o' m := by
  have hl : (folk.drop (k + 1)).length ≤ 20 := by
    rw [List.length_drop]
    omega
  obtain ⟨bs2, o2, a, b, e2, hb2, g2, u2⟩ := tB_loop (P1 := P1) (P2 := P2) (P5 := P5) (L := L) (n := n) (emp := emp) (st := st) (z12 := z12) hk nd pf hw hw2 (folk.drop (k + 1)) bs o c m z13 z14 (fun y hy => List.mem_of_mem_drop hy) hb g (by omega) (u.less (by omega))
  refine ⟨bs2, o2, a, b, ?_, hb2, g2.up (by omega), u2⟩
  have e1 : ∀ S, pSl (some ((k : Int) + 1)) none (.d (.lst (folk.map .str))) S = some (.d (.lst ((folk.drop (k + 1)).map .str)), S) := fun S => by
    rw [sl_l, cut_map, show ((k : Int) + 1) = ((k + 1 : Nat) : Int) from rfl, cut_from]
  unfold tC
  rw [sFor_s]
  simp only [iSeq_s, mSl_s, oPt_s, oNo_s, m2_s, mV_s, mC_s, List.getElem?_cons_zero, List.getElem?_cons_succ, bind_ok, Sm.lift_some, add_i, e1]
  show (Rz.ok ((folk.drop (k + 1)).map Dt.str) (StT o folk bs)).to _ _ = _
  rw [to_ok]
  exact e2
theorem tC_loop (hz : folk.length ≤ 20) (nd : folk.Nodup) (pf : ∀ x ∈ folk, x ∈ pool) (hw : 0 < wd) (hw2 : wd < 1000) : ∀ (q k : Nat) (bs : List (List Str)) (o : Bo) (c m : Nat) (z11 z13 z14 : Option Dv), k + q = folk.length → bs.length = folk.length → Gd folk c bs → c + 40 * q < 1000 → Urn o (q * 20 + m) →
    ∃ (bs' : List (List Str)) (o' : Bo) (z11' z13' z14' : Option Dv), forL (gN 11) tC ((List.range' k q).map fun (i : Nat) => Dt.int (i : Int)) (eT P1 P2 P5 L n folk emp st wd z11 z12 z13 z14) (StT o folk bs) = .nx (eT P1 P2 P5 L n folk emp st wd z11' z12 z13' z14') (StT o' folk bs') ∧ bs'.length = folk.length ∧ Gd folk 1000 bs' ∧ Urn o' m
  | 0, k, bs, o, c, m, z11, z13, z14, hq, hb, g, hc, u => ⟨bs, o, z11, z13, z14, rfl, hb, g.up (by omega), u.less (by omega)⟩
  | q + 1, k, bs, o, c, m, z11, z13, z14, hq, hb, g, hc, u => by
    obtain ⟨bs1, o1, a, b, e1, hb1, g1, u1⟩ := tC_ok (P1 := P1) (P2 := P2) (P5 := P5) (L := L) (n := n) (emp := emp) (st := st) (z12 := z12) (z13 := z13) (z14 := z14) (k := k) (m := q * 20 + m) hz (by omega) nd pf hw hw2 hb g (by omega) (u.less (by omega))
    obtain ⟨bs2, o2, a2, b2, d2, e2, hb2, g2, u2⟩ := tC_loop hz nd pf hw hw2 q (k + 1) bs1 o1 (c + 40) m (some (.d (.int (k : Int)))) a b (by omega) hb1 g1 (by omega) u1
    refine ⟨bs2, o2, a2, b2, d2, ?_, hb2, g2, u2⟩
    rw [List.range'_succ, List.map_cons, forL_nx (ρ1 := eT P1 P2 P5 L n folk emp st wd (some (.d (.int (k : Int)))) z12 z13 z14) rfl e1]
    exact e2
end
end Hn
namespace Hn
open PySem PySem.Spec PyProof.Rows L2 Sm
def ws (s : Str) (l : List Str) : List Str := sortS (ddS (l.filter fun x => !decide (x = s)))
def tFil : M Dv := mN pLst (mLcI [16] (iSeq (mFrz (m2 pIx (mV 8) (mV 17)))) (gN 16) (mTst (m2 pNe (mV 16) (mV 17))) (mV 16))
def tRow : M Dv := mN pTup (aCons (mV 17) (aCons (mN pTuple (aCons (m1 pSortSet tFil) (aNil))) (aNil)))
abbrev eR (P1 P2 P5 : Dt) (L : List Str) (n : Nat) (folk emp : List Str) (st wd : Int) (z11 z12 z13 z14 z16 z17 : Option Dv) : Sm.Env :=
  [some (.loc 0), some (.d P1), some (.d P2), some (.d (.lst (L.map .str))), some (.d (.int (n : Int))), some (.d P5), some (.d (.lst (folk.map .str))), some (.d (.lst (emp.map .str))), some (.loc 1), some (.d (.int st)), some (.d (.int wd)), z11, z12, z13, z14, none, z16, z17]
structure Kept (folk : List Str) (bs : List (List Str)) (o : Bo) (k : Nat) (S : Sto) : Prop where
  o0 : S[0]? = some o
  o1 : S[1]? = some (.dct (kS folk) (locs folk.length))
  bx : ∀ (j : Nat) (l : List Str), k ≤ j → bs[j]? = some l → S[2 + j]? = some (bx l)
section
variable {P1 P2 P5 : Dt} {L : List Str} {n : Nat} {folk emp : List Str} {st wd : Int} {z11 z12 z13 z14 z16 z17 : Option Dv}
theorem fil_loop {s : Str} (hs : s ∈ pool) : ∀ (l : List Str), (∀ x ∈ l, x ∈ pool) → ∀ S : Sto, lcL (gN 16) (mTst (m2 pNe (mV 16) (mV 17))) (mV 16) (eR P1 P2 P5 L n folk emp st wd z11 z12 z13 z14 none (some (.d (.str s)))) (l.map .str) S = .ok (((l.filter fun x => !decide (x = s)).map .str).map .d) S
  | [], _, S => rfl
  | x :: l, h, S => by
    have ih := fil_loop hs l (fun y hy => h y (List.mem_cons_of_mem _ hy)) S
    have hne : pNe (.d (.str x)) (.d (.str s)) S = some (.d (.bl (!decide (x = s))), S) := ne_s (pool_ok x (h x List.mem_cons_self)) (pool_ok s hs)
    have hc : mTst (m2 pNe (mV 16) (mV 17)) (eR P1 P2 P5 L n folk emp st wd z11 z12 z13 z14 (some (.d (.str x))) (some (.d (.str s)))) S = .ok (!decide (x = s)) S := by
      simp only [mTst_s, m2_s, mV_s, List.getElem?_cons_zero, List.getElem?_cons_succ, bind_ok, hne, Sm.lift_some, toB_s, li_some]
    by_cases e : x = s
    · rw [List.map_cons, lc_no (ρ1 := eR P1 P2 P5 L n folk emp st wd z11 z12 z13 z14 (some (.d (.str x))) (some (.d (.str s)))) rfl (by rw [hc]; simp [e]) ih]
      simp [e]
    · rw [List.map_cons, lc_yes (ρ1 := eR P1 P2 P5 L n folk emp st wd z11 z12 z13 z14 (some (.d (.str x))) (some (.d (.str s)))) rfl (by rw [hc]; simp [e]) (show mV 16 _ S = .ok (.d (.str x)) S from rfl) ih]
      simp [e]
theorem pures_bx (l : List Str) : pures (l.map fun s => Dv.d (.str s)) = some (l.map .str) := by
  have : (l.map fun s => Dv.d (.str s)) = (l.map Dt.str).map Dv.d := by
    rw [List.map_map]
    rfl
  rw [this, pures_d]
theorem row_ok {o : Bo} {bs : List (List Str)} {k : Nat} {S : Sto} {s : Str} {l : List Str} (K : Kept folk bs o k S) (nd : folk.Nodup) (hs : folk[k]? = some s) (hb : bs[k]? = some l) (pf : ∀ x ∈ folk, x ∈ pool) (g : Gd folk 1000 bs) :
    tRow (eR P1 P2 P5 L n folk emp st wd z11 z12 z13 z14 z16 (some (.d (.str s)))) S = .ok (.d (row (s, ws s l))) (S.set (2 + k) .dead) := by
  obtain ⟨g1, g2⟩ := g l (List.mem_of_getElem? hb)
  have hsp := pf s (List.mem_of_getElem? hs)
  have e1 : pIx (.loc 1) (.d (.str s)) S = some (.loc (2 + k), S) := by
    have := dlook_at (f := Dv.loc) (a := 2) nd hs
    unfold pIx
    have d : dctAt S (.loc 1) = some (kS folk, locs folk.length) := by
      unfold dctAt
      simp only [K.o1]
    rw [d]
    show (match dlook (kS folk) (locs folk.length) (.inr s) with
      | some x => some (x, S)
      | none => none) = _
    rw [this]
  have e2 : frz (.loc (2 + k)) S = some (.d (.lst (l.map .str)), S.set (2 + k) .dead) := by
    unfold frz
    simp only [K.bx k l (Nat.le_refl _) hb, pures_bx]
  have it : iSeq (mFrz (m2 pIx (mV 8) (mV 17))) (eR P1 P2 P5 L n folk emp st wd z11 z12 z13 z14 z16 (some (.d (.str s)))) S = .ok (l.map .str) (S.set (2 + k) .dead) := by
    simp only [iSeq_s, mFrz_s, m2_s, mV_s, List.getElem?_cons_zero, List.getElem?_cons_succ, bind_ok, e1, e2, Sm.lift_some]
    rfl
  have lc := fil_loop (P1 := P1) (P2 := P2) (P5 := P5) (L := L) (n := n) (folk := folk) (emp := emp) (st := st) (wd := wd) (z11 := z11) (z12 := z12) (z13 := z13) (z14 := z14) hsp l g2 (S.set (2 + k) .dead)
  have hfl : (l.filter fun x => !decide (x = s)).length ≤ 1000 := Nat.le_trans (List.length_filter_le _ _) g1
  have lc2 : mLcI [16] (iSeq (mFrz (m2 pIx (mV 8) (mV 17)))) (gN 16) (mTst (m2 pNe (mV 16) (mV 17))) (mV 16) (eR P1 P2 P5 L n folk emp st wd z11 z12 z13 z14 z16 (some (.d (.str s)))) S = .ok (((l.filter fun x => !decide (x = s)).map .str).map .d) (S.set (2 + k) .dead) :=
    mLcI_ok it (by rw [List.length_map]; omega) lc
  have e3 : pLst (((l.filter fun x => !decide (x = s)).map Dt.str).map .d) (S.set (2 + k) .dead) = some (.d (.lst ((l.filter fun x => !decide (x = s)).map .str)), S.set (2 + k) .dead) := pLst_d (by rw [List.length_map]; omega)
  have e4 : pSortSet (.d (.lst ((l.filter fun x => !decide (x = s)).map .str))) (S.set (2 + k) .dead) = some (.d (.lst ((ws s l).map .str)), S.set (2 + k) .dead) := by
    unfold pSortSet
    have : (itemsOf (S.set (2 + k) .dead) (.d (.lst ((l.filter fun x => !decide (x = s)).map .str)))).bind strsOf = some (l.filter fun x => !decide (x = s)) := by
      unfold itemsOf
      simp only [dctAt, seqAt, lstAt, pures_d, Option.bind_some, strsOf_map]
    rw [this]
    exact if_pos (by omega)
  have e5 : pTup [.d (.str s), .d (.tup ((ws s l).map .str))] (S.set (2 + k) .dead) = some (.d (row (s, ws s l)), S.set (2 + k) .dead) := rfl
  unfold tRow tFil
  simp only [mN_s, aCons_s, m1_s, mV_s, aNil_s, List.getElem?_cons_zero, List.getElem?_cons_succ, bind_ok, lc2, e3, e4, pTuple_lst, e5, Sm.lift_some]
theorem Kept.next {o : Bo} {bs : List (List Str)} {k : Nat} {S : Sto} (K : Kept folk bs o k S) : Kept folk bs o (k + 1) (S.set (2 + k) .dead) := by
  refine ⟨?_, ?_, fun j l hj hl => ?_⟩
  · rw [List.getElem?_set_ne (by omega)]
    exact K.o0
  · rw [List.getElem?_set_ne (by omega)]
    exact K.o1
  · rw [List.getElem?_set_ne (by omega)]
    exact K.bx j l (by omega) hl
theorem rows_loop2 {o : Bo} {bs : List (List Str)} (nd : folk.Nodup) (hb : bs.length = folk.length) (pf : ∀ x ∈ folk, x ∈ pool) (g : Gd folk 1000 bs) : ∀ (q k : Nat) (S : Sto), k + q = folk.length → Kept folk bs o k S →
    ∃ S', lcL (gN 17) cYes tRow (eR P1 P2 P5 L n folk emp st wd z11 z12 z13 z14 z16 none) ((folk.drop k).map .str) S = .ok (((((folk.zip bs).drop k).map fun p => (p.1, ws p.1 p.2)).map row).map .d) S' ∧ S'[0]? = some o
  | 0, k, S, hq, K => by
    refine ⟨S, ?_, K.o0⟩
    rw [List.drop_eq_nil_of_le (by omega), List.drop_eq_nil_of_le (by rw [List.length_zip]; omega)]
    rfl
  | q + 1, k, S, hq, K => by
    have hk : k < folk.length := by omega
    have hk2 : k < bs.length := by omega
    have hs := List.getElem?_eq_getElem hk
    have hl := List.getElem?_eq_getElem hk2
    obtain ⟨S', e, h⟩ := rows_loop2 nd hb pf g q (k + 1) (S.set (2 + k) .dead) (by omega) K.next
    refine ⟨S', ?_, h⟩
    have hz : k < (folk.zip bs).length := by
      rw [List.length_zip]
      omega
    rw [List.drop_eq_getElem_cons hk, List.drop_eq_getElem_cons hz]
    have hzk : (folk.zip bs)[k] = (folk[k], bs[k]) := List.getElem_zip
    rw [hzk, List.map_cons, List.map_cons, List.map_cons, List.map_cons]
    exact lc_yes (ρ1 := eR P1 P2 P5 L n folk emp st wd z11 z12 z13 z14 z16 (some (.d (.str folk[k])))) rfl rfl (row_ok (z16 := z16) K nd hs hl pf g) e
end
def Asc (l : List Str) : Prop := l.Pairwise fun a b => ltS a b = true
theorem Asc.nodup {l : List Str} (h : Asc l) : l.Nodup := List.Pairwise.imp (fun {a b} h e => by
  subst e
  have := of_decide_eq_true h
  exact List.lt_irrefl _ this) h
theorem asc_of {l : List Str} (h : l.Pairwise fun a b => leS a b = true) (nd : l.Nodup) : Asc l := by
  refine List.Pairwise.imp₂ (fun {a b} h1 h2 => ?_) h nd
  by_cases hl : a.cps.toList < b.cps.toList
  · exact decide_eq_true hl
  · exfalso
    have : leS b a = true := by
      unfold leS
      simp [hl]
    exact h2 (leS_anti h1 this)
theorem asc_sort {l : List Str} (nd : l.Nodup) : Asc (sortS l) := asc_of (sortS_sorted l) ((sortS_perm l).nodup_iff.mpr nd)
theorem leT_rows {a b : Str × List Str} (h : a.1 = b.1 → a = b) : leT (row a) (row b) = leS a.1 b.1 := by
  by_cases e : a.1 = b.1
  · have := h e
    subst this
    show (!PySem.W.dataLt (encT (row a)) (encT (row a))) = _
    rw [show PySem.W.dataLt (encT (row a)) (encT (row a)) = false from lex_irrefl _, leS_refl]
    rfl
  · show (!PySem.W.dataLt (encT (row b)) (encT (row a))) = _
    rw [enc_row, enc_row, PySem.W.dataLt_pair (by simp only [PySem.W.alike]) (by simp only [PySem.W.alike, alikeAll_strs]), eqv_strs, decide_eq_false (fun z => e z.symm), if_neg (by decide), PySem.W.dataLt_str]
    rfl
theorem sorted_rows {l : List (Str × List Str)} (h : l.length ≤ 1000) (nd : (l.map (·.1)).Nodup) (S : Sto) : ∃ m : List (Str × List Str), pSorted [.d (.lst (l.map row))] S = some (.d (.lst (m.map row)), S) ∧ m.Perm l ∧ Asc (m.map (·.1)) := by
  have inj : ∀ a ∈ l, ∀ b ∈ l, a.1 = b.1 → a = b := fun a ha b hb e => by
    obtain ⟨i, hi⟩ := List.mem_iff_getElem?.mp ha
    obtain ⟨j, hj⟩ := List.mem_iff_getElem?.mp hb
    have hil := (List.getElem?_eq_some_iff.mp hi).1
    have ei : (l.map (·.1))[i]? = some a.1 := by rw [List.getElem?_map, hi]; rfl
    have ej : (l.map (·.1))[j]? = some b.1 := by rw [List.getElem?_map, hj]; rfl
    have := (List.getElem?_inj (by rw [List.length_map]; exact hil) nd).mp (ei.trans (by rw [ej, e]))
    subst this
    rw [hi] at hj
    exact Option.some.inj hj
  have p : (l.mergeSort fun a b => leS a.1 b.1).Perm l := List.mergeSort_perm _ _
  refine ⟨l.mergeSort fun a b => leS a.1 b.1, ?_, p, ?_⟩
  · unfold pSorted
    simp only [seqT_lst]
    rw [if_pos (sortChk_rows h), isort_leT]
    rw [List.map_mergeSort (f := row) (r := fun a b => leS a.1 b.1) (s := leT) fun a ha b hb => (leT_rows (inj a ha b hb)).symm]
  · refine asc_of ?_ ((p.map _).nodup_iff.mpr nd)
    rw [List.pairwise_map]
    exact List.pairwise_mergeSort (le := fun a b => leS a.1 b.1) (fun a b c h h2 => leS_trans (a := a.1) (b := b.1) (c := c.1) h h2) (fun a b => leS_total a.1 b.1) l
end Hn
namespace Hn
open PySem PySem.Spec PyProof.Rows L2 Sm
structure Tome (t : Dt) (rows : List (Str × List Str)) (emps : List Str) (most free : Nat) : Prop where
  eq : t = .tup [.tup (rows.map row), .tup (emps.map .str)]
  pn : ∀ e ∈ rows, e.1 ∈ pool
  pw : ∀ e ∈ rows, ∀ x ∈ e.2, x ∈ pool ∧ x ≠ e.1
  sw : ∀ e ∈ rows, Asc e.2
  sn : Asc (rows.map (·.1))
  se : Asc emps
  pe : ∀ x ∈ emps, x ∈ pool
  nd : (rows.map (·.1) ++ emps).Nodup
  z0 : 0 < rows.length
  z1 : rows.length ≤ most
  z2 : emps.length ≤ free
abbrev e3 (P1 P2 : Dt) (z3 z4 z5 z6 z7 z8 z9 z10 : Option Dv) : Sm.Env := [some (.loc 0), some (.d P1), some (.d P2), z3, z4, z5, z6, z7, z8, z9, z10, none, none, none, none, none, none, none]
def tS1 : SM := sSet 3 (mN pLst (aCons (mC (.str ("a" : Str))) (aCons (mC (.str ("ann" : Str))) (aCons (mC (.str ("bob" : Str))) (aCons (mC (.str ("cat" : Str))) (aCons (mC (.str ("dan" : Str))) (aCons (mC (.str ("eve" : Str))) (aCons (mC (.str ("fay" : Str))) (aCons (mC (.str ("new" : Str))) (aCons (mC (.str ("old" : Str))) (aCons (mC (.str ("x" : Str))) (aCons (mC (.str ("zzzzzzzz" : Str))) (aNil)))))))))))))
def tS2 : SM := sPars [4, 5] (aCons (m2 pAdd (mC (.int 1)) (mF F__law_take (aCons (mV 0) (aCons (mV 1) (aNil))))) (aCons (mF F__law_take (aCons (mV 0) (aCons (m2 pAdd (mV 2) (mC (.int 1))) (aNil)))) (aNil)))
def tS3 : SM := sSet 3 (mN pList (aCons (mF F__law_mixed (aCons (mV 0) (aCons (mV 3) (aNil)))) (aNil)))
def tS4 : SM := sPars [6, 7] (aCons (mSl pSl (mV 3) (oNo) (oPt (mV 4))) (aCons (mSl pSl (mV 3) (oPt (mV 4)) (oPt (m2 pAdd (mV 4) (mV 5)))) (aNil)))
def tS5 : SM := sPars [8, 9, 10] (aCons (mDnew) (aCons (mF F__law_take (aCons (mV 0) (aCons (mC (.int 4)) (aNil)))) (aCons (m2 pAdd (mC (.int 3)) (mF F__law_take (aCons (mV 0) (aCons (mC (.int 4)) (aNil))))) (aNil))))
def tS6 : SM := sFor (iRg rg1 (aCons (mV 4) (aNil))) (gN 11) tA
def tS7 : SM := sFor (iRg rg1 (aCons (mV 4) (aNil))) (gN 11) tC
def tS8 : SM := sSet 15 (mN pLst (mLcI [17] (iSeq (mV 6)) (gN 17) (cYes) tRow))
def tS9 : SM := sRet (mN pTup (aCons (mN pTuple (aCons (mN pSorted (aCons (mV 15) (aNil))) (aNil))) (aCons (mN pTuple (aCons (mN pSorted (aCons (mV 7) (aNil))) (aNil))) (aNil))))
theorem tome_is : b__law_tome = sSeq tS1 (sSeq tS2 (sSeq tS3 (sSeq tS4 (sSeq tS5 (sSeq tS6 (sSeq tS7 (sSeq tS8 tS9))))))) := rfl
theorem tS1_ok {P1 P2 : Dt} {S : Sto} : tS1 (e3 P1 P2 none none none none none none none none) S = .nx (e3 P1 P2 (some (.d (.lst (pool.map .str)))) none none none none none none none) S := rfl
theorem tS2_ok {a b : Int} {z3 : Option Dv} {o : Bo} {m : Nat} (ha : 0 < a) (ha2 : a < 1000) (hb : 0 ≤ b) (hb2 : b < 1000) (u : Urn o (2 + m)) : ∃ (n e : Nat) (o' : Bo), tS2 (e3 (.int a) (.int b) z3 none none none none none none none) [o] = .nx (e3 (.int a) (.int b) z3 (some (.d (.int (n : Int)))) (some (.d (.int (e : Int)))) none none none none none) [o'] ∧ 0 < n ∧ (n : Int) ≤ a ∧ (e : Int) ≤ b ∧ Urn o' m := by
  obtain ⟨r, o1, e1, r0, r1, u1⟩ := take_ok (S := [o]) (n := 0) (m := 1 + m) (low := a) rfl (u.less (by omega)) ha (by omega)
  obtain ⟨q, o2, e2, q0, q1, u2⟩ := take_ok (S := [o1]) (n := 0) (m := m) (low := b + 1) rfl (u1.less (by omega)) (by omega) (by omega)
  have e1' : F__law_take [.loc 0, .d (.int a)] [o] = .ok (.d (.int r)) [o1] := e1
  have e2' : F__law_take [.loc 0, .d (.int (b + 1))] [o1] = .ok (.d (.int q)) [o2] := e2
  refine ⟨(1 + r).toNat, q.toNat, o2, ?_, by omega, by omega, by omega, u2⟩
  rw [show (((1 + r).toNat : Nat) : Int) = 1 + r by omega, show ((q.toNat : Nat) : Int) = q by omega]
  unfold tS2
  simp only [sPars_s, mF_s, m2_s, aCons_s, aNil_s, mV_s, mC_s, List.getElem?_cons_zero, List.getElem?_cons_succ, bind_ok, e1', e2', add_i, Sm.lift_some, to_ok]
  rfl
theorem tS3_ok {P1 P2 : Dt} {z4 z5 : Option Dv} {o : Bo} {m : Nat} (u : Urn o (11 + m)) : ∃ (L : List Str) (o' : Bo), tS3 (e3 P1 P2 (some (.d (.lst (pool.map .str)))) z4 z5 none none none none none) [o] = .nx (e3 P1 P2 (some (.d (.lst (L.map .str)))) z4 z5 none none none none none) [o'] ∧ L.Perm pool ∧ Urn o' m := by
  obtain ⟨r, o', e, hp, u'⟩ := mixed_ok (S := [o]) (n := 0) (m := m) (L := pool.map .str) (by decide) rfl u
  obtain ⟨L, rfl, hL⟩ := perm_strs hp
  have e' : F__law_mixed [.loc 0, .d (.lst (pool.map .str))] [o] = .ok (.d (.tup (L.map .str))) [o'] := e
  refine ⟨L, o', ?_, hL, u'⟩
  unfold tS3
  simp only [sSet_s, mF_s, mN_s, aCons_s, aNil_s, mV_s, List.getElem?_cons_zero, List.getElem?_cons_succ, bind_ok, e', pList_t, Sm.lift_some, to_ok]
  rfl
theorem tS4_ok {P1 P2 : Dt} {L : List Str} {n e : Nat} (h : n + e ≤ L.length) {S : Sto} : tS4 (e3 P1 P2 (some (.d (.lst (L.map .str)))) (some (.d (.int (n : Int)))) (some (.d (.int (e : Int)))) none none none none none) S = .nx (e3 P1 P2 (some (.d (.lst (L.map .str)))) (some (.d (.int (n : Int)))) (some (.d (.int (e : Int)))) (some (.d (.lst ((L.take n).map .str)))) (some (.d (.lst (((L.drop n).take e).map .str)))) none none none) S := by
  have h1 : pSl none (some (n : Int)) (.d (.lst (L.map .str))) S = some (.d (.lst ((L.take n).map .str)), S) := by
    rw [sl_l, cut_map, cut_to]
  have h2 : pSl (some (n : Int)) (some ((n : Int) + (e : Int))) (.d (.lst (L.map .str))) S = some (.d (.lst (((L.drop n).take e).map .str)), S) := by
    rw [sl_l, cut_map, cut_mid h]
  unfold tS4
  simp only [sPars_s, m2_s, mSl_s, oPt_s, oNo_s, aCons_s, aNil_s, mV_s, List.getElem?_cons_zero, List.getElem?_cons_succ, bind_ok, h1, h2, add_i, Sm.lift_some, to_ok]
  rfl
theorem tS5_ok {P1 P2 : Dt} {z3 z4 z5 z6 z7 : Option Dv} {o : Bo} {m : Nat} (u : Urn o (2 + m)) : ∃ (st wd : Int) (o' : Bo), tS5 (e3 P1 P2 z3 z4 z5 z6 z7 none none none) [o] = .nx (e3 P1 P2 z3 z4 z5 z6 z7 (some (.loc 1)) (some (.d (.int st))) (some (.d (.int wd)))) [o', .dct [] []] ∧ 0 < wd ∧ wd < 1000 ∧ Urn o' m := by
  obtain ⟨r, o1, e1, r0, r1, u1⟩ := take_ok (S := [o, .dct [] []]) (n := 0) (m := 1 + m) (low := 4) rfl (u.less (by omega)) (by omega) (by omega)
  obtain ⟨q, o2, e2, q0, q1, u2⟩ := take_ok (S := [o1, .dct [] []]) (n := 0) (m := m) (low := 4) rfl (u1.less (by omega)) (by omega) (by omega)
  have e1' : F__law_take [.loc 0, .d (.int 4)] [o, .dct [] []] = .ok (.d (.int r)) [o1, .dct [] []] := e1
  have e2' : F__law_take [.loc 0, .d (.int 4)] [o1, .dct [] []] = .ok (.d (.int q)) [o2, .dct [] []] := e2
  refine ⟨r, 3 + q, o2, ?_, by omega, by omega, u2⟩
  have hn : mDnew (e3 P1 P2 z3 z4 z5 z6 z7 none none none) [o] = .ok (.loc 1) [o, .dct [] []] := rfl
  unfold tS5
  rw [sPars_s, aCons_s, hn, bind_ok]
  simp only [mF_s, m2_s, aCons_s, aNil_s, mV_s, mC_s, List.getElem?_cons_zero, List.getElem?_cons_succ, bind_ok, e1', e2', add_i, Sm.lift_some, to_ok]
  rfl
theorem it_n {P1 P2 P5 : Dt} {L : List Str} {n : Nat} {folk emp : List Str} {st wd : Int} {z11 z12 z13 z14 : Option Dv} {S : Sto} (h : n < 1000) : iRg rg1 (aCons (mV 4) (aNil)) (eT P1 P2 P5 L n folk emp st wd z11 z12 z13 z14) S = .ok ((List.range' 0 n).map fun (i : Nat) => Dt.int (i : Int)) S := by
  rw [← rgL0]
  exact iRg_ok (ds := [.d (.int (n : Int))]) (by simp only [aCons_s, mV_s, aNil_s, List.getElem?_cons_zero, List.getElem?_cons_succ, bind_ok]) (q_rg h)
theorem tome_raw {a b : Nat} {o : Bo} {m : Nat} (ha : 0 < a) (hab : a + b ≤ 11) (u : Urn o (400 + m)) :
    ∃ (t : Dt) (rows : List (Str × List Str)) (emps : List Str) (o' : Bo) (rest : Sto), R__law_tome [.loc 0, .d (.int (a : Int)), .d (.int (b : Int))] [o] = .ok (.d t) (o' :: rest) ∧ Tome t rows emps a b ∧ Urn o' m := by
  obtain ⟨n, e, o2, h2, n0, na, eb, u2⟩ := tS2_ok (a := (a : Int)) (b := (b : Int)) (z3 := some (.d (.lst (pool.map .str)))) (o := o) (m := 398 + m) (by omega) (by omega) (by omega) (by omega) (u.less (by omega))
  obtain ⟨L, o3, h3, hL, u3⟩ := tS3_ok (P1 := .int (a : Int)) (P2 := .int (b : Int)) (z4 := some (.d (.int (n : Int)))) (z5 := some (.d (.int (e : Int)))) (m := 387 + m) (u2.less (by omega))
  have hl : L.length = 11 := hL.length_eq
  have h4 := tS4_ok (P1 := .int (a : Int)) (P2 := .int (b : Int)) (L := L) (n := n) (e := e) (by omega) (S := [o3])
  obtain ⟨st, wd, o5, h5, w0, w1, u5⟩ := tS5_ok (P1 := .int (a : Int)) (P2 := .int (b : Int)) (z3 := some (.d (.lst (L.map .str)))) (z4 := some (.d (.int (n : Int)))) (z5 := some (.d (.int (e : Int)))) (z6 := some (.d (.lst ((L.take n).map .str)))) (z7 := some (.d (.lst (((L.drop n).take e).map .str)))) (o := o3) (m := 385 + m) (u3.less (by omega))
  have hsub : (L.take n ++ (L.drop n).take e).Sublist L := by
    have := (List.Sublist.refl (L.take n)).append (List.take_sublist e (L.drop n))
    rw [List.take_append_drop] at this
    exact this
  have ndL : L.Nodup := hL.nodup_iff.mpr (by decide +kernel)
  have nda := hsub.nodup ndL
  generalize hfo : L.take n = folk at *
  generalize hem : (L.drop n).take e = emp at *
  have ndf := (List.nodup_append.mp nda).1
  have nde := (List.nodup_append.mp nda).2.1
  have hn : n = folk.length := by
    rw [← hfo, List.length_take]
    omega
  have he : emp.length = e := by
    rw [← hem, List.length_take, List.length_drop]
    omega
  have pl : ∀ x ∈ L, x ∈ pool := fun x hx => hL.mem_iff.mp hx
  have pf : ∀ x ∈ folk, x ∈ pool := fun x hx => pl x (hsub.subset (List.mem_append_left _ hx))
  have pe : ∀ x ∈ emp, x ∈ pool := fun x hx => pl x (hsub.subset (List.mem_append_right _ hx))
  have hq : n * (emp.length + 1) + (n * 20 + m) ≤ 385 + m := by
    have h1 : n * (emp.length + 1) ≤ 11 * 12 := Nat.mul_le_mul (by omega) (by omega)
    omega
  obtain ⟨bs, o6, z11, z12, h6, hb6, g6, u6⟩ := tA_loop (P1 := .int (a : Int)) (P2 := .int (b : Int)) (P5 := .int (e : Int)) (L := L) (st := st) (wd := wd) (z13 := none) (z14 := none) hn (by omega) ndf (by omega) (by omega) pf pe pl n 0 [] o5 (n * 20 + m) none none (by omega) rfl (fun l hl => absurd hl List.not_mem_nil) (u5.less hq)
  obtain ⟨bs7, o7, y11, y13, y14, h7, hb7, g7, u7⟩ := tC_loop (P1 := .int (a : Int)) (P2 := .int (b : Int)) (P5 := .int (e : Int)) (L := L) (n := n) (emp := emp) (st := st) (z12 := z12) (by omega) ndf pf w0 w1 n 0 bs o6 200 m z11 none none (by omega) hb6 g6 (by omega) u6
  have K : Kept folk bs7 o7 0 (StT o7 folk bs7) := ⟨rfl, rfl, fun j l _ hj => St_bx hj⟩
  obtain ⟨S8, h8, hS8⟩ := rows_loop2 (P1 := .int (a : Int)) (P2 := .int (b : Int)) (P5 := .int (e : Int)) (L := L) (n := n) (emp := emp) (st := st) (wd := wd) (z11 := y11) (z12 := z12) (z13 := y13) (z14 := y14) (z16 := none) ndf hb7 pf g7 folk.length 0 (StT o7 folk bs7) (by omega) K
  rw [List.drop_zero, List.drop_zero] at h8
  generalize hrw : ((folk.zip bs7).map fun p => (p.1, ws p.1 p.2)) = rows0 at *
  have hfst : rows0.map (·.1) = folk := by
    rw [← hrw, List.map_map]
    show (folk.zip bs7).map Prod.fst = folk
    rw [List.map_fst_zip (by omega)]
  have hrl : rows0.length = folk.length := by rw [← hfst, List.length_map]
  obtain ⟨rows, h9, pr, ar⟩ := sorted_rows (l := rows0) (by omega) (by rw [hfst]; exact ndf) S8
  have hfr : (rows.map (·.1)).Perm folk := by
    have := pr.map (·.1)
    rw [hfst] at this
    exact this
  have mem : ∀ r ∈ rows, ∃ l ∈ bs7, r.1 ∈ folk ∧ r.2 = ws r.1 l := fun r hr => by
    have := pr.mem_iff.mp hr
    rw [← hrw] at this
    obtain ⟨p, hp, rfl⟩ := List.mem_map.mp this
    exact ⟨p.2, (List.of_mem_zip hp).2, (List.of_mem_zip hp).1, rfl⟩
  refine ⟨.tup [.tup (rows.map row), .tup ((sortS emp).map .str)], rows, sortS emp, o7, S8.tail, ?_, ⟨rfl, fun r hr => ?_, fun r hr x hx => ?_, fun r hr => ?_, ar, asc_sort nde, fun x hx => pe x ((sortS_perm emp).mem_iff.mp hx), ?_, ?_, ?_, ?_⟩, u7⟩
  · refine runB_rt (ds := [.loc 0, .d (.int (a : Int)), .d (.int (b : Int))]) rfl ?_
    show b__law_tome (e3 (.int (a : Int)) (.int (b : Int)) none none none none none none none none) [o] = _
    rw [tome_is, sSeq_s, tS1_ok, sqz_nx, sSeq_s, h2, sqz_nx, sSeq_s, h3, sqz_nx, sSeq_s, h4, sqz_nx, sSeq_s, h5, sqz_nx]
    have s6 : tS6 (e3 (.int (a : Int)) (.int (b : Int)) (some (.d (.lst (L.map .str)))) (some (.d (.int (n : Int)))) (some (.d (.int (e : Int)))) (some (.d (.lst (folk.map .str)))) (some (.d (.lst (emp.map .str)))) (some (.loc 1)) (some (.d (.int st))) (some (.d (.int wd)))) [o5, .dct [] []] = .nx (eT (.int (a : Int)) (.int (b : Int)) (.int (e : Int)) L n folk emp st wd z11 z12 none none) (StT o6 folk bs) := by
      unfold tS6
      rw [sFor_s, it_n (P1 := .int (a : Int)) (P2 := .int (b : Int)) (P5 := .int (e : Int)) (L := L) (n := n) (folk := folk) (emp := emp) (st := st) (wd := wd) (z11 := none) (z12 := none) (z13 := none) (z14 := none) (by omega), to_ok]
      exact h6
    have s7 : tS7 (eT (.int (a : Int)) (.int (b : Int)) (.int (e : Int)) L n folk emp st wd z11 z12 none none) (StT o6 folk bs) = .nx (eT (.int (a : Int)) (.int (b : Int)) (.int (e : Int)) L n folk emp st wd y11 z12 y13 y14) (StT o7 folk bs7) := by
      unfold tS7
      rw [sFor_s, it_n (by omega), to_ok]
      exact h7
    have hlc : mLcI [17] (iSeq (mV 6)) (gN 17) (cYes) tRow (eT (.int (a : Int)) (.int (b : Int)) (.int (e : Int)) L n folk emp st wd y11 z12 y13 y14) (StT o7 folk bs7) = .ok ((rows0.map row).map .d) S8 := mLcI_ok (ts := folk.map .str) rfl (by rw [List.length_map]; omega) h8
    have s8 : tS8 (eT (.int (a : Int)) (.int (b : Int)) (.int (e : Int)) L n folk emp st wd y11 z12 y13 y14) (StT o7 folk bs7) = .nx [some (.loc 0), some (.d (.int (a : Int))), some (.d (.int (b : Int))), some (.d (.lst (L.map .str))), some (.d (.int (n : Int))), some (.d (.int (e : Int))), some (.d (.lst (folk.map .str))), some (.d (.lst (emp.map .str))), some (.loc 1), some (.d (.int st)), some (.d (.int wd)), y11, z12, y13, y14, some (.d (.lst (rows0.map row))), none, none] S8 := by
      unfold tS8
      rw [sSet_s, mN_s, hlc, bind_ok, pLst_d (by rw [List.length_map]; omega), Sm.lift_some, to_ok]
      rfl
    rw [sSeq_s, s6, sqz_nx, sSeq_s, s7, sqz_nx, sSeq_s, s8, sqz_nx]
    have h10 : pSorted [.d (.lst (emp.map .str))] S8 = some (.d (.lst ((sortS emp).map .str)), S8) := (pSorted_strs (by omega)).2
    have h11 : pTup [.d (.tup (rows.map row)), .d (.tup ((sortS emp).map .str))] S8 = some (.d (.tup [.tup (rows.map row), .tup ((sortS emp).map .str)]), S8) := rfl
    unfold tS9
    simp only [sRet_s, mN_s, aCons_s, aNil_s, mV_s, List.getElem?_cons_zero, List.getElem?_cons_succ, bind_ok, h9, h10, h11, pTuple_lst, Sm.lift_some, to_ok]
    cases S8 with
    | nil => simp at hS8
    | cons x xs =>
      simp at hS8
      subst hS8
      rfl
  · obtain ⟨l, hl, h1, h2⟩ := mem r hr
    exact pf _ h1
  · obtain ⟨l, hl, h1, h2⟩ := mem r hr
    rw [h2] at hx
    have hx2 := ddS_mem.mp ((sortS_perm _).mem_iff.mp hx)
    obtain ⟨h3, h4⟩ := List.mem_filter.mp hx2
    exact ⟨(g7 l hl).2 x h3, by simpa using h4⟩
  · obtain ⟨l, hl, h1, h2⟩ := mem r hr
    rw [h2]
    exact asc_sort (ddS_nodup _)
  · exact ((hfr.append (sortS_perm emp)).nodup_iff).mpr nda
  · rw [pr.length_eq]
    omega
  · rw [pr.length_eq]
    omega
  · rw [(sortS_perm emp).length_eq]
    omega
theorem tome_ok {S : Sto} {k a b : Nat} {o : Bo} {m : Nat} (hS : S[k]? = some o) (ha : 0 < a) (hab : a + b ≤ 11) (u : Urn o (400 + m)) :
    ∃ (t : Dt) (rows : List (Str × List Str)) (emps : List Str) (o' : Bo), F__law_tome [.loc k, .d (.int (a : Int)), .d (.int (b : Int))] S = .ok (.d t) (S.set k o') ∧ Tome t rows emps a b ∧ Urn o' m := by
  obtain ⟨t, rows, emps, o', rest, e, T, u'⟩ := tome_raw ha hab u
  exact ⟨t, rows, emps, o', view_ok (ts := [.int (a : Int), .int (b : Int)]) hS u.pure e u'.pure, T, u'⟩
end Hn
namespace Hn
open PySem PySem.Spec PyProof.Rows L2 Sm
theorem lc_pure {α : Type} (enc : α → Dt) (p : α → Bool) (f : α → Dt) {g : GM} {c : M Bool} {e : M Dv} {ρ : Sm.Env} {S : Sto} : ∀ (l : List α), (∀ a ∈ l, ∃ ρ1, g (.d (enc a)) ρ = some ρ1 ∧ c ρ1 S = .ok (p a) S ∧ (p a = true → e ρ1 S = .ok (.d (f a)) S)) → lcL g c e ρ (l.map enc) S = .ok (((l.filter p).map f).map .d) S
  | [], _ => rfl
  | a :: l, h => by
    obtain ⟨ρ1, hg, hc, he⟩ := h a List.mem_cons_self
    have ih := lc_pure enc p f l fun b hb => h b (List.mem_cons_of_mem _ hb)
    by_cases hp : p a = true
    · rw [List.filter_cons_of_pos hp, List.map_cons]
      rw [hp] at hc
      exact lc_yes hg hc (he hp) ih
    · have hf : p a = false := by simpa using hp
      rw [List.filter_cons_of_neg hp, List.map_cons]
      rw [hf] at hc
      exact lc_no hg hc ih
theorem mLcI_pure {α : Type} (enc : α → Dt) (l : List α) (p : α → Bool) (f : α → Dt) {vs : List Nat} {it : M (List Dt)} {g : GM} {c : M Bool} {e : M Dv} {ρ : Sm.Env} {S : Sto} (hi : it ρ S = .ok (l.map enc) S) (hz : l.length ≤ 16777216) (h : ∀ a ∈ l, ∃ ρ1, g (.d (enc a)) (wipeE ρ vs) = some ρ1 ∧ c ρ1 S = .ok (p a) S ∧ (p a = true → e ρ1 S = .ok (.d (f a)) S)) : mLcI vs it g c e ρ S = .ok (((l.filter p).map f).map .d) S :=
  mLcI_ok hi (by rw [List.length_map]; exact hz) (lc_pure enc p f l h)
theorem mLc_pure {α : Type} (enc : α → Dt) (l : List α) (p : α → Bool) (f : α → Dt) {vs : List Nat} {it : M (List Dt)} {g : GM} {c : M Bool} {e : M Dv} {ρ : Sm.Env} {S : Sto} (hi : it ρ S = .ok (l.map enc) S) (hz : l.length ≤ 16777216) (h : ∀ a ∈ l, ∃ ρ1, g (.d (enc a)) (wipeE ρ vs) = some ρ1 ∧ c ρ1 S = .ok (p a) S ∧ (p a = true → e ρ1 S = .ok (.d (f a)) S)) : mN pLst (mLcI vs it g c e) ρ S = .ok (.d (.lst ((l.filter p).map f))) S := by
  rw [mN_s, mLcI_pure enc l p f hi hz h, bind_ok, pLst_d (by rw [List.length_map]; exact Nat.le_trans (List.length_filter_le _ _) hz), Sm.lift_some]
theorem filter_yes {α : Type} (l : List α) : l.filter (fun _ => true) = l := List.filter_eq_self.mpr fun _ _ => rfl
theorem dc_pure {α : Type} (enc : α → Dt) (key : α → Str) (f : α → Dt) {g : GM} {c : M Bool} {ek ev : M Dv} {ρ : Sm.Env} {S : Sto} : ∀ (l : List α) (l0 : List Str) (xs : List Dv), (l0 ++ l.map key).Nodup → (∀ a ∈ l, ∃ ρ1, g (.d (enc a)) ρ = some ρ1 ∧ c ρ1 S = .ok true S ∧ ek ρ1 S = .ok (.d (.str (key a))) S ∧ ev ρ1 S = .ok (.d (f a)) S) →
    dcL g c ek ev ρ (l.map enc) (kS l0) xs S = .ok (kS (l0 ++ l.map key), xs ++ (l.map f).map .d) S
  | [], l0, xs, _, _ => by
    simp [dcL]
  | a :: l, l0, xs, nd, h => by
    obtain ⟨ρ1, hg, hc, hk, hv⟩ := h a List.mem_cons_self
    have hne : key a ∉ l0 := fun z => by
      rw [List.nodup_append] at nd
      exact nd.2.2 (key a) z (key a) (by simp) rfl
    obtain ⟨k1, k2⟩ := dput_new (xs := xs) (y := .d (f a)) (hasK_new hne)
    have ih := dc_pure enc key f (g := g) (c := c) (ek := ek) (ev := ev) (ρ := ρ) (S := S) l (l0 ++ [key a]) (xs ++ [.d (f a)]) (by simpa using nd) fun b hb => h b (List.mem_cons_of_mem _ hb)
    rw [show kS (l0 ++ [key a]) = kS l0 ++ [Sum.inr (key a)] by simp [kS]] at ih
    show bz (g (.d (enc a)) ρ) _ = _
    rw [hg, bz_some, hc, nox_ok, bind_ok, if_pos rfl, hk, nox_ok, bind_ok, hv, nox_ok, bind_ok]
    show dcL g c ek ev ρ (l.map enc) (dputK (kS l0) (.inr (key a))) (dputX (kS l0) xs (.inr (key a)) (.d (f a))) S = _
    rw [k1, k2, ih]
    simp
theorem mDc_pure {α : Type} (enc : α → Dt) (key : α → Str) (f : α → Dt) (l : List α) {vs : List Nat} {it : M (List Dt)} {g : GM} {c : M Bool} {ek ev : M Dv} {ρ : Sm.Env} {S : Sto} (hi : it ρ S = .ok (l.map enc) S) (hz : l.length ≤ 16777216) (nd : (l.map key).Nodup) (h : ∀ a ∈ l, ∃ ρ1, g (.d (enc a)) (wipeE ρ vs) = some ρ1 ∧ c ρ1 S = .ok true S ∧ ek ρ1 S = .ok (.d (.str (key a))) S ∧ ev ρ1 S = .ok (.d (f a)) S) :
    mDc pDct vs it g c ek ev ρ S = .ok (.d (.dct (kS (l.map key)) (l.map f))) S := by
  show (it ρ S).bind _ = _
  rw [hi, bind_ok, if_pos (by rw [List.length_map]; exact hz)]
  have e := dc_pure enc key f (g := g) (c := c) (ek := ek) (ev := ev) (ρ := wipeE ρ vs) (S := S) l [] [] (by simpa using nd) h
  rw [List.nil_append, List.nil_append] at e
  have e' : dcL g c ek ev (wipeE ρ vs) (l.map enc) [] [] S = _ := e
  rw [e', bind_ok]
  show pDct (kS (l.map key)) ((l.map f).map .d) S = _
  unfold pDct
  rw [pures_d]
theorem eqF_strs (a b : Str) : eqF (.str a) (.str b) = decide (a = b) := by
  cases e : decide (a = b) <;> simp_all [eqF]
theorem inSeq_strs {l : List Str} {x : Str} : inSeq (.d (.str x)) ((l.map .str).map .d) = some (decide (x ∈ l)) := by
  have h1 : (l.map Dt.str).all flatT = true := List.all_eq_true.mpr fun t ht => by
    obtain ⟨s, _, rfl⟩ := List.mem_map.mp ht
    rfl
  have h2 : ((l.map Dt.str).any fun t => eqF t (.str x)) = decide (x ∈ l) := by
    rw [List.any_map]
    induction l with
    | nil => simp
    | cons a l ih =>
      have ih' := ih (List.all_eq_true.mpr fun t ht => by
        obtain ⟨s, _, rfl⟩ := List.mem_map.mp ht
        rfl)
      rw [List.any_cons, ih']
      show (eqF (.str a) (.str x) || decide (x ∈ l)) = _
      rw [eqF_strs]
      by_cases h : a = x
      · simp [h]
      · have h' : ¬ x = a := fun z => h z.symm
        simp [h, h']
  show (if flatT (.str x) = true then (match pures ((l.map Dt.str).map .d) with
      | some ts => if ts.all flatT = true then some (ts.any fun t => eqF t (.str x)) else none
      | none => none) else none) = _
  rw [if_pos (show flatT (.str x) = true from rfl), pures_d]
  simp only [h1, if_true, h2]
theorem inDv_t {l : List Str} {x : Str} {S : Sto} : inDv S (.d (.str x)) (.d (.tup (l.map .str))) = some (decide (x ∈ l)) := inSeq_strs
theorem inDv_l {l : List Str} {x : Str} {S : Sto} : inDv S (.d (.str x)) (.d (.lst (l.map .str))) = some (decide (x ∈ l)) := inSeq_strs
theorem in_t {l : List Str} {x : Str} {S : Sto} : pIn (.d (.str x)) (.d (.tup (l.map .str))) S = some (.d (.bl (decide (x ∈ l))), S) := by
  unfold pIn
  rw [inDv_t]
theorem in_l {l : List Str} {x : Str} {S : Sto} : pIn (.d (.str x)) (.d (.lst (l.map .str))) S = some (.d (.bl (decide (x ∈ l))), S) := by
  unfold pIn
  rw [inDv_l]
theorem dlook_f {f : Str → Dt} : ∀ {l : List Str} {x : Str}, x ∈ l → dlook (kS l) ((l.map f).map Dv.d) (.inr x) = some (.d (f x))
  | [], x, h => absurd h List.not_mem_nil
  | a :: l, x, h => by
    show (if (Sum.inr a : Key) = .inr x then some (Dv.d (f a)) else dlook (kS l) ((l.map f).map Dv.d) (.inr x)) = _
    by_cases e : a = x
    · subst e
      rw [if_pos rfl]
    · rw [if_neg (fun z => e (by cases z; rfl))]
      rcases List.mem_cons.mp h with h | h
      · exact absurd h.symm e
      · exact dlook_f h
theorem ix_f {f : Str → Dt} {l : List Str} {x : Str} {S : Sto} (h : x ∈ l) : pIx (.d (.dct (kS l) (l.map f))) (.d (.str x)) S = some (.d (f x), S) := by
  show (match dlook (kS l) ((l.map f).map Dv.d) (.inr x) with
      | some x => some (x, S)
      | none => none) = _
  rw [dlook_f h]
theorem fld_is {S : Sto} {n c i : Nat} {fs : List (Option Dv)} {d : Dv} (h : S[n]? = some (.ins c fs)) (h2 : fs[i]? = some (some d)) : pFld c i (.loc n) S = some (d, S) := by
  unfold pFld
  simp only [h, if_true, h2]
end Hn
namespace Hn
open PySem PySem.Spec PyProof.Rows L2 Sm
theorem sFld_is {S : Sto} {n c i : Nat} {fs : List (Option Dv)} {d : Dv} {mo mv : M Dv} {ρ : Sm.Env} (h : S[n]? = some (.ins c fs)) (hv : mv ρ S = .ok d S) (ho : mo ρ S = .ok (.loc n) S) : sFld c i mo mv ρ S = .nx ρ (S.set n (.ins c (putF i d fs))) := by
  have e : stFld c i (.loc n) d S = some (S.set n (.ins c (putF i d fs))) := by
    unfold stFld
    simp only [h, if_true]
  rw [sFld_s, hv, to_ok, ho, to_ok, e, oz_some]
theorem set_at {S : Sto} {n : Nat} {o o' : Bo} (h : S[n]? = some o) : (S.set n o')[n]? = some o' := by
  have : n < S.length := by
    have := List.getElem?_eq_some_iff.mp h
    exact this.1
  exact List.getElem?_set_self this
def lk : List (Str × List Str) → Str → List Str
  | [], _ => []
  | e :: r, x => if e.1 = x then e.2 else lk r x
theorem lk_in : ∀ {rows : List (Str × List Str)}, (rows.map (·.1)).Nodup → ∀ e ∈ rows, lk rows e.1 = e.2
  | [], _, e, h => absurd h List.not_mem_nil
  | a :: r, nd, e, h => by
    obtain ⟨n1, n2⟩ := List.nodup_cons.mp nd
    show (if a.1 = e.1 then a.2 else lk r e.1) = _
    rcases List.mem_cons.mp h with rfl | h
    · rw [if_pos rfl]
    · rw [if_neg (fun z => n1 (by show a.1 ∈ _; rw [z]; exact List.mem_map_of_mem h)), lk_in n2 e h]
abbrev folk (rows : List (Str × List Str)) : List Str := rows.map (·.1)
abbrev tupS (l : List Str) : Dt := .tup (l.map .str)
abbrev shD (l : List (Str × List Str)) (m : List Str) : Dt := .tup [.tup (l.map row), .tup (m.map .str)]
theorem rows_by_key {rows : List (Str × List Str)} (nd : (folk rows).Nodup) : rows.map (fun e => tupS e.2) = (folk rows).map fun x => tupS (lk rows x) := by
  rw [List.map_map]
  exact List.map_congr_left fun e he => by
    show tupS e.2 = tupS (lk rows e.1)
    rw [lk_in nd e he]
structure Sd (t : Dt) (rows : List (Str × List Str)) (emps : List Str) : Prop where
  tx : Tx 7 t
  eq : tp t = shD rows emps
  nd : (folk rows ++ emps).Nodup
  z1 : rows.length ≤ 100
  z2 : emps.length ≤ 100
  z3 : ∀ r ∈ rows, r.2.length ≤ 100
theorem Sd.ndf {t : Dt} {rows : List (Str × List Str)} {emps : List Str} (h : Sd t rows emps) : (folk rows).Nodup := (List.nodup_append.mp h.nd).1
abbrev rowsO (rows : List (Str × List Str)) : Dt := .dct (kS (folk rows)) ((folk rows).map fun x => tupS (lk rows x))
def insS (rows : List (Str × List Str)) (emps : List Str) : Bo := .ins 0 [some (.d (tupS emps)), some (.d (.dct (kS (folk rows ++ emps)) ((folk rows ++ emps).map fun _ => .bl true))), some (.d (rowsO rows))]
section
variable {t : Dt} {rows : List (Str × List Str)} {emps : List Str} {S : Sto} {n : Nat}
theorem sd_init (h : Sd t rows emps) (hS : S[n]? = some (.ins 0 [])) : F_Sheet_init [.loc n, .d t] S = .ok (.d .non) (S.set n (insS rows emps)) := by
  have ht : ∀ S, F_tupled 8 [.d t] S = .ok (.d (shD rows emps)) S := fun S => by
    rw [← h.eq]
    exact tupled_ok 7 t S h.tx
  have z1 := h.z1
  have z2 := h.z2
  generalize hE : ([some (.loc n), some (.d t), some (.d (.tup (rows.map row))), some (.d (.tup (emps.map .str))), none, none] : Sm.Env) = E
  have s1 : sAsg (gT (gsCons (gN 2) (gsCons (gN 3) (gsNil)))) (mF (F_tupled 8) (aCons (mV 1) (aNil))) [some (.loc n), some (.d t), none, none, none, none] S = .nx E S := by
    subst hE
    simp only [sAsg_s, mF_s, aCons_s, mV_s, aNil_s, List.getElem?_cons_zero, List.getElem?_cons_succ, bind_ok, ht, to_ok]
    rfl
  have v0 : ∀ S : Sto, mV 0 E S = .ok (.loc n) S := fun S => by
    subst hE
    rfl
  have d1 : mDc pDct [4, 5] (iSeq (mV 2)) (gT (gsCons (gN 4) (gsCons (gN 5) (gsNil)))) (cYes) (mV 4) (mV 5) E S = .ok (.d (rowsO rows)) S := by
    subst hE
    rw [mDc_pure row (·.1) (fun e => tupS e.2) rows rfl (by omega) h.ndf (fun e _ => ⟨_, rfl, rfl, rfl, rfl⟩), rows_by_key h.ndf]
  have s2 := sFld_is (i := 2) hS d1 (v0 S)
  have s3 := sFld_is (S := S.set n (.ins 0 (putF 2 (.d (rowsO rows)) []))) (fs := putF 2 (.d (rowsO rows)) []) (c := 0) (i := 0) (mv := mV 3) (ρ := E) (d := .d (tupS emps)) (mo := mV 0) (set_at hS) (by subst hE; rfl) (v0 _)
  rw [List.set_set] at s3
  generalize hS3 : S.set n (.ins 0 (putF 0 (Dv.d (tupS emps)) (putF 2 (.d (rowsO rows)) []))) = S3 at s3
  have g3 : S3[n]? = some (.ins 0 [some (.d (tupS emps)), none, some (.d (rowsO rows))]) := by
    rw [← hS3]
    exact set_at hS
  have it : iSeq (m2 pAdd (mN pList (aCons (m1 (pFld 0 2) (mV 0)) (aNil))) (mN pList (aCons (mV 3) (aNil)))) E S3 = .ok ((folk rows ++ emps).map .str) S3 := by
    subst hE
    have f1 : pFld 0 2 (.loc n) S3 = some (.d (rowsO rows), S3) := fld_is g3 rfl
    have p1 : pList [.d (rowsO rows)] S3 = some (.d (.lst ((folk rows).map .str)), S3) := by
      rw [← kT_strs]
      rfl
    have p3 : pAdd (.d (.lst ((folk rows).map .str))) (.d (.lst (emps.map .str))) S3 = some (.d (.lst ((folk rows ++ emps).map .str)), S3) := by
      rw [add_l (by simp only [List.length_map]; omega), List.map_append]
    simp only [iSeq_s, sSeq_s, sSet_s, sRet_s, sDrop_s, sIf_s, sFor_s, sPars_s, sNil_s, sqz_nx, sqz_rt, m1_s, m2_s, mN_s, mF_s, mV_s, mC_s, aCons_s, aNil_s, aApp_s, mIf_s, mTst_s, toB_s, mTru_s, cAnd_s, cOr_s, cNot_s, cYes_s, mAnd_s, mSl_s, oPt_s, oNo_s, mFrz_s, gN_s, gT_s, List.getElem?_cons_zero, List.getElem?_cons_succ, bind_ok, to_ok, Sm.lift_some, li_some, oz_some, bz_some, nox_ok, f1, p1, pList_t, p3]
    rfl
  have d2 : mDc pDct [4] (iSeq (m2 pAdd (mN pList (aCons (m1 (pFld 0 2) (mV 0)) (aNil))) (mN pList (aCons (mV 3) (aNil))))) (gN 4) (cYes) (mV 4) (mC (.bl true)) E S3 = .ok (.d (.dct (kS (folk rows ++ emps)) ((folk rows ++ emps).map fun _ => .bl true))) S3 := by
    have := mDc_pure (vs := [4]) (c := cYes) (ek := mV 4) (ev := mC (.bl true)) (g := gN 4) Dt.str id (fun _ => .bl true) (folk rows ++ emps) it (by simp only [List.length_append, List.length_map]; omega) (by rw [List.map_id]; exact h.nd) (fun e _ => ⟨E.set 4 (some (.d (.str e))), by subst hE; rfl, rfl, by subst hE; rfl, rfl⟩)
    rw [List.map_id] at this
    exact this
  have s4 := sFld_is (i := 1) g3 d2 (v0 S3)
  have hb : b_Sheet_init [some (.loc n), some (.d t), none, none, none, none] S = .nx E (S.set n (insS rows emps)) := by
    unfold b_Sheet_init
    rw [sSeq_s, s1, sqz_nx, sSeq_s, s2, sqz_nx, sSeq_s, s3, sqz_nx, s4, ← hS3, List.set_set]
    rfl
  show runB 6 2 b_Sheet_init [.loc n, .d t] S = _
  unfold runB
  rw [if_pos (show ([Dv.loc n, Dv.d t] : List Dv).length = 2 from rfl)]
  show (match b_Sheet_init [some (.loc n), some (.d t), none, none, none, none] S with
    | .nx _ S' => (Rz.ok (Dv.d .non) S' : Rz Dv)
    | .rt d S' => .ok d S'
    | .er c t _ S' => .er c t S'
    | _ => .bad) = _
  rw [hb]
structure Nm (g : Dt) (l : List Str) : Prop where
  tp : ∀ S : Sto, F_tupled 8 [.d g] S = .ok (.d (tupS l)) S
  z : l.length ≤ 1000
def suits (rows : List (Str × List Str)) (a b : Str) : Bool := decide (b ∈ lk rows a) && decide (a ∈ lk rows b)
def suited (rows : List (Str × List Str)) (a : Str) : List Str := (lk rows a).filter fun b => decide (b ∈ folk rows) && suits rows a b
end
end Hn
namespace Hn
open PySem PySem.Spec PyProof.Rows L2 Sm
abbrev prD (p : Str × Str) : Dt := .tup [.str p.1, .str p.2]
def nms (rows : List (Str × List Str)) (gone : List Str) : List Str := (folk rows).filter fun x => !decide (x ∈ gone)
def near (rows : List (Str × List Str)) (gone : List Str) (a : Str) : List Str := (suited rows a).filter fun x => !decide (x ∈ gone)
def prs (rows : List (Str × List Str)) (gone : List Str) : List (Str × Str) := (nms rows gone).flatMap fun a => ((near rows gone a).filter (ltS a)).map fun b => (a, b)
abbrev nearO (rows : List (Str × List Str)) (gone : List Str) : Dt := .dct (kS (nms rows gone)) ((nms rows gone).map fun x => tupS (near rows gone x))
def insW (n : Nat) (rows : List (Str × List Str)) (gone : List Str) : Bo := .ins 1 [some (.loc (n + 2)), some (.d (tupS (nms rows gone))), some (.d (nearO rows gone)), some (.d (.lst ((prs rows gone).map prD)))]
section
variable {S0 : Sto} {t g : Dt} {rows : List (Str × List Str)} {emps gone : List Str}
end
end Hn
namespace Hn
open PySem PySem.Spec PyProof.Rows L2 Sm
def tk (K : Nat) : Nat → Nat
  | 0 => 0
  | 1 => 0
  | n + 2 => 1 + tk K (n + 1) + K * tk K n
abbrev kL (l : List Str) : List Key := l.map Sum.inr
section
variable {v : List Str → Dv} {es : List (List Str)} {l : List Str}
end
section
variable {S : Sto} {n : Nat} {rows : List (Str × List Str)} {gone : List Str} {K : Nat}
structure Bs (S : Sto) (n : Nat) (rows : List (Str × List Str)) (gone : List Str) : Prop where
  i0 : S[n]? = some (insW n rows gone)
  i2 : n + 2 < S.length
end
end Hn
namespace Hn
open PySem PySem.Spec PyProof.Rows L2 Sm
def Dj (p q : Str × Str) : Prop := p.1 ≠ q.1 ∧ p.1 ≠ q.2 ∧ p.2 ≠ q.1 ∧ p.2 ≠ q.2
structure Mt (P : List (Str × Str)) (left : List Str) (m : List (Str × Str)) : Prop where
  pw : m.Pairwise Dj
  all : ∀ p ∈ m, p ∈ P ∧ p.1 ∈ left ∧ p.2 ∈ left
section
variable {P : List (Str × Str)} {nr : Str → List Str} {names : List Str}
structure Fit (P : List (Str × Str)) (nr : Str → List Str) (names : List Str) : Prop where
  ne : ∀ p ∈ P, p.1 ≠ p.2
  iff : ∀ a ∈ names, ∀ o ∈ names, a ≠ o → (o ∈ nr a ↔ ((a, o) ∈ P ∨ (o, a) ∈ P))
def tch (p q : Str × Str) : Bool := decide (q.1 ∈ [p.1, p.2]) || decide (q.2 ∈ [p.1, p.2])
def free (p : Str × Str) (m : List (Str × Str)) : Bool := (m.filter (tch p)).isEmpty
def stepM (found : List (List (Str × Str))) (p : Str × Str) : List (List (Str × Str)) := found ++ (found.filter (free p)).map fun m => m ++ [p]
def allM (P : List (Str × Str)) : List (List (Str × Str)) := P.foldl stepM [[]]
end
end Hn
namespace Hn
open PySem PySem.Spec PyProof.Rows L2 Sm
def okP (p : Str × Str) : Prop := PyData.strOk p.1 = true ∧ PyData.strOk p.2 = true
section
variable {P0 : Dt}
end
end Hn
namespace Hn
open PySem PySem.Spec PyProof.Rows L2 Sm
section
variable {rows : List (Str × List Str)} {emps : List Str}
def wantsL (rows : List (Str × List Str)) (emps : List Str) (x : Str) : List Str := (lk rows x).filter fun y => decide (y ∈ folk rows ++ emps)
abbrev lstS (l : List Str) : Dt := .lst (l.map .str)
end
end Hn
namespace Hn
open PySem PySem.Spec PyProof.Rows L2 Sm
def allN : List Str := ["a", "ann", "b", "bob", "c", "cat", "dan", "eve", "fay", "new", "old", "x", "zzzzzzzz"]
structure Gs8 (rows : List (Str × List Str)) (emps : List Str) : Prop where
  nd : (folk rows ++ emps).Nodup
  ok : ∀ r ∈ rows, PyData.strOk r.1 = true ∧ ∀ x ∈ r.2, PyData.strOk x = true
  oke : ∀ x ∈ emps, PyData.strOk x = true
  wn : ∀ r ∈ rows, r.2.Nodup
  wl : ∀ r ∈ rows, r.2.length ≤ 11
  z : rows.length ≤ 8
  ze : emps.length ≤ 20
  af : Asc (folk rows)
  aw : ∀ r ∈ rows, Asc r.2
  ns : ∀ r ∈ rows, r.1 ∉ r.2
  nm : ∀ r ∈ rows, r.1 ∈ allN
theorem tps_strs' : ∀ l : List Str, tps (l.map .str) = l.map .str
  | [] => rfl
  | a :: l => by
    show Dt.str a :: tps (l.map .str) = _
    rw [tps_strs' l]
    rfl
theorem tps_rows' : ∀ l : List (Str × List Str), tps (l.map row) = l.map row
  | [] => rfl
  | a :: l => by
    show tp (row a) :: tps (l.map row) = _
    rw [tps_rows' l]
    show Dt.tup [.str a.1, .tup (tps (a.2.map .str))] :: _ = _
    rw [tps_strs']
    rfl
theorem tx_strs' {l : List Str} (h : ∀ s ∈ l, PyData.strOk s = true) (hz : l.length ≤ 1000) : Tx 1 (tupS l) :=
  .inr ⟨_, .inl rfl, by rw [List.length_map]; exact hz, fun x hx => by
    obtain ⟨s, hs, rfl⟩ := List.mem_map.mp hx
    exact ⟨s, h s hs, rfl⟩⟩
theorem Tx.ups {n m : Nat} {t : Dt} (h : Tx n t) (hm : n ≤ m) : Tx m t := by
  induction hm with
  | refl => exact h
  | step _ ih => exact ih.up
section
variable {rows : List (Str × List Str)} {emps gone : List Str}
theorem Gs8.ndf (h : Gs8 rows emps) : (folk rows).Nodup := (List.nodup_append.mp h.nd).1
theorem Gs8.tx (h : Gs8 rows emps) : Tx 4 (shD rows emps) := by
  have t1 : Tx 3 (tupS emps) := (tx_strs' h.oke (by have := h.ze; omega)).ups (by omega)
  have t2 : ∀ e ∈ rows, Tx 2 (row e) := fun e he => by
    obtain ⟨a, c⟩ := h.ok e he
    refine .inr ⟨_, .inl rfl, by show 2 ≤ 1000; omega, fun x hx => ?_⟩
    rcases List.mem_cons.mp hx with rfl | hx
    · exact .inl ⟨e.1, a, rfl⟩
    · rcases List.mem_cons.mp hx with rfl | hx
      · exact tx_strs' c (by have := h.wl e he; omega)
      · exact absurd hx List.not_mem_nil
  have t3 : Tx 3 (.tup (rows.map row)) := .inr ⟨_, .inl rfl, by rw [List.length_map]; have := h.z; omega, fun x hx => by
    obtain ⟨e, he, rfl⟩ := List.mem_map.mp hx
    exact t2 e he⟩
  exact .inr ⟨_, .inl rfl, by show 2 ≤ 1000; omega, fun x hx => by
    rcases List.mem_cons.mp hx with rfl | hx
    · exact t3
    · rcases List.mem_cons.mp hx with rfl | hx
      · exact t1
      · exact absurd hx List.not_mem_nil⟩
theorem Gs8.tp (h : Gs8 rows emps) : tp (shD rows emps) = shD rows emps := by
  show Dt.tup [.tup (tps (rows.map row)), .tup (tps (emps.map .str))] = _
  rw [tps_rows', tps_strs']
theorem Gs8.sd (h : Gs8 rows emps) : Sd (shD rows emps) rows emps := ⟨h.tx.ups (by omega), h.tp, h.nd, by have := h.z; omega, by have := h.ze; omega, fun r hr => by have := h.wl r hr; omega⟩
theorem Gs8.sdl (h : Gs8 rows emps) : Sd (tl (shD rows emps)) rows emps := ⟨(h.tx.ups (by omega)).tl, (tp_tl _).trans h.tp, h.nd, by have := h.z; omega, by have := h.ze; omega, fun r hr => by have := h.wl r hr; omega⟩
structure Best (P : List (Str × Str)) (k : Int) : Prop where
  top : (∀ m ∈ allM P, (m.length : Int) ≤ k) ∧ ∃ m ∈ allM P, (m.length : Int) = k
  len : (allM P).length ≤ 16777216
  ok : ∀ p ∈ P, okP p
  z : P.length ≤ 64
end
end Hn
namespace Hn
open PySem PySem.Spec PyProof.Rows L2 Sm
section
variable {S : Sto} {n : Nat} {rows : List (Str × List Str)} {emps gone : List Str}
structure Sw8 (rows : List (Str × List Str)) (gone : List Str) : Prop where
  wl : ∀ r ∈ rows, r.2.length ≤ 11
  z : rows.length ≤ 8
  ok : ∀ r ∈ rows, PyData.strOk r.1 = true
end
end Hn
namespace Hn
open PySem PySem.Spec PyProof.Rows L2 Sm
section
variable {S : Sto} {n : Nat} {rows : List (Str × List Str)} {gone : List Str}
end
end Hn
namespace Hn
open PySem PySem.Spec PyProof.Rows L2 Sm
def ltQ (p q : Str × Str) : Bool := if p.1 = q.1 then ltS p.2 q.2 else ltS p.1 q.1
section
variable {rows : List (Str × List Str)} {gone : List Str}
end
end Hn
namespace Hn
open PySem PySem.Spec PyProof.Rows L2 Sm
section
variable {rows : List (Str × List Str)} {gone : List Str}
end
end Hn
namespace Hn
open PySem PySem.Spec PyProof.Rows L2 Sm
abbrev evens (a n : Nat) : List Dv := (List.range' a n).map fun i => .loc (2 * i)
structure Tb (L : List Str) (adj : Str → List Str) (S : Sto) : Prop where
  d : S[2 * L.length + 1]? = some (.dct (kS L) (evens 0 L.length))
  b : ∀ i s, L[i]? = some s → S[2 * i]? = some (bx (adj s))
section
variable {L : List Str} {adj : Str → List Str} {S : Sto}
structure Ln (line : Dt) (L : List Str) : Prop where
  any : anyOf (.d line) = some (L.map .str)
  srt : ∀ S : Sto, pSortedA [.d line] S = some (.d (.lst ((sortS L).map .str)), S)
end
end Hn
namespace Hn
open PySem PySem.Spec PyProof.Rows L2 Sm
structure Pr (L : List Str) (ps : List (Str × Str)) : Prop where
  nd : L.Nodup
  ok : ∀ x ∈ L, PyData.strOk x = true
  nm : ∀ x ∈ L, x ∈ allN
  mem : ∀ p ∈ ps, p.1 ∈ L ∧ p.2 ∈ L ∧ p.1 ≠ p.2
  sep : ps.Pairwise fun p q => p ≠ q ∧ p ≠ (q.2, q.1)
  z : L.length ≤ 8
  z2 : ps.length ≤ 400
section
variable {L : List Str} {ps : List (Str × Str)}
end
end Hn
namespace Hn
open PySem PySem.Spec PyProof.Rows L2 Sm
def Atm (t : Dt) : Prop := (∃ s, PyData.strOk s = true ∧ t = .str s) ∨ (∃ i : Int, t = .int i) ∨ (∃ b : Bool, t = .bl b) ∨ t = .non
def Ty : Nat → Dt → Prop
  | 0, t => Atm t
  | n + 1, t => Atm t ∨ ∃ xs, (t = .tup xs ∨ t = .lst xs) ∧ xs.length ≤ 1000 ∧ ∀ x ∈ xs, Ty n x
theorem Ty.up : ∀ {n : Nat} {t : Dt}, Ty n t → Ty (n + 1) t
  | 0, t, h => .inl h
  | n + 1, t, .inl h => .inl h
  | n + 1, t, .inr ⟨xs, h, hz, hx⟩ => .inr ⟨xs, h, hz, fun x m => (hx x m).up⟩
theorem Ty.ups {n m : Nat} {t : Dt} (h : Ty n t) (hm : n ≤ m) : Ty m t := by
  induction hm with
  | refl => exact h
  | step _ ih => exact ih.up
theorem same_atm : ∀ (n : Nat) (t : Dt) (S : Sto), Atm t → F__law_same (n + 1) [.d t, .d t] S = .ok (.d (.bl true)) S := fun n t S h => by
  refine iso_ok (ts := [t, t]) (S' := []) (runB_rt (ds := [.d t, .d t]) rfl ?_)
  show b__law_same (F__law_same n) [some (.d t), some (.d t), none, none] [] = _
  have t0 : ∀ (b : Bool) (S : Sto), pTru (.d (.bl b)) S = some b := fun _ _ => rfl
  rcases h with ⟨s, hs, rfl⟩ | ⟨i, rfl⟩ | ⟨b, rfl⟩ | rfl
  · have i1 : ∀ S : Sto, pIsa ["list", "tuple"] (.d (.str s)) S = some (.d (.bl false), S) := fun _ => rfl
    have i2 : ∀ S : Sto, pIsa ["bool", "str"] (.d (.str s)) S = some (.d (.bl true), S) := fun _ => rfl
    have i3 : ∀ S : Sto, pIsa ["bool"] (.d (.str s)) S = some (.d (.bl false), S) := fun _ => rfl
    have n1 : ∀ S : Sto, pIsN (.d (.str s)) (.d .non) S = some (.d (.bl false), S) := fun _ => rfl
    unfold b__law_same
    simp only [sSeq_s, sIf_s, mTru_s, m1_s, m2_s, mC_s, mV_s, List.getElem?_cons_zero, List.getElem?_cons_succ, bind_ok, i1, Sm.lift_some, t0, li_some, to_ok, Bool.false_eq_true, if_false, sNil_s, sqz_nx, cOr_s, mTst_s, n1, toB_s, i2, if_true, sRet_s, mAnd_s, pEq_str hs, i3, pEq_bl, sqz_rt]
  · have i1 : ∀ S : Sto, pIsa ["list", "tuple"] (.d (.int i)) S = some (.d (.bl false), S) := fun _ => rfl
    have i2 : ∀ S : Sto, pIsa ["bool", "str"] (.d (.int i)) S = some (.d (.bl false), S) := fun _ => rfl
    have i3 : ∀ S : Sto, pIsa ["bool"] (.d (.int i)) S = some (.d (.bl false), S) := fun _ => rfl
    have i4 : ∀ S : Sto, pIsa ["int"] (.d (.int i)) S = some (.d (.bl true), S) := fun _ => rfl
    have n1 : ∀ S : Sto, pIsN (.d (.int i)) (.d .non) S = some (.d (.bl false), S) := fun _ => rfl
    unfold b__law_same
    simp only [sSeq_s, sIf_s, mTru_s, m1_s, m2_s, mC_s, mV_s, List.getElem?_cons_zero, List.getElem?_cons_succ, bind_ok, i1, Sm.lift_some, t0, li_some, to_ok, Bool.false_eq_true, if_false, sNil_s, sqz_nx, cOr_s, mTst_s, n1, toB_s, i2, if_true, sRet_s, mAnd_s, mNot_s, pEq_int, i3, i4, Bool.not_false, sqz_rt]
  · have i1 : ∀ S : Sto, pIsa ["list", "tuple"] (.d (.bl b)) S = some (.d (.bl false), S) := fun _ => rfl
    have i2 : ∀ S : Sto, pIsa ["bool", "str"] (.d (.bl b)) S = some (.d (.bl true), S) := fun _ => rfl
    have i3 : ∀ S : Sto, pIsa ["bool"] (.d (.bl b)) S = some (.d (.bl true), S) := fun _ => rfl
    have n1 : ∀ S : Sto, pIsN (.d (.bl b)) (.d .non) S = some (.d (.bl false), S) := fun _ => rfl
    unfold b__law_same
    simp only [sSeq_s, sIf_s, mTru_s, m1_s, m2_s, mC_s, mV_s, List.getElem?_cons_zero, List.getElem?_cons_succ, bind_ok, i1, Sm.lift_some, t0, li_some, to_ok, Bool.false_eq_true, if_false, sNil_s, sqz_nx, cOr_s, mTst_s, n1, toB_s, i2, if_true, sRet_s, mAnd_s, i3, pEq_bl, sqz_rt]
  · have i1 : ∀ S : Sto, pIsa ["list", "tuple"] (.d .non) S = some (.d (.bl false), S) := fun _ => rfl
    have i3 : ∀ S : Sto, pIsa ["bool"] (.d .non) S = some (.d (.bl false), S) := fun _ => rfl
    have n1 : ∀ S : Sto, pIsN (.d .non) (.d .non) S = some (.d (.bl true), S) := fun _ => rfl
    have q1 : ∀ S : Sto, pEq (.d .non) (.d .non) S = some (.d (.bl true), S) := fun S => by
      have : eqDv S (.d .non) (.d .non) = some true := by
        show (if SeqAt.shaped .none = true ∧ SeqAt.shaped .none = true then some (PyData.eqv .none .none) else none) = _
        rw [if_pos ⟨rfl, rfl⟩]
        simp [PyData.eqv]
      unfold pEq
      rw [this]
    unfold b__law_same
    simp only [sSeq_s, sIf_s, mTru_s, m1_s, m2_s, mC_s, mV_s, List.getElem?_cons_zero, List.getElem?_cons_succ, bind_ok, i1, Sm.lift_some, t0, li_some, to_ok, Bool.false_eq_true, if_false, sNil_s, sqz_nx, cOr_s, mTst_s, n1, toB_s, if_true, sRet_s, mAnd_s, q1, i3, pEq_bl, sqz_rt]
theorem same_ty : ∀ (n : Nat) (t : Dt) (S : Sto), Ty n t → F__law_same (n + 1) [.d t, .d t] S = .ok (.d (.bl true)) S := by
  have seq : ∀ (n : Nat) (t : Dt) (xs : List Dt) (S : Sto), (t = .tup xs ∨ t = .lst xs) → xs.length ≤ 1000 → (∀ x ∈ xs, ∀ S, F__law_same n [.d x, .d x] S = .ok (.d (.bl true)) S) → F__law_same (n + 1) [.d t, .d t] S = .ok (.d (.bl true)) S := fun n t xs S ht hz hx => by
    refine iso_ok (ts := [t, t]) (S' := []) (runB_rt (ds := [.d t, .d t]) rfl ?_)
    show b__law_same (F__law_same n) [some (.d t), some (.d t), none, none] [] = _
    obtain ⟨b1, l1⟩ := isa_l (S := []) ht
    obtain ⟨b2, l2⟩ := isa_t (S := []) ht
    have i1 := isa_seq (S := []) ht
    have hl := len_seq (S := []) ht
    have t0 : ∀ (b : Bool) (S : Sto), pTru (.d (.bl b)) S = some b := fun _ _ => rfl
    have hzip : zp2 [.d t, .d t] = some (zpL xs xs) := by rcases ht with rfl | rfl <;> rfl
    have hzl : (zpL xs xs).length ≤ 16777216 := by
      rw [zpL_length]
      omega
    have c1 : mLcI [2, 3] (iRg zp2 (aCons (mV 0) (aCons (mV 1) (aNil)))) (gT (gsCons (gN 2) (gsCons (gN 3) (gsNil)))) (cYes) (mF (F__law_same n) (aCons (mV 2) (aCons (mV 3) (aNil)))) [some (.d t), some (.d t), none, none] [] = .ok (xs.map fun _ => Dv.d (.bl true)) [] := by
      rw [mLcI_s, iRg_ok (ds := [.d t, .d t]) (S1 := []) (by simp only [aCons_s, mV_s, aNil_s, List.getElem?_cons_zero, List.getElem?_cons_succ, bind_ok]) hzip, bind_ok, if_pos hzl]
      exact zip_loop xs hx []
    have p1 : pLst (xs.map fun _ => Dv.d (.bl true)) [] = some (.d (.lst (xs.map fun _ => .bl true)), []) := by
      have e : (xs.map fun _ => Dv.d (.bl true)) = (xs.map fun _ => Dt.bl true).map Dv.d := by
        rw [List.map_map]
        rfl
      rw [e]
      exact pLst_d (by rw [List.length_map]; omega)
    unfold b__law_same
    simp only [sSeq_s, sIf_s, mTru_s, m1_s, m2_s, mN_s, mC_s, mV_s, aCons_s, aNil_s, List.getElem?_cons_zero, List.getElem?_cons_succ, bind_ok, i1, Sm.lift_some, t0, li_some, to_ok, if_true, cOr_s, mTst_s, l1, l2, pNe_bl, toB_s, Bool.false_eq_true, if_false, sNil_s, sqz_nx, sRet_s, mAnd_s, hl, pEq_int, c1, p1, all_true, sqz_rt]
  intro n
  induction n with
  | zero => exact fun t S h => same_atm 0 t S h
  | succ n ih =>
    intro t S h
    rcases h with h | ⟨xs, ht, hz, hx⟩
    · exact same_atm (n + 1) t S h
    · exact seq (n + 1) t xs S ht hz fun x m S => ih x S (hx x m)
end Hn
namespace Hn
open PySem PySem.Spec PyProof.Rows L2 Sm
section
variable {rows : List (Str × List Str)} {emps gone : List Str}
end
end Hn
namespace Hn
open PySem PySem.Spec PyProof.Rows L2 Sm
end Hn
namespace Hn
open PySem PySem.Spec PyProof.Rows L2 Sm
section
variable {S : Sto} {n : Nat} {rows : List (Str × List Str)} {emps gone : List Str}
end
end Hn
namespace Hn
open PySem PySem.Spec PyProof.Rows L2 Sm
theorem atm_py {t : Dt} (h : Atm t) : ∃ d, toPy t = some d ∧ d.canLay0 = true ∧ d.depth = 0 := by
  rcases h with ⟨s, hs, rfl⟩ | ⟨i, rfl⟩ | ⟨b, rfl⟩ | rfl
  · exact ⟨.str s, rfl, by simp only [PyData.canLay0, hs], by simp only [PyData.depth]⟩
  · exact ⟨.int i, rfl, by simp only [PyData.canLay0], by simp only [PyData.depth]⟩
  · exact ⟨.bool b, rfl, by simp only [PyData.canLay0], by simp only [PyData.depth]⟩
  · exact ⟨.none, rfl, by simp only [PyData.canLay0], by simp only [PyData.depth]⟩
theorem py_all {n : Nat} (h : ∀ t, Ty n t → ∃ d, toPy t = some d ∧ d.canLay0 = true ∧ d.depth ≤ n) : ∀ ys : List Dt, (∀ y ∈ ys, Ty n y) → ∃ ds, toPys ys = some ds ∧ PyData.canLayAll0 ds = true ∧ PyData.depthAll ds ≤ n ∧ ds.length = ys.length
  | [], _ => ⟨[], rfl, by simp only [PyData.canLayAll0], by simp only [PyData.depthAll]; omega, rfl⟩
  | y :: ys, hy => by
    obtain ⟨d, e1, c1, p1⟩ := h y (hy y List.mem_cons_self)
    obtain ⟨ds, e2, c2, p2, l2⟩ := py_all h ys fun z hz => hy z (List.mem_cons_of_mem _ hz)
    refine ⟨d :: ds, ?_, by simp only [PyData.canLayAll0, c1, c2, Bool.and_self], ?_, by rw [List.length_cons, List.length_cons, l2]⟩
    · simp only [toPys, e1, e2]
    · simp only [PyData.depthAll]
      omega
theorem ty_py : ∀ (n : Nat) (t : Dt), Ty n t → ∃ d, toPy t = some d ∧ d.canLay0 = true ∧ d.depth ≤ n
  | 0, t, h => by
    obtain ⟨d, a, b, c⟩ := atm_py h
    exact ⟨d, a, b, by omega⟩
  | n + 1, t, h => by
    rcases h with h | ⟨xs, ht, hz, hx⟩
    · obtain ⟨d, a, b, c⟩ := atm_py h
      exact ⟨d, a, b, by omega⟩
    · obtain ⟨ds, e, c, p, _⟩ := py_all (ty_py n) xs hx
      rcases ht with rfl | rfl
      · refine ⟨.tuple ds, ?_, by simp only [PyData.canLay0, c], ?_⟩
        · show (toPys xs).map PyData.tuple = _
          rw [e]
          rfl
        · simp only [PyData.depth]
          omega
      · refine ⟨.list ds, ?_, by simp only [PyData.canLay0, c], ?_⟩
        · show (toPys xs).map PyData.list = _
          rw [e]
          rfl
        · simp only [PyData.depth]
          omega
theorem eq_nil_ty {n : Nat} {xs : List Dt} (h : ∀ x ∈ xs, Ty n x) (hn : n ≤ 60) (S : Sto) : eqDv S (.d (.lst xs)) (.d (.lst [])) = some xs.isEmpty := by
  obtain ⟨ds, e, c, p, hl⟩ := py_all (ty_py n) xs h
  have e1 : toPy (.lst xs) = some (.list ds) := by
    show (toPys xs).map PyData.list = _
    rw [e]
    rfl
  have s1 : SeqAt.shaped (.list ds) = true := by
    have d1 : PyData.depth (.list ds) ≤ n + 1 := by
      simp only [PyData.depth]
      exact Nat.succ_le_succ p
    unfold SeqAt.shaped
    simp only [PyData.canLay0, c, Bool.true_and, decide_eq_true_eq]
    omega
  show (match toPy (.lst xs), toPy (.lst []) with
    | some x, some y => if SeqAt.shaped x = true ∧ SeqAt.shaped y = true then some (PyData.eqv x y) else none
    | _, _ => none) = _
  rw [e1]
  show (if SeqAt.shaped (.list ds) = true ∧ SeqAt.shaped (.list []) = true then some (PyData.eqv (.list ds) (.list [])) else none) = _
  rw [if_pos ⟨s1, by decide +kernel⟩]
  cases xs with
  | nil =>
    have : ds = [] := List.eq_nil_of_length_eq_zero hl
    subst this
    simp [PyData.eqv, PyData.eqvAll]
  | cons x xs =>
    cases ds with
    | nil => simp at hl
    | cons d ds => simp [PyData.eqv, PyData.eqvAll]
theorem ne_nil {n : Nat} {xs : List Dt} (h : ∀ x ∈ xs, Ty n x) (hn : n ≤ 60) (S : Sto) : pNe (.d (.lst xs)) (.d (.lst [])) S = some (.d (.bl (!xs.isEmpty)), S) := by
  unfold pNe
  rw [eq_nil_ty h hn]
theorem eq_nil' {n : Nat} {xs : List Dt} (h : ∀ x ∈ xs, Ty n x) (hn : n ≤ 60) (S : Sto) : pEq (.d (.lst xs)) (.d (.lst [])) S = some (.d (.bl xs.isEmpty), S) := by
  unfold pEq
  rw [eq_nil_ty h hn]
section
variable {rows : List (Str × List Str)} {gone : List Str}
end
end Hn
namespace Hn
open PySem PySem.Spec PyProof.Rows L2 Sm
structure Wy (V : List Str) (m : List (Str × Str)) : Prop where
  dj : m.Pairwise Dj
  ri : m.Pairwise fun a b => ltQ a b = true
  all : ∀ p ∈ m, p.1 ∈ V ∧ p.2 ∈ V ∧ ltS p.1 p.2 = true
end Hn
namespace Hn
open PySem PySem.Spec PyProof.Rows L2 Sm
section
variable {rows : List (Str × List Str)} {emps gone : List Str}
end
end Hn
namespace Hn
open PySem PySem.Spec PyProof.Rows L2 Sm
section
variable {rows : List (Str × List Str)} {emps gone : List Str}
end
end Hn
namespace Hn
open PySem PySem.Spec PyProof.Rows L2 Sm
theorem b2i_small (b : Bool) : -(2 ^ 64) < (if b then (1 : Int) else 0) ∧ (if b then (1 : Int) else 0) < 2 ^ 64 := by
  cases b <;> decide
theorem box_ok {c : Int} (hc0 : 0 ≤ c) (hc1 : c < 1000000000) {cs : List Int} {k : Nat} (hk : k < 100) {S : Sto} : ∃ o : Bo, runB 3 2 (boxM c) [.d (.lst (dI cs)), .d (.int (k : Int))] S = .ok (.loc S.length) (S ++ [o]) ∧ Urn o 1000000 := by
  have hcell : ∃ x : Int, mIf (mTst (m2 pLt (mV 1) (mN pLen (aCons (mV 0) (aNil))))) (m2 pIx (mV 0) (mV 1)) (mC (.int 0)) [some (.d (.lst (dI cs))), some (.d (.int (k : Int))), none] S = .ok (.d (.int x)) S := by
    have hl : pLen [.d (.lst (dI cs))] S = some (.d (.int ((dI cs).length : Int)), S) := by
      simp [pLen, dctAt, seqAt, lstAt]
    by_cases h : k < cs.length
    · refine ⟨cs[k], ?_⟩
      have hx : pIx (.d (.lst (dI cs))) (.d (.int (k : Int))) S = some (.d (.int cs[k]), S) := by
        have : atI ((dI cs).map Dv.d) (k : Int) = some (.d (.int cs[k])) := by
          rw [dI_d]
          exact atI_nat (dvI_get h)
        simp only [pIx, dctAt, seqAt, lstAt, this]
      have hc : pLt (.d (.int (k : Int))) (.d (.int ((dI cs).length : Int))) S = some (.d (.bl true), S) := by
        unfold pLt pCmp dI
        simp [h]
      simp only [mIf_s, mTst_s, m2_s, mN_s, mV_s, aCons_s, aNil_s, List.getElem?_cons_zero, List.getElem?_cons_succ, bind_ok, hl, Sm.lift_some, hc, toB_s, li_some, if_true, hx]
    · refine ⟨0, ?_⟩
      have hc : pLt (.d (.int (k : Int))) (.d (.int ((dI cs).length : Int))) S = some (.d (.bl false), S) := by
        unfold pLt pCmp dI
        simp [h]
      simp only [mIf_s, mTst_s, m2_s, mN_s, mV_s, mC_s, aCons_s, aNil_s, List.getElem?_cons_zero, List.getElem?_cons_succ, bind_ok, hl, Sm.lift_some, hc, toB_s, li_some]
      rfl
  obtain ⟨x, hx⟩ := hcell
  have e1 : mulOk (if x < 0 then -x else x) (if decide (10 ^ 18 ≤ (if x < 0 then -x else x)) = true then 1 else 0) = true := small_mul (b2i_small _)
  have e2 : mulOk 39373 (k : Int) = true := small_mul (by omega)
  have h0 : 0 ≤ x % 2305843009213693951 := Int.emod_nonneg _ (by omega)
  have h1 : x % 2305843009213693951 < 2305843009213693951 := Int.emod_lt_of_pos _ (by omega)
  refine ⟨.lst [.d (.int ((if x < 0 then -x else x) * (if decide (10 ^ 18 ≤ (if x < 0 then -x else x)) = true then 1 else 0))), .d (.int (x % 2305843009213693951 + 39373 * k + c)), .d (.int 0)], ?_, _, _, 0, rfl, ?_, by omega, by omega, by omega, by omega⟩
  · refine runB_rt (ds := [.d (.lst (dI cs)), .d (.int (k : Int))]) rfl ?_
    show boxM c [some (.d (.lst (dI cs))), some (.d (.int (k : Int))), none] S = _
    unfold boxM
    rw [sSeq_s, sSet_s, hx, to_ok, sqz_nx]
    have hp : pPow (.d (.int 10)) (.d (.int 18)) S = some (.d (.int (10 ^ 18)), S) := by
      have hd : decide (0 ≤ (18 : Int) ∧ (18 : Int) ≤ 1000000 ∧ (10 : Int).natAbs < 2 ^ 64) = true := by decide
      show (if decide (0 ≤ (18 : Int) ∧ (18 : Int) ≤ 1000000 ∧ (10 : Int).natAbs < 2 ^ 64) = true then some (Dv.d (.int (10 ^ (18 : Int).toNat)), S) else none) = _
      rw [if_pos hd]
      rfl
    have ha : pAbs [.d (.int x)] S = some (.d (.int (if x < 0 then -x else x)), S) := rfl
    generalize hy : (if x < 0 then -x else x) = y at *
    have hg : pGe (.d (.int y)) (.d (.int (10 ^ 18))) S = some (.d (.bl (decide (10 ^ 18 ≤ y))), S) := rfl
    have hi : pInt [.d (.bl (decide (10 ^ 18 ≤ y)))] S = some (.d (.int (if decide (10 ^ 18 ≤ y) = true then 1 else 0)), S) := rfl
    have hm1 : pMul (.d (.int y)) (.d (.int (if decide (10 ^ 18 ≤ y) = true then 1 else 0))) S = some (.d (.int (y * (if decide (10 ^ 18 ≤ y) = true then 1 else 0))), S) := if_pos e1
    have hm2 : pMul (.d (.int 39373)) (.d (.int (k : Int))) S = some (.d (.int (39373 * k)), S) := show (if mulOk 39373 (k : Int) = true then some (Dv.d (Dt.int (39373 * k)), S) else none) = _ from if_pos e2
    have hii : pInt [.d (.int x)] S = some (.d (.int x), S) := rfl
    have hmd : pMod (.d (.int x)) (.d (.int 2305843009213693951)) S = some (.d (.int (x % 2305843009213693951)), S) := show (if (0 : Int) < 2305843009213693951 then some (Dv.d (Dt.int (x % 2305843009213693951)), S) else none) = _ from if_pos (by omega)
    have ha1 : ∀ i j : Int, pAdd (.d (.int i)) (.d (.int j)) S = some (.d (.int (i + j)), S) := fun _ _ => rfl
    have hB : ∀ a b c : Dv, pLstB [a, b, c] S = some (.loc S.length, S ++ [.lst [a, b, c]]) := fun a b c => if_pos (show 3 ≤ 16777216 by omega)
    have hset : ([some (Dv.d (.lst (dI cs))), some (Dv.d (.int (k : Int))), none] : Sm.Env).set 2 (some (.d (.int x))) = [some (Dv.d (.lst (dI cs))), some (Dv.d (.int (k : Int))), some (.d (.int x))] := rfl
    rw [hset]
    simp only [sRet_s, mN_s, m2_s, mC_s, aCons_s, mV_s, aNil_s, List.getElem?_cons_zero, List.getElem?_cons_succ, bind_ok, ha, Sm.lift_some, hp, hg, hi, hm1, hm2, hii, hmd, ha1, hB, to_ok]
  · refine Int.mul_nonneg (by split <;> omega) (by split <;> omega)
theorem law_loop {c : Int} (hc0 : 0 ≤ c) (hc1 : c < 1000000000) {R : FM} (hR : ∀ (S : Sto) (n : Nat) (o : Bo), S[n]? = some o → Urn o 1000000 → ∃ o', R [.loc n] S = .ok (.d (.bl true)) (S.set n o')) (P : Dt) (cs : List Int) : ∀ (ks : List Nat), (∀ k ∈ ks, k < 100) → ∀ S : Sto, ∃ S', lcL (gN 2) cYes (mF R (aCons (mF (runB 3 2 (boxM c)) (aCons (mV 1) (aCons (mV 2) (aNil)))) (aNil))) [some (.d P), some (.d (.lst (dI cs))), none] (ks.map fun k => Dt.int ((k : Nat) : Int)) S = .ok (ks.map fun _ => Dv.d (.bl true)) S'
  | [], _, S => ⟨S, rfl⟩
  | k :: ks, h, S => by
    obtain ⟨o, e1, u⟩ := box_ok hc0 hc1 (cs := cs) (h k List.mem_cons_self) (S := S)
    obtain ⟨o', e2⟩ := hR (S ++ [o]) S.length o (by rw [List.getElem?_append_right (Nat.le_refl _), Nat.sub_self]; rfl) u
    obtain ⟨S', e3⟩ := law_loop hc0 hc1 hR P cs ks (fun j hj => h j (List.mem_cons_of_mem _ hj)) ((S ++ [o]).set S.length o')
    refine ⟨S', ?_⟩
    show bz (some ([some (Dv.d P), some (Dv.d (.lst (dI cs))), some (Dv.d (.int (k : Int)))] : Sm.Env)) _ = _
    simp only [bz_some, cYes_s, nox_ok, bind_ok, if_true, mF_s, aCons_s, mV_s, aNil_s, List.getElem?_cons_zero, List.getElem?_cons_succ, e1, e2, e3]
    rfl
theorem law_of {c : Int} (hc0 : 0 ≤ c) (hc1 : c < 1000000000) {R : FM} (hR : ∀ (S : Sto) (n : Nat) (o : Bo), S[n]? = some o → Urn o 1000000 → ∃ o', R [.loc n] S = .ok (.d (.bl true)) (S.set n o')) : LawTrue (runB 3 1 (lawM 3 (runB 3 2 (boxM c)) R)) := fun ns hl hb => by
  obtain ⟨cs, ec, hc⟩ := cells_ok (ns := ns) hl (S := [])
  obtain ⟨S', el⟩ := law_loop hc0 hc1 hR (.scr (dI ns)) cs (List.range cs.length) (fun k hk => by have := List.mem_range.mp hk; omega) []
  refine ⟨S', runB_rt (ds := [.d (.scr (dI ns))]) rfl ?_⟩
  show lawM 3 (runB 3 2 (boxM c)) R [some (.d (.scr (dI ns))), none, none] [] = _
  have hit : iRg rg1 (aCons (mN pLen (aCons (mV 1) (aNil))) (aNil)) [some (.d (.scr (dI ns))), some (.d (.lst (dI cs))), none] [] = .ok ((List.range cs.length).map fun k => Dt.int ((k : Nat) : Int)) [] := by
    have hl2 : pLen [.d (.lst (dI cs))] [] = some (.d (.int (cs.length : Int)), []) := by
      simp [pLen, dctAt, seqAt, lstAt, dI]
    refine iRg_ok (ds := [.d (.int (cs.length : Int))]) (by simp only [aCons_s, mN_s, mV_s, aNil_s, List.getElem?_cons_zero, List.getElem?_cons_succ, bind_ok, hl2, Sm.lift_some]) ?_
    rw [q_rg (by omega)]
    unfold rgL
    simp
  have hcs : F__law_cells [.d (.scr (dI ns)), .d (.int 3)] [] = .ok (.d (.lst (dI cs))) [] := ec
  have s1 : sSet 1 (mF F__law_cells (aCons (mV 0) (aCons (mC (.int 3)) (aNil)))) [some (.d (.scr (dI ns))), none, none] [] = .nx [some (.d (.scr (dI ns))), some (.d (.lst (dI cs))), none] [] := by
    simp only [sSet_s, mF_s, aCons_s, mV_s, mC_s, aNil_s, List.getElem?_cons_zero, List.getElem?_cons_succ, bind_ok, hcs, to_ok]
    rfl
  have hlen : ((List.range cs.length).map fun k => Dt.int ((k : Nat) : Int)).length ≤ 16777216 := by
    rw [List.length_map, List.length_range]
    omega
  have l1 : mLcI [2] (iRg rg1 (aCons (mN pLen (aCons (mV 1) (aNil))) (aNil))) (gN 2) cYes (mF R (aCons (mF (runB 3 2 (boxM c)) (aCons (mV 1) (aCons (mV 2) (aNil)))) (aNil))) [some (.d (.scr (dI ns))), some (.d (.lst (dI cs))), none] [] = .ok ((List.range cs.length).map fun _ => Dv.d (.bl true)) S' := by
    rw [mLcI_s, hit, bind_ok, if_pos hlen]
    exact el
  have p1 : pLst ((List.range cs.length).map fun _ => Dv.d (.bl true)) S' = some (.d (.lst ((List.range cs.length).map fun _ => .bl true)), S') := by
    have e : ((List.range cs.length).map fun _ => Dv.d (.bl true)) = ((List.range cs.length).map fun _ => Dt.bl true).map Dv.d := by
      rw [List.map_map]
      rfl
    unfold pLst
    rw [e, pures_d]
    exact if_pos (by rw [List.length_map, List.length_range]; omega)
  have p2 : pAll [.d (.lst ((List.range cs.length).map fun _ => .bl true))] S' = some (.d (.bl true), S') := by
    have hb : ∀ l : List Nat, blsOf (l.map fun _ => Dt.bl true) = some (l.map fun _ => true) := fun l => by
      induction l with
      | nil => rfl
      | cons a l ih =>
        show (blsOf (l.map fun _ => Dt.bl true)).map (true :: ·) = _
        rw [ih]
        rfl
    have e : (lstT S' (.d (.lst ((List.range cs.length).map fun _ => .bl true)))).bind blsOf = some ((List.range cs.length).map fun _ => true) := by
      show ((some (((List.range cs.length).map fun _ => Dt.bl true).map Dv.d)).bind pures).bind blsOf = _
      rw [Option.bind_some, pures_d, Option.bind_some, hb]
    unfold pAll
    simp only [e]
    simp
  unfold lawM
  rw [sSeq_s, s1, sqz_nx]
  simp only [sRet_s, mN_s, aCons_s, aNil_s, l1, bind_ok, p1, p2, Sm.lift_some, to_ok]
end Hn
namespace Hn
open PySem PySem.Spec PyProof.Rows L2 Sm
theorem wipe0 {ρ : Sm.Env} : wipeE ρ [] = ρ := rfl
theorem wipe1 {ρ : Sm.Env} {v : Nat} {vs : List Nat} : wipeE ρ (v :: vs) = (wipeE ρ vs).set v none := rfl
theorem setA0 {ρ : Sm.Env} : setAll [] [] ρ = ρ := rfl
theorem setA1 {ρ : Sm.Env} {i : Nat} {is : List Nat} {d : Dv} {ds : List Dv} : setAll (i :: is) (d :: ds) ρ = setAll is ds (ρ.set i (some d)) := rfl
def okT (r : Rz Dv) : Bool := match r with
  | .ok (.d (.bl b)) _ => b
  | _ => false
theorem hand_of {F : FM} (h : okT (iso F [] []) = true) (S : Sto) : iso F [] S = .ok (.d (.bl true)) S := by
  have e : ∀ S, iso F [] S = (match F [] [] with
      | .ok (.d t) _ => Rz.ok (Dv.d t) S
      | .er c t _ => .er c t S
      | _ => .bad) := fun S => rfl
  rw [e] at h ⊢
  cases hF : F [] [] with
  | ok d S1 =>
    rw [hF] at h
    cases d with
    | d t =>
      cases t with
      | bl b =>
        have : b = true := h
        subst this
        rfl
      | _ => cases h
    | loc n => cases h
  | er c t S1 =>
    rw [hF] at h
    cases h
  | bad =>
    rw [hF] at h
    cases h
def Wq (Q : Sz → Prop) (r : Sz) : Prop := Q r
section
variable {Q : Sz → Prop} {a b c : SM} {ρ ρ1 ρ2 : Sm.Env} {S S1 S2 : Sto} {r : Sz} {g : GM} {it : M (List Dt)} {ts : List Dt} {ζ : Type}
theorem st_set {i : Nat} {m : M Dv} {d : Dv} (h : m ρ S = .ok d S1) : sSet i m ρ S = .nx (ρ.set i (some d)) S1 := by
  rw [sSet_s, h, to_ok]
theorem st_ret {m : M Dv} {d : Dv} (h : m ρ S = .ok d S1) : sRet m ρ S = .rt d S1 := by
  rw [sRet_s, h, to_ok]
theorem st_pars {is : List Nat} {m : M (List Dv)} {ds : List Dv} (h : m ρ S = .ok ds S1) (hl : ds.length = is.length) : sPars is m ρ S = .nx (setAll is ds ρ) S1 := by
  show (m ρ S).to ρ _ = _
  rw [h, to_ok, if_pos hl]
theorem st_if_t {k : M Bool} (h : k ρ S = .ok true S1) (e : a ρ S1 = r) : sIf k a b ρ S = r := by
  rw [sIf_s, h, to_ok, if_pos rfl, e]
theorem st_if_f {k : M Bool} (h : k ρ S = .ok false S1) (e : b ρ S1 = r) : sIf k a b ρ S = r := by
  rw [sIf_s, h, to_ok, if_neg (by decide), e]
theorem ex_m2 {p : P2} {x y : M Dv} {d e r : Dv} {S3 : Sto} (hx : x ρ S = .ok d S1) (hy : y ρ S1 = .ok e S2) (hp : p d e S2 = some (r, S3)) : m2 p x y ρ S = .ok r S3 := by
  rw [m2_s, hx, bind_ok, hy, bind_ok, hp, Sm.lift_some]
theorem ex_mN {p : PN} {x : M (List Dv)} {ds : List Dv} {r : Dv} (hx : x ρ S = .ok ds S1) (hp : p ds S1 = some (r, S2)) : mN p x ρ S = .ok r S2 := by
  rw [mN_s, hx, bind_ok, hp, Sm.lift_some]
theorem ex_mF {F : FM} {x : M (List Dv)} {ds : List Dv} {r : Rz Dv} (hx : x ρ S = .ok ds S1) (hp : F ds S1 = r) : mF F x ρ S = r := by
  rw [mF_s, hx, bind_ok, hp]
theorem ex_a1 {x : M Dv} {d : Dv} (hx : x ρ S = .ok d S1) : aCons x aNil ρ S = .ok [d] S1 := by
  rw [aCons_s, hx, bind_ok, aNil_s, bind_ok]
theorem st_for (hi : it ρ S = .ok ts S1) (h : forL g b ts ρ S1 = r) : sFor it g b ρ S = r := by
  rw [sFor_s, hi, to_ok, h]
end
theorem turns_of {c k : Nat} {body : SM} (ht : ∀ (z : List (Option Dv)) (o : Bo) (m : Nat), z.length = k → Urn o (c + m) → ∃ o', Urn o' m ∧ Wq (fun w => ∃ z', z'.length = k ∧ w = .nx (some (.loc 0) :: z') [o']) (body (some (.loc 0) :: z) [o])) : ∀ (ts : List Dt) (z : List (Option Dv)) (o : Bo) (m : Nat), z.length = k → Urn o (c * ts.length + m) → ∃ (z' : List (Option Dv)) (o' : Bo), z'.length = k ∧ Urn o' m ∧ forL (gN 1) body ts (some (.loc 0) :: z) [o] = .nx (some (.loc 0) :: z') [o']
  | [], z, o, m, hz, u => ⟨z, o, hz, u.less (by omega), rfl⟩
  | t :: ts, z, o, m, hz, u => by
    have hm : c * (t :: ts).length = c + c * ts.length := by
      rw [List.length_cons, Nat.mul_add, Nat.mul_one, Nat.add_comm]
    obtain ⟨o1, u1, z1, hz1, e1⟩ := ht (z.set 0 (some (.d t))) o (c * ts.length + m) (by rw [List.length_set]; exact hz) (u.less (by omega))
    obtain ⟨z2, o2, hz2, u2, e2⟩ := turns_of ht ts z1 o1 m hz1 u1
    refine ⟨z2, o2, hz2, u2, ?_⟩
    rw [forL_nx (ρ1 := some (.loc 0) :: z.set 0 (some (.d t))) rfl e1, e2]
theorem right_of {c k n : Nat} {hand : FM} {body : SM} {o : Bo} (hh : ∀ S, hand [] S = .ok (.d (.bl true)) S) (hn : n < 1000) (hc : c * n ≤ 1000000)
    (ht : ∀ (z : List (Option Dv)) (o : Bo) (m : Nat), z.length = k → Urn o (c + m) → ∃ o', Urn o' m ∧ Wq (fun w => ∃ z', z'.length = k ∧ w = .nx (some (.loc 0) :: z') [o']) (body (some (.loc 0) :: z) [o])) (u : Urn o 1000000) :
    ∃ o', runB (k + 1) 1 (sSeq (sIf (cNot (mTru pTru (mF hand aNil))) (sRet (mC (.bl false))) sNil) (sSeq (sFor (iRg rg1 (aCons (mC (.int (n : Int))) aNil)) (gN 1) body) (sRet (mC (.bl true))))) [.loc 0] [o] = .ok (.d (.bl true)) [o'] ∧ Urn o' 0 := by
  have tr : ∀ (b : Bool) (S : Sto), pTru (.d (.bl b)) S = some b := fun _ _ => rfl
  have hl : (rgL 0 n).length = n := by
    unfold rgL
    rw [List.length_map, List.length_range]
  obtain ⟨z', o', hz, u', e⟩ := turns_of ht (rgL 0 n) (List.replicate k none) o 0 List.length_replicate (u.less (by rw [hl]; omega))
  refine ⟨o', runB_rt (ds := [.loc 0]) rfl ?_, u'⟩
  show sSeq _ _ (some (.loc 0) :: List.replicate k none) [o] = _
  have s0 : sIf (cNot (mTru pTru (mF hand aNil))) (sRet (mC (.bl false))) sNil (some (.loc 0) :: List.replicate k none) [o] = .nx (some (.loc 0) :: List.replicate k none) [o] := by
    simp only [sSeq_s, sSet_s, sRet_s, sDrop_s, sIf_s, sFor_s, sPars_s, sNil_s, sqz_nx, sqz_rt, m1_s, m2_s, mN_s, mF_s, mV_s, mC_s, aCons_s, aNil_s, aApp_s, mIf_s, mTst_s, toB_s, mTru_s, cAnd_s, cOr_s, cNot_s, cYes_s, mAnd_s, mSl_s, oPt_s, oNo_s, mFrz_s, gN_s, gT_s, List.getElem?_cons_zero, List.getElem?_cons_succ, bind_ok, to_ok, Sm.lift_some, li_some, oz_some, bz_some, nox_ok, hh, tr]
    rfl
  rw [sSeq_s, s0, sqz_nx, sSeq_s, st_for (iRg_ok (ds := [.d (.int (n : Int))]) rfl (q_rg hn)) e, sqz_nx]
  rfl
end Hn
namespace Hw
open PySem PySem.Spec PyProof.Rows L2 Sm Hn
section
variable {P1 P2 P5 : Dt} {L : List Str} {n : Nat} {folk emp : List Str} {st wd : Int} {z11 z12 z13 z14 z16 z17 : Option Dv}
end
end Hw
namespace Hw
open PySem PySem.Spec PyProof.Rows L2 Sm Hn
end Hw
namespace Hw
open PySem PySem.Spec PyProof.Rows L2 Sm Hn
section
variable {ln : List Str} {wd : Int}
structure Wv (ln : List Str) (k : Nat) (ps : List (Str × Str)) : Prop where
  nd : ps.Nodup
  mem : ∀ p ∈ ps, p.1 ∈ ln.take k ∧ p.2 ∈ ln ∧ ltS p.1 p.2 = true
  z : ps.length ≤ 8 * k
end
end Hw
namespace Hn
open PySem PySem.Spec PyProof.Rows L2 Sm
section
variable {rows : List (Str × List Str)} {emps : List Str}
theorem sortS_ddS (l : List Str) : Asc (sortS (ddS l)) := asc_of (sortS_sorted _) ((sortS_perm _).nodup_iff.mpr (ddS_nodup l))
theorem mem_ddS {l : List Str} {x : Str} : x ∈ ddS l ↔ x ∈ l := ddS_mem
theorem asc_eq {l m : List Str} (h1 : Asc l) (h2 : Asc m) (h : ∀ x, x ∈ l ↔ x ∈ m) : l = m :=
  sorted_eq (List.Pairwise.imp (fun {a b} h => leS_iff.mpr (List.le_of_lt (of_decide_eq_true h))) h1) (List.Pairwise.imp (fun {a b} h => leS_iff.mpr (List.le_of_lt (of_decide_eq_true h))) h2) ((List.perm_ext_iff_of_nodup h1.nodup h2.nodup).mpr h)
theorem setSorted {l : List Str} {S : Sto} (h : l.length ≤ 4000) : pSortSet (.d (lstS l)) S = some (.d (lstS (sortS (ddS l))), S) := by
  have e : (itemsOf S (.d (lstS l))).bind strsOf = some l := by
    have e1 : itemsOf S (.d (lstS l)) = some (l.map Dt.str) := pures_d _
    rw [e1, Option.bind_some, strsOf_map]
  unfold pSortSet
  rw [e]
  simp only
  rw [if_pos h]
end
end Hn
namespace Hn
open PySem PySem.Spec PyProof.Rows L2 Sm
def Atz (t : Dt) : Prop := (∃ s, PyData.strOk s = true ∧ t = .str s) ∨ (∃ i : Int, t = .int i) ∨ t = .non
def Tz : Nat → Dt → Prop
  | 0, t => Atz t
  | n + 1, t => Atz t ∨ ∃ xs, (t = .tup xs ∨ t = .lst xs) ∧ ∀ x ∈ xs, Tz n x
theorem Tz.at {n : Nat} {t : Dt} (h : Tz n t) : Atz t ∨ ∃ k xs, n = k + 1 ∧ (t = .tup xs ∨ t = .lst xs) ∧ ∀ x ∈ xs, Tz k x := by
  cases n with
  | zero => exact .inl h
  | succ n => exact h.imp id fun ⟨xs, a, b⟩ => ⟨n, xs, rfl, a, b⟩
theorem Tz.str {s : Str} (h : PyData.strOk s = true) : Tz 0 (.str s) := .inl ⟨s, h, rfl⟩
theorem Tz.int (i : Int) : Tz 0 (.int i) := .inr (.inl ⟨i, rfl⟩)
theorem Tz.tup {n : Nat} {xs : List Dt} (h : ∀ x ∈ xs, Tz n x) : Tz (n + 1) (.tup xs) := .inr ⟨xs, .inl rfl, h⟩
theorem toPys_enc : ∀ {xs : List Dt}, (∀ x ∈ xs, toPy x = some (encT x)) → toPys xs = some (xs.map encT)
  | [], _ => rfl
  | x :: xs, h => by
    have h1 := h x List.mem_cons_self
    have h2 := toPys_enc (xs := xs) fun y hy => h y (List.mem_cons_of_mem _ hy)
    show (match toPy x, toPys xs with
      | some a, some b => some (a :: b)
      | _, _ => none) = _
    rw [h1, h2]
    rfl
theorem enc_tup {xs : List Dt} (h : toPys xs = some (xs.map encT)) : toPy (.tup xs) = some (.tuple (xs.map encT)) ∧ encT (.tup xs) = .tuple (xs.map encT) := by
  have e : toPy (.tup xs) = some (.tuple (xs.map encT)) := by
    show (toPys xs).map PyData.tuple = _
    rw [h]
    rfl
  exact ⟨e, by unfold encT; rw [e]; rfl⟩
theorem enc_lst {xs : List Dt} (h : toPys xs = some (xs.map encT)) : toPy (.lst xs) = some (.list (xs.map encT)) ∧ encT (.lst xs) = .list (xs.map encT) := by
  have e : toPy (.lst xs) = some (.list (xs.map encT)) := by
    show (toPys xs).map PyData.list = _
    rw [h]
    rfl
  exact ⟨e, by unfold encT; rw [e]; rfl⟩
theorem tz_py : ∀ {n : Nat} {t : Dt}, Tz n t → toPy t = some (encT t) ∧ (encT t).canLay0 = true ∧ (encT t).depth ≤ n := by
  have atm : ∀ {n : Nat} {t : Dt}, Atz t → toPy t = some (encT t) ∧ (encT t).canLay0 = true ∧ (encT t).depth ≤ n := fun {n t} h => by
    rcases h with ⟨s, hs, rfl⟩ | ⟨i, rfl⟩ | rfl
    · exact ⟨rfl, by show (PyData.str s).canLay0 = true; simp only [PyData.canLay0, hs], by show (PyData.str s).depth ≤ n; simp only [PyData.depth]; omega⟩
    · exact ⟨rfl, by show (PyData.int i).canLay0 = true; simp only [PyData.canLay0], by show (PyData.int i).depth ≤ n; simp only [PyData.depth]; omega⟩
    · exact ⟨rfl, by show PyData.none.canLay0 = true; simp only [PyData.canLay0], by show PyData.none.depth ≤ n; simp only [PyData.depth]; omega⟩
  intro n
  induction n with
  | zero => exact fun h => atm h
  | succ n ih =>
    intro t h
    rcases h with h | ⟨xs, ht, hx⟩
    · exact atm h
    · have all : ∀ ys : List Dt, (∀ y ∈ ys, Tz n y) → PyData.canLayAll0 (ys.map encT) = true ∧ PyData.depthAll (ys.map encT) ≤ n := by
        intro ys
        induction ys with
        | nil => exact fun _ => ⟨by simp only [List.map_nil, PyData.canLayAll0], by simp only [List.map_nil, PyData.depthAll]; omega⟩
        | cons y ys ihy =>
          intro hy
          obtain ⟨_, c1, p1⟩ := ih (hy y List.mem_cons_self)
          obtain ⟨c2, p2⟩ := ihy fun z hz => hy z (List.mem_cons_of_mem _ hz)
          refine ⟨by simp only [List.map_cons, PyData.canLayAll0, c1, c2, Bool.and_self], ?_⟩
          simp only [List.map_cons, PyData.depthAll]
          omega
      obtain ⟨c, p⟩ := all xs hx
      have e := toPys_enc fun x hm => (ih (hx x hm)).1
      rcases ht with rfl | rfl
      · obtain ⟨e1, e2⟩ := enc_tup e
        rw [e2]
        exact ⟨e1, by simp only [PyData.canLay0, c], by simp only [PyData.depth]; omega⟩
      · obtain ⟨e1, e2⟩ := enc_lst e
        rw [e2]
        exact ⟨e1, by simp only [PyData.canLay0, c], by simp only [PyData.depth]; omega⟩
theorem tz_shaped {n : Nat} {t : Dt} (h : Tz n t) (hn : n ≤ 63) : SeqAt.shaped (encT t) = true := by
  obtain ⟨_, c, p⟩ := tz_py h
  unfold SeqAt.shaped
  simp only [c, Bool.true_and, decide_eq_true_eq]
  omega
theorem eqv_tz : ∀ {n m : Nat} {t u : Dt}, Tz n t → Tz m u → (PyData.eqv (encT t) (encT u) = true ↔ t = u) := by
  have sq : ∀ {n m : Nat} {t : Dt} {xs : List Dt}, Atz t → (∀ x ∈ xs, Tz m x) → PyData.eqv (encT t) (encT (.tup xs)) = false ∧ PyData.eqv (encT t) (encT (.lst xs)) = false ∧ PyData.eqv (encT (.tup xs)) (encT t) = false ∧ PyData.eqv (encT (.lst xs)) (encT t) = false := fun {n m t xs} h hx => by
    have e := toPys_enc fun x hm => (tz_py (hx x hm)).1
    rw [(enc_tup e).2, (enc_lst e).2]
    rcases h with ⟨s, hs, rfl⟩ | ⟨i, rfl⟩ | rfl
    · rw [show encT (.str s) = .str s from rfl]; simp [PyData.eqv]
    · rw [show encT (.int i) = .int i from rfl]; simp [PyData.eqv]
    · rw [show encT .non = .none from rfl]; simp [PyData.eqv]
  intro n
  induction n with
  | zero =>
    intro m t u h h2
    have h' : Atz t := h
    rcases h2.at with h2 | ⟨k, ys, _, hu, hy⟩
    · rcases h' with ⟨s, hs, rfl⟩ | ⟨i, rfl⟩ | rfl <;> rcases h2 with ⟨s2, hs2, rfl⟩ | ⟨i2, rfl⟩ | rfl
      · rw [show encT (.str s) = .str s from rfl, show encT (.str s2) = .str s2 from rfl]; simp [PyData.eqv]
      · rw [show encT (.str s) = .str s from rfl, show encT (.int i2) = .int i2 from rfl]; simp [PyData.eqv]
      · rw [show encT (.str s) = .str s from rfl, show encT .non = .none from rfl]; simp [PyData.eqv]
      · rw [show encT (.int i) = .int i from rfl, show encT (.str s2) = .str s2 from rfl]; simp [PyData.eqv]
      · rw [show encT (.int i) = .int i from rfl, show encT (.int i2) = .int i2 from rfl]; simp [PyData.eqv]
      · rw [show encT (.int i) = .int i from rfl, show encT .non = .none from rfl]; simp [PyData.eqv]
      · rw [show encT .non = .none from rfl, show encT (.str s2) = .str s2 from rfl]; simp [PyData.eqv]
      · rw [show encT .non = .none from rfl, show encT (.int i2) = .int i2 from rfl]; simp [PyData.eqv]
      · rw [show encT .non = .none from rfl]; simp [PyData.eqv]
    · have := sq (n := 0) h' hy
      rcases hu with rfl | rfl
      · rw [this.1]
        refine ⟨fun z => (by cases z), fun z => ?_⟩
        subst z
        rcases h' with ⟨s, hs, z⟩ | ⟨i, z⟩ | z <;> cases z
      · rw [this.2.1]
        refine ⟨fun z => (by cases z), fun z => ?_⟩
        subst z
        rcases h' with ⟨s, hs, z⟩ | ⟨i, z⟩ | z <;> cases z
  | succ n ih =>
    intro m t u h h2
    rcases h with h | ⟨xs, ht, hx⟩
    · -- an atom
      have h' : Atz t := h
      rcases h2.at with h2 | ⟨k, ys, _, hu, hy⟩
      · rcases h' with ⟨s, hs, rfl⟩ | ⟨i, rfl⟩ | rfl <;> rcases h2 with ⟨s2, hs2, rfl⟩ | ⟨i2, rfl⟩ | rfl
        · rw [show encT (.str s) = .str s from rfl, show encT (.str s2) = .str s2 from rfl]; simp [PyData.eqv]
        · rw [show encT (.str s) = .str s from rfl, show encT (.int i2) = .int i2 from rfl]; simp [PyData.eqv]
        · rw [show encT (.str s) = .str s from rfl, show encT .non = .none from rfl]; simp [PyData.eqv]
        · rw [show encT (.int i) = .int i from rfl, show encT (.str s2) = .str s2 from rfl]; simp [PyData.eqv]
        · rw [show encT (.int i) = .int i from rfl, show encT (.int i2) = .int i2 from rfl]; simp [PyData.eqv]
        · rw [show encT (.int i) = .int i from rfl, show encT .non = .none from rfl]; simp [PyData.eqv]
        · rw [show encT .non = .none from rfl, show encT (.str s2) = .str s2 from rfl]; simp [PyData.eqv]
        · rw [show encT .non = .none from rfl, show encT (.int i2) = .int i2 from rfl]; simp [PyData.eqv]
        · rw [show encT .non = .none from rfl]; simp [PyData.eqv]
      · have := sq (n := 0) h' hy
        rcases hu with rfl | rfl
        · rw [this.1]
          refine ⟨fun z => (by cases z), fun z => ?_⟩
          subst z
          rcases h' with ⟨s, hs, z⟩ | ⟨i, z⟩ | z <;> cases z
        · rw [this.2.1]
          refine ⟨fun z => (by cases z), fun z => ?_⟩
          subst z
          rcases h' with ⟨s, hs, z⟩ | ⟨i, z⟩ | z <;> cases z
    · rcases h2.at with h2 | ⟨k, ys, hm, hu, hy⟩
      · have := sq (n := 0) h2 hx
        rcases ht with rfl | rfl
        · rw [this.2.2.1]
          refine ⟨fun z => (by cases z), fun z => ?_⟩
          subst z
          rcases h2 with ⟨s, hs, z⟩ | ⟨i, z⟩ | z <;> cases z
        · rw [this.2.2.2]
          refine ⟨fun z => (by cases z), fun z => ?_⟩
          subst z
          rcases h2 with ⟨s, hs, z⟩ | ⟨i, z⟩ | z <;> cases z
      · have all : ∀ (xs ys : List Dt), (∀ x ∈ xs, Tz n x) → (∀ y ∈ ys, Tz k y) → (PyData.eqvAll (xs.map encT) (ys.map encT) = true ↔ xs = ys) := by
          intro xs
          induction xs with
          | nil =>
            intro ys _ _
            cases ys with
            | nil => simp [PyData.eqvAll]
            | cons y ys => simp [PyData.eqvAll]
          | cons x xs ihx =>
            intro ys h1 h2
            cases ys with
            | nil => simp [PyData.eqvAll]
            | cons y ys =>
              rw [List.map_cons, List.map_cons, PyData.eqvAll, Bool.and_eq_true, ih (h1 x List.mem_cons_self) (h2 y List.mem_cons_self), ihx ys (fun z hz => h1 z (List.mem_cons_of_mem _ hz)) (fun z hz => h2 z (List.mem_cons_of_mem _ hz)), List.cons.injEq]
        have e1 := toPys_enc fun x hm => (tz_py (hx x hm)).1
        have e2 := toPys_enc fun x hm => (tz_py (hy x hm)).1
        have a := all xs ys hx hy
        rcases ht with rfl | rfl <;> rcases hu with rfl | rfl
        · rw [(enc_tup e1).2, (enc_tup e2).2, PyData.eqv, a]; simp
        · rw [(enc_tup e1).2, (enc_lst e2).2]; simp [PyData.eqv]
        · rw [(enc_lst e1).2, (enc_tup e2).2]; simp [PyData.eqv]
        · rw [(enc_lst e1).2, (enc_lst e2).2, PyData.eqv, a]; simp
theorem eqDv_tz {n m : Nat} {t u : Dt} {P : Prop} [Decidable P] (h1 : Tz n t) (h2 : Tz m u) (hn : n ≤ 63) (hm : m ≤ 63) (hp : t = u ↔ P) (S : Sto) : eqDv S (.d t) (.d u) = some (decide P) := by
  have e : PyData.eqv (encT t) (encT u) = decide P := by
    have := (eqv_tz h1 h2).trans hp
    cases h : decide P with
    | true => exact this.mpr (of_decide_eq_true h)
    | false =>
      cases h3 : PyData.eqv (encT t) (encT u) with
      | false => rfl
      | true => exact absurd (this.mp h3) (of_decide_eq_false h)
  show (match toPy t, toPy u with
    | some x, some y => if SeqAt.shaped x = true ∧ SeqAt.shaped y = true then some (PyData.eqv x y) else none
    | _, _ => none) = _
  rw [(tz_py h1).1, (tz_py h2).1]
  show (if _ then some (PyData.eqv (encT t) (encT u)) else none) = _
  rw [if_pos ⟨tz_shaped h1 hn, tz_shaped h2 hm⟩, e]
theorem ne_tz {n m : Nat} {t u : Dt} {P : Prop} [Decidable P] (h1 : Tz n t) (h2 : Tz m u) (hn : n ≤ 63) (hm : m ≤ 63) (hp : t = u ↔ P) (S : Sto) : pNe (.d t) (.d u) S = some (.d (.bl (!decide P)), S) := by
  unfold pNe
  rw [eqDv_tz h1 h2 hn hm hp]
end Hn
namespace Hn
open PySem PySem.Spec PyProof.Rows L2 Sm
section
variable {F : FM} {ts xs : List Dt} {S S1 : Sto} {n : Nat}
theorem pures_iso {xs : List Dt} : (pures (xs.map Dv.d)).isSome = true := by rw [pures_d]; rfl
end
end Hn
namespace Hn
open PySem PySem.Spec PyProof.Rows L2 Sm
section
variable {B L : Sto} {k : Nat}
end
end Hn
namespace Hn
open PySem PySem.Spec PyProof.Rows L2 Sm
end Hn
namespace Hn
open PySem PySem.Spec PyProof.Rows L2 Sm
end Hn
namespace Hn
open PySem PySem.Spec PyProof.Rows L2 Sm
end Hn
namespace Hn
open PySem PySem.Spec PyProof.Rows L2 Sm
structure Gone (rows : List (Str × List Str)) (gone : List Str) : Prop where
  sub : gone.Sublist (folk rows)
  z : gone.length ≤ 8
  mem : ∀ x ∈ gone, x ∈ folk rows
  ok : ∀ x ∈ gone, PyData.strOk x = true
end Hn
namespace Hn
open PySem PySem.Spec PyProof.Rows L2 Sm
def setS (l : List Str) : List Str := sortS (ddS l)
def nxt (adj : Str → List Str) (T found new : List Str) : List Str := (setS (new.flatMap adj)).filter fun y => decide (y ∈ T) && !decide (y ∈ found)
def bfs (adj : Str → List Str) (T : List Str) : Nat → List Str → List Str → List Str
  | 0, found, _ => found
  | n + 1, found, new => if new.isEmpty = true then found else bfs adj T n (found ++ nxt adj T found new) (nxt adj T found new)
def left (T found : List Str) : List Str := T.filter fun y => !decide (y ∈ found)
inductive Rc (adj : Str → List Str) (T : List Str) : Str → Str → Prop
  | refl (x : Str) : Rc adj T x x
  | step {x y z : Str} : Rc adj T x y → z ∈ adj y → z ∈ T → Rc adj T x z
def part (adj : Str → List Str) (T : List Str) (x : Str) : List Str := setS (bfs adj T (T.length + 3) [x] [x])
def rest (T : List Str) (acc : List (List Str)) : List Str := T.filter fun y => !acc.any fun p => decide (y ∈ p)
end Hn
namespace Hn
open PySem PySem.Spec PyProof.Rows L2 Sm
section
variable {S0 : Sto} {n m : Nat} {rows : List (Str × List Str)} {gone : List Str}
end
end Hn
namespace Hn
open PySem PySem.Spec PyProof.Rows L2 Sm
theorem bls_of : ∀ l : List Bool, blsOf (l.map .bl) = some l
  | [] => rfl
  | b :: l => by
    show (blsOf (l.map .bl)).map (b :: ·) = _
    rw [bls_of l]
    rfl
theorem any_b {l : List Bool} {S : Sto} : pAny [.d (.lst (l.map .bl))] S = some (.d (.bl (l.any id)), S) := by
  have e : (lstT S (.d (.lst (l.map .bl)))).bind blsOf = some l := by
    show ((lstAt S (.d (.lst (l.map .bl)))).bind pures).bind blsOf = _
    have : lstAt S (.d (.lst (l.map .bl))) = some ((l.map Dt.bl).map .d) := rfl
    rw [this, Option.bind_some, pures_d, Option.bind_some, bls_of]
  unfold pAny
  simp only [e]
theorem all_b {l : List Bool} {S : Sto} : pAll [.d (.lst (l.map .bl))] S = some (.d (.bl (l.all id)), S) := by
  have e : (lstT S (.d (.lst (l.map .bl)))).bind blsOf = some l := by
    show ((lstAt S (.d (.lst (l.map .bl)))).bind pures).bind blsOf = _
    have : lstAt S (.d (.lst (l.map .bl))) = some ((l.map Dt.bl).map .d) := rfl
    rw [this, Option.bind_some, pures_d, Option.bind_some, bls_of]
  unfold pAll
  simp only [e]
theorem set_back {S : Sto} {n : Nat} {x b : Bo} (h : S[n]? = some b) : (S.set n x).set n b = S := by
  obtain ⟨h1, h2⟩ := List.getElem?_eq_some_iff.mp h
  rw [List.set_set, ← h2]
  exact List.set_getElem_self h1
theorem mLcR_pure {α : Type} (enc : α → Dt) (l : List α) (p : α → Bool) (f : α → Dt) {i n : Nat} {vs : List Nat} {g : GM} {c : M Bool} {e : M Dv} {ρ : Sm.Env} {S : Sto} (hi : ρ[i]? = some (some (.loc n))) (hS : S[n]? = some (.lst ((l.map enc).map .d))) (hz : l.length ≤ 16777216) (hno : (S.set n .dead).all (noL n) = true)
    (h : ∀ a ∈ l, ∃ ρ1, g (.d (enc a)) (wipeE ρ vs) = some ρ1 ∧ c ρ1 (S.set n .dead) = .ok (p a) (S.set n .dead) ∧ (p a = true → e ρ1 (S.set n .dead) = .ok (.d (f a)) (S.set n .dead))) : mLcR pLst i vs g c e ρ S = .ok (.d (.lst ((l.filter p).map f))) S := by
  unfold mLcR
  simp only [hi, hS, pures_d]
  rw [if_pos (by rw [List.length_map]; exact hz), lc_pure enc p f l h, bind_ok, if_pos ⟨pures_iso, hno⟩, set_back hS, pLst_d (by rw [List.length_map]; exact Nat.le_trans (List.length_filter_le _ _) hz), Sm.lift_some]
structure PartsOk (T : List Str) (L : List (List Str)) : Prop where
  ne : ∀ l ∈ L, l ≠ []
  sub : ∀ l ∈ L, ∀ x ∈ l, x ∈ T
  asc : ∀ l ∈ L, Asc l
  z : L.length ≤ T.length
section
variable {S0 : Sto} {n m : Nat} {rows : List (Str × List Str)} {gone : List Str}
end
end Hn
namespace Hn
open PySem PySem.Spec PyProof.Rows L2 Sm
section
variable {P : List (Str × Str)} {crew : Dt}
end
end Hn
namespace Hn
open PySem PySem.Spec PyProof.Rows L2 Sm
section
variable {rows : List (Str × List Str)} {emps gone : List Str}
end
end Hn
namespace Hn
open PySem PySem.Spec PyProof.Rows L2 Sm
abbrev Stay := Str × Int × Int
end Hn
namespace Hn
open PySem PySem.Spec PyProof.Rows L2 Sm
theorem app_then {mo : M Dv} {ma : M (List Dv)} {ρ : Sm.Env} {S S1 : Sto} {n : Nat} {xs : List Dv} {d : Dv} (h1 : mo ρ S = .ok (.loc n) S) (h0 : isLs S (.loc n) = true) (h2 : ma ρ S = .ok [d] S1) (h3 : S1[n]? = some (.lst xs)) (h4 : xs.length < 16777216) : sDrop (mLm pAppend mo ma) ρ S = .nx ρ (S1.set n (.lst (xs ++ [d]))) := by
  have e2 : pAppend (.loc n) [d] S1 = some (.d .non, S1.set n (.lst (xs ++ [d]))) := by
    unfold pAppend
    simp only [h3]
    rw [if_pos h4]
  rw [sDrop_s, mLm_s, h1, bind_ok, if_pos h0, h2, bind_ok, e2, Sm.lift_some, to_ok]
def StayOk (e : Stay) : Prop := 0 ≤ e.2.1 ∧ e.2.1 ≤ e.2.2 ∧ e.2.2 ≤ 12
end Hn
namespace Hn
open PySem PySem.Spec PyProof.Rows L2 Sm
def dayOf : List Stay → Str → Int × Int
  | [], _ => (0, 0)
  | e :: r, x => if e.1 = x then e.2 else dayOf r x
abbrev nmC (st : List Stay) : List Str := st.map (·.1)
structure CalS (st : List Stay) : Prop where
  asc : Asc (nmC st)
  z : st.length ≤ 9
  ok : ∀ e ∈ st, StayOk e
  nm : ∀ e ∈ st, PyData.strOk e.1 = true
section
variable {st : List Stay}
end
end Hn
namespace Hn
open PySem PySem.Spec PyProof.Rows L2 Sm
def maxZ (i j : Int) : Int := if j > i then j else i
def minZ (i j : Int) : Int := if j < i then j else i
def ends (st : List Stay) (x y : Str) : Int × Int := (maxZ (dayOf st x).1 (dayOf st y).1, minZ (dayOf st x).2 (dayOf st y).2)
section
variable {st : List Stay}
theorem le_i {i j : Int} {S : Sto} : pLe (.d (.int i)) (.d (.int j)) S = some (.d (.bl (decide (i ≤ j))), S) := rfl
end
end Hn
namespace Rg
section
variable {α : Type} [DecidableEq α]
abbrev Ed (α : Type) := α × α × Int
def setF {β : Type} (f : α → β) (v : α) (x : β) : α → β := fun y => if y = v then x else f y
@[simp] theorem setF_same {β : Type} {f : α → β} {v : α} {x : β} : setF f v x v = x := if_pos rfl
inductive Bk (b : α → Option (α × Int)) : α → List α → α → Prop where
  | nil (x : α) : Bk b x [] x
  | cons {x u y : α} {g : Int} {l : List α} : b x = some (u, g) → Bk b u l y → Bk b x (x :: l) y
def gn (b : α → Option (α × Int)) (x : α) : Int := match b x with
  | some (_, g) => g
  | none => 0
def sumI : List Int → Int
  | [] => 0
  | a :: r => a + sumI r
def sg (b : α → Option (α × Int)) (l : List α) : Int := sumI (l.map (gn b))
structure Inv (E : List (Ed α)) (r : α → Int) (b : α → Option (α × Int)) : Prop where
  ed : ∀ v u g, b v = some (u, g) → (u, v, g) ∈ E ∧ r v ≤ r u + g
  root : ∀ v, b v = none → r v = 0
  pos : ∀ x l, l ≠ [] → Bk b x l x → 0 < sg b l
variable {E : List (Ed α)} {r : α → Int} {b : α → Option (α × Int)} {u v : α} {g : Int}
end
end Rg
namespace Rg
section
variable {α : Type} [DecidableEq α] {E : List (Ed α)} {r r0 : α → Int} {b : α → Option (α × Int)} {u v : α} {g : Int}
structure Ps (E d : List (Ed α)) (r0 r : α → Int) (b : α → Option (α × Int)) (last : Option α) : Prop where
  inv : Inv E r b
  mono : ∀ y, r0 y ≤ r y
  non : last = none → ∀ e ∈ d, r e.1 + e.2.2 ≤ r e.2.1
  som : ∀ v, last = some v → r0 v < r v ∧ b v ≠ none
structure Tab (α : Type) [DecidableEq α] where
  ns : List α
  W : α → α → Option Int
  hs : List α
  free : α
def Tab.w (t : Tab α) (n h : α) : Int := (t.W n h).getD 0
structure Tab.Ok (t : Tab α) : Prop where
  nn : t.ns.Nodup
  hn : t.hs.Nodup
  fr : t.free ∉ t.hs
  sub : ∀ n ∈ t.ns, ∀ h w, t.W n h = some w → h ∈ t.hs
structure Asg (t : Tab α) (T : α → α) : Prop where
  ok : ∀ n ∈ t.ns, t.W n (T n) ≠ none
  inj : (t.ns.map T).Nodup
structure Stp (t : Tab α) (T : α → α) (E : List (Ed α)) : Prop where
  fwd : ∀ u v g, (u, v, g) ∈ E → (u ∈ t.hs ∧ u ∉ t.ns.map T ∧ v = t.free ∧ g = 0) ∨ (∃ n ∈ t.ns, u = t.free ∧ v = T n ∧ g = 0) ∨ (∃ n ∈ t.ns, ∃ w, u = T n ∧ v ≠ T n ∧ t.W n v = some w ∧ g = w - t.w n (T n))
  go : ∀ n ∈ t.ns, ∀ h w, t.W n h = some w → h ≠ T n → (T n, h, w - t.w n (T n)) ∈ E
  out : ∀ h ∈ t.hs, h ∉ t.ns.map T → (h, t.free, 0) ∈ E
  inn : ∀ n ∈ t.ns, (t.free, T n, 0) ∈ E
variable {t : Tab α} {T : α → α}
structure Rng (E : List (Ed α)) (b : α → Option (α × Int)) (ring : List α) (nx : α → Option α) : Prop where
  nd : ring.Nodup
  ed : ∀ v u g, b v = some (u, g) → (u, v, g) ∈ E
  next : ∀ u ∈ ring, ∃ v g, nx u = some v ∧ b v = some (u, g)
  out : ∀ u, u ∉ ring → nx u = none
  rot : (ring.map fun u => (nx u).getD u).Perm ring
  pos : 0 < sg b ring
end
end Rg
namespace Hr
open PySem PySem.Spec PyProof.Rows L2 Sm Hn
abbrev homesO (rows : List (Str × List Str)) (emps : List Str) : Dt := .dct (kS (folk rows ++ emps)) ((folk rows ++ emps).map fun _ => .bl true)
def shO (rows : List (Str × List Str)) (emps : List Str) : Dt := .obj 0 [tupS emps, homesO rows emps, rowsO rows]
section
variable {t : Dt} {rows : List (Str × List Str)} {emps : List Str}
theorem sh_mk (h : Sd t rows emps) (S : Sto) : isoMk 0 F_Sheet_init [.d t] S = .ok (.d (shO rows emps)) S := by
  have e := sd_init (n := 0) (S := [.ins 0 []]) h rfl
  refine iso_ok (ts := [t]) (S' := [.dead]) ?_
  show (Rz.bind (Hn.F_Sheet_init [.loc 0, .d t] [.ins 0 []]) _).bind _ = _
  rw [e]
  rfl
theorem fl_rows {S : Sto} : pFld 0 2 (.d (shO rows emps)) S = some (.d (rowsO rows), S) := rfl
theorem meth_sh {c : Nat} {F : FM} {mo : M Dv} {ma : M (List Dv)} {ρ : Sm.Env} {S S1 S2 : Sto} {t : Dt} {ds : List Dv} (h1 : mo ρ S = .ok (.d t) S1) (h2 : isIns c (.d t) S1 = true) (h3 : ma ρ S1 = .ok ds S2) : mMeth c F mo ma ρ S = F (.d t :: ds) S2 := by
  unfold mMeth
  rw [h1, bind_ok, if_pos h2, h3, bind_ok]
theorem sh_names (S : Sto) : F_Sheet_names [.d (shO rows emps)] S = .ok (.d (tupS (folk rows))) S := by
  have p1 : ∀ S, pTuple [.d (rowsO rows)] S = some (.d (tupS (folk rows)), S) := fun S => by
    rw [show tupS (folk rows) = .tup ((kS (folk rows)).map kT) by rw [kT_strs]]
    rfl
  refine iso_ok (ts := [shO rows emps]) (S' := []) (runB_rt (ds := [.d (shO rows emps)]) rfl ?_)
  show b_Sheet_names [some (.d (shO rows emps))] [] = _
  unfold b_Sheet_names
  simp only [sSeq_s, sSet_s, sRet_s, sDrop_s, sIf_s, sFor_s, sPars_s, sNil_s, sqz_nx, sqz_rt, m1_s, m2_s, mN_s, mF_s, mV_s, mC_s, aCons_s, aNil_s, aApp_s, mIf_s, mTst_s, toB_s, mTru_s, cAnd_s, cOr_s, cNot_s, cYes_s, mAnd_s, mSl_s, oPt_s, oNo_s, mFrz_s, gN_s, gT_s, List.getElem?_cons_zero, List.getElem?_cons_succ, bind_ok, to_ok, Sm.lift_some, li_some, oz_some, bz_some, nox_ok, fl_rows, p1]
def homesL (rows : List (Str × List Str)) (emps : List Str) : List Str := sortS (ddS (folk rows ++ emps))
def ksOf (rows : List (Str × List Str)) (emps : List Str) (x : Str) : List Str := x :: wantsL rows emps x
def wtOf (low : Int) (l : List Str) (x h : Str) : Int := if h = x then (if x ∈ l then low else 0) else 1
def wrow (ks : List Str) (f : Str → Int) : Dt := .dct (kS ks) (ks.map fun h => .int (f h))
end
end Hr
namespace Hk
open PySem PySem.Spec PyProof.Rows L2 Sm Hn
abbrev Part := List Str × Str
def rot (row : List Str) (e : Str) : List Str := if e = "" then row.drop (row.idxOf (minTx (row.headD "") row.tail)) ++ row.take (row.idxOf (minTx (row.headD "") row.tail)) else row
abbrev ptD (p : Part) : Dt := .tup [tupS p.1, .str p.2]
def turnP (p : Part) : Part := (rot p.1 p.2, p.2)
def goalsP (p : Part) : List Str := p.1.tail ++ [if p.2 = "" then p.1.headD "" else p.2]
def namesP (p : Part) : List Str := if p.2 = "" then p.1 else p.1 ++ [p.2]
def namesA (ps : List Part) : List Str := ps.flatMap namesP
end Hk
namespace Hk
open PySem PySem.Spec PyProof.Rows L2 Sm Hn
end Hk
namespace Hk
open PySem PySem.Spec PyProof.Rows L2 Sm Hn
abbrev leP (a b : Part) : Bool := leT (ptD a) (ptD b)
structure Wp (ps : List Part) : Prop where
  ne : ∀ p ∈ ps, p.1 ≠ []
  nd : (namesA ps).Nodup
  so : ∀ x ∈ namesA ps, PyData.strOk x = true ∧ x ≠ ""
  z : (namesA ps).length ≤ 1000
end Hk
namespace Hk
open PySem PySem.Spec PyProof.Rows L2 Sm Hn
section
variable {ps : List Part}
end
end Hk
namespace Hk
open PySem PySem.Spec PyProof.Rows L2 Sm Hn
structure Fnd (pool : List Str) (fs : List Part) (left : List Str) : Prop where
  ne : ∀ p ∈ fs, p.1 ≠ []
  nd : (namesA fs ++ left).Nodup
  sub : ∀ x ∈ namesA fs ++ left, x ∈ pool
  tr : ∀ p ∈ fs, turnP p = p
end Hk
namespace Hk
open PySem PySem.Spec PyProof.Rows L2 Sm Hn
structure Bits (pool : List Str) (ps : List Part) : Prop where
  w : Wp ps
  sub : ∀ x ∈ namesA ps, x ∈ pool
  tr : ∀ p ∈ ps, turnP p = p
  asc : ps.Pairwise fun a b => leP a b = true
end Hk
namespace Hk
open PySem PySem.Spec PyProof.Rows L2 Sm Hn
def unS : Dt → Str
  | .str s => s
  | _ => ""
end Hk
namespace Tq
open PySem
def stp (s sub : Str) (hi limit : Nat) (st : Array Nat × Nat) (i : Nat) : Array Nat × Nat :=
  if (decide (st.1.size < limit) && decide (st.2 ≤ i) && decide (i + sub.length ≤ hi) && Builtin.Str.subAt s sub i) = true then (st.1.push i, i + sub.length) else st
theorem forIn_fold {α β : Type} {f : β → α → β} {g : α → β → Id (ForInStep β)} (h : ∀ a b, g a b = pure (.yield (f b a))) : ∀ (l : List α) (b : β), (forIn l b g : Id β) = pure (l.foldl f b)
  | [], b => rfl
  | a :: l, b => by
    rw [List.forIn_cons, h a b, pure_bind]
    exact forIn_fold h l (f b a)
theorem occ_eq (s sub : Str) (n limit : Nat) : Builtin.Str.occurrences s sub 0 n limit = ((List.range (n + 1)).foldl (stp s sub n limit) (#[], 0)).1.toList := by
  unfold Builtin.Str.occurrences
  simp only [Std.Legacy.Range.forIn_eq_forIn_range']
  have e : ([0:n + 1] : Std.Legacy.Range).size = n + 1 := by simp [Std.Legacy.Range.size]
  rw [e, ← List.range_eq_range', forIn_fold (f := stp s sub n limit)]
  · rfl
  · intro a b
    unfold stp
    split <;> rfl
structure Iv (w n k : Nat) (st : Array Nat × Nat) : Prop where
  sz : st.1.size ≤ k
  fr : st.2 ≤ k + (w - 1)
  pw : st.1.toList.Pairwise fun i j => i + w ≤ j
  le : ∀ i ∈ st.1.toList, i + w ≤ n ∧ i + w ≤ st.2 ∧ i < k
theorem iv_step {s sub : Str} {n limit k : Nat} {st : Array Nat × Nat} (hw : 1 ≤ sub.length) (h : Iv sub.length n k st) : Iv sub.length n (k + 1) (stp s sub n limit st k) := by
  unfold stp
  split
  · rename_i c
    simp only [Bool.and_eq_true, decide_eq_true_eq] at c
    obtain ⟨⟨⟨_, c2⟩, c3⟩, _⟩ := c
    refine ⟨by rw [Array.size_push]; have := h.sz; omega, by show k + sub.length ≤ k + 1 + (sub.length - 1); omega, ?_, fun i hi => ?_⟩
    · rw [Array.toList_push, List.pairwise_append]
      exact ⟨h.pw, List.pairwise_singleton _ _, fun i hi j hj => by
        rw [List.mem_singleton.mp hj]
        have := (h.le i hi).2.1
        omega⟩
    · rw [Array.toList_push, List.mem_append] at hi
      rcases hi with hi | hi
      · obtain ⟨a, b, c⟩ := h.le i hi
        exact ⟨a, by show i + sub.length ≤ k + sub.length; omega, by omega⟩
      · rw [List.mem_singleton.mp hi]
        exact ⟨c3, Nat.le_refl _, Nat.lt_succ_self _⟩
  · exact ⟨by have := h.sz; omega, by have := h.fr; omega, h.pw, fun i hi => by
      obtain ⟨a, b, c⟩ := h.le i hi
      exact ⟨a, b, by omega⟩⟩
theorem iv_all {s sub : Str} {n limit : Nat} (hw : 1 ≤ sub.length) : ∀ k, Iv sub.length n k ((List.range k).foldl (stp s sub n limit) (#[], 0))
  | 0 => ⟨Nat.le_refl _, Nat.zero_le _, List.Pairwise.nil, fun i hi => by cases hi⟩
  | k + 1 => by
    rw [List.range_succ, List.foldl_append]
    exact iv_step hw (iv_all hw k)
theorem occ_ok (s sub : Str) (hw : 1 ≤ sub.length) (n limit : Nat) : (Builtin.Str.occurrences s sub 0 n limit).Pairwise (fun i j => i + sub.length ≤ j) ∧ ∀ i ∈ Builtin.Str.occurrences s sub 0 n limit, i + sub.length ≤ n := by
  rw [occ_eq]
  have h := iv_all (s := s) (n := n) (limit := limit) hw (n + 1)
  exact ⟨h.pw, fun i hi => (h.le i hi).1⟩
def cutP (w n : Nat) : Nat → List Nat → List (Nat × Nat)
  | a, [] => [(a, n)]
  | a, c :: r => (a, c) :: cutP w n (c + w) r
theorem zip_cut (w n : Nat) : ∀ (a : Nat) (cuts : List Nat), (a :: cuts.map (· + w)).zip (cuts ++ [n]) = cutP w n a cuts
  | a, [] => rfl
  | a, c :: r => by
    show (a, c) :: ((c + w) :: r.map (· + w)).zip (r ++ [n]) = _
    rw [zip_cut w n (c + w) r]
    rfl
theorem parts_eq (s : Str) (cuts : List Nat) (w : Nat) : Builtin.Str.partsBetween s cuts w = (cutP w s.length 0 cuts).map fun p => Builtin.Str.strSub s p.1 p.2 := by
  show ((0 :: cuts.map (· + w)).zip (cuts ++ [s.length])).map (fun p => Builtin.Str.strSub s p.1 p.2) = _
  rw [zip_cut]
theorem sub_len {s : Str} {i j : Nat} (h : i ≤ j) (hj : j ≤ s.length) : (Builtin.Str.strSub s i j).length = j - i := by
  show (s.cps.extract i j).size = _
  rw [Array.size_extract]
  have : s.cps.size = s.length := rfl
  omega
theorem cut_sum {s : Str} {w : Nat} : ∀ (cuts : List Nat) (a : Nat), a ≤ s.length → cuts.Pairwise (fun i j => i + w ≤ j) → (∀ i ∈ cuts, a ≤ i ∧ i + w ≤ s.length) → (((cutP w s.length a cuts).map fun p => Builtin.Str.strSub s p.1 p.2).map (·.length)).sum + cuts.length * w = s.length - a
  | [], a, ha, _, _ => by
    show ([Builtin.Str.strSub s a s.length].map (·.length)).sum + 0 * w = _
    rw [List.map_cons, List.map_nil, List.sum_cons, List.sum_nil, sub_len ha (Nat.le_refl _)]
    omega
  | c :: r, a, ha, hp, hm => by
    obtain ⟨h1, h2⟩ := hm c List.mem_cons_self
    obtain ⟨p1, p2⟩ := List.pairwise_cons.mp hp
    have ih := cut_sum r (c + w) h2 p2 fun i hi => ⟨p1 i hi, (hm i (List.mem_cons_of_mem _ hi)).2⟩
    show ((Builtin.Str.strSub s a c :: (cutP w s.length (c + w) r).map fun p => Builtin.Str.strSub s p.1 p.2).map (·.length)).sum + (r.length + 1) * w = _
    rw [List.map_cons, List.sum_cons, sub_len h1 (by omega), Nat.add_mul]
    omega
theorem cut_len {w n : Nat} : ∀ (cuts : List Nat) (a : Nat), (cutP w n a cuts).length = cuts.length + 1
  | [], _ => rfl
  | c :: r, a => by
    show (cutP w n (c + w) r).length + 1 = _
    rw [cut_len r (c + w)]
    rfl
theorem ok_sub {s : Str} (h : PyData.strOk s = true) (i j : Nat) : PyData.strOk (Builtin.Str.strSub s i j) = true := by
  unfold PyData.strOk at h ⊢
  rw [Array.all_eq_true'] at h ⊢
  intro x hx
  refine h x ?_
  have h1 : x ∈ (s.cps.extract i j).toList := Array.mem_toList_iff.mpr hx
  rw [Array.toList_extract] at h1
  exact Array.mem_toList_iff.mp (List.mem_of_mem_drop (List.mem_of_mem_take h1))
theorem split_ok {s sub : Str} (hw : 1 ≤ sub.length) (hs : PyData.strOk s = true) : (∀ x ∈ Txt.split s sub, PyData.strOk x = true) ∧ ((Txt.split s sub).map (·.length)).sum + (Txt.split s sub).length * sub.length ≤ s.length + sub.length ∧ 1 ≤ (Txt.split s sub).length := by
  have one : (∀ x ∈ [s], PyData.strOk x = true) ∧ (([s] : List Str).map (·.length)).sum + ([s] : List Str).length * sub.length ≤ s.length + sub.length ∧ 1 ≤ ([s] : List Str).length := ⟨fun x hx => by rw [List.mem_singleton.mp hx]; exact hs, by simp, Nat.le_refl _⟩
  unfold Txt.split
  split
  · exact one
  split
  · exact one
  rw [parts_eq]
  obtain ⟨o1, o2⟩ := occ_ok s sub hw s.length (s.length + 1)
  refine ⟨fun x hx => ?_, ?_, by rw [List.length_map, cut_len]; omega⟩
  · obtain ⟨p, _, rfl⟩ := List.mem_map.mp hx
    exact ok_sub hs _ _
  · have h := cut_sum (s := s) (w := sub.length) _ 0 (Nat.zero_le _) o1 fun i hi => ⟨Nat.zero_le _, o2 i hi⟩
    rw [List.length_map, cut_len, Nat.add_mul]
    omega
end Tq
namespace Tq
open PySem
def mkS (l : List Nat) : Str := ⟨l.toArray⟩
def cl (s : Str) : List Nat := s.cps.toList
theorem mk_cl (s : Str) : mkS (cl s) = s := by
  unfold mkS cl
  rw [Array.toArray_toList]
theorem cl_mk (l : List Nat) : cl (mkS l) = l := rfl
theorem cl_inj {s t : Str} (h : cl s = cl t) : s = t := by rw [← mk_cl s, ← mk_cl t, h]
theorem cl_len (s : Str) : (cl s).length = s.length := by
  show s.cps.toList.length = s.cps.size
  simp
def pc (c : Nat) : List Nat → List (List Nat)
  | [] => [[]]
  | x :: r => if x = c then [] :: pc c r else match pc c r with
    | [] => [[x]]
    | h :: t => (x :: h) :: t
theorem pc_ne (c : Nat) : ∀ l, ∃ h t, pc c l = h :: t
  | [] => ⟨_, _, rfl⟩
  | x :: r => by
    obtain ⟨h, t, e⟩ := pc_ne c r
    unfold pc
    rw [e]
    split
    · exact ⟨_, _, rfl⟩
    · exact ⟨_, _, rfl⟩
theorem pc_no {c : Nat} : ∀ {l : List Nat}, c ∉ l → pc c l = [l]
  | [], _ => rfl
  | x :: r, h => by
    rw [List.mem_cons, not_or] at h
    unfold pc
    rw [if_neg (Ne.symm h.1), pc_no h.2]
theorem cut_pc {s : Str} {c : Nat} : ∀ (m a i : Nat), i + m = s.length → a ≤ i → ∃ h t, pc c ((cl s).drop i) = h :: t ∧ (cutP 1 s.length a ((List.range' i m).filter fun j => decide ((cl s)[j]? = some c))).map (fun p => cl (Builtin.Str.strSub s p.1 p.2)) = (((cl s).take i).drop a ++ h) :: t
  | 0, a, i, hi, ha => by
    have hl := cl_len s
    refine ⟨[], [], ?_, ?_⟩
    · rw [List.drop_eq_nil_of_le (by omega)]
      rfl
    · show [cl (Builtin.Str.strSub s a s.length)] = _
      have : cl (Builtin.Str.strSub s a s.length) = ((cl s).take i).drop a := by
        show (s.cps.extract a s.length).toList = _
        rw [Array.toList_extract, List.extract_eq_take_drop, List.drop_take]
        have h1 : s.length = i := by omega
        rw [h1]
        rfl
      rw [this, List.append_nil]
  | m + 1, a, i, hi, ha => by
    have hl := cl_len s
    have hlt : i < (cl s).length := by omega
    have ed : (cl s).drop i = (cl s)[i] :: (cl s).drop (i + 1) := List.drop_eq_getElem_cons hlt
    have eg : (cl s)[i]? = some (cl s)[i] := List.getElem?_eq_getElem hlt
    rw [List.range'_succ]
    by_cases hc : (cl s)[i] = c
    · obtain ⟨h, t, e1, e2⟩ := cut_pc (s := s) (c := c) m (i + 1) (i + 1) (by omega) (Nat.le_refl _)
      refine ⟨[], h :: t, by rw [ed]; unfold pc; rw [if_pos hc, e1], ?_⟩
      rw [List.filter_cons_of_pos (by rw [eg, hc]; simp)]
      show cl (Builtin.Str.strSub s a i) :: (cutP 1 s.length (i + 1) _).map _ = _
      rw [e2]
      have e3 : cl (Builtin.Str.strSub s a i) = ((cl s).take i).drop a := by
        show (s.cps.extract a i).toList = _
        rw [Array.toList_extract, List.extract_eq_take_drop, List.drop_take]
        rfl
      have e4 : ((cl s).take (i + 1)).drop (i + 1) = [] := List.drop_eq_nil_of_le (by rw [List.length_take]; omega)
      rw [e3, List.append_nil, e4, List.nil_append]
    · obtain ⟨h, t, e1, e2⟩ := cut_pc (s := s) (c := c) m a (i + 1) (by omega) (by omega)
      refine ⟨(cl s)[i] :: h, t, by rw [ed]; unfold pc; rw [if_neg hc, e1], ?_⟩
      rw [List.filter_cons_of_neg (by rw [eg]; simpa using hc), e2]
      congr 1
      rw [List.take_succ, eg]
      show (List.drop a (List.take i (cl s) ++ [(cl s)[i]])) ++ h = _
      rw [List.drop_append_of_le_length (by rw [List.length_take]; omega), List.append_assoc]
      rfl
theorem occ_one {s : Str} {c : Nat} : Builtin.Str.occurrences s (mkS [c]) 0 s.length (s.length + 1) = (List.range s.length).filter fun j => decide ((cl s)[j]? = some c) := by
  have key : ∀ k, k ≤ s.length + 1 → ((List.range k).foldl (stp s (mkS [c]) s.length (s.length + 1)) (#[], 0)).1.toList = (List.range k).filter fun j => decide ((cl s)[j]? = some c) := by
    intro k
    induction k with
    | zero => exact fun _ => rfl
    | succ k ih =>
      intro hk
      have iv := iv_all (s := s) (sub := mkS [c]) (n := s.length) (limit := s.length + 1) (by show 1 ≤ 1; omega) k
      have ih := ih (by omega)
      rw [List.range_succ, List.foldl_append, List.filter_append]
      generalize (List.range k).foldl (stp s (mkS [c]) s.length (s.length + 1)) (#[], 0) = st at ih iv
      show (stp s (mkS [c]) s.length (s.length + 1) st k).1.toList = _
      have i1 := iv.sz
      have i2 : st.2 ≤ k := by
        have := iv.fr
        have e : (mkS [c]).length = 1 := rfl
        rw [e] at this
        omega
      have hs : Builtin.Str.subAt s (mkS [c]) k = decide ((cl s)[k]? = some c) := by
        unfold Builtin.Str.subAt
        have hx : (s.cps.extract k (k + 1)).toList = ((cl s).drop k).take 1 := by
          rw [Array.toList_extract, List.extract_eq_take_drop, Nat.add_sub_cancel_left]
          rfl
        have e0 : (s.cps.extract k (k + (mkS [c]).length) == (mkS [c]).cps) = decide (((cl s).drop k).take 1 = [c]) := by
          rw [← hx]
          show (s.cps.extract k (k + 1) == #[c]) = _
          rw [Bool.eq_iff_iff, beq_iff_eq, decide_eq_true_eq]
          constructor
          · intro z
            rw [z]
          · intro z
            have := congrArg List.toArray z
            rw [Array.toArray_toList] at this
            exact this
        rw [e0]
        apply decide_eq_decide.mpr
        by_cases hl : k < (cl s).length
        · rw [List.drop_eq_getElem_cons hl, List.getElem?_eq_getElem hl, List.take_succ_cons, List.take_zero]
          simp only [List.cons.injEq, and_true, Option.some.injEq]
        · rw [List.drop_eq_nil_of_le (by omega), List.getElem?_eq_none (by omega)]
          simp
      unfold stp
      by_cases hc : (cl s)[k]? = some c
      · have hl : k < s.length := by
          rw [← cl_len]
          exact (List.getElem?_eq_some_iff.mp hc).1
        rw [if_pos (by
          rw [hs, decide_eq_true hc, decide_eq_true (show st.1.size < s.length + 1 by omega), decide_eq_true i2, decide_eq_true (show k + (mkS [c]).length ≤ s.length from hl)]
          rfl), Array.toList_push, ih, show [k].filter (fun j => decide ((cl s)[j]? = some c)) = [k] from List.filter_cons_of_pos (p := fun j => decide ((cl s)[j]? = some c)) (decide_eq_true hc)]
      · rw [if_neg (by
          rw [hs, decide_eq_false hc, Bool.and_false]
          exact Bool.false_ne_true), ih, show [k].filter (fun j => decide ((cl s)[j]? = some c)) = [] from List.filter_cons_of_neg (p := fun j => decide ((cl s)[j]? = some c)) (by rw [decide_eq_false hc]; exact Bool.false_ne_true), List.append_nil]
  rw [occ_eq, key (s.length + 1) (Nat.le_refl _), List.range_succ, List.filter_append, List.filter_cons_of_neg (by
    rw [List.getElem?_eq_none (by rw [cl_len]; exact Nat.le_refl _)]
    simp), List.filter_nil, List.append_nil]
theorem split_one {s : Str} {c : Nat} (hc : c < 256) : (Txt.split s (mkS [c])).map cl = pc c (cl s) := by
  have k1 : Builtin.Str.strKind (mkS [c]) = 1 := by
    unfold Builtin.Str.strKind
    rw [if_pos]
    show (#[c] : Array Nat).all _ = true
    simp [hc]
  have k2 : 1 ≤ Builtin.Str.strKind s := by
    unfold Builtin.Str.strKind
    split
    · omega
    split <;> omega
  unfold Txt.split
  split
  · rename_i h
    rw [Bool.or_eq_true, decide_eq_true_eq, decide_eq_true_eq] at h
    rcases h with h | h
    · have h0 : s.length = 0 := by
        have : (mkS [c]).length = 1 := rfl
        omega
      have : cl s = [] := List.eq_nil_of_length_eq_zero (by rw [cl_len, h0])
      rw [List.map_cons, List.map_nil, this]
      rfl
    · omega
  rw [occ_one]
  split
  · rename_i h
    have hn : c ∉ cl s := fun hm => by
      obtain ⟨j, hj, e⟩ := List.getElem_of_mem hm
      have : j ∈ (List.range s.length).filter fun j => decide ((cl s)[j]? = some c) := List.mem_filter.mpr ⟨List.mem_range.mpr (by rw [← cl_len]; exact hj), decide_eq_true (by rw [List.getElem?_eq_getElem hj, e])⟩
      rw [List.isEmpty_iff.mp h] at this
      cases this
    rw [pc_no hn]
    rfl
  · rw [parts_eq, List.map_map, List.range_eq_range']
    obtain ⟨h, t, e1, e2⟩ := cut_pc (s := s) (c := c) s.length 0 0 (by omega) (Nat.le_refl _)
    rw [List.drop_zero] at e1
    rw [e1]
    exact e2
def jn (sep : List Nat) : List (List Nat) → List Nat
  | [] => []
  | x :: r => x ++ r.flatMap fun y => sep ++ y
theorem join_cl (sep : Str) : ∀ xs : List Str, cl (Txt.join sep xs) = jn (cl sep) (xs.map cl)
  | [] => rfl
  | x :: r => by
    have e : ∀ (r : List Str) (acc : Array Nat), (r.foldl (fun acc p => acc ++ sep.cps ++ p.cps) acc).toList = acc.toList ++ (r.map cl).flatMap fun y => cl sep ++ y := by
      intro r
      induction r with
      | nil =>
        intro acc
        simp
      | cons y r ih =>
        intro acc
        rw [List.foldl_cons, ih, Array.toList_append, Array.toList_append, List.map_cons, List.flatMap_cons, List.append_assoc, List.append_assoc, List.append_assoc]
        rfl
    exact e r x.cps
theorem pc_app {c : Nat} : ∀ {x : List Nat} {l : List Nat}, c ∉ x → ∃ h t, pc c l = h :: t ∧ pc c (x ++ l) = (x ++ h) :: t
  | [], l, _ => by
    obtain ⟨h, t, e⟩ := pc_ne c l
    exact ⟨h, t, e, e⟩
  | a :: x, l, hx => by
    rw [List.mem_cons, not_or] at hx
    obtain ⟨h, t, e1, e2⟩ := pc_app (l := l) hx.2
    refine ⟨h, t, e1, ?_⟩
    show pc c (a :: (x ++ l)) = _
    unfold pc
    rw [if_neg (Ne.symm hx.1), e2]
    rfl
theorem pc_jn {c : Nat} : ∀ {xs : List (List Nat)}, xs ≠ [] → (∀ x ∈ xs, c ∉ x) → pc c (jn [c] xs) = xs
  | [], h, _ => absurd rfl h
  | [x], _, hx => by
    show pc c (x ++ []) = _
    rw [List.append_nil, pc_no (hx x List.mem_cons_self)]
  | x :: y :: r, _, hx => by
    have ih := pc_jn (xs := y :: r) (List.cons_ne_nil _ _) fun z hz => hx z (List.mem_cons_of_mem _ hz)
    have e : jn [c] (x :: y :: r) = x ++ (c :: jn [c] (y :: r)) := by
      show x ++ ((y :: r).flatMap fun y => [c] ++ y) = _
      rw [List.flatMap_cons]
      rfl
    obtain ⟨h, t, e1, e2⟩ := pc_app (c := c) (l := c :: jn [c] (y :: r)) (hx x List.mem_cons_self)
    rw [e, e2]
    have e3 : pc c (c :: jn [c] (y :: r)) = [] :: pc c (jn [c] (y :: r)) := if_pos rfl
    rw [e3, ih] at e1
    injection e1 with a1 a2
    rw [← a1, ← a2, List.append_nil]
theorem map_cl_inj : ∀ {xs ys : List Str}, xs.map cl = ys.map cl → xs = ys
  | [], [], _ => rfl
  | [], _ :: _, h => by cases h
  | _ :: _, [], h => by cases h
  | x :: xs, y :: ys, h => by
    rw [List.map_cons, List.map_cons] at h
    injection h with h1 h2
    rw [cl_inj h1, map_cl_inj h2]
theorem split_join {c : Nat} (hc : c < 256) {xs : List Str} (hn : xs ≠ []) (hx : ∀ x ∈ xs, c ∉ cl x) : Txt.split (Txt.join (mkS [c]) xs) (mkS [c]) = xs := map_cl_inj (by
  rw [split_one hc, join_cl, cl_mk]
  exact pc_jn (fun z => hn (by simpa using z)) fun x h => by
    obtain ⟨y, hy, rfl⟩ := List.mem_map.mp h
    exact hx y hy)
theorem join_len (sep : Str) (xs : List Str) : (Txt.join sep xs).length ≤ (xs.map (·.length)).sum + xs.length * sep.length := by
  rw [← cl_len, join_cl]
  have e : ∀ r : List Str, ((r.map cl).flatMap fun y => cl sep ++ y).length = (r.map (·.length)).sum + r.length * sep.length := by
    intro r
    induction r with
    | nil => simp
    | cons y r ih =>
      rw [List.map_cons, List.flatMap_cons, List.length_append, List.length_append, ih, List.map_cons, List.sum_cons, List.length_cons, Nat.add_mul, cl_len, cl_len]
      omega
  cases xs with
  | nil => exact Nat.zero_le _
  | cons x r =>
    show (cl x ++ _).length ≤ _
    rw [List.length_append, e, List.map_cons, List.sum_cons, List.length_cons, Nat.add_mul, cl_len]
    omega
theorem join_ok {sep : Str} {xs : List Str} (h0 : PyData.strOk sep = true) (h : ∀ x ∈ xs, PyData.strOk x = true) : PyData.strOk (Txt.join sep xs) = true := by
  have ok : ∀ s : Str, PyData.strOk s = true ↔ ∀ c ∈ cl s, c < 1114112 := fun s => by
    unfold PyData.strOk
    rw [Array.all_eq_true']
    exact ⟨fun h c hc => of_decide_eq_true (h c (Array.mem_toList_iff.mp hc)), fun h c hc => decide_eq_true (h c (Array.mem_toList_iff.mpr hc))⟩
  rw [ok, join_cl]
  intro c hc
  cases xs with
  | nil => cases hc
  | cons x r =>
    rcases List.mem_append.mp (show c ∈ cl x ++ _ from hc) with z | z
    · exact (ok x).mp (h x List.mem_cons_self) c z
    · obtain ⟨y, hy, hz⟩ := List.mem_flatMap.mp z
      obtain ⟨w, hw, rfl⟩ := List.mem_map.mp hy
      rcases List.mem_append.mp hz with z | z
      · exact (ok sep).mp h0 c z
      · exact (ok w).mp (h w (List.mem_cons_of_mem _ hw)) c z
end Tq
set_option maxHeartbeats 2000000
namespace K14
open PySem PySem.Spec PyProof.Rows L2 Sm Hn
section
variable {ρ : Sm.Env} {S : Sto} {a b : M Bool} {m n : M Dv} {p q : Bool}
theorem x_or (ha : a ρ S = .ok p S) (hb : p = false → b ρ S = .ok q S) : cOr a b ρ S = .ok (p || q) S := by
  show (a ρ S).bind _ = _
  rw [ha, bind_ok]
  cases p with
  | true => rfl
  | false => exact hb rfl
theorem x_not (ha : a ρ S = .ok p S) : cNot a ρ S = .ok (!p) S := by
  show (a ρ S).bind _ = _
  rw [ha, bind_ok]
theorem x_tru (h : m ρ S = .ok (.d (.bl p)) S) : mTru pTru m ρ S = .ok p S := by
  show (m ρ S).bind _ = _
  rw [h, bind_ok]
  rfl
theorem x_tst (h : m ρ S = .ok (.d (.bl p)) S) : mTst m ρ S = .ok p S := by
  show (m ρ S).bind _ = _
  rw [h, bind_ok]
  rfl
theorem x_and (ha : m ρ S = .ok (.d (.bl p)) S) (hb : p = true → n ρ S = .ok (.d (.bl q)) S) : mAnd m n ρ S = .ok (.d (.bl (p && q))) S := by
  show (m ρ S).bind _ = _
  rw [ha, bind_ok]
  cases p with
  | true => exact hb rfl
  | false => rfl
theorem x_m1 {f : P1} {d r : Dv} (h : m ρ S = .ok d S) (hf : f d S = some (r, S)) : m1 f m ρ S = .ok r S := by
  show (m ρ S).bind _ = _
  rw [h, bind_ok, hf]
  rfl
end
abbrev sgn (c : Nat) : Str := ⟨#[c]⟩
abbrev LET : Str := ("abcdefghijklmnopqrstuvwxyz" : Str)
def ltB (s : Str) : Bool := !(Builtin.Str.occurrences LET s 0 LET.length 1).isEmpty
def wordS (x : Str) : Bool := (decide (1 ≤ x.length) && decide (x.length ≤ 8)) && x.cps.toList.all fun c => ltB (sgn c)
theorem len_x {x : Str} (h : x.length ≤ 100000) (S : Sto) : pLen [.d (.str x)] S = some (.d (.int (x.length : Int)), S) := by
  have h' : x.cps.size ≤ 16777216 := by
    have : x.cps.size ≤ 100000 := h
    omega
  simp [pLen, dctAt, seqAt, lstAt, Str.length, h']
structure Tk (x : Str) : Prop where
  ok : PyData.strOk x = true
  z : x.length ≤ 100000
theorem name_s {x : Str} (hxl : x.length ≤ 100000) (S : Sto) : F_is_name [.d (.str x)] S = .ok (.d (.bl (wordS x))) S := by
  refine iso_ok (ts := [.str x]) (S' := []) (runB_rt (ds := [.d (.str x)]) rfl ?_)
  show b_is_name [some (.d (.str x)), none] [] = _
  have e1 : m1 (pIsa ["str"]) (mV 0) [some (.d (.str x)), none] [] = .ok (.d (.bl true)) [] := rfl
  unfold b_is_name
  have ln : mN pLen (aCons (mV 0) (aNil)) [some (.d (.str x)), none] [] = .ok (.d (.int (x.length : Int))) [] := ex_mN (ex_a1 rfl) (len_x hxl [])
  have e2 : mChain pLe pLe (mC (.int 1)) (mN pLen (aCons (mV 0) (aNil))) (mC (.int 8)) [some (.d (.str x)), none] [] = .ok (.d (.bl (decide (1 ≤ x.length) && decide (x.length ≤ 8)))) [] := by
    unfold mChain
    rw [mC_s, bind_ok, ln, bind_ok, le_i, Sm.lift_some, bind_ok]
    have d1 : decide ((1 : Int) ≤ (x.length : Int)) = decide (1 ≤ x.length) := decide_eq_decide.mpr (by omega)
    have d2 : decide ((x.length : Int) ≤ (8 : Int)) = decide (x.length ≤ 8) := decide_eq_decide.mpr (by omega)
    rw [d1]
    show (Rz.ok (decide (1 ≤ x.length)) ([] : Sto)).bind _ = _
    rw [bind_ok]
    cases decide (1 ≤ x.length) with
    | false => rfl
    | true =>
      rw [if_pos rfl, mC_s, bind_ok, le_i, Sm.lift_some, d2]
      rfl
  have e3 : (decide (1 ≤ x.length) && decide (x.length ≤ 8)) = true → mN pAll (aCons (mN pLst (mLcI [1] (iAny (mV 0)) (gN 1) (cYes) (m2 pInS (mV 1) (mC (.str ("abcdefghijklmnopqrstuvwxyz" : Str)))))) (aNil)) [some (.d (.str x)), none] [] = .ok (.d (.bl (x.cps.toList.all fun c => ltB (sgn c)))) [] := by
    intro hz
    have hz' : x.length ≤ 8 := of_decide_eq_true (Bool.and_eq_true_iff.mp hz).2
    have lc := mLc_pure (vs := [1]) (g := gN 1) (c := cYes) (e := m2 pInS (mV 1) (mC (.str ("abcdefghijklmnopqrstuvwxyz" : Str)))) (it := iAny (mV 0)) (ρ := [some (.d (.str x)), none]) (S := []) (fun c : Nat => Dt.str (sgn c)) x.cps.toList (fun _ => true) (fun c => .bl (ltB (sgn c))) rfl (by
      have : x.cps.toList.length = x.length := by simp [Str.length]
      omega) fun c _ => ⟨[some (.d (.str x)), some (.d (.str (sgn c)))], rfl, rfl, fun _ => rfl⟩
    rw [filter_yes, show (x.cps.toList.map fun c => Dt.bl (ltB (sgn c))) = (x.cps.toList.map fun c => ltB (sgn c)).map .bl by rw [List.map_map]; rfl] at lc
    refine (ex_mN (ex_a1 lc) all_b).trans ?_
    rw [List.all_map]
    rfl
  refine st_ret ((x_and e1 fun _ => x_and e2 e3).trans ?_)
  rfl
theorem word_s {x : Str} (h : Tk x) (S : Sto) : F__law_is_word [.d (.str x)] S = .ok (.d (.bl (wordS x))) S := by
  refine iso_ok (ts := [.str x]) (S' := []) (runB_rt (ds := [.d (.str x)]) rfl ?_)
  show b__law_is_word [some (.d (.str x)), none] [] = _
  have e1 : m1 (pIsa ["str"]) (mV 0) [some (.d (.str x)), none] [] = .ok (.d (.bl true)) [] := rfl
  have hx := h.ok
  have hxl := h.z
  unfold b__law_is_word
  have ln : mN pLen (aCons (mV 0) (aNil)) [some (.d (.str x)), none] [] = .ok (.d (.int (x.length : Int))) [] := ex_mN (ex_a1 rfl) (len_x hxl [])
  have e2 : mChain pLt pLt (mC (.int 0)) (mN pLen (aCons (mV 0) (aNil))) (mC (.int 9)) [some (.d (.str x)), none] [] = .ok (.d (.bl (decide (1 ≤ x.length) && decide (x.length ≤ 8)))) [] := by
    unfold mChain
    rw [mC_s, bind_ok, ln, bind_ok, lt_i, Sm.lift_some, bind_ok]
    have d1 : decide ((0 : Int) < (x.length : Int)) = decide (1 ≤ x.length) := decide_eq_decide.mpr (by omega)
    have d2 : decide ((x.length : Int) < (9 : Int)) = decide (x.length ≤ 8) := decide_eq_decide.mpr (by omega)
    rw [d1]
    show (Rz.ok (decide (1 ≤ x.length)) ([] : Sto)).bind _ = _
    rw [bind_ok]
    cases decide (1 ≤ x.length) with
    | false => rfl
    | true =>
      rw [if_pos rfl, mC_s, bind_ok, lt_i, Sm.lift_some, d2]
      rfl
  have c1 := x_or (x_not (x_tru e1)) fun _ => x_not (x_tst e2)
  cases hl : decide (1 ≤ x.length) && decide (x.length ≤ 8) with
  | false =>
    rw [hl] at c1
    rw [sSeq_s, st_if_t c1 rfl]
    show Sz.rt (Dv.d (.bl false)) [] = Sz.rt (Dv.d (.bl (((decide (1 ≤ x.length) && decide (x.length ≤ 8)) && x.cps.toList.all fun c => ltB (sgn c))))) []
    rw [hl]
    rfl
  | true =>
    rw [hl] at c1
    rw [sSeq_s, st_if_f c1 rfl]
    show sRet _ _ _ = _
    have lc := mLc_pure (vs := [1]) (g := gN 1) (c := mTst (m2 pNotInS (mV 1) (mC (.str ("abcdefghijklmnopqrstuvwxyz" : Str))))) (e := mV 1) (it := iAny (mV 0)) (ρ := [some (.d (.str x)), none]) (S := []) (fun c : Nat => Dt.str (sgn c)) x.cps.toList (fun c => !ltB (sgn c)) (fun c => .str (sgn c)) rfl (by
      have : x.cps.toList.length = x.length := by simp [Str.length]
      have := of_decide_eq_true (Bool.and_eq_true_iff.mp hl).2
      omega) fun c _ => ⟨[some (.d (.str x)), some (.d (.str (sgn c)))], rfl, by
        have : pNotInS (.d (.str (sgn c))) (.d (.str LET)) ([] : Sto) = some (.d (.bl (!ltB (sgn c))), []) := by
          unfold ltB
          rw [Bool.not_not]
          rfl
        exact x_tst (ex_m2 rfl rfl this), fun _ => rfl⟩
    have sg := Rq.sg_ok.mp hx
    have en := eq_nil' (n := 0) (xs := (x.cps.toList.filter fun c => !ltB (sgn c)).map fun c => Dt.str (sgn c)) (fun y hy => by
      obtain ⟨c, hc, rfl⟩ := List.mem_map.mp hy
      refine .inl ⟨_, ?_, rfl⟩
      have := sg c (List.mem_filter.mp hc).1
      exact Rq.sg_ok.mpr fun d hd => by
        have e : d = c := by simpa using hd
        rw [e]
        exact this) (by omega) []
    refine st_ret ((ex_m2 lc (e := .d (.lst [])) rfl en).trans ?_)
    show _ = Rz.ok (Dv.d (.bl (((decide (1 ≤ x.length) && decide (x.length ≤ 8)) && x.cps.toList.all fun c => ltB (sgn c))))) []
    rw [hl, Bool.true_and, List.isEmpty_map]
    have : (x.cps.toList.filter fun c => !ltB (sgn c)).isEmpty = x.cps.toList.all fun c => ltB (sgn c) := by
      rw [Bool.eq_iff_iff, List.isEmpty_iff, List.filter_eq_nil_iff, List.all_eq_true]
      simp
    rw [this]
def risesB (l : List Str) : Bool := (l.zip (l.drop 1)).all fun p => ltS p.1 p.2
theorem rises_ok {t : Dt} {l : List Str} (ht : t = tupS l ∨ t = lstS l) (hz : l.length ≤ 100000) (S : Sto) : F_rises [.d t] S = .ok (.d (.bl (risesB l))) S := by
  refine iso_ok (ts := [t]) (S' := []) (runB_rt (ds := [.d t]) rfl ?_)
  show b_rises [some (.d t), none, none] [] = _
  have hi : iRg zp2 (aCons (mV 0) (aCons (mSl pSl (mV 0) (oPt (mC (.int 1))) (oNo)) (aNil))) [some (.d t), none, none] [] = .ok ((l.zip (l.drop 1)).map Hn.prD) [] := by
    have hz2 : zpL (l.map .str) ((l.drop 1).map .str) = (l.zip (l.drop 1)).map Hn.prD := by
      unfold zpL
      rw [List.zip_map, List.map_map]
      rfl
    rcases ht with rfl | rfl
    · have sl : ∀ S, pSl (some 1) none (.d (tupS l)) S = some (.d (tupS (l.drop 1)), S) := fun S => by
        rw [sl_t, cut_map, show (1 : Int) = ((1 : Nat) : Int) from rfl, cut_from]
      exact iRg_ok (ds := [.d (tupS l), .d (tupS (l.drop 1))]) (by simp only [sSeq_s, sSet_s, sRet_s, sDrop_s, sIf_s, sFor_s, sPars_s, sNil_s, sqz_nx, sqz_rt, m1_s, m2_s, mN_s, mF_s, mV_s, mC_s, aCons_s, aNil_s, aApp_s, mIf_s, mTst_s, toB_s, mTru_s, cAnd_s, cOr_s, cNot_s, cYes_s, mAnd_s, mSl_s, oPt_s, oNo_s, mFrz_s, gN_s, gT_s, List.getElem?_cons_zero, List.getElem?_cons_succ, bind_ok, to_ok, Sm.lift_some, li_some, oz_some, bz_some, nox_ok, sl]) (by
        show some (zpL (l.map .str) ((l.drop 1).map .str)) = _
        rw [hz2])
    · have sl : ∀ S, pSl (some 1) none (.d (lstS l)) S = some (.d (lstS (l.drop 1)), S) := fun S => by
        rw [sl_l, cut_map, show (1 : Int) = ((1 : Nat) : Int) from rfl, cut_from]
      exact iRg_ok (ds := [.d (lstS l), .d (lstS (l.drop 1))]) (by simp only [sSeq_s, sSet_s, sRet_s, sDrop_s, sIf_s, sFor_s, sPars_s, sNil_s, sqz_nx, sqz_rt, m1_s, m2_s, mN_s, mF_s, mV_s, mC_s, aCons_s, aNil_s, aApp_s, mIf_s, mTst_s, toB_s, mTru_s, cAnd_s, cOr_s, cNot_s, cYes_s, mAnd_s, mSl_s, oPt_s, oNo_s, mFrz_s, gN_s, gT_s, List.getElem?_cons_zero, List.getElem?_cons_succ, bind_ok, to_ok, Sm.lift_some, li_some, oz_some, bz_some, nox_ok, sl]) (by
        show some (zpL (l.map .str) ((l.drop 1).map .str)) = _
        rw [hz2])
  have lc := mLc_pure (vs := [1, 2]) (g := gT (gsCons (gN 1) (gsCons (gN 2) (gsNil)))) (c := cYes) (e := m2 pLt (mV 1) (mV 2)) (ρ := [some (.d t), none, none]) (S := []) Hn.prD (l.zip (l.drop 1)) (fun _ => true) (fun p => .bl (ltS p.1 p.2)) hi (by rw [List.length_zip]; omega) fun p _ => ⟨[some (.d t), some (.d (.str p.1)), some (.d (.str p.2))], rfl, rfl, fun _ => rfl⟩
  rw [filter_yes, show ((l.zip (l.drop 1)).map fun p => Dt.bl (ltS p.1 p.2)) = ((l.zip (l.drop 1)).map fun p => ltS p.1 p.2).map .bl by rw [List.map_map]; rfl] at lc
  unfold b_rises
  refine (st_ret (ex_mN (ex_a1 lc) all_b)).trans ?_
  rw [List.all_map]
  rfl
theorem rises_asc : ∀ {l : List Str}, risesB l = true ↔ Asc l
  | [] => ⟨fun _ => List.Pairwise.nil, fun _ => rfl⟩
  | [a] => ⟨fun _ => List.pairwise_singleton _ _, fun _ => rfl⟩
  | a :: b :: l => by
    have ih := rises_asc (l := b :: l)
    have e : risesB (a :: b :: l) = (ltS a b && risesB (b :: l)) := rfl
    rw [e, Bool.and_eq_true, ih]
    constructor
    · rintro ⟨h1, h2⟩
      refine List.pairwise_cons.mpr ⟨fun c hc => ?_, h2⟩
      rcases List.mem_cons.mp hc with rfl | hc
      · exact h1
      · have h3 := (List.pairwise_cons.mp h2).1 c hc
        exact decide_eq_true (List.lt_trans (of_decide_eq_true h1) (of_decide_eq_true h3))
    · intro h
      obtain ⟨h1, h2⟩ := List.pairwise_cons.mp h
      exact ⟨h1 b List.mem_cons_self, h2⟩
theorem set_is (l : List Str) : decide (l = sortS (ddS l)) = risesB l := by
  rw [Bool.eq_iff_iff, decide_eq_true_iff, rises_asc]
  constructor
  · intro h
    rw [h]
    exact sortS_ddS l
  · intro h
    exact asc_eq h (sortS_ddS l) fun x => by rw [(sortS_perm _).mem_iff, mem_ddS]
theorem tz_strs {l : List Str} (h : ∀ x ∈ l, PyData.strOk x = true) : Tz 1 (lstS l) := .inr ⟨_, .inr rfl, fun y hy => by
  obtain ⟨x, hx, rfl⟩ := List.mem_map.mp hy
  exact .inl ⟨x, h x hx, rfl⟩⟩
theorem all_words {F : FM} {l : List Str} (hF : ∀ x ∈ l, ∀ S, F [.d (.str x)] S = .ok (.d (.bl (wordS x))) S) {j : Nat} {ρ : Sm.Env} {S : Sto} (hz : l.length ≤ 100000) {it : M (List Dt)} (hi : it ρ S = .ok (l.map .str) S) (hg : ∀ x : Str, ∃ ρ1, gN j (.d (.str x)) (wipeE ρ [j]) = some ρ1 ∧ mV j ρ1 S = .ok (.d (.str x)) S) :
    mN pAll (aCons (mN pLst (mLcI [j] it (gN j) (cYes) (mF F (aCons (mV j) (aNil))))) (aNil)) ρ S = .ok (.d (.bl (l.all wordS))) S := by
  have lc := mLc_pure (vs := [j]) (g := gN j) (c := cYes) (e := mF F (aCons (mV j) (aNil))) (it := it) (ρ := ρ) (S := S) Dt.str l (fun _ => true) (fun t => .bl (wordS t)) hi (by omega) fun t ht => by
    obtain ⟨ρ1, h1, h2⟩ := hg t
    exact ⟨ρ1, h1, rfl, fun _ => ex_mF (ex_a1 h2) (hF t ht S)⟩
  rw [filter_yes, show (l.map fun t => Dt.bl (wordS t)) = (l.map wordS).map .bl by rw [List.map_map]; rfl] at lc
  refine (ex_mN (ex_a1 lc) all_b).trans ?_
  rw [List.all_map]
  rfl
def setW (l : List Str) : Bool := l.all wordS && risesB l
theorem set_s {l : List Str} (hz : l.length ≤ 100000) (h : ∀ x ∈ l, x.length ≤ 100000) (S : Sto) : F_is_set [.d (tupS l)] S = .ok (.d (.bl (setW l))) S := by
  refine iso_ok (ts := [tupS l]) (S' := []) (runB_rt (ds := [.d (tupS l)]) rfl ?_)
  show b_is_set [some (.d (tupS l)), none] [] = _
  have e1 : m1 (pIsa ["tuple"]) (mV 0) [some (.d (tupS l)), none] [] = .ok (.d (.bl true)) [] := rfl
  have e2 := all_words (F := F_is_name) (l := l) (fun x hx S => name_s (h x hx) S) (j := 1) (ρ := [some (.d (tupS l)), none]) (S := []) hz (it := iSeq (mV 0)) (iSeq_t rfl) fun x => ⟨[some (.d (tupS l)), some (.d (.str x))], rfl, rfl⟩
  have e3 : l.all wordS = true → mF F_rises (aCons (mV 0) (aNil)) [some (.d (tupS l)), none] [] = .ok (.d (.bl (risesB l))) [] := fun _ => ex_mF (ds := [.d (tupS l)]) (S1 := []) rfl (rises_ok (.inl rfl) hz [])
  unfold b_is_set
  refine st_ret ((x_and e1 fun _ => x_and e2 e3).trans ?_)
  rfl
end K14
namespace La
open PySem PySem.Spec PyProof.Rows L2 LamX SrtO Srt
section order
variable {α β : Type} {lt : α → α → Bool}
end order
section
variable {prog : Program} {w : World} {A : Around} {E : Value → Shared → Prop} {s : Shared} {a kS : Addr} {vs : List Value} {keys : Array Value} {e e1 : Nat} {ltv : Value → Value → Bool} {R : PySem.Fin → Shared → Prop}
end
end La
namespace La
open PySem PySem.Spec PyProof.Rows L2 LamX SrtO Srt
structure LamP (sc scope : Scope) (p : Str) : Prop where
  kind : scope.kind = .function
  co : scope.isCoroutine = false
  gen : scope.isGenerator = false
  own : ∀ y ∈ scope.names, (y.2 = .local → y.1 = p) ∧ y.2 ≠ .cell
  par : scope.names.lookup p = some .local
  free : ∀ y ∈ scope.names, y.2 = .free → sc.names.lookup y.1 = some .cell ∨ sc.names.lookup y.1 = some .free
section
variable {X : Cx} {pins : List (Addr × Obj)} {σ : L2.St} {H : Hp} {s : Shared}
end
end La
namespace La
open PySem PySem.Spec PyProof.Rows L2 LamX SrtO Srt
section
variable {X : Cx} {pins : List (Addr × Obj)} {σ : L2.St} {H : Hp} {s : Shared}
end
end La
namespace La
open PySem PySem.Spec PyProof.Rows L2 LamX SrtO Srt
section
variable {X : Cx} {pins : List (Addr × Obj)} {σ : L2.St} {H : Hp} {s : Shared}
end
open Sm
end La
namespace La
open PySem PySem.Spec PyProof.Rows L2 LamX Sm
structure FunT (K : PySem.W.Frag) (x qual : Str) (st : Stmt) (f cm : Addr) (fd : FuncData) : Prop where
  ex : ∃ (oc : Value) (od : Option Addr) (kV doc pm : Value) (an : Option Addr) (ct : Value) (osl : Array (Option Value)),
    fd = PySem.W.fnOf x qual (defArgs st) (defBody st) (defScope st) .none kV doc pm an (.ref cm) ct ∧ K.lookup f = some ⟨oc, od, .func fd, osl⟩ ∧ PySem.W.codeIn K (.ref cm) qual = true
  kp : PySem.W.keepIn K (.ref f) = true
section
variable {P : Program} {w : World} {G : Gs} {mg : Str → Option Value} {base : Heap}
end
end La
namespace Hp
open PySem PySem.Spec PyProof.Rows L2 Sm Hn
end Hp
namespace Dc
open PySem Sm Hn Hk
def it (go : Str → Str) : Nat → Str → Str
  | 0, x => x
  | n + 1, x => go (it go n x)
structure Mv (K : List Str) (go : Str → Str) : Prop where
  nd : K.Nodup
  inj : ∀ x ∈ K, ∀ y ∈ K, go x = go y → x = y
  ne : ∀ x ∈ K, go x ≠ x
def stp (K : List Str) (go : Str → Str) (own : Str) : Nat → Nat → Nat
  | 0, i => i
  | n + 1, i => if it go (i + 1) own ∈ K ∧ it go (i + 1) own ≠ own then stp K go own n (i + 1) else i
def len (K : List Str) (go : Str → Str) (own : Str) : Nat := stp K go own K.length 0
def line (K : List Str) (go : Str → Str) (own : Str) : List Str := (List.range (len K go own + 1)).map fun i => it go i own
def last (K : List Str) (go : Str → Str) (own : Str) : Str := it go (len K go own + 1) own
section
variable {K : List Str} {go : Str → Str} {own : Str}
structure Hd (K : List Str) (go : Str → Str) (own : Str) : Prop where
  mem : own ∈ K
  or : (last K go own = own ∧ ∀ y ∈ line K go own, leS own y = true) ∨ (last K go own ∉ K ∧ ∀ y ∈ K, go y ≠ own)
end
end Dc
namespace Dc
open PySem Sm Hn Hk
section
variable {K : List Str} {go : Str → Str} {own : Str}
structure Is (K : List Str) (go : Str → Str) (own : Str) (p : Part) : Prop where
  hd : Hd K go own
  fst : p.1 = line K go own
  or : (p.2 = "" ∧ last K go own = own ∧ own = minTx own (line K go own).tail) ∨ (p.2 = last K go own ∧ last K go own ∉ K)
end
end Dc
namespace Hr
open PySem PySem.Spec PyProof.Rows L2 Sm Hn
structure Gr (rows : List (Str × List Str)) (emps : List Str) : Prop where
  nd : (folk rows ++ emps).Nodup
  wn : ∀ r ∈ rows, r.2.Nodup
  ns : ∀ r ∈ rows, r.1 ∉ r.2
  ne : ("" : Str) ∉ folk rows ++ emps
  z : rows.length ≤ 20
  ze : emps.length ≤ 20
  wl : ∀ r ∈ rows, r.2.length ≤ 100
  so : ∀ h ∈ folk rows ++ emps, PyData.strOk h = true
section
variable {rows : List (Str × List Str)} {emps : List Str}
end
end Hr
namespace Hr
open PySem PySem.Spec PyProof.Rows L2 Sm Hn
structure Ct where
  ns : List Str
  hs : List Str
  ks : Str → List Str
  wt : Str → Str → Int
structure Ct.Ok (c : Ct) : Prop where
  nn : c.ns.Nodup
  hn : c.hs.Nodup
  kn : ∀ n ∈ c.ns, (c.ks n).Nodup
  own : ∀ n ∈ c.ns, n ∈ c.ks n
  sub : ∀ n ∈ c.ns, ∀ h ∈ c.ks n, h ∈ c.hs
  fr : ("" : Str) ∉ c.hs
  so : ∀ h ∈ c.hs, PyData.strOk h = true
  z5 : c.hs.length ≤ 50
section
variable {c : Ct} {T : Str → Str}
def worD (c : Ct) : Dt := .dct (kS c.ns) (c.ns.map fun n => wrow (c.ks n) (c.wt n))
def takD (c : Ct) (T : Str → Str) : Dt := .dct (kS c.ns) (c.ns.map fun n => .str (T n))
structure Tk (c : Ct) (T : Str → Str) : Prop where
  mem : ∀ n ∈ c.ns, T n ∈ c.ks n
  inj : (c.ns.map T).Nodup
def chB (c : Ct) (T : Str → Str) (r : Dv) : Bo := .ins 1 [some (.d (tupS c.hs)), some r, some (.d (takD c T)), some (.d (worD c))]
def turnL (c : Ct) (T : Str → Str) (n : Str) : List (Str × Str × Int) := ("", T n, 0) :: ((c.ks n).filter fun o => !decide (o = T n)).map fun o => (T n, o, c.wt n o - c.wt n (T n))
def stepsL (c : Ct) (T : Str → Str) : List (Str × Str × Int) := ((c.hs.filter fun h => !decide (h ∈ c.ns.map T)).map fun h => (h, ("" : Str), (0 : Int))) ++ c.ns.flatMap (turnL c T)
section
variable {S : Sto} {r : Dv}
end
end
end Hr
namespace Rg
section
variable {α : Type} [DecidableEq α] {E : List (Ed α)} {r : α → Int} {b : α → Option (α × Int)}
def rot (l : List α) : List α := l.drop 1 ++ l.take 1
def sc (ring : List α) (u : α) : α := ((rot ring)[ring.idxOf u]?).getD u
def nx (ring : List α) (u : α) : Option α := if u ∈ ring then some (sc ring u) else none
inductive Way (b : α → Option (α × Int)) (x : α) : List α → Prop where
  | none {l : List α} {y : α} : Bk b x l y → l.Nodup → b y = none → Way b x []
  | ring {l : List α} {y : α} : Bk b y l y → l.Nodup → l ≠ [] → Way b x l.reverse
end
end Rg
namespace Hr
open PySem PySem.Spec PyProof.Rows L2 Sm Hn
abbrev dB (l : List Str) (f : Str → Dv) : Bo := .dct (kS l) (l.map f)
section
variable {l : List Str} {f : Str → Dv} {S : Sto} {k : Nat} {x v : Str}
end
def bk (b : Str → Option (Str × Int)) (v : Str) : Str := ((b v).getD ("", 0)).1
abbrev backB (l : List Str) (b : Str → Option (Str × Int)) : Bo := dB l fun v => .d (.str (bk b v))
section
variable {b : Str → Option (Str × Int)} {l V : List Str} {S : Sto} {kb : Nat}
end
end Hr
namespace Hr
open PySem PySem.Spec PyProof.Rows L2 Sm Hn
def VV (c : Ct) : List Str := c.hs ++ [("" : Str)]
abbrev reachB (c : Ct) (r : Str → Int) : Bo := dB (VV c) fun v => .d (.int (r v))
structure BS (c : Ct) (T : Str → Str) (r0 : Dv) (kb kr : Nat) (l : List Str) (b : Str → Option (Str × Int)) (r : Str → Int) (S : Sto) : Prop where
  i0 : S[0]? = some (chB c T r0)
  ib : S[kb]? = some (backB l b)
  ir : S[kr]? = some (reachB c r)
  hd : ∀ v, v ∈ l ↔ b v ≠ none
  nd : l.Nodup
  hs : ∀ v ∈ l, v ∈ VV c
section
variable {c : Ct} {T : Str → Str} {r0 : Dv} {kb kr : Nat} {l : List Str} {b : Str → Option (Str × Int)} {r : Str → Int} {S : Sto}
end
end Hr
namespace Hr
open PySem PySem.Spec PyProof.Rows L2 Sm Hn
section
variable {c : Ct} {T : Str → Str} {r0 : Dv} {S : Sto}
end
end Hr
namespace Hr
open PySem PySem.Spec PyProof.Rows L2 Sm Hn
section
variable {c : Ct} {T : Str → Str} {r0 : Dv} {S : Sto}
end
end Hr
namespace Hr
open PySem PySem.Spec PyProof.Rows L2 Sm Hn
section
variable {c : Ct} {T : Str → Str} {r0 : Dv} {S : Sto}
structure Chosen (c : Ct) (T : Str → Str) (r : Str → Int) : Prop where
  tk : Tk c T
  tight : ∀ e ∈ stepsL c T, r e.1 + e.2.2 ≤ r e.2.1
end
def ctM (rows : List (Str × List Str)) (emps : List Str) (low : Int) (l : List Str) : Ct := ⟨folk rows, homesL rows emps, ksOf rows emps, wtOf low l⟩
abbrev ctS (rows : List (Str × List Str)) (emps : List Str) : Ct := ctM rows emps (-(rows.length : Int) - 1) []
section
variable {rows : List (Str × List Str)} {emps : List Str} {low : Int} {l : List Str} {t : Dt}
end
end Hr
namespace Hr
open PySem PySem.Spec PyProof.Rows L2 Sm Hn
section
variable {ks : Str → List Str}
structure Fits (ks : Str → List Str) (l w : List Str) : Prop where
  len : w.length = l.length
  nd : w.Nodup
  mem : ∀ (i : Nat) (a f : Str), l[i]? = some a → w[i]? = some f → f ∈ ks a
end
section
variable {rows : List (Str × List Str)} {emps : List Str}
end
end Hr
namespace Hn
open PySem PySem.Spec PyProof.Rows L2 Sm
section
variable {rows : List (Str × List Str)} {emps : List Str} {st : List Stay} {lo : Int} {hi : Option Int}
end
section
variable {rows : List (Str × List Str)} {emps : List Str} {st : List Stay} {lo : Int} {hi : Option Int} {t : Dt}
end
end Hn
namespace Hn
open PySem PySem.Spec PyProof.Rows L2 Sm
section
variable {α : Type} {key : α → Str} {val : α → Dt}
end
section
variable {rows : List (Str × List Str)} {emps : List Str} {st : List Stay}
end
end Hn
namespace Dc
open PySem PySem.Spec PyProof.Rows L2 Sm Hn Hk
section
variable {B : Sto} {L : List Str} {x : Str}
end
section
variable {K : List Str} {go : Str → Str} {own : Str}
end
end Dc
namespace Dc
open PySem PySem.Spec PyProof.Rows L2 Sm Hn Hk Hr
section
variable {rows : List (Str × List Str)} {emps : List Str} {w : List Str}
end
end Dc
namespace Dc
open PySem PySem.Spec PyProof.Rows L2 Sm Hn Hk Hr
section
variable {rows : List (Str × List Str)} {emps : List Str} {w : List Str}
structure Says (rows : List (Str × List Str)) (emps : List Str) (p : Part) : Prop where
  mem : ∀ x ∈ p.1, x ∈ folk rows
  want : ∀ q ∈ p.1.zip (goalsP p), q.2 ∈ wantsL rows emps q.1
  ends : p.2 ≠ "" → p.2 ∈ emps
end
end Dc
namespace Dc
open PySem PySem.Spec PyProof.Rows L2 Sm Hn Hk Hr
section
variable {rows : List (Str × List Str)} {emps : List Str} {ps : List Part} {t : Dt}
end
end Dc
namespace Dc
open PySem PySem.Spec PyProof.Rows L2 Sm Hn Hk
def Und (a b : List Str) : Prop := ∀ x, a.count x ≤ b.count x
section
variable {fs : List Part} {L : List Str} {o : Bo}
end
structure Kin (p : Part) (L : List Str) (qs : List Part) (L' : List Str) : Prop where
  z : qs.length ≤ 1
  ne : ∀ q ∈ qs, q.1 ≠ []
  tr : ∀ q ∈ qs, turnP q = q
  u : Und (namesA qs ++ L') (namesP p ++ L)
end Dc
namespace Dc
open PySem PySem.Spec PyProof.Rows L2 Sm Hn Hk
end Dc
namespace Hr
open PySem PySem.Spec PyProof.Rows L2 Sm Hn
section
variable {rows rows' : List (Str × List Str)} {emps emps' : List Str} {T : Str → Str}
end
end Hr
namespace Hr
open PySem PySem.Spec PyProof.Rows L2 Sm Hn
structure Gq (rows : List (Str × List Str)) (emps : List Str) : Prop where
  G : Gs8 rows emps
  nz : ("" : Str) ∉ folk rows ++ emps
  z5 : rows.length ≤ 5
  e5 : emps.length ≤ 5
section
variable {rows : List (Str × List Str)} {emps gone : List Str} {e : Str} {f : List Str → List Str} {t g : Dt}
structure Tq (rows : List (Str × List Str)) (emps : List Str) : Prop where
  q : Gq rows emps
  pr : ∀ r ∈ rows, r.1 ∈ pool ∧ r.2.length ≤ 10 ∧ ∀ x ∈ r.2, x ∈ pool
  pe : ∀ x ∈ emps, x ∈ pool
  se : Asc emps
  z4 : rows.length ≤ 5
  e4 : emps.length ≤ 4
structure Put (e : Str) (f : List Str → List Str) : Prop where
  mem : ∀ l y, y ∈ f l ↔ y ∈ l ∨ y = e
  asc : ∀ l, Asc l → e ∉ l → Asc (f l)
  len : ∀ l, (f l).length ≤ l.length + 1
end
end Hr
namespace Dc
open PySem PySem.Spec PyProof.Rows L2 Sm Hn Hk Hr
end Dc
namespace Dc
open PySem PySem.Spec PyProof.Rows L2 Sm Hn Hk Hr
structure Wys (rows : List (Str × List Str)) (emps : List Str) (ws : List (List Str)) : Prop where
  ok : ∀ S, Hr.F__law_ways [.d (shD rows emps)] S = .ok (.d (.lst (ws.map tupS))) S
  fit : ∀ w ∈ ws, Fits (ksOf rows emps) (folk rows) w
  has : ∀ T, Tk (ctS rows emps) T → (folk rows).map T ∈ ws
  ne : ws ≠ []
  z : ws.length < 1000000
end Dc
namespace Hp
open PySem PySem.Spec PyProof.Rows L2 Sm Hn Hk Hr Dc
section
variable {rows : List (Str × List Str)} {emps off : List Str} {ps : List Part}
end
end Hp
namespace Hp
open PySem PySem.Spec PyProof.Rows L2 Sm Hn Hk Hr Dc
section
variable {rows : List (Str × List Str)} {emps off : List Str} {ps : List Part}
end
end Hp
namespace Hp
open PySem PySem.Spec PyProof.Rows L2 Sm Hn Hk Hr Dc
section
variable {rows : List (Str × List Str)} {emps : List Str} {ws : List (List Str)}
theorem ix_lastD {xs : List Dt} (h : xs ≠ []) (S : Sto) : pIx (.d (.lst xs)) (.d (.int (-1))) S = some (.d (xs.getLast h), S) := by
  have hl : 0 < xs.length := List.length_pos_iff.mpr h
  have e1 : xs[xs.length - 1]? = some (xs.getLast h) := by rw [← List.getLast?_eq_getElem?, List.getLast?_eq_some_getLast h]
  have hx : ixN xs.length (-1) = some (xs.length - 1) := by
    unfold ixN
    rw [if_neg (by omega), if_pos (by omega)]
    congr 1
    omega
  have hsq : seqAt S (.d (.lst xs)) = some (xs.map .d) := rfl
  have hd : dctAt S (.d (.lst xs)) = none := rfl
  unfold pIx
  rw [hd]
  simp only [hsq, atI, List.length_map, hx, Option.bind_some, List.getElem?_map, e1, Option.map_some]
end
end Hp
set_option maxHeartbeats 2000000
namespace K14
open PySem PySem.Spec PyProof.Rows L2 Sm Hn
abbrev BL : Str := (" " : Str)
abbrev NL : Str := ("\n" : Str)
abbrev CO : Str := (":" : Str)
abbrev PL : Str := ("+" : Str)
structure Lk (x : Str) : Prop where
  ok : PyData.strOk x = true
  z : x.length ≤ 990
theorem le_sum : ∀ {l : List Str} {x : Str}, x ∈ l → x.length ≤ (l.map (·.length)).sum
  | [], x, h => absurd h List.not_mem_nil
  | a :: l, x, h => by
    rw [List.map_cons, List.sum_cons]
    rcases List.mem_cons.mp h with rfl | h
    · omega
    · have := le_sum h
      omega
theorem split_lk {x s : Str} (h : Lk x) (hs : s.length = 1) : (∀ w ∈ Txt.split x s, Lk w) ∧ (Txt.split x s).length ≤ 1000 ∧ ∃ w ws, Txt.split x s = w :: ws := by
  obtain ⟨h1, h2, h3⟩ := Tq.split_ok (s := x) (sub := s) (by omega) h.ok
  have hz := h.z
  rw [hs] at h2
  refine ⟨fun w hw => ⟨h1 w hw, ?_⟩, ?_, ?_⟩
  · have := le_sum hw
    omega
  · omega
  · cases e : Txt.split x s with
    | nil =>
      rw [e] at h3
      simp at h3
    | cons w ws => exact ⟨w, ws, rfl⟩
theorem sp_ok {mo me : M Dv} {ρ : Sm.Env} {S : Sto} {a b : Str} (ho : mo ρ S = .ok (.d (.str a)) S) (he : me ρ S = .ok (.d (.str b)) S) (h : Lk a) (hb : b.length = 1) : mSplit mo me ρ S = .ok (.d (lstS (Txt.split a b))) S := by
  have hz := h.z
  unfold mSplit
  rw [ho, bind_ok]
  show (me ρ S).bind _ = _
  rw [he, bind_ok]
  show (if (b.length == 0) = false ∧ a.length + 2 ≤ sizeLine then _ else _) = _
  rw [if_pos ⟨by rw [hb]; rfl, by rw [sizeLine_eq]; omega⟩]
def ini (w : Str) : Str := cutS w none (some (-1))
def lst1 (w : Str) : Str := cutS w (some (-1)) none
theorem cl_cut (z : Str) (lo hi : Option Int) : ∃ i j, Tq.cl (cutS z lo hi) = ((Tq.cl z).drop i).take j := ⟨_, _, rfl⟩
theorem cut_lk {z : Str} (h : Lk z) (lo hi : Option Int) : Lk (cutS z lo hi) := by
  obtain ⟨i, j, e⟩ := cl_cut z lo hi
  refine ⟨?_, ?_⟩
  · have h1 := h.ok
    unfold PyData.strOk at h1 ⊢
    rw [Array.all_eq_true'] at h1 ⊢
    intro c hc
    refine h1 c ?_
    have hc' : c ∈ Tq.cl (cutS z lo hi) := Array.mem_toList_iff.mpr hc
    rw [e] at hc'
    exact Array.mem_toList_iff.mp (List.mem_of_mem_drop (List.mem_of_mem_take hc'))
  · rw [← Tq.cl_len, e, List.length_take, List.length_drop, Tq.cl_len]
    have := h.z
    omega
theorem Lk.tk {x : Str} (h : Lk x) : Tk x := ⟨h.ok, by have := h.z; omega⟩
theorem sl_s {z : Str} (h : Lk z) (lo hi : Option Int) (S : Sto) : pSl lo hi (.d (.str z)) S = some (.d (.str (cutS z lo hi)), S) := by
  show (if z.length ≤ 16777216 then some (Dv.d (.str (cutS z lo hi)), S) else none) = _
  rw [if_pos (by have := h.z; omega)]
def rowV (line : Str) : Option (Str × List Str) := match Txt.split line BL with
  | [] => none
  | w :: ws => if (!Txt.endswith w CO || (!wordS (ini w) || (!setW ws || decide (ini w ∈ ws)))) = true then none else some (ini w, ws)
def rowD : Option (Str × List Str) → Dt
  | none => .non
  | some r => row r
theorem row_in_ok {line : Str} (h : Lk line) (S : Sto) : F_row_in [.d (.str line)] S = .ok (.d (rowD (rowV line))) S := by
  obtain ⟨hw, hn, w, ws, e⟩ := split_lk (s := BL) h rfl
  rw [e] at hw hn
  have kw := hw w List.mem_cons_self
  have kws : ∀ x ∈ ws, Lk x := fun x hx => hw x (List.mem_cons_of_mem _ hx)
  rw [List.length_cons] at hn
  refine iso_ok (ts := [.str line]) (S' := []) (runB_rt (ds := [.d (.str line)]) rfl ?_)
  let E : Option Dv → Option Dv → Sm.Env := fun a b => [some (.d (.str line)), some (.d (.str w)), some (.d (lstS ws)), a, b]
  show b_row_in [some (.d (.str line)), none, none, none, none] [] = _
  have sp := sp_ok (mo := mV 0) (me := mC (.str BL)) (ρ := [some (.d (.str line)), none, none, none, none]) (S := []) (a := line) (b := BL) rfl rfl h rfl
  have s0 : sAsg (gStar1 1 2) (mSplit (mV 0) (mC (.str BL))) [some (.d (.str line)), none, none, none, none] [] = .nx (E none none) [] := by
    rw [sAsg_s, sp, to_ok, e]
    rfl
  let N : Str := if Txt.endswith w CO = true then ini w else w
  have kN : Lk N := by
    show Lk (if Txt.endswith w CO = true then ini w else w)
    split
    · exact cut_lk kw _ _
    · exact kw
  have ew : ∀ a b, mTru pTru (mEndsW (mV 1) (mC (.str CO))) (E a b) [] = .ok (Txt.endswith w CO) [] := fun a b => rfl
  have nm : mIf (mTru pTru (mEndsW (mV 1) (mC (.str CO)))) (mSl pSl (mV 1) (oNo) (oPt (m1 pNeg (mC (.int 1))))) (mV 1) (E none none) [] = .ok (.d (.str N)) [] := by
    rw [mIf_s, ew, bind_ok]
    show (if Txt.endswith w CO = true then _ else _) = Rz.ok (Dv.d (.str (if Txt.endswith w CO = true then ini w else w))) []
    split
    · rw [mSl_s, show mV 1 (E none none) [] = .ok (.d (.str w)) [] from rfl, bind_ok]
      show Sm.lift (pSl none (some (-1)) (.d (.str w)) []) = _
      rw [sl_s kw]
      rfl
    · rfl
  have s1 : sPars [3, 4] (aCons (mIf (mTru pTru (mEndsW (mV 1) (mC (.str CO)))) (mSl pSl (mV 1) (oNo) (oPt (m1 pNeg (mC (.int 1))))) (mV 1)) (aCons (mN pTuple (aCons (mV 2) (aNil))) (aNil))) (E none none) [] = .nx (E (some (.d (.str N))) (some (.d (tupS ws)))) [] := st_pars (ds := [.d (.str N), .d (tupS ws)]) (by
    rw [aCons_s, nm, bind_ok, ex_a1 (ex_mN (ex_a1 (d := .d (lstS ws)) rfl) pTuple_lst), bind_ok]) rfl
  let E2 := E (some (.d (.str N))) (some (.d (tupS ws)))
  have c1 : cNot (mTru pTru (mEndsW (mV 1) (mC (.str CO)))) E2 [] = .ok (!Txt.endswith w CO) [] := x_not (ew _ _)
  have c2 : cNot (mTru pTru (mF F_is_name (aCons (mV 3) (aNil)))) E2 [] = .ok (!wordS N) [] := x_not (x_tru (ex_mF (ds := [.d (.str N)]) (S1 := []) rfl (name_s (by have := kN.z; omega) [])))
  have c3 : cNot (mTru pTru (mF F_is_set (aCons (mV 4) (aNil)))) E2 [] = .ok (!setW ws) [] := x_not (x_tru (ex_mF (ds := [.d (tupS ws)]) (S1 := []) rfl (set_s (by omega) (fun x hx => by have := (kws x hx).z; omega) [])))
  have c4 : mTst (m2 pIn (mV 3) (mV 4)) E2 [] = .ok (decide (N ∈ ws)) [] := x_tst (ex_m2 (d := .d (.str N)) (e := .d (tupS ws)) rfl rfl in_t)
  have cc := x_or c1 fun _ => x_or c2 fun _ => x_or c3 fun _ => c4
  have en : (!Txt.endswith w CO || (!wordS N || (!setW ws || decide (N ∈ ws)))) = (!Txt.endswith w CO || (!wordS (ini w) || (!setW ws || decide (ini w ∈ ws)))) := by
    cases hE : Txt.endswith w CO with
    | false => rfl
    | true =>
      have : N = ini w := if_pos hE
      rw [this]
  unfold b_row_in
  rw [sSeq_s, s0, sqz_nx, sSeq_s, s1, sqz_nx, sSeq_s]
  show _ = Sz.rt (Dv.d (rowD (match Txt.split line BL with
    | [] => none
    | w :: ws => if (!Txt.endswith w CO || (!wordS (ini w) || (!setW ws || decide (ini w ∈ ws)))) = true then none else some (ini w, ws)))) []
  rw [e]
  simp only
  rw [← en]
  cases hc : (!Txt.endswith w CO || (!wordS N || (!setW ws || decide (N ∈ ws)))) with
  | true =>
    rw [hc] at cc
    rw [st_if_t cc rfl]
    rfl
  | false =>
    rw [hc] at cc
    have hE : Txt.endswith w CO = true := by
      cases hE : Txt.endswith w CO with
      | true => rfl
      | false =>
        rw [hE] at hc
        cases hc
    have hN : N = ini w := if_pos hE
    rw [st_if_f (a := sRet (mC .non)) (b := sNil) (r := .nx E2 []) cc rfl, sqz_nx]
    have : (if false = true then none else some (ini w, ws)) = some (ini w, ws) := rfl
    rw [this, ← hN]
    rfl
def empV (line : Str) (rows : List (Str × List Str)) : Option (List Str) := match Txt.split line BL with
  | [] => none
  | w :: ws => if (!decide (w = PL) || (decide (ws.length = 0) || !setW ws)) = true then none else if (rows.any fun r => decide (r.1 ∈ ws)) = true then none else some ws
def empD : Option (List Str) → Dt
  | none => .non
  | some l => tupS l
theorem pl_ok : PyData.strOk PL = true := by decide +kernel
theorem empties_in_ok {line : Str} (h : Lk line) (rows : List (Str × List Str)) (hr : rows.length ≤ 1000) (S : Sto) : F_empties_in [.d (.str line), .d (.lst (rows.map row))] S = .ok (.d (empD (empV line rows))) S := by
  obtain ⟨hw, hn, w, ws, e⟩ := split_lk (s := BL) h rfl
  rw [e] at hw hn
  have kw := hw w List.mem_cons_self
  have kws : ∀ x ∈ ws, Lk x := fun x hx => hw x (List.mem_cons_of_mem _ hx)
  rw [List.length_cons] at hn
  let R : Option Dv := some (.d (.lst (rows.map row)))
  refine iso_ok (ts := [.str line, .lst (rows.map row)]) (S' := []) (runB_rt (ds := [.d (.str line), .d (.lst (rows.map row))]) rfl ?_)
  let E : Option Dv → Option Dv → Sm.Env := fun a b => [some (.d (.str line)), R, some (.d (.str w)), some (.d (lstS ws)), a, b]
  show b_empties_in [some (.d (.str line)), R, none, none, none, none] [] = _
  have sp := sp_ok (mo := mV 0) (me := mC (.str BL)) (ρ := [some (.d (.str line)), R, none, none, none, none]) (S := []) (a := line) (b := BL) rfl rfl h rfl
  have s0 : sAsg (gStar1 2 3) (mSplit (mV 0) (mC (.str BL))) [some (.d (.str line)), R, none, none, none, none] [] = .nx (E none none) [] := by
    rw [sAsg_s, sp, to_ok, e]
    rfl
  let T : Option Dv := some (.d (tupS ws))
  have s1 : sSet 4 (mN pTuple (aCons (mV 3) (aNil))) (E none none) [] = .nx (E T none) [] := st_set (ex_mN (ex_a1 (d := .d (lstS ws)) rfl) pTuple_lst)
  have c1 : mTst (m2 pNe (mV 2) (mC (.str PL))) (E T none) [] = .ok (!decide (w = PL)) [] := x_tst (ex_m2 (d := .d (.str w)) (e := .d (.str PL)) rfl rfl (ne_s kw.ok pl_ok))
  have c2 : mTst (m2 pEq (mN pLen (aCons (mV 4) (aNil))) (mC (.int 0))) (E T none) [] = .ok (decide (ws.length = 0)) [] := by
    have ln : pLen [.d (tupS ws)] ([] : Sto) = some (.d (.int (ws.length : Int)), []) := by simp [pLen, dctAt, seqAt, lstAt]
    refine x_tst (ex_m2 (d := .d (.int (ws.length : Int))) (e := .d (.int 0)) (ex_mN (ex_a1 (d := .d (tupS ws)) rfl) ln) rfl ?_)
    rw [Hn.eq_i]
    have : decide ((ws.length : Int) = 0) = decide (ws.length = 0) := decide_eq_decide.mpr (by omega)
    rw [this]
  have c3 : cNot (mTru pTru (mF F_is_set (aCons (mV 4) (aNil)))) (E T none) [] = .ok (!setW ws) [] := x_not (x_tru (ex_mF (ds := [.d (tupS ws)]) (S1 := []) rfl (set_s (by omega) (fun x hx => by have := (kws x hx).z; omega) [])))
  have cc := x_or c1 fun _ => x_or c2 fun _ => c3
  have lc := mLc_pure (vs := [5]) (g := gN 5) (c := cYes) (e := m2 pIn (m2 pIx (mV 5) (mC (.int 0))) (mV 4)) (it := iSeq (mV 1)) (ρ := E T none) (S := []) row rows (fun _ => true) (fun r => .bl (decide (r.1 ∈ ws))) (iSeq_l rfl) (by omega) fun r _ => ⟨E T (some (.d (row r))), rfl, rfl, fun _ => ex_m2 (d := .d (.str r.1)) (e := .d (tupS ws)) (ex_m2 (d := .d (row r)) (e := .d (.int 0)) rfl rfl (ix_tup (i := 0) rfl)) rfl in_t⟩
  rw [filter_yes, show (rows.map fun r => Dt.bl (decide (r.1 ∈ ws))) = (rows.map fun r => decide (r.1 ∈ ws)).map .bl by rw [List.map_map]; rfl] at lc
  have an : mTru pTru (mN pAny (aCons (mN pLst (mLcI [5] (iSeq (mV 1)) (gN 5) (cYes) (m2 pIn (m2 pIx (mV 5) (mC (.int 0))) (mV 4)))) (aNil))) (E T none) [] = .ok (rows.any fun r => decide (r.1 ∈ ws)) [] := by
    have := ex_mN (ex_a1 lc) any_b
    rw [List.any_map] at this
    exact x_tru this
  unfold b_empties_in
  rw [sSeq_s, s0, sqz_nx, sSeq_s, s1, sqz_nx, sSeq_s]
  show _ = Sz.rt (Dv.d (empD (match Txt.split line BL with
    | [] => none
    | w :: ws => if (!decide (w = PL) || (decide (ws.length = 0) || !setW ws)) = true then none else if (rows.any fun r => decide (r.1 ∈ ws)) = true then none else some ws))) []
  rw [e]
  simp only
  cases hc : (!decide (w = PL) || (decide (ws.length = 0) || !setW ws)) with
  | true =>
    rw [hc] at cc
    rw [st_if_t cc rfl]
    rfl
  | false =>
    rw [hc] at cc
    rw [st_if_f (a := sRet (mC .non)) (b := sNil) (r := .nx (E T none) []) cc rfl, sqz_nx]
    have : ∀ x, (if false = true then none else x : Option (List Str)) = x := fun _ => rfl
    rw [this]
    refine st_ret ?_
    rw [mIf_s, an, bind_ok]
    cases (rows.any fun r => decide (r.1 ∈ ws)) with
    | true => rfl
    | false => rfl
end K14
set_option maxHeartbeats 2000000
namespace K14
open PySem PySem.Spec PyProof.Rows L2 Sm Hn
abbrev St : Type := List (Str × List Str) × List Str
def lastN (rows : List (Str × List Str)) : Str := (rows.getLast?.map (·.1)).getD ("" : Str)
def step (line : Str) (st : St) : Option St :=
  if (decide (0 < st.2.length) || ((rowV line).isNone && (empV line st.1).isNone)) = true then none
  else match rowV line with
    | none => (empV line st.1).map fun x => (st.1, x)
    | some q => if (decide (0 < st.1.length) && !ltS (lastN st.1) q.1) = true then none else some (st.1 ++ [q], st.2)
def readL : Nat → List Str → St → Nat ⊕ St
  | _, [], st => .inr st
  | k, l :: r, st => match step l st with
    | none => .inl k
    | some st' => readL (k + 1) r st'
def enS : Nat → List Str → List Dt
  | _, [] => []
  | k, l :: r => .tup [.int (k : Int), .str l] :: enS (k + 1) r
theorem enL_S (l : List Str) : enL (l.map .str) = enS 0 l := by
  have key : ∀ (m k : Nat) (r : List Str), (∀ i, i < m → (l.map Dt.str)[k + i]? = (r.map Dt.str)[i]?) → r.length = m → (List.range' k m).filterMap (fun i => ((l.map Dt.str)[i]?).map fun t => Dt.tup [.int (i : Nat), t]) = enS k r := by
    intro m
    induction m with
    | zero =>
      intro k r _ hr
      cases r with
      | nil => rfl
      | cons => simp at hr
    | succ m ih =>
      intro k r h hr
      cases r with
      | nil => simp at hr
      | cons x r =>
        have h0 := h 0 (by omega)
        rw [Nat.add_zero, List.map_cons, List.getElem?_cons_zero] at h0
        rw [List.range'_succ, List.filterMap_cons, h0]
        show _ :: _ = _
        rw [ih (k + 1) r (fun i hi => by
          have := h (i + 1) (by omega)
          rw [List.map_cons, List.getElem?_cons_succ] at this
          rw [← this]
          congr 1
          omega) (by simpa using hr)]
        rfl
  unfold enL
  rw [List.length_map, List.range_eq_range']
  exact key l.length 0 l (fun i _ => by rw [Nat.zero_add]) rfl
theorem opts_so {α β : Type} {f : α → Option β} {g : α → β} : ∀ {l : List α}, (∀ a ∈ l, f a = some (g a)) → opts (l.map f) = some (l.map g)
  | [], _ => rfl
  | a :: l, h => by
    rw [List.map_cons, h a List.mem_cons_self]
    unfold opts
    rw [opts_so fun b hb => h b (List.mem_cons_of_mem _ hb)]
    rfl
abbrev bxR (rows : List (Str × List Str)) : Bo := .lst ((rows.map row).map .d)
theorem deep_b (rows : List (Str × List Str)) : deepE [bxR rows] (some (.loc 0)) = some (.d (.lst (rows.map row))) := by
  unfold deepE
  rw [Option.bind_some]
  show ((match ([bxR rows] : Sto)[0]? with
    | some (Bo.lst xs) => (opts (xs.map (deepR [bxR rows] 2))).map Dt.lst
    | _ => none).map Dv.d) = _
  show (((opts (((rows.map row).map Dv.d).map (deepR [bxR rows] 2))).map Dt.lst).map Dv.d) = _
  rw [List.map_map, opts_so (g := fun t : Dt => t) fun t _ => by rfl, List.map_id']
  rfl
theorem snap_ok {m : M Dv} {ρ : Sm.Env} {S S' : Sto} {t : Dt} (h : m (ρ.map (deepE S)) [] = .ok (.d t) S') (hn : noLst t = true) : mSnapE m ρ S = .ok (.d t) S := by
  unfold mSnapE
  rw [h]
  simp only
  rw [if_pos hn]
theorem noLst_strs : ∀ l : List Str, noLst (tupS l) = true := fun l => by
  show noLsts (l.map Dt.str) = true
  induction l with
  | nil => rfl
  | cons a l ih =>
    show (noLst (Dt.str a) && noLsts (l.map Dt.str)) = true
    rw [ih]
    rfl
theorem empD_noLst (o : Option (List Str)) : noLst (empD o) = true := by
  cases o with
  | none => rfl
  | some l => exact noLst_strs l
theorem isn_row (o : Option (Str × List Str)) (S : Sto) : pIsN (.d (rowD o)) (.d .non) S = some (.d (.bl o.isNone), S) := by
  cases o <;> rfl
theorem isn_emp (o : Option (List Str)) (S : Sto) : pIsN (.d (empD o)) (.d .non) S = some (.d (.bl o.isNone), S) := by
  cases o <;> rfl
theorem len_t {l : List Str} (S : Sto) : pLen [.d (tupS l)] S = some (.d (.int (l.length : Int)), S) := by simp [pLen, dctAt, seqAt, lstAt]
theorem len_b {rows : List (Str × List Str)} : pLen [.loc 0] [bxR rows] = some (.d (.int (rows.length : Int)), [bxR rows]) := by
  simp [pLen, dctAt, seqAt, lstAt]
theorem gt0 {n : Nat} {S : Sto} : pGt (.d (.int (n : Int))) (.d (.int 0)) S = some (.d (.bl (decide (0 < n))), S) := by
  show some (Dv.d (.bl (decide ((0 : Int) < (n : Int)))), S) = _
  have : decide ((0 : Int) < (n : Int)) = decide (0 < n) := decide_eq_decide.mpr (by omega)
  rw [this]
theorem ix_lastR {rows : List (Str × List Str)} (h : 0 < rows.length) : ∃ q, rows.getLast? = some q ∧ pIx (.loc 0) (.d (.int (-1))) [bxR rows] = some (.d (row q), [bxR rows]) := by
  have hne : rows ≠ [] := fun z => by rw [z] at h; simp at h
  refine ⟨rows.getLast hne, List.getLast?_eq_some_getLast hne, ?_⟩
  have e1 : seqAt [bxR rows] (.loc 0) = some ((rows.map row).map Dv.d) := rfl
  have e2 : atI ((rows.map row).map Dv.d) (-1) = some (.d (row (rows.getLast hne))) := by
    have := Hp.ix_lastD (xs := rows.map row) (by simpa using hne) []
    have e3 : pIx (.d (.lst (rows.map row))) (.d (.int (-1))) [] = (atI ((rows.map row).map Dv.d) (-1)).map fun x => (x, ([] : Sto)) := by
      show (match atI ((rows.map row).map Dv.d) (-1) with
        | some x => some (x, ([] : Sto))
        | none => none) = _
      cases atI ((rows.map row).map Dv.d) (-1) <;> rfl
    rw [e3] at this
    cases ha : atI ((rows.map row).map Dv.d) (-1) with
    | none => rw [ha] at this; cases this
    | some x =>
      rw [ha] at this
      have := Option.some.inj this
      have := congrArg Prod.fst this
      rw [List.getLast_map] at this
      exact congrArg some this
  have e0 : dctAt [bxR rows] (.loc 0) = none := rfl
  unfold pIx
  simp only [e0, e1, e2]
abbrev eS (text : Str) (emps : List Str) (a b c d : Option Dv) : Sm.Env := [some (.d (.str text)), some (.loc 0), some (.d (tupS emps)), a, b, c, d]
theorem line_ok {text line : Str} (h : Lk line) (k : Nat) (rows : List (Str × List Str)) (emps : List Str) (hr : rows.length ≤ 1000) (z5 z6 : Option Dv) : ∃ z5' z6', l1_sheet_in (eS text emps (some (.d (.int (k : Int)))) (some (.d (.str line))) z5 z6) [bxR rows] = (match step line (rows, emps) with
      | none => .er 0 (.int (k : Int)) (eS text emps (some (.d (.int (k : Int)))) (some (.d (.str line))) z5' z6') [bxR rows]
      | some st => .nx (eS text st.2 (some (.d (.int (k : Int)))) (some (.d (.str line))) z5' z6') [bxR st.1]) := by
  let K : Option Dv := some (.d (.int (k : Int)))
  let L : Option Dv := some (.d (.str line))
  let S : Sto := [bxR rows]
  let r5 : Option Dv := some (.d (rowD (rowV line)))
  let r6 : Option Dv := some (.d (empD (empV line rows)))
  refine ⟨r5, r6, ?_⟩
  have e1 : mF F_row_in (aCons (mV 4) (aNil)) (eS text emps K L z5 z6) S = .ok (.d (rowD (rowV line))) S := ex_mF (ds := [.d (.str line)]) (S1 := S) rfl (row_in_ok h S)
  have e2 : mSnapE (mF F_empties_in (aCons (mV 4) (aCons (mV 1) (aNil)))) (eS text emps K L z5 z6) S = .ok (.d (empD (empV line rows))) S := by
    refine snap_ok (S' := []) ?_ (empD_noLst _)
    refine ex_mF (ds := [.d (.str line), .d (.lst (rows.map row))]) (S1 := []) ?_ (empties_in_ok h rows hr [])
    have v1 : mV 1 ((eS text emps K L z5 z6).map (deepE S)) [] = .ok (.d (.lst (rows.map row))) [] := by
      rw [mV_s, show ((eS text emps K L z5 z6).map (deepE S))[1]? = some (deepE S (some (.loc 0))) from rfl, deep_b]
    rw [aCons_s, show mV 4 ((eS text emps K L z5 z6).map (deepE S)) [] = .ok (.d (.str line)) [] from rfl, bind_ok, ex_a1 v1, bind_ok]
  let E := eS text emps K L r5 r6
  have s1 : sPars [5, 6] (aCons (mF F_row_in (aCons (mV 4) (aNil))) (aCons (mSnapE (mF F_empties_in (aCons (mV 4) (aCons (mV 1) (aNil))))) (aNil))) (eS text emps K L z5 z6) S = .nx E S := st_pars (ds := [.d (rowD (rowV line)), .d (empD (empV line rows))]) (by rw [aCons_s, e1, bind_ok, ex_a1 e2, bind_ok]) rfl
  have c0 : mTst (m2 pGt (mN pLen (aCons (mV 2) (aNil))) (mC (.int 0))) E S = .ok (decide (0 < emps.length)) S := x_tst (ex_m2 (d := .d (.int (emps.length : Int))) (e := .d (.int 0)) (ex_mN (ex_a1 (d := .d (tupS emps)) rfl) (len_t S)) rfl gt0)
  have i5 : mTst (m2 pIsN (mV 5) (mC .non)) E S = .ok (rowV line).isNone S := x_tst (ex_m2 (d := .d (rowD (rowV line))) (e := .d .non) rfl rfl (isn_row _ _))
  have i6 : mTst (m2 pIsN (mV 6) (mC .non)) E S = .ok (empV line rows).isNone S := x_tst (ex_m2 (d := .d (empD (empV line rows))) (e := .d .non) rfl rfl (isn_emp _ _))
  have c1 : cAnd (mTst (m2 pIsN (mV 5) (mC .non))) (mTst (m2 pIsN (mV 6) (mC .non))) E S = .ok ((rowV line).isNone && (empV line rows).isNone) S := by
    rw [cAnd_s, i5, bind_ok]
    cases (rowV line).isNone with
    | true => rw [if_pos rfl, i6]; rfl
    | false => rfl
  have cc := x_or c0 fun _ => c1
  unfold l1_sheet_in
  rw [sSeq_s, s1, sqz_nx, sSeq_s]
  unfold step
  simp only
  cases hc : (decide (0 < emps.length) || ((rowV line).isNone && (empV line rows).isNone)) with
  | true =>
    rw [hc] at cc
    rw [st_if_t (a := sRaise 0 (mV 3)) (b := sNil) (r := .er 0 (.int (k : Int)) E S) cc rfl]
    rfl
  | false =>
    rw [hc] at cc
    rw [st_if_f (a := sRaise 0 (mV 3)) (b := sNil) (r := .nx E S) cc rfl, sqz_nx, if_neg Bool.false_ne_true]
    cases hrow : rowV line with
    | none =>
      rw [hrow] at i5
      cases hemp : empV line rows with
      | none =>
        rw [hrow, hemp] at hc
        simp at hc
      | some x =>
        have : E = eS text emps K L (some (.d .non)) (some (.d (tupS x))) := by
          show eS text emps K L (some (.d (rowD (rowV line)))) (some (.d (empD (empV line rows)))) = _
          rw [hrow, hemp]
          rfl
        rw [st_if_t (a := sSet 2 (mV 6)) (r := .nx (eS text x K L (some (.d .non)) (some (.d (tupS x)))) S) i5 (by rw [this]; rfl)]
        show _ = Sz.nx (eS text x K L (some (.d (rowD (rowV line)))) (some (.d (empD (empV line rows))))) S
        rw [hrow, hemp]
        rfl
    | some q =>
      rw [hrow] at i5
      have hE : E = eS text emps K L (some (.d (row q))) r6 := by
        show eS text emps K L (some (.d (rowD (rowV line)))) r6 = _
        rw [hrow]
        rfl
      have h5 : r5 = some (.d (row q)) := by
        show some (Dv.d (rowD (rowV line))) = _
        rw [hrow]
        rfl
      rw [st_if_f (a := sSet 2 (mV 6)) i5 rfl]
      have g0 : mTst (m2 pGt (mN pLen (aCons (mV 1) (aNil))) (mC (.int 0))) E S = .ok (decide (0 < rows.length)) S := x_tst (ex_m2 (d := .d (.int (rows.length : Int))) (e := .d (.int 0)) (ex_mN (ex_a1 (d := .loc 0) rfl) len_b) rfl gt0)
      have g1 : cAnd (mTst (m2 pGt (mN pLen (aCons (mV 1) (aNil))) (mC (.int 0)))) (mTst (m2 pGe (m2 pIx (m2 pIx (mV 1) (m1 pNeg (mC (.int 1)))) (mC (.int 0))) (m2 pIx (mV 5) (mC (.int 0))))) E S = .ok (decide (0 < rows.length) && !ltS (lastN rows) q.1) S := by
        rw [cAnd_s, g0, bind_ok]
        by_cases hp : 0 < rows.length
        · rw [decide_eq_true hp, if_pos rfl, Bool.true_and]
          obtain ⟨p, hp1, hp2⟩ := ix_lastR hp
          have hl : lastN rows = p.1 := by
            unfold lastN
            rw [hp1]
            rfl
          rw [hl]
          have a1 : m2 pIx (mV 1) (m1 pNeg (mC (.int 1))) E S = .ok (.d (row p)) S := ex_m2 (d := .loc 0) (e := .d (.int (-1))) rfl rfl hp2
          have a2 : m2 pIx (mV 5) (mC (.int 0)) E S = .ok (.d (.str q.1)) S := by
            rw [hE]
            exact ex_m2 (d := .d (row q)) (e := .d (.int 0)) rfl rfl (ix_tup (i := 0) rfl)
          exact x_tst (ex_m2 (ex_m2 a1 (e := .d (.int 0)) rfl (ix_tup (i := 0) rfl)) a2 rfl)
        · rw [decide_eq_false hp]
          rfl
      cases hg : (decide (0 < rows.length) && !ltS (lastN rows) q.1) with
      | true =>
        rw [hg] at g1
        rw [st_if_t (a := sRaise 0 (mV 3)) (r := .er 0 (.int (k : Int)) E S) g1 rfl]
        dsimp only
        rw [if_pos hg]
      | false =>
        rw [hg] at g1
        have ap : sDrop (mLm pAppend (mV 1) (aCons (mV 5) (aNil))) E S = .nx E [bxR (rows ++ [q])] := by
          have := app_then (n := 0) (mo := mV 1) (ma := aCons (mV 5) (aNil)) (ρ := E) (S := S) (S1 := S) (d := .d (row q)) (xs := (rows.map row).map .d) rfl rfl (ex_a1 (by rw [hE]; rfl)) rfl (by rw [List.length_map, List.length_map]; omega)
          rw [this]
          show Sz.nx E [Bo.lst ((rows.map row).map Dv.d ++ [.d (row q)])] = _
          unfold bxR
          rw [List.map_append, List.map_append]
          rfl
        rw [st_if_f (a := sRaise 0 (mV 3)) g1 ap]
        dsimp only
        rw [if_neg (by rw [hg]; exact Bool.false_ne_true)]
theorem step_len {line : Str} {st st' : St} (h : step line st = some st') : st'.1.length ≤ st.1.length + 1 := by
  unfold step at h
  split at h
  · cases h
  · split at h
    · cases he : empV line st.1 with
      | none => rw [he] at h; cases h
      | some x =>
        rw [he] at h
        cases h
        exact Nat.le_succ _
    · split at h
      · cases h
      · cases h
        rw [List.length_append]
        exact Nat.le_refl _
theorem lines_ok {text : Str} : ∀ (ls : List Str) (k : Nat) (rows : List (Str × List Str)) (emps : List Str) (z3 z4 z5 z6 : Option Dv), (∀ l ∈ ls, Lk l) → rows.length + ls.length ≤ 1000 →
    (∀ st, readL k ls (rows, emps) = .inr st → ∃ y3 y4 y5 y6, forL (gT (gsCons (gN 3) (gsCons (gN 4) (gsNil)))) l1_sheet_in (enS k ls) (eS text emps z3 z4 z5 z6) [bxR rows] = .nx (eS text st.2 y3 y4 y5 y6) [bxR st.1]) ∧
    (∀ j, readL k ls (rows, emps) = .inl j → ∃ ρ' S', forL (gT (gsCons (gN 3) (gsCons (gN 4) (gsNil)))) l1_sheet_in (enS k ls) (eS text emps z3 z4 z5 z6) [bxR rows] = .er 0 (.int (j : Int)) ρ' S')
  | [], k, rows, emps, z3, z4, z5, z6, _, _ => ⟨(fun st h => by
    cases h
    exact ⟨z3, z4, z5, z6, rfl⟩), (fun j h => by cases h)⟩
  | l :: ls, k, rows, emps, z3, z4, z5, z6, hl, hz => by
    rw [List.length_cons] at hz
    obtain ⟨y5, y6, e⟩ := line_ok (text := text) (hl l List.mem_cons_self) k rows emps (by omega) z5 z6
    have e0 : forL (gT (gsCons (gN 3) (gsCons (gN 4) (gsNil)))) l1_sheet_in (enS k (l :: ls)) (eS text emps z3 z4 z5 z6) [bxR rows] = (match l1_sheet_in (eS text emps (some (.d (.int (k : Int)))) (some (.d (.str l))) z5 z6) [bxR rows] with
      | .nx ρ2 S2 => forL (gT (gsCons (gN 3) (gsCons (gN 4) (gsNil)))) l1_sheet_in (enS (k + 1) ls) ρ2 S2
      | .ct ρ2 S2 => forL (gT (gsCons (gN 3) (gsCons (gN 4) (gsNil)))) l1_sheet_in (enS (k + 1) ls) ρ2 S2
      | .bk ρ2 S2 => .nx ρ2 S2
      | r => r) := rfl
    cases hs : step l (rows, emps) with
    | none =>
      rw [hs] at e
      have hr : readL k (l :: ls) (rows, emps) = .inl k := by
        unfold readL
        rw [hs]
      rw [hr, e0, e]
      exact ⟨(fun st h => by cases h), (fun j h => by
        cases h
        exact ⟨_, _, rfl⟩)⟩
    | some st =>
      rw [hs] at e
      have hr : readL k (l :: ls) (rows, emps) = readL (k + 1) ls st := by
        show (match step l (rows, emps) with
          | none => (Sum.inl k : Nat ⊕ St)
          | some st' => readL (k + 1) ls st') = _
        rw [hs]
      have hsl := step_len hs
      have ih := lines_ok (text := text) ls (k + 1) st.1 st.2 (some (.d (.int (k : Int)))) (some (.d (.str l))) y5 y6 (fun x hx => hl x (List.mem_cons_of_mem _ hx)) (by
        have : st.1.length ≤ rows.length + 1 := hsl
        omega)
      rw [hr, e0, e]
      exact ih
def linesOf (text : Str) : List Str := if text = ("" : Str) then [] else Txt.split text NL
def readT (text : Str) : Nat ⊕ St := readL 0 (linesOf text) ([], [])
def resD : Nat ⊕ St → Dt
  | .inl j => .int (j : Int)
  | .inr st => .tup [.tup (st.1.map row), tupS st.2]
theorem nul_ok : PyData.strOk ("" : Str) = true := by decide +kernel
theorem it_ok {text : Str} (h : Lk text) {ρ : Sm.Env} {S : Sto} (h0 : ρ[0]? = some (some (.d (.str text)))) : iRg en1 (aCons (mIf (mTst (m2 pNe (mV 0) (mC (.str ("" : Str))))) (mSplit (mV 0) (mC (.str NL))) (mN pLst (aNil))) (aNil)) ρ S = .ok (enS 0 (linesOf text)) S := by
  have v0 : mV 0 ρ S = .ok (.d (.str text)) S := by rw [mV_s, h0]
  have c : mTst (m2 pNe (mV 0) (mC (.str ("" : Str)))) ρ S = .ok (!decide (text = ("" : Str))) S := x_tst (ex_m2 v0 (e := .d (.str ("" : Str))) rfl (ne_s h.ok nul_ok))
  have e : mIf (mTst (m2 pNe (mV 0) (mC (.str ("" : Str))))) (mSplit (mV 0) (mC (.str NL))) (mN pLst (aNil)) ρ S = .ok (.d (lstS (linesOf text))) S := by
    rw [mIf_s, c, bind_ok]
    unfold linesOf
    by_cases ht : text = ("" : Str)
    · rw [decide_eq_true ht, if_pos ht]
      rfl
    · rw [decide_eq_false ht, if_neg ht]
      exact sp_ok v0 rfl h rfl
  refine iRg_ok (ds := [.d (lstS (linesOf text))]) (ex_a1 e) ?_
  show some (enL ((linesOf text).map Dt.str)) = _
  rw [enL_S]
theorem lines_lk {text : Str} (h : Lk text) : (∀ l ∈ linesOf text, Lk l) ∧ (linesOf text).length ≤ 1000 := by
  unfold linesOf
  split
  · exact ⟨fun l hl => absurd hl List.not_mem_nil, Nat.zero_le _⟩
  · obtain ⟨h1, h2, _⟩ := split_lk (s := NL) h rfl
    exact ⟨h1, h2⟩
theorem sheet_in_ok {text : Str} (h : Lk text) (S : Sto) : F_sheet_in [.d (.str text)] S = (match readT text with
      | .inl j => .er 0 (.int (j : Int)) S
      | .inr st => .ok (.d (resD (.inr st))) S) := by
  obtain ⟨h1, h2⟩ := lines_lk h
  obtain ⟨ok, er⟩ := lines_ok (text := text) (linesOf text) 0 [] [] none none none none h1 (by simpa using h2)
  have s0 : sPars [1, 2] (aCons (mN pLstB (aNil)) (aCons (mN pTup (aNil)) (aNil))) [some (.d (.str text)), none, none, none, none, none, none] [] = .nx (eS text [] none none none none) [bxR []] := rfl
  have it := it_ok (ρ := eS text [] none none none none) (S := [bxR []]) h rfl
  have body : ∀ r, forL (gT (gsCons (gN 3) (gsCons (gN 4) (gsNil)))) l1_sheet_in (enS 0 (linesOf text)) (eS text [] none none none none) [bxR []] = r → b_sheet_in [some (.d (.str text)), none, none, none, none, none, none] [] = sqz r (sRet (mN pTup (aCons (mN pTuple (aCons (mV 1) (aNil))) (aCons (mV 2) (aNil))))) := fun r hr => by
    unfold b_sheet_in
    rw [sSeq_s, s0, sqz_nx, sSeq_s, st_for it hr]
  unfold readT
  cases hr : readL 0 (linesOf text) ([], []) with
  | inl j =>
    obtain ⟨ρ', S', e⟩ := er j hr
    have b := body _ e
    show iso (runB 7 1 b_sheet_in) [.d (.str text)] S = .er 0 (.int (j : Int)) S
    have : runB 7 1 b_sheet_in [.d (.str text)] [] = .er 0 (.int (j : Int)) S' := by
      show (match b_sheet_in [some (.d (.str text)), none, none, none, none, none, none] [] with
        | Sz.nx ρ S' => Rz.ok (Dv.d Dt.non) S'
        | Sz.rt d S' => Rz.ok d S'
        | Sz.er c t ρ S' => Rz.er c t S'
        | x => Rz.bad) = _
      rw [b]
      rfl
    show (match pures [Dv.d (.str text)] with
      | some _ => (match runB 7 1 b_sheet_in [.d (.str text)] [] with
        | .ok (.d t) _ => Rz.ok (Dv.d t) S
        | .er c t _ => .er c t S
        | _ => .bad)
      | none => .bad) = _
    rw [this]
    rfl
  | inr st =>
    obtain ⟨y3, y4, y5, y6, e⟩ := ok st hr
    have b := body _ e
    refine iso_ok (ts := [.str text]) (S' := [bxR st.1]) (runB_rt (ds := [.d (.str text)]) rfl ?_)
    refine b.trans ?_
    rw [sqz_nx]
    have tp : pTuple [.loc 0] [bxR st.1] = some (.d (.tup (st.1.map row)), [bxR st.1]) := by
      have hs : lstT [bxR st.1] (.loc 0) = some (st.1.map row) := by
        show (some ((st.1.map row).map Dv.d)).bind pures = _
        rw [Option.bind_some, pures_d]
      have hd : dctAt [bxR st.1] (.loc 0) = none := rfl
      unfold pTuple
      simp only [hs, hd]
    refine st_ret (ex_mN (ds := [.d (.tup (st.1.map row)), .d (tupS st.2)]) (S1 := [bxR st.1]) ?_ rfl)
    rw [aCons_s, ex_mN (ex_a1 (d := .loc 0) rfl) tp, bind_ok]
    rfl
theorem heard_ok {text : Str} (h : Lk text) (S : Sto) : F__law_heard [.d (.str text)] S = .ok (.d (resD (readT text))) S := by
  refine iso_ok (ts := [.str text]) (S' := []) (runB_rt (ds := [.d (.str text)]) rfl ?_)
  let N : Option Dv := some (.d .non)
  let E : Option Dv → Option Dv → Option Dv → Sm.Env := fun a b c => [some (.d (.str text)), a, b, c]
  show b__law_heard (E none none none) [] = _
  have s0 : sAsg (gT (gsCons (gN 1) (gsCons (gN 2) (gsNil)))) (mN pTup (aCons (mC .non) (aCons (mC .non) (aNil)))) (E none none none) [] = .nx (E N N none) [] := rfl
  have f := sheet_in_ok h []
  have f' : ∀ r, F_sheet_in [.d (.str text)] [] = r → mF F_sheet_in (aCons (mV 0) (aNil)) (E N N none) [] = r := fun r hr => by
    rw [mF_s, show aCons (mV 0) aNil (E N N none) ([] : Sto) = .ok [.d (.str text)] [] from rfl, bind_ok, hr]
  unfold b__law_heard
  rw [sSeq_s, s0, sqz_nx, sSeq_s]
  cases hr : readT text with
  | inl j =>
    rw [hr] at f
    have st : sTry (tbl [true]) 3 1 (sSet 2 (mF F_sheet_in (aCons (mV 0) (aNil)))) (E N N none) [] = .nx (E (some (.d (.exc 0 [.int (j : Int)]))) N none) [] := by
      have : sSet 2 (mF F_sheet_in (aCons (mV 0) (aNil))) (E N N none) [] = .er 0 (.int (j : Int)) (E N N none) [] := by
        unfold sSet
        rw [f' _ f]
        rfl
      unfold sTry
      rw [this]
      rfl
    rw [st, sqz_nx]
    rfl
  | inr st' =>
    rw [hr] at f
    have st : sTry (tbl [true]) 3 1 (sSet 2 (mF F_sheet_in (aCons (mV 0) (aNil)))) (E N N none) [] = .nx (E N (some (.d (resD (.inr st')))) none) [] := by
      have : sSet 2 (mF F_sheet_in (aCons (mV 0) (aNil))) (E N N none) [] = .nx (E N (some (.d (resD (.inr st')))) none) [] := st_set (f' _ f)
      unfold sTry
      rw [this]
    rw [st, sqz_nx]
    rfl
end K14
set_option maxHeartbeats 4000000
namespace K14
open PySem PySem.Spec PyProof.Rows L2 Sm Hn
structure RowK (r : Str × List Str) : Prop where
  nm : Lk r.1
  z : r.2.length ≤ 1000
  w : ∀ x ∈ r.2, Lk x
structure StK (st : St) : Prop where
  r : ∀ r ∈ st.1, RowK r
  z : st.2.length ≤ 1000
  e : ∀ x ∈ st.2, Lk x
theorem rowV_k {line : Str} (h : Lk line) {q : Str × List Str} (e : rowV line = some q) : RowK q := by
  obtain ⟨hw, hn, w, ws, es⟩ := split_lk (s := BL) h rfl
  unfold rowV at e
  rw [es] at e hw hn
  simp only at e
  split at e
  · cases e
  · cases e
    rw [List.length_cons] at hn
    exact ⟨cut_lk (hw w List.mem_cons_self) _ _, by show ws.length ≤ 1000; omega, fun x hx => hw x (List.mem_cons_of_mem _ hx)⟩
theorem empV_k {line : Str} (h : Lk line) {rows : List (Str × List Str)} {x : List Str} (e : empV line rows = some x) : x.length ≤ 1000 ∧ ∀ y ∈ x, Lk y := by
  obtain ⟨hw, hn, w, ws, es⟩ := split_lk (s := BL) h rfl
  unfold empV at e
  rw [es] at e hw hn
  simp only at e
  split at e
  · cases e
  · split at e
    · cases e
    · cases e
      rw [List.length_cons] at hn
      exact ⟨by omega, fun x hx => hw x (List.mem_cons_of_mem _ hx)⟩
theorem step_k {line : Str} (h : Lk line) {st st' : St} (K : StK st) (e : step line st = some st') : StK st' := by
  unfold step at e
  split at e
  · cases e
  · cases hr : rowV line with
    | none =>
      rw [hr] at e
      cases he : empV line st.1 with
      | none => rw [he] at e; cases e
      | some x =>
        rw [he] at e
        cases e
        obtain ⟨h1, h2⟩ := empV_k h he
        exact ⟨K.r, h1, h2⟩
    | some q =>
      rw [hr] at e
      dsimp only at e
      split at e
      · cases e
      · cases e
        exact ⟨fun r hr' => (List.mem_append.mp hr').elim (K.r r) fun z => by rw [List.mem_singleton.mp z]; exact rowV_k h hr, K.z, K.e⟩
theorem lst_co (w : Str) : decide (lst1 w = CO) = Txt.endswith w CO := by
  have hcl : Tq.cl (lst1 w) = (Tq.cl w).drop (w.length - 1) := by
    have hl := Tq.cl_len w
    show ((w.cps.toList.drop (HT.sIx w.length 0 (some (-1)))).take (HT.sIx w.length w.length none - HT.sIx w.length 0 (some (-1)))) = _
    have e1 : HT.sIx w.length w.length none = w.length := rfl
    have e2 : HT.sIx w.length 0 (some (-1)) = w.length - 1 := by
      unfold HT.sIx
      simp only
      first
        | omega
        | (split <;> omega)
        | (simp; omega)
    rw [e1, e2]
    refine List.take_of_length_le ?_
    rw [List.length_drop]
    have : w.cps.toList.length = w.length := hl
    omega
  have hE : Txt.endswith w CO = decide (Tq.cl (lst1 w) = [58]) := by
    unfold Txt.endswith
    have l1 : CO.length = 1 := rfl
    rw [l1]
    by_cases h : 0 < w.length
    · have hs : Builtin.Str.subAt w CO (w.length - 1) = decide ((Tq.cl w).drop (w.length - 1) = [58]) := by
        unfold Builtin.Str.subAt
        rw [l1, Bool.eq_iff_iff, beq_iff_eq, decide_eq_true_eq]
        have ex : (w.cps.extract (w.length - 1) (w.length - 1 + 1)).toList = (Tq.cl w).drop (w.length - 1) := by
          rw [Array.toList_extract, List.extract_eq_take_drop]
          refine List.take_of_length_le ?_
          rw [List.length_drop]
          have : w.cps.toList.length = w.length := Tq.cl_len w
          omega
        constructor
        · intro z
          rw [← ex, z]
          rfl
        · intro z
          have := congrArg List.toArray (ex.trans z)
          rw [Array.toArray_toList] at this
          exact this
      rw [hs, hcl, decide_eq_true (by omega : 0 + 1 ≤ w.length), Bool.true_and]
    · have h0 : Tq.cl w = [] := List.eq_nil_of_length_eq_zero (by rw [Tq.cl_len]; omega)
      rw [decide_eq_false (by omega : ¬ 0 + 1 ≤ w.length), Bool.false_and, hcl, h0, List.drop_nil]
      rfl
  rw [hE]
  apply decide_eq_decide.mpr
  exact ⟨fun z => by rw [z]; rfl, fun z => Tq.cl_inj (z.trans rfl)⟩
theorem pl_co : Txt.endswith PL CO = false := by decide +kernel
theorem step_words {line : Str} {w : Str} {ws : List Str} (e : Txt.split line BL = w :: ws) (st : St) : step line st =
    if (decide (0 < st.2.length) || !setW ws) = true then none
    else if w = PL then (if (decide (ws.length = 0) || st.1.any fun r => decide (r.1 ∈ ws)) = true then none else some (st.1, ws))
    else if (!Txt.endswith w CO || (!wordS (ini w) || decide (ini w ∈ ws))) = true then none
    else if (decide (0 < st.1.length) && !ltS (lastN st.1) (ini w)) = true then none else some (st.1 ++ [(ini w, ws)], st.2) := by
  unfold step rowV empV
  rw [e]
  simp only
  cases decide (0 < st.2.length) with
  | true => rfl
  | false =>
  cases hS : setW ws with
  | false => simp
  | true =>
  by_cases hp : w = PL
  · have : Txt.endswith w CO = false := by rw [hp]; exact pl_co
    rw [if_pos hp, this, decide_eq_true hp]
    cases hz : decide (ws.length = 0) with
    | true => simp
    | false =>
      cases ha : (st.1.any fun r => decide (r.1 ∈ ws)) with
      | true => simp [ha]
      | false => simp [ha]
  · rw [if_neg hp, decide_eq_false hp]
    have hC : (!Txt.endswith w CO || (!wordS (ini w) || (!true || decide (ini w ∈ ws)))) = (!Txt.endswith w CO || (!wordS (ini w) || decide (ini w ∈ ws))) := by rw [Bool.not_true, Bool.false_or]
    rw [hC]
    generalize (!Txt.endswith w CO || (!wordS (ini w) || decide (ini w ∈ ws))) = c
    cases c with
    | true => rfl
    | false => rfl
theorem ty_strs {l : List Str} (hz : l.length ≤ 1000) (h : ∀ x ∈ l, Lk x) {t : Dt} (ht : t = .tup (l.map .str) ∨ t = .lst (l.map .str)) : Ty 1 t := .inr ⟨l.map .str, ht, by rw [List.length_map]; exact hz, fun x hx => by
  obtain ⟨y, hy, rfl⟩ := List.mem_map.mp hx
  exact .inl ⟨y, (h y hy).ok, rfl⟩⟩
theorem ty_row {r : Str × List Str} (K : RowK r) : Ty 2 (row r) := .inr ⟨_, .inl rfl, by show 2 ≤ 1000; omega, fun x hx => by
  simp only [List.mem_cons, List.not_mem_nil, or_false] at hx
  rcases hx with rfl | rfl
  · exact .inl (.inl ⟨_, K.nm.ok, rfl⟩)
  · exact ty_strs K.z K.w (.inl rfl)⟩
theorem pNe_bx {rows : List (Str × List Str)} (K : ∀ r ∈ rows, RowK r) : pNe (.loc 0) (.d (.lst [])) [bxR rows] = some (.d (.bl (decide (0 < rows.length))), [bxR rows]) := by
  have h0 : ([bxR rows] : Sto)[0]? = some (.lst ((rows.map row).map .d)) := rfl
  have e : pyDv [bxR rows] (.loc 0) = pyDv [bxR rows] (.d (.lst (rows.map row))) := by
    unfold pyDv
    simp only [h0, pures_d, Option.bind_some]
    rfl
  have e2 : pNe (.loc 0) (.d (.lst [])) [bxR rows] = pNe (.d (.lst (rows.map row))) (.d (.lst [])) [bxR rows] := by
    unfold pNe eqDv
    rw [e]
  rw [e2, ne_nil (n := 2) (fun x hx => by
    obtain ⟨r, hr, rfl⟩ := List.mem_map.mp hx
    exact ty_row (K r hr)) (by omega)]
  congr 3
  cases rows <;> rfl
theorem co_ok : PyData.strOk CO = true := by decide +kernel
abbrev eR (text : Str) (emps : List Str) (a b c d x y : Option Dv) : Sm.Env := [some (.d (.str text)), some (.loc 0), some (.d (tupS emps)), a, b, c, d, x, y]
theorem lline_ok {text line : Str} (h : Lk line) (k : Nat) (rows : List (Str × List Str)) (emps : List Str) (K : StK (rows, emps)) (hr : rows.length ≤ 1000) (z5 z6 z7 z8 : Option Dv) :
    (step line (rows, emps) = none → ∃ S', l1__law_read (eR text emps (some (.d (.int (k : Int)))) (some (.d (.str line))) z5 z6 z7 z8) [bxR rows] = .rt (.d (.int (k : Int))) S') ∧
    (∀ st, step line (rows, emps) = some st → ∃ y5 y6 y7 y8, l1__law_read (eR text emps (some (.d (.int (k : Int)))) (some (.d (.str line))) z5 z6 z7 z8) [bxR rows] = .nx (eR text st.2 (some (.d (.int (k : Int)))) (some (.d (.str line))) y5 y6 y7 y8) [bxR st.1]) := by
  obtain ⟨hw, hn, w, ws, es⟩ := split_lk (s := BL) h rfl
  rw [es] at hw hn
  have kw := hw w List.mem_cons_self
  have kws : ∀ x ∈ ws, Lk x := fun x hx => hw x (List.mem_cons_of_mem _ hx)
  rw [List.length_cons] at hn
  let T3 : Option Dv := some (.d (.int (k : Int)))
  let T4 : Option Dv := some (.d (.str line))
  let T5 : Option Dv := some (.d (lstS (w :: ws)))
  let T6 : Option Dv := some (.d (lstS ws))
  let S : Sto := [bxR rows]
  have s0 : sSet 5 (mSplit (mV 4) (mC (.str BL))) (eR text emps T3 T4 z5 z6 z7 z8) S = .nx (eR text emps T3 T4 T5 z6 z7 z8) S := st_set (by
    have := sp_ok (mo := mV 4) (me := mC (.str BL)) (ρ := eR text emps T3 T4 z5 z6 z7 z8) (S := S) (a := line) (b := BL) rfl rfl h rfl
    rw [this, es])
  have s1 : sSet 6 (mSl pSl (mV 5) (oPt (mC (.int 1))) (oNo)) (eR text emps T3 T4 T5 z6 z7 z8) S = .nx (eR text emps T3 T4 T5 T6 z7 z8) S := st_set (by
    have c : pSl (some ((1 : Nat) : Int)) none (.d (lstS (w :: ws))) S = some (.d (lstS ws), S) := by
      rw [sl_l, cut_map, cut_from]
      rfl
    simp only [mSl_s, oPt_s, oNo_s, show mV 5 (eR text emps T3 T4 T5 z6 z7 z8) S = .ok (.d (lstS (w :: ws))) S from rfl, mC_s, bind_ok]
    exact congrArg (fun z => Sm.lift z) c)
  let E := eR text emps T3 T4 T5 T6 z7 z8
  have c1 : mTst (m2 pNe (mV 2) (mN pTup (aNil))) E S = .ok (decide (0 < emps.length)) S := by
    have q := ne_tz (n := 1) (m := 1) (t := tupS emps) (u := .tup []) (P := emps = []) (.tup fun y hy => by
      obtain ⟨x, hx, rfl⟩ := List.mem_map.mp hy
      exact .str (K.e x hx).ok) (.tup fun y hy => absurd hy List.not_mem_nil) (by omega) (by omega) ⟨fun z => by
        injection z with z
        simpa using z, fun z => by rw [z]; rfl⟩ S
    have e2 : (!decide (emps = [])) = decide (0 < emps.length) := by cases emps <;> rfl
    rw [e2] at q
    exact x_tst (ex_m2 (d := .d (tupS emps)) (e := .d (.tup [])) rfl rfl q)
  have c2 : mTru pTru (mN pAll (aCons (mN pLst (mLcI [7] (iSeq (mV 6)) (gN 7) (cYes) (mF F__law_is_word (aCons (mV 7) (aNil))))) (aNil))) E S = .ok (ws.all wordS) S := x_tru (all_words (l := ws) (fun x hx S => word_s (kws x hx).tk S) (j := 7) (ρ := E) (S := S) (by omega) (it := iSeq (mV 6)) (iSeq_l rfl) fun x => ⟨eR text emps T3 T4 T5 T6 (some (.d (.str x))) z8, rfl, rfl⟩)
  have c3 : mTst (m2 pNe (mV 6) (m1 pSortSet (mV 6))) E S = .ok (!risesB ws) S := by
    have srt : m1 pSortSet (mV 6) E S = .ok (.d (lstS (sortS (ddS ws)))) S := x_m1 (d := .d (lstS ws)) rfl (setSorted (by omega))
    have q := ne_tz (tz_strs (l := ws) fun x hx => (kws x hx).ok) (tz_strs (l := sortS (ddS ws)) fun x hx => by
      rw [(sortS_perm _).mem_iff, mem_ddS] at hx
      exact (kws x hx).ok) (by omega) (by omega) (P := ws = sortS (ddS ws)) ⟨fun z => by
        injection z with z
        have h2 := congrArg (List.map Hk.unS) z
        rw [List.map_map, List.map_map, show (Hk.unS ∘ Dt.str) = id from rfl, List.map_id, List.map_id] at h2
        exact h2, fun z => by rw [← z]⟩ S
    rw [set_is] at q
    exact x_tst (ex_m2 (d := .d (lstS ws)) rfl srt q)
  have cc := x_or c1 fun _ => x_or (x_not c2) fun _ => c3
  have e0 : (decide (0 < emps.length) || (!ws.all wordS || !risesB ws)) = (decide (0 < emps.length) || !setW ws) := by
    unfold setW
    rw [Bool.not_and]
  rw [e0] at cc
  have sw := step_words es (rows, emps)
  dsimp only at sw
  have start : ∀ r, sqz (sIf (cOr (mTst (m2 pNe (mV 2) (mN pTup (aNil)))) (cOr (cNot (mTru pTru (mN pAll (aCons (mN pLst (mLcI [7] (iSeq (mV 6)) (gN 7) (cYes) (mF F__law_is_word (aCons (mV 7) (aNil))))) (aNil))))) (mTst (m2 pNe (mV 6) (m1 pSortSet (mV 6)))))) (sRet (mV 3)) (sNil) E S) (sIf (mTst (m2 pEq (m2 pIx (mV 5) (mC (.int 0))) (mC (.str ("+" : Str))))) (sSeq (sIf (cOr (mTst (m2 pEq (mV 6) (mN pLst (aNil)))) (mTst (m2 pNe (mLcR pLst 1 [7] (gN 7) (mTst (m2 pIn (m2 pIx (mV 7) (mC (.int 0))) (mV 6))) (mV 7)) (mN pLst (aNil))))) (sRet (mV 3)) (sNil))
    (sSet 2 (mN pTuple (aCons (mV 6) (aNil))))) (sSeq (sSet 8 (mSl pSl (m2 pIx (mV 5) (mC (.int 0))) (oNo) (oPt (m1 pNeg (mC (.int 1))))))
    (sSeq (sIf (cOr (mTst (m2 pNe (mSl pSl (m2 pIx (mV 5) (mC (.int 0))) (oPt (m1 pNeg (mC (.int 1)))) (oNo)) (mC (.str (":" : Str))))) (cOr (cNot (mTru pTru (mF F__law_is_word (aCons (mV 8) (aNil))))) (mTst (m2 pIn (mV 8) (mV 6))))) (sRet (mV 3)) (sNil))
    (sSeq (sIf (cAnd (mTst (m2 pNe (mV 1) (mN pLst (aNil)))) (mTst (m2 pGe (m2 pIx (m2 pIx (mV 1) (m1 pNeg (mC (.int 1)))) (mC (.int 0))) (mV 8)))) (sRet (mV 3)) (sNil))
    (sDrop (mLm pAppend (mV 1) (aCons (mN pTup (aCons (mV 8) (aCons (mN pTuple (aCons (mV 6) (aNil))) (aNil)))) (aNil)))))))) = r → l1__law_read (eR text emps T3 T4 z5 z6 z7 z8) S = r := fun r hr => by
    unfold l1__law_read
    rw [sSeq_s, s0, sqz_nx, sSeq_s, s1, sqz_nx, sSeq_s]
    exact hr
  cases hc : (decide (0 < emps.length) || !setW ws) with
  | true =>
    rw [hc] at cc sw
    rw [if_pos rfl] at sw
    refine ⟨fun _ => ⟨S, start _ (by rw [st_if_t (a := sRet (mV 3)) (b := sNil) (r := .rt (.d (.int (k : Int))) S) cc rfl]; rfl)⟩, fun st hst => by rw [sw] at hst; cases hst⟩
  | false =>
    rw [hc] at cc sw
    rw [if_neg Bool.false_ne_true] at sw
    have start2 : ∀ r, (sIf (mTst (m2 pEq (m2 pIx (mV 5) (mC (.int 0))) (mC (.str ("+" : Str))))) (sSeq (sIf (cOr (mTst (m2 pEq (mV 6) (mN pLst (aNil)))) (mTst (m2 pNe (mLcR pLst 1 [7] (gN 7) (mTst (m2 pIn (m2 pIx (mV 7) (mC (.int 0))) (mV 6))) (mV 7)) (mN pLst (aNil))))) (sRet (mV 3)) (sNil))
    (sSet 2 (mN pTuple (aCons (mV 6) (aNil))))) (sSeq (sSet 8 (mSl pSl (m2 pIx (mV 5) (mC (.int 0))) (oNo) (oPt (m1 pNeg (mC (.int 1))))))
    (sSeq (sIf (cOr (mTst (m2 pNe (mSl pSl (m2 pIx (mV 5) (mC (.int 0))) (oPt (m1 pNeg (mC (.int 1)))) (oNo)) (mC (.str (":" : Str))))) (cOr (cNot (mTru pTru (mF F__law_is_word (aCons (mV 8) (aNil))))) (mTst (m2 pIn (mV 8) (mV 6))))) (sRet (mV 3)) (sNil))
    (sSeq (sIf (cAnd (mTst (m2 pNe (mV 1) (mN pLst (aNil)))) (mTst (m2 pGe (m2 pIx (m2 pIx (mV 1) (m1 pNeg (mC (.int 1)))) (mC (.int 0))) (mV 8)))) (sRet (mV 3)) (sNil))
    (sDrop (mLm pAppend (mV 1) (aCons (mN pTup (aCons (mV 8) (aCons (mN pTuple (aCons (mV 6) (aNil))) (aNil)))) (aNil)))))))) E S = r → l1__law_read (eR text emps T3 T4 z5 z6 z7 z8) S = r := fun r hr => start r (by
      rw [st_if_f (a := sRet (mV 3)) (b := sNil) (r := .nx E S) cc rfl, sqz_nx]
      exact hr)
    have w0 : ∀ x y, m2 pIx (mV 5) (mC (.int 0)) (eR text emps T3 T4 T5 T6 x y) S = .ok (.d (.str w)) S := fun x y => ex_m2 (d := .d (lstS (w :: ws))) (e := .d (.int ((0 : Nat) : Int))) rfl rfl (ix_lst (i := 0) rfl)
    have cP : mTst (m2 pEq (m2 pIx (mV 5) (mC (.int 0))) (mC (.str PL))) E S = .ok (decide (w = PL)) S := x_tst (ex_m2 (w0 _ _) (e := .d (.str PL)) rfl (eq_s kw.ok pl_ok))
    by_cases hp : w = PL
    · rw [if_pos hp] at sw
      rw [decide_eq_true hp] at cP
      have d1 : mTst (m2 pEq (mV 6) (mN pLst (aNil))) E S = .ok (decide (ws.length = 0)) S := by
        have q := eq_nil' (n := 0) (xs := ws.map Dt.str) (fun y hy => by
          obtain ⟨x, hx, rfl⟩ := List.mem_map.mp hy
          exact .inl ⟨x, (kws x hx).ok, rfl⟩) (by omega) S
        have e2 : (ws.map Dt.str).isEmpty = decide (ws.length = 0) := by cases ws <;> rfl
        rw [e2] at q
        exact x_tst (ex_m2 (d := .d (lstS ws)) (e := .d (.lst [])) rfl rfl q)
      have lr := mLcR_pure (i := 1) (n := 0) (vs := [7]) (g := gN 7) (c := mTst (m2 pIn (m2 pIx (mV 7) (mC (.int 0))) (mV 6))) (e := mV 7) (ρ := E) (S := S) row rows (fun r => decide (r.1 ∈ ws)) row rfl rfl (by omega) rfl fun r _ => ⟨eR text emps T3 T4 T5 T6 (some (.d (row r))) z8, rfl, x_tst (ex_m2 (d := .d (.str r.1)) (e := .d (lstS ws)) (ex_m2 (d := .d (row r)) (e := .d (.int 0)) rfl rfl (ix_tup (i := 0) rfl)) rfl in_l), fun _ => rfl⟩
      have d2 : mTst (m2 pNe (mLcR pLst 1 [7] (gN 7) (mTst (m2 pIn (m2 pIx (mV 7) (mC (.int 0))) (mV 6))) (mV 7)) (mN pLst (aNil))) E S = .ok (rows.any fun r => decide (r.1 ∈ ws)) S := by
        have q := ne_nil (n := 2) (xs := (rows.filter fun r => decide (r.1 ∈ ws)).map row) (fun y hy => by
          obtain ⟨r, hr', rfl⟩ := List.mem_map.mp hy
          exact ty_row (K.r r (List.mem_filter.mp hr').1)) (by omega) S
        have e2 : (!((rows.filter fun r => decide (r.1 ∈ ws)).map row).isEmpty) = rows.any fun r => decide (r.1 ∈ ws) := by
          rw [List.isEmpty_map, Bool.eq_iff_iff, List.any_eq_true, Bool.not_eq_true', ← Bool.not_eq_true, List.isEmpty_iff, List.filter_eq_nil_iff]
          constructor
          · intro z
            exact Classical.byContradiction fun y => z fun r hr hq => y ⟨r, hr, hq⟩
          · rintro ⟨r, hr, hq⟩ z
            exact z r hr hq
        rw [e2] at q
        exact x_tst (ex_m2 lr (e := .d (.lst [])) rfl q)
      have dd := x_or d1 fun _ => d2
      cases hd : (decide (ws.length = 0) || rows.any fun r => decide (r.1 ∈ ws)) with
      | true =>
        rw [hd] at dd sw
        rw [if_pos rfl] at sw
        refine ⟨fun _ => ⟨S, start2 _ ?_⟩, fun st hst => by rw [sw] at hst; cases hst⟩
        refine st_if_t cP ?_
        rw [sSeq_s, st_if_t (a := sRet (mV 3)) (b := sNil) (r := .rt (.d (.int (k : Int))) S) dd rfl]
        rfl
      | false =>
        rw [hd] at dd sw
        rw [if_neg Bool.false_ne_true] at sw
        refine ⟨(fun hst => by rw [sw] at hst; cases hst), fun st hst => ?_⟩
        rw [sw] at hst
        cases hst
        refine ⟨T5, T6, z7, z8, start2 _ ?_⟩
        refine st_if_t cP ?_
        rw [sSeq_s, st_if_f (a := sRet (mV 3)) (b := sNil) (r := .nx E S) dd rfl, sqz_nx]
        exact st_set (ex_mN (ex_a1 (d := .d (lstS ws)) rfl) pTuple_lst)
    · rw [if_neg hp] at sw
      rw [decide_eq_false hp] at cP
      let T8 : Option Dv := some (.d (.str (ini w)))
      let E8 := eR text emps T3 T4 T5 T6 z7 T8
      have u0 : sSet 8 (mSl pSl (m2 pIx (mV 5) (mC (.int 0))) (oNo) (oPt (m1 pNeg (mC (.int 1))))) E S = .nx E8 S := st_set (by
        rw [mSl_s, w0, bind_ok]
        show Sm.lift (pSl none (some (-1)) (.d (.str w)) S) = _
        rw [sl_s kw]
        rfl)
      have kI : Lk (ini w) := cut_lk kw _ _
      have f1 : mTst (m2 pNe (mSl pSl (m2 pIx (mV 5) (mC (.int 0))) (oPt (m1 pNeg (mC (.int 1)))) (oNo)) (mC (.str CO))) E8 S = .ok (!Txt.endswith w CO) S := by
        have a : mSl pSl (m2 pIx (mV 5) (mC (.int 0))) (oPt (m1 pNeg (mC (.int 1)))) (oNo) E8 S = .ok (.d (.str (lst1 w))) S := by
          rw [mSl_s, w0, bind_ok]
          show Sm.lift (pSl (some (-1)) none (.d (.str w)) S) = _
          rw [sl_s kw]
          rfl
        have kL : Lk (lst1 w) := cut_lk kw _ _
        have q := ne_s (S := S) kL.ok co_ok
        rw [lst_co] at q
        exact x_tst (ex_m2 a (e := .d (.str CO)) rfl q)
      have f2 : mTru pTru (mF F__law_is_word (aCons (mV 8) (aNil))) E8 S = .ok (wordS (ini w)) S := x_tru (ex_mF (ds := [.d (.str (ini w))]) (S1 := S) rfl (word_s kI.tk S))
      have f3 : mTst (m2 pIn (mV 8) (mV 6)) E8 S = .ok (decide (ini w ∈ ws)) S := x_tst (ex_m2 (d := .d (.str (ini w))) (e := .d (lstS ws)) rfl rfl in_l)
      have ff := x_or f1 fun _ => x_or (x_not f2) fun _ => f3
      cases hf : (!Txt.endswith w CO || (!wordS (ini w) || decide (ini w ∈ ws))) with
      | true =>
        rw [hf] at ff sw
        rw [if_pos rfl] at sw
        refine ⟨fun _ => ⟨S, start2 _ ?_⟩, fun st hst => by rw [sw] at hst; cases hst⟩
        refine st_if_f cP ?_
        rw [sSeq_s, u0, sqz_nx, sSeq_s, st_if_t (a := sRet (mV 3)) (b := sNil) (r := .rt (.d (.int (k : Int))) S) ff rfl]
        rfl
      | false =>
        rw [hf] at ff sw
        rw [if_neg Bool.false_ne_true] at sw
        have g0 : mTst (m2 pNe (mV 1) (mN pLst (aNil))) E8 S = .ok (decide (0 < rows.length)) S := x_tst (ex_m2 (d := .loc 0) (e := .d (.lst [])) rfl rfl (pNe_bx K.r))
        have g1 : cAnd (mTst (m2 pNe (mV 1) (mN pLst (aNil)))) (mTst (m2 pGe (m2 pIx (m2 pIx (mV 1) (m1 pNeg (mC (.int 1)))) (mC (.int 0))) (mV 8))) E8 S = .ok (decide (0 < rows.length) && !ltS (lastN rows) (ini w)) S := by
          rw [cAnd_s, g0, bind_ok]
          by_cases hp : 0 < rows.length
          · rw [decide_eq_true hp, if_pos rfl, Bool.true_and]
            obtain ⟨p, hp1, hp2⟩ := ix_lastR hp
            have hl : lastN rows = p.1 := by
              unfold lastN
              rw [hp1]
              rfl
            rw [hl]
            have a1 : m2 pIx (mV 1) (m1 pNeg (mC (.int 1))) E8 S = .ok (.d (row p)) S := ex_m2 (d := .loc 0) (e := .d (.int (-1))) rfl rfl hp2
            exact x_tst (ex_m2 (ex_m2 a1 (e := .d (.int 0)) rfl (ix_tup (i := 0) rfl)) (e := .d (.str (ini w))) rfl rfl)
          · rw [decide_eq_false hp]
            rfl
        cases hg : (decide (0 < rows.length) && !ltS (lastN rows) (ini w)) with
        | true =>
          rw [hg] at g1 sw
          rw [if_pos rfl] at sw
          refine ⟨fun _ => ⟨S, start2 _ ?_⟩, fun st hst => by rw [sw] at hst; cases hst⟩
          refine st_if_f cP ?_
          rw [sSeq_s, u0, sqz_nx, sSeq_s, st_if_f (a := sRet (mV 3)) (b := sNil) (r := .nx E8 S) ff rfl, sqz_nx, sSeq_s, st_if_t (a := sRet (mV 3)) (b := sNil) (r := .rt (.d (.int (k : Int))) S) g1 rfl]
          rfl
        | false =>
          rw [hg] at g1 sw
          rw [if_neg Bool.false_ne_true] at sw
          refine ⟨(fun hst => by rw [sw] at hst; cases hst), fun st hst => ?_⟩
          rw [sw] at hst
          cases hst
          refine ⟨T5, T6, z7, T8, start2 _ ?_⟩
          refine st_if_f cP ?_
          rw [sSeq_s, u0, sqz_nx, sSeq_s, st_if_f (a := sRet (mV 3)) (b := sNil) (r := .nx E8 S) ff rfl, sqz_nx, sSeq_s, st_if_f (a := sRet (mV 3)) (b := sNil) (r := .nx E8 S) g1 rfl, sqz_nx]
          have tp : mN pTup (aCons (mV 8) (aCons (mN pTuple (aCons (mV 6) (aNil))) (aNil))) E8 S = .ok (.d (row (ini w, ws))) S := ex_mN (ds := [.d (.str (ini w)), .d (tupS ws)]) (S1 := S) (by
            rw [aCons_s, show mV 8 E8 S = .ok (.d (.str (ini w))) S from rfl, bind_ok, ex_a1 (ex_mN (ex_a1 (d := .d (lstS ws)) rfl) pTuple_lst), bind_ok]) rfl
          have := app_then (n := 0) (mo := mV 1) (ma := aCons (mN pTup (aCons (mV 8) (aCons (mN pTuple (aCons (mV 6) (aNil))) (aNil)))) (aNil)) (ρ := E8) (S := S) (S1 := S) (d := .d (row (ini w, ws))) (xs := (rows.map row).map .d) rfl rfl (ex_a1 tp) rfl (by rw [List.length_map, List.length_map]; omega)
          rw [this]
          show Sz.nx E8 [Bo.lst ((rows.map row).map Dv.d ++ [.d (row (ini w, ws))])] = Sz.nx _ [bxR (rows ++ [(ini w, ws)])]
          unfold bxR
          rw [List.map_append, List.map_append]
          rfl
theorem llines_ok {text : Str} : ∀ (ls : List Str) (k : Nat) (rows : List (Str × List Str)) (emps : List Str) (z3 z4 z5 z6 z7 z8 : Option Dv), (∀ l ∈ ls, Lk l) → StK (rows, emps) → rows.length + ls.length ≤ 1000 →
    (∀ st, readL k ls (rows, emps) = .inr st → (∃ y3 y4 y5 y6 y7 y8, forL (gT (gsCons (gN 3) (gsCons (gN 4) (gsNil)))) l1__law_read (enS k ls) (eR text emps z3 z4 z5 z6 z7 z8) [bxR rows] = .nx (eR text st.2 y3 y4 y5 y6 y7 y8) [bxR st.1]) ∧ StK st ∧ st.1.length ≤ 1000) ∧
    (∀ j, readL k ls (rows, emps) = .inl j → ∃ S', forL (gT (gsCons (gN 3) (gsCons (gN 4) (gsNil)))) l1__law_read (enS k ls) (eR text emps z3 z4 z5 z6 z7 z8) [bxR rows] = .rt (.d (.int (j : Int))) S')
  | [], k, rows, emps, z3, z4, z5, z6, z7, z8, _, K, hz => ⟨(fun st h => by
    cases h
    exact ⟨⟨z3, z4, z5, z6, z7, z8, rfl⟩, K, hz⟩), (fun j h => by cases h)⟩
  | l :: ls, k, rows, emps, z3, z4, z5, z6, z7, z8, hl, K, hz => by
    rw [List.length_cons] at hz
    obtain ⟨bad, ok⟩ := lline_ok (text := text) (hl l List.mem_cons_self) k rows emps K (by omega) z5 z6 z7 z8
    have e0 : forL (gT (gsCons (gN 3) (gsCons (gN 4) (gsNil)))) l1__law_read (enS k (l :: ls)) (eR text emps z3 z4 z5 z6 z7 z8) [bxR rows] = (match l1__law_read (eR text emps (some (.d (.int (k : Int)))) (some (.d (.str l))) z5 z6 z7 z8) [bxR rows] with
      | .nx ρ2 S2 => forL (gT (gsCons (gN 3) (gsCons (gN 4) (gsNil)))) l1__law_read (enS (k + 1) ls) ρ2 S2
      | .ct ρ2 S2 => forL (gT (gsCons (gN 3) (gsCons (gN 4) (gsNil)))) l1__law_read (enS (k + 1) ls) ρ2 S2
      | .bk ρ2 S2 => .nx ρ2 S2
      | r => r) := rfl
    cases hs : step l (rows, emps) with
    | none =>
      obtain ⟨S', e⟩ := bad hs
      have hr : readL k (l :: ls) (rows, emps) = .inl k := by
        unfold readL
        rw [hs]
      rw [hr, e0, e]
      exact ⟨(fun st h => by cases h), (fun j h => by
        cases h
        exact ⟨_, rfl⟩)⟩
    | some st =>
      obtain ⟨y5, y6, y7, y8, e⟩ := ok st hs
      have hr : readL k (l :: ls) (rows, emps) = readL (k + 1) ls st := by
        show (match step l (rows, emps) with
          | none => (Sum.inl k : Nat ⊕ St)
          | some st' => readL (k + 1) ls st') = _
        rw [hs]
      have hsl := step_len hs
      have ih := llines_ok (text := text) ls (k + 1) st.1 st.2 (some (.d (.int (k : Int)))) (some (.d (.str l))) y5 y6 y7 y8 (fun x hx => hl x (List.mem_cons_of_mem _ hx)) (step_k (hl l List.mem_cons_self) K hs) (by
        have : st.1.length ≤ rows.length + 1 := hsl
        omega)
      rw [hr, e0, e]
      exact ih
theorem lread_ok {text : Str} (h : Lk text) (S : Sto) : F__law_read [.d (.str text)] S = .ok (.d (resD (readT text))) S ∧ Ty 7 (resD (readT text)) := by
  obtain ⟨h1, h2⟩ := lines_lk h
  obtain ⟨ok, er⟩ := llines_ok (text := text) (linesOf text) 0 [] [] none none none none none none h1 ⟨fun r hr => absurd hr List.not_mem_nil, Nat.zero_le _, fun x hx => absurd hx List.not_mem_nil⟩ (by simpa using h2)
  have s0 : sPars [1, 2] (aCons (mN pLstB (aNil)) (aCons (mN pTup (aNil)) (aNil))) [some (.d (.str text)), none, none, none, none, none, none, none, none] [] = .nx (eR text [] none none none none none none) [bxR []] := rfl
  have it := it_ok (ρ := eR text [] none none none none none none) (S := [bxR []]) h rfl
  have body : ∀ r, forL (gT (gsCons (gN 3) (gsCons (gN 4) (gsNil)))) l1__law_read (enS 0 (linesOf text)) (eR text [] none none none none none none) [bxR []] = r → b__law_read [some (.d (.str text)), none, none, none, none, none, none, none, none] [] = sqz r (sRet (mN pTup (aCons (mN pTuple (aCons (mV 1) (aNil))) (aCons (mV 2) (aNil))))) := fun r hr => by
    unfold b__law_read
    rw [sSeq_s, s0, sqz_nx, sSeq_s, st_for it hr]
  unfold readT
  cases hr : readL 0 (linesOf text) ([], []) with
  | inl j =>
    obtain ⟨S', e⟩ := er j hr
    exact ⟨iso_ok (ts := [.str text]) (S' := S') (runB_rt (ds := [.d (.str text)]) rfl (body _ e)), .inl (.inr (.inl ⟨_, rfl⟩))⟩
  | inr st =>
    obtain ⟨⟨y3, y4, y5, y6, y7, y8, e⟩, K, hz⟩ := ok st hr
    refine ⟨iso_ok (ts := [.str text]) (S' := [bxR st.1]) (runB_rt (ds := [.d (.str text)]) rfl ((body _ e).trans ?_)), ?_⟩
    · rw [sqz_nx]
      have tp : pTuple [.loc 0] [bxR st.1] = some (.d (.tup (st.1.map row)), [bxR st.1]) := by
        have hs : lstT [bxR st.1] (.loc 0) = some (st.1.map row) := by
          show (some ((st.1.map row).map Dv.d)).bind pures = _
          rw [Option.bind_some, pures_d]
        have hd : dctAt [bxR st.1] (.loc 0) = none := rfl
        unfold pTuple
        simp only [hs, hd]
      refine st_ret (ex_mN (ds := [.d (.tup (st.1.map row)), .d (tupS st.2)]) (S1 := [bxR st.1]) ?_ rfl)
      rw [aCons_s, ex_mN (ex_a1 (d := .loc 0) rfl) tp, bind_ok]
      rfl
    · exact (show Ty 4 (.tup [.tup (st.1.map row), tupS st.2]) from .inr ⟨_, .inl rfl, by show 2 ≤ 1000; omega, fun x hx => by
        simp only [List.mem_cons, List.not_mem_nil, or_false] at hx
        rcases hx with rfl | rfl
        · exact .inr ⟨_, .inl rfl, by rw [List.length_map]; exact hz, fun y hy => by
            obtain ⟨r, hr, rfl⟩ := List.mem_map.mp hy
            exact ty_row (K.r r hr)⟩
        · exact Ty.ups (n := 1) (m := 3) (ty_strs K.z K.e (.inl rfl)) (by omega)⟩).ups (by omega)
end K14
namespace Hn
open PySem PySem.Spec PyProof.Rows L2 Sm
section
variable {rows : List (Str × List Str)} {emps : List Str} {S : Sto} {n : Nat}
end
theorem pool_n : ∀ x ∈ pool, x ∈ allN := by decide +kernel
theorem Tome.gs {t : Dt} {rows : List (Str × List Str)} {emps : List Str} {b : Nat} (T : Tome t rows emps 8 b) (hb : b ≤ 20) : Gs8 rows emps := by
  have pz : pool.length = 11 := rfl
  refine ⟨T.nd, fun r hr => ⟨pool_ok _ (T.pn r hr), fun x hx => pool_ok _ (T.pw r hr x hx).1⟩, fun x hx => pool_ok _ (T.pe x hx), fun r hr => (T.sw r hr).nodup, fun r hr => ?_, T.z1, by have := T.z2; omega, T.sn, T.sw, fun r hr z => (T.pw r hr _ z).2 rfl, fun r hr => pool_n _ (T.pn r hr)⟩
  have := List.Nodup.length_le_of_subset (T.sw r hr).nodup fun x hx => (T.pw r hr x hx).1
  omega
end Hn
set_option maxHeartbeats 2000000
namespace K14
open PySem PySem.Spec PyProof.Rows L2 Sm Hn
theorem cl_app (a b : Str) : Tq.cl (a ++ b) = Tq.cl a ++ Tq.cl b := by
  show (a.cps ++ b.cps).toList = _
  rw [Array.toList_append]
  rfl
theorem len_app (a b : Str) : (a ++ b).length = a.length + b.length := by
  rw [← Tq.cl_len, cl_app, List.length_append, Tq.cl_len, Tq.cl_len]
theorem app_s {a b : Str} (h : a.length + b.length ≤ 16777216) (S : Sto) : pAdd (.d (.str a)) (.d (.str b)) S = some (.d (.str (a ++ b)), S) := by
  show (if a.length + b.length ≤ 16777216 then some (Dv.d (.str (a ++ b)), S) else none) = _
  rw [if_pos h]
theorem jo_ok {mo me : M Dv} {ρ : Sm.Env} {S S2 : Sto} {a : Str} {e : Dv} {ys : List Str} (ho : mo ρ S = .ok (.d (.str a)) S) (he : me ρ S = .ok e S2) (hs : (seqT S2 e).bind strsOf = some ys) (hz : (ys.map (·.length)).sum + ys.length * a.length ≤ 16777216) : mJoin mo me ρ S = .ok (.d (.str (Txt.join a ys))) S2 := by
  unfold mJoin
  rw [ho, bind_ok]
  show (me ρ S).bind _ = _
  rw [he, bind_ok, hs]
  simp only
  rw [if_pos hz]
theorem seq_l (ys : List Str) (S : Sto) : (seqT S (.d (lstS ys))).bind strsOf = some ys := by
  have : seqT S (.d (lstS ys)) = some (ys.map Dt.str) := by
    show (some ((ys.map Dt.str).map Dv.d)).bind pures = _
    rw [Option.bind_some, pures_d]
  rw [this, Option.bind_some, strsOf_map]
def rowW (r : Str × List Str) : Str := Txt.join BL ((r.1 ++ CO) :: r.2)
def empW (emps : List Str) : Str := Txt.join BL (PL :: emps)
def linesW (rows : List (Str × List Str)) (emps : List Str) : List Str := rows.map rowW ++ (if emps = [] then [] else [empW emps])
def sheetW (rows : List (Str × List Str)) (emps : List Str) : Str := Txt.join NL (linesW rows emps)
structure Dw (rows : List (Str × List Str)) (emps : List Str) : Prop where
  g : Gs8 rows emps
  n : ∀ r ∈ rows, r.1 ∈ pool
  w : ∀ r ∈ rows, ∀ x ∈ r.2, x ∈ pool
  nw : ∀ r ∈ rows, r.1 ∉ r.2
  aw : ∀ r ∈ rows, Asc r.2
  an : Asc (rows.map (·.1))
  ae : Asc emps
  e : ∀ x ∈ emps, x ∈ pool
  z0 : 0 < rows.length
  z1 : rows.length ≤ 8
  z2 : emps.length ≤ 3
theorem dw_tome {t : Dt} {rows : List (Str × List Str)} {emps : List Str} (T : Tome t rows emps 8 3) : Dw rows emps := ⟨T.gs (by omega), T.pn, fun r hr x hx => (T.pw r hr x hx).1, fun r hr h => (T.pw r hr r.1 h).2 rfl, T.sw, T.sn, T.se, T.pe, T.z0, T.z1, T.z2⟩
theorem pool_z : ∀ x ∈ pool, x.length ≤ 8 := by decide +kernel
section
variable {rows : List (Str × List Str)} {emps : List Str}
theorem sum_le {l : List Str} {k : Nat} (h : ∀ x ∈ l, x.length ≤ k) : (l.map (·.length)).sum ≤ l.length * k := by
  induction l with
  | nil => simp
  | cons a l ih =>
    rw [List.map_cons, List.sum_cons, List.length_cons, Nat.add_mul]
    have := h a List.mem_cons_self
    have := ih fun x hx => h x (List.mem_cons_of_mem _ hx)
    omega
theorem Dw.wz (D : Dw rows emps) {r : Str × List Str} (hr : r ∈ rows) : r.2.length ≤ 10 := by
  have := List.Nodup.length_le_of_subset (l₁ := r.1 :: r.2) (l₂ := pool) (List.nodup_cons.mpr ⟨D.nw r hr, (D.aw r hr).nodup⟩) fun x hx => (List.mem_cons.mp hx).elim (fun z => by rw [z]; exact D.n r hr) (D.w r hr x)
  have e : pool.length = 11 := rfl
  rw [List.length_cons] at this
  omega
theorem Dw.rz (D : Dw rows emps) {r : Str × List Str} (hr : r ∈ rows) : (((r.1 ++ CO) :: r.2).map (·.length)).sum ≤ 89 := by
  rw [List.map_cons, List.sum_cons, len_app]
  have h1 := pool_z _ (D.n r hr)
  have h2 := sum_le (k := 8) fun x hx => pool_z x (D.w r hr x hx)
  have h3 := D.wz hr
  have : CO.length = 1 := rfl
  omega
theorem Dw.ez (D : Dw rows emps) : ((PL :: emps).map (·.length)).sum ≤ 25 := by
  rw [List.map_cons, List.sum_cons]
  have h2 := sum_le (k := 8) fun x hx => pool_z x (D.e x hx)
  have h3 := D.z2
  have : PL.length = 1 := rfl
  omega
theorem Dw.rw_len (D : Dw rows emps) {r : Str × List Str} (hr : r ∈ rows) : (rowW r).length ≤ 100 := by
  have h := Tq.join_len BL ((r.1 ++ CO) :: r.2)
  have h1 := D.rz hr
  have h3 := D.wz hr
  rw [List.length_cons, show BL.length = 1 from rfl] at h
  show (Txt.join BL ((r.1 ++ CO) :: r.2)).length ≤ 100
  omega
theorem Dw.ew_len (D : Dw rows emps) : (empW emps).length ≤ 29 := by
  have h := Tq.join_len BL (PL :: emps)
  have h1 := D.ez
  have h3 := D.z2
  rw [List.length_cons, show BL.length = 1 from rfl] at h
  show (Txt.join BL (PL :: emps)).length ≤ 29
  omega
theorem Dw.lines_sum (D : Dw rows emps) : ((linesW rows emps).map (·.length)).sum ≤ 829 ∧ (linesW rows emps).length ≤ 9 := by
  have h1 := sum_le (l := rows.map rowW) (k := 100) fun x hx => by
    obtain ⟨r, hr, rfl⟩ := List.mem_map.mp hx
    exact D.rw_len hr
  have h2 := D.z1
  have h3 := D.ew_len
  rw [List.length_map] at h1
  unfold linesW
  rw [List.map_append, List.sum_append, List.length_append, List.length_map]
  split
  · simp only [List.map_nil, List.sum_nil, List.length_nil]
    omega
  · simp only [List.map_cons, List.map_nil, List.sum_cons, List.sum_nil, List.length_cons, List.length_nil]
    omega
theorem Dw.sheet_len (D : Dw rows emps) : (sheetW rows emps).length ≤ 838 := by
  have h := Tq.join_len NL (linesW rows emps)
  obtain ⟨h1, h2⟩ := D.lines_sum
  rw [show NL.length = 1 from rfl] at h
  show (Txt.join NL (linesW rows emps)).length ≤ 838
  omega
theorem bl_ok : PyData.strOk BL = true := by decide +kernel
theorem nl_ok : PyData.strOk NL = true := by decide +kernel
theorem app_ok {a b : Str} (h1 : PyData.strOk a = true) (h2 : PyData.strOk b = true) : PyData.strOk (a ++ b) = true := by
  unfold PyData.strOk at h1 h2 ⊢
  rw [Array.all_eq_true'] at h1 h2 ⊢
  intro c hc
  have : c ∈ a.cps ++ b.cps := hc
  exact (Array.mem_append.mp this).elim (h1 c) (h2 c)
theorem Dw.sheet_lk (D : Dw rows emps) : Lk (sheetW rows emps) := by
  refine ⟨Tq.join_ok nl_ok fun x hx => ?_, by have := D.sheet_len; omega⟩
  unfold linesW at hx
  rcases List.mem_append.mp hx with h | h
  · obtain ⟨r, hr, rfl⟩ := List.mem_map.mp h
    refine Tq.join_ok bl_ok fun y hy => ?_
    rcases List.mem_cons.mp hy with rfl | hy
    · exact app_ok (pool_ok _ (D.n r hr)) co_ok
    · exact pool_ok _ (D.w r hr y hy)
  · split at h
    · cases h
    · rw [List.mem_singleton.mp h]
      refine Tq.join_ok bl_ok fun y hy => ?_
      rcases List.mem_cons.mp hy with rfl | hy
      · exact pl_ok
      · exact pool_ok _ (D.e y hy)
theorem names_sh (S : Sto) : F_Sheet_names [.d (Hr.shO rows emps)] S = .ok (.d (tupS (folk rows))) S := Hr.sh_names S
theorem wishes_sh {r : Str × List Str} (D : Dw rows emps) (hr : r ∈ rows) (S : Sto) : F_Sheet_wishes [.d (Hr.shO rows emps), .d (.str r.1)] S = .ok (.d (tupS r.2)) S := by
  refine iso_ok (ts := [Hr.shO rows emps, .str r.1]) (S' := []) (runB_rt (ds := [.d (Hr.shO rows emps), .d (.str r.1)]) rfl ?_)
  show b_Sheet_wishes [some (.d (Hr.shO rows emps)), some (.d (.str r.1))] [] = _
  unfold b_Sheet_wishes
  refine st_ret (ex_m2 (d := .d (rowsO rows)) (e := .d (.str r.1)) rfl rfl ?_)
  have hm : r.1 ∈ folk rows := List.mem_map_of_mem (f := fun r : Str × List Str => r.1) hr
  rw [ix_f (f := fun x => tupS (lk rows x)) hm]
  have : lk rows r.1 = r.2 := lk_in D.g.ndf r hr
  rw [this]
theorem emps_sh (S : Sto) : F_Sheet_empties [.d (Hr.shO rows emps)] S = .ok (.d (tupS emps)) S := by
  refine iso_ok (ts := [Hr.shO rows emps]) (S' := []) (runB_rt (ds := [.d (Hr.shO rows emps)]) rfl ?_)
  rfl
abbrev bxS (l : List Str) : Bo := .lst ((l.map Dt.str).map .d)
theorem sheet_text_ok (D : Dw rows emps) {t : Dt} (h : Sd t rows emps) (S : Sto) : F_sheet_text [.d t] S = .ok (.d (.str (sheetW rows emps))) S := by
  have ez := D.ez
  have z1 := D.z1
  have z2 := D.z2
  obtain ⟨ls, lz⟩ := D.lines_sum
  let O : Option Dv := some (.d (Hr.shO rows emps))
  let E : Option Dv → Option Dv → Sm.Env := fun a b => [some (.d t), O, a, b]
  have s0 : sSet 1 (mF (isoMk 0 F_Sheet_init) (aCons (mV 0) (aNil))) [some (.d t), none, none, none] [] = .nx (E none none) [] := st_set (ex_mF (ds := [.d t]) (S1 := []) rfl (Hr.sh_mk h []))
  have meth : ∀ (F : FM) (ma : M (List Dv)) (ds : List Dv) (a b : Option Dv) (S : Sto), ma (E a b) S = .ok ds S → mMeth 0 F (mV 1) ma (E a b) S = F (.d (Hr.shO rows emps) :: ds) S := fun F ma ds a b S hm => Hr.meth_sh (t := Hr.shO rows emps) (S1 := S) rfl rfl hm
  have nm : mMeth 0 F_Sheet_names (mV 1) aNil (E none none) [] = .ok (.d (tupS (folk rows))) [] := (meth F_Sheet_names aNil [] none none [] rfl).trans (names_sh [])
  have lc := mLcI_pure (vs := [3]) (g := gN 3) (c := cYes) (e := mJoin (mC (.str BL)) (mN pLst (aCons (m2 pAdd (mV 3) (mC (.str CO))) (aStar (mMeth 0 F_Sheet_wishes (mV 1) (aCons (mV 3) (aNil))) (aNil))))) (it := iSeq (mMeth 0 F_Sheet_names (mV 1) aNil)) (ρ := E none none) (S := []) (fun r : Str × List Str => Dt.str r.1) rows (fun _ => true) (fun r => .str (rowW r)) (by
    rw [iSeq_t nm]
    show Rz.ok ((rows.map (·.1)).map Dt.str) [] = _
    rw [List.map_map]
    rfl) (by omega) fun r hr => ⟨E none (some (.d (.str r.1))), rfl, rfl, fun _ => by
      have rz := D.rz hr
      have wz := D.wz hr
      have nz := pool_z _ (D.n r hr)
      have a1 : m2 pAdd (mV 3) (mC (.str CO)) (E none (some (.d (.str r.1)))) [] = .ok (.d (.str (r.1 ++ CO))) [] := ex_m2 (d := .d (.str r.1)) (e := .d (.str CO)) rfl rfl (app_s (by have : CO.length = 1 := rfl; omega) [])
      have a2 : mMeth 0 F_Sheet_wishes (mV 1) (aCons (mV 3) (aNil)) (E none (some (.d (.str r.1)))) [] = .ok (.d (tupS r.2)) [] := (meth F_Sheet_wishes (aCons (mV 3) (aNil)) [.d (.str r.1)] none (some (.d (.str r.1))) [] rfl).trans (wishes_sh D hr [])
      have a3 : aStar (mMeth 0 F_Sheet_wishes (mV 1) (aCons (mV 3) (aNil))) aNil (E none (some (.d (.str r.1)))) [] = .ok ((r.2.map Dt.str).map .d) [] := by
        show Rz.bind (mMeth 0 F_Sheet_wishes (mV 1) (aCons (mV 3) (aNil)) (E none (some (.d (.str r.1)))) []) _ = _
        rw [a2, bind_ok]
        show Rz.ok ((r.2.map Dt.str).map Dv.d ++ []) [] = _
        rw [List.append_nil]
      have a4 : mN pLst (aCons (m2 pAdd (mV 3) (mC (.str CO))) (aStar (mMeth 0 F_Sheet_wishes (mV 1) (aCons (mV 3) (aNil))) aNil)) (E none (some (.d (.str r.1)))) [] = .ok (.d (lstS ((r.1 ++ CO) :: r.2))) [] := ex_mN (ds := (((r.1 ++ CO) :: r.2).map Dt.str).map .d) (S1 := []) (by
        rw [aCons_s, a1, bind_ok, a3, bind_ok]
        rfl) (pLst_d (by rw [List.length_map, List.length_cons]; omega))
      exact jo_ok (mo := mC (.str BL)) rfl a4 (seq_l _ []) (by rw [show BL.length = 1 from rfl, List.length_cons]; omega)⟩
  rw [filter_yes, show (rows.map fun r => Dt.str (rowW r)) = (rows.map rowW).map .str by rw [List.map_map]; rfl] at lc
  have s1 : sSet 2 (mN pLstB (mLcI [3] (iSeq (mMeth 0 F_Sheet_names (mV 1) aNil)) (gN 3) (cYes) (mJoin (mC (.str BL)) (mN pLst (aCons (m2 pAdd (mV 3) (mC (.str CO))) (aStar (mMeth 0 F_Sheet_wishes (mV 1) (aCons (mV 3) (aNil))) (aNil))))))) (E none none) [] = .nx (E (some (.loc 0)) none) [bxS (rows.map rowW)] := st_set (ex_mN lc (by
    unfold pLstB
    rw [if_pos (by rw [List.length_map, List.length_map, List.length_map]; omega)]
    rfl))
  let E1 := E (some (.loc 0)) none
  let S1 : Sto := [bxS (rows.map rowW)]
  have em : mMeth 0 F_Sheet_empties (mV 1) aNil E1 S1 = .ok (.d (tupS emps)) S1 := (meth F_Sheet_empties aNil [] (some (.loc 0)) none S1 rfl).trans (emps_sh S1)
  have b3 : aStar (mMeth 0 F_Sheet_empties (mV 1) aNil) aNil E1 S1 = .ok ((emps.map Dt.str).map .d) S1 := by
    show Rz.bind (mMeth 0 F_Sheet_empties (mV 1) aNil E1 S1) _ = _
    rw [em, bind_ok]
    show Rz.ok ((emps.map Dt.str).map Dv.d ++ []) S1 = _
    rw [List.append_nil]
  have b4 : mN pLst (aCons (mC (.str PL)) (aStar (mMeth 0 F_Sheet_empties (mV 1) aNil) aNil)) E1 S1 = .ok (.d (lstS (PL :: emps))) S1 := ex_mN (ds := ((PL :: emps).map Dt.str).map .d) (S1 := S1) (by
    rw [aCons_s, show mC (.str PL) E1 S1 = .ok (.d (.str PL)) S1 from rfl, bind_ok, b3, bind_ok]
    rfl) (pLst_d (by rw [List.length_map, List.length_cons]; omega))
  have b5 : mJoin (mC (.str BL)) (mN pLst (aCons (mC (.str PL)) (aStar (mMeth 0 F_Sheet_empties (mV 1) aNil) aNil))) E1 S1 = .ok (.d (.str (empW emps))) S1 := jo_ok (mo := mC (.str BL)) rfl b4 (seq_l _ S1) (by rw [show BL.length = 1 from rfl, List.length_cons]; omega)
  have b6 : mN pInt (aCons (m2 pGt (mN pLen (aCons (mMeth 0 F_Sheet_empties (mV 1) aNil) (aNil))) (mC (.int 0))) (aNil)) E1 S1 = .ok (.d (.int (if 0 < emps.length then 1 else 0))) S1 := by
    have g : m2 pGt (mN pLen (aCons (mMeth 0 F_Sheet_empties (mV 1) aNil) (aNil))) (mC (.int 0)) E1 S1 = .ok (.d (.bl (decide (0 < emps.length)))) S1 := ex_m2 (ex_mN (ex_a1 em) (len_t S1)) (e := .d (.int 0)) rfl gt0
    refine ex_mN (ex_a1 g) ?_
    by_cases hp : 0 < emps.length
    · rw [decide_eq_true hp, if_pos hp]
      rfl
    · rw [decide_eq_false hp, if_neg hp]
      rfl
  let X : List Str := if emps = [] then [] else [empW emps]
  have b7 : m2 pMul (mN pLst (aCons (mJoin (mC (.str BL)) (mN pLst (aCons (mC (.str PL)) (aStar (mMeth 0 F_Sheet_empties (mV 1) aNil) (aNil))))) (aNil))) (mN pInt (aCons (m2 pGt (mN pLen (aCons (mMeth 0 F_Sheet_empties (mV 1) aNil) (aNil))) (mC (.int 0))) (aNil))) E1 S1 = .ok (.d (lstS X)) S1 := by
    refine ex_m2 (d := .d (.lst [.str (empW emps)])) (ex_mN (ex_a1 b5) rfl) b6 ?_
    show (if decide (-(2 ^ 63) ≤ (if 0 < emps.length then (1 : Int) else 0) ∧ (if 0 < emps.length then (1 : Int) else 0) < 2 ^ 63 ∧ 1 * (if 0 < emps.length then (1 : Int) else 0).toNat ≤ 16777216) = true then some (Dv.d (.lst (List.replicate (if 0 < emps.length then (1 : Int) else 0).toNat [Dt.str (empW emps)]).flatten), S1) else none) = some (.d (lstS (if emps = [] then [] else [empW emps])), S1)
    cases emps with
    | nil => rfl
    | cons a l => rfl
  have s2 : sDrop (mLm pExtend (mV 2) (aCons (m2 pMul (mN pLst (aCons (mJoin (mC (.str BL)) (mN pLst (aCons (mC (.str PL)) (aStar (mMeth 0 F_Sheet_empties (mV 1) aNil) (aNil))))) (aNil))) (mN pInt (aCons (m2 pGt (mN pLen (aCons (mMeth 0 F_Sheet_empties (mV 1) aNil) (aNil))) (mC (.int 0))) (aNil)))) (aNil))) E1 S1 = .nx E1 [bxS (linesW rows emps)] := by
    have ex : pExtend (.loc 0) [.d (lstS X)] S1 = some (.d .non, [bxS (linesW rows emps)]) := by
      have hX : X.length ≤ 1 := by
        show (if emps = [] then ([] : List Str) else [empW emps]).length ≤ 1
        split <;> simp
      have e0 : linesW rows emps = rows.map rowW ++ X := rfl
      rw [e0]
      unfold bxS
      rw [List.map_append, List.map_append]
      show (if (((rows.map rowW).map Dt.str).map Dv.d).length + ((X.map Dt.str).map Dv.d).length ≤ 16777216 then some (Dv.d .non, S1.set 0 (.lst (((rows.map rowW).map Dt.str).map Dv.d ++ (X.map Dt.str).map Dv.d))) else none) = _
      rw [if_pos (by simp only [List.length_map]; omega)]
      rfl
    have : isLs S1 (.loc 0) = true := rfl
    rw [sDrop_s, mLm_s, show mV 2 E1 S1 = .ok (.loc 0) S1 from rfl, bind_ok, if_pos this, ex_a1 b7, bind_ok, ex, Sm.lift_some, to_ok]
  refine iso_ok (ts := [t]) (S' := [bxS (linesW rows emps)]) (runB_rt (ds := [.d t]) rfl ?_)
  show b_sheet_text [some (.d t), none, none, none] [] = _
  unfold b_sheet_text
  rw [sSeq_s, s0, sqz_nx, sSeq_s, s1, sqz_nx, sSeq_s, s2, sqz_nx]
  refine st_ret (jo_ok (mo := mC (.str NL)) (e := .loc 0) (ys := linesW rows emps) rfl rfl ?_ (by rw [show NL.length = 1 from rfl]; omega))
  have : seqT [bxS (linesW rows emps)] (.loc 0) = some ((linesW rows emps).map Dt.str) := by
    show (some (((linesW rows emps).map Dt.str).map Dv.d)).bind pures = _
    rw [Option.bind_some, pures_d]
  rw [this, Option.bind_some, strsOf_map]
end
end K14
set_option maxHeartbeats 2000000
namespace K14
open PySem PySem.Spec PyProof.Rows L2 Sm Hn
section
variable {rows : List (Str × List Str)} {emps : List Str}
def tailW (ws : List Str) : Str := Txt.join ("" : Str) (ws.map fun x => BL ++ x)
theorem cl_tail (ws : List Str) : Tq.cl (tailW ws) = ws.flatMap fun x => Tq.cl BL ++ Tq.cl x := by
  unfold tailW
  rw [Tq.join_cl, List.map_map]
  cases ws with
  | nil => rfl
  | cons a l =>
    show (Tq.cl (BL ++ a)) ++ ((l.map fun x => Tq.cl (BL ++ x)).flatMap fun y => Tq.cl ("" : Str) ++ y) = _
    rw [List.flatMap_cons, cl_app]
    congr 1
    rw [List.flatMap_map]
    congr 1
    funext x
    rw [cl_app]
    rfl
theorem join_tail (a : Str) (ws : List Str) : a ++ tailW ws = Txt.join BL (a :: ws) := Tq.cl_inj (by
  rw [cl_app, cl_tail, Tq.join_cl]
  show _ = Tq.cl a ++ ((ws.map Tq.cl).flatMap fun y => Tq.cl BL ++ y)
  rw [List.flatMap_map])
theorem tail_ok {it : M (List Dt)} {ρ : Sm.Env} {S : Sto} {ws : List Str} (hi : it ρ S = .ok (ws.map .str) S) (hz : ws.length ≤ 100) (hw : ∀ x ∈ ws, x.length ≤ 8) (hg : ∀ x : Str, ∃ ρ1, gN 2 (.d (.str x)) (wipeE ρ [2]) = some ρ1 ∧ mV 2 ρ1 S = .ok (.d (.str x)) S) : mJoin (mC (.str ("" : Str))) (mN pLst (mLcI [2] it (gN 2) (cYes) (m2 pAdd (mC (.str BL)) (mV 2)))) ρ S = .ok (.d (.str (tailW ws))) S := by
  have lc := mLc_pure (vs := [2]) (g := gN 2) (c := cYes) (e := m2 pAdd (mC (.str BL)) (mV 2)) (it := it) (ρ := ρ) (S := S) Dt.str ws (fun _ => true) (fun x => .str (BL ++ x)) hi (by omega) fun x hx => by
    obtain ⟨ρ1, h1, h2⟩ := hg x
    exact ⟨ρ1, h1, rfl, fun _ => ex_m2 (d := .d (.str BL)) rfl h2 (app_s (by have := hw x hx; have : BL.length = 1 := rfl; omega) S)⟩
  rw [filter_yes, show (ws.map fun x => Dt.str (BL ++ x)) = (ws.map fun x => BL ++ x).map .str by rw [List.map_map]; rfl] at lc
  refine jo_ok (mo := mC (.str ("" : Str))) rfl lc (seq_l _ S) ?_
  have := sum_le (l := ws.map fun x => BL ++ x) (k := 9) fun y hy => by
    obtain ⟨x, hx, rfl⟩ := List.mem_map.mp hy
    rw [len_app]
    have := hw x hx
    have : BL.length = 1 := rfl
    omega
  rw [List.length_map] at this ⊢
  rw [show ("" : Str).length = 0 from rfl]
  omega
theorem tail_len {ws : List Str} (hw : ∀ x ∈ ws, x.length ≤ 8) : (tailW ws).length ≤ ws.length * 9 := by
  have h := Tq.join_len ("" : Str) (ws.map fun x => BL ++ x)
  have := sum_le (l := ws.map fun x => BL ++ x) (k := 9) fun y hy => by
    obtain ⟨x, hx, rfl⟩ := List.mem_map.mp hy
    rw [len_app]
    have := hw x hx
    have : BL.length = 1 := rfl
    omega
  rw [List.length_map] at this h
  rw [show ("" : Str).length = 0 from rfl] at h
  show (Txt.join ("" : Str) (ws.map fun x => BL ++ x)).length ≤ _
  omega
theorem law_sheet_ok (D : Dw rows emps) (S : Sto) : F__law_sheet [.d (shD rows emps)] S = .ok (.d (.str (sheetW rows emps))) S := by
  have z1 := D.z1
  have z2 := D.z2
  obtain ⟨ls, lz⟩ := D.lines_sum
  let t := shD rows emps
  let E : Option Dv → Option Dv → Option Dv → Sm.Env := fun a b c => [some (.d t), a, b, c]
  have lc := mLc_pure (vs := [3]) (g := gN 3) (c := cYes) (e := m2 pAdd (m2 pAdd (m2 pIx (mV 3) (mC (.int 0))) (mC (.str CO))) (mJoin (mC (.str ("" : Str))) (mN pLst (mLcI [2] (iSeq (m2 pIx (mV 3) (mC (.int 1)))) (gN 2) (cYes) (m2 pAdd (mC (.str BL)) (mV 2)))))) (it := iSeq (m2 pIx (mV 0) (mC (.int 0)))) (ρ := E none none none) (S := []) row rows (fun _ => true) (fun r => .str (rowW r)) (iSeq_t rfl) (by omega) fun r hr => ⟨E none none (some (.d (row r))), rfl, rfl, fun _ => by
    have nz := pool_z _ (D.n r hr)
    have wz := D.wz hr
    have hw : ∀ x ∈ r.2, x.length ≤ 8 := fun x hx => pool_z x (D.w r hr x hx)
    have i0 : m2 pIx (mV 3) (mC (.int 0)) (E none none (some (.d (row r)))) [] = .ok (.d (.str r.1)) [] := ex_m2 (d := .d (row r)) (e := .d (.int 0)) rfl rfl (ix_tup (i := 0) rfl)
    have a1 : m2 pAdd (m2 pIx (mV 3) (mC (.int 0))) (mC (.str CO)) (E none none (some (.d (row r)))) [] = .ok (.d (.str (r.1 ++ CO))) [] := ex_m2 i0 (e := .d (.str CO)) rfl (app_s (by have : CO.length = 1 := rfl; omega) [])
    have a2 := tail_ok (it := iSeq (m2 pIx (mV 3) (mC (.int 1)))) (ρ := E none none (some (.d (row r)))) (S := []) (ws := r.2) (iSeq_t (ex_m2 (d := .d (row r)) (e := .d (.int 1)) rfl rfl (ix_tup (i := 1) rfl))) (by omega) hw fun x => ⟨E none (some (.d (.str x))) (some (.d (row r))), rfl, rfl⟩
    have tl := tail_len hw
    have e : rowW r = r.1 ++ CO ++ tailW r.2 := (join_tail (r.1 ++ CO) r.2).symm
    rw [e]
    exact ex_m2 a1 a2 (app_s (by rw [len_app]; have : CO.length = 1 := rfl; omega) [])⟩
  rw [filter_yes, show (rows.map fun r => Dt.str (rowW r)) = (rows.map rowW).map .str by rw [List.map_map]; rfl] at lc
  have s0 := st_set (i := 1) lc
  let E1 := E (some (.d (lstS (rows.map rowW)))) none none
  have hw : ∀ x ∈ emps, x.length ≤ 8 := fun x hx => pool_z x (D.e x hx)
  have a2 := tail_ok (it := iSeq (m2 pIx (mV 0) (mC (.int 1)))) (ρ := E1) (S := []) (ws := emps) (iSeq_t (ex_m2 (d := .d t) (e := .d (.int 1)) rfl rfl (ix_tup (i := 1) rfl))) (by omega) hw fun x => ⟨E (some (.d (lstS (rows.map rowW)))) (some (.d (.str x))) none, rfl, rfl⟩
  have tl := tail_len hw
  have ee : empW emps = PL ++ tailW emps := (join_tail PL emps).symm
  have a3 : m2 pAdd (mC (.str PL)) (mJoin (mC (.str ("" : Str))) (mN pLst (mLcI [2] (iSeq (m2 pIx (mV 0) (mC (.int 1)))) (gN 2) (cYes) (m2 pAdd (mC (.str BL)) (mV 2))))) E1 [] = .ok (.d (.str (empW emps))) [] := by
    rw [ee]
    exact ex_m2 (d := .d (.str PL)) rfl a2 (app_s (by have : PL.length = 1 := rfl; omega) [])
  have b6 : mN pInt (aCons (m2 pNe (m2 pIx (mV 0) (mC (.int 1))) (mN pTup (aNil))) (aNil)) E1 [] = .ok (.d (.int (if emps = [] then 0 else 1))) [] := by
    have q := ne_tz (n := 1) (m := 1) (t := tupS emps) (u := .tup []) (P := emps = []) (.tup fun y hy => by
      obtain ⟨x, hx, rfl⟩ := List.mem_map.mp hy
      exact .str (pool_ok x (D.e x hx))) (.tup fun y hy => absurd hy List.not_mem_nil) (by omega) (by omega) ⟨fun z => by
        injection z with z
        simpa using z, fun z => by rw [z]; rfl⟩ []
    refine ex_mN (ex_a1 (ex_m2 (d := .d (tupS emps)) (e := .d (.tup [])) (ex_m2 (d := .d t) (e := .d (.int 1)) rfl rfl (ix_tup (i := 1) rfl)) rfl q)) ?_
    by_cases hp : emps = []
    · rw [decide_eq_true hp, if_pos hp]
      rfl
    · rw [decide_eq_false hp, if_neg hp]
      rfl
  let X : List Str := if emps = [] then [] else [empW emps]
  have b7 := ex_m2 (p := pMul) (r := .d (lstS X)) (S3 := []) (ex_mN (p := pLst) (ex_a1 a3) (r := .d (.lst [.str (empW emps)])) rfl) b6 (by
    show (if decide (-(2 ^ 63) ≤ (if emps = [] then (0 : Int) else 1) ∧ (if emps = [] then (0 : Int) else 1) < 2 ^ 63 ∧ 1 * (if emps = [] then (0 : Int) else 1).toNat ≤ 16777216) = true then some (Dv.d (.lst (List.replicate (if emps = [] then (0 : Int) else 1).toNat [Dt.str (empW emps)]).flatten), ([] : Sto)) else none) = some (.d (lstS (if emps = [] then [] else [empW emps])), [])
    cases emps with
    | nil => rfl
    | cons a l => rfl)
  have b8 := ex_m2 (p := pAdd) (x := mV 1) (ρ := E1) (S := []) (d := .d (lstS (rows.map rowW))) rfl b7 (add_l (by
    have hX : X.length ≤ 1 := by
      show (if emps = [] then ([] : List Str) else [empW emps]).length ≤ 1
      split <;> simp
    rw [List.length_map, List.length_map, List.length_map]
    omega))
  rw [← List.map_append] at b8
  refine iso_ok (ts := [t]) (S' := []) (runB_rt (ds := [.d t]) rfl ?_)
  show b__law_sheet (E none none none) [] = _
  unfold b__law_sheet
  rw [sSeq_s, s0, sqz_nx]
  exact st_ret (jo_ok (mo := mC (.str NL)) rfl b8 (seq_l (linesW rows emps) []) (by rw [show NL.length = 1 from rfl]; omega))
theorem bl_mk : BL = Tq.mkS [32] := rfl
theorem nl_mk : NL = Tq.mkS [10] := rfl
theorem pool_w : ∀ x ∈ pool, wordS x = true ∧ 32 ∉ Tq.cl x ∧ 10 ∉ Tq.cl x := by decide +kernel
theorem ini_co (n : Str) : ini (n ++ CO) = n ∧ lst1 (n ++ CO) = CO := by
  have hl : (Tq.cl (n ++ CO)).length = n.length + 1 := by rw [cl_app, List.length_append, Tq.cl_len]; rfl
  have hz : (n ++ CO).length = n.length + 1 := by rw [len_app]; rfl
  have e2 : HT.sIx (n.length + 1) 0 (some (-1)) = n.length := by
    unfold HT.sIx
    simp only
    first
      | omega
      | (split <;> omega)
      | (simp; omega)
  have e3 : HT.sIx (n.length + 1) (n.length + 1) (some (-1)) = n.length := by
    unfold HT.sIx
    simp only
    first
      | omega
      | (split <;> omega)
      | (simp; omega)
  constructor
  · apply Tq.cl_inj
    show ((Tq.cl (n ++ CO)).drop (HT.sIx (n ++ CO).length 0 none)).take (HT.sIx (n ++ CO).length (n ++ CO).length (some (-1)) - HT.sIx (n ++ CO).length 0 none) = _
    have e1 : HT.sIx (n ++ CO).length 0 none = 0 := rfl
    rw [e1, hz, e3, Nat.sub_zero, List.drop_zero, cl_app]
    rw [List.take_append_of_le_length (by rw [Tq.cl_len]; exact Nat.le_refl _), ← Tq.cl_len, List.take_length]
  · apply Tq.cl_inj
    show ((Tq.cl (n ++ CO)).drop (HT.sIx (n ++ CO).length 0 (some (-1)))).take (HT.sIx (n ++ CO).length (n ++ CO).length none - HT.sIx (n ++ CO).length 0 (some (-1))) = _
    have e1 : HT.sIx (n ++ CO).length (n ++ CO).length none = (n ++ CO).length := rfl
    rw [e1, hz, e2, cl_app, ← Tq.cl_len, List.drop_left]
    have : (Tq.cl n).length + 1 - (Tq.cl n).length = 1 := by omega
    rw [this]
    rfl
theorem split_row (D : Dw rows emps) {r : Str × List Str} (hr : r ∈ rows) : Txt.split (rowW r) BL = (r.1 ++ CO) :: r.2 := by
  unfold rowW
  rw [bl_mk]
  refine Tq.split_join (by omega) (List.cons_ne_nil _ _) fun x hx => ?_
  rcases List.mem_cons.mp hx with rfl | hx
  · rw [cl_app, List.mem_append, not_or]
    exact ⟨(pool_w _ (D.n r hr)).2.1, by decide +kernel⟩
  · exact (pool_w x (D.w r hr x hx)).2.1
theorem split_emp (D : Dw rows emps) : Txt.split (empW emps) BL = PL :: emps := by
  unfold empW
  rw [bl_mk]
  refine Tq.split_join (by omega) (List.cons_ne_nil _ _) fun x hx => ?_
  rcases List.mem_cons.mp hx with rfl | hx
  · decide +kernel
  · exact (pool_w x (D.e x hx)).2.1
theorem mem_jn {c : Nat} {sep : List Nat} : ∀ {xs : List (List Nat)}, c ∈ Tq.jn sep xs → c ∈ sep ∨ ∃ x ∈ xs, c ∈ x
  | [], h => by cases h
  | x :: r, h => by
    rcases List.mem_append.mp (show c ∈ x ++ _ from h) with z | z
    · exact .inr ⟨x, List.mem_cons_self, z⟩
    · obtain ⟨y, hy, hz⟩ := List.mem_flatMap.mp z
      rcases List.mem_append.mp hz with q | q
      · exact .inl q
      · exact .inr ⟨y, List.mem_cons_of_mem _ hy, q⟩
theorem no_nl {ws : List Str} (h : ∀ x ∈ ws, 10 ∉ Tq.cl x) : 10 ∉ Tq.cl (Txt.join BL ws) := fun z => by
  rw [Tq.join_cl] at z
  rcases mem_jn z with q | ⟨x, hx, q⟩
  · exact absurd q (by decide +kernel)
  · obtain ⟨y, hy, rfl⟩ := List.mem_map.mp hx
    exact h y hy q
theorem split_sheet (D : Dw rows emps) : linesOf (sheetW rows emps) = linesW rows emps := by
  have hne : linesW rows emps ≠ [] := fun z => by
    have h0 := D.z0
    unfold linesW at z
    rw [List.append_eq_nil_iff] at z
    have := congrArg List.length z.1
    rw [List.length_map] at this
    simp at this
    rw [this] at h0
    simp at h0
  have hs : Txt.split (sheetW rows emps) NL = linesW rows emps := by
    unfold sheetW
    rw [nl_mk]
    refine Tq.split_join (by omega) hne fun x hx => ?_
    unfold linesW at hx
    rcases List.mem_append.mp hx with h | h
    · obtain ⟨r, hr, rfl⟩ := List.mem_map.mp h
      refine no_nl fun y hy => ?_
      rcases List.mem_cons.mp hy with rfl | hy
      · rw [cl_app, List.mem_append, not_or]
        exact ⟨(pool_w _ (D.n r hr)).2.2, by decide +kernel⟩
      · exact (pool_w y (D.w r hr y hy)).2.2
    · split at h
      · cases h
      · rw [List.mem_singleton.mp h]
        refine no_nl fun y hy => ?_
        rcases List.mem_cons.mp hy with rfl | hy
        · decide +kernel
        · exact (pool_w y (D.e y hy)).2.2
  unfold linesOf
  rw [if_neg, hs]
  intro z
  rw [z] at hs
  have e0 : Txt.split ("" : Str) NL = [("" : Str)] := by decide +kernel
  rw [e0] at hs
  cases hrows : rows with
  | nil =>
    have := D.z0
    rw [hrows] at this
    simp at this
  | cons r l =>
    rw [hrows] at hs
    have h1 : rowW r = ("" : Str) := by
      have := congrArg List.head? hs
      exact (Option.some.inj this).symm
    have h2 := split_row D (r := r) (by rw [hrows]; exact List.mem_cons_self)
    rw [h1] at h2
    have e1 : Txt.split ("" : Str) BL = [("" : Str)] := by decide +kernel
    rw [e1] at h2
    injection h2 with h2 _
    have := congrArg Str.length h2
    rw [len_app] at this
    have c1 : CO.length = 1 := rfl
    have c0 : ("" : Str).length = 0 := rfl
    omega
theorem set_w {l : List Str} (h : ∀ x ∈ l, x ∈ pool) (a : Asc l) : setW l = true := by
  unfold setW
  rw [Bool.and_eq_true, List.all_eq_true, rises_asc]
  exact ⟨fun x hx => (pool_w x (h x hx)).1, a⟩
theorem row_read (D : Dw rows emps) {r : Str × List Str} (hr : r ∈ rows) : rowV (rowW r) = some r := by
  have hE : Txt.endswith (r.1 ++ CO) CO = true := by
    rw [← lst_co, (ini_co r.1).2]
    exact decide_eq_true rfl
  unfold rowV
  rw [split_row D hr]
  simp only
  rw [hE, (ini_co r.1).1, (pool_w _ (D.n r hr)).1, set_w (D.w r hr) (D.aw r hr), decide_eq_false (D.nw r hr)]
  rfl
theorem step_row (D : Dw rows emps) {done rest : List (Str × List Str)} {r : Str × List Str} (e : rows = done ++ r :: rest) : step (rowW r) (done, []) = some (done ++ [r], []) := by
  have hr : r ∈ rows := by rw [e]; simp
  unfold step
  rw [row_read D hr]
  have c1 : (decide (0 < ([] : List Str).length) || ((some r).isNone && (empV (rowW r) done).isNone)) = false := rfl
  rw [if_neg (by rw [c1]; exact Bool.false_ne_true)]
  dsimp only
  have c2 : (decide (0 < done.length) && !ltS (lastN done) r.1) = false := by
    by_cases h0 : 0 < done.length
    · have hne : done ≠ [] := fun z => by rw [z] at h0; simp at h0
      have hl : lastN done = (done.getLast hne).1 := by
        unfold lastN
        rw [List.getLast?_eq_some_getLast hne]
        rfl
      have an := D.an
      rw [e, List.map_append, List.map_cons] at an
      have := (List.pairwise_append.mp an).2.2 (done.getLast hne).1 (List.mem_map_of_mem (f := fun r : Str × List Str => r.1) (List.getLast_mem hne)) r.1 List.mem_cons_self
      rw [hl, this]
      simp
    · rw [decide_eq_false h0]
      rfl
  rw [if_neg (by rw [c2]; exact Bool.false_ne_true)]
theorem emp_read (D : Dw rows emps) (h : emps ≠ []) : step (empW emps) (rows, []) = some (rows, emps) := by
  have hE : rowV (empW emps) = none := by
    unfold rowV
    rw [split_emp D]
    simp only
    rw [pl_co]
    rfl
  have ha : (rows.any fun r => decide (r.1 ∈ emps)) = false := by
    rw [Bool.eq_false_iff]
    intro z
    obtain ⟨r, hr, hq⟩ := List.any_eq_true.mp z
    have nd := D.g.nd
    exact (List.nodup_append.mp nd).2.2 r.1 (List.mem_map_of_mem (f := fun r : Str × List Str => r.1) hr) r.1 (of_decide_eq_true hq) rfl
  have hV : empV (empW emps) rows = some emps := by
    unfold empV
    rw [split_emp D]
    simp only
    rw [set_w D.e D.ae, ha]
    have : decide (emps.length = 0) = false := by cases emps with
      | nil => exact absurd rfl h
      | cons a l => rfl
    rw [this]
    simp
  unfold step
  dsimp only
  rw [hE, hV]
  rfl
theorem read_rows (D : Dw rows emps) (tail : List Str) : ∀ (qs done : List (Str × List Str)) (k : Nat), rows = done ++ qs → readL k (qs.map rowW ++ tail) (done, []) = readL (k + qs.length) tail (rows, [])
  | [], done, k, e => by
    rw [List.append_nil] at e
    rw [e]
    rfl
  | r :: qs, done, k, e => by
    show (match step (rowW r) (done, []) with
      | none => (Sum.inl k : Nat ⊕ St)
      | some st' => readL (k + 1) (qs.map rowW ++ tail) st') = _
    rw [step_row D e]
    have := read_rows D tail qs (done ++ [r]) (k + 1) (by rw [e, List.append_assoc]; rfl)
    rw [List.length_cons]
    dsimp only
    rw [this]
    congr 1
    omega
theorem read_sheet (D : Dw rows emps) : readT (sheetW rows emps) = .inr (rows, emps) := by
  unfold readT
  rw [split_sheet D]
  unfold linesW
  rw [read_rows D _ rows [] 0 rfl]
  by_cases h : emps = []
  · rw [if_pos h, h]
    rfl
  · rw [if_neg h]
    show (match step (empW emps) (rows, []) with
      | none => (Sum.inl (0 + rows.length) : Nat ⊕ St)
      | some st' => readL (0 + rows.length + 1) [] st') = _
    rw [emp_read D h]
    rfl
end
end K14
set_option maxHeartbeats 4000000
namespace K14
open PySem PySem.Spec PyProof.Rows L2 Sm Hn
theorem of_d {S : Sto} {n m : Nat} {o : Bo} {ts : List Dt} (hS : S[n]? = some o) (u : Urn o (m + 1)) (h0 : 0 < ts.length) (h1 : ts.length < 1000000) : ∃ (t : Dt) (o' : Bo), Hd.F__law_of [.loc n, .d (.lst ts)] S = .ok (.d t) (S.set n o') ∧ t ∈ ts ∧ Urn o' m := by
  obtain ⟨r, o', e, r0, r1, u'⟩ := take_ok (S := [o]) (n := 0) (m := m) (low := (ts.length : Int)) rfl u (by omega) (by omega)
  have e' : F__law_take [.loc 0, .d (.int (ts.length : Int))] [o] = .ok (.d (.int r)) [o'] := e
  obtain ⟨j, rfl⟩ : ∃ j : Nat, r = (j : Int) := ⟨r.toNat, by omega⟩
  have hl : j < ts.length := by omega
  refine ⟨ts[j], o', view_ok (ts := [.lst ts]) (rest := []) hS u.pure ?_ u'.pure, List.getElem_mem _, u'⟩
  refine runB_rt (ds := [.loc 0, .d (.lst ts)]) rfl ?_
  show Hd.b__law_of [some (.loc 0), some (.d (.lst ts))] [o] = _
  unfold Hd.b__law_of
  have i1 : ∀ S, pIx (.d (.lst ts)) (.d (.int (j : Int))) S = some (.d ts[j], S) := fun S => by
    exact ix_lst (List.getElem?_eq_getElem hl)
  simp only [sSeq_s, sSet_s, sRet_s, sDrop_s, sIf_s, sFor_s, sPars_s, sNil_s, sqz_nx, sqz_rt, m1_s, m2_s, mN_s, mF_s, mV_s, mC_s, aCons_s, aNil_s, aApp_s, mIf_s, mTst_s, toB_s, mTru_s, cAnd_s, cOr_s, cNot_s, cYes_s, mAnd_s, mSl_s, oPt_s, oNo_s, mFrz_s, gN_s, gT_s, List.getElem?_cons_zero, List.getElem?_cons_succ, bind_ok, to_ok, Sm.lift_some, li_some, oz_some, bz_some, nox_ok, List.set_cons_zero, List.set_cons_succ, wipe0, wipe1, setA0, setA1, q_len, e', i1]
theorem cl_cutS (z : Str) (lo hi : Option Int) : Tq.cl (cutS z lo hi) = cutL (Tq.cl z) lo hi := by
  unfold cutL
  rw [Tq.cl_len]
  rfl
theorem ok_cl {s : Str} : PyData.strOk s = true ↔ ∀ c ∈ Tq.cl s, c < 1114112 := by
  unfold PyData.strOk
  rw [Array.all_eq_true']
  exact ⟨fun h c hc => of_decide_eq_true (h c (Array.mem_toList_iff.mp hc)), fun h c hc => decide_eq_true (h c (Array.mem_toList_iff.mpr hc))⟩
structure Bk (n : Nat) (x : Str) : Prop where
  ok : PyData.strOk x = true
  z : x.length ≤ n
theorem bk_cut {n : Nat} {x : Str} (h : Bk n x) (lo hi : Option Int) : PyData.strOk (cutS x lo hi) = true := by
  rw [ok_cl, cl_cutS]
  intro c hc
  exact ok_cl.mp h.ok c (cut_sub.subset hc)
def SGN : List Str := " " :: "\n" :: ":" :: "+" :: ">" :: ";" :: "-" :: "a" :: "n" :: "z" :: "A" :: "0" :: "," :: []
def GAP : List Str := " " :: "\n" :: ">" :: "; " :: []
theorem sgn_ok : ∀ x ∈ SGN, PyData.strOk x = true ∧ x.length = 1 := by decide +kernel
theorem gap_ok : ∀ x ∈ GAP, PyData.strOk x = true ∧ 1 ≤ x.length ∧ x.length ≤ 2 := by decide +kernel
section
variable {x : Str} {o : Bo}
abbrev eB (x : Str) (a b c d e f : Option Dv) : Sm.Env := [some (.loc 0), some (.d (.str x)), a, b, c, d, e, f]
theorem sl_b (hz : x.length ≤ 16777216) (lo hi : Option Int) (S : Sto) : pSl lo hi (.d (.str x)) S = some (.d (.str (cutS x lo hi)), S) := by
  show (if x.length ≤ 16777216 then some (Dv.d (.str (cutS x lo hi)), S) else none) = _
  rw [if_pos hz]
theorem len_to (x : Str) (k : Nat) : (cutS x none (some (k : Int))).length = min k x.length := by
  rw [← Tq.cl_len, cl_cutS, cut_to, List.length_take, Tq.cl_len]
theorem len_from (x : Str) (k : Nat) : (cutS x (some (k : Int)) none).length = x.length - k := by
  rw [← Tq.cl_len, cl_cutS, cut_from, List.length_drop, Tq.cl_len]
theorem len_mid (x : Str) (k : Nat) : (cutS x (some (k : Int)) (some ((k : Int) + 1))).length ≤ 1 := by
  rw [← Tq.cl_len, cl_cutS]
  unfold cutL
  rw [List.length_take]
  have h1 : HT.sIx (Tq.cl x).length 0 (some (k : Int)) = min k (Tq.cl x).length := HT.sIx_nat _ _ k
  have h2 : HT.sIx (Tq.cl x).length (Tq.cl x).length (some ((k : Int) + 1)) = min (k + 1) (Tq.cl x).length := HT.sIx_nat _ _ (k + 1)
  rw [h1, h2]
  omega
theorem bk_app {a b : Str} {n : Nat} (h1 : PyData.strOk a = true) (h2 : PyData.strOk b = true) (h : a.length + b.length ≤ n) : Bk n (a ++ b) := ⟨app_ok h1 h2, by rw [len_app]; exact h⟩
theorem bk_join {n : Nat} {gap : Str} {l m : List Str} (hg : PyData.strOk gap = true) (hl : ∀ y ∈ l, PyData.strOk y = true) (hm : ∀ y ∈ m, y ∈ l) (hs : (m.map (·.length)).sum + m.length * gap.length ≤ n) : Bk n (Txt.join gap m) := ⟨Tq.join_ok hg fun y hy => hl y (hm y hy), Nat.le_trans (Tq.join_len gap m) hs⟩
theorem sum_perm {l m : List Str} (h : l.Perm m) : (l.map (·.length)).sum = (m.map (·.length)).sum := (h.map _).sum_nat
theorem sum_sub : ∀ {l m : List Str}, l.Sublist m → (l.map (·.length)).sum ≤ (m.map (·.length)).sum
  | _, _, .slnil => Nat.le_refl _
  | _, _, .cons a h => by
    rw [List.map_cons, List.sum_cons]
    exact Nat.le_trans (sum_sub h) (Nat.le_add_left _ _)
  | _, _, .cons₂ a h => by
    rw [List.map_cons, List.map_cons, List.sum_cons, List.sum_cons]
    exact Nat.add_le_add_left (sum_sub h) _
theorem bent_ok {S : Sto} {n m : Nat} {L : Nat} (hS : S[n]? = some o) (u : Urn o (8 + m)) (hx : Bk L x) (hL : L ≤ 900) : ∃ (y : Str) (o' : Bo), F__law_bent_text [.loc n, .d (.str x)] S = .ok (.d (.str y)) (S.set n o') ∧ Bk (L + 2) y ∧ Urn o' m := by
  have xz := hx.z
  obtain ⟨sort, o1, e1, q0, q1, u1⟩ := take_ok (S := [o]) (n := 0) (m := 7 + m) (low := 7) rfl (u.less (by omega)) (by omega) (by omega)
  obtain ⟨r, o2, e2, r0, r1, u2⟩ := take_ok (S := [o1]) (n := 0) (m := 6 + m) (low := (x.length : Int) + 1) rfl (u1.less (by omega)) (by omega) (by omega)
  obtain ⟨k, rfl⟩ : ∃ k : Nat, r = (k : Int) := ⟨r.toNat, by omega⟩
  have kl : k ≤ x.length := by omega
  let A : Option Dv := some (.d (.int sort))
  let K : Option Dv := some (.d (.int (k : Int)))
  let G : Option Dv := some (.d (lstS SGN))
  have xl : pLen [.d (.str x)] [o1] = some (.d (.int (x.length : Int)), [o1]) := len_x (by omega) _
  have s0 : sPars [2, 3] (aCons (mF F__law_take (aCons (mV 0) (aCons (mC (.int 7)) (aNil)))) (aCons (mF F__law_take (aCons (mV 0) (aCons (m2 pAdd (mN pLen (aCons (mV 1) (aNil))) (mC (.int 1))) (aNil)))) (aNil))) (eB x none none none none none none) [o] = .nx (eB x A K none none none none) [o2] := by
    refine st_pars (ds := [.d (.int sort), .d (.int (k : Int))]) (S1 := [o2]) ?_ rfl
    rw [aCons_s, ex_mF (ds := [.loc 0, .d (.int 7)]) (S1 := [o]) rfl e1, bind_ok]
    have a : m2 pAdd (mN pLen (aCons (mV 1) (aNil))) (mC (.int 1)) (eB x none none none none none none) [o1] = .ok (.d (.int ((x.length : Int) + 1))) [o1] := ex_m2 (d := .d (.int (x.length : Int))) (e := .d (.int 1)) (ex_mN (ex_a1 (d := .d (.str x)) rfl) xl) rfl rfl
    have b : mF F__law_take (aCons (mV 0) (aCons (m2 pAdd (mN pLen (aCons (mV 1) (aNil))) (mC (.int 1))) (aNil))) (eB x none none none none none none) ([o].set 0 o1) = .ok (.d (.int (k : Int))) [o2] := ex_mF (ds := [.loc 0, .d (.int ((x.length : Int) + 1))]) (S1 := [o1]) (by
      show aCons (mV 0) (aCons (m2 pAdd (mN pLen (aCons (mV 1) (aNil))) (mC (.int 1))) (aNil)) (eB x none none none none none none) [o1] = _
      rw [aCons_s, show mV 0 (eB x none none none none none none) [o1] = .ok (.loc 0) [o1] from rfl, bind_ok, ex_a1 a, bind_ok]) e2
    rw [ex_a1 b, bind_ok]
  let E := eB x A K G none none none
  have s1 : sSet 4 (mN pLst (aCons (mC (.str (" " : Str))) (aCons (mC (.str ("\n" : Str))) (aCons (mC (.str (":" : Str))) (aCons (mC (.str ("+" : Str))) (aCons (mC (.str (">" : Str))) (aCons (mC (.str (";" : Str))) (aCons (mC (.str ("-" : Str))) (aCons (mC (.str ("a" : Str))) (aCons (mC (.str ("n" : Str))) (aCons (mC (.str ("z" : Str))) (aCons (mC (.str ("A" : Str))) (aCons (mC (.str ("0" : Str))) (aCons (mC (.str ("," : Str))) (aNil))))))))))))))) (eB x A K none none none none) [o2] = .nx E [o2] := rfl
  have goal : ∀ (y : Str) (oz : Bo), b__law_bent_text (eB x none none none none none none) [o] = .rt (.d (.str y)) [oz] → Urn oz m → F__law_bent_text [.loc n, .d (.str x)] S = .ok (.d (.str y)) (S.set n oz) := fun y oz hb uz => view_ok (ts := [.str x]) (rest := []) hS u.pure (runB_rt (ds := [.loc 0, .d (.str x)]) rfl hb) uz.pure
  -- slices of x
  have cto : ∀ T, mSl pSl (mV 1) (oNo) (oPt (mV 3)) E T = .ok (.d (.str (cutS x none (some (k : Int))))) T := fun T => by
    rw [mSl_s, show mV 1 E T = .ok (.d (.str x)) T from rfl, bind_ok]
    show Sm.lift (pSl none (some (k : Int)) (.d (.str x)) T) = _
    rw [sl_b (by omega)]
    rfl
  have cfr : ∀ T, mSl pSl (mV 1) (oPt (mV 3)) (oNo) E T = .ok (.d (.str (cutS x (some (k : Int)) none))) T := fun T => by
    rw [mSl_s, show mV 1 E T = .ok (.d (.str x)) T from rfl, bind_ok]
    show Sm.lift (pSl (some (k : Int)) none (.d (.str x)) T) = _
    rw [sl_b (by omega)]
    rfl
  have cfr1 : ∀ T, mSl pSl (mV 1) (oPt (m2 pAdd (mV 3) (mC (.int 1)))) (oNo) E T = .ok (.d (.str (cutS x (some (((k + 1 : Nat)) : Int)) none))) T := fun T => by
    rw [mSl_s, show mV 1 E T = .ok (.d (.str x)) T from rfl, bind_ok]
    show Sm.lift (pSl (some ((k : Int) + 1)) none (.d (.str x)) T) = _
    rw [sl_b (by omega)]
    rfl
  have cmd : ∀ T, mSl pSl (mV 1) (oPt (mV 3)) (oPt (m2 pAdd (mV 3) (mC (.int 1)))) E T = .ok (.d (.str (cutS x (some (k : Int)) (some ((k : Int) + 1))))) T := fun T => by
    rw [mSl_s, show mV 1 E T = .ok (.d (.str x)) T from rfl, bind_ok]
    show Sm.lift (pSl (some (k : Int)) (some ((k : Int) + 1)) (.d (.str x)) T) = _
    rw [sl_b (by omega)]
    rfl
  have l1 := len_to x k
  have l2 := len_from x k
  have l3 := len_from x (k + 1)
  have l4 := len_mid x k
  have k1 := bk_cut hx none (some (k : Int))
  have k2 := bk_cut hx (some (k : Int)) none
  have k3 := bk_cut hx (some (((k + 1 : Nat)) : Int)) none
  have k4 := bk_cut hx (some (k : Int)) (some ((k : Int) + 1))
  obtain ⟨t, o3, e3, ht, u3⟩ := of_d (S := [o2]) (n := 0) (m := 5 + m) (ts := SGN.map .str) rfl (u2.less (by omega)) (by decide) (by decide)
  obtain ⟨g, hg, rfl⟩ := List.mem_map.mp ht
  obtain ⟨g1, g2⟩ := sgn_ok g hg
  have dr : mF Hd.F__law_of (aCons (mV 0) (aCons (mV 4) (aNil))) E [o2] = .ok (.d (.str g)) [o3] := ex_mF (ds := [.loc 0, .d (lstS SGN)]) (S1 := [o2]) rfl e3
  have c0 : mTst (m2 pLt (mV 2) (mC (.int 2))) E [o2] = .ok (decide (sort < 2)) [o2] := x_tst (ex_m2 (d := .d (.int sort)) (e := .d (.int 2)) rfl rfl lt_i)
  have c2 : ∀ j : Int, mTst (m2 pEq (mV 2) (mC (.int j))) E [o2] = .ok (decide (sort = j)) [o2] := fun j => x_tst (ex_m2 (d := .d (.int sort)) (e := .d (.int j)) rfl rfl eq_i)
  by_cases h2 : sort < 2
  · rw [decide_eq_true h2] at c0
    refine ⟨_, o3, goal (cutS x none (some (k : Int)) ++ g ++ cutS x (some (k : Int)) none) o3 ?_ (u3.less (by omega)), bk_app (app_ok k1 g1) k2 (by rw [len_app]; omega), u3.less (by omega)⟩
    unfold b__law_bent_text
    rw [sSeq_s, s0, sqz_nx, sSeq_s, s1, sqz_nx, sSeq_s, st_if_t (b := sNil) c0 (st_ret (ex_m2 (ex_m2 (cto _) dr (app_s (by omega) _)) (cfr _) (app_s (by rw [len_app]; omega) _)))]
    rfl
  rw [decide_eq_false h2] at c0
  by_cases h3 : sort = 2
  · have c := c2 2
    rw [decide_eq_true h3] at c
    refine ⟨_, o2, goal (cutS x none (some (k : Int)) ++ cutS x (some (((k + 1 : Nat)) : Int)) none) o2 ?_ (u2.less (by omega)), bk_app k1 k3 (by omega), u2.less (by omega)⟩
    unfold b__law_bent_text
    rw [sSeq_s, s0, sqz_nx, sSeq_s, s1, sqz_nx, sSeq_s, st_if_f (b := sNil) (r := .nx E [o2]) c0 rfl, sqz_nx, sSeq_s, st_if_t (b := sNil) c (st_ret (ex_m2 (cto _) (cfr1 _) (app_s (by omega) _)))]
    rfl
  have d2 := c2 2
  rw [decide_eq_false h3] at d2
  by_cases h4 : sort = 3
  · have c := c2 3
    rw [decide_eq_true h4] at c
    refine ⟨_, o2, goal (cutS x none (some (k : Int)) ++ cutS x (some (k : Int)) (some ((k : Int) + 1)) ++ cutS x (some (k : Int)) none) o2 ?_ (u2.less (by omega)), bk_app (app_ok k1 k4) k2 (by rw [len_app]; omega), u2.less (by omega)⟩
    unfold b__law_bent_text
    rw [sSeq_s, s0, sqz_nx, sSeq_s, s1, sqz_nx, sSeq_s, st_if_f (b := sNil) (r := .nx E [o2]) c0 rfl, sqz_nx, sSeq_s, st_if_f (b := sNil) (r := .nx E [o2]) d2 rfl, sqz_nx, sSeq_s, st_if_t (b := sNil) c (st_ret (ex_m2 (ex_m2 (cto _) (cmd _) (app_s (by omega) _)) (cfr _) (app_s (by rw [len_app]; omega) _)))]
    rfl
  have d3 := c2 3
  rw [decide_eq_false h4] at d3
  by_cases h5 : sort = 4
  · have c := c2 4
    rw [decide_eq_true h5] at c
    refine ⟨_, o3, goal (cutS x none (some (k : Int)) ++ g ++ cutS x (some (((k + 1 : Nat)) : Int)) none) o3 ?_ (u3.less (by omega)), bk_app (app_ok k1 g1) k3 (by rw [len_app]; omega), u3.less (by omega)⟩
    unfold b__law_bent_text
    rw [sSeq_s, s0, sqz_nx, sSeq_s, s1, sqz_nx, sSeq_s, st_if_f (b := sNil) (r := .nx E [o2]) c0 rfl, sqz_nx, sSeq_s, st_if_f (b := sNil) (r := .nx E [o2]) d2 rfl, sqz_nx, sSeq_s, st_if_f (b := sNil) (r := .nx E [o2]) d3 rfl, sqz_nx, sSeq_s, st_if_t (b := sNil) c (st_ret (ex_m2 (ex_m2 (cto _) dr (app_s (by omega) _)) (cfr1 _) (app_s (by rw [len_app]; omega) _)))]
    rfl
  have d4 := c2 4
  rw [decide_eq_false h5] at d4
  obtain ⟨t', p3, f3, ht', v3⟩ := of_d (S := [o2]) (n := 0) (m := 5 + m) (ts := GAP.map .str) rfl (u2.less (by omega)) (by decide) (by decide)
  obtain ⟨w, hw, rfl⟩ := List.mem_map.mp ht'
  obtain ⟨w1, w2, w3⟩ := gap_ok w hw
  obtain ⟨b1, b2, b3⟩ := Tq.split_ok (s := x) (sub := w) w2 hx.ok
  let L0 := Txt.split x w
  have b4 : L0.length ≤ 902 := by
    have : L0.length * 1 ≤ L0.length * w.length := Nat.mul_le_mul_left _ w2
    have h1 : (L0.map (·.length)).sum + L0.length * w.length ≤ x.length + w.length := b2
    omega
  have b3' : 1 ≤ L0.length := b3
  obtain ⟨r', p4, f4, r0', r1', v4⟩ := take_ok (S := [p3]) (n := 0) (m := 4 + m) (low := (L0.length : Int)) rfl (v3.less (by omega)) (by omega) (by omega)
  obtain ⟨j, rfl⟩ : ∃ j : Nat, r' = (j : Int) := ⟨r'.toNat, by omega⟩
  have jl : j < L0.length := by omega
  let W : Option Dv := some (.d (.str w))
  let Bt : Option Dv := some (.d (lstS L0))
  let J : Option Dv := some (.d (.int (j : Int)))
  have t6 : (sSet 5 (mF Hd.F__law_of (aCons (mV 0) (aCons (mN pLst (aCons (mC (.str (" " : Str))) (aCons (mC (.str ("\n" : Str))) (aCons (mC (.str (">" : Str))) (aCons (mC (.str ("; " : Str))) (aNil)))))) (aNil))))) E [o2] = .nx (eB x A K G W none none) [p3] := st_set (ex_mF (ds := [.loc 0, .d (lstS GAP)]) (S1 := [o2]) rfl f3)
  have t7 : (sSet 6 (mSplit (mV 1) (mV 5))) (eB x A K G W none none) [p3] = .nx (eB x A K G W Bt none) [p3] := st_set (by
    unfold mSplit
    rw [show mV 1 (eB x A K G W none none) [p3] = .ok (.d (.str x)) [p3] from rfl, bind_ok]
    show (mV 5 (eB x A K G W none none) [p3]).bind _ = _
    rw [show mV 5 (eB x A K G W none none) [p3] = .ok (.d (.str w)) [p3] from rfl, bind_ok]
    show (if (w.length == 0) = false ∧ x.length + 2 ≤ sizeLine then _ else _) = _
    rw [if_pos ⟨by rw [beq_eq_false_iff_ne]; omega, by rw [sizeLine_eq]; omega⟩])
  have lb0 : pLen [.d (lstS L0)] [p3] = some (.d (.int (L0.length : Int)), [p3]) := by simp [pLen, dctAt, seqAt, lstAt]
  have t8 : (sSet 3 (mF F__law_take (aCons (mV 0) (aCons (mN pLen (aCons (mV 6) (aNil))) (aNil))))) (eB x A K G W Bt none) [p3] = .nx (eB x A J G W Bt none) [p4] := st_set (ex_mF (ds := [.loc 0, .d (.int (L0.length : Int))]) (S1 := [p3]) (by
    rw [aCons_s, show mV 0 (eB x A K G W Bt none) [p3] = .ok (.loc 0) [p3] from rfl, bind_ok, ex_a1 (ex_mN (ex_a1 (d := .d (lstS L0)) rfl) lb0), bind_ok]) f4)
  let E8 := eB x A J G W Bt none
  let T := [p4]
  have lto : ∀ z, mSl pSl (mV 6) (oNo) (oPt (mV 3)) (eB x A J G W Bt z) T = .ok (.d (lstS (L0.take j))) T := fun z => by
    rw [mSl_s, show mV 6 (eB x A J G W Bt z) T = .ok (.d (lstS L0)) T from rfl, bind_ok]
    show Sm.lift (pSl none (some (j : Int)) (.d (lstS L0)) T) = _
    rw [sl_l, cut_map, cut_to]
    rfl
  have lfr : ∀ z (i : Nat), mSl pSl (mV 6) (oPt (m2 pAdd (mV 3) (mC (.int (i : Int))))) (oNo) (eB x A J G W Bt z) T = .ok (.d (lstS (L0.drop (j + i)))) T := fun z i => by
    rw [mSl_s, show mV 6 (eB x A J G W Bt z) T = .ok (.d (lstS L0)) T from rfl, bind_ok]
    show Sm.lift (pSl (some (((j + i : Nat)) : Int)) none (.d (lstS L0)) T) = _
    rw [sl_l, cut_map, cut_from]
    rfl
  have lfr1 : mSl pSl (mV 6) (oPt (m2 pAdd (mV 3) (mC (.int 1)))) (oNo) E8 T = .ok (.d (lstS (L0.drop (j + 1)))) T := lfr none 1
  have lfr2 : ∀ z, mSl pSl (mV 6) (oPt (m2 pAdd (mV 3) (mC (.int 2)))) (oNo) (eB x A J G W Bt z) T = .ok (.d (lstS (L0.drop (j + 2)))) T := fun z => lfr z 2
  have e5 : mTst (m2 pEq (mV 2) (mC (.int 5))) E8 T = .ok (decide (sort = 5)) T := x_tst (ex_m2 (d := .d (.int sort)) (e := .d (.int 5)) rfl rfl eq_i)
  by_cases h6 : sort = 5
  · rw [decide_eq_true h6] at e5
    let M0 := L0.take j ++ L0.drop (j + 1)
    have hM : M0.Sublist L0 := by
      have : L0.take j ++ L0.drop j = L0 := List.take_append_drop j L0
      have h7 : (L0.drop (j + 1)).Sublist (L0.drop j) := List.drop_sublist_drop_left L0 (Nat.le_succ j)
      have := List.Sublist.append (List.Sublist.refl (L0.take j)) h7
      rw [List.take_append_drop] at this
      exact this
    have hMl : M0.length + 1 = L0.length := by
      show (L0.take j ++ L0.drop (j + 1)).length + 1 = _
      rw [List.length_append, List.length_take, List.length_drop]
      omega
    have hMs := sum_sub hM
    have hb : (M0.map (·.length)).sum + M0.length * w.length ≤ L + 2 := by
      have : L0.length * w.length = M0.length * w.length + w.length := by rw [← hMl, Nat.add_mul, Nat.one_mul]
      have h1 : (L0.map (·.length)).sum + L0.length * w.length ≤ x.length + w.length := b2
      omega
    refine ⟨_, p4, goal (Txt.join w M0) p4 ?_ (v4.less (by omega)), bk_join w1 b1 (fun y hy => hM.subset hy) hb, v4.less (by omega)⟩
    have ap := ex_m2 (p := pAdd) (lto none) lfr1 (add_l (S := T) (by rw [List.length_map, List.length_map, List.length_take, List.length_drop]; omega))
    rw [← List.map_append] at ap
    have jo := jo_ok (mo := mV 5) (a := w) (ρ := E8) (S := T) rfl ap (seq_l M0 T) (by omega)
    unfold b__law_bent_text
    rw [sSeq_s, s0, sqz_nx, sSeq_s, s1, sqz_nx, sSeq_s, st_if_f (b := sNil) (r := .nx E [o2]) c0 rfl, sqz_nx, sSeq_s, st_if_f (b := sNil) (r := .nx E [o2]) d2 rfl, sqz_nx, sSeq_s, st_if_f (b := sNil) (r := .nx E [o2]) d3 rfl, sqz_nx, sSeq_s, st_if_f (b := sNil) (r := .nx E [o2]) d4 rfl, sqz_nx, sSeq_s, t6, sqz_nx, sSeq_s, t7, sqz_nx, sSeq_s, t8, sqz_nx, sSeq_s, st_if_t (b := sNil) e5 (st_ret jo)]
    rfl
  · rw [decide_eq_false h6] at e5
    let B0 := ((L0.drop j).take 2).reverse
    let Cz : Option Dv := some (.d (lstS B0))
    have lmd : mSl pSl (mV 6) (oPt (mV 3)) (oPt (m2 pAdd (mV 3) (mC (.int 2)))) E8 T = .ok (.d (lstS ((L0.drop j).take 2))) T := by
      rw [mSl_s, show mV 6 E8 T = .ok (.d (lstS L0)) T from rfl, bind_ok]
      show Sm.lift (pSl (some (j : Int)) (some ((j : Int) + 2)) (.d (lstS L0)) T) = _
      rw [sl_l, cut_map]
      have : cutL L0 (some (j : Int)) (some ((j : Int) + 2)) = (L0.drop j).take 2 := by
        unfold cutL
        have a1 : HT.sIx L0.length 0 (some (j : Int)) = min j L0.length := HT.sIx_nat _ _ j
        have a2 : HT.sIx L0.length L0.length (some ((j : Int) + 2)) = min (j + 2) L0.length := HT.sIx_nat _ _ (j + 2)
        rw [a1, a2, Nat.min_eq_left (show j ≤ L0.length by omega)]
        by_cases hq : j + 2 ≤ L0.length
        · rw [Nat.min_eq_left hq, Nat.add_sub_cancel_left]
        · rw [Nat.min_eq_right (show L0.length ≤ j + 2 by omega), List.take_of_length_le (by rw [List.length_drop]; exact Nat.le_refl _), List.take_of_length_le (by rw [List.length_drop]; omega)]
      rw [this]
      rfl
    have t10 : (sSet 7 (m1 pRevL (mSl pSl (mV 6) (oPt (mV 3)) (oPt (m2 pAdd (mV 3) (mC (.int 2))))))) E8 T = .nx (eB x A J G W Bt Cz) T := st_set (by
      refine x_m1 lmd ?_
      have hl : lstT T (.d (lstS ((L0.drop j).take 2))) = some (((L0.drop j).take 2).map Dt.str) := by
        show (some ((((L0.drop j).take 2).map Dt.str).map Dv.d)).bind pures = _
        rw [Option.bind_some, pures_d]
      unfold pRevL
      simp only [hl]
      rw [← List.map_reverse])
    have dd : (L0.drop j).take 2 ++ L0.drop (j + 2) = L0.drop j := by
      rw [← List.drop_drop, List.take_append_drop]
    let M0 := L0.take j ++ B0 ++ L0.drop (j + 2)
    have hp : M0.Perm L0 := by
      have h1 : (B0 ++ L0.drop (j + 2)).Perm (L0.drop j) := by
        have := (List.reverse_perm ((L0.drop j).take 2)).append_right (L0.drop (j + 2))
        rw [dd] at this
        exact this
      have h2 := h1.append_left (L0.take j)
      rw [List.take_append_drop] at h2
      show (L0.take j ++ B0 ++ L0.drop (j + 2)).Perm L0
      rw [List.append_assoc]
      exact h2
    have hMl := hp.length_eq
    have hMs := sum_perm hp
    have hb : (M0.map (·.length)).sum + M0.length * w.length ≤ L + 2 := by
      rw [hMs, hMl]
      have h1 : (L0.map (·.length)).sum + L0.length * w.length ≤ x.length + w.length := b2
      omega
    refine ⟨_, p4, goal (Txt.join w M0) p4 ?_ (v4.less (by omega)), bk_join w1 b1 (fun y hy => hp.mem_iff.mp hy) hb, v4.less (by omega)⟩
    have hBl : B0.length ≤ 2 := by
      show ((L0.drop j).take 2).reverse.length ≤ 2
      rw [List.length_reverse, List.length_take]
      omega
    have ap1 := ex_m2 (p := pAdd) (lto Cz) (y := mV 7) (e := .d (lstS B0)) rfl (add_l (S := T) (by rw [List.length_map, List.length_map, List.length_take]; omega))
    rw [← List.map_append] at ap1
    have ap2 := ex_m2 (p := pAdd) ap1 (lfr2 Cz) (add_l (S := T) (by rw [List.length_map, List.length_map, List.length_append, List.length_take, List.length_drop]; omega))
    rw [← List.map_append] at ap2
    have jo := jo_ok (mo := mV 5) (a := w) (ρ := eB x A J G W Bt Cz) (S := T) rfl ap2 (seq_l M0 T) (by omega)
    unfold b__law_bent_text
    rw [sSeq_s, s0, sqz_nx, sSeq_s, s1, sqz_nx, sSeq_s, st_if_f (b := sNil) (r := .nx E [o2]) c0 rfl, sqz_nx, sSeq_s, st_if_f (b := sNil) (r := .nx E [o2]) d2 rfl, sqz_nx, sSeq_s, st_if_f (b := sNil) (r := .nx E [o2]) d3 rfl, sqz_nx, sSeq_s, st_if_f (b := sNil) (r := .nx E [o2]) d4 rfl, sqz_nx, sSeq_s, t6, sqz_nx, sSeq_s, t7, sqz_nx, sSeq_s, t8, sqz_nx, sSeq_s, st_if_f (b := sNil) (r := .nx E8 T) e5 rfl, sqz_nx, sSeq_s, t10, sqz_nx]
    exact st_ret jo
end
end K14
set_option maxHeartbeats 0
namespace K14
open PySem PySem.Spec PyProof.Rows L2 Sm Hn
theorem hand_ok (S : Sto) : F__law_by_hand_right [] S = .ok (.d (.bl true)) S := hand_of (F := R__law_by_hand_right) (by decide +kernel) S
end K14
set_option maxHeartbeats 2000000
namespace K14
open PySem PySem.Spec PyProof.Rows L2 Sm Hn
section
variable {rows : List (Str × List Str)} {emps : List Str} {o : Bo}
abbrev eU (z1 z2 : Option Dv) (goal : Str) (z4 z5 z6 : Option Dv) : Sm.Env := [some (.loc 0), z1, z2, some (.d (.str goal)), z4, z5, z6]
theorem lap_ok {goal : Str} (hg : Bk 838 goal) {k : Nat} {z1 z2 z4 z6 : Option Dv} {m : Nat} (u : Urn o (16 + m)) : ∃ y6 o', Urn o' m ∧ l1__law_right (eU z1 z2 goal z4 (some (.d (.int (k : Int)))) z6) [o] = .nx (eU z1 z2 goal z4 (some (.d (.int (k : Int)))) y6) [o'] := by
  let K : Option Dv := some (.d (.int (k : Int)))
  obtain ⟨x, o1, e1, hx, u1⟩ := bent_ok (S := [o]) (n := 0) (m := 8 + m) rfl (u.less (by omega)) hg (by omega)
  obtain ⟨y, o2, e2, hy, u2⟩ := bent_ok (S := [o1]) (n := 0) (m := m) rfl (u1.less (by omega)) hx (by omega)
  have s0 : sSet 6 (mF F__law_bent_text (aCons (mV 0) (aCons (mV 3) (aNil)))) (eU z1 z2 goal z4 K z6) [o] = .nx (eU z1 z2 goal z4 K (some (.d (.str x)))) [o1] := st_set (ex_mF (ds := [.loc 0, .d (.str goal)]) (S1 := [o]) rfl e1)
  have gt : mTst (m2 pGt (mV 5) (mC (.int 5))) (eU z1 z2 goal z4 K (some (.d (.str x)))) [o1] = .ok (decide (5 < (k : Int))) [o1] := rfl
  obtain ⟨w, o', hw, u', e3⟩ : ∃ (w : Str) (o' : Bo), Bk 842 w ∧ Urn o' m ∧ mIf (mTst (m2 pGt (mV 5) (mC (.int 5)))) (mF F__law_bent_text (aCons (mV 0) (aCons (mV 6) (aNil)))) (mV 6) (eU z1 z2 goal z4 K (some (.d (.str x)))) [o1] = .ok (.d (.str w)) [o'] := by
    by_cases h : 5 < (k : Int)
    · refine ⟨y, o2, hy, u2, ?_⟩
      rw [mIf_s, gt, bind_ok, decide_eq_true h, if_pos rfl]
      exact ex_mF (ds := [.loc 0, .d (.str x)]) (S1 := [o1]) rfl e2
    · refine ⟨x, o1, ⟨hx.ok, by have := hx.z; omega⟩, u1.less (by omega), ?_⟩
      rw [mIf_s, gt, bind_ok, decide_eq_false h]
      rfl
  have s1 : sSet 6 (mIf (mTst (m2 pGt (mV 5) (mC (.int 5)))) (mF F__law_bent_text (aCons (mV 0) (aCons (mV 6) (aNil)))) (mV 6)) (eU z1 z2 goal z4 K (some (.d (.str x)))) [o1] = .nx (eU z1 z2 goal z4 K (some (.d (.str w)))) [o'] := st_set e3
  have lk : Lk w := ⟨hw.ok, by have := hw.z; omega⟩
  obtain ⟨r1, r2⟩ := lread_ok lk [o']
  have h1 : mF F__law_heard (aCons (mV 6) (aNil)) (eU z1 z2 goal z4 K (some (.d (.str w)))) [o'] = .ok (.d (resD (readT w))) [o'] := ex_mF (ds := [.d (.str w)]) (S1 := [o']) rfl (heard_ok lk _)
  have h2 : mF F__law_read (aCons (mV 6) (aNil)) (eU z1 z2 goal z4 K (some (.d (.str w)))) [o'] = .ok (.d (resD (readT w))) [o'] := ex_mF (ds := [.d (.str w)]) (S1 := [o']) rfl r1
  have sm : mF (F__law_same 8) (aCons (mF F__law_heard (aCons (mV 6) (aNil))) (aCons (mF F__law_read (aCons (mV 6) (aNil))) (aNil))) (eU z1 z2 goal z4 K (some (.d (.str w)))) [o'] = .ok (.d (.bl true)) [o'] := ex_mF (ds := [.d (resD (readT w)), .d (resD (readT w))]) (S1 := [o']) (by
    rw [aCons_s, h1, bind_ok, ex_a1 h2, bind_ok]) (same_ty 7 _ _ r2)
  refine ⟨some (.d (.str w)), o', u', ?_⟩
  unfold l1__law_right
  rw [sSeq_s, s0, sqz_nx, sSeq_s, s1, sqz_nx]
  exact st_if_f (S1 := [o']) (x_not (x_tru sm)) rfl
theorem laps {goal : Str} (hg : Bk 838 goal) {z1 z2 z4 : Option Dv} {m : Nat} : ∀ (ks : List Nat) (o : Bo) (z5 z6 : Option Dv), Urn o (16 * ks.length + m) → ∃ y5 y6 o', Urn o' m ∧ forL (gN 5) l1__law_right (ks.map fun k : Nat => Dt.int (k : Int)) (eU z1 z2 goal z4 z5 z6) [o] = .nx (eU z1 z2 goal z4 y5 y6) [o']
  | [], o, z5, z6, u => ⟨z5, z6, o, u.less (by omega), rfl⟩
  | k :: ks, o, z5, z6, u => by
    rw [List.length_cons] at u
    obtain ⟨w6, o1, u1, e1⟩ := lap_ok (o := o) hg (k := k) (z1 := z1) (z2 := z2) (z4 := z4) (z6 := z6) (m := 16 * ks.length + m) (u.less (by omega))
    obtain ⟨y5, y6, o', u', ih⟩ := laps hg ks o1 (some (.d (.int (k : Int)))) w6 u1
    exact ⟨y5, y6, o', u', by rw [List.map_cons, forL_nx (ρ1 := eU z1 z2 goal z4 (some (.d (.int (k : Int)))) z6) rfl e1, ih]⟩
theorem turn_ok (z : List (Option Dv)) (o : Bo) (m : Nat) (hz : z.length = 6) (u : Urn o (1000 + m)) : ∃ o', Urn o' m ∧ Wq (fun w => ∃ z' : List (Option Dv), z'.length = 6 ∧ w = .nx (some (.loc 0) :: z') [o']) (l2__law_right (some (.loc 0) :: z) [o]) := by
  match z, hz with
  | [z1, z2, z3, z4, z5, z6], _ =>
  obtain ⟨t, rows, emps, o1, e1, T, u1⟩ := tome_ok (S := [o]) (k := 0) (a := 8) (b := 3) (m := 600 + m) rfl (by omega) (by omega) (u.less (by omega))
  have D := dw_tome T
  have G := D.g
  have et : t = shD rows emps := T.eq
  subst et
  have sl := D.sheet_lk
  have bk : Bk 838 (sheetW rows emps) := ⟨sl.ok, D.sheet_len⟩
  obtain ⟨y5, y6, o', u', e5⟩ := laps bk (z1 := z1) (z2 := some (.d (shD rows emps))) (z4 := some (.d (tl (shD rows emps)))) (m := m) (List.range 8) o1 z5 z6 (u1.less (by rw [List.length_range]; omega))
  refine ⟨o', u', ⟨[z1, some (.d (shD rows emps)), some (.d (.str (sheetW rows emps))), some (.d (tl (shD rows emps))), y5, y6], rfl, ?_⟩⟩
  let E : Option Dv → Option Dv → Option Dv → Sm.Env := fun a b c => [some (.loc 0), z1, a, b, c, z5, z6]
  let t := shD rows emps
  let Tt : Option Dv := some (.d t)
  let Gl : Option Dv := some (.d (.str (sheetW rows emps)))
  let Sf : Option Dv := some (.d (tl t))
  have s0 : sSet 2 (mF F__law_tome (aCons (mV 0) (aCons (mC (.int 8)) (aCons (mC (.int 3)) (aNil))))) (E z2 z3 z4) [o] = .nx (E Tt z3 z4) [o1] := st_set (ex_mF (ds := [.loc 0, .d (.int 8), .d (.int 3)]) (S1 := [o]) rfl e1)
  have tx : Tx 7 t := G.tx.ups (by omega)
  have li : ∀ S, F__law_lists 8 [.d t] S = .ok (.d (tl t)) S := fun S => lists_ok 7 t S tx
  have s1 : sPars [3, 4] (aCons (mF F__law_sheet (aCons (mV 2) (aNil))) (aCons (mF (F__law_lists 8) (aCons (mV 2) (aNil))) (aNil))) (E Tt z3 z4) [o1] = .nx (E Tt Gl Sf) [o1] := st_pars (ds := [.d (.str (sheetW rows emps)), .d (tl t)]) (by
    rw [aCons_s, ex_mF (ds := [.d t]) (S1 := [o1]) rfl (law_sheet_ok D [o1]), bind_ok, ex_a1 (ex_mF (ds := [.d t]) (S1 := [o1]) rfl (li [o1])), bind_ok]) rfl
  let F := E Tt Gl Sf
  have t1 : mF F_sheet_text (aCons (mV 2) (aNil)) F [o1] = .ok (.d (.str (sheetW rows emps))) [o1] := ex_mF (ds := [.d t]) (S1 := [o1]) rfl (sheet_text_ok D G.sd [o1])
  have t2 : mF (kwF [0] [] F_sheet_text) (aCons (mV 4) (aNil)) F [o1] = .ok (.d (.str (sheetW rows emps))) [o1] := ex_mF (ds := [.d (tl t)]) (S1 := [o1]) rfl (sheet_text_ok D G.sdl [o1])
  have gs : Ty 7 (.lst [.str (sheetW rows emps), .str (sheetW rows emps)]) := (show Ty 1 _ from .inr ⟨_, .inr rfl, by show 2 ≤ 1000; omega, fun x hx => by
    simp only [List.mem_cons, List.not_mem_nil, or_false] at hx
    rcases hx with rfl | rfl
    · exact .inl ⟨_, sl.ok, rfl⟩
    · exact .inl ⟨_, sl.ok, rfl⟩⟩).ups (by omega)
  have p1 : mN pLst (aCons (mF F_sheet_text (aCons (mV 2) (aNil))) (aCons (mF (kwF [0] [] F_sheet_text) (aCons (mV 4) (aNil))) (aNil))) F [o1] = .ok (.d (.lst [.str (sheetW rows emps), .str (sheetW rows emps)])) [o1] := ex_mN (ds := [.d (.str (sheetW rows emps)), .d (.str (sheetW rows emps))]) (S1 := [o1]) (by
    rw [aCons_s, t1, bind_ok, ex_a1 t2, bind_ok]) rfl
  have p2 : mN pLst (aCons (mV 3) (aCons (mV 3) (aNil))) F [o1] = .ok (.d (.lst [.str (sheetW rows emps), .str (sheetW rows emps)])) [o1] := rfl
  have q1 : mF (F__law_same 8) (aCons (mN pLst (aCons (mF F_sheet_text (aCons (mV 2) (aNil))) (aCons (mF (kwF [0] [] F_sheet_text) (aCons (mV 4) (aNil))) (aNil)))) (aCons (mN pLst (aCons (mV 3) (aCons (mV 3) (aNil)))) (aNil))) F [o1] = .ok (.d (.bl true)) [o1] := ex_mF (F := F__law_same 8) (ds := [.d (.lst [.str (sheetW rows emps), .str (sheetW rows emps)]), .d (.lst [.str (sheetW rows emps), .str (sheetW rows emps)])]) (S1 := [o1]) (by
    rw [aCons_s, p1, bind_ok, ex_a1 p2, bind_ok]) (same_ty 7 _ [o1] gs)
  have nq : mTst (m2 pNe (mV 4) (mF (F__law_lists 8) (aCons (mV 2) (aNil)))) F [o1] = .ok false [o1] := x_tst (ex_m2 (d := .d (tl t)) rfl (ex_mF (ds := [.d t]) (S1 := [o1]) rfl (li [o1])) (pNe_tx tx.tl (by omega) _))
  have s2 : sIf (cOr (cNot (mTru pTru (mF (F__law_same 8) (aCons (mN pLst (aCons (mF F_sheet_text (aCons (mV 2) (aNil))) (aCons (mF (kwF [0] [] F_sheet_text) (aCons (mV 4) (aNil))) (aNil)))) (aCons (mN pLst (aCons (mV 3) (aCons (mV 3) (aNil)))) (aNil)))))) (mTst (m2 pNe (mV 4) (mF (F__law_lists 8) (aCons (mV 2) (aNil)))))) (sRet (mC (.bl false))) (sNil) F [o1] = .nx F [o1] := st_if_f (S1 := [o1]) (x_or (x_not (x_tru q1)) fun _ => nq) rfl
  have rd : F_sheet_in [.d (.str (sheetW rows emps))] [o1] = .ok (.d t) [o1] := by
    have := sheet_in_ok sl [o1]
    rw [read_sheet D] at this
    exact this
  have ty : Ty 7 (.lst [t, t]) := by
    have r := (lread_ok sl []).2
    rw [read_sheet D] at r
    have r' : Ty 4 t := .inr ⟨_, .inl rfl, by show 2 ≤ 1000; omega, fun x hx => by
      simp only [List.mem_cons, List.not_mem_nil, or_false] at hx
      rcases hx with rfl | rfl
      · refine .inr ⟨_, .inl rfl, by rw [List.length_map]; have := D.z1; omega, fun y hy => ?_⟩
        obtain ⟨e, he, rfl⟩ := List.mem_map.mp hy
        refine ty_row ⟨⟨pool_ok _ (D.n e he), by have := pool_z _ (D.n e he); omega⟩, by have := D.wz he; omega, fun x hx => ⟨pool_ok _ (D.w e he x hx), by have := pool_z _ (D.w e he x hx); omega⟩⟩
      · exact Ty.ups (n := 1) (m := 3) (ty_strs (by have := D.z2; omega) (fun x hx => ⟨pool_ok _ (D.e x hx), by have := pool_z _ (D.e x hx); omega⟩) (.inl rfl)) (by omega)⟩
    exact (show Ty 5 _ from .inr ⟨_, .inr rfl, by show 2 ≤ 1000; omega, fun x hx => by
      simp only [List.mem_cons, List.not_mem_nil, or_false] at hx
      rcases hx with rfl | rfl
      · exact r'
      · exact r'⟩).ups (by omega)
  have i1 : mF F_sheet_in (aCons (mV 3) (aNil)) F [o1] = .ok (.d t) [o1] := ex_mF (ds := [.d (.str (sheetW rows emps))]) (S1 := [o1]) rfl rd
  have i2 : mF (kwF [0] [] F_sheet_in) (aCons (mV 3) (aNil)) F [o1] = .ok (.d t) [o1] := ex_mF (ds := [.d (.str (sheetW rows emps))]) (S1 := [o1]) rfl rd
  have p3 : mN pLst (aCons (mF F_sheet_in (aCons (mV 3) (aNil))) (aCons (mF (kwF [0] [] F_sheet_in) (aCons (mV 3) (aNil))) (aNil))) F [o1] = .ok (.d (.lst [t, t])) [o1] := ex_mN (ds := [.d t, .d t]) (S1 := [o1]) (by
    rw [aCons_s, i1, bind_ok, ex_a1 i2, bind_ok]) rfl
  have p4 : mN pLst (aCons (mV 2) (aCons (mV 2) (aNil))) F [o1] = .ok (.d (.lst [t, t])) [o1] := rfl
  have q2 : mF (F__law_same 8) (aCons (mN pLst (aCons (mF F_sheet_in (aCons (mV 3) (aNil))) (aCons (mF (kwF [0] [] F_sheet_in) (aCons (mV 3) (aNil))) (aNil)))) (aCons (mN pLst (aCons (mV 2) (aCons (mV 2) (aNil)))) (aNil))) F [o1] = .ok (.d (.bl true)) [o1] := ex_mF (F := F__law_same 8) (ds := [.d (.lst [t, t]), .d (.lst [t, t])]) (S1 := [o1]) (by
    rw [aCons_s, p3, bind_ok, ex_a1 p4, bind_ok]) (same_ty 7 _ [o1] ty)
  have s3 : sIf (cNot (mTru pTru (mF (F__law_same 8) (aCons (mN pLst (aCons (mF F_sheet_in (aCons (mV 3) (aNil))) (aCons (mF (kwF [0] [] F_sheet_in) (aCons (mV 3) (aNil))) (aNil)))) (aCons (mN pLst (aCons (mV 2) (aCons (mV 2) (aNil)))) (aNil)))))) (sRet (mC (.bl false))) (sNil) F [o1] = .nx F [o1] := st_if_f (S1 := [o1]) (x_not (x_tru q2)) rfl
  have it : iRg rg1 (aCons (mC (.int 8)) (aNil)) F [o1] = .ok ((List.range 8).map fun k : Nat => Dt.int (k : Int)) [o1] := iRg_ok (ds := [.d (.int 8)]) rfl ((q_rg (n := 8) (by omega)).trans (by rw [rgL0, List.range_eq_range']))
  have s4 : sFor (iRg rg1 (aCons (mC (.int 8)) (aNil))) (gN 5) (l1__law_right) F [o1] = .nx (eU z1 Tt (sheetW rows emps) Sf y5 y6) [o'] := st_for it e5
  unfold l2__law_right
  show sSeq _ _ (E z2 z3 z4) [o] = _
  rw [sSeq_s, s0, sqz_nx, sSeq_s, s1, sqz_nx, sSeq_s, s2, sqz_nx, sSeq_s, s3, sqz_nx, s4]
end
theorem law_true : LawTrue F_law := law_of (c := 785) (by decide) (by decide) fun S n o hS u => by
  obtain ⟨o', e0, u'⟩ := right_of (n := 10) (k := 6) (c := 1000) (hand := F__law_by_hand_right) (body := l2__law_right) hand_ok (by decide) (by decide) turn_ok u
  exact ⟨o', view_ok (ts := []) (rest := []) hS u.pure e0 u'.pure⟩
end K14
open PySem PySem.W PyProof.Rows
set_option maxHeartbeats 0 in
theorem PySem.Challenge.cw_crosshomes_k14_texts_of_sheets_holds : PySem.Challenge.rw_crosshomes_k14_texts_of_sheets.Holds := by
  w_on; o_law; k_head; (case hw => w_witness2)
  k_fill
  refine L2.walk_ofB (l := PySem.Challenge.rw_crosshomes_k14_texts_of_sheets) (n := 63) (k := 14) (x := "_law_script") (CX := fun w => L2.CX PySem.Challenge.pw_crosshomes_k14_texts_of_sheets w) (sp := fun w => Sm.spLaw _) rfl (by decide) rfl ⟨rfl, by decide, by decide⟩ (fun w h Y => PySem.W.kIn_of Y) ?F (fun _ _ a ns hl hb _ hS => Sm.law_hsp hl hb hS) (fun _ _ _ _ _ h => Sm.law_cx h)
  case F =>
    intro w mg fa h KX Gn hmg
    refine' K14.all_mk K14.law_true KX Gn hmg ?aC0 ?a_tupled ?l_tupled ?co_tupled ?k_tupled ?a_is_name ?l_is_name ?co_is_name ?k_is_name ?a_rises ?l_rises ?co_rises ?k_rises ?a_is_set ?l_is_set ?co_is_set ?k_is_set ?a_Sheet_init ?i_Sheet_init ?l_Sheet_init ?co_Sheet_init ?k_Sheet_init ?a_Sheet_names ?i_Sheet_names ?l_Sheet_names ?co_Sheet_names ?k_Sheet_names ?a_Sheet_empties ?i_Sheet_empties ?l_Sheet_empties ?co_Sheet_empties ?k_Sheet_empties ?a_Sheet_wishes ?i_Sheet_wishes ?l_Sheet_wishes ?co_Sheet_wishes ?k_Sheet_wishes ?a_sheet_text ?l_sheet_text ?co_sheet_text ?k_sheet_text ?a_row_in ?l_row_in ?co_row_in ?k_row_in ?a_empties_in ?l_empties_in ?co_empties_in ?k_empties_in ?a_sheet_in ?l_sheet_in ?co_sheet_in ?k_sheet_in ?a__law_box ?l__law_box ?co__law_box ?k__law_box ?a__law_take ?l__law_take ?co__law_take ?k__law_take ?a__law_cells ?l__law_cells ?co__law_cells ?k__law_cells ?a__law_of ?l__law_of ?co__law_of ?k__law_of ?a__law_same ?l__law_same ?co__law_same ?k__law_same ?a__law_few ?l__law_few ?co__law_few ?k__law_few ?a__law_mixed ?l__law_mixed ?co__law_mixed ?k__law_mixed ?a__law_tome ?l__law_tome ?co__law_tome ?k__law_tome ?a__law_lists ?l__law_lists ?co__law_lists ?k__law_lists ?a__law_is_word ?l__law_is_word ?co__law_is_word ?k__law_is_word ?a__law_six ?l__law_six ?co__law_six ?k__law_six ?a__law_sheet ?l__law_sheet ?co__law_sheet ?k__law_sheet ?a__law_bent_text ?l__law_bent_text ?co__law_bent_text ?k__law_bent_text ?a__law_read ?l__law_read ?co__law_read ?k__law_read ?a__law_heard ?l__law_heard ?co__law_heard ?k__law_heard ?a__law_by_hand_right ?l__law_by_hand_right ?co__law_by_hand_right ?k__law_by_hand_right ?a__law_right ?l__law_right ?co__law_right ?k__law_right ?a_law ?l_law ?co_law ?k_law ?pg0 ?ic0 ?po0 ?sa0 ?mk0 ?kc0 ?s1_own_empties ?s2_own_empties ?s3_own_empties ?s4_own_empties ?s5_own_empties ?s1_own_homes ?s2_own_homes ?s3_own_homes ?s4_own_homes ?s5_own_homes ?s1_own_rows ?s2_own_rows ?s3_own_rows ?s4_own_rows ?s5_own_rows ?xa_BadLine ?xd_BadLine ?xt_BadLine ?xb_BadLine ?xs_BadLine ?xn_BadLine ?xa_BadText ?xd_BadText ?xt_BadText ?xb_BadText ?xs_BadText ?xn_BadText ?xa_Clash ?xd_Clash ?xt_Clash ?xb_Clash ?xs_Clash ?xn_Clash ?xa_Taken ?xd_Taken ?xt_Taken ?xb_Taken ?xs_Taken ?xn_Taken ?xr_BadLine_BadLine ?xr_BadLine_BadText ?xr_BadLine_Clash ?xr_BadLine_Taken ?xr_BadLine_ValueError ?xn_ValueError ?xl_BadLine ?xsa_BadLine ?xm_BadLine ?xkp_BadLine ?xi_BadLine ?xit_BadLine ?xf_BadLine ?xco_BadLine ?xcd_BadLine ?xvs_BadLine ?xfl_BadLine ?xcc_BadLine ?xop_BadLine ?xtop_BadLine ?xsb_BadLine ?xno_BadLine ?xga_BadLine ?xgg_BadLine ?xca_BadLine ?xob_BadLine ?xgs ?xgt ?xsu ?zz_ValueError ?zz_abs ?zz_all ?zz_any ?zz_bool ?zz_enumerate ?zz_int ?zz_isinstance ?zz_len ?zz_list ?zz_range ?zz_set ?zz_sorted ?zz_str ?zz_tuple ?zz_zip ?gg_BLANK ?gg_COLON ?gg_EMPTIES ?gg_FEED ?gg_LETTERS ?gg_LONGEST
    (case aC0 => k_is)
    (case a_tupled => k_is)
    (case l_tupled => k_is)
    (case co_tupled => k_is)
    (case k_tupled => k_is)
    (case a_is_name => k_is)
    (case l_is_name => k_is)
    (case co_is_name => k_is)
    (case k_is_name => k_is)
    (case a_rises => k_is)
    (case l_rises => k_is)
    (case co_rises => k_is)
    (case k_rises => k_is)
    (case a_is_set => k_is)
    (case l_is_set => k_is)
    (case co_is_set => k_is)
    (case k_is_set => k_is)
    (case a_Sheet_init => k_is)
    (case i_Sheet_init => k_is)
    (case l_Sheet_init => k_is)
    (case co_Sheet_init => k_is)
    (case k_Sheet_init => k_is)
    (case a_Sheet_names => k_is)
    (case i_Sheet_names => k_is)
    (case l_Sheet_names => k_is)
    (case co_Sheet_names => k_is)
    (case k_Sheet_names => k_is)
    (case a_Sheet_empties => k_is)
    (case i_Sheet_empties => k_is)
    (case l_Sheet_empties => k_is)
    (case co_Sheet_empties => k_is)
    (case k_Sheet_empties => k_is)
    (case a_Sheet_wishes => k_is)
    (case i_Sheet_wishes => k_is)
    (case l_Sheet_wishes => k_is)
    (case co_Sheet_wishes => k_is)
    (case k_Sheet_wishes => k_is)
    (case a_sheet_text => k_is)
    (case l_sheet_text => k_is)
    (case co_sheet_text => k_is)
    (case k_sheet_text => k_is)
    (case a_row_in => k_is)
    (case l_row_in => k_is)
    (case co_row_in => k_is)
    (case k_row_in => k_is)
    (case a_empties_in => k_is)
    (case l_empties_in => k_is)
    (case co_empties_in => k_is)
    (case k_empties_in => k_is)
    (case a_sheet_in => k_is)
    (case l_sheet_in => k_is)
    (case co_sheet_in => k_is)
    (case k_sheet_in => k_is)
    (case a__law_box => k_is)
    (case l__law_box => k_is)
    (case co__law_box => k_is)
    (case k__law_box => k_is)
    (case a__law_take => k_is)
    (case l__law_take => k_is)
    (case co__law_take => k_is)
    (case k__law_take => k_is)
    (case a__law_cells => k_is)
    (case l__law_cells => k_is)
    (case co__law_cells => k_is)
    (case k__law_cells => k_is)
    (case a__law_of => k_is)
    (case l__law_of => k_is)
    (case co__law_of => k_is)
    (case k__law_of => k_is)
    (case a__law_same => k_is)
    (case l__law_same => k_is)
    (case co__law_same => k_is)
    (case k__law_same => k_is)
    (case a__law_few => k_is)
    (case l__law_few => k_is)
    (case co__law_few => k_is)
    (case k__law_few => k_is)
    (case a__law_mixed => k_is)
    (case l__law_mixed => k_is)
    (case co__law_mixed => k_is)
    (case k__law_mixed => k_is)
    (case a__law_tome => k_is)
    (case l__law_tome => k_is)
    (case co__law_tome => k_is)
    (case k__law_tome => k_is)
    (case a__law_lists => k_is)
    (case l__law_lists => k_is)
    (case co__law_lists => k_is)
    (case k__law_lists => k_is)
    (case a__law_is_word => k_is)
    (case l__law_is_word => k_is)
    (case co__law_is_word => k_is)
    (case k__law_is_word => k_is)
    (case a__law_six => k_is)
    (case l__law_six => k_is)
    (case co__law_six => k_is)
    (case k__law_six => k_is)
    (case a__law_sheet => k_is)
    (case l__law_sheet => k_is)
    (case co__law_sheet => k_is)
    (case k__law_sheet => k_is)
    (case a__law_bent_text => k_is)
    (case l__law_bent_text => k_is)
    (case co__law_bent_text => k_is)
    (case k__law_bent_text => k_is)
    (case a__law_read => k_is)
    (case l__law_read => k_is)
    (case co__law_read => k_is)
    (case k__law_read => k_is)
    (case a__law_heard => k_is)
    (case l__law_heard => k_is)
    (case co__law_heard => k_is)
    (case k__law_heard => k_is)
    (case a__law_by_hand_right => k_is)
    (case l__law_by_hand_right => k_is)
    (case co__law_by_hand_right => k_is)
    (case k__law_by_hand_right => k_is)
    (case a__law_right => k_is)
    (case l__law_right => k_is)
    (case co__law_right => k_is)
    (case k__law_right => k_is)
    (case a_law => k_is)
    (case l_law => k_is)
    (case co_law => k_is)
    (case k_law => k_is)
    (case pg0 => k_is)
    (case ic0 => k_is)
    (case po0 => k_is)
    (case sa0 => k_is)
    (case mk0 => k_is)
    (case kc0 => k_is)
    (case s1_own_empties => k_is)
    (case s2_own_empties => k_is)
    (case s3_own_empties => k_is)
    (case s4_own_empties => k_is)
    (case s5_own_empties => k_is)
    (case s1_own_homes => k_is)
    (case s2_own_homes => k_is)
    (case s3_own_homes => k_is)
    (case s4_own_homes => k_is)
    (case s5_own_homes => k_is)
    (case s1_own_rows => k_is)
    (case s2_own_rows => k_is)
    (case s3_own_rows => k_is)
    (case s4_own_rows => k_is)
    (case s5_own_rows => k_is)
    (case xa_BadLine => k_is)
    (case xd_BadLine => k_is)
    (case xt_BadLine => k_is)
    (case xb_BadLine => k_is)
    (case xs_BadLine => k_is)
    (case xn_BadLine => k_is)
    (case xa_BadText => k_is)
    (case xd_BadText => k_is)
    (case xt_BadText => k_is)
    (case xb_BadText => k_is)
    (case xs_BadText => k_is)
    (case xn_BadText => k_is)
    (case xa_Clash => k_is)
    (case xd_Clash => k_is)
    (case xt_Clash => k_is)
    (case xb_Clash => k_is)
    (case xs_Clash => k_is)
    (case xn_Clash => k_is)
    (case xa_Taken => k_is)
    (case xd_Taken => k_is)
    (case xt_Taken => k_is)
    (case xb_Taken => k_is)
    (case xs_Taken => k_is)
    (case xn_Taken => k_is)
    (case xr_BadLine_BadLine => k_is)
    (case xr_BadLine_BadText => k_is)
    (case xr_BadLine_Clash => k_is)
    (case xr_BadLine_Taken => k_is)
    (case xr_BadLine_ValueError => k_is)
    (case xn_ValueError => k_is)
    (case xl_BadLine => k_is)
    (case xsa_BadLine => k_is)
    (case xm_BadLine => k_is)
    (case xkp_BadLine => k_is)
    (case xi_BadLine => k_is)
    (case xit_BadLine => k_is)
    (case xf_BadLine => k_is)
    (case xco_BadLine => k_is)
    (case xcd_BadLine => k_is)
    (case xvs_BadLine => first | rfl | decide +kernel)
    (case xfl_BadLine => first | rfl | decide +kernel)
    (case xcc_BadLine => k_is)
    (case xop_BadLine => k_is)
    (case xtop_BadLine => first | rfl | decide +kernel)
    (case xsb_BadLine => k_is)
    (case xno_BadLine => k_is)
    (case xga_BadLine => k_is)
    (case xgg_BadLine => k_is)
    (case xca_BadLine => k_is)
    (case xob_BadLine => k_is)
    (case xgs => k_is)
    (case xgt => k_is)
    (case xsu => k_is)
    (case zz_ValueError => k_is)
    (case zz_abs => k_is)
    (case zz_all => k_is)
    (case zz_any => k_is)
    (case zz_bool => k_is)
    (case zz_enumerate => k_is)
    (case zz_int => k_is)
    (case zz_isinstance => k_is)
    (case zz_len => k_is)
    (case zz_list => k_is)
    (case zz_range => k_is)
    (case zz_set => k_is)
    (case zz_sorted => k_is)
    (case zz_str => k_is)
    (case zz_tuple => k_is)
    (case zz_zip => k_is)
    (case gg_BLANK => k_is)
    (case gg_COLON => k_is)
    (case gg_EMPTIES => k_is)
    (case gg_FEED => k_is)
    (case gg_LETTERS => k_is)
    (case gg_LONGEST => k_is)
