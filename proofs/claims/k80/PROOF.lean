import PyProof.Rows.All
import Wide.All
import OpenK.AllK
import Wide.FinOn
import HandS.ForMost
import HandS.More
import HandS.Lambda
import HandS.HeadHook2
import HandS.HeadHook4
import HandS.TupMul
import HandS.Style
import HandS.Wide
import HandS.Deep
import PyProof.Rows.TupAdd
import HandS.Exc
import HandS.ExcOwn
import HandS.WordsExc
import HandS.CallSlots
import HandS.Comp
import HandS.Zip
import HandS.Rev
import HandS.Defaults
import HandS.StrMore
import HandS.SetKeys
import HandS.ListItems
import HandS.IsInst
import HandS.TupAny
import HandS.SortInts
import KE.GoesMore
import KE.GoesEnum
import HandS.Replace
import KE.KStateDown
import Lean
import HandS.EndBits
import HandS.Head0
import HandS.Head1
import HandS.Head2
import HandS.HeadEnd
import HandS.HeadHook1
import HandS.HeadHook3
import HandS.EndTab
import HandS.HeadWalk
import KE.SortData
import KE.SortKeyHeap
import HandS.SortKw
import HandS.Conv
import HandS.ExcInit
import HandS.ExcIs
import HandS.ExcField
import HandS.ClsMeth
import HandS.TryMany
import HandS.ExcValue
import KE.KExcIs
import KE.DataFind
import KE.KDictSum
import KE.KMinKey
import PyProof.ReprRoads
import PyProof.CallFns
import KE.OsSortAny
import KE.KStrOpen
import PyProof.ReprBulk
import PyProof.FitsInt
import KE.OsArith
import PySem.Challenge.RW_stationrow_k80_mixed_works
set_option Elab.async false
set_option linter.all false
set_option maxRecDepth 100000
set_option maxHeartbeats 4000000
namespace T3
open PySem PySem.Spec PyProof.Rows L2
inductive Tg where
  | fz | ow | ex
  deriving DecidableEq, Repr
inductive D where
  | non | bl (b : Bool) | int (i : Int) | str (x : Str)
  | tup (xs : List D)
  | lst (o : Tg) (xs : List D)
  | dK (o : Tg) (kvs : List (Key × D))
  | dT (o : Tg) (kvs : List (List Key × D))
  | ins (o : Tg) (c : Str) (fs : List (Str × D))
  | nl (xs : List D)
  | nd (kvs : List (Key × D))
  | ni (c : Str) (fs : List (Str × D))
  | dL (kvs : List (Key × D))
  | xc (c : Str) (fs : List (Str × D))
  | hole (a : Addr)
  | tp (xs : List D)
  deriving Inhabited
def flat : D → Bool
  | .nl _ => false
  | .nd _ => false
  | .ni _ _ => false
  | _ => true
abbrev SS := List (Option D)
def Nt (o : HO) : Prop := ∀ ps, o ≠ .tbl ps
def KeepT (o : HO) (r : Option HO) : Prop := Nt o → r = some o
theorem KeepT.nt {o : HO} {r : Option HO} (h : KeepT o r) (n : Nt o) : r = some o := h n
def lamPs : List ((Str × Option Str) × Str) := [(("Ground", some "__init__"), "Ground.__init__"), (("_law_put_in", none), "_law_put_in")]
def lamT (K : PySem.W.Frag) : List (Addr × Str) := (lamPs.filter fun p => (PySem.W.nsIn K mainGlobals p.1.1).join.isSome).map fun p => (He.tabOf K (He.codeOf K p.1), (p.2 ++ ".<locals>.") ++ "<lambda>")
abbrev TabH (K : PySem.W.Frag) (H : Hp) : Prop := LamX.Tabs (lamT K) H
theorem TabH.put {K : PySem.W.Frag} {H : Hp} {a : Addr} {u u' : HO} (t : TabH K H) (h : H a = some u) (n : Nt u) (nc : ∀ c q, u ≠ LamX.CodeO c q) : TabH K (upd H a u') := fun p hp => by
  obtain ⟨ps, h1, h2, h3⟩ := t p hp
  refine ⟨ps, ?_, h2, fun pos cv hc => ?_⟩
  · rw [upd_ne (fun e => by rw [e, h] at h1; cases h1; exact n _ rfl)]
    exact h1
  · obtain ⟨c, e1, e2⟩ := h3 pos cv hc
    refine ⟨c, e1, ?_⟩
    rw [upd_ne (fun e => by rw [e, h] at e2; cases e2; exact nc _ _ rfl)]
    exact e2
structure TabZ (K : PySem.W.Frag) (Z H : Hp) : Prop where
  h : TabH K H
  z : ∀ b o, Z b = some o → Nt o
theorem TabZ.put {K : PySem.W.Frag} {Z H : Hp} {a : Addr} {u u' : HO} (t : TabZ K Z H) (h : H a = some u) (n : Nt u) (nc : ∀ c q, u ≠ LamX.CodeO c q) : TabZ K Z (upd H a u') := ⟨t.h.put h n nc, t.z⟩
def fz : D → Bool
  | .lst .ow _ => false
  | .dK .ow _ => false
  | .dT .ow _ => false
  | .ins .ow _ _ => false
  | .nl _ => false
  | .nd _ => false
  | .ni _ _ => false
  | _ => true
def exv (C : Addr) (d : Option Addr) (a : Addr) : HO := .ext fun h => ∃ oe vs, h.get? a = some oe ∧ oe.cls = .ref C ∧ oe.dict = d ∧ oe.data = .fields vs
section
variable (K : PySem.W.Frag) (mg : Str → Option Value) (Z H : Hp)
def At : Tg → Addr → HO → List Addr → Prop
  | .fz, a, u, f => Z a = some u ∧ f = []
  | .ow, a, u, f => H a = some u ∧ Z a = none ∧ f = [a]
  | .ex, a, u, f => (∃ vs, u = .lst vs ∧ SqL K Z a vs) ∧ f = []
mutual
inductive Rp : V → D → List Addr → Prop
  | non : Rp .non .non []
  | bl (b : Bool) : Rp (.bl b) (.bl b) []
  | int (i : Int) : Rp (.int i) (.int i) []
  | str (x : Str) : Rp (.str x) (.str x) []
  | tup {a : Addr} {vs : List V} {ds : List D} (h : Z a = some (.tup vs)) (r : RpL vs ds) : Rp (.ref a) (.tup ds) []
  | lst {o : Tg} {a : Addr} {vs : List V} {ds : List D} {f : List Addr} (h : At K Z H o a (.lst vs) f) (r : RpL vs ds) : Rp (.ref a) (.lst o ds) f
  | dK {o : Tg} {a : Addr} {kvs : List (Key × V)} {ds : List (Key × D)} {f : List Addr} (h : At K Z H o a (.dK kvs) f) (e : kvs.map (·.1) = ds.map (·.1)) (r : RpL (kvs.map (·.2)) (ds.map (·.2))) : Rp (.ref a) (.dK o ds) f
  | dT {o : Tg} {a : Addr} {kvs : List (List Key × V)} {ds : List (List Key × D)} {f : List Addr} (h : At K Z H o a (.dT kvs) f) (e : kvs.map (·.1) = ds.map (·.1)) (r : RpL (kvs.map (·.2)) (ds.map (·.2))) : Rp (.ref a) (.dT o ds) f
  | ins {o : Tg} {a C dx : Addr} {c : Str} {fs : List (Str × V)} {ds : List (Str × D)} {f : List Addr} (hc : mg c = some (.ref C)) (h : At K Z H o a (.ins C dx fs) f) (e : fs.map (·.1) = ds.map (·.1)) (r : RpL (fs.map (·.2)) (ds.map (·.2))) : Rp (.ref a) (.ins o c ds) f
  | nl {a : Addr} {vs : List V} {ds : List D} {f : List Addr} (h : H a = some (.lst vs)) (n : Z a = none) (r : RpB vs ds f) (nd : (a :: f).Nodup) : Rp (.ref a) (.nl ds) (a :: f)
  | ndd {a : Addr} {kvs : List (Key × V)} {ds : List (Key × D)} {f : List Addr} (h : H a = some (.dK kvs)) (n : Z a = none) (e : kvs.map (·.1) = ds.map (·.1)) (r : RpB (kvs.map (·.2)) (ds.map (·.2)) f) (nd : (a :: f).Nodup) : Rp (.ref a) (.nd ds) (a :: f)
  | nins {a C dx : Addr} {c : Str} {fs : List (Str × V)} {ds : List (Str × D)} {f : List Addr} (hc : mg c = some (.ref C)) (h : H a = some (.ins C dx fs)) (n : Z a = none) (e : fs.map (·.1) = ds.map (·.1)) (r : RpB (fs.map (·.2)) (ds.map (·.2)) f) (nd : (a :: f).Nodup) : Rp (.ref a) (.ni c ds) (a :: f)
  | dL {a : Addr} {kvs : List (Key × V)} {ds : List (Key × D)} (h : Rd Z a (.dK kvs)) (e : kvs.map (·.1) = ds.map (·.1)) (r : RpL (kvs.map (·.2)) (ds.map (·.2))) : Rp (.ref a) (.dL ds) []
  | hole (a : Addr) : Rp (.ref a) (.hole a) []
  | tp {a : Addr} {o : Obj} {vs : List V} {ds : List D} (h : Z a = some (.frz o (.tup vs))) (hd : o.cls = .type "tuple" ∧ o.dict = none) (r : RpL vs ds) : Rp (.ref a) (.tp ds) []
  | xc0 {a C : Addr} {c : Str} (hc : mg c = some (.ref C)) (h : Z a = some (exv C none a)) : Rp (.ref a) (.xc c []) []
  | xc {a C dx : Addr} {c : Str} {fs : List (Str × V)} {ds : List (Str × D)} (hc : mg c = some (.ref C)) (h : Z a = some (exv C (some dx) a)) (h2 : Z dx = some (.xd fs)) (e : fs.map (·.1) = ds.map (·.1)) (r : RpL (fs.map (·.2)) (ds.map (·.2))) : Rp (.ref a) (.xc c ds) []
inductive RpL : List V → List D → Prop
  | nil : RpL [] []
  | cons {v : V} {d : D} {vs : List V} {ds : List D} (h : Rp v d []) (t : RpL vs ds) : RpL (v :: vs) (d :: ds)
inductive RpB : List V → List D → List Addr → Prop
  | nil : RpB [] [] []
  | cons {v : V} {d : D} {vs : List V} {ds : List D} {f g : List Addr} (h : Rp v d f) (fl : flat d = true) (t : RpB vs ds g) : RpB (v :: vs) (d :: ds) (f ++ g)
end
inductive RpS : List (Option V) → SS → List Addr → Prop
  | nil : RpS [] [] []
  | no {o : Option V} {σ : List (Option V)} {S : SS} {g : List Addr} (t : RpS σ S g) : RpS (o :: σ) (none :: S) g
  | yes {v : V} {d : D} {f : List Addr} {σ : List (Option V)} {S : SS} {g : List Addr} (h : Rp K mg Z H v d f) (t : RpS σ S g) : RpS (some v :: σ) (some d :: S) (f ++ g)
end
section
variable {K : PySem.W.Frag} {mg : Str → Option Value} {Z H Z' H' : Hp}
theorem At.own {o : Tg} {a : Addr} {u : HO} {f : List Addr} (h : At K Z H o a u f) : (f = [] ∧ o ≠ .ow) ∨ (f = [a] ∧ o = .ow ∧ H a = some u ∧ Z a = none) := by
  cases o with
  | fz => exact .inl ⟨h.2, by decide⟩
  | ow => exact .inr ⟨h.2.2, rfl, h.1, h.2.1⟩
  | ex => exact .inl ⟨h.2, by decide⟩
theorem At.mono (hz : Same Z Z') {o : Tg} {a : Addr} {u : HO} {f : List Addr} (h : At K Z H o a u f) (p : ∀ a ∈ f, ∀ o, H a = some o → H' a = some o) (q : ∀ a ∈ f, Z' a = none) : At K Z' H' o a u f := by
  cases o with
  | fz => exact ⟨hz _ _ h.1, h.2⟩
  | ow =>
    obtain ⟨h1, h2, rfl⟩ := h
    exact ⟨p _ (by simp) _ h1, q _ (by simp), rfl⟩
  | ex =>
    obtain ⟨⟨vs, e, h1⟩, h2⟩ := h
    exact ⟨⟨vs, e, hz.seq h1⟩, h2⟩
theorem At.get (hs : Same Z H) {o : Tg} {a : Addr} {u : HO} {f : List Addr} (h : At K Z H o a u f) (ho : o ≠ .ex) : H a = some u := by
  cases o with
  | fz => exact hs _ _ h.1
  | ow => exact h.1
  | ex => exact absurd rfl ho
theorem At.seq (hs : Same Z H) {o : Tg} {a : Addr} {vs : List V} {f : List Addr} (h : At K Z H o a (.lst vs) f) : SqL K H a vs := by
  cases o with
  | fz => exact .of (hs _ _ h.1)
  | ow => exact .of h.1
  | ex =>
    obtain ⟨⟨ws, e, h1⟩, h2⟩ := h
    cases e
    exact hs.seq h1
theorem Rp.own {v : V} {d : D} {f : List Addr} (h : Rp K mg Z H v d f) (fl : flat d = true) : (f = [] ∧ fz d = true) ∨ ∃ a u, f = [a] ∧ v = .ref a ∧ fz d = false ∧ H a = some u ∧ Z a = none := by
  cases h with
  | non => exact .inl ⟨rfl, rfl⟩
  | bl => exact .inl ⟨rfl, rfl⟩
  | int => exact .inl ⟨rfl, rfl⟩
  | str => exact .inl ⟨rfl, rfl⟩
  | tup => exact .inl ⟨rfl, rfl⟩
  | @lst o a _ _ _ h =>
    rcases h.own with ⟨rfl, e⟩ | ⟨rfl, rfl, e1, e2⟩
    · exact .inl ⟨rfl, by cases o <;> first | rfl | exact absurd rfl e⟩
    · exact .inr ⟨_, _, rfl, rfl, rfl, e1, e2⟩
  | @dK o a _ _ _ h =>
    rcases h.own with ⟨rfl, e⟩ | ⟨rfl, rfl, e1, e2⟩
    · exact .inl ⟨rfl, by cases o <;> first | rfl | exact absurd rfl e⟩
    · exact .inr ⟨_, _, rfl, rfl, rfl, e1, e2⟩
  | @dT o a _ _ _ h =>
    rcases h.own with ⟨rfl, e⟩ | ⟨rfl, rfl, e1, e2⟩
    · exact .inl ⟨rfl, by cases o <;> first | rfl | exact absurd rfl e⟩
    · exact .inr ⟨_, _, rfl, rfl, rfl, e1, e2⟩
  | @ins o a _ _ _ _ _ _ hc h =>
    rcases h.own with ⟨rfl, e⟩ | ⟨rfl, rfl, e1, e2⟩
    · exact .inl ⟨rfl, by cases o <;> first | rfl | exact absurd rfl e⟩
    · exact .inr ⟨_, _, rfl, rfl, rfl, e1, e2⟩
  | nl => cases fl
  | ndd => cases fl
  | nins => cases fl
  | dL => exact .inl ⟨rfl, rfl⟩
  | xc0 => exact .inl ⟨rfl, rfl⟩
  | hole => exact .inl ⟨rfl, rfl⟩
  | tp => exact .inl ⟨rfl, rfl⟩
  | xc => exact .inl ⟨rfl, rfl⟩
theorem flat_fz {d : D} (e : fz d = true) : flat d = true := by cases d <;> first | rfl | cases e
theorem Rp.fz_nil {v : V} {d : D} {f : List Addr} (h : Rp K mg Z H v d f) (e : fz d = true) : f = [] := by
  rcases h.own (flat_fz e) with ⟨h, _⟩ | ⟨_, _, _, _, e2, _⟩
  · exact h
  · rw [e] at e2; cases e2
theorem RpB.has : ∀ {vs : List V} {ds : List D} {f : List Addr}, RpB K mg Z H vs ds f → ∀ {a : Addr}, a ∈ f → (∃ u, H a = some u) ∧ Z a = none
  | _, _, _, .nil, _, m => by simp at m
  | _, _, _, .cons h fl t, a, m => by
    rcases List.mem_append.mp m with m | m
    · rcases h.own fl with ⟨rfl, _⟩ | ⟨b, u, rfl, _, _, e, n⟩
      · simp at m
      · simp at m; subst m; exact ⟨⟨u, e⟩, n⟩
    · exact t.has m
theorem Rp.has {v : V} {d : D} {f : List Addr} (h : Rp K mg Z H v d f) {a : Addr} (m : a ∈ f) : (∃ u, H a = some u) ∧ Z a = none := by
  by_cases fl : flat d = true
  · rcases h.own fl with ⟨rfl, _⟩ | ⟨b, u, rfl, _, _, e, n⟩
    · simp at m
    · simp at m; subst m; exact ⟨⟨u, e⟩, n⟩
  · cases h <;> first | exact absurd rfl fl | skip
    · rename_i h n r nd
      rcases List.mem_cons.mp m with rfl | m
      · exact ⟨⟨_, h⟩, n⟩
      · exact r.has m
    · rename_i h n e r nd
      rcases List.mem_cons.mp m with rfl | m
      · exact ⟨⟨_, h⟩, n⟩
      · exact r.has m
    · rename_i hc h n e r nd
      rcases List.mem_cons.mp m with rfl | m
      · exact ⟨⟨_, h⟩, n⟩
      · exact r.has m
abbrev DatO (o : HO) : Prop := Nt o ∧ ∀ c q, o ≠ LamX.CodeO c q
theorem datO_lst {vs : List V} : DatO (.lst vs) := ⟨(fun ps z => by cases z), fun c q z => by unfold LamX.CodeO at z; cases z⟩
theorem datO_dK {vs : List (Key × V)} : DatO (.dK vs) := ⟨(fun ps z => by cases z), fun c q z => by unfold LamX.CodeO at z; cases z⟩
theorem datO_dT {vs : List (List Key × V)} : DatO (.dT vs) := ⟨(fun ps z => by cases z), fun c q z => by unfold LamX.CodeO at z; cases z⟩
theorem datO_ins {C dx : Addr} {fs : List (Str × V)} : DatO (.ins C dx fs) := ⟨(fun ps z => by cases z), fun c q z => by unfold LamX.CodeO at z; cases z⟩
theorem Rp.dat0 {v : V} {d : D} {f : List Addr} (h : Rp K mg Z H v d f) (fl : flat d = true) {a : Addr} (m : a ∈ f) {o : HO} (e : H a = some o) : Nt o ∧ ∀ c q, o ≠ LamX.CodeO c q := by
  have fin : ∀ {t : Tg} {b : Addr} {u : HO}, At K Z H t b u f → (Nt u ∧ ∀ c q, u ≠ LamX.CodeO c q) → Nt o ∧ ∀ c q, o ≠ LamX.CodeO c q := fun {t b u} hat nu => by
    rcases hat.own with ⟨rfl, _⟩ | ⟨rfl, _, e2, _⟩
    · simp at m
    · simp at m; subst m
      rw [e2] at e; cases e
      exact nu
  cases h with
  | non => simp at m
  | bl => simp at m
  | int => simp at m
  | str => simp at m
  | tup => simp at m
  | lst h => exact fin h datO_lst
  | dK h => exact fin h datO_dK
  | dT h => exact fin h datO_dT
  | ins _ h => exact fin h ⟨(fun ps z => by cases z), fun c q z => by unfold LamX.CodeO at z; cases z⟩
  | nl => cases fl
  | ndd => cases fl
  | nins => cases fl
  | dL => simp at m
  | xc0 => simp at m
  | hole => simp at m
  | tp => simp at m
  | xc => simp at m
theorem RpB.dat : ∀ {vs : List V} {ds : List D} {f : List Addr}, RpB K mg Z H vs ds f → ∀ {a : Addr}, a ∈ f → ∀ {o : HO}, H a = some o → Nt o ∧ ∀ c q, o ≠ LamX.CodeO c q
  | _, _, _, .nil, _, m, _, _ => by simp at m
  | _, _, _, .cons h fl t, a, m, o, e => by
    rcases List.mem_append.mp m with m | m
    · exact h.dat0 fl m e
    · exact t.dat m e
theorem Rp.dat {v : V} {d : D} {f : List Addr} (h : Rp K mg Z H v d f) {a : Addr} (m : a ∈ f) {o : HO} (e : H a = some o) : Nt o ∧ ∀ c q, o ≠ LamX.CodeO c q := by
  by_cases fl : flat d = true
  · exact h.dat0 fl m e
  · cases h <;> first | exact absurd rfl fl | skip
    · rename_i h n r nd
      rcases List.mem_cons.mp m with rfl | m
      · rw [h] at e; cases e; exact datO_lst
      · exact r.dat m e
    · rename_i h n e1 r nd
      rcases List.mem_cons.mp m with rfl | m
      · rw [h] at e; cases e; exact datO_dK
      · exact r.dat m e
    · rename_i hc h n e1 r nd
      rcases List.mem_cons.mp m with rfl | m
      · rw [h] at e; cases e; exact datO_ins
      · exact r.dat m e
theorem Rp.nt {v : V} {d : D} {f : List Addr} (h : Rp K mg Z H v d f) {a : Addr} (m : a ∈ f) {o : HO} (e : H a = some o) : Nt o := (h.dat m e).1
theorem Rp.nd {v : V} {d : D} {f : List Addr} (h : Rp K mg Z H v d f) : f.Nodup := by
  by_cases fl : flat d = true
  · rcases h.own fl with ⟨rfl, _⟩ | ⟨b, u, rfl, _, _, e, n⟩ <;> simp
  · cases h <;> first | exact absurd rfl fl | assumption
mutual
theorem Rp.mono0 (hz : Same Z Z') : ∀ {v : V} {d : D} {f : List Addr}, Rp K mg Z H v d f → (∀ a ∈ f, ∀ o, H a = some o → H' a = some o) → (∀ a ∈ f, Z' a = none) → Rp K mg Z' H' v d f
  | _, _, _, .non, _, _ => .non
  | _, _, _, .bl b, _, _ => .bl b
  | _, _, _, .int b, _, _ => .int b
  | _, _, _, .str b, _, _ => .str b
  | _, _, _, .tup h r, _, _ => .tup (hz _ _ h) (RpL.mono0 hz r)
  | _, _, _, .lst h r, p, q => .lst (h.mono hz p q) (RpL.mono0 hz r)
  | _, _, _, .dK h e r, p, q => .dK (h.mono hz p q) e (RpL.mono0 hz r)
  | _, _, _, .dT h e r, p, q => .dT (h.mono hz p q) e (RpL.mono0 hz r)
  | _, _, _, .ins hc h e r, p, q => .ins hc (h.mono hz p q) e (RpL.mono0 hz r)
  | _, _, _, .nl h n r nd, p, q => .nl (p _ (by simp) _ h) (q _ (by simp)) (RpB.mono0 hz r (fun a m => p a (by simp [m])) fun a m => q a (by simp [m])) nd
  | _, _, _, .ndd h n e r nd, p, q => .ndd (p _ (by simp) _ h) (q _ (by simp)) e (RpB.mono0 hz r (fun a m => p a (by simp [m])) fun a m => q a (by simp [m])) nd
  | _, _, _, .nins hc h n e r nd, p, q => .nins hc (p _ (by simp) _ h) (q _ (by simp)) e (RpB.mono0 hz r (fun a m => p a (by simp [m])) fun a m => q a (by simp [m])) nd
  | _, _, _, .dL h e r, _, _ => .dL (h.imp (hz _ _) fun ⟨o, q⟩ => ⟨o, hz _ _ q⟩) e (RpL.mono0 hz r)
  | _, _, _, .hole v, _, _ => .hole v
  | _, _, _, .tp h hd r, _, _ => .tp (hz _ _ h) hd (RpL.mono0 hz r)
  | _, _, _, .xc0 hc h, _, _ => .xc0 hc (hz _ _ h)
  | _, _, _, .xc hc h h2 e r, _, _ => .xc hc (hz _ _ h) (hz _ _ h2) e (RpL.mono0 hz r)
theorem RpL.mono0 (hz : Same Z Z') : ∀ {vs : List V} {ds : List D}, RpL K mg Z H vs ds → RpL K mg Z' H' vs ds
  | _, _, .nil => .nil
  | _, _, .cons h t => .cons (Rp.mono0 hz h (by simp) (by simp)) (RpL.mono0 hz t)
theorem RpB.mono0 (hz : Same Z Z') : ∀ {vs : List V} {ds : List D} {f : List Addr}, RpB K mg Z H vs ds f → (∀ a ∈ f, ∀ o, H a = some o → H' a = some o) → (∀ a ∈ f, Z' a = none) → RpB K mg Z' H' vs ds f
  | _, _, _, .nil, _, _ => .nil
  | _, _, _, .cons h fl t, p, q => .cons (Rp.mono0 hz h (fun a m => p a (by simp [m])) fun a m => q a (by simp [m])) fl (RpB.mono0 hz t (fun a m => p a (by simp [m])) fun a m => q a (by simp [m]))
end
theorem RpB.mono {vs : List V} {ds : List D} {f : List Addr} (h : RpB K mg Z H vs ds f) (hz : Same Z Z') (p : ∀ a ∈ f, ∀ o, H a = some o → H' a = some o) (q : ∀ a ∈ f, Z' a = none) : RpB K mg Z' H' vs ds f := RpB.mono0 hz h p q
theorem Rp.mono {v : V} {d : D} {f : List Addr} (h : Rp K mg Z H v d f) (hz : Same Z Z') (p : ∀ a ∈ f, ∀ o, H a = some o → H' a = some o) (q : ∀ a ∈ f, Z' a = none) : Rp K mg Z' H' v d f := Rp.mono0 hz h p q
theorem RpL.mono {vs : List V} {ds : List D} (h : RpL K mg Z H vs ds) (hz : Same Z Z') : RpL K mg Z' H' vs ds := RpL.mono0 hz h
theorem RpL.length : ∀ {vs : List V} {ds : List D}, RpL K mg Z H vs ds → vs.length = ds.length
  | _, _, .nil => rfl
  | _, _, .cons _ t => by simp [t.length]
theorem RpL.get : ∀ {vs : List V} {ds : List D} {i : Nat} {d : D}, RpL K mg Z H vs ds → ds[i]? = some d → ∃ v, vs[i]? = some v ∧ Rp K mg Z H v d []
  | _, _, _, _, .nil, e => by simp at e
  | _, _, 0, _, .cons h _, e => by simp at e; subst e; exact ⟨_, rfl, h⟩
  | _, _, i + 1, _, .cons _ t, e => by
    obtain ⟨v, h1, h2⟩ := RpL.get (i := i) t (by simpa using e)
    exact ⟨v, by simpa using h1, h2⟩
theorem RpL.append : ∀ {vs us : List V} {ds es : List D}, RpL K mg Z H vs ds → RpL K mg Z H us es → RpL K mg Z H (vs ++ us) (ds ++ es)
  | _, _, _, _, .nil, s => s
  | _, _, _, _, .cons h t, s => .cons h (t.append s)
theorem RpL.take : ∀ {vs : List V} {ds : List D} (n : Nat), RpL K mg Z H vs ds → RpL K mg Z H (vs.take n) (ds.take n)
  | _, _, 0, _ => .nil
  | _, _, _ + 1, .nil => .nil
  | _, _, n + 1, .cons h t => .cons h (t.take n)
theorem RpL.drop : ∀ {vs : List V} {ds : List D} (n : Nat), RpL K mg Z H vs ds → RpL K mg Z H (vs.drop n) (ds.drop n)
  | _, _, 0, h => h
  | _, _, _ + 1, .nil => .nil
  | _, _, n + 1, .cons h t => t.drop n
theorem RpL.set {v : V} {d : D} (r : Rp K mg Z H v d []) : ∀ {vs : List V} {ds : List D} (n : Nat), RpL K mg Z H vs ds → RpL K mg Z H (vs.set n v) (ds.set n d)
  | _, _, _, .nil => .nil
  | _, _, 0, .cons h t => .cons r t
  | _, _, n + 1, .cons h t => .cons h (t.set r n)
theorem RpL.erase : ∀ {vs : List V} {ds : List D} (n : Nat), RpL K mg Z H vs ds → RpL K mg Z H (vs.eraseIdx n) (ds.eraseIdx n)
  | _, _, _, .nil => .nil
  | _, _, 0, .cons h t => t
  | _, _, n + 1, .cons h t => .cons h (t.erase n)
theorem RpL.reverse : ∀ {vs : List V} {ds : List D}, RpL K mg Z H vs ds → RpL K mg Z H vs.reverse ds.reverse
  | _, _, .nil => .nil
  | _, _, .cons h t => by
    rw [List.reverse_cons, List.reverse_cons]
    exact t.reverse.append (.cons h .nil)
end
end T3
set_option Elab.async false
set_option linter.all false
set_option maxRecDepth 100000
set_option maxHeartbeats 4000000
namespace T3
open PySem PySem.Spec PyProof.Rows L2
section
variable {K : PySem.W.Frag} {mg : Str → Option Value} {Z H Z' H' Z1 H1 Z2 H2 : Hp}
theorem RpS.length : ∀ {σ : List (Option V)} {S : SS} {g : List Addr}, RpS K mg Z H σ S g → σ.length = S.length
  | _, _, _, .nil => rfl
  | _, _, _, .no t => by simp [t.length]
  | _, _, _, .yes _ t => by simp [t.length]
theorem RpS.mono (hz : Same Z Z') : ∀ {σ : List (Option V)} {S : SS} {g : List Addr}, RpS K mg Z H σ S g → (∀ a ∈ g, ∀ o, H a = some o → H' a = some o) → (∀ a ∈ g, Z' a = none) → RpS K mg Z' H' σ S g
  | _, _, _, .nil, _, _ => .nil
  | _, _, _, .no t, p, q => .no (t.mono hz p q)
  | _, _, _, .yes h t, p, q => .yes (h.mono hz (fun a m => p a (by simp [m])) fun a m => q a (by simp [m])) (t.mono hz (fun a m => p a (by simp [m])) fun a m => q a (by simp [m]))
theorem RpS.has : ∀ {σ : List (Option V)} {S : SS} {g : List Addr}, RpS K mg Z H σ S g → ∀ {a : Addr}, a ∈ g → (∃ u, H a = some u) ∧ Z a = none
  | _, _, _, .nil, _, m => by simp at m
  | _, _, _, .no t, _, m => t.has m
  | _, _, _, .yes h t, _, m => by
    rcases List.mem_append.mp m with m | m
    · exact h.has m
    · exact t.has m
theorem RpS.nt : ∀ {σ : List (Option V)} {S : SS} {g : List Addr}, RpS K mg Z H σ S g → ∀ {a : Addr}, a ∈ g → ∀ {o : HO}, H a = some o → Nt o
  | _, _, _, .nil, _, m, _, _ => by simp at m
  | _, _, _, .no t, _, m, _, e => t.nt m e
  | _, _, _, .yes h t, _, m, _, e => by
    rcases List.mem_append.mp m with m | m
    · exact h.nt m e
    · exact t.nt m e
theorem RpS.get : ∀ {σ : List (Option V)} {S : SS} {g : List Addr} {i : Nat} {d : D}, RpS K mg Z H σ S g → S[i]? = some (some d) → ∃ v f, σ[i]? = some (some v) ∧ Rp K mg Z H v d f ∧ ∀ a ∈ f, a ∈ g
  | _, _, _, _, _, .nil, e => by simp at e
  | _, _, _, 0, _, .no t, e => by simp at e
  | _, _, _, i + 1, _, .no t, e => by
    obtain ⟨v, f, h1, h2, h3⟩ := t.get (i := i) (by simpa using e)
    exact ⟨v, f, by simpa using h1, h2, h3⟩
  | _, _, _, 0, _, .yes h t, e => by
    simp at e; subst e
    exact ⟨_, _, rfl, h, fun a m => by simp [m]⟩
  | _, _, _, i + 1, _, .yes h t, e => by
    obtain ⟨v, f, h1, h2, h3⟩ := t.get (i := i) (by simpa using e)
    exact ⟨v, f, by simpa using h1, h2, fun a m => by simp [h3 a m]⟩
theorem RpS.take : ∀ {σ : List (Option V)} {S : SS} {g : List Addr} {i : Nat} {d : D}, RpS K mg Z H σ S g → S[i]? = some (some d) → ∃ v f g', σ[i]? = some (some v) ∧ Rp K mg Z H v d f ∧ RpS K mg Z H σ (S.set i none) g' ∧ (f ++ g').Perm g
  | _, _, _, _, _, .nil, e => by simp at e
  | _, _, _, 0, _, .no t, e => by simp at e
  | _, _, _, i + 1, _, .no t, e => by
    obtain ⟨v, f, g', h1, h2, h3, h4⟩ := t.take (i := i) (by simpa using e)
    exact ⟨v, f, g', by simpa using h1, h2, .no h3, h4⟩
  | _, _, _, 0, _, .yes h t, e => by
    simp at e; subst e
    exact ⟨_, _, _, rfl, h, .no t, .refl _⟩
  | _, _, _, i + 1, _, .yes (f := f0) h t, e => by
    obtain ⟨v, f, g', h1, h2, h3, h4⟩ := t.take (i := i) (by simpa using e)
    refine ⟨v, f, f0 ++ g', by simpa using h1, h2, .yes h h3, ?_⟩
    rw [← List.append_assoc]
    refine (List.perm_append_comm.append_right g').trans ?_
    rw [List.append_assoc]
    exact h4.append_left f0
theorem RpS.put {v : V} {d : D} {f : List Addr} (r : Rp K mg Z H v d f) : ∀ {σ : List (Option V)} {S : SS} {g : List Addr} {i : Nat}, RpS K mg Z H σ S g → i < S.length → ∃ g', RpS K mg Z H (σ.set i (some v)) (S.set i (some d)) g' ∧ ∃ r, (g' ++ r).Perm (f ++ g)
  | _, _, _, _, .nil, l => by simp at l
  | _, _, _, 0, .no t, l => ⟨_, .yes r t, [], by simp⟩
  | _, _, _, 0, .yes (f := f0) (g := g0) h t, l => ⟨_, .yes r t, f0, by
      rw [List.append_assoc]
      exact (List.perm_append_comm).append_left f⟩
  | _, _, _, i + 1, .no t, l => by
    obtain ⟨g', h1, q, h2⟩ := t.put r (i := i) (by simpa using l)
    exact ⟨g', .no h1, q, h2⟩
  | _, _, _, i + 1, .yes (f := f0) (g := g0) h t, l => by
    obtain ⟨g', h1, q, h2⟩ := t.put r (i := i) (by simpa using l)
    refine ⟨f0 ++ g', .yes h h1, q, ?_⟩
    rw [List.append_assoc]
    refine (h2.append_left f0).trans ?_
    rw [← List.append_assoc, ← List.append_assoc]
    exact List.perm_append_comm.append_right g0
theorem RpS.back {v : V} {d : D} {f : List Addr} (r : Rp K mg Z H v d f) {σ : List (Option V)} {S : SS} {g : List Addr} {i : Nat} (h : RpS K mg Z H σ S g) (e : σ[i]? = some (some v)) : ∃ g', RpS K mg Z H σ (S.set i (some d)) g' ∧ ∃ r, (g' ++ r).Perm (f ++ g) := by
  have l : i < σ.length := by
    rcases Nat.lt_or_ge i σ.length with l | l
    · exact l
    · rw [List.getElem?_eq_none l] at e; cases e
  obtain ⟨g', h1, h2⟩ := h.put r (i := i) (by rw [← h.length]; exact l)
  refine ⟨g', ?_, h2⟩
  have e2 : σ.set i (some v) = σ := by
    apply List.ext_getElem?
    intro j
    by_cases e3 : i = j
    · subst e3
      rw [List.getElem?_set_self l, e]
    · rw [List.getElem?_set_ne e3]
  rwa [e2] at h1
theorem RpS.drop : ∀ {σ : List (Option V)} {S : SS} {g : List Addr} (i : Nat), RpS K mg Z H σ S g → ∃ g', RpS K mg Z H σ (S.set i none) g' ∧ ∃ r, (g' ++ r).Perm g
  | _, _, _, _, .nil => ⟨_, .nil, [], by simp⟩
  | _, _, _, 0, .no t => ⟨_, .no t, [], by simp⟩
  | _, _, _, 0, .yes h t => ⟨_, .no t, _, List.perm_append_comm⟩
  | _, _, _, i + 1, .no t => by
    obtain ⟨g', h1, r, h2⟩ := t.drop i
    exact ⟨g', .no h1, r, h2⟩
  | _, _, _, i + 1, .yes (f := f0) h t => by
    obtain ⟨g', h1, r, h2⟩ := t.drop i
    refine ⟨_, .yes h h1, r, ?_⟩
    rw [List.append_assoc]
    exact h2.append_left f0
theorem RpS.setNone : ∀ {σ : List (Option V)} {S : SS} {g : List Addr} (i : Nat) (o : Option V), RpS K mg Z H σ S g → (S[i]? = some none ∨ S[i]? = none) → RpS K mg Z H (σ.set i o) S g
  | _, _, _, _, _, .nil, _ => .nil
  | _, _, _, 0, _, .no t, _ => .no t
  | _, _, _, 0, _, .yes h t, e => by simp at e
  | _, _, _, i + 1, o, .no t, e => .no (t.setNone i o (by simpa using e))
  | _, _, _, i + 1, o, .yes h t, e => .yes h (t.setNone i o (by simpa using e))
theorem RpS.unsetNone : ∀ {σ : List (Option V)} {S : SS} {g : List Addr} (i : Nat) (o : Option V), RpS K mg Z H (σ.set i o) S g → (S[i]? = some none ∨ S[i]? = none) → RpS K mg Z H σ S g
  | [], _, _, _, _, h, _ => by simpa using h
  | _ :: _, _, _, 0, _, .no t, _ => .no t
  | _ :: _, _, _, 0, _, .yes h t, e => by simp at e
  | _ :: _, _, _, i + 1, o, .no t, e => .no (t.unsetNone i o (by simpa using e))
  | x :: _, _, _, i + 1, o, h, e => by
    rw [List.set_cons_succ] at h
    cases h with
    | no t => exact .no (t.unsetNone i o (by simpa using e))
    | yes h t => exact .yes h (t.unsetNone i o (by simpa using e))
structure Fr (Z H : Hp) (g : List Addr) (Z' H' : Hp) (g' : List Addr) : Prop where
  z : Same Z Z'
  h : ∀ a o, H a = some o → a ∉ g → KeepT o (H' a)
  n : ∀ a o, H a = some o → Nt o → a ∉ g → Z a = none → Z' a = none
  f : ∀ a ∈ g', a ∈ g ∨ ∀ o, H a = some o → ¬ Nt o
theorem Fr.refl (Z H : Hp) (g : List Addr) : Fr Z H g Z H g := ⟨Same.refl _, fun _ _ h _ _ => h, fun _ _ _ _ _ h => h, fun _ h => .inl h⟩
theorem Fr.trans {g g1 g2 : List Addr} (a : Fr Z H g Z1 H1 g1) (b : Fr Z1 H1 g1 Z2 H2 g2) : Fr Z H g Z2 H2 g2 := by
  have out : ∀ c o, H c = some o → Nt o → c ∉ g → c ∉ g1 := fun c o h nt m m1 => by
    rcases a.f c m1 with z | z
    · exact m z
    · exact z o h nt
  refine ⟨a.z.trans b.z, fun c o h m nt => b.h c o (a.h c o h m nt) (out c o h nt m) nt, fun c o h nt m n => b.n c o (a.h c o h m nt) nt (out c o h nt m) (a.n c o h nt m n), fun c m => ?_⟩
  rcases b.f c m with m1 | m1
  · exact a.f c m1
  · by_cases mg : c ∈ g
    · exact .inl mg
    · exact .inr fun o e nt => m1 o (a.h c o e mg nt) nt
theorem Fr.sub {g g' g2 : List Addr} (a : Fr Z H g Z' H' g') (h : ∀ c ∈ g2, c ∈ g') : Fr Z H g Z' H' g2 := ⟨a.z, a.h, a.n, fun c m => a.f c (h c m)⟩
theorem Fr.wide {g g' q : List Addr} (a : Fr Z H g Z' H' g') (h : ∀ c ∈ g, c ∈ q) : Fr Z H q Z' H' g' := ⟨a.z, fun c o e m => a.h c o e fun z => m (h c z), fun c o e nt m => a.n c o e nt fun z => m (h c z), fun c m => (a.f c m).imp (h c) id⟩
theorem Rp.stay {g g' : List Addr} {v : V} {d : D} {f : List Addr} (r : Rp K mg Z H v d f) (a : Fr Z H g Z' H' g') (dj : ∀ c ∈ f, c ∉ g) : Rp K mg Z' H' v d f :=
  r.mono a.z (fun c m o e => (a.h c o e (dj c m)).nt (r.nt m e)) fun c m => by
    obtain ⟨⟨u, e⟩, n⟩ := r.has m
    exact a.n c u e (r.nt m e) (dj c m) n
theorem RpS.stay {g g' : List Addr} {σ : List (Option V)} {S : SS} {f : List Addr} (r : RpS K mg Z H σ S f) (a : Fr Z H g Z' H' g') (dj : ∀ c ∈ f, c ∉ g) : RpS K mg Z' H' σ S f :=
  r.mono a.z (fun c m o e => (a.h c o e (dj c m)).nt (r.nt m e)) fun c m => by
    obtain ⟨⟨u, e⟩, n⟩ := r.has m
    exact a.n c u e (r.nt m e) (dj c m) n
theorem Rp.apart {g g' : List Addr} {v : V} {d : D} {f : List Addr} (r : Rp K mg Z H v d f) (a : Fr Z H g Z' H' g') (dj : ∀ c ∈ f, c ∉ g) : ∀ c ∈ f, c ∉ g' := fun c m m' => by
  rcases a.f c m' with z | z
  · exact dj c m z
  · obtain ⟨⟨u, e⟩, n⟩ := r.has m
    exact z u e (r.nt m e)
structure Sim (K : PySem.W.Frag) (mg : Str → Option Value) (Z H : Hp) (σ : List (Option V)) (S : SS) (g : List Addr) : Prop where
  r : RpS K mg Z H σ S g
  nd : g.Nodup
  s : Same Z H
  t : TabZ K Z H
inductive Rs (α : Type) where
  | ok (a : α) (S : SS)
  | exc (e : D) (S : SS)
  | stk
def Rs.bind {α β : Type} (r : Rs α) (f : α → SS → Rs β) : Rs β := match r with
  | .ok a S => f a S
  | .exc e S => .exc e S
  | .stk => .stk
def Rs.post {α : Type} (r : Rs α) (P : α → SS → Prop) (E : D → SS → Prop) : Prop := match r with
  | .ok a S => P a S
  | .exc e S => E e S
  | .stk => False
@[simp] theorem Rs.bind_ok {α β : Type} (a : α) (S : SS) (f : α → SS → Rs β) : (Rs.ok a S).bind f = f a S := rfl
@[simp] theorem Rs.bind_exc {α β : Type} (e : D) (S : SS) (f : α → SS → Rs β) : (Rs.exc e S : Rs α).bind f = .exc e S := rfl
@[simp] theorem Rs.bind_stk {α β : Type} (f : α → SS → Rs β) : (Rs.stk : Rs α).bind f = .stk := rfl
theorem Rs.bind_post {α β : Type} {r : Rs α} {f : α → SS → Rs β} {P : β → SS → Prop} {E : D → SS → Prop} : (r.bind f).post P E ↔ r.post (fun a S => (f a S).post P E) E := by
  cases r <;> rfl
theorem Rs.post_mono {α : Type} {r : Rs α} {P P' : α → SS → Prop} {E E' : D → SS → Prop} (h : r.post P E) (hp : ∀ a S, P a S → P' a S) (he : ∀ e S, E e S → E' e S) : r.post P' E' := by
  cases r with
  | ok a S => exact hp _ _ h
  | exc e S => exact he _ _ h
  | stk => exact h.elim
def Rs.ofO {α : Type} (o : Option α) (S : SS) : Rs α := match o with
  | some a => .ok a S
  | none => .stk
@[simp] theorem Rs.ofO_some {α : Type} (a : α) (S : SS) : Rs.ofO (some a) S = .ok a S := rfl
@[simp] theorem Rs.ofO_none {α : Type} (S : SS) : Rs.ofO (none : Option α) S = .stk := rfl
abbrev Fe := SS → Rs D
abbrev Sg := List (Option V)
def RpX (K : PySem.W.Frag) (mg : Str → Option Value) (Z H : Hp) (c : Value) (dx : Option Addr) (e : D) : Prop :=
  ∃ (n : Str) (C : Addr) (ds : List (Str × D)), e = .ins .fz n ds ∧ mg n = some (.ref C) ∧ c = .ref C ∧
    ∃ fs : List (Str × V), fs.map (·.1) = ds.map (·.1) ∧ RpL K mg Z H (fs.map (·.2)) (ds.map (·.2)) ∧ ((ds = [] ∧ dx = none) ∨ ∃ x, dx = some x ∧ Z x = some (.xd fs))
abbrev WX := Value → Option Addr → Sg → Hp → Prop
abbrev W0 : WX := fun _ _ _ _ => False
abbrev OkE (K : PySem.W.Frag) (mg : Str → Option Value) (Z H : Hp) (σ : Sg) (g : List Addr) (Q : VK) (d : D) (S' : SS) : Prop :=
  ∀ v Z' H' f g', Rp K mg Z' H' v d f → Sim K mg Z' H' σ S' g' → (∀ c ∈ f, c ∉ g') → Fr Z H g Z' H' (f ++ g') → Q v H'
abbrev OkV (K : PySem.W.Frag) (mg : Str → Option Value) (Z H : Hp) (σ : Sg) (g : List Addr) (Q : VK) (d : D) (S' : SS) : Prop :=
  ∀ v Z' H' f g', Rp K mg Z' H' v d f → Sim K mg Z' H' σ S' g' → Fr Z H g Z' H' g' → Q v H'
abbrev ExE (K : PySem.W.Frag) (mg : Str → Option Value) (W : WX) (Z H : Hp) (σ : Sg) (g : List Addr) (e : D) (S' : SS) : Prop :=
  ∀ c dx Z' H' g', RpX K mg Z' H' c dx e → Sim K mg Z' H' σ S' g' → Fr Z H g Z' H' g' → W c dx σ H'
def Fn (K : PySem.W.Frag) (mg : Str → Option Value) (W : WX) (t : TE) (f : Fe) : Prop :=
  ∀ Z H σ S g Q, Sim K mg Z H σ S g → (f S).post (OkE K mg Z H σ g Q) (ExE K mg W Z H σ g) → t σ H Q
def Vw (K : PySem.W.Frag) (mg : Str → Option Value) (W : WX) (t : TE) (f : Fe) : Prop :=
  ∀ Z H σ S g Q, Sim K mg Z H σ S g → (f S).post (OkV K mg Z H σ g Q) (ExE K mg W Z H σ g) → t σ H Q
def FnT (K : PySem.W.Frag) (mg : Str → Option Value) (W : WX) (t : TT) (f : SS → Rs Bool) : Prop :=
  ∀ Z H σ S g Q, Sim K mg Z H σ S g → (f S).post (fun b S' => ∀ Z' H' g', Sim K mg Z' H' σ S' g' → Fr Z H g Z' H' g' → Q b H') (ExE K mg W Z H σ g) → t σ H Q
section
variable {W : WX} {ta tb : TE} {fa fb : Fe}
theorem Fn.vw (h : Fn K mg W ta fa) : Vw K mg W ta fa := fun Z H σ S g Q sim p =>
  h Z H σ S g Q sim (Rs.post_mono p (fun d S' q v Z' H' f g' r s dj fr => q v Z' H' f g' r s (fr.sub fun c m => by simp [m])) fun _ _ q => q)
theorem ExE.from {Z H Z1 H1 : Hp} {σ : Sg} {g g1 : List Addr} {e : D} {S' : SS} (h : ExE K mg W Z H σ g e S') (fr : Fr Z H g Z1 H1 g1) : ExE K mg W Z1 H1 σ g1 e S' :=
  fun c dx Z' H' g' r s f => h c dx Z' H' g' r s (fr.trans f)
theorem Fn.bin (ha : Fn K mg W ta fa) (hb : Fn K mg W tb fb) {Z H : Hp} {σ : Sg} {S : SS} {g : List Addr} (sim : Sim K mg Z H σ S g) {R : V → V → Hp → Prop} {α : Type} {k : D → D → SS → Rs α} {P : α → SS → Prop}
    (p : ((fa S).bind fun d1 S1 => (fb S1).bind fun d2 S2 => k d1 d2 S2).post P (ExE K mg W Z H σ g))
    (hk : ∀ x d1 f1 y d2 f2 Z' H' S' g', Rp K mg Z' H' x d1 f1 → Rp K mg Z' H' y d2 f2 → Sim K mg Z' H' σ S' g' → (∀ c ∈ f1, c ∉ f2 ++ g') → (∀ c ∈ f2, c ∉ g') → Fr Z H g Z' H' (f1 ++ (f2 ++ g')) → (k d1 d2 S').post P (ExE K mg W Z H σ g) → R x y H') :
    ta σ H fun x H1 => tb σ H1 fun y H2 => R x y H2 := by
  refine ha Z H σ S g _ sim ?_
  rw [Rs.bind_post] at p
  refine Rs.post_mono p (fun d1 S1 p1 x Z1 H1 f1 g1 r1 s1 dj1 fr1 => ?_) fun _ _ q => q
  refine hb Z1 H1 σ S1 g1 _ s1 ?_
  rw [Rs.bind_post] at p1
  refine Rs.post_mono p1 (fun d2 S2 p2 y Z2 H2 f2 g2 r2 s2 dj2 fr2 => ?_) fun _ _ q => q.from (fr1.sub (g2 := g1) fun c m => by simp [m])
  refine hk x d1 f1 y d2 f2 Z2 H2 S2 g2 (r1.stay fr2 dj1) r2 s2 (r1.apart fr2 dj1) dj2 ?_ p2
  have fr12 := (fr1.sub (g2 := g1) fun c m => by simp [m]).trans fr2
  refine ⟨fr12.z, fr12.h, fr12.n, fun c m => ?_⟩
  rcases List.mem_append.mp m with m | m
  · exact fr1.f c (by simp [m])
  · exact fr12.f c m
theorem Fn.binV (ha : Fn K mg W ta fa) (hb : Vw K mg W tb fb) {Z H : Hp} {σ : Sg} {S : SS} {g : List Addr} (sim : Sim K mg Z H σ S g) {R : V → V → Hp → Prop} {α : Type} {k : D → D → SS → Rs α} {P : α → SS → Prop}
    (p : ((fa S).bind fun d1 S1 => (fb S1).bind fun d2 S2 => k d1 d2 S2).post P (ExE K mg W Z H σ g))
    (hk : ∀ x d1 f1 y d2 f2 Z' H' S' g', Rp K mg Z' H' x d1 f1 → Rp K mg Z' H' y d2 f2 → Sim K mg Z' H' σ S' g' → Fr Z H g Z' H' g' → (k d1 d2 S').post P (ExE K mg W Z H σ g) → R x y H') :
    ta σ H fun x H1 => tb σ H1 fun y H2 => R x y H2 := by
  refine ha Z H σ S g _ sim ?_
  rw [Rs.bind_post] at p
  refine Rs.post_mono p (fun d1 S1 p1 x Z1 H1 f1 g1 r1 s1 dj1 fr1 => ?_) fun _ _ q => q
  refine hb Z1 H1 σ S1 g1 _ s1 ?_
  rw [Rs.bind_post] at p1
  refine Rs.post_mono p1 (fun d2 S2 p2 y Z2 H2 f2 g2 r2 s2 fr2 => ?_) fun _ _ q => q.from (fr1.sub (g2 := g1) fun c m => by simp [m])
  exact hk x d1 f1 y d2 f2 Z2 H2 S2 g2 (r1.stay fr2 dj1) r2 s2 ((fr1.sub (g2 := g1) fun c m => by simp [m]).trans fr2) p2
end
structure Ext (Z H Z' H' : Hp) (f : List Addr) : Prop where
  z : Same Z Z'
  h : Same H H'
  s : Same Z' H'
  n : ∀ a o, H a = some o → Z a = none → Z' a = none
  f : ∀ a ∈ f, H a = none
  t : ∀ a o, Z' a = some o → Z a = some o ∨ Nt o
theorem Ext.refl (hs : Same Z H) : Ext Z H Z H [] := ⟨Same.refl _, Same.refl _, hs, fun _ _ _ h => h, by simp, fun _ _ h => .inl h⟩
theorem Ext.fr {f g : List Addr} (e : Ext Z H Z' H' f) : Fr Z H g Z' H' (f ++ g) := ⟨e.z, fun a o h _ _ => e.h a o h, fun a o h _ _ => e.n a o h, fun a m => by
  rcases List.mem_append.mp m with m | m
  · exact .inr fun o h => by rw [e.f a m] at h; cases h
  · exact .inl m⟩
theorem Ext.sim {f g : List Addr} {σ : Sg} {S : SS} (e : Ext Z H Z' H' f) (s : Sim K mg Z H σ S g) : Sim K mg Z' H' σ S g :=
  ⟨s.r.mono e.z (fun a m o h => e.h a o h) fun a m => by
    obtain ⟨⟨u, h⟩, n⟩ := s.r.has m
    exact e.n a u h n, s.nd, e.s, s.t.h.ext e.h, fun b o q => (e.t b o q).elim (s.t.z b o) id⟩
theorem Ext.dj {f g : List Addr} {σ : Sg} {S : SS} (e : Ext Z H Z' H' f) (s : Sim K mg Z H σ S g) : ∀ c ∈ f, c ∉ g := fun c m m' => by
  obtain ⟨⟨u, h⟩, n⟩ := s.r.has m'
  rw [e.f c m] at h; cases h
theorem Ext.newF (hs : Same Z H) {p : Addr} {o : HO} (hp : H p = none) (no : Nt o := by intro _ z; cases z) : Ext Z H (upd Z p o) (upd H p o) [] := by
  have zp : Z p = none := hs.free hp
  refine ⟨fun a u h => ?_, fun a u h => ?_, fun a u h => ?_, fun a u h n => ?_, by simp, fun a u h => ?_⟩
  · rw [upd_ne (ne_of_none h zp)]; exact h
  · rw [upd_ne (ne_of_none h hp)]; exact h
  · by_cases e : a = p
    · subst e; rw [upd_same] at h ⊢; exact h
    · rw [upd_ne e] at h ⊢; exact hs a u h
  · rw [upd_ne (ne_of_none h hp)]; exact n
  · by_cases e : a = p
    · subst e; rw [upd_same] at h; cases h; exact .inr no
    · rw [upd_ne e] at h; exact .inl h
theorem Ext.newO (hs : Same Z H) {p : Addr} {o : HO} (hp : H p = none) : Ext Z H Z (upd H p o) [p] := by
  refine ⟨Same.refl _, fun a u h => ?_, fun a u h => ?_, fun a u h n => n, fun a m => ?_, fun _ _ h => .inl h⟩
  · rw [upd_ne (ne_of_none h hp)]; exact h
  · rw [upd_ne (ne_of_none (hs a u h) hp)]; exact hs a u h
  · simp at m; subst m; exact hp
theorem Rp.newO {p : Addr} {vs : List V} {ds : List D} (hs : Same Z H) (hp : H p = none) (r : RpL K mg Z H vs ds) : Rp K mg Z (upd H p (.lst vs)) (.ref p) (.lst .ow ds) [p] :=
  .lst ⟨upd_same, hs.free hp, rfl⟩ (r.mono (Same.refl _))
theorem Rp.newT {p : Addr} {vs : List V} {ds : List D} (hs : Same Z H) (hp : H p = none) (r : RpL K mg Z H vs ds) : Rp K mg (upd Z p (.tup vs)) (upd H p (.tup vs)) (.ref p) (.tup ds) [] :=
  .tup upd_same (r.mono (Ext.newF (o := .tup vs) hs hp).z)
def OpF (K : PySem.W.Frag) (mg : Str → Option Value) (r : R2) (g : D → D → Option D) : Prop :=
  ∀ Z H x y dx dy f1 f2 d Q, Same Z H → Rp K mg Z H x dx f1 → Rp K mg Z H y dy f2 → g dx dy = some d → (∀ v Z' H' f, Rp K mg Z' H' v d f → Ext Z H Z' H' f → Q v H') → r x y H Q
def UnF (K : PySem.W.Frag) (mg : Str → Option Value) (r : V → Hp → VK → Prop) (g : D → Option D) : Prop :=
  ∀ Z H x dx f1 d Q, Same Z H → Rp K mg Z H x dx f1 → g dx = some d → (∀ v Z' H' f, Rp K mg Z' H' v d f → Ext Z H Z' H' f → Q v H') → r x H Q
def fOp (g : D → D → Option D) (fa fb : Fe) : Fe := fun S => (fa S).bind fun d1 S1 => (fb S1).bind fun d2 S2 => Rs.ofO (g d1 d2) S2
def fUn (g : D → Option D) (fa : Fe) : Fe := fun S => (fa S).bind fun d1 S1 => Rs.ofO (g d1) S1
section
variable {W : WX} {ta tb : TE} {fa fb : Fe} {r : R2} {g : D → D → Option D}
theorem fn_opV (o : OpF K mg r g) (ha : Fn K mg W ta fa) (hb : Vw K mg W tb fb) : Fn K mg W (tOp r ta tb) (fOp g fa fb) := fun Z H σ S gg Q sim p => by
  refine Fn.binV ha hb sim (k := fun d1 d2 S2 => Rs.ofO (g d1 d2) S2) p fun x d1 f1 y d2 f2 Z' H' S' g' r1 r2 s fr q => ?_
  cases e : g d1 d2 with
  | none => rw [e] at q; exact q.elim
  | some d =>
    rw [e] at q
    exact o Z' H' x y d1 d2 f1 f2 d Q s.s r1 r2 e fun v Z2 H2 f rv ex => q v Z2 H2 f g' rv (ex.sim s) (ex.dj s) (fr.trans ex.fr)
theorem fn_un {r : V → Hp → VK → Prop} {g : D → Option D} (o : UnF K mg r g) (ha : Vw K mg W ta fa) : Fn K mg W (tUn r ta) (fUn g fa) := fun Z H σ S gg Q sim p => by
  refine ha Z H σ S gg _ sim ?_
  have p' : ((fa S).bind fun d1 S1 => Rs.ofO (g d1) S1).post _ _ := p
  rw [Rs.bind_post] at p'
  refine Rs.post_mono p' (fun d1 S1 p1 x Z1 H1 f1 g1 r1 s1 fr1 => ?_) fun _ _ q => q
  cases e : g d1 with
  | none => rw [e] at p1; exact p1.elim
  | some d =>
    rw [e] at p1
    exact o Z1 H1 x d1 f1 d Q s1.s r1 e fun v Z2 H2 f rv ex => p1 v Z2 H2 f g1 rv (ex.sim s1) (ex.dj s1) (fr1.trans ex.fr)
end
end
end T3
set_option Elab.async false
set_option linter.all false
set_option maxRecDepth 100000
set_option maxHeartbeats 4000000
namespace T3
open PySem PySem.Spec PyProof.Rows L2
section
variable {K : PySem.W.Frag} {mg : Str → Option Value} {Z H Z' H' : Hp}
theorem Rp.int_inv {v : V} {i : Int} {f : List Addr} (r : Rp K mg Z H v (.int i) f) : v = .int i ∧ f = [] := by cases r; exact ⟨rfl, rfl⟩
theorem Rp.str_inv {v : V} {i : Str} {f : List Addr} (r : Rp K mg Z H v (.str i) f) : v = .str i ∧ f = [] := by cases r; exact ⟨rfl, rfl⟩
theorem Rp.bl_inv {v : V} {i : Bool} {f : List Addr} (r : Rp K mg Z H v (.bl i) f) : v = .bl i ∧ f = [] := by cases r; exact ⟨rfl, rfl⟩
theorem Rp.lst_inv {v : V} {o : Tg} {ds : List D} {f : List Addr} (r : Rp K mg Z H v (.lst o ds) f) : ∃ a vs, v = .ref a ∧ At K Z H o a (.lst vs) f ∧ RpL K mg Z H vs ds := by cases r; exact ⟨_, _, rfl, ‹_›, ‹_›⟩
theorem Rp.tup_inv {v : V} {ds : List D} {f : List Addr} (r : Rp K mg Z H v (.tup ds) f) : ∃ a vs, v = .ref a ∧ Z a = some (.tup vs) ∧ f = [] ∧ RpL K mg Z H vs ds := by cases r; exact ⟨_, _, rfl, ‹_›, rfl, ‹_›⟩
theorem Rp.dK_inv {v : V} {o : Tg} {ds : List (Key × D)} {f : List Addr} (r : Rp K mg Z H v (.dK o ds) f) : ∃ a kvs, v = .ref a ∧ At K Z H o a (.dK kvs) f ∧ kvs.map (·.1) = ds.map (·.1) ∧ RpL K mg Z H (kvs.map (·.2)) (ds.map (·.2)) := by cases r; exact ⟨_, _, rfl, ‹_›, ‹_›, ‹_›⟩
theorem Rp.dT_inv {v : V} {o : Tg} {ds : List (List Key × D)} {f : List Addr} (r : Rp K mg Z H v (.dT o ds) f) : ∃ a kvs, v = .ref a ∧ At K Z H o a (.dT kvs) f ∧ kvs.map (·.1) = ds.map (·.1) ∧ RpL K mg Z H (kvs.map (·.2)) (ds.map (·.2)) := by cases r; exact ⟨_, _, rfl, ‹_›, ‹_›, ‹_›⟩
theorem seq_dK {o : Tg} {a : Addr} {kvs : List (Key × V)} {f : List Addr} (hs : Same Z H) (h : At K Z H o a (.dK kvs) f) : H a = some (.dK kvs) := by
  cases o with
  | ex => obtain ⟨⟨vs, e, _⟩, _⟩ := h; cases e
  | fz => exact hs _ _ h.1
  | ow => exact h.1
theorem seq_dT {o : Tg} {a : Addr} {kvs : List (List Key × V)} {f : List Addr} (hs : Same Z H) (h : At K Z H o a (.dT kvs) f) : H a = some (.dT kvs) := by
  cases o with
  | ex => obtain ⟨⟨vs, e, _⟩, _⟩ := h; cases e
  | fz => exact hs _ _ h.1
  | ow => exact h.1
def gI (p : Int → Int → Option D) : D → D → Option D
  | .int i, .int j => p i j
  | _, _ => none
theorem opI {r : R2} {p : Int → Int → Option D} (h : ∀ i j d H (Q : VK), p i j = some d → (∀ v, (∀ K mg Z H, Rp K mg Z H v d []) → Q v H) → r (.int i) (.int j) H Q) : OpF K mg r (gI p) := by
  intro Z H x y dx dy f1 f2 d Q hs r1 r2 e q
  unfold gI at e
  split at e
  · obtain ⟨rfl, _⟩ := r1.int_inv
    obtain ⟨rfl, _⟩ := r2.int_inv
    exact h _ _ d H Q e fun v rv => q v Z H [] (rv _ _ _ _) (.refl hs)
  · cases e
theorem opI0 {g : Int → Int → Int} : OpF K mg (rI0 fun i j => .int (g i j)) (gI fun i j => some (.int (g i j))) := opI fun i j d H Q e q => by
  cases e
  exact ⟨i, j, rfl, rfl, q _ fun _ _ _ _ => .int _⟩
theorem opIB {g : Int → Int → Bool} : OpF K mg (rI0 fun i j => .bl (g i j)) (gI fun i j => some (.bl (g i j))) := opI fun i j d H Q e q => by
  cases e
  exact ⟨i, j, rfl, rfl, q _ fun _ _ _ _ => .bl _⟩
theorem opIC {C : Int → Int → Prop} [∀ i j, Decidable (C i j)] {g : Int → Int → Int} : OpF K mg (rI C fun i j => .int (g i j)) (gI fun i j => if C i j then some (.int (g i j)) else none) := opI fun i j d H Q e q => by
  split at e
  · cases e
    exact ⟨i, j, rfl, rfl, ‹_›, q _ fun _ _ _ _ => .int _⟩
  · cases e
def MulOk (i j : Int) : Prop := i.natAbs < 2 ^ 64 ∨ j.natAbs < 2 ^ 64 ∨ (i.natAbs < 2 ^ 2000 ∧ j.natAbs < 2 ^ 2000)
instance (i j : Int) : Decidable (MulOk i j) := by unfold MulOk; exact inferInstance
def DivOk (_ j : Int) : Prop := 0 < j ∧ j.natAbs < 2 ^ 2000
instance (i j : Int) : Decidable (DivOk i j) := by unfold DivOk; exact inferInstance
def PowOk (i j : Int) : Prop := 0 ≤ j ∧ j ≤ 1000000 ∧ i.natAbs < 2 ^ 64
instance (i j : Int) : Decidable (PowOk i j) := by unfold PowOk; exact inferInstance
def PowW (i j : Int) : Prop := PowOk i j ∨ (0 ≤ j ∧ j ≤ 1000 ∧ i.natAbs < 2 ^ 2000)
instance (i j : Int) : Decidable (PowW i j) := by unfold PowW; exact inferInstance
section
variable {X : Cx}
theorem op_mulA : OpR X (binaryOp .Mult) (rI MulOk fun i j => .int (i * j)) := fun pins s σ H x y v u Q I r1 r2 h => by
  obtain ⟨i, j, rfl, rfl, hc, q⟩ := h
  rcases hc with hc | hc | ⟨h1, h2⟩
  · exact op_mul pins s σ H _ _ v u Q I r1 r2 ⟨i, j, rfl, rfl, .inl (by omega), q⟩
  · exact op_mul pins s σ H _ _ v u Q I r1 r2 ⟨i, j, rfl, rfl, .inr (by omega), q⟩
  · exact op_mulW pins s σ H _ _ v u Q I r1 r2 ⟨i, j, rfl, rfl, wide_mul h1 h2 (by decide) (by decide) (by decide), q⟩
theorem op_divA : OpR X (binaryOp .FloorDiv) (rI DivOk fun i j => .int (i / j)) := fun pins s σ H x y v u Q I r1 r2 h => by
  obtain ⟨i, j, rfl, rfl, ⟨h1, h2⟩, q⟩ := h
  exact op_fdivW pins s σ H _ _ v u Q I r1 r2 ⟨i, j, rfl, rfl, wide_div h1 h2 (by decide) (by decide), q⟩
theorem op_powA : OpR X (binaryOp .Pow) (rI PowW fun i j => .int (i ^ j.toNat)) := fun pins s σ H x y v u Q I r1 r2 h => by
  obtain ⟨i, j, rfl, rfl, hc, q⟩ := h
  rcases hc with hc | ⟨h0, h1, h2⟩
  · exact op_pow pins s σ H _ _ v u Q I r1 r2 ⟨i, j, rfl, rfl, hc, q⟩
  · obtain ⟨t, rfl⟩ := r1
    obtain ⟨t', rfl⟩ := r2
    have hb : Builtin.Int.intBits i ≤ 2000 := intBits_le h2
    refine PyProof.Rows.pow_int h0 ?_ ⟨V.int (i ^ j.toNat), H, I.tok _, ⟨_, rfl⟩, q⟩
    have h3 : (Builtin.Int.intBits i : Int) * j ≤ 2000 * j := Int.mul_le_mul_of_nonneg_right (by omega) h0
    omega
theorem op_shlA : OpR X (binaryOp .LShift) (rI PowOk fun i j => .int (i * 2 ^ j.toNat)) := op_shl
end
mutual
def toPy : D → Option PyData
  | .non => some .none
  | .bl b => some (.bool b)
  | .int i => some (.int i)
  | .str x => some (.str x)
  | .tup xs => (toPyL xs).map .tuple
  | .lst _ xs => (toPyL xs).map .list
  | .dK _ _ => none
  | .dT _ _ => none
  | .ins _ _ _ => none
  | .nl _ => none
  | .nd _ => none
  | .ni _ _ => none
  | .dL _ => none
  | .xc _ _ => none
  | .hole _ => none
  | .tp _ => none
def toPyL : List D → Option (List PyData)
  | [] => some []
  | d :: ds => (toPy d).bind fun p => (toPyL ds).bind fun ps => some (p :: ps)
end
mutual
theorem Rp.dp (hs : Same Z H) : ∀ {v : V} {d : D} {f : List Addr} {p : PyData}, Rp K mg Z H v d f → toPy d = some p → Dp K H v p
  | _, _, _, _, .non, e => by simp [toPy] at e; subst e; exact .non
  | _, _, _, _, .bl b, e => by simp [toPy] at e; subst e; exact .bl _
  | _, _, _, _, .int b, e => by simp [toPy] at e; subst e; exact .int _
  | _, _, _, _, .str b, e => by simp [toPy] at e; subst e; exact .str _
  | _, _, _, _, .tup h r, e => by
    simp only [toPy, Option.map_eq_some_iff] at e
    obtain ⟨ps, e1, rfl⟩ := e
    exact .tup (.of (hs _ _ h)) (RpL.dp hs r e1)
  | _, _, _, _, .lst h r, e => by
    simp only [toPy, Option.map_eq_some_iff] at e
    obtain ⟨ps, e1, rfl⟩ := e
    exact .lst (h.seq hs) (RpL.dp hs r e1)
  | _, _, _, _, .dK h e1 r, e => by simp [toPy] at e
  | _, _, _, _, .dT h e1 r, e => by simp [toPy] at e
  | _, _, _, _, .ins hc h e1 r, e => by simp [toPy] at e
  | _, _, _, _, .nl h n r nd, e => by simp [toPy] at e
  | _, _, _, _, .ndd h n e1 r nd, e => by simp [toPy] at e
  | _, _, _, _, .nins hc h n e1 r nd, e => by simp [toPy] at e
  | _, _, _, _, .dL h e1 r, e => by simp [toPy] at e
  | _, _, _, _, .hole v, e => by simp [toPy] at e
  | _, _, _, _, .tp h hd r, e => by simp [toPy] at e
  | _, _, _, _, .xc0 hc h, e => by simp [toPy] at e
  | _, _, _, _, .xc hc h h2 e1 r, e => by simp [toPy] at e
theorem RpL.dp (hs : Same Z H) : ∀ {vs : List V} {ds : List D} {ps : List PyData}, RpL K mg Z H vs ds → toPyL ds = some ps → DpAll K H vs ps
  | _, _, _, .nil, e => by simp [toPyL] at e; subst e; exact .nil
  | _, _, _, .cons h t, e => by
    simp only [toPyL, Option.bind_eq_some_iff] at e
    obtain ⟨p, e1, ps, e2, e3⟩ := e
    cases e3
    exact .cons (Rp.dp hs h e1) (RpL.dp hs t e2)
end
def plainD (d : D) : Option PyData := (toPy d).bind fun p => if SeqAt.shaped p = true then some p else none
theorem plainD_ok {d : D} {p : PyData} (h : plainD d = some p) : toPy d = some p ∧ SeqAt.shaped p = true := by
  unfold plainD at h
  cases e : toPy d with
  | none => rw [e] at h; cases h
  | some q =>
    rw [e] at h
    simp only [Option.bind_some] at h
    split at h
    · cases h; exact ⟨rfl, ‹_›⟩
    · cases h
def gEq (a b : D) : Option D := (plainD a).bind fun p => (plainD b).bind fun q => some (.bl (PyData.eqv p q))
def gNe (a b : D) : Option D := (plainD a).bind fun p => (plainD b).bind fun q => some (.bl (!PyData.eqv p q))
theorem opEq : OpF K mg (rEqD K) gEq := by
  intro Z H x y dx dy f1 f2 d Q hs r1 r2 e q
  simp only [gEq, Option.bind_eq_some_iff] at e
  obtain ⟨p1, e1, p2, e2, e3⟩ := e
  cases e3
  obtain ⟨a1, b1⟩ := plainD_ok e1
  obtain ⟨a2, b2⟩ := plainD_ok e2
  exact ⟨p1, p2, r1.dp hs a1, r2.dp hs a2, b1, b2, q _ Z H [] (.bl _) (.refl hs)⟩
theorem opNe : OpF K mg (rNeD K) gNe := by
  intro Z H x y dx dy f1 f2 d Q hs r1 r2 e q
  simp only [gNe, Option.bind_eq_some_iff] at e
  obtain ⟨p1, e1, p2, e2, e3⟩ := e
  cases e3
  obtain ⟨a1, b1⟩ := plainD_ok e1
  obtain ⟨a2, b2⟩ := plainD_ok e2
  exact ⟨p1, p2, r1.dp hs a1, r2.dp hs a2, b1, b2, q _ Z H [] (.bl _) (.refl hs)⟩
def rCatT0 (K : PySem.W.Frag) : R2 := fun x y H Q => ∃ a b ys, x = .ref a ∧ y = .ref b ∧ SqT K H a [] ∧ SqT K H b ys ∧ Q (.ref b) H
theorem op_catT0 {X : Cx} : OpR X (binaryOp .Add) (rCatT0 X.K) := by
  intro pins s σ H x y v u Q I rx ry h
  obtain ⟨a, b, ys, rfl, rfl, ha, hb, q⟩ := h
  cases rx
  cases ry
  obtain ⟨its, r1, p1, _⟩ := I.tuple ha
  obtain ⟨its2, r2, p2, _⟩ := I.tuple hb
  cases r1
  obtain ⟨⟨cls, dd, data, sl⟩, ho, hc, n, hd⟩ := id p1
  obtain ⟨⟨cls2, dd2, data2, sl2⟩, ho2, hc2, n2, hd2⟩ := id p2
  simp only at hc hd hc2 hd2
  subst hc hd hc2 hd2
  exact concat_meets ⟨_, ho, rfl⟩ ⟨_, ho2, rfl⟩ noFill_tuple_add seq_tuple_add PySem.F.slot_tuple_add PySem.F.entry_tuple_add (PySem.F.args_tuple_add_2 _ _)
      (tuple_addW0 a b _ _ n n2 dd dd2 sl sl2 (by simp)) ⟨ho, ho2, ⟨.ref b, H, I, rfl, q⟩⟩
def rCatX (K : PySem.W.Frag) : R2 := fun x y H Q => ∃ l b xs zs, x = .ref l ∧ y = .ref b ∧ SqL K H l xs ∧ SqL K H b zs ∧ xs.length + zs.length ≤ sizeLine ∧ ∀ p, H p = none → Q (.ref p) (upd H p (.lst (xs ++ zs)))
theorem op_catX {X : Cx} : OpR X (binaryOp .Add) (rCatX X.K) := by
  intro pins s σ H x y v u Q I rx ry h
  obtain ⟨l, b, xs, zs, rfl, rfl, ha, hb, hz, q⟩ := h
  cases rx
  cases ry
  obtain ⟨its, r1, p1, _⟩ := I.list ha
  obtain ⟨its2, r2, p2, _⟩ := I.list hb
  have e1 := r1.length
  have e2 := r2.length
  obtain ⟨⟨cls, dd, data, sl⟩, n, ho, hc, hdd, hd⟩ := id p1
  obtain ⟨⟨cls2, dd2, data2, sl2⟩, n2, ho2, hc2, hdd2, hd2⟩ := id p2
  simp only at hc hd hc2 hd2 hdd hdd2
  subst hc hd hc2 hd2
  refine concat_meets ⟨_, ho, rfl⟩ ⟨_, ho2, rfl⟩ noFill_list_add seq_list_add PySem.F.slot_list_add PySem.F.entry_list_add (PySem.F.args_list_add_2 _ _)
      (list_addW l b _ _ n n2 dd dd2 sl sl2 (by simp only [List.size_toArray]; omega)) ⟨ho, ho2, ?_⟩
  have ea : its.toArray ++ its2.toArray = (its ++ its2).toArray := by simp
  rw [ea]
  exact ⟨.ref _, _, I.lnew (t' := s.toks) (r1.append r2) (by rw [List.length_append]; omega), rfl, q _ I.fresh⟩
def gAdd : D → D → Option D
  | .lst .ex xs, .lst .ow ys => if xs.length + ys.length ≤ sizeLine then some (.lst .ow (xs ++ ys)) else none
  | .int i, .int j => some (.int (i + j))
  | .str a, .str b => if a.length + b.length ≤ sizeLine then some (.str (a ++ b)) else none
  | .lst o xs, .lst u ys => if o ≠ .ex ∧ u ≠ .ex ∧ xs.length + ys.length ≤ sizeLine then some (.lst .ow (xs ++ ys)) else none
  | .tup xs, .tup ys => if xs.length + ys.length ≤ sizeLine then some (.tup (xs ++ ys)) else none
  | _, _ => none
def rAddA (K : PySem.W.Frag) : R2 := fun x y H Q => rI0 (fun i j => .int (i + j)) x y H Q ∨ ((∃ i j, x = .str i ∧ y = .str j ∧ i.length + j.length ≤ sizeLine ∧ Q (.str (i ++ j)) H) ∨ (rCat x y H Q ∨ (rCatT K x y H Q ∨ (rCatT0 K x y H Q ∨ rCatX K x y H Q))))
theorem op_addA {X : Cx} (hK : X.K = K) : OpR X (binaryOp .Add) (rAddA K) := by
  subst hK
  exact op_add.or (op_add_str.or (op_cat.or (op_catT.or (op_catT0.or op_catX))))
theorem opAdd : OpF K mg (rAddA K) gAdd := by
  intro Z H x y dx dy f1 f2 d Q hs r1 r2 e q
  unfold gAdd at e
  split at e
  · obtain ⟨a, vs, rfl, h1, l1⟩ := r1.lst_inv
    obtain ⟨b, us, rfl, h2, l2⟩ := r2.lst_inv
    split at e
    · rename_i xs ys hc
      cases e
      exact .inr (.inr (.inr (.inr (.inr ⟨a, b, vs, us, rfl, rfl, h1.seq hs, h2.seq hs, by rw [l1.length, l2.length]; exact hc, fun p hp => q _ Z _ [p] (Rp.newO hs hp (l1.append l2)) (Ext.newO hs hp)⟩))))
    · cases e
  · obtain ⟨rfl, _⟩ := r1.int_inv
    obtain ⟨rfl, _⟩ := r2.int_inv
    cases e
    exact .inl ⟨_, _, rfl, rfl, q _ Z H [] (.int _) (.refl hs)⟩
  · obtain ⟨rfl, _⟩ := r1.str_inv
    obtain ⟨rfl, _⟩ := r2.str_inv
    split at e
    · cases e
      exact .inr (.inl ⟨_, _, rfl, rfl, ‹_›, q _ Z H [] (.str _) (.refl hs)⟩)
    · cases e
  · obtain ⟨a, vs, rfl, h1, l1⟩ := r1.lst_inv
    obtain ⟨b, us, rfl, h2, l2⟩ := r2.lst_inv
    split at e
    · rename_i o xs u ys hc
      cases e
      refine .inr (.inr (.inl ⟨a, b, vs, us, rfl, rfl, h1.get hs hc.1, h2.get hs hc.2.1, by rw [l1.length, l2.length]; exact hc.2.2, fun p hp => ?_⟩))
      exact q _ Z _ [p] (Rp.newO hs hp (l1.append l2)) (Ext.newO hs hp)
    · cases e
  · obtain ⟨a, vs, rfl, h1, rfl, l1⟩ := r1.tup_inv
    obtain ⟨b, us, rfl, h2, rfl, l2⟩ := r2.tup_inv
    split at e
    · rename_i xs ys hc
      cases e
      by_cases hx : xs = []
      · subst hx
        have e1 : vs = [] := by have := l1.length; exact List.eq_nil_of_length_eq_zero this
        subst e1
        exact .inr (.inr (.inr (.inr (.inl ⟨a, b, us, rfl, rfl, .of (hs _ _ h1), .of (hs _ _ h2), q _ Z H [] r2 (.refl hs)⟩))))
      refine .inr (.inr (.inr (.inl ⟨a, b, vs, us, rfl, rfl, .of (hs _ _ h1), .of (hs _ _ h2), fun z => hx ?_, by rw [l1.length, l2.length]; exact hc, fun z => ?_, fun _ => ?_⟩)))
      · have := l1.length; rw [z] at this; exact List.eq_nil_of_length_eq_zero this.symm
      · have e2 : ys = [] := by have := l2.length; rw [z] at this; exact List.eq_nil_of_length_eq_zero this.symm
        subst e2
        exact q _ Z H [] (by rw [List.append_nil]; exact r1) (.refl hs)
      · intro p hp
        exact q _ _ _ [] (Rp.newT hs hp (l1.append l2)) (Ext.newF hs hp)
    · cases e
  · cases e
end
end T3
set_option Elab.async false
set_option linter.all false
set_option maxRecDepth 100000
set_option maxHeartbeats 4000000
namespace T3
open PySem PySem.Spec PyProof.Rows L2
section
variable {K : PySem.W.Frag} {mg : Str → Option Value} {Z H Z' H' : Hp}
def toKey : D → Option Key
  | .int i => some (.inl i)
  | .str x => some (.inr x)
  | _ => none
def toKeys : List D → Option (List Key)
  | [] => some []
  | d :: ds => (toKey d).bind fun k => (toKeys ds).bind fun ks => some (k :: ks)
theorem Rp.key {v : V} {d : D} {f : List Addr} {k : Key} (r : Rp K mg Z H v d f) (e : toKey d = some k) : v = kV k := by
  cases r <;> simp [toKey] at e <;> subst e <;> rfl
theorem RpL.keys : ∀ {vs : List V} {ds : List D} {ks : List Key}, RpL K mg Z H vs ds → toKeys ds = some ks → vs = ks.map kV
  | _, _, _, .nil, e => by simp [toKeys] at e; subst e; rfl
  | _, _, _, .cons h t, e => by
    simp only [toKeys, Option.bind_eq_some_iff] at e
    obtain ⟨k, e1, ks, e2, e3⟩ := e
    cases e3
    rw [h.key e1, t.keys e2]
    rfl
section
variable {κ : Type} [DecidableEq κ]
def getK : List (κ × D) → κ → Option D
  | [], _ => none
  | p :: r, k => if p.1 = k then some p.2 else getK r k
def putD (kvs : List (κ × D)) (k : κ) (v : D) : List (κ × D) :=
  if (getK kvs k).isSome then kvs.map (fun kv => if kv.1 = k then (kv.1, v) else kv) else kvs ++ [(k, v)]
theorem getK_rel : ∀ {kvs : List (κ × V)} {ds : List (κ × D)}, kvs.map (·.1) = ds.map (·.1) → RpL K mg Z H (kvs.map (·.2)) (ds.map (·.2)) → ∀ k : κ,
    (∀ d, getK ds k = some d → ∃ v, valV kvs k = some v ∧ Rp K mg Z H v d []) ∧ (getK ds k = none → valV kvs k = none)
  | [], [], _, _, k => ⟨fun d e => by simp [getK] at e, fun _ => rfl⟩
  | [], _ :: _, e, _, k => by simp at e
  | _ :: _, [], e, _, k => by simp at e
  | p :: r, q :: s, e, l, k => by
    simp only [List.map_cons, List.cons.injEq] at e
    simp only [List.map_cons] at l
    cases l with
    | cons h t =>
      obtain ⟨e1, e2⟩ := e
      have ih := getK_rel e2 t k
      unfold getK
      by_cases hk : q.1 = k
      · rw [if_pos hk, valV_pos (e1.trans hk)]
        refine ⟨fun d e => ?_, fun e => by cases e⟩
        cases e
        exact ⟨_, rfl, h⟩
      · rw [if_neg hk, valV_neg (fun z => hk (e1.symm.trans z))]
        exact ih
theorem put_map_rel {v : V} {d : D} (r : Rp K mg Z H v d []) (k : κ) : ∀ {kvs : List (κ × V)} {ds : List (κ × D)}, kvs.map (·.1) = ds.map (·.1) → RpL K mg Z H (kvs.map (·.2)) (ds.map (·.2)) →
    (kvs.map (fun kv => if kv.1 = k then (kv.1, v) else kv)).map (·.1) = (ds.map (fun kv => if kv.1 = k then (kv.1, d) else kv)).map (·.1) ∧ RpL K mg Z H ((kvs.map (fun kv => if kv.1 = k then (kv.1, v) else kv)).map (·.2)) ((ds.map (fun kv => if kv.1 = k then (kv.1, d) else kv)).map (·.2))
  | [], [], _, _ => ⟨rfl, .nil⟩
  | [], _ :: _, e, _ => by simp at e
  | _ :: _, [], e, _ => by simp at e
  | p :: rr, q :: s, e, l => by
    simp only [List.map_cons, List.cons.injEq] at e
    simp only [List.map_cons] at l
    cases l with
    | cons h t =>
      obtain ⟨e1, e2⟩ := e
      obtain ⟨i1, i2⟩ := put_map_rel r k e2 t
      simp only [List.map_cons]
      by_cases hk : q.1 = k
      · rw [if_pos hk, if_pos (e1.trans hk)]
        exact ⟨by simp only [e1, i1], .cons r i2⟩
      · rw [if_neg hk, if_neg (fun z => hk (e1.symm.trans z))]
        exact ⟨by simp only [e1, i1], .cons h i2⟩
theorem putD_rel {v : V} {d : D} (r : Rp K mg Z H v d []) (k : κ) {kvs : List (κ × V)} {ds : List (κ × D)} (e : kvs.map (·.1) = ds.map (·.1)) (l : RpL K mg Z H (kvs.map (·.2)) (ds.map (·.2))) :
    (putK kvs k v).map (·.1) = (putD ds k d).map (·.1) ∧ RpL K mg Z H ((putK kvs k v).map (·.2)) ((putD ds k d).map (·.2)) := by
  unfold putK putD
  rw [valV_any]
  have h := getK_rel e l k
  cases q : getK ds k with
  | none =>
    rw [h.2 q]
    simp only [Option.isSome_none, Bool.false_eq_true, if_false, List.map_append, List.map_cons, List.map_nil, e]
    exact ⟨trivial, l.append (.cons r .nil)⟩
  | some x =>
    obtain ⟨y, e1, _⟩ := h.1 x q
    rw [e1]
    simp only [Option.isSome_some, if_true]
    exact put_map_rel r k e l
end
def gLook : D → D → Option (Option D)
  | .dK _ kvs, d => (toKey d).bind fun k => some (getK kvs k)
  | .dT _ kvs, .tup ds => (toKeys ds).bind fun k => some (getK kvs k)
  | .dL kvs, d => (toKey d).bind fun k => some (getK kvs k)
  | _, _ => none
def gIx : D → D → Option D
  | .lst _ xs, .int i => atI xs i
  | .tup xs, .int i => atI xs i
  | .str z, .int i => if z.length ≤ sizeLine then (atI z.cps.toList i).map fun c => .str ⟨#[c]⟩ else none
  | .dK o kvs, d => (gLook (.dK o kvs) d).bind id
  | .dT o kvs, d => (gLook (.dT o kvs) d).bind id
  | .dL kvs, d => (gLook (.dL kvs) d).bind id
  | _, _ => none
theorem atI_rel {vs : List V} {ds : List D} (l : RpL K mg Z H vs ds) {i : Int} {d : D} (e : atI ds i = some d) : ∃ v, atI vs i = some v ∧ Rp K mg Z H v d [] := by
  unfold atI at e ⊢
  rw [l.length]
  cases q : ixN ds.length i with
  | none => rw [q] at e; cases e
  | some j =>
    rw [q] at e
    exact l.get (by simpa using e)
def rIxDct : R2 := fun x y H Q => ∃ a v, x = .ref a ∧ DGet H a y (some v) ∧ Q v H
theorem ix_dct {X : Cx} (hu : X.A.units + 1 < cLine) : IxR X rIxDct := by
  intro value slice pins s σ H x y v u Q I rx ry ⟨a, w', ex, g, q⟩ hs
  subst ex
  cases (show v = Value.ref a from rx)
  exact tail_any (dict_typeIs I g) PySem.F.slot_dict_getitem.lookup (d_getItem hu I g ry fun w2 s3 I3 rw' => ⟨w', H, I3, rw', q⟩) hs
def rIxA (K : PySem.W.Frag) : R2 := fun x y H Q => rIx K x y H Q ∨ rIxDct x y H Q
theorem ix_any {X : Cx} (hK : X.K = K) (hu : X.A.units + 1 < cLine) : IxR X (rIxA K) := by
  subst hK
  exact ix_seq.or (ix_dct hu)
theorem dget_rel (hs : Same Z H) {x y : V} {dx dy : D} {f1 f2 : List Addr} {o : Option D} (r1 : Rp K mg Z H x dx f1) (r2 : Rp K mg Z H y dy f2) (e : gLook dx dy = some o) :
    ∃ a, x = .ref a ∧ (∀ d, o = some d → ∃ v, DGet H a y (some v) ∧ Rp K mg Z H v d []) ∧ (o = none → DGet H a y none) := by
  unfold gLook at e
  split at e
  · obtain ⟨a, kv, rfl, h1, e1, l1⟩ := r1.dK_inv
    simp only [Option.bind_eq_some_iff] at e
    obtain ⟨k, ek, e⟩ := e
    cases e
    cases r2.key ek
    have h := getK_rel e1 l1 k
    refine ⟨a, rfl, fun d ed => ?_, fun en => ?_⟩
    · obtain ⟨v, e2, rv⟩ := h.1 d ed
      exact ⟨v, by rw [← e2]; exact DGet.k (seq_dK hs h1), rv⟩
    · rw [← h.2 en]; exact DGet.k (seq_dK hs h1)
  · obtain ⟨a, kv, rfl, h1, e1, l1⟩ := r1.dT_inv
    obtain ⟨b, vs, rfl, h2, _, l2⟩ := r2.tup_inv
    simp only [Option.bind_eq_some_iff] at e
    obtain ⟨k, ek, e⟩ := e
    cases e
    cases l2.keys ek
    have h := getK_rel e1 l1 k
    refine ⟨a, rfl, fun d ed => ?_, fun en => ?_⟩
    · obtain ⟨v, e2, rv⟩ := h.1 d ed
      exact ⟨v, by rw [← e2]; exact DGet.t (seq_dT hs h1) (hs _ _ h2), rv⟩
    · rw [← h.2 en]; exact DGet.t (seq_dT hs h1) (hs _ _ h2)
  · cases r1 with
    | @dL a kv _ h1 e1 l1 =>
      simp only [Option.bind_eq_some_iff] at e
      obtain ⟨k, ek, e⟩ := e
      cases e
      cases r2.key ek
      have h := getK_rel e1 l1 k
      have hr : Rd H a (.dK kv) := h1.imp (hs _ _) fun ⟨w, q⟩ => ⟨w, hs _ _ q⟩
      refine ⟨a, rfl, fun d ed => ?_, fun en => ?_⟩
      · obtain ⟨v, e2, rv⟩ := h.1 d ed
        exact ⟨v, by rw [← e2]; exact .inl ⟨kv, k, hr, rfl, rfl⟩, rv⟩
      · rw [← h.2 en]; exact .inl ⟨kv, k, hr, rfl, rfl⟩
  · cases e
theorem opIx : OpF K mg (rIxA K) gIx := by
  intro Z H x y dx dy f1 f2 d Q hs r1 r2 e q
  unfold gIx at e
  split at e
  · obtain ⟨a, vs, rfl, h1, l1⟩ := r1.lst_inv
    obtain ⟨rfl, _⟩ := r2.int_inv
    obtain ⟨v, e1, rv⟩ := atI_rel l1 e
    exact .inl (.inl ⟨a, vs, _, v, rfl, rfl, h1.seq hs, e1, q v Z H [] rv (.refl hs)⟩)
  · obtain ⟨a, vs, rfl, h1, _, l1⟩ := r1.tup_inv
    obtain ⟨rfl, _⟩ := r2.int_inv
    obtain ⟨v, e1, rv⟩ := atI_rel l1 e
    exact .inl (.inr (.inl ⟨a, vs, _, v, rfl, rfl, .of (hs _ _ h1), e1, q v Z H [] rv (.refl hs)⟩))
  · obtain ⟨rfl, _⟩ := r1.str_inv
    obtain ⟨rfl, _⟩ := r2.int_inv
    split at e
    · obtain ⟨c, e1, rfl⟩ := Option.map_eq_some_iff.mp e
      exact .inl (.inr (.inr ⟨_, _, c, rfl, rfl, ‹_›, e1, q _ Z H [] (.str _) (.refl hs)⟩))
    · cases e
  · simp only [Option.bind_eq_some_iff] at e
    obtain ⟨o, ek, e⟩ := e
    cases (show o = some d from e)
    obtain ⟨a, rfl, h1, _⟩ := dget_rel hs r1 r2 ek
    obtain ⟨v, g, rv⟩ := h1 d rfl
    exact .inr ⟨a, v, rfl, g, q v Z H [] rv (.refl hs)⟩
  · simp only [Option.bind_eq_some_iff] at e
    obtain ⟨o, ek, e⟩ := e
    cases (show o = some d from e)
    obtain ⟨a, rfl, h1, _⟩ := dget_rel hs r1 r2 ek
    obtain ⟨v, g, rv⟩ := h1 d rfl
    exact .inr ⟨a, v, rfl, g, q v Z H [] rv (.refl hs)⟩
  · simp only [Option.bind_eq_some_iff] at e
    obtain ⟨o, ek, e⟩ := e
    cases (show o = some d from e)
    obtain ⟨a, rfl, h1, _⟩ := dget_rel hs r1 r2 ek
    obtain ⟨v, g, rv⟩ := h1 d rfl
    exact .inr ⟨a, v, rfl, g, q v Z H [] rv (.refl hs)⟩
  · cases e
def intsOf : List D → Option (List Int)
  | [] => some []
  | .int i :: ds => (intsOf ds).map (i :: ·)
  | _ :: _ => none
def strsOf : List D → Option (List Str)
  | [] => some []
  | .str i :: ds => (strsOf ds).map (i :: ·)
  | _ :: _ => none
def blsOf : List D → Option (List Bool)
  | [] => some []
  | .bl i :: ds => (blsOf ds).map (i :: ·)
  | _ :: _ => none
theorem RpL.ints : ∀ {vs : List V} {ds : List D} {js : List Int}, RpL K mg Z H vs ds → intsOf ds = some js → vs = js.map V.int
  | _, _, js, .nil, e => by simp [intsOf] at e; subst e; rfl
  | _, _, js, .cons (d := d) h t, e => by
    unfold intsOf at e
    split at e
    · rename_i q; cases q
    · rename_i q; cases q
      obtain ⟨ks, e1, rfl⟩ := Option.map_eq_some_iff.mp e
      obtain ⟨rfl, _⟩ := h.int_inv
      rw [t.ints e1]
      rfl
    · cases e
theorem RpL.strs : ∀ {vs : List V} {ds : List D} {js : List Str}, RpL K mg Z H vs ds → strsOf ds = some js → vs = js.map V.str
  | _, _, js, .nil, e => by simp [strsOf] at e; subst e; rfl
  | _, _, js, .cons (d := d) h t, e => by
    unfold strsOf at e
    split at e
    · rename_i q; cases q
    · rename_i q; cases q
      obtain ⟨ks, e1, rfl⟩ := Option.map_eq_some_iff.mp e
      obtain ⟨rfl, _⟩ := h.str_inv
      rw [t.strs e1]
      rfl
    · cases e
theorem RpL.bls : ∀ {vs : List V} {ds : List D} {js : List Bool}, RpL K mg Z H vs ds → blsOf ds = some js → vs = js.map V.bl
  | _, _, js, .nil, e => by simp [blsOf] at e; subst e; rfl
  | _, _, js, .cons (d := d) h t, e => by
    unfold blsOf at e
    split at e
    · rename_i q; cases q
    · rename_i q; cases q
      obtain ⟨ks, e1, rfl⟩ := Option.map_eq_some_iff.mp e
      obtain ⟨rfl, _⟩ := h.bl_inv
      rw [t.bls e1]
      rfl
    · cases e
def gIn : D → D → Option Bool
  | d, .lst _ ds => (plainD d).bind fun p => (toPyL ds).bind fun ps => if SeqAt.shaped (.list ps) = true then some (ps.any fun z => PyData.eqv z p) else none
  | .str c, .str z => match c.cps.toList with
    | [n] => some (decide (n ∈ z.cps.toList))
    | _ => none
  | d, .dK o kvs => (gLook (.dK o kvs) d).map (·.isSome)
  | d, .dT o kvs => (gLook (.dT o kvs) d).map (·.isSome)
  | .int i, .tup ds => (intsOf ds).map fun js => js.any fun j => decide (j = i)
  | .str i, .tup ds => (strsOf ds).map fun js => js.any fun j => decide (j = i)
  | d, .tup ds => (plainD d).bind fun p => (toPyL ds).bind fun ps => if SeqAt.shaped (.tuple ps) = true then some (ps.any fun z => PyData.eqv z p) else none
  | _, _ => none
def rInT (K : PySem.W.Frag) (neg : Bool) : R2 := fun x y H Q => ∃ d ds, Dp K H x d ∧ Dp K H y (.tuple ds) ∧ SeqAt.shaped d = true ∧ SeqAt.shaped (.tuple ds) = true ∧ Q (.bl (if neg then !(ds.any fun z => PyData.eqv z d) else ds.any fun z => PyData.eqv z d)) H
theorem op_inT {X : Cx} (hu : X.A.units + 65 < cLine) : OpR X (compareOp .In) (rInT X.K false) := by
  intro pins s σ H x y v u Q I rx ry h
  obtain ⟨d, ds, hd, he, sd, se, q⟩ := h
  obtain ⟨as, r1⟩ := Dp.reads I d x v hd rx
  obtain ⟨bs, r2⟩ := Dp.reads I (.tuple ds) y u he ry
  exact SeqAt.in_tuple_reads r2 r1 (SeqAt.canLay_of_shaped se) (SeqAt.canLay_of_shaped sd) (room_in_shaped sd hu) ⟨.bl _, H, I, rfl, q⟩
theorem op_notInT {X : Cx} (hu : X.A.units + 65 < cLine) : OpR X (compareOp .NotIn) (rInT X.K true) := by
  intro pins s σ H x y v u Q I rx ry h
  obtain ⟨d, ds, hd, he, sd, se, q⟩ := h
  obtain ⟨as, r1⟩ := Dp.reads I d x v hd rx
  obtain ⟨bs, r2⟩ := Dp.reads I (.tuple ds) y u he ry
  exact SeqAt.notIn_tuple_reads r2 r1 (SeqAt.canLay_of_shaped se) (SeqAt.canLay_of_shaped sd) (room_in_shaped sd hu) ⟨.bl _, H, I, rfl, q⟩
def rInDct (neg : Bool) : R2 := fun x y H Q => ∃ a o, y = .ref a ∧ DGet H a x o ∧ Q (.bl (if neg then !o.isSome else o.isSome)) H
theorem op_inDct {X : Cx} (hu : X.A.units + 1 < cLine) : OpR X (compareOp .In) (rInDct false) := fun pins s σ H x y v u Q I r1 r2 ⟨a, o, e, g, q⟩ => by
  subst e
  cases (show u = Value.ref a from r2)
  exact d_in hu I g r1 fun s3 I3 => ⟨.bl o.isSome, H, I3, rfl, q⟩
theorem op_notInDct {X : Cx} (hu : X.A.units + 1 < cLine) : OpR X (compareOp .NotIn) (rInDct true) := fun pins s σ H x y v u Q I r1 r2 ⟨a, o, e, g, q⟩ => by
  subst e
  cases (show u = Value.ref a from r2)
  exact d_notIn hu I g r1 fun s3 I3 => ⟨.bl (!o.isSome), H, I3, rfl, q⟩
def rInA (K : PySem.W.Frag) : R2 := fun x y H Q => rInD K x y H Q ∨ ((∃ (c : Nat) (z : Str), x = .str ⟨#[c]⟩ ∧ y = .str z ∧ Q (.bl (decide (c ∈ z.cps.toList))) H) ∨ (rInDct false x y H Q ∨ (rIn K false x y H Q ∨ rInT K false x y H Q)))
def rNotInA (K : PySem.W.Frag) : R2 := fun x y H Q => rNotInD K x y H Q ∨ ((∃ (c : Nat) (z : Str), x = .str ⟨#[c]⟩ ∧ y = .str z ∧ Q (.bl (!decide (c ∈ z.cps.toList))) H) ∨ (rInDct true x y H Q ∨ (rIn K true x y H Q ∨ rInT K true x y H Q)))
theorem op_inA {X : Cx} (hK : X.K = K) (hu : X.A.units + 65 < cLine) : OpR X (compareOp .In) (rInA K) := by
  subst hK
  exact (op_inD hu).or (op_in_sign.or ((op_inDct (by omega)).or (op_in_seq.or (op_inT hu))))
theorem op_notInA {X : Cx} (hK : X.K = K) (hu : X.A.units + 65 < cLine) : OpR X (compareOp .NotIn) (rNotInA K) := by
  subst hK
  exact (op_notInD hu).or (op_notIn_sign.or ((op_notInDct (by omega)).or (op_notIn_seq.or (op_notInT hu))))
theorem sign_of {c : Str} {n : Nat} (h : c.cps.toList = [n]) : c = ⟨#[n]⟩ := by
  obtain ⟨a⟩ := c
  congr 1
  have : a.toList = [n] := h
  rw [← Array.toArray_toList (xs := a), this]
theorem inA_any (hs : Same Z H) {x y : V} {dx dy : D} {f1 f2 : List Addr} {k : Bool} (r1 : Rp K mg Z H x dx f1) (r2 : Rp K mg Z H y dy f2) (e : gIn dx dy = some k) (neg : Bool) {Q : VK} (q : Q (.bl (if neg then !k else k)) H) :
    (∃ d ds, Dp K H x d ∧ Dp K H y (.list ds) ∧ SeqAt.shaped d = true ∧ SeqAt.shaped (.list ds) = true ∧ Q (.bl (if neg then !(ds.any fun z => PyData.eqv z d) else ds.any fun z => PyData.eqv z d)) H) ∨
    ((∃ (c : Nat) (z : Str), x = .str ⟨#[c]⟩ ∧ y = .str z ∧ Q (.bl (if neg then !decide (c ∈ z.cps.toList) else decide (c ∈ z.cps.toList))) H) ∨ (rInDct neg x y H Q ∨ (rIn K neg x y H Q ∨ rInT K neg x y H Q))) := by
  unfold gIn at e
  split at e
  · simp only [Option.bind_eq_some_iff] at e
    obtain ⟨p, e1, ps, e2, e3⟩ := e
    split at e3
    · cases e3
      obtain ⟨a1, b1⟩ := plainD_ok e1
      obtain ⟨a, vs, rfl, h2, l2⟩ := r2.lst_inv
      exact .inl ⟨p, ps, r1.dp hs a1, .lst (h2.seq hs) (l2.dp hs e2), b1, ‹_›, q⟩
    · cases e3
  · split at e
    · rename_i hc
      cases e
      obtain ⟨rfl, _⟩ := r1.str_inv
      obtain ⟨rfl, _⟩ := r2.str_inv
      exact .inr (.inl ⟨_, _, by rw [sign_of hc], rfl, q⟩)
    · cases e
  · obtain ⟨o, ek, e⟩ := Option.map_eq_some_iff.mp e
    obtain ⟨a, rfl, h1, h2⟩ := dget_rel hs r2 r1 ek
    cases e
    cases o with
    | none => exact .inr (.inr (.inl ⟨a, none, rfl, h2 rfl, q⟩))
    | some d =>
      obtain ⟨v, g2, _⟩ := h1 d rfl
      exact .inr (.inr (.inl ⟨a, some v, rfl, g2, q⟩))
  · obtain ⟨o, ek, e⟩ := Option.map_eq_some_iff.mp e
    obtain ⟨a, rfl, h1, h2⟩ := dget_rel hs r2 r1 ek
    cases e
    cases o with
    | none => exact .inr (.inr (.inl ⟨a, none, rfl, h2 rfl, q⟩))
    | some d =>
      obtain ⟨v, g2, _⟩ := h1 d rfl
      exact .inr (.inr (.inl ⟨a, some v, rfl, g2, q⟩))
  · obtain ⟨js, e1, e⟩ := Option.map_eq_some_iff.mp e
    cases e
    obtain ⟨rfl, _⟩ := r1.int_inv
    obtain ⟨a, vs, rfl, h2, _, l2⟩ := r2.tup_inv
    cases l2.ints e1
    refine .inr (.inr (.inr (.inl ⟨a, _, rfl, .inr (.of (hs _ _ h2)), rfl, ?_, ?_⟩)))
    · simp [List.all_map, flatV]
    · have e5 : ∀ i, inV (.int i) (js.map V.int) = js.any fun j => decide (j = i) := fun i => by
        unfold inV
        rw [List.any_map]
        congr 1
      rw [e5]
      exact q
  · obtain ⟨js, e1, e⟩ := Option.map_eq_some_iff.mp e
    cases e
    obtain ⟨rfl, _⟩ := r1.str_inv
    obtain ⟨a, vs, rfl, h2, _, l2⟩ := r2.tup_inv
    cases l2.strs e1
    refine .inr (.inr (.inr (.inl ⟨a, _, rfl, .inr (.of (hs _ _ h2)), rfl, ?_, ?_⟩)))
    · simp [List.all_map, flatV]
    · have e5 : ∀ i, inV (.str i) (js.map V.str) = js.any fun j => decide (j = i) := fun i => by
        unfold inV
        rw [List.any_map]
        congr 1
      rw [e5]
      exact q
  · simp only [Option.bind_eq_some_iff] at e
    obtain ⟨p, e1, ps, e2, e3⟩ := e
    split at e3
    · cases e3
      obtain ⟨a1, b1⟩ := plainD_ok e1
      obtain ⟨a, vs, rfl, h2, _, l2⟩ := r2.tup_inv
      exact .inr (.inr (.inr (.inr ⟨p, ps, r1.dp hs a1, .tup (.of (hs _ _ h2)) (l2.dp hs e2), b1, ‹_›, q⟩)))
    · cases e3
  · cases e
theorem opIn : OpF K mg (rInA K) fun a b => (gIn a b).map .bl := by
  intro Z H x y dx dy f1 f2 d Q hs r1 r2 e q
  obtain ⟨k, e1, rfl⟩ := Option.map_eq_some_iff.mp e
  exact inA_any hs r1 r2 e1 false (q _ Z H [] (.bl _) (.refl hs))
theorem opNotIn : OpF K mg (rNotInA K) fun a b => (gIn a b).map fun k => .bl (!k) := by
  intro Z H x y dx dy f1 f2 d Q hs r1 r2 e q
  obtain ⟨k, e1, rfl⟩ := Option.map_eq_some_iff.mp e
  exact inA_any hs r1 r2 e1 true (q _ Z H [] (.bl _) (.refl hs))
end
end T3
set_option Elab.async false
set_option linter.all false
set_option maxRecDepth 100000
set_option maxHeartbeats 4000000
namespace T3
open PySem PySem.Spec PyProof.Rows L2
section
variable {K : PySem.W.Frag} {mg : Str → Option Value} {Z H Z' H' : Hp}
def frz0 : D → D
  | .lst .ow xs => .lst .fz xs
  | .dK .ow xs => .dK .fz xs
  | .dT .ow xs => .dT .fz xs
  | .ins .ow c xs => .ins .fz c xs
  | d => d
def frz : D → D
  | .lst .ow xs => .lst .fz xs
  | .dK .ow xs => .dK .fz xs
  | .dT .ow xs => .dT .fz xs
  | .ins .ow c xs => .ins .fz c xs
  | .nl xs => .lst .fz (xs.map frz0)
  | .nd kvs => .dK .fz (kvs.map fun p => (p.1, frz0 p.2))
  | .ni c fs => .ins .fz c (fs.map fun p => (p.1, frz0 p.2))
  | d => d
theorem frz_flat {d : D} (h : flat d = true) : frz d = frz0 d := by
  cases d with
  | lst o x => cases o <;> rfl
  | dK o x => cases o <;> rfl
  | dT o x => cases o <;> rfl
  | ins o c x => cases o <;> rfl
  | nl => cases h
  | nd => cases h
  | ni => cases h
  | _ => rfl
theorem frz_of {d : D} (h : fz d = true) : frz d = d := by
  cases d with
  | lst o x => cases o <;> first | rfl | cases h
  | dK o x => cases o <;> first | rfl | cases h
  | dT o x => cases o <;> first | rfl | cases h
  | ins o c x => cases o <;> first | rfl | cases h
  | nl => cases h
  | nd => cases h
  | ni => cases h
  | _ => rfl
abbrev FzOk (Z Z' : Hp) (f : List Addr) : Prop := (∀ a, Z a = none → a ∉ f → Z' a = none) ∧ ∀ a o, Z' a = some o → Z a = some o ∨ Nt o
theorem freeze1 (hs : Same Z H) {a : Addr} {u : HO} (h : H a = some u) (n : Z a = none) (nu : Nt u) : Same Z (upd Z a u) ∧ Same (upd Z a u) H ∧ FzOk Z (upd Z a u) [a] := by
  have z1 : Same Z (upd Z a u) := fun b o q => by rw [upd_ne (ne_of_none q n)]; exact q
  refine ⟨z1, fun b o q => ?_, fun b q m => ?_, fun b o q => ?_⟩
  · by_cases eb : b = a
    · subst eb; rw [upd_same] at q; cases q; exact h
    · rw [upd_ne eb] at q; exact hs b o q
  · rw [upd_ne (by simpa using m)]; exact q
  · by_cases eb : b = a
    · subst eb; rw [upd_same] at q; cases q; exact .inr nu
    · rw [upd_ne eb] at q; exact .inl q
theorem FzOk.refl {f : List Addr} : FzOk Z Z f := ⟨fun _ h _ => h, fun _ _ h => .inl h⟩
theorem FzOk.trans {Z1 Z2 : Hp} {f g : List Addr} (a : FzOk Z Z1 f) (b : FzOk Z1 Z2 g) : FzOk Z Z2 (f ++ g) := ⟨fun c h m => b.1 c (a.1 c h fun z => m (by simp [z])) fun z => m (by simp [z]), fun c o h => (b.2 c o h).elim (a.2 c o) .inr⟩
theorem Rp.freeze0 (hs : Same Z H) {v : V} {d : D} {f : List Addr} (r : Rp K mg Z H v d f) (fl : flat d = true) : ∃ Z', Same Z Z' ∧ Same Z' H ∧ FzOk Z Z' f ∧ Rp K mg Z' H v (frz d) [] := by
  rcases r.own fl with ⟨rfl, e⟩ | ⟨a, u, rfl, rfl, e, h, n⟩
  · rw [frz_of e]
    exact ⟨Z, Same.refl _, hs, .refl, r⟩
  · have nu : Nt u := r.nt (by simp) h
    obtain ⟨z1, z2, z3⟩ := freeze1 hs h n nu
    refine ⟨upd Z a u, z1, z2, z3, ?_⟩
    cases r with
    | @lst o _ _ _ _ h1 l =>
      rcases h1.own with ⟨q, _⟩ | ⟨_, rfl, h2, _⟩
      · cases q
      · rw [h] at h2; cases h2
        exact .lst ⟨upd_same, rfl⟩ (l.mono z1)
    | @dK o _ _ _ _ h1 e1 l =>
      rcases h1.own with ⟨q, _⟩ | ⟨_, rfl, h2, _⟩
      · cases q
      · rw [h] at h2; cases h2
        exact .dK ⟨upd_same, rfl⟩ e1 (l.mono z1)
    | @dT o _ _ _ _ h1 e1 l =>
      rcases h1.own with ⟨q, _⟩ | ⟨_, rfl, h2, _⟩
      · cases q
      · rw [h] at h2; cases h2
        exact .dT ⟨upd_same, rfl⟩ e1 (l.mono z1)
    | @ins o _ _ _ _ _ _ _ hc h1 e1 l =>
      rcases h1.own with ⟨q, _⟩ | ⟨_, rfl, h2, _⟩
      · cases q
      · rw [h] at h2; cases h2
        exact .ins hc ⟨upd_same, rfl⟩ e1 (l.mono z1)
    | nl => cases fl
    | ndd => cases fl
    | nins => cases fl
theorem RpB.freeze : ∀ {vs : List V} {ds : List D} {f : List Addr} {Z : Hp}, Same Z H → RpB K mg Z H vs ds f → f.Nodup → ∃ Z', Same Z Z' ∧ Same Z' H ∧ FzOk Z Z' f ∧ RpL K mg Z' H vs (ds.map frz0)
  | _, _, _, Z, hs, .nil, _ => ⟨Z, Same.refl _, hs, .refl, .nil⟩
  | _, _, _, Z, hs, .cons (f := f) (g := g) h fl t, nd => by
    obtain ⟨Z1, a1, a2, a3, a4⟩ := h.freeze0 hs fl
    have nd' := List.nodup_append.mp nd
    have t1 : RpB K mg Z1 H _ _ g := t.mono a1 (fun _ _ _ h => h) fun a m => a3.1 a (t.has m).2 fun m2 => nd'.2.2 a m2 a m rfl
    obtain ⟨Z2, b1, b2, b3, b4⟩ := RpB.freeze a2 t1 nd'.2.1
    refine ⟨Z2, a1.trans b1, b2, a3.trans b3, ?_⟩
    rw [List.map_cons, ← frz_flat fl]
    exact .cons (a4.mono b1 (by simp) (by simp)) b4
theorem Rp.freeze (hs : Same Z H) {v : V} {d : D} {f : List Addr} (r : Rp K mg Z H v d f) : ∃ Z', Same Z Z' ∧ Same Z' H ∧ ((∀ a, Z a = none → a ∉ f → Z' a = none) ∧ ∀ a o, Z' a = some o → Z a = some o ∨ Nt o) ∧ Rp K mg Z' H v (frz d) [] := by
  by_cases fl : flat d = true
  · exact r.freeze0 hs fl
  · cases r <;> first | exact absurd rfl fl | skip
    · rename_i a vs ds f h n r nd
      have nd' := List.nodup_cons.mp nd
      obtain ⟨Z1, a1, a2, a3, a4⟩ := r.freeze hs nd'.2
      obtain ⟨b1, b2, b3⟩ := freeze1 a2 h (a3.1 a n nd'.1) datO_lst.1
      refine ⟨_, a1.trans b1, b2, ?_, .lst ⟨upd_same, rfl⟩ (a4.mono b1)⟩
      have q := a3.trans b3
      exact ⟨fun c hc m => q.1 c hc fun z => m (by simp at z ⊢; exact z.symm), q.2⟩
    · rename_i a vs ds f h n e r nd
      have nd' := List.nodup_cons.mp nd
      obtain ⟨Z1, a1, a2, a3, a4⟩ := r.freeze hs nd'.2
      obtain ⟨b1, b2, b3⟩ := freeze1 a2 h (a3.1 a n nd'.1) datO_dK.1
      have q := a3.trans b3
      refine ⟨_, a1.trans b1, b2, ⟨fun c hc m => q.1 c hc fun z => m (by simp at z ⊢; exact z.symm), q.2⟩, .dK ⟨upd_same, rfl⟩ (by rw [e]; simp) ?_⟩
      have : (ds.map fun p => (p.1, frz0 p.2)).map (·.2) = (ds.map (·.2)).map frz0 := by simp
      rw [this]
      exact a4.mono b1
    · rename_i a C dx c vs ds f hc h n e r nd
      have nd' := List.nodup_cons.mp nd
      obtain ⟨Z1, a1, a2, a3, a4⟩ := r.freeze hs nd'.2
      obtain ⟨b1, b2, b3⟩ := freeze1 a2 h (a3.1 a n nd'.1) datO_ins.1
      have q := a3.trans b3
      refine ⟨_, a1.trans b1, b2, ⟨fun c hc m => q.1 c hc fun z => m (by simp at z ⊢; exact z.symm), q.2⟩, .ins hc ⟨upd_same, rfl⟩ (by rw [e]; simp) ?_⟩
      have : (ds.map fun p => (p.1, frz0 p.2)).map (·.2) = (ds.map (·.2)).map frz0 := by simp
      rw [this]
      exact a4.mono b1
theorem freeze_fr {f g : List Addr} (z : Same Z Z') (n : (∀ a, Z a = none → a ∉ f → Z' a = none) ∧ ∀ a o, Z' a = some o → Z a = some o ∨ Nt o) : Fr Z H (f ++ g) Z' H g :=
  ⟨z, fun _ _ h _ _ => h, fun a o h _ m q => n.1 a q fun m2 => m (by simp [m2]), fun a m => .inl (by simp [m])⟩
theorem freeze_sim {f g : List Addr} {σ : Sg} {S : SS} (s : Sim K mg Z H σ S g) (z : Same Z Z') (zh : Same Z' H) (n : (∀ a, Z a = none → a ∉ f → Z' a = none) ∧ ∀ a o, Z' a = some o → Z a = some o ∨ Nt o) (dj : ∀ c ∈ f, c ∉ g) : Sim K mg Z' H σ S g :=
  ⟨s.r.mono z (fun _ _ _ h => h) fun a m => n.1 a (s.r.has m).2 fun m2 => dj a m2 m, s.nd, zh, s.t.h, fun b o q => (n.2 b o q).elim (s.t.z b o) id⟩
theorem freeze_rp {f f2 : List Addr} {v : V} {d : D} (r : Rp K mg Z H v d f2) (z : Same Z Z') (n : (∀ a, Z a = none → a ∉ f → Z' a = none) ∧ ∀ a o, Z' a = some o → Z a = some o ∨ Nt o) (dj : ∀ c ∈ f2, c ∉ f) : Rp K mg Z' H v d f2 :=
  r.mono z (fun _ _ _ h => h) fun a m => n.1 a (r.has m).2 (dj a m)
def fFz (fa : Fe) : Fe := fun S => (fa S).bind fun d S1 => .ok (frz d) S1
theorem fn_fz {W : WX} {t : TE} {fa : Fe} (h : Fn K mg W t fa) : Fn K mg W t (fFz fa) := fun Z H σ S g Q sim p => by
  refine h Z H σ S g Q sim ?_
  have p' : ((fa S).bind fun d S1 => Rs.ok (frz d) S1).post _ _ := p
  rw [Rs.bind_post] at p'
  refine Rs.post_mono p' (fun d S1 p1 v Z1 H1 f g1 r1 s1 dj fr => ?_) fun _ _ q => q
  obtain ⟨Z2, z, zh, n, r2⟩ := r1.freeze s1.s
  have s2 := freeze_sim s1 z zh n dj
  exact p1 v Z2 H1 [] g1 r2 s2 (by simp) (fr.trans (freeze_fr z n))
structure Ct (K : PySem.W.Frag) (mg : Str → Option Value) (k : Nat) (W : WX) (X : Cx) : Prop where
  hK : X.K = K
  hmg : X.mg = mg
  calm : X.calm = true
  room : Room k X.A
  po : PassesOwn (model X.prog X.w) X.A X.env X.xe
  nd : X.N.Nodup
  tk : Takes X W
theorem Ct.blk {k : Nat} {W : WX} {X : Cx} (c : Ct K mg k W X) (s : Shared) (H : Hp) (scope : Scope) (cenv : Env) (fp : List Addr) : Ct K mg k W0 (X.blk s H scope cenv fp) :=
  ⟨c.hK, c.hmg, c.calm, c.room, PassesOwn.never, c.nd, takes0⟩
theorem Ct.hu {k : Nat} {W : WX} {X : Cx} (c : Ct K mg k W X) : X.A.units + 65 < cLine := by have := c.room.un; omega
structure FE (K : PySem.W.Frag) (mg : Str → Option Value) (W : WX) (X : Cx) (e : Expr) (t : TE) (f : Fe) : Prop where
  pe : PE X e t
  fn : Fn K mg W t f
structure VE (K : PySem.W.Frag) (mg : Str → Option Value) (W : WX) (X : Cx) (e : Expr) (t : TE) (f : Fe) : Prop where
  pe : PE X e t
  vw : Vw K mg W t f
structure FT (K : PySem.W.Frag) (mg : Str → Option Value) (W : WX) (X : Cx) (e : Expr) (t : TT) (f : SS → Rs Bool) : Prop where
  pt : PT X e t
  fn : FnT K mg W t f
section
variable {k : Nat} {W : WX} {X : Cx} {e a b : Expr} {t ta tb : TE} {f fa fb : Fe} {pos : Pos}
theorem FE.ve (h : FE K mg W X e t f) : VE K mg W X e t f := ⟨h.pe, h.fn.vw⟩
theorem FE.fz (h : FE K mg W X e t f) : FE K mg W X e t (fFz f) := ⟨h.pe, fn_fz h.fn⟩
def slot (S : SS) (i : Nat) : Option D := (S[i]?).join
def fC (d : D) : Fe := fun S => .ok d S
def fVar (i : Nat) : Fe := fun S => match slot S i with
  | some d => if fz d then .ok d S else .ok d (S.set i none)
  | none => .stk
def fView (i : Nat) : Fe := fun S => match slot S i with
  | some d => .ok d S
  | none => .stk
theorem slot_some {S : SS} {i : Nat} {d : D} (h : slot S i = some d) : S[i]? = some (some d) := by
  unfold slot at h
  cases e : S[i]? with
  | none => rw [e] at h; cases h
  | some o => rw [e] at h; cases o with
    | none => cases h
    | some x => cases h; rfl
theorem fn_var (i : Nat) : Fn K mg W (tVar i) (fVar i) := fun Z H σ S g Q sim p => by
  unfold fVar at p
  split at p
  · rename_i d hd
    have e := slot_some hd
    obtain ⟨v, f, g', e1, r1, t1, pm⟩ := sim.r.take e
    refine ⟨v, e1, ?_⟩
    have nd : (f ++ g').Nodup := pm.nodup_iff.mpr sim.nd
    split at p
    · rename_i hf
      have := r1.fz_nil hf
      subst this
      exact p v Z H [] g r1 sim (by simp) (Fr.refl _ _ _)
    · refine p v Z H f g' r1 ⟨t1, (List.nodup_append.mp nd).2.1, sim.s, sim.t⟩ (fun c m m2 => (List.nodup_append.mp nd).2.2 c m c m2 rfl) ((Fr.refl Z H g).sub fun c m => pm.mem_iff.mp m)
  · exact p.elim
theorem vw_var (i : Nat) : Vw K mg W (tVar i) (fView i) := fun Z H σ S g Q sim p => by
  unfold fView at p
  split at p
  · rename_i d hd
    obtain ⟨v, f, e1, r1, _⟩ := sim.r.get (slot_some hd)
    exact ⟨v, e1, p v Z H f g r1 sim (Fr.refl _ _ _)⟩
  · exact p.elim
theorem fe_var (i : Nat) {x : Str} (hN : X.N[i]? = some x := by rfl) (hv : Vis X.env.scope x := by first | exact Or.inl rfl | exact Or.inr (Or.inl rfl) | exact Or.inr (Or.inr rfl)) (hd : (x == ("__debug__" : Str)) = false := by decide)
    (hcd : (x == ("__classdict__" : Str)) = false := by decide) : FE K mg W X (.Name x pos) (tVar i) (fVar i) := ⟨pe_var hN hv hd hcd, fn_var i⟩
theorem ve_var (i : Nat) {x : Str} (hN : X.N[i]? = some x := by rfl) (hv : Vis X.env.scope x := by first | exact Or.inl rfl | exact Or.inr (Or.inl rfl) | exact Or.inr (Or.inr rfl)) (hd : (x == ("__debug__" : Str)) = false := by decide)
    (hcd : (x == ("__classdict__" : Str)) = false := by decide) : VE K mg W X (.Name x pos) (tVar i) (fView i) := ⟨pe_var hN hv hd hcd, vw_var i⟩
theorem fn_c {v : V} {d : D} (h : ∀ Z H, Rp K mg Z H v d []) : Fn K mg W (tC v) (fC d) := fun Z H σ S g Q sim p => p v Z H [] g (h Z H) sim (by simp) (Fr.refl _ _ _)
theorem fe_int {i : Int} {j : Nat} : FE K mg W X (.Constant (.int i) j pos) (tC (.int i)) (fC (.int i)) := ⟨pe_int, fn_c fun _ _ => .int i⟩
theorem fe_bl {i : Bool} {j : Nat} : FE K mg W X (.Constant (.bool i) j pos) (tC (.bl i)) (fC (.bl i)) := ⟨pe_bl, fn_c fun _ _ => .bl i⟩
theorem fe_str {i : Str} {j : Nat} : FE K mg W X (.Constant (.str i) j pos) (tC (.str i)) (fC (.str i)) := ⟨pe_str, fn_c fun _ _ => .str i⟩
def fOpN (g : D → D → Option D) (i : Nat) (fb : Fe) : Fe := fun S => if (slot S i).isSome then (fb S).bind fun d2 S2 => match slot S2 i with
    | some d1 => Rs.ofO (g d1 d2) S2
    | none => .stk
  else .stk
theorem fn_opN {r : R2} {g : D → D → Option D} (o : OpF K mg r g) (i : Nat) (hb : Vw K mg W tb fb) : Fn K mg W (tOp r (tVar i) tb) (fOpN g i fb) := fun Z H σ S gg Q sim p => by
  unfold fOpN at p
  split at p
  · rename_i hi
    obtain ⟨d0, h0⟩ := Option.isSome_iff_exists.mp hi
    obtain ⟨v, f, e1, r1, _⟩ := sim.r.get (slot_some h0)
    refine ⟨v, e1, hb Z H σ S gg _ sim ?_⟩
    rw [Rs.bind_post] at p
    refine Rs.post_mono p (fun d2 S2 p2 y Z2 H2 f2 g2 r2 s2 fr2 => ?_) fun _ _ q => q
    split at p2
    · rename_i d1 h1
      obtain ⟨v', f1, e1', r1', _⟩ := s2.r.get (slot_some h1)
      rw [e1] at e1'; cases e1'
      cases e : g d1 d2 with
      | none => rw [e] at p2; exact p2.elim
      | some d =>
        rw [e] at p2
        exact o Z2 H2 v y d1 d2 f1 f2 d Q s2.s r1' r2 e fun v Z3 H3 f rv ex => p2 v Z3 H3 f g2 rv (ex.sim s2) (ex.dj s2) (fr2.trans ex.fr)
    · exact p2.elim
  · exact p.elim
section
variable {r : R2} {g : D → D → Option D} {op : Operator} {cop : CmpOp}
theorem fe_op (ho : OpR X (binaryOp op) r) (o : OpF K mg r g) (ha : FE K mg W X a ta fa) (hb : VE K mg W X b tb fb) : FE K mg W X (.BinOp a op b pos) (tOp r ta tb) (fOp g fa fb) := ⟨pe_op ho ha.pe hb.pe, fn_opV o ha.fn hb.vw⟩
theorem fe_opN (ho : OpR X (binaryOp op) r) (o : OpF K mg r g) {i : Nat} {fi : Fe} (ha : VE K mg W X a (tVar i) fi) (hb : VE K mg W X b tb fb) : FE K mg W X (.BinOp a op b pos) (tOp r (tVar i) tb) (fOpN g i fb) := ⟨pe_op ho ha.pe hb.pe, fn_opN o i hb.vw⟩
theorem fe_cmp (ho : OpR X (compareOp cop) r) (o : OpF K mg r g) (ha : FE K mg W X a ta fa) (hb : VE K mg W X b tb fb) (hm : behindInMarks cop b = false) : FE K mg W X (.Compare a [cop] [b] pos) (tOp r ta tb) (fOp g fa fb) := ⟨pe_cmpR ho ha.pe hb.pe hm, fn_opV o ha.fn hb.vw⟩
theorem fe_cmpN (ho : OpR X (compareOp cop) r) (o : OpF K mg r g) {i : Nat} {fi : Fe} (ha : VE K mg W X a (tVar i) fi) (hb : VE K mg W X b tb fb) (hm : behindInMarks cop b = false) : FE K mg W X (.Compare a [cop] [b] pos) (tOp r (tVar i) tb) (fOpN g i fb) := ⟨pe_cmpR ho ha.pe hb.pe hm, fn_opN o i hb.vw⟩
theorem fe_ix (c : Ct K mg k W X) (ha : FE K mg W X a ta fa) (hb : VE K mg W X b tb fb) (hs : PlainIx b) : FE K mg W X (.Subscript a b pos) (tOp (rIxA K) ta tb) (fOp gIx fa fb) := ⟨pe_ix (ix_any c.hK (by have := c.hu; omega)) ha.pe hb.pe hs, fn_opV opIx ha.fn hb.vw⟩
theorem fe_ixN (c : Ct K mg k W X) {i : Nat} {fi : Fe} (ha : VE K mg W X a (tVar i) fi) (hb : VE K mg W X b tb fb) (hs : PlainIx b) : FE K mg W X (.Subscript a b pos) (tOp (rIxA K) (tVar i) tb) (fOpN gIx i fb) := ⟨pe_ix (ix_any c.hK (by have := c.hu; omega)) ha.pe hb.pe hs, fn_opN opIx i hb.vw⟩
end
def fTest (f : Fe) : SS → Rs Bool := fun S => (f S).bind fun d S1 => match d with
  | .bl b => .ok b S1
  | _ => .stk
theorem fnt_val (h : Fn K mg W t f) : FnT K mg W (tB t) (fTest f) := fun Z H σ S g Q sim p => by
  refine h Z H σ S g _ sim ?_
  have p' : ((f S).bind fun d S1 => match d with | .bl b => Rs.ok b S1 | _ => Rs.stk).post _ _ := p
  rw [Rs.bind_post] at p'
  refine Rs.post_mono p' (fun d S1 p1 v Z1 H1 f1 g1 r1 s1 dj fr => ?_) fun _ _ q => q
  split at p1
  · obtain ⟨rfl, _⟩ := r1.bl_inv
    exact ⟨_, rfl, p1 Z1 H1 g1 s1 (fr.sub fun c m => by simp [m])⟩
  · exact p1.elim
theorem ft_cmp {r : R2} {g : D → D → Option D} {cop : CmpOp} (ho : OpR X (compareOp cop) r) (o : OpF K mg r g) (ha : FE K mg W X a ta fa) (hb : VE K mg W X b tb fb) (hm : behindInMarks cop b = false) :
    FT K mg W X (.Compare a [cop] [b] pos) (tTest (tOp r ta tb)) (fTest (fOp g fa fb)) := ⟨pt_cmpR ho ha.pe hb.pe hm, fnt_val (fn_opV o ha.fn hb.vw)⟩
theorem ft_cmpN {r : R2} {g : D → D → Option D} {cop : CmpOp} (ho : OpR X (compareOp cop) r) (o : OpF K mg r g) {i : Nat} {fi : Fe} (ha : VE K mg W X a (tVar i) fi) (hb : VE K mg W X b tb fb) (hm : behindInMarks cop b = false) :
    FT K mg W X (.Compare a [cop] [b] pos) (tTest (tOp r (tVar i) tb)) (fTest (fOpN g i fb)) := ⟨pt_cmpR ho ha.pe hb.pe hm, fnt_val (fn_opN o i hb.vw)⟩
theorem ft_val (h : FE K mg W X e t f) (he : ∀ whole, isTrue e X.env whole = (do let v ← whole; standAt e.pos; holding [v] (truthy v)) := by intro _; rfl) : FT K mg W X e (tB t) (fTest f) := ⟨pt_val h.pe he, fnt_val h.fn⟩
def fNot (f : SS → Rs Bool) : SS → Rs Bool := fun S => (f S).bind fun b S1 => .ok (!b) S1
theorem ft_not {tt : TT} {ff : SS → Rs Bool} (h : FT K mg W X a tt ff) : FT K mg W X (.UnaryOp .Not a pos) (tNot tt) (fNot ff) := ⟨pt_not h.pt, fun Z H σ S g Q sim p => by
  refine h.fn Z H σ S g _ sim ?_
  have p' : ((ff S).bind fun b S1 => Rs.ok (!b) S1).post _ _ := p
  rw [Rs.bind_post] at p'
  exact Rs.post_mono p' (fun _ _ q => q) fun _ _ q => q⟩
structure FW (K : PySem.W.Frag) (mg : Str → Option Value) (W : WX) (X : Cx) (e : Expr) (t : TT) (f : SS → Rs Bool) : Prop where
  pw : PW X e t
  fn : FnT K mg W t f
theorem FW.ft {tt : TT} {ff : SS → Rs Bool} (h : FW K mg W X e tt ff) : FT K mg W X e tt ff := ⟨h.pw.pt, h.fn⟩
def fAnd (f g : SS → Rs Bool) : SS → Rs Bool := fun S => (f S).bind fun b S1 => if b then g S1 else .ok false S1
def fOr (f g : SS → Rs Bool) : SS → Rs Bool := fun S => (f S).bind fun b S1 => if b then .ok true S1 else g S1
variable {rest : List Expr} {tt uu : TT} {ff gg : SS → Rs Bool}
theorem fnt_and (h1 : FnT K mg W tt ff) (h2 : FnT K mg W uu gg) : FnT K mg W (tAnd tt uu) (fAnd ff gg) := fun Z H σ S g Q sim p => by
  refine h1 Z H σ S g _ sim ?_
  have p' : ((ff S).bind fun b S1 => if b then gg S1 else Rs.ok false S1).post _ _ := p
  rw [Rs.bind_post] at p'
  refine Rs.post_mono p' (fun b S1 q Z1 H1 g1 s1 fr => ?_) fun _ _ q => q
  cases b with
  | true => exact h2 Z1 H1 σ S1 g1 Q s1 (Rs.post_mono q (fun _ _ q Z2 H2 g2 s2 fr2 => q Z2 H2 g2 s2 (fr.trans fr2)) fun _ _ q => q.from fr)
  | false => exact q Z1 H1 g1 s1 fr
theorem fnt_or (h1 : FnT K mg W tt ff) (h2 : FnT K mg W uu gg) : FnT K mg W (tOr tt uu) (fOr ff gg) := fun Z H σ S g Q sim p => by
  refine h1 Z H σ S g _ sim ?_
  have p' : ((ff S).bind fun b S1 => if b then Rs.ok true S1 else gg S1).post _ _ := p
  rw [Rs.bind_post] at p'
  refine Rs.post_mono p' (fun b S1 q Z1 H1 g1 s1 fr => ?_) fun _ _ q => q
  cases b with
  | false => exact h2 Z1 H1 σ S1 g1 Q s1 (Rs.post_mono q (fun _ _ q Z2 H2 g2 s2 fr2 => q Z2 H2 g2 s2 (fr.trans fr2)) fun _ _ q => q.from fr)
  | true => exact q Z1 H1 g1 s1 fr
theorem fw_and1 (ha : FT K mg W X a tt ff) : FW K mg W X (.BoolOp .And [a] pos) tt ff := ⟨pw_and1 ha.pt, ha.fn⟩
theorem fw_or1 (ha : FT K mg W X a tt ff) : FW K mg W X (.BoolOp .Or [a] pos) tt ff := ⟨pw_or1 ha.pt, ha.fn⟩
theorem fw_and (ha : FT K mg W X a tt ff) (hb : FW K mg W X (.BoolOp .And (b :: rest) pos) uu gg) : FW K mg W X (.BoolOp .And (a :: b :: rest) pos) (tAnd tt uu) (fAnd ff gg) := ⟨pw_and ha.pt hb.pw, fnt_and ha.fn hb.fn⟩
theorem fw_or (ha : FT K mg W X a tt ff) (hb : FW K mg W X (.BoolOp .Or (b :: rest) pos) uu gg) : FW K mg W X (.BoolOp .Or (a :: b :: rest) pos) (tOr tt uu) (fOr ff gg) := ⟨pw_or ha.pt hb.pw, fnt_or ha.fn hb.fn⟩
def fAndV (f g : Fe) : Fe := fun S => (f S).bind fun d S1 => match d with
  | .bl true => g S1
  | .bl false => .ok (.bl false) S1
  | _ => .stk
def fOrV (f g : Fe) : Fe := fun S => (f S).bind fun d S1 => match d with
  | .bl false => g S1
  | .bl true => .ok (.bl true) S1
  | _ => .stk
def fNotV (f : Fe) : Fe := fun S => (f S).bind fun d S1 => match d with
  | .bl b => .ok (.bl (!b)) S1
  | _ => .stk
theorem fe_one {op} (h : FE K mg W X a t f) : FE K mg W X (.BoolOp op [a] pos) t f := ⟨pe_one h.pe, h.fn⟩
theorem fn_after {Z H : Hp} {σ : Sg} {g g1 : List Addr} {Z1 H1 : Hp} {Q : VK} {S1 : SS} (h : Fn K mg W t f) (s1 : Sim K mg Z1 H1 σ S1 g1) (fr : Fr Z H g Z1 H1 g1) (q : (f S1).post (OkE K mg Z H σ g Q) (ExE K mg W Z H σ g)) : t σ H1 Q :=
  h Z1 H1 σ S1 g1 Q s1 (Rs.post_mono q (fun _ _ q v Z2 H2 f2 g2 r2 s2 dj fr2 => q v Z2 H2 f2 g2 r2 s2 dj (fr.trans fr2)) fun _ _ q => q.from fr)
theorem fe_or (ha : FE K mg W X a ta fa) (hb : FE K mg W X (.BoolOp .Or (b :: rest) pos) tb fb) : FE K mg W X (.BoolOp .Or (a :: b :: rest) pos) (tOrV ta tb) (fOrV fa fb) := ⟨pe_or ha.pe hb.pe, fun Z H σ S g Q sim p => by
  refine ha.fn Z H σ S g _ sim ?_
  have p' : ((fa S).bind fun d S1 => match d with | .bl false => fb S1 | .bl true => Rs.ok (D.bl true) S1 | _ => Rs.stk).post _ _ := p
  rw [Rs.bind_post] at p'
  refine Rs.post_mono p' (fun d S1 p1 v Z1 H1 f1 g1 r1 s1 dj fr => ?_) fun _ _ q => q
  have fr1 : Fr Z H g Z1 H1 g1 := fr.sub fun c m => by simp [m]
  split at p1
  · obtain ⟨rfl, _⟩ := r1.bl_inv
    refine ⟨_, rfl, ?_⟩
    rw [if_neg (by decide)]
    exact fn_after hb.fn s1 fr1 p1
  · obtain ⟨rfl, _⟩ := r1.bl_inv
    refine ⟨_, rfl, ?_⟩
    rw [if_pos rfl]
    exact p1 _ Z1 H1 [] g1 (.bl _) s1 (by simp) fr1
  · exact p1.elim⟩
def fIfE (c : SS → Rs Bool) (f g : Fe) : Fe := fun S => (c S).bind fun b S1 => if b then f S1 else g S1
end
end
end T3
set_option Elab.async false
set_option linter.all false
set_option maxRecDepth 100000
set_option maxHeartbeats 4000000
namespace T3
open PySem PySem.Spec PyProof.Rows L2
section
variable {K : PySem.W.Frag} {mg : Str → Option Value} {Z H Z' H' : Hp}
inductive Fl where
  | nx | rt (d : D) | bk | ct
abbrev Fst := SS → Rs Fl
def Pin (pn : Nat → Bool) (σ σ' : Sg) : Prop := σ'.length = σ.length ∧ ∀ i, pn i = true → σ'[i]? = σ[i]?
theorem Pin.refl {pn : Nat → Bool} (σ : Sg) : Pin pn σ σ := ⟨rfl, fun _ _ => rfl⟩
theorem Pin.trans {pn : Nat → Bool} {a b c : Sg} (h : Pin pn a b) (q : Pin pn b c) : Pin pn a c := ⟨q.1.trans h.1, fun i e => (q.2 i e).trans (h.2 i e)⟩
abbrev OkS (K : PySem.W.Frag) (mg : Str → Option Value) (pn : Nat → Bool) (Z H : Hp) (σ : Sg) (g : List Addr) (R : Sg → Hp → Prop) (S' : SS) : Prop :=
  ∀ σ' Z' H' g', Sim K mg Z' H' σ' S' g' → Fr Z H g Z' H' g' → Pin pn σ σ' → R σ' H'
abbrev OkF (K : PySem.W.Frag) (mg : Str → Option Value) (pn : Nat → Bool) (Z H : Hp) (σ : Sg) (g : List Addr) (E : Ends) (fl : Fl) (S' : SS) : Prop := match fl with
  | .nx => OkS K mg pn Z H σ g E.nx S'
  | .bk => OkS K mg pn Z H σ g E.bk S'
  | .ct => OkS K mg pn Z H σ g E.ct S'
  | .rt d => ∀ v σ' Z' H' f g', Rp K mg Z' H' v d f → Sim K mg Z' H' σ' S' g' → (∀ c ∈ f, c ∉ g') → Fr Z H g Z' H' (f ++ g') → Pin pn σ σ' → E.rt v H'
abbrev ExS (K : PySem.W.Frag) (mg : Str → Option Value) (W : WX) (pn : Nat → Bool) (Z H : Hp) (σ : Sg) (g : List Addr) (e : D) (S' : SS) : Prop :=
  ∀ c dx σ' Z' H' g', RpX K mg Z' H' c dx e → Sim K mg Z' H' σ' S' g' → Fr Z H g Z' H' g' → Pin pn σ σ' → W c dx σ' H'
def Fs (K : PySem.W.Frag) (mg : Str → Option Value) (W : WX) (pn : Nat → Bool) (t : TS) (f : Fst) : Prop :=
  ∀ Z H σ S g E, Sim K mg Z H σ S g → (f S).post (OkF K mg pn Z H σ g E) (ExS K mg W pn Z H σ g) → t E σ H
theorem ExS.exe {W : WX} {pn : Nat → Bool} {σ : Sg} {g : List Addr} {e : D} {S' : SS} (h : ExS K mg W pn Z H σ g e S') : ExE K mg W Z H σ g e S' := fun c dx Z' H' g' r s fr => h c dx σ Z' H' g' r s fr (.refl _)
theorem ExS.from {W : WX} {pn : Nat → Bool} {σ σ1 : Sg} {g g1 : List Addr} {e : D} {S' : SS} {Z1 H1 : Hp} (h : ExS K mg W pn Z H σ g e S') (fr : Fr Z H g Z1 H1 g1) (pp : Pin pn σ σ1) : ExS K mg W pn Z1 H1 σ1 g1 e S' :=
  fun c dx σ' Z' H' g' r s f q => h c dx σ' Z' H' g' r s (fr.trans f) (pp.trans q)
theorem OkS.from {pn : Nat → Bool} {σ σ1 : Sg} {g g1 : List Addr} {R : Sg → Hp → Prop} {S' : SS} {Z1 H1 : Hp} (h : OkS K mg pn Z H σ g R S') (fr : Fr Z H g Z1 H1 g1) (pp : Pin pn σ σ1) : OkS K mg pn Z1 H1 σ1 g1 R S' :=
  fun σ' Z' H' g' s f q => h σ' Z' H' g' s (fr.trans f) (pp.trans q)
theorem OkF.from {pn : Nat → Bool} {σ σ1 : Sg} {g g1 : List Addr} {E : Ends} {fl : Fl} {S' : SS} {Z1 H1 : Hp} (h : OkF K mg pn Z H σ g E fl S') (fr : Fr Z H g Z1 H1 g1) (pp : Pin pn σ σ1) : OkF K mg pn Z1 H1 σ1 g1 E fl S' := by
  cases fl with
  | nx => exact OkS.from h fr pp
  | bk => exact OkS.from h fr pp
  | ct => exact OkS.from h fr pp
  | rt d => exact fun v σ' Z' H' f g' r s dj fr2 q => h v σ' Z' H' f g' r s dj (fr.trans fr2) (pp.trans q)
structure FS1 (K : PySem.W.Frag) (mg : Str → Option Value) (W : WX) (pn : Nat → Bool) (X : Cx) (st : Stmt) (t : TS) (f : Fst) : Prop where
  ps : PS X st t
  fn : Fs K mg W pn t f
structure FS (K : PySem.W.Frag) (mg : Str → Option Value) (W : WX) (pn : Nat → Bool) (X : Cx) (st : List Stmt) (t : TS) (f : Fst) : Prop where
  ps : PSs X st t
  fn : Fs K mg W pn t f
section
variable {k : Nat} {W : WX} {pn : Nat → Bool} {X : Cx} {st : Stmt} {sts : List Stmt} {e a b : Expr} {t u : TS} {te ta tb : TE} {f h : Fst} {fe fa fb : Fe} {pos : Pos}
def fNext : Fst := fun S => .ok .nx S
def fSeq (f h : Fst) : Fst := fun S => (f S).bind fun fl S1 => match fl with
  | .nx => h S1
  | fl => .ok fl S1
theorem fs_seq (h1 : Fs K mg W pn t f) (h2 : Fs K mg W pn u h) : Fs K mg W pn (tSeq t u) (fSeq f h) := fun Z H σ S g E sim p => by
  refine h1 Z H σ S g _ sim ?_
  unfold fSeq at p
  rw [Rs.bind_post] at p
  refine Rs.post_mono p (fun fl S1 p1 => ?_) fun _ _ q => q
  cases fl with
  | nx => exact fun σ1 Z1 H1 g1 s1 fr pp => h2 Z1 H1 σ1 S1 g1 E s1 (Rs.post_mono p1 (fun _ _ q => OkF.from q fr pp) fun _ _ q => ExS.from q fr pp)
  | bk => exact p1
  | ct => exact p1
  | rt d => exact p1
theorem fss_nil : FS K mg W pn X [] tNext fNext := ⟨pss_nil, fun Z H σ S g E sim p => p σ Z H g sim (Fr.refl _ _ _) (.refl _)⟩
theorem fss_cons (h1 : FS1 K mg W pn X st t f) (h2 : FS K mg W pn X sts u h) : FS K mg W pn X (st :: sts) (tSeq t u) (fSeq f h) := ⟨pss_cons h1.ps h2.ps, fs_seq h1.fn h2.fn⟩
theorem fss_one (h1 : FS1 K mg W pn X st t f) : FS K mg W pn X [st] t f := ⟨pss_one h1.ps, h1.fn⟩
def fBreak : Fst := fun S => .ok .bk S
def fCont : Fst := fun S => .ok .ct S
def fzSlot (i : Nat) (S : SS) : SS := match slot S i with
  | some d => S.set i (some (frz d))
  | none => S
def fFzS (i : Nat) (f : Fst) : Fst := fun S => f (fzSlot i S)
theorem sim_fzSlot {σ : Sg} {S : SS} {g : List Addr} (sim : Sim K mg Z H σ S g) (i : Nat) : ∃ Z' g', Sim K mg Z' H σ (fzSlot i S) g' ∧ Fr Z H g Z' H g' := by
  unfold fzSlot
  split
  · rename_i d hd
    obtain ⟨v, f, g', e1, r1, t1, pm⟩ := sim.r.take (slot_some hd)
    have nd : (f ++ g').Nodup := pm.nodup_iff.mpr sim.nd
    have dj : ∀ c ∈ f, c ∉ g' := fun c m m2 => (List.nodup_append.mp nd).2.2 c m c m2 rfl
    obtain ⟨Z', z, zh, n, r2⟩ := r1.freeze sim.s
    have s1 : Sim K mg Z H σ (S.set i none) g' := ⟨t1, (List.nodup_append.mp nd).2.1, sim.s, sim.t⟩
    have s2 := freeze_sim s1 z zh n dj
    obtain ⟨g2, b1, r, b2⟩ := s2.r.back r2 e1
    rw [List.set_set] at b1
    have sub : ∀ c ∈ g2, c ∈ g' := fun c m => by have := b2.mem_iff (a := c); simp at this; exact this.mp (.inl m)
    have ndr : (g2 ++ r).Nodup := b2.nodup_iff.mpr s2.nd
    refine ⟨Z', g2, ⟨b1, (List.nodup_append.mp ndr).1, zh, s2.t⟩, ?_⟩
    exact ((freeze_fr (H := H) (g := g') z n).wide fun c m => pm.mem_iff.mp m).sub sub
  · exact ⟨Z, g, sim, Fr.refl _ _ _⟩
theorem fn_fzS (i : Nat) (h1 : Fs K mg W pn t f) : Fs K mg W pn t (fFzS i f) := fun Z H σ S g E sim p => by
  obtain ⟨Z', g', s1, fr⟩ := sim_fzSlot sim i
  exact h1 Z' H σ _ g' E s1 (Rs.post_mono p (fun _ _ q => OkF.from q fr (.refl _)) fun _ _ q => ExS.from q fr (.refl _))
theorem FS1.fzS (i : Nat) (h1 : FS1 K mg W pn X st t f) : FS1 K mg W pn X st t (fFzS i f) := ⟨h1.ps, fn_fzS i h1.fn⟩
abbrev Ft := D → SS → Option SS
def Fg (K : PySem.W.Frag) (mg : Str → Option Value) (pn : Nat → Bool) (tg : TG) (ft : Ft) : Prop :=
  ∀ Z H σ S g v d f S' (Q : Sg → Hp → Prop), Rp K mg Z H v d f → Sim K mg Z H σ S g → (∀ c ∈ f, c ∉ g) → ft d S = some S' → (∀ σ' g', Sim K mg Z H σ' S' g' → (∀ c ∈ g', c ∈ f ++ g) → Pin pn σ σ' → Q σ' H) → tg v σ H Q
structure FG (K : PySem.W.Frag) (mg : Str → Option Value) (pn : Nat → Bool) (X : Cx) (e : Expr) (tg : TG) (ft : Ft) : Prop where
  pg : PG X e tg
  fn : Fg K mg pn tg ft
def ftName (i : Nat) : Ft := fun d S => some (S.set i (some d))
theorem sim_put {σ : Sg} {S : SS} {g f : List Addr} {v : V} {d : D} (i : Nat) (r : Rp K mg Z H v d f) (sim : Sim K mg Z H σ S g) (dj : ∀ c ∈ f, c ∉ g) : ∃ g', Sim K mg Z H (σ.set i (some v)) (S.set i (some d)) g' ∧ ∀ c ∈ g', c ∈ f ++ g := by
  by_cases l : i < S.length
  · obtain ⟨g', h1, q, h2⟩ := sim.r.put r l
    have nd : (f ++ g).Nodup := List.nodup_append.mpr ⟨r.nd, sim.nd, fun a m b m2 e => dj a m (e ▸ m2)⟩
    have ndr : (g' ++ q).Nodup := h2.nodup_iff.mpr nd
    exact ⟨g', ⟨h1, (List.nodup_append.mp ndr).1, sim.s, sim.t⟩, fun c m => h2.mem_iff.mp (by simp [m])⟩
  · have e1 : S.set i (some d) = S := List.set_eq_of_length_le (by omega)
    have e2 : σ.set i (some v) = σ := List.set_eq_of_length_le (by have := sim.r.length; omega)
    rw [e1, e2]
    exact ⟨g, sim, fun c m => by simp [m]⟩
theorem fg_name {i : Nat} (hp : pn i = false) : Fg K mg pn (gName i) (ftName i) := fun Z H σ S g v d f S' Q r sim dj e q => by
  cases e
  obtain ⟨g', s, sub⟩ := sim_put i r sim dj
  refine q _ g' s sub ⟨by simp, fun j hj => ?_⟩
  have : j ≠ i := fun z => by subst z; rw [hp] at hj; cases hj
  rw [List.getElem?_set_ne (Ne.symm this)]
theorem fgn (i : Nat) {x : Str} (hN : X.N.Nodup) (hi : X.N[i]? = some x := by rfl) (hx : Loc X.env.scope x := by first | exact Or.inl rfl | exact Or.inr rfl) (hp : pn i = false := by rfl) (hf : X.fn x = true ∨ X.env.scope.names.lookup x = some .local := by first | exact .inl rfl | exact .inr rfl) :
    FG K mg pn X (.Name x pos) (gName i) (ftName i) := ⟨pg_name hN hi hx hf, fg_name hp⟩
abbrev Fts := List D → SS → Option SS
def Fgs (K : PySem.W.Frag) (mg : Str → Option Value) (pn : Nat → Bool) (tg : TGs) (ft : Fts) : Prop :=
  ∀ Z H σ S g vs ds S' (Q : Sg → Hp → Prop), RpL K mg Z H vs ds → Sim K mg Z H σ S g → ft ds S = some S' → (∀ σ' g', Sim K mg Z H σ' S' g' → (∀ c ∈ g', c ∈ g) → Pin pn σ σ' → Q σ' H) → tg vs σ H Q
structure FGs (K : PySem.W.Frag) (mg : Str → Option Value) (pn : Nat → Bool) (X : Cx) (es : List Expr) (tg : TGs) (ft : Fts) : Prop where
  pg : PGs X es tg
  fn : Fgs K mg pn tg ft
def ftNil : Fts := fun ds S => match ds with
  | [] => some S
  | _ => none
def ftCons (f : Ft) (g : Fts) : Fts := fun ds S => match ds with
  | [] => none
  | d :: r => (f d S).bind (g r)
theorem fgs_nil : FGs K mg pn X [] gNil ftNil := ⟨pgs_nil, fun Z H σ S g vs ds S' Q r sim e q => by
  cases r with
  | nil => cases e; exact ⟨rfl, q σ g sim (fun _ m => m) (.refl _)⟩
  | cons _ _ => cases e⟩
theorem fgs_cons {es : List Expr} {tg : TG} {tgs : TGs} {ft : Ft} {fts : Fts} (h1 : FG K mg pn X e tg ft) (h2 : FGs K mg pn X es tgs fts)
    (hs : (assignEach (e :: es) X.env).map (·.2) = assign e X.env :: (assignEach es X.env).map (·.2) := by rfl) : FGs K mg pn X (e :: es) (gCons tg tgs) (ftCons ft fts) := ⟨pgs_cons h1.pg h2.pg hs, fun Z H σ S g vs ds S' Q r sim ee q => by
  cases r with
  | nil => cases ee
  | cons h t =>
    obtain ⟨S1, e1, e2⟩ := Option.bind_eq_some_iff.mp ee
    refine ⟨_, _, rfl, h1.fn Z H σ S g _ _ [] S1 _ h sim (by simp) e1 fun σ1 g1 s1 sub1 p1 => ?_⟩
    exact h2.fn Z H σ1 S1 g1 _ _ S' Q t s1 e2 fun σ2 g2 s2 sub2 p2 => q σ2 g2 s2 (fun c m => by simpa using sub1 c (sub2 c m)) (p1.trans p2)⟩
def ftTup (fts : Fts) : Ft := fun d S => match d with
  | .tup ds => fts ds S
  | _ => none
theorem fg_tup {n : Nat} {tgs : TGs} {fts : Fts} (hn : ∀ ds S S', fts ds S = some S' → ds.length = n) (h : Fgs K mg pn tgs fts) : Fg K mg pn (gTup K n tgs) (ftTup fts) := fun Z H σ S g v d f S' Q r sim dj e q => by
  cases d <;> try cases e
  rename_i ds
  obtain ⟨a, vs, rfl, h1, rfl, l1⟩ := r.tup_inv
  exact ⟨a, vs, rfl, .of (sim.s _ _ h1), by rw [l1.length]; exact hn ds S S' e, h Z H σ S g vs ds S' Q l1 sim e fun σ' g' s sub p => q σ' g' s (fun c m => by simpa using sub c m) p⟩
theorem ftNil_len : ∀ (ds : List D) (S S' : SS), ftNil ds S = some S' → ds.length = 0 := fun ds S S' e => by
  cases ds with
  | nil => rfl
  | cons _ _ => cases e
theorem ftCons_len {n : Nat} {ft : Ft} {fts : Fts} (h : ∀ (ds : List D) (S S' : SS), fts ds S = some S' → ds.length = n) : ∀ (ds : List D) (S S' : SS), ftCons ft fts ds S = some S' → ds.length = n + 1 := fun ds S S' e => by
  cases ds with
  | nil => cases e
  | cons d r =>
    obtain ⟨S1, e1, e2⟩ := Option.bind_eq_some_iff.mp e
    simp [h r S1 S' e2]
theorem fgt {es : List Expr} {j n : Nat} {tgs : TGs} {fts : Fts} (c : Ct K mg k W X) (h : FGs K mg pn X es tgs fts) (hl : ∀ (ds : List D) (S S' : SS), fts ds S = some S' → ds.length = n)
    (hn : (assignEach es X.env).length = n := by rfl) (hst : (assignEach es X.env).findIdx? (·.1) = none := by rfl) : FG K mg pn X (.Tuple es j pos) (gTup K n tgs) (ftTup fts) := ⟨by
    have := pg_tup (X := X) (k := j) (pos := pos) c.calm h.pg hn hst
    rw [c.hK] at this
    exact this, fg_tup hl h.fn⟩
def fAsg (fe : Fe) (ft : Ft) : Fst := fun S => (fe S).bind fun d S1 => match ft d S1 with
  | some S2 => .ok .nx S2
  | none => .stk
theorem fn_asg {tg : TG} {ft : Ft} (h1 : Fn K mg W te fe) (h2 : Fg K mg pn tg ft) : Fs K mg W pn (tAsg te tg) (fAsg fe ft) := fun Z H σ S g E sim p => by
  refine h1 Z H σ S g _ sim ?_
  unfold fAsg at p
  rw [Rs.bind_post] at p
  refine Rs.post_mono p (fun d S1 p1 v Z1 H1 f1 g1 r1 s1 dj1 fr1 => ?_) fun _ _ q => ExS.exe q
  split at p1
  · rename_i S2 e2
    exact h2 Z1 H1 σ S1 g1 v d f1 S2 _ r1 s1 dj1 e2 fun σ2 g2 s2 sub pp => p1 σ2 Z1 H1 g2 s2 (fr1.sub sub) pp
  · exact p1.elim
theorem fs_set (i : Nat) {x : Str} {pos' : Pos} (he : FE K mg W X e te fe) (c : Ct K mg k W X) (hi : X.N[i]? = some x := by rfl) (hx : Loc X.env.scope x := by first | exact Or.inl rfl | exact Or.inr rfl) (hp : pn i = false := by rfl) (hs : swapsWith e (some (.Name x pos')) pos.line X.env = pure false := by rfl)
    (hf : X.fn x = true ∨ X.env.scope.names.lookup x = some .local := by first | exact .inl rfl | exact .inr rfl) : FS1 K mg W pn X (.Assign [.Name x pos'] e pos) (tAsg te (gName i)) (fAsg fe (ftName i)) := ⟨ps_set c.nd hi hx he.pe hs hf, fn_asg he.fn (fg_name hp)⟩
theorem fs_asg {tge : Expr} {tg : TG} {ft : Ft} (he : FE K mg W X e te fe) (hg : FG K mg pn X tge tg ft) (hs : swapsWithSole [tge] e pos.line X.env = pure false := by rfl) (hw : swappedStores [tge] e X.env = pure none := by rfl)
    (h1 : (assignEach [tge] X.env).map (·.2) = [assign tge X.env] := by rfl) : FS1 K mg W pn X (.Assign [tge] e pos) (tAsg te tg) (fAsg fe ft) := ⟨ps_asg he.pe hg.pg hs hw h1, fn_asg he.fn hg.fn⟩
def fDrop (fe : Fe) : Fst := fun S => (fe S).bind fun _ S1 => .ok .nx S1
theorem fs_expr (he : FE K mg W X e te fe) (hs : swapsWith e none pos.line X.env = pure false := by rfl) : FS1 K mg W pn X (.Expr e pos) (tDrop te) (fDrop fe) := ⟨ps_expr he.pe hs, fun Z H σ S g E sim p => by
  refine he.fn Z H σ S g _ sim ?_
  unfold fDrop at p
  rw [Rs.bind_post] at p
  exact Rs.post_mono p (fun d S1 p1 v Z1 H1 f1 g1 r1 s1 dj1 fr1 => p1 σ Z1 H1 g1 s1 (fr1.sub fun c m => by simp [m]) (.refl _)) fun _ _ q => ExS.exe q⟩
def fRet (fe : Fe) : Fst := fun S => (fe S).bind fun d S1 => .ok (.rt d) S1
theorem fs_ret (he : FE K mg W X e te fe) : FS1 K mg W pn X (.Return (some e) pos) (tRet te) (fRet fe) := ⟨ps_ret he.pe, fun Z H σ S g E sim p => by
  refine he.fn Z H σ S g _ sim ?_
  unfold fRet at p
  rw [Rs.bind_post] at p
  exact Rs.post_mono p (fun d S1 p1 v Z1 H1 f1 g1 r1 s1 dj1 fr1 => p1 v σ Z1 H1 f1 g1 r1 s1 dj1 fr1 (.refl _)) fun _ _ q => ExS.exe q⟩
def fRetN : Fst := fun S => .ok (.rt .non) S
def fIf (c : SS → Rs Bool) (f h : Fst) : Fst := fun S => (c S).bind fun b S1 => if b then f S1 else h S1
theorem fs_if {c : Expr} {sa sb : List Stmt} {tt : TT} {ff : SS → Rs Bool} (hc : FT K mg W X c tt ff) (ha : FS K mg W pn X sa t f) (hb : FS K mg W pn X sb u h) : FS1 K mg W pn X (.If c sa sb pos) (tIfS tt t u) (fIf ff f h) := ⟨ps_if hc.pt ha.ps hb.ps, fun Z H σ S g E sim p => by
  refine hc.fn Z H σ S g _ sim ?_
  unfold fIf at p
  rw [Rs.bind_post] at p
  refine Rs.post_mono p (fun d S1 p1 Z1 H1 g1 s1 fr => ?_) fun _ _ q => ExS.exe q
  cases d with
  | true =>
    rw [if_pos rfl] at p1 ⊢
    exact ha.fn Z1 H1 σ S1 g1 E s1 (Rs.post_mono p1 (fun _ _ q => OkF.from q fr (.refl _)) fun _ _ q => ExS.from q fr (.refl _))
  | false =>
    rw [if_neg (by decide)] at p1 ⊢
    exact hb.fn Z1 H1 σ S1 g1 E s1 (Rs.post_mono p1 (fun _ _ q => OkF.from q fr (.refl _)) fun _ _ q => ExS.from q fr (.refl _))⟩
end
end
end T3
set_option Elab.async false
set_option linter.all false
set_option maxRecDepth 100000
set_option maxHeartbeats 4000000
namespace T3
open PySem PySem.Spec PyProof.Rows L2
section
variable {K : PySem.W.Frag} {mg : Str → Option Value} {Z H Z' H' : Hp}
def Feed (K : PySem.W.Frag) (mg : Str → Option Value) (J : It) (ds : List D) (Z0 : Hp) : Prop :=
  ∀ Z H, Same Z H → Same Z0 Z → (∀ i d, ds[i]? = some d → J.go i H ∧ ∀ x H', J.yld i H x H' → ∃ Z', Rp K mg Z' H' x d [] ∧ Ext Z H Z' H' []) ∧ J.stop ds.length H
abbrev Fit := SS → Rs (List D)
def Fi (K : PySem.W.Frag) (mg : Str → Option Value) (W : WX) (wi : TI) (fi : Fit) : Prop :=
  ∀ Z H σ S g R, Sim K mg Z H σ S g → (fi S).post (fun ds S' => ∀ J Z' H' g', Feed K mg J ds Z' → Sim K mg Z' H' σ S' g' → Fr Z H g Z' H' g' → R J H') (ExE K mg W Z H σ g) → wi σ H R
structure FI (K : PySem.W.Frag) (mg : Str → Option Value) (W : WX) (X : Cx) (tg e : Expr) (wi : TI) (fi : Fit) : Prop where
  pi : PI X tg e wi
  fn : Fi K mg W wi fi
section
variable {k : Nat} {W : WX} {pn : Nat → Bool} {X : Cx} {tge e a b : Expr} {t u : TS} {te ta tb : TE} {wi : TI} {fi : Fit} {f h : Fst} {fe fa fb : Fe} {pos : Pos}
def iSeq (K : PySem.W.Frag) (tl : TE) : TI := fun σ H R => tl σ H fun x H1 => (∃ a, x = .ref a ∧ (∃ xs, SqL K H1 a xs) ∧ R (Itl K a) H1) ∨ ((∃ a, x = .ref a ∧ (∃ xs, SqT K H1 a xs) ∧ R (Itt K a) H1) ∨ ∃ z, x = .str z ∧ R (Its z) H1)
theorem pi_seq {l : Expr} {tl : TE} (hl : PE X l tl) : PI X tge l (iSeq X.K tl) := by
  refine ⟨fun pins s σ H R I h => ?_⟩
  refine thn (hl.run pins s σ H _ I h) fun v s1 ⟨x, H1, I1, r1, q1⟩ => ?_
  rcases q1 with ⟨a, e, ⟨xs, hq⟩, q⟩ | ⟨a, e, ⟨xs, hq⟩, q⟩ | ⟨z, e, q⟩
  · subst e
    cases r1
    obtain ⟨its, rv, p, hz⟩ := I1.list hq
    refine wpAny_pyIter_list p.isList ?_
    refine ⟨s1.heap.objs.size, [s1.heap.objs.size], _, _, H1, rfl, I1.kept (t' := s1.toks) fun b o e => Heap.get?_push_of_some _ e, turn_list a _, ⟨_, Heap.get?_push_size _ rfl, rfl, rfl⟩, fun b hb => ?_, q⟩
    have e : b = s1.heap.objs.size := by simpa using hb
    subst e
    exact I1.fpOk (Nat.le_refl _) (I1.hok.fresh (Nat.le_refl _))
  · subst e
    cases r1
    obtain ⟨its, rv, p, hz⟩ := I1.tuple hq
    refine wpAny_pyIter_tuple (show s1.heap.IsTuple a its.toArray from p) ?_
    refine ⟨s1.heap.objs.size, [s1.heap.objs.size], _, _, H1, rfl, I1.kept (t' := s1.toks) fun b o e => Heap.get?_push_of_some _ e, turn_tuple a _, ⟨_, Heap.get?_push_size _ rfl, rfl, rfl⟩, fun b hb => ?_, q⟩
    have e : b = s1.heap.objs.size := by simpa using hb
    subst e
    exact I1.fpOk (Nat.le_refl _) (I1.hok.fresh (Nat.le_refl _))
  · subst e
    obtain ⟨t, rfl⟩ := r1
    cases ha : z.cps.all (· < 128)
    · exact wpAny_pyIter_wide ha (pi_one (tk := s1.toks) I1 _ (turn_str _ z t "str_iterator" (.inr rfl)) ⟨_, Heap.get?_push_size _ rfl, rfl, rfl⟩ q)
    · exact wpAny_pyIter_ascii ha (pi_one (tk := s1.toks) I1 _ (turn_str _ z t "str_ascii_iterator" (.inl rfl)) ⟨_, Heap.get?_push_size _ rfl, rfl, rfl⟩ q)
def seqOf : D → Option (List D)
  | .lst _ ds => some ds
  | .tup ds => some ds
  | .str z => some (z.cps.toList.map fun c => .str ⟨#[c]⟩)
  | _ => none
def fItSeq (fe : Fe) : Fit := fun S => (fe S).bind fun d S1 => Rs.ofO (seqOf d) S1
theorem feed_list' {a : Addr} {vs : List V} {ds : List D} (h : SqL K Z a vs) (l : RpL K mg Z H vs ds) : Feed K mg (Itl K a) ds Z := fun Z1 H1 hs hz => by
  have q : SqL K H1 a vs := hs.seq (hz.seq h)
  refine ⟨fun i d e => ?_, ⟨vs, q, by rw [l.length]; exact Nat.le_refl _⟩⟩
  obtain ⟨v, e1, r1⟩ := l.get e
  refine ⟨⟨vs, v, q, e1⟩, fun x H2 ⟨e2, y⟩ => ?_⟩
  subst e2
  have := y vs q
  rw [e1] at this; cases this
  exact ⟨Z1, r1.mono hz (by simp) (by simp), Ext.refl hs⟩
theorem Same.tup' {a : Addr} {xs : List V} (e : Same H H') (h : SqT K H a xs) : SqT K H' a xs := by
  rcases h with (h | ⟨o, h⟩) | h
  · exact .inl (.inl (e _ _ h))
  · exact .inl (.inr ⟨o, e _ _ h⟩)
  · exact .inr h
theorem feed_tup {a : Addr} {vs : List V} {ds : List D} (h : SqT K Z a vs) (l : RpL K mg Z H vs ds) : Feed K mg (Itt K a) ds Z := fun Z1 H1 hs hz => by
  have q : SqT K H1 a vs := Same.tup' hs (Same.tup' hz h)
  refine ⟨fun i d e => ?_, ⟨vs, q, by rw [l.length]; exact Nat.le_refl _⟩⟩
  obtain ⟨v, e1, r1⟩ := l.get e
  refine ⟨⟨vs, v, q, e1⟩, fun x H2 ⟨e2, y⟩ => ?_⟩
  subst e2
  have := y vs q
  rw [e1] at this; cases this
  exact ⟨Z1, r1.mono hz (by simp) (by simp), Ext.refl hs⟩
theorem feed_str (z : Str) : Feed K mg (Its z) (z.cps.toList.map fun c => D.str ⟨#[c]⟩) Z := fun Z1 H1 hs hz => by
  refine ⟨fun i d e => ?_, by show z.cps.size ≤ _; simp⟩
  rw [List.getElem?_map] at e
  obtain ⟨c, e1, rfl⟩ := Option.map_eq_some_iff.mp e
  have e2 : z.cps[i]? = some c := by simpa using e1
  have e0 : i < z.cps.size := by
    rcases Nat.lt_or_ge i z.cps.size with l | l
    · exact l
    · rw [Array.getElem?_eq_none l] at e2; cases e2
  refine ⟨e0, fun x H2 ⟨e3, c', e4, e5⟩ => ?_⟩
  subst e3
  rw [e2] at e4; cases e4
  subst e5
  exact ⟨Z1, .str _, Ext.refl hs⟩
theorem fi_seq (he : Fn K mg W te fe) : Fi K mg W (iSeq K te) (fItSeq fe) := fun Z H σ S g R sim p => by
  refine he Z H σ S g _ sim ?_
  unfold fItSeq at p
  rw [Rs.bind_post] at p
  refine Rs.post_mono p (fun d S1 p1 v Z1 H1 f1 g1 r1 s1 dj1 fr1 => ?_) fun _ _ q => q
  cases e : seqOf d with
  | none => rw [e] at p1; exact p1.elim
  | some ds =>
    rw [e] at p1
    obtain ⟨Z2, z, zh, n, r2⟩ := r1.freeze s1.s
    have s2 := freeze_sim s1 z zh n dj1
    have fr2 := fr1.trans (freeze_fr (H := H1) (g := g1) z n)
    cases d with
    | tup ds' =>
      cases e
      obtain ⟨a, vs, rfl, h1, _, l1⟩ := (show Rp K mg Z2 H1 v (.tup ds) [] from r2).tup_inv
      exact .inr (.inl ⟨a, rfl, ⟨vs, .of (zh _ _ h1)⟩, p1 _ Z2 H1 g1 (feed_tup (.of h1) l1) s2 fr2⟩)
    | lst o ds' =>
      cases e
      have e3 : ∃ o', frz (.lst o ds) = .lst o' ds ∧ o' ≠ .ow := by cases o <;> exact ⟨_, rfl, by decide⟩
      obtain ⟨o', e4, e5⟩ := e3
      rw [e4] at r2
      obtain ⟨a, vs, rfl, h1, l1⟩ := r2.lst_inv
      have q : SqL K Z2 a vs := by
        cases o' with
        | fz => exact .of h1.1
        | ow => exact absurd rfl e5
        | ex =>
          obtain ⟨⟨ws, e6, h6⟩, _⟩ := h1
          cases e6; exact h6
      exact .inl ⟨a, rfl, ⟨vs, zh.seq q⟩, p1 _ Z2 H1 g1 (feed_list' q l1) s2 fr2⟩
    | str z =>
      cases e
      obtain ⟨rfl, _⟩ := r1.str_inv
      exact .inr (.inr ⟨_, rfl, p1 _ Z2 H1 g1 (feed_str _) s2 fr2⟩)
    | _ => cases e
theorem fi_seqE (c : Ct K mg k W X) (he : FE K mg W X e te fe) : FI K mg W X tge e (iSeq K te) (fItSeq fe) := ⟨by
  have := pi_seq (X := X) (tge := tge) he.pe
  rw [c.hK] at this
  exact this, fi_seq he.fn⟩
def intsD (lo : Int) (n : Nat) : List D := (List.range n).map fun i => .int (lo + (i : Nat))
theorem feed_range (lo : Int) (n : Nat) : Feed K mg (Itr lo n) (intsD lo n) Z := fun Z1 H1 hs hz => by
  refine ⟨fun i d e => ?_, by show n ≤ _; simp [intsD]⟩
  simp only [intsD, List.getElem?_map] at e
  obtain ⟨j, e1, rfl⟩ := Option.map_eq_some_iff.mp e
  have hi : i < n := by
    rcases Nat.lt_or_ge i n with l | l
    · exact l
    · rw [List.getElem?_eq_none (by simpa using l)] at e1; cases e1
  rw [List.getElem?_range hi] at e1
  cases e1
  exact ⟨hi, fun x H2 ⟨e3, e4⟩ => by subst e3 e4; exact ⟨Z1, .int _, Ext.refl hs⟩⟩
def fRng1 (fa : Fe) : Fit := fun S => (fa S).bind fun d S1 => match d with
  | .int j => if -(2 ^ 62) ≤ j ∧ j < 2 ^ 62 then .ok (intsD 0 j.toNat) S1 else .stk
  | _ => .stk
theorem fi_rng1 (ha : Fn K mg W ta fa) : Fi K mg W (iRng1 (tCons ta tNil)) (fRng1 fa) := fun Z H σ S g R sim p => by
  refine ha Z H σ S g _ sim ?_
  unfold fRng1 at p
  rw [Rs.bind_post] at p
  refine Rs.post_mono p (fun d S1 p1 v Z1 H1 f1 g1 r1 s1 dj1 fr1 => ?_) fun _ _ q => q
  split at p1
  · split at p1
    · rename_i hj
      obtain ⟨rfl, _⟩ := r1.int_inv
      exact ⟨_, rfl, hj.1, hj.2, p1 _ Z1 H1 g1 (feed_range _ _) s1 (fr1.sub fun c m => by simp [m])⟩
    · exact p1.elim
  · exact p1.elim
theorem fi_range1 {p : Pos} (c : Ct K mg k W X) (hm : mg "range" = none) (ha : FE K mg W X a ta fa) (hg : Gl X "range" := by rfl) (hs1 : starEach [a] X.env = (false, eval a X.env) :: starEach [] X.env := by rfl) (hs : starEach [a] X.env = [(false, eval a X.env)] := by rfl) :
    FI K mg W X tge (.Call (.Name "range" p) [a] [] pos) (iRng1 (tCons ta tNil)) (fRng1 fa) := ⟨pi_range1 hg (by rw [c.hmg]; exact hm) (pa_cons ha.pe pa_nil hs1) hs, fi_rng1 ha.fn⟩
def fRng2 (fa fb : Fe) : Fit := fun S => (fa S).bind fun d S1 => (fb S1).bind fun d2 S2 => match d, d2 with
  | .int i, .int j => if -(2 ^ 62) ≤ i ∧ i < 2 ^ 62 ∧ -(2 ^ 62) ≤ j ∧ j < 2 ^ 62 then .ok (intsD i (j - i).toNat) S2 else .stk
  | _, _ => .stk
def fLoop (ft : Ft) (body : Fst) : List D → SS → Rs Fl
  | [], S => .ok .nx S
  | d :: ds, S => match ft d S with
    | none => .stk
    | some S1 => (body S1).bind fun fl S2 => match fl with
      | .nx => fLoop ft body ds S2
      | .ct => fLoop ft body ds S2
      | .bk => .ok .nx S2
      | .rt d => .ok (.rt d) S2
def fFor (fi : Fit) (ft : Ft) (body : Fst) : Fst := fun S => (fi S).bind fun ds S1 => fLoop ft body ds S1
theorem fs_for0 {tg : TG} {ft : Ft} {tb : TS} {body : Fst} (hi : Fi K mg W wi fi) (hg : Fg K mg pn tg ft) (hb : Fs K mg W pn tb body) : Fs K mg W pn (tFor wi tg tb) (fFor fi ft body) := fun Z H σ S g E sim p => by
  refine hi Z H σ S g _ sim ?_
  unfold fFor at p
  rw [Rs.bind_post] at p
  refine Rs.post_mono p (fun ds S1 p1 J Z1 H1 g1 feed s1 fr1 => ?_) fun _ _ q => ExS.exe q
  refine ⟨fun i m σ' H' => m = ds.length - i ∧ i ≤ ds.length ∧ ∃ Z' S' g', Sim K mg Z' H' σ' S' g' ∧ Same Z1 Z' ∧ Fr Z H g Z' H' g' ∧ Pin pn σ σ' ∧ (fLoop ft body (ds.drop i) S').post (OkF K mg pn Z H σ g E) (ExS K mg W pn Z H σ g), ⟨ds.length, by simp, Nat.zero_le _, Z1, S1, g1, s1, Same.refl _, fr1, .refl _, p1⟩, ?_⟩
  rintro i m σ' H' ⟨rfl, hi, Z', S', g', s', z', fr', pp', p'⟩
  obtain ⟨fd, st⟩ := feed Z' H' s'.s z'
  by_cases hlt : i < ds.length
  · have e1 : ds[i]? = some ds[i] := by simp [hlt]
    have e2 : ds.drop i = ds[i] :: ds.drop (i + 1) := List.drop_eq_getElem_cons hlt
    obtain ⟨go, yl⟩ := fd i _ e1
    rw [e2] at p'
    unfold fLoop at p'
    cases e3 : ft ds[i] S' with
    | none => rw [e3] at p'; exact p'.elim
    | some S2 =>
      rw [e3] at p'
      refine .inr ⟨go, fun σ4 H4 => i + 1 ≤ ds.length ∧ ∃ Z4 S4 g4, Sim K mg Z4 H4 σ4 S4 g4 ∧ Same Z1 Z4 ∧ Fr Z H g Z4 H4 g4 ∧ Pin pn σ σ4 ∧ (fLoop ft body (ds.drop (i + 1)) S4).post (OkF K mg pn Z H σ g E) (ExS K mg W pn Z H σ g), fun σ4 H4 h4 => ⟨_, by omega, rfl, h4⟩, fun x H2 y => ?_⟩
      obtain ⟨Z2, r2, ex2⟩ := yl x H2 y
      have s2 := ex2.sim s'
      refine hg Z2 H2 σ' S' g' x _ [] S2 _ r2 s2 (by simp) e3 fun σ3 g3 s3 sub3 pp3 => ?_
      have fr3 : Fr Z H g Z2 H2 g3 := (fr'.trans ex2.fr).sub fun c m => by simpa using sub3 c m
      have pp3' := pp'.trans pp3
      have p3 : ((body S2).bind fun fl S2 => match fl with
        | .nx => fLoop ft body (ds.drop (i + 1)) S2
        | .ct => fLoop ft body (ds.drop (i + 1)) S2
        | .bk => .ok .nx S2
        | .rt d => .ok (.rt d) S2).post (OkF K mg pn Z H σ g E) (ExS K mg W pn Z H σ g) := p'
      rw [Rs.bind_post] at p3
      refine hb Z2 H2 σ3 S2 g3 _ s3 (Rs.post_mono p3 (fun fl S4 p4 => ?_) fun _ _ q => ExS.from q fr3 pp3')
      have z2 : Same Z1 Z2 := z'.trans ex2.z
      cases fl with
      | nx => exact fun σ5 Z5 H5 g5 s5 fr5 pp5 => ⟨hlt, Z5, S4, g5, s5, z2.trans fr5.z, fr3.trans fr5, pp3'.trans pp5, p4⟩
      | ct => exact fun σ5 Z5 H5 g5 s5 fr5 pp5 => ⟨hlt, Z5, S4, g5, s5, z2.trans fr5.z, fr3.trans fr5, pp3'.trans pp5, p4⟩
      | bk => exact OkS.from (show OkS K mg pn Z H σ g E.nx S4 from p4) fr3 pp3'
      | rt d => exact OkF.from (fl := .rt d) (show OkF K mg pn Z H σ g E (.rt d) S4 from p4) fr3 pp3'
  · have e : i = ds.length := by omega
    subst e
    rw [List.drop_length] at p'
    exact .inl ⟨st, p' σ' Z' H' g' s' fr' pp'⟩
theorem fs_for {tg : TG} {ft : Ft} {tb : TS} {body : Fst} {sts : List Stmt} (c : Ct K mg k W X) (hi : FI K mg W X tge e wi fi) (hg : FG K mg pn X tge tg ft) (hb : FS K mg W pn X sts tb body) (hs : ∀ x, foldedSetIterable e X.env x = pure x := by intro _; rfl) :
    FS1 K mg W pn X (.For tge e sts [] pos) (tFor wi tg tb) (fFor fi ft body) := ⟨ps_for c.po c.calm hi.pi hg.pg hb.ps hs, fs_for0 hi.fn hg.fn hb.fn⟩
def fWhile (c : SS → Rs Bool) (body : Fst) : Nat → SS → Rs Fl
  | 0, _ => .stk
  | n + 1, S => (c S).bind fun b S1 => if b then (body S1).bind fun fl S2 => match fl with
      | .nx => fWhile c body n S2
      | .ct => fWhile c body n S2
      | .bk => .ok .nx S2
      | .rt d => .ok (.rt d) S2
    else .ok .nx S1
theorem fs_while0 {tt : TT} {ff : SS → Rs Bool} {tb : TS} {body : Fst} (n : Nat) (hc : FnT K mg W tt ff) (hb : Fs K mg W pn tb body) : Fs K mg W pn (tWhile tt tb) (fWhile ff body n) := fun Z H σ S g E sim p => by
  refine ⟨fun m σ' H' => ∃ Z' S' g', Sim K mg Z' H' σ' S' g' ∧ Fr Z H g Z' H' g' ∧ Pin pn σ σ' ∧ (fWhile ff body m S').post (OkF K mg pn Z H σ g E) (ExS K mg W pn Z H σ g), ⟨n, Z, S, g, sim, Fr.refl _ _ _, .refl _, p⟩, ?_⟩
  rintro m σ' H' ⟨Z', S', g', s', fr', pp', p'⟩
  cases m with
  | zero => exact p'.elim
  | succ m =>
    unfold fWhile at p'
    rw [Rs.bind_post] at p'
    refine hc Z' H' σ' S' g' _ s' (Rs.post_mono p' (fun b S1 p1 Z1 H1 g1 s1 fr1 => ?_) fun _ _ q => ExS.exe (ExS.from q fr' pp'))
    have fr1' := fr'.trans fr1
    cases b with
    | false =>
      rw [if_neg (by decide)] at p1 ⊢
      exact p1 σ' Z1 H1 g1 s1 fr1' pp'
    | true =>
      rw [if_pos rfl] at p1 ⊢
      rw [Rs.bind_post] at p1
      refine ⟨fun σ4 H4 => ∃ Z4 S4 g4, Sim K mg Z4 H4 σ4 S4 g4 ∧ Fr Z H g Z4 H4 g4 ∧ Pin pn σ σ4 ∧ (fWhile ff body m S4).post (OkF K mg pn Z H σ g E) (ExS K mg W pn Z H σ g), fun σ4 H4 h4 => ⟨m, Nat.lt_succ_self m, h4⟩, ?_⟩
      refine hb Z1 H1 σ' S1 g1 _ s1 (Rs.post_mono p1 (fun fl S4 p4 => ?_) fun _ _ q => ExS.from q fr1' pp')
      cases fl with
      | nx => exact fun σ5 Z5 H5 g5 s5 fr5 pp5 => ⟨Z5, S4, g5, s5, fr1'.trans fr5, pp'.trans pp5, p4⟩
      | ct => exact fun σ5 Z5 H5 g5 s5 fr5 pp5 => ⟨Z5, S4, g5, s5, fr1'.trans fr5, pp'.trans pp5, p4⟩
      | bk => exact OkS.from (show OkS K mg pn Z H σ g E.nx S4 from p4) fr1' pp'
      | rt d => exact OkF.from (fl := .rt d) (show OkF K mg pn Z H σ g E (.rt d) S4 from p4) fr1' pp'
theorem fs_while {tt : TT} {ff : SS → Rs Bool} {tb : TS} {body : Fst} {sts : List Stmt} (n : Nat) (c : Ct K mg k W X) (hc : FT K mg W X e tt ff) (hb : FS K mg W pn X sts tb body) : FS1 K mg W pn X (.While e sts [] pos) (tWhile tt tb) (fWhile ff body n) :=
  ⟨ps_while c.po hc.pt hb.ps, fs_while0 n hc.fn hb.fn⟩
end
end
end T3
set_option Elab.async false
set_option linter.all false
set_option maxRecDepth 100000
set_option maxHeartbeats 4000000
namespace T3
open PySem PySem.Spec PyProof.Rows L2
section
variable {K : PySem.W.Frag} {mg : Str → Option Value} {Z H Z' H' : Hp}
def wipeS (S : SS) : List Nat → SS
  | [] => S
  | v :: vs => (wipeS S vs).set v none
theorem RpS.wipe {σ : Sg} {S : SS} {g : List Addr} (h : RpS K mg Z H σ S g) : ∀ vs : List Nat, ∃ g' r, RpS K mg Z H (L2.wipe σ vs) (wipeS S vs) g' ∧ (g' ++ r).Perm g
  | [] => ⟨g, [], h, by simp⟩
  | v :: vs => by
    obtain ⟨g1, r1, h1, p1⟩ := h.wipe vs
    obtain ⟨g2, h2, r2, p2⟩ := h1.drop v
    refine ⟨g2, r2 ++ r1, ?_, ?_⟩
    · unfold L2.wipe wipeS
      refine h2.setNone v none ?_
      by_cases l : v < (wipeS S vs).length
      · exact .inl (by simp [l])
      · exact .inr (by simp; omega)
    · rw [← List.append_assoc]
      exact (p2.append_right r1).trans p1
theorem wipeS_none {S : SS} : ∀ {vs : List Nat} {v : Nat}, v ∈ vs → (wipeS S vs)[v]? = some none ∨ (wipeS S vs)[v]? = none
  | w :: vs, v, m => by
    unfold wipeS
    by_cases e : w = v
    · subst e
      by_cases l : w < (wipeS S vs).length
      · exact .inl (by simp [l])
      · exact .inr (by simp; omega)
    · rw [List.getElem?_set_ne e]
      exact wipeS_none ((List.mem_cons.mp m).resolve_left fun z => e z.symm)
theorem RpS.unwipe : ∀ {vs : List Nat} {σ : Sg} {S : SS} {g : List Addr}, RpS K mg Z H (L2.wipe σ vs) S g → (∀ v ∈ vs, S[v]? = some none ∨ S[v]? = none) → RpS K mg Z H σ S g
  | [], _, _, _, h, _ => h
  | v :: vs, σ, S, g, h, q => by
    unfold L2.wipe at h
    exact RpS.unwipe (h.unsetNone v none (q v (by simp))) fun w m => q w (by simp [m])
theorem wipe_get {σ : Sg} : ∀ {vs : List Nat} {i : Nat}, i ∉ vs → (L2.wipe σ vs)[i]? = σ[i]?
  | [], _, _ => rfl
  | v :: vs, i, h => by
    unfold L2.wipe
    rw [List.getElem?_set_ne (by intro e; exact h (by simp [e]))]
    exact wipe_get fun m => h (by simp [m])
theorem wipe_in {σ : Sg} : ∀ {vs : List Nat} {i : Nat}, i ∈ vs → i < σ.length → (L2.wipe σ vs)[i]? = some none
  | v :: vs, i, m, l => by
    unfold L2.wipe
    by_cases e : v = i
    · subst e
      exact List.getElem?_set_self (by rw [wipe_length]; exact l)
    · rw [List.getElem?_set_ne e]
      exact wipe_in ((List.mem_cons.mp m).resolve_left fun z => e z.symm) l
theorem wipe_ext {σ σ' : Sg} {vs : List Nat} (hl : σ'.length = σ.length) (h : ∀ i, i ∉ vs → σ'[i]? = σ[i]?) : L2.wipe σ' vs = L2.wipe σ vs := by
  apply List.ext_getElem?
  intro i
  by_cases m : i ∈ vs
  · by_cases l : i < σ.length
    · rw [wipe_in m l, wipe_in m (by omega)]
    · rw [List.getElem?_eq_none (by rw [wipe_length]; omega), List.getElem?_eq_none (by rw [wipe_length]; omega)]
  · rw [wipe_get m, wipe_get m, h i m]
theorem wipe_wipe {σ : Sg} {vs : List Nat} : L2.wipe (L2.wipe σ vs) vs = L2.wipe σ vs := wipe_ext (wipe_length _ _) fun i m => wipe_get m
def Rs.noexc {α : Type} : Rs α → Rs α
  | .exc _ _ => .stk
  | r => r
theorem Rs.noexc_post {α : Type} {r : Rs α} {P : α → SS → Prop} {E : D → SS → Prop} {E' : D → SS → Prop} (h : r.noexc.post P E) : r.post P E' := by
  cases r with
  | ok a S => exact h
  | exc e S => exact h.elim
  | stk => exact h
def fLcLoop (ft : Ft) (tt : SS → Rs Bool) (elt : Fe) (vs : List Nat) : List D → SS → Rs (List D)
  | [], S => .ok [] S
  | d :: ds, S => match ft d S with
    | none => .stk
    | some S1 => (tt S1).noexc.bind fun b S2 => if b then (elt S2).noexc.bind fun y S3 => (fLcLoop ft tt elt vs ds (wipeS S3 vs)).bind fun ys S4 => .ok (frz y :: ys) S4
      else fLcLoop ft tt elt vs ds (wipeS S2 vs)
def fLc (fi : Fit) (ft : Ft) (tt : SS → Rs Bool) (elt : Fe) (vs : List Nat) : Fe := fun S => (fi S).bind fun ds S1 => if ds.length ≤ sizeLine then (fLcLoop ft tt elt vs ds (wipeS S1 vs)).bind fun ys S2 => .ok (.lst .ow ys) S2 else .stk
abbrev pnOut (vs : List Nat) : Nat → Bool := fun i => !vs.contains i
theorem fn_lc {W : WX} {wi : TI} {fi : Fit} {tg : TG} {ft : Ft} {tt : TT} {ff : SS → Rs Bool} {te : TE} {fe : Fe} {vs : List Nat} (hi : Fi K mg W wi fi) (hg : Fg K mg (pnOut vs) tg ft) (ht : FnT K mg W0 tt ff) (he : Fn K mg W0 te fe) : Fn K mg W (tLc wi tg tt te vs) (fLc fi ft ff fe vs) := fun Z H σ S g Q sim p => by
  refine hi Z H σ S g _ sim ?_
  unfold fLc at p
  rw [Rs.bind_post] at p
  refine Rs.post_mono p (fun ds S1 p1 J Z1 H1 g1 feed s1 fr1 => ?_) fun _ _ q => q
  split at p1
  case isFalse => exact p1.elim
  rename_i hsz
  rw [Rs.bind_post] at p1
  intro A hA
  have zA : Z1 A = none := s1.s.free hA
  obtain ⟨g0, r0, w0, pm0⟩ := s1.r.wipe vs
  have nd0 : (g0 ++ r0).Nodup := pm0.nodup_iff.mpr s1.nd
  have sub0 : ∀ c ∈ g0, c ∈ g1 := fun c m => pm0.mem_iff.mp (by simp [m])
  have nA : ∀ (g' : List Addr), (∀ c ∈ g', c ∈ g1) → A ∉ g' := fun g' h m => by
    obtain ⟨⟨u, e⟩, _⟩ := s1.r.has (h A m)
    rw [hA] at e; cases e
  have ex0 : Ext Z1 H1 Z1 (upd H1 A (.lst [])) [A] := Ext.newO s1.s hA
  refine ⟨fun i m H' => m = ds.length - i ∧ i ≤ ds.length ∧ ∃ Z' S' g' acc dacc, Sim K mg Z' H' (L2.wipe σ vs) S' g' ∧ Same Z1 Z' ∧ (∀ v ∈ vs, S'[v]? = some none ∨ S'[v]? = none) ∧ H' A = some (.lst acc) ∧ Z' A = none ∧ A ∉ g' ∧ RpL K mg Z' H' acc dacc ∧ acc.length ≤ i ∧ Fr Z H g Z' H' (A :: g') ∧
    (fLcLoop ft ff fe vs (ds.drop i) S').post (fun ys S4 => OkE K mg Z H σ g Q (.lst .ow (dacc ++ ys)) S4) (ExE K mg W Z H σ g),
    ⟨ds.length, by simp, Nat.zero_le _, Z1, wipeS S1 vs, g0, [], [], ⟨w0.mono (Same.refl _) (fun a m o h => ex0.h a o h) (fun a m => (w0.has m).2), (List.nodup_append.mp nd0).1, ex0.s, s1.t.h.ext ex0.h, s1.t.z⟩, Same.refl _, fun v m => wipeS_none m, upd_same, zA, nA g0 sub0, .nil, Nat.le_refl _, ?_, ?_⟩, ?_⟩
  · have f2 := fr1.trans (ex0.fr (g := g1))
    exact f2.sub fun c m => by
      rcases List.mem_cons.mp m with e | m
      · subst e; simp
      · simp [sub0 c m]
  · rw [List.drop_zero]
    exact Rs.post_mono p1 (fun ys S4 q => by rw [List.nil_append]; exact q) fun _ _ q => q
  rintro i m H' ⟨rfl, hi, Z', S', g', acc, dacc, s', z', hv, hH, hZ, hg', l', ln, fr', p'⟩
  obtain ⟨fd, st⟩ := feed Z' H' s'.s z'
  by_cases hlt : i < ds.length
  · have e1 : ds[i]? = some ds[i] := by simp [hlt]
    have e2 : ds.drop i = ds[i] :: ds.drop (i + 1) := List.drop_eq_getElem_cons hlt
    obtain ⟨go, yl⟩ := fd i _ e1
    rw [e2] at p'
    unfold fLcLoop at p'
    cases e3 : ft ds[i] S' with
    | none => rw [e3] at p'; exact p'.elim
    | some S2 =>
      rw [e3] at p'
      refine .inr ⟨go, fun H4 => i + 1 ≤ ds.length ∧ ∃ Z4 S4 g4 acc4 dacc4, Sim K mg Z4 H4 (L2.wipe σ vs) S4 g4 ∧ Same Z1 Z4 ∧ (∀ v ∈ vs, S4[v]? = some none ∨ S4[v]? = none) ∧ H4 A = some (.lst acc4) ∧ Z4 A = none ∧ A ∉ g4 ∧ RpL K mg Z4 H4 acc4 dacc4 ∧ acc4.length ≤ i + 1 ∧ Fr Z H g Z4 H4 (A :: g4) ∧
        (fLcLoop ft ff fe vs (ds.drop (i + 1)) S4).post (fun ys S4 => OkE K mg Z H σ g Q (.lst .ow (dacc4 ++ ys)) S4) (ExE K mg W Z H σ g), fun H4 h4 => ⟨_, by omega, rfl, h4⟩, fun x H2 y => ?_⟩
      obtain ⟨Z2, r2, ex2⟩ := yl x H2 y
      have s2 := ex2.sim s'
      have fr2 : Fr Z H g Z2 H2 (A :: g') := (fr'.trans (ex2.fr (g := A :: g'))).sub fun c m => by simpa using m
      have hH2 := ex2.h _ _ hH
      have hZ2 := ex2.n _ _ hH hZ
      refine hg Z2 H2 _ S' g' x _ [] S2 _ r2 s2 (by simp) e3 fun σ3 g3 s3 sub3 pp3 => ?_
      have sub3' : ∀ c ∈ g3, c ∈ g' := fun c m => by simpa using sub3 c m
      have hw : L2.wipe σ3 vs = L2.wipe σ vs := by
        rw [← wipe_wipe (σ := σ)]
        exact wipe_ext pp3.1 fun j hj => pp3.2 j (by simp [pnOut, hj])
      refine ⟨hw, ?_⟩
      have p3 : ((ff S2).noexc.bind fun b S2 => if b then (fe S2).noexc.bind fun y S3 => (fLcLoop ft ff fe vs (ds.drop (i + 1)) (wipeS S3 vs)).bind fun ys S4 => .ok (frz y :: ys) S4
        else fLcLoop ft ff fe vs (ds.drop (i + 1)) (wipeS S2 vs)).post (fun ys S4 => OkE K mg Z H σ g Q (.lst .ow (dacc ++ ys)) S4) (ExE K mg W Z H σ g) := p'
      rw [Rs.bind_post] at p3
      have nx : ∀ {Z5 H5 : Hp} {S5 : SS} {g5 : List Addr} {acc5 : List V} {dacc5 : List D}, Sim K mg Z5 H5 σ3 S5 g5 → Same Z1 Z5 → H5 A = some (.lst acc5) → Z5 A = none → A ∉ g5 → RpL K mg Z5 H5 acc5 dacc5 → acc5.length ≤ i + 1 → Fr Z H g Z5 H5 (A :: g5) →
          (fLcLoop ft ff fe vs (ds.drop (i + 1)) (wipeS S5 vs)).post (fun ys S4 => OkE K mg Z H σ g Q (.lst .ow (dacc5 ++ ys)) S4) (ExE K mg W Z H σ g) →
          i + 1 ≤ ds.length ∧ ∃ Z4 S4 g4 acc4 dacc4, Sim K mg Z4 H5 (L2.wipe σ vs) S4 g4 ∧ Same Z1 Z4 ∧ (∀ v ∈ vs, S4[v]? = some none ∨ S4[v]? = none) ∧ H5 A = some (.lst acc4) ∧ Z4 A = none ∧ A ∉ g4 ∧ RpL K mg Z4 H5 acc4 dacc4 ∧ acc4.length ≤ i + 1 ∧ Fr Z H g Z4 H5 (A :: g4) ∧
            (fLcLoop ft ff fe vs (ds.drop (i + 1)) S4).post (fun ys S4 => OkE K mg Z H σ g Q (.lst .ow (dacc4 ++ ys)) S4) (ExE K mg W Z H σ g) := by
        intro Z5 H5 S5 g5 acc5 dacc5 s5 z5 h5 zz5 ng5 l5 n5 fr5 q5
        obtain ⟨g6, r6, w6, pm6⟩ := s5.r.wipe vs
        have nd6 : (g6 ++ r6).Nodup := pm6.nodup_iff.mpr s5.nd
        have sub6 : ∀ c ∈ g6, c ∈ g5 := fun c m => pm6.mem_iff.mp (by simp [m])
        rw [hw] at w6
        exact ⟨hlt, Z5, wipeS S5 vs, g6, acc5, dacc5, ⟨w6, (List.nodup_append.mp nd6).1, s5.s, s5.t⟩, z5, fun v m => wipeS_none m, h5, zz5, fun m => ng5 (sub6 A m), l5, n5, fr5.sub fun c m => by
          rcases List.mem_cons.mp m with e | m
          · simp [e]
          · simp [sub6 c m], q5⟩
      have fr3 : Fr Z H g Z2 H2 (A :: g3) := fr2.sub fun c m => by
        rcases List.mem_cons.mp m with e | m
        · simp [e]
        · simp [sub3' c m]
      have nA3 : A ∉ g3 := fun m => hg' (sub3' A m)
      have keep : ∀ {Z5 H5 : Hp} {g5 : List Addr}, Fr Z2 H2 g3 Z5 H5 g5 → H5 A = some (.lst acc) ∧ Z5 A = none ∧ A ∉ g5 := fun fr => ⟨(fr.h _ _ hH2 nA3).nt (fun ps z => by cases z), fr.n _ _ hH2 (fun ps z => by cases z) nA3 hZ2, fun m => by
        rcases fr.f A m with z | z
        · exact nA3 z
        · exact z _ hH2 fun ps z => by cases z⟩
      have keepF : ∀ {Z5 H5 : Hp} {g5 : List Addr}, Fr Z2 H2 g3 Z5 H5 g5 → Fr Z H g Z5 H5 (A :: g5) := fun {Z5 H5 g5} fr => by
        have f1 : Fr Z2 H2 (A :: g3) Z5 H5 (A :: g5) := ⟨fr.z, fun a o h m => fr.h a o h fun z => m (by simp [z]), fun a o h nt m => fr.n a o h nt fun z => m (by simp [z]), fun a m => by
          rcases List.mem_cons.mp m with e | m
          · exact .inl (by simp [e])
          · exact (fr.f a m).imp (fun z => by simp [z]) id⟩
        exact fr3.trans f1
      have l2 : RpL K mg Z2 H2 acc dacc := l'.mono ex2.z
      refine ht Z2 H2 σ3 S2 g3 _ s3 (Rs.noexc_post (Rs.post_mono p3 (fun b S5 p5 Z5 H5 g5 s5 fr5 => ?_) fun _ _ q => q))
      obtain ⟨k1, k2, k3⟩ := keep fr5
      cases b with
      | false =>
        rw [if_neg (by decide)] at p5 ⊢
        exact nx s5 ((z'.trans ex2.z).trans fr5.z) k1 k2 k3 (l2.mono fr5.z) (by omega) (keepF fr5) p5
      | true =>
        rw [if_pos rfl] at p5 ⊢
        rw [Rs.bind_post] at p5
        refine he Z5 H5 σ3 S5 g5 _ s5 (Rs.noexc_post (Rs.post_mono p5 (fun yd S6 p6 yv Z6 H6 f6 g6 r6 s6 dj6 fr6 => ?_) fun _ _ q => q))
        rw [Rs.bind_post] at p6
        obtain ⟨Z7, z7, zh7, n7, r7⟩ := r6.freeze s6.s
        have s7 := freeze_sim s6 z7 zh7 n7 dj6
        have fr57 := fr5.trans (fr6.trans (freeze_fr (H := H6) (g := g6) z7 n7))
        obtain ⟨q1, q2, q3⟩ := keep fr57
        have l7 : RpL K mg Z7 H6 acc dacc := l2.mono fr57.z
        refine ⟨acc, q1, by omega, ?_⟩
        have hu : ∀ a o, H6 a = some o → a ≠ A → upd H6 A (.lst (acc ++ [yv])) a = some o := fun a o h e => by rw [upd_ne e]; exact h
        have zh8 : Same Z7 (upd H6 A (.lst (acc ++ [yv]))) := fun a o h => hu a o (zh7 a o h) fun e => by rw [e, q2] at h; cases h
        have s8 : Sim K mg Z7 (upd H6 A (.lst (acc ++ [yv]))) σ3 S6 g6 := ⟨s7.r.mono (Same.refl _) (fun a m o h => hu a o h fun e => q3 (e ▸ m)) (fun a m => (s7.r.has m).2), s7.nd, zh8, s7.t.put q1 (fun ps z => by cases z) fun c q z => by unfold LamX.CodeO at z; cases z⟩
        have l8 : RpL K mg Z7 (upd H6 A (.lst (acc ++ [yv]))) (acc ++ [yv]) (dacc ++ [frz yd]) := (l7.mono (Same.refl _)).append (.cons (r7.mono (Same.refl _) (by simp) (by simp)) .nil)
        have fr8 : Fr Z H g Z7 (upd H6 A (.lst (acc ++ [yv]))) (A :: g6) := by
          have f1 := keepF fr57
          have na : ∀ a o, H a = some o → Nt o → a ∉ g → a ≠ A := fun a o h nt m e => by
            subst e
            rcases f1.f a (by simp) with z | z
            · exact m z
            · exact z o h nt
          exact ⟨f1.z, fun a o h m nt => hu a o (f1.h a o h m nt) (na a o h nt m), f1.n, f1.f⟩
        refine nx s8 ((z'.trans ex2.z).trans fr57.z) upd_same q2 q3 l8 (by simp; omega) fr8 ?_
        exact Rs.post_mono p6 (fun ys S9 q => by
          have q' : OkE K mg Z H σ g Q (.lst .ow (dacc ++ (frz yd :: ys))) S9 := q
          rw [List.append_assoc]
          exact q') fun _ _ q => q
  · have e : i = ds.length := by omega
    subst e
    rw [List.drop_length] at p'
    refine .inl ⟨st, ?_⟩
    have q : OkE K mg Z H σ g Q (.lst .ow (dacc ++ [])) S' := p'
    rw [List.append_nil] at q
    exact q (.ref A) Z' H' [A] g' (.lst ⟨hH, hZ, rfl⟩ l') ⟨s'.r.unwipe hv, s'.nd, s'.s, s'.t⟩ (by simpa using hg') (fr'.sub fun c m => by simpa using m)
end
end T3
set_option Elab.async false
set_option linter.all false
set_option maxRecDepth 100000
set_option maxHeartbeats 4000000
namespace T3
open PySem PySem.Spec PyProof.Rows L2
section
variable {K : PySem.W.Frag} {mg : Str → Option Value} {Z H Z' H' : Hp}
section
variable {k : Nat} {W : WX} {pn : Nat → Bool} {X : Cx} {tge e a b elt iter : Expr} {ifs : List Expr} {t u : TS} {te ta tb : TE} {wi : TI} {fi : Fit} {f h : Fst} {fe fa fb : Fe} {pos : Pos}
structure FTs (K : PySem.W.Frag) (mg : Str → Option Value) (W : WX) (X : Cx) (ifs : List Expr) (t : TT) (f : SS → Rs Bool) : Prop where
  pt : PTs X ifs t
  fn : FnT K mg W t f
def fYes : SS → Rs Bool := fun S => .ok true S
theorem fts_nil : FTs K mg W X [] tYes fYes := ⟨pts_nil, fun Z H σ S g Q sim p => p Z H g sim (Fr.refl _ _ _)⟩
theorem fts_one {c : Expr} {tt : TT} {ff : SS → Rs Bool} (h : FT K mg W X c tt ff) : FTs K mg W X [c] tt ff := ⟨pts_one h.pt, h.fn⟩
theorem fe_lc {scope : Scope} {own : List (Str × Nat)} {vs : List Nat} {tg : TG} {ft : Ft} {tt : TT} {ff : SS → Rs Bool} (c : Ct K mg k W X) (hi : FI K mg W X tge iter wi fi) (ok : blkC X.N X.env.scope scope own = true) (hv : own.map (·.2) = vs)
    (hg : ∀ (s : Shared) (H : Hp) (C : Addr) (cl : List (Str × Addr)) (fp : List Addr), FG K mg (pnOut vs) (X.blk s H scope (compEnvC scope cl C X.env) fp) tge tg ft)
    (ht : ∀ (s : Shared) (H : Hp) (C : Addr) (cl : List (Str × Addr)) (fp : List Addr), FTs K mg W0 (X.blk s H scope (compEnvC scope cl C X.env) fp) ifs tt ff)
    (he : ∀ (s : Shared) (H : Hp) (C : Addr) (cl : List (Str × Addr)) (fp : List Addr), FE K mg W0 (X.blk s H scope (compEnvC scope cl C X.env) fp) elt te fe) (hs : ∀ x, foldedSetIterable iter X.env x = pure x := by intro _; rfl) :
    FE K mg W X (.ListComp elt [⟨tge, iter, ifs, 0⟩] scope pos) (tLc wi tg tt te vs) (fLc fi ft ff fe vs) := ⟨by
      have := pe_lc (own := own) (pos := pos) c.calm c.nd hi.pi (blkOk_by ok) (fun s H C cl fp => (hg s H C cl fp).pg) (fun s H C cl fp => (ht s H C cl fp).pt) (fun s H C cl fp => (he s H C cl fp).pe) hs
      rw [hv] at this
      exact this, fn_lc hi.fn (hg c0.1 c0.2.1 c0.2.2.1 c0.2.2.2.1 c0.2.2.2.2).fn (ht c0.1 c0.2.1 c0.2.2.1 c0.2.2.2.1 c0.2.2.2.2).fn (he c0.1 c0.2.1 c0.2.2.1 c0.2.2.2.1 c0.2.2.2.2).fn⟩
  where
  c0 : Shared × Hp × Addr × List (Str × Addr) × List Addr := ⟨X.s_0, X.H_0, 0, [], []⟩
theorem fs_setLcF {scope : Scope} {own : List (Str × Nat)} {vs : List Nat} {tg : TG} {ft : Ft} {tt : TT} {ff : SS → Rs Bool} (i : Nat) {y : Str} {py spos : Pos} (c : Ct K mg k W X) (hi : FI K mg W X tge iter wi fi) (ok : blkC X.N X.env.scope scope own = true) (hv : own.map (·.2) = vs)
    (hg : ∀ (s : Shared) (H : Hp) (C : Addr) (cl : List (Str × Addr)) (fp : List Addr), FG K mg (pnOut vs) (X.blk s H scope (compEnvC scope cl C X.env) fp) tge tg ft)
    (ht : ∀ (s : Shared) (H : Hp) (C : Addr) (cl : List (Str × Addr)) (fp : List Addr), FTs K mg W0 (X.blk s H scope (compEnvC scope cl C X.env) fp) ifs tt ff)
    (he : ∀ (s : Shared) (H : Hp) (C : Addr) (cl : List (Str × Addr)) (fp : List Addr), FE K mg W0 (X.blk s H scope (compEnvC scope cl C X.env) fp) elt te fe)
    (hy : X.N[i]? = some y := by rfl) (hyl : X.env.scope.names.lookup y = some .local := by rfl) (hp : pn i = false := by rfl)
    (hsw : swapsWith (.ListComp elt [⟨tge, iter, ifs, 0⟩] scope pos) (some (.Name y py)) spos.line X.env = pure true := by exact sw_true rfl rfl rfl (by decide +kernel)) (hs : ∀ x, foldedSetIterable iter X.env x = pure x := by intro _; rfl) :
    FS1 K mg W pn X (.Assign [.Name y py] (.ListComp elt [⟨tge, iter, ifs, 0⟩] scope pos) spos) (tAsg (tLc wi tg tt te vs) (gName i)) (fAsg (fFz (fLc fi ft ff fe vs)) (ftName i)) := ⟨by
      have := ps_setLc (i := i) (own := own) (pos := pos) (spos := spos) c.calm c.nd hy hyl hsw hi.pi (blkOk_by ok) (fun s H C cl fp => (hg s H C cl fp).pg) (fun s H C cl fp => (ht s H C cl fp).pt) (fun s H C cl fp => (he s H C cl fp).pe) hs
      rw [hv] at this
      exact this, fn_asg (fn_fz (fn_lc hi.fn (hg X.s_0 X.H_0 0 [] []).fn (ht X.s_0 X.H_0 0 [] []).fn (he X.s_0 X.H_0 0 [] []).fn)) (fg_name hp)⟩
end
inductive Arg where
  | val (d : D) | nm (i : Nat)
section
variable (K : PySem.W.Frag) (mg : Str → Option Value) (Z H : Hp) (σ : Sg)
inductive RpG : List V → List Arg → List Addr → Prop
  | nil : RpG [] [] []
  | val {v : V} {d : D} {f : List Addr} {vs : List V} {as : List Arg} {g : List Addr} (h : Rp K mg Z H v d f) (t : RpG vs as g) : RpG (v :: vs) (.val d :: as) (f ++ g)
  | nm {v : V} {i : Nat} {vs : List V} {as : List Arg} {g : List Addr} (h : σ[i]? = some (some v)) (t : RpG vs as g) : RpG (v :: vs) (.nm i :: as) g
end
theorem RpG.stay {σ : Sg} {g g' : List Addr} : ∀ {vs : List V} {as : List Arg} {f : List Addr}, RpG K mg Z H σ vs as f → Fr Z H g Z' H' g' → (∀ c ∈ f, c ∉ g) → RpG K mg Z' H' σ vs as f
  | _, _, _, .nil, _, _ => .nil
  | _, _, _, .val h t, fr, dj => .val (h.stay fr fun c m => dj c (by simp [m])) (t.stay fr fun c m => dj c (by simp [m]))
  | _, _, _, .nm h t, fr, dj => .nm h (t.stay fr dj)
theorem RpG.has {σ : Sg} : ∀ {vs : List V} {as : List Arg} {f : List Addr}, RpG K mg Z H σ vs as f → ∀ {a : Addr}, a ∈ f → (∃ u, H a = some u) ∧ Z a = none
  | _, _, _, .nil, _, m => by simp at m
  | _, _, _, .val h t, _, m => by
    rcases List.mem_append.mp m with m | m
    · exact h.has m
    · exact t.has m
  | _, _, _, .nm h t, _, m => t.has m
theorem RpG.length {σ : Sg} : ∀ {vs : List V} {as : List Arg} {f : List Addr}, RpG K mg Z H σ vs as f → vs.length = as.length
  | _, _, _, .nil => rfl
  | _, _, _, .val _ t => by simp [t.length]
  | _, _, _, .nm _ t => by simp [t.length]
abbrev Fa := SS → Rs (List Arg)
def Fna (K : PySem.W.Frag) (mg : Str → Option Value) (W : WX) (ta : TA) (fa : Fa) : Prop :=
  ∀ Z H σ S g Q, Sim K mg Z H σ S g → (fa S).post (fun as S' => ∀ vs Z' H' f g', RpG K mg Z' H' σ vs as f → Sim K mg Z' H' σ S' g' → f.Nodup → (∀ c ∈ f, c ∉ g') → Fr Z H g Z' H' (f ++ g') → Q vs H') (ExE K mg W Z H σ g) → ta σ H Q
structure FA (K : PySem.W.Frag) (mg : Str → Option Value) (W : WX) (X : Cx) (es : List Expr) (t : TA) (f : Fa) : Prop where
  pa : PA X es t
  fn : Fna K mg W t f
section
variable {k : Nat} {W : WX} {pn : Nat → Bool} {X : Cx} {e a b : Expr} {es : List Expr} {te : TE} {tr : TA} {fe : Fe} {fr : Fa} {pos : Pos}
def faNil : Fa := fun S => .ok [] S
def faCons (fe : Fe) (fr : Fa) : Fa := fun S => (fe S).bind fun d S1 => (fr S1).bind fun as S2 => .ok (.val d :: as) S2
def faName (i : Nat) (fr : Fa) : Fa := fun S => if (slot S i).isSome then (fr S).bind fun as S2 => .ok (.nm i :: as) S2 else .stk
theorem fa_nil : FA K mg W X [] tNil faNil := ⟨pa_nil, fun Z H σ S g Q sim p => p [] Z H [] g .nil sim (by simp) (by simp) (Fr.refl _ _ _)⟩
theorem fna_cons (h1 : Fn K mg W te fe) (h2 : Fna K mg W tr fr) : Fna K mg W (tCons te tr) (faCons fe fr) := fun Z H σ S g Q sim p => by
  refine h1 Z H σ S g _ sim ?_
  unfold faCons at p
  rw [Rs.bind_post] at p
  refine Rs.post_mono p (fun d S1 p1 v Z1 H1 f1 g1 r1 s1 dj1 fr1 => ?_) fun _ _ q => q
  rw [Rs.bind_post] at p1
  refine h2 Z1 H1 σ S1 g1 _ s1 (Rs.post_mono p1 (fun as S2 p2 vs Z2 H2 f2 g2 r2 s2 nd2 dj2 fr2 => ?_) fun _ _ q => q.from (fr1.sub fun c m => by simp [m]))
  have dj12 := r1.apart fr2 dj1
  have fr12 := (fr1.sub (g2 := g1) fun c m => by simp [m]).trans fr2
  refine p2 (v :: vs) Z2 H2 (f1 ++ f2) g2 (.val (r1.stay fr2 dj1) r2) s2 (List.nodup_append.mpr ⟨r1.nd, nd2, fun c m c' m' z => dj12 c m (by subst z; simp [m'])⟩) (fun c m => ?_) ⟨fr12.z, fr12.h, fr12.n, fun c m => ?_⟩
  · rcases List.mem_append.mp m with m | m
    · exact fun z => dj12 c m (by simp [z])
    · exact dj2 c m
  · rw [List.append_assoc] at m
    rcases List.mem_append.mp m with m | m
    · exact fr1.f c (by simp [m])
    · exact fr12.f c m
theorem fna_name (i : Nat) (h2 : Fna K mg W tr fr) : Fna K mg W (tCons (tVar i) tr) (faName i fr) := fun Z H σ S g Q sim p => by
  unfold faName at p
  split at p
  case isFalse => exact p.elim
  rename_i hi
  obtain ⟨d0, h0⟩ := Option.isSome_iff_exists.mp hi
  obtain ⟨v, f, e1, r1, _⟩ := sim.r.get (slot_some h0)
  refine ⟨v, e1, ?_⟩
  rw [Rs.bind_post] at p
  exact h2 Z H σ S g _ sim (Rs.post_mono p (fun as S2 p2 vs Z2 H2 f2 g2 r2 s2 nd2 dj2 fr2 => p2 (v :: vs) Z2 H2 f2 g2 (.nm e1 r2) s2 nd2 dj2 fr2) fun _ _ q => q)
theorem fa_cons (ha : FE K mg W X e te fe) (hr : FA K mg W X es tr fr) (hs : starEach (e :: es) X.env = (false, eval e X.env) :: starEach es X.env := by rfl) : FA K mg W X (e :: es) (tCons te tr) (faCons fe fr) := ⟨pa_cons ha.pe hr.pa hs, fna_cons ha.fn hr.fn⟩
theorem fa_name (i : Nat) {fi : Fe} (ha : VE K mg W X e (tVar i) fi) (hr : FA K mg W X es tr fr) (hs : starEach (e :: es) X.env = (false, eval e X.env) :: starEach es X.env := by rfl) : FA K mg W X (e :: es) (tCons (tVar i) tr) (faName i fr) := ⟨pa_cons ha.pe hr.pa hs, fna_name i hr.fn⟩
end
def resolve : List Arg → SS → Option (List D × SS)
  | [], S => some ([], S)
  | .val d :: r, S => (resolve r S).map fun q => (d :: q.1, q.2)
  | .nm i :: r, S => match slot S i with
    | none => none
    | some d => (resolve r (if fz d then S else S.set i none)).map fun q => (d :: q.1, q.2)
def restore : List Arg → SS → SS → SS
  | .nm i :: r, some d :: o, S => restore r o (if fz d then S else S.set i (some d))
  | _ :: r, _ :: o, S => restore r o S
  | _, _, S => S
theorem resolve_ok : ∀ {as : List Arg} {σ : Sg} {S S1 : SS} {ds : List D} {vs : List V} {f g : List Addr}, resolve as S = some (ds, S1) → RpG K mg Z H σ vs as f → Sim K mg Z H σ S g → f.Nodup → (∀ c ∈ f, c ∉ g) →
    ∃ h g1, RpS K mg Z H (vs.map some) (ds.map some) h ∧ Sim K mg Z H σ S1 g1 ∧ (h ++ g1).Nodup ∧ ∀ c ∈ h ++ g1, c ∈ f ++ g
  | [], σ, S, S1, ds, vs, f, g, e, r, sim, nd, dj => by
    cases e
    cases r
    exact ⟨[], g, .nil, sim, by simpa using sim.nd, fun c m => m⟩
  | .val d :: as, σ, S, S1, ds, vs, f, g, e, r, sim, nd, dj => by
    simp only [resolve, Option.map_eq_some_iff] at e
    obtain ⟨⟨ds', S'⟩, e1, e2⟩ := e
    cases e2
    cases r with
    | @val v d f0 vs as g0 h t =>
      have nd' := List.nodup_append.mp nd
      obtain ⟨hh, g1, r1, s1, n1, sub1⟩ := resolve_ok e1 t sim nd'.2.1 (fun c m => dj c (by simp [m]))
      refine ⟨f0 ++ hh, g1, .yes h r1, s1, ?_, fun c m => ?_⟩
      · rw [List.append_assoc]
        refine List.nodup_append.mpr ⟨nd'.1, n1, fun c m c' m' z => ?_⟩
        subst z
        rcases List.mem_append.mp (sub1 c m') with q | q
        · exact nd'.2.2 c m c q rfl
        · exact dj c (by simp [m]) q
      · rw [List.append_assoc] at m ⊢
        rcases List.mem_append.mp m with m | m
        · simp [m]
        · have := sub1 c m
          simp only [List.mem_append] at this ⊢
          exact .inr this
  | .nm i :: as, σ, S, S1, ds, vs, f, g, e, r, sim, nd, dj => by
    unfold resolve at e
    split at e
    · cases e
    · rename_i d hd
      simp only [Option.map_eq_some_iff] at e
      obtain ⟨⟨ds', S'⟩, e1, e2⟩ := e
      cases e2
      cases r with
      | @nm v _ vs _ g0 h t =>
        obtain ⟨v', f0, g', e3, r3, t3, pm⟩ := sim.r.take (slot_some hd)
        rw [h] at e3; cases e3
        have ndg : (f0 ++ g').Nodup := pm.nodup_iff.mpr sim.nd
        split at e1
        · rename_i hf
          have := r3.fz_nil hf
          subst this
          obtain ⟨hh, g1, r1, s1, n1, sub1⟩ := resolve_ok e1 t sim nd dj
          exact ⟨hh, g1, by simpa using RpS.yes r3 r1, s1, n1, sub1⟩
        · have s' : Sim K mg Z H σ (S.set i none) g' := ⟨t3, (List.nodup_append.mp ndg).2.1, sim.s, sim.t⟩
          have sg : ∀ c ∈ g', c ∈ g := fun c m => pm.mem_iff.mp (by simp [m])
          have sf : ∀ c ∈ f0, c ∈ g := fun c m => pm.mem_iff.mp (by simp [m])
          obtain ⟨hh, g1, r1, s1, n1, sub1⟩ := resolve_ok e1 t s' nd (fun c m z => dj c m (sg c z))
          refine ⟨f0 ++ hh, g1, .yes r3 r1, s1, ?_, fun c m => ?_⟩
          · rw [List.append_assoc]
            refine List.nodup_append.mpr ⟨r3.nd, n1, fun c m c' m' z => ?_⟩
            subst z
            rcases List.mem_append.mp (sub1 c m') with q | q
            · exact dj c q (sf c m)
            · exact (List.nodup_append.mp ndg).2.2 c m c q rfl
          · rw [List.append_assoc] at m
            rcases List.mem_append.mp m with m | m
            · simp [sf c m]
            · have := sub1 c m
              simp only [List.mem_append] at this ⊢
              exact this.imp id (sg c)
theorem restore_ok : ∀ {as : List Arg} {σ : Sg} {S : SS} {o : SS} {vs : List V} {f h g : List Addr} {Z0 H0 : Hp}, RpG K mg Z0 H0 σ vs as f → RpS K mg Z H (vs.map some) o h → Sim K mg Z H σ S g → (h ++ g).Nodup →
    ∃ g1, Sim K mg Z H σ (restore as o S) g1 ∧ ∀ c ∈ g1, c ∈ h ++ g
  | [], σ, S, o, vs, f, h, g, Z0, H0, r, q, sim, nd => by
    refine ⟨g, by unfold restore; exact sim, fun c m => by simp [m]⟩
  | .val d :: as, σ, S, o, vs, f, h, g, Z0, H0, r, q, sim, nd => by
    cases r with
    | @val v d f0 vs as g0 hh t =>
      cases q with
      | no q =>
        obtain ⟨g1, s1, sub⟩ := restore_ok t q sim nd
        exact ⟨g1, by unfold restore; exact s1, sub⟩
      | @yes v d f0 _ S0 g0 hd q =>
        obtain ⟨g1, s1, sub⟩ := restore_ok t q sim (by rw [List.append_assoc] at nd; exact (List.nodup_append.mp nd).2.1)
        exact ⟨g1, by unfold restore; exact s1, fun c m => by have := sub c m; simp only [List.mem_append] at this ⊢; rcases this with z | z <;> simp [z]⟩
  | .nm i :: as, σ, S, o, vs, f, h, g, Z0, H0, r, q, sim, nd => by
    cases r with
    | @nm v _ vs _ g0 e t =>
      cases q with
      | no q =>
        obtain ⟨g1, s1, sub⟩ := restore_ok t q sim nd
        exact ⟨g1, by unfold restore; exact s1, sub⟩
      | @yes v d f0 _ S0 g0 hd q =>
        rw [List.append_assoc] at nd
        have nd' := List.nodup_append.mp nd
        by_cases hf : fz d = true
        · obtain ⟨g1, s1, sub⟩ := restore_ok t q sim nd'.2.1
          exact ⟨g1, by unfold restore; rw [if_pos hf]; exact s1, fun c m => by have := sub c m; simp only [List.mem_append] at this ⊢; rcases this with z | z <;> simp [z]⟩
        · obtain ⟨g2, b1, rr, b2⟩ := sim.r.back hd e
          have nd2 : (g2 ++ rr).Nodup := b2.nodup_iff.mpr (List.nodup_append.mpr ⟨hd.nd, sim.nd, fun c m c' m' z => nd'.2.2 c m c' (by simp [m']) z⟩)
          have sub2 : ∀ c ∈ g2, c ∈ f0 ++ g := fun c m => b2.mem_iff.mp (by simp [m])
          obtain ⟨g1, s1, sub⟩ := restore_ok t q (⟨b1, (List.nodup_append.mp nd2).1, sim.s, sim.t⟩ : Sim K mg Z H σ (S.set i (some d)) g2) (List.nodup_append.mpr ⟨(List.nodup_append.mp nd'.2.1).1, (List.nodup_append.mp nd2).1, fun c m c' m' z => by
            subst z
            rcases List.mem_append.mp (sub2 c m') with q | q
            · exact nd'.2.2 c q c (by simp [m]) rfl
            · exact (List.nodup_append.mp nd'.2.1).2.2 c m c q rfl⟩)
          refine ⟨g1, by unfold restore; rw [if_neg hf]; exact s1, fun c m => ?_⟩
          rcases List.mem_append.mp (sub c m) with z | z
          · simp [z]
          · have := sub2 c z
            simp only [List.mem_append] at this ⊢
            rcases this with y | y <;> simp [y]
def SpF (K : PySem.W.Frag) (mg : Str → Option Value) (n : Nat) (F : List D → Rs D) : Sp := fun vs H Q E => ∃ Z ds g, Sim K mg Z H (vs.map some) (ds.map some) g ∧ vs.length = n ∧
  (F ds).post (fun d o => ∀ v Z' H' f g', Rp K mg Z' H' v d f → Sim K mg Z' H' (vs.map some) o g' → (∀ c ∈ f, c ∉ g') → Fr Z H g Z' H' (f ++ g') → Q v H')
    (fun e _ => ∀ c dx Z' H', RpX K mg Z' H' c dx e → Same Z' H' → TabZ K Z' H' → Fr Z H g Z' H' [] → E c dx H')
def fCall (F : List D → Rs D) (fa : Fa) : Fe := fun S => (fa S).bind fun as S1 => match resolve as S1 with
  | none => .stk
  | some (ds, S2) => match F ds with
    | .ok d o => .ok d (restore as o S2)
    | .exc e _ => .exc e S2
    | .stk => .stk
theorem fn_call {W : WX} {n : Nat} {F : List D → Rs D} {ta : TA} {fa : Fa} (ha : Fna K mg W ta fa) (hn : ∀ S as S', fa S = .ok as S' → as.length = n) : Fn K mg W (tCallSD (SpF K mg n F) [] (fun σ c dx H => W c dx σ H) ta) (fCall F fa) := fun Z H σ S g Q sim p => by
  refine ha Z H σ S g _ sim ?_
  unfold fCall at p
  cases e0 : fa S with
  | exc e S' => rw [e0] at p; exact p
  | stk => rw [e0] at p; exact p
  | ok as S1 =>
    rw [e0] at p
    have hl := hn S as S1 e0
    intro vs Z1 H1 f1 g1 r1 s1 nd1 dj1 fr1
    cases e1 : resolve as S1 with
    | none => rw [Rs.bind_ok, e1] at p; exact p.elim
    | some q =>
      obtain ⟨ds, S2⟩ := q
      rw [Rs.bind_ok, e1] at p
      dsimp only at p
      obtain ⟨h, g2, r2, s2, nd2, sub2⟩ := resolve_ok e1 r1 s1 nd1 dj1
      have nd2' := List.nodup_append.mp nd2
      have lv : vs.length = n := by
        rw [← hl]
        exact r1.length
      have frS : Fr Z H g Z1 H1 (h ++ g2) := fr1.sub sub2
      have out : ∀ {Z3 H3 : Hp} {q : List Addr}, Fr Z1 H1 h Z3 H3 q → Fr Z1 H1 (h ++ g2) Z3 H3 (q ++ g2) := fun {Z3 H3 q} fr =>
        ⟨fr.z, fun a o e m => fr.h a o e fun z => m (by simp [z]), fun a o e nt m => fr.n a o e nt fun z => m (by simp [z]), fun a m => by
          rcases List.mem_append.mp m with m | m
          · exact (fr.f a m).imp (fun z => by simp [z]) id
          · exact .inl (by simp [m])⟩
      have dg : ∀ c ∈ g2, c ∉ h := fun c m z => nd2'.2.2 c z c m rfl
      show SpF K mg n F (vs ++ []) H1 Q _
      rw [List.append_nil]
      refine ⟨Z1, ds, h, ⟨r2, nd2'.1, s1.s, s1.t⟩, lv, ?_⟩
      cases e2 : F ds with
      | stk => rw [e2] at p; exact p.elim
      | exc e o =>
        rw [e2] at p
        intro c dx Z3 H3 rx hs3 ht3 fr3
        have fr3' := out fr3
        refine p c dx Z3 H3 g2 rx ⟨s2.r.stay fr3 dg, s2.nd, hs3, ht3⟩ ((frS.trans fr3').sub fun c m => by simp [m])
      | ok d o =>
        rw [e2] at p
        intro v Z3 H3 f3 h3 r3 s3 dj3 fr3
        have s2' : Sim K mg Z3 H3 σ S2 g2 := ⟨s2.r.stay fr3 dg, s2.nd, s3.s, s3.t⟩
        have apart : ∀ c ∈ g2, c ∉ f3 ++ h3 := fun c m z => by
          rcases fr3.f c z with y | y
          · exact dg c m y
          · obtain ⟨⟨u, e⟩, _⟩ := s2.r.has m
            exact y u e (s2.r.nt m e)
        obtain ⟨g4, s4, sub4⟩ := restore_ok r1 s3.r s2' (List.nodup_append.mpr ⟨s3.nd, s2'.nd, fun c m c' m' z => by subst z; exact apart c m' (by simp [m])⟩)
        have fr3' := frS.trans (out fr3)
        refine p v Z3 H3 f3 g4 r3 s4 (fun c m z => ?_) (fr3'.sub fun c m => ?_)
        · rcases List.mem_append.mp (sub4 c z) with y | y
          · exact dj3 c m y
          · exact apart c y (by simp [m])
        · rcases List.mem_append.mp m with m | m
          · simp [m]
          · have := sub4 c m
            simp only [List.mem_append] at this ⊢
            rcases this with y | y <;> simp [y]
def outs : List Bool → SS → SS
  | [], _ => []
  | _ :: bs, [] => none :: outs bs []
  | b :: bs, o :: S => (if b then o else none) :: outs bs S
def runB (io : List Bool) (m : Nat) (body : Fst) : List D → Rs D := fun ds => match body (ds.map some ++ List.replicate m none) with
  | .ok .nx S => .ok .non (outs io S)
  | .ok (.rt d) S => .ok d (outs io S)
  | .ok _ _ => .stk
  | .exc e _ => .exc e []
  | .stk => .stk
abbrev pnOf (io : List Bool) : Nat → Bool := fun i => io.getD i false
theorem outs_ok : ∀ {io : List Bool} {vs : List V} {σ : Sg} {S : SS} {g : List Addr}, RpS K mg Z H σ S g → vs.length = io.length → io.length ≤ σ.length → (∀ i, io.getD i false = true → σ[i]? = (vs.map some)[i]?) → ∃ g' r, RpS K mg Z H (vs.map some) (outs io S) g' ∧ (g' ++ r).Perm g
  | [], [], σ, S, g, r, _, _, _ => ⟨[], g, .nil, by simp⟩
  | b :: io, v :: vs, σ, S, g, r, l1, l2, h => by
    cases r with
    | nil => simp at l2
    | @no o σ S g t =>
      obtain ⟨g', q, r1, p1⟩ := outs_ok (io := io) (vs := vs) t (by simpa using l1) (by simpa using l2) (fun i e => by simpa using h (i + 1) (by simpa using e))
      refine ⟨g', q, ?_, p1⟩
      unfold outs
      rw [ite_self]
      exact .no r1
    | @yes w d f σ S g hd t =>
      obtain ⟨g', q, r1, p1⟩ := outs_ok (io := io) (vs := vs) t (by simpa using l1) (by simpa using l2) (fun i e => by simpa using h (i + 1) (by simpa using e))
      cases b with
      | false =>
        refine ⟨g', q ++ f, ?_, ?_⟩
        · unfold outs
          rw [if_neg (by decide)]
          exact .no r1
        · rw [← List.append_assoc]
          exact (p1.append_right f).trans List.perm_append_comm
      | true =>
        have e := h 0 (by simp)
        simp at e
        subst e
        refine ⟨f ++ g', q, ?_, ?_⟩
        · unfold outs
          rw [if_pos rfl]
          exact .yes hd r1
        · rw [List.append_assoc]
          exact p1.append_left f
theorem RpS.tail {σ : Sg} : ∀ (m : Nat) (τ : Sg) {S : SS} {g : List Addr}, RpS K mg Z H σ S g → τ.length = m → RpS K mg Z H (σ ++ τ) (S ++ List.replicate m none) g := by
  intro m τ S g h
  induction h generalizing m τ with
  | nil =>
    intro e
    subst e
    induction τ with
    | nil => exact .nil
    | cons x t ih => exact .no ih
  | no t ih => exact fun e => .no (ih m τ e)
  | yes h t ih => exact fun e => .yes h (ih m τ e)
theorem run_spec {W : WX} {io : List Bool} {m : Nat} {t : TS} {f : Fst} {N : List Str} {vs : List V} {H : Hp} {Q : VK} {E : XK} (h : Fs K mg W (pnOf io) t f) (hN : N.length = io.length + m) (hW : ∀ c dx σ H, E c dx H → W c dx σ H)
    (sp : SpF K mg io.length (runB io m f) vs H Q E) : t { nx := fun _ H' => Q .non H', rt := Q } (L2.start N vs) H := by
  obtain ⟨Z, ds, g, sim, hl, p⟩ := sp
  have dl : ds.length = vs.length := by have := sim.r.length; simpa using this.symm
  have e1 : N.length - vs.length = m := by omega
  have sim1 : Sim K mg Z H (L2.start N vs) (ds.map some ++ List.replicate m none) g := ⟨by
    unfold L2.start
    rw [e1]
    exact sim.r.tail m _ (by simp), sim.nd, sim.s, sim.t⟩
  have back : ∀ {σ' : Sg} {S' : SS} {Z' H' : Hp} {g' : List Addr}, Sim K mg Z' H' σ' S' g' → Pin (pnOf io) (L2.start N vs) σ' → ∃ g2, Sim K mg Z' H' (vs.map some) (outs io S') g2 ∧ ∀ c ∈ g2, c ∈ g' := fun {σ' S' Z' H' g'} s pp => by
    have ls : (L2.start N vs).length = io.length + m := by unfold L2.start; simp; omega
    obtain ⟨g2, r, r2, pm⟩ := outs_ok (io := io) (vs := vs) s.r hl (by rw [pp.1, ls]; omega) (fun i e => by
      rw [pp.2 i e]
      have li : i < io.length := by
        rcases Nat.lt_or_ge i io.length with l | l
        · exact l
        · have e' : io.getD i false = true := e
          rw [List.getD_eq_getElem?_getD, List.getElem?_eq_none l] at e'; cases e'
      unfold L2.start
      rw [List.getElem?_append_left (by simp; omega)])
    have nd : (g2 ++ r).Nodup := pm.nodup_iff.mpr s.nd
    exact ⟨g2, ⟨r2, (List.nodup_append.mp nd).1, s.s, s.t⟩, fun c m => pm.mem_iff.mp (by simp [m])⟩
  refine h Z H _ _ g _ sim1 ?_
  unfold runB at p
  cases e : f (ds.map some ++ List.replicate m none) with
  | stk => rw [e] at p; exact p.elim
  | exc x S' =>
    rw [e] at p
    exact fun c dx σ' Z' H' g' rx s fr pp => hW c dx σ' H' (p c dx Z' H' rx s.s s.t (fr.sub (by simp)))
  | ok fl S' =>
    rw [e] at p
    cases fl with
    | nx =>
      intro σ' Z' H' g' s fr pp
      obtain ⟨g2, s2, sub⟩ := back s pp
      exact p .non Z' H' [] g2 .non s2 (by simp) (fr.sub fun c m => sub c (by simpa using m))
    | rt d =>
      intro v σ' Z' H' f1 g' r s dj fr pp
      obtain ⟨g2, s2, sub⟩ := back s pp
      exact p v Z' H' f1 g2 r s2 (fun c m z => dj c m (sub c z)) (fr.sub fun c m => by
        rcases List.mem_append.mp m with m | m
        · simp [m]
        · simp [sub c m])
    | bk => exact p.elim
    | ct => exact p.elim
end
end T3
set_option Elab.async false
set_option linter.all false
set_option maxRecDepth 100000
set_option maxHeartbeats 4000000
namespace T3
open PySem PySem.Spec PyProof.Rows L2
section
variable {P : Program} {w : World} {K : PySem.W.Frag} {mg : Str → Option Value} {base : Heap} {Z H Z' H' : Hp}
abbrev XD (P : Program) (w : World) (K : PySem.W.Frag) (mg : Str → Option Value) (base : Heap) (N : List Str) (qual : Str) (scope : Scope) (fA : Addr) (cdv : Value) (A : Around) (outer : List Env) (s : Shared) (H : Hp) (E : XK) : Cx :=
  cxOf (L2.CX P w) P w K mg base N qual scope fA cdv A outer s H E
abbrev WE (E : XK) : WX := fun c d _ H => E c d H
structure Cal (P : Program) (w : World) (K : PySem.W.Frag) (mg : Str → Option Value) (base : Heap) (x : Str) (n j : Nat) (F : List D → Rs D) : Prop where
  ex : ∃ f fd ps, FnOk P w K mg base (L2.CX P w) j f fd ps (SpF K mg n F) ∧ mg x = some (.ref f) ∧ PySem.W.keepIn K (.ref f) = true ∧ Binds K fd ps []
structure CtP (P : Program) (w : World) (base : Heap) (X : Cx) : Prop where
  hP : X.prog = P
  hw : X.w = w
  hb : X.base = base
def Body (P : Program) (w : World) (K : PySem.W.Frag) (mg : Str → Option Value) (base : Heap) (k : Nat) (N : List Str) (scope : Scope) (body : List Stmt) (io : List Bool) (f : Fst) : Prop :=
  ∀ (qual : Str) (fA : Addr) (cdv : Value) (A : Around) (outer : List Env) (s : Shared) (H : Hp) (E : XK), Ct K mg k (WE E) (XD P w K mg base N qual scope fA cdv A outer s H E) → ∃ t, FS K mg (WE E) (pnOf io) (XD P w K mg base N qual scope fA cdv A outer s H E) body t f
theorem def_ok {x qual : Str} {params : Arguments} {body : List Stmt} {scope : Scope} {fA : Addr} {fd : FuncData} {N ps : List Str} {k m : Nat} {io : List Bool} {f : Fst} (F : FunD K x qual params body scope [] [] fA fd) (S : FnScope N ps scope) (hp : ps.length = io.length) (hN : N.length = io.length + m)
    (B : Body P w K mg base k N scope body io f) : FnOk P w K mg base (L2.CX P w) (k + 1) fA fd ps (SpF K mg io.length (runB io m f)) := by
  refine F.ok S (fun vs H Q E h => ?_) (fun cdv A outer s H vs Q E hr h => ?_)
  · obtain ⟨_, _, _, _, hl, _⟩ := h
    rw [hl, hp]
  · have c : Ct K mg k (WE E) (XD P w K mg base N qual scope fA cdv A outer s H E) := ⟨rfl, rfl, rfl, hr, passes_of rfl, S.nd, takes_of rfl rfl rfl rfl⟩
    obtain ⟨t, d⟩ := B qual fA cdv A outer s H E c
    exact ⟨t, d.ps, run_spec d.fn hN (fun _ _ _ _ h => h) h⟩
theorem cal_of {x qual : Str} {params : Arguments} {body : List Stmt} {scope : Scope} {fA : Addr} {fd : FuncData} {N ps : List Str} {k m : Nat} {io : List Bool} {f : Fst} (F : FunD K x qual params body scope [] [] fA fd) (S : FnScope N ps scope) (hp : ps.length = io.length) (hN : N.length = io.length + m)
    (hm : mg x = some (.ref fA)) (b : Binds K fd ps []) (B : Body P w K mg base k N scope body io f) : Cal P w K mg base x io.length (k + 1) (runB io m f) := ⟨fA, fd, ps, def_ok F S hp hN B, hm, F.kp, b⟩
theorem passAt {X : Cx} {W : WX} (tk : Takes X W) (σ : L2.St) : PassesAt (L2.CX X.prog X.w) X σ (fun c dx H => W c dx σ H) := fun pins H s e s' I h => tk _ _ (XE.of_call (W := W) I (fun _ _ _ q => q) h)
section
variable {k : Nat} {W : WX} {pn : Nat → Bool} {X : Cx} {e a b : Expr} {es : List Expr} {t ta tb : TE} {tr : TA} {fe fa fb : Fe} {fr : Fa} {pos p : Pos}
theorem fe_call {x : Str} {n j : Nat} {F : List D → Rs D} (c : Ct K mg k W X) (cp : CtP P w base X) (cal : Cal P w K mg base x n j F) (hj : j ≤ k) (ha : FA K mg W X (e :: es) tr fr) (hn : ∀ S as S', fr S = .ok as S' → as.length = n) (hg : Gl X x := by rfl)
    (hdb : (x == ("__debug__" : Str)) = false := by decide) (he : starEach (e :: es) X.env = (false, eval e X.env) :: starEach es X.env := by rfl) (hpl : (backTo pos (starEach es X.env)).any (·.1) = false := by rfl) :
    FE K mg W X (.Call (.Name x p) (e :: es) [] pos) (tCallSD (SpF K mg n F) [] (fun σ c dx H => W c dx σ H) tr) (fCall F fr) := ⟨by
    obtain ⟨f, fd, ps, G, h1, h2, h3⟩ := cal.ex
    obtain ⟨rfl, rfl, rfl⟩ := cp
    obtain ⟨rfl, rfl, _, _, _, _, _⟩ := id c
    exact pe_callSD G (c.room.mono hj) hg h1 h2 h3 .nil (fun σ => passAt c.tk σ) ha.pa hdb he hpl, fn_call ha.fn hn⟩
theorem faNil_len : ∀ (S : SS) (as : List Arg) (S' : SS), faNil S = .ok as S' → as.length = 0 := fun S as S' e => by cases e; rfl
theorem faCons_len {n : Nat} (h : ∀ (S : SS) (as : List Arg) (S' : SS), fr S = .ok as S' → as.length = n) : ∀ (S : SS) (as : List Arg) (S' : SS), faCons fe fr S = .ok as S' → as.length = n + 1 := fun S as S' e => by
  unfold faCons at e
  cases e1 : fe S with
  | ok d S1 =>
    rw [e1, Rs.bind_ok] at e
    cases e2 : fr S1 with
    | ok as2 S2 => rw [e2, Rs.bind_ok] at e; cases e; simp [h _ _ _ e2]
    | exc x y => rw [e2, Rs.bind_exc] at e; cases e
    | stk => rw [e2, Rs.bind_stk] at e; cases e
  | exc x y => rw [e1, Rs.bind_exc] at e; cases e
  | stk => rw [e1, Rs.bind_stk] at e; cases e
theorem faName_len {n : Nat} {i : Nat} (h : ∀ (S : SS) (as : List Arg) (S' : SS), fr S = .ok as S' → as.length = n) : ∀ (S : SS) (as : List Arg) (S' : SS), faName i fr S = .ok as S' → as.length = n + 1 := fun S as S' e => by
  unfold faName at e
  split at e
  · cases e2 : fr S with
    | ok as2 S2 => rw [e2, Rs.bind_ok] at e; cases e; simp [h _ _ _ e2]
    | exc x y => rw [e2, Rs.bind_exc] at e; cases e
    | stk => rw [e2, Rs.bind_stk] at e; cases e
  · cases e
def fTup (fr : Fa) : Fe := fun S => (fr S).bind fun as S1 => match resolve as S1 with
  | none => .stk
  | some (ds, S2) => if ds.all fz ∧ ds.length ≤ sizeLine then .ok (.tup ds) S2 else .stk
def fLst (fr : Fa) : Fe := fun S => (fr S).bind fun as S1 => match resolve as S1 with
  | none => .stk
  | some (ds, S2) => if ds.all fz ∧ ds.length ≤ sizeLine then .ok (.lst .ow ds) S2 else .stk
theorem RpS.list : ∀ {vs : List V} {ds : List D} {h : List Addr}, RpS K mg Z H (vs.map some) (ds.map some) h → ds.all fz = true → RpL K mg Z H vs ds
  | [], [], _, _, _ => .nil
  | [], _ :: _, _, r, _ => by cases r
  | _ :: _, [], _, r, _ => by cases r
  | v :: vs, d :: ds, _, r, e => by
    simp only [List.map_cons] at r
    cases r with
    | yes h t =>
      simp only [List.all_cons, Bool.and_eq_true] at e
      have := h.fz_nil e.1
      subst this
      exact .cons h (t.list e.2)
theorem fn_disp {ta : TA} {fa : Fa} {mk : List V → HO} {md : List D → D} (own : Bool) (ha : Fna K mg W ta fa)
    (hmk : ∀ Z H vs ds p, Same Z H → H p = none → RpL K mg Z H vs ds → ∃ Z' f, Rp K mg Z' (upd H p (mk vs)) (.ref p) (md ds) f ∧ Ext Z H Z' (upd H p (mk vs)) f) :
    Fn K mg W (fun σ H Q => ta σ H fun xs H1 => xs.length ≤ sizeLine ∧ ∀ p, H1 p = none → Q (.ref p) (upd H1 p (mk xs)))
      (fun S => (fa S).bind fun as S1 => match resolve as S1 with
        | none => .stk
        | some (ds, S2) => if ds.all fz ∧ ds.length ≤ sizeLine then .ok (md ds) S2 else .stk) := fun Z H σ S g Q sim p => by
  refine ha Z H σ S g _ sim ?_
  rw [Rs.bind_post] at p
  refine Rs.post_mono p (fun as S1 p1 vs Z1 H1 f1 g1 r1 s1 nd1 dj1 fr1 => ?_) fun _ _ q => q
  cases e1 : resolve as S1 with
  | none => rw [e1] at p1; exact p1.elim
  | some q =>
    obtain ⟨ds, S2⟩ := q
    rw [e1] at p1
    dsimp only at p1
    split at p1
    case isFalse => exact p1.elim
    rename_i hc
    obtain ⟨h, g2, r2, s2, nd2, sub2⟩ := resolve_ok e1 r1 s1 nd1 dj1
    have l := r2.list hc.1
    refine ⟨by rw [l.length]; exact hc.2, fun pp hp => ?_⟩
    obtain ⟨Z3, f3, r3, ex⟩ := hmk Z1 H1 vs ds pp s1.s hp l
    exact p1 _ Z3 _ f3 g2 r3 (ex.sim s2) (ex.dj s2) ((fr1.sub fun c m => sub2 c (by simp [m])).trans ex.fr)
theorem fe_tup {j : Nat} (ha : FA K mg W X es tr fr) : FE K mg W X (.Tuple es j pos) (tTup tr) (fTup fr) :=
  ⟨pe_tup ha.pa, fn_disp (mk := .tup) (md := .tup) false ha.fn fun Z H vs ds p hs hp l => ⟨_, [], Rp.newT hs hp l, Ext.newF hs hp⟩⟩
theorem fe_lst (ha : FA K mg W X es tr fr) : FE K mg W X (.List es pos) (tLst tr) (fLst fr) :=
  ⟨pe_lst ha.pa, fn_disp (mk := .lst) (md := .lst .ow) true ha.fn fun Z H vs ds p hs hp l => ⟨_, [p], Rp.newO hs hp l, Ext.newO hs hp⟩⟩
theorem fe_dT : FE K mg W X (.Dict [] [] pos) tDNewT (fC (.dT .ow [])) := ⟨pe_dnewT, fun Z H σ S g Q sim p pp hp => p (.ref pp) Z _ [pp] g (.dT ⟨upd_same, sim.s.free hp, rfl⟩ rfl .nil) ((Ext.newO (o := .dT []) sim.s hp).sim sim) ((Ext.newO (o := .dT []) sim.s hp).dj sim) (Ext.newO sim.s hp).fr⟩
theorem fe_call1 {x : Str} {id : String} {r : List V → Hp → VK → Prop} {g : D → Option D} (c : Ct K mg k W X) (hc : CallR X (.builtin id) r) (o : UnF K mg (fun x H Q => r [x] H Q) g) (hm : mg x = none) (hv : bootBuiltins x = some (.builtin id)) (ha : VE K mg W X a ta fa) (hg : Gl X x := by rfl) (hn : x ≠ "__name__" := by decide) (hdb : (x == ("__debug__" : Str)) = false := by decide)
    (hs : starEach [a] X.env = (false, eval a X.env) :: starEach [] X.env := by rfl) (hpl : (backTo pos (starEach [] X.env)).any (·.1) = false := by rfl) : FE K mg W X (.Call (.Name x p) [a] [] pos) (tUn (fun x H Q => r [x] H Q) ta) (fUn g fa) :=
  ⟨pe_callB hc hg (by rw [c.hmg]; exact hm) hv (pa_cons ha.pe pa_nil hs) hn hdb hs hpl, fn_un o ha.vw⟩
theorem fe_callT1 {x : Str} {id : String} {r : List V → Hp → VK → Prop} {g : D → Option D} (c : Ct K mg k W X) (hc : CallR X (.type id) r) (o : UnF K mg (fun x H Q => r [x] H Q) g) (hm : mg x = none) (hv : bootBuiltins x = some (.type id)) (ha : VE K mg W X a ta fa) (hg : Gl X x := by rfl) (hn : x ≠ "__name__" := by decide) (hdb : (x == ("__debug__" : Str)) = false := by decide)
    (hs : starEach [a] X.env = (false, eval a X.env) :: starEach [] X.env := by rfl) (hpl : (backTo pos (starEach [] X.env)).any (·.1) = false := by rfl) : FE K mg W X (.Call (.Name x p) [a] [] pos) (tUn (fun x H Q => r [x] H Q) ta) (fUn g fa) :=
  ⟨pe_callTy hc hg (by rw [c.hmg]; exact hm) hv (pa_cons ha.pe pa_nil hs) hn hdb hs hpl, fn_un o ha.vw⟩
def gLen : D → Option D
  | .lst _ ds => some (.int ds.length)
  | .tup ds => some (.int ds.length)
  | .str z => if z.length ≤ sizeLine then some (.int z.length) else none
  | .dK _ kvs => some (.int kvs.length)
  | _ => none
def rLenA (K : PySem.W.Frag) : List V → Hp → VK → Prop := fun xs H Q => (∃ p ys, xs = [.ref p] ∧ (SqL K H p ys ∨ SqT K H p ys) ∧ Q (.int ys.length) H) ∨ ((∃ z, xs = [.str z] ∧ z.length ≤ sizeLine ∧ Q (.int z.length) H) ∨ ∃ a kvs, xs = [V.ref a] ∧ H a = some (.dK kvs) ∧ Q (.int kvs.length) H)
theorem call_lenA (hK : X.K = K) : CallR X (.builtin "len") (rLenA K) := by
  subst hK
  exact call_len_seq.or (call_len_str.or call_lenD)
theorem opLen : UnF K mg (fun x H Q => rLenA K [x] H Q) gLen := fun Z H x dx f d Q hs r e q => by
  unfold gLen at e
  split at e
  · obtain ⟨a, vs, rfl, h1, l1⟩ := r.lst_inv
    cases e
    exact .inl ⟨a, vs, rfl, .inl (h1.seq hs), by rw [l1.length]; exact q _ Z H [] (.int _) (.refl hs)⟩
  · obtain ⟨a, vs, rfl, h1, _, l1⟩ := r.tup_inv
    cases e
    exact .inl ⟨a, vs, rfl, .inr (.of (hs _ _ h1)), by rw [l1.length]; exact q _ Z H [] (.int _) (.refl hs)⟩
  · split at e
    · cases e
      obtain ⟨rfl, _⟩ := r.str_inv
      exact .inr (.inl ⟨_, rfl, ‹_›, q _ Z H [] (.int _) (.refl hs)⟩)
    · cases e
  · obtain ⟨a, vs, rfl, h1, e1, l1⟩ := r.dK_inv
    cases e
    exact .inr (.inr ⟨a, vs, rfl, seq_dK hs h1, by
      have := l1.length
      simp only [List.length_map] at this
      rw [this]; exact q _ Z H [] (.int _) (.refl hs)⟩)
  · cases e
def gList : D → Option D
  | .lst _ ds => some (.lst .ow ds)
  | .tup ds => some (.lst .ow ds)
  | .dK _ kvs => some (.lst .ow (kvs.map fun kv => match kv.1 with | .inl i => .int i | .inr x => .str x))
  | _ => none
def rListA (K : PySem.W.Frag) : List V → Hp → VK → Prop := fun xs H Q => (∃ p ys, xs = [.ref p] ∧ (SqL K H p ys ∨ SqT K H p ys) ∧ ∀ l, H l = none → Q (.ref l) (upd H l (.lst ys))) ∨ ∃ (a : Addr) (kvs : List (Key × V)), xs = [.ref a] ∧ Rd H a (.dK kvs) ∧ ∀ p, H p = none → Q (.ref p) (upd H p (.lst (kvs.map fun kv => kV kv.1)))
theorem call_listA (hK : X.K = K) (hc : X.calm = true) : CallR X (.type "list") (rListA K) := by
  subst hK
  exact call_list_of.or (call_listD hc)
theorem keys_list : ∀ {kvs : List (Key × V)} {ds : List (Key × D)}, kvs.map (·.1) = ds.map (·.1) → RpL K mg Z H (kvs.map fun kv => kV kv.1) (ds.map fun kv => match kv.1 with | .inl i => .int i | .inr x => .str x)
  | [], [], _ => .nil
  | [], _ :: _, e => by simp at e
  | _ :: _, [], e => by simp at e
  | p :: r, q :: s, e => by
    simp only [List.map_cons, List.cons.injEq] at e
    obtain ⟨e1, e2⟩ := e
    simp only [List.map_cons]
    refine .cons ?_ (keys_list e2)
    rw [e1]
    cases q.1 with
    | inl i => exact .int i
    | inr x => exact .str x
theorem opList : UnF K mg (fun x H Q => rListA K [x] H Q) gList := fun Z H x dx f d Q hs r e q => by
  unfold gList at e
  split at e
  · obtain ⟨a, vs, rfl, h1, l1⟩ := r.lst_inv
    cases e
    exact .inl ⟨a, vs, rfl, .inl (h1.seq hs), fun p hp => q _ Z _ [p] (Rp.newO hs hp l1) (Ext.newO hs hp)⟩
  · obtain ⟨a, vs, rfl, h1, _, l1⟩ := r.tup_inv
    cases e
    exact .inl ⟨a, vs, rfl, .inr (.of (hs _ _ h1)), fun p hp => q _ Z _ [p] (Rp.newO hs hp l1) (Ext.newO hs hp)⟩
  · obtain ⟨a, vs, rfl, h1, e1, l1⟩ := r.dK_inv
    cases e
    exact .inr ⟨a, vs, rfl, .inl (seq_dK hs h1), fun p hp => q _ Z _ [p] (Rp.newO hs hp (keys_list e1)) (Ext.newO hs hp)⟩
  · cases e
def gTuple : D → Option D
  | .lst _ ds => some (.tup ds)
  | .tup ds => some (.tup ds)
  | _ => none
def rTupleA (K : PySem.W.Frag) : List V → Hp → VK → Prop := fun xs H Q => ∃ p ys, xs = [.ref p] ∧ ((SqL K H p ys ∧ ∀ l, H l = none → Q (.ref l) (upd H l (.tup ys))) ∨ (SqT K H p ys ∧ Q (.ref p) H))
theorem call_tupleA (hK : X.K = K) : CallR X (.type "tuple") (rTupleA K) := by
  subst hK
  exact call_tuple_of
theorem opTuple : UnF K mg (fun x H Q => rTupleA K [x] H Q) gTuple := fun Z H x dx f d Q hs r e q => by
  unfold gTuple at e
  split at e
  · obtain ⟨a, vs, rfl, h1, l1⟩ := r.lst_inv
    cases e
    exact ⟨a, vs, rfl, .inl ⟨h1.seq hs, fun p hp => q _ _ _ [] (Rp.newT hs hp l1) (Ext.newF hs hp)⟩⟩
  · obtain ⟨a, vs, rfl, h1, rfl, l1⟩ := r.tup_inv
    cases e
    exact ⟨a, vs, rfl, .inr ⟨.of (hs _ _ h1), q _ Z H [] r (.refl hs)⟩⟩
  · cases e
def rSumT (K : PySem.W.Frag) : List V → Hp → VK → Prop := fun vs H Q => ∃ (a : Addr) (ns : List Int), vs = [V.ref a] ∧ SqT K H a (ns.map V.int) ∧ Q (.int ns.sum) H
theorem iter_intTup {prog : Program} {w : World} {A : Around} {E : Value → Shared → Prop} {s : Shared} {l : Addr} {xs : Array Value} {Q : Value → Shared → Prop} (hl : s.heap.IsTuple l xs)
    (h : ∀ s₂ : Shared, s₂ = { s with heap := s.heap.push { cls := .type "tuple_iterator", data := .fields #[.ref l, .int 0 0] } } →
      (s₂.heap.IsTupleIter s.heap.objs.size l 0 ∧ s₂.heap.IsTuple l xs) → (∀ b ∈ [s.heap.objs.size, l], b < s₂.heap.objs.size) → l ≠ s.heap.objs.size → Q (.ref s.heap.objs.size) s₂) :
    wpAny (model prog w) A (pyIter (.ref l)) Q E s := by
  have hlt : l < s.heap.objs.size := by obtain ⟨_, e, _⟩ := hl; exact Heap.lt_size e
  refine wpAny_pyIter_tuple hl (h _ rfl ⟨⟨_, Heap.get?_push_size _ rfl, rfl, rfl⟩, hl.push _⟩ (fun b hb => ?_) (Nat.ne_of_lt hlt))
  show b < (s.heap.push _).objs.size
  rw [Heap.size_push]
  rcases List.mem_cons.mp hb with rfl | hb
  · exact Nat.lt_succ_self _
  · rcases List.mem_cons.mp hb with rfl | hb
    · exact Nat.lt_succ_of_lt hlt
    · cases hb
theorem cr_sumT {X : Cx} (hc : X.calm = true) : CallR X (.builtin "sum") (rSumT X.K) := by
  intro pins s σ H vs us Q I r h
  obtain ⟨a, ns, rfl, hs, q⟩ := h
  obtain ⟨its, rv, hl, _⟩ := I.tuple hs
  rw [Vals.ref1 r]
  have hi := rv.ints
  obtain ⟨xs, e⟩ := hi.allInts.items
  have hn : numsOf (intItems xs).toList = ns := by rw [← e]; exact hi.numsOf
  rw [nums_intItems] at hn
  have hl' : s.heap.IsTuple a (intItems xs) := by rw [← e]; exact hl
  refine call_sum_walkG (iter_intTup hl' fun s₂ e2 st hfp hne => ?_)
  subst e2
  refine ⟨_, _, _, _, _, _, numAt xs, rfl, Walks.tuple (A := X.A.in1) (I.ok.hd hc) _ a hne (intItems xs), st, hfp, (fun _ _ => intItems_at), fun h' tk t' hk => ?_⟩
  refine ⟨.int _, H, I.kept fun b o eo => hk b o (fun hmem => ?_) (Heap.get?_push_of_some _ eo), ⟨t', rfl⟩, ?_⟩
  · rcases List.mem_cons.mp hmem with e1 | hmem
    · exact absurd (e1 ▸ Heap.lt_size eo) (Nat.lt_irrefl _)
    · cases hmem
  · have : preSum (numAt xs) (intItems xs).size = ns.sum := by
      rw [show (intItems xs).size = xs.size from by simp [intItems], preSum_eq, List.take_of_length_le (by simp), hn]
    rw [this]
    exact q
def rSumA (K : PySem.W.Frag) : List V → Hp → VK → Prop := fun vs H Q => rSum K vs H Q ∨ rSumT K vs H Q
theorem cr_sumA {X : Cx} (hc : X.calm = true) : CallR X (.builtin "sum") (rSumA X.K) := fun pins s σ H vs us Q I r h => by
  rcases h with h | h
  · exact cr_sum hc pins s σ H vs us Q I r h
  · exact cr_sumT hc pins s σ H vs us Q I r h
def gSum : D → Option D
  | .lst _ ds => (intsOf ds).map fun js => .int js.sum
  | .tup ds => (intsOf ds).map fun js => .int js.sum
  | _ => none
theorem opSum : UnF K mg (fun x H Q => rSumA K [x] H Q) gSum := fun Z H x dx f d Q hs r e q => by
  unfold gSum at e
  split at e
  · obtain ⟨a, vs, rfl, h1, l1⟩ := r.lst_inv
    obtain ⟨js, e1, rfl⟩ := Option.map_eq_some_iff.mp e
    cases l1.ints e1
    exact .inl ⟨a, js, rfl, h1.seq hs, q _ Z H [] (.int _) (.refl hs)⟩
  · obtain ⟨a, vs, rfl, h1, _, l1⟩ := r.tup_inv
    obtain ⟨js, e1, rfl⟩ := Option.map_eq_some_iff.mp e
    cases l1.ints e1
    exact .inr ⟨a, js, rfl, .of (hs _ _ h1), q _ Z H [] (.int _) (.refl hs)⟩
  · cases e
def gAny : D → Option D
  | .lst _ ds => (blsOf ds).map fun js => .bl (js.any id)
  | _ => none
def gAll : D → Option D
  | .lst _ ds => (blsOf ds).map fun js => .bl (js.all id)
  | _ => none
theorem opAny : UnF K mg (fun x H Q => rAny K [x] H Q) gAny := fun Z H x dx f d Q hs r e q => by
  unfold gAny at e
  split at e
  · obtain ⟨a, vs, rfl, h1, l1⟩ := r.lst_inv
    obtain ⟨js, e1, rfl⟩ := Option.map_eq_some_iff.mp e
    cases l1.bls e1
    exact ⟨a, js, rfl, h1.seq hs, q _ Z H [] (.bl _) (.refl hs)⟩
  · cases e
theorem opAll : UnF K mg (fun x H Q => rAll K [x] H Q) gAll := fun Z H x dx f d Q hs r e q => by
  unfold gAll at e
  split at e
  · obtain ⟨a, vs, rfl, h1, l1⟩ := r.lst_inv
    obtain ⟨js, e1, rfl⟩ := Option.map_eq_some_iff.mp e
    cases l1.bls e1
    exact ⟨a, js, rfl, h1.seq hs, q _ Z H [] (.bl _) (.refl hs)⟩
  · cases e
def gMax2 : D → D → Option D := gI fun i j => some (.int (if j > i then j else i))
def gMin2 : D → D → Option D := gI fun i j => some (.int (if j < i then j else i))
def gInt : D → Option D
  | .int i => some (.int i)
  | .bl b => some (.int (if b then 1 else 0))
  | .str a => if a.length ≤ 640 then (PySem.intText? a).map .int else none
  | _ => none
def rIntA : List V → Hp → VK → Prop := fun xs H Q => ((∃ i, xs = [.int i] ∧ Q (.int i) H) ∨ ∃ k, xs = [.bl k] ∧ Q (.int (if k then 1 else 0)) H) ∨ ∃ a n, xs = [.str a] ∧ PySem.intText? a = some n ∧ a.length ≤ 640 ∧ Q (.int n) H
theorem call_intA : CallR X (.type "int") rIntA := call_int1.or call_int_str
theorem opInt : UnF K mg (fun x H Q => rIntA [x] H Q) gInt := fun Z H x dx f d Q hs r e q => by
  unfold gInt at e
  split at e
  · obtain ⟨rfl, _⟩ := r.int_inv
    cases e
    exact .inl (.inl ⟨_, rfl, q _ Z H [] (.int _) (.refl hs)⟩)
  · obtain ⟨rfl, _⟩ := r.bl_inv
    cases e
    exact .inl (.inr ⟨_, rfl, q _ Z H [] (.int _) (.refl hs)⟩)
  · obtain ⟨rfl, _⟩ := r.str_inv
    split at e
    · obtain ⟨n, e1, rfl⟩ := Option.map_eq_some_iff.mp e
      exact .inr ⟨_, n, rfl, e1, ‹_›, q _ Z H [] (.int _) (.refl hs)⟩
    · cases e
  · cases e
end
end
end T3
set_option Elab.async false
set_option linter.all false
set_option maxRecDepth 100000
set_option maxHeartbeats 4000000
namespace T3
open PySem PySem.Spec PyProof.Rows L2
section
variable {P : Program} {w : World} {K : PySem.W.Frag} {mg : Str → Option Value} {base : Heap} {Z H Z' H' : Hp}
theorem sim_mut {σ : Sg} {S : SS} {g : List Addr} {i : Nat} {d d' : D} {a : Addr} {u' : HO} (sim : Sim K mg Z H σ S g) (hs : slot S i = some d) (hv : σ[i]? = some (some (.ref a))) (ha : Rp K mg Z H (.ref a) d [a])
    (hr : Rp K mg Z (upd H a u') (.ref a) d' [a]) (fl : flat d = true := by rfl) : ∃ g', Sim K mg Z (upd H a u') σ (S.set i (some d')) g' ∧ Fr Z H g Z (upd H a u') g' := by
  obtain ⟨v, f, g', e1, r1, t1, pm⟩ := sim.r.take (slot_some hs)
  rw [hv] at e1; cases e1
  have zn : Z a = none := (ha.has (by simp)).2
  have hf : f = [a] := by
    rcases r1.own fl with ⟨rfl, e⟩ | ⟨b, u, rfl, eb, _⟩
    · have := ha.fz_nil e; cases this
    · cases eb; rfl
  subst hf
  have nd : ([a] ++ g').Nodup := pm.nodup_iff.mpr sim.nd
  have na : a ∉ g' := fun m => (List.nodup_append.mp nd).2.2 a (by simp) a m rfl
  have keep : ∀ b o, H b = some o → b ≠ a → upd H a u' b = some o := fun b o h e => by rw [upd_ne e]; exact h
  have s0 : Same Z (upd H a u') := fun b o h => keep b o (sim.s b o h) fun e => by subst e; rw [zn] at h; cases h
  have t2 : RpS K mg Z (upd H a u') σ (S.set i none) g' := t1.mono (Same.refl _) (fun b m o h => keep b o h fun e => na (e ▸ m)) fun b m => (t1.has m).2
  obtain ⟨g2, b1, r, b2⟩ := t2.back hr hv
  rw [List.set_set] at b1
  have ndr : (g2 ++ r).Nodup := b2.nodup_iff.mpr nd
  have sub : ∀ c ∈ g2, c ∈ g := fun c m => pm.mem_iff.mp (b2.mem_iff.mp (by simp [m]))
  obtain ⟨⟨u0, hu0⟩, _⟩ := ha.has (a := a) (by simp)
  have hda := ha.dat (a := a) (by simp) hu0
  refine ⟨g2, ⟨b1, (List.nodup_append.mp ndr).1, s0, sim.t.put hu0 hda.1 hda.2⟩, Same.refl _, fun b o h m _ => keep b o h fun e => m (e ▸ pm.mem_iff.mp (by simp)), fun _ _ _ _ _ h => h, fun b m => .inl (sub b m)⟩
theorem own_at {v : V} {ds : List D} {f : List Addr} (r : Rp K mg Z H v (.lst .ow ds) f) : ∃ a vs, v = .ref a ∧ f = [a] ∧ H a = some (.lst vs) ∧ Z a = none ∧ RpL K mg Z H vs ds := by
  obtain ⟨a, vs, rfl, h, l⟩ := r.lst_inv
  obtain ⟨h1, h2, rfl⟩ := h
  exact ⟨a, vs, rfl, rfl, h1, h2, l⟩
section
variable {k : Nat} {W : WX} {pn : Nat → Bool} {X : Cx} {e a b : Expr} {es : List Expr} {t ta tb te : TE} {tr : TA} {fe fa fb : Fe} {fr : Fa} {pos p apos cpos : Pos}
def ownL (S : SS) (i : Nat) : Option (List D) := match slot S i with
  | some (.lst .ow ds) => some ds
  | _ => none
theorem ownL_some {S : SS} {i : Nat} {ds : List D} (h : ownL S i = some ds) : slot S i = some (.lst .ow ds) := by
  unfold ownL at h
  split at h
  · cases h; assumption
  · cases h
def ML (K : PySem.W.Frag) (mg : Str → Option Value) (r : V → List V → Hp → VK → Prop) (n : Nat) (g : List D → List D → Option (D × List D)) : Prop :=
  ∀ Z H a vs ds xs ys d ds' Q, Same Z H → H a = some (.lst vs) → RpL K mg Z H vs ds → RpL K mg Z H xs ys → xs.length = n → g ds ys = some (d, ds') → (∀ v vs', RpL K mg Z H vs' ds' → Rp K mg Z H v d [] → Q v (upd H a (.lst vs'))) → r (.ref a) xs H Q
def fML0 (g : List D → List D → Option (D × List D)) (i : Nat) : Fe := fun S => match ownL S i with
  | some ds => match g ds [] with
    | some (d, ds') => .ok d (S.set i (some (.lst .ow ds')))
    | none => .stk
  | none => .stk
theorem ml_fin {r : V → List V → Hp → VK → Prop} {n : Nat} {g : List D → List D → Option (D × List D)} (o : ML K mg r n g) {σ : Sg} {S : SS} {gg : List Addr} {i : Nat} {v : V} {ds ds' ys : List D} {xs : List V} {d : D} {Q : VK} (sim : Sim K mg Z H σ S gg) (hs : ownL S i = some ds) (hv : σ[i]? = some (some v))
    (l : RpL K mg Z H xs ys) (hn : xs.length = n) (e : g ds ys = some (d, ds')) (q : ∀ v' H' g', Rp K mg Z H' v' d [] → Sim K mg Z H' σ (S.set i (some (.lst .ow ds'))) g' → Fr Z H gg Z H' g' → Q v' H') : r v xs H Q := by
  have hs' := ownL_some hs
  obtain ⟨v0, f0, e0, r0, _⟩ := sim.r.get (slot_some hs')
  rw [hv] at e0; cases e0
  obtain ⟨a, vs, rfl, rfl, h1, z1, l1⟩ := own_at r0
  refine o Z H a vs ds xs ys d ds' Q sim.s h1 l1 l hn e fun v' vs' l' r' => ?_
  obtain ⟨g', s', fr'⟩ := sim_mut sim hs' hv r0 (u' := .lst vs') (d' := .lst .ow ds') (.lst ⟨upd_same, z1, rfl⟩ (l'.mono (Same.refl _)))
  exact q v' _ g' (r'.mono (Same.refl _) (by simp) (by simp)) s' fr'
def fML1 (g : List D → List D → Option (D × List D)) (i : Nat) (fe : Fe) : Fe := fun S => match ownL S i with
  | some _ => (fe S).bind fun y S1 => match ownL S1 i with
    | some ds => match g ds [frz y] with
      | some (d, ds') => .ok d (S1.set i (some (.lst .ow ds')))
      | none => .stk
    | none => .stk
  | none => .stk
theorem fn_ml1 {r : V → List V → Hp → VK → Prop} {g : List D → List D → Option (D × List D)} (o : ML K mg r 1 g) (i : Nat) (he : Fn K mg W te fe) : Fn K mg W (tBM K "list" r (tVar i) (tCons te tNil)) (fML1 g i fe) := fun Z H σ S gg Q sim p => by
  unfold fML1 at p
  split at p
  · rename_i ds0 hs0
    obtain ⟨v0, f0, e0, r0, _⟩ := sim.r.get (slot_some (ownL_some hs0))
    obtain ⟨a, vs, rfl, rfl, h1, z1, l1⟩ := own_at r0
    refine ⟨_, e0, .inl ⟨rfl, vs, .of h1⟩, he Z H σ S gg _ sim ?_⟩
    rw [Rs.bind_post] at p
    refine Rs.post_mono p (fun y S1 p1 yv Z1 H1 f1 g1 r1 s1 dj1 fr1 => ?_) fun _ _ q => q
    split at p1
    · rename_i ds hs
      split at p1
      · rename_i d ds' hg
        obtain ⟨Z2, z2, zh2, n2, r2⟩ := r1.freeze s1.s
        have s2 := freeze_sim s1 z2 zh2 n2 dj1
        have fr2 := fr1.trans (freeze_fr (H := H1) (g := g1) z2 n2)
        exact ml_fin o s2 hs e0 (.cons r2 .nil) rfl hg fun v' H' g' r' s' fr' => p1 v' Z2 H' [] g' r' s' (by simp) (fr2.trans fr')
      · exact p1.elim
    · exact p1.elim
  · exact p.elim
def gAppend : List D → List D → Option (D × List D)
  | ds, [y] => if ds.length < sizeLine then some (.non, ds ++ [y]) else none
  | _, _ => none
theorem mlAppend : ML K mg rAppend 1 gAppend := fun Z H a vs ds xs ys d ds' Q hs h l l2 hn e q => by
  unfold gAppend at e
  split at e
  · split at e
    · cases e
      cases l2 with
      | cons r t =>
        cases t
        exact ⟨a, vs, _, rfl, rfl, h, by rw [l.length]; assumption, q _ _ (l.append (.cons r .nil)) .non⟩
    · cases e
  · cases e
def gPopAt : List D → List D → Option (D × List D)
  | ds, [.int i] => match ixN ds.length i with
    | some j => match ds[j]? with
      | some d => some (d, ds.eraseIdx j)
      | none => none
    | none => none
  | _, _ => none
theorem mlPopAt : ML K mg (fun x vs H Q => ∃ l xs i k y, x = V.ref l ∧ vs = [V.int i] ∧ H l = some (.lst xs) ∧ -(2 ^ 63) ≤ i ∧ i < 2 ^ 63 ∧ seqIndex? i xs.length = some k ∧ xs[k]? = some y ∧ xs.length ≤ sizeLine ∧ Q y (upd H l (.lst (xs.eraseIdx k)))) 1 (fun ds ys => if ds.length ≤ sizeLine then gPopAt ds ys else none) := fun Z H a vs ds xs ys d ds' Q hs h l l2 hn e q => by
  dsimp only at e
  split at e
  case isFalse => cases e
  rename_i hl
  unfold gPopAt at e
  split at e
  · split at e
    · rename_i j hj
      split at e
      · rename_i hd
        cases e
        cases l2 with
        | cons r t =>
          cases t
          obtain ⟨rfl, _⟩ := r.int_inv
          obtain ⟨v, e1, r1⟩ := l.get hd
          obtain ⟨h1, h2, h3, h4⟩ := ixN_seq hj
          have h5 : (sizeLine : Int) < 2 ^ 63 := by have := line63; omega
          exact ⟨a, vs, _, j, v, rfl, rfl, h, by omega, by omega, by rw [l.length]; exact h1, e1, by rw [l.length]; exact hl, q _ _ (l.erase _) r1⟩
      · cases e
    · cases e
  · cases e
def gPopA : List D → List D → Option (D × List D) := fun ds ys => if ds.length ≤ sizeLine then gPopAt ds ys else none
theorem mlPopA : ML K mg rPopAt 1 gPopA := fun Z H a vs ds xs ys d ds' Q hs h l l2 hn e q => by
  obtain ⟨l0, xs0, i, kk, y, h1, h2, h3, h4, h5, h6, h7, _, h8⟩ := mlPopAt (K := K) (mg := mg) Z H a vs ds xs ys d ds' Q hs h l l2 hn e q
  exact ⟨l0, xs0, i, kk, y, h1, h2, h3, h4, h5, h6, h7, h8⟩
theorem fe_append (c : Ct K mg k W X) (i : Nat) {fi : Fe} (ho : VE K mg W X a (tVar i) fi) (he : FE K mg W X e te fe) (hbase : attributeBase a "append" X.env (eval a X.env) = eval a X.env := by rfl)
    (hfew : ((backTo cpos (starEach [e] X.env)).all (fun x => !x.1) && (backToKw cpos (keywordEach [] X.env)).all (fun x => x.1.isSome) && decide (([e] : List Expr).length + ([] : List Keyword).length + (if ([] : List Keyword).isEmpty then 0 else 1) < 30)) = true := by rfl)
    (hline : (apos.endLine == cpos.line) = true := by rfl) (hs : starEach [e] X.env = (false, eval e X.env) :: starEach [] X.env := by rfl) (hplain : (backTo cpos (starEach [] X.env)).any (·.1) = false := by rfl) :
    FE K mg W X (.Call (.Attribute a "append" apos) [e] [] cpos) (tBM K "list" rAppend (tVar i) (tCons te tNil)) (fML1 gAppend i fe) := ⟨by
      have := pe_bm (apos := apos) (cpos := cpos) PySem.F.plainAttrs_list PySem.F.slot_list_append PySem.F.type_list_append mt_append ho.pe (pa_cons he.pe pa_nil hs) hbase hfew hline hs hplain
      rw [c.hK] at this
      exact this, fn_ml1 mlAppend i he.fn⟩
theorem fe_popAt (c : Ct K mg k W X) (i : Nat) {fi : Fe} (ho : VE K mg W X a (tVar i) fi) (he : FE K mg W X e te fe) (hbase : attributeBase a "pop" X.env (eval a X.env) = eval a X.env := by rfl)
    (hfew : ((backTo cpos (starEach [e] X.env)).all (fun x => !x.1) && (backToKw cpos (keywordEach [] X.env)).all (fun x => x.1.isSome) && decide (([e] : List Expr).length + ([] : List Keyword).length + (if ([] : List Keyword).isEmpty then 0 else 1) < 30)) = true := by rfl)
    (hline : (apos.endLine == cpos.line) = true := by rfl) (hs : starEach [e] X.env = (false, eval e X.env) :: starEach [] X.env := by rfl) (hplain : (backTo cpos (starEach [] X.env)).any (·.1) = false := by rfl) :
    FE K mg W X (.Call (.Attribute a "pop" apos) [e] [] cpos) (tBM K "list" rPopAt (tVar i) (tCons te tNil)) (fML1 gPopA i fe) := ⟨by
      have := pe_bm (apos := apos) (cpos := cpos) PySem.F.plainAttrs_list PySem.F.slot_list_pop PySem.F.type_list_pop mt_popAt ho.pe (pa_cons he.pe pa_nil hs) hbase hfew hline hs hplain
      rw [c.hK] at this
      exact this, fn_ml1 mlPopA i he.fn⟩
def rSetA : V → V → V → Hp → (Hp → Prop) → Prop := fun o i v H Q => rSetL o i v H Q ∨ ∃ a H', o = .ref a ∧ DPut H a i v H' ∧ Q H'
theorem set_any (hu : X.A.units + 1 < cLine) : PSet X rSetA := fun pins s σ H o i v ov iv u Q I r1 r2 r3 h => by
  rcases h with h | ⟨a, H', rfl, g, q⟩
  · exact set_list pins s σ H o i v ov iv u Q I r1 r2 r3 h
  · cases (show ov = Value.ref a from r1)
    exact d_setItem hu I g r2 r3 fun s4 I4 => ⟨H', I4, q⟩
def gSet : D → D → D → Option D
  | .lst .ow ds, .int j, d => match ixN ds.length j with
    | some n => some (.lst .ow (ds.set n d))
    | none => none
  | .dK .ow kvs, kd, d => match toKey kd with
    | some kk => if kvs.length < sizeLine then some (.dK .ow (putD kvs kk d)) else none
    | none => none
  | .dT .ow kvs, .tup ks, d => match toKeys ks with
    | some kk => if kvs.length < sizeLine then some (.dT .ow (putD kvs kk d)) else none
    | none => none
  | _, _, _ => none
theorem own_dK {v : V} {ds : List (Key × D)} {f : List Addr} (r : Rp K mg Z H v (.dK .ow ds) f) : ∃ a vs, v = .ref a ∧ f = [a] ∧ H a = some (.dK vs) ∧ Z a = none ∧ vs.map (·.1) = ds.map (·.1) ∧ RpL K mg Z H (vs.map (·.2)) (ds.map (·.2)) := by
  obtain ⟨a, vs, rfl, h, e, l⟩ := r.dK_inv
  obtain ⟨h1, h2, rfl⟩ := h
  exact ⟨a, vs, rfl, rfl, h1, h2, e, l⟩
theorem own_dT {v : V} {ds : List (List Key × D)} {f : List Addr} (r : Rp K mg Z H v (.dT .ow ds) f) : ∃ a vs, v = .ref a ∧ f = [a] ∧ H a = some (.dT vs) ∧ Z a = none ∧ vs.map (·.1) = ds.map (·.1) ∧ RpL K mg Z H (vs.map (·.2)) (ds.map (·.2)) := by
  obtain ⟨a, vs, rfl, h, e, l⟩ := r.dT_inv
  obtain ⟨h1, h2, rfl⟩ := h
  exact ⟨a, vs, rfl, rfl, h1, h2, e, l⟩
theorem len_of_keys {κ α β : Type} {xs : List (κ × α)} {ys : List (κ × β)} (e : xs.map (·.1) = ys.map (·.1)) : xs.length = ys.length := by
  have := congrArg List.length e
  simpa using this
theorem set_fin {σ : Sg} {S : SS} {gg : List Addr} {i : Nat} {o iv yv : V} {dc di d d' : D} {f2 : List Addr} {Q : Hp → Prop} (sim : Sim K mg Z H σ S gg) (hs : slot S i = some dc) (hv : σ[i]? = some (some o)) (r2 : Rp K mg Z H iv di f2) (ry : Rp K mg Z H yv d []) (e : gSet dc di d = some d')
    (q : ∀ H' g', Sim K mg Z H' σ (S.set i (some d')) g' → Fr Z H gg Z H' g' → Q H') : rSetA o iv yv H Q := by
  obtain ⟨v0, f0, e0, r0, _⟩ := sim.r.get (slot_some hs)
  rw [hv] at e0; cases e0
  unfold gSet at e
  split at e
  · split at e
    · rename_i n hn
      cases e
      obtain ⟨a, vs, rfl, rfl, h1, z1, l1⟩ := own_at r0
      obtain ⟨rfl, _⟩ := r2.int_inv
      obtain ⟨g', s', fr'⟩ := sim_mut sim hs hv r0 (u' := .lst (vs.set n yv)) (d' := .lst .ow (_ : List D)) (.lst ⟨upd_same, z1, rfl⟩ ((l1.set ry n).mono (Same.refl _)))
      exact .inl ⟨a, vs, _, n, rfl, rfl, h1, by rw [l1.length]; exact hn, q _ g' s' fr'⟩
    · cases e
  · split at e
    · rename_i kk hk
      split at e
      · rename_i hl
        cases e
        obtain ⟨a, vs, rfl, rfl, h1, z1, e1, l1⟩ := own_dK r0
        cases r2.key hk
        obtain ⟨p1, p2⟩ := putD_rel ry kk e1 l1
        obtain ⟨g', s', fr'⟩ := sim_mut sim hs hv r0 (u' := .dK (putK vs kk yv)) (d' := .dK .ow (_ : List (Key × D))) (.dK ⟨upd_same, z1, rfl⟩ p1 (p2.mono (Same.refl _)))
        exact .inr ⟨a, _, rfl, DPut.k h1 (by rw [len_of_keys e1]; exact hl), q _ g' s' fr'⟩
      · cases e
    · cases e
  · split at e
    · rename_i kk hk
      split at e
      · rename_i hl
        cases e
        obtain ⟨a, vs, rfl, rfl, h1, z1, e1, l1⟩ := own_dT r0
        obtain ⟨b, ws, rfl, h2, _, l2⟩ := r2.tup_inv
        cases l2.keys hk
        obtain ⟨p1, p2⟩ := putD_rel ry kk e1 l1
        obtain ⟨g', s', fr'⟩ := sim_mut sim hs hv r0 (u' := .dT (putK vs kk yv)) (d' := .dT .ow (_ : List (List Key × D))) (.dT ⟨upd_same, z1, rfl⟩ p1 (p2.mono (Same.refl _)))
        exact .inr ⟨a, _, rfl, DPut.t h1 (sim.s _ _ h2) (by rw [len_of_keys e1]; exact hl), q _ g' s' fr'⟩
      · cases e
    · cases e
  · cases e
def fSetIx (i : Nat) (fv fi : Fe) : Fst := fun S => (fv S).bind fun d S1 => if (slot S1 i).isSome then (fi S1).bind fun kd S2 => match slot S2 i with
    | some c => match gSet c kd (frz d) with
      | some c' => .ok .nx (S2.set i (some c'))
      | none => .stk
    | none => .stk
  else .stk
theorem fn_setIx (i : Nat) {tv ti : TE} {fv fi : Fe} (h1 : Fn K mg W tv fv) (h2 : Fn K mg W ti fi) : Fs K mg W pn (tAsg tv (gSub (tVar i) ti rSetA)) (fSetIx i fv fi) := fun Z H σ S g E sim p => by
  refine h1 Z H σ S g _ sim ?_
  unfold fSetIx at p
  rw [Rs.bind_post] at p
  refine Rs.post_mono p (fun d S1 p1 yv Z1 H1 f1 g1 r1 s1 dj1 fr1 => ?_) fun _ _ q => ExS.exe q
  split at p1
  case isFalse => exact p1.elim
  rename_i hi
  obtain ⟨d0, h0⟩ := Option.isSome_iff_exists.mp hi
  obtain ⟨o, fo, eo, ro, _⟩ := s1.r.get (slot_some h0)
  refine ⟨o, eo, ?_⟩
  obtain ⟨Z2, z2, zh2, n2, ry⟩ := r1.freeze s1.s
  have s2 := freeze_sim s1 z2 zh2 n2 dj1
  have fr2 := fr1.trans (freeze_fr (H := H1) (g := g1) z2 n2)
  rw [Rs.bind_post] at p1
  refine h2 Z2 H1 σ S1 g1 _ s2 (Rs.post_mono p1 (fun kd S3 p3 iv Z3 H3 f3 g3 r3 s3 dj3 fr3 => ?_) fun _ _ q => ExE.from (ExS.exe q) fr2)
  split at p3
  · rename_i cc hc
    split at p3
    · rename_i c' hg
      have fr3' : Fr Z H g Z3 H3 g3 := (fr2.trans fr3).sub fun c m => by simp [m]
      exact set_fin s3 hc eo r3 (ry.mono fr3.z (by simp) (by simp)) hg fun H' g' s' fr' => p3 σ Z3 H' g' s' (fr3'.trans fr') (.refl _)
    · exact p3.elim
  · exact p3.elim
theorem fs_setIx (c : Ct K mg k W X) (i : Nat) {ov : Expr} {iv value : Expr} {fo : Fe} {tv ti : TE} {fv fi : Fe} {posT pos : Pos} (hv : FE K mg W X value tv fv) (ho : VE K mg W X ov (tVar i) fo) (hi : FE K mg W X iv ti fi)
    (ha : ∀ v, assign (.Subscript ov iv posT) X.env v = (do
      let ov' ← holding [v] (eval ov X.env)
      let iv' ← holding [v, ov'] (eval iv X.env)
      standAt posT
      holding [v, ov', iv'] (setItem ov' iv' v)
      release [v, ov', iv'] []) := by intro _; rfl)
    (hs : swapsWithSole [.Subscript ov iv posT] value pos.line X.env = pure false := by rfl) (hw : swappedStores [.Subscript ov iv posT] value X.env = pure none := by rfl)
    (h1 : (assignEach [.Subscript ov iv posT] X.env).map (·.2) = [assign (.Subscript ov iv posT) X.env] := by rfl) : FS1 K mg W pn X (.Assign [.Subscript ov iv posT] value pos) (tAsg tv (gSub (tVar i) ti rSetA)) (fSetIx i fv fi) :=
  ⟨ps_asg hv.pe (pg_sub ho.pe hi.pe (set_any (by have := c.hu; omega)) ha) hs hw h1, fn_setIx i hv.fn hi.fn⟩
abbrev Fo := SS → Rs (Option Int)
def FnO (K : PySem.W.Frag) (mg : Str → Option Value) (W : WX) (t : TO) (f : Fo) : Prop :=
  ∀ Z H σ S g Q, Sim K mg Z H σ S g → (f S).post (fun o S' => ∀ Z' H' g', Sim K mg Z' H' σ S' g' → Fr Z H g Z' H' g' → Q o H') (ExE K mg W Z H σ g) → t σ H Q
structure FO (K : PySem.W.Frag) (mg : Str → Option Value) (W : WX) (X : Cx) (e : Option Expr) (t : TO) (f : Fo) : Prop where
  po : PO X e t
  fn : FnO K mg W t f
def foNone : Fo := fun S => .ok none S
def foSome (fe : Fe) : Fo := fun S => (fe S).bind fun d S1 => match d with
  | .int i => .ok (some i) S1
  | _ => .stk
theorem fo_none : FO K mg W X none tNoPart foNone := ⟨po_none, fun Z H σ S g Q sim p => p Z H g sim (Fr.refl _ _ _)⟩
theorem fo_some (h : FE K mg W X e te fe) : FO K mg W X (some e) (tPart te) (foSome fe) := ⟨po_some h.pe, fun Z H σ S g Q sim p => by
  refine h.fn Z H σ S g _ sim ?_
  unfold foSome at p
  rw [Rs.bind_post] at p
  refine Rs.post_mono p (fun d S1 p1 v Z1 H1 f1 g1 r1 s1 dj1 fr1 => ?_) fun _ _ q => q
  split at p1
  · obtain ⟨rfl, _⟩ := r1.int_inv
    exact ⟨_, rfl, p1 Z1 H1 g1 s1 (fr1.sub fun c m => by simp [m])⟩
  · exact p1.elim⟩
def cutD (xs : List D) (lo hi : Option Int) : List D := (xs.drop (HT.sIx xs.length 0 lo)).take (HT.sIx xs.length xs.length hi - HT.sIx xs.length 0 lo)
theorem cut_rel {vs : List V} {ds : List D} (l : RpL K mg Z H vs ds) (lo hi : Option Int) : RpL K mg Z H (cutV vs lo hi) (cutD ds lo hi) := by
  unfold cutV cutD
  rw [l.length]
  exact (l.drop _).take _
def gSl : D → Option Int → Option Int → Option D
  | .lst _ ds, lo, hi => some (.lst .ow (cutD ds lo hi))
  | .tup ds, lo, hi => some (.tup (cutD ds lo hi))
  | .str z, lo, hi => if z.length ≤ sizeLine then some (.str (cutS z lo hi)) else none
  | _, _, _ => none
def rSlX (K : PySem.W.Frag) : V → Option Int → Option Int → Hp → VK → Prop := fun x lo hi H Q => rSlL K x lo hi H Q ∨ (rSlA K x lo hi H Q ∨ rSlS x lo hi H Q)
theorem sl_any (hK : X.K = K) : SlR X (rSlX K) := by
  subst hK
  exact sl_list.or (sl_tupA.or sl_str)
theorem opSl (hs : Same Z H) {x : V} {dx d : D} {f : List Addr} {lo hi : Option Int} {Q : VK} (r : Rp K mg Z H x dx f) (e : gSl dx lo hi = some d) (q : ∀ v Z' H' f', Rp K mg Z' H' v d f' → Ext Z H Z' H' f' → Q v H') : rSlX K x lo hi H Q := by
  unfold gSl at e
  split at e
  · obtain ⟨a, vs, rfl, h1, l1⟩ := r.lst_inv
    cases e
    exact .inl ⟨a, vs, rfl, h1.seq hs, fun p hp => q _ Z _ [p] (Rp.newO hs hp (cut_rel l1 lo hi)) (Ext.newO hs hp)⟩
  · obtain ⟨a, vs, rfl, h1, rfl, l1⟩ := r.tup_inv
    cases e
    refine .inr (.inl ⟨a, vs, rfl, .of (hs _ _ h1), fun hw => ?_, fun _ p hp => q _ _ _ [] (Rp.newT hs hp (cut_rel l1 lo hi)) (Ext.newF hs hp)⟩)
    refine q _ Z H [] ?_ (.refl hs)
    rw [l1.length] at hw
    unfold cutD
    rw [hw.1, hw.2]
    simpa using r
  · obtain ⟨rfl, _⟩ := r.str_inv
    split at e
    · cases e
      exact .inr (.inr ⟨_, rfl, ‹_›, q _ Z H [] (.str _) (.refl hs)⟩)
    · cases e
  · cases e
def fSlN (i : Nat) (fl fh : Fo) : Fe := fun S => if (slot S i).isSome then (fl S).bind fun lo S1 => (fh S1).bind fun hi S2 => match slot S2 i with
    | some d => Rs.ofO (gSl d lo hi) S2
    | none => .stk
  else .stk
def fSl (fe : Fe) (fl fh : Fo) : Fe := fun S => (fe S).bind fun d S0 => (fl S0).bind fun lo S1 => (fh S1).bind fun hi S2 => Rs.ofO (gSl d lo hi) S2
theorem fn_slN (i : Nat) {tl th : TO} {fl fh : Fo} (hl : FnO K mg W tl fl) (hh : FnO K mg W th fh) : Fn K mg W (tSl (rSlX K) (tVar i) tl th) (fSlN i fl fh) := fun Z H σ S g Q sim p => by
  unfold fSlN at p
  split at p
  case isFalse => exact p.elim
  rename_i hi
  obtain ⟨d0, h0⟩ := Option.isSome_iff_exists.mp hi
  obtain ⟨v, f, e1, r1, _⟩ := sim.r.get (slot_some h0)
  refine ⟨v, e1, hl Z H σ S g _ sim ?_⟩
  rw [Rs.bind_post] at p
  refine Rs.post_mono p (fun lo S1 p1 Z1 H1 g1 s1 fr1 => ?_) fun _ _ q => q
  rw [Rs.bind_post] at p1
  refine hh Z1 H1 σ S1 g1 _ s1 (Rs.post_mono p1 (fun hi S2 p2 Z2 H2 g2 s2 fr2 => ?_) fun _ _ q => q.from fr1)
  split at p2
  · rename_i d hd
    obtain ⟨v', f', e2, r2, _⟩ := s2.r.get (slot_some hd)
    rw [e1] at e2; cases e2
    cases e : gSl d lo hi with
    | none => rw [e] at p2; exact p2.elim
    | some d' =>
      rw [e] at p2
      exact opSl s2.s r2 e fun v Z3 H3 f3 r3 ex => p2 v Z3 H3 f3 g2 r3 (ex.sim s2) (ex.dj s2) ((fr1.trans fr2).trans ex.fr)
  · exact p2.elim
theorem fn_sl {tl th : TO} {fl fh : Fo} (he : Fn K mg W te fe) (hl : FnO K mg W tl fl) (hh : FnO K mg W th fh) : Fn K mg W (tSl (rSlX K) te tl th) (fSl fe fl fh) := fun Z H σ S g Q sim p => by
  refine he Z H σ S g _ sim ?_
  unfold fSl at p
  rw [Rs.bind_post] at p
  refine Rs.post_mono p (fun d S0 p0 v Z0 H0 f0 g0 r0 s0 dj0 fr0 => ?_) fun _ _ q => q
  rw [Rs.bind_post] at p0
  have fr0' : Fr Z H g Z0 H0 g0 := fr0.sub fun c m => by simp [m]
  refine hl Z0 H0 σ S0 g0 _ s0 (Rs.post_mono p0 (fun lo S1 p1 Z1 H1 g1 s1 fr1 => ?_) fun _ _ q => q.from fr0')
  rw [Rs.bind_post] at p1
  refine hh Z1 H1 σ S1 g1 _ s1 (Rs.post_mono p1 (fun hi S2 p2 Z2 H2 g2 s2 fr2 => ?_) fun _ _ q => q.from (fr0'.trans fr1))
  have r2 : Rp K mg Z2 H2 v d f0 := (r0.stay fr1 dj0).stay fr2 (r0.apart fr1 dj0)
  cases e : gSl d lo hi with
  | none => rw [e] at p2; exact p2.elim
  | some d' =>
    rw [e] at p2
    exact opSl s2.s r2 e fun v Z3 H3 f3 r3 ex => p2 v Z3 H3 f3 g2 r3 (ex.sim s2) (ex.dj s2) (((fr0'.trans fr1).trans fr2).trans ex.fr)
theorem fe_slN (c : Ct K mg k W X) (i : Nat) {fi : Fe} {lo hi : Option Expr} {tl th : TO} {fl fh : Fo} {p2 : Pos} (ha : VE K mg W X a (tVar i) fi) (hl : FO K mg W X lo tl fl) (hh : FO K mg W X hi th fh) : FE K mg W X (.Subscript a (.Slice lo hi none p2) pos) (tSl (rSlX K) (tVar i) tl th) (fSlN i fl fh) :=
  ⟨pe_slice (sl_any c.hK) ha.pe hl.po hh.po, fn_slN i hl.fn hh.fn⟩
theorem fe_sl (c : Ct K mg k W X) {lo hi : Option Expr} {tl th : TO} {fl fh : Fo} {p2 : Pos} (ha : FE K mg W X a ta fa) (hl : FO K mg W X lo tl fl) (hh : FO K mg W X hi th fh) : FE K mg W X (.Subscript a (.Slice lo hi none p2) pos) (tSl (rSlX K) ta tl th) (fSl fa fl fh) :=
  ⟨pe_slice (sl_any c.hK) ha.pe hl.po hh.po, fn_sl ha.fn hl.fn hh.fn⟩
def gRev : D → Option D
  | .lst _ ds => some (.lst .ow ds.reverse)
  | .tup ds => some (.tup ds.reverse)
  | _ => none
end
end
end T3
set_option Elab.async false
set_option linter.all false
set_option maxRecDepth 100000
set_option maxHeartbeats 4000000
namespace T3
open PySem PySem.Spec PyProof.Rows L2
set_option maxHeartbeats 1000000 in
theorem meets_enumerate_newT {v : Value} {o : Obj} {H : Heap → Prop} (B : Begins v o H) :
    Meets (Builtin.«enumerate.__new__» ⟨[.type "enumerate", v], []⟩) (fun _ R s => H s.heap ∧
      R (.ok (.ret (.ref (s.heap.push o).objs.size))) { s with heap := (s.heap.push o).push { cls := .type "enumerate", data := .fields #[.none, .bool false, .ref s.heap.objs.size, rawInt 0, .none, .none] } }) :=
  .of_wp fun prog w A R s h => by
    obtain ⟨hp, g, d, tk, os⟩ := s; obtain ⟨h1, h⟩ := h
    have hsub := sub_enumerate
    have q1 : ∀ {A' : Around} {E : Value → Shared → Prop} {Q : Value → Shared → Prop}, Q (.ref hp.objs.size) ⟨hp.push o, g, d, tk, os⟩ → wpAny (model prog w) A' (pyIter v) Q E ⟨hp, g, d, tk, os⟩ :=
      fun q => B.iter prog w _ _ ⟨hp, g, d, tk, os⟩ _ h1 q
    wp_walk using q1
    refine wpAny_stack_any fun st => wpAny_pure ?_
    split
    · rename_i c _ _ _ _ _
      cases (c == Value.type "enumerate")
      · wp_walk using q1
        exact ⟨_, rfl, h⟩
      · wp_walk using q1
        exact ⟨_, rfl, h⟩
    · wp_walk using q1
      exact ⟨_, rfl, h⟩
theorem call_enumerate_tuple {prog : Program} {w : World} {A : Around} {E : Value → Shared → Prop} {s : Shared} {l : Addr} {items : Array Value} {Q : Value → Shared → Prop} (hL : s.heap.IsTuple l items)
    (h : ∀ h', IsEnum h' (s.heap.objs.size + 1) s.heap.objs.size 0 .none → h'.IsTupleIter s.heap.objs.size l 0 → h'.objs.size = s.heap.objs.size + 2 →
      (∀ b o, s.heap.get? b = some o → h'.get? b = some o) → Q (.ref (s.heap.objs.size + 1)) { s with heap := h' }) :
    wpAny (model prog w) A (call (.type "enumerate") [.ref l]) Q E s := by
  refine callType_new F.called_enumerate (by decide) (F.typeCall_enumerate_1 _) (F.newCall_enumerate_1 _) (fun obj => F.args_object_init_2 obj _) F.entry_enumerate_new
    (meets_enumerate_newT (begins_tuple l items)) ⟨hL, ?_⟩
  have hz : (s.heap.push { cls := .type "tuple_iterator", data := .fields #[.ref l, .int 0 0] }).objs.size = s.heap.objs.size + 1 := Heap.size_push ..
  show _ ∧ _
  rw [hz]
  have he : IsEnum ((s.heap.push { cls := .type "tuple_iterator", data := .fields #[.ref l, .int 0 0] }).push
      { cls := .type "enumerate", data := .fields #[.none, .bool false, .ref s.heap.objs.size, rawInt 0, .none, .none] }) (s.heap.objs.size + 1) s.heap.objs.size 0 .none := by
    have := Heap.get?_push_size (s.heap.push { cls := .type "tuple_iterator", data := .fields #[.ref l, .int 0 0] })
      (o := { cls := .type "enumerate", data := .fields #[.none, .bool false, .ref s.heap.objs.size, rawInt 0, .none, .none] }) rfl
    rw [hz] at this; exact this
  refine ⟨⟨_, he, rfl⟩, h _ he ⟨_, Heap.get?_push_of_some _ (Heap.get?_push_size _ rfl), rfl, rfl⟩ (by rw [Heap.size_push, hz]) fun b o x => Heap.get?_push_of_some _ (Heap.get?_push_of_some _ x)⟩
def IteT (K : PySem.W.Frag) (a : Addr) : It :=
  ⟨fun i H => ∃ (xs : List V) (x : V), SqT K H a xs ∧ xs[i]? = some x, fun i H v H' => ∃ T x, v = .ref T ∧ H T = none ∧ H' = upd H T (.tup [.int (i : Nat), x]) ∧ ∀ xs, SqT K H a xs → xs[i]? = some x, fun i H => ∃ xs : List V, SqT K H a xs ∧ xs.length ≤ i⟩
theorem turn_enumT {P : Program} {w : World} {K : PySem.W.Frag} {elts : List Expr} {kk : Nat} {tpos : Pos} (a e it : Addr) :
    Turn P w K (.Tuple elts kk tpos) (IteT K a) [e, it] e (fun i h => (∃ old, IsEnum h e it ((i : Nat) : Int) old) ∧ h.IsTupleIter it a i ∧ e ≠ it) where
  mem := by simp
  obj := fun i h st b hb => by
    obtain ⟨⟨old, he⟩, ⟨o, ho, hc, hd⟩, _⟩ := st
    have e' : b = e ∨ b = it := by simpa using hb
    rcases e' with z | z
    · rw [z]; exact ⟨_, he, fun v q => nomatch q⟩
    · rw [z]; exact ⟨o, ho, fun v q => by rw [hd] at q; cases q⟩
  keep := fun i h h' st k => let ⟨⟨old, he⟩, hi, hne⟩ := st; ⟨⟨old, k e (by simp) _ he⟩, hi.at fun o q => k it (by simp) o q, hne⟩
  item := by
    intro X hP hw hK hc i pins s σ H E I hf st hg
    subst hP hw hK
    obtain ⟨⟨old, he⟩, hit, hne⟩ := st
    obtain ⟨xs, x, hq, hx⟩ := hg
    obtain ⟨its, rv, p, hz⟩ := I.tuple hq
    have p' : s.heap.IsTuple a its.toArray := p
    obtain ⟨u, hu, ru⟩ := rv.get hx
    have hel : e < s.heap.objs.size := Heap.lt_size he
    have hil : it < s.heap.objs.size := by obtain ⟨_, q, _⟩ := hit; exact Heap.lt_size q
    have hal : a ≠ it := fun z => by
      subst z
      obtain ⟨o1, q1, c1, _⟩ := p'
      obtain ⟨o2, q2, c2, _⟩ := hit
      rw [q1] at q2; cases q2
      rw [c1] at c2
      injection c2 with c2
      exact absurd c2 (by decide)
    have hea : e ≠ a := fun z => by
      subst z
      obtain ⟨o1, q1, c1, _⟩ := p'
      have q2 : s.heap.get? e = _ := he
      rw [q1] at q2; cases q2
      injection c1 with c1
      exact absurd c1 (by decide)
    have hil2 : i < its.toArray.size := by
      have := (List.getElem?_eq_some_iff.mp hu).1
      simpa using this
    refine wpAny_pyNext_enum_itemD (Draws.tuple (A := X.A.in1) (I.ok.hd hc) it a hal its.toArray) he ⟨hit, p'⟩ hil2 hne (by simp [hne, hea]) fun u' h' tk hu' ho hst' hT hsz hk => ?_
    have eu : u' = u := by
      have h1 : its.toArray[i]? = some u := by simpa using hu
      have h2 : its.toArray[i]? = some u' := hu'
      rw [h1] at h2; cases h2; rfl
    subst eu
    refine ⟨_, rfl, wpAny_letOwnedTupleGo_enum (s := { s with heap := h', toks := tk + 1 }) ho fun h'' he' sb => ?_⟩
    have hT2 : h''.get? s.heap.objs.size = some { cls := .type "tuple", data := .seq #[.int i tk, u'] } := (sb.2 _ (Nat.ne_of_gt hel)).trans hT
    have new : ObjOk X.prog X.w (upd H s.heap.objs.size (.tup [.int (i : Nat), x])) h'' s.heap.objs.size (.tup [.int (i : Nat), x]) :=
      ⟨by show 2 ≤ sizeLine; decide, [.int i tk, u'], .cons ⟨_, rfl⟩ (.cons ru .nil), ⟨_, hT2, rfl, _, rfl⟩⟩
    have I1 : Inv X pins σ (upd H s.heap.objs.size (.tup [.int (i : Nat), x])) { s with heap := h'', toks := tk + 1 } :=
      I.turnedNew (ch := [e, it]) (fun b ob hb q => (sb.2 b (fun z => hb (by simp [z]))).trans (hk b ob (fun z => hb (by simp [z])) (fun z => hb (by simp [z])) q)) hf (Nat.le_refl _) new
    refine ⟨.ref s.heap.objs.size, _, I1, rfl, ⟨_, x, rfl, I.hok.fresh (Nat.le_refl _), rfl, fun ys hy => by rw [I.tuple_inj hy hq]; exact hx⟩, ⟨⟨u', ?_⟩, hst'.1.at fun o q => (sb.2 it (Ne.symm hne)).trans q, hne⟩, fun b hb => ?_⟩
    · have e1 : ((i + 1 : Nat) : Int) = (i : Int) + 1 := by omega
      rw [e1]; exact he'
    · have hb' : b < s.heap.objs.size := by
        have e' : b = e ∨ b = it := by simpa using hb
        rcases e' with z | z
        · rw [z]; exact hel
        · rw [z]; exact hil
      rw [upd_ne (Nat.ne_of_lt hb')]
      exact (hf b hb).1
  done := by
    intro X hP hw hK hc i pins s σ H E I hf st hg
    subst hP hw hK
    obtain ⟨⟨old, he⟩, hit, hne⟩ := st
    obtain ⟨xs, hq, hx⟩ := hg
    obtain ⟨its, rv, p, hz⟩ := I.tuple hq
    have p' : s.heap.IsTuple a its.toArray := p
    obtain ⟨f0, f1, f2, f3, f4, f5⟩ := hf it (by simp)
    have hl := rv.length
    have hT : s.TypeIs (.ref e) "enumerate" := ⟨_, he, rfl⟩
    have key : ∀ {Q : Option Value → Shared → Prop}, (∀ h', Heap.ExtBut it s.heap h' → Q none { s with heap := h' }) → wpAny (model X.prog X.w) X.A (pyNext (.ref e)) Q E s := by
      intro Q hQ
      unfold pyNext
      refine wpAny_bind (wpAny_attempt (wpAny_callSpecial?_slot (name := Str.ofString "__next__") hT F.slot_enumerate_next
        (wpAny_call_entry F.slot_enumerate_next hT F.entry_enumerate_next ?_ (F.args_enumerate_next_1 _))))
      show wpAny _ _ (field (.ref e) 2 >>= _) _ _ _
      refine wpAny_bind (wpAny_field he rfl (x := .ref it) rfl ?_)
      refine wpAny_bind (wpAny_nextOf_tuple_end (I.ok.hd hc) hit p' (by simp; omega) fun h' x he' hx' => ?_)
      obtain ⟨o, ho, hc⟩ := hx'
      refine wpAny_bind (wpAny_isInstance (T := "StopIteration") (b := true) ⟨o, ho, hc⟩ isSubtype_stop ?_)
      exact wpAny_pure (hQ _ he')
    exact key fun h' eb => ⟨rfl, I.turned (t' := s.toks) (fun b o hb q => eb b o hb q) f0 f1 f3 f4 f5⟩
  self := fun A i s Q E st h => let ⟨⟨_, he⟩, _⟩ := st; wpAny_pyIter_enum he h
def iEnumA (K : PySem.W.Frag) (ta : TA) : TI := fun σ H R => ta σ H fun vs H1 => (∃ a xs, vs = [.ref a] ∧ SqL K H1 a xs ∧ R (Ite K a) H1) ∨ ∃ a xs, vs = [.ref a] ∧ SqT K H1 a xs ∧ R (IteT K a) H1
theorem pi_enumA {X : Cx} {e : Expr} {ta : TA} {p pos tpos : Pos} {elts : List Expr} {kk : Nat} (hg : Gl X "enumerate") (hm : X.mg "enumerate" = none) (ha : PA X [e] ta) (hs : starEach [e] X.env = [(false, eval e X.env)] := by rfl) :
    PI X (.Tuple elts kk tpos) (.Call (.Name "enumerate" p) [e] [] pos) (iEnumA X.K ta) := by
  refine ⟨fun pins s σ H R I h => ?_⟩
  refine Call_ (ld_blt I hg hm boot_enumerate (PyProof.Rows.callWith_type1 (thn (ha.run pos pins s σ H _ I h) fun us s1 ⟨vs, H1, I1, r1, q1⟩ => ?_) hs rfl))
  have fin : ∀ {b : Addr}, (b ∈ [s1.heap.objs.size + 1, s1.heap.objs.size]) → s1.heap.objs.size ≤ b := fun {b} hb => by
    have e' : b = s1.heap.objs.size + 1 ∨ b = s1.heap.objs.size := by simpa using hb
    rcases e' with rfl | rfl <;> omega
  rcases q1 with ⟨a, xs, ex, hq, q⟩ | ⟨a, xs, ex, hq, q⟩
  · subst ex
    cases r1 with
    | cons r rr =>
      cases rr
      cases r
      obtain ⟨its, rv, p', hz⟩ := I1.list hq
      refine call_enumerate_list p'.isList fun h' he hit hsz hk => wpAny_pyIter_enum he ?_
      have I2 : Inv X pins σ H1 { s1 with heap := h' } := I1.kept (t' := s1.toks) hk
      refine ⟨s1.heap.objs.size + 1, [s1.heap.objs.size + 1, s1.heap.objs.size], _, _, H1, rfl, I2, turn_enum a (s1.heap.objs.size + 1) s1.heap.objs.size, ⟨⟨.none, he⟩, hit, Nat.succ_ne_self _⟩, fun b hb => ?_, q⟩
      exact I1.fpOk (fin hb) (I1.hok.fresh (fin hb))
  · subst ex
    cases r1 with
    | cons r rr =>
      cases rr
      cases r
      obtain ⟨its, rv, p', hz⟩ := I1.tuple hq
      refine call_enumerate_tuple (show s1.heap.IsTuple a its.toArray from p') fun h' he hit hsz hk => wpAny_pyIter_enum he ?_
      have I2 : Inv X pins σ H1 { s1 with heap := h' } := I1.kept (t' := s1.toks) hk
      refine ⟨s1.heap.objs.size + 1, [s1.heap.objs.size + 1, s1.heap.objs.size], _, _, H1, rfl, I2, turn_enumT a (s1.heap.objs.size + 1) s1.heap.objs.size, ⟨⟨.none, he⟩, hit, Nat.succ_ne_self _⟩, fun b hb => ?_, q⟩
      exact I1.fpOk (fin hb) (I1.hok.fresh (fin hb))
section
variable {P : Program} {w : World} {K : PySem.W.Frag} {mg : Str → Option Value} {base : Heap} {Z H Z' H' : Hp}
section
variable {k : Nat} {W : WX} {pn : Nat → Bool} {X : Cx} {e a b : Expr} {es : List Expr} {t ta tb te : TE} {tr : TA} {fe fa fb : Fe} {fr : Fa} {pos p apos cpos : Pos}
def gMul : D → D → Option D
  | .int i, .int j => if MulOk i j then some (.int (i * j)) else none
  | .lst .fz xs, .int j => if 0 ≤ j ∧ j < 2 ^ 24 ∧ xs.length * j.toNat ≤ sizeLine then some (.lst .ow (List.replicate j.toNat xs).flatten) else none
  | .lst .ow xs, .int j => if 0 ≤ j ∧ j < 2 ^ 24 ∧ xs.length * j.toNat ≤ sizeLine then some (.lst .ow (List.replicate j.toNat xs).flatten) else none
  | .tup xs, .int j => if (xs.isEmpty = false ∧ 2 ≤ j) ∧ j ≤ 1000 ∧ xs.length ≤ 1000 then some (.tup (List.replicate j.toNat xs).flatten) else none
  | _, _ => none
def rMulA (K : PySem.W.Frag) : R2 := fun x y H Q => rI MulOk (fun i j => .int (i * j)) x y H Q ∨ (rRep x y H Q ∨ rRepT K x y H Q)
theorem c_mul (c : Ct K mg k W X) : OpR X (binaryOp .Mult) (rMulA K) := by
  obtain ⟨h, _⟩ := c
  subst h
  exact op_mulA.or (op_rep.or op_repT)
theorem RpL.rep {vs : List V} {ds : List D} (l : RpL K mg Z H vs ds) : ∀ n : Nat, RpL K mg Z H (List.replicate n vs).flatten (List.replicate n ds).flatten
  | 0 => .nil
  | n + 1 => by
    simp only [List.replicate_succ, List.flatten_cons]
    exact l.append (l.rep n)
theorem opMul : OpF K mg (rMulA K) gMul := by
  intro Z H x y dx dy f1 f2 d Q hs r1 r2 e q
  have ls : ∀ {o : Tg} {xs : List D} {j : Int}, o ≠ .ex → Rp K mg Z H x (.lst o xs) f1 → Rp K mg Z H y (.int j) f2 → (if 0 ≤ j ∧ j < 2 ^ 24 ∧ xs.length * j.toNat ≤ sizeLine then some (D.lst .ow (List.replicate j.toNat xs).flatten) else none) = some d → rMulA K x y H Q := by
    intro o xs j ho r1 r2 e
    obtain ⟨a, vs, rfl, h1, l1⟩ := r1.lst_inv
    obtain ⟨rfl, _⟩ := r2.int_inv
    split at e
    · rename_i hc
      cases e
      exact .inr <| .inl ⟨a, j, vs, rfl, rfl, h1.get hs ho, by omega, by omega, by rw [l1.length]; exact hc.2.2, fun p hp => q _ Z _ [p] (Rp.newO hs hp (l1.rep _)) (Ext.newO hs hp)⟩
    · cases e
  unfold gMul at e
  split at e
  · obtain ⟨rfl, _⟩ := r1.int_inv
    obtain ⟨rfl, _⟩ := r2.int_inv
    split at e
    · cases e
      exact .inl ⟨_, _, rfl, rfl, ‹_›, q _ Z H [] (.int _) (.refl hs)⟩
    · cases e
  · exact ls (by decide) r1 r2 e
  · exact ls (by decide) r1 r2 e
  · obtain ⟨a, vs, rfl, h1, rfl, l1⟩ := r1.tup_inv
    obtain ⟨rfl, _⟩ := r2.int_inv
    split at e
    · rename_i hc
      cases e
      refine .inr <| .inr ⟨a, _, vs, rfl, rfl, .of (hs _ _ h1), fun z => ?_, hc.1.2, hc.2.1, by rw [l1.length]; exact hc.2.2, fun p hp => q _ _ _ [] (Rp.newT hs hp (l1.rep _)) (Ext.newF hs hp)⟩
      have h0 := hc.1.1
      subst z
      cases l1
      cases h0
    · cases e
  · cases e
def gSub : D → D → Option D := gI fun i j => some (.int (i - j))
def gDiv : D → D → Option D := gI fun i j => if DivOk i j then some (.int (i / j)) else none
def gMod : D → D → Option D := gI fun i j => if 0 < j then some (.int (i % j)) else none
def gPow : D → D → Option D := gI fun i j => if PowW i j then some (.int (i ^ j.toNat)) else none
def gShl : D → D → Option D := gI fun i j => if PowOk i j then some (.int (i * 2 ^ j.toNat)) else none
def gShr : D → D → Option D := gI fun i j => if 0 ≤ j then some (.int (i / 2 ^ j.toNat)) else none
def gAnd : D → D → Option D := gI fun i j => some (.int (Builtin.bitAnd i j))
def gOr : D → D → Option D := gI fun i j => some (.int (Builtin.bitOr i j))
def gLt : D → D → Option D := gI fun i j => some (.bl (decide (i < j)))
def gLe : D → D → Option D := gI fun i j => some (.bl (decide (i ≤ j)))
def gGt : D → D → Option D := gI fun i j => some (.bl (decide (j < i)))
def gGe : D → D → Option D := gI fun i j => some (.bl (decide (j ≤ i)))
theorem opSub : OpF K mg (rI0 fun i j => .int (i - j)) gSub := opI0
theorem opDiv : OpF K mg (rI DivOk fun i j => .int (i / j)) gDiv := opIC
theorem opMod : OpF K mg (rI (fun _ j => 0 < j) fun i j => .int (i % j)) gMod := opIC (C := fun _ j => 0 < j)
theorem opPow : OpF K mg (rI PowW fun i j => .int (i ^ j.toNat)) gPow := opIC
theorem opShl : OpF K mg (rI PowOk fun i j => .int (i * 2 ^ j.toNat)) gShl := opIC
theorem opLt : OpF K mg (rI0 fun i j => .bl (decide (i < j))) gLt := opIB
theorem opGt : OpF K mg (rI0 fun i j => .bl (decide (j < i))) gGt := opIB
theorem c_eq (c : Ct K mg k W X) : OpR X (compareOp .Eq) (rEqD K) := by have h := op_eqD (X := X) (by have := c.hu; omega); rw [c.hK] at h; exact h
theorem c_ne (c : Ct K mg k W X) : OpR X (compareOp .NotEq) (rNeD K) := by have h := op_neD (X := X) (by have := c.hu; omega); rw [c.hK] at h; exact h
theorem c_in (c : Ct K mg k W X) : OpR X (compareOp .In) (rInA K) := op_inA c.hK c.hu
theorem c_ni (c : Ct K mg k W X) : OpR X (compareOp .NotIn) (rNotInA K) := op_notInA c.hK c.hu
theorem c_add (c : Ct K mg k W X) : OpR X (binaryOp .Add) (rAddA K) := op_addA c.hK
def gInB : D → D → Option D := fun a b => (gIn a b).map .bl
def gNiB : D → D → Option D := fun a b => (gIn a b).map fun k => .bl (!k)
theorem opInB : OpF K mg (rInA K) gInB := opIn
theorem opNiB : OpF K mg (rNotInA K) gNiB := opNotIn
def isNonD : D → Bool
  | .non => true
  | _ => false
def gIs : D → D → Option D
  | d, .non => some (.bl (isNonD d))
  | .bl a, .bl b => some (.bl (decide (a = b)))
  | _, _ => none
def gIsNot : D → D → Option D
  | d, .non => some (.bl (!isNonD d))
  | .bl a, .bl b => some (.bl (!decide (a = b)))
  | _, _ => none
def gNeg : D → Option D
  | .int i => some (.int (-i))
  | _ => none
theorem fe_len (c : Ct K mg k W X) (hm : mg "len" = none) (ha : VE K mg W X a ta fa) (hg : Gl X "len" := by rfl) (hs : starEach [a] X.env = (false, eval a X.env) :: starEach [] X.env := by rfl) (hpl : (backTo pos (starEach [] X.env)).any (·.1) = false := by rfl) :
    FE K mg W X (.Call (.Name "len" p) [a] [] pos) (tUn (fun x H Q => rLenA K [x] H Q) ta) (fUn gLen fa) := fe_call1 c (call_lenA c.hK) opLen hm boot_len ha hg (by decide) (by decide) hs hpl
theorem fe_list (c : Ct K mg k W X) (hm : mg "list" = none) (ha : VE K mg W X a ta fa) (hg : Gl X "list" := by rfl) (hs : starEach [a] X.env = (false, eval a X.env) :: starEach [] X.env := by rfl) (hpl : (backTo pos (starEach [] X.env)).any (·.1) = false := by rfl) :
    FE K mg W X (.Call (.Name "list" p) [a] [] pos) (tUn (fun x H Q => rListA K [x] H Q) ta) (fUn gList fa) := fe_callT1 c (call_listA c.hK c.calm) opList hm (by decide +kernel) ha hg (by decide) (by decide) hs hpl
theorem fe_tuple (c : Ct K mg k W X) (hm : mg "tuple" = none) (ha : VE K mg W X a ta fa) (hg : Gl X "tuple" := by rfl) (hs : starEach [a] X.env = (false, eval a X.env) :: starEach [] X.env := by rfl) (hpl : (backTo pos (starEach [] X.env)).any (·.1) = false := by rfl) :
    FE K mg W X (.Call (.Name "tuple" p) [a] [] pos) (tUn (fun x H Q => rTupleA K [x] H Q) ta) (fUn gTuple fa) := fe_callT1 c (call_tupleA c.hK) opTuple hm (by decide +kernel) ha hg (by decide) (by decide) hs hpl
theorem fe_sum (c : Ct K mg k W X) (hm : mg "sum" = none) (ha : VE K mg W X a ta fa) (hg : Gl X "sum" := by rfl) (hs : starEach [a] X.env = (false, eval a X.env) :: starEach [] X.env := by rfl) (hpl : (backTo pos (starEach [] X.env)).any (·.1) = false := by rfl) :
    FE K mg W X (.Call (.Name "sum" p) [a] [] pos) (tUn (fun x H Q => rSumA K [x] H Q) ta) (fUn gSum fa) := fe_call1 c (by have h := cr_sumA (X := X) c.calm; rw [c.hK] at h; exact h) opSum hm (by decide +kernel) ha hg (by decide) (by decide) hs hpl
theorem fe_any (c : Ct K mg k W X) (hm : mg "any" = none) (ha : VE K mg W X a ta fa) (hg : Gl X "any" := by rfl) (hs : starEach [a] X.env = (false, eval a X.env) :: starEach [] X.env := by rfl) (hpl : (backTo pos (starEach [] X.env)).any (·.1) = false := by rfl) :
    FE K mg W X (.Call (.Name "any" p) [a] [] pos) (tUn (fun x H Q => rAny K [x] H Q) ta) (fUn gAny fa) := fe_call1 c (by have h := cr_any (X := X) c.calm; rw [c.hK] at h; exact h) opAny hm (by decide +kernel) ha hg (by decide) (by decide) hs hpl
theorem fe_all (c : Ct K mg k W X) (hm : mg "all" = none) (ha : VE K mg W X a ta fa) (hg : Gl X "all" := by rfl) (hs : starEach [a] X.env = (false, eval a X.env) :: starEach [] X.env := by rfl) (hpl : (backTo pos (starEach [] X.env)).any (·.1) = false := by rfl) :
    FE K mg W X (.Call (.Name "all" p) [a] [] pos) (tUn (fun x H Q => rAll K [x] H Q) ta) (fUn gAll fa) := fe_call1 c (by have h := cr_all (X := X) c.calm; rw [c.hK] at h; exact h) opAll hm (by decide +kernel) ha hg (by decide) (by decide) hs hpl
theorem fe_int1 (c : Ct K mg k W X) (hm : mg "int" = none) (ha : VE K mg W X a ta fa) (hg : Gl X "int" := by rfl) (hs : starEach [a] X.env = (false, eval a X.env) :: starEach [] X.env := by rfl) (hpl : (backTo pos (starEach [] X.env)).any (·.1) = false := by rfl) :
    FE K mg W X (.Call (.Name "int" p) [a] [] pos) (tUn (fun x H Q => rIntA [x] H Q) ta) (fUn gInt fa) := fe_callT1 c call_intA opInt hm (by decide +kernel) ha hg (by decide) (by decide) hs hpl
def enumD (ds : List D) : List D := ds.mapIdx fun i d => .tup [.int (i : Nat), d]
theorem feed_enum {a : Addr} {vs : List V} {ds : List D} (h : SqL K Z a vs) (l : RpL K mg Z H vs ds) : Feed K mg (Ite K a) (enumD ds) Z := fun Z1 H1 hs hz => by
  have q : SqL K H1 a vs := hs.seq (hz.seq h)
  refine ⟨fun i d e => ?_, ⟨vs, q, by rw [l.length]; simp [enumD]⟩⟩
  simp only [enumD, List.getElem?_mapIdx] at e
  obtain ⟨d0, e0, rfl⟩ := Option.map_eq_some_iff.mp e
  obtain ⟨v, e1, r1⟩ := l.get e0
  refine ⟨⟨vs, v, q, e1⟩, fun x H2 ⟨T, x', ex, hT, eH, y⟩ => ?_⟩
  subst ex eH
  have := y vs q
  rw [e1] at this; cases this
  have r1' : Rp K mg Z1 H1 v d0 [] := r1.mono hz (by simp) (by simp)
  exact ⟨_, Rp.newT hs hT (.cons (.int _) (.cons r1' .nil)), Ext.newF hs hT⟩
theorem feed_enumT {a : Addr} {vs : List V} {ds : List D} (h : Z a = some (.tup vs)) (l : RpL K mg Z H vs ds) : Feed K mg (IteT K a) (enumD ds) Z := fun Z1 H1 hs hz => by
  have q : SqT K H1 a vs := .of (hs _ _ (hz _ _ h))
  refine ⟨fun i d e => ?_, ⟨vs, q, by rw [l.length]; simp [enumD]⟩⟩
  simp only [enumD, List.getElem?_mapIdx] at e
  obtain ⟨d0, e0, rfl⟩ := Option.map_eq_some_iff.mp e
  obtain ⟨v, e1, r1⟩ := l.get e0
  refine ⟨⟨vs, v, q, e1⟩, fun x H2 ⟨T, x', ex, hT, eH, y⟩ => ?_⟩
  subst ex eH
  have := y vs q
  rw [e1] at this; cases this
  have r1' : Rp K mg Z1 H1 v d0 [] := r1.mono hz (by simp) (by simp)
  exact ⟨_, Rp.newT hs hT (.cons (.int _) (.cons r1' .nil)), Ext.newF hs hT⟩
def fEnum (fe : Fe) : Fit := fun S => (fe S).bind fun d S1 => match d with
  | .lst _ ds => .ok (enumD ds) S1
  | .tup ds => .ok (enumD ds) S1
  | _ => .stk
theorem frz_lst {o : Tg} {ds : List D} : ∃ o', frz (.lst o ds) = .lst o' ds ∧ o' ≠ .ow := by cases o <;> exact ⟨_, rfl, by decide⟩
theorem sq_of {a : Addr} {vs : List V} {o : Tg} {f : List Addr} (h : At K Z H o a (.lst vs) f) (e : o ≠ .ow) : SqL K Z a vs := by
  cases o with
  | fz => exact .of h.1
  | ow => exact absurd rfl e
  | ex =>
    obtain ⟨⟨ws, e6, h6⟩, _⟩ := h
    cases e6; exact h6
theorem fi_enum0 (he : Fn K mg W te fe) : Fi K mg W (iEnumA K (tCons te tNil)) (fEnum fe) := fun Z H σ S g R sim p => by
  refine he Z H σ S g _ sim ?_
  unfold fEnum at p
  rw [Rs.bind_post] at p
  refine Rs.post_mono p (fun d S1 p1 v Z1 H1 f1 g1 r1 s1 dj1 fr1 => ?_) fun _ _ q => q
  split at p1
  · rename_i o ds
    obtain ⟨Z2, z, zh, n, r2⟩ := r1.freeze s1.s
    have s2 := freeze_sim s1 z zh n dj1
    have fr2 := fr1.trans (freeze_fr (H := H1) (g := g1) z n)
    obtain ⟨o', e4, e5⟩ := frz_lst (o := o) (ds := ds)
    rw [e4] at r2
    obtain ⟨a, vs, rfl, h1, l1⟩ := r2.lst_inv
    have q := sq_of h1 e5
    exact .inl ⟨a, vs, rfl, zh.seq q, p1 _ Z2 H1 g1 (feed_enum q l1) s2 fr2⟩
  · obtain ⟨a, vs, rfl, h1, rfl, l1⟩ := r1.tup_inv
    exact .inr ⟨a, vs, rfl, .of (s1.s _ _ h1), p1 _ Z1 H1 g1 (feed_enumT h1 l1) s1 fr1⟩
  · exact p1.elim
theorem fi_enum {elts : List Expr} {kk : Nat} {tpos : Pos} (c : Ct K mg k W X) (hm : mg "enumerate" = none) (ha : FE K mg W X a ta fa) (hg : Gl X "enumerate" := by rfl) (hs1 : starEach [a] X.env = (false, eval a X.env) :: starEach [] X.env := by rfl) (hs : starEach [a] X.env = [(false, eval a X.env)] := by rfl) :
    FI K mg W X (.Tuple elts kk tpos) (.Call (.Name "enumerate" p) [a] [] pos) (iEnumA K (tCons ta tNil)) (fEnum fa) := ⟨by
      have h := pi_enumA (X := X) (p := p) (pos := pos) (tpos := tpos) (elts := elts) (kk := kk) hg (by rw [c.hmg]; exact hm) (pa_cons ha.pe pa_nil hs1) hs
      rw [c.hK] at h
      exact h, fi_enum0 ha.fn⟩
def zipD (xs ys : List D) : List D := (xs.zip ys).map fun p => .tup [p.1, p.2]
theorem zip_get {xs ys : List D} {i : Nat} {d : D} (e : (zipD xs ys)[i]? = some d) : ∃ x y, xs[i]? = some x ∧ ys[i]? = some y ∧ d = .tup [x, y] := by
  simp only [zipD, List.getElem?_map] at e
  obtain ⟨q, e0, rfl⟩ := Option.map_eq_some_iff.mp e
  obtain ⟨e1, e2⟩ := List.getElem?_zip_eq_some.mp e0
  exact ⟨_, _, e1, e2, rfl⟩
theorem zip_len (xs ys : List D) : xs.length ≤ (zipD xs ys).length ∨ ys.length ≤ (zipD xs ys).length := by
  simp only [zipD, List.length_map, List.length_zip]; omega
theorem feed_zipL {a b : Addr} {vs us : List V} {xs ys : List D} (h : SqL K Z a vs) (h' : SqL K Z b us) (l : RpL K mg Z H vs xs) (l' : RpL K mg Z H us ys) : Feed K mg (Itz K a b) (zipD xs ys) Z := fun Z1 H1 hs hz => by
  have q : SqL K H1 a vs := hs.seq (hz.seq h)
  have q' : SqL K H1 b us := hs.seq (hz.seq h')
  refine ⟨fun i d e => ?_, ⟨vs, us, q, q', by rw [l.length, l'.length]; exact zip_len xs ys⟩⟩
  obtain ⟨x, y, e1, e2, rfl⟩ := zip_get e
  obtain ⟨v, e1', r1⟩ := l.get e1
  obtain ⟨u, e2', r2⟩ := l'.get e2
  refine ⟨⟨vs, us, v, u, q, q', e1', e2'⟩, fun x H2 ⟨T, x', y', ex, hT, eH, y1, y2⟩ => ?_⟩
  subst ex eH
  have z1 := y1 vs q
  have z2 := y2 us q'
  rw [e1'] at z1; cases z1
  rw [e2'] at z2; cases z2
  exact ⟨_, Rp.newT hs hT (.cons (r1.mono hz (by simp) (by simp)) (.cons (r2.mono hz (by simp) (by simp)) .nil)), Ext.newF hs hT⟩
theorem feed_zipT {a b : Addr} {vs us : List V} {xs ys : List D} (h : SqT K Z a vs) (h' : SqT K Z b us) (l : RpL K mg Z H vs xs) (l' : RpL K mg Z H us ys) : Feed K mg (RZ.ItzT K a b) (zipD xs ys) Z := fun Z1 H1 hs hz => by
  have q : SqT K H1 a vs := Same.tup' hs (Same.tup' hz h)
  have q' : SqT K H1 b us := Same.tup' hs (Same.tup' hz h')
  refine ⟨fun i d e => ?_, ⟨vs, us, q, q', by rw [l.length, l'.length]; exact zip_len xs ys⟩⟩
  obtain ⟨x, y, e1, e2, rfl⟩ := zip_get e
  obtain ⟨v, e1', r1⟩ := l.get e1
  obtain ⟨u, e2', r2⟩ := l'.get e2
  refine ⟨⟨vs, us, v, u, q, q', e1', e2'⟩, fun x H2 ⟨T, x', y', ex, hT, eH, y1, y2⟩ => ?_⟩
  subst ex eH
  have z1 := y1 vs q
  have z2 := y2 us q'
  rw [e1'] at z1; cases z1
  rw [e2'] at z2; cases z2
  exact ⟨_, Rp.newT hs hT (.cons (r1.mono hz (by simp) (by simp)) (.cons (r2.mono hz (by simp) (by simp)) .nil)), Ext.newF hs hT⟩
def fZip (fa fb : Fe) : Fit := fun S => (fa S).bind fun d1 S1 => (fb S1).bind fun d2 S2 => match d1, d2 with
  | .lst _ xs, .lst _ ys => .ok (zipD xs ys) S2
  | .tup xs, .tup ys => .ok (zipD xs ys) S2
  | _, _ => .stk
theorem fi_zip0 (ha : Fn K mg W ta fa) (hb : Fn K mg W tb fb) : Fi K mg W (RZ.iZipA K (tCons ta (tCons tb tNil))) (fZip fa fb) := fun Z H σ S g R sim p => by
  refine Fn.bin ha hb sim (k := fun d1 d2 S2 => match d1, d2 with
    | .lst _ xs, .lst _ ys => .ok (zipD xs ys) S2
    | .tup xs, .tup ys => .ok (zipD xs ys) S2
    | _, _ => .stk) p fun x d1 f1 y d2 f2 Z1 H1 S1 g1 r1 r2 s1 dj1 dj2 fr1 p1 => ?_
  obtain ⟨Z2, z2, zh2, n2, r1'⟩ := r1.freeze s1.s
  have s2 := freeze_sim s1 z2 zh2 n2 (fun c m z => dj1 c m (by simp [z]))
  have r2' : Rp K mg Z2 H1 y d2 f2 := freeze_rp r2 z2 n2 (fun c m z => dj1 c z (by simp [m]))
  obtain ⟨Z3, z3, zh3, n3, r2''⟩ := r2'.freeze s2.s
  have s3 := freeze_sim s2 z3 zh3 n3 dj2
  have fr2 := (fr1.trans (freeze_fr (H := H1) (g := f2 ++ g1) z2 n2)).trans (freeze_fr (H := H1) (g := g1) z3 n3)
  have r1'' : Rp K mg Z3 H1 x (frz d1) [] := r1'.mono z3 (by simp) (by simp)
  split at p1
  · rename_i o1 xs o2 ys
    obtain ⟨o', e4, e5⟩ := frz_lst (o := o1) (ds := xs)
    obtain ⟨o'', e6, e7⟩ := frz_lst (o := o2) (ds := ys)
    rw [e4] at r1''
    rw [e6] at r2''
    obtain ⟨a, vs, rfl, h1, l1⟩ := r1''.lst_inv
    obtain ⟨b, us, rfl, h2, l2⟩ := r2''.lst_inv
    have q1 := sq_of h1 e5
    have q2 := sq_of h2 e7
    exact ⟨a, b, vs, us, rfl, .inl ⟨zh3.seq q1, zh3.seq q2, p1 _ Z3 H1 g1 (feed_zipL q1 q2 l1 l2) s3 fr2⟩⟩
  · obtain ⟨a, vs, rfl, h1, _, l1⟩ := (show Rp K mg Z3 H1 x (.tup _) [] from r1'').tup_inv
    obtain ⟨b, us, rfl, h2, _, l2⟩ := (show Rp K mg Z3 H1 y (.tup _) [] from r2'').tup_inv
    exact ⟨a, b, vs, us, rfl, .inr ⟨.of (zh3 _ _ h1), .of (zh3 _ _ h2), p1 _ Z3 H1 g1 (feed_zipT (.of h1) (.of h2) l1 l2) s3 fr2⟩⟩
  · exact p1.elim
theorem fi_zip {elts : List Expr} {kk : Nat} {tpos : Pos} (c : Ct K mg k W X) (hm : mg "zip" = none) (ha : FE K mg W X a ta fa) (hb : FE K mg W X b tb fb) (hg : Gl X "zip" := by rfl) (hs : starEach [a, b] X.env = (false, eval a X.env) :: starEach [b] X.env := by rfl) (hs2 : starEach [b] X.env = (false, eval b X.env) :: starEach [] X.env := by rfl)
    (hpl : (backTo pos (starEach [b] X.env)).any (·.1) = false := by rfl) : FI K mg W X (.Tuple elts kk tpos) (.Call (.Name "zip" p) [a, b] [] pos) (RZ.iZipA K (tCons ta (tCons tb tNil))) (fZip fa fb) := ⟨by
      have h := RZ.pi_zipA (X := X) (p := p) (pos := pos) (tpos := tpos) (elts := elts) (kk := kk) hg (by rw [c.hmg]; exact hm) (pa_cons ha.pe (pa_cons hb.pe pa_nil hs2) hs) hs hpl
      rw [c.hK] at h
      exact h, fi_zip0 ha.fn hb.fn⟩
end
end
end T3
set_option Elab.async false
set_option linter.all false
set_option maxRecDepth 100000
set_option maxHeartbeats 4000000
namespace T3
open PySem PySem.Spec PyProof.Rows L2
section
variable {P : Program} {w : World} {K : PySem.W.Frag} {mg : Str → Option Value} {base : Heap} {Z H Z' H' : Hp}
section
variable {k : Nat} {W : WX} {pn : Nat → Bool} {X : Cx} {e a b : Expr} {es : List Expr} {t ta tb te : TE} {tr : TA} {fe fa fb : Fe} {fr : Fa} {pos p apos cpos : Pos}
def isStrD : D → Bool
  | .str _ => true
  | _ => false
def fM1 (g : D → D → Option D) (fa fb : Fe) : Fe := fun S => (fa S).bind fun d1 S1 => if isStrD d1 then (fb S1).bind fun d2 S2 => Rs.ofO (g d1 d2) S2 else .stk
theorem fn_m1 {r : V → List V → Hp → VK → Prop} {g : D → D → Option D} (o : OpF K mg (fun x y H Q => r x [y] H Q) g) (ha : Fn K mg W ta fa) (hb : Vw K mg W tb fb) : Fn K mg W (tM1 r ta tb) (fM1 g fa fb) := fun Z H σ S gg Q sim p => by
  refine ha Z H σ S gg _ sim ?_
  unfold fM1 at p
  rw [Rs.bind_post] at p
  refine Rs.post_mono p (fun d1 S1 p1 x Z1 H1 f1 g1 r1 s1 dj1 fr1 => ?_) fun _ _ q => q
  split at p1
  case isFalse => exact p1.elim
  rename_i hd
  have hx : ∃ z, x = .str z := by
    cases d1 with
    | str z => exact ⟨z, r1.str_inv.1⟩
    | _ => cases hd
  refine ⟨hx, hb Z1 H1 σ S1 g1 _ s1 ?_⟩
  rw [Rs.bind_post] at p1
  refine Rs.post_mono p1 (fun d2 S2 p2 y Z2 H2 f2 g2 r2 s2 fr2 => ?_) fun _ _ q => q.from (fr1.sub (g2 := g1) fun c m => by simp [m])
  cases e : g d1 d2 with
  | none => rw [e] at p2; exact p2.elim
  | some d =>
    rw [e] at p2
    exact o Z2 H2 x y d1 d2 f1 f2 d Q s2.s (r1.stay fr2 dj1) r2 e fun v Z3 H3 f rv ex => p2 v Z3 H3 f g2 rv (ex.sim s2) (ex.dj s2) (((fr1.sub fun c m => by simp [m]).trans fr2).trans ex.fr)
def fM0 (g : D → Option D) (fa : Fe) : Fe := fun S => (fa S).bind fun d1 S1 => if isStrD d1 then Rs.ofO (g d1) S1 else .stk
def gJoin : D → D → Option D
  | .str a, .lst _ ds => (strsOf ds).bind fun ys => if (ys.map (·.length)).sum + ys.length * a.length ≤ 16777216 then some (.str (Txt.join a ys)) else none
  | .str a, .tup ds => (strsOf ds).bind fun ys => if (ys.map (·.length)).sum + ys.length * a.length ≤ 16777216 then some (.str (Txt.join a ys)) else none
  | _, _ => none
def rJoin (K : PySem.W.Frag) : V → List V → Hp → VK → Prop := fun x xs H Q => ∃ a p, ∃ ys : List Str, x = .str a ∧ xs = [.ref p] ∧ (SqL K H p (ys.map V.str) ∨ SqT K H p (ys.map V.str)) ∧
    (ys.map (·.length)).sum + ys.length * a.length ≤ 16777216 ∧ Q (.str (Txt.join a ys)) H
theorem opJoin : OpF K mg (fun x y H Q => rJoin K x [y] H Q) gJoin := by
  intro Z H x y dx dy f1 f2 d Q hs r1 r2 e q
  unfold gJoin at e
  split at e
  · obtain ⟨rfl, _⟩ := r1.str_inv
    obtain ⟨b, vs, rfl, h1, l1⟩ := r2.lst_inv
    obtain ⟨ys, e1, e2⟩ := Option.bind_eq_some_iff.mp e
    split at e2
    · cases e2
      cases l1.strs e1
      exact ⟨_, b, ys, rfl, rfl, .inl (h1.seq hs), ‹_›, q _ Z H [] (.str _) (.refl hs)⟩
    · cases e2
  · obtain ⟨rfl, _⟩ := r1.str_inv
    obtain ⟨b, vs, rfl, h1, _, l1⟩ := r2.tup_inv
    obtain ⟨ys, e1, e2⟩ := Option.bind_eq_some_iff.mp e
    split at e2
    · cases e2
      cases l1.strs e1
      exact ⟨_, b, ys, rfl, rfl, .inr (.of (hs _ _ h1)), ‹_›, q _ Z H [] (.str _) (.refl hs)⟩
    · cases e2
  · cases e
theorem fe_join (c : Ct K mg k W X) (ha : FE K mg W X a ta fa) (hb : VE K mg W X b tb fb) (hs : starEach [b] X.env = [(false, eval b X.env)] := by rfl) (hbase : attributeBase a "join" X.env (eval a X.env) = eval a X.env := by rfl) (hline : (apos.endLine == pos.line) = true := by rfl) :
    FE K mg W X (.Call (.Attribute a "join" apos) [b] [] pos) (tM1 (rJoin K) ta tb) (fM1 gJoin fa fb) := ⟨by
      have h := pe_join (apos := apos) (pos := pos) ha.pe hb.pe hs hbase hline
      rw [c.hK] at h
      exact h, fn_m1 opJoin ha.fn hb.vw⟩
def gSIndex : D → D → Option D
  | .str a, .str b => (Txt.index0 a b).map fun k => .int (k : Nat)
  | _, _ => none
def rSIndex : V → List V → Hp → VK → Prop := fun x xs H Q => ∃ a b i rest, x = .str a ∧ xs = [.str b] ∧ Builtin.Str.occurrences a b 0 a.length 1 = i :: rest ∧ Q (.int (i : Nat)) H
theorem opSIndex : OpF K mg (fun x y H Q => rSIndex x [y] H Q) gSIndex := by
  intro Z H x y dx dy f1 f2 d Q hs r1 r2 e q
  unfold gSIndex at e
  split at e
  · obtain ⟨rfl, _⟩ := r1.str_inv
    obtain ⟨rfl, _⟩ := r2.str_inv
    obtain ⟨i, e1, rfl⟩ := Option.map_eq_some_iff.mp e
    unfold Txt.index0 at e1
    obtain ⟨rest, e2⟩ := List.head?_eq_some_iff.mp e1
    exact ⟨_, _, _, rest, rfl, rfl, e2, q _ Z H [] (.int _) (.refl hs)⟩
  · cases e
theorem fe_sindex (ha : FE K mg W X a ta fa) (hb : VE K mg W X b tb fb) (hs : starEach [b] X.env = [(false, eval b X.env)] := by rfl) (hbase : attributeBase a "index" X.env (eval a X.env) = eval a X.env := by rfl) (hline : (apos.endLine == pos.line) = true := by rfl) :
    FE K mg W X (.Call (.Attribute a "index" apos) [b] [] pos) (tM1 rSIndex ta tb) (fM1 gSIndex fa fb) := ⟨pe_m1 PySem.F.slot_str_index PySem.F.type_str_index mt_sindex ha.pe hb.pe hs hbase hline, fn_m1 opSIndex ha.fn hb.vw⟩
def isiD (T : String) : D → Option Bool
  | .non => some false
  | .bl _ => some (T == "bool" || T == "int")
  | .int _ => some (T == "int")
  | .str _ => some (T == "str")
  | .tup _ => some (T == "tuple")
  | .lst .fz _ => some (T == "list")
  | .lst .ow _ => some (T == "list")
  | .dK _ _ => some (T == "dict")
  | .dT _ _ => some (T == "dict")
  | _ => none
def rIsiB (K : PySem.W.Frag) (T : String) : V → Hp → VK → Prop := fun x H Q => rIsi K [x, .ty T] H Q
theorem opIsi {T : String} (hT : T = "bool" ∨ T = "int" ∨ T = "str" ∨ T = "tuple" ∨ T = "list" ∨ T = "dict") : UnF K mg (rIsiB K T) (fun d => (isiD T d).map .bl) := fun Z H x dx f d Q hs r e q => by
  obtain ⟨b, e1, rfl⟩ := Option.map_eq_some_iff.mp e
  have fin : ∀ {t : String}, TyX K H x (.type t) → kitB t T = some b → rIsiB K T x H Q := fun ty h => ⟨x, .ty T, _, _, b, rfl, .ty T, ty, kit_ty h, q _ Z H [] (.bl _) (.refl hs)⟩
  unfold isiD at e1
  split at e1
  all_goals first | (cases e1; done) | skip
  · cases r
    cases e1
    exact fin (.base .non) (by rcases hT with rfl | rfl | rfl | rfl | rfl | rfl <;> decide +kernel)
  · obtain ⟨rfl, _⟩ := r.bl_inv
    cases e1
    exact fin (.base (.bl _)) (by rcases hT with rfl | rfl | rfl | rfl | rfl | rfl <;> decide +kernel)
  · obtain ⟨rfl, _⟩ := r.int_inv
    cases e1
    exact fin (.base (.int _)) (by rcases hT with rfl | rfl | rfl | rfl | rfl | rfl <;> decide +kernel)
  · obtain ⟨rfl, _⟩ := r.str_inv
    cases e1
    exact fin (.base (.str _)) (by rcases hT with rfl | rfl | rfl | rfl | rfl | rfl <;> decide +kernel)
  · obtain ⟨a, vs, rfl, h1, _, _⟩ := r.tup_inv
    cases e1
    exact fin (.base (.tup (hs _ _ h1))) (by rcases hT with rfl | rfl | rfl | rfl | rfl | rfl <;> decide +kernel)
  · obtain ⟨a, vs, rfl, h1, _⟩ := r.lst_inv
    cases e1
    exact fin (.base (.lst (h1.get hs (by decide)))) (by rcases hT with rfl | rfl | rfl | rfl | rfl | rfl <;> decide +kernel)
  · obtain ⟨a, vs, rfl, h1, _⟩ := r.lst_inv
    cases e1
    exact fin (.base (.lst (h1.get hs (by decide)))) (by rcases hT with rfl | rfl | rfl | rfl | rfl | rfl <;> decide +kernel)
  · obtain ⟨a, vs, rfl, h1, _, _⟩ := r.dK_inv
    cases e1
    exact fin (.base (.dK (seq_dK hs h1))) (by rcases hT with rfl | rfl | rfl | rfl | rfl | rfl <;> decide +kernel)
  · obtain ⟨a, vs, rfl, h1, _, _⟩ := r.dT_inv
    cases e1
    exact fin (.base (.dT (seq_dT hs h1))) (by rcases hT with rfl | rfl | rfl | rfl | rfl | rfl <;> decide +kernel)
def gIsi (T : String) : D → Option D := fun d => (isiD T d).map .bl
theorem fe_isi {T : String} {xT : Str} {pT : Pos} (c : Ct K mg k W X) (hm : mg "isinstance" = none) (hmT : mg xT = none) (hbT : bootBuiltins xT = some (.type T)) (hT : T = "bool" ∨ T = "int" ∨ T = "str" ∨ T = "tuple" ∨ T = "list" ∨ T = "dict") (ha : VE K mg W X a ta fa) (hn : xT ≠ "__name__" := by decide) (hdT : (xT == ("__debug__" : Str)) = false := by decide) (hg : Gl X "isinstance" := by rfl) (hgT : Gl X xT := by rfl)
    (hs : starEach [a, .Name xT pT] X.env = (false, eval a X.env) :: starEach [.Name xT pT] X.env := by rfl) (hs2 : starEach [.Name xT pT] X.env = (false, eval (.Name xT pT) X.env) :: starEach [] X.env := by rfl) (hpl : (backTo pos (starEach [.Name xT pT] X.env)).any (·.1) = false := by rfl) :
    FE K mg W X (.Call (.Name "isinstance" p) [a, .Name xT pT] [] pos) (tUn (rIsiB K T) ta) (fUn (gIsi T) fa) := ⟨by
      have h := pe_callB (p := p) (pos := pos) (call_isi (X := X)) hg (by rw [c.hmg]; exact hm) (by decide +kernel) (pa_cons ha.pe (pa_cons (pe_bltn (v := .ty T) hgT (by rw [c.hmg]; exact hmT) hbT rfl hn hdT) pa_nil hs2) hs) (by decide) (by decide) hs hpl
      rw [c.hK] at h
      exact h, fn_un (opIsi hT) ha.vw⟩
end
end
end T3
set_option Elab.async false
set_option linter.all false
set_option maxRecDepth 100000
set_option maxHeartbeats 4000000
namespace T3
open PySem PySem.Spec PyProof.Rows L2
theorem lamT_ok {K : PySem.W.Frag} {tf : List He.Defn} (h1 : (("Ground", some "__init__") : He.Defn) ∈ tf ∨ PySem.W.nsIn K mainGlobals "Ground" = some none) (h2 : (("_law_put_in", none) : He.Defn) ∈ tf ∨ PySem.W.nsIn K mainGlobals "_law_put_in" = some none) :
    ∀ q ∈ lamT K, ∃ p ∈ tf, (He.cT K p).2 = q.1 := by
  have key : ∀ p : (Str × Option Str) × Str, (p.1 ∈ tf ∨ PySem.W.nsIn K mainGlobals p.1.1 = some none) → (PySem.W.nsIn K mainGlobals p.1.1).join.isSome = true → ∃ u ∈ tf, (He.cT K u).2 = He.tabOf K (He.codeOf K p.1) := fun p hp hs => by
    rcases hp with m | e
    · exact ⟨p.1, m, rfl⟩
    · rw [e] at hs; cases hs
  intro q hq
  obtain ⟨p, hp, rfl⟩ := List.mem_map.mp hq
  obtain ⟨m, hs⟩ := List.mem_filter.mp hp
  unfold lamPs at m
  rcases List.mem_cons.mp m with rfl | m
  · exact key (("Ground", some "__init__"), "Ground.__init__") h1 hs
  · rcases List.mem_cons.mp m with rfl | m
    · exact key (("_law_put_in", none), "_law_put_in") h2 hs
    · cases m
end T3
set_option Elab.async false
set_option linter.all false
set_option maxRecDepth 100000
set_option maxHeartbeats 4000000
namespace T3
open PySem PySem.Spec PyProof.Rows L2
section
variable {P : Program} {w : World} {K : PySem.W.Frag} {mg : Str → Option Value} {base : Heap} {Z H Z' H' : Hp}
def gFld (cl : List Str) (f : Str) : D → Option D
  | .ins _ c fs => if c ∈ cl then fs.lookup f else none
  | _ => none
def putFd (f : Str) (v : D) : List (Str × D) → List (Str × D)
  | [] => [(f, v)]
  | (g, x) :: r => if g = f then (g, v) :: r else (g, x) :: putFd f v r
section
variable {k : Nat} {W : WX} {pn : Nat → Bool} {X : Cx} {e a b : Expr} {es : List Expr} {t ta tb te tv : TE} {tr : TA} {fe fa fb fv : Fe} {fr : Fa} {pos p apos cpos : Pos}
def fSetF (i : Nat) (cl : List Str) (f : Str) (fv : Fe) : Fst := fun S => (fv S).bind fun d S1 => match slot S1 i with
  | some (.ins .ow c fs) => if c ∈ cl ∧ fs.length < 1000 then .ok .nx (S1.set i (some (.ins .ow c (putFd f (frz d) fs)))) else .stk
  | _ => .stk
def fMeth (c m : Str) (F : List D → Rs D) (fo : Fe) (fr : Fa) : Fe := fun S => (fo S).bind fun d S1 => match d with
  | .ins .fz c' fs => if c' = c ∧ fs.lookup m = none then (fr S1).bind fun as S2 => match resolve as S2 with
      | none => .stk
      | some (ds, S3) => match F (d :: ds) with
        | .ok r (_ :: o) => .ok r (restore as o S3)
        | _ => .stk
    else .stk
  | _ => .stk
def fMake (x : Str) (F : List D → Rs D) (fr : Fa) : Fe := fun S => (fr S).bind fun as S1 => match resolve as S1 with
  | none => .stk
  | some (ds, S2) => match F (.ins .ow x [] :: ds) with
    | .ok .non (some d :: o) => .ok d (restore as o S2)
    | _ => .stk
end
end
end T3
set_option Elab.async false
set_option linter.all false
set_option maxRecDepth 100000
set_option maxHeartbeats 4000000
namespace T3
open PySem PySem.Spec PyProof.Rows L2
section
variable {P : Program} {w : World} {K : PySem.W.Frag} {mg : Str → Option Value} {base : Heap} {Z H Z' H' : Hp}
def dSort (ds : List D) (ps : List PyData) : List D := ((ds.zip ps).mergeSort (PySem.W.dataLe false (·.2))).map (·.1)
open Classical in
noncomputable def gSorted : D → Option D
  | .lst _ ds => (toPyL ds).bind fun ps => if PySem.W.AllAlike ps ∧ PySem.W.Sortable ps ∧ (∀ p ∈ ps, p.depth ≤ 60) then some (.lst .ow (dSort ds ps)) else none
  | _ => none
section
variable {k : Nat} {W : WX} {pn : Nat → Bool} {X : Cx} {e a b : Expr} {es : List Expr} {t ta tb te tv : TE} {tr : TA} {fe fa fb fv : Fe} {fr : Fa} {pos p apos cpos : Pos}
end
end
end T3
set_option Elab.async false
set_option linter.all false
set_option maxRecDepth 100000
set_option maxHeartbeats 4000000
namespace T3
open PySem PySem.Spec PyProof.Rows L2 PySem.W
section
variable {X : Cx} {pins : List (Addr × Obj)} {σ : Sg} {H : Hp} {s : Shared}
structure Later (X : Cx) (pins : List (Addr × Obj)) (a : Addr) : Prop where
  new : X.s_0.heap.objs.size ≤ a
  loc : a ≠ X.env.locals
  cel : ∀ x c, X.env.cells.lookup x = some c → c ≠ a
  pin : ∀ p ∈ X.pn ++ pins, p.1 ≠ a
  frm : a ∉ frs X.stack
theorem Later.of (I : L2.Inv X pins σ H s) {a : Addr} (h : s.heap.objs.size ≤ a) : Later X pins a := by
  have big : ∀ {b : Addr} {o : Obj}, s.heap.get? b = some o → b ≠ a := fun {b o} e => Nat.ne_of_lt (Nat.lt_of_lt_of_le (Heap.lt_size e) h)
  refine ⟨Nat.le_trans I.sz h, fun e => ?_, fun x c e => ?_, fun p hp => big (I.pin p hp).1, fun m => ?_⟩
  · have := I.lt
    rw [← e] at this
    exact Nat.lt_irrefl _ (Nat.lt_of_lt_of_le this h)
  · obtain ⟨v, o, ho, _⟩ := I.cell x c e
    exact big ho
  · rcases List.mem_cons.mp (I.stkSub _ m) with e | e
    · have := I.lt
      rw [← e] at this
      exact Nat.lt_irrefl _ (Nat.lt_of_lt_of_le this h)
    · exact I.nofs h e
end
structure LamS1 (sc scope : Scope) (a : Str) : Prop where
  kind : scope.kind = .function
  co : scope.isCoroutine = false
  gen : scope.isGenerator = false
  par : scope.names.lookup a = some .local
  own : ∀ y ∈ scope.names, (y.2 = .local → y.1 = a) ∧ y.2 ≠ .cell
  free : ∀ y ∈ scope.names, y.2 = .free → sc.names.lookup y.1 = some .cell ∨ sc.names.lookup y.1 = some .free
section
variable {X : Cx} {pins : List (Addr × Obj)} {σ : Sg} {H HZ : Hp} {s s1 : Shared} {scope : Scope} {a : Str}
theorem LamS1.cells (L : LamS1 X.env.scope scope a) (ok : X.Ok) : ∀ y ∈ scope.names, y.2 = .free → ∃ c, X.env.cells.lookup y.1 = some c := fun y hy e => ok.has _ (L.free y hy e)
end
end T3
set_option Elab.async false
set_option linter.all false
set_option maxRecDepth 100000
set_option maxHeartbeats 4000000
namespace T3
open PySem PySem.Spec PyProof.Rows L2
section
variable {P : Program} {w : World} {K : PySem.W.Frag} {mg : Str → Option Value} {base : Heap} {Z H Z' H' : Hp}
theorem RpB.length : ∀ {vs : List V} {ds : List D} {f : List Addr}, RpB K mg Z H vs ds f → vs.length = ds.length
  | _, _, _, .nil => rfl
  | _, _, _, .cons _ _ t => by simp [t.length]
theorem RpB.get : ∀ {vs : List V} {ds : List D} {f : List Addr} {n : Nat} {d : D}, RpB K mg Z H vs ds f → ds[n]? = some d → ∃ v f0, vs[n]? = some v ∧ Rp K mg Z H v d f0 ∧ ∀ c ∈ f0, c ∈ f
  | _, _, _, _, _, .nil, e => by simp at e
  | _, _, _, 0, _, .cons h _ _, e => by simp at e; subst e; exact ⟨_, _, rfl, h, fun c m => by simp [m]⟩
  | _, _, _, n + 1, _, .cons h _ t, e => by
    obtain ⟨v, f0, h1, h2, h3⟩ := t.get (n := n) (by simpa using e)
    exact ⟨v, f0, by simpa using h1, h2, fun c m => by simp [h3 c m]⟩
section
variable {k : Nat} {W : WX} {pn : Nat → Bool} {X : Cx} {e a b : Expr} {es : List Expr} {t ta tb te : TE} {fe fa fb : Fe} {pos p : Pos}
end
section
variable {k : Nat} {W : WX} {pn : Nat → Bool} {X : Cx} {tge e a b elt iter : Expr} {ifs : List Expr} {t u : TS} {te ta tb : TE} {wi : TI} {fi : Fit} {f h : Fst} {fe fa fb : Fe} {pos p : Pos}
def fLRng1 (fa : Fe) : Fe := fun S => (fa S).bind fun d S1 => match d with
  | .int n => if 0 ≤ n ∧ n ≤ 16777216 then .ok (.lst .ow (intsD 0 n.toNat)) S1 else .stk
  | _ => .stk
end
end
end T3
set_option Elab.async false
set_option linter.all false
set_option maxRecDepth 100000
set_option maxHeartbeats 4000000
namespace T3
open PySem PySem.Spec PyProof.Rows L2
section
variable {K : PySem.W.Frag} {mg : Str → Option Value}
theorem RpS.dat {Z H : Hp} : ∀ {σ : List (Option V)} {S : SS} {g : List Addr}, RpS K mg Z H σ S g → ∀ {a : Addr}, a ∈ g → ∀ {o : HO}, H a = some o → Nt o ∧ ∀ c q, o ≠ LamX.CodeO c q
  | _, _, _, .nil, _, m, _, _ => by simp at m
  | _, _, _, .no t, _, m, _, e => t.dat m e
  | _, _, _, .yes h t, _, m, _, e => by
    rcases List.mem_append.mp m with m | m
    · exact h.dat m e
    · exact t.dat m e
end
end T3
set_option Elab.async false
set_option linter.all false
set_option maxRecDepth 100000
set_option maxHeartbeats 4000000
namespace T3
open PySem PySem.Spec PyProof.Rows L2
section
variable {P : Program} {w : World} {K : PySem.W.Frag} {mg : Str → Option Value} {base : Heap} {Z H Z' H' : Hp}
def kD : Key → D
  | .inl i => .int i
  | .inr x => .str x
theorem Rp.kD (k : Key) : Rp K mg Z H (kV k) (T3.kD k) [] := by
  cases k with
  | inl i => exact .int i
  | inr x => exact .str x
def gItemsL : D → Option D
  | .dK _ kvs => some (.lst .ow (kvs.map fun kv => .tup [kD kv.1, kv.2]))
  | _ => none
def intKeys : List (Key × D) → Option (List Int)
  | [] => some []
  | (.inl i, _) :: r => (intKeys r).map (i :: ·)
  | _ => none
def gSortedDK : D → Option D
  | .dK _ kvs => (intKeys kvs).map fun ks => .lst .ow ((ks.mergeSort fun a b => decide (a ≤ b)).map .int)
  | _ => none
theorem RpL.intsD : ∀ (ks : List Int), RpL K mg Z H (ks.map V.int) (ks.map D.int)
  | [] => .nil
  | k :: ks => .cons (.int k) (RpL.intsD ks)
def fDisp1 (fk fv : Fe) : Fe := fun S => (fk S).bind fun k S1 => (fv S1).bind fun v S2 => match toKey k with
  | some kk => .ok (.dK .ow [(kk, frz v)]) S2
  | none => .stk
section
variable {k : Nat} {W : WX} {pn : Nat → Bool} {X : Cx} {e a b : Expr} {es : List Expr} {t ta tb te tv : TE} {tr : TA} {fe fa fb fv : Fe} {fr : Fa} {pos p apos cpos : Pos}
end
end
end T3
set_option Elab.async false
set_option linter.all false
set_option maxRecDepth 100000
set_option maxHeartbeats 4000000
namespace T3
open PySem PySem.Spec PyProof.Rows L2
section
variable {P : Program} {w : World} {K : PySem.W.Frag} {mg : Str → Option Value} {base : Heap} {Z H Z' H' : Hp}
variable {k : Nat} {W : WX} {pn : Nat → Bool} {X : Cx} {st : Stmt} {tge e a b : Expr} {es : List Expr} {t ta tb te tv tk tx : TE} {tr : TA} {fe fa fb fv fk fx : Fe} {fr : Fa} {pos p apos cpos : Pos}
def seqR : D → Option (List D)
  | .lst _ ds => some ds.reverse
  | .tup ds => some ds.reverse
  | _ => none
def fItRev (fe : Fe) : Fit := fun S => (fe S).bind fun d S1 => Rs.ofO (seqR d) S1
def fSetDf (i : Nat) (fk fv : Fe) : Fe := fun S => match slot S i with
  | some (.dK .ow _) => (fk S).bind fun kd S1 => (fv S1).bind fun d S2 => match slot S2 i, toKey kd with
    | some (.dK .ow kvs), some kk => if kvs.length < sizeLine then (match getK kvs kk with
      | some u => .ok u S2
      | none => .ok (frz d) (S2.set i (some (.dK .ow (putD kvs kk (frz d)))))) else .stk
    | _, _ => .stk
  | _ => .stk
def fGet2 (i : Nat) (fk fx : Fe) : Fe := fun S => match slot S i with
  | some (.dK _ _) => (fk S).bind fun kd S1 => (fx S1).bind fun d S2 => match slot S2 i, toKey kd with
    | some (.dK _ kvs), some kk => match getK kvs kk with
      | some u => .ok u S2
      | none => .ok (frz d) S2
    | _, _ => .stk
  | _ => .stk
end
end T3
set_option Elab.async false
set_option linter.all false
set_option maxRecDepth 100000
set_option maxHeartbeats 4000000
namespace T3
open PySem PySem.Spec PyProof.Rows L2
mutual
def ndk : D → Bool
  | .non => true
  | .bl _ => true
  | .int _ => true
  | .str _ => true
  | .tup xs => ndkL xs
  | .lst _ xs => ndkL xs
  | .dK .ow kvs => ndkP kvs
  | .dK .fz _ => false
  | .dK .ex _ => false
  | .dT _ kvs => ndkT kvs
  | .ins _ _ fs => ndkF fs
  | .xc _ fs => ndkF fs
  | .hole _ => true
  | .tp xs => ndkL xs
  | .nl xs => ndkL xs
  | .nd kvs => ndkP kvs
  | .ni _ fs => ndkF fs
  | .dL kvs => ndkP kvs
def ndkL : List D → Bool
  | [] => true
  | d :: ds => ndk d && ndkL ds
def ndkP : List (Key × D) → Bool
  | [] => true
  | (_, d) :: ds => ndk d && ndkP ds
def ndkT : List (List Key × D) → Bool
  | [] => true
  | (_, d) :: ds => ndk d && ndkT ds
def ndkF : List (Str × D) → Bool
  | [] => true
  | (_, d) :: ds => ndk d && ndkF ds
end
def ndkS : SS → Bool
  | [] => true
  | none :: S => ndkS S
  | some d :: S => ndk d && ndkS S
theorem ndkP_L : ∀ (ds : List (Key × D)), ndkP ds = ndkL (ds.map (·.2))
  | [] => rfl
  | (_, d) :: ds => by simp [ndkP, ndkL, ndkP_L ds]
theorem ndkT_L : ∀ (ds : List (List Key × D)), ndkT ds = ndkL (ds.map (·.2))
  | [] => rfl
  | (_, d) :: ds => by simp [ndkT, ndkL, ndkT_L ds]
theorem ndkF_L : ∀ (ds : List (Str × D)), ndkF ds = ndkL (ds.map (·.2))
  | [] => rfl
  | (_, d) :: ds => by simp [ndkF, ndkL, ndkF_L ds]
section
variable {K : PySem.W.Frag} {mg : Str → Option Value} {Z H Z' H' : Hp} {a : Addr} {u : HO} {B : Bool}
structure Odd (Z : Hp) (a : Addr) : Prop where
  z0 : Z a ≠ none
  l : ∀ vs, ¬ Rd Z a (.lst vs)
  t : ∀ vs, Z a ≠ some (.tup vs)
  p : ∀ w vs, Z a ≠ some (.frz w (.tup vs))
  d : ∀ vs, Z a ≠ some (.dT vs)
  i : ∀ C dx fs, Z a ≠ some (.ins C dx fs)
  x : ∀ C d b, Z a ≠ some (exv C d b)
  xd : ∀ fs, Z a ≠ some (.xd fs)
theorem At.swap (o : Odd Z a) {t : Tg} {b : Addr} {w : HO} {f : List Addr} (h : At K Z H t b w f) (hw : t = .fz → Z a ≠ some w) : At K (upd Z a u) (upd H a u) t b w f := by
  cases t with
  | fz =>
    have e : b ≠ a := fun z => by
      have := h.1
      rw [z] at this
      exact hw rfl this
    exact ⟨by rw [upd_ne e]; exact h.1, h.2⟩
  | ow =>
    obtain ⟨h1, h2, rfl⟩ := h
    have e : b ≠ a := fun z => by rw [z] at h2; exact o.z0 h2
    exact ⟨by rw [upd_ne e]; exact h1, by rw [upd_ne e]; exact h2, rfl⟩
  | ex =>
    obtain ⟨⟨vs, rfl, h1⟩, h2⟩ := h
    refine ⟨⟨vs, rfl, ?_⟩, h2⟩
    rcases h1 with h1 | h1
    · have e : b ≠ a := fun z => by rw [z] at h1; exact o.l vs h1
      rcases h1 with h1 | ⟨x, h1⟩
      · exact .inl (.inl (by rw [upd_ne e]; exact h1))
      · exact .inl (.inr ⟨x, by rw [upd_ne e]; exact h1⟩)
    · exact .inr h1
mutual
theorem Rp.swap (o : Odd Z a) (hu : ∀ kv, Rd Z a (.dK kv) → Rd (upd Z a u) a (.dK kv)) (hB : B = false → ∀ kv, Z a ≠ some (.dK kv)) : ∀ {v : V} {d : D} {f : List Addr}, Rp K mg Z H v d f → (B = true → ndk d = true) → Rp K mg (upd Z a u) (upd H a u) v d f
  | _, _, _, .non, _ => .non
  | _, _, _, .bl b, _ => .bl b
  | _, _, _, .int b, _ => .int b
  | _, _, _, .str b, _ => .str b
  | _, _, _, .tup (a := b) h r, n => .tup (by
      have e : b ≠ a := fun z => by rw [z] at h; exact o.t _ h
      rw [upd_ne e]; exact h) (RpL.swap o hu hB r fun z => by have := n z; simpa [ndk] using this)
  | _, _, _, .lst h r, n => .lst (h.swap o fun e z => o.l _ (.inl z)) (RpL.swap o hu hB r fun z => by have := n z; simpa [ndk] using this)
  | _, _, _, .dK (o := t) (ds := ds) h e r, n => .dK (h.swap o fun e z => by
      subst e
      cases B with
      | true => cases n rfl
      | false => exact hB rfl _ z) e (RpL.swap o hu hB r fun z => by
        have := n z
        cases t with
        | ow => simpa [ndk, ndkP_L] using this
        | fz => cases this
        | ex => cases this)
  | _, _, _, .dT h e r, n => .dT (h.swap o fun e z => o.d _ z) e (RpL.swap o hu hB r fun z => by have := n z; simpa [ndk, ndkT_L] using this)
  | _, _, _, .ins hc h e r, n => .ins hc (h.swap o fun e z => o.i _ _ _ z) e (RpL.swap o hu hB r fun z => by have := n z; simpa [ndk, ndkF_L] using this)
  | _, _, _, .nl (a := b) h m r nd, n => by
      have e : b ≠ a := fun z => by rw [z] at m; exact o.z0 m
      exact .nl (by rw [upd_ne e]; exact h) (by rw [upd_ne e]; exact m) (RpB.swap o hu hB r fun z => by have := n z; simpa [ndk] using this) nd
  | _, _, _, .ndd (a := b) h m e r nd, n => by
      have e0 : b ≠ a := fun z => by rw [z] at m; exact o.z0 m
      exact .ndd (by rw [upd_ne e0]; exact h) (by rw [upd_ne e0]; exact m) e (RpB.swap o hu hB r fun z => by have := n z; simpa [ndk, ndkP_L] using this) nd
  | _, _, _, .nins (a := b) hc h m e r nd, n => by
      have e0 : b ≠ a := fun z => by rw [z] at m; exact o.z0 m
      exact .nins hc (by rw [upd_ne e0]; exact h) (by rw [upd_ne e0]; exact m) e (RpB.swap o hu hB r fun z => by have := n z; simpa [ndk, ndkF_L] using this) nd
  | _, _, _, .dL (a := b) (kvs := kvs) h e r, n => .dL (by
      by_cases e0 : b = a
      · subst e0; exact hu _ h
      · exact h.imp (fun q => by rw [upd_ne e0]; exact q) fun ⟨w, q⟩ => ⟨w, by rw [upd_ne e0]; exact q⟩) e (RpL.swap o hu hB r fun z => by have := n z; simpa [ndk, ndkP_L] using this)
  | _, _, _, .hole v, _ => .hole v
  | _, _, _, .tp (a := b) h hd r, n => .tp (by
      have e : b ≠ a := fun z => by rw [z] at h; exact o.p _ _ h
      rw [upd_ne e]; exact h) hd (RpL.swap o hu hB r fun z => by have := n z; simpa [ndk] using this)
  | _, _, _, .xc0 (a := b) hc h, _ => .xc0 hc (by
      have e : b ≠ a := fun z => by rw [z] at h; exact o.x _ _ _ h
      rw [upd_ne e]; exact h)
  | _, _, _, .xc (a := b) (dx := dx) hc h h2 e r, n => .xc hc (by
      have e1 : b ≠ a := fun z => by rw [z] at h; exact o.x _ _ _ h
      rw [upd_ne e1]; exact h) (by
      have e1 : dx ≠ a := fun z => by rw [z] at h2; exact o.xd _ h2
      rw [upd_ne e1]; exact h2) e (RpL.swap o hu hB r fun z => by have := n z; simpa [ndk, ndkF_L] using this)
theorem RpL.swap (o : Odd Z a) (hu : ∀ kv, Rd Z a (.dK kv) → Rd (upd Z a u) a (.dK kv)) (hB : B = false → ∀ kv, Z a ≠ some (.dK kv)) : ∀ {vs : List V} {ds : List D}, RpL K mg Z H vs ds → (B = true → ndkL ds = true) → RpL K mg (upd Z a u) (upd H a u) vs ds
  | _, _, .nil, _ => .nil
  | _, _, .cons h t, n => .cons (Rp.swap o hu hB h fun z => by have := n z; simp only [ndkL, Bool.and_eq_true] at this; exact this.1) (RpL.swap o hu hB t fun z => by have := n z; simp only [ndkL, Bool.and_eq_true] at this; exact this.2)
theorem RpB.swap (o : Odd Z a) (hu : ∀ kv, Rd Z a (.dK kv) → Rd (upd Z a u) a (.dK kv)) (hB : B = false → ∀ kv, Z a ≠ some (.dK kv)) : ∀ {vs : List V} {ds : List D} {f : List Addr}, RpB K mg Z H vs ds f → (B = true → ndkL ds = true) → RpB K mg (upd Z a u) (upd H a u) vs ds f
  | _, _, _, .nil, _ => .nil
  | _, _, _, .cons h fl t, n => .cons (Rp.swap o hu hB h fun z => by have := n z; simp only [ndkL, Bool.and_eq_true] at this; exact this.1) fl (RpB.swap o hu hB t fun z => by have := n z; simp only [ndkL, Bool.and_eq_true] at this; exact this.2)
end
theorem RpS.swap (o : Odd Z a) (hu : ∀ kv, Rd Z a (.dK kv) → Rd (upd Z a u) a (.dK kv)) (hB : B = false → ∀ kv, Z a ≠ some (.dK kv)) : ∀ {σ : Sg} {S : SS} {g : List Addr}, RpS K mg Z H σ S g → (B = true → ndkS S = true) → RpS K mg (upd Z a u) (upd H a u) σ S g
  | _, _, _, .nil, _ => .nil
  | _, _, _, .no t, n => .no (t.swap o hu hB fun z => by have := n z; simpa [ndkS] using this)
  | _, _, _, .yes h t, n => .yes (h.swap o hu hB fun z => by have := n z; simp only [ndkS, Bool.and_eq_true] at this; exact this.1) (t.swap o hu hB fun z => by have := n z; simp only [ndkS, Bool.and_eq_true] at this; exact this.2)
theorem same_swap (hs : Same Z H) : Same (upd Z a u) (upd H a u) := fun b o h => by
  by_cases e : b = a
  · subst e
    rw [upd_same] at h ⊢
    exact h
  · rw [upd_ne e] at h ⊢
    exact hs b o h
theorem Sim.swap {σ : Sg} {S : SS} {g : List Addr} {w : HO} (o : Odd Z a) (hu : ∀ kv, Rd Z a (.dK kv) → Rd (upd Z a u) a (.dK kv)) (hB : B = false → ∀ kv, Z a ≠ some (.dK kv)) (sim : Sim K mg Z H σ S g) (n : B = true → ndkS S = true) (hH : H a = some w) (hw : Nt w) (nc : ∀ c q, w ≠ LamX.CodeO c q) (hnt : Nt u) : Sim K mg (upd Z a u) (upd H a u) σ S g :=
  ⟨sim.r.swap o hu hB n, sim.nd, same_swap sim.s, ⟨(sim.t.put hH hw nc).h, fun b q h => by
    by_cases e : b = a
    · subst e
      rw [upd_same] at h
      cases h
      exact hnt
    · rw [upd_ne e] at h
      exact sim.t.z b q h⟩⟩
end
section
variable {K : PySem.W.Frag} {mg : Str → Option Value} {Z H Z' H' : Hp}
variable {k : Nat} {W : WX} {pn : Nat → Bool} {X : Cx} {tge e a b : Expr} {t u : TS} {te ta tb td : TE} {wi : TI} {fi : Fit} {f h : Fst} {fe fa fb : Fe} {pos : Pos}
theorem noexc_post {α : Type} {r : Rs α} {P : α → SS → Prop} {E E' : D → SS → Prop} (h : r.noexc.post P E) : r.post P E' := by
  cases r with
  | ok a S => exact h
  | exc e S => exact (show False from h).elim
  | stk => exact h
end
end T3
set_option Elab.async false
set_option linter.all false
set_option maxRecDepth 100000
set_option maxHeartbeats 4000000
namespace T3
open PySem PySem.Spec PyProof.Rows L2
section
variable {P : Program} {w : World} {K : PySem.W.Frag} {mg : Str → Option Value} {base : Heap} {Z H Z' H' : Hp}
section
variable {k : Nat} {W : WX} {pn : Nat → Bool} {X : Cx} {e a b : Expr} {es : List Expr} {t ta tb te tv : TE} {tr : TA} {fe fa fb fv : Fe} {fr : Fa} {pos p apos cpos : Pos}
end
end
end T3
set_option Elab.async false
set_option linter.all false
set_option maxRecDepth 100000
set_option maxHeartbeats 4000000
namespace T3
open PySem PySem.Spec PyProof.Rows L2
section
variable {prog : Program} {w : World} {A : Around} {E : Value → Shared → Prop} {s : Shared}
variable {z TI TO i1 i2 l1 l2 : Addr} {k1 k2 : Nat} {xs ys : Array Value} {x y a b : Value} {It1 It2 : Heap → Nat → Prop} {Co1 Co2 : Heap → Array Value → Prop}
end
section
variable {prog : Program} {w : World} {A : Around} {E : Value → Shared → Prop} {s : Shared}
end
section
variable {K : PySem.W.Frag} {mg : Str → Option Value} {Z H Z' H' : Hp} {k : Nat} {W : WX} {pn : Nat → Bool} {X : Cx} {a b : Expr} {ta tb : TE} {fa fb : Fe} {pos p : Pos}
end
end T3
set_option Elab.async false
set_option linter.all false
set_option maxRecDepth 100000
set_option maxHeartbeats 4000000
namespace T3
open PySem PySem.Spec PyProof.Rows L2
section
variable {K : PySem.W.Frag} {C R : Addr}
section
variable {X : Cx} {e : Expr} {es : List Expr} {ta : TA} {p1 p2 pos : Pos} {y : Str}
end
section
variable {P : Program} {w : World} {mg : Str → Option Value} {base : Heap} {x qual f f2 n1 n2 m : Str} {params : Arguments} {body : List Stmt} {scope : Scope} {fA : Addr} {fd : FuncData} {k : Nat}
end
end
section
variable {P : Program} {w : World} {K : PySem.W.Frag} {mg : Str → Option Value} {base : Heap} {Z H Z' H' : Hp} {k : Nat} {W : WX} {pn : Nat → Bool} {X : Cx} {e : Expr} {es : List Expr} {tr : TA} {fr : Fa} {pos p : Pos}
def fRaise (x : Str) (fl : List Str) (fr : Fa) : Fst := fun S => (fr S).bind fun as S1 => match resolve as S1 with
  | none => .stk
  | some (ds, S2) => if ds.all fz = true then .exc (.ins .fz x (fl.zip ds).reverse) S2 else .stk
end
end T3
set_option Elab.async false
set_option linter.all false
set_option maxRecDepth 100000
set_option maxHeartbeats 4000000
namespace T3
open PySem PySem.Spec PyProof.Rows L2
section
variable {X : Cx} {pins : List (Addr × Obj)} {σ : L2.St} {H : Hp} {sI s s' : Shared} {B : Heap} {a : Addr} {o : HO}
end
section
variable {K : PySem.W.Frag} {mg : Str → Option Value} {X : Cx} {body : List Stmt} {h₀ : ExceptHandler} {hds : List ExceptHandler} {l : List (Value × Option Nat × TS)} {pos : Pos} {Wout : WX} {pn : Nat → Bool} {f : Fst}
end
section
variable {K : PySem.W.Frag} {mg : Str → Option Value} {Z H Z' H' : Hp}
def subX (n c : Str) : Bool := n == c || c == "RowError" || c == "ValueError"
def putO (oi : Option Nat) (d : D) (S : SS) : SS := match oi with
  | none => S
  | some i => S.set i (some d)
def clrO (oi : Option Nat) (S : SS) : SS := match oi with
  | none => S
  | some i => S.set i none
def fHds : List (Str × Option Nat × Fst) → Str → List (Str × D) → Fst
  | [], n, ds => fun S => .exc (.ins .fz n ds) S
  | (c, oi, h) :: r, n, ds => fun S => if subX n c = true then (match h (putO oi (.xc n ds) S) with
      | .ok fl S2 => .ok fl (clrO oi S2)
      | _ => .stk) else fHds r n ds S
def fTry (ns : List Str) (f : Fst) (l : List (Str × Option Nat × Fst)) : Fst := fun S => match f S with
  | .ok fl S1 => .ok fl S1
  | .exc (.ins .fz n ds) S1 => if n ∈ ns then fHds l n ds S1 else .stk
  | _ => .stk
section
variable {W : WX} {pn : Nat → Bool} {ns : List Str} {X : Cx} {hds : List ExceptHandler} {l : List (Value × Option Nat × TS)} {fl : List (Str × Option Nat × Fst)} {f : Fst}
end
end
end T3
set_option Elab.async false
set_option linter.all false
set_option maxRecDepth 100000
set_option maxHeartbeats 4000000
namespace T3
open PySem PySem.Spec PyProof.Rows L2
section
variable {K : PySem.W.Frag} {mg : Str → Option Value} {Z H Z' H' : Hp}
structure ExK (K : PySem.W.Frag) (C : Addr) : Prop where
  cl : (PySem.W.clsIn K C).isSome = true
  ga : PySem.W.findIn K (.ref C) "__getattribute__" = some (some (.builtin "BaseException.__getattribute__"))
  gg : PySem.W.findIn K (.ref C) "__getattr__" = some none
  sb : PySem.W.subIn K (.ref C) (.type "BaseException") = some true
  hd : PySem.W.hasDictIn K C = true
  ca : PySem.W.findIn K (.ref C) "__class__" = some (some (.builtin "object.__class__"))
  sp : PySem.W.specialIn K (.builtin "object.__class__") "__get__" = some (some (.builtin "getset_descriptor.__get__"))
  tk : PySem.W.takesIn K (.builtin "object.__class__") = some true
  mo : PySem.W.mroIn K C (.type "object") = some true
def XAt (H : Hp) (x : V) (C : Addr) : Prop := ∃ a, x = .ref a ∧ (H a = some (exv C none a) ∨ ∃ dx fs, H a = some (exv C (some dx) a) ∧ H dx = some (.xd fs))
section
variable {X : Cx} {pins : List (Addr × Obj)} {σ : L2.St} {s : Shared}
def IsX (K : PySem.W.Frag) (H : Hp) (x : V) (us : List Value) (b : Bool) : Prop := (x = .non ∧ PySem.W.kitAny K (.type "NoneType") us = some b) ∨ ∃ C, ExK K C ∧ XAt H x C ∧ PySem.W.kitAny K (.ref C) us = some b
end
def gIsX (ns cs : List Str) : D → Option D
  | .non => some (.bl false)
  | .xc n _ => if n ∈ ns then some (.bl (cs.any fun c => subX n c)) else none
  | _ => none
theorem IsX.ext {Z' H' : Hp} {x : V} {us : List Value} {b : Bool} (h : IsX K H x us b) (k : ∀ a o, H a = some o → H' a = some o) : IsX K H' x us b := by
  rcases h with h | ⟨C, E, ⟨a, rfl, h⟩, h2⟩
  · exact .inl h
  · refine .inr ⟨C, E, ⟨a, rfl, ?_⟩, h2⟩
    rcases h with h | ⟨dx, fs, h1, h3⟩
    · exact .inl (k _ _ h)
    · exact .inr ⟨dx, fs, k _ _ h1, k _ _ h3⟩
section
variable {k : Nat} {W : WX} {pn : Nat → Bool} {X : Cx} {e a b : Expr} {es : List Expr} {ta : TE} {te : TE} {fa fe : Fe} {pos p pos' : Pos} {ns : List Str}
structure Cs (K : PySem.W.Frag) (mg : Str → Option Value) (X : Cx) : Prop where
  hK : X.K = K
  hmg : X.mg = mg
  nd : X.N.Nodup
  hu : X.A.units + 65 < cLine
theorem Ct.cs (c : Ct K mg k W X) : Cs K mg X := ⟨c.hK, c.hmg, c.nd, c.hu⟩
def fRaise0 (x : Str) : Fst := fun S => .exc (.ins .fz x []) S
end
end
end T3
set_option Elab.async false
set_option linter.all false
set_option maxRecDepth 100000
set_option maxHeartbeats 4000000
namespace T3
open PySem PySem.Spec PyProof.Rows L2
section
variable {κ : Type} [DecidableEq κ]
def setK : List (κ × D) → κ → D → List (κ × D)
  | [], _, _ => []
  | p :: r, k, v => if p.1 = k then (p.1, v) :: r else p :: setK r k v
end
section
variable {K : PySem.W.Frag} {mg : Str → Option Value} {Z H Z' H' : Hp}
section
variable {k : Nat} {W : WX} {pn : Nat → Bool} {X : Cx} {e a b : Expr} {es : List Expr} {t ta tb te tk tx : TE} {fe fa fb fk fx fv fi : Fe} {pos p apos cpos pos' posT : Pos}
def fSetNd (t : Nat) (fv fi : Fe) : Fst := fun S => (fv S).bind fun d S1 => if (slot S1 t).isSome ∧ flat d = true then (fi S1).bind fun kd S2 => match slot S2 t, toKey kd with
    | some (.nd kvs), some kk => if kvs.length < sizeLine ∧ getK kvs kk = none then .ok .nx (S2.set t (some (.nd (kvs ++ [(kk, d)])))) else .stk
    | _, _ => .stk
  else .stk
def nApp : D → D → D → Option D
  | .nl xs, .int n, x => match ixN xs.length n with
    | some m => match xs[m]? with
      | some (.lst .ow ds) => if ds.length < sizeLine then some (.nl (xs.set m (.lst .ow (ds ++ [x])))) else none
      | _ => none
    | none => none
  | .nd kvs, kd, x => match toKey kd with
    | some kk => match getK kvs kk with
      | some (.lst .ow ds) => if ds.length < sizeLine then some (.nd (setK kvs kk (.lst .ow (ds ++ [x])))) else none
      | _ => none
    | none => none
  | _, _, _ => none
def fNApp (t : Nat) (fk fx : Fe) : Fe := fun S => if (slot S t).isSome then (fk S).bind fun kd S1 => match slot S1 t, fx S1 with
    | some d, .ok x _ => if fz x = true then (match nApp d kd x with
      | some d' => .ok .non (S1.set t (some d'))
      | none => .stk) else .stk
    | _, _ => .stk
  else .stk
end
end
end T3
set_option Elab.async false
set_option linter.all false
set_option maxRecDepth 100000
set_option maxHeartbeats 4000000
namespace T3
open PySem PySem.Spec PyProof.Rows L2 He
end T3
set_option Elab.async false
set_option linter.all false
set_option maxRecDepth 100000
set_option maxHeartbeats 4000000
namespace T3
open PySem PySem.Spec PyProof.Rows L2
section
variable {K : PySem.W.Frag} {mg : Str → Option Value} {Z H Z' H' : Hp} {X : Cx}
def fLm (g : D → D → Option D) (fa fb : Fe) : Fe := fun S => (fa S).bind fun d1 S1 => match d1 with
  | .lst _ _ => (fb S1).bind fun d2 S2 => Rs.ofO (g d1 d2) S2
  | _ => .stk
section
variable {k : Nat} {W : WX} {a b : Expr} {ta tb : TE} {fa fb : Fe} {pos apos cpos : Pos}
end
end
end T3
set_option maxHeartbeats 0
set_option maxRecDepth 100000
namespace T3
open PySem PySem.Spec PyProof.Rows L2
def top (i : Nat) : Stmt := PySem.Challenge.pw_stationrow_k80_mixed_works.main.body.getD i (.Pass ⟨0, 0, 0, 0⟩)
abbrev zz_law_wide : Stmt := top 5
abbrev zz_law_deck : Stmt := top 7
abbrev zz_law_reach : Stmt := top 13
abbrev zz_law_at : Stmt := top 14
abbrev zz_law_sound : Stmt := top 15
abbrev zz_mixed_works : Stmt := top 1
abbrev zz_round_beat : Stmt := top 2
abbrev zz_law_next : Stmt := top 6
abbrev zz_law_names : Stmt := top 4
abbrev zz_law_tasks : Stmt := top 8
abbrev zz_law_orders : Stmt := top 10
abbrev zz_law_pairs : Stmt := top 11
abbrev zz_law_turn : Stmt := top 9
abbrev zz_law_works : Stmt := top 12
abbrev zz_law : Stmt := top 16
def dd_law_wide : He.DefD := ⟨("_law_wide", none), "_law_wide", "_law_wide", defArgs zz_law_wide, defBody zz_law_wide, defScope zz_law_wide, [], []⟩
def dd_law_deck : He.DefD := ⟨("_law_deck", none), "_law_deck", "_law_deck", defArgs zz_law_deck, defBody zz_law_deck, defScope zz_law_deck, [], []⟩
def dd_law_reach : He.DefD := ⟨("_law_reach", none), "_law_reach", "_law_reach", defArgs zz_law_reach, defBody zz_law_reach, defScope zz_law_reach, [], []⟩
def dd_law_at : He.DefD := ⟨("_law_at", none), "_law_at", "_law_at", defArgs zz_law_at, defBody zz_law_at, defScope zz_law_at, [], []⟩
def dd_law_sound : He.DefD := ⟨("_law_sound", none), "_law_sound", "_law_sound", defArgs zz_law_sound, defBody zz_law_sound, defScope zz_law_sound, [], []⟩
def dd_mixed_works : He.DefD := ⟨("mixed_works", none), "mixed_works", "mixed_works", defArgs zz_mixed_works, defBody zz_mixed_works, defScope zz_mixed_works, [], []⟩
def dd_round_beat : He.DefD := ⟨("round_beat", none), "round_beat", "round_beat", defArgs zz_round_beat, defBody zz_round_beat, defScope zz_round_beat, [], []⟩
def dd_law_next : He.DefD := ⟨("_law_next", none), "_law_next", "_law_next", defArgs zz_law_next, defBody zz_law_next, defScope zz_law_next, [], []⟩
def dd_law_names : He.DefD := ⟨("_law_names", none), "_law_names", "_law_names", defArgs zz_law_names, defBody zz_law_names, defScope zz_law_names, [], []⟩
def dd_law_tasks : He.DefD := ⟨("_law_tasks", none), "_law_tasks", "_law_tasks", defArgs zz_law_tasks, defBody zz_law_tasks, defScope zz_law_tasks, [], []⟩
def dd_law_orders : He.DefD := ⟨("_law_orders", none), "_law_orders", "_law_orders", defArgs zz_law_orders, defBody zz_law_orders, defScope zz_law_orders, [], []⟩
def dd_law_pairs : He.DefD := ⟨("_law_pairs", none), "_law_pairs", "_law_pairs", defArgs zz_law_pairs, defBody zz_law_pairs, defScope zz_law_pairs, [], []⟩
def dd_law_turn : He.DefD := ⟨("_law_turn", none), "_law_turn", "_law_turn", defArgs zz_law_turn, defBody zz_law_turn, defScope zz_law_turn, [], []⟩
def dd_law_works : He.DefD := ⟨("_law_works", none), "_law_works", "_law_works", defArgs zz_law_works, defBody zz_law_works, defScope zz_law_works, [], []⟩
def dd_law : He.DefD := ⟨("law", none), "law", "law", defArgs zz_law, defBody zz_law, defScope zz_law, [], []⟩
def hfn : List He.DefD := ([dd_law_wide, dd_law_deck, dd_law_reach, dd_law_at, dd_law_sound, dd_mixed_works, dd_round_beat, dd_law_next, dd_law_names, dd_law_tasks, dd_law_orders, dd_law_pairs, dd_law_turn, dd_law_works, dd_law] : List He.DefD)
def hex (K : PySem.W.Frag) : Bool := true
def hfa : List He.Fa := ([.glo "_law_wide", .glo "_law_deck", .glo "_law_reach", .glo "_law_at", .glo "_law_sound", .glo "mixed_works", .glo "round_beat", .glo "_law_next", .glo "_law_names", .glo "_law_tasks", .glo "_law_orders", .glo "_law_pairs", .glo "_law_turn", .glo "_law_works", .glo "law", .free "Ground", .free "_law_put_in", .free "all", .free "any", .free "enumerate", .free "int", .free "isinstance", .free "len", .free "list", .free "range", .free "repr", .free "sum", .free "tuple", .free "zip"] : List He.Fa)
def htf : List He.Defn := []
abbrev hR : PySem.W.OpenRow := PySem.W.OpenLaw.row PySem.Challenge.rw_stationrow_k80_mixed_works
abbrev hhk : PySem.W.Hook := He.hookX 6 hfa hfn [] htf hex
def hob (s : PySem.W.SharedT) : He.AlX := He.obsX 6 hfa hfn [] htf hex (HandSHeadRun.getT s)
theorem hob_eq (s : PySem.W.SharedT) : hob s = hhk.obs s.abs := He.obsX_eq (HandSHeadRun.getT_eq s)
theorem hrun (w : World) : HandSHeadRun.RunEq hR (PySem.W.view hR.prog [16]) hhk hob 4000 ((["mixed_works", "round_beat", "_law_names", "_law_wide", "_law_next", "_law_deck", "_law_tasks", "_law_turn", "_law_orders", "_law_pairs", "_law_works", "_law_reach", "_law_at", "_law_sound"] : List PySem.Str)) w := by
  intro os
  kernel_rfl
end T3
set_option Elab.async false
set_option linter.all false
set_option maxRecDepth 100000
set_option maxHeartbeats 4000000
namespace T3
open PySem PySem.Spec PyProof.Rows L2
structure RoomX (k : Nat) (A : Around) : Prop where
  dp : A.depth + 3 * k + 5 < recursionLimit
  un : A.units + 16 * k + 200 < cLine
theorem RoomX.of {k : Nat} {A : Around} (r : Room k A) : RoomX k A := ⟨r.dp, r.un⟩
theorem RoomX.mono {j k : Nat} {A : Around} (r : RoomX k A) (h : j ≤ k) : RoomX j A := ⟨by have := r.dp; omega, by have := r.un; omega⟩
theorem RoomX.deeper {k : Nat} {A : Around} (r : RoomX (k + 1) A) (env : Env) : RoomX k (A.deeper env) := ⟨by have := r.dp; show A.depth + 1 + 3 * k + 5 < _; omega, by have := r.un; show A.units + 3 + 16 * k + 200 < _; omega⟩
section
variable {P : Program} {w : World} {K : PySem.W.Frag} {mg : Str → Option Value} {base : Heap} {Z H Z' H' : Hp}
section
variable {k : Nat} {W : WX} {pn : Nat → Bool} {X : Cx} {e a b : Expr} {es : List Expr} {t ta tb : TE} {tr : TA} {fe fa fb : Fe} {fr : Fa} {pos p : Pos}
end
end
end T3
set_option Elab.async false
set_option linter.all false
set_option maxRecDepth 100000
set_option maxHeartbeats 4000000
namespace T3
open PySem PySem.Spec PyProof.Rows L2
section
variable {K : PySem.W.Frag} {mg : Str → Option Value} {X : Cx} {body : List Stmt} {h₀ : ExceptHandler} {hds : List ExceptHandler} {l : List (Value × Option Nat × TS)} {pos : Pos} {Wout : WX} {pn : Nat → Bool} {f : Fst}
end
section
variable {K : PySem.W.Frag} {mg : Str → Option Value} {W : WX} {pn : Nat → Bool} {ns : List Str} {X : Cx} {hds : List ExceptHandler} {l : List (Value × Option Nat × TS)} {fl : List (Str × Option Nat × Fst)} {f h : Fst} {u : TS}
end
end T3
set_option Elab.async false
set_option linter.all false
set_option maxRecDepth 100000
set_option maxHeartbeats 4000000
namespace T3
open PySem PySem.Spec PyProof.Rows L2
section
variable {K : PySem.W.Frag} {mg : Str → Option Value} {Z H Z' H' : Hp}
end
section
variable {K : PySem.W.Frag} {mg : Str → Option Value}
end
section
variable {K : PySem.W.Frag} {mg : Str → Option Value} {k : Nat} {W : WX} {X : Cx} {tge e a b elt : Expr} {ifs : List Expr} {te : TE} {fe : Fe} {pos : Pos}
end
end T3
set_option Elab.async false
set_option linter.all false
set_option maxRecDepth 100000
set_option maxHeartbeats 4000000
namespace T3
open PySem PySem.Spec PyProof.Rows L2
section
variable {prog : Program} {w : World} {A : Around} {E : Value → Shared → Prop} {s : Shared} {d : Addr} {n : Nat} {P : Nat → Value → Prop} {OK : Heap → Prop} {T : String} {e : Addr}
end
section
variable {K : PySem.W.Frag} {mg : Str → Option Value} {Z H : Hp}
end
section
variable {K : PySem.W.Frag} {mg : Str → Option Value} {k : Nat} {W : WX} {X : Cx} {a : Expr} {ta : TE} {fa : Fe} {p pos : Pos}
end
end T3
set_option Elab.async false
set_option linter.all false
set_option maxRecDepth 100000
set_option maxHeartbeats 4000000
namespace T3
open PySem PySem.Spec PyProof.Rows L2 PySem.W
section
variable {X : Cx} {pins : List (Addr × Obj)} {σ : Sg} {H : Hp} {s : Shared}
end
section
variable {X : Cx} {pins : List (Addr × Obj)} {σ : Sg} {H HZ : Hp} {s s1 : Shared} {scope : Scope} {a : Str}
end
section
variable {K : PySem.W.Frag} {mg : Str → Option Value}
open Classical in
end
section
variable {K : PySem.W.Frag} {mg : Str → Option Value} {base : Heap}
variable {P : Program} {w : World}
end
end T3
set_option Elab.async false
set_option linter.all false
set_option maxRecDepth 100000
set_option maxHeartbeats 4000000
namespace T3
open PySem PySem.Spec PyProof.Rows L2
def PT (o : Obj) : Prop := o.cls = .type "tuple" ∧ o.dict = none
section
variable {K : PySem.W.Frag} {mg : Str → Option Value} {Z H Z' H' : Hp} {X : Cx}
section
variable {W : WX}
end
section
variable {k : Nat} {W : WX} {a b : Expr} {ta tb : TE} {fa fb : Fe} {p pos apos cpos : Pos}
end
end
end T3
set_option Elab.async false
set_option linter.all false
set_option maxRecDepth 100000
set_option maxHeartbeats 4000000
namespace T3
open PySem PySem.Spec PyProof.Rows L2
section
variable {prog : Program} {w : World} {A : Around} {R : Result → Shared → Prop} {I S : Addr} {fp wr : List Addr} {n : Nat} {P : Nat → Value → Prop} {St : Nat → Heap → Prop} {num : Nat → Int} {kw : List (Str × Value)}
end
section
variable {X : Cx} {K : PySem.W.Frag} {mg : Str → Option Value} {k : Nat} {W : WX} {e : Expr} {te : TE} {fe : Fe} {p kpos cp pos : Pos} {n : Int} {j : Nat}
end
end T3
set_option Elab.async false
set_option linter.all false
set_option maxRecDepth 100000
set_option maxHeartbeats 4000000
namespace T3
open PySem PySem.Spec PyProof.Rows L2
section
variable {K : PySem.W.Frag} {mg : Str → Option Value} {Z H Z' H' : Hp} {X : Cx}
section
variable {k : Nat} {W : WX} {a b : Expr} {es : List Expr} {ta tb : TE} {tr : TA} {fa fb : Fe} {fr : Fa} {p pos apos cpos : Pos}
end
section
variable {k : Nat} {W : WX} {a b : Expr} {ta tb : TE} {fa fb : Fe} {p pos apos cpos : Pos}
end
end
end T3
set_option Elab.async false
set_option linter.all false
set_option maxRecDepth 100000
set_option maxHeartbeats 4000000
namespace T3
open PySem PySem.Spec PyProof.Rows L2
section
variable {K : PySem.W.Frag} {mg : Str → Option Value} {Z H Z' H' : Hp} {X : Cx}
def shOk (d : PyData) : Bool := d.showable && (!d.hasDict && decide (d.depth ≤ 60 ∧ d.shown.length ≤ sizeLine))
def rRepr (K : PySem.W.Frag) : List V → Hp → VK → Prop := fun xs H Q => ∃ a d, xs = [.ref a] ∧ Dp K H (.ref a) d ∧ shOk d = true ∧ Q (.str d.shown) H
theorem cr_repr (hg : X.A.guards = some []) (hu : X.A.units + 65 < cLine) : CallR X (.builtin "repr") (rRepr X.K) := by
  intro pins s σ H xs us Q I r h
  obtain ⟨a, d, rfl, hd, ho, q⟩ := h
  obtain ⟨u, rfl, ru⟩ := vals1 r
  obtain rfl : u = Value.ref a := ru
  obtain ⟨as, ra⟩ := Dp.reads I d _ _ hd (show RelV (.ref a) (Value.ref a) from rfl)
  unfold shOk at ho
  simp only [Bool.and_eq_true, Bool.not_eq_true', decide_eq_true_eq] at ho
  obtain ⟨h1, h2, h3, h4⟩ := ho
  refine repr_of_reads' ra h1 (fun z => by rw [h2] at z; cases z) hg (by omega) (fun _ _ e => e) (fun h' u tk hk => ?_) h4
  exact ⟨.str d.shown, H, I.kept (t' := tk) hk, ⟨u, rfl⟩, q⟩
def gRepr : D → Option D
  | .tup xs => (toPyL xs).bind fun ps => if shOk (.tuple ps) = true then some (.str (PyData.tuple ps).shown) else none
  | _ => none
theorem opRepr : UnF K mg (fun x H Q => rRepr K [x] H Q) gRepr := fun Z H x dx f d Q hs r e q => by
  unfold gRepr at e
  split at e
  · obtain ⟨ps, e1, e2⟩ := Option.bind_eq_some_iff.mp e
    split at e2
    · cases e2
      obtain ⟨a, vs, rfl, h1, _, l1⟩ := r.tup_inv
      exact ⟨a, .tuple ps, rfl, .tup (.of (hs _ _ h1)) (l1.dp hs e1), ‹_›, q _ Z H [] (.str _) (.refl hs)⟩
    · cases e2
  · cases e
def gEqT : D → D → Option D
  | .str a, .str b => some (.bl (decide (a = b)))
  | _, _ => none
def gNeT : D → D → Option D
  | .str a, .str b => some (.bl (!decide (a = b)))
  | _, _ => none
theorem opEqT : OpF K mg rEq gEqT := by
  intro Z H x y dx dy f1 f2 d Q hs r1 r2 e q
  unfold gEqT at e
  split at e
  · obtain ⟨rfl, _⟩ := r1.str_inv
    obtain ⟨rfl, _⟩ := r2.str_inv
    cases e
    refine ⟨rfl, ?_⟩
    have e1 : ∀ a b : Str, decide (V.str a = V.str b) = decide (a = b) := fun a b => by rw [Bool.eq_iff_iff]; simp
    rw [e1]
    exact q _ Z H [] (.bl _) (.refl hs)
  · cases e
theorem opNeT : OpF K mg rNe gNeT := by
  intro Z H x y dx dy f1 f2 d Q hs r1 r2 e q
  unfold gNeT at e
  split at e
  · obtain ⟨rfl, _⟩ := r1.str_inv
    obtain ⟨rfl, _⟩ := r2.str_inv
    cases e
    refine ⟨rfl, ?_⟩
    have e1 : ∀ a b : Str, decide (V.str a = V.str b) = decide (a = b) := fun a b => by rw [Bool.eq_iff_iff]; simp
    rw [e1]
    exact q _ Z H [] (.bl _) (.refl hs)
  · cases e
section
variable {k : Nat} {W : WX} {a : Expr} {ta : TE} {fa : Fe} {p pos : Pos}
theorem fe_repr (c : Ct K mg k W X) (hg : X.A.guards = some []) (hm : mg "repr" = none) (ha : VE K mg W X a ta fa) (hg2 : Gl X "repr" := by rfl) (hs : starEach [a] X.env = (false, eval a X.env) :: starEach [] X.env := by rfl) (hpl : (backTo pos (starEach [] X.env)).any (·.1) = false := by rfl) :
    FE K mg W X (.Call (.Name "repr" p) [a] [] pos) (tUn (fun x H Q => rRepr K [x] H Q) ta) (fUn gRepr fa) := fe_call1 c (by have h := cr_repr (X := X) hg (by have := c.hu; omega); rw [c.hK] at h; exact h) opRepr hm (by decide +kernel) ha hg2 (by decide) (by decide) hs hpl
end
end
end T3
set_option Elab.async false
set_option linter.all false
set_option maxRecDepth 100000
set_option maxHeartbeats 4000000
namespace T3
open PySem PySem.Spec PyProof.Rows L2
section
variable {P : Program} {w : World} {K : PySem.W.Frag} {mg : Str → Option Value} {base : Heap}
def AtTop (P : Program) (w : World) (K : PySem.W.Frag) (mg : Str → Option Value) (base : Heap) (f : Addr) (fd : FuncData) (ps : List Str) (sp : Sp) : Prop :=
  ∀ (s : Shared) (H : Hp) (args : Args) (us : List Value) (vs : List V) (Q : VK) (E : XK), Env0 P w K mg base callerA [] s H → BindsTo s fd args (ps.zip us) → Vals vs us → sp vs H Q E →
    codeAny (model P w) callerA (.call (.ref f) args) (CR (L2.CX P w) [] P w H s Q E) s
def BodyG (P : Program) (w : World) (K : PySem.W.Frag) (mg : Str → Option Value) (base : Heap) (k : Nat) (N : List Str) (scope : Scope) (body : List Stmt) (io : List Bool) (f : Fst) : Prop :=
  ∀ (qual : Str) (fA : Addr) (cdv : Value) (s : Shared) (H : Hp) (E : XK), Ct K mg k (WE E) (XD P w K mg base N qual scope fA cdv callerA [] s H E) → ∃ t, FS K mg (WE E) (pnOf io) (XD P w K mg base N qual scope fA cdv callerA [] s H E) body t f
theorem def_okG {x qual : Str} {params : Arguments} {body : List Stmt} {scope : Scope} {fA : Addr} {fd : FuncData} {N ps : List Str} {k m : Nat} {io : List Bool} {f : Fst} (F : FunD K x qual params body scope [] [] fA fd) (S : FnScope N ps scope) (hp : ps.length = io.length) (hN : N.length = io.length + m)
    (hr : Room (k + 1) callerA) (B : BodyG P w K mg base k N scope body io f) : AtTop P w K mg base fA fd ps (SpF K mg io.length (runB io m f)) := by
  intro s H args us vs Q E e0 hb r h
  have hlen : vs.length = ps.length := by
    obtain ⟨_, _, _, _, hl, _⟩ := h
    rw [hl, hp]
  obtain ⟨oc, od, dV, kV, doc, pm, an, cdv, ct, osl, rfl, lk, hcd, _, _⟩ := F.ex
  have c : Ct K mg k (WE E) (XD P w K mg base N qual scope fA cdv callerA [] s H E) := ⟨rfl, rfl, rfl, hr.deeper _, passes_of rfl, S.nd, takes_of rfl rfl rfl rfl⟩
  obtain ⟨t, d⟩ := B qual fA cdv s H E c
  have go := run_spec d.fn hN (fun _ _ _ _ h => h) h
  have KX : K.In s.heap := e0.mod.kin.keeps fun b o e => (e0.bs b o e).1
  have names : ∀ y ∈ ps.zip us, scope.names.lookup y.1 = some .local ∨ (scope.names.lookup y.1 = some .cell ∧ ((cellsFrom (s.heap.objs.size + 1) scope.names []).lookup y.1).isSome = true) := fun y hy =>
    (S.par y.1 (List.of_mem_zip hy).1).imp id fun q => ⟨q, PySem.W.cellsFrom_some _ _ _ (.inl q)⟩
  refine codeAny_call_function hr.depth (KX _ _ lk) rfl S.co S.gen rfl (PySem.W.codeRec_of KX hcd) (hb _ _ _ _ ?_)
  refine wpAny_newFunctionEnv_cells S.kind names fun env he s1 x => ?_
  subst he
  refine ⟨(e0.mod.nolimit.keeps fun b o e => (e0.bs b o e).1).keeps x.toInCall.keep, codeAny_func ?_⟩
  have I : Inv (XD P w K mg base N qual scope fA cdv callerA [] s H E) [] (start N vs) H s1 := inv_start S hr.hd e0 hlen r x
  refine wpAny_mono (d.ps.run [] s1 (start N vs) H _ I go) (fun fl s' hs => ?_) fun e s' hs => hs
  cases fl with
  | ret u =>
    obtain ⟨v, σ', H', J, rv, q⟩ := hs
    exact ⟨v, H', J.os, J.bare, J.base, J.hok, rv, q⟩
  | next =>
    obtain ⟨σ', H', J, q⟩ := hs
    exact ⟨V.non, H', J.os, J.bare, J.base, J.hok, rfl, q⟩
  | brk =>
    obtain ⟨_, _, _, q⟩ := hs
    exact q.elim
  | cont =>
    obtain ⟨_, _, _, q⟩ := hs
    exact q.elim
end
def scrH (K : PySem.W.Frag) (a : Addr) (vs : List Value) (ns : List Int) : Hp := fun b => if b = a ∧ K.lookup a = none then some (.frz { cls := .type "list", data := .seq vs.toArray } (.lst (ns.map V.int))) else none
theorem top_call {P : Program} {w : World} {K : PySem.W.Frag} {mg mb : Str → Option Value} {fa a : Addr} {fd : FuncData} {x : Str} {F : List D → Rs D} {s₁ : Shared} {vs : List Value} {ns : List Int}
    (KX : K.In s₁.heap) (hns : s₁.heap.Ns mainGlobals mg) (hb : s₁.heap.Ns builtinsNs mb) (hbb : ∀ x : Str, x ≠ "__name__" → mb x = bootBuiltins x) (hlim : s₁.heap.NoLimit) (hg : s₁.gens = #[])
    (ha : s₁.heap.get? a = some { cls := .type "list", data := .seq vs.toArray }) (hi : IntsAre vs ns) (hl : ns.length ≤ sizeLine) (hlam : lamT K = [])
    (top : ∀ base : Heap, K.In base → base.Ns mainGlobals mg → AtTop P w K mg base fa fd [x] (SpF K mg 1 F)) (hbind : ∀ (s : Shared) (u : Value), BindsTo s fd ⟨[u], []⟩ [(x, u)])
    (law : ∃ o, F [.lst .ex (ns.map .int)] = .ok (.bl true) o) :
    codeAny (model P w) callerA (.call (.ref fa) ⟨[.ref a], []⟩) (fun r s' => r = .ok (.ret (.bool true)) ∧ OldK s₁.heap s'.heap ∧ s'.os = s₁.os ∧ AllBare s'.gens) s₁ := by
  have rv := vals_ints hi
  have hlen := hi.length
  have one : ∀ {b : Addr} {u : HO}, scrH K a vs ns b = some u → b = a ∧ K.lookup a = none ∧ u = .frz { cls := .type "list", data := .seq vs.toArray } (.lst (ns.map V.int)) := fun {b u} h => by
    unfold scrH at h
    split at h
    · cases h
      exact ⟨‹b = a ∧ _›.1, ‹b = a ∧ _›.2, rfl⟩
    · cases h
  have base_of : ∀ {b : Addr} {o : Obj}, s₁.heap.get? b = some o → scrH K a vs ns b = none → (hidT s₁.heap (scrH K a vs ns)).get? b = some o := fun e n => hidT_get e n
  have free : ∀ {b : Addr}, (b = a → K.lookup a ≠ none) → scrH K a vs ns b = none := fun {b} h => by
    unfold scrH
    rw [if_neg fun z => h z.1 z.2]
  have noD : ∀ {b : Addr} {o : Obj} {es : Array DictEntry} {ep : Nat}, s₁.heap.get? b = some o → o.data = .dict es ep → scrH K a vs ns b = none := fun {b o es ep} e d => by
    by_cases h : b = a
    · rw [h, ha] at e
      cases e
      exact absurd d (by simp)
    · exact free fun z => absurd z h
  have nsB : ∀ {b : Addr} {m : Str → Option Value}, s₁.heap.Ns b m → (hidT s₁.heap (scrH K a vs ns)).Ns b m := fun {b m} ⟨o, es, ep, e, d, r⟩ => ⟨o, es, ep, base_of e (noD e d), d, r⟩
  have inB : K.In (hidT s₁.heap (scrH K a vs ns)) := fun b o e => base_of (KX b o e) (free fun z => by rw [← z, e]; simp)
  have hok : HOk P w (scrH K a vs ns) s₁.heap := fun b u h => by
    obtain ⟨rfl, _, rfl⟩ := one h
    exact ⟨ha, by rw [List.length_map]; exact hl, vs, _, rv, ha⟩
  have hM : Mod K mg (hidT s₁.heap (scrH K a vs ns)) := ⟨inB, nsB hns, ⟨mb, nsB hb, hbb⟩, let ⟨mc, h1, h2⟩ := hlim; ⟨mc, nsB h1, h2⟩⟩
  have e0 : Env0 P w K mg (hidT s₁.heap (scrH K a vs ns)) callerA [] s₁ (scrH K a vs ns) := ⟨rfl, hM, fun b o e => of_hidT e, Nat.le_of_eq (hidT_size _ _), trivial, fun b hb => absurd (show b ∈ ([] : List Addr) from hb) (by simp), hok, .of_eq hg⟩
  have hS : SqL K (scrH K a vs ns) a (ns.map V.int) := by
    cases hk : K.lookup a with
    | none =>
      refine .inl (.inr ⟨{ cls := .type "list", data := .seq vs.toArray }, ?_⟩)
      unfold scrH
      rw [if_pos ⟨rfl, hk⟩]
    | some o =>
      have e := KX a o hk
      rw [ha] at e
      cases e
      exact .inr ⟨_, vs.toArray, _, hk, rfl, rfl, rfl, by rw [List.size_toArray, hlen]; exact hl, by simpa using rv⟩
  have rl : ∀ (Z H : Hp) (ns : List Int), RpL K mg Z H (ns.map V.int) (ns.map D.int) := fun Z H ns => by
    induction ns with
    | nil => exact .nil
    | cons z t ih => exact .cons (.int z) ih
  have hsp : SpF K mg 1 F [.ref a] (scrH K a vs ns) (fun v _ => v = .bl true) fun _ _ _ => False := by
    obtain ⟨o, e⟩ := law
    refine ⟨scrH K a vs ns, [.lst .ex (ns.map .int)], [], ⟨.yes (f := []) (.lst (o := .ex) ⟨⟨_, rfl, hS⟩, rfl⟩ (rl _ _ ns)) .nil, List.nodup_nil, fun b o e => e, fun q hq => ?_, fun b o e => ?_⟩, rfl, ?_⟩
    · rw [hlam] at hq
      cases hq
    · obtain ⟨_, _, rfl⟩ := one e
      intro ps z
      cases z
    · rw [e]
      intro v Z' H' f' g' r _ _ _
      cases r
      rfl
  refine codeAny_mono (top _ inB (nsB hns) s₁ _ ⟨[.ref a], []⟩ [.ref a] [.ref a] _ _ e0 (hbind s₁ (.ref a)) (.cons rfl .nil) hsp) fun r s' h => ?_
  cases r with
  | error e =>
    obtain ⟨_, _, _, _, _, _, _, _, _, _, _, _, h⟩ := h
    exact h.elim
  | ok fl =>
    cases fl with
    | next => exact False.elim h
    | brk => exact False.elim h
    | cont => exact False.elim h
    | ret u =>
      obtain ⟨v, H', os, bare, un, hok', r', q⟩ := h
      obtain rfl : v = .bl true := q
      obtain rfl : u = Value.bool true := r'
      refine ⟨rfl, OldK.of_keep fun b o e => ?_, os, bare⟩
      cases q : scrH K a vs ns b with
      | none => exact un.keep b o e q (by intro z; exact absurd (show b ∈ ([] : List Addr) from z) (by simp)) (by simp)
      | some u =>
        obtain ⟨_, _, rfl⟩ := one q
        have z2 := un.frzs b _ _ q
        obtain ⟨e1, _⟩ := hok b _ q
        obtain ⟨e2, _⟩ := hok' b _ z2
        rw [e] at e1
        cases e1
        exact e2
theorem walk_T3G {l : PySem.W.OpenLaw} {n : Nat} {q : Program} {loose : List Str} {XP : (Str → Option Value) → Heap → Prop} {YP : World → Heap → Prop} {d : DefRec} {x : Str} {F : List D → Rs D}
    (hn : l.most = some n) (hn2 : n ≤ sizeLine) (hdf : d.params.defaults = [])
    (Fc : ∀ (w : World) (mg : Str → Option Value) (fa : Addr) (h : Heap), YP w h → h.Ns mainGlobals mg → mg d.name = some (.ref fa) →
      ∃ (K : PySem.W.Frag) (fd : FuncData), K.In h ∧ lamT K = [] ∧ (∀ (s : Shared) (u : Value), BindsTo s fd ⟨[u], []⟩ [(x, u)]) ∧
        ∀ base : Heap, K.In base → base.Ns mainGlobals mg → AtTop l.prog w K mg base fa fd [x] (SpF K mg 1 F))
    (law : ∀ ns : List Int, ns.length ≤ n → (∀ z ∈ ns, Builtin.Int.intBits z ≤ 1048576) → ∃ o, F [.lst .ex (ns.map .int)] = .ok (.bl true) o) :
    PySem.W.WalkO q loose XP YP l.row.toRowW d [] (fun f vs => PySem.call f vs) := by
  refine Att.attach_callB hn hdf fun w s₀ s₁ mg mb fa o pm cd doc a vs ns G Y ho hd hcd hmg hobj hints hlen hbits hg => ?_
  obtain ⟨K, fd, KX, hlam, hb, top⟩ := Fc w mg fa _ Y G.T.g hmg
  exact top_call KX G.T.g G.T.b G.T.builtins G.T.nolimit hg hobj hints (Nat.le_trans hlen hn2) hlam top hb (law ns hlen hbits)
end T3
set_option Elab.async false
set_option linter.all false
set_option maxRecDepth 100000
set_option maxHeartbeats 4000000
namespace T3
open PySem PySem.Spec PyProof.Rows L2
abbrev PE := D → SS → Prop
section
variable {α : Type} {P : α → SS → Prop} {E : D → SS → Prop} {S S1 S2 : SS}
structure Rs.ps {α : Type} (r : Rs α) (P : α → SS → Prop) (E : D → SS → Prop) : Prop where mk' ::
  h : r.post P E
theorem Rs.ps_mono {α : Type} {r : Rs α} {P P' : α → SS → Prop} {E E' : D → SS → Prop} (h : r.ps P E) (hp : ∀ a S, P a S → P' a S) (he : ∀ e S, E e S → E' e S) : r.ps P' E' := ⟨Rs.post_mono h.h hp he⟩
def stK (S : SS) (R : SS → Prop) : Prop := R S
theorem st_go {S S' : SS} {R : SS → Prop} (h : S = S') (p : R S') : stK S R := by subst h; exact p
def gv {α : Type} (o : Option α) (P : α → Prop) : Prop := ∃ d, o = some d ∧ P d
theorem gv_some {d : α} {P : α → Prop} (p : P d) : gv (some d) P := ⟨d, rfl, p⟩
theorem gv_of {o : Option α} {d : α} {P : α → Prop} (h : o = some d) (p : P d) : gv o P := ⟨d, h, p⟩
theorem gv_if {c : Prop} [Decidable c] {o : Option α} {P : α → Prop} (h : c) (p : gv o P) : gv (if c then o else none) P := by rw [if_pos h]; exact p
theorem w_ofO {o : Option α} (p : gv o fun a => P a S) : (Rs.ofO o S).ps P E := by
  obtain ⟨d, rfl, p⟩ := p
  exact ⟨p⟩
theorem w_bind {β : Type} {r : Rs β} {f : β → SS → Rs α} (p : r.ps (fun a S => (f a S).post P E) E) : (r.bind f).ps P E := ⟨Rs.bind_post.mpr p.h⟩
theorem w_bh {β : Type} {r : Rs β} {f : β → SS → Rs α} (p : r.ps (fun a S => (f a S).post P E) E) : (r.bind f).post P E := Rs.bind_post.mpr p.h
theorem w_oh {o : Option α} (p : gv o fun a => P a S) : (Rs.ofO o S).post P E := (w_ofO p).h
end
section
variable {P : D → SS → Prop} {Q : Fl → SS → Prop} {B : Bool → SS → Prop} {E : D → SS → Prop} {S S1 S2 : SS} {fa fb fc : Fe} {f h : Fst} {g g' : D → D → Option D} {g1 : D → Option D} {i : Nat} {d : D}
theorem w_c (p : P d S) : (fC d S).ps P E := ⟨p⟩
theorem w_var (hs : slot S i = some d) (hf : fz d = true) (p : P d S) : (fVar i S).ps P E := by unfold fVar; rw [hs]; dsimp only; rw [if_pos hf]; exact ⟨p⟩
theorem w_varO (hs : slot S i = some d) (hf : fz d = false) (p : stK (S.set i none) (P d)) : (fVar i S).ps P E := by unfold fVar; rw [hs]; dsimp only; rw [if_neg (by rw [hf]; decide)]; exact ⟨p⟩
theorem w_view (hs : slot S i = some d) (p : P d S) : (fView i S).ps P E := by unfold fView; rw [hs]; exact ⟨p⟩
theorem w_op (p : (fa S).ps (fun d1 S1 => (fb S1).ps (fun d2 S2 => gv (g d1 d2) fun d => P d S2) E) E) : (fOp g fa fb S).ps P E :=
  w_bind (Rs.ps_mono p (fun _ _ q => w_bh (Rs.ps_mono q (fun _ _ r => w_oh r) fun _ _ z => z)) fun _ _ z => z)
theorem w_opN {d0 : D} (hs : slot S i = some d0) (p : (fb S).ps (fun d2 S2 => ∃ d1, slot S2 i = some d1 ∧ gv (g d1 d2) fun d => P d S2) E) : (fOpN g i fb S).ps P E := by
  unfold fOpN
  rw [if_pos (by rw [hs]; rfl)]
  refine w_bind (Rs.ps_mono p (fun d2 S2 q => ?_) fun _ _ z => z)
  obtain ⟨d1, e, q⟩ := q
  rw [e]
  exact w_oh q
theorem w_sl2 {R : D → Prop} {d1 : D} (hs : slot S i = some d1) (p : R d1) : ∃ d1, slot S i = some d1 ∧ R d1 := ⟨_, hs, p⟩
theorem w_un (p : (fa S).ps (fun d1 S1 => gv (g1 d1) fun d => P d S1) E) : (fUn g1 fa S).ps P E := w_bind (Rs.ps_mono p (fun _ _ r => w_oh r) fun _ _ z => z)
def frzK (P : D → SS → Prop) (d : D) (S : SS) : Prop := P (frz d) S
theorem fz_int {n : Int} (p : P (.int n) S) : frzK P (.int n) S := p
theorem fz_str {n : Str} (p : P (.str n) S) : frzK P (.str n) S := p
theorem fz_bl {n : Bool} (p : P (.bl n) S) : frzK P (.bl n) S := p
theorem fz_non (p : P .non S) : frzK P .non S := p
theorem fz_tup {n : List D} (p : P (.tup n) S) : frzK P (.tup n) S := p
theorem fz_lst {n : List D} (p : P (.lst .fz n) S) : frzK P (.lst .ow n) S := p
theorem fz_lstF {n : List D} (p : P (.lst .fz n) S) : frzK P (.lst .fz n) S := p
theorem fz_dK {n} (p : P (.dK .fz n) S) : frzK P (.dK .ow n) S := p
theorem fz_dKF {n} (p : P (.dK .fz n) S) : frzK P (.dK .fz n) S := p
theorem fz_dT {n} (p : P (.dT .fz n) S) : frzK P (.dT .ow n) S := p
theorem fz_dTF {n} (p : P (.dT .fz n) S) : frzK P (.dT .fz n) S := p
theorem fz_ins {c n} (p : P (.ins .fz c n) S) : frzK P (.ins .ow c n) S := p
theorem fz_insF {c n} (p : P (.ins .fz c n) S) : frzK P (.ins .fz c n) S := p
theorem fz_of {d1 : D} (h : fz d1 = true) (p : P d1 S) : frzK P d1 S := by unfold frzK; rw [frz_of h]; exact p
theorem w_fz (p : (fa S).ps (frzK P) E) : (fFz fa S).ps P E := w_bind p
theorem w_if {c : SS → Rs Bool} (p : (c S).ps (fun b S1 => (b = true → (fa S1).ps P E) ∧ (b = false → (fb S1).ps P E)) E) : (fIfE c fa fb S).ps P E :=
  w_bind (Rs.ps_mono p (fun b S1 q => by
    try dsimp only
    cases b with
    | true => exact (q.1 rfl).h
    | false => exact (q.2 rfl).h) fun _ _ z => z)
theorem w_notV (p : (fa S).ps (fun d S1 => ∃ b, d = .bl b ∧ P (.bl (!b)) S1) E) : (fNotV fa S).ps P E :=
  w_bind (Rs.ps_mono p (fun d S1 q => by obtain ⟨b, rfl, q⟩ := q; exact q) fun _ _ z => z)
theorem w_andV (p : (fa S).ps (fun d S1 => ∃ b, d = .bl b ∧ (b = true → (fb S1).ps P E) ∧ (b = false → P (.bl false) S1)) E) : (fAndV fa fb S).ps P E :=
  w_bind (Rs.ps_mono p (fun d S1 q => by
    obtain ⟨b, rfl, q⟩ := q
    cases b with
    | true => exact (q.1 rfl).h
    | false => exact q.2 rfl) fun _ _ z => z)
theorem w_orV (p : (fa S).ps (fun d S1 => ∃ b, d = .bl b ∧ (b = true → P (.bl true) S1) ∧ (b = false → (fb S1).ps P E)) E) : (fOrV fa fb S).ps P E :=
  w_bind (Rs.ps_mono p (fun d S1 q => by
    obtain ⟨b, rfl, q⟩ := q
    cases b with
    | true => exact q.1 rfl
    | false => exact (q.2 rfl).h) fun _ _ z => z)
theorem w_test (p : (fa S).ps (fun d S1 => ∃ b, d = .bl b ∧ B b S1) E) : (fTest fa S).ps B E :=
  w_bind (Rs.ps_mono p (fun d S1 q => by obtain ⟨b, rfl, q⟩ := q; exact q) fun _ _ z => z)
theorem w_blx {b : Bool} {R : Bool → Prop} (p : R b) : ∃ b', (D.bl b) = .bl b' ∧ R b' := ⟨b, rfl, p⟩
theorem w_not {c : SS → Rs Bool} (p : (c S).ps (fun b S1 => B (!b) S1) E) : (fNot c S).ps B E := w_bind p
theorem w_and {c c' : SS → Rs Bool} (p : (c S).ps (fun b S1 => (b = true → (c' S1).ps B E) ∧ (b = false → B false S1)) E) : (fAnd c c' S).ps B E :=
  w_bind (Rs.ps_mono p (fun b S1 q => by
    try dsimp only
    cases b with
    | true => exact (q.1 rfl).h
    | false => exact q.2 rfl) fun _ _ z => z)
theorem w_or {c c' : SS → Rs Bool} (p : (c S).ps (fun b S1 => (b = true → B true S1) ∧ (b = false → (c' S1).ps B E)) E) : (fOr c c' S).ps B E :=
  w_bind (Rs.ps_mono p (fun b S1 q => by
    try dsimp only
    cases b with
    | true => exact q.1 rfl
    | false => exact (q.2 rfl).h) fun _ _ z => z)
theorem w_yes (p : B true S) : (fYes S).ps B E := ⟨p⟩
theorem w_nex {α : Type} {r : Rs α} {P : α → SS → Prop} {E : D → SS → Prop} (p : r.ps P fun _ _ => False) : r.noexc.ps P E := by
  cases r with
  | ok a S => exact ⟨p.h⟩
  | exc e S => exact (show False from p.h).elim
  | stk => exact (show False from p.h).elim
def seqK (h : Fst) (Q : Fl → SS → Prop) (E : D → SS → Prop) : Fl → SS → Prop
  | .nx, S => (h S).ps Q E
  | .bk, S => Q .bk S
  | .ct, S => Q .ct S
  | .rt d, S => Q (.rt d) S
theorem w_seq (p : (f S).ps (seqK h Q E) E) : (fSeq f h S).ps Q E :=
  w_bind (Rs.ps_mono p (fun fl S1 q => by cases fl with | nx => exact q.h | bk => exact q | ct => exact q | rt d => exact q) fun _ _ z => z)
theorem k_nx (p : (h S).ps Q E) : seqK h Q E .nx S := p
theorem k_rt (p : Q (.rt d) S) : seqK h Q E (.rt d) S := p
theorem k_bk (p : Q .bk S) : seqK h Q E .bk S := p
theorem k_ct (p : Q .ct S) : seqK h Q E .ct S := p
theorem w_next (p : Q .nx S) : (fNext S).ps Q E := ⟨p⟩
theorem w_break (p : Q .bk S) : (fBreak S).ps Q E := ⟨p⟩
theorem w_cont (p : Q .ct S) : (fCont S).ps Q E := ⟨p⟩
theorem w_fzS (p : stK (fzSlot i S) fun S1 => (f S1).ps Q E) : (fFzS i f S).ps Q E := p
def tgt (ft : Ft) (d : D) (S : SS) (R : SS → Prop) : Prop := ∃ S1, ft d S = some S1 ∧ R S1
def tgts (ft : Fts) (ds : List D) (S : SS) (R : SS → Prop) : Prop := ∃ S1, ft ds S = some S1 ∧ R S1
theorem tg_name {R : SS → Prop} (p : stK (S.set i (some d)) R) : tgt (ftName i) d S R := ⟨_, rfl, p⟩
theorem tg_tup {R : SS → Prop} {fts : Fts} {ds : List D} (p : tgts fts ds S R) : tgt (ftTup fts) (.tup ds) S R := p
theorem tgs_nil {R : SS → Prop} (p : R S) : tgts ftNil [] S R := ⟨_, rfl, p⟩
theorem tgs_cons {R : SS → Prop} {ft : Ft} {fts : Fts} {ds : List D} (p : tgt ft d S fun S1 => tgts fts ds S1 R) : tgts (ftCons ft fts) (d :: ds) S R := by
  obtain ⟨S1, e1, S2, e2, p⟩ := p
  refine ⟨S2, ?_, p⟩
  show (ft d S).bind _ = _
  rw [e1]
  exact e2
theorem w_asg {ft : Ft} (p : (fa S).ps (fun d S1 => tgt ft d S1 fun S2 => Q .nx S2) E) : (fAsg fa ft S).ps Q E :=
  w_bind (Rs.ps_mono p (fun d S1 q => by
    obtain ⟨S2, e, q⟩ := q
    try dsimp only
    rw [e]
    exact q) fun _ _ z => z)
theorem w_drop (p : (fa S).ps (fun _ S1 => Q .nx S1) E) : (fDrop fa S).ps Q E := w_bind p
theorem w_ret (p : (fa S).ps (fun d S1 => Q (.rt d) S1) E) : (fRet fa S).ps Q E := w_bind p
theorem w_retN (p : Q (.rt .non) S) : (fRetN S).ps Q E := ⟨p⟩
theorem w_ifS {c : SS → Rs Bool} (p : (c S).ps (fun b S1 => (b = true → (f S1).ps Q E) ∧ (b = false → (h S1).ps Q E)) E) : (fIf c f h S).ps Q E :=
  w_bind (Rs.ps_mono p (fun b S1 q => by
    try dsimp only
    cases b with
    | true => exact (q.1 rfl).h
    | false => exact (q.2 rfl).h) fun _ _ z => z)
theorem w_setIx (p : (fa S).ps (frzK fun d S1 => ∃ c0, slot S1 i = some c0 ∧ (fb S1).ps (fun k S2 => ∃ c, slot S2 i = some c ∧ gv (gSet c k d) fun c' => stK (S2.set i (some c')) (Q .nx)) E) E) : (fSetIx i fa fb S).ps Q E :=
  w_bind (Rs.ps_mono p (fun d S1 q => by
    obtain ⟨c0, e0, q⟩ := q
    try dsimp only
    rw [if_pos (by rw [e0]; rfl)]
    exact w_bh (Rs.ps_mono q (fun k S2 r => by
      obtain ⟨c, e, c', e', r⟩ := r
      try dsimp only
      rw [e]
      try dsimp only
      rw [e']
      exact r) fun _ _ z => z)) fun _ _ z => z)
abbrev PI := List D → SS → Prop
variable {fi : Fit} {ft : Ft} {J : List D → SS → Prop}
theorem w_itSeq (p : (fa S).ps (fun d S1 => gv (seqOf d) fun ds => J ds S1) E) : (fItSeq fa S).ps J E := w_bind (Rs.ps_mono p (fun _ _ r => w_oh r) fun _ _ z => z)
theorem w_rng1 (p : (fa S).ps (fun d S1 => ∃ n : Int, d = .int n ∧ (-(2 ^ 62) ≤ n ∧ n < 2 ^ 62) ∧ J (intsD 0 n.toNat) S1) E) : (fRng1 fa S).ps J E :=
  w_bind (Rs.ps_mono p (fun d S1 q => by
    obtain ⟨n, rfl, h, q⟩ := q
    try dsimp only
    rw [if_pos h]
    exact q) fun _ _ z => z)
theorem w_rng2 (p : (fa S).ps (fun d S1 => ∃ a : Int, d = .int a ∧ (fb S1).ps (fun d2 S2 => ∃ b : Int, d2 = .int b ∧ (-(2 ^ 62) ≤ a ∧ a < 2 ^ 62 ∧ -(2 ^ 62) ≤ b ∧ b < 2 ^ 62) ∧ J (intsD a (b - a).toNat) S2) E) E) : (fRng2 fa fb S).ps J E :=
  w_bind (Rs.ps_mono p (fun d S1 q => by
    obtain ⟨n, rfl, q⟩ := q
    exact w_bh (Rs.ps_mono q (fun d2 S2 r => by
      obtain ⟨m, rfl, h, r⟩ := r
      try dsimp only
      rw [if_pos h]
      exact r) fun _ _ z => z)) fun _ _ z => z)
def enK (R : List D → Prop) : D → Prop
  | .lst _ ds => R ds
  | .tup ds => R ds
  | _ => False
theorem en_lst {o : Tg} {ds : List D} {R : List D → Prop} (p : R ds) : enK R (.lst o ds) := p
theorem en_tup {ds : List D} {R : List D → Prop} (p : R ds) : enK R (.tup ds) := p
theorem w_enum (p : (fa S).ps (fun d S1 => enK (fun ds => J (enumD ds) S1) d) E) : (fEnum fa S).ps J E :=
  w_bind (Rs.ps_mono p (fun d S1 q => by
    cases d <;> first | exact (show False from q).elim | exact q) fun _ _ z => z)
theorem w_for (p : (fi S).ps (fun ds S1 => (fLoop ft f ds S1).ps Q E) E) : (fFor fi ft f S).ps Q E := w_bind (Rs.ps_mono p (fun _ _ q => q.h) fun _ _ z => z)
def turnK (R : SS → Prop) (Q : Fl → SS → Prop) : Fl → SS → Prop
  | .nx, S => R S
  | .ct, S => R S
  | .bk, S => Q .nx S
  | .rt d, S => Q (.rt d) S
theorem w_loop {ds : List D} (I : Nat → SS → Prop) (h0 : I 0 S) (turn : ∀ i d S, ds[i]? = some d → I i S → tgt ft d S fun S1 => (f S1).ps (turnK (I (i + 1)) Q) E) (fin : ∀ S, I ds.length S → Q .nx S) : (fLoop ft f ds S).ps Q E := by
  have key : ∀ (rest : List D) (i : Nat) (S : SS), rest = ds.drop i → i ≤ ds.length → I i S → (fLoop ft f rest S).ps Q E := by
    intro rest
    induction rest with
    | nil =>
      intro i S e hi hI
      have : ds.length ≤ i := by
        have := congrArg List.length e
        simp at this
        omega
      have e2 : i = ds.length := by omega
      subst e2
      exact ⟨fin S hI⟩
    | cons d rest ih =>
      intro i S e hi hI
      have hlt : i < ds.length := by
        have := congrArg List.length e
        simp at this
        omega
      rw [List.drop_eq_getElem_cons hlt] at e
      injection e with e1 e2
      obtain ⟨S1, e3, p⟩ := turn i d S (by rw [List.getElem?_eq_getElem hlt, e1]) hI
      unfold fLoop
      rw [e3]
      refine w_bind (Rs.ps_mono p (fun fl S2 q => ?_) fun _ _ z => z)
      cases fl with
      | nx => exact (ih (i + 1) S2 e2 hlt q).h
      | ct => exact (ih (i + 1) S2 e2 hlt q).h
      | bk => exact q
      | rt d => exact q
  exact key ds 0 S rfl (Nat.zero_le _) h0
theorem t_nx {R : SS → Prop} (p : R S) : turnK R Q .nx S := p
theorem t_ct {R : SS → Prop} (p : R S) : turnK R Q .ct S := p
theorem t_bk {R : SS → Prop} (p : Q .nx S) : turnK R Q .bk S := p
theorem t_rt {R : SS → Prop} (p : Q (.rt d) S) : turnK R Q (.rt d) S := p
theorem w_while {c : SS → Rs Bool} {n : Nat} (I : Nat → SS → Prop) (m : Nat) (hm : m < n) (h0 : I m S)
    (turn : ∀ m S, I m S → (c S).ps (fun b S1 => (b = true → (f S1).ps (turnK (fun S2 => ∃ m', m' < m ∧ I m' S2) Q) E) ∧ (b = false → Q .nx S1)) E) : (fWhile c f n S).ps Q E := by
  induction n generalizing m S with
  | zero => omega
  | succ n ih =>
    unfold fWhile
    refine w_bind (Rs.ps_mono (turn m S h0) (fun b S1 q => ?_) fun _ _ z => z)
    try dsimp only
    cases b with
    | false => exact q.2 rfl
    | true =>
      refine w_bh (Rs.ps_mono (q.1 rfl) (fun fl S2 q => ?_) fun _ _ z => z)
      cases fl with
      | nx => obtain ⟨m', h1, h2⟩ := q; exact (ih m' (by omega) h2).h
      | ct => obtain ⟨m', h1, h2⟩ := q; exact (ih m' (by omega) h2).h
      | bk => exact q
      | rt d => exact q
variable {tt : SS → Rs Bool} {vs : List Nat}
theorem w_lc (R : D → Option D → Prop) (p : (fi S).ps (fun (ds : List D) S1 => ds.length ≤ sizeLine ∧ stK (wipeS S1 vs) fun S0 =>
      (∀ d ∈ ds, tgt ft d S0 fun S2 => (tt S2).ps (fun b S3 => (b = true → (fa S3).ps (fun y S4 => stK (wipeS S4 vs) (· = S0) ∧ R d (some (frz y))) fun _ _ => False) ∧ (b = false → stK (wipeS S3 vs) (· = S0) ∧ R d none)) fun _ _ => False) ∧
      (∀ os : List (Option D), os.length = ds.length → (∀ (i : Nat) (d : D) (o : Option D), ds[i]? = some d → os[i]? = some o → R d o) → P (.lst .ow (os.filterMap id)) S0)) E) : (fLc fi ft tt fa vs S).ps P E := by
  refine w_bind (Rs.ps_mono p (fun ds S1 q => ?_) fun _ _ z => z)
  obtain ⟨hl, turn, fin⟩ := q
  try dsimp only
  rw [if_pos hl]
  have key : ∀ ds : List D, (∀ d ∈ ds, tgt ft d (wipeS S1 vs) fun S2 => (tt S2).ps (fun b S3 => (b = true → (fa S3).ps (fun y S4 => wipeS S4 vs = wipeS S1 vs ∧ R d (some (frz y))) fun _ _ => False) ∧ (b = false → wipeS S3 vs = wipeS S1 vs ∧ R d none)) fun _ _ => False) →
      (fLcLoop ft tt fa vs ds (wipeS S1 vs)).ps (fun ys S2 => S2 = wipeS S1 vs ∧ ∃ os : List (Option D), ys = os.filterMap id ∧ os.length = ds.length ∧ ∀ (i : Nat) (d : D) (o : Option D), ds[i]? = some d → os[i]? = some o → R d o) fun _ _ => False := by
    intro ds
    induction ds with
    | nil => exact fun _ => ⟨rfl, [], rfl, rfl, by simp⟩
    | cons d ds ih =>
      intro turn
      obtain ⟨S2, e, p⟩ := turn d (by simp)
      have ih' := ih fun d m => turn d (by simp [m])
      unfold fLcLoop
      rw [e]
      try dsimp only
      refine w_bind (w_nex (Rs.ps_mono p (fun b S3 q => ?_) fun _ _ z => z))
      try dsimp only
      cases b with
      | false =>
        obtain ⟨e1, r⟩ := q.2 rfl
        rw [if_neg (by decide), e1]
        refine Rs.ps.h (Rs.ps_mono ih' (fun ys S4 q => ?_) fun _ _ z => z)
        obtain ⟨rfl, os, e2, e3, q⟩ := q
        refine ⟨rfl, none :: os, by simpa using e2, by simp [e3], fun i => ?_⟩
        cases i with
        | zero => intro d' o' h1 h2; simp at h1 h2; subst h1; subst h2; exact r
        | succ i => intro d' o' h1 h2; exact q i d' o' (by simpa using h1) (by simpa using h2)
      | true =>
        rw [if_pos rfl]
        refine w_bh (w_nex (Rs.ps_mono (q.1 rfl) (fun y S4 q => ?_) fun _ _ z => z))
        obtain ⟨e1, r⟩ := q
        try dsimp only
        rw [e1]
        refine w_bh (Rs.ps_mono ih' (fun ys S4 q => ?_) fun _ _ z => z)
        obtain ⟨rfl, os, e2, e3, q⟩ := q
        refine ⟨rfl, some (frz y) :: os, by simpa using e2, by simp [e3], fun i => ?_⟩
        cases i with
        | zero => intro d' o' h1 h2; simp at h1 h2; subst h1; subst h2; exact r
        | succ i => intro d' o' h1 h2; exact q i d' o' (by simpa using h1) (by simpa using h2)
  refine w_bh (Rs.ps_mono (key ds turn) (fun ys S2 q => ?_) fun _ _ z => z.elim)
  obtain ⟨rfl, os, rfl, e, q⟩ := q
  exact fin os e q
variable {fr : Fa} {A : List Arg → SS → Prop} {F : List D → Rs D}
theorem w_faNil (p : A [] S) : (faNil S).ps A E := ⟨p⟩
theorem w_faCons (p : (fa S).ps (fun d S1 => (fr S1).ps (fun as S2 => A (.val d :: as) S2) E) E) : (faCons fa fr S).ps A E :=
  w_bind (Rs.ps_mono p (fun _ _ q => w_bh q) fun _ _ z => z)
theorem w_faName (hs : slot S i = some d) (p : (fr S).ps (fun as S2 => A (.nm i :: as) S2) E) : (faName i fr S).ps A E := by
  unfold faName
  rw [if_pos (by rw [hs]; rfl)]
  exact w_bind p
def resK (as : List Arg) (S : SS) (R : List D → SS → Prop) : Prop := ∃ ds S2, resolve as S = some (ds, S2) ∧ R ds S2
theorem res_nil {R : List D → SS → Prop} (p : R [] S) : resK [] S R := ⟨[], S, rfl, p⟩
theorem res_val {R : List D → SS → Prop} {as : List Arg} (p : resK as S fun ds S2 => R (d :: ds) S2) : resK (.val d :: as) S R := by
  obtain ⟨ds, S2, e, p⟩ := p
  refine ⟨d :: ds, S2, ?_, p⟩
  unfold resolve
  rw [e]
  rfl
theorem res_nm {R : List D → SS → Prop} {as : List Arg} (hs : slot S i = some d) (hf : fz d = true) (p : resK as S fun ds S2 => R (d :: ds) S2) : resK (.nm i :: as) S R := by
  obtain ⟨ds, S2, e, p⟩ := p
  refine ⟨d :: ds, S2, ?_, p⟩
  unfold resolve
  rw [hs]
  try dsimp only
  rw [if_pos hf, e]
  rfl
theorem res_nmO {R : List D → SS → Prop} {as : List Arg} (hs : slot S i = some d) (hf : fz d = false) (p : stK (S.set i none) fun S1 => resK as S1 fun ds S2 => R (d :: ds) S2) : resK (.nm i :: as) S R := by
  obtain ⟨ds, S2, e, p⟩ := p
  refine ⟨d :: ds, S2, ?_, p⟩
  unfold resolve
  rw [hs]
  try dsimp only
  rw [if_neg (by rw [hf]; decide), e]
  rfl
theorem w_call (p : (fr S).ps (fun as S1 => resK as S1 fun ds S2 => (F ds).ps (fun d o => stK (restore as o S2) (P d)) (fun e _ => E e S2)) E) : (fCall F fr S).ps P E := by
  refine w_bind (Rs.ps_mono p (fun as S1 q => ?_) fun _ _ z => z)
  obtain ⟨ds, S2, e, q⟩ := q
  try dsimp only
  rw [e]
  try dsimp only
  cases h : F ds with
  | ok d o => rw [h] at q; exact q.h
  | exc x o => rw [h] at q; exact q.h
  | stk => rw [h] at q; exact q.h
theorem w_tup (p : (fr S).ps (fun as S1 => resK as S1 fun ds S2 => (ds.all fz = true ∧ ds.length ≤ sizeLine) ∧ P (.tup ds) S2) E) : (fTup fr S).ps P E := by
  refine w_bind (Rs.ps_mono p (fun as S1 q => ?_) fun _ _ z => z)
  obtain ⟨ds, S2, e, h, q⟩ := q
  try dsimp only
  rw [e]
  try dsimp only
  rw [if_pos h]
  exact q
theorem w_lst (p : (fr S).ps (fun as S1 => resK as S1 fun ds S2 => (ds.all fz = true ∧ ds.length ≤ sizeLine) ∧ P (.lst .ow ds) S2) E) : (fLst fr S).ps P E := by
  refine w_bind (Rs.ps_mono p (fun as S1 q => ?_) fun _ _ z => z)
  obtain ⟨ds, S2, e, h, q⟩ := q
  try dsimp only
  rw [e]
  try dsimp only
  rw [if_pos h]
  exact q
variable {gl : List D → List D → Option (D × List D)} {ds : List D}
theorem ownL_of (hs : slot S i = some (.lst .ow ds)) : ownL S i = some ds := by unfold ownL; rw [hs]
theorem w_ml0 (hs : slot S i = some (.lst .ow ds)) (p : gv (gl ds []) fun q => stK (S.set i (some (.lst .ow q.2))) (P q.1)) : (fML0 gl i S).ps P E := by
  obtain ⟨q, e, p⟩ := p
  unfold fML0
  rw [ownL_of hs]
  try dsimp only
  rw [e]
  exact ⟨p⟩
theorem w_ml1 (hs : slot S i = some (.lst .ow ds)) (p : (fa S).ps (frzK fun y S1 => ∃ ds', slot S1 i = some (.lst .ow ds') ∧ gv (gl ds' [y]) fun q => stK (S1.set i (some (.lst .ow q.2))) (P q.1)) E) : (fML1 gl i fa S).ps P E := by
  unfold fML1
  rw [ownL_of hs]
  try dsimp only
  refine w_bind (Rs.ps_mono p (fun y S1 q => ?_) fun _ _ z => z)
  obtain ⟨ds', e1, q, e, p⟩ := q
  try dsimp only
  rw [ownL_of e1]
  try dsimp only
  rw [e]
  exact p
theorem w_sl1 {R : List D → Prop} (hs : slot S i = some (.lst .ow ds)) (p : R ds) : ∃ ds', slot S i = some (.lst .ow ds') ∧ R ds' := ⟨_, hs, p⟩
variable {fl fh : Fo} {O : Option Int → SS → Prop}
theorem w_foNone (p : O none S) : (foNone S).ps O E := ⟨p⟩
theorem w_foSome (p : (fa S).ps (fun d S1 => ∃ n, d = .int n ∧ O (some n) S1) E) : (foSome fa S).ps O E :=
  w_bind (Rs.ps_mono p (fun d S1 q => by obtain ⟨n, rfl, q⟩ := q; exact q) fun _ _ z => z)
theorem w_slN {d0 : D} (hs : slot S i = some d0) (p : (fl S).ps (fun lo S1 => (fh S1).ps (fun hi S2 => ∃ d1, slot S2 i = some d1 ∧ gv (gSl d1 lo hi) fun d => P d S2) E) E) : (fSlN i fl fh S).ps P E := by
  unfold fSlN
  rw [if_pos (by rw [hs]; rfl)]
  refine w_bind (Rs.ps_mono p (fun _ _ q => w_bh (Rs.ps_mono q (fun _ _ q => ?_) fun _ _ z => z)) fun _ _ z => z)
  obtain ⟨d1, e, q⟩ := q
  try dsimp only
  rw [e]
  exact w_oh q
theorem w_sl (p : (fa S).ps (fun d0 S0 => (fl S0).ps (fun lo S1 => (fh S1).ps (fun hi S2 => gv (gSl d0 lo hi) fun d => P d S2) E) E) E) : (fSl fa fl fh S).ps P E :=
  w_bind (Rs.ps_mono p (fun _ _ q => w_bh (Rs.ps_mono q (fun _ _ q => w_bh (Rs.ps_mono q (fun _ _ q => w_oh q) fun _ _ z => z)) fun _ _ z => z)) fun _ _ z => z)
theorem w_m1 (p : (fa S).ps (fun d1 S1 => isStrD d1 = true ∧ (fb S1).ps (fun d2 S2 => gv (g d1 d2) fun d => P d S2) E) E) : (fM1 g fa fb S).ps P E :=
  w_bind (Rs.ps_mono p (fun _ _ q => by
    obtain ⟨h, q⟩ := q
    try dsimp only
    rw [if_pos h]
    exact w_bh (Rs.ps_mono q (fun _ _ q => w_oh q) fun _ _ z => z)) fun _ _ z => z)
theorem w_m0 (p : (fa S).ps (fun d1 S1 => isStrD d1 = true ∧ gv (g1 d1) fun d => P d S1) E) : (fM0 g1 fa S).ps P E :=
  w_bind (Rs.ps_mono p (fun _ _ q => by
    obtain ⟨h, q⟩ := q
    try dsimp only
    rw [if_pos h]
    exact w_oh q) fun _ _ z => z)
theorem w_zip (p : (fa S).ps (fun d1 S1 => (fb S1).ps (fun d2 S2 => (∃ o xs u ys, d1 = .lst o xs ∧ d2 = .lst u ys ∧ J (zipD xs ys) S2) ∨ ∃ xs ys, d1 = .tup xs ∧ d2 = .tup ys ∧ J (zipD xs ys) S2) E) E) : (fZip fa fb S).ps J E :=
  w_bind (Rs.ps_mono p (fun _ _ q => w_bh (Rs.ps_mono q (fun _ _ q => by
    rcases q with ⟨o, xs, u, ys, rfl, rfl, q⟩ | ⟨xs, ys, rfl, rfl, q⟩
    · exact q
    · exact q) fun _ _ z => z)) fun _ _ z => z)
def runK (io : List Bool) (P : D → SS → Prop) : Fl → SS → Prop
  | .nx, S => stK (outs io S) (P .non)
  | .rt d, S => stK (outs io S) (P d)
  | _, _ => False
theorem w_run {io : List Bool} {m : Nat} {ds : List D} (p : stK (ds.map some ++ List.replicate m none) fun S0 => (f S0).ps (runK io P) (fun e _ => E e [])) : (runB io m f ds).ps P E := by
  unfold runB
  have p : (f (ds.map some ++ List.replicate m none)).ps (runK io P) (fun e _ => E e []) := p
  cases h : f (ds.map some ++ List.replicate m none) with
  | ok fl S => rw [h] at p; exact ⟨by cases fl <;> first | exact p.h | exact (show False from p.h).elim⟩
  | exc e S => rw [h] at p; exact ⟨p.h⟩
  | stk => rw [h] at p; exact (show False from p.h).elim
theorem r_nx {io : List Bool} (p : stK (outs io S) (P .non)) : runK io P .nx S := p
theorem r_rt {io : List Bool} (p : stK (outs io S) (P d)) : runK io P (.rt d) S := p
theorem o_addI {i j : Int} {R : D → Prop} (p : R (.int (i + j))) : gv (gAdd (.int i) (.int j)) R := ⟨_, rfl, p⟩
theorem o_addL {o u : Tg} {xs ys : List D} {R : D → Prop} (h : o ≠ .ex ∧ u ≠ .ex ∧ xs.length + ys.length ≤ sizeLine) (p : R (.lst .ow (xs ++ ys))) : gv (gAdd (.lst o xs) (.lst u ys)) R := by
  have e : gAdd (.lst o xs) (.lst u ys) = some (.lst .ow (xs ++ ys)) := by
    cases o with
    | ex => exact absurd rfl h.1
    | fz => exact if_pos h
    | ow => exact if_pos h
  exact ⟨_, e, p⟩
theorem o_sub {i j : Int} {R : D → Prop} (p : R (.int (i - j))) : gv (gSub (.int i) (.int j)) R := ⟨_, rfl, p⟩
theorem o_mul {i j : Int} {R : D → Prop} (h : MulOk i j) (p : R (.int (i * j))) : gv (gMul (.int i) (.int j)) R := gv_of (by show (if MulOk i j then _ else _) = _; rw [if_pos h]) p
theorem o_div {i j : Int} {R : D → Prop} (h : DivOk i j) (p : R (.int (i / j))) : gv (gDiv (.int i) (.int j)) R := gv_of (by show (if DivOk i j then _ else _) = _; rw [if_pos h]) p
theorem o_mod {i j : Int} {R : D → Prop} (h : 0 < j) (p : R (.int (i % j))) : gv (gMod (.int i) (.int j)) R := gv_of (by show (if 0 < j then _ else _) = _; rw [if_pos h]) p
theorem o_pow {i j : Int} {R : D → Prop} (h0 : PowOk i j) (p : R (.int (i ^ j.toNat))) : gv (gPow (.int i) (.int j)) R := by
  have h : PowW i j := .inl h0
  exact gv_of (by show (if PowW i j then _ else _) = _; rw [if_pos h]) p
theorem o_shl {i j : Int} {R : D → Prop} (h : PowOk i j) (p : R (.int (i * 2 ^ j.toNat))) : gv (gShl (.int i) (.int j)) R := gv_of (by show (if PowOk i j then _ else _) = _; rw [if_pos h]) p
theorem o_shr {i j : Int} {R : D → Prop} (h : 0 ≤ j) (p : R (.int (i / 2 ^ j.toNat))) : gv (gShr (.int i) (.int j)) R := gv_of (by show (if 0 ≤ j then _ else _) = _; rw [if_pos h]) p
theorem o_and {i j : Int} {R : D → Prop} (p : R (.int (Builtin.bitAnd i j))) : gv (gAnd (.int i) (.int j)) R := ⟨_, rfl, p⟩
theorem o_or {i j : Int} {R : D → Prop} (p : R (.int (Builtin.bitOr i j))) : gv (gOr (.int i) (.int j)) R := ⟨_, rfl, p⟩
theorem o_lt {i j : Int} {R : D → Prop} (p : R (.bl (decide (i < j)))) : gv (gLt (.int i) (.int j)) R := ⟨_, rfl, p⟩
theorem o_le {i j : Int} {R : D → Prop} (p : R (.bl (decide (i ≤ j)))) : gv (gLe (.int i) (.int j)) R := ⟨_, rfl, p⟩
theorem o_gt {i j : Int} {R : D → Prop} (p : R (.bl (decide (j < i)))) : gv (gGt (.int i) (.int j)) R := ⟨_, rfl, p⟩
theorem o_ge {i j : Int} {R : D → Prop} (p : R (.bl (decide (j ≤ i)))) : gv (gGe (.int i) (.int j)) R := ⟨_, rfl, p⟩
theorem o_neg {i : Int} {R : D → Prop} (p : R (.int (-i))) : gv (gNeg (.int i)) R := ⟨_, rfl, p⟩
theorem o_len {o : Tg} {ds : List D} {R : D → Prop} (p : R (.int ds.length)) : gv (gLen (.lst o ds)) R := ⟨_, rfl, p⟩
theorem o_lenT {ds : List D} {R : D → Prop} (p : R (.int ds.length)) : gv (gLen (.tup ds)) R := ⟨_, rfl, p⟩
theorem o_listL {o : Tg} {ds : List D} {R : D → Prop} (p : R (.lst .ow ds)) : gv (gList (.lst o ds)) R := ⟨_, rfl, p⟩
theorem o_listT {ds : List D} {R : D → Prop} (p : R (.lst .ow ds)) : gv (gList (.tup ds)) R := ⟨_, rfl, p⟩
theorem o_tupL {o : Tg} {ds : List D} {R : D → Prop} (p : R (.tup ds)) : gv (gTuple (.lst o ds)) R := ⟨_, rfl, p⟩
theorem o_tupT {ds : List D} {R : D → Prop} (p : R (.tup ds)) : gv (gTuple (.tup ds)) R := ⟨_, rfl, p⟩
theorem o_rev {o : Tg} {ds : List D} {R : D → Prop} (p : R (.lst .ow ds.reverse)) : gv (gRev (.lst o ds)) R := ⟨_, rfl, p⟩
theorem o_intI {i : Int} {R : D → Prop} (p : R (.int i)) : gv (gInt (.int i)) R := ⟨_, rfl, p⟩
theorem o_intB {b : Bool} {R : D → Prop} (p : R (.int (if b then 1 else 0))) : gv (gInt (.bl b)) R := ⟨_, rfl, p⟩
theorem o_slL {o : Tg} {ds : List D} {lo hi : Option Int} {R : D → Prop} (p : R (.lst .ow (cutD ds lo hi))) : gv (gSl (.lst o ds) lo hi) R := ⟨_, rfl, p⟩
theorem o_slT {ds : List D} {lo hi : Option Int} {R : D → Prop} (p : R (.tup (cutD ds lo hi))) : gv (gSl (.tup ds) lo hi) R := ⟨_, rfl, p⟩
theorem o_append {ds : List D} {y : D} {R : D × List D → Prop} (h : ds.length < sizeLine) (p : R (.non, ds ++ [y])) : gv (gAppend ds [y]) R := gv_if h (gv_some p)
theorem o_seqL {o : Tg} {ds : List D} {R : List D → Prop} (p : R ds) : gv (seqOf (.lst o ds)) R := ⟨_, rfl, p⟩
theorem o_seqT {ds : List D} {R : List D → Prop} (p : R ds) : gv (seqOf (.tup ds)) R := ⟨_, rfl, p⟩
theorem o_ixL {o : Tg} {ds : List D} {i : Int} {d : D} {R : D → Prop} (h : atI ds i = some d) (p : R d) : gv (gIx (.lst o ds) (.int i)) R := ⟨_, h, p⟩
theorem o_ixT {ds : List D} {i : Int} {d : D} {R : D → Prop} (h : atI ds i = some d) (p : R d) : gv (gIx (.tup ds) (.int i)) R := ⟨_, h, p⟩
theorem atI_nat {α : Type} {xs : List α} {i : Int} {n : Nat} {x : α} (hi : i = n) (h : xs[n]? = some x) : atI xs i = some x := by
  subst hi
  have hl : n < xs.length := by
    rcases Nat.lt_or_ge n xs.length with l | l
    · exact l
    · rw [List.getElem?_eq_none l] at h; cases h
  unfold atI ixN
  rw [if_pos (by omega), if_pos (by omega)]
  simpa using h
theorem gv_ixL {o : Tg} {ds : List D} {i : Int} {R : D → Prop} (h0 : 0 ≤ i) (h1 : i < ds.length) (p : ∀ d, ds[i.toNat]? = some d → R d) : gv (gIx (.lst o ds) (.int i)) R := by
  have hl : i.toNat < ds.length := by omega
  exact o_ixL (atI_nat (n := i.toNat) (by omega) (List.getElem?_eq_getElem hl)) (p _ (List.getElem?_eq_getElem hl))
theorem gv_popA {ds : List D} {i : Int} {R : D × List D → Prop} (h : ds.length ≤ sizeLine) (h0 : 0 ≤ i) (h1 : i < ds.length) (p : ∀ d, ds[i.toNat]? = some d → R (d, ds.eraseIdx i.toNat)) : gv (gPopA ds [.int i]) R := by
  have hl : i.toNat < ds.length := by omega
  unfold gPopA
  refine gv_if h ?_
  refine gv_of (d := (ds[i.toNat], ds.eraseIdx i.toNat)) ?_ (p _ (List.getElem?_eq_getElem hl))
  unfold gPopAt ixN
  simp only [h0, h1, if_true, List.getElem?_eq_getElem hl]
end
end T3
set_option Elab.async false
set_option linter.all false
set_option maxRecDepth 100000
set_option maxHeartbeats 4000000
namespace T3
open PySem PySem.Spec PyProof.Rows L2
mutual
def nice : Nat → D → Bool
  | _, .non => true
  | _, .int _ => true
  | _, .str x => PySem.PyData.strOk x
  | n, .tup xs => decide (0 < n) && niceL (n - 1) xs
  | n, .lst _ xs => decide (0 < n) && niceL (n - 1) xs
  | _, _ => false
def niceL : Nat → List D → Bool
  | _, [] => true
  | n, d :: ds => nice n d && niceL n ds
end
mutual
def cor : D → D
  | .tup xs => .tup (corL xs)
  | .lst _ xs => .lst .fz (corL xs)
  | d => d
def corL : List D → List D
  | [] => []
  | d :: ds => cor d :: corL ds
end
theorem corL_map : ∀ ds : List D, corL ds = ds.map cor
  | [] => rfl
  | d :: ds => by simp [corL, corL_map ds]
theorem niceL_all {n : Nat} : ∀ {ds : List D}, niceL n ds = true ↔ ∀ d ∈ ds, nice n d = true
  | [] => by simp [niceL]
  | d :: ds => by simp [niceL, niceL_all (ds := ds)]
mutual
theorem toPy_nice : ∀ {n : Nat} {d : D}, nice n d = true → ∃ p, toPy d = some p ∧ p.canLay0 = true ∧ p.depth ≤ n
  | _, .non, _ => ⟨.none, by simp [toPy], by simp [PyData.canLay0], by simp [PyData.depth]⟩
  | _, .int i, _ => ⟨.int i, by simp [toPy], by simp [PyData.canLay0], by simp [PyData.depth]⟩
  | _, .str x, h => ⟨.str x, by simp [toPy], by simpa [PyData.canLay0, nice] using h, by simp [PyData.depth]⟩
  | n, .tup xs, h => by
    simp only [nice, Bool.and_eq_true, decide_eq_true_eq] at h
    obtain ⟨ps, e, c, d⟩ := toPyL_nice h.2
    exact ⟨.tuple ps, by simp [toPy, e], by simpa [PyData.canLay0] using c, by simp [PyData.depth]; omega⟩
  | n, .lst o xs, h => by
    simp only [nice, Bool.and_eq_true, decide_eq_true_eq] at h
    obtain ⟨ps, e, c, d⟩ := toPyL_nice h.2
    exact ⟨.list ps, by simp [toPy, e], by simpa [PyData.canLay0] using c, by simp [PyData.depth]; omega⟩
  | _, .bl b, h => by simp [nice] at h
  | _, .dK o _, h => by simp [nice] at h
  | _, .dT o _, h => by simp [nice] at h
  | _, .ins o c _, h => by simp [nice] at h
  | _, .xc _ _, h => by simp [nice] at h
  | _, .ni _ _, h => by simp [nice] at h
  | _, .dL _, h => by simp [nice] at h
  | _, .hole _, h => by simp [nice] at h
  | _, .tp _, h => by simp [nice] at h
theorem toPyL_nice : ∀ {n : Nat} {ds : List D}, niceL n ds = true → ∃ ps, toPyL ds = some ps ∧ PyData.canLayAll0 ps = true ∧ PyData.depthAll ps ≤ n
  | _, [], _ => ⟨[], by simp [toPyL], by simp [PyData.canLayAll0], by simp [PyData.depthAll]⟩
  | n, d :: ds, h => by
    simp only [niceL, Bool.and_eq_true] at h
    obtain ⟨p, e1, c1, d1⟩ := toPy_nice h.1
    obtain ⟨ps, e2, c2, d2⟩ := toPyL_nice h.2
    exact ⟨p :: ps, by simp [toPyL, e1, e2], by simp [PyData.canLayAll0, c1, c2], by simp [PyData.depthAll]; omega⟩
end
theorem plain_nice {n : Nat} {d : D} (h : nice n d = true) (hn : n ≤ 64) : ∃ p, toPy d = some p ∧ plainD d = some p := by
  obtain ⟨p, e, c, q⟩ := toPy_nice h
  refine ⟨p, e, ?_⟩
  unfold plainD
  rw [e]
  show (if SeqAt.shaped p = true then some p else none) = some p
  rw [if_pos]
  unfold SeqAt.shaped
  rw [c]
  simp
  omega
mutual
theorem eqv_cor : ∀ {n m : Nat} {a b : D} {p q : PyData}, nice n a = true → nice m b = true → toPy a = some p → toPy b = some q → (PyData.eqv p q = true ↔ cor a = cor b)
  | _, _, .non, b, p, q, _, hb, ea, eb => by
    simp [toPy] at ea; subst ea
    cases b with
    | non => simp [toPy] at eb; subst eb; simp [PyData.eqv, cor]
    | int i => simp [toPy] at eb; subst eb; simp [PyData.eqv, cor]
    | str i => simp [toPy] at eb; subst eb; simp [PyData.eqv, cor]
    | tup xs => simp [toPy] at eb; obtain ⟨ps, _, rfl⟩ := eb; simp [PyData.eqv, cor]
    | lst o xs => simp [toPy] at eb; obtain ⟨ps, _, rfl⟩ := eb; simp [PyData.eqv, cor]
    | _ => simp [nice] at hb
  | _, _, .int i, b, p, q, _, hb, ea, eb => by
    simp [toPy] at ea; subst ea
    cases b with
    | non => simp [toPy] at eb; subst eb; simp [PyData.eqv, cor]
    | int i => simp [toPy] at eb; subst eb; simp [PyData.eqv, cor]
    | str i => simp [toPy] at eb; subst eb; simp [PyData.eqv, cor]
    | tup xs => simp [toPy] at eb; obtain ⟨ps, _, rfl⟩ := eb; simp [PyData.eqv, cor]
    | lst o xs => simp [toPy] at eb; obtain ⟨ps, _, rfl⟩ := eb; simp [PyData.eqv, cor]
    | _ => simp [nice] at hb
  | _, _, .str i, b, p, q, _, hb, ea, eb => by
    simp [toPy] at ea; subst ea
    cases b with
    | non => simp [toPy] at eb; subst eb; simp [PyData.eqv, cor]
    | int i => simp [toPy] at eb; subst eb; simp [PyData.eqv, cor]
    | str i => simp [toPy] at eb; subst eb; simp [PyData.eqv, cor]
    | tup xs => simp [toPy] at eb; obtain ⟨ps, _, rfl⟩ := eb; simp [PyData.eqv, cor]
    | lst o xs => simp [toPy] at eb; obtain ⟨ps, _, rfl⟩ := eb; simp [PyData.eqv, cor]
    | _ => simp [nice] at hb
  | n, m, .tup xs, b, p, q, ha, hb, ea, eb => by
    simp only [toPy, Option.map_eq_some_iff] at ea; obtain ⟨ps, e1, rfl⟩ := ea
    simp only [nice, Bool.and_eq_true] at ha
    cases b with
    | non => simp [toPy] at eb; subst eb; simp [PyData.eqv, cor]
    | int i => simp [toPy] at eb; subst eb; simp [PyData.eqv, cor]
    | str i => simp [toPy] at eb; subst eb; simp [PyData.eqv, cor]
    | tup ys =>
      simp only [toPy, Option.map_eq_some_iff] at eb; obtain ⟨qs, e2, rfl⟩ := eb
      simp only [nice, Bool.and_eq_true] at hb
      simpa [PyData.eqv, cor] using eqvL_cor ha.2 hb.2 e1 e2
    | lst o xs => simp [toPy] at eb; obtain ⟨ps, _, rfl⟩ := eb; simp [PyData.eqv, cor]
    | _ => simp [nice] at hb
  | n, m, .lst o xs, b, p, q, ha, hb, ea, eb => by
    simp only [toPy, Option.map_eq_some_iff] at ea; obtain ⟨ps, e1, rfl⟩ := ea
    simp only [nice, Bool.and_eq_true] at ha
    cases b with
    | non => simp [toPy] at eb; subst eb; simp [PyData.eqv, cor]
    | int i => simp [toPy] at eb; subst eb; simp [PyData.eqv, cor]
    | str i => simp [toPy] at eb; subst eb; simp [PyData.eqv, cor]
    | lst u ys =>
      simp only [toPy, Option.map_eq_some_iff] at eb; obtain ⟨qs, e2, rfl⟩ := eb
      simp only [nice, Bool.and_eq_true] at hb
      simpa [PyData.eqv, cor] using eqvL_cor ha.2 hb.2 e1 e2
    | tup xs => simp [toPy] at eb; obtain ⟨ps, _, rfl⟩ := eb; simp [PyData.eqv, cor]
    | _ => simp [nice] at hb
  | _, _, .bl b, _, _, _, h, _, _, _ => by simp [nice] at h
  | _, _, .dK o _, _, _, _, h, _, _, _ => by simp [nice] at h
  | _, _, .dT o _, _, _, _, h, _, _, _ => by simp [nice] at h
  | _, _, .ins o c _, _, _, _, h, _, _, _ => by simp [nice] at h
  | _, _, .xc _ _, _, _, _, h, _, _, _ => by simp [nice] at h
  | _, _, .ni _ _, _, _, _, h, _, _, _ => by simp [nice] at h
  | _, _, .dL _, _, _, _, h, _, _, _ => by simp [nice] at h
  | _, _, .hole _, _, _, _, h, _, _, _ => by simp [nice] at h
  | _, _, .tp _, _, _, _, h, _, _, _ => by simp [nice] at h
theorem eqvL_cor : ∀ {n m : Nat} {a b : List D} {p q : List PyData}, niceL n a = true → niceL m b = true → toPyL a = some p → toPyL b = some q → (PyData.eqvAll p q = true ↔ corL a = corL b)
  | _, _, [], b, p, q, _, hb, ea, eb => by
    simp [toPyL] at ea; subst ea
    cases b with
    | nil => simp [toPyL] at eb; subst eb; simp [PyData.eqvAll, corL]
    | cons y ys =>
      simp only [toPyL, Option.bind_eq_some_iff] at eb
      obtain ⟨p1, _, ps, _, eb⟩ := eb
      cases eb
      simp [PyData.eqvAll, corL]
  | n, m, x :: xs, b, p, q, ha, hb, ea, eb => by
    simp only [toPyL, Option.bind_eq_some_iff] at ea
    obtain ⟨p1, e1, ps, e2, ea⟩ := ea
    cases ea
    simp only [niceL, Bool.and_eq_true] at ha
    cases b with
    | nil => simp [toPyL] at eb; subst eb; simp [PyData.eqvAll, corL]
    | cons y ys =>
      simp only [toPyL, Option.bind_eq_some_iff] at eb
      obtain ⟨q1, f1, qs, f2, eb⟩ := eb
      cases eb
      simp only [niceL, Bool.and_eq_true] at hb
      simp [PyData.eqvAll, corL, eqv_cor ha.1 hb.1 e1 f1, eqvL_cor ha.2 hb.2 e2 f2]
end
theorem bl_eq {b k : Bool} {p : Prop} (h : b = true ↔ p) (h2 : k = true ↔ p) : b = k := by rw [Bool.eq_iff_iff, h, h2]
theorem gEq_nice {n m : Nat} {a b : D} {k : Bool} (ha : nice n a = true) (hb : nice m b = true) (hn : n ≤ 64) (hm : m ≤ 64) (hk : k = true ↔ cor a = cor b) : gEq a b = some (.bl k) := by
  obtain ⟨p, e1, e2⟩ := plain_nice ha hn
  obtain ⟨q, f1, f2⟩ := plain_nice hb hm
  unfold gEq
  rw [e2, f2]
  show some (D.bl (PyData.eqv p q)) = _
  rw [bl_eq (eqv_cor ha hb e1 f1) hk]
theorem gNe_eq {a b : D} {k : Bool} (h : gEq a b = some (.bl k)) : gNe a b = some (.bl (!k)) := by
  unfold gEq at h
  unfold gNe
  simp only [Option.bind_eq_some_iff] at h
  obtain ⟨p, e1, q, e2, e3⟩ := h
  cases e3
  rw [e1, e2]
  rfl
section
variable {R : D → Prop} {o u : Tg}
theorem o_eq {n m : Nat} {a b : D} {k : Bool} (ha : nice n a = true) (hb : nice m b = true) (hk : k = true ↔ cor a = cor b) (p : R (.bl k)) (hn : n ≤ 64 := by decide) (hm : m ≤ 64 := by decide) : gv (gEq a b) R := ⟨_, gEq_nice ha hb hn hm hk, p⟩
theorem o_ne {n m : Nat} {a b : D} {k : Bool} (ha : nice n a = true) (hb : nice m b = true) (hk : k = true ↔ cor a = cor b) (p : R (.bl (!k))) (hn : n ≤ 64 := by decide) (hm : m ≤ 64 := by decide) : gv (gNe a b) R := ⟨_, gNe_eq (gEq_nice ha hb hn hm hk), p⟩
theorem o_eqI {i j : Int} (p : R (.bl (decide (i = j)))) : gv (gEq (.int i) (.int j)) R := o_eq (n := 0) (m := 0) rfl rfl (by simp [cor]) p
theorem o_neI {i j : Int} (p : R (.bl (!decide (i = j)))) : gv (gNe (.int i) (.int j)) R := o_ne (n := 0) (m := 0) rfl rfl (by simp [cor]) p
theorem o_eqS {i j : Str} (h1 : PySem.PyData.strOk i = true) (h2 : PySem.PyData.strOk j = true) (p : R (.bl (decide (i = j)))) : gv (gEq (.str i) (.str j)) R := o_eq (n := 0) (m := 0) h1 h2 (by simp [cor]) p
theorem o_neS {i j : Str} (h1 : PySem.PyData.strOk i = true) (h2 : PySem.PyData.strOk j = true) (p : R (.bl (!decide (i = j)))) : gv (gNe (.str i) (.str j)) R := o_ne (n := 0) (m := 0) h1 h2 (by simp [cor]) p
theorem nice_ints (n : Nat) : ∀ is : List Int, niceL n (is.map D.int) = true
  | [] => rfl
  | i :: is => by simp [niceL, nice, nice_ints n is]
theorem nice_strs {n : Nat} : ∀ {ss : List Str}, (∀ s ∈ ss, PySem.PyData.strOk s = true) → niceL n (ss.map D.str) = true
  | [], _ => rfl
  | s :: ss, h => by
    simp only [List.map_cons, niceL, nice, Bool.and_eq_true]
    exact ⟨h s (by simp), nice_strs fun t m => h t (by simp [m])⟩
theorem cor_ints (is : List Int) : corL (is.map D.int) = is.map D.int := by rw [corL_map]; simp [cor]
theorem cor_strs (is : List Str) : corL (is.map D.str) = is.map D.str := by rw [corL_map]; simp [cor]
theorem intsOf_ints : ∀ is : List Int, intsOf (is.map D.int) = some is
  | [] => rfl
  | i :: is => by simp [intsOf, intsOf_ints is]
theorem strsOf_strs : ∀ is : List Str, strsOf (is.map D.str) = some is
  | [] => rfl
  | i :: is => by simp [strsOf, strsOf_strs is]
theorem blsOf_bls : ∀ is : List Bool, blsOf (is.map D.bl) = some is
  | [] => rfl
  | i :: is => by simp [blsOf, blsOf_bls is]
theorem o_sum {is : List Int} (p : R (.int is.sum)) : gv (gSum (.lst o (is.map D.int))) R := ⟨_, by show Option.map _ (intsOf (is.map D.int)) = _; rw [intsOf_ints]; rfl, p⟩
theorem toPyL_any {n m : Nat} {d : D} {p : PyData} (hd : nice n d = true) (e : toPy d = some p) : ∀ {ds : List D} {ps : List PyData}, niceL m ds = true → toPyL ds = some ps → (ps.any (fun z => PyData.eqv z p) = true ↔ cor d ∈ ds.map cor)
  | [], ps, _, e2 => by simp [toPyL] at e2; subst e2; simp
  | x :: xs, ps, h, e2 => by
    simp only [toPyL, Option.bind_eq_some_iff] at e2
    obtain ⟨q, e3, qs, e4, e5⟩ := e2
    cases e5
    simp only [niceL, Bool.and_eq_true] at h
    rw [List.any_cons, Bool.or_eq_true, List.map_cons, List.mem_cons, toPyL_any hd e h.2 e4, eqv_cor h.1 hd e3 e, @eq_comm _ (cor x)]
theorem gIn_nice {n m : Nat} {d : D} {ds : List D} {k : Bool} (hd : nice n d = true) (hn : n ≤ 64) (hs : niceL m ds = true) (hm : m < 64) (hk : k = true ↔ cor d ∈ ds.map cor) : gIn d (.lst o ds) = some k := by
  obtain ⟨p, e1, e2⟩ := plain_nice hd hn
  obtain ⟨ps, f1, f2, f3⟩ := toPyL_nice hs
  have hsh : SeqAt.shaped (PyData.list ps) = true := by
    unfold SeqAt.shaped
    simp only [PyData.canLay0, f2, PyData.depth, Bool.true_and, decide_eq_true_eq]
    have : PyData.depthAll ps + 1 ≤ 64 := by omega
    exact decide_eq_true this
  have e : (ps.any fun z => PyData.eqv z p) = k := by
    exact bl_eq (toPyL_any hd e1 hs f1) hk
  have r : gIn d (.lst o ds) = (plainD d).bind fun p => (toPyL ds).bind fun ps => if SeqAt.shaped (.list ps) = true then some (ps.any fun z => PyData.eqv z p) else none := by unfold gIn; cases d <;> rfl
  rw [r, e2, f1]
  show (if SeqAt.shaped (PyData.list ps) = true then some (ps.any fun z => PyData.eqv z p) else none) = _
  rw [if_pos hsh, e]
theorem o_in {n m : Nat} {d : D} {ds : List D} {k : Bool} (hd : nice n d = true) (hs : niceL m ds = true) (hk : k = true ↔ cor d ∈ ds.map cor) (p : R (.bl k)) (hn : n ≤ 64 := by decide) (hm : m < 64 := by decide) : gv (gInB d (.lst o ds)) R := ⟨_, by unfold gInB; rw [gIn_nice hd hn hs hm hk]; rfl, p⟩
theorem o_ni {n m : Nat} {d : D} {ds : List D} {k : Bool} (hd : nice n d = true) (hs : niceL m ds = true) (hk : k = true ↔ cor d ∈ ds.map cor) (p : R (.bl (!k))) (hn : n ≤ 64 := by decide) (hm : m < 64 := by decide) : gv (gNiB d (.lst o ds)) R := ⟨_, by unfold gNiB; rw [gIn_nice hd hn hs hm hk]; rfl, p⟩
theorem o_inS {x : Str} {ss : List Str} (h1 : PySem.PyData.strOk x = true) (h2 : ∀ s ∈ ss, PySem.PyData.strOk s = true) (p : R (.bl (decide (x ∈ ss)))) : gv (gInB (.str x) (.lst o (ss.map D.str))) R :=
  o_in (n := 0) (m := 0) h1 (nice_strs h2) (by simp [cor]) p
theorem o_niS {x : Str} {ss : List Str} (h1 : PySem.PyData.strOk x = true) (h2 : ∀ s ∈ ss, PySem.PyData.strOk s = true) (p : R (.bl (!decide (x ∈ ss)))) : gv (gNiB (.str x) (.lst o (ss.map D.str))) R :=
  o_ni (n := 0) (m := 0) h1 (nice_strs h2) (by simp [cor]) p
theorem o_inST {x : Str} {ss : List Str} (p : R (.bl (decide (x ∈ ss)))) : gv (gInB (.str x) (.tup (ss.map D.str))) R := by
  refine ⟨_, ?_, p⟩
  show ((strsOf (ss.map D.str)).map _).map _ = _
  rw [strsOf_strs]
  show some (D.bl _) = _
  congr 2
  rw [Bool.eq_iff_iff]
  simp
theorem intsD_get {lo : Int} {n i : Nat} {d : D} (h : (intsD lo n)[i]? = some d) : i < n ∧ d = .int (lo + (i : Nat)) := by
  unfold intsD at h
  rw [List.getElem?_map] at h
  obtain ⟨j, e, rfl⟩ := Option.map_eq_some_iff.mp h
  have hi : i < n := by
    rcases Nat.lt_or_ge i n with l | l
    · exact l
    · rw [List.getElem?_eq_none (by simpa using l)] at e; cases e
  rw [List.getElem?_range hi] at e
  cases e
  exact ⟨hi, rfl⟩
theorem intsD_len (lo : Int) (n : Nat) : (intsD lo n).length = n := by simp [intsD]
theorem map_get {α : Type} {f : α → D} {xs : List α} {i : Nat} {d : D} (h : (xs.map f)[i]? = some d) : ∃ x, xs[i]? = some x ∧ d = f x := by
  rw [List.getElem?_map] at h
  obtain ⟨j, e, rfl⟩ := Option.map_eq_some_iff.mp h
  exact ⟨j, e, rfl⟩
theorem ex_int {i : Int} {R : Int → Prop} (p : R i) : ∃ n : Int, D.int i = .int n ∧ R n := ⟨i, rfl, p⟩
theorem ex_lst {o : Tg} {ds : List D} {R : Tg → List D → Prop} (p : R o ds) : ∃ (o' : Tg) (ds' : List D), D.lst o ds = .lst o' ds' ∧ R o' ds' := ⟨o, ds, rfl, p⟩
theorem mul_c1 {i j : Int} (h : j.natAbs < 2 ^ 64) : MulOk i j := .inr (.inl h)
theorem mul_c0 {i j : Int} (h : i.natAbs < 2 ^ 64) : MulOk i j := .inl h
theorem o_pop0 {d : D} {ds : List D} {R : D × List D → Prop} (h : ds.length < sizeLine) (p : R (d, ds)) : gv (gPopA (d :: ds) [.int 0]) R := by
  refine gv_popA (by show ds.length + 1 ≤ sizeLine; exact h) (by decide) (by simp) fun d' e => ?_
  have e' : (d :: ds)[0]? = some d' := e
  simp at e'
  subst e'
  exact p
theorem o_pop0m {α : Type} {f : α → D} {c : α} {l : List α} {R : D × List D → Prop} (h : l.length < sizeLine) (p : R (f c, l.map f)) : gv (gPopA ((c :: l).map f) [.int 0]) R := o_pop0 (by simpa using h) p
theorem inj_str : ∀ {a b : List Str}, a.map D.str = b.map D.str ↔ a = b
  | [], [] => by simp
  | [], _ :: _ => by simp
  | _ :: _, [] => by simp
  | x :: a, y :: b => by simp [inj_str (a := a) (b := b)]
theorem o_eqIN {is : List Int} (p : R (.bl (decide (is = [])))) : gv (gEq (.lst o (is.map D.int)) (.lst u [])) R :=
  o_eq (n := 1) (m := 1) (by simp [nice, nice_ints]) (by simp [nice, niceL]) (by simp [cor, cor_ints, corL]) p
theorem o_eqST {is js : List Str} (h : ∀ s ∈ is, PySem.PyData.strOk s = true) (h2 : ∀ s ∈ js, PySem.PyData.strOk s = true) (p : R (.bl (decide (is = js)))) : gv (gEq (.tup (is.map D.str)) (.tup (js.map D.str))) R :=
  o_eq (n := 1) (m := 1) (by simp [nice, nice_strs h]) (by simp [nice, nice_strs h2]) (by simp [cor, cor_strs, inj_str]) p
theorem o_ix0 {d : D} {ds : List D} (p : R d) : gv (gIx (.lst o (d :: ds)) (.int 0)) R := o_ixL (atI_nat (n := 0) rfl rfl) p
theorem o_ix1 {d d1 : D} {ds : List D} (p : R d1) : gv (gIx (.lst o (d :: d1 :: ds)) (.int 1)) R := o_ixL (atI_nat (n := 1) rfl rfl) p
theorem o_ix2 {d d1 d2 : D} {ds : List D} (p : R d2) : gv (gIx (.lst o (d :: d1 :: d2 :: ds)) (.int 2)) R := o_ixL (atI_nat (n := 2) rfl rfl) p
theorem o_ixT0 {d : D} {ds : List D} (p : R d) : gv (gIx (.tup (d :: ds)) (.int 0)) R := o_ixT (atI_nat (n := 0) rfl rfl) p
theorem o_ixT1 {d d1 : D} {ds : List D} (p : R d1) : gv (gIx (.tup (d :: d1 :: ds)) (.int 1)) R := o_ixT (atI_nat (n := 1) rfl rfl) p
theorem o_ixT2 {d d1 d2 : D} {ds : List D} (p : R d2) : gv (gIx (.tup (d :: d1 :: d2 :: ds)) (.int 2)) R := o_ixT (atI_nat (n := 2) rfl rfl) p
theorem o_ixT3 {d d1 d2 d3 : D} {ds : List D} (p : R d3) : gv (gIx (.tup (d :: d1 :: d2 :: d3 :: ds)) (.int 3)) R := o_ixT (atI_nat (n := 3) rfl rfl) p
theorem sIx_pos (n d k : Nat) (h : k ≤ n) : HT.sIx n d (some (k : Int)) = k := by
  rw [HT.sIx_nat]; omega
theorem cut_map {α : Type} (f : α → D) (xs : List α) (lo hi : Option Int) : cutD (xs.map f) lo hi = ((xs.drop (HT.sIx xs.length 0 lo)).take (HT.sIx xs.length xs.length hi - HT.sIx xs.length 0 lo)).map f := by
  unfold cutD
  rw [List.length_map, List.map_take, List.map_drop]
theorem cut_tail (d : D) (l : List D) : cutD (d :: l) (some 1) none = l := by
  unfold cutD
  have e : HT.sIx (d :: l).length 0 (some 1) = 1 := sIx_pos _ _ 1 (by simp)
  rw [e]
  show List.take (l.length + 1 - 1) l = l
  simp
theorem cut_from {n : Nat} {i : Int} {l : List D} (hi : i = n) (h : n ≤ l.length) : cutD l (some i) none = l.drop n := by
  subst hi
  unfold cutD
  rw [sIx_pos _ _ _ h]
  show List.take (l.length - n) _ = _
  rw [List.take_of_length_le (by simp)]
theorem cut_to {n : Nat} {i : Int} {l : List D} (hi : i = n) (h : n ≤ l.length) : cutD l none (some i) = l.take n := by
  subst hi
  unfold cutD
  rw [sIx_pos _ _ _ h]
  show List.take (n - 0) l = _
  simp
theorem div_ok {i j : Int} (h1 : 0 < j) (h2 : j < 2 ^ 200) : DivOk i j := ⟨h1, by
  have h3 : j.natAbs < 2 ^ 200 := by omega
  exact Nat.lt_trans h3 (Nat.pow_lt_pow_right (by decide) (by decide))⟩
theorem o_setL {ds : List D} {i : Int} {d : D} {R : D → Prop} (h0 : 0 ≤ i) (h1 : i < ds.length) (p : R (.lst .ow (ds.set i.toNat d))) : gv (gSet (.lst .ow ds) (.int i) d) R := by
  refine ⟨_, ?_, p⟩
  unfold gSet ixN
  simp only [h0, h1, if_true]
end
section
variable {Q : Fl → SS → Prop} {E : D → SS → Prop} {S : SS} {f h : Fst}
def midK (R : SS → Prop) : Fl → SS → Prop
  | .nx, S => R S
  | _, _ => False
theorem m_nx {R : SS → Prop} (p : R S) : midK R .nx S := p
theorem w_mid (R : SS → Prop) (h1 : (f S).ps (midK R) E) (h2 : ∀ S1, R S1 → (h S1).ps Q E) : (f S).ps (seqK h Q E) E :=
  Rs.ps_mono h1 (fun fl S1 q => by cases fl with
    | nx => exact h2 S1 q
    | bk => exact q.elim
    | ct => exact q.elim
    | rt d => exact q.elim) fun _ _ z => z
theorem map_snoc {α β : Type} (f : α → β) (xs : List α) (x : α) : xs.map f ++ [f x] = (xs ++ [x]).map f := by simp
end
theorem o_ixb {o : Tg} {x y : Int} {b : Bool} {R : D → Prop} (p : ∀ v, v = x ∨ v = y → R (.int v)) : gv (gIx (.lst o [.int x, .int y]) (.int (if b then 1 else 0))) R := by
  cases b with
  | false => exact o_ixL (atI_nat (n := 0) rfl rfl) (p x (.inl rfl))
  | true => exact o_ixL (atI_nat (n := 1) rfl rfl) (p y (.inr rfl))
theorem o_ixbS {o : Tg} {x y : Str} {b : Bool} {R : D → Prop} (p : R (.str (if b then y else x))) : gv (gIx (.lst o [.str x, .str y]) (.int (if b then 1 else 0))) R := by
  cases b with
  | false => exact o_ixL (atI_nat (n := 0) rfl rfl) p
  | true => exact o_ixL (atI_nat (n := 1) rfl rfl) p
theorem mul_bd {a b m n : Int} (ha : 0 ≤ a) (hb : 0 ≤ b) (h1 : a ≤ m) (h2 : b ≤ n) : 0 ≤ a * b ∧ a * b ≤ m * n :=
  ⟨Int.mul_nonneg ha hb, Int.le_trans (Int.mul_le_mul_of_nonneg_right h1 hb) (Int.mul_le_mul_of_nonneg_left h2 (by omega))⟩
theorem pow2_le {j : Int} (h : j ≤ 100) : (2 : Int) ^ j.toNat ≤ 2 ^ 100 := by
  have h1 : j.toNat ≤ 100 := by omega
  have h2 : (2 : Nat) ^ j.toNat ≤ 2 ^ 100 := Nat.pow_le_pow_right (by decide) h1
  exact_mod_cast h2
theorem pow2_pos (n : Nat) : (0 : Int) < 2 ^ n := Int.pow_pos (by decide)
theorem div_shl {i a j : Int} (ha : 0 < a) (ha2 : a < 2 ^ 64) (hj : j ≤ 100) : DivOk i (a * 2 ^ j.toNat) :=
  div_ok (Int.mul_pos ha (pow2_pos _)) (by
    have h1 := pow2_le hj
    have h2 := mul_bd (Int.le_of_lt ha) (Int.le_of_lt (pow2_pos j.toNat)) (Int.le_of_lt ha2) h1
    have h3 : (2 : Int) ^ 64 * 2 ^ 100 < 2 ^ 200 := by decide
    exact Int.lt_of_le_of_lt h2.2 h3)
theorem o_ixmodL {α : Type} {o : Tg} {xs : List α} {f : α → D} {i : Int} {R : D → Prop} (h : 0 < xs.length) (p : ∀ x ∈ xs, R (f x)) : gv (gIx (.lst o (xs.map f)) (.int (i % ((xs.map f).length : Nat)))) R := by
  have h1 : 0 < (((xs.map f).length : Nat) : Int) := by simp; omega
  refine gv_ixL (Int.emod_nonneg _ (by omega)) (Int.emod_lt_of_pos _ h1) fun d hd => ?_
  obtain ⟨x, hx, rfl⟩ := map_get hd
  exact p x (List.mem_of_getElem? hx)
theorem pow_ok {i j : Int} (h0 : 0 ≤ j) (h1 : j ≤ 1000000) (h2 : i.natAbs < 2 ^ 64) : PowOk i j := ⟨h0, h1, h2⟩
theorem o_appendM {α : Type} {f : α → D} {xs : List α} {x : α} {R : D × List D → Prop} (h : xs.length < sizeLine) (p : R (.non, (xs ++ [x]).map f)) : gv (gAppend (xs.map f) [f x]) R :=
  o_append (by simpa using h) (by rw [map_snoc]; exact p)
theorem and2 {A B C : Prop} (a : A) (b : B) (c : C) : (A ∧ B) ∧ C := ⟨⟨a, b⟩, c⟩
theorem and4 {A B C D' C' : Prop} (a : A) (b : B) (c : C) (d : D') (e : C') : (A ∧ B ∧ C ∧ D') ∧ C' := ⟨⟨a, b, c, d⟩, e⟩
theorem eraseIdx_perm {α : Type} : ∀ {xs : List α} {i : Nat} {x : α}, xs[i]? = some x → (x :: xs.eraseIdx i).Perm xs
  | [], i, x, h => by simp at h
  | y :: ys, 0, x, h => by simp at h; subst h; exact .refl _
  | y :: ys, i + 1, x, h => by
    have ih := eraseIdx_perm (xs := ys) (i := i) (by simpa using h)
    rw [List.eraseIdx_cons_succ]
    exact (List.Perm.swap y x _).trans (ih.cons y)
theorem eraseIdx_map {α β : Type} (f : α → β) : ∀ (xs : List α) (i : Nat), (xs.map f).eraseIdx i = (xs.eraseIdx i).map f
  | [], _ => rfl
  | _ :: _, 0 => rfl
  | x :: xs, i + 1 => by simp [eraseIdx_map f xs i]
theorem gv_popM {α : Type} {f : α → D} {xs : List α} {i : Int} {R : D × List D → Prop} (h : xs.length ≤ sizeLine) (h0 : 0 ≤ i) (h1 : i < xs.length) (p : ∀ x, xs[i.toNat]? = some x → R (f x, (xs.eraseIdx i.toNat).map f)) : gv (gPopA (xs.map f) [.int i]) R :=
  gv_popA (by simpa using h) h0 (by simpa using h1) fun d hd => by
    obtain ⟨x, hx, rfl⟩ := map_get hd
    rw [eraseIdx_map]
    exact p x hx
theorem enum_get {ds : List D} {i : Nat} {d : D} (h : (enumD ds)[i]? = some d) : ∃ x, ds[i]? = some x ∧ d = .tup [.int (i : Nat), x] := by
  unfold enumD at h
  rw [List.getElem?_mapIdx] at h
  obtain ⟨j, e, rfl⟩ := Option.map_eq_some_iff.mp h
  exact ⟨j, e, rfl⟩
theorem enum_len (ds : List D) : (enumD ds).length = ds.length := by simp [enumD]
theorem o_niX {o : Tg} {n m : Nat} {d : D} {ds : List D} {R : D → Prop} (hd : nice n d = true) (hs : niceL m ds = true) (p : ∀ k : Bool, (k = true ↔ cor d ∈ ds.map cor) → R (.bl (!k))) (hn : n ≤ 64 := by decide) (hm : m < 64 := by decide) : gv (gNiB d (.lst o ds)) R := by
  by_cases h : cor d ∈ ds.map cor
  · exact o_ni hd hs (k := true) (by simp only [h]) (p true (by simp only [h])) hn hm
  · exact o_ni hd hs (k := false) (by simp only [h]; simp) (p false (by simp only [h]; simp)) hn hm
theorem maps_cons {d : D} {ds : List D} : List.map some (d :: ds) = some d :: List.map some ds := rfl
theorem maps_nil : List.map some ([] : List D) = [] := rfl
theorem set_z {α : Type} {a x : α} {l : List α} : (a :: l).set 0 x = x :: l := rfl
theorem set_s {α : Type} {a x : α} {l : List α} {n : Nat} : (a :: l).set (n + 1) x = a :: l.set n x := rfl
section
variable {i : Nat} {r : List Arg} {o S : SS}
theorem rst_nmN : restore (.nm i :: r) (none :: o) S = restore r o S := rfl
theorem rst_val {d : D} {x : Option D} : restore (.val d :: r) (x :: o) S = restore r o S := rfl
theorem rst_nil : restore [] [] S = S := rfl
theorem rst_lst {ds : List D} : restore (.nm i :: r) (some (.lst .ow ds) :: o) S = restore r o (S.set i (some (.lst .ow ds))) := rfl
theorem rst_dK {ds : List (Key × D)} : restore (.nm i :: r) (some (.dK .ow ds) :: o) S = restore r o (S.set i (some (.dK .ow ds))) := rfl
theorem rst_dT {ds : List (List Key × D)} : restore (.nm i :: r) (some (.dT .ow ds) :: o) S = restore r o (S.set i (some (.dT .ow ds))) := rfl
theorem rst_ins {c : Str} {ds : List (Str × D)} : restore (.nm i :: r) (some (.ins .ow c ds) :: o) S = restore r o (S.set i (some (.ins .ow c ds))) := rfl
theorem rst_lstF {ds : List D} : restore (.nm i :: r) (some (.lst .fz ds) :: o) S = restore r o S := rfl
theorem rst_dKF {ds : List (Key × D)} : restore (.nm i :: r) (some (.dK .fz ds) :: o) S = restore r o S := rfl
theorem rst_dTF {ds : List (List Key × D)} : restore (.nm i :: r) (some (.dT .fz ds) :: o) S = restore r o S := rfl
theorem rst_insF {c : Str} {ds : List (Str × D)} : restore (.nm i :: r) (some (.ins .fz c ds) :: o) S = restore r o S := rfl
theorem rst_tup {ds : List D} : restore (.nm i :: r) (some (.tup ds) :: o) S = restore r o S := rfl
theorem rst_int {n : Int} : restore (.nm i :: r) (some (.int n) :: o) S = restore r o S := rfl
theorem rst_str {n : Str} : restore (.nm i :: r) (some (.str n) :: o) S = restore r o S := rfl
theorem rst_bl {n : Bool} : restore (.nm i :: r) (some (.bl n) :: o) S = restore r o S := rfl
theorem rst_non  : restore (.nm i :: r) (some (.non) :: o) S = restore r o S := rfl
end
theorem outs_t {bs : List Bool} {o : Option D} {S : SS} : outs (true :: bs) (o :: S) = o :: outs bs S := rfl
theorem outs_f {bs : List Bool} {o : Option D} {S : SS} : outs (false :: bs) (o :: S) = none :: outs bs S := rfl
theorem outs_n {S : SS} : outs [] S = [] := rfl
theorem wipe_n {S : SS} : wipeS S [] = S := rfl
theorem wipe_c {S : SS} {v : Nat} {vs : List Nat} : wipeS S (v :: vs) = (wipeS S vs).set v none := rfl
theorem frzE_lst {ds : List D} : frz (.lst .ow ds) = .lst .fz ds := rfl
theorem frzE_dK {ds : List (Key × D)} : frz (.dK .ow ds) = .dK .fz ds := rfl
theorem frzE_dT {ds : List (List Key × D)} : frz (.dT .ow ds) = .dT .fz ds := rfl
theorem frzE_ins {c : Str} {ds : List (Str × D)} : frz (.ins .ow c ds) = .ins .fz c ds := rfl
theorem frzE_lstF {ds : List D} : frz (.lst .fz ds) = .lst .fz ds := rfl
theorem frzE_dKF {ds : List (Key × D)} : frz (.dK .fz ds) = .dK .fz ds := rfl
theorem frzE_dTF {ds : List (List Key × D)} : frz (.dT .fz ds) = .dT .fz ds := rfl
theorem frzE_insF {c : Str} {ds : List (Str × D)} : frz (.ins .fz c ds) = .ins .fz c ds := rfl
theorem frzE_tup {ds : List D} : frz (.tup ds) = .tup ds := rfl
theorem frzE_int {n : Int} : frz (.int n) = .int n := rfl
theorem frzE_str {n : Str} : frz (.str n) = .str n := rfl
theorem frzE_bl {n : Bool} : frz (.bl n) = .bl n := rfl
theorem frzE_non  : frz (.non) = .non := rfl
theorem w_fzS' {i : Nat} {f : Fst} {Q : Fl → SS → Prop} {E : D → SS → Prop} {S : SS} {d : D} (hs : slot S i = some d) (p : stK (S.set i (some (frz d))) fun S1 => (f S1).ps Q E) : (fFzS i f S).ps Q E := by
  have e : fzSlot i S = S.set i (some (frz d)) := by unfold fzSlot; rw [hs]
  exact w_fzS (by unfold stK; rw [e]; exact p)
theorem opt_map {α : Type} {g : α → D} : ∀ {ds : List D} {R : D → Option α → Prop} {os : List (Option D)}, os.length = ds.length → (∀ (i : Nat) (d : D) (o : Option D), ds[i]? = some d → os[i]? = some o → ∃ a : Option α, o = a.map g ∧ R d a) →
    ∃ as : List (Option α), os.filterMap id = (as.filterMap id).map g ∧ as.length = ds.length ∧ ∀ (i : Nat) (d : D) (a : Option α), ds[i]? = some d → as[i]? = some a → R d a
  | [], R, [], _, _ => ⟨[], rfl, rfl, by simp⟩
  | [], R, _ :: _, h, _ => by simp at h
  | _ :: _, R, [], h, _ => by simp at h
  | d :: ds, R, o :: os, hl, h => by
    obtain ⟨as, e1, e2, h2⟩ := opt_map (ds := ds) (os := os) (R := R) (by simpa using hl) fun i d o hd ho => h (i + 1) d o (by simpa using hd) (by simpa using ho)
    obtain ⟨a, rfl, r⟩ := h 0 d o rfl rfl
    refine ⟨a :: as, ?_, by simp [e2], fun i d' a' hd ha => ?_⟩
    · cases a with
      | none => simpa using e1
      | some x => simpa using e1
    · cases i with
      | zero => simp at hd ha; subst hd; subst ha; exact r
      | succ i => exact h2 i d' a' (by simpa using hd) (by simpa using ha)
section
variable {P : D → SS → Prop} {E : D → SS → Prop} {S : SS} {fi : Fit} {ft : Ft} {fa : Fe} {tt : SS → Rs Bool} {vs : List Nat}
theorem w_lcO {α : Type} (g : α → D) (R : D → Option α → Prop) (p : (fi S).ps (fun (ds : List D) S1 => ds.length ≤ sizeLine ∧ stK (wipeS S1 vs) fun S0 =>
      (∀ d ∈ ds, tgt ft d S0 fun S2 => (tt S2).ps (fun b S3 => (b = true → (fa S3).ps (frzK fun y S4 => ∃ a, y = g a ∧ R d (some a) ∧ stK (wipeS S4 vs) (· = S0)) fun _ _ => False) ∧ (b = false → R d none ∧ stK (wipeS S3 vs) (· = S0))) fun _ _ => False) ∧
      (∀ as : List (Option α), as.length = ds.length → (∀ (i : Nat) (d : D) (a : Option α), ds[i]? = some d → as[i]? = some a → R d a) → P (.lst .ow ((as.filterMap id).map g)) S0)) E) : (fLc fi ft tt fa vs S).ps P E := by
  refine w_lc (fun d o => ∃ a : Option α, o = a.map g ∧ R d a) (Rs.ps_mono p (fun ds S1 q => ?_) fun _ _ z => z)
  obtain ⟨hl, turn, fin⟩ := q
  refine ⟨hl, fun d hd => ?_, fun os e h => ?_⟩
  · obtain ⟨S2, e, q⟩ := turn d hd
    refine ⟨S2, e, Rs.ps_mono q (fun b S3 q => ⟨fun hb => Rs.ps_mono (q.1 hb) (fun y S4 q => ?_) fun _ _ z => z, fun hb => ?_⟩) fun _ _ z => z⟩
    · obtain ⟨a, e, r, st⟩ := q
      exact ⟨st, some a, congrArg some e, r⟩
    · obtain ⟨r, st⟩ := q.2 hb
      exact ⟨st, none, rfl, r⟩
  · obtain ⟨as, e1, e2, h2⟩ := opt_map (g := g) (R := R) e h
    rw [e1]
    exact fin as e2 h2
theorem w_lcR {α : Type} (g : α → D) (R : D → α → Prop) (p : (fi S).ps (fun (ds : List D) S1 => ds.length ≤ sizeLine ∧ stK (wipeS S1 vs) fun S0 =>
      (∀ d ∈ ds, tgt ft d S0 fun S2 => (fa S2).ps (frzK fun y S4 => ∃ a, y = g a ∧ R d a ∧ stK (wipeS S4 vs) (· = S0)) fun _ _ => False) ∧
      (∀ as : List α, as.length = ds.length → (∀ (i : Nat) (d : D) (a : α), ds[i]? = some d → as[i]? = some a → R d a) → P (.lst .ow (as.map g)) S0)) E) : (fLc fi ft fYes fa vs S).ps P E := by
  refine w_lcO g (fun d a => ∃ x, a = some x ∧ R d x) (Rs.ps_mono p (fun ds S1 q => ?_) fun _ _ z => z)
  obtain ⟨hl, turn, fin⟩ := q
  refine ⟨hl, fun d hd => ?_, fun as e h => ?_⟩
  · obtain ⟨S2, e, q⟩ := turn d hd
    refine ⟨S2, e, ⟨⟨fun _ => Rs.ps_mono q (fun y S4 q => ?_) fun _ _ z => z, fun hb => by cases hb⟩⟩⟩
    obtain ⟨a, e, r, st⟩ := q
    exact ⟨a, e, ⟨a, rfl, r⟩, st⟩
  · have key : ∀ {ds : List D} {as : List (Option α)}, as.length = ds.length → (∀ (i : Nat) (d : D) (a : Option α), ds[i]? = some d → as[i]? = some a → ∃ x, a = some x ∧ R d x) → as = (as.filterMap id).map some := by
      intro ds as
      induction as generalizing ds with
      | nil => exact fun _ _ => rfl
      | cons a as ih =>
        intro hl h
        cases ds with
        | nil => simp at hl
        | cons d ds =>
          obtain ⟨x, rfl, r⟩ := h 0 d a rfl rfl
          have ih' := ih (ds := ds) (by simpa using hl) fun i d a hd ha => h (i + 1) d a (by simpa using hd) (by simpa using ha)
          simp only [List.filterMap_cons, id, List.map_cons]
          rw [← ih']
    have e2 := key e h
    have hlen : (as.filterMap id).length = as.length := by
      have := congrArg List.length e2
      simpa using this.symm
    refine fin (as.filterMap id) (by rw [hlen, e]) fun i d a hd ha => ?_
    obtain ⟨x, e3, r⟩ := h i d (some a) hd (by rw [e2, List.getElem?_map, ha]; rfl)
    cases e3
    exact r
end
theorem br_t {b : Bool} {A B : Prop} (h : b = true) (p : A) : (b = true → A) ∧ (b = false → B) := ⟨fun _ => p, fun e => by rw [h] at e; cases e⟩
theorem br_f {b : Bool} {A B : Prop} (h : b = false) (p : B) : (b = true → A) ∧ (b = false → B) := ⟨fun e => (by rw [h] at e; cases e), fun _ => p⟩
theorem o_isiII {i : Int} {R : D → Prop} (p : R (.bl true)) : gv (gIsi "int" (.int i)) R := ⟨_, rfl, p⟩
theorem o_isiBI {i : Int} {R : D → Prop} (p : R (.bl false)) : gv (gIsi "bool" (.int i)) R := ⟨_, rfl, p⟩
theorem ps_all {α β : Type} {r : Rs α} {A : β → α → SS → Prop} {C : β → Prop} {E : D → SS → Prop} (x0 : β) (h0 : C x0) (h : ∀ x, C x → r.ps (A x) E) : r.ps (fun a S => ∀ x, C x → A x a S) E := by
  cases e : r with
  | ok a S => exact ⟨fun x hx => by have := (h x hx).h; rw [e] at this; exact this⟩
  | exc a S => have := (h x0 h0).h; rw [e] at this; exact ⟨this⟩
  | stk => have := (h x0 h0).h; rw [e] at this; exact (show False from this).elim
section
variable {P : D → SS → Prop} {E : D → SS → Prop} {S : SS} {fi : Fit} {ft : Ft} {fa : Fe} {tt : SS → Rs Bool} {vs : List Nat}
theorem w_lcT {β : Type} (xs : List β) (f g : β → D) (t : β → Bool) (p : (fi S).ps (fun (ds : List D) S1 => ds = xs.map f ∧ xs.length ≤ sizeLine ∧ stK (wipeS S1 vs) fun S0 =>
      (∀ x ∈ xs, tgt ft (f x) S0 fun S2 => (tt S2).ps (fun b S3 => b = t x ∧ (b = true → (fa S3).ps (frzK fun y S4 => y = g x ∧ stK (wipeS S4 vs) (· = S0)) fun _ _ => False) ∧ (b = false → stK (wipeS S3 vs) (· = S0))) fun _ _ => False) ∧
      P (.lst .ow ((xs.filter t).map g)) S0) E) : (fLc fi ft tt fa vs S).ps P E := by
  refine w_lc (fun d o => ∀ x, x ∈ xs ∧ f x = d → o = if t x then some (g x) else none) (Rs.ps_mono p (fun ds S1 q => ?_) fun _ _ z => z)
  obtain ⟨rfl, hl, turn, fin⟩ := q
  refine ⟨by simpa using hl, fun d hd => ?_, fun os e h => ?_⟩
  · obtain ⟨x0, hx0, e0⟩ := List.mem_map.mp hd
    obtain ⟨S2, e2, q0⟩ := turn x0 hx0
    rw [e0] at e2
    refine ⟨S2, e2, ?_⟩
    have q1 : ∀ x, (x ∈ xs ∧ f x = d) → (tt S2).ps (fun b S3 => b = t x ∧ (b = true → (fa S3).ps (frzK fun y S4 => y = g x ∧ stK (wipeS S4 vs) (· = wipeS S1 vs)) fun _ _ => False) ∧ (b = false → stK (wipeS S3 vs) (· = wipeS S1 vs))) fun _ _ => False := fun x ⟨hx, ex⟩ => by
      obtain ⟨S2', e2', q⟩ := turn x hx
      rw [ex, e2] at e2'
      cases e2'
      exact q
    refine Rs.ps_mono (ps_all x0 ⟨hx0, e0⟩ q1) (fun b S3 q => ⟨fun hb => ?_, fun hb => ?_⟩) fun _ _ z => z
    · refine Rs.ps_mono (ps_all x0 ⟨hx0, e0⟩ fun x hx => (q x hx).2.1 hb) (fun y S4 q2 => ⟨(q2 x0 ⟨hx0, e0⟩).2, fun x hx => ?_⟩) fun _ _ z => z
      rw [← (q x hx).1, hb, if_pos rfl, ← (q2 x hx).1]
    · exact ⟨(q x0 ⟨hx0, e0⟩).2.2 hb, fun x hx => by rw [← (q x hx).1, hb]; rfl⟩
  · have e2 : os = xs.map fun x => if t x then some (g x) else none := by
      refine List.ext_getElem? fun i => ?_
      rw [List.length_map] at e
      by_cases hi : i < xs.length
      · have h1 := h i (f xs[i]) _ (by rw [List.getElem?_map, List.getElem?_eq_getElem hi]; rfl) (List.getElem?_eq_getElem (by omega)) xs[i] ⟨List.getElem_mem hi, rfl⟩
        rw [List.getElem?_eq_getElem (by omega), h1, List.getElem?_map, List.getElem?_eq_getElem hi]
        rfl
      · rw [List.getElem?_eq_none (by omega), List.getElem?_eq_none (by simp; omega)]
    have e3 : os.filterMap id = (xs.filter t).map g := by
      rw [e2]
      clear h e e2 fin turn hl p
      induction xs with
      | nil => rfl
      | cons x xs ih =>
        by_cases hx : t x = true
        · simp [hx, ih]
        · simp [hx, ih]
    rw [e3]
    exact fin
theorem w_lcM {β : Type} (xs : List β) (f g : β → D) (p : (fi S).ps (fun (ds : List D) S1 => ds = xs.map f ∧ xs.length ≤ sizeLine ∧ stK (wipeS S1 vs) fun S0 =>
      (∀ x ∈ xs, tgt ft (f x) S0 fun S2 => (fa S2).ps (frzK fun y S4 => y = g x ∧ stK (wipeS S4 vs) (· = S0)) fun _ _ => False) ∧
      P (.lst .ow (xs.map g)) S0) E) : (fLc fi ft fYes fa vs S).ps P E := by
  refine w_lcT xs f g (fun _ => true) (Rs.ps_mono p (fun ds S1 q => ?_) fun _ _ z => z)
  obtain ⟨e, hl, turn, fin⟩ := q
  refine ⟨e, hl, fun x hx => ?_, ?_⟩
  · obtain ⟨S2, e2, q⟩ := turn x hx
    exact ⟨S2, e2, ⟨⟨rfl, fun _ => q, fun hb => by cases hb⟩⟩⟩
  · rw [List.filter_eq_self.mpr (fun _ _ => rfl)]
    exact fin
end
theorem o_eqII {i : Int} {R : D → Prop} (p : R (.bl true)) : gv (gEq (.int i) (.int i)) R := o_eq (n := 0) (m := 0) rfl rfl (by simp) p
theorem o_neII {i : Int} {R : D → Prop} (p : R (.bl false)) : gv (gNe (.int i) (.int i)) R := o_ne (n := 0) (m := 0) (k := true) rfl rfl (by simp) p
theorem o_neDD {n : Nat} {d : D} {R : D → Prop} (h : nice n d = true) (p : R (.bl false)) (hn : n ≤ 64 := by decide) : gv (gNe d d) R := o_ne (n := n) (m := n) (k := true) h h (by simp) p hn hn
theorem gIn_niceT {n m : Nat} {xs ds : List D} {k : Bool} (hd : nice n (.tup xs) = true) (hn : n ≤ 64) (hs : niceL m ds = true) (hm : m < 64) (hk : k = true ↔ cor (.tup xs) ∈ ds.map cor) : gIn (.tup xs) (.tup ds) = some k := by
  obtain ⟨p, e1, e2⟩ := plain_nice hd hn
  obtain ⟨ps, f1, f2, f3⟩ := toPyL_nice hs
  have hsh : SeqAt.shaped (PyData.tuple ps) = true := by
    unfold SeqAt.shaped
    simp only [PyData.canLay0, f2, PyData.depth, Bool.true_and, decide_eq_true_eq]
    have : PyData.depthAll ps + 1 ≤ 64 := by omega
    exact decide_eq_true this
  have e : (ps.any fun z => PyData.eqv z p) = k := bl_eq (toPyL_any hd e1 hs f1) hk
  show ((plainD (.tup xs)).bind fun p => (toPyL ds).bind fun ps => if SeqAt.shaped (.tuple ps) = true then some (ps.any fun z => PyData.eqv z p) else none) = _
  rw [e2, f1]
  show (if SeqAt.shaped (PyData.tuple ps) = true then some (ps.any fun z => PyData.eqv z p) else none) = _
  rw [if_pos hsh, e]
theorem o_inTX {n m : Nat} {xs ds : List D} {R : D → Prop} (hd : nice n (.tup xs) = true) (hs : niceL m ds = true) (p : ∀ k : Bool, (k = true ↔ cor (.tup xs) ∈ ds.map cor) → R (.bl k)) (hn : n ≤ 64 := by decide) (hm : m < 64 := by decide) : gv (gInB (.tup xs) (.tup ds)) R := by
  by_cases h : cor (.tup xs) ∈ ds.map cor
  · exact ⟨_, by unfold gInB; rw [gIn_niceT (k := true) hd hn hs hm (by simp only [h])]; rfl, p true (by simp only [h])⟩
  · exact ⟨_, by unfold gInB; rw [gIn_niceT (k := false) hd hn hs hm (by simp only [h]; simp)]; rfl, p false (by simp only [h]; simp)⟩
end T3
set_option Elab.async false
set_option linter.all false
set_option maxRecDepth 100000
set_option maxHeartbeats 4000000
namespace T3
open PySem PySem.Spec PyProof.Rows L2
section
variable {R : D → Prop} {o u : Tg}
theorem o_isiTT {ds : List D} (p : R (.bl true)) : gv (gIsi "tuple" (.tup ds)) R := ⟨_, rfl, p⟩
theorem o_isiTS {x : Str} (p : R (.bl false)) : gv (gIsi "tuple" (.str x)) R := ⟨_, rfl, p⟩
theorem o_isiTI {x : Int} (p : R (.bl false)) : gv (gIsi "tuple" (.int x)) R := ⟨_, rfl, p⟩
theorem o_isiTN (p : R (.bl false)) : gv (gIsi "tuple" .non) R := ⟨_, rfl, p⟩
theorem o_isiTL {ds : List D} (p : R (.bl false)) : gv (gIsi "tuple" (.lst .ow ds)) R := ⟨_, rfl, p⟩
theorem o_isiSS {x : Str} (p : R (.bl true)) : gv (gIsi "str" (.str x)) R := ⟨_, rfl, p⟩
theorem o_isiST {ds : List D} (p : R (.bl false)) : gv (gIsi "str" (.tup ds)) R := ⟨_, rfl, p⟩
theorem o_isiSI {x : Int} (p : R (.bl false)) : gv (gIsi "str" (.int x)) R := ⟨_, rfl, p⟩
theorem o_isiSN (p : R (.bl false)) : gv (gIsi "str" .non) R := ⟨_, rfl, p⟩
theorem o_isiIB {x : Bool} (p : R (.bl true)) : gv (gIsi "int" (.bl x)) R := ⟨_, rfl, p⟩
theorem o_isiIS {x : Str} (p : R (.bl false)) : gv (gIsi "int" (.str x)) R := ⟨_, rfl, p⟩
theorem o_isiIT {ds : List D} (p : R (.bl false)) : gv (gIsi "int" (.tup ds)) R := ⟨_, rfl, p⟩
theorem o_isiBB {x : Bool} (p : R (.bl true)) : gv (gIsi "bool" (.bl x)) R := ⟨_, rfl, p⟩
theorem o_isiBS {x : Str} (p : R (.bl false)) : gv (gIsi "bool" (.str x)) R := ⟨_, rfl, p⟩
theorem o_isiBT {ds : List D} (p : R (.bl false)) : gv (gIsi "bool" (.tup ds)) R := ⟨_, rfl, p⟩
theorem o_isiLL {ds : List D} (p : R (.bl true)) : gv (gIsi "list" (.lst .ow ds)) R := ⟨_, rfl, p⟩
theorem o_isiLF {ds : List D} (p : R (.bl true)) : gv (gIsi "list" (.lst .fz ds)) R := ⟨_, rfl, p⟩
theorem o_allM {α : Type} {xs : List α} {t : α → Bool} (p : R (.bl (xs.all t))) : gv (gAll (.lst o (xs.map fun x => .bl (t x)))) R := by
  refine ⟨_, ?_, p⟩
  show (blsOf (xs.map fun x => D.bl (t x))).map _ = _
  rw [show (xs.map fun x => D.bl (t x)) = (xs.map t).map D.bl from by simp, blsOf_bls]
  simp [List.all_map]
theorem o_anyM {α : Type} {xs : List α} {t : α → Bool} (p : R (.bl (xs.any t))) : gv (gAny (.lst o (xs.map fun x => .bl (t x)))) R := by
  refine ⟨_, ?_, p⟩
  show (blsOf (xs.map fun x => D.bl (t x))).map _ = _
  rw [show (xs.map fun x => D.bl (t x)) = (xs.map t).map D.bl from by simp, blsOf_bls]
  simp [List.any_map]
end
section
variable {Q : Fl → SS → Prop} {B : Bool → SS → Prop} {P : D → SS → Prop} {E : D → SS → Prop} {S : SS} {f h : Fst} {c : SS → Rs Bool}
end
section
variable {P : D → SS → Prop} {E : D → SS → Prop} {S : SS} {fi : Fit} {ft : Ft} {fa : Fe} {tt : SS → Rs Bool} {vs : List Nat}
end
theorem pr_rfl {d : D} {B : Prop} (p : B) : d = d ∧ B := ⟨rfl, p⟩
theorem ss_rfl {S : SS} : S = S := rfl
theorem law_fin {F : List D → Rs D} {ns : List Int} (h : (F [.lst .ex (ns.map .int)]).ps (fun d _ => d = .bl true) fun _ _ => False) : ∃ o, F [.lst .ex (ns.map .int)] = .ok (.bl true) o := by
  have h := h.h
  cases e : F [.lst .ex (ns.map .int)] with
  | ok d o => rw [e] at h; have h : d = .bl true := h; subst h; exact ⟨o, rfl⟩
  | exc x o => rw [e] at h; exact (show False from h).elim
  | stk => rw [e] at h; exact (show False from h).elim
end T3
set_option Elab.async false
set_option linter.all false
set_option maxRecDepth 100000
set_option maxHeartbeats 4000000
namespace T3
open PySem PySem.Spec PyProof.Rows L2
theorem toPyL_map {α : Type} {f : α → D} {enc : α → PyData} : ∀ {xs : List α}, (∀ x ∈ xs, toPy (f x) = some (enc x)) → toPyL (xs.map f) = some (xs.map enc)
  | [], _ => by simp [toPyL]
  | x :: xs, h => by simp [toPyL, h x (by simp), toPyL_map (xs := xs) fun y m => h y (by simp [m])]
theorem dSort_map {α : Type} (f : α → D) (enc : α → PyData) (xs : List α) : dSort (xs.map f) (xs.map enc) = (xs.mergeSort (PySem.W.dataLe false enc)).map f := by
  unfold dSort
  have e : (xs.map f).zip (xs.map enc) = xs.map fun x => (f x, enc x) := by
    rw [List.zip_map']
  rw [e, ← PySem.W.sort_maps (r := PySem.W.dataLe false enc) (s := PySem.W.dataLe false (·.2)) (fun x => (f x, enc x)) (fun _ _ _ _ => rfl), List.map_map]
  rfl
theorem o_sorted {α : Type} {R : D → Prop} {o : Tg} (f : α → D) (enc : α → PyData) {xs : List α} (h1 : ∀ x ∈ xs, toPy (f x) = some (enc x)) (h2 : PySem.W.AllAlike (xs.map enc)) (h3 : PySem.W.Sortable (xs.map enc)) (h4 : ∀ x ∈ xs, (enc x).depth ≤ 60)
    (p : R (.lst .ow ((xs.mergeSort (PySem.W.dataLe false enc)).map f))) : gv (gSorted (.lst o (xs.map f))) R := by
  refine ⟨_, ?_, p⟩
  unfold gSorted
  dsimp only
  rw [toPyL_map h1]
  dsimp only [Option.bind_some]
  rw [if_pos ⟨h2, h3, fun q hq => by obtain ⟨x, hx, rfl⟩ := List.mem_map.mp hq; exact h4 x hx⟩, dSort_map]
section
variable {R : D → Prop} {o : Tg}
theorem o_sortedS {xs : List Str} (p : R (.lst .ow ((xs.mergeSort (PySem.W.dataLe false .str)).map D.str))) : gv (gSorted (.lst o (xs.map D.str))) R :=
  o_sorted D.str .str (fun _ _ => by simp [toPy]) (fun d hd d' hd' => by obtain ⟨x, _, rfl⟩ := List.mem_map.mp hd; obtain ⟨y, _, rfl⟩ := List.mem_map.mp hd'; simp [PySem.W.alike])
    (.inr fun d hd => by obtain ⟨x, _, rfl⟩ := List.mem_map.mp hd; simp) (fun x _ => by simp [PyData.depth]) p
theorem o_sortedI {xs : List Int} (p : R (.lst .ow ((xs.mergeSort (PySem.W.dataLe false .int)).map D.int))) : gv (gSorted (.lst o (xs.map D.int))) R :=
  o_sorted D.int .int (fun _ _ => by simp [toPy]) (fun d hd d' hd' => by obtain ⟨x, _, rfl⟩ := List.mem_map.mp hd; obtain ⟨y, _, rfl⟩ := List.mem_map.mp hd'; simp [PySem.W.alike])
    (.inr fun d hd => by obtain ⟨x, _, rfl⟩ := List.mem_map.mp hd; simp) (fun x _ => by simp [PyData.depth]) p
end
end T3
set_option Elab.async false
set_option linter.all false
set_option maxRecDepth 100000
set_option maxHeartbeats 4000000
namespace T3
open PySem PySem.Spec PyProof.Rows L2
section
variable {P : D → SS → Prop} {Q : Fl → SS → Prop} {E : D → SS → Prop} {S : SS} {fi : Fit} {ft : Ft} {fa fv : Fe} {tt : SS → Rs Bool} {vs : List Nat} {R : D → Prop}
theorem w_lrng1 (p : (fa S).ps (fun d S1 => ∃ n : Int, d = .int n ∧ (0 ≤ n ∧ n ≤ 16777216) ∧ P (.lst .ow (intsD 0 n.toNat)) S1) E) : (fLRng1 fa S).ps P E :=
  w_bind (Rs.ps_mono p (fun d S1 q => by obtain ⟨n, rfl, h, q⟩ := q; dsimp only; rw [if_pos h]; exact q) fun _ _ z => z)
def tblO (n : Nat) (T : Nat → Nat → Bool) : D := .nl ((List.range n).map fun i => .lst .ow ((List.range n).map fun j => .bl (T i j)))
def tblF (n : Nat) (T : Nat → Nat → Bool) : D := .lst .fz ((List.range n).map fun i => .lst .fz ((List.range n).map fun j => .bl (T i j)))
theorem fz_tbl {n : Nat} {T : Nat → Nat → Bool} (p : P (tblF n T) S) : frzK P (tblO n T) S := by
  have : frz (tblO n T) = tblF n T := by
    unfold tblO tblF
    show D.lst .fz (List.map frz0 _) = _
    rw [List.map_map]
    rfl
  unfold frzK
  rw [this]; exact p
end
end T3
set_option Elab.async false
set_option linter.all false
set_option maxRecDepth 100000
set_option maxHeartbeats 4000000
namespace T3
open PySem PySem.Spec PyProof.Rows L2
def tx (l : List Nat) : Str := ⟨l.toArray⟩
theorem tx_inj {a b : List Nat} (h : tx a = tx b) : a = b := by
  injection h with h
  simpa using h
theorem tx_append (a b : List Nat) : tx a ++ tx b = tx (a ++ b) := by
  show Str.mk _ = Str.mk _
  simp [tx]
theorem tx_nil : tx [] = ("" : Str) := by decide +kernel
theorem join_nil : ∀ ys : List (List Nat), Txt.join ("" : Str) (ys.map tx) = tx ys.flatten
  | [] => by rw [TL.join_eq]; exact tx_nil.symm
  | [x] => by rw [TL.join_eq]; simp [Str.join]
  | x :: y :: r => by
    have ih := join_nil (y :: r)
    rw [TL.join_eq] at ih ⊢
    show tx x ++ ("" : Str) ++ Str.join "" (tx y :: r.map tx) = _
    have e : Str.join "" (tx y :: r.map tx) = tx (y :: r).flatten := ih
    rw [e, ← tx_nil, tx_append, tx_append]
    simp
theorem tx_len (a : List Nat) : (tx a).length = a.length := by simp [tx, Str.length]
def wd (is : List Nat) : Str := tx (is.map (97 + ·))
abbrev lt1 (i : Nat) : D := .str (tx [97 + i])
theorem wd_inj {a b : List Nat} (h : wd a = wd b) : a = b := by
  have h := tx_inj h
  exact (List.map_inj_right (fun x y e => by omega)).mp h
theorem wd_ok {a : List Nat} (h : ∀ i ∈ a, i < 26) : PySem.PyData.strOk (wd a) = true := by
  unfold PySem.PyData.strOk wd tx
  simp
  intro i hi
  have := h i hi
  omega
abbrev abc : Str := "abcdefghijklmnopqrstuvwxyz"
theorem abc_at {j : Int} (h0 : 0 ≤ j) (h1 : j < 26) {R : D → Prop} (p : R (lt1 j.toNat)) : gv (gIx (.str abc) (.int j)) R := by
  obtain ⟨n, rfl⟩ := Int.eq_ofNat_of_zero_le h0
  have hn : n < 26 := by omega
  refine ⟨_, ?_, p⟩
  have key : ∀ n, n < 26 → (if abc.length ≤ 16777216 then (atI abc.cps.toList ((n : Nat) : Int)).map fun c => (⟨#[c]⟩ : Str) else none) = some (tx [97 + n]) := by decide +kernel
  have k := key n hn
  show (if abc.length ≤ sizeLine then (atI abc.cps.toList ((n : Nat) : Int)).map fun c => D.str ⟨#[c]⟩ else none) = _
  have e : abc.length ≤ 16777216 := by decide +kernel
  rw [if_pos e] at k
  rw [if_pos (show abc.length ≤ sizeLine from e)]
  obtain ⟨c, e1, e2⟩ := Option.map_eq_some_iff.mp k
  rw [e1]
  show some (D.str _) = some (D.str _)
  rw [e2]
  rfl
theorem abc_index {i : Nat} (h : i < 26) {R : D → Prop} (p : R (.int (i : Nat))) : gv (gSIndex (.str abc) (lt1 i)) R := by
  refine ⟨_, ?_, p⟩
  have key : ∀ n, n < 26 → Txt.index0 abc (tx [97 + n]) = some n := by decide +kernel
  show (Txt.index0 abc (tx [97 + i])).map _ = _
  rw [key i h]
  rfl
theorem join_word {o : Tg} {is : List Nat} (h : is.length ≤ 16777216) {R : D → Prop} (p : R (.str (wd is))) : gv (gJoin (.str "") (.lst o (is.map lt1))) R := by
  have e1 : is.map lt1 = ((is.map fun i => [97 + i]).map tx).map D.str := by simp [lt1]
  have e2 : (is.map fun i => [97 + i]).flatten = is.map (97 + ·) := by
    rw [← List.flatMap_def]
    exact (List.map_eq_flatMap).symm
  refine ⟨_, ?_, p⟩
  show ((strsOf (is.map lt1)).bind fun ys => if (ys.map (·.length)).sum + ys.length * ("" : Str).length ≤ 16777216 then some (D.str (Txt.join "" ys)) else none) = _
  rw [e1, strsOf_strs]
  show (if _ then _ else _) = _
  have e3 : ("" : Str).length = 0 := by decide +kernel
  have e4 : (((is.map fun i => [97 + i]).map tx).map (·.length)) = is.map fun _ => 1 := by simp [tx_len]
  have e5 : (is.map fun _ => 1).sum = is.length := by
    clear e1 e2 e4 p h
    induction is with
    | nil => rfl
    | cons x t ih => simp [ih]; omega
  rw [if_pos (by rw [e4, e5, e3]; omega), join_nil, e2]
  rfl
theorem nodup_len {α : Type} [DecidableEq α] : ∀ {xs ys : List α}, xs.Nodup → (∀ x ∈ xs, x ∈ ys) → xs.length ≤ ys.length
  | [], ys, _, _ => Nat.zero_le _
  | x :: xs, ys, nd, sub => by
    have m := sub x (by simp)
    have nd' := List.nodup_cons.mp nd
    have ih := nodup_len (ys := ys.erase x) nd'.2 fun z hz => by
      have : z ≠ x := fun e => nd'.1 (e ▸ hz)
      exact (List.mem_erase_of_ne this).mpr (sub z (by simp [hz]))
    have := List.length_erase_of_mem m
    have : 0 < ys.length := List.length_pos_of_mem m
    simp
    omega
def rot (j : Nat) : List Nat → List Nat
  | [] => []
  | i :: r => (i + j) % 26 :: r
theorem rot_inj {is : List Nat} (hne : is ≠ []) {j k : Nat} (hj : j < 26) (hk : k < 26) (e : rot j is = rot k is) : j = k := by
  cases is with
  | nil => exact absurd rfl hne
  | cons i r =>
    unfold rot at e
    injection e with e _
    omega
theorem rot_free {is : List Nat} (hne : is ≠ []) {ss : List Str} (hl : ss.length ≤ 25) (h : ∀ j, j < 26 → wd (rot j is) ∈ ss) : False := by
  have nd : ((List.range 26).map fun j => wd (rot j is)).Nodup := by
    unfold List.Nodup
    rw [List.pairwise_map]
    refine List.Pairwise.imp_of_mem (R := fun a b => a ≠ b) ?_ (List.nodup_range (n := 26))
    intro a b ha hb ne e
    exact ne (rot_inj hne (List.mem_range.mp ha) (List.mem_range.mp hb) (wd_inj e))
  have := nodup_len nd fun x hx => by
    obtain ⟨j, hj, rfl⟩ := List.mem_map.mp hx
    exact h j (List.mem_range.mp hj)
  simp at this
  omega
def Nm (s : Str) : Prop := ∃ w : List Nat, s = wd w ∧ w ≠ [] ∧ w.length ≤ 8 ∧ ∀ i ∈ w, i < 26
theorem Nm.ok {s : Str} (h : Nm s) : PySem.PyData.strOk s = true := by
  obtain ⟨w, rfl, _, _, h⟩ := h
  exact wd_ok h
structure Names (ss : List Str) (n : Nat) : Prop where
  len : ss.length = n
  nd : ss.Nodup
  nm : ∀ s ∈ ss, Nm s
end T3
set_option Elab.async false
set_option linter.all false
set_option maxRecDepth 100000
set_option maxHeartbeats 4000000
namespace T3
open PySem PySem.Spec PyProof.Rows L2
section
variable {α β κ : Type} [DecidableEq α] [DecidableEq κ]
def dmG (ke : α → κ) (f : β → D) (cs : List (α × β)) : List (κ × D) := cs.map fun c => (ke c.1, f c.2)
def lkA : List (α × β) → α → Option β
  | [], _ => none
  | c :: cs, x => if c.1 = x then some c.2 else lkA cs x
def putA (cs : List (α × β)) (x : α) (v : β) : List (α × β) := if (lkA cs x).isSome then cs.map fun c => if c.1 = x then (c.1, v) else c else cs ++ [(x, v)]
theorem getK_dm {ke : α → κ} {f : β → D} (hk : ∀ x y, ke x = ke y → x = y) (x : α) : ∀ cs : List (α × β), getK (dmG ke f cs) (ke x) = (lkA cs x).map f
  | [] => rfl
  | c :: cs => by
    have ih := getK_dm (f := f) hk x cs
    show (if ke c.1 = ke x then some (f c.2) else getK (dmG ke f cs) (ke x)) = _
    unfold lkA
    by_cases h : c.1 = x
    · rw [if_pos h, if_pos (congrArg ke h)]
      rfl
    · rw [if_neg h, if_neg fun e => h (hk _ _ e), ih]
theorem putD_dm {ke : α → κ} {f : β → D} (hk : ∀ x y, ke x = ke y → x = y) (x : α) (v : β) (cs : List (α × β)) : putD (dmG ke f cs) (ke x) (f v) = dmG ke f (putA cs x v) := by
  unfold putD putA
  rw [getK_dm hk]
  cases e : lkA cs x with
  | none => simp [dmG]
  | some y =>
    simp only [Option.map_some, Option.isSome_some, if_true, dmG, List.map_map]
    refine List.map_congr_left fun c _ => ?_
    simp only [Function.comp]
    by_cases h : c.1 = x
    · rw [if_pos (congrArg ke h), if_pos h]
    · rw [if_neg fun e => h (hk _ _ e), if_neg h]
theorem lkA_map {x y : α} {v : β} : ∀ cs : List (α × β), lkA (cs.map fun c => if c.1 = x then (c.1, v) else c) y = if y = x then (lkA cs y).map fun _ => v else lkA cs y
  | [] => by simp [lkA]
  | c :: cs => by
    have ih := lkA_map (x := x) (y := y) (v := v) cs
    simp only [List.map_cons, lkA]
    by_cases h : c.1 = x
    · rw [if_pos h]
      by_cases hy : c.1 = y
      · rw [if_pos hy, if_pos hy, if_pos (hy.symm.trans h)]; rfl
      · rw [if_neg hy, if_neg hy, ih]
    · rw [if_neg h]
      by_cases hy : c.1 = y
      · rw [if_pos hy, if_pos hy, if_neg fun e => h (hy.trans e)]
      · rw [if_neg hy, if_neg hy, ih]
theorem lkA_append {x y : α} {v : β} : ∀ cs : List (α × β), lkA cs x = none → lkA (cs ++ [(x, v)]) y = if y = x then some v else lkA cs y
  | [], _ => by
    simp only [List.nil_append, lkA]
    by_cases h : x = y
    · rw [if_pos h, if_pos h.symm]
    · rw [if_neg h, if_neg fun e => h e.symm]
  | c :: cs, e => by
    unfold lkA at e
    by_cases h : c.1 = x
    · rw [if_pos h] at e; cases e
    · rw [if_neg h] at e
      have ih := lkA_append (y := y) (v := v) cs e
      simp only [List.cons_append, lkA]
      by_cases hy : c.1 = y
      · rw [if_pos hy, if_pos hy, if_neg fun e => h (hy.trans e)]
      · rw [if_neg hy, if_neg hy, ih]
theorem lkA_put {x y : α} {v : β} {cs : List (α × β)} : lkA (putA cs x v) y = if y = x then some v else lkA cs y := by
  unfold putA
  cases e : lkA cs x with
  | none => simp only [Option.isSome_none, Bool.false_eq_true, if_false]; exact lkA_append cs e
  | some z =>
    simp only [Option.isSome_some, if_true]
    rw [lkA_map]
    by_cases h : y = x
    · subst h; rw [if_pos rfl, if_pos rfl, e]; rfl
    · rw [if_neg h, if_neg h]
theorem put_len {x : α} {v : β} {cs : List (α × β)} : (putA cs x v).length ≤ cs.length + 1 ∧ ((lkA cs x).isSome = true → (putA cs x v).length = cs.length) := by
  unfold putA
  split
  · simp
  · rename_i h
    exact ⟨by simp, fun e => absurd e h⟩
theorem lkA_none {x : α} : ∀ {cs : List (α × β)}, lkA cs x = none ↔ x ∉ cs.map (·.1)
  | [] => by simp [lkA]
  | c :: cs => by
    unfold lkA
    by_cases h : c.1 = x
    · simp [h]
    · rw [if_neg h, lkA_none (cs := cs)]
      simp only [List.map_cons, List.mem_cons, not_or]
      exact ⟨fun q => ⟨fun e => h e.symm, q⟩, fun q => q.2⟩
theorem lkA_some {x : α} {cs : List (α × β)} : (lkA cs x).isSome = true ↔ x ∈ cs.map (·.1) := by
  cases e : lkA cs x with
  | none => simp only [Option.isSome_none, Bool.false_eq_true, false_iff]; exact lkA_none.mp e
  | some v =>
    simp only [Option.isSome_some, true_iff]
    refine Classical.byContradiction fun h => ?_
    rw [lkA_none.mpr h] at e
    cases e
end
def kP (q : Str × Str) : List Key := [.inr q.1, .inr q.2]
theorem kP_inj (x y : Str × Str) (h : kP x = kP y) : x = y := by
  injection h with h1 h2
  injection h1 with h1
  injection h2 with h2
  injection h2 with h2
  exact Prod.ext h1 h2
section
variable {β : Type} {f : β → D} {R : D → Prop} {o : Tg}
abbrev dmP (f : β → D) (cs : List ((Str × Str) × β)) : List (List Key × D) := dmG kP f cs
theorem o_ixP {cs : List ((Str × Str) × β)} {x y : Str} {v : β} (h : lkA cs (x, y) = some v) (p : R (f v)) : gv (gIx (.dT o (dmP f cs)) (.tup [.str x, .str y])) R := by
  refine ⟨_, ?_, p⟩
  show (some (getK (dmP f cs) (kP (x, y)))).bind id = _
  rw [getK_dm kP_inj, h]
  rfl
theorem o_setP {cs : List ((Str × Str) × β)} {x y : Str} {v : β} (hl : cs.length < sizeLine) (p : R (.dT .ow (dmP f (putA cs (x, y) v)))) : gv (gSet (.dT .ow (dmP f cs)) (.tup [.str x, .str y]) (f v)) R := by
  refine ⟨_, ?_, p⟩
  show (if (dmP f cs).length < sizeLine then some (D.dT .ow (putD (dmP f cs) (kP (x, y)) (f v))) else none) = _
  rw [if_pos (by simpa [dmG] using hl), putD_dm kP_inj]
end
inductive Pa {α : Type} (r : α → α → Prop) (M : α → Prop) : α → α → Prop
  | one {a b : α} (h : r a b) : Pa r M a b
  | via {a m b : α} (h1 : Pa r M a m) (hm : M m) (h2 : Pa r M m b) : Pa r M a b
theorem Pa.mono {α : Type} {r : α → α → Prop} {M M' : α → Prop} (h : ∀ x, M x → M' x) : ∀ {a b : α}, Pa r M a b → Pa r M' a b
  | _, _, .one e => .one e
  | _, _, .via p m q => .via (p.mono h) (h _ m) (q.mono h)
theorem Pa.split {α : Type} {r : α → α → Prop} {M : α → Prop} {m : α} {a b : α} (p : Pa r (fun x => M x ∨ x = m) a b) : Pa r M a b ∨ (Pa r M a m ∧ Pa r M m b) := by
  induction p with
  | one e => exact .inl (.one e)
  | @via a c b p hc q ih1 ih2 =>
    rcases hc with hc | rfl
    · rcases ih1 with h1 | ⟨h1, h1'⟩ <;> rcases ih2 with h2 | ⟨h2, h2'⟩
      · exact .inl (.via h1 hc h2)
      · exact .inr ⟨.via h1 hc h2, h2'⟩
      · exact .inr ⟨h1, .via h1' hc h2⟩
      · exact .inr ⟨h1, h2'⟩
    · rcases ih1 with h1 | ⟨h1, h1'⟩ <;> rcases ih2 with h2 | ⟨h2, h2'⟩
      · exact .inr ⟨h1, h2⟩
      · exact .inr ⟨h1, h2'⟩
      · exact .inr ⟨h1, h2⟩
      · exact .inr ⟨h1, h2'⟩
end T3
set_option Elab.async false
set_option linter.all false
set_option maxRecDepth 100000
set_option maxHeartbeats 4000000
namespace T3
open PySem PySem.Spec PyProof.Rows L2
structure Tk where
  name : Str
  len : Int
  kinds : List Str
def tkD (t : Tk) : D := .tup [.str t.name, .int t.len, .tup (t.kinds.map D.str)]
structure TkOk (ps : List Str) (t : Tk) : Prop where
  l0 : 1 ≤ t.len
  l1 : t.len < 10 ^ 62
  nd : t.kinds.Nodup
  sub : ∀ k ∈ t.kinds, k ∈ ps
structure Tasks (ss ps : List Str) (ts : List Tk) : Prop where
  nm : ts.map (·.name) = ss
  ok : ∀ t ∈ ts, TkOk ps t
def orD (q : Str × Str) : D := .tup [.str q.1, .str q.2]
structure Orders (ys : List Str) (os : List (Str × Str)) : Prop where
  ord : ∀ q ∈ os, ∃ i j : Nat, i < j ∧ ys[i]? = some q.1 ∧ ys[j]? = some q.2
  len : os.length ≤ ys.length * ys.length
structure Pr where
  w : Bool
  a : Str
  b : Str
def prD (q : Pr) : D := .tup [.str (if q.w then "with" else "apart"), .str q.a, .str q.b]
theorem prD_ok {q : Pr} (ha : PySem.PyData.strOk q.a = true) (hb : PySem.PyData.strOk q.b = true) : nice 1 (prD q) = true := by
  have h1 : PySem.PyData.strOk (if q.w then ("with" : Str) else "apart") = true := by cases q.w <;> decide +kernel
  simp [nice, niceL, prD, ha, hb]
  exact h1
structure Pairs (ss : List Str) (qs : List Pr) : Prop where
  ok : ∀ q ∈ qs, q.a ∈ ss ∧ q.b ∈ ss ∧ q.a ≠ q.b
  len : qs.length ≤ 1000
structure RowOk (ps row : List Str) : Prop where
  sub : ∀ k ∈ row, k ∈ ps
  l0 : 1 ≤ row.length
  l1 : row.length ≤ 8
theorem nice_prs {ss : List Str} {qs : List Pr} (hs : ∀ s ∈ ss, Nm s) (h : ∀ q ∈ qs, q.a ∈ ss ∧ q.b ∈ ss ∧ q.a ≠ q.b) : niceL 1 (qs.map prD) = true := by
  rw [niceL_all]
  intro d hd
  obtain ⟨q, hq, rfl⟩ := List.mem_map.mp hd
  exact prD_ok (hs _ (h q hq).1).ok (hs _ (h q hq).2.1).ok
abbrev wkD (ts : List Tk) (os : List (Str × Str)) (qs : List Pr) (row : List Str) : D := .tup [.tup (ts.map tkD), .tup (os.map orD), .tup (qs.map prD), .tup (row.map D.str)]
abbrev wrd (q : Pr) : Str := if q.w then "with" else "apart"
def stp (os : List (Str × Str)) (qs : List Pr) (ws : List Str) (a b : Str) : Prop := (a, b) ∈ os ∨ ∃ q ∈ qs, wrd q ∈ ws ∧ ((a = q.a ∧ b = q.b) ∨ (a = q.b ∧ b = q.a))
abbrev Bd (ss : List Str) (os : List (Str × Str)) (qs : List Pr) : Prop := (∀ q ∈ os, q.1 ∈ ss ∧ q.2 ∈ ss) ∧ ∀ q ∈ qs, q.a ∈ ss ∧ q.b ∈ ss
structure Tb (ss : List Str) (cs : List ((Str × Str) × Bool)) (T : Str → Str → Prop) : Prop where
  dom : ∀ a ∈ ss, ∀ b ∈ ss, ∃ k, lkA cs (a, b) = some k ∧ (k = true ↔ T a b)
theorem Tb.iff {ss : List Str} {cs : List ((Str × Str) × Bool)} {T T' : Str → Str → Prop} (h : Tb ss cs T) (e : ∀ a b, T a b ↔ T' a b) : Tb ss cs T' := ⟨fun a ha b hb => by
  obtain ⟨k, e1, h1⟩ := h.dom a ha b hb
  exact ⟨k, e1, h1.trans (e a b)⟩⟩
theorem Tb.put {ss : List Str} {cs : List ((Str × Str) × Bool)} {T : Str → Str → Prop} {x y : Str} (h : Tb ss cs T) (hx : x ∈ ss) (hy : y ∈ ss) : (putA cs (x, y) true).length = cs.length ∧ Tb ss (putA cs (x, y) true) (fun a b => T a b ∨ (a = x ∧ b = y)) := by
  refine ⟨put_len.2 (by obtain ⟨k, e, _⟩ := h.dom x hx y hy; rw [e]; rfl), ⟨fun a ha b hb => ?_⟩⟩
  rw [lkA_put]
  by_cases e : (a, b) = (x, y)
  · rw [if_pos e]
    injection e with e1 e2
    exact ⟨true, rfl, by simp [e1, e2]⟩
  · rw [if_neg e]
    obtain ⟨k, e1, h1⟩ := h.dom a ha b hb
    refine ⟨k, e1, h1.trans ⟨.inl, fun q => q.resolve_right fun ⟨z1, z2⟩ => e (by rw [z1, z2])⟩⟩
theorem nice_os {os : List (Str × Str)} (h : ∀ q ∈ os, PySem.PyData.strOk q.1 = true ∧ PySem.PyData.strOk q.2 = true) : niceL 1 (os.map orD) = true := by
  rw [niceL_all]
  intro d hd
  obtain ⟨q, hq, rfl⟩ := List.mem_map.mp hd
  simp [nice, niceL, orD, h q hq]
theorem cor_or (q : Str × Str) : cor (orD q) = orD q := by simp [orD, cor, corL]
theorem or_inj {p q : Str × Str} (h : orD p = orD q) : p = q := by
  injection h with h
  injection h with h1 h
  injection h with h2 h
  injection h1 with h1
  injection h2 with h2
  exact Prod.ext h1 h2
theorem mem_or {q : Str × Str} {os : List (Str × Str)} : cor (orD q) ∈ (os.map orD).map cor ↔ q ∈ os := by
  rw [cor_or, List.map_map, List.mem_map]
  constructor
  · rintro ⟨p, hp, e⟩
    simp only [Function.comp, cor_or] at e
    rw [← or_inj e]
    exact hp
  · exact fun h => ⟨q, h, cor_or q⟩
structure Wk (ss : List Str) (ts : List Tk) (os : List (Str × Str)) (qs : List Pr) : Prop where
  nm : ts.map Tk.name = ss
  nd : ss.Nodup
  ok : ∀ s ∈ ss, PySem.PyData.strOk s = true
  bd : Bd ss os qs
  sl : ss.length ≤ 26
  ol : os.length ≤ 1000
  ql : qs.length ≤ 1000
theorem Wk.tl {ss : List Str} {ts : List Tk} {os : List (Str × Str)} {qs : List Pr} (h : Wk ss ts os qs) : ts.length = ss.length := by rw [← h.nm]; simp
abbrev Ch (ss : List Str) (os : List (Str × Str)) (qs : List Pr) : Str → Str → Prop := Pa (stp os qs ["with"]) (· ∈ ss)
theorem Pa.iff {α : Type} {r r' : α → α → Prop} {M : α → Prop} (h : ∀ a b, r a b ↔ r' a b) : ∀ {a b : α}, Pa r M a b ↔ Pa r' M a b := by
  have one : ∀ {r r' : α → α → Prop}, (∀ a b, r a b → r' a b) → ∀ {a b}, Pa r M a b → Pa r' M a b := fun h a b p => by
    induction p with
    | one e => exact .one (h _ _ e)
    | via _ hm _ ih1 ih2 => exact .via ih1 hm ih2
  exact fun {a b} => ⟨one fun a b => (h a b).mp, one fun a b => (h a b).mpr⟩
end T3
set_option Elab.async false
set_option linter.all false
set_option maxRecDepth 100000
set_option maxHeartbeats 4000000
namespace T3
open PySem PySem.Spec PyProof.Rows L2
section
variable {R : D → Prop} {o u : Tg}
theorem o_max2 {i j : Int} (p : R (.int (max i j))) : gv (gMax2 (.int i) (.int j)) R := ⟨_, rfl, by
  have : (if j > i then j else i) = max i j := by split <;> omega
  rw [this]; exact p⟩
theorem o_min2 {i j : Int} (p : R (.int (min i j))) : gv (gMin2 (.int i) (.int j)) R := ⟨_, rfl, by
  have : (if j < i then j else i) = min i j := by split <;> omega
  rw [this]; exact p⟩
theorem o_eqBB {a b : Bool} (p : R (.bl (decide (a = b)))) : gv (gEq (.bl a) (.bl b)) R := by
  cases a <;> cases b <;> exact ⟨_, by kernel_rfl, p⟩
theorem o_isNN (p : R (.bl true)) : gv (gIs .non .non) R := ⟨_, rfl, p⟩
theorem o_isNI {i : Int} (p : R (.bl false)) : gv (gIs (.int i) .non) R := ⟨_, rfl, p⟩
theorem o_isNS {i : Str} (p : R (.bl false)) : gv (gIs (.str i) .non) R := ⟨_, rfl, p⟩
theorem o_isNT {i : List D} (p : R (.bl false)) : gv (gIs (.tup i) .non) R := ⟨_, rfl, p⟩
theorem o_isBB {a b : Bool} (p : R (.bl (decide (a = b)))) : gv (gIs (.bl a) (.bl b)) R := ⟨_, rfl, p⟩
theorem o_notBB {a b : Bool} (p : R (.bl (!decide (a = b)))) : gv (gIsNot (.bl a) (.bl b)) R := ⟨_, rfl, p⟩
theorem o_notNN (p : R (.bl false)) : gv (gIsNot .non .non) R := ⟨_, rfl, p⟩
theorem o_notNI {i : Int} (p : R (.bl true)) : gv (gIsNot (.int i) .non) R := ⟨_, rfl, p⟩
theorem o_notNS {i : Str} (p : R (.bl true)) : gv (gIsNot (.str i) .non) R := ⟨_, rfl, p⟩
theorem o_notNT {i : List D} (p : R (.bl true)) : gv (gIsNot (.tup i) .non) R := ⟨_, rfl, p⟩
end
mutual
def tn : Nat → D → Bool
  | _, .non => true
  | _, .int _ => true
  | _, .str x => PySem.PyData.strOk x
  | n, .tup xs => decide (0 < n ∧ xs.length ≤ 16777216) && tnL (n - 1) xs
  | _, _ => false
def tnL : Nat → List D → Bool
  | _, [] => true
  | n, d :: ds => tn n d && tnL n ds
end
mutual
theorem tn_nice : ∀ {n : Nat} {d : D}, tn n d = true → nice n d = true ∧ cor d = d
  | _, .non, _ => by simp [nice, cor]
  | _, .int _, _ => by simp [nice, cor]
  | _, .str x, h => by simpa [nice, cor, tn] using h
  | n, .tup xs, h => by
    simp only [tn, Bool.and_eq_true, decide_eq_true_eq] at h
    have h2 := tnL_nice h.2
    simp [nice, cor, h.1.1, h2.1, h2.2]
  | _, .lst _ _, h => by simp [tn] at h
  | _, .bl _, h => by simp [tn] at h
  | _, .dK _ _, h => by simp [tn] at h
  | _, .dT _ _, h => by simp [tn] at h
  | _, .ins _ _ _, h => by simp [tn] at h
  | _, .xc _ _, h => by simp [tn] at h
  | _, .ni _ _, h => by simp [tn] at h
  | _, .dL _, h => by simp [tn] at h
  | _, .hole _, h => by simp [tn] at h
  | _, .tp _, h => by simp [tn] at h
  | _, .nl _, h => by simp [tn] at h
  | _, .nd _, h => by simp [tn] at h
theorem tnL_nice : ∀ {n : Nat} {ds : List D}, tnL n ds = true → niceL n ds = true ∧ corL ds = ds
  | _, [], _ => by simp [niceL, corL]
  | n, d :: ds, h => by
    simp only [tnL, Bool.and_eq_true] at h
    have h1 := tn_nice h.1
    have h2 := tnL_nice h.2
    simp [niceL, corL, h1, h2]
end
structure AtN (ss : List Str) (m : Int) (cs : List (Str × Int)) : Prop where
  ks : cs.map (·.1) = ss
  vs : ∀ c ∈ cs, 0 ≤ c.2 ∧ c.2 < m
theorem lkA_mem {α β : Type} [DecidableEq α] {x : α} {v : β} : ∀ {cs : List (α × β)}, lkA cs x = some v → (x, v) ∈ cs
  | [], e => by cases e
  | c :: cs, e => by
    unfold lkA at e
    by_cases h : c.1 = x
    · rw [if_pos h] at e
      injection e with e
      subst e; subst h
      simp
    · rw [if_neg h] at e
      exact List.mem_cons_of_mem _ (lkA_mem e)
theorem AtN.get {ss : List Str} {m : Int} {cs : List (Str × Int)} (h : AtN ss m cs) {x : Str} (hx : x ∈ ss) : ∃ v, lkA cs x = some v ∧ 0 ≤ v ∧ v < m := by
  have : (lkA cs x).isSome = true := lkA_some.mpr (by rw [h.ks]; exact hx)
  cases e : lkA cs x with
  | none => rw [e] at this; cases this
  | some v => exact ⟨v, rfl, h.vs _ (lkA_mem e)⟩
theorem AtN.put {ss : List Str} {m : Int} {cs : List (Str × Int)} (h : AtN ss m cs) {x : Str} {v : Int} (hx : x ∈ ss) (h0 : 0 ≤ v) (h1 : v < m) : AtN ss m (putA cs x v) := by
  obtain ⟨u, e, _, _⟩ := h.get hx
  have e2 : putA cs x v = cs.map fun c => if c.1 = x then (c.1, v) else c := by unfold putA; rw [e]; rfl
  rw [e2]
  refine ⟨?_, fun c hc => ?_⟩
  · rw [List.map_map, ← h.ks]
    refine List.map_congr_left fun c _ => ?_
    simp only [Function.comp]
    split <;> rfl
  · obtain ⟨d, hd, rfl⟩ := List.mem_map.mp hc
    split
    · exact ⟨h0, h1⟩
    · exact h.vs d hd
theorem AtN.len {ss : List Str} {m : Int} {cs : List (Str × Int)} (h : AtN ss m cs) : cs.length = ss.length := by rw [← h.ks, List.length_map]
def lenOf (ts : List Tk) (s : Str) : Int := ((ts.find? fun t => decide (t.name = s)).map Tk.len).getD 0
def tkOf (ts : List Tk) (s : Str) : Tk := (ts.find? fun t => decide (t.name = s)).getD ⟨"", 0, []⟩
theorem o_sumT {is : List Int} {R : D → Prop} (p : R (.int is.sum)) : gv (gSum (.tup (is.map D.int))) R := ⟨_, by show Option.map _ (intsOf (is.map D.int)) = _; rw [intsOf_ints]; rfl, p⟩
theorem o_revT {ds : List D} {R : D → Prop} (p : R (.tup ds.reverse)) : gv (gRev (.tup ds)) R := ⟨_, rfl, p⟩
end T3
set_option Elab.async false
set_option linter.all false
set_option maxRecDepth 100000
set_option maxHeartbeats 4000000
namespace T3
open PySem PySem.Spec PyProof.Rows L2
abbrev Rk (es : List (Nat × Nat)) (k a b : Nat) : Prop := Pa (fun i j => (i, j) ∈ es) (· < k) a b
def Mid (es : List (Nat × Nat)) (n k i j : Nat) (T : Nat → Nat → Bool) : Prop := ∀ a b, a < n → b < n → (T a b = true ↔ if a < i ∨ (a = i ∧ b < j) then Rk es (k + 1) a b else Rk es k a b)
theorem Mid.row {es : List (Nat × Nat)} {n k i : Nat} {T : Nat → Nat → Bool} (h : Mid es n k i n T) : Mid es n k (i + 1) 0 T := by
  intro a b ha hb
  rw [h a b ha hb]
  by_cases c : a < i ∨ (a = i ∧ b < n)
  · rw [if_pos c, if_pos (by omega)]
  · rw [if_neg c, if_neg (by omega)]
theorem Mid.all {es : List (Nat × Nat)} {n k : Nat} {T : Nat → Nat → Bool} (h : Mid es n k n 0 T) : Mid es n (k + 1) 0 0 T := by
  intro a b ha hb
  rw [h a b ha hb, if_pos (by omega), if_neg (by omega)]
end T3
set_option Elab.async false
set_option linter.all false
set_option maxRecDepth 100000
set_option maxHeartbeats 4000000
namespace T3
open PySem PySem.Spec PyProof.Rows L2
section
variable {Q : Fl → SS → Prop} {E : D → SS → Prop} {S : SS} {ft : Ft} {body : Fst}
end
end T3
set_option Elab.async false
set_option linter.all false
set_option maxRecDepth 100000
set_option maxHeartbeats 4000000
namespace T3
open PySem PySem.Spec PyProof.Rows L2
end T3
set_option Elab.async false
set_option linter.all false
set_option maxRecDepth 100000
set_option maxHeartbeats 4000000
namespace T3
open PySem PySem.Spec PyProof.Rows L2
class Stp (G : Prop) (H : outParam Prop) : Prop where
  imp : H → G
class Stp4 (G : Prop) (H : outParam Prop) : Prop where
  imp : H → G
class SlotIs (S : SS) (i : Nat) (d : outParam D) : Prop where
  e : slot S i = some d
instance i_sl0 {d : D} {S : SS} : SlotIs (some d :: S) 0 d := ⟨rfl⟩
instance i_slS {x : Option D} {d : D} {S : SS} {i : Nat} [h : SlotIs S i d] : SlotIs (x :: S) (i + 1) d := ⟨h.e⟩
class SetIs (S : SS) (i : Nat) (o : Option D) (S' : outParam SS) : Prop where
  e : S.set i o = S'
instance i_se0 {x o : Option D} {S : SS} : SetIs (x :: S) 0 o (o :: S) := ⟨rfl⟩
instance i_seS {x o : Option D} {S S' : SS} {i : Nat} [h : SetIs S i o S'] : SetIs (x :: S) (i + 1) o (x :: S') := ⟨by rw [List.set_cons_succ, h.e]⟩
class FzT (d : D) : Prop where
  e : fz d = true
instance i_fz1 : FzT .non := ⟨rfl⟩
instance i_fz2 {b : Bool} : FzT (.bl b) := ⟨rfl⟩
instance i_fz3 {b : Int} : FzT (.int b) := ⟨rfl⟩
instance i_fz4 {b : Str} : FzT (.str b) := ⟨rfl⟩
instance i_fz5 {b : List D} : FzT (.tup b) := ⟨rfl⟩
instance i_fz6 {b : List D} : FzT (.lst .fz b) := ⟨rfl⟩
instance i_fz7 {b : List D} : FzT (.lst .ex b) := ⟨rfl⟩
instance i_fz8 {b : List (Key × D)} : FzT (.dK .fz b) := ⟨rfl⟩
instance i_fz9 {b : List (List Key × D)} : FzT (.dT .fz b) := ⟨rfl⟩
instance i_fz10 {c : Str} {b : List (Str × D)} : FzT (.ins .fz c b) := ⟨rfl⟩
instance i_fz11 {n : Nat} {T : Nat → Nat → Bool} : FzT (tblF n T) := ⟨rfl⟩
instance i_fz12 {t : Tk} : FzT (tkD t) := ⟨rfl⟩
instance i_fz13 {q : Str × Str} : FzT (orD q) := ⟨rfl⟩
instance i_fz14 {q : Pr} : FzT (prD q) := ⟨rfl⟩
class FzF (d : D) : Prop where
  e : fz d = false
instance i_ff1 {b : List D} : FzF (.lst .ow b) := ⟨rfl⟩
instance i_ff2 {b : List (Key × D)} : FzF (.dK .ow b) := ⟨rfl⟩
instance i_ff3 {b : List (List Key × D)} : FzF (.dT .ow b) := ⟨rfl⟩
instance i_ff4 {c : Str} {b : List (Str × D)} : FzF (.ins .ow c b) := ⟨rfl⟩
instance i_ff5 {b : List D} : FzF (.nl b) := ⟨rfl⟩
instance i_ff6 {b : List (Key × D)} : FzF (.nd b) := ⟨rfl⟩
instance i_ff7 {n : Nat} {T : Nat → Nat → Bool} : FzF (tblO n T) := ⟨rfl⟩
class FrzIs (d : D) (d' : outParam D) : Prop where
  e : frz d = d'
instance i_fr1 {b : List D} : FrzIs (.lst .ow b) (.lst .fz b) := ⟨rfl⟩
instance i_fr2 {b : List (Key × D)} : FrzIs (.dK .ow b) (.dK .fz b) := ⟨rfl⟩
instance i_fr3 {b : List (List Key × D)} : FrzIs (.dT .ow b) (.dT .fz b) := ⟨rfl⟩
instance i_fr4 {c : Str} {b : List (Str × D)} : FrzIs (.ins .ow c b) (.ins .fz c b) := ⟨rfl⟩
instance (priority := low) i_fr5 {d : D} [h : FzT d] : FrzIs d d := ⟨frz_of h.e⟩
class RstIs (as : List Arg) (o S : SS) (S' : outParam SS) : Prop where
  e : restore as o S = S'
instance i_rs0 {S : SS} : RstIs [] [] S S := ⟨rfl⟩
instance i_rs1 {d : D} {r : List Arg} {x : Option D} {o S S' : SS} [h : RstIs r o S S'] : RstIs (.val d :: r) (x :: o) S S' := ⟨by rw [rst_val]; exact h.e⟩
instance i_rs2 {i : Nat} {r : List Arg} {o S S' : SS} [h : RstIs r o S S'] : RstIs (.nm i :: r) (none :: o) S S' := ⟨by rw [rst_nmN]; exact h.e⟩
theorem rst_fz {i : Nat} {r : List Arg} {o S : SS} {d : D} (h : fz d = true) : restore (.nm i :: r) (some d :: o) S = restore r o S := by
  show restore r o (if fz d then S else S.set i (some d)) = _
  rw [if_pos h]
theorem rst_ow {i : Nat} {r : List Arg} {o S : SS} {d : D} (h : fz d = false) : restore (.nm i :: r) (some d :: o) S = restore r o (S.set i (some d)) := by
  show restore r o (if fz d then S else S.set i (some d)) = _
  rw [if_neg (by rw [h]; decide)]
instance i_rs3 {i : Nat} {r : List Arg} {o S S' : SS} {d : D} [f : FzT d] [h : RstIs r o S S'] : RstIs (.nm i :: r) (some d :: o) S S' := ⟨by rw [rst_fz f.e]; exact h.e⟩
instance i_rs4 {i : Nat} {r : List Arg} {o S S1 S' : SS} {d : D} [f : FzF d] [s : SetIs S i (some d) S1] [h : RstIs r o S1 S'] : RstIs (.nm i :: r) (some d :: o) S S' := ⟨by rw [rst_ow f.e, s.e]; exact h.e⟩
class OutIs (io : List Bool) (S : SS) (o : outParam SS) : Prop where
  e : outs io S = o
instance i_ou0 {S : SS} : OutIs [] S [] := ⟨rfl⟩
instance i_ou1 {io : List Bool} {x : Option D} {S o : SS} [h : OutIs io S o] : OutIs (true :: io) (x :: S) (x :: o) := ⟨by rw [outs_t, h.e]⟩
instance i_ou2 {io : List Bool} {x : Option D} {S o : SS} [h : OutIs io S o] : OutIs (false :: io) (x :: S) (none :: o) := ⟨by rw [outs_f, h.e]⟩
class WipeIs (S : SS) (vs : List Nat) (S' : outParam SS) : Prop where
  e : wipeS S vs = S'
instance i_wi0 {S : SS} : WipeIs S [] S := ⟨rfl⟩
instance i_wi1 {S S1 S' : SS} {v : Nat} {vs : List Nat} [h : WipeIs S vs S1] [s : SetIs S1 v none S'] : WipeIs S (v :: vs) S' := ⟨by rw [wipe_c, h.e]; exact s.e⟩
class RepIs (m : Nat) (S : outParam SS) : Prop where
  e : List.replicate m none = S
instance i_re0 : RepIs 0 [] := ⟨rfl⟩
instance i_reS {m : Nat} {S : SS} [h : RepIs m S] : RepIs (m + 1) (none :: S) := ⟨by rw [List.replicate_succ, h.e]⟩
class MapIs (ds : List D) (T : SS) (S : outParam SS) : Prop where
  e : ds.map some ++ T = S
instance i_mp0 {T : SS} : MapIs [] T T := ⟨rfl⟩
instance i_mpS {d : D} {ds : List D} {T S : SS} [h : MapIs ds T S] : MapIs (d :: ds) T (some d :: S) := ⟨by rw [List.map_cons, List.cons_append, h.e]⟩
instance i_slSet {S S' : SS} {i j : Nat} {o : Option D} {d : D} [h : SetIs S i o S'] [q : SlotIs S' j d] : SlotIs (S.set i o) j d := ⟨by rw [h.e]; exact q.e⟩
instance i_seSet {S S' S2 : SS} {i j : Nat} {o u : Option D} [h : SetIs S i o S'] [q : SetIs S' j u S2] : SetIs (S.set i o) j u S2 := ⟨by rw [h.e]; exact q.e⟩
instance i_slRst {S S' o : SS} {as : List Arg} {j : Nat} {d : D} [h : RstIs as o S S'] [q : SlotIs S' j d] : SlotIs (restore as o S) j d := ⟨by rw [h.e]; exact q.e⟩
instance i_seRst {S S' S2 o : SS} {as : List Arg} {j : Nat} {u : Option D} [h : RstIs as o S S'] [q : SetIs S' j u S2] : SetIs (restore as o S) j u S2 := ⟨by rw [h.e]; exact q.e⟩
section
variable {P : D → SS → Prop} {Q : Fl → SS → Prop} {E : D → SS → Prop} {R : SS → Prop} {S S1 S' : SS} {i : Nat} {d d' : D} {f : Fst} {fa fb : Fe} {g : D → D → Option D}
instance i_st1 {o : Option D} [h : SetIs S i o S'] : Stp (stK (S.set i o) R) (R S') := ⟨fun p => st_go h.e p⟩
instance i_st2 {as : List Arg} {o : SS} [h : RstIs as o S S'] : Stp (stK (restore as o S) R) (R S') := ⟨fun p => st_go h.e p⟩
instance i_st3 {io : List Bool} [h : OutIs io S S'] : Stp (stK (outs io S) R) (R S') := ⟨fun p => st_go h.e p⟩
instance i_st4 {vs : List Nat} [h : WipeIs S vs S'] : Stp (stK (wipeS S vs) R) (R S') := ⟨fun p => st_go h.e p⟩
instance i_st5 {ds : List D} {m : Nat} {T : SS} [h : RepIs m T] [h2 : MapIs ds T S'] : Stp (stK (ds.map some ++ List.replicate m none) R) (R S') := ⟨fun p => st_go (by rw [h.e]; exact h2.e) p⟩
instance i_tg [h : SetIs S i (some d) S'] : Stp (tgt (ftName i) d S R) (R S') := ⟨fun p => tg_name (st_go h.e p)⟩
instance i_var [h : SlotIs S i d] [z : FzT d] : Stp ((fVar i S).ps P E) (P d S) := ⟨fun p => w_var h.e z.e p⟩
instance i_varO [h : SlotIs S i d] [z : FzF d] [s : SetIs S i none S'] : Stp ((fVar i S).ps P E) (P d S') := ⟨fun p => w_varO h.e z.e (st_go s.e p)⟩
instance i_view [h : SlotIs S i d] : Stp ((fView i S).ps P E) (P d S) := ⟨fun p => w_view h.e p⟩
instance i_opN [h : SlotIs S i d] : Stp ((fOpN g i fb S).ps P E) ((fb S).ps (fun d2 S2 => ∃ d1, slot S2 i = some d1 ∧ gv (g d1 d2) fun d => P d S2) E) := ⟨fun p => w_opN h.e p⟩
instance i_fzS [h : SlotIs S i d] [z : FrzIs d d'] [s : SetIs S i (some d') S'] : Stp ((fFzS i f S).ps Q E) ((f S').ps Q E) := ⟨fun p => w_fzS' h.e (st_go (by rw [z.e]; exact s.e) p)⟩
instance i_sl2 {R : D → Prop} [h : SlotIs S i d] : Stp (∃ d1, slot S i = some d1 ∧ R d1) (R d) := ⟨fun p => w_sl2 h.e p⟩
instance (priority := high) i_sl1 {R : List D → Prop} {ds : List D} [h : SlotIs S i (.lst .ow ds)] : Stp (∃ ds', slot S i = some (.lst .ow ds') ∧ R ds') (R ds) := ⟨fun p => w_sl1 h.e p⟩
instance i_slN {fl fh : Fo} [h : SlotIs S i d] : Stp ((fSlN i fl fh S).ps P E) ((fl S).ps (fun lo S1 => (fh S1).ps (fun hi S2 => ∃ d1, slot S2 i = some d1 ∧ gv (gSl d1 lo hi) fun d => P d S2) E) E) := ⟨fun p => w_slN h.e p⟩
instance i_ml0 {gl : List D → List D → Option (D × List D)} {ds : List D} [h : SlotIs S i (.lst .ow ds)] : Stp ((fML0 gl i S).ps P E) (gv (gl ds []) fun q => stK (S.set i (some (.lst .ow q.2))) (P q.1)) := ⟨fun p => w_ml0 h.e p⟩
instance i_ml1 {gl : List D → List D → Option (D × List D)} {ds : List D} [h : SlotIs S i (.lst .ow ds)] : Stp ((fML1 gl i fa S).ps P E) ((fa S).ps (frzK fun y S1 => ∃ ds', slot S1 i = some (.lst .ow ds') ∧ gv (gl ds' [y]) fun q => stK (S1.set i (some (.lst .ow q.2))) (P q.1)) E) := ⟨fun p => w_ml1 h.e p⟩
instance i_faName {A : List Arg → SS → Prop} {fr : Fa} [h : SlotIs S i d] : Stp ((faName i fr S).ps A E) ((fr S).ps (fun as S2 => A (.nm i :: as) S2) E) := ⟨fun p => w_faName h.e p⟩
instance i_resnm {R : List D → SS → Prop} {as : List Arg} [h : SlotIs S i d] [z : FzT d] : Stp (resK (.nm i :: as) S R) (resK as S fun ds S2 => R (d :: ds) S2) := ⟨fun p => res_nm h.e z.e p⟩
instance i_resnmO {R : List D → SS → Prop} {as : List Arg} [h : SlotIs S i d] [z : FzF d] [s : SetIs S i none S'] : Stp (resK (.nm i :: as) S R) (resK as S' fun ds S2 => R (d :: ds) S2) := ⟨fun p => res_nmO h.e z.e (st_go s.e p)⟩
end
section
variable {P : D → SS → Prop} {Q : Fl → SS → Prop} {B : Bool → SS → Prop} {E : D → SS → Prop} {S S1 S2 : SS} {fa fb fc : Fe} {f h : Fst} {g g' : D → D → Option D} {g1 : D → Option D} {i : Nat} {d : D}
instance i_w_seq  : Stp ((fSeq f h S).ps Q E) ((f S).ps (seqK h Q E) E) := ⟨w_seq⟩
end
section
variable {P : D → SS → Prop} {Q : Fl → SS → Prop} {B : Bool → SS → Prop} {E : D → SS → Prop} {S S1 S2 : SS} {fa fb fc : Fe} {f h : Fst} {g g' : D → D → Option D} {g1 : D → Option D} {i : Nat} {d : D}
instance i_k_nx  : Stp (seqK h Q E .nx S) ((h S).ps Q E) := ⟨k_nx⟩
end
section
variable {P : D → SS → Prop} {Q : Fl → SS → Prop} {B : Bool → SS → Prop} {E : D → SS → Prop} {S S1 S2 : SS} {fa fb fc : Fe} {f h : Fst} {g g' : D → D → Option D} {g1 : D → Option D} {i : Nat} {d : D}
instance i_k_rt  : Stp (seqK h Q E (.rt d) S) (Q (.rt d) S) := ⟨k_rt⟩
end
section
variable {P : D → SS → Prop} {Q : Fl → SS → Prop} {B : Bool → SS → Prop} {E : D → SS → Prop} {S S1 S2 : SS} {fa fb fc : Fe} {f h : Fst} {g g' : D → D → Option D} {g1 : D → Option D} {i : Nat} {d : D}
instance i_k_bk  : Stp (seqK h Q E .bk S) (Q .bk S) := ⟨k_bk⟩
end
section
variable {P : D → SS → Prop} {Q : Fl → SS → Prop} {B : Bool → SS → Prop} {E : D → SS → Prop} {S S1 S2 : SS} {fa fb fc : Fe} {f h : Fst} {g g' : D → D → Option D} {g1 : D → Option D} {i : Nat} {d : D}
instance i_k_ct  : Stp (seqK h Q E .ct S) (Q .ct S) := ⟨k_ct⟩
end
section
variable {P : D → SS → Prop} {Q : Fl → SS → Prop} {B : Bool → SS → Prop} {E : D → SS → Prop} {S S1 S2 : SS} {fa fb fc : Fe} {f h : Fst} {g g' : D → D → Option D} {g1 : D → Option D} {i : Nat} {d : D}
variable {fi : Fit} {ft : Ft} {J : List D → SS → Prop}
instance i_t_nx {R : SS → Prop} : Stp (turnK R Q .nx S) (R S) := ⟨t_nx⟩
end
section
variable {P : D → SS → Prop} {Q : Fl → SS → Prop} {B : Bool → SS → Prop} {E : D → SS → Prop} {S S1 S2 : SS} {fa fb fc : Fe} {f h : Fst} {g g' : D → D → Option D} {g1 : D → Option D} {i : Nat} {d : D}
variable {fi : Fit} {ft : Ft} {J : List D → SS → Prop}
instance i_t_ct {R : SS → Prop} : Stp (turnK R Q .ct S) (R S) := ⟨t_ct⟩
end
section
variable {P : D → SS → Prop} {Q : Fl → SS → Prop} {B : Bool → SS → Prop} {E : D → SS → Prop} {S S1 S2 : SS} {fa fb fc : Fe} {f h : Fst} {g g' : D → D → Option D} {g1 : D → Option D} {i : Nat} {d : D}
variable {fi : Fit} {ft : Ft} {J : List D → SS → Prop}
instance i_t_bk {R : SS → Prop} : Stp (turnK R Q .bk S) (Q .nx S) := ⟨t_bk⟩
end
section
variable {P : D → SS → Prop} {Q : Fl → SS → Prop} {B : Bool → SS → Prop} {E : D → SS → Prop} {S S1 S2 : SS} {fa fb fc : Fe} {f h : Fst} {g g' : D → D → Option D} {g1 : D → Option D} {i : Nat} {d : D}
variable {fi : Fit} {ft : Ft} {J : List D → SS → Prop}
instance i_t_rt {R : SS → Prop} : Stp (turnK R Q (.rt d) S) (Q (.rt d) S) := ⟨t_rt⟩
end
section
variable {P : D → SS → Prop} {Q : Fl → SS → Prop} {B : Bool → SS → Prop} {E : D → SS → Prop} {S S1 S2 : SS} {fa fb fc : Fe} {f h : Fst} {g g' : D → D → Option D} {g1 : D → Option D} {i : Nat} {d : D}
variable {fi : Fit} {ft : Ft} {J : List D → SS → Prop}
variable {tt : SS → Rs Bool} {vs : List Nat}
variable {fr : Fa} {A : List Arg → SS → Prop} {F : List D → Rs D}
variable {gl : List D → List D → Option (D × List D)} {ds : List D}
variable {fl fh : Fo} {O : Option Int → SS → Prop}
instance i_r_nx {io : List Bool} : Stp (runK io P .nx S) (stK (outs io S) (P .non)) := ⟨r_nx⟩
end
section
variable {P : D → SS → Prop} {Q : Fl → SS → Prop} {B : Bool → SS → Prop} {E : D → SS → Prop} {S S1 S2 : SS} {fa fb fc : Fe} {f h : Fst} {g g' : D → D → Option D} {g1 : D → Option D} {i : Nat} {d : D}
variable {fi : Fit} {ft : Ft} {J : List D → SS → Prop}
variable {tt : SS → Rs Bool} {vs : List Nat}
variable {fr : Fa} {A : List Arg → SS → Prop} {F : List D → Rs D}
variable {gl : List D → List D → Option (D × List D)} {ds : List D}
variable {fl fh : Fo} {O : Option Int → SS → Prop}
instance i_r_rt {io : List Bool} : Stp (runK io P (.rt d) S) (stK (outs io S) (P d)) := ⟨r_rt⟩
end
section
variable {P : D → SS → Prop} {Q : Fl → SS → Prop} {B : Bool → SS → Prop} {E : D → SS → Prop} {S S1 S2 : SS} {fa fb fc : Fe} {f h : Fst} {g g' : D → D → Option D} {g1 : D → Option D} {i : Nat} {d : D}
instance i_w_asg {ft : Ft} : Stp ((fAsg fa ft S).ps Q E) ((fa S).ps (fun d S1 => tgt ft d S1 fun S2 => Q .nx S2) E) := ⟨w_asg⟩
end
section
variable {P : D → SS → Prop} {Q : Fl → SS → Prop} {B : Bool → SS → Prop} {E : D → SS → Prop} {S S1 S2 : SS} {fa fb fc : Fe} {f h : Fst} {g g' : D → D → Option D} {g1 : D → Option D} {i : Nat} {d : D}
instance i_tg_tup {R : SS → Prop} {fts : Fts} {ds : List D} : Stp (tgt (ftTup fts) (.tup ds) S R) (tgts fts ds S R) := ⟨tg_tup⟩
end
section
variable {P : D → SS → Prop} {Q : Fl → SS → Prop} {B : Bool → SS → Prop} {E : D → SS → Prop} {S S1 S2 : SS} {fa fb fc : Fe} {f h : Fst} {g g' : D → D → Option D} {g1 : D → Option D} {i : Nat} {d : D}
instance i_tgs_nil {R : SS → Prop} : Stp (tgts ftNil [] S R) (R S) := ⟨tgs_nil⟩
end
section
variable {P : D → SS → Prop} {Q : Fl → SS → Prop} {B : Bool → SS → Prop} {E : D → SS → Prop} {S S1 S2 : SS} {fa fb fc : Fe} {f h : Fst} {g g' : D → D → Option D} {g1 : D → Option D} {i : Nat} {d : D}
instance i_tgs_cons {R : SS → Prop} {ft : Ft} {fts : Fts} {ds : List D} : Stp (tgts (ftCons ft fts) (d :: ds) S R) (tgt ft d S fun S1 => tgts fts ds S1 R) := ⟨tgs_cons⟩
end
section
variable {P : D → SS → Prop} {Q : Fl → SS → Prop} {B : Bool → SS → Prop} {E : D → SS → Prop} {S S1 S2 : SS} {fa fb fc : Fe} {f h : Fst} {g g' : D → D → Option D} {g1 : D → Option D} {i : Nat} {d : D}
instance i_w_drop  : Stp ((fDrop fa S).ps Q E) ((fa S).ps (fun _ S1 => Q .nx S1) E) := ⟨w_drop⟩
end
section
variable {P : D → SS → Prop} {Q : Fl → SS → Prop} {B : Bool → SS → Prop} {E : D → SS → Prop} {S S1 S2 : SS} {fa fb fc : Fe} {f h : Fst} {g g' : D → D → Option D} {g1 : D → Option D} {i : Nat} {d : D}
instance i_w_ret  : Stp ((fRet fa S).ps Q E) ((fa S).ps (fun d S1 => Q (.rt d) S1) E) := ⟨w_ret⟩
end
section
variable {P : D → SS → Prop} {Q : Fl → SS → Prop} {B : Bool → SS → Prop} {E : D → SS → Prop} {S S1 S2 : SS} {fa fb fc : Fe} {f h : Fst} {g g' : D → D → Option D} {g1 : D → Option D} {i : Nat} {d : D}
instance i_w_retN  : Stp ((fRetN S).ps Q E) (Q (.rt .non) S) := ⟨w_retN⟩
end
section
variable {P : D → SS → Prop} {Q : Fl → SS → Prop} {B : Bool → SS → Prop} {E : D → SS → Prop} {S S1 S2 : SS} {fa fb fc : Fe} {f h : Fst} {g g' : D → D → Option D} {g1 : D → Option D} {i : Nat} {d : D}
instance i_w_next  : Stp ((fNext S).ps Q E) (Q .nx S) := ⟨w_next⟩
end
section
variable {P : D → SS → Prop} {Q : Fl → SS → Prop} {B : Bool → SS → Prop} {E : D → SS → Prop} {S S1 S2 : SS} {fa fb fc : Fe} {f h : Fst} {g g' : D → D → Option D} {g1 : D → Option D} {i : Nat} {d : D}
instance i_w_break  : Stp ((fBreak S).ps Q E) (Q .bk S) := ⟨w_break⟩
end
section
variable {P : D → SS → Prop} {Q : Fl → SS → Prop} {B : Bool → SS → Prop} {E : D → SS → Prop} {S S1 S2 : SS} {fa fb fc : Fe} {f h : Fst} {g g' : D → D → Option D} {g1 : D → Option D} {i : Nat} {d : D}
instance i_w_cont  : Stp ((fCont S).ps Q E) (Q .ct S) := ⟨w_cont⟩
end
section
variable {Q : Fl → SS → Prop} {E : D → SS → Prop} {S : SS} {f h : Fst}
instance i_m_nx {R : SS → Prop} : Stp (midK R .nx S) (R S) := ⟨m_nx⟩
end
section
variable {P : D → SS → Prop} {Q : Fl → SS → Prop} {B : Bool → SS → Prop} {E : D → SS → Prop} {S S1 S2 : SS} {fa fb fc : Fe} {f h : Fst} {g g' : D → D → Option D} {g1 : D → Option D} {i : Nat} {d : D}
variable {fi : Fit} {ft : Ft} {J : List D → SS → Prop}
instance i_w_for  : Stp ((fFor fi ft f S).ps Q E) ((fi S).ps (fun ds S1 => (fLoop ft f ds S1).ps Q E) E) := ⟨w_for⟩
end
section
variable {P : D → SS → Prop} {Q : Fl → SS → Prop} {B : Bool → SS → Prop} {E : D → SS → Prop} {S S1 S2 : SS} {fa fb fc : Fe} {f h : Fst} {g g' : D → D → Option D} {g1 : D → Option D} {i : Nat} {d : D}
instance i_w_c  : Stp ((fC d S).ps P E) (P d S) := ⟨w_c⟩
end
section
variable {P : D → SS → Prop} {Q : Fl → SS → Prop} {B : Bool → SS → Prop} {E : D → SS → Prop} {S S1 S2 : SS} {fa fb fc : Fe} {f h : Fst} {g g' : D → D → Option D} {g1 : D → Option D} {i : Nat} {d : D}
instance i_w_fz  : Stp ((fFz fa S).ps P E) ((fa S).ps (frzK P) E) := ⟨w_fz⟩
end
section
variable {P : D → SS → Prop} {Q : Fl → SS → Prop} {B : Bool → SS → Prop} {E : D → SS → Prop} {S S1 S2 : SS} {fa fb fc : Fe} {f h : Fst} {g g' : D → D → Option D} {g1 : D → Option D} {i : Nat} {d : D}
instance i_fz_int {n : Int} : Stp (frzK P (.int n) S) (P (.int n) S) := ⟨fz_int⟩
end
section
variable {P : D → SS → Prop} {Q : Fl → SS → Prop} {B : Bool → SS → Prop} {E : D → SS → Prop} {S S1 S2 : SS} {fa fb fc : Fe} {f h : Fst} {g g' : D → D → Option D} {g1 : D → Option D} {i : Nat} {d : D}
instance i_fz_str {n : Str} : Stp (frzK P (.str n) S) (P (.str n) S) := ⟨fz_str⟩
end
section
variable {P : D → SS → Prop} {Q : Fl → SS → Prop} {B : Bool → SS → Prop} {E : D → SS → Prop} {S S1 S2 : SS} {fa fb fc : Fe} {f h : Fst} {g g' : D → D → Option D} {g1 : D → Option D} {i : Nat} {d : D}
instance i_fz_bl {n : Bool} : Stp (frzK P (.bl n) S) (P (.bl n) S) := ⟨fz_bl⟩
end
section
variable {P : D → SS → Prop} {Q : Fl → SS → Prop} {B : Bool → SS → Prop} {E : D → SS → Prop} {S S1 S2 : SS} {fa fb fc : Fe} {f h : Fst} {g g' : D → D → Option D} {g1 : D → Option D} {i : Nat} {d : D}
instance i_fz_non  : Stp (frzK P .non S) (P .non S) := ⟨fz_non⟩
end
section
variable {P : D → SS → Prop} {Q : Fl → SS → Prop} {B : Bool → SS → Prop} {E : D → SS → Prop} {S S1 S2 : SS} {fa fb fc : Fe} {f h : Fst} {g g' : D → D → Option D} {g1 : D → Option D} {i : Nat} {d : D}
instance i_fz_tup {n : List D} : Stp (frzK P (.tup n) S) (P (.tup n) S) := ⟨fz_tup⟩
end
section
variable {P : D → SS → Prop} {Q : Fl → SS → Prop} {B : Bool → SS → Prop} {E : D → SS → Prop} {S S1 S2 : SS} {fa fb fc : Fe} {f h : Fst} {g g' : D → D → Option D} {g1 : D → Option D} {i : Nat} {d : D}
instance i_fz_lst {n : List D} : Stp (frzK P (.lst .ow n) S) (P (.lst .fz n) S) := ⟨fz_lst⟩
end
section
variable {P : D → SS → Prop} {Q : Fl → SS → Prop} {B : Bool → SS → Prop} {E : D → SS → Prop} {S S1 S2 : SS} {fa fb fc : Fe} {f h : Fst} {g g' : D → D → Option D} {g1 : D → Option D} {i : Nat} {d : D}
instance i_fz_lstF {n : List D} : Stp (frzK P (.lst .fz n) S) (P (.lst .fz n) S) := ⟨fz_lstF⟩
end
section
variable {P : D → SS → Prop} {Q : Fl → SS → Prop} {E : D → SS → Prop} {S : SS} {fi : Fit} {ft : Ft} {fa fv : Fe} {tt : SS → Rs Bool} {vs : List Nat} {R : D → Prop}
instance i_fz_tbl {n : Nat} {T : Nat → Nat → Bool} : Stp (frzK P (tblO n T) S) (P (tblF n T) S) := ⟨fz_tbl⟩
end
section
variable {P : D → SS → Prop} {Q : Fl → SS → Prop} {E : D → SS → Prop} {S : SS} {fi : Fit} {ft : Ft} {fa fv : Fe} {tt : SS → Rs Bool} {vs : List Nat} {R : D → Prop}
instance i_w_lrng1  : Stp ((fLRng1 fa S).ps P E) ((fa S).ps (fun d S1 => ∃ n : Int, d = .int n ∧ (0 ≤ n ∧ n ≤ 16777216) ∧ P (.lst .ow (intsD 0 n.toNat)) S1) E) := ⟨w_lrng1⟩
end
section
variable {P : D → SS → Prop} {Q : Fl → SS → Prop} {B : Bool → SS → Prop} {E : D → SS → Prop} {S S1 S2 : SS} {fa fb fc : Fe} {f h : Fst} {g g' : D → D → Option D} {g1 : D → Option D} {i : Nat} {d : D}
instance i_w_op  : Stp ((fOp g fa fb S).ps P E) ((fa S).ps (fun d1 S1 => (fb S1).ps (fun d2 S2 => gv (g d1 d2) fun d => P d S2) E) E) := ⟨w_op⟩
end
section
variable {P : D → SS → Prop} {Q : Fl → SS → Prop} {B : Bool → SS → Prop} {E : D → SS → Prop} {S S1 S2 : SS} {fa fb fc : Fe} {f h : Fst} {g g' : D → D → Option D} {g1 : D → Option D} {i : Nat} {d : D}
instance i_w_un  : Stp ((fUn g1 fa S).ps P E) ((fa S).ps (fun d1 S1 => gv (g1 d1) fun d => P d S1) E) := ⟨w_un⟩
end
section
variable {P : D → SS → Prop} {Q : Fl → SS → Prop} {B : Bool → SS → Prop} {E : D → SS → Prop} {S S1 S2 : SS} {fa fb fc : Fe} {f h : Fst} {g g' : D → D → Option D} {g1 : D → Option D} {i : Nat} {d : D}
instance i_w_test  : Stp ((fTest fa S).ps B E) ((fa S).ps (fun d S1 => ∃ b, d = .bl b ∧ B b S1) E) := ⟨w_test⟩
end
section
variable {P : D → SS → Prop} {Q : Fl → SS → Prop} {B : Bool → SS → Prop} {E : D → SS → Prop} {S S1 S2 : SS} {fa fb fc : Fe} {f h : Fst} {g g' : D → D → Option D} {g1 : D → Option D} {i : Nat} {d : D}
instance i_w_blx {b : Bool} {R : Bool → Prop} : Stp (∃ b', (D.bl b) = .bl b' ∧ R b') (R b) := ⟨w_blx⟩
end
section
variable {P : D → SS → Prop} {Q : Fl → SS → Prop} {B : Bool → SS → Prop} {E : D → SS → Prop} {S S1 S2 : SS} {fa fb fc : Fe} {f h : Fst} {g g' : D → D → Option D} {g1 : D → Option D} {i : Nat} {d : D}
instance i_w_not {c : SS → Rs Bool} : Stp ((fNot c S).ps B E) ((c S).ps (fun b S1 => B (!b) S1) E) := ⟨w_not⟩
end
section
variable {P : D → SS → Prop} {Q : Fl → SS → Prop} {B : Bool → SS → Prop} {E : D → SS → Prop} {S S1 S2 : SS} {fa fb fc : Fe} {f h : Fst} {g g' : D → D → Option D} {g1 : D → Option D} {i : Nat} {d : D}
instance i_w_and {c c' : SS → Rs Bool} : Stp ((fAnd c c' S).ps B E) ((c S).ps (fun b S1 => (b = true → (c' S1).ps B E) ∧ (b = false → B false S1)) E) := ⟨w_and⟩
end
section
variable {P : D → SS → Prop} {Q : Fl → SS → Prop} {B : Bool → SS → Prop} {E : D → SS → Prop} {S S1 S2 : SS} {fa fb fc : Fe} {f h : Fst} {g g' : D → D → Option D} {g1 : D → Option D} {i : Nat} {d : D}
instance i_w_or {c c' : SS → Rs Bool} : Stp ((fOr c c' S).ps B E) ((c S).ps (fun b S1 => (b = true → B true S1) ∧ (b = false → (c' S1).ps B E)) E) := ⟨w_or⟩
end
section
variable {P : D → SS → Prop} {Q : Fl → SS → Prop} {B : Bool → SS → Prop} {E : D → SS → Prop} {S S1 S2 : SS} {fa fb fc : Fe} {f h : Fst} {g g' : D → D → Option D} {g1 : D → Option D} {i : Nat} {d : D}
instance i_w_yes  : Stp ((fYes S).ps B E) (B true S) := ⟨w_yes⟩
end
section
variable {P : D → SS → Prop} {Q : Fl → SS → Prop} {B : Bool → SS → Prop} {E : D → SS → Prop} {S S1 S2 : SS} {fa fb fc : Fe} {f h : Fst} {g g' : D → D → Option D} {g1 : D → Option D} {i : Nat} {d : D}
instance i_w_if {c : SS → Rs Bool} : Stp ((fIfE c fa fb S).ps P E) ((c S).ps (fun b S1 => (b = true → (fa S1).ps P E) ∧ (b = false → (fb S1).ps P E)) E) := ⟨w_if⟩
end
section
variable {P : D → SS → Prop} {Q : Fl → SS → Prop} {B : Bool → SS → Prop} {E : D → SS → Prop} {S S1 S2 : SS} {fa fb fc : Fe} {f h : Fst} {g g' : D → D → Option D} {g1 : D → Option D} {i : Nat} {d : D}
variable {fi : Fit} {ft : Ft} {J : List D → SS → Prop}
variable {tt : SS → Rs Bool} {vs : List Nat}
variable {fr : Fa} {A : List Arg → SS → Prop} {F : List D → Rs D}
instance i_w_tup  : Stp ((fTup fr S).ps P E) ((fr S).ps (fun as S1 => resK as S1 fun ds S2 => (ds.all fz = true ∧ ds.length ≤ sizeLine) ∧ P (.tup ds) S2) E) := ⟨w_tup⟩
end
section
variable {P : D → SS → Prop} {Q : Fl → SS → Prop} {B : Bool → SS → Prop} {E : D → SS → Prop} {S S1 S2 : SS} {fa fb fc : Fe} {f h : Fst} {g g' : D → D → Option D} {g1 : D → Option D} {i : Nat} {d : D}
variable {fi : Fit} {ft : Ft} {J : List D → SS → Prop}
variable {tt : SS → Rs Bool} {vs : List Nat}
variable {fr : Fa} {A : List Arg → SS → Prop} {F : List D → Rs D}
instance i_w_lst  : Stp ((fLst fr S).ps P E) ((fr S).ps (fun as S1 => resK as S1 fun ds S2 => (ds.all fz = true ∧ ds.length ≤ sizeLine) ∧ P (.lst .ow ds) S2) E) := ⟨w_lst⟩
end
section
variable {P : D → SS → Prop} {Q : Fl → SS → Prop} {B : Bool → SS → Prop} {E : D → SS → Prop} {S S1 S2 : SS} {fa fb fc : Fe} {f h : Fst} {g g' : D → D → Option D} {g1 : D → Option D} {i : Nat} {d : D}
variable {fi : Fit} {ft : Ft} {J : List D → SS → Prop}
variable {tt : SS → Rs Bool} {vs : List Nat}
variable {fr : Fa} {A : List Arg → SS → Prop} {F : List D → Rs D}
instance i_w_call  : Stp ((fCall F fr S).ps P E) ((fr S).ps (fun as S1 => resK as S1 fun ds S2 => (F ds).ps (fun d o => stK (restore as o S2) (P d)) (fun e _ => E e S2)) E) := ⟨w_call⟩
end
section
variable {P : D → SS → Prop} {Q : Fl → SS → Prop} {B : Bool → SS → Prop} {E : D → SS → Prop} {S S1 S2 : SS} {fa fb fc : Fe} {f h : Fst} {g g' : D → D → Option D} {g1 : D → Option D} {i : Nat} {d : D}
variable {fi : Fit} {ft : Ft} {J : List D → SS → Prop}
variable {tt : SS → Rs Bool} {vs : List Nat}
variable {fr : Fa} {A : List Arg → SS → Prop} {F : List D → Rs D}
instance i_w_faNil  : Stp ((faNil S).ps A E) (A [] S) := ⟨w_faNil⟩
end
section
variable {P : D → SS → Prop} {Q : Fl → SS → Prop} {B : Bool → SS → Prop} {E : D → SS → Prop} {S S1 S2 : SS} {fa fb fc : Fe} {f h : Fst} {g g' : D → D → Option D} {g1 : D → Option D} {i : Nat} {d : D}
variable {fi : Fit} {ft : Ft} {J : List D → SS → Prop}
variable {tt : SS → Rs Bool} {vs : List Nat}
variable {fr : Fa} {A : List Arg → SS → Prop} {F : List D → Rs D}
instance i_w_faCons  : Stp ((faCons fa fr S).ps A E) ((fa S).ps (fun d S1 => (fr S1).ps (fun as S2 => A (.val d :: as) S2) E) E) := ⟨w_faCons⟩
end
section
variable {P : D → SS → Prop} {Q : Fl → SS → Prop} {B : Bool → SS → Prop} {E : D → SS → Prop} {S S1 S2 : SS} {fa fb fc : Fe} {f h : Fst} {g g' : D → D → Option D} {g1 : D → Option D} {i : Nat} {d : D}
variable {fi : Fit} {ft : Ft} {J : List D → SS → Prop}
variable {tt : SS → Rs Bool} {vs : List Nat}
variable {fr : Fa} {A : List Arg → SS → Prop} {F : List D → Rs D}
variable {gl : List D → List D → Option (D × List D)} {ds : List D}
variable {fl fh : Fo} {O : Option Int → SS → Prop}
instance i_w_foNone  : Stp ((foNone S).ps O E) (O none S) := ⟨w_foNone⟩
end
section
variable {P : D → SS → Prop} {Q : Fl → SS → Prop} {B : Bool → SS → Prop} {E : D → SS → Prop} {S S1 S2 : SS} {fa fb fc : Fe} {f h : Fst} {g g' : D → D → Option D} {g1 : D → Option D} {i : Nat} {d : D}
variable {fi : Fit} {ft : Ft} {J : List D → SS → Prop}
variable {tt : SS → Rs Bool} {vs : List Nat}
variable {fr : Fa} {A : List Arg → SS → Prop} {F : List D → Rs D}
variable {gl : List D → List D → Option (D × List D)} {ds : List D}
variable {fl fh : Fo} {O : Option Int → SS → Prop}
instance i_w_foSome  : Stp ((foSome fa S).ps O E) ((fa S).ps (fun d S1 => ∃ n, d = .int n ∧ O (some n) S1) E) := ⟨w_foSome⟩
end
section
variable {P : D → SS → Prop} {Q : Fl → SS → Prop} {B : Bool → SS → Prop} {E : D → SS → Prop} {S S1 S2 : SS} {fa fb fc : Fe} {f h : Fst} {g g' : D → D → Option D} {g1 : D → Option D} {i : Nat} {d : D}
variable {fi : Fit} {ft : Ft} {J : List D → SS → Prop}
variable {tt : SS → Rs Bool} {vs : List Nat}
variable {fr : Fa} {A : List Arg → SS → Prop} {F : List D → Rs D}
variable {gl : List D → List D → Option (D × List D)} {ds : List D}
variable {fl fh : Fo} {O : Option Int → SS → Prop}
instance i_w_sl  : Stp ((fSl fa fl fh S).ps P E) ((fa S).ps (fun d0 S0 => (fl S0).ps (fun lo S1 => (fh S1).ps (fun hi S2 => gv (gSl d0 lo hi) fun d => P d S2) E) E) E) := ⟨w_sl⟩
end
section
variable {P : D → SS → Prop} {Q : Fl → SS → Prop} {B : Bool → SS → Prop} {E : D → SS → Prop} {S S1 S2 : SS} {fa fb fc : Fe} {f h : Fst} {g g' : D → D → Option D} {g1 : D → Option D} {i : Nat} {d : D}
variable {fi : Fit} {ft : Ft} {J : List D → SS → Prop}
variable {tt : SS → Rs Bool} {vs : List Nat}
variable {fr : Fa} {A : List Arg → SS → Prop} {F : List D → Rs D}
variable {gl : List D → List D → Option (D × List D)} {ds : List D}
variable {fl fh : Fo} {O : Option Int → SS → Prop}
instance i_w_m1  : Stp ((fM1 g fa fb S).ps P E) ((fa S).ps (fun d1 S1 => isStrD d1 = true ∧ (fb S1).ps (fun d2 S2 => gv (g d1 d2) fun d => P d S2) E) E) := ⟨w_m1⟩
end
section
variable {P : D → SS → Prop} {Q : Fl → SS → Prop} {B : Bool → SS → Prop} {E : D → SS → Prop} {S S1 S2 : SS} {fa fb fc : Fe} {f h : Fst} {g g' : D → D → Option D} {g1 : D → Option D} {i : Nat} {d : D}
variable {fi : Fit} {ft : Ft} {J : List D → SS → Prop}
variable {tt : SS → Rs Bool} {vs : List Nat}
variable {fr : Fa} {A : List Arg → SS → Prop} {F : List D → Rs D}
variable {gl : List D → List D → Option (D × List D)} {ds : List D}
variable {fl fh : Fo} {O : Option Int → SS → Prop}
instance i_w_m0  : Stp ((fM0 g1 fa S).ps P E) ((fa S).ps (fun d1 S1 => isStrD d1 = true ∧ gv (g1 d1) fun d => P d S1) E) := ⟨w_m0⟩
end
section
variable {P : D → SS → Prop} {Q : Fl → SS → Prop} {B : Bool → SS → Prop} {E : D → SS → Prop} {S S1 S2 : SS} {fa fb fc : Fe} {f h : Fst} {g g' : D → D → Option D} {g1 : D → Option D} {i : Nat} {d : D}
variable {fi : Fit} {ft : Ft} {J : List D → SS → Prop}
variable {tt : SS → Rs Bool} {vs : List Nat}
variable {fr : Fa} {A : List Arg → SS → Prop} {F : List D → Rs D}
instance i_res_nil {R : List D → SS → Prop} : Stp (resK [] S R) (R [] S) := ⟨res_nil⟩
end
section
variable {P : D → SS → Prop} {Q : Fl → SS → Prop} {B : Bool → SS → Prop} {E : D → SS → Prop} {S S1 S2 : SS} {fa fb fc : Fe} {f h : Fst} {g g' : D → D → Option D} {g1 : D → Option D} {i : Nat} {d : D}
variable {fi : Fit} {ft : Ft} {J : List D → SS → Prop}
variable {tt : SS → Rs Bool} {vs : List Nat}
variable {fr : Fa} {A : List Arg → SS → Prop} {F : List D → Rs D}
instance i_res_val {R : List D → SS → Prop} {as : List Arg} : Stp (resK (.val d :: as) S R) (resK as S fun ds S2 => R (d :: ds) S2) := ⟨res_val⟩
end
section
variable {P : D → SS → Prop} {Q : Fl → SS → Prop} {B : Bool → SS → Prop} {E : D → SS → Prop} {S S1 S2 : SS} {fa fb fc : Fe} {f h : Fst} {g g' : D → D → Option D} {g1 : D → Option D} {i : Nat} {d : D}
variable {fi : Fit} {ft : Ft} {J : List D → SS → Prop}
instance i_w_itSeq  : Stp ((fItSeq fa S).ps J E) ((fa S).ps (fun d S1 => gv (seqOf d) fun ds => J ds S1) E) := ⟨w_itSeq⟩
end
section
variable {P : D → SS → Prop} {Q : Fl → SS → Prop} {B : Bool → SS → Prop} {E : D → SS → Prop} {S S1 S2 : SS} {fa fb fc : Fe} {f h : Fst} {g g' : D → D → Option D} {g1 : D → Option D} {i : Nat} {d : D}
variable {fi : Fit} {ft : Ft} {J : List D → SS → Prop}
instance i_w_rng1  : Stp ((fRng1 fa S).ps J E) ((fa S).ps (fun d S1 => ∃ n : Int, d = .int n ∧ (-(2 ^ 62) ≤ n ∧ n < 2 ^ 62) ∧ J (intsD 0 n.toNat) S1) E) := ⟨w_rng1⟩
end
section
variable {P : D → SS → Prop} {Q : Fl → SS → Prop} {B : Bool → SS → Prop} {E : D → SS → Prop} {S S1 S2 : SS} {fa fb fc : Fe} {f h : Fst} {g g' : D → D → Option D} {g1 : D → Option D} {i : Nat} {d : D}
variable {fi : Fit} {ft : Ft} {J : List D → SS → Prop}
instance i_w_rng2  : Stp ((fRng2 fa fb S).ps J E) ((fa S).ps (fun d S1 => ∃ a : Int, d = .int a ∧ (fb S1).ps (fun d2 S2 => ∃ b : Int, d2 = .int b ∧ (-(2 ^ 62) ≤ a ∧ a < 2 ^ 62 ∧ -(2 ^ 62) ≤ b ∧ b < 2 ^ 62) ∧ J (intsD a (b - a).toNat) S2) E) E) := ⟨w_rng2⟩
end
section
variable {P : D → SS → Prop} {Q : Fl → SS → Prop} {B : Bool → SS → Prop} {E : D → SS → Prop} {S S1 S2 : SS} {fa fb fc : Fe} {f h : Fst} {g g' : D → D → Option D} {g1 : D → Option D} {i : Nat} {d : D}
variable {fi : Fit} {ft : Ft} {J : List D → SS → Prop}
instance i_w_enum  : Stp ((fEnum fa S).ps J E) ((fa S).ps (fun d S1 => enK (fun ds => J (enumD ds) S1) d) E) := ⟨w_enum⟩
end
section
variable {P : D → SS → Prop} {Q : Fl → SS → Prop} {B : Bool → SS → Prop} {E : D → SS → Prop} {S S1 S2 : SS} {fa fb fc : Fe} {f h : Fst} {g g' : D → D → Option D} {g1 : D → Option D} {i : Nat} {d : D}
variable {fi : Fit} {ft : Ft} {J : List D → SS → Prop}
variable {tt : SS → Rs Bool} {vs : List Nat}
variable {fr : Fa} {A : List Arg → SS → Prop} {F : List D → Rs D}
variable {gl : List D → List D → Option (D × List D)} {ds : List D}
variable {fl fh : Fo} {O : Option Int → SS → Prop}
instance i_w_zip  : Stp ((fZip fa fb S).ps J E) ((fa S).ps (fun d1 S1 => (fb S1).ps (fun d2 S2 => (∃ o xs u ys, d1 = .lst o xs ∧ d2 = .lst u ys ∧ J (zipD xs ys) S2) ∨ ∃ xs ys, d1 = .tup xs ∧ d2 = .tup ys ∧ J (zipD xs ys) S2) E) E) := ⟨w_zip⟩
end
section
variable {P : D → SS → Prop} {Q : Fl → SS → Prop} {B : Bool → SS → Prop} {E : D → SS → Prop} {S S1 S2 : SS} {fa fb fc : Fe} {f h : Fst} {g g' : D → D → Option D} {g1 : D → Option D} {i : Nat} {d : D}
variable {fi : Fit} {ft : Ft} {J : List D → SS → Prop}
variable {tt : SS → Rs Bool} {vs : List Nat}
variable {fr : Fa} {A : List Arg → SS → Prop} {F : List D → Rs D}
variable {gl : List D → List D → Option (D × List D)} {ds : List D}
variable {fl fh : Fo} {O : Option Int → SS → Prop}
instance i_o_addI {i j : Int} {R : D → Prop} : Stp (gv (gAdd (.int i) (.int j)) R) (R (.int (i + j))) := ⟨o_addI⟩
end
section
variable {P : D → SS → Prop} {Q : Fl → SS → Prop} {B : Bool → SS → Prop} {E : D → SS → Prop} {S S1 S2 : SS} {fa fb fc : Fe} {f h : Fst} {g g' : D → D → Option D} {g1 : D → Option D} {i : Nat} {d : D}
variable {fi : Fit} {ft : Ft} {J : List D → SS → Prop}
variable {tt : SS → Rs Bool} {vs : List Nat}
variable {fr : Fa} {A : List Arg → SS → Prop} {F : List D → Rs D}
variable {gl : List D → List D → Option (D × List D)} {ds : List D}
variable {fl fh : Fo} {O : Option Int → SS → Prop}
instance i_o_sub {i j : Int} {R : D → Prop} : Stp (gv (gSub (.int i) (.int j)) R) (R (.int (i - j))) := ⟨o_sub⟩
end
section
variable {P : D → SS → Prop} {Q : Fl → SS → Prop} {B : Bool → SS → Prop} {E : D → SS → Prop} {S S1 S2 : SS} {fa fb fc : Fe} {f h : Fst} {g g' : D → D → Option D} {g1 : D → Option D} {i : Nat} {d : D}
variable {fi : Fit} {ft : Ft} {J : List D → SS → Prop}
variable {tt : SS → Rs Bool} {vs : List Nat}
variable {fr : Fa} {A : List Arg → SS → Prop} {F : List D → Rs D}
variable {gl : List D → List D → Option (D × List D)} {ds : List D}
variable {fl fh : Fo} {O : Option Int → SS → Prop}
instance i_o_lt {i j : Int} {R : D → Prop} : Stp (gv (gLt (.int i) (.int j)) R) (R (.bl (decide (i < j)))) := ⟨o_lt⟩
end
section
variable {P : D → SS → Prop} {Q : Fl → SS → Prop} {B : Bool → SS → Prop} {E : D → SS → Prop} {S S1 S2 : SS} {fa fb fc : Fe} {f h : Fst} {g g' : D → D → Option D} {g1 : D → Option D} {i : Nat} {d : D}
variable {fi : Fit} {ft : Ft} {J : List D → SS → Prop}
variable {tt : SS → Rs Bool} {vs : List Nat}
variable {fr : Fa} {A : List Arg → SS → Prop} {F : List D → Rs D}
variable {gl : List D → List D → Option (D × List D)} {ds : List D}
variable {fl fh : Fo} {O : Option Int → SS → Prop}
instance i_o_le {i j : Int} {R : D → Prop} : Stp (gv (gLe (.int i) (.int j)) R) (R (.bl (decide (i ≤ j)))) := ⟨o_le⟩
end
section
variable {P : D → SS → Prop} {Q : Fl → SS → Prop} {B : Bool → SS → Prop} {E : D → SS → Prop} {S S1 S2 : SS} {fa fb fc : Fe} {f h : Fst} {g g' : D → D → Option D} {g1 : D → Option D} {i : Nat} {d : D}
variable {fi : Fit} {ft : Ft} {J : List D → SS → Prop}
variable {tt : SS → Rs Bool} {vs : List Nat}
variable {fr : Fa} {A : List Arg → SS → Prop} {F : List D → Rs D}
variable {gl : List D → List D → Option (D × List D)} {ds : List D}
variable {fl fh : Fo} {O : Option Int → SS → Prop}
instance i_o_gt {i j : Int} {R : D → Prop} : Stp (gv (gGt (.int i) (.int j)) R) (R (.bl (decide (j < i)))) := ⟨o_gt⟩
end
section
variable {P : D → SS → Prop} {Q : Fl → SS → Prop} {B : Bool → SS → Prop} {E : D → SS → Prop} {S S1 S2 : SS} {fa fb fc : Fe} {f h : Fst} {g g' : D → D → Option D} {g1 : D → Option D} {i : Nat} {d : D}
variable {fi : Fit} {ft : Ft} {J : List D → SS → Prop}
variable {tt : SS → Rs Bool} {vs : List Nat}
variable {fr : Fa} {A : List Arg → SS → Prop} {F : List D → Rs D}
variable {gl : List D → List D → Option (D × List D)} {ds : List D}
variable {fl fh : Fo} {O : Option Int → SS → Prop}
instance i_o_ge {i j : Int} {R : D → Prop} : Stp (gv (gGe (.int i) (.int j)) R) (R (.bl (decide (j ≤ i)))) := ⟨o_ge⟩
end
section
variable {P : D → SS → Prop} {Q : Fl → SS → Prop} {B : Bool → SS → Prop} {E : D → SS → Prop} {S S1 S2 : SS} {fa fb fc : Fe} {f h : Fst} {g g' : D → D → Option D} {g1 : D → Option D} {i : Nat} {d : D}
variable {fi : Fit} {ft : Ft} {J : List D → SS → Prop}
variable {tt : SS → Rs Bool} {vs : List Nat}
variable {fr : Fa} {A : List Arg → SS → Prop} {F : List D → Rs D}
variable {gl : List D → List D → Option (D × List D)} {ds : List D}
variable {fl fh : Fo} {O : Option Int → SS → Prop}
instance i_o_neg {i : Int} {R : D → Prop} : Stp (gv (gNeg (.int i)) R) (R (.int (-i))) := ⟨o_neg⟩
end
section
variable {P : D → SS → Prop} {Q : Fl → SS → Prop} {B : Bool → SS → Prop} {E : D → SS → Prop} {S S1 S2 : SS} {fa fb fc : Fe} {f h : Fst} {g g' : D → D → Option D} {g1 : D → Option D} {i : Nat} {d : D}
variable {fi : Fit} {ft : Ft} {J : List D → SS → Prop}
variable {tt : SS → Rs Bool} {vs : List Nat}
variable {fr : Fa} {A : List Arg → SS → Prop} {F : List D → Rs D}
variable {gl : List D → List D → Option (D × List D)} {ds : List D}
variable {fl fh : Fo} {O : Option Int → SS → Prop}
instance i_o_and {i j : Int} {R : D → Prop} : Stp (gv (gAnd (.int i) (.int j)) R) (R (.int (Builtin.bitAnd i j))) := ⟨o_and⟩
end
section
variable {P : D → SS → Prop} {Q : Fl → SS → Prop} {B : Bool → SS → Prop} {E : D → SS → Prop} {S S1 S2 : SS} {fa fb fc : Fe} {f h : Fst} {g g' : D → D → Option D} {g1 : D → Option D} {i : Nat} {d : D}
variable {fi : Fit} {ft : Ft} {J : List D → SS → Prop}
variable {tt : SS → Rs Bool} {vs : List Nat}
variable {fr : Fa} {A : List Arg → SS → Prop} {F : List D → Rs D}
variable {gl : List D → List D → Option (D × List D)} {ds : List D}
variable {fl fh : Fo} {O : Option Int → SS → Prop}
instance i_o_or {i j : Int} {R : D → Prop} : Stp (gv (gOr (.int i) (.int j)) R) (R (.int (Builtin.bitOr i j))) := ⟨o_or⟩
end
section
variable {P : D → SS → Prop} {Q : Fl → SS → Prop} {B : Bool → SS → Prop} {E : D → SS → Prop} {S S1 S2 : SS} {fa fb fc : Fe} {f h : Fst} {g g' : D → D → Option D} {g1 : D → Option D} {i : Nat} {d : D}
variable {fi : Fit} {ft : Ft} {J : List D → SS → Prop}
variable {tt : SS → Rs Bool} {vs : List Nat}
variable {fr : Fa} {A : List Arg → SS → Prop} {F : List D → Rs D}
variable {gl : List D → List D → Option (D × List D)} {ds : List D}
variable {fl fh : Fo} {O : Option Int → SS → Prop}
instance i_o_len {o : Tg} {ds : List D} {R : D → Prop} : Stp (gv (gLen (.lst o ds)) R) (R (.int ds.length)) := ⟨o_len⟩
end
section
variable {P : D → SS → Prop} {Q : Fl → SS → Prop} {B : Bool → SS → Prop} {E : D → SS → Prop} {S S1 S2 : SS} {fa fb fc : Fe} {f h : Fst} {g g' : D → D → Option D} {g1 : D → Option D} {i : Nat} {d : D}
variable {fi : Fit} {ft : Ft} {J : List D → SS → Prop}
variable {tt : SS → Rs Bool} {vs : List Nat}
variable {fr : Fa} {A : List Arg → SS → Prop} {F : List D → Rs D}
variable {gl : List D → List D → Option (D × List D)} {ds : List D}
variable {fl fh : Fo} {O : Option Int → SS → Prop}
instance i_o_lenT {ds : List D} {R : D → Prop} : Stp (gv (gLen (.tup ds)) R) (R (.int ds.length)) := ⟨o_lenT⟩
end
section
variable {P : D → SS → Prop} {Q : Fl → SS → Prop} {B : Bool → SS → Prop} {E : D → SS → Prop} {S S1 S2 : SS} {fa fb fc : Fe} {f h : Fst} {g g' : D → D → Option D} {g1 : D → Option D} {i : Nat} {d : D}
variable {fi : Fit} {ft : Ft} {J : List D → SS → Prop}
variable {tt : SS → Rs Bool} {vs : List Nat}
variable {fr : Fa} {A : List Arg → SS → Prop} {F : List D → Rs D}
variable {gl : List D → List D → Option (D × List D)} {ds : List D}
variable {fl fh : Fo} {O : Option Int → SS → Prop}
instance i_o_listL {o : Tg} {ds : List D} {R : D → Prop} : Stp (gv (gList (.lst o ds)) R) (R (.lst .ow ds)) := ⟨o_listL⟩
end
section
variable {P : D → SS → Prop} {Q : Fl → SS → Prop} {B : Bool → SS → Prop} {E : D → SS → Prop} {S S1 S2 : SS} {fa fb fc : Fe} {f h : Fst} {g g' : D → D → Option D} {g1 : D → Option D} {i : Nat} {d : D}
variable {fi : Fit} {ft : Ft} {J : List D → SS → Prop}
variable {tt : SS → Rs Bool} {vs : List Nat}
variable {fr : Fa} {A : List Arg → SS → Prop} {F : List D → Rs D}
variable {gl : List D → List D → Option (D × List D)} {ds : List D}
variable {fl fh : Fo} {O : Option Int → SS → Prop}
instance i_o_listT {ds : List D} {R : D → Prop} : Stp (gv (gList (.tup ds)) R) (R (.lst .ow ds)) := ⟨o_listT⟩
end
section
variable {P : D → SS → Prop} {Q : Fl → SS → Prop} {B : Bool → SS → Prop} {E : D → SS → Prop} {S S1 S2 : SS} {fa fb fc : Fe} {f h : Fst} {g g' : D → D → Option D} {g1 : D → Option D} {i : Nat} {d : D}
variable {fi : Fit} {ft : Ft} {J : List D → SS → Prop}
variable {tt : SS → Rs Bool} {vs : List Nat}
variable {fr : Fa} {A : List Arg → SS → Prop} {F : List D → Rs D}
variable {gl : List D → List D → Option (D × List D)} {ds : List D}
variable {fl fh : Fo} {O : Option Int → SS → Prop}
instance i_o_tupL {o : Tg} {ds : List D} {R : D → Prop} : Stp (gv (gTuple (.lst o ds)) R) (R (.tup ds)) := ⟨o_tupL⟩
end
section
variable {P : D → SS → Prop} {Q : Fl → SS → Prop} {B : Bool → SS → Prop} {E : D → SS → Prop} {S S1 S2 : SS} {fa fb fc : Fe} {f h : Fst} {g g' : D → D → Option D} {g1 : D → Option D} {i : Nat} {d : D}
variable {fi : Fit} {ft : Ft} {J : List D → SS → Prop}
variable {tt : SS → Rs Bool} {vs : List Nat}
variable {fr : Fa} {A : List Arg → SS → Prop} {F : List D → Rs D}
variable {gl : List D → List D → Option (D × List D)} {ds : List D}
variable {fl fh : Fo} {O : Option Int → SS → Prop}
instance i_o_tupT {ds : List D} {R : D → Prop} : Stp (gv (gTuple (.tup ds)) R) (R (.tup ds)) := ⟨o_tupT⟩
end
section
variable {P : D → SS → Prop} {Q : Fl → SS → Prop} {B : Bool → SS → Prop} {E : D → SS → Prop} {S S1 S2 : SS} {fa fb fc : Fe} {f h : Fst} {g g' : D → D → Option D} {g1 : D → Option D} {i : Nat} {d : D}
variable {fi : Fit} {ft : Ft} {J : List D → SS → Prop}
variable {tt : SS → Rs Bool} {vs : List Nat}
variable {fr : Fa} {A : List Arg → SS → Prop} {F : List D → Rs D}
variable {gl : List D → List D → Option (D × List D)} {ds : List D}
variable {fl fh : Fo} {O : Option Int → SS → Prop}
instance i_o_rev {o : Tg} {ds : List D} {R : D → Prop} : Stp (gv (gRev (.lst o ds)) R) (R (.lst .ow ds.reverse)) := ⟨o_rev⟩
end
section
variable {P : D → SS → Prop} {Q : Fl → SS → Prop} {B : Bool → SS → Prop} {E : D → SS → Prop} {S S1 S2 : SS} {fa fb fc : Fe} {f h : Fst} {g g' : D → D → Option D} {g1 : D → Option D} {i : Nat} {d : D}
variable {fi : Fit} {ft : Ft} {J : List D → SS → Prop}
variable {tt : SS → Rs Bool} {vs : List Nat}
variable {fr : Fa} {A : List Arg → SS → Prop} {F : List D → Rs D}
variable {gl : List D → List D → Option (D × List D)} {ds : List D}
variable {fl fh : Fo} {O : Option Int → SS → Prop}
instance i_o_intI {i : Int} {R : D → Prop} : Stp (gv (gInt (.int i)) R) (R (.int i)) := ⟨o_intI⟩
end
section
variable {P : D → SS → Prop} {Q : Fl → SS → Prop} {B : Bool → SS → Prop} {E : D → SS → Prop} {S S1 S2 : SS} {fa fb fc : Fe} {f h : Fst} {g g' : D → D → Option D} {g1 : D → Option D} {i : Nat} {d : D}
variable {fi : Fit} {ft : Ft} {J : List D → SS → Prop}
variable {tt : SS → Rs Bool} {vs : List Nat}
variable {fr : Fa} {A : List Arg → SS → Prop} {F : List D → Rs D}
variable {gl : List D → List D → Option (D × List D)} {ds : List D}
variable {fl fh : Fo} {O : Option Int → SS → Prop}
instance i_o_intB {b : Bool} {R : D → Prop} : Stp (gv (gInt (.bl b)) R) (R (.int (if b then 1 else 0))) := ⟨o_intB⟩
end
section
variable {P : D → SS → Prop} {Q : Fl → SS → Prop} {B : Bool → SS → Prop} {E : D → SS → Prop} {S S1 S2 : SS} {fa fb fc : Fe} {f h : Fst} {g g' : D → D → Option D} {g1 : D → Option D} {i : Nat} {d : D}
variable {fi : Fit} {ft : Ft} {J : List D → SS → Prop}
variable {tt : SS → Rs Bool} {vs : List Nat}
variable {fr : Fa} {A : List Arg → SS → Prop} {F : List D → Rs D}
variable {gl : List D → List D → Option (D × List D)} {ds : List D}
variable {fl fh : Fo} {O : Option Int → SS → Prop}
instance i_o_slL {o : Tg} {ds : List D} {lo hi : Option Int} {R : D → Prop} : Stp (gv (gSl (.lst o ds) lo hi) R) (R (.lst .ow (cutD ds lo hi))) := ⟨o_slL⟩
end
section
variable {P : D → SS → Prop} {Q : Fl → SS → Prop} {B : Bool → SS → Prop} {E : D → SS → Prop} {S S1 S2 : SS} {fa fb fc : Fe} {f h : Fst} {g g' : D → D → Option D} {g1 : D → Option D} {i : Nat} {d : D}
variable {fi : Fit} {ft : Ft} {J : List D → SS → Prop}
variable {tt : SS → Rs Bool} {vs : List Nat}
variable {fr : Fa} {A : List Arg → SS → Prop} {F : List D → Rs D}
variable {gl : List D → List D → Option (D × List D)} {ds : List D}
variable {fl fh : Fo} {O : Option Int → SS → Prop}
instance i_o_slT {ds : List D} {lo hi : Option Int} {R : D → Prop} : Stp (gv (gSl (.tup ds) lo hi) R) (R (.tup (cutD ds lo hi))) := ⟨o_slT⟩
end
section
variable {P : D → SS → Prop} {Q : Fl → SS → Prop} {B : Bool → SS → Prop} {E : D → SS → Prop} {S S1 S2 : SS} {fa fb fc : Fe} {f h : Fst} {g g' : D → D → Option D} {g1 : D → Option D} {i : Nat} {d : D}
variable {fi : Fit} {ft : Ft} {J : List D → SS → Prop}
variable {tt : SS → Rs Bool} {vs : List Nat}
variable {fr : Fa} {A : List Arg → SS → Prop} {F : List D → Rs D}
variable {gl : List D → List D → Option (D × List D)} {ds : List D}
variable {fl fh : Fo} {O : Option Int → SS → Prop}
instance i_o_seqL {o : Tg} {ds : List D} {R : List D → Prop} : Stp (gv (seqOf (.lst o ds)) R) (R ds) := ⟨o_seqL⟩
end
section
variable {P : D → SS → Prop} {Q : Fl → SS → Prop} {B : Bool → SS → Prop} {E : D → SS → Prop} {S S1 S2 : SS} {fa fb fc : Fe} {f h : Fst} {g g' : D → D → Option D} {g1 : D → Option D} {i : Nat} {d : D}
variable {fi : Fit} {ft : Ft} {J : List D → SS → Prop}
variable {tt : SS → Rs Bool} {vs : List Nat}
variable {fr : Fa} {A : List Arg → SS → Prop} {F : List D → Rs D}
variable {gl : List D → List D → Option (D × List D)} {ds : List D}
variable {fl fh : Fo} {O : Option Int → SS → Prop}
instance i_o_seqT {ds : List D} {R : List D → Prop} : Stp (gv (seqOf (.tup ds)) R) (R ds) := ⟨o_seqT⟩
end
section
variable {R : D → Prop} {o u : Tg}
instance i_o_ix0 {d : D} {ds : List D} : Stp (gv (gIx (.lst o (d :: ds)) (.int 0)) R) (R d) := ⟨o_ix0⟩
end
section
variable {R : D → Prop} {o u : Tg}
instance i_o_ix1 {d d1 : D} {ds : List D} : Stp (gv (gIx (.lst o (d :: d1 :: ds)) (.int 1)) R) (R d1) := ⟨o_ix1⟩
end
section
variable {R : D → Prop} {o u : Tg}
instance i_o_ix2 {d d1 d2 : D} {ds : List D} : Stp (gv (gIx (.lst o (d :: d1 :: d2 :: ds)) (.int 2)) R) (R d2) := ⟨o_ix2⟩
end
section
variable {R : D → Prop} {o u : Tg}
instance i_o_ixT0 {d : D} {ds : List D} : Stp (gv (gIx (.tup (d :: ds)) (.int 0)) R) (R d) := ⟨o_ixT0⟩
end
section
variable {R : D → Prop} {o u : Tg}
instance i_o_ixT1 {d d1 : D} {ds : List D} : Stp (gv (gIx (.tup (d :: d1 :: ds)) (.int 1)) R) (R d1) := ⟨o_ixT1⟩
end
section
variable {R : D → Prop} {o u : Tg}
instance i_o_ixT2 {d d1 d2 : D} {ds : List D} : Stp (gv (gIx (.tup (d :: d1 :: d2 :: ds)) (.int 2)) R) (R d2) := ⟨o_ixT2⟩
end
section
variable {R : D → Prop} {o u : Tg}
instance i_o_ixT3 {d d1 d2 d3 : D} {ds : List D} : Stp (gv (gIx (.tup (d :: d1 :: d2 :: d3 :: ds)) (.int 3)) R) (R d3) := ⟨o_ixT3⟩
end
section
instance i_o_isiII {i : Int} {R : D → Prop} : Stp (gv (gIsi "int" (.int i)) R) (R (.bl true)) := ⟨o_isiII⟩
end
section
instance i_o_isiBI {i : Int} {R : D → Prop} : Stp (gv (gIsi "bool" (.int i)) R) (R (.bl false)) := ⟨o_isiBI⟩
end
section
variable {R : D → Prop} {o u : Tg}
instance i_o_isiTT {ds : List D} : Stp (gv (gIsi "tuple" (.tup ds)) R) (R (.bl true)) := ⟨o_isiTT⟩
end
section
variable {R : D → Prop} {o u : Tg}
instance i_o_isiTS {x : Str} : Stp (gv (gIsi "tuple" (.str x)) R) (R (.bl false)) := ⟨o_isiTS⟩
end
section
variable {R : D → Prop} {o u : Tg}
instance i_o_isiTI {x : Int} : Stp (gv (gIsi "tuple" (.int x)) R) (R (.bl false)) := ⟨o_isiTI⟩
end
section
variable {R : D → Prop} {o u : Tg}
instance i_o_isiTN  : Stp (gv (gIsi "tuple" .non) R) (R (.bl false)) := ⟨o_isiTN⟩
end
section
variable {R : D → Prop} {o u : Tg}
instance i_o_isiTL {ds : List D} : Stp (gv (gIsi "tuple" (.lst .ow ds)) R) (R (.bl false)) := ⟨o_isiTL⟩
end
section
variable {R : D → Prop} {o u : Tg}
instance i_o_isiSS {x : Str} : Stp (gv (gIsi "str" (.str x)) R) (R (.bl true)) := ⟨o_isiSS⟩
end
section
variable {R : D → Prop} {o u : Tg}
instance i_o_isiST {ds : List D} : Stp (gv (gIsi "str" (.tup ds)) R) (R (.bl false)) := ⟨o_isiST⟩
end
section
variable {R : D → Prop} {o u : Tg}
instance i_o_isiSI {x : Int} : Stp (gv (gIsi "str" (.int x)) R) (R (.bl false)) := ⟨o_isiSI⟩
end
section
variable {R : D → Prop} {o u : Tg}
instance i_o_isiSN  : Stp (gv (gIsi "str" .non) R) (R (.bl false)) := ⟨o_isiSN⟩
end
section
variable {R : D → Prop} {o u : Tg}
instance i_o_isiIB {x : Bool} : Stp (gv (gIsi "int" (.bl x)) R) (R (.bl true)) := ⟨o_isiIB⟩
end
section
variable {R : D → Prop} {o u : Tg}
instance i_o_isiIS {x : Str} : Stp (gv (gIsi "int" (.str x)) R) (R (.bl false)) := ⟨o_isiIS⟩
end
section
variable {R : D → Prop} {o u : Tg}
instance i_o_isiIT {ds : List D} : Stp (gv (gIsi "int" (.tup ds)) R) (R (.bl false)) := ⟨o_isiIT⟩
end
section
variable {R : D → Prop} {o u : Tg}
instance i_o_isiBB {x : Bool} : Stp (gv (gIsi "bool" (.bl x)) R) (R (.bl true)) := ⟨o_isiBB⟩
end
section
variable {R : D → Prop} {o u : Tg}
instance i_o_isiBS {x : Str} : Stp (gv (gIsi "bool" (.str x)) R) (R (.bl false)) := ⟨o_isiBS⟩
end
section
variable {R : D → Prop} {o u : Tg}
instance i_o_isiBT {ds : List D} : Stp (gv (gIsi "bool" (.tup ds)) R) (R (.bl false)) := ⟨o_isiBT⟩
end
section
variable {R : D → Prop} {o u : Tg}
instance i_o_isiLL {ds : List D} : Stp (gv (gIsi "list" (.lst .ow ds)) R) (R (.bl true)) := ⟨o_isiLL⟩
end
section
variable {R : D → Prop} {o u : Tg}
instance i_o_isiLF {ds : List D} : Stp (gv (gIsi "list" (.lst .fz ds)) R) (R (.bl true)) := ⟨o_isiLF⟩
end
section
instance i_o_eqII {i : Int} {R : D → Prop} : Stp (gv (gEq (.int i) (.int i)) R) (R (.bl true)) := ⟨o_eqII⟩
end
section
instance i_o_neII {i : Int} {R : D → Prop} : Stp (gv (gNe (.int i) (.int i)) R) (R (.bl false)) := ⟨o_neII⟩
end
section
variable {R : D → Prop} {o u : Tg}
instance i_o_eqI {i j : Int} : Stp (gv (gEq (.int i) (.int j)) R) (R (.bl (decide (i = j)))) := ⟨o_eqI⟩
end
section
variable {R : D → Prop} {o u : Tg}
instance i_o_neI {i j : Int} : Stp (gv (gNe (.int i) (.int j)) R) (R (.bl (!decide (i = j)))) := ⟨o_neI⟩
end
section
variable {R : D → Prop} {o u : Tg}
instance i_o_sum {is : List Int} : Stp (gv (gSum (.lst o (is.map D.int))) R) (R (.int is.sum)) := ⟨o_sum⟩
end
section
variable {R : D → Prop} {o : Tg}
instance i_o_sortedS {xs : List Str} : Stp (gv (gSorted (.lst o (xs.map D.str))) R) (R (.lst .ow ((xs.mergeSort (PySem.W.dataLe false .str)).map D.str))) := ⟨o_sortedS⟩
end
section
variable {R : D → Prop} {o : Tg}
instance i_o_sortedI {xs : List Int} : Stp (gv (gSorted (.lst o (xs.map D.int))) R) (R (.lst .ow ((xs.mergeSort (PySem.W.dataLe false .int)).map D.int))) := ⟨o_sortedI⟩
end
section
variable {R : D → Prop} {o u : Tg}
instance i_o_allM {α : Type} {xs : List α} {t : α → Bool} : Stp (gv (gAll (.lst o (xs.map fun x => .bl (t x)))) R) (R (.bl (xs.all t))) := ⟨o_allM⟩
end
section
variable {R : D → Prop} {o u : Tg}
instance i_o_anyM {α : Type} {xs : List α} {t : α → Bool} : Stp (gv (gAny (.lst o (xs.map fun x => .bl (t x)))) R) (R (.bl (xs.any t))) := ⟨o_anyM⟩
end
section
variable {P : D → SS → Prop} {Q : Fl → SS → Prop} {B : Bool → SS → Prop} {E : D → SS → Prop} {S S1 S2 : SS} {fa fb fc : Fe} {f h : Fst} {g g' : D → D → Option D} {g1 : D → Option D} {i : Nat} {d : D}
instance i_w_setIx  : Stp ((fSetIx i fa fb S).ps Q E) ((fa S).ps (frzK fun d S1 => ∃ c0, slot S1 i = some c0 ∧ (fb S1).ps (fun k S2 => ∃ c, slot S2 i = some c ∧ gv (gSet c k d) fun c' => stK (S2.set i (some c')) (Q .nx)) E) E) := ⟨w_setIx⟩
end
section
variable {R : D → Prop} {o u : Tg}
instance i_ex_int {i : Int} {R : Int → Prop} : Stp (∃ n : Int, D.int i = .int n ∧ R n) (R i) := ⟨ex_int⟩
end
section
variable {R : D → Prop} {o u : Tg}
instance i_ex_lst {o : Tg} {ds : List D} {R : Tg → List D → Prop} : Stp (∃ (o' : Tg) (ds' : List D), D.lst o ds = .lst o' ds' ∧ R o' ds') (R o ds) := ⟨ex_lst⟩
end
section
variable {P : D → SS → Prop} {Q : Fl → SS → Prop} {B : Bool → SS → Prop} {E : D → SS → Prop} {S S1 S2 : SS} {fa fb fc : Fe} {f h : Fst} {g g' : D → D → Option D} {g1 : D → Option D} {i : Nat} {d : D}
variable {fi : Fit} {ft : Ft} {J : List D → SS → Prop}
instance i_en_lst {o : Tg} {ds : List D} {R : List D → Prop} : Stp (enK R (.lst o ds)) (R ds) := ⟨en_lst⟩
end
section
variable {P : D → SS → Prop} {Q : Fl → SS → Prop} {B : Bool → SS → Prop} {E : D → SS → Prop} {S S1 S2 : SS} {fa fb fc : Fe} {f h : Fst} {g g' : D → D → Option D} {g1 : D → Option D} {i : Nat} {d : D}
variable {fi : Fit} {ft : Ft} {J : List D → SS → Prop}
instance i_en_tup {ds : List D} {R : List D → Prop} : Stp (enK R (.tup ds)) (R ds) := ⟨en_tup⟩
end
section
instance i_pr_rfl {d : D} {B : Prop} : Stp (d = d ∧ B) (B) := ⟨pr_rfl⟩
end
section
variable {P : D → SS → Prop} {Q : Fl → SS → Prop} {B : Bool → SS → Prop} {E : D → SS → Prop} {S S1 S2 : SS} {fa fb fc : Fe} {f h : Fst} {g g' : D → D → Option D} {g1 : D → Option D} {i : Nat} {d : D}
instance i_w_notV  : Stp4 ((fNotV fa S).ps P E) ((fa S).ps (fun d S1 => ∃ b, d = .bl b ∧ P (.bl (!b)) S1) E) := ⟨w_notV⟩
end
section
variable {P : D → SS → Prop} {Q : Fl → SS → Prop} {B : Bool → SS → Prop} {E : D → SS → Prop} {S S1 S2 : SS} {fa fb fc : Fe} {f h : Fst} {g g' : D → D → Option D} {g1 : D → Option D} {i : Nat} {d : D}
instance i_w_andV  : Stp4 ((fAndV fa fb S).ps P E) ((fa S).ps (fun d S1 => ∃ b, d = .bl b ∧ (b = true → (fb S1).ps P E) ∧ (b = false → P (.bl false) S1)) E) := ⟨w_andV⟩
end
section
variable {P : D → SS → Prop} {Q : Fl → SS → Prop} {B : Bool → SS → Prop} {E : D → SS → Prop} {S S1 S2 : SS} {fa fb fc : Fe} {f h : Fst} {g g' : D → D → Option D} {g1 : D → Option D} {i : Nat} {d : D}
instance i_w_orV  : Stp4 ((fOrV fa fb S).ps P E) ((fa S).ps (fun d S1 => ∃ b, d = .bl b ∧ (b = true → P (.bl true) S1) ∧ (b = false → (fb S1).ps P E)) E) := ⟨w_orV⟩
end
section
variable {P : D → SS → Prop} {Q : Fl → SS → Prop} {B : Bool → SS → Prop} {E : D → SS → Prop} {S S1 S2 : SS} {fa fb fc : Fe} {f h : Fst} {g g' : D → D → Option D} {g1 : D → Option D} {i : Nat} {d : D}
instance i_w_ifS {c : SS → Rs Bool} : Stp4 ((fIf c f h S).ps Q E) ((c S).ps (fun b S1 => (b = true → (f S1).ps Q E) ∧ (b = false → (h S1).ps Q E)) E) := ⟨w_ifS⟩
end
section
variable {P : D → SS → Prop} {Q : Fl → SS → Prop} {B : Bool → SS → Prop} {E : D → SS → Prop} {S S1 S2 : SS} {fa fb fc : Fe} {f h : Fst} {g g' : D → D → Option D} {g1 : D → Option D} {i : Nat} {d : D}
instance i_fz_dK {n} : Stp4 (frzK P (.dK .ow n) S) (P (.dK .fz n) S) := ⟨fz_dK⟩
end
section
variable {P : D → SS → Prop} {Q : Fl → SS → Prop} {B : Bool → SS → Prop} {E : D → SS → Prop} {S S1 S2 : SS} {fa fb fc : Fe} {f h : Fst} {g g' : D → D → Option D} {g1 : D → Option D} {i : Nat} {d : D}
instance i_fz_dKF {n} : Stp4 (frzK P (.dK .fz n) S) (P (.dK .fz n) S) := ⟨fz_dKF⟩
end
section
variable {P : D → SS → Prop} {Q : Fl → SS → Prop} {B : Bool → SS → Prop} {E : D → SS → Prop} {S S1 S2 : SS} {fa fb fc : Fe} {f h : Fst} {g g' : D → D → Option D} {g1 : D → Option D} {i : Nat} {d : D}
instance i_fz_dT {n} : Stp4 (frzK P (.dT .ow n) S) (P (.dT .fz n) S) := ⟨fz_dT⟩
end
section
variable {P : D → SS → Prop} {Q : Fl → SS → Prop} {B : Bool → SS → Prop} {E : D → SS → Prop} {S S1 S2 : SS} {fa fb fc : Fe} {f h : Fst} {g g' : D → D → Option D} {g1 : D → Option D} {i : Nat} {d : D}
instance i_fz_dTF {n} : Stp4 (frzK P (.dT .fz n) S) (P (.dT .fz n) S) := ⟨fz_dTF⟩
end
section
variable {P : D → SS → Prop} {Q : Fl → SS → Prop} {B : Bool → SS → Prop} {E : D → SS → Prop} {S S1 S2 : SS} {fa fb fc : Fe} {f h : Fst} {g g' : D → D → Option D} {g1 : D → Option D} {i : Nat} {d : D}
instance i_fz_ins {c n} : Stp4 (frzK P (.ins .ow c n) S) (P (.ins .fz c n) S) := ⟨fz_ins⟩
end
section
variable {P : D → SS → Prop} {Q : Fl → SS → Prop} {B : Bool → SS → Prop} {E : D → SS → Prop} {S S1 S2 : SS} {fa fb fc : Fe} {f h : Fst} {g g' : D → D → Option D} {g1 : D → Option D} {i : Nat} {d : D}
instance i_fz_insF {c n} : Stp4 (frzK P (.ins .fz c n) S) (P (.ins .fz c n) S) := ⟨fz_insF⟩
end
section
variable {R : D → Prop} {o u : Tg}
instance i_o_isNN  : Stp4 (gv (gIs .non .non) R) (R (.bl true)) := ⟨o_isNN⟩
end
section
variable {R : D → Prop} {o u : Tg}
instance i_o_isNI {i : Int} : Stp4 (gv (gIs (.int i) .non) R) (R (.bl false)) := ⟨o_isNI⟩
end
section
variable {R : D → Prop} {o u : Tg}
instance i_o_isNS {i : Str} : Stp4 (gv (gIs (.str i) .non) R) (R (.bl false)) := ⟨o_isNS⟩
end
section
variable {R : D → Prop} {o u : Tg}
instance i_o_isNT {i : List D} : Stp4 (gv (gIs (.tup i) .non) R) (R (.bl false)) := ⟨o_isNT⟩
end
section
variable {R : D → Prop} {o u : Tg}
instance i_o_notNN  : Stp4 (gv (gIsNot .non .non) R) (R (.bl false)) := ⟨o_notNN⟩
end
section
variable {R : D → Prop} {o u : Tg}
instance i_o_notNI {i : Int} : Stp4 (gv (gIsNot (.int i) .non) R) (R (.bl true)) := ⟨o_notNI⟩
end
section
variable {R : D → Prop} {o u : Tg}
instance i_o_notNS {i : Str} : Stp4 (gv (gIsNot (.str i) .non) R) (R (.bl true)) := ⟨o_notNS⟩
end
section
variable {R : D → Prop} {o u : Tg}
instance i_o_notNT {i : List D} : Stp4 (gv (gIsNot (.tup i) .non) R) (R (.bl true)) := ⟨o_notNT⟩
end
section
variable {R : D → Prop} {o u : Tg}
instance i_o_eqBB {a b : Bool} : Stp4 (gv (gEq (.bl a) (.bl b)) R) (R (.bl (decide (a = b)))) := ⟨o_eqBB⟩
end
section
instance i_o_sumT {is : List Int} {R : D → Prop} : Stp4 (gv (gSum (.tup (is.map D.int))) R) (R (.int is.sum)) := ⟨o_sumT⟩
end
section
instance i_o_revT {ds : List D} {R : D → Prop} : Stp4 (gv (gRev (.tup ds)) R) (R (.tup ds.reverse)) := ⟨o_revT⟩
end
section
variable {R : D → Prop} {o u : Tg}
instance i_o_max2 {i j : Int} : Stp4 (gv (gMax2 (.int i) (.int j)) R) (R (.int (max i j))) := ⟨o_max2⟩
end
section
variable {R : D → Prop} {o u : Tg}
instance i_o_min2 {i j : Int} : Stp4 (gv (gMin2 (.int i) (.int j)) R) (R (.int (min i j))) := ⟨o_min2⟩
end
section
variable {R : D → Prop} {o u : Tg}
instance i_o_isBB {a b : Bool} : Stp4 (gv (gIs (.bl a) (.bl b)) R) (R (.bl (decide (a = b)))) := ⟨o_isBB⟩
end
section
variable {R : D → Prop} {o u : Tg}
instance i_o_notBB {a b : Bool} : Stp4 (gv (gIsNot (.bl a) (.bl b)) R) (R (.bl (!decide (a = b)))) := ⟨o_notBB⟩
end
end T3
set_option Elab.async false
set_option linter.all false
set_option maxRecDepth 100000
set_option maxHeartbeats 4000000
namespace T3
open PySem PySem.Spec PyProof.Rows L2
section
variable {P : D → SS → Prop} {Q : Fl → SS → Prop} {E : D → SS → Prop} {S S' : SS} {i : Nat} {d d' : D} {f : Fst} {fa fb fe fo fv fk : Fe} {fr : Fa} {g : D → D → Option D} {F : List D → Rs D}
def insK (S : SS) (i : Nat) (cl : List Str) (f : Str) (y : D) (R : SS → Prop) : Prop := ∃ c fs, slot S i = some (.ins .ow c fs) ∧ (c ∈ cl ∧ fs.length < 1000) ∧ R (S.set i (some (.ins .ow c (putFd f y fs))))
theorem w_setF {cl : List Str} {f : Str} (p : (fv S).ps (frzK fun y S1 => insK S1 i cl f y (Q .nx)) E) : (fSetF i cl f fv S).ps Q E := by
  unfold fSetF
  refine w_bind (Rs.ps_mono p (fun y S1 q => ?_) fun _ _ z => z)
  obtain ⟨c, fs, e, h, q⟩ := q
  rw [e]
  try dsimp only
  rw [if_pos h]
  exact q
class PutIs (f : Str) (y : D) (fs : List (Str × D)) (fs' : outParam (List (Str × D))) : Prop where
  e : putFd f y fs = fs'
class InCl (c : Str) (cl : List Str) (fs : List (Str × D)) : Prop where
  h : c ∈ cl ∧ fs.length < 1000
instance i_incl {c : Str} {a b d e f : Str × D} : InCl c [c] [a, b, d, e, f] := ⟨by simp⟩
instance i_incl4 {c : Str} {a b d e : Str × D} : InCl c [c] [a, b, d, e] := ⟨by simp⟩
instance i_incl3 {c : Str} {a b d : Str × D} : InCl c [c] [a, b, d] := ⟨by simp⟩
instance i_incl2 {c : Str} {a b : Str × D} : InCl c [c] [a, b] := ⟨by simp⟩
instance i_incl1 {c : Str} {a : Str × D} : InCl c [c] [a] := ⟨by simp⟩
instance i_incl0 {c : Str} : InCl c [c] [] := ⟨by simp⟩
instance i_setF {cl : List Str} {f : Str} : Stp ((fSetF i cl f fv S).ps Q E) ((fv S).ps (frzK fun y S1 => insK S1 i cl f y (Q .nx)) E) := ⟨w_setF⟩
instance i_insK {cl : List Str} {f c : Str} {y : D} {fs fs' : List (Str × D)} {R : SS → Prop} [h : SlotIs S i (.ins .ow c fs)] [m : InCl c cl fs] [p : PutIs f y fs fs'] [s : SetIs S i (some (.ins .ow c fs')) S'] : Stp (insK S i cl f y R) (R S') :=
  ⟨fun q => ⟨c, fs, h.e, m.h, by rw [p.e, s.e]; exact q⟩⟩
instance i_pu1 {y : D} : PutIs "tasks" y [] [("tasks", y)] := ⟨rfl⟩
instance i_pu2 {y a : D} : PutIs "own" y [("tasks", a)] [("tasks", a), ("own", y)] := ⟨by kernel_rfl⟩
instance i_pu3 {y a b : D} : PutIs "ahead" y [("tasks", a), ("own", b)] [("tasks", a), ("own", b), ("ahead", y)] := ⟨by kernel_rfl⟩
instance i_pu4 {y a b c : D} : PutIs "foes" y [("tasks", a), ("own", b), ("ahead", c)] [("tasks", a), ("own", b), ("ahead", c), ("foes", y)] := ⟨by kernel_rfl⟩
instance i_pu5 {y a b c d : D} : PutIs "foes" y [("tasks", a), ("own", b), ("ahead", c), ("foes", d)] [("tasks", a), ("own", b), ("ahead", c), ("foes", y)] := ⟨by kernel_rfl⟩
instance i_pu6 {y a b c d : D} : PutIs "length" y [("tasks", a), ("own", b), ("ahead", c), ("foes", d)] [("tasks", a), ("own", b), ("ahead", c), ("foes", d), ("length", y)] := ⟨by kernel_rfl⟩
instance i_pu7 {y : D} : PutIs "works" y [] [("works", y)] := ⟨rfl⟩
instance i_pu8 {y a : D} : PutIs "whole" y [("works", a)] [("works", a), ("whole", y)] := ⟨by kernel_rfl⟩
instance i_pu9 {y a b : D} : PutIs "groups" y [("works", a), ("whole", b)] [("works", a), ("whole", b), ("groups", y)] := ⟨by kernel_rfl⟩
class FldIs (f : Str) (fs : List (Str × D)) (v : outParam D) : Prop where
  e : fs.lookup f = some v
instance i_fd0 {a b c d : D} : FldIs "foes" [("tasks", a), ("own", b), ("ahead", c), ("foes", d)] d := ⟨by kernel_rfl⟩
instance i_fd1 {a b c d e : D} : FldIs "tasks" [("tasks", a), ("own", b), ("ahead", c), ("foes", d), ("length", e)] a := ⟨by kernel_rfl⟩
instance i_fd2 {a b c d e : D} : FldIs "own" [("tasks", a), ("own", b), ("ahead", c), ("foes", d), ("length", e)] b := ⟨by kernel_rfl⟩
instance i_fd3 {a b c d e : D} : FldIs "ahead" [("tasks", a), ("own", b), ("ahead", c), ("foes", d), ("length", e)] c := ⟨by kernel_rfl⟩
instance i_fd4 {a b c d e : D} : FldIs "foes" [("tasks", a), ("own", b), ("ahead", c), ("foes", d), ("length", e)] d := ⟨by kernel_rfl⟩
instance i_fd5 {a b c d e : D} : FldIs "length" [("tasks", a), ("own", b), ("ahead", c), ("foes", d), ("length", e)] e := ⟨by kernel_rfl⟩
instance i_fd6 {a b c : D} : FldIs "works" [("works", a), ("whole", b), ("groups", c)] a := ⟨by kernel_rfl⟩
instance i_fd7 {a b c : D} : FldIs "whole" [("works", a), ("whole", b), ("groups", c)] b := ⟨by kernel_rfl⟩
instance i_fd8 {a b c : D} : FldIs "groups" [("works", a), ("whole", b), ("groups", c)] c := ⟨by kernel_rfl⟩
instance i_gFld {c f : Str} {o : Tg} {fs : List (Str × D)} {v : D} {R : D → Prop} [m : InCl c cl fs] [h : FldIs f fs v] : Stp (gv (gFld cl f (.ins o c fs)) R) (R v) := ⟨fun p => ⟨v, by show (if c ∈ cl then fs.lookup f else none) = some v; rw [if_pos m.h.1]; exact h.e, p⟩⟩
class NoFld (f : Str) (fs : List (Str × D)) : Prop where
  e : fs.lookup f = none
instance i_nf1 {a b c d e : D} : NoFld "may_join" [("tasks", a), ("own", b), ("ahead", c), ("foes", d), ("length", e)] := ⟨by kernel_rfl⟩
instance i_nf2 {a b c : D} : NoFld "load" [("works", a), ("whole", b), ("groups", c)] := ⟨by kernel_rfl⟩
instance i_nf3 {a b c : D} : NoFld "at_kind" [("works", a), ("whole", b), ("groups", c)] := ⟨by kernel_rfl⟩
instance i_nf4 {a b c : D} : NoFld "fillings" [("works", a), ("whole", b), ("groups", c)] := ⟨by kernel_rfl⟩
instance i_nf5 {a b c : D} : NoFld "greatest" [("works", a), ("whole", b), ("groups", c)] := ⟨by kernel_rfl⟩
instance i_fzIns {c : Str} {b : List (Str × D)} : Stp (frzK P (.ins .ow c b) S) (P (.ins .fz c b) S) := ⟨id⟩
def tlK (as : List Arg) (S : SS) (P : D → SS → Prop) (r : D) (o : SS) : Prop := match o with
  | _ :: o => stK (restore as o S) (P r)
  | [] => False
def methK (c m : Str) (F : List D → Rs D) (fr : Fa) (P : D → SS → Prop) (E : D → SS → Prop) (d : D) (S1 : SS) : Prop := match d with
  | .ins .fz c' fs => (c' = c ∧ fs.lookup m = none) ∧ (fr S1).ps (fun as S2 => resK as S2 fun ds S3 => (F (d :: ds)).ps (fun r o => tlK as S3 P r o) fun _ _ => False) E
  | _ => False
theorem w_meth {c m : Str} (p : (fo S).ps (fun d S1 => methK c m F fr P E d S1) E) : (fMeth c m F fo fr S).ps P E := by
  unfold fMeth
  refine w_bind (Rs.ps_mono p (fun d S1 q => ?_) fun _ _ z => z)
  unfold methK at q
  split at q
  · rename_i c' fs
    try dsimp only
    rw [if_pos q.1]
    refine Rs.ps.h (w_bind (Rs.ps_mono q.2 (fun as S2 q => ?_) fun _ _ z => z))
    obtain ⟨ds, S3, e, q⟩ := q
    rw [e]
    try dsimp only
    cases h : F (.ins .fz c' fs :: ds) with
    | ok r o =>
      rw [h] at q
      cases o with
      | nil => exact q.h.elim
      | cons x o => exact q.h
    | exc x o => rw [h] at q; exact q.h.elim
    | stk => rw [h] at q; exact q.h.elim
  · exact q.elim
instance i_meth {c m : Str} : Stp ((fMeth c m F fo fr S).ps P E) ((fo S).ps (fun d S1 => methK c m F fr P E d S1) E) := ⟨w_meth⟩
instance i_methK {c m : Str} {fs : List (Str × D)} [n : NoFld m fs] : Stp (methK c m F fr P E (.ins .fz c fs) S) ((fr S).ps (fun as S2 => resK as S2 fun ds S3 => (F (.ins .fz c fs :: ds)).ps (fun r o => tlK as S3 P r o) fun _ _ => False) E) := ⟨fun p => ⟨⟨rfl, n.e⟩, p⟩⟩
instance i_tlK {as : List Arg} {r : D} {x : Option D} {o : SS} : Stp (tlK as S P r (x :: o)) (stK (restore as o S) (P r)) := ⟨id⟩
def mkK (as : List Arg) (S : SS) (P : D → SS → Prop) (r : D) (o : SS) : Prop := match r, o with
  | .non, some d :: o => stK (restore as o S) (P d)
  | _, _ => False
theorem w_make {x : Str} (p : (fr S).ps (fun as S1 => resK as S1 fun ds S2 => (F (.ins .ow x [] :: ds)).ps (fun r o => mkK as S2 P r o) fun _ _ => False) E) : (fMake x F fr S).ps P E := by
  unfold fMake
  refine w_bind (Rs.ps_mono p (fun as S1 q => ?_) fun _ _ z => z)
  obtain ⟨ds, S2, e, q⟩ := q
  rw [e]
  try dsimp only
  cases h : F (.ins .ow x [] :: ds) with
  | ok r o =>
    rw [h] at q
    have q := q.h
    unfold Rs.post at q
    try dsimp only at q
    unfold mkK at q
    split at q
    · exact q
    · exact q.elim
  | exc x o => rw [h] at q; exact q.h.elim
  | stk => rw [h] at q; exact q.h.elim
instance i_make {x : Str} : Stp ((fMake x F fr S).ps P E) ((fr S).ps (fun as S1 => resK as S1 fun ds S2 => (F (.ins .ow x [] :: ds)).ps (fun r o => mkK as S2 P r o) fun _ _ => False) E) := ⟨w_make⟩
instance i_mkK {as : List Arg} {d : D} {o : SS} : Stp (mkK as S P .non (some d :: o)) (stK (restore as o S) (P d)) := ⟨id⟩
theorem w_disp1 (p : (fk S).ps (fun k S1 => (fv S1).ps (frzK fun v S2 => ∃ kk, toKey k = some kk ∧ P (.dK .ow [(kk, v)]) S2) E) E) : (fDisp1 fk fv S).ps P E := by
  unfold fDisp1
  refine w_bind (Rs.ps_mono p (fun k S1 q => ?_) fun _ _ z => z)
  refine w_bh (Rs.ps_mono q (fun v S2 q => ?_) fun _ _ z => z)
  obtain ⟨kk, e, q⟩ := q
  rw [e]
  exact q
instance i_disp1 : Stp ((fDisp1 fk fv S).ps P E) ((fk S).ps (fun k S1 => (fv S1).ps (frzK fun v S2 => ∃ kk, toKey k = some kk ∧ P (.dK .ow [(kk, v)]) S2) E) E) := ⟨w_disp1⟩
end
def kI (x : Int) : Key := .inl x
theorem kI_inj (x y : Int) (h : kI x = kI y) : x = y := by injection h
section
variable {β : Type} {f : β → D} {R : D → Prop} {o : Tg}
abbrev dmI (f : β → D) (cs : List (Int × β)) : List (Key × D) := dmG kI f cs
theorem o_inKI {cs : List (Int × β)} {x : Int} (p : R (.bl (lkA cs x).isSome)) : gv (gInB (.int x) (.dK o (dmI f cs))) R := by
  refine ⟨_, ?_, p⟩
  show ((some (getK (dmI f cs) (kI x))).map (·.isSome)).map D.bl = _
  rw [getK_dm kI_inj]
  cases lkA cs x <;> rfl
theorem o_niKI {cs : List (Int × β)} {x : Int} (p : R (.bl (!(lkA cs x).isSome))) : gv (gNiB (.int x) (.dK o (dmI f cs))) R := by
  refine ⟨_, ?_, p⟩
  show ((some (getK (dmI f cs) (kI x))).map (·.isSome)).map (fun k => D.bl (!k)) = _
  rw [getK_dm kI_inj]
  cases lkA cs x <;> rfl
theorem o_itemsKI {cs : List (Int × β)} (p : R (.lst .ow (cs.map fun c => .tup [.int c.1, f c.2]))) : gv (gItemsL (.dK o (dmI f cs))) R := ⟨_, by
  show some (D.lst .ow ((dmI f cs).map fun kv => .tup [kD kv.1, kv.2])) = _
  unfold dmI dmG
  rw [List.map_map]
  rfl, p⟩
theorem intKeys_dm : ∀ {cs : List (Int × β)}, intKeys (dmI f cs) = some (cs.map (·.1))
  | [] => rfl
  | c :: cs => by
    show (intKeys (dmI f cs)).map (c.1 :: ·) = _
    rw [intKeys_dm]
    rfl
theorem o_sortedKI {cs : List (Int × β)} (p : R (.lst .ow (((cs.map (·.1)).mergeSort fun a b => decide (a ≤ b)).map .int))) : gv (gSortedDK (.dK o (dmI f cs))) R := ⟨_, by
  show (intKeys (dmI f cs)).map _ = _
  rw [intKeys_dm]
  rfl, p⟩
instance i_inI {cs : List (Int × β)} {x : Int} : Stp (gv (gInB (.int x) (.dK o (dmI f cs))) R) (R (.bl (lkA cs x).isSome)) := ⟨o_inKI⟩
instance i_niI {cs : List (Int × β)} {x : Int} : Stp (gv (gNiB (.int x) (.dK o (dmI f cs))) R) (R (.bl (!(lkA cs x).isSome))) := ⟨o_niKI⟩
instance i_itemsI {cs : List (Int × β)} : Stp (gv (gItemsL (.dK o (dmI f cs))) R) (R (.lst .ow (cs.map fun c => .tup [.int c.1, f c.2]))) := ⟨o_itemsKI⟩
instance i_sortedI {cs : List (Int × β)} : Stp (gv (gSortedDK (.dK o (dmI f cs))) R) (R (.lst .ow (((cs.map (·.1)).mergeSort fun a b => decide (a ≤ b)).map .int))) := ⟨o_sortedKI⟩
end
section
variable {P : D → SS → Prop} {E : D → SS → Prop} {S : SS} {fe fb : Fe} {ia : Nat}
end
end T3
set_option Elab.async false
set_option linter.all false
set_option maxRecDepth 100000
set_option maxHeartbeats 4000000
namespace T3
open PySem PySem.Spec PyProof.Rows L2
section
variable {P : D → SS → Prop} {Q : Fl → SS → Prop} {E : D → SS → Prop} {S S' : SS} {i : Nat} {d d' : D} {fa fb fk fx : Fe} {R : D → Prop} {J : List D → SS → Prop} {o : Tg}
theorem w_itRev (p : (fa S).ps (fun d S1 => gv (seqR d) fun ds => J ds S1) E) : (fItRev fa S).ps J E := w_bind (Rs.ps_mono p (fun _ _ r => w_oh r) fun _ _ z => z)
instance i_itRev : Stp ((fItRev fa S).ps J E) ((fa S).ps (fun d S1 => gv (seqR d) fun ds => J ds S1) E) := ⟨w_itRev⟩
instance i_seqRL {ds : List D} {R : List D → Prop} : Stp (gv (seqR (.lst o ds)) R) (R ds.reverse) := ⟨fun p => ⟨_, rfl, p⟩⟩
instance i_seqRT {ds : List D} {R : List D → Prop} : Stp (gv (seqR (.tup ds)) R) (R ds.reverse) := ⟨fun p => ⟨_, rfl, p⟩⟩
def setDfK (i : Nat) (P : D → SS → Prop) (kd d : D) (S : SS) : Prop := ∃ kvs kk, slot S i = some (.dK .ow kvs) ∧ toKey kd = some kk ∧ kvs.length < sizeLine ∧ (∀ u, getK kvs kk = some u → P u S) ∧ (getK kvs kk = none → stK (S.set i (some (.dK .ow (putD kvs kk d)))) (P d))
theorem w_setDf {kvs0 : List (Key × D)} (hs : slot S i = some (.dK .ow kvs0)) (p : (fk S).ps (fun kd S1 => (fx S1).ps (frzK fun d S2 => setDfK i P kd d S2) E) E) : (fSetDf i fk fx S).ps P E := by
  unfold fSetDf
  rw [hs]
  refine w_bind (Rs.ps_mono p (fun kd S1 q => w_bh (Rs.ps_mono q (fun d S2 q => ?_) fun _ _ z => z)) fun _ _ z => z)
  obtain ⟨kvs, kk, e1, e2, h, q1, q2⟩ := (show setDfK i P kd (frz d) S2 from q)
  try dsimp only
  rw [e1, e2]
  try dsimp only
  rw [if_pos h]
  cases e : getK kvs kk with
  | some u => exact q1 u e
  | none => exact q2 e
instance i_setDf {kvs0 : List (Key × D)} [h : SlotIs S i (.dK .ow kvs0)] : Stp ((fSetDf i fk fx S).ps P E) ((fk S).ps (fun kd S1 => (fx S1).ps (frzK fun d S2 => setDfK i P kd d S2) E) E) := ⟨fun p => w_setDf h.e p⟩
def get2K (i : Nat) (P : D → SS → Prop) (kd d : D) (S : SS) : Prop := ∃ o kvs kk, slot S i = some (.dK o kvs) ∧ toKey kd = some kk ∧ P ((getK kvs kk).getD d) S
theorem w_get2 {kvs0 : List (Key × D)} (hs : slot S i = some (.dK o kvs0)) (p : (fk S).ps (fun kd S1 => (fx S1).ps (frzK fun d S2 => get2K i P kd d S2) E) E) : (fGet2 i fk fx S).ps P E := by
  unfold fGet2
  rw [hs]
  refine w_bind (Rs.ps_mono p (fun kd S1 q => w_bh (Rs.ps_mono q (fun d S2 q => ?_) fun _ _ z => z)) fun _ _ z => z)
  obtain ⟨o, kvs, kk, e1, e2, q⟩ := (show get2K i P kd (frz d) S2 from q)
  try dsimp only
  rw [e1, e2]
  try dsimp only
  cases e : getK kvs kk with
  | some u => rw [e] at q; exact q
  | none => rw [e] at q; exact q
instance i_get2 {kvs0 : List (Key × D)} [h : SlotIs S i (.dK o kvs0)] : Stp ((fGet2 i fk fx S).ps P E) ((fk S).ps (fun kd S1 => (fx S1).ps (frzK fun d S2 => get2K i P kd d S2) E) E) := ⟨fun p => w_get2 h.e p⟩
end
section
def midQ (R : SS → Prop) (Q : Fl → SS → Prop) : Fl → SS → Prop
  | .nx, S => R S
  | fl, S => Q fl S
instance i_midQ_nx {R : SS → Prop} {Q : Fl → SS → Prop} {S : SS} : Stp (midQ R Q .nx S) (R S) := ⟨id⟩
instance i_midQ_rt {R : SS → Prop} {Q : Fl → SS → Prop} {S : SS} {d : D} : Stp (midQ R Q (.rt d) S) (Q (.rt d) S) := ⟨id⟩
end
section
variable {P : D → SS → Prop} {Q : Fl → SS → Prop} {E : D → SS → Prop} {S S' : SS} {i : Nat}
end
end T3
set_option Elab.async false
set_option linter.all false
set_option maxRecDepth 100000
set_option maxHeartbeats 4000000
namespace T3
open PySem PySem.Spec PyProof.Rows L2
section
variable {P : D → SS → Prop} {Q : Fl → SS → Prop} {E : D → SS → Prop} {S S' : SS} {i : Nat} {d d' : D} {fa fb fk fx : Fe} {fr : Fa} {f : Fst} {R : D → Prop} {ns : List Str} {l : List (Str × Option Nat × Fst)}
def exK (x : Str) (fl : List Str) (E : D → SS → Prop) (ds : List D) (S : SS) : Prop := ds.all fz = true ∧ E (.ins .fz x (fl.zip ds).reverse) S
theorem w_raise {x : Str} {fl : List Str} (p : (fr S).ps (fun as S1 => resK as S1 fun ds S2 => exK x fl E ds S2) E) : (fRaise x fl fr S).ps Q E := by
  unfold fRaise
  refine w_bind (Rs.ps_mono p (fun as S1 q => ?_) fun _ _ z => z)
  obtain ⟨ds, S2, e, h, q⟩ := q
  try dsimp only
  rw [e]
  try dsimp only
  rw [if_pos h]
  exact q
instance i_raise {x : Str} {fl : List Str} : Stp ((fRaise x fl fr S).ps Q E) ((fr S).ps (fun as S1 => resK as S1 fun ds S2 => exK x fl E ds S2) E) := ⟨w_raise⟩
instance i_exK1 {x f1 : Str} {d1 : D} [h : FzT d1] : Stp (exK x [f1] E [d1] S) (E (.ins .fz x [(f1, d1)]) S) := ⟨fun p => ⟨by simp [h.e], p⟩⟩
instance i_exK2 {x f1 f2 : Str} {d1 d2 : D} [h : FzT d1] [h2 : FzT d2] : Stp (exK x [f1, f2] E [d1, d2] S) (E (.ins .fz x [(f2, d2), (f1, d1)]) S) := ⟨fun p => ⟨by simp [h.e, h2.e], p⟩⟩
theorem w_raise0 {x : Str} (p : E (.ins .fz x []) S) : (fRaise0 x S).ps Q E := ⟨p⟩
instance i_raise0 {x : Str} : Stp ((fRaise0 x S).ps Q E) (E (.ins .fz x []) S) := ⟨w_raise0⟩
def hdK (ns : List Str) (l : List (Str × Option Nat × Fst)) (Q : Fl → SS → Prop) (E : D → SS → Prop) (e : D) (S : SS) : Prop := ∃ n ds, e = .ins .fz n ds ∧ n ∈ ns ∧ (fHds l n ds S).ps Q E
theorem w_try (p : (f S).ps Q (hdK ns l Q E)) : (fTry ns f l S).ps Q E := by
  unfold fTry
  cases e : f S with
  | ok fl S1 => rw [e] at p; exact ⟨p.h⟩
  | stk => rw [e] at p; exact (show False from p.h).elim
  | exc x S1 =>
    rw [e] at p
    obtain ⟨n, ds, rfl, hn, q⟩ := p.h
    dsimp only
    rw [if_pos hn]
    exact q
instance i_try : Stp ((fTry ns f l S).ps Q E) ((f S).ps Q (hdK ns l Q E)) := ⟨w_try⟩
theorem o_isxN {cs : List Str} (p : R (.bl false)) : gv (gIsX ns cs .non) R := ⟨_, rfl, p⟩
theorem o_isNX {n : Str} {ds : List (Str × D)} (p : R (.bl false)) : gv (gIs (.xc n ds) .non) R := ⟨_, rfl, p⟩
instance i_isxN {cs : List Str} : Stp (gv (gIsX ns cs .non) R) (R (.bl false)) := ⟨o_isxN⟩
instance i_isNX {n : Str} {ds : List (Str × D)} : Stp (gv (gIs (.xc n ds) .non) R) (R (.bl false)) := ⟨o_isNX⟩
instance i_fzXc {n : Str} {ds : List (Str × D)} : FzT (.xc n ds) := ⟨rfl⟩
instance i_frzKXc {n : Str} {ds : List (Str × D)} : Stp (frzK P (.xc n ds) S) (P (.xc n ds) S) := ⟨id⟩
end
end T3
set_option Elab.async false
set_option linter.all false
set_option maxRecDepth 100000
set_option maxHeartbeats 4000000
namespace T3
open PySem PySem.Spec PyProof.Rows L2
section
variable {α β : Type} [DecidableEq α]
end
section
variable {P : D → SS → Prop} {Q : Fl → SS → Prop} {E : D → SS → Prop} {S S' : SS} {i t : Nat} {d d' : D} {fa fb fk fx fv fi : Fe} {R : D → Prop} {β : Type}
def ndK (t : Nat) (d kd : D) (S : SS) (R : SS → Prop) : Prop := ∃ kvs kk, slot S t = some (.nd kvs) ∧ toKey kd = some kk ∧ (kvs.length < sizeLine ∧ getK kvs kk = none) ∧ R (S.set t (some (.nd (kvs ++ [(kk, d)]))))
def sndK (t : Nat) (fi : Fe) (Q : Fl → SS → Prop) (E : D → SS → Prop) (d : D) (S : SS) : Prop := ((slot S t).isSome = true ∧ flat d = true) ∧ (fi S).ps (fun kd S2 => ndK t d kd S2 (Q .nx)) E
theorem w_setNd (p : (fv S).ps (sndK t fi Q E) E) : (fSetNd t fv fi S).ps Q E := by
  unfold fSetNd
  refine w_bind (Rs.ps_mono p (fun d S1 q => ?_) fun _ _ z => z)
  obtain ⟨h, q⟩ := q
  rw [if_pos h]
  refine w_bh (Rs.ps_mono q (fun kd S2 q => ?_) fun _ _ z => z)
  obtain ⟨kvs, kk, e1, e2, h, q⟩ := q
  rw [e1, e2]
  dsimp only
  rw [if_pos h]
  exact q
instance i_setNd : Stp ((fSetNd t fv fi S).ps Q E) ((fv S).ps (sndK t fi Q E) E) := ⟨w_setNd⟩
instance i_sndK {kvs : List (Key × D)} {xs : List D} [h : SlotIs S t (.nd kvs)] : Stp (sndK t fi Q E (.lst .ow xs) S) ((fi S).ps (fun kd S2 => ndK t (.lst .ow xs) kd S2 (Q .nx)) E) := ⟨fun p => ⟨⟨by rw [h.e]; rfl, rfl⟩, p⟩⟩
def napK (t : Nat) (fx : Fe) (P : D → SS → Prop) (kd : D) (S : SS) : Prop := ∃ d x d' S2, slot S t = some d ∧ fx S = .ok x S2 ∧ fz x = true ∧ nApp d kd x = some d' ∧ P .non (S.set t (some d'))
theorem w_nApp (hs : (slot S t).isSome = true) (p : (fk S).ps (fun kd S1 => napK t fx P kd S1) E) : (fNApp t fk fx S).ps P E := by
  unfold fNApp
  rw [if_pos hs]
  refine w_bind (Rs.ps_mono p (fun kd S1 q => ?_) fun _ _ z => z)
  obtain ⟨d, x, d', S2, e1, e2, h, e3, q⟩ := q
  rw [e1, e2]
  dsimp only
  rw [if_pos h, e3]
  exact q
instance i_nApp {d : D} [h : SlotIs S t d] : Stp ((fNApp t fk fx S).ps P E) ((fk S).ps (fun kd S1 => napK t fx P kd S1) E) := ⟨w_nApp (by rw [h.e]; rfl)⟩
end
end T3
set_option Elab.async false
set_option linter.all false
set_option maxRecDepth 100000
set_option maxHeartbeats 4000000
namespace T3
open PySem PySem.Spec PyProof.Rows L2
section
variable {P : D → SS → Prop} {E : D → SS → Prop} {fa fb : Fe} {g : D → D → Option D} {S : SS}
theorem w_lm (p : (fa S).ps (fun d1 S1 => ∃ o ds, d1 = .lst o ds ∧ (fb S1).ps (fun d2 S2 => gv (g d1 d2) fun d => P d S2) E) E) : (fLm g fa fb S).ps P E := by
  unfold fLm
  refine w_bind (Rs.ps_mono p (fun d1 S1 q => ?_) fun _ _ z => z)
  obtain ⟨o, ds, rfl, q⟩ := q
  dsimp only
  exact (w_bind (Rs.ps_mono q (fun _ _ r => w_oh r) fun _ _ z => z)).1
instance i_lm : Stp ((fLm g fa fb S).ps P E) ((fa S).ps (fun d1 S1 => ∃ o ds, d1 = .lst o ds ∧ (fb S1).ps (fun d2 S2 => gv (g d1 d2) fun d => P d S2) E) E) := ⟨w_lm⟩
end
end T3
set_option Elab.async false
set_option linter.all false
set_option maxRecDepth 100000
set_option maxHeartbeats 0
namespace T3
open PySem PySem.Spec PyProof.Rows L2
noncomputable section
end
end T3
set_option Elab.async false
set_option linter.all false
set_option maxRecDepth 100000
set_option maxHeartbeats 0
namespace T3
open PySem PySem.Spec PyProof.Rows L2
def f_law_wide : Fst := (fSeq (fAsg (fC (.int 0)) (ftName 1))
    (fSeq (fAsg (fFz (fOpN gMod 0 (fC (.int 2147483647)))) (ftName 0))
    (fSeq (fFor (fRng1 (fC (.int 7))) (ftName 2) (fSeq (fAsg (fFz (fOp gMod (fOp gAdd (fOp gAdd (fOpN gMul 0 (fC (.int 48271))) (fOp gMul (fOp gMul (fC (.int 7919)) (fView 2)) (fView 2))) (fC (.int 11))) (fC (.int 2147483647)))) (ftName 0))
    (fAsg (fFz (fOp gAdd (fOpN gMul 1 (fOp gPow (fC (.int 10)) (fC (.int 9)))) (fOp gMod (fOp gMod (fOpN gMul 0 (fC (.int 69621))) (fC (.int 2147483629))) (fOp gPow (fC (.int 10)) (fC (.int 9)))))) (ftName 1))))
    (fRet (fVar 1)))))
def F_law_wide : List D → Rs D := runB [false] 2 f_law_wide
def f_law_deck : Fst := (fSeq (fAsg (fFz (fOp gAdd (fUn gList (fSlN 0 foNone (foSome (fC (.int 63))))) (fLst (faCons (fC (.int 7)) faNil)))) (ftName 1))
    (fSeq (fIf (fTest (fOp gEq (fOp gMod (fOpN gIx 1 (fC (.int 0))) (fC (.int 2))) (fC (.int 1)))) (fRet (fOp gAdd (fLst (faCons (fFz (fOp gDiv (fOpN gIx 1 (fC (.int 0))) (fC (.int 2)))) faNil)) (fSlN 1 (foSome (fC (.int 1))) foNone))) fNext)
    (fRet (fLst (faCons (fFz (fCall F_law_wide (faCons (fFz (fOp gAdd (fOp gDiv (fOpN gIx 1 (fC (.int 0))) (fC (.int 2))) (fUn gSum (fSlN 1 (foSome (fC (.int 1))) foNone)))) faNil))) faNil)))))
def F_law_deck : List D → Rs D := runB [false] 1 f_law_deck
def f_law_next : Fst := (fSeq (fAsg (fFz (fML1 gPopA 0 (fC (.int 0)))) (ftName 1))
    (fSeq (fIf (fTest (fOpN gEq 0 (fLst faNil))) (fDrop (fML1 gAppend 0 (fCall F_law_wide (faCons (fFz (fOpN gAdd 1 (fC (.int 1)))) faNil)))) fNext)
    (fRet (fVar 1))))
def F_law_next : List D → Rs D := runB [true] 1 f_law_next
def f_law_names : Fst := (fSeq (fAsg (fC (.str "abcdefghijklmnopqrstuvwxyz")) (ftName 2))
    (fSeq (fAsg (fOp gEq (fOpN gMod 0 (fC (.int 2))) (fC (.int 0))) (ftName 3))
    (fSeq (fAsg (fFz (fOp gAdd (fC (.int 1)) (fOp gMod (fOpN gDiv 0 (fC (.int 2))) (fC (.int 8))))) (ftName 4))
    (fSeq (fAsg (fFz (fOp gMod (fOpN gDiv 0 (fC (.int 16))) (fView 4))) (ftName 5))
    (fSeq (fAsg (fFz (fOpN gDiv 0 (fC (.int 128)))) (ftName 6))
    (fSeq (fAsg (fLst faNil) (ftName 7))
    (fSeq (fFor (fRng1 (fVar 1)) (ftName 8) (fSeq (fAsg (fVar 6) (ftName 9))
    (fSeq (fAsg (fVar 4) (ftName 10))
    (fSeq (fIf (fNot (fTest (fVar 3))) (fSeq (fAsg (fFz (fOp gAdd (fC (.int 1)) (fOpN gMod 6 (fC (.int 8))))) (ftName 10))
    (fAsg (fFz (fOpN gDiv 6 (fC (.int 8)))) (ftName 9))) fNext)
    (fSeq (fAsg (fLst faNil) (ftName 11))
    (fSeq (fFor (fRng1 (fVar 10)) (ftName 12) (fSeq (fDrop (fML1 gAppend 11 (fOpN gIx 2 (fOpN gMod 9 (fC (.int 26))))))
    (fAsg (fFz (fOpN gDiv 9 (fC (.int 26)))) (ftName 9))))
    (fSeq (fIf (fTest (fVar 3)) (fSetIx 11 (fOpN gIx 2 (fOp gMod (fOp gAdd (fM1 gSIndex (fVar 2) (fOpN gIx 11 (fView 5))) (fView 8)) (fC (.int 26)))) (fVar 5)) (fAsg (fVar 9) (ftName 6)))
    (fSeq (fWhile (fTest (fOp gInB (fM1 gJoin (fC (.str "")) (fView 11)) (fView 7))) (fSetIx 11 (fOpN gIx 2 (fOp gMod (fOp gAdd (fM1 gSIndex (fVar 2) (fOpN gIx 11 (fC (.int 0)))) (fC (.int 1))) (fC (.int 26)))) (fC (.int 0))) 1000)
    (fDrop (fML1 gAppend 7 (fM1 gJoin (fC (.str "")) (fView 11))))))))))))
    (fRet (fVar 7)))))))))
def F_law_names : List D → Rs D := runB [false, false] 11 f_law_names
def f_law_tasks : Fst := (fSeq (fAsg (fFz (fOp gMod (fCall F_law_next (faName 0 faNil)) (fOp gPow (fC (.int 10)) (fC (.int 59))))) (ftName 4))
    (fSeq (fIf (fTest (fOp gEq (fOpN gMod 4 (fC (.int 4))) (fC (.int 1)))) (fAsg (fFz (fOp gMod (fOpN gDiv 4 (fC (.int 4))) (fC (.int 20)))) (ftName 4)) fNext)
    (fSeq (fAsg (fLst faNil) (ftName 5))
    (fSeq (fFor (fItSeq (fVar 1)) (ftName 6) (fSeq (fAsg (fFz (fCall F_law_next (faName 0 faNil))) (ftName 7))
    (fSeq (fAsg (fFz (fOp gAdd (fOp gAdd (fOpN gMul 4 (fOp gAdd (fC (.int 1)) (fOpN gMod 7 (fC (.int 9))))) (fC (.int 1))) (fOp gMod (fOpN gDiv 7 (fC (.int 9))) (fC (.int 3))))) (ftName 8))
    (fSeq (fIf (fTest (fVar 3)) (fSeq (fAsg (fFz (fOp gAdd (fC (.int 1)) (fOpN gMod 7 (fOp gSub (fOp gPow (fC (.int 10)) (fC (.int 60))) (fC (.int 1)))))) (ftName 8))
    (fAsg (fFz (fCall F_law_next (faName 0 faNil))) (ftName 7))) fNext)
    (fSeq (fAsg (fLst faNil) (ftName 9))
    (fSeq (fFor (fRng1 (fOp gIx (fLst (faCons (fFz (fOp gMul (fOp gDiv (fOp gMod (fOpN gDiv 7 (fC (.int 27))) (fC (.int 3))) (fC (.int 2))) (fOp gMod (fOpN gDiv 7 (fC (.int 81))) (fC (.int 4))))) (faCons (fFz (fOp gMod (fOpN gDiv 7 (fC (.int 27))) (fC (.int 5)))) faNil))) (fUn gInt (fView 3)))) (ftName 10) (fSeq (fAsg (fOpN gIx 2 (fOp gMod (fOpN gDiv 7 (fOp gShl (fC (.int 324)) (fOp gMul (fC (.int 2)) (fView 10)))) (fUn gLen (fView 2)))) (ftName 11))
    (fIf (fTest (fOpN gNiB 11 (fView 9))) (fDrop (fML1 gAppend 9 (fVar 11))) fNext)))
    (fDrop (fML1 gAppend 5 (fTup (faCons (fVar 6) (faCons (fVar 8) (faCons (fUn gTuple (fView 9)) faNil))))))))))))
    (fRet (fUn gTuple (fView 5)))))))
def F_law_tasks : List D → Rs D := runB [true, false, false, false] 8 f_law_tasks
def f_law_orders : Fst := (fSeq (fAsg (fLst faNil) (ftName 3))
    (fSeq (fFor (fEnum (fVar 1)) (ftTup (ftCons (ftName 4) (ftCons (ftName 5) ftNil))) (fFor (fItSeq (fSlN 1 (foSome (fOpN gAdd 4 (fC (.int 1)))) foNone)) (ftName 6) (fSeq (fIf (fTest (fOp gEq (fOpN gMod 0 (fView 2)) (fC (.int 0)))) (fDrop (fML1 gAppend 3 (fTup (faCons (fVar 5) (faCons (fVar 6) faNil))))) fNext)
    (fAsg (fFz (fOpN gDiv 0 (fView 2))) (ftName 0)))))
    (fRet (fVar 3))))
def F_law_orders : List D → Rs D := runB [false, false, false] 4 f_law_orders
def f_law_pairs : Fst := (fSeq (fAsg (fLst faNil) (ftName 4))
    (fSeq (fFor (fRng1 (fVar 2)) (ftName 5) (fSeq (fAsg (fOpN gIx 1 (fOpN gMod 0 (fUn gLen (fView 1)))) (ftName 6))
    (fSeq (fAsg (fOpN gIx 1 (fOp gMod (fOpN gDiv 0 (fC (.int 8))) (fUn gLen (fView 1)))) (ftName 7))
    (fSeq (fAsg (fTup (faCons (fOp gIx (fLst (faCons (fC (.str "apart")) (faCons (fC (.str "with")) faNil))) (fUn gInt (fOp gLt (fOp gMod (fOpN gDiv 0 (fC (.int 64))) (fC (.int 6))) (fView 3)))) (faCons (fVar 6) (faCons (fVar 7) faNil)))) (ftName 8))
    (fSeq (fIf (fAnd (fTest (fOpN gNe 6 (fView 7))) (fTest (fOpN gNiB 8 (fView 4)))) (fDrop (fML1 gAppend 4 (fVar 8))) fNext)
    (fAsg (fFz (fOpN gDiv 0 (fC (.int 384)))) (ftName 0)))))))
    (fRet (fUn gTuple (fView 4)))))
def F_law_pairs : List D → Rs D := runB [false, false, false, false] 5 f_law_pairs
def f_law_turn : Fst := (fSeq (fAsg (fUn gList (fView 1)) (ftName 2))
    (fSeq (fAsg (fLst faNil) (ftName 3))
    (fSeq (fFor (fRng1 (fUn gLen (fView 1))) (ftName 4) (fSeq (fAsg (fFz (fOpN gMod 0 (fUn gLen (fView 2)))) (ftName 5))
    (fSeq (fAsg (fFz (fOpN gDiv 0 (fUn gLen (fView 2)))) (ftName 0))
    (fDrop (fML1 gAppend 3 (fML1 gPopA 2 (fVar 5)))))))
    (fRet (fVar 3)))))
def F_law_turn : List D → Rs D := runB [false, false] 4 f_law_turn
def f_law_works : Fst := (fSeq (fAsg (fFz (fCall F_law_next (faName 0 faNil))) (ftName 3))
    (fSeq (fAsg (fFz (fOp gAdd (fC (.int 1)) (fOpN gMod 3 (fView 1)))) (ftName 4))
    (fSeq (fAsg (fOp gEq (fOp gMod (fOpN gDiv 3 (fC (.int 8))) (fC (.int 3))) (fC (.int 1))) (ftName 5))
    (fSeq (fAsg (fFz (fCall F_law_names (faCons (fFz (fCall F_law_next (faName 0 faNil))) (faCons (fVar 4) faNil)))) (ftName 6))
    (fSeq (fAsg (fFz (fSl (fCall F_law_names (faCons (fFz (fCall F_law_next (faName 0 faNil))) (faCons (fC (.int 4)) faNil))) foNone (foSome (fOp gAdd (fC (.int 2)) (fOp gMod (fOpN gDiv 3 (fC (.int 24))) (fC (.int 3))))))) (ftName 7))
    (fSeq (fAsg (fFz (fCall F_law_tasks (faName 0 (faCons (fVar 6) (faCons (fVar 7) (faCons (fVar 5) faNil)))))) (ftName 8))
    (fSeq (fAsg (fFz (fCall F_law_orders (faCons (fFz (fCall F_law_next (faName 0 faNil))) (faCons (fFz (fCall F_law_turn (faCons (fFz (fCall F_law_next (faName 0 faNil))) (faCons (fVar 6) faNil)))) (faCons (fFz (fOp gAdd (fC (.int 2)) (fOp gMod (fOpN gDiv 3 (fC (.int 72))) (fC (.int 4))))) faNil))))) (ftName 9))
    (fSeq (fAsg (fFz (fCall F_law_pairs (faCons (fFz (fCall F_law_next (faName 0 faNil))) (faCons (fVar 6) (faCons (fFz (fOp gMod (fOpN gDiv 3 (fC (.int 288))) (fOp gIx (fLst (faCons (fC (.int 6)) (faCons (fC (.int 13)) faNil))) (fUn gInt (fView 5))))) (faCons (fVar 2) faNil)))))) (ftName 10))
    (fSeq (fAsg (fFz (fCall F_law_next (faName 0 faNil))) (ftName 11))
    (fSeq (fAsg (fFz (fLc (fRng1 (fOp gAdd (fC (.int 1)) (fOpN gMod 11 (fOp gIx (fLst (faCons (fC (.int 5)) (faCons (fC (.int 8)) faNil))) (fUn gInt (fView 5)))))) (ftName 13) fYes (fOpN gIx 7 (fOp gMod (fOpN gDiv 11 (fOp gShl (fC (.int 64)) (fOp gMul (fC (.int 2)) (fView 13)))) (fUn gLen (fView 7)))) [13])) (ftName 12))
    (fRet (fTup (faCons (fVar 8) (faCons (fUn gTuple (fCall F_law_turn (faCons (fFz (fCall F_law_next (faName 0 faNil))) (faCons (fVar 9) faNil)))) (faCons (fVar 10) (faCons (fUn gTuple (fView 12)) faNil))))))))))))))))
def F_law_works : List D → Rs D := runB [true, false, false] 11 f_law_works
end T3
set_option Elab.async false
set_option linter.all false
set_option maxRecDepth 100000
set_option maxHeartbeats 0
namespace T3
open PySem PySem.Spec PyProof.Rows L2
def f_law_reach : Fst := (fSeq (fAsg (fFz (fLc (fItSeq (fOpN gIx 0 (fC (.int 0)))) (ftName 8) fYes (fOpN gIx 8 (fC (.int 0))) [8])) (ftName 2))
    (fSeq (fAsg (fC (.dT .ow [])) (ftName 3))
    (fSeq (fFor (fItSeq (fVar 2)) (ftName 4) (fFor (fItSeq (fVar 2)) (ftName 5) (fSetIx 3 (fOp gInB (fTup (faCons (fVar 4) (faCons (fVar 5) faNil))) (fOpN gIx 0 (fC (.int 1)))) (fTup (faCons (fVar 4) (faCons (fVar 5) faNil))))))
    (fSeq (fFor (fItSeq (fOpN gIx 0 (fC (.int 2)))) (ftTup (ftCons (ftName 6) (ftCons (ftName 4) (ftCons (ftName 5) ftNil)))) (fIf (fTest (fOpN gInB 6 (fView 1))) (fSeq (fSetIx 3 (fC (.bl true)) (fTup (faCons (fVar 4) (faCons (fVar 5) faNil))))
    (fSetIx 3 (fC (.bl true)) (fTup (faCons (fVar 5) (faCons (fVar 4) faNil))))) fNext))
    (fSeq (fFor (fItSeq (fVar 2)) (ftName 7) (fFor (fItSeq (fVar 2)) (ftName 4) (fFor (fItSeq (fVar 2)) (ftName 5) (fIf (fAnd (fTest (fOpN gIx 3 (fTup (faCons (fVar 4) (faCons (fVar 7) faNil))))) (fTest (fOpN gIx 3 (fTup (faCons (fVar 7) (faCons (fVar 5) faNil)))))) (fSetIx 3 (fC (.bl true)) (fTup (faCons (fVar 4) (faCons (fVar 5) faNil)))) fNext))))
    (fRet (fVar 3)))))))
def F_law_reach : List D → Rs D := runB [false, false] 7 f_law_reach
end T3
set_option Elab.async false
set_option linter.all false
set_option maxRecDepth 100000
set_option maxHeartbeats 0
namespace T3
open PySem PySem.Spec PyProof.Rows L2
noncomputable section
end
end T3
set_option Elab.async false
set_option linter.all false
set_option maxRecDepth 100000
set_option maxHeartbeats 0
namespace T3
open PySem PySem.Spec PyProof.Rows L2
noncomputable section
def f_law_at : Fst := (fRet (fUn gAll (fLc (fItSeq (fVar 1)) (ftTup (ftCons (ftName 2) (ftCons (ftName 3) (ftCons (ftName 4) ftNil)))) fYes (fOrV (fOpN gEq 4 (fTup faNil)) (fOpN gInB 0 (fView 4))) [2, 3, 4])))
def F_law_at : List D → Rs D := runB [false, true] 3 f_law_at
def f_law_sound : Fst := (fSeq (fAsg (fVar 0) (ftTup (ftCons (ftName 1) (ftCons (ftName 2) (ftCons (ftName 3) (ftCons (ftName 4) ftNil))))))
    (fSeq (fAsg (fFz (fCall F_law_reach (faCons (fVar 0) (faCons (fTup (faCons (fC (.str "with")) faNil)) faNil)))) (ftName 5))
    (fSeq (fFor (fItSeq (fOpN gIx 0 (fC (.int 2)))) (ftTup (ftCons (ftName 6) (ftCons (ftName 7) (ftCons (ftName 8) ftNil)))) (fIf (fAnd (fTest (fOpN gEq 6 (fC (.str "apart")))) (fAnd (fTest (fOpN gIx 5 (fTup (faCons (fVar 7) (faCons (fVar 8) faNil))))) (fTest (fOpN gIx 5 (fTup (faCons (fVar 8) (faCons (fVar 7) faNil))))))) (fAsg (fUn gTuple (fLc (fItSeq (fOpN gIx 0 (fC (.int 2)))) (ftName 13) (fTest (fOp gEq (fOpN gIx 13 (fC (.int 0))) (fC (.str "with")))) (fVar 13) [13])) (ftName 3)) fNext))
    (fSeq (fFor (fItSeq (fOpN gIx 0 (fC (.int 0)))) (ftTup (ftCons (ftName 9) (ftCons (ftName 10) (ftCons (ftName 11) ftNil)))) (fSeq (fAsg (fLc (fItSeq (fOpN gIx 0 (fC (.int 0)))) (ftName 14) (fAnd (fTest (fOpN gIx 5 (fTup (faCons (fOpN gIx 14 (fC (.int 0))) (faCons (fVar 9) faNil))))) (fTest (fOpN gIx 5 (fTup (faCons (fVar 9) (faCons (fOpN gIx 14 (fC (.int 0))) faNil)))))) (fVar 14) [14]) (ftName 12))
    (fSeq (fDrop (fML1 gAppend 12 (fTup (faCons (fVar 9) (faCons (fVar 10) (faCons (fVar 11) faNil))))))
    (fFzS 12 (fIf (fNot (fTest (fUn gAny (fLc (fItSeq (fVar 4)) (ftName 15) fYes (fCall F_law_at (faCons (fVar 15) (faName 12 faNil))) [15])))) (fAsg (fUn gTuple (fLc (fItSeq (fOpN gIx 0 (fC (.int 0)))) (ftTup (ftCons (ftName 7) (ftCons (ftName 16) (ftCons (ftName 17) ftNil)))) fYes (fTup (faCons (fVar 7) (faCons (fVar 16) (faCons (fTup faNil) faNil)))) [7, 16, 17])) (ftName 1)) fNext)))))
    (fRet (fTup (faCons (fVar 1) (faCons (fVar 2) (faCons (fVar 3) (faCons (fVar 4) faNil))))))))))
def F_law_sound : List D → Rs D := runB [false] 17 f_law_sound
end
end T3
set_option Elab.async false
set_option linter.all false
set_option maxRecDepth 100000
set_option maxHeartbeats 0
namespace T3
open PySem PySem.Spec PyProof.Rows L2
noncomputable section
def f_round_beat : Fst := (fRet (fOpN gMul 0 (fOp gAdd (fOpN gIx 1 (fC (.int 0))) (fOpN gIx 1 (fC (.int 1))))))
def F_round_beat : List D → Rs D := runB [false, false] 0 f_round_beat
end
end T3
set_option Elab.async false
set_option linter.all false
set_option maxRecDepth 100000
set_option maxHeartbeats 0
namespace T3
open PySem PySem.Spec PyProof.Rows L2
noncomputable section
end
end T3
set_option Elab.async false
set_option linter.all false
set_option maxRecDepth 100000
set_option maxHeartbeats 0
namespace T3
open PySem PySem.Spec PyProof.Rows L2
noncomputable section
def f_mixed_works : Fst := (fSeq (fAsg (fVar 2) (ftTup (ftCons (ftName 3) (ftCons (ftName 4) ftNil))))
    (fSeq (fAsg (fLst faNil) (ftName 5))
    (fSeq (fFzS 1 (fFor (fZip (fOpN gIx 0 (fC (.int 0))) (fVar 1)) (ftTup (ftCons (ftName 6) (ftCons (ftName 7) ftNil))) (fSeq (fAsg (fVar 6) (ftTup (ftCons (ftName 8) (ftCons (ftName 9) (ftCons (ftName 10) ftNil)))))
    (fDrop (fML1 gAppend 5 (fTup (faCons (fVar 8) (faCons (fFz (fOp gAdd (fOpN gMul 3 (fView 9)) (fOpN gMul 4 (fView 7)))) (faCons (fVar 10) faNil)))))))))
    (fRet (fOp gAdd (fTup (faCons (fUn gTuple (fView 5)) faNil)) (fSlN 0 (foSome (fC (.int 1))) foNone))))))
def F_mixed_works : List D → Rs D := runB [false, true, false] 8 f_mixed_works
def f_law : Fst := (fSeq (fAsg (fCall F_law_deck (faCons (fVar 0) faNil)) (ftName 1))
    (fSeq (fAsg (fFz (fCall F_law_sound (faCons (fFz (fCall F_law_works (faName 1 (faCons (fC (.int 8)) (faCons (fC (.int 3)) faNil))))) faNil))) (ftName 2))
    (fSeq (fAsg (fLst faNil) (ftName 3))
    (fSeq (fFor (fItSeq (fOpN gIx 2 (fC (.int 0)))) (ftName 4) (fSeq (fAsg (fFz (fCall F_law_next (faName 1 faNil))) (ftName 5))
    (fDrop (fML1 gAppend 3 (fOp gIx (fLst (faCons (fC (.int 0)) (faCons (fFz (fOp gMod (fOpN gDiv 5 (fC (.int 4))) (fOp gPow (fC (.int 10)) (fC (.int 60))))) faNil))) (fUn gInt (fOp gGt (fOpN gMod 5 (fC (.int 4))) (fC (.int 0)))))))))
    (fSeq (fAsg (fUn gTuple (fView 3)) (ftName 3))
    (fSeq (fAsg (fTup (faCons (fFz (fOp gAdd (fC (.int 1)) (fOp gMod (fCall F_law_next (faName 1 faNil)) (fC (.int 5))))) (faCons (fFz (fOp gAdd (fC (.int 1)) (fOp gMod (fCall F_law_next (faName 1 faNil)) (fC (.int 5))))) faNil))) (ftName 6))
    (fSeq (fAsg (fFz (fOp gMod (fCall F_law_next (faName 1 faNil)) (fOp gPow (fC (.int 10)) (fC (.int 61))))) (ftName 7))
    (fSeq (fAsg (fLst faNil) (ftName 8))
    (fSeq (fFzS 3 (fFor (fZip (fOpN gIx 2 (fC (.int 0))) (fVar 3)) (ftTup (ftCons (ftName 4) (ftCons (ftName 9) ftNil))) (fDrop (fML1 gAppend 8 (fTup (faCons (fOpN gIx 4 (fC (.int 0))) (faCons (fUn gSum (fOp gAdd (fOp gMul (fLst (faCons (fOpN gIx 4 (fC (.int 1))) faNil)) (fOpN gIx 6 (fC (.int 0)))) (fOp gMul (fLst (faCons (fVar 9) faNil)) (fOpN gIx 6 (fC (.int 1)))))) (faCons (fOpN gIx 4 (fC (.int 2))) faNil))))))))
    (fSeq (fAsg (fFz (fUn gRepr (fView 2))) (ftName 10))
    (fSeq (fAsg (fFz (fCall F_mixed_works (faCons (fVar 2) (faName 3 (faCons (fVar 6) faNil))))) (ftName 11))
    (fSeq (fIf (fOr (fNot (fTest (fUn (gIsi "tuple") (fView 11)))) (fOr (fTest (fOpN gNe 11 (fOp gAdd (fTup (faCons (fUn gTuple (fView 8)) faNil)) (fSlN 2 (foSome (fC (.int 1))) foNone)))) (fTest (fOp gNeT (fUn gRepr (fView 2)) (fView 10))))) (fRet (fC (.bl false))) fNext)
    (fSeq (fAsg (fFz (fCall F_round_beat (faCons (fVar 7) (faCons (fVar 6) faNil)))) (ftName 12))
    (fSeq (fIf (fOr (fNot (fTest (fUn (gIsi "int") (fView 12)))) (fTest (fOpN gNe 12 (fUn gSum (fOp gMul (fLst (faCons (fVar 7) faNil)) (fOp gAdd (fOpN gIx 6 (fC (.int 0))) (fOpN gIx 6 (fC (.int 1))))))))) (fRet (fC (.bl false))) fNext)
    (fRet (fOp gEqT (fUn gRepr (fOpN gIx 11 (fC (.int 0)))) (fUn gRepr (fUn gTuple (fView 8)))))))))))))))))))
def F_law : List D → Rs D := runB [false] 12 f_law
end
end T3
set_option Elab.async false
set_option linter.all false
set_option maxRecDepth 100000
set_option maxHeartbeats 0
namespace T3
open PySem PySem.Spec PyProof.Rows L2
abbrev N_law_wide : List Str := ["_law_number", "_law_found", "_law_j"]
theorem sc_law_wide : FnScope N_law_wide ["_law_number"] (defScope zz_law_wide) := ⟨rfl, rfl, rfl, by decide +kernel, rfl, by decide +kernel, by decide +kernel⟩
theorem b_law_wide {P : Program} {w : World} {K : PySem.W.Frag} {mg : Str → Option Value} {base : Heap} (m_range : mg "range" = none) : Body P w K mg base 0 N_law_wide (defScope zz_law_wide) (defBody zz_law_wide) [false] f_law_wide := fun qual fA cdv A outer s H E c => ⟨_, (fss_cons (fs_set 1 fe_int c)
    (fss_cons (fs_set 0 (fe_opN op_mod opMod (ve_var 0) fe_int.ve).fz c)
    (fss_cons (fs_for c (fi_range1 c m_range fe_int) (fgn 2 c.nd) (fss_cons (fs_set 0 (fe_op op_mod opMod (fe_op (c_add c) opAdd (fe_op (c_add c) opAdd (fe_opN (c_mul c) opMul (ve_var 0) fe_int.ve) (fe_op (c_mul c) opMul (fe_op (c_mul c) opMul fe_int (ve_var 2)) (ve_var 2)).ve) fe_int.ve) fe_int.ve).fz c)
    (fss_one (fs_set 1 (fe_op (c_add c) opAdd (fe_opN (c_mul c) opMul (ve_var 1) (fe_op op_powA opPow fe_int fe_int.ve).ve) (fe_op op_mod opMod (fe_op op_mod opMod (fe_opN (c_mul c) opMul (ve_var 0) fe_int.ve) fe_int.ve) (fe_op op_powA opPow fe_int fe_int.ve).ve).ve).fz c))))
    (fss_one (fs_ret (fe_var 1))))))⟩
abbrev N_law_deck : List Str := ["_law_script", "_law_cells"]
theorem sc_law_deck : FnScope N_law_deck ["_law_script"] (defScope zz_law_deck) := ⟨rfl, rfl, rfl, by decide +kernel, rfl, by decide +kernel, by decide +kernel⟩
theorem b_law_deck {P : Program} {w : World} {K : PySem.W.Frag} {mg : Str → Option Value} {base : Heap} (m_list : mg "list" = none) (m_sum : mg "sum" = none) (cal_law_wide : Cal P w K mg base "_law_wide" 1 1 F_law_wide) : Body P w K mg base 1 N_law_deck (defScope zz_law_deck) (defBody zz_law_deck) [false] f_law_deck := fun qual fA cdv A outer s H E c => ⟨_, (fss_cons (fs_set 1 (fe_op (c_add c) opAdd (fe_list c m_list (fe_slN c 0 (ve_var 0) fo_none (fo_some fe_int)).ve) (fe_lst (fa_cons fe_int fa_nil)).ve).fz c)
    (fss_cons (fs_if (ft_cmp (c_eq c) opEq (fe_op op_mod opMod (fe_ixN c (ve_var 1) fe_int.ve (fun _ _ => rfl)) fe_int.ve) fe_int.ve (nomark _)) (fss_one (fs_ret (fe_op (c_add c) opAdd (fe_lst (fa_cons (fe_op op_divA opDiv (fe_ixN c (ve_var 1) fe_int.ve (fun _ _ => rfl)) fe_int.ve).fz fa_nil)) (fe_slN c 1 (ve_var 1) (fo_some fe_int) fo_none).ve))) fss_nil)
    (fss_one (fs_ret (fe_lst (fa_cons (fe_call c ⟨rfl, rfl, rfl⟩ cal_law_wide (by decide) (fa_cons (fe_op (c_add c) opAdd (fe_op op_divA opDiv (fe_ixN c (ve_var 1) fe_int.ve (fun _ _ => rfl)) fe_int.ve) (fe_sum c m_sum (fe_slN c 1 (ve_var 1) (fo_some fe_int) fo_none).ve).ve).fz fa_nil) (faCons_len faNil_len)).fz fa_nil))))))⟩
abbrev N_law_reach : List Str := ["_law_works_here", "_law_words", "_law_names_here", "_law_far", "_law_one", "_law_other", "_law_word", "_law_amid", "_law_task"]
theorem sc_law_reach : FnScope N_law_reach ["_law_works_here", "_law_words"] (defScope zz_law_reach) := ⟨rfl, rfl, rfl, by decide +kernel, rfl, by decide +kernel, by decide +kernel⟩
theorem b_law_reach {P : Program} {w : World} {K : PySem.W.Frag} {mg : Str → Option Value} {base : Heap} : Body P w K mg base 0 N_law_reach (defScope zz_law_reach) (defBody zz_law_reach) [false, false] f_law_reach := fun qual fA cdv A outer s H E c => ⟨_, (fss_cons (fs_setLcF 2 (own := [("_law_task", 8)]) (vs := [8]) c (fi_seqE c (fe_ixN c (ve_var 0) fe_int.ve (fun _ _ => rfl))) (by kernel_rfl) rfl (fun _ _ _ _ _ => (fgn 8 (c.blk _ _ _ _ _).nd)) (fun _ _ _ _ _ => fts_nil) (fun _ _ _ _ _ => (fe_ixN (c.blk _ _ _ _ _) (ve_var 8) fe_int.ve (fun _ _ => rfl))))
    (fss_cons (fs_set 3 fe_dT c)
    (fss_cons (fs_for c (fi_seqE c (fe_var 2)) (fgn 4 c.nd) (fss_one (fs_for c (fi_seqE c (fe_var 2)) (fgn 5 c.nd) (fss_one (fs_setIx c 3 (fe_cmp (c_in c) opInB (fe_tup (fa_cons (fe_var 4) (fa_cons (fe_var 5) fa_nil))) (fe_ixN c (ve_var 0) fe_int.ve (fun _ _ => rfl)).ve rfl) (ve_var 3) (fe_tup (fa_cons (fe_var 4) (fa_cons (fe_var 5) fa_nil))))))))
    (fss_cons (fs_for c (fi_seqE c (fe_ixN c (ve_var 0) fe_int.ve (fun _ _ => rfl))) (fgt c (fgs_cons (fgn 6 c.nd) (fgs_cons (fgn 4 c.nd) (fgs_cons (fgn 5 c.nd) fgs_nil))) (ftCons_len (ftCons_len (ftCons_len ftNil_len)))) (fss_one (fs_if (ft_cmpN (c_in c) opInB (ve_var 6) (ve_var 1) rfl) (fss_cons (fs_setIx c 3 fe_bl (ve_var 3) (fe_tup (fa_cons (fe_var 4) (fa_cons (fe_var 5) fa_nil))))
    (fss_one (fs_setIx c 3 fe_bl (ve_var 3) (fe_tup (fa_cons (fe_var 5) (fa_cons (fe_var 4) fa_nil)))))) fss_nil)))
    (fss_cons (fs_for c (fi_seqE c (fe_var 2)) (fgn 7 c.nd) (fss_one (fs_for c (fi_seqE c (fe_var 2)) (fgn 4 c.nd) (fss_one (fs_for c (fi_seqE c (fe_var 2)) (fgn 5 c.nd) (fss_one (fs_if ((fw_and (ft_val (fe_ixN c (ve_var 3) (fe_tup (fa_cons (fe_var 4) (fa_cons (fe_var 7) fa_nil))).ve (fun _ _ => rfl))) (fw_and1 (ft_val (fe_ixN c (ve_var 3) (fe_tup (fa_cons (fe_var 7) (fa_cons (fe_var 5) fa_nil))).ve (fun _ _ => rfl)))))).ft (fss_one (fs_setIx c 3 fe_bl (ve_var 3) (fe_tup (fa_cons (fe_var 4) (fa_cons (fe_var 5) fa_nil))))) fss_nil)))))))
    (fss_one (fs_ret (fe_var 3))))))))⟩
abbrev N_law_at : List Str := ["_law_kind", "_law_tasks_here", "_law_name", "_law_long", "_law_kinds"]
theorem sc_law_at : FnScope N_law_at ["_law_kind", "_law_tasks_here"] (defScope zz_law_at) := ⟨rfl, rfl, rfl, by decide +kernel, rfl, by decide +kernel, by decide +kernel⟩
theorem b_law_at {P : Program} {w : World} {K : PySem.W.Frag} {mg : Str → Option Value} {base : Heap} (m_all : mg "all" = none) : Body P w K mg base 0 N_law_at (defScope zz_law_at) (defBody zz_law_at) [false, true] f_law_at := fun qual fA cdv A outer s H E c => ⟨_, (fss_one (fs_ret (fe_all c m_all (fe_lc (own := [("_law_name", 2), ("_law_long", 3), ("_law_kinds", 4)]) (vs := [2, 3, 4]) c (fi_seqE c (fe_var 1)) (by kernel_rfl) rfl (fun _ _ _ _ _ => (fgt (c.blk _ _ _ _ _) (fgs_cons (fgn 2 (c.blk _ _ _ _ _).nd) (fgs_cons (fgn 3 (c.blk _ _ _ _ _).nd) (fgs_cons (fgn 4 (c.blk _ _ _ _ _).nd) fgs_nil))) (ftCons_len (ftCons_len (ftCons_len ftNil_len))))) (fun _ _ _ _ _ => fts_nil) (fun _ _ _ _ _ => (fe_or (fe_cmpN (c_eq (c.blk _ _ _ _ _)) opEq (ve_var 4) (fe_tup fa_nil).ve (nomark _)) (fe_one (fe_cmpN (c_in (c.blk _ _ _ _ _)) opInB (ve_var 0) (ve_var 4) rfl))))).ve)))⟩
abbrev N_law_sound : List Str := ["_law_works_here", "_law_tasks_here", "_law_orders_here", "_law_pairs_here", "_law_row", "_law_far", "_law_word", "_law_one", "_law_other", "_law_name", "_law_length", "_law_kinds", "_law_group", "_law_pair", "_law_task", "_law_kind", "_law_long", "_law_some"]
theorem sc_law_sound : FnScope N_law_sound ["_law_works_here"] (defScope zz_law_sound) := ⟨rfl, rfl, rfl, by decide +kernel, rfl, by decide +kernel, by decide +kernel⟩
theorem b_law_sound {P : Program} {w : World} {K : PySem.W.Frag} {mg : Str → Option Value} {base : Heap} (m_any : mg "any" = none) (m_tuple : mg "tuple" = none) (cal_law_reach : Cal P w K mg base "_law_reach" 2 1 F_law_reach) (cal_law_at : Cal P w K mg base "_law_at" 2 1 F_law_at) : Body P w K mg base 1 N_law_sound (defScope zz_law_sound) (defBody zz_law_sound) [false] f_law_sound := fun qual fA cdv A outer s H E c => ⟨_, (fss_cons (fs_asg (fe_var 0) (fgt c (fgs_cons (fgn 1 c.nd) (fgs_cons (fgn 2 c.nd) (fgs_cons (fgn 3 c.nd) (fgs_cons (fgn 4 c.nd) fgs_nil)))) (ftCons_len (ftCons_len (ftCons_len (ftCons_len ftNil_len))))))
    (fss_cons (fs_set 5 (fe_call c ⟨rfl, rfl, rfl⟩ cal_law_reach (by decide) (fa_cons (fe_var 0) (fa_cons (fe_tup (fa_cons fe_str fa_nil)) fa_nil)) (faCons_len (faCons_len faNil_len))).fz c)
    (fss_cons (fs_for c (fi_seqE c (fe_ixN c (ve_var 0) fe_int.ve (fun _ _ => rfl))) (fgt c (fgs_cons (fgn 6 c.nd) (fgs_cons (fgn 7 c.nd) (fgs_cons (fgn 8 c.nd) fgs_nil))) (ftCons_len (ftCons_len (ftCons_len ftNil_len)))) (fss_one (fs_if ((fw_and (ft_cmpN (c_eq c) opEq (ve_var 6) fe_str.ve (nomark _)) (fw_and (ft_val (fe_ixN c (ve_var 5) (fe_tup (fa_cons (fe_var 7) (fa_cons (fe_var 8) fa_nil))).ve (fun _ _ => rfl))) (fw_and1 (ft_val (fe_ixN c (ve_var 5) (fe_tup (fa_cons (fe_var 8) (fa_cons (fe_var 7) fa_nil))).ve (fun _ _ => rfl))))))).ft (fss_one (fs_set 3 (fe_tuple c m_tuple (fe_lc (own := [("_law_pair", 13)]) (vs := [13]) c (fi_seqE c (fe_ixN c (ve_var 0) fe_int.ve (fun _ _ => rfl))) (by kernel_rfl) rfl (fun _ _ _ _ _ => (fgn 13 (c.blk _ _ _ _ _).nd)) (fun _ _ _ _ _ => (fts_one (ft_cmp (c_eq (c.blk _ _ _ _ _)) opEq (fe_ixN (c.blk _ _ _ _ _) (ve_var 13) fe_int.ve (fun _ _ => rfl)) fe_str.ve (nomark _)))) (fun _ _ _ _ _ => (fe_var 13))).ve) c)) fss_nil)))
    (fss_cons (fs_for c (fi_seqE c (fe_ixN c (ve_var 0) fe_int.ve (fun _ _ => rfl))) (fgt c (fgs_cons (fgn 9 c.nd) (fgs_cons (fgn 10 c.nd) (fgs_cons (fgn 11 c.nd) fgs_nil))) (ftCons_len (ftCons_len (ftCons_len ftNil_len)))) (fss_cons (fs_set 12 (fe_lc (own := [("_law_task", 14)]) (vs := [14]) c (fi_seqE c (fe_ixN c (ve_var 0) fe_int.ve (fun _ _ => rfl))) (by kernel_rfl) rfl (fun _ _ _ _ _ => (fgn 14 (c.blk _ _ _ _ _).nd)) (fun _ _ _ _ _ => (fts_one ((fw_and (ft_val (fe_ixN (c.blk _ _ _ _ _) (ve_var 5) (fe_tup (fa_cons (fe_ixN (c.blk _ _ _ _ _) (ve_var 14) fe_int.ve (fun _ _ => rfl)) (fa_cons (fe_var 9) fa_nil))).ve (fun _ _ => rfl))) (fw_and1 (ft_val (fe_ixN (c.blk _ _ _ _ _) (ve_var 5) (fe_tup (fa_cons (fe_var 9) (fa_cons (fe_ixN (c.blk _ _ _ _ _) (ve_var 14) fe_int.ve (fun _ _ => rfl)) fa_nil))).ve (fun _ _ => rfl)))))).ft)) (fun _ _ _ _ _ => (fe_var 14))) c)
    (fss_cons (fs_expr (fe_append c 12 (ve_var 12) (fe_tup (fa_cons (fe_var 9) (fa_cons (fe_var 10) (fa_cons (fe_var 11) fa_nil))))))
    (fss_one (FS1.fzS 12 (fs_if (ft_not (ft_val (fe_any c m_any (fe_lc (own := [("_law_kind", 15)]) (vs := [15]) c (fi_seqE c (fe_var 4)) (by kernel_rfl) rfl (fun _ _ _ _ _ => (fgn 15 (c.blk _ _ _ _ _).nd)) (fun _ _ _ _ _ => fts_nil) (fun _ _ _ _ _ => (fe_call (c.blk _ _ _ _ _) ⟨rfl, rfl, rfl⟩ cal_law_at (by decide) (fa_cons (fe_var 15) (fa_name 12 (ve_var 12) fa_nil)) (faCons_len (faName_len faNil_len))))).ve))) (fss_one (fs_set 1 (fe_tuple c m_tuple (fe_lc (own := [("_law_one", 7), ("_law_long", 16), ("_law_some", 17)]) (vs := [7, 16, 17]) c (fi_seqE c (fe_ixN c (ve_var 0) fe_int.ve (fun _ _ => rfl))) (by kernel_rfl) rfl (fun _ _ _ _ _ => (fgt (c.blk _ _ _ _ _) (fgs_cons (fgn 7 (c.blk _ _ _ _ _).nd) (fgs_cons (fgn 16 (c.blk _ _ _ _ _).nd) (fgs_cons (fgn 17 (c.blk _ _ _ _ _).nd) fgs_nil))) (ftCons_len (ftCons_len (ftCons_len ftNil_len))))) (fun _ _ _ _ _ => fts_nil) (fun _ _ _ _ _ => (fe_tup (fa_cons (fe_var 7) (fa_cons (fe_var 16) (fa_cons (fe_tup fa_nil) fa_nil)))))).ve) c)) fss_nil))))))
    (fss_one (fs_ret (fe_tup (fa_cons (fe_var 1) (fa_cons (fe_var 2) (fa_cons (fe_var 3) (fa_cons (fe_var 4) fa_nil)))))))))))⟩
abbrev N_mixed_works : List Str := ["works", "others", "mix", "first", "second", "tasks", "task", "other", "name", "length", "kinds"]
theorem sc_mixed_works : FnScope N_mixed_works ["works", "others", "mix"] (defScope zz_mixed_works) := ⟨rfl, rfl, rfl, by decide +kernel, rfl, by decide +kernel, by decide +kernel⟩
theorem b_mixed_works {P : Program} {w : World} {K : PySem.W.Frag} {mg : Str → Option Value} {base : Heap} (m_tuple : mg "tuple" = none) (m_zip : mg "zip" = none) : Body P w K mg base 0 N_mixed_works (defScope zz_mixed_works) (defBody zz_mixed_works) [false, true, false] f_mixed_works := fun qual fA cdv A outer s H E c => ⟨_, (fss_cons (fs_asg (fe_var 2) (fgt c (fgs_cons (fgn 3 c.nd) (fgs_cons (fgn 4 c.nd) fgs_nil)) (ftCons_len (ftCons_len ftNil_len))))
    (fss_cons (fs_set 5 (fe_lst fa_nil) c)
    (fss_cons (FS1.fzS 1 (fs_for c (fi_zip c m_zip (fe_ixN c (ve_var 0) fe_int.ve (fun _ _ => rfl)) (fe_var 1)) (fgt c (fgs_cons (fgn 6 c.nd) (fgs_cons (fgn 7 c.nd) fgs_nil)) (ftCons_len (ftCons_len ftNil_len))) (fss_cons (fs_asg (fe_var 6) (fgt c (fgs_cons (fgn 8 c.nd) (fgs_cons (fgn 9 c.nd) (fgs_cons (fgn 10 c.nd) fgs_nil))) (ftCons_len (ftCons_len (ftCons_len ftNil_len)))))
    (fss_one (fs_expr (fe_append c 5 (ve_var 5) (fe_tup (fa_cons (fe_var 8) (fa_cons (fe_op (c_add c) opAdd (fe_opN (c_mul c) opMul (ve_var 3) (ve_var 9)) (fe_opN (c_mul c) opMul (ve_var 4) (ve_var 7)).ve).fz (fa_cons (fe_var 10) fa_nil))))))))))
    (fss_one (fs_ret (fe_op (c_add c) opAdd (fe_tup (fa_cons (fe_tuple c m_tuple (ve_var 5)) fa_nil)) (fe_slN c 0 (ve_var 0) (fo_some fe_int) fo_none).ve))))))⟩
abbrev N_round_beat : List Str := ["beat", "mix"]
theorem sc_round_beat : FnScope N_round_beat ["beat", "mix"] (defScope zz_round_beat) := ⟨rfl, rfl, rfl, by decide +kernel, rfl, by decide +kernel, by decide +kernel⟩
theorem b_round_beat {P : Program} {w : World} {K : PySem.W.Frag} {mg : Str → Option Value} {base : Heap} : Body P w K mg base 0 N_round_beat (defScope zz_round_beat) (defBody zz_round_beat) [false, false] f_round_beat := fun qual fA cdv A outer s H E c => ⟨_, (fss_one (fs_ret (fe_opN (c_mul c) opMul (ve_var 0) (fe_op (c_add c) opAdd (fe_ixN c (ve_var 1) fe_int.ve (fun _ _ => rfl)) (fe_ixN c (ve_var 1) fe_int.ve (fun _ _ => rfl)).ve).ve)))⟩
abbrev N_law_next : List Str := ["_law_cells", "_law_cell"]
theorem sc_law_next : FnScope N_law_next ["_law_cells"] (defScope zz_law_next) := ⟨rfl, rfl, rfl, by decide +kernel, rfl, by decide +kernel, by decide +kernel⟩
theorem b_law_next {P : Program} {w : World} {K : PySem.W.Frag} {mg : Str → Option Value} {base : Heap} (cal_law_wide : Cal P w K mg base "_law_wide" 1 1 F_law_wide) : Body P w K mg base 1 N_law_next (defScope zz_law_next) (defBody zz_law_next) [true] f_law_next := fun qual fA cdv A outer s H E c => ⟨_, (fss_cons (fs_set 1 (fe_popAt c 0 (ve_var 0) fe_int).fz c)
    (fss_cons (fs_if (ft_cmpN (c_eq c) opEq (ve_var 0) (fe_lst fa_nil).ve (nomark _)) (fss_one (fs_expr (fe_append c 0 (ve_var 0) (fe_call c ⟨rfl, rfl, rfl⟩ cal_law_wide (by decide) (fa_cons (fe_opN (c_add c) opAdd (ve_var 1) fe_int.ve).fz fa_nil) (faCons_len faNil_len))))) fss_nil)
    (fss_one (fs_ret (fe_var 1)))))⟩
abbrev N_law_names : List Str := ["_law_cell", "_law_many", "_law_letters", "_law_alike", "_law_size", "_law_at_here", "_law_number", "_law_names_here", "_law_k", "_law_own", "_law_long", "_law_word", "_law_j"]
theorem sc_law_names : FnScope N_law_names ["_law_cell", "_law_many"] (defScope zz_law_names) := ⟨rfl, rfl, rfl, by decide +kernel, rfl, by decide +kernel, by decide +kernel⟩
theorem b_law_names {P : Program} {w : World} {K : PySem.W.Frag} {mg : Str → Option Value} {base : Heap} (m_range : mg "range" = none) : Body P w K mg base 0 N_law_names (defScope zz_law_names) (defBody zz_law_names) [false, false] f_law_names := fun qual fA cdv A outer s H E c => ⟨_, (fss_cons (fs_set 2 fe_str c)
    (fss_cons (fs_set 3 (fe_cmp (c_eq c) opEq (fe_opN op_mod opMod (ve_var 0) fe_int.ve) fe_int.ve (nomark _)) c)
    (fss_cons (fs_set 4 (fe_op (c_add c) opAdd fe_int (fe_op op_mod opMod (fe_opN op_divA opDiv (ve_var 0) fe_int.ve) fe_int.ve).ve).fz c)
    (fss_cons (fs_set 5 (fe_op op_mod opMod (fe_opN op_divA opDiv (ve_var 0) fe_int.ve) (ve_var 4)).fz c)
    (fss_cons (fs_set 6 (fe_opN op_divA opDiv (ve_var 0) fe_int.ve).fz c)
    (fss_cons (fs_set 7 (fe_lst fa_nil) c)
    (fss_cons (fs_for c (fi_range1 c m_range (fe_var 1)) (fgn 8 c.nd) (fss_cons (fs_set 9 (fe_var 6) c)
    (fss_cons (fs_set 10 (fe_var 4) c)
    (fss_cons (fs_if (ft_not (ft_val (fe_var 3))) (fss_cons (fs_set 10 (fe_op (c_add c) opAdd fe_int (fe_opN op_mod opMod (ve_var 6) fe_int.ve).ve).fz c)
    (fss_one (fs_set 9 (fe_opN op_divA opDiv (ve_var 6) fe_int.ve).fz c))) fss_nil)
    (fss_cons (fs_set 11 (fe_lst fa_nil) c)
    (fss_cons (fs_for c (fi_range1 c m_range (fe_var 10)) (fgn 12 c.nd) (fss_cons (fs_expr (fe_append c 11 (ve_var 11) (fe_ixN c (ve_var 2) (fe_opN op_mod opMod (ve_var 9) fe_int.ve).ve (fun _ _ => rfl))))
    (fss_one (fs_set 9 (fe_opN op_divA opDiv (ve_var 9) fe_int.ve).fz c))))
    (fss_cons (fs_if (ft_val (fe_var 3)) (fss_one (fs_setIx c 11 (fe_ixN c (ve_var 2) (fe_op op_mod opMod (fe_op (c_add c) opAdd (fe_sindex (fe_var 2) (fe_ixN c (ve_var 11) (ve_var 5) (fun _ _ => rfl)).ve) (ve_var 8)) fe_int.ve).ve (fun _ _ => rfl)) (ve_var 11) (fe_var 5))) (fss_one (fs_set 6 (fe_var 9) c)))
    (fss_cons (fs_while 1000 c (ft_cmp (c_in c) opInB (fe_join c fe_str (ve_var 11)) (ve_var 7) rfl) (fss_one (fs_setIx c 11 (fe_ixN c (ve_var 2) (fe_op op_mod opMod (fe_op (c_add c) opAdd (fe_sindex (fe_var 2) (fe_ixN c (ve_var 11) fe_int.ve (fun _ _ => rfl)).ve) fe_int.ve) fe_int.ve).ve (fun _ _ => rfl)) (ve_var 11) fe_int)))
    (fss_one (fs_expr (fe_append c 7 (ve_var 7) (fe_join c fe_str (ve_var 11)))))))))))))
    (fss_one (fs_ret (fe_var 7))))))))))⟩
abbrev N_law_tasks : List Str := ["_law_cells", "_law_names_here", "_law_pool", "_law_free", "_law_base", "_law_tasks_here", "_law_name", "_law_cell", "_law_length", "_law_kinds", "_law_k", "_law_kind"]
theorem sc_law_tasks : FnScope N_law_tasks ["_law_cells", "_law_names_here", "_law_pool", "_law_free"] (defScope zz_law_tasks) := ⟨rfl, rfl, rfl, by decide +kernel, rfl, by decide +kernel, by decide +kernel⟩
theorem b_law_tasks {P : Program} {w : World} {K : PySem.W.Frag} {mg : Str → Option Value} {base : Heap} (m_int : mg "int" = none) (m_len : mg "len" = none) (m_range : mg "range" = none) (m_tuple : mg "tuple" = none) (cal_law_next : Cal P w K mg base "_law_next" 1 2 F_law_next) : Body P w K mg base 2 N_law_tasks (defScope zz_law_tasks) (defBody zz_law_tasks) [true, false, false, false] f_law_tasks := fun qual fA cdv A outer s H E c => ⟨_, (fss_cons (fs_set 4 (fe_op op_mod opMod (fe_call c ⟨rfl, rfl, rfl⟩ cal_law_next (by decide) (fa_name 0 (ve_var 0) fa_nil) (faName_len faNil_len)) (fe_op op_powA opPow fe_int fe_int.ve).ve).fz c)
    (fss_cons (fs_if (ft_cmp (c_eq c) opEq (fe_opN op_mod opMod (ve_var 4) fe_int.ve) fe_int.ve (nomark _)) (fss_one (fs_set 4 (fe_op op_mod opMod (fe_opN op_divA opDiv (ve_var 4) fe_int.ve) fe_int.ve).fz c)) fss_nil)
    (fss_cons (fs_set 5 (fe_lst fa_nil) c)
    (fss_cons (fs_for c (fi_seqE c (fe_var 1)) (fgn 6 c.nd) (fss_cons (fs_set 7 (fe_call c ⟨rfl, rfl, rfl⟩ cal_law_next (by decide) (fa_name 0 (ve_var 0) fa_nil) (faName_len faNil_len)).fz c)
    (fss_cons (fs_set 8 (fe_op (c_add c) opAdd (fe_op (c_add c) opAdd (fe_opN (c_mul c) opMul (ve_var 4) (fe_op (c_add c) opAdd fe_int (fe_opN op_mod opMod (ve_var 7) fe_int.ve).ve).ve) fe_int.ve) (fe_op op_mod opMod (fe_opN op_divA opDiv (ve_var 7) fe_int.ve) fe_int.ve).ve).fz c)
    (fss_cons (fs_if (ft_val (fe_var 3)) (fss_cons (fs_set 8 (fe_op (c_add c) opAdd fe_int (fe_opN op_mod opMod (ve_var 7) (fe_op op_sub opSub (fe_op op_powA opPow fe_int fe_int.ve) fe_int.ve).ve).ve).fz c)
    (fss_one (fs_set 7 (fe_call c ⟨rfl, rfl, rfl⟩ cal_law_next (by decide) (fa_name 0 (ve_var 0) fa_nil) (faName_len faNil_len)).fz c))) fss_nil)
    (fss_cons (fs_set 9 (fe_lst fa_nil) c)
    (fss_cons (fs_for c (fi_range1 c m_range (fe_ix c (fe_lst (fa_cons (fe_op (c_mul c) opMul (fe_op op_divA opDiv (fe_op op_mod opMod (fe_opN op_divA opDiv (ve_var 7) fe_int.ve) fe_int.ve) fe_int.ve) (fe_op op_mod opMod (fe_opN op_divA opDiv (ve_var 7) fe_int.ve) fe_int.ve).ve).fz (fa_cons (fe_op op_mod opMod (fe_opN op_divA opDiv (ve_var 7) fe_int.ve) fe_int.ve).fz fa_nil))) (fe_int1 c m_int (ve_var 3)).ve (fun _ _ => rfl))) (fgn 10 c.nd) (fss_cons (fs_set 11 (fe_ixN c (ve_var 2) (fe_op op_mod opMod (fe_opN op_divA opDiv (ve_var 7) (fe_op op_shlA opShl fe_int (fe_op (c_mul c) opMul fe_int (ve_var 10)).ve).ve) (fe_len c m_len (ve_var 2)).ve).ve (fun _ _ => rfl)) c)
    (fss_one (fs_if (ft_cmpN (c_ni c) opNiB (ve_var 11) (ve_var 9) rfl) (fss_one (fs_expr (fe_append c 9 (ve_var 9) (fe_var 11)))) fss_nil))))
    (fss_one (fs_expr (fe_append c 5 (ve_var 5) (fe_tup (fa_cons (fe_var 6) (fa_cons (fe_var 8) (fa_cons (fe_tuple c m_tuple (ve_var 9)) fa_nil)))))))))))))
    (fss_one (fs_ret (fe_tuple c m_tuple (ve_var 5))))))))⟩
abbrev N_law_orders : List Str := ["_law_cell", "_law_turn_here", "_law_often", "_law_orders_here", "_law_k", "_law_one", "_law_other"]
theorem sc_law_orders : FnScope N_law_orders ["_law_cell", "_law_turn_here", "_law_often"] (defScope zz_law_orders) := ⟨rfl, rfl, rfl, by decide +kernel, rfl, by decide +kernel, by decide +kernel⟩
theorem b_law_orders {P : Program} {w : World} {K : PySem.W.Frag} {mg : Str → Option Value} {base : Heap} (m_enumerate : mg "enumerate" = none) : Body P w K mg base 0 N_law_orders (defScope zz_law_orders) (defBody zz_law_orders) [false, false, false] f_law_orders := fun qual fA cdv A outer s H E c => ⟨_, (fss_cons (fs_set 3 (fe_lst fa_nil) c)
    (fss_cons (fs_for c (fi_enum c m_enumerate (fe_var 1)) (fgt c (fgs_cons (fgn 4 c.nd) (fgs_cons (fgn 5 c.nd) fgs_nil)) (ftCons_len (ftCons_len ftNil_len))) (fss_one (fs_for c (fi_seqE c (fe_slN c 1 (ve_var 1) (fo_some (fe_opN (c_add c) opAdd (ve_var 4) fe_int.ve)) fo_none)) (fgn 6 c.nd) (fss_cons (fs_if (ft_cmp (c_eq c) opEq (fe_opN op_mod opMod (ve_var 0) (ve_var 2)) fe_int.ve (nomark _)) (fss_one (fs_expr (fe_append c 3 (ve_var 3) (fe_tup (fa_cons (fe_var 5) (fa_cons (fe_var 6) fa_nil)))))) fss_nil)
    (fss_one (fs_set 0 (fe_opN op_divA opDiv (ve_var 0) (ve_var 2)).fz c))))))
    (fss_one (fs_ret (fe_var 3)))))⟩
abbrev N_law_pairs : List Str := ["_law_cell", "_law_names_here", "_law_many", "_law_withs", "_law_pairs_here", "_law_k", "_law_one", "_law_other", "_law_pair"]
theorem sc_law_pairs : FnScope N_law_pairs ["_law_cell", "_law_names_here", "_law_many", "_law_withs"] (defScope zz_law_pairs) := ⟨rfl, rfl, rfl, by decide +kernel, rfl, by decide +kernel, by decide +kernel⟩
theorem b_law_pairs {P : Program} {w : World} {K : PySem.W.Frag} {mg : Str → Option Value} {base : Heap} (m_int : mg "int" = none) (m_len : mg "len" = none) (m_range : mg "range" = none) (m_tuple : mg "tuple" = none) : Body P w K mg base 0 N_law_pairs (defScope zz_law_pairs) (defBody zz_law_pairs) [false, false, false, false] f_law_pairs := fun qual fA cdv A outer s H E c => ⟨_, (fss_cons (fs_set 4 (fe_lst fa_nil) c)
    (fss_cons (fs_for c (fi_range1 c m_range (fe_var 2)) (fgn 5 c.nd) (fss_cons (fs_set 6 (fe_ixN c (ve_var 1) (fe_opN op_mod opMod (ve_var 0) (fe_len c m_len (ve_var 1)).ve).ve (fun _ _ => rfl)) c)
    (fss_cons (fs_set 7 (fe_ixN c (ve_var 1) (fe_op op_mod opMod (fe_opN op_divA opDiv (ve_var 0) fe_int.ve) (fe_len c m_len (ve_var 1)).ve).ve (fun _ _ => rfl)) c)
    (fss_cons (fs_set 8 (fe_tup (fa_cons (fe_ix c (fe_lst (fa_cons fe_str (fa_cons fe_str fa_nil))) (fe_int1 c m_int (fe_cmp op_lt opLt (fe_op op_mod opMod (fe_opN op_divA opDiv (ve_var 0) fe_int.ve) fe_int.ve) (ve_var 3) (nomark _)).ve).ve (fun _ _ => rfl)) (fa_cons (fe_var 6) (fa_cons (fe_var 7) fa_nil)))) c)
    (fss_cons (fs_if ((fw_and (ft_cmpN (c_ne c) opNe (ve_var 6) (ve_var 7) (nomark _)) (fw_and1 (ft_cmpN (c_ni c) opNiB (ve_var 8) (ve_var 4) rfl)))).ft (fss_one (fs_expr (fe_append c 4 (ve_var 4) (fe_var 8)))) fss_nil)
    (fss_one (fs_set 0 (fe_opN op_divA opDiv (ve_var 0) fe_int.ve).fz c)))))))
    (fss_one (fs_ret (fe_tuple c m_tuple (ve_var 4))))))⟩
abbrev N_law_turn : List Str := ["_law_cell", "_law_names_here", "_law_left", "_law_turn_here", "_law_k", "_law_at_here"]
theorem sc_law_turn : FnScope N_law_turn ["_law_cell", "_law_names_here"] (defScope zz_law_turn) := ⟨rfl, rfl, rfl, by decide +kernel, rfl, by decide +kernel, by decide +kernel⟩
theorem b_law_turn {P : Program} {w : World} {K : PySem.W.Frag} {mg : Str → Option Value} {base : Heap} (m_len : mg "len" = none) (m_list : mg "list" = none) (m_range : mg "range" = none) : Body P w K mg base 0 N_law_turn (defScope zz_law_turn) (defBody zz_law_turn) [false, false] f_law_turn := fun qual fA cdv A outer s H E c => ⟨_, (fss_cons (fs_set 2 (fe_list c m_list (ve_var 1)) c)
    (fss_cons (fs_set 3 (fe_lst fa_nil) c)
    (fss_cons (fs_for c (fi_range1 c m_range (fe_len c m_len (ve_var 1))) (fgn 4 c.nd) (fss_cons (fs_set 5 (fe_opN op_mod opMod (ve_var 0) (fe_len c m_len (ve_var 2)).ve).fz c)
    (fss_cons (fs_set 0 (fe_opN op_divA opDiv (ve_var 0) (fe_len c m_len (ve_var 2)).ve).fz c)
    (fss_one (fs_expr (fe_append c 3 (ve_var 3) (fe_popAt c 2 (ve_var 2) (fe_var 5))))))))
    (fss_one (fs_ret (fe_var 3))))))⟩
abbrev N_law_works : List Str := ["_law_cells", "_law_most", "_law_withs", "_law_head", "_law_many", "_law_free", "_law_names_here", "_law_pool", "_law_tasks_here", "_law_orders_here", "_law_pairs_here", "_law_cell", "_law_row", "_law_k"]
theorem sc_law_works : FnScope N_law_works ["_law_cells", "_law_most", "_law_withs"] (defScope zz_law_works) := ⟨rfl, rfl, rfl, by decide +kernel, rfl, by decide +kernel, by decide +kernel⟩
theorem b_law_works {P : Program} {w : World} {K : PySem.W.Frag} {mg : Str → Option Value} {base : Heap} (m_int : mg "int" = none) (m_len : mg "len" = none) (m_range : mg "range" = none) (m_tuple : mg "tuple" = none) (cal_law_next : Cal P w K mg base "_law_next" 1 2 F_law_next) (cal_law_names : Cal P w K mg base "_law_names" 2 1 F_law_names) (cal_law_tasks : Cal P w K mg base "_law_tasks" 4 3 F_law_tasks) (cal_law_orders : Cal P w K mg base "_law_orders" 3 1 F_law_orders) (cal_law_pairs : Cal P w K mg base "_law_pairs" 4 1 F_law_pairs) (cal_law_turn : Cal P w K mg base "_law_turn" 2 1 F_law_turn) : Body P w K mg base 3 N_law_works (defScope zz_law_works) (defBody zz_law_works) [true, false, false] f_law_works := fun qual fA cdv A outer s H E c => ⟨_, (fss_cons (fs_set 3 (fe_call c ⟨rfl, rfl, rfl⟩ cal_law_next (by decide) (fa_name 0 (ve_var 0) fa_nil) (faName_len faNil_len)).fz c)
    (fss_cons (fs_set 4 (fe_op (c_add c) opAdd fe_int (fe_opN op_mod opMod (ve_var 3) (ve_var 1)).ve).fz c)
    (fss_cons (fs_set 5 (fe_cmp (c_eq c) opEq (fe_op op_mod opMod (fe_opN op_divA opDiv (ve_var 3) fe_int.ve) fe_int.ve) fe_int.ve (nomark _)) c)
    (fss_cons (fs_set 6 (fe_call c ⟨rfl, rfl, rfl⟩ cal_law_names (by decide) (fa_cons (fe_call c ⟨rfl, rfl, rfl⟩ cal_law_next (by decide) (fa_name 0 (ve_var 0) fa_nil) (faName_len faNil_len)).fz (fa_cons (fe_var 4) fa_nil)) (faCons_len (faCons_len faNil_len))).fz c)
    (fss_cons (fs_set 7 (fe_sl c (fe_call c ⟨rfl, rfl, rfl⟩ cal_law_names (by decide) (fa_cons (fe_call c ⟨rfl, rfl, rfl⟩ cal_law_next (by decide) (fa_name 0 (ve_var 0) fa_nil) (faName_len faNil_len)).fz (fa_cons fe_int fa_nil)) (faCons_len (faCons_len faNil_len))) fo_none (fo_some (fe_op (c_add c) opAdd fe_int (fe_op op_mod opMod (fe_opN op_divA opDiv (ve_var 3) fe_int.ve) fe_int.ve).ve))).fz c)
    (fss_cons (fs_set 8 (fe_call c ⟨rfl, rfl, rfl⟩ cal_law_tasks (by decide) (fa_name 0 (ve_var 0) (fa_cons (fe_var 6) (fa_cons (fe_var 7) (fa_cons (fe_var 5) fa_nil)))) (faName_len (faCons_len (faCons_len (faCons_len faNil_len))))).fz c)
    (fss_cons (fs_set 9 (fe_call c ⟨rfl, rfl, rfl⟩ cal_law_orders (by decide) (fa_cons (fe_call c ⟨rfl, rfl, rfl⟩ cal_law_next (by decide) (fa_name 0 (ve_var 0) fa_nil) (faName_len faNil_len)).fz (fa_cons (fe_call c ⟨rfl, rfl, rfl⟩ cal_law_turn (by decide) (fa_cons (fe_call c ⟨rfl, rfl, rfl⟩ cal_law_next (by decide) (fa_name 0 (ve_var 0) fa_nil) (faName_len faNil_len)).fz (fa_cons (fe_var 6) fa_nil)) (faCons_len (faCons_len faNil_len))).fz (fa_cons (fe_op (c_add c) opAdd fe_int (fe_op op_mod opMod (fe_opN op_divA opDiv (ve_var 3) fe_int.ve) fe_int.ve).ve).fz fa_nil))) (faCons_len (faCons_len (faCons_len faNil_len)))).fz c)
    (fss_cons (fs_set 10 (fe_call c ⟨rfl, rfl, rfl⟩ cal_law_pairs (by decide) (fa_cons (fe_call c ⟨rfl, rfl, rfl⟩ cal_law_next (by decide) (fa_name 0 (ve_var 0) fa_nil) (faName_len faNil_len)).fz (fa_cons (fe_var 6) (fa_cons (fe_op op_mod opMod (fe_opN op_divA opDiv (ve_var 3) fe_int.ve) (fe_ix c (fe_lst (fa_cons fe_int (fa_cons fe_int fa_nil))) (fe_int1 c m_int (ve_var 5)).ve (fun _ _ => rfl)).ve).fz (fa_cons (fe_var 2) fa_nil)))) (faCons_len (faCons_len (faCons_len (faCons_len faNil_len))))).fz c)
    (fss_cons (fs_set 11 (fe_call c ⟨rfl, rfl, rfl⟩ cal_law_next (by decide) (fa_name 0 (ve_var 0) fa_nil) (faName_len faNil_len)).fz c)
    (fss_cons (fs_setLcF 12 (own := [("_law_k", 13)]) (vs := [13]) c (fi_range1 c m_range (fe_op (c_add c) opAdd fe_int (fe_opN op_mod opMod (ve_var 11) (fe_ix c (fe_lst (fa_cons fe_int (fa_cons fe_int fa_nil))) (fe_int1 c m_int (ve_var 5)).ve (fun _ _ => rfl)).ve).ve)) (by kernel_rfl) rfl (fun _ _ _ _ _ => (fgn 13 (c.blk _ _ _ _ _).nd)) (fun _ _ _ _ _ => fts_nil) (fun _ _ _ _ _ => (fe_ixN (c.blk _ _ _ _ _) (ve_var 7) (fe_op op_mod opMod (fe_opN op_divA opDiv (ve_var 11) (fe_op op_shlA opShl fe_int (fe_op (c_mul (c.blk _ _ _ _ _)) opMul fe_int (ve_var 13)).ve).ve) (fe_len (c.blk _ _ _ _ _) m_len (ve_var 7)).ve).ve (fun _ _ => rfl))))
    (fss_one (fs_ret (fe_tup (fa_cons (fe_var 8) (fa_cons (fe_tuple c m_tuple (fe_call c ⟨rfl, rfl, rfl⟩ cal_law_turn (by decide) (fa_cons (fe_call c ⟨rfl, rfl, rfl⟩ cal_law_next (by decide) (fa_name 0 (ve_var 0) fa_nil) (faName_len faNil_len)).fz (fa_cons (fe_var 9) fa_nil)) (faCons_len (faCons_len faNil_len))).ve) (fa_cons (fe_var 10) (fa_cons (fe_tuple c m_tuple (ve_var 12)) fa_nil)))))))))))))))))⟩
abbrev N_law : List Str := ["_law_script", "_law_cells", "_law_works_here", "_law_others", "_law_task", "_law_cell", "_law_mix", "_law_beat", "_law_due", "_law_other", "_law_kept", "_law_found", "_law_many"]
theorem sc_law : FnScope N_law ["_law_script"] (defScope zz_law) := ⟨rfl, rfl, rfl, by decide +kernel, rfl, by decide +kernel, by decide +kernel⟩
theorem b_law {P : Program} {w : World} {K : PySem.W.Frag} {mg : Str → Option Value} {base : Heap} (m_int : mg "int" = none) (m_isinstance : mg "isinstance" = none) (m_repr : mg "repr" = none) (m_sum : mg "sum" = none) (m_tuple : mg "tuple" = none) (m_zip : mg "zip" = none) (cal_law_deck : Cal P w K mg base "_law_deck" 1 2 F_law_deck) (cal_law_sound : Cal P w K mg base "_law_sound" 1 2 F_law_sound) (cal_mixed_works : Cal P w K mg base "mixed_works" 3 1 F_mixed_works) (cal_round_beat : Cal P w K mg base "round_beat" 2 1 F_round_beat) (cal_law_works : Cal P w K mg base "_law_works" 3 4 F_law_works) (cal_law_next : Cal P w K mg base "_law_next" 1 2 F_law_next) : BodyG P w K mg base 4 N_law (defScope zz_law) (defBody zz_law) [false] f_law := fun qual fA cdv s H E c => ⟨_, (fss_cons (fs_set 1 (fe_call c ⟨rfl, rfl, rfl⟩ cal_law_deck (by decide) (fa_cons (fe_var 0) fa_nil) (faCons_len faNil_len)) c)
    (fss_cons (fs_set 2 (fe_call c ⟨rfl, rfl, rfl⟩ cal_law_sound (by decide) (fa_cons (fe_call c ⟨rfl, rfl, rfl⟩ cal_law_works (by decide) (fa_name 1 (ve_var 1) (fa_cons fe_int (fa_cons fe_int fa_nil))) (faName_len (faCons_len (faCons_len faNil_len)))).fz fa_nil) (faCons_len faNil_len)).fz c)
    (fss_cons (fs_set 3 (fe_lst fa_nil) c)
    (fss_cons (fs_for c (fi_seqE c (fe_ixN c (ve_var 2) fe_int.ve (fun _ _ => rfl))) (fgn 4 c.nd) (fss_cons (fs_set 5 (fe_call c ⟨rfl, rfl, rfl⟩ cal_law_next (by decide) (fa_name 1 (ve_var 1) fa_nil) (faName_len faNil_len)).fz c)
    (fss_one (fs_expr (fe_append c 3 (ve_var 3) (fe_ix c (fe_lst (fa_cons fe_int (fa_cons (fe_op op_mod opMod (fe_opN op_divA opDiv (ve_var 5) fe_int.ve) (fe_op op_powA opPow fe_int fe_int.ve).ve).fz fa_nil))) (fe_int1 c m_int (fe_cmp op_gt opGt (fe_opN op_mod opMod (ve_var 5) fe_int.ve) fe_int.ve (nomark _)).ve).ve (fun _ _ => rfl)))))))
    (fss_cons (fs_set 3 (fe_tuple c m_tuple (ve_var 3)) c)
    (fss_cons (fs_set 6 (fe_tup (fa_cons (fe_op (c_add c) opAdd fe_int (fe_op op_mod opMod (fe_call c ⟨rfl, rfl, rfl⟩ cal_law_next (by decide) (fa_name 1 (ve_var 1) fa_nil) (faName_len faNil_len)) fe_int.ve).ve).fz (fa_cons (fe_op (c_add c) opAdd fe_int (fe_op op_mod opMod (fe_call c ⟨rfl, rfl, rfl⟩ cal_law_next (by decide) (fa_name 1 (ve_var 1) fa_nil) (faName_len faNil_len)) fe_int.ve).ve).fz fa_nil))) c)
    (fss_cons (fs_set 7 (fe_op op_mod opMod (fe_call c ⟨rfl, rfl, rfl⟩ cal_law_next (by decide) (fa_name 1 (ve_var 1) fa_nil) (faName_len faNil_len)) (fe_op op_powA opPow fe_int fe_int.ve).ve).fz c)
    (fss_cons (fs_set 8 (fe_lst fa_nil) c)
    (fss_cons (FS1.fzS 3 (fs_for c (fi_zip c m_zip (fe_ixN c (ve_var 2) fe_int.ve (fun _ _ => rfl)) (fe_var 3)) (fgt c (fgs_cons (fgn 4 c.nd) (fgs_cons (fgn 9 c.nd) fgs_nil)) (ftCons_len (ftCons_len ftNil_len))) (fss_one (fs_expr (fe_append c 8 (ve_var 8) (fe_tup (fa_cons (fe_ixN c (ve_var 4) fe_int.ve (fun _ _ => rfl)) (fa_cons (fe_sum c m_sum (fe_op (c_add c) opAdd (fe_op (c_mul c) opMul (fe_lst (fa_cons (fe_ixN c (ve_var 4) fe_int.ve (fun _ _ => rfl)) fa_nil)) (fe_ixN c (ve_var 6) fe_int.ve (fun _ _ => rfl)).ve) (fe_op (c_mul c) opMul (fe_lst (fa_cons (fe_var 9) fa_nil)) (fe_ixN c (ve_var 6) fe_int.ve (fun _ _ => rfl)).ve).ve).ve) (fa_cons (fe_ixN c (ve_var 4) fe_int.ve (fun _ _ => rfl)) fa_nil)))))))))
    (fss_cons (fs_set 10 (fe_repr c rfl m_repr (ve_var 2)).fz c)
    (fss_cons (fs_set 11 (fe_call c ⟨rfl, rfl, rfl⟩ cal_mixed_works (by decide) (fa_cons (fe_var 2) (fa_name 3 (ve_var 3) (fa_cons (fe_var 6) fa_nil))) (faCons_len (faName_len (faCons_len faNil_len)))).fz c)
    (fss_cons (fs_if ((fw_or (ft_not (ft_val (fe_isi (T := "tuple") c m_isinstance m_tuple (by decide +kernel) (by decide) (ve_var 11)))) (fw_or (ft_cmpN (c_ne c) opNe (ve_var 11) (fe_op (c_add c) opAdd (fe_tup (fa_cons (fe_tuple c m_tuple (ve_var 8)) fa_nil)) (fe_slN c 2 (ve_var 2) (fo_some fe_int) fo_none).ve).ve (nomark _)) (fw_or1 (ft_cmp op_ne opNeT (fe_repr c rfl m_repr (ve_var 2)) (ve_var 10) (nomark _)))))).ft (fss_one (fs_ret fe_bl)) fss_nil)
    (fss_cons (fs_set 12 (fe_call c ⟨rfl, rfl, rfl⟩ cal_round_beat (by decide) (fa_cons (fe_var 7) (fa_cons (fe_var 6) fa_nil)) (faCons_len (faCons_len faNil_len))).fz c)
    (fss_cons (fs_if ((fw_or (ft_not (ft_val (fe_isi (T := "int") c m_isinstance m_int (by decide +kernel) (by decide) (ve_var 12)))) (fw_or1 (ft_cmpN (c_ne c) opNe (ve_var 12) (fe_sum c m_sum (fe_op (c_mul c) opMul (fe_lst (fa_cons (fe_var 7) fa_nil)) (fe_op (c_add c) opAdd (fe_ixN c (ve_var 6) fe_int.ve (fun _ _ => rfl)) (fe_ixN c (ve_var 6) fe_int.ve (fun _ _ => rfl)).ve).ve).ve).ve (nomark _))))).ft (fss_one (fs_ret fe_bl)) fss_nil)
    (fss_one (fs_ret (fe_cmp op_eq opEqT (fe_repr c rfl m_repr (fe_ixN c (ve_var 11) fe_int.ve (fun _ _ => rfl)).ve) (fe_repr c rfl m_repr (fe_tuple c m_tuple (ve_var 8)).ve).ve (nomark _))))))))))))))))))⟩
end T3
set_option Elab.async false
set_option linter.all false
set_option maxRecDepth 100000
set_option maxHeartbeats 0
namespace T3
open PySem PySem.Spec PyProof.Rows L2
theorem hlam {K : PySem.W.Frag} (c : He.SaysD hfa hfn K) : ∀ q ∈ lamT K, ∃ p ∈ htf, (He.cT K p).2 = q.1 := lamT_ok (.inr (He.eqO_ok (c.fact 15 (f := .free "Ground") rfl))) (.inr (He.eqO_ok (c.fact 16 (f := .free "_law_put_in") rfl)))
theorem hd_m_all {K : PySem.W.Frag} {h : Heap} {mg : Str → Option Value} (X : K.In h) (G : h.Ns mainGlobals mg) (c : He.SaysD hfa hfn K) (hx : hex K = true) : mg "all" = none := He.free_ok X G (c.fact 17 (f := .free "all") rfl)
theorem hd_m_any {K : PySem.W.Frag} {h : Heap} {mg : Str → Option Value} (X : K.In h) (G : h.Ns mainGlobals mg) (c : He.SaysD hfa hfn K) (hx : hex K = true) : mg "any" = none := He.free_ok X G (c.fact 18 (f := .free "any") rfl)
theorem hd_m_enumerate {K : PySem.W.Frag} {h : Heap} {mg : Str → Option Value} (X : K.In h) (G : h.Ns mainGlobals mg) (c : He.SaysD hfa hfn K) (hx : hex K = true) : mg "enumerate" = none := He.free_ok X G (c.fact 19 (f := .free "enumerate") rfl)
theorem hd_m_int {K : PySem.W.Frag} {h : Heap} {mg : Str → Option Value} (X : K.In h) (G : h.Ns mainGlobals mg) (c : He.SaysD hfa hfn K) (hx : hex K = true) : mg "int" = none := He.free_ok X G (c.fact 20 (f := .free "int") rfl)
theorem hd_m_isinstance {K : PySem.W.Frag} {h : Heap} {mg : Str → Option Value} (X : K.In h) (G : h.Ns mainGlobals mg) (c : He.SaysD hfa hfn K) (hx : hex K = true) : mg "isinstance" = none := He.free_ok X G (c.fact 21 (f := .free "isinstance") rfl)
theorem hd_m_len {K : PySem.W.Frag} {h : Heap} {mg : Str → Option Value} (X : K.In h) (G : h.Ns mainGlobals mg) (c : He.SaysD hfa hfn K) (hx : hex K = true) : mg "len" = none := He.free_ok X G (c.fact 22 (f := .free "len") rfl)
theorem hd_m_list {K : PySem.W.Frag} {h : Heap} {mg : Str → Option Value} (X : K.In h) (G : h.Ns mainGlobals mg) (c : He.SaysD hfa hfn K) (hx : hex K = true) : mg "list" = none := He.free_ok X G (c.fact 23 (f := .free "list") rfl)
theorem hd_m_range {K : PySem.W.Frag} {h : Heap} {mg : Str → Option Value} (X : K.In h) (G : h.Ns mainGlobals mg) (c : He.SaysD hfa hfn K) (hx : hex K = true) : mg "range" = none := He.free_ok X G (c.fact 24 (f := .free "range") rfl)
theorem hd_m_repr {K : PySem.W.Frag} {h : Heap} {mg : Str → Option Value} (X : K.In h) (G : h.Ns mainGlobals mg) (c : He.SaysD hfa hfn K) (hx : hex K = true) : mg "repr" = none := He.free_ok X G (c.fact 25 (f := .free "repr") rfl)
theorem hd_m_sum {K : PySem.W.Frag} {h : Heap} {mg : Str → Option Value} (X : K.In h) (G : h.Ns mainGlobals mg) (c : He.SaysD hfa hfn K) (hx : hex K = true) : mg "sum" = none := He.free_ok X G (c.fact 26 (f := .free "sum") rfl)
theorem hd_m_tuple {K : PySem.W.Frag} {h : Heap} {mg : Str → Option Value} (X : K.In h) (G : h.Ns mainGlobals mg) (c : He.SaysD hfa hfn K) (hx : hex K = true) : mg "tuple" = none := He.free_ok X G (c.fact 27 (f := .free "tuple") rfl)
theorem hd_m_zip {K : PySem.W.Frag} {h : Heap} {mg : Str → Option Value} (X : K.In h) (G : h.Ns mainGlobals mg) (c : He.SaysD hfa hfn K) (hx : hex K = true) : mg "zip" = none := He.free_ok X G (c.fact 28 (f := .free "zip") rfl)
theorem hd_cal_law_wide {P : Program} {w : World} {K : PySem.W.Frag} {h : Heap} {mg : Str → Option Value} (X : K.In h) (G : h.Ns mainGlobals mg) (c : He.SaysD hfa hfn K) (hx : hex K = true) : ∀ base, Cal P w K mg base "_law_wide" 1 1 F_law_wide := by
  obtain ⟨fd_law_wide, D_law_wide⟩ := c.def_ 0 (d := dd_law_wide) rfl
  exact fun base => cal_of (P := P) (w := w) (base := base) D_law_wide sc_law_wide rfl rfl (He.glo_ok X G (c.fact 0 (f := .glo "_law_wide") rfl)) (D_law_wide.bindsN fun _ _ _ _ _ _ us hl => match us, hl with | [_], _ => rfl) (b_law_wide (hd_m_range X G c hx))
theorem hd_cal_law_deck {P : Program} {w : World} {K : PySem.W.Frag} {h : Heap} {mg : Str → Option Value} (X : K.In h) (G : h.Ns mainGlobals mg) (c : He.SaysD hfa hfn K) (hx : hex K = true) : ∀ base, Cal P w K mg base "_law_deck" 1 2 F_law_deck := by
  obtain ⟨fd_law_deck, D_law_deck⟩ := c.def_ 1 (d := dd_law_deck) rfl
  exact fun base => cal_of (P := P) (w := w) (base := base) D_law_deck sc_law_deck rfl rfl (He.glo_ok X G (c.fact 1 (f := .glo "_law_deck") rfl)) (D_law_deck.bindsN fun _ _ _ _ _ _ us hl => match us, hl with | [_], _ => rfl) (b_law_deck (hd_m_list X G c hx) (hd_m_sum X G c hx) ((hd_cal_law_wide (P := P) (w := w) X G c hx) base))
theorem hd_cal_law_reach {P : Program} {w : World} {K : PySem.W.Frag} {h : Heap} {mg : Str → Option Value} (X : K.In h) (G : h.Ns mainGlobals mg) (c : He.SaysD hfa hfn K) (hx : hex K = true) : ∀ base, Cal P w K mg base "_law_reach" 2 1 F_law_reach := by
  obtain ⟨fd_law_reach, D_law_reach⟩ := c.def_ 2 (d := dd_law_reach) rfl
  exact fun base => cal_of (P := P) (w := w) (base := base) D_law_reach sc_law_reach rfl rfl (He.glo_ok X G (c.fact 2 (f := .glo "_law_reach") rfl)) (D_law_reach.bindsN fun _ _ _ _ _ _ us hl => match us, hl with | [_, _], _ => rfl) (b_law_reach)
theorem hd_cal_law_at {P : Program} {w : World} {K : PySem.W.Frag} {h : Heap} {mg : Str → Option Value} (X : K.In h) (G : h.Ns mainGlobals mg) (c : He.SaysD hfa hfn K) (hx : hex K = true) : ∀ base, Cal P w K mg base "_law_at" 2 1 F_law_at := by
  obtain ⟨fd_law_at, D_law_at⟩ := c.def_ 3 (d := dd_law_at) rfl
  exact fun base => cal_of (P := P) (w := w) (base := base) D_law_at sc_law_at rfl rfl (He.glo_ok X G (c.fact 3 (f := .glo "_law_at") rfl)) (D_law_at.bindsN fun _ _ _ _ _ _ us hl => match us, hl with | [_, _], _ => rfl) (b_law_at (hd_m_all X G c hx))
theorem hd_cal_law_sound {P : Program} {w : World} {K : PySem.W.Frag} {h : Heap} {mg : Str → Option Value} (X : K.In h) (G : h.Ns mainGlobals mg) (c : He.SaysD hfa hfn K) (hx : hex K = true) : ∀ base, Cal P w K mg base "_law_sound" 1 2 F_law_sound := by
  obtain ⟨fd_law_sound, D_law_sound⟩ := c.def_ 4 (d := dd_law_sound) rfl
  exact fun base => cal_of (P := P) (w := w) (base := base) D_law_sound sc_law_sound rfl rfl (He.glo_ok X G (c.fact 4 (f := .glo "_law_sound") rfl)) (D_law_sound.bindsN fun _ _ _ _ _ _ us hl => match us, hl with | [_], _ => rfl) (b_law_sound (hd_m_any X G c hx) (hd_m_tuple X G c hx) ((hd_cal_law_reach (P := P) (w := w) X G c hx) base) ((hd_cal_law_at (P := P) (w := w) X G c hx) base))
theorem hd_cal_mixed_works {P : Program} {w : World} {K : PySem.W.Frag} {h : Heap} {mg : Str → Option Value} (X : K.In h) (G : h.Ns mainGlobals mg) (c : He.SaysD hfa hfn K) (hx : hex K = true) : ∀ base, Cal P w K mg base "mixed_works" 3 1 F_mixed_works := by
  obtain ⟨fd_mixed_works, D_mixed_works⟩ := c.def_ 5 (d := dd_mixed_works) rfl
  exact fun base => cal_of (P := P) (w := w) (base := base) D_mixed_works sc_mixed_works rfl rfl (He.glo_ok X G (c.fact 5 (f := .glo "mixed_works") rfl)) (D_mixed_works.bindsN fun _ _ _ _ _ _ us hl => match us, hl with | [_, _, _], _ => rfl) (b_mixed_works (hd_m_tuple X G c hx) (hd_m_zip X G c hx))
theorem hd_cal_round_beat {P : Program} {w : World} {K : PySem.W.Frag} {h : Heap} {mg : Str → Option Value} (X : K.In h) (G : h.Ns mainGlobals mg) (c : He.SaysD hfa hfn K) (hx : hex K = true) : ∀ base, Cal P w K mg base "round_beat" 2 1 F_round_beat := by
  obtain ⟨fd_round_beat, D_round_beat⟩ := c.def_ 6 (d := dd_round_beat) rfl
  exact fun base => cal_of (P := P) (w := w) (base := base) D_round_beat sc_round_beat rfl rfl (He.glo_ok X G (c.fact 6 (f := .glo "round_beat") rfl)) (D_round_beat.bindsN fun _ _ _ _ _ _ us hl => match us, hl with | [_, _], _ => rfl) (b_round_beat)
theorem hd_cal_law_next {P : Program} {w : World} {K : PySem.W.Frag} {h : Heap} {mg : Str → Option Value} (X : K.In h) (G : h.Ns mainGlobals mg) (c : He.SaysD hfa hfn K) (hx : hex K = true) : ∀ base, Cal P w K mg base "_law_next" 1 2 F_law_next := by
  obtain ⟨fd_law_next, D_law_next⟩ := c.def_ 7 (d := dd_law_next) rfl
  exact fun base => cal_of (P := P) (w := w) (base := base) D_law_next sc_law_next rfl rfl (He.glo_ok X G (c.fact 7 (f := .glo "_law_next") rfl)) (D_law_next.bindsN fun _ _ _ _ _ _ us hl => match us, hl with | [_], _ => rfl) (b_law_next ((hd_cal_law_wide (P := P) (w := w) X G c hx) base))
theorem hd_cal_law_names {P : Program} {w : World} {K : PySem.W.Frag} {h : Heap} {mg : Str → Option Value} (X : K.In h) (G : h.Ns mainGlobals mg) (c : He.SaysD hfa hfn K) (hx : hex K = true) : ∀ base, Cal P w K mg base "_law_names" 2 1 F_law_names := by
  obtain ⟨fd_law_names, D_law_names⟩ := c.def_ 8 (d := dd_law_names) rfl
  exact fun base => cal_of (P := P) (w := w) (base := base) D_law_names sc_law_names rfl rfl (He.glo_ok X G (c.fact 8 (f := .glo "_law_names") rfl)) (D_law_names.bindsN fun _ _ _ _ _ _ us hl => match us, hl with | [_, _], _ => rfl) (b_law_names (hd_m_range X G c hx))
theorem hd_cal_law_tasks {P : Program} {w : World} {K : PySem.W.Frag} {h : Heap} {mg : Str → Option Value} (X : K.In h) (G : h.Ns mainGlobals mg) (c : He.SaysD hfa hfn K) (hx : hex K = true) : ∀ base, Cal P w K mg base "_law_tasks" 4 3 F_law_tasks := by
  obtain ⟨fd_law_tasks, D_law_tasks⟩ := c.def_ 9 (d := dd_law_tasks) rfl
  exact fun base => cal_of (P := P) (w := w) (base := base) D_law_tasks sc_law_tasks rfl rfl (He.glo_ok X G (c.fact 9 (f := .glo "_law_tasks") rfl)) (D_law_tasks.bindsN fun _ _ _ _ _ _ us hl => match us, hl with | [_, _, _, _], _ => rfl) (b_law_tasks (hd_m_int X G c hx) (hd_m_len X G c hx) (hd_m_range X G c hx) (hd_m_tuple X G c hx) ((hd_cal_law_next (P := P) (w := w) X G c hx) base))
theorem hd_cal_law_orders {P : Program} {w : World} {K : PySem.W.Frag} {h : Heap} {mg : Str → Option Value} (X : K.In h) (G : h.Ns mainGlobals mg) (c : He.SaysD hfa hfn K) (hx : hex K = true) : ∀ base, Cal P w K mg base "_law_orders" 3 1 F_law_orders := by
  obtain ⟨fd_law_orders, D_law_orders⟩ := c.def_ 10 (d := dd_law_orders) rfl
  exact fun base => cal_of (P := P) (w := w) (base := base) D_law_orders sc_law_orders rfl rfl (He.glo_ok X G (c.fact 10 (f := .glo "_law_orders") rfl)) (D_law_orders.bindsN fun _ _ _ _ _ _ us hl => match us, hl with | [_, _, _], _ => rfl) (b_law_orders (hd_m_enumerate X G c hx))
theorem hd_cal_law_pairs {P : Program} {w : World} {K : PySem.W.Frag} {h : Heap} {mg : Str → Option Value} (X : K.In h) (G : h.Ns mainGlobals mg) (c : He.SaysD hfa hfn K) (hx : hex K = true) : ∀ base, Cal P w K mg base "_law_pairs" 4 1 F_law_pairs := by
  obtain ⟨fd_law_pairs, D_law_pairs⟩ := c.def_ 11 (d := dd_law_pairs) rfl
  exact fun base => cal_of (P := P) (w := w) (base := base) D_law_pairs sc_law_pairs rfl rfl (He.glo_ok X G (c.fact 11 (f := .glo "_law_pairs") rfl)) (D_law_pairs.bindsN fun _ _ _ _ _ _ us hl => match us, hl with | [_, _, _, _], _ => rfl) (b_law_pairs (hd_m_int X G c hx) (hd_m_len X G c hx) (hd_m_range X G c hx) (hd_m_tuple X G c hx))
theorem hd_cal_law_turn {P : Program} {w : World} {K : PySem.W.Frag} {h : Heap} {mg : Str → Option Value} (X : K.In h) (G : h.Ns mainGlobals mg) (c : He.SaysD hfa hfn K) (hx : hex K = true) : ∀ base, Cal P w K mg base "_law_turn" 2 1 F_law_turn := by
  obtain ⟨fd_law_turn, D_law_turn⟩ := c.def_ 12 (d := dd_law_turn) rfl
  exact fun base => cal_of (P := P) (w := w) (base := base) D_law_turn sc_law_turn rfl rfl (He.glo_ok X G (c.fact 12 (f := .glo "_law_turn") rfl)) (D_law_turn.bindsN fun _ _ _ _ _ _ us hl => match us, hl with | [_, _], _ => rfl) (b_law_turn (hd_m_len X G c hx) (hd_m_list X G c hx) (hd_m_range X G c hx))
theorem hd_cal_law_works {P : Program} {w : World} {K : PySem.W.Frag} {h : Heap} {mg : Str → Option Value} (X : K.In h) (G : h.Ns mainGlobals mg) (c : He.SaysD hfa hfn K) (hx : hex K = true) : ∀ base, Cal P w K mg base "_law_works" 3 4 F_law_works := by
  obtain ⟨fd_law_works, D_law_works⟩ := c.def_ 13 (d := dd_law_works) rfl
  exact fun base => cal_of (P := P) (w := w) (base := base) D_law_works sc_law_works rfl rfl (He.glo_ok X G (c.fact 13 (f := .glo "_law_works") rfl)) (D_law_works.bindsN fun _ _ _ _ _ _ us hl => match us, hl with | [_, _, _], _ => rfl) (b_law_works (hd_m_int X G c hx) (hd_m_len X G c hx) (hd_m_range X G c hx) (hd_m_tuple X G c hx) ((hd_cal_law_next (P := P) (w := w) X G c hx) base) ((hd_cal_law_names (P := P) (w := w) X G c hx) base) ((hd_cal_law_tasks (P := P) (w := w) X G c hx) base) ((hd_cal_law_orders (P := P) (w := w) X G c hx) base) ((hd_cal_law_pairs (P := P) (w := w) X G c hx) base) ((hd_cal_law_turn (P := P) (w := w) X G c hx) base))
theorem hfacts {P : Program} {w : World} {K : PySem.W.Frag} {h : Heap} {mg : Str → Option Value} {f : Addr} (X : K.In h) (G : h.Ns mainGlobals mg) (hlaw : mg ("law" : Str) = some (.ref f)) (c : He.SaysD hfa hfn K) (hx : hex K = true) :
    ∃ fd : FuncData, (∀ (s : Shared) (v : Value), BindsTo s fd ⟨[v], []⟩ [("_law_script", v)]) ∧ ∀ base : Heap, K.In base → base.Ns mainGlobals mg → (∀ p ∈ htf, LamX.TabB base mg (He.cT K p).1 (He.cT K p).2) → AtTop P w K mg base f fd ["_law_script"] (SpF K mg 1 F_law) := by
  obtain ⟨fd_law, D_law⟩ := c.def_ 14 (d := dd_law) rfl
  have e := hlaw.symm.trans (He.glo_ok X G (c.fact 14 (f := .glo "law") rfl))
  cases e
  have b := FunD.bindsA (ps := ["_law_script"]) D_law fun _ _ _ _ _ _ us hl => match us, hl with | [_], _ => rfl
  exact ⟨fd_law, fun s v => b s [v] rfl, fun base _ _ _ => def_okG D_law sc_law rfl rfl ⟨rfl, by decide, by decide⟩ (b_law (hd_m_int X G c hx) (hd_m_isinstance X G c hx) (hd_m_repr X G c hx) (hd_m_sum X G c hx) (hd_m_tuple X G c hx) (hd_m_zip X G c hx) ((hd_cal_law_deck (P := P) (w := w) X G c hx) base) ((hd_cal_law_sound (P := P) (w := w) X G c hx) base) ((hd_cal_mixed_works (P := P) (w := w) X G c hx) base) ((hd_cal_round_beat (P := P) (w := w) X G c hx) base) ((hd_cal_law_works (P := P) (w := w) X G c hx) base) ((hd_cal_law_next (P := P) (w := w) X G c hx) base))⟩
end T3
set_option maxHeartbeats 4000000
namespace T3
open PySem PySem.Spec PyProof.Rows L2
local macro_rules | `(tactic| walk_at "t3") => `(tactic| first
  | refine Stp.imp ?_
  | with_reducible refine st_go (by first | (dsimp only [set_z, set_s, maps_cons, maps_nil, rst_nmN, rst_val, rst_nil, outs_t, outs_f, outs_n, wipe_n, wipe_c, rst_lst, rst_dK, rst_dT, rst_ins, rst_lstF, rst_dKF, rst_dTF, rst_insF, rst_tup, rst_int, rst_str, rst_bl, rst_non, frzE_lst, frzE_dK, frzE_dT, frzE_ins, frzE_lstF, frzE_dKF, frzE_dTF, frzE_insF, frzE_tup, frzE_int, frzE_str, frzE_bl, frzE_non, List.replicate_succ, List.replicate_zero, List.cons_append, List.nil_append]; done) | (dsimp only [set_z, set_s, maps_cons, maps_nil, rst_nmN, rst_val, rst_nil, outs_t, outs_f, outs_n, wipe_n, wipe_c, rst_lst, rst_dK, rst_dT, rst_ins, rst_lstF, rst_dKF, rst_dTF, rst_insF, rst_tup, rst_int, rst_str, rst_bl, rst_non, frzE_lst, frzE_dK, frzE_dT, frzE_ins, frzE_lstF, frzE_dKF, frzE_dTF, frzE_insF, frzE_tup, frzE_int, frzE_str, frzE_bl, frzE_non, List.replicate_succ, List.replicate_zero, List.cons_append, List.nil_append]; exact rfl) | exact rfl) ?_
  | with_reducible refine br_t (by first | decide | fail) ?_
  | with_reducible refine br_f (by first | decide | fail) ?_
  | ((with_reducible refine o_mod ?hc ?_); (case hc => first | decide | omega | (simp; omega) | fail))
  | ((with_reducible refine o_mul ?hc ?_); (case hc => first | exact mul_c1 (by decide) | exact mul_c0 (by decide) | exact mul_c1 (by omega) | exact mul_c0 (by omega) | fail))
  | ((with_reducible refine o_div ?hc ?_); (case hc => first | exact div_ok (by decide) (by decide) | exact div_ok (by omega) (by omega) | exact div_shl (by decide) (by decide) (by omega) | exact div_ok (by simp; omega) (by simp; omega) | fail))
  | ((with_reducible refine o_pow ?hc ?_); (case hc => first | decide | exact pow_ok (by omega) (by omega) (by decide) | fail))
  | ((with_reducible refine o_shl ?hc ?_); (case hc => first | decide | exact pow_ok (by omega) (by omega) (by decide) | fail))
  | ((with_reducible refine o_shr ?hc ?_); (case hc => first | decide | omega | fail))
  | with_reducible refine w_var (by with_unfolding_all rfl) (by first | with_unfolding_all rfl | assumption) ?_
  | with_reducible refine res_nm (by with_unfolding_all rfl) (by with_unfolding_all rfl) ?_
  | ((with_reducible refine and2 ?h1 ?h2 ?_); (case h1 => first | rfl | decide | omega | fail); (case h2 => first | decide | omega | (simp [sizeLine]; done) | (simp [sizeLine]; omega) | fail))
  | ((with_reducible refine and4 ?h1 ?h2 ?h3 ?h4 ?_); (case h1 => first | decide | omega | fail); (case h2 => first | decide | omega | fail); (case h3 => first | decide | omega | fail); (case h4 => first | decide | omega | fail))
  | (with_reducible rw [cut_tail])
  | ((with_reducible refine o_appendM ?hc ?_); (case hc => first | (simp [sizeLine]; done) | (simp [sizeLine]; omega) | fail))
  | ((with_reducible refine o_addL ?hc ?_); (case hc => first | exact ⟨by decide, by decide, by simp [cutD, sizeLine]; omega⟩ | fail))
  | with_reducible exact ss_rfl
  | fail)
local macro_rules | `(tactic| walk_at "t4") => `(tactic| first
  | walk_at "t3"
  | refine Stp4.imp ?_
  | fail)
structure Sh (d : D) (n b : Nat) : Prop where
  ex : ∃ p, toPy d = some p ∧ (p.showable = true ∧ p.hasDict = false ∧ p.leavesShort 80 = true) ∧ p.depth ≤ n ∧ p.bulk ≤ b
theorem Sh.more {d : D} {n b n' b' : Nat} (h : Sh d n b) (hn : n ≤ n') (hb : b ≤ b') : Sh d n' b' := by
  obtain ⟨p, h1, h2, h3, h4⟩ := h.ex
  exact ⟨p, h1, h2, by omega, by omega⟩
theorem sh_int {i : Int} (h0 : 0 ≤ i) (h : i < 10 ^ 70) : Sh (.int i) 0 0 := by
  refine ⟨.int i, rfl, ⟨?_, rfl, ?_⟩, Nat.le_refl _, Nat.le_refl _⟩
  · have h2 : i.natAbs < 2 ^ 1920 := by
      have : (10 : Int) ^ 70 ≤ ((2 ^ 1920 : Nat) : Int) := by decide +kernel
      omega
    have : i.natAbs.log2 < 1920 := by
      by_cases e : i.natAbs = 0
      · rw [e]; decide
      · exact (Nat.log2_lt e).mpr h2
    simpa [PyData.showable] using this
  · have h1 : (Str.ofString (toString i)).length ≤ 70 := PyProof.Rows.toString_length_le h0 (by decide) h
    have : (PyData.shown (.int i)).length ≤ 80 := Nat.le_trans h1 (by decide)
    simpa [PyData.leavesShort] using this
theorem sh_str {s : Str} (h : s.length ≤ 8) (hs : PySem.PyData.strOk s = true) : Sh (.str s) 0 8 := by
  refine ⟨.str s, rfl, ⟨rfl, rfl, ?_⟩, Nat.le_refl _, h⟩
  unfold PyData.leavesShort
  rw [List.all_eq_true]
  intro c hc
  unfold PyData.strOk at hs
  rw [Array.all_eq_true'] at hs
  have := of_decide_eq_true (hs c (by simpa using hc))
  exact decide_eq_true (by omega)
theorem sh_list {n b : Nat} : ∀ {xs : List D}, (∀ x ∈ xs, Sh x n b) → ∃ ps, toPyL xs = some ps ∧ (PyData.showableAll ps = true ∧ PyData.hasDictAll ps = false ∧ PyData.leavesShortAll 80 ps = true) ∧ PyData.depthAll ps ≤ n ∧ PyData.bulkAll ps ≤ xs.length * (b + 1)
  | [], _ => ⟨[], rfl, ⟨rfl, rfl, rfl⟩, Nat.zero_le _, Nat.zero_le _⟩
  | x :: xs, h => by
    obtain ⟨p, h1, ⟨h2, h3, h4⟩, h5, h6⟩ := (h x (by simp)).ex
    obtain ⟨ps, g1, ⟨g2, g3, g4⟩, g5, g6⟩ := sh_list fun y hy => h y (List.mem_cons_of_mem _ hy)
    refine ⟨p :: ps, by simp [toPyL, h1, g1], ⟨by simp [PyData.showableAll, h2, g2], by simp [PyData.hasDictAll, h3, g3], by simp [PyData.leavesShortAll, h4, g4]⟩, ?_, ?_⟩
    · simp only [PyData.depthAll]
      omega
    · simp only [PyData.bulkAll, List.length_cons]
      rw [Nat.succ_mul]
      omega
theorem sh_tup {xs : List D} {n b m : Nat} (h : ∀ x ∈ xs, Sh x n b) (hl : xs.length ≤ m) : Sh (.tup xs) (n + 1) (m * (b + 1)) := by
  obtain ⟨ps, g1, ⟨g2, g3, g4⟩, g5, g6⟩ := sh_list h
  have : xs.length * (b + 1) ≤ m * (b + 1) := Nat.mul_le_mul_right _ hl
  refine ⟨.tuple ps, by simp [toPy, g1], ⟨by simpa [PyData.showable] using g2, by simpa [PyData.hasDict] using g3, by simpa [PyData.leavesShort] using g4⟩, ?_, ?_⟩
  · simp only [PyData.depth]
    omega
  · simp only [PyData.bulk]
    omega
theorem Sh.repr {xs : List D} {n b : Nat} (h : Sh (.tup xs) n b) (hn : n ≤ 60) (hb : 82 * b + 80 ≤ sizeLine) : ∃ s, gRepr (.tup xs) = some (.str s) := by
  obtain ⟨p, h1, ⟨h2, h3, h4⟩, h5, h6⟩ := h.ex
  simp only [toPy, Option.map_eq_some_iff] at h1
  obtain ⟨ps, g1, rfl⟩ := h1
  have hs := PyData.shown_le_bulk 80 (by decide) (.tuple ps) h4
  have hm : 82 * (PyData.tuple ps).bulk ≤ 82 * b := Nat.mul_le_mul_left _ h6
  have ok : shOk (.tuple ps) = true := by
    unfold shOk
    rw [h2, h3]
    simp only [Bool.not_false, Bool.true_and, decide_eq_true_eq]
    exact ⟨by omega, by omega⟩
  refine ⟨(PyData.tuple ps).shown, ?_⟩
  show ((toPyL xs).bind fun ps => if shOk (.tuple ps) = true then some (D.str (PyData.tuple ps).shown) else none) = _
  rw [g1]
  show (if shOk (.tuple ps) = true then some (D.str (PyData.tuple ps).shown) else none) = _
  rw [if_pos ok]
section
variable {x y : Nat → Int} {n : Nat}
end
section
variable {us : List Bool} {a b beat : Int}
end
section
variable {P : D → SS → Prop} {E : D → SS → Prop}
end
def in1 (zs : List (Tk × Int)) (st : List Str) : Int := ((zs.filter fun z => decide (z.1.name ∈ st)).map fun z => z.1.len).sum
def otD (zs : List (Tk × Int)) : D := .tup ((zs.map (·.2)).map D.int)
theorem zip_zs (zs : List (Tk × Int)) : zipD ((zs.map (·.1)).map tkD) ((zs.map (·.2)).map D.int) = zs.map fun z => D.tup [tkD z.1, .int z.2] := by
  unfold zipD
  induction zs with
  | nil => rfl
  | cons z zs ih => simp only [List.map_cons, List.zip_cons_cons]; rw [← ih]
section
variable {P : D → SS → Prop} {E : D → SS → Prop}
variable {zs : List (Tk × Int)} {os : List (Str × Str)} {qs : List Pr} {row : List Str} {st : List Str} {beat : Int}
end
section
variable {P : D → SS → Prop} {E : D → SS → Prop}
variable {zs : List (Tk × Int)} {os : List (Str × Str)} {qs : List Pr} {row : List Str} {st : List Str} {beat : Int}
theorem s_round_beat {m0 m1 : Nat} (h0 : m0 ≤ 1000) (h1 : m1 ≤ 1000) (p : P (.int (beat * ((m0 : Int) + m1))) [none, none]) : (F_round_beat [.int beat, .tup [.int (m0 : Nat), .int (m1 : Nat)]]).ps P E := by
  unfold F_round_beat
  refine w_run ?_
  unfold f_round_beat
  repeat' walk_at "t3"
  exact p
end
section
variable {P : D → SS → Prop} {E : D → SS → Prop}
variable {zs : List (Tk × Int)} {os : List (Str × Str)} {qs : List Pr} {row : List Str} {st : List Str} {beat : Int} {us : List Bool}
end
def wsum (f : Nat → Bool) : Nat → Int
  | 0 => 0
  | n + 1 => wsum f n + if f n then 2 ^ n else 0
section
variable {P : D → SS → Prop} {E : D → SS → Prop}
end
def mk (ss : List Str) (M : Str → Bool) : Nat → Bool := fun i => (ss[i]?.map M).getD false
abbrev nb (ss : List Str) (M : Str → Bool) : Int := wsum (mk ss M) ss.length
section
variable {ss : List Str} {M N : Str → Bool}
end
section
variable {P : D → SS → Prop} {E : D → SS → Prop}
end
section
variable {P : D → SS → Prop} {E : D → SS → Prop}
abbrev rl (ls : List (Str × Str)) (a b : Str) : Prop := (a, b) ∈ ls
end
section
variable {P : D → SS → Prop} {E : D → SS → Prop}
noncomputable def grB (r : Str → Str → Prop) (a b : Str) : Bool := @decide (b = a ∨ (r a b ∧ r b a)) (Classical.propDecidable _)
noncomputable abbrev grp (r : Str → Str → Prop) (ss : List Str) (a : Str) : List Str := ss.filter (grB r a)
end
section
variable {P : D → SS → Prop} {E : D → SS → Prop}
noncomputable def ahB (r : Str → Str → Prop) (t x : Str) : Bool := @decide (r x t ∧ ¬ r t x) (Classical.propDecidable _)
end
section
variable {P : D → SS → Prop} {E : D → SS → Prop}
structure DlIn (dl : List (List Str)) : Prop where
  ok : ∀ s ∈ dl.flatten, PySem.PyData.strOk s = true
  len : dl.length ≤ 1000
  fl : dl.flatten.length ≤ 1000
theorem DlIn.st {dl : List (List Str)} (h : DlIn dl) {st : List Str} (m : st ∈ dl) : (∀ s ∈ st, PySem.PyData.strOk s = true) ∧ st.length ≤ 1000 := by
  refine ⟨fun s hs => h.ok s (List.mem_flatten.mpr ⟨st, m, hs⟩), ?_⟩
  have := (List.sublist_flatten_of_mem m).length_le
  have := h.fl
  omega
end
abbrev gpD (o : Tg) (g : List Str) (own ahead foes len : Int) : D := .ins o "Group" [("tasks", .tup (g.map D.str)), ("own", .int own), ("ahead", .int ahead), ("foes", .int foes), ("length", .int len)]
def foeB (qs : List Pr) (g : List Str) (s : Str) : Bool := qs.any fun q => !q.w && ((decide (q.a ∈ g) && decide (s = q.b)) || (decide (q.b ∈ g) && decide (s = q.a)))
section
variable {P : D → SS → Prop} {E : D → SS → Prop}
end
noncomputable def gD (ss : List Str) (ts : List Tk) (qs : List Pr) (r : Str → Str → Prop) (g : List Str) : D := gpD .fz g (nb ss fun s => decide (s ∈ g)) (nb ss (ahB r (g.headD ""))) (nb ss (foeB qs g)) (g.map (lenOf ts)).sum
instance i_fzgD {ss : List Str} {ts : List Tk} {qs : List Pr} {r : Str → Str → Prop} {g : List Str} : FzT (gD ss ts qs r g) := ⟨rfl⟩
section
variable {ss : List Str} {ts : List Tk} {qs : List Pr} {r : Str → Str → Prop} {g : List Str} {R : D → Prop}
instance i_gD1 : Stp (gv (gFld ["Group"] "tasks" (gD ss ts qs r g)) R) (R (.tup (g.map D.str))) := ⟨fun p => ⟨_, by kernel_rfl, p⟩⟩
instance i_gD2 : Stp (gv (gFld ["Group"] "own" (gD ss ts qs r g)) R) (R (.int (nb ss fun s => decide (s ∈ g)))) := ⟨fun p => ⟨_, by kernel_rfl, p⟩⟩
instance i_gD3 : Stp (gv (gFld ["Group"] "ahead" (gD ss ts qs r g)) R) (R (.int (nb ss (ahB r (g.headD ""))))) := ⟨fun p => ⟨_, by kernel_rfl, p⟩⟩
instance i_gD4 : Stp (gv (gFld ["Group"] "foes" (gD ss ts qs r g)) R) (R (.int (nb ss (foeB qs g)))) := ⟨fun p => ⟨_, by kernel_rfl, p⟩⟩
instance i_gD5 : Stp (gv (gFld ["Group"] "length" (gD ss ts qs r g)) R) (R (.int (g.map (lenOf ts)).sum)) := ⟨fun p => ⟨_, by kernel_rfl, p⟩⟩
instance i_gDm {P E : D → SS → Prop} {F : List D → Rs D} {fr : Fa} {S : SS} : Stp (methK "Group" "may_join" F fr P E (gD ss ts qs r g) S) ((fr S).ps (fun as S2 => resK as S2 fun ds S3 => (F (gD ss ts qs r g :: ds)).ps (fun r o => tlK as S3 P r o) fun _ _ => False) E) := ⟨fun p => ⟨⟨rfl, by kernel_rfl⟩, p⟩⟩
end
section
variable {P : D → SS → Prop} {E : D → SS → Prop}
end
def atB (ts : List Tk) (kind s : Str) : Bool := decide ((tkOf ts s).kinds = []) || decide (kind ∈ (tkOf ts s).kinds)
section
variable {P : D → SS → Prop} {E : D → SS → Prop}
end
def leR (r : Str → Str → Prop) (a b : Str) : Prop := a = b ∨ r a b
def lsum (ts : List Tk) (ss : List Str) (M : Str → Bool) : Int := ((ss.filter M).map (lenOf ts)).sum
structure Fil (ss : List Str) (ts : List Tk) (qs : List Pr) (r : Str → Str → Prop) (beat : Int) (kind : Str) (dn M : Str → Bool) : Prop where
  grp : ∀ x ∈ ss, ∀ y ∈ ss, M x = true → leR r x y → leR r y x → M y = true
  knd : ∀ x ∈ ss, M x = true → atB ts kind x = true
  new : ∀ x ∈ ss, M x = true → dn x = false
  ahd : ∀ x ∈ ss, ∀ y ∈ ss, M x = true → leR r y x → ¬ leR r x y → dn y = true ∨ M y = true
  apt : ∀ q ∈ qs, q.w = false → M q.a = true → M q.b = true → False
  lod : lsum ts ss M ≤ beat
section
variable {ss : List Str} {ts : List Tk} {qs : List Pr} {r : Str → Str → Prop} {beat : Int} {kind : Str} {dn M N : Str → Bool}
end
section
variable {ss : List Str} {ts : List Tk} {qs : List Pr} {r : Str → Str → Prop} {beat : Int} {kind : Str} {dn M N : Str → Bool} {gs : List (List Str)} {t : Nat}
end
section
variable {ss : List Str} {ts : List Tk} {qs : List Pr} {r : Str → Str → Prop} {beat : Int} {kind : Str} {dn : Str → Bool}
noncomputable def filsL (ss : List Str) (ts : List Tk) (qs : List Pr) (r : Str → Str → Prop) (beat : Int) (kind : Str) (dn : Str → Bool) : List Int :=
  ((List.range (2 ^ ss.length)).map fun (i : Nat) => (i : Int)).filter fun z => @decide (∃ M, z = nb ss M ∧ Fil ss ts qs r beat kind dn M) (Classical.propDecidable _)
end
section
variable {P : D → SS → Prop} {E : D → SS → Prop}
end
section
variable {P : D → SS → Prop} {E : D → SS → Prop}
end
section
variable {P : D → SS → Prop} {E : D → SS → Prop}
noncomputable def greL (l : List Int) : List Int := l.filter fun z => !(l.any fun w => decide (Builtin.bitAnd z w = z) && !decide (z = w))
end
section
variable {ss : List Str} {ts : List Tk} {qs : List Pr} {r : Str → Str → Prop} {beat : Int} {kind : Str} {dn M N : Str → Bool}
theorem fil_more {b2 : Int} (h : beat ≤ b2) (f : Fil ss ts qs r beat kind dn M) : Fil ss ts qs r b2 kind dn M := ⟨f.grp, f.knd, f.new, f.ahd, f.apt, Int.le_trans f.lod h⟩
end
section
variable {P : D → SS → Prop} {E : D → SS → Prop}
end
def Goes (ss : List Str) (ts : List Tk) (qs : List Pr) (r : Str → Str → Prop) (beat : Int) (row : List Str) (dl : List (List Str)) : Prop :=
  ∀ i st k, dl[i]? = some st → row[i]? = some k → Fil ss ts qs r beat k (fun s => decide (s ∈ (dl.take i).flatten)) fun s => decide (s ∈ st)
section
variable {ss : List Str} {ts : List Tk} {os : List (Str × Str)} {qs : List Pr} {row : List Str} {beat : Int} {dl : List (List Str)}
end
section
variable {ss : List Str} {ts : List Tk} {qs : List Pr} {r : Str → Str → Prop} {beat : Int} {kind : Str} {row : List Str} {dn M N e : Str → Bool}
def Lev (ss : List Str) (ts : List Tk) (qs : List Pr) (r : Str → Str → Prop) (beat : Int) (row : List Str) : Nat → (Str → Bool) → Prop
  | 0, d => ∀ s ∈ ss, d s = false
  | n + 1, d => ∃ k dn M, row[n]? = some k ∧ Lev ss ts qs r beat row n dn ∧ Fil ss ts qs r beat k dn M ∧ nb ss M ∈ greL (filsL ss ts qs r beat k dn) ∧ ∀ s ∈ ss, d s = (dn s || M s)
structure DealTo (ss : List Str) (ts : List Tk) (qs : List Pr) (r : Str → Str → Prop) (beat : Int) (row : List Str) (n : Nat) (dl : List (List Str)) : Prop where
  len : dl.length = n
  st : ∀ st ∈ dl, ∃ M : Str → Bool, st = ss.filter M
  all : ∀ s ∈ ss, s ∈ dl.flatten
  goes : Goes ss ts qs r beat row dl
theorem Lev.congr : ∀ {n : Nat} {d d' : Str → Bool}, (∀ s ∈ ss, d s = d' s) → Lev ss ts qs r beat row n d → Lev ss ts qs r beat row n d'
  | 0, d, d', h, q => fun s hs => by rw [← h s hs]; exact q s hs
  | n + 1, d, d', h, ⟨k, dn, M, a1, a2, a3, a4, a5⟩ => ⟨k, dn, M, a1, a2, a3, a4, fun s hs => by rw [← h s hs]; exact a5 s hs⟩
theorem DealTo.more {n : Nat} {dl : List (List Str)} {b2 : Int} (h : DealTo ss ts qs r beat row n dl) (hb : beat ≤ b2) : DealTo ss ts qs r b2 row n dl :=
  ⟨h.len, h.st, h.all, fun i st k a b => fil_more hb (h.goes i st k a b)⟩
end
section
variable {ss : List Str} {ts : List Tk} {os : List (Str × Str)} {qs : List Pr} {row : List Str} {beat : Int} {n : Nat} {A : Str → Nat}
end
def mixT (m0 m1 : Nat) (z : Tk × Int) : Tk := { z.1 with len := (m0 : Int) * z.1.len + (m1 : Int) * z.2 }
def mts (zs : List (Tk × Int)) (m0 m1 : Nat) : List Tk := zs.map (mixT m0 m1)
section
variable {zs : List (Tk × Int)} {ss : List Str} {os : List (Str × Str)} {qs : List Pr} {row : List Str} {m0 m1 : Nat}
theorem mts_nm : (mts zs m0 m1).map Tk.name = (zs.map (·.1)).map Tk.name := by
  unfold mts
  rw [List.map_map, List.map_map]
  rfl
theorem Wk.mix (W : Wk ss (zs.map (·.1)) os qs) : Wk ss (mts zs m0 m1) os qs := ⟨by rw [mts_nm]; exact W.nm, W.nd, W.ok, W.bd, W.sl, W.ol, W.ql⟩
theorem mem_mts {t : Tk} (h : t ∈ mts zs m0 m1) : ∃ z ∈ zs, t = mixT m0 m1 z := by
  obtain ⟨z, hz, rfl⟩ := List.mem_map.mp h
  exact ⟨z, hz, rfl⟩
theorem mts_kinds (h : ∀ t ∈ zs.map (·.1), ∀ x ∈ t.kinds, PySem.PyData.strOk x = true) : ∀ t ∈ mts zs m0 m1, ∀ x ∈ t.kinds, PySem.PyData.strOk x = true := fun t ht => by
  obtain ⟨z, hz, rfl⟩ := mem_mts ht
  exact h z.1 (List.mem_map.mpr ⟨z, hz, rfl⟩)
end
section
variable {P : D → SS → Prop} {E : D → SS → Prop}
theorem s_wide (n : Int) (p : ∀ r, P (.int r) [none]) : (F_law_wide [.int n]).ps P E := by
  unfold F_law_wide
  refine w_run ?_
  unfold f_law_wide
  repeat' walk_at "t3"
  refine w_loop (fun _ S => ∃ a b j, S = [some (.int a), some (.int b), j]) ⟨_, _, _, rfl⟩ ?_ ?_
  · rintro i d S hi ⟨a, b, j, rfl⟩
    obtain ⟨hj, hd⟩ := intsD_get hi
    subst hd
    have hi' : i < 7 := hj
    repeat' walk_at "t3"
    exact ⟨_, _, _, rfl⟩
  · rintro S ⟨a, b, j, rfl⟩
    repeat' walk_at "t3"
    exact p _
def DkL (l : List Int) : Prop := l ≠ [] ∧ l.length ≤ 64
theorem s_next {l : List Int} (h : DkL l) (p : ∀ c l', DkL l' → P (.int c) [some (.lst .ow (l'.map D.int))]) : (F_law_next [.lst .ow (l.map D.int)]).ps P E := by
  obtain ⟨h1, h2⟩ := h
  cases l with
  | nil => exact absurd rfl h1
  | cons c l =>
    have h3 : l.length ≤ 63 := by simpa using h2
    unfold F_law_next
    refine w_run ?_
    unfold f_law_next
    repeat' walk_at "t3"
    refine o_pop0m (by unfold sizeLine; omega) ?_
    repeat' walk_at "t3"
    refine w_ifS ?_
    repeat' walk_at "t3"
    refine o_eqIN ?_
    repeat' walk_at "t3"
    refine ⟨fun hb => ?_, fun hb => ?_⟩
    · have e := of_decide_eq_true hb
      subst e
      repeat' walk_at "t3"
      refine s_wide _ fun r => ?_
      repeat' walk_at "t3"
      exact p c [r] ⟨by simp, by simp⟩
    · repeat' walk_at "t3"
      exact p c l ⟨of_decide_eq_false hb, by omega⟩
theorem s_deck {ns : List Int} (h : ns.length ≤ 63) (p : ∀ l', DkL l' → P (.lst .ow (l'.map D.int)) [none]) : (F_law_deck [.lst .ex (ns.map D.int)]).ps P E := by
  unfold F_law_deck
  refine w_run ?_
  unfold f_law_deck
  repeat' walk_at "t3"
  obtain ⟨c, l, e, hl⟩ : ∃ c l, cutD (List.map D.int ns) none (some 63) ++ [D.int 7] = D.int c :: List.map D.int l ∧ l.length ≤ 63 := by
    cases ns with
    | nil => exact ⟨7, [], rfl, by simp⟩
    | cons c l =>
      refine ⟨c, (l.take (min 63 (l.length + 1) - 1)) ++ [7], ?_, by simp at h ⊢; omega⟩
      rw [cut_map]
      have e : HT.sIx (c :: l).length (c :: l).length (some 63) = min 63 (l.length + 1) := HT.sIx_nat _ _ 63
      have e2 : min 63 (l.length + 1) = (min 63 (l.length + 1) - 1) + 1 := by omega
      rw [e]
      show (List.take (min 63 (l.length + 1) - 0) (c :: l)).map D.int ++ _ = _
      rw [Nat.sub_zero, e2, List.take_succ_cons]
      simp
  rw [e]
  repeat' walk_at "t3"
  refine w_ifS ?_
  repeat' walk_at "t3"
  refine ⟨fun hb => ?_, fun hb => ?_⟩
  · repeat' walk_at "t3"
    exact p (c / 2 :: l) ⟨by simp, by simpa using hl⟩
  · repeat' walk_at "t3"
    refine s_wide _ fun r => ?_
    repeat' walk_at "t3"
    exact p [r] ⟨by simp, by simp⟩
end
section
variable {P : D → SS → Prop} {E : D → SS → Prop}
theorem s_names {c m : Int} (h0 : 0 ≤ m) (h1 : m ≤ 26) (p : ∀ ss, Names ss m.toNat → P (.lst .ow (ss.map D.str)) [none, none]) : (F_law_names [.int c, .int m]).ps P E := by
  unfold F_law_names
  refine w_run ?_
  unfold f_law_names
  repeat' walk_at "t3"
  have hs0 : 1 ≤ 1 + c / 2 % 8 := by omega
  have hs1 : 1 + c / 2 % 8 ≤ 8 := by omega
  have ha0 : 0 ≤ c / 16 % (1 + c / 2 % 8) := Int.emod_nonneg _ (by omega)
  have ha1 : c / 16 % (1 + c / 2 % 8) < 1 + c / 2 % 8 := Int.emod_lt_of_pos _ (by omega)
  generalize c / 16 % (1 + c / 2 % 8) = a at ha0 ha1 ⊢
  generalize 1 + c / 2 % 8 = z at hs0 hs1 ha1 ⊢
  generalize decide (c % 2 = 0) = al
  refine w_loop (fun k S => ∃ num ss x8 x9 x10 x11 x12, Names ss k ∧ S = [some (.int c), some (.int m), some (.str abc), some (.bl al), some (.int z), some (.int a), some (.int num), some (.lst .ow (ss.map D.str)), x8, x9, x10, x11, x12]) ⟨_, [], _, _, _, _, _, ⟨rfl, List.nodup_nil, by simp⟩, rfl⟩ ?_ ?_
  · rintro k d S hk ⟨num, ss, x8, x9, x10, x11, x12, hN, rfl⟩
    obtain ⟨hk1, hd⟩ := intsD_get hk
    subst hd
    repeat' walk_at "t3"
    refine w_mid (fun S => ∃ own long, 1 ≤ long ∧ long ≤ 8 ∧ (al = true → long = z) ∧ S = [some (.int c), some (.int m), some (.str abc), some (.bl al), some (.int z), some (.int a), some (.int num), some (.lst .ow (ss.map D.str)), some (.int (0 + (k : Int))), some (.int own), some (.int long), x11, x12]) ?_ ?_
    · refine w_ifS ?_
      repeat' walk_at "t3"
      refine ⟨fun hb => ?_, fun hb => ?_⟩
      · repeat' walk_at "t3"
        refine ⟨_, _, ?_, ?_, ?_, rfl⟩
        · omega
        · omega
        · intro e
          rw [e] at hb
          cases hb
      · repeat' walk_at "t3"
        exact ⟨_, _, hs0, hs1, fun _ => rfl, rfl⟩
    rintro S ⟨own, long, hl0, hl1, hlz, rfl⟩
    repeat' walk_at "t3"
    refine w_loop (fun j S => ∃ own is x12, is.length = j ∧ (∀ i ∈ is, i < 26) ∧ S = [some (.int c), some (.int m), some (.str abc), some (.bl al), some (.int z), some (.int a), some (.int num), some (.lst .ow (ss.map D.str)), some (.int (0 + (k : Int))), some (.int own), some (.int long), some (.lst .ow (is.map lt1)), x12]) ⟨_, [], _, rfl, by simp, rfl⟩ ?_ ?_
    · rintro j d S hj ⟨own, is, x12, hi1, hi2, rfl⟩
      obtain ⟨hj1, hd⟩ := intsD_get hj
      subst hd
      repeat' walk_at "t3"
      refine abc_at (by omega) (by omega) ?_
      repeat' walk_at "t3"
      refine ⟨_, _, _, ?_, ?_, rfl⟩
      · simp [hi1]
      · intro i hi
        rcases List.mem_append.mp hi with h | h
        · exact hi2 i h
        · simp at h
          omega
    rintro S ⟨own, is, x12, hi1, hi2, rfl⟩
    rw [intsD_len] at hi1
    repeat' walk_at "t3"
    refine w_mid (fun S => ∃ num is, is ≠ [] ∧ is.length ≤ 8 ∧ (∀ i ∈ is, i < 26) ∧ S = [some (.int c), some (.int m), some (.str abc), some (.bl al), some (.int z), some (.int a), some (.int num), some (.lst .ow (ss.map D.str)), some (.int (0 + (k : Int))), some (.int own), some (.int long), some (.lst .ow (is.map lt1)), x12]) ?_ ?_
    · refine w_ifS ?_
      repeat' walk_at "t3"
      refine ⟨fun hb => ?_, fun hb => ?_⟩
      · have e := hlz hb
        subst e
        repeat' walk_at "t3"
        refine ⟨rfl, ?_⟩
        repeat' walk_at "t3"
        refine gv_ixL ha0 (by simp [hi1]; omega) fun d hd => ?_
        obtain ⟨i, hi, e⟩ := map_get hd
        subst e
        have hi3 : i < 26 := hi2 i (List.mem_of_getElem? hi)
        refine abc_index hi3 ?_
        repeat' walk_at "t3"
        refine abc_at (by omega) (by omega) ?_
        repeat' walk_at "t3"
        refine o_setL ha0 (by simp [hi1]; omega) ?_
        repeat' walk_at "t3"
        have e : ∀ v, (List.map lt1 is).set a.toNat (lt1 v) = (is.set a.toNat v).map lt1 := fun v => by rw [List.map_set]
        rw [e]
        refine ⟨_, _, ?_, ?_, ?_, rfl⟩
        · intro e
          have := congrArg List.length e
          simp [hi1] at this
          omega
        · simp [hi1]; omega
        · intro x hx
          rcases List.mem_or_eq_of_mem_set hx with h | h
          · exact hi2 x h
          · omega
      · repeat' walk_at "t3"
        refine ⟨_, is, ?_, ?_, hi2, rfl⟩
        · intro e
          rw [e] at hi1
          simp at hi1
          omega
        · omega
    rintro S ⟨num, is, hn1, hn2, hn3, rfl⟩
    repeat' walk_at "t3"
    obtain ⟨i0, r, rfl⟩ := List.exists_cons_of_ne_nil hn1
    have hlen : ss.length ≤ 25 := by rw [hN.len]; omega
    have hok : ∀ s ∈ ss, PySem.PyData.strOk s = true := fun s m => (hN.nm s m).ok
    have hw : ∀ j, ∀ i ∈ rot j (i0 :: r), i < 26 := fun j i hi => by
      unfold rot at hi
      rcases List.mem_cons.mp hi with h | h
      · omega
      · exact hn3 i (by simp [h])
    refine w_while (fun t S => ∃ j, t + j = 26 ∧ (∀ j', j' < j → wd (rot j' (i0 :: r)) ∈ ss) ∧ S = [some (.int c), some (.int m), some (.str abc), some (.bl al), some (.int z), some (.int a), some (.int num), some (.lst .ow (ss.map D.str)), some (.int (0 + (k : Int))), some (.int own), some (.int long), some (.lst .ow ((rot j (i0 :: r)).map lt1)), x12]) 26 (by decide) ⟨0, rfl, by simp, ?_⟩ ?_
    · have e : rot 0 (i0 :: r) = i0 :: r := by
        show (i0 + 0) % 26 :: r = _
        rw [Nat.add_zero, Nat.mod_eq_of_lt (hn3 i0 (by simp))]
      rw [e]
    rintro t S ⟨j, ht, hj, rfl⟩
    repeat' walk_at "t3"
    refine ⟨rfl, ?_⟩
    repeat' walk_at "t3"
    refine join_word ?_ ?_
    · have : (rot j (i0 :: r)).length = (i0 :: r).length := rfl
      omega
    repeat' walk_at "t3"
    refine o_inS (wd_ok (hw j)) hok ?_
    repeat' walk_at "t3"
    refine ⟨fun hb => ?_, fun hb => ?_⟩
    · have hm : wd (rot j (i0 :: r)) ∈ ss := of_decide_eq_true hb
      have hall : ∀ j', j' < j + 1 → wd (rot j' (i0 :: r)) ∈ ss := fun j' h => by
        by_cases e : j' = j
        · rw [e]; exact hm
        · exact hj j' (by omega)
      have hj26 : j < 26 := by
        rcases Nat.lt_or_ge j 26 with h | h
        · exact h
        · exact (rot_free hn1 hlen fun j' h' => hj j' (by omega)).elim
      have er : rot j (i0 :: r) = (i0 + j) % 26 :: r := rfl
      rw [er, List.map_cons]
      repeat' walk_at "t3"
      refine ⟨rfl, ?_⟩
      repeat' walk_at "t3"
      refine abc_index (Nat.mod_lt _ (by decide)) ?_
      repeat' walk_at "t3"
      refine abc_at (by omega) (by omega) ?_
      repeat' walk_at "t3"
      refine o_setL (by decide) (by simp) ?_
      repeat' walk_at "t3"
      refine ⟨t - 1, by omega, j + 1, by omega, hall, ?_⟩
      have ev : ((((i0 + j) % 26 : Nat) : Int) + 1) % 26 = (((i0 + (j + 1)) % 26 : Nat) : Int) := by omega
      rw [ev]
      rfl
    · repeat' walk_at "t3"
      refine ⟨rfl, ?_⟩
      repeat' walk_at "t3"
      refine join_word ?_ ?_
      · have : (rot j (i0 :: r)).length = (i0 :: r).length := rfl
        omega
      repeat' walk_at "t3"
      have hnm : wd (rot j (i0 :: r)) ∉ ss := of_decide_eq_false hb
      refine ⟨num, _, _, _, _, _, _, ⟨by simp [hN.len], ?_, ?_⟩, rfl⟩
      · exact List.nodup_append.mpr ⟨hN.nd, by simp, fun a ha b hb e => by
          simp at hb
          subst hb
          exact hnm (e ▸ ha)⟩
      · intro s hs
        rcases List.mem_append.mp hs with h | h
        · exact hN.nm s h
        · simp at h
          subst h
          exact ⟨_, rfl, by simp [rot], hn2, hw j⟩
  · rintro S ⟨num, ss, x8, x9, x10, x11, x12, hN, rfl⟩
    repeat' walk_at "t3"
    rw [intsD_len] at hN
    exact p ss hN
end
section
variable {P : D → SS → Prop} {E : D → SS → Prop}
theorem s_tasks {l : List Int} {ss ps : List Str} {fr : Bool} (hl : DkL l) (hn : ss.length ≤ 26) (hp : 0 < ps.length) (hp2 : ps.length ≤ 26) (hps : ∀ s ∈ ps, Nm s)
    (p : ∀ ts l', Tasks ss ps ts → DkL l' → P (.tup (ts.map tkD)) [some (.lst .ow (l'.map D.int)), none, none, none]) : (F_law_tasks [.lst .ow (l.map D.int), .lst .fz (ss.map D.str), .lst .fz (ps.map D.str), .bl fr]).ps P E := by
  unfold F_law_tasks
  refine w_run ?_
  unfold f_law_tasks
  repeat' walk_at "t3"
  refine s_next hl fun c l1 hl1 => ?_
  repeat' walk_at "t3"
  refine w_mid (fun S => ∃ b, 0 ≤ b ∧ b < 10 ^ 59 ∧ S = [some (.lst .ow (l1.map D.int)), some (.lst .fz (ss.map D.str)), some (.lst .fz (ps.map D.str)), some (.bl fr), some (.int b), none, none, none, none, none, none, none]) ?_ ?_
  · refine w_ifS ?_
    repeat' walk_at "t3"
    refine ⟨fun hb => ?_, fun hb => ?_⟩
    · repeat' walk_at "t3"
      refine ⟨_, ?_, ?_, rfl⟩
      · omega
      · omega
    · repeat' walk_at "t3"
      refine ⟨_, ?_, ?_, rfl⟩
      · exact Int.emod_nonneg _ (by decide)
      · exact Int.emod_lt_of_pos _ (by decide)
  rintro S ⟨b, hb0, hb1, rfl⟩
  repeat' walk_at "t3"
  refine w_loop (fun i S => ∃ l ts x6 x7 x8 x9 x10 x11, DkL l ∧ ts.map Tk.name = ss.take i ∧ (∀ t ∈ ts, TkOk ps t) ∧ S = [some (.lst .ow (l.map D.int)), some (.lst .fz (ss.map D.str)), some (.lst .fz (ps.map D.str)), some (.bl fr), some (.int b), some (.lst .ow (ts.map tkD)), x6, x7, x8, x9, x10, x11]) ⟨l1, [], _, _, _, _, _, _, hl1, rfl, by simp, rfl⟩ ?_ ?_
  · rintro i d S hi ⟨l, ts, x6, x7, x8, x9, x10, x11, hl, ht1, ht2, rfl⟩
    obtain ⟨s, hs, e⟩ := map_get hi
    subst e
    repeat' walk_at "t3"
    refine s_next hl fun c l2 hl2 => ?_
    repeat' walk_at "t3"
    refine w_mid (fun S => ∃ c n l2, DkL l2 ∧ 1 ≤ n ∧ n < 10 ^ 62 ∧ S = [some (.lst .ow (l2.map D.int)), some (.lst .fz (ss.map D.str)), some (.lst .fz (ps.map D.str)), some (.bl fr), some (.int b), some (.lst .ow (ts.map tkD)), some (.str s), some (.int c), some (.int n), x9, x10, x11]) ?_ ?_
    · refine w_ifS ?_
      repeat' walk_at "t3"
      refine ⟨fun hb => ?_, fun hb => ?_⟩
      · repeat' walk_at "t3"
        refine s_next hl2 fun c l2 hl2 => ?_
        repeat' walk_at "t3"
        refine ⟨_, _, _, hl2, ?_, ?_, rfl⟩
        · have e : (10 : Int) ^ Int.toNat 60 - 1 = 999999999999999999999999999999999999999999999999999999999999 := by decide +kernel
          rw [e]
          omega
        · have e : (10 : Int) ^ Int.toNat 60 - 1 = 999999999999999999999999999999999999999999999999999999999999 := by decide +kernel
          rw [e]
          omega
      · repeat' walk_at "t3"
        refine ⟨_, _, _, hl2, ?_, ?_, rfl⟩
        · have := (mul_bd hb0 (b := 1 + c % 9) (by omega) (Int.le_of_lt hb1) (n := 9) (by omega)).1
          omega
        · have := (mul_bd hb0 (b := 1 + c % 9) (by omega) (Int.le_of_lt hb1) (n := 9) (by omega)).2
          omega
    rintro S ⟨c, n, l2, hl2, hn0, hn1, rfl⟩
    repeat' walk_at "t3"
    refine o_ixb fun v hv => ?_
    repeat' walk_at "t3"
    have hv0 : 0 ≤ v ∧ v ≤ 4 := by
      have := mul_bd (a := c / 27 % 3 / 2) (b := c / 81 % 4) (m := 1) (n := 3) (by omega) (by omega) (by omega) (by omega)
      omega
    refine ⟨by omega, ?_⟩
    refine w_loop (fun j S => ∃ ks x10 x11, ks.Nodup ∧ (∀ k ∈ ks, k ∈ ps) ∧ ks.length ≤ j ∧ S = [some (.lst .ow (l2.map D.int)), some (.lst .fz (ss.map D.str)), some (.lst .fz (ps.map D.str)), some (.bl fr), some (.int b), some (.lst .ow (ts.map tkD)), some (.str s), some (.int c), some (.int n), some (.lst .ow (ks.map D.str)), x10, x11]) ⟨[], _, _, List.nodup_nil, by simp, by simp, rfl⟩ ?_ ?_
    · rintro j d S hj ⟨ks, x10, x11, hk1, hk2, hk3, rfl⟩
      obtain ⟨hj1, hd⟩ := intsD_get hj
      subst hd
      repeat' walk_at "t3"
      refine o_ixmodL hp fun x hx => ?_
      repeat' walk_at "t3"
      refine w_ifS ?_
      repeat' walk_at "t3"
      refine o_niS ((hps x hx).ok) (fun s hs => (hps s (hk2 s hs)).ok) ?_
      repeat' walk_at "t3"
      refine ⟨fun hb => ?_, fun hb => ?_⟩
      · repeat' walk_at "t3"
        refine ⟨_, _, _, ?_, ?_, ?_, rfl⟩
        · have hx' : x ∉ ks := by simpa using hb
          exact List.nodup_append.mpr ⟨hk1, by simp, fun a ha b hb e => by
            simp at hb
            subst hb
            exact hx' (e ▸ ha)⟩
        · intro k hk
          rcases List.mem_append.mp hk with h | h
          · exact hk2 k h
          · simp at h
            exact h ▸ hx
        · simp; omega
      · repeat' walk_at "t3"
        exact ⟨ks, _, _, hk1, hk2, by omega, rfl⟩
    rintro S ⟨ks, x10, x11, hk1, hk2, hk3, rfl⟩
    rw [intsD_len] at hk3
    repeat' walk_at "t3"
    have hlt : ts.length = i := by
      have h1 := congrArg List.length ht1
      have h2 := (List.getElem?_eq_some_iff.mp hs).1
      simp at h1
      omega
    refine o_appendM (f := tkD) (x := ⟨s, n, ks⟩) ?_ ?_
    · have h2 := (List.getElem?_eq_some_iff.mp hs).1
      unfold sizeLine
      omega
    repeat' walk_at "t3"
    refine ⟨l2, ts ++ [⟨s, n, ks⟩], _, _, _, _, _, _, hl2, ?_, ?_, rfl⟩
    · rw [List.map_append, ht1, List.take_add_one, hs]
      rfl
    · intro t ht
      rcases List.mem_append.mp ht with h | h
      · exact ht2 t h
      · simp at h
        subst h
        exact ⟨hn0, hn1, hk1, hk2⟩
  rintro S ⟨l, ts, x6, x7, x8, x9, x10, x11, hl, ht1, ht2, rfl⟩
  repeat' walk_at "t3"
  refine p ts l ⟨?_, ht2⟩ hl
  rw [ht1, List.length_map]
  simp
end
section
variable {P : D → SS → Prop} {E : D → SS → Prop}
theorem s_turn {α : Type} {f : α → D} {c : Int} {xs : List α} (hx : xs.length ≤ 10000) (hf : ∀ x, fz (f x) = true) (p : ∀ ys : List α, ys.Perm xs → P (.lst .ow (ys.map f)) [none, none]) : (F_law_turn [.int c, .lst .fz (xs.map f)]).ps P E := by
  unfold F_law_turn
  refine w_run ?_
  unfold f_law_turn
  repeat' walk_at "t3"
  refine w_loop (fun k S => ∃ (c : Int) (left out : List α) (x4 x5 : Option D), (left ++ out).Perm xs ∧ out.length = k ∧ S = [some (.int c), some (.lst .fz (xs.map f)), some (.lst .ow (left.map f)), some (.lst .ow (out.map f)), x4, x5]) ⟨_, xs, [], _, _, by simp, rfl, rfl⟩ ?_ ?_
  · rintro k d S hk ⟨c, left, out, x4, x5, hp, hl, rfl⟩
    obtain ⟨hk1, hd⟩ := intsD_get hk
    subst hd
    have hlen := hp.length_eq
    simp at hlen hk1
    have hpos : 0 < left.length := by omega
    have hpos' : 0 < (left.map f).length := by simp; omega
    repeat' walk_at "t3"
    refine gv_popM (by unfold sizeLine; omega) (Int.emod_nonneg _ (by omega)) (by have := Int.emod_lt_of_pos c (b := ((left.map f).length : Nat)) (by omega); simpa using this) fun d hd => ?_
    have hm : d ∈ left := List.mem_of_getElem? hd
    have h1 := eraseIdx_perm hd
    generalize (c % ((left.map f).length : Nat)).toNat = n at h1 ⊢
    refine fz_of (hf d) ?_
    repeat' walk_at "t3"
    refine ⟨_, _, _, _, _, ?_, ?_, rfl⟩
    · refine List.Perm.trans ?_ hp
      refine List.Perm.trans ?_ (h1.append_right out)
      rw [List.cons_append]
      rw [← List.append_assoc]
      exact List.perm_append_comm
    · simp [hl]
  · rintro S ⟨c, left, out, x4, x5, hp, hl, rfl⟩
    have hlen := hp.length_eq
    rw [intsD_len] at hl
    simp at hlen hl
    have e : left = [] := List.eq_nil_of_length_eq_zero (by omega)
    subst e
    repeat' walk_at "t3"
    exact p out hp
theorem s_orders {c n : Int} {ys : List Str} (hn : 1 ≤ n) (hn2 : n ≤ 1000) (hy : ys.length ≤ 26) (p : ∀ os, Orders ys os → P (.lst .ow (os.map orD)) [none, none, none]) : (F_law_orders [.int c, .lst .fz (ys.map D.str), .int n]).ps P E := by
  unfold F_law_orders
  refine w_run ?_
  unfold f_law_orders
  repeat' walk_at "t3"
  refine w_loop (fun k S => ∃ (c : Int) (os : List (Str × Str)) (x4 x5 x6 : Option D), (∀ q ∈ os, ∃ i j : Nat, i < j ∧ ys[i]? = some q.1 ∧ ys[j]? = some q.2) ∧ os.length ≤ k * ys.length ∧ S = [some (.int c), some (.lst .fz (ys.map D.str)), some (.int n), some (.lst .ow (os.map orD)), x4, x5, x6]) ⟨_, [], _, _, _, by simp, by simp, rfl⟩ ?_ ?_
  · rintro k d S hk ⟨c, os, x4, x5, x6, h1, h2, rfl⟩
    obtain ⟨d, hk', e⟩ := enum_get hk
    subst e
    obtain ⟨y, hy, e⟩ := map_get hk'
    subst e
    have hk3 := (List.getElem?_eq_some_iff.mp hy).1
    repeat' walk_at "t3"
    rw [cut_from (n := k + 1) (by omega) (by simp; omega), ← List.map_drop]
    refine w_loop (fun j S => ∃ (c : Int) (os : List (Str × Str)) (x6 : Option D), (∀ q ∈ os, ∃ i j : Nat, i < j ∧ ys[i]? = some q.1 ∧ ys[j]? = some q.2) ∧ os.length ≤ k * ys.length + j ∧ S = [some (.int c), some (.lst .fz (ys.map D.str)), some (.int n), some (.lst .ow (os.map orD)), some (.int (k : Nat)), some (.str y), x6]) ⟨_, os, _, h1, h2, rfl⟩ ?_ ?_
    · rintro j d S hj ⟨c, os, x6, h1, h2, rfl⟩
      obtain ⟨z, hz, e⟩ := map_get hj
      subst e
      rw [List.getElem?_drop] at hz
      have hz3 := (List.getElem?_eq_some_iff.mp hz).1
      have hkk : k * ys.length ≤ 26 * 26 := Nat.mul_le_mul (by omega) (by omega)
      repeat' walk_at "t3"
      refine w_mid (fun S => ∃ (os : List (Str × Str)), (∀ q ∈ os, ∃ i j : Nat, i < j ∧ ys[i]? = some q.1 ∧ ys[j]? = some q.2) ∧ os.length ≤ k * ys.length + (j + 1) ∧ S = [some (.int c), some (.lst .fz (ys.map D.str)), some (.int n), some (.lst .ow (os.map orD)), some (.int (k : Nat)), some (.str y), some (.str z)]) ?_ ?_
      · refine w_ifS ?_
        repeat' walk_at "t3"
        refine ⟨fun hb => ?_, fun hb => ?_⟩
        · repeat' walk_at "t3"
          refine o_appendM (f := orD) (x := (y, z)) (xs := os) (by unfold sizeLine; omega) ?_
          repeat' walk_at "t3"
          refine ⟨_, ?_, ?_, rfl⟩
          · intro q hq
            rcases List.mem_append.mp hq with h | h
            · exact h1 q h
            · simp at h
              subst h
              exact ⟨k, k + 1 + j, by omega, hy, hz⟩
          · simp; omega
        · repeat' walk_at "t3"
          exact ⟨os, h1, by omega, rfl⟩
      rintro S ⟨os, h1, h2, rfl⟩
      repeat' walk_at "t3"
      exact ⟨_, _, _, h1, h2, rfl⟩
    · rintro S ⟨c, os, x6, h1, h2, rfl⟩
      repeat' walk_at "t3"
      refine ⟨_, _, _, _, _, h1, ?_, rfl⟩
      rw [List.length_map, List.length_drop] at h2
      have : (k + 1) * ys.length = k * ys.length + ys.length := by rw [Nat.add_mul, Nat.one_mul]
      omega
  · rintro S ⟨c, os, x4, x5, x6, h1, h2, rfl⟩
    repeat' walk_at "t3"
    rw [enum_len, List.length_map] at h2
    exact p os ⟨h1, h2⟩
theorem s_pairs {c m wi : Int} {ss : List Str} (h0 : 0 ≤ m) (h1 : m ≤ 1000) (hp : 0 < ss.length) (hss : ∀ s ∈ ss, Nm s) (p : ∀ qs, Pairs ss qs → P (.tup (qs.map prD)) [none, none, none, none]) : (F_law_pairs [.int c, .lst .fz (ss.map D.str), .int m, .int wi]).ps P E := by
  unfold F_law_pairs
  refine w_run ?_
  unfold f_law_pairs
  repeat' walk_at "t3"
  refine w_loop (fun k S => ∃ (c : Int) (qs : List Pr) (x5 x6 x7 x8 : Option D), (∀ q ∈ qs, q.a ∈ ss ∧ q.b ∈ ss ∧ q.a ≠ q.b) ∧ qs.length ≤ k ∧ S = [some (.int c), some (.lst .fz (ss.map D.str)), some (.int m), some (.int wi), some (.lst .ow (qs.map prD)), x5, x6, x7, x8]) ⟨_, [], _, _, _, _, by simp, by simp, rfl⟩ ?_ ?_
  · rintro k d S hk ⟨c, qs, x5, x6, x7, x8, hq, hl, rfl⟩
    obtain ⟨hk1, hd⟩ := intsD_get hk
    subst hd
    repeat' walk_at "t3"
    refine o_ixmodL hp fun x hx => ?_
    repeat' walk_at "t3"
    refine o_ixmodL hp fun y hy => ?_
    repeat' walk_at "t3"
    refine o_ixbS ?_
    repeat' walk_at "t3"
    refine w_mid (fun S => ∃ (qs : List Pr) (x5 x6 x7 x8 : Option D), (∀ q ∈ qs, q.a ∈ ss ∧ q.b ∈ ss ∧ q.a ≠ q.b) ∧ qs.length ≤ k + 1 ∧ S = [some (.int c), some (.lst .fz (ss.map D.str)), some (.int m), some (.int wi), some (.lst .ow (qs.map prD)), x5, x6, x7, x8]) ?_ ?_
    · refine w_ifS ?_
      repeat' walk_at "t3"
      refine o_neS (hss x hx).ok (hss y hy).ok ?_
      repeat' walk_at "t3"
      refine ⟨fun hxy => ?_, fun hxy => ?_⟩
      · have hne : x ≠ y := by simpa using hxy
        repeat' walk_at "t3"
        have hz : nice 1 (prD ⟨decide (c / 64 % 6 < wi), x, y⟩) = true := prD_ok (hss x hx).ok (hss y hy).ok
        refine o_niX (n := 1) (m := 1) hz (nice_prs hss hq) fun b hb => ?_
        repeat' walk_at "t3"
        refine ⟨fun hb => ?_, fun hb => ?_⟩
        · repeat' walk_at "t3"
          refine o_appendM (f := prD) (x := ⟨decide (c / 64 % 6 < wi), x, y⟩) (xs := qs) (by unfold sizeLine; omega) ?_
          repeat' walk_at "t3"
          refine ⟨_, _, _, _, _, ?_, ?_, rfl⟩
          · intro q hq'
            rcases List.mem_append.mp hq' with h | h
            · exact hq q h
            · simp at h
              subst h
              exact ⟨hx, hy, hne⟩
          · simp; omega
        · repeat' walk_at "t3"
          exact ⟨qs, _, _, _, _, hq, by omega, rfl⟩
      · repeat' walk_at "t3"
        exact ⟨qs, _, _, _, _, hq, by omega, rfl⟩
    rintro S ⟨qs, x5, x6, x7, x8, hq, hl, rfl⟩
    repeat' walk_at "t3"
    exact ⟨_, qs, _, _, _, _, hq, hl, rfl⟩
  · rintro S ⟨c, qs, x5, x6, x7, x8, hq, hl, rfl⟩
    repeat' walk_at "t3"
    rw [intsD_len] at hl
    exact p qs ⟨hq, by omega⟩
theorem s_worksB {l : List Int} {m wi : Int} (hl : DkL l) (h0 : 1 ≤ m) (h1 : m ≤ 26) (p : ∀ ss ps ts osn os qs (row : List Str) l', Names ss ss.length → Names ps ps.length → 0 < ps.length → ps.length ≤ 4 → 1 ≤ ss.length → (ss.length : Int) ≤ m → Tasks ss ps ts → Orders osn os → osn.Perm ss → Pairs ss qs → RowOk ps row → DkL l' →
    P (.tup [.tup (ts.map tkD), .tup (os.map orD), .tup (qs.map prD), .tup (row.map D.str)]) [some (.lst .ow (l'.map D.int)), none, none]) : (F_law_works [.lst .ow (l.map D.int), .int m, .int wi]).ps P E := by
  unfold F_law_works
  refine w_run ?_
  unfold f_law_works
  repeat' walk_at "t3"
  refine s_next hl fun c1 l1 hl1 => ?_
  repeat' walk_at "t3"
  refine s_next hl1 fun c2 l2 hl2 => ?_
  repeat' walk_at "t3"
  have hm0 := Int.emod_nonneg c1 (b := m) (by omega)
  have hm1 := Int.emod_lt_of_pos c1 (b := m) (by omega)
  refine s_names (by omega) (by omega) fun ss hss => ?_
  have hsl : ss.length = (1 + c1 % m).toNat := hss.len
  repeat' walk_at "t3"
  refine s_next hl2 fun c3 l3 hl3 => ?_
  repeat' walk_at "t3"
  refine s_names (by omega) (by omega) fun ps0 hps0 => ?_
  have hpl : ps0.length = 4 := hps0.len
  repeat' walk_at "t3"
  rw [cut_to (n := (2 + c1 / 24 % 3).toNat) (by omega) (by simp [hpl]; omega), ← List.map_take]
  have hps : Names (ps0.take (2 + c1 / 24 % 3).toNat) (ps0.take (2 + c1 / 24 % 3).toNat).length := ⟨rfl, hps0.nd.sublist (List.take_sublist _ _), fun s h => hps0.nm s (List.mem_of_mem_take h)⟩
  have hpl2 : (ps0.take (2 + c1 / 24 % 3).toNat).length = (2 + c1 / 24 % 3).toNat := by simp [hpl]; omega
  generalize ps0.take (2 + c1 / 24 % 3).toNat = ps at hps hpl2 ⊢
  repeat' walk_at "t3"
  refine s_tasks hl3 (by omega) (by omega) (by omega) hps.nm fun ts l4 hts hl4 => ?_
  repeat' walk_at "t3"
  refine s_next hl4 fun c5 l5 hl5 => ?_
  repeat' walk_at "t3"
  refine s_next hl5 fun c6 l6 hl6 => ?_
  repeat' walk_at "t3"
  refine s_turn (f := D.str) (by omega) (fun _ => rfl) fun ys hys => ?_
  have hyl := hys.length_eq
  repeat' walk_at "t3"
  refine s_orders (by omega) (by omega) (by omega) fun os hos => ?_
  have hol : os.length ≤ 26 * 26 := Nat.le_trans hos.len (Nat.mul_le_mul (by omega) (by omega))
  repeat' walk_at "t3"
  refine s_next hl6 fun c7 l7 hl7 => ?_
  repeat' walk_at "t3"
  refine o_ixb fun v hv => ?_
  repeat' walk_at "t3"
  have hv1 := Int.emod_nonneg (c1 / 288) (b := v) (by omega)
  have hv2 := Int.emod_lt_of_pos (c1 / 288) (b := v) (by omega)
  refine s_pairs (by omega) (by omega) (by omega) hss.nm fun qs hqs => ?_
  repeat' walk_at "t3"
  refine s_next hl7 fun c8 l8 hl8 => ?_
  repeat' walk_at "t3"
  refine w_lcR D.str (fun _ x => x ∈ ps) ?_
  repeat' walk_at "t3"
  refine o_ixb fun v hv => ?_
  repeat' walk_at "t3"
  have hw1 := Int.emod_nonneg c8 (b := v) (by omega)
  have hw2 := Int.emod_lt_of_pos c8 (b := v) (by omega)
  refine ⟨by omega, ?_⟩
  refine ⟨by rw [intsD_len]; unfold sizeLine; omega, ?_⟩
  repeat' walk_at "t3"
  refine ⟨fun d hd => ?_, fun row hr1 hr2 => ?_⟩
  · obtain ⟨i, hi⟩ := List.getElem?_of_mem hd
    obtain ⟨hi1, e⟩ := intsD_get hi
    subst e
    repeat' walk_at "t3"
    refine o_ixmodL (by omega) fun x hx => ?_
    repeat' walk_at "t3"
    refine ⟨x, rfl, hx, ?_⟩
    repeat' walk_at "t3"
  have hrow : ∀ k ∈ row, k ∈ ps := fun k hk => by
    obtain ⟨i, hi⟩ := List.getElem?_of_mem hk
    have hl := (List.getElem?_eq_some_iff.mp hi).1
    exact hr2 i _ k (List.getElem?_eq_getElem (by omega)) hi
  repeat' walk_at "t3"
  refine s_next hl8 fun c9 l9 hl9 => ?_
  repeat' walk_at "t3"
  refine s_turn (f := orD) (by omega) (fun _ => rfl) fun os' hos' => ?_
  repeat' walk_at "t3"
  exact p ss ps ts ys os' qs row l9 (by rw [hsl]; exact hss) hps (by omega) (by omega) (by omega) (by omega) hts ⟨fun q hq => hos.ord q (hos'.subset hq), by rw [hos'.length_eq]; exact hos.len⟩ hys hqs ⟨hrow, by rw [intsD_len] at hr1; omega, by rw [intsD_len] at hr1; omega⟩ hl9
end
section
variable {P : D → SS → Prop} {E : D → SS → Prop}
theorem s_reach {ss : List Str} {ts : List Tk} {os : List (Str × Str)} {qs : List Pr} {row ws : List Str} (hts : ts.map Tk.name = ss) (hok : ∀ s ∈ ss, PySem.PyData.strOk s = true) (hb : Bd ss os qs) (hl : ss.length ≤ 26)
    (p : ∀ cs, Tb ss cs (Pa (stp os qs ws) (· ∈ ss)) → P (.dT .ow (dmP D.bl cs)) [none, none]) : (F_law_reach [wkD ts os qs row, .tup (ws.map D.str)]).ps P E := by
  unfold F_law_reach
  refine w_run ?_
  unfold f_law_reach
  have htl : ts.length = ss.length := by rw [← hts]; simp
  repeat' walk_at "t3"
  refine w_lcM ts tkD (fun t => .str t.name) ?_
  repeat' walk_at "t3"
  refine ⟨rfl, by unfold sizeLine; omega, ?_⟩
  repeat' walk_at "t3"
  refine ⟨fun t ht => ?_, ?_⟩
  · unfold tkD
    repeat' walk_at "t3"
  repeat' walk_at "t3"
  rw [show (ts.map fun t => D.str t.name) = ss.map D.str from by rw [← hts, List.map_map]; rfl]
  have hos : niceL 1 (os.map orD) = true := nice_os fun q hq => ⟨hok _ (hb.1 q hq).1, hok _ (hb.1 q hq).2⟩
  refine w_mid (fun S => ∃ (cs : List ((Str × Str) × Bool)) (x4 x5 : Option D), cs.length ≤ 26 * 26 ∧ Tb ss cs (fun a b => (a, b) ∈ os) ∧ S = [some (wkD ts os qs row), some (.tup (ws.map D.str)), some (.lst .fz (ss.map D.str)), some (.dT .ow (dmP D.bl cs)), x4, x5, none, none, none]) ?_ ?_
  · refine w_loop (fun i S => ∃ (cs : List ((Str × Str) × Bool)) (x4 x5 : Option D), cs.length ≤ i * ss.length ∧ (∀ q k, lkA cs q = some k → (k = true ↔ q ∈ os)) ∧ (∀ (i' j' : Nat) (a b : Str), i' < i → ss[i']? = some a → ss[j']? = some b → (lkA cs (a, b)).isSome = true) ∧ S = [some (wkD ts os qs row), some (.tup (ws.map D.str)), some (.lst .fz (ss.map D.str)), some (.dT .ow (dmP D.bl cs)), x4, x5, none, none, none]) ⟨[], _, _, by simp, by simp [lkA], fun i' j' a b h => by omega, rfl⟩ ?_ ?_
    · rintro i d S hi ⟨cs, x4, x5, h1, h2, h3, rfl⟩
      obtain ⟨a, ha, e⟩ := map_get hi
      subst e
      have hi1 := (List.getElem?_eq_some_iff.mp ha).1
      have hii : i * ss.length ≤ 25 * 26 := Nat.mul_le_mul (by omega) hl
      repeat' walk_at "t3"
      refine w_loop (fun j S => ∃ (cs : List ((Str × Str) × Bool)) (x5 : Option D), cs.length ≤ i * ss.length + j ∧ (∀ q k, lkA cs q = some k → (k = true ↔ q ∈ os)) ∧ (∀ (i' j' : Nat) (a b : Str), (i' < i ∨ (i' = i ∧ j' < j)) → ss[i']? = some a → ss[j']? = some b → (lkA cs (a, b)).isSome = true) ∧ S = [some (wkD ts os qs row), some (.tup (ws.map D.str)), some (.lst .fz (ss.map D.str)), some (.dT .ow (dmP D.bl cs)), some (.str a), x5, none, none, none]) ⟨cs, _, by omega, h2, fun i' j' a b h => h3 i' j' a b (by omega), rfl⟩ ?_ ?_
      · rintro j d S hj ⟨cs, x5, h1, h2, h3, rfl⟩
        obtain ⟨b, hb', e⟩ := map_get hj
        subst e
        have hj1 := (List.getElem?_eq_some_iff.mp hb').1
        have hab : nice 1 (.tup [.str a, .str b]) = true := by simp [nice, niceL, hok a (List.mem_of_getElem? ha), hok b (List.mem_of_getElem? hb')]
        repeat' walk_at "t3"
        refine o_inTX (n := 1) (m := 1) hab hos fun k hk => ?_
        have hk : k = true ↔ (a, b) ∈ os := hk.trans (mem_or (q := (a, b)))
        repeat' walk_at "t3"
        refine o_setP (f := D.bl) (by unfold sizeLine; omega) ?_
        repeat' walk_at "t3"
        refine ⟨_, _, ?_, ?_, ?_, rfl⟩
        · have := (put_len (cs := cs) (x := (a, b)) (v := k)).1
          omega
        · intro q k' hq
          rw [lkA_put] at hq
          by_cases e : q = (a, b)
          · rw [if_pos e] at hq
            cases hq
            rw [e]
            exact hk
          · rw [if_neg e] at hq
            exact h2 q k' hq
        · intro i' j' a' b' h ha' hb''
          rw [lkA_put]
          by_cases e : (a', b') = (a, b)
          · rw [if_pos e]; rfl
          · rw [if_neg e]
            refine h3 i' j' a' b' ?_ ha' hb''
            rcases h with h | ⟨h, h'⟩
            · exact .inl h
            · subst h
              refine .inr ⟨rfl, ?_⟩
              rcases Nat.lt_or_ge j' j with l | l
              · exact l
              · have e2 : j' = j := by omega
                subst e2
                rw [ha] at ha'
                rw [hb'] at hb''
                cases ha'
                cases hb''
                exact absurd rfl e
      · rintro S ⟨cs, x5, h1, h2, h3, rfl⟩
        rw [List.length_map] at h1 h3
        repeat' walk_at "t3"
        refine ⟨cs, _, _, ?_, h2, ?_, rfl⟩
        · rw [Nat.add_mul, Nat.one_mul]; exact h1
        · intro i' j' a' b' h ha' hb''
          refine h3 i' j' a' b' ?_ ha' hb''
          have := (List.getElem?_eq_some_iff.mp hb'').1
          omega
    · rintro S ⟨cs, x4, x5, h1, h2, h3, rfl⟩
      rw [List.length_map] at h1 h3
      refine m_nx ⟨cs, x4, x5, Nat.le_trans h1 (Nat.mul_le_mul hl hl), ⟨fun a ha b hb' => ?_⟩, rfl⟩
      obtain ⟨i, hi⟩ := List.getElem?_of_mem ha
      obtain ⟨j, hj⟩ := List.getElem?_of_mem hb'
      obtain ⟨k, hk⟩ := Option.isSome_iff_exists.mp (h3 i j a b (List.getElem?_eq_some_iff.mp hi).1 hi hj)
      exact ⟨k, hk, h2 _ _ hk⟩
  rintro S ⟨cs, x4, x5, hcl, hT, rfl⟩
  repeat' walk_at "t3"
  refine w_mid (fun S => ∃ (cs : List ((Str × Str) × Bool)) (x4 x5 x6 : Option D), cs.length ≤ 26 * 26 ∧ Tb ss cs (stp os qs ws) ∧ S = [some (wkD ts os qs row), some (.tup (ws.map D.str)), some (.lst .fz (ss.map D.str)), some (.dT .ow (dmP D.bl cs)), x4, x5, x6, none, none]) ?_ ?_
  · refine w_loop (fun t S => ∃ (cs : List ((Str × Str) × Bool)) (x4 x5 x6 : Option D), cs.length ≤ 26 * 26 ∧ Tb ss cs (stp os (qs.take t) ws) ∧ S = [some (wkD ts os qs row), some (.tup (ws.map D.str)), some (.lst .fz (ss.map D.str)), some (.dT .ow (dmP D.bl cs)), x4, x5, x6, none, none]) ⟨cs, _, _, _, hcl, hT.iff fun a b => by simp [stp], rfl⟩ ?_ ?_
    · rintro t d S ht ⟨cs, x4, x5, x6, h1, h2, rfl⟩
      obtain ⟨q, hq, e⟩ := map_get ht
      subst e
      have hqm := List.mem_of_getElem? hq
      have hqb := hb.2 q hqm
      unfold prD
      repeat' walk_at "t3"
      refine w_ifS ?_
      repeat' walk_at "t3"
      refine o_inST ?_
      repeat' walk_at "t3"
      refine ⟨fun hw => ?_, fun hw => ?_⟩
      · have hw : wrd q ∈ ws := of_decide_eq_true hw
        repeat' walk_at "t3"
        refine o_setP (f := D.bl) (v := true) (by unfold sizeLine; omega) ?_
        repeat' walk_at "t3"
        have h3 := h2.put hqb.1 hqb.2
        have h4 := h3.2.put hqb.2 hqb.1
        refine o_setP (f := D.bl) (v := true) (by unfold sizeLine; omega) ?_
        repeat' walk_at "t3"
        refine ⟨_, _, _, _, ?_, ?_, rfl⟩
        · omega
        · refine h4.2.iff fun a b => ?_
          rw [List.take_add_one, hq]
          simp only [stp, Option.toList_some, List.mem_append, List.mem_singleton]
          constructor
          · rintro (((h | ⟨p, hp, h⟩) | h) | h)
            · exact .inl h
            · exact .inr ⟨p, .inl hp, h⟩
            · exact .inr ⟨q, .inr rfl, hw, .inl h⟩
            · exact .inr ⟨q, .inr rfl, hw, .inr h⟩
          · rintro (h | ⟨p, hp | rfl, h, h' | h'⟩)
            · exact .inl (.inl (.inl h))
            · exact .inl (.inl (.inr ⟨p, hp, h, .inl h'⟩))
            · exact .inl (.inl (.inr ⟨p, hp, h, .inr h'⟩))
            · exact .inl (.inr h')
            · exact .inr h'
      · have hw : wrd q ∉ ws := of_decide_eq_false hw
        repeat' walk_at "t3"
        refine ⟨cs, _, _, _, h1, h2.iff fun a b => ?_, rfl⟩
        rw [List.take_add_one, hq]
        simp only [stp, Option.toList_some, List.mem_append, List.mem_singleton]
        constructor
        · rintro (h | ⟨p, hp, h⟩)
          · exact .inl h
          · exact .inr ⟨p, .inl hp, h⟩
        · rintro (h | ⟨p, hp | rfl, h, h'⟩)
          · exact .inl h
          · exact .inr ⟨p, hp, h, h'⟩
          · exact absurd h hw
    · rintro S ⟨cs, x4, x5, x6, h1, h2, rfl⟩
      rw [List.length_map, List.take_length] at h2
      exact m_nx ⟨cs, x4, x5, x6, h1, h2, rfl⟩
  rintro S ⟨cs, x4, x5, x6, hcl, hT, rfl⟩
  repeat' walk_at "t3"
  generalize hr : stp os qs ws = r at hT p
  refine w_loop (fun t S => ∃ (cs : List ((Str × Str) × Bool)) (T : Str → Str → Prop) (x4 x5 x7 : Option D), cs.length ≤ 26 * 26 ∧ Tb ss cs T ∧ (∀ a b, T a b → Pa r (· ∈ ss) a b) ∧ (∀ a ∈ ss, ∀ b ∈ ss, Pa r (fun x => x ∈ ss.take t) a b → T a b) ∧ S = [some (wkD ts os qs row), some (.tup (ws.map D.str)), some (.lst .fz (ss.map D.str)), some (.dT .ow (dmP D.bl cs)), x4, x5, x6, x7, none]) ⟨cs, r, _, _, _, hcl, hT, fun a b h => .one h, fun a _ b _ h => ?_, rfl⟩ ?_ ?_
  · clear p hT
    induction h with
    | one h => exact h
    | via _ hm _ => simp at hm
  · rintro t d S ht ⟨cs, T, x4, x5, x7, h1, h2, h3, h4, rfl⟩
    obtain ⟨m, hm, e⟩ := map_get ht
    subst e
    have hms := List.mem_of_getElem? hm
    repeat' walk_at "t3"
    refine w_loop (fun i S => ∃ (cs : List ((Str × Str) × Bool)) (T : Str → Str → Prop) (x4 x5 : Option D), cs.length ≤ 26 * 26 ∧ Tb ss cs T ∧ (∀ a b, T a b → Pa r (· ∈ ss) a b) ∧ (∀ a ∈ ss, ∀ b ∈ ss, Pa r (fun x => x ∈ ss.take t) a b → T a b) ∧ (∀ a ∈ ss.take i, ∀ b ∈ ss, Pa r (fun x => x ∈ ss.take t) a m → Pa r (fun x => x ∈ ss.take t) m b → T a b) ∧ S = [some (wkD ts os qs row), some (.tup (ws.map D.str)), some (.lst .fz (ss.map D.str)), some (.dT .ow (dmP D.bl cs)), x4, x5, x6, some (.str m), none]) ⟨cs, T, _, _, h1, h2, h3, h4, by simp, rfl⟩ ?_ ?_
    · rintro i d S hi ⟨cs, T, x4, x5, h1, h2, h3, h4, h5, rfl⟩
      obtain ⟨a, ha, e⟩ := map_get hi
      subst e
      have has := List.mem_of_getElem? ha
      repeat' walk_at "t3"
      refine w_loop (fun j S => ∃ (cs : List ((Str × Str) × Bool)) (T : Str → Str → Prop) (x5 : Option D), cs.length ≤ 26 * 26 ∧ Tb ss cs T ∧ (∀ a b, T a b → Pa r (· ∈ ss) a b) ∧ (∀ a ∈ ss, ∀ b ∈ ss, Pa r (fun x => x ∈ ss.take t) a b → T a b) ∧ (∀ a ∈ ss.take i, ∀ b ∈ ss, Pa r (fun x => x ∈ ss.take t) a m → Pa r (fun x => x ∈ ss.take t) m b → T a b) ∧ (∀ b ∈ ss.take j, Pa r (fun x => x ∈ ss.take t) a m → Pa r (fun x => x ∈ ss.take t) m b → T a b) ∧ S = [some (wkD ts os qs row), some (.tup (ws.map D.str)), some (.lst .fz (ss.map D.str)), some (.dT .ow (dmP D.bl cs)), some (.str a), x5, x6, some (.str m), none]) ⟨cs, T, _, h1, h2, h3, h4, h5, by simp, rfl⟩ ?_ ?_
      · rintro j d S hj ⟨cs, T, x5, h1, h2, h3, h4, h5, h6, rfl⟩
        obtain ⟨b, hb', e⟩ := map_get hj
        subst e
        have hbs := List.mem_of_getElem? hb'
        obtain ⟨k1, e1, hk1⟩ := h2.dom a has m hms
        obtain ⟨k2, e2, hk2⟩ := h2.dom m hms b hbs
        repeat' walk_at "t3"
        refine w_ifS ?_
        repeat' walk_at "t3"
        refine o_ixP e1 ?_
        repeat' walk_at "t3"
        have keep : (k1 = true → k2 = true → T a b) → ∀ b' ∈ ss.take (j + 1), Pa r (fun x => x ∈ ss.take t) a m → Pa r (fun x => x ∈ ss.take t) m b' → T a b' := fun hk b' hb'' p1 p2 => by
          rw [List.take_add_one, hb'] at hb''
          rcases List.mem_append.mp hb'' with h | h
          · exact h6 b' h p1 p2
          · simp at h
            subst h
            exact hk (hk1.mpr (h4 a has m hms p1)) (hk2.mpr (h4 m hms _ hbs p2))
        refine ⟨fun t1 => ?_, fun t1 => ?_⟩
        · repeat' walk_at "t3"
          refine o_ixP e2 ?_
          repeat' walk_at "t3"
          refine ⟨fun t2 => ?_, fun t2 => ?_⟩
          · repeat' walk_at "t3"
            refine o_setP (f := D.bl) (v := true) (by unfold sizeLine; omega) ?_
            repeat' walk_at "t3"
            have h7 := h2.put has hbs
            refine ⟨_, _, _, ?_, h7.2, ?_, ?_, ?_, ?_, rfl⟩
            · omega
            · rintro x y (h | ⟨rfl, rfl⟩)
              · exact h3 x y h
              · exact .via (h3 _ _ (hk1.mp t1)) hms (h3 _ _ (hk2.mp t2))
            · exact fun x hx y hy h => .inl (h4 x hx y hy h)
            · exact fun x hx y hy p1 p2 => .inl (h5 x hx y hy p1 p2)
            · intro b' hb'' p1 p2
              rw [List.take_add_one, hb'] at hb''
              rcases List.mem_append.mp hb'' with h | h
              · exact .inl (h6 b' h p1 p2)
              · simp at h
                exact .inr ⟨rfl, h⟩
          · repeat' walk_at "t3"
            exact ⟨cs, T, _, h1, h2, h3, h4, h5, keep (fun _ e => by rw [t2] at e; cases e), rfl⟩
        · repeat' walk_at "t3"
          exact ⟨cs, T, _, h1, h2, h3, h4, h5, keep (fun e _ => by rw [t1] at e; cases e), rfl⟩
      · rintro S ⟨cs, T, x5, h1, h2, h3, h4, h5, h6, rfl⟩
        rw [List.length_map, List.take_length] at h6
        repeat' walk_at "t3"
        refine ⟨cs, T, _, _, h1, h2, h3, h4, ?_, rfl⟩
        intro a' ha' b hb' p1 p2
        rw [List.take_add_one, ha] at ha'
        rcases List.mem_append.mp ha' with h | h
        · exact h5 a' h b hb' p1 p2
        · simp at h
          subst h
          exact h6 b hb' p1 p2
    · rintro S ⟨cs, T, x4, x5, h1, h2, h3, h4, h5, rfl⟩
      rw [List.length_map, List.take_length] at h5
      repeat' walk_at "t3"
      refine ⟨cs, T, _, _, _, h1, h2, h3, fun a ha b hb' pp => ?_, rfl⟩
      rw [List.take_add_one, hm] at pp
      have pp' : Pa r (fun x => x ∈ ss.take t ∨ x = m) a b := pp.mono fun x hx => by simpa using hx
      rcases pp'.split with h | ⟨p1, p2⟩
      · exact h4 a ha b hb' h
      · exact h5 a ha b hb' p1 p2
  · rintro S ⟨cs, T, x4, x5, x7, h1, h2, h3, h4, rfl⟩
    rw [List.length_map, List.take_length] at h4
    repeat' walk_at "t3"
    exact p cs ⟨fun a ha b hb' => by
      obtain ⟨k, e, hk⟩ := h2.dom a ha b hb'
      exact ⟨k, e, hk.trans ⟨h3 a b, h4 a ha b hb'⟩⟩⟩
end
section
variable {P : D → SS → Prop} {E : D → SS → Prop}
end
def atT (kind : Str) (t : Tk) : Bool := decide (t.kinds = []) || decide (kind ∈ t.kinds)
section
variable {P : D → SS → Prop} {E : D → SS → Prop}
theorem s_law_at {kind : Str} {us : List Tk} (hk : ∀ t ∈ us, ∀ x ∈ t.kinds, PySem.PyData.strOk x = true) (hl : us.length ≤ 1000)
    (p : P (.bl (us.all (atT kind))) [none, some (.lst .fz (us.map tkD))]) : (F_law_at [.str kind, .lst .fz (us.map tkD)]).ps P E := by
  unfold F_law_at
  refine w_run ?_
  unfold f_law_at
  repeat' walk_at "t3"
  refine w_lcM us tkD (fun t => .bl (atT kind t)) ?_
  repeat' walk_at "t3"
  refine ⟨rfl, by unfold sizeLine; omega, ?_⟩
  repeat' walk_at "t3"
  refine ⟨fun t ht => ?_, ?_⟩
  · unfold tkD
    repeat' walk_at "t3"
    refine w_orV ?_
    repeat' walk_at "t3"
    refine o_eqST (js := []) (hk t ht) (by simp) ?_
    refine ⟨_, rfl, fun he => ?_, fun he => ?_⟩
    · repeat' walk_at "t3"
      refine ⟨by unfold atT; rw [he]; rfl, ?_⟩
      repeat' walk_at "t3"
    · repeat' walk_at "t3"
      refine o_inST ?_
      repeat' walk_at "t3"
      refine ⟨by unfold atT; rw [he]; rfl, ?_⟩
      repeat' walk_at "t3"
  · repeat' walk_at "t3"
    exact p
def strip (t : Tk) : Tk := ⟨t.name, t.len, []⟩
theorem s_law_soundT (T : Tk → Prop) (hst : ∀ t, T t → T (strip t)) {ss : List Str} {ts : List Tk} {os : List (Str × Str)} {qs : List Pr} {row : List Str} (W : Wk ss ts os qs) (hk : ∀ t ∈ ts, ∀ x ∈ t.kinds, PySem.PyData.strOk x = true) (hl : ∀ t ∈ ts, T t) (hne : ∀ q ∈ qs, q.a ≠ q.b) (hrl : row.length ≤ 1000)
    (p : ∀ ts' qs', Wk ss ts' os qs' → (∀ t ∈ ts', T t) → (∀ t ∈ ts', ∀ x ∈ t.kinds, PySem.PyData.strOk x = true) → (∀ q ∈ qs', q.w = false → ¬ (leR (Ch ss os qs') q.a q.b ∧ leR (Ch ss os qs') q.b q.a)) → P (wkD ts' os qs' row) [none]) : (F_law_sound [wkD ts os qs row]).ps P E := by
  unfold F_law_sound
  refine w_run ?_
  unfold f_law_sound
  have htl := W.tl
  have hsl := W.sl
  have hql := W.ql
  repeat' walk_at "t3"
  refine s_reach (ws := ["with"]) W.nm W.ok W.bd (by omega) fun cs hT => ?_
  repeat' walk_at "t3"
  refine fz_dT ?_
  repeat' walk_at "t3"
  let stt : List Tk → List Pr → Option D → Option D → Option D → Option D → Option D → Option D → Option D → SS := fun us qs' x6 x7 x8 x9 x10 x11 x12 => [some (wkD ts os qs row), some (.tup (us.map tkD)), some (.tup (os.map orD)), some (.tup (qs'.map prD)), some (.tup (row.map D.str)), some (.dT .fz (dmP D.bl cs)), x6, x7, x8, x9, x10, x11, x12, none, none, none, none, none]
  refine w_loop (fun j S => ∃ (qs' : List Pr) (x6 x7 x8 : Option D), ((qs' = qs ∧ ∀ k q, k < j → qs[k]? = some q → q.w = false → ¬ (Ch ss os qs q.a q.b ∧ Ch ss os qs q.b q.a)) ∨ qs' = qs.filter (·.w)) ∧ S = stt ts qs' x6 x7 x8 none none none none)
    ⟨qs, _, _, _, .inl ⟨rfl, fun k q h => by omega⟩, rfl⟩ ?_ ?_
  · rintro j d S hj ⟨qs', x6, x7, x8, hq', rfl⟩
    obtain ⟨q, hq, e⟩ := map_get hj
    subst e
    have hqm := List.mem_of_getElem? hq
    obtain ⟨ha, hb⟩ := W.bd.2 q hqm
    obtain ⟨k1, e1, f1⟩ := hT.dom q.a ha q.b hb
    obtain ⟨k2, e2, f2⟩ := hT.dom q.b hb q.a ha
    have hwo : PySem.PyData.strOk (if q.w = true then ("with" : Str) else "apart") = true := by cases q.w <;> decide +kernel
    have hwe : decide ((if q.w = true then ("with" : Str) else "apart") = "apart") = !q.w := by cases q.w <;> decide +kernel
    have stp : ∀ {u v w : Option D}, (q.w = false → ¬ (Ch ss os qs q.a q.b ∧ Ch ss os qs q.b q.a)) → ∃ (qs'' : List Pr) (x6 x7 x8 : Option D), ((qs'' = qs ∧ ∀ k q, k < j + 1 → qs[k]? = some q → q.w = false → ¬ (Ch ss os qs q.a q.b ∧ Ch ss os qs q.b q.a)) ∨ qs'' = qs.filter (·.w)) ∧ stt ts qs' u v w none none none none = stt ts qs'' x6 x7 x8 none none none none := fun {u v w} h3 => by
      refine ⟨qs', _, _, _, ?_, rfl⟩
      rcases hq' with ⟨rfl, h2⟩ | h2
      · refine .inl ⟨rfl, fun k u hk hu => ?_⟩
        rcases Nat.lt_or_ge k j with z | z
        · exact h2 k u z hu
        · have : k = j := by omega
          subst this
          rw [hq] at hu
          cases hu
          exact h3
      · exact .inr h2
    unfold prD
    repeat' walk_at "t3"
    refine w_ifS ?_
    repeat' walk_at "t3"
    refine o_eqS hwo (by decide +kernel) ?_
    rw [hwe]
    repeat' walk_at "t3"
    refine ⟨fun hw => ?_, fun hw => ?_⟩
    · have hw' : q.w = false := by simpa using hw
      repeat' walk_at "t3"
      refine o_ixP e1 ?_
      repeat' walk_at "t3"
      refine ⟨fun h1 => ?_, fun h1 => ?_⟩
      · repeat' walk_at "t3"
        refine o_ixP e2 ?_
        repeat' walk_at "t3"
        refine ⟨fun h2 => ?_, fun h2 => ?_⟩
        · repeat' walk_at "t3"
          refine w_lcT qs prD prD (fun q => q.w) ?_
          repeat' walk_at "t3"
          refine ⟨rfl, by unfold sizeLine; omega, ?_⟩
          repeat' walk_at "t3"
          refine ⟨fun q hq => ?_, ?_⟩
          · have hwo : PySem.PyData.strOk (if q.w = true then ("with" : Str) else "apart") = true := by cases q.w <;> decide +kernel
            have hwe : decide ((if q.w = true then ("with" : Str) else "apart") = "with") = q.w := by cases q.w <;> decide +kernel
            unfold prD
            repeat' walk_at "t3"
            refine o_eqS hwo (by decide +kernel) ?_
            rw [hwe]
            repeat' walk_at "t3"
            refine ⟨rfl, fun _ => ?_, fun _ => ?_⟩
            · repeat' walk_at "t3"
              try (refine ⟨rfl, ?_⟩; repeat' walk_at "t3")
            · repeat' walk_at "t3"
          · repeat' walk_at "t3"
            exact ⟨_, _, _, _, .inr rfl, rfl⟩
        · repeat' walk_at "t3"
          exact stp fun _ z => by rw [f2.mpr z.2] at h2; cases h2
      · repeat' walk_at "t3"
        exact stp fun _ z => by rw [f1.mpr z.1] at h1; cases h1
    · repeat' walk_at "t3"
      exact stp fun z => by rw [z] at hw; cases hw
  · rintro S ⟨qs', x6, x7, x8, hq', rfl⟩
    rw [List.length_map] at hq'
    repeat' walk_at "t3"
    refine w_loop (fun j S => ∃ (us : List Tk) (x6 x7 x8 x9 x10 x11 x12 : Option D), (us = ts ∨ us = ts.map strip) ∧ S = stt us qs' x6 x7 x8 x9 x10 x11 x12)
      ⟨ts, _, _, _, _, _, _, _, .inl rfl, rfl⟩ ?_ ?_
    · rintro j d S hj ⟨us, x6, x7, x8, x9, x10, x11, x12, hus, rfl⟩
      obtain ⟨t, ht, e⟩ := map_get hj
      subst e
      have htm := List.mem_of_getElem? ht
      have hin : ∀ u ∈ ts, u.name ∈ ss := fun u hu => by rw [← W.nm]; exact List.mem_map.mpr ⟨u, hu, rfl⟩
      unfold tkD
      repeat' walk_at "t3"
      let pr : Tk → Bool := fun u => (lkA cs (u.name, t.name)).getD false && (lkA cs (t.name, u.name)).getD false
      refine w_lcT ts tkD tkD pr ?_
      repeat' walk_at "t3"
      refine ⟨rfl, by unfold sizeLine; omega, ?_⟩
      repeat' walk_at "t3"
      refine ⟨fun u hu => ?_, ?_⟩
      · obtain ⟨k1, e1, f1⟩ := hT.dom u.name (hin u hu) t.name (hin t htm)
        obtain ⟨k2, e2, f2⟩ := hT.dom t.name (hin t htm) u.name (hin u hu)
        have hpr : pr u = (k1 && k2) := by show ((lkA cs (u.name, t.name)).getD false && (lkA cs (t.name, u.name)).getD false) = _; rw [e1, e2]; rfl
        rw [hpr]
        unfold tkD
        repeat' walk_at "t3"
        refine o_ixP e1 ?_
        repeat' walk_at "t3"
        refine ⟨fun h1 => ?_, fun h1 => ?_⟩
        · repeat' walk_at "t3"
          refine o_ixP e2 ?_
          repeat' walk_at "t3"
          refine ⟨by rw [h1]; rfl, fun _ => ?_, fun _ => ?_⟩
          · repeat' walk_at "t3"
            try (refine ⟨rfl, ?_⟩; repeat' walk_at "t3")
          · repeat' walk_at "t3"
        · repeat' walk_at "t3"
          refine ⟨by rw [h1]; rfl, fun z => (by cases z), fun _ => ?_⟩
          repeat' walk_at "t3"
      have hgl : (ts.filter pr).length ≤ ts.length := List.length_filter_le _ _
      repeat' walk_at "t3"
      refine o_append (by rw [List.length_map]; unfold sizeLine; omega) ?_
      repeat' walk_at "t3"
      rw [show (ts.filter pr).map tkD ++ [.tup [.str t.name, .int t.len, .tup (t.kinds.map D.str)]] = (ts.filter pr ++ [t]).map tkD from by rw [List.map_append]; rfl]
      generalize hgr : ts.filter pr ++ [t] = gr
      have hgr1 : ∀ u ∈ gr, ∀ x ∈ u.kinds, PySem.PyData.strOk x = true := fun u hu => by
        rw [← hgr] at hu
        rcases List.mem_append.mp hu with hu | hu
        · exact hk u (List.mem_filter.mp hu).1
        · simp at hu
          subst hu
          exact hk _ htm
      have hgr2 : gr.length ≤ 1000 := by rw [← hgr, List.length_append]; simp; omega
      repeat' walk_at "t3"
      refine w_ifS ?_
      repeat' walk_at "t3"
      refine w_lcM row D.str (fun k => .bl (gr.all (atT k))) ?_
      repeat' walk_at "t3"
      refine ⟨rfl, by unfold sizeLine; omega, ?_⟩
      repeat' walk_at "t3"
      refine ⟨fun k hk => ?_, ?_⟩
      · repeat' walk_at "t3"
        refine s_law_at hgr1 hgr2 ?_
        repeat' walk_at "t3"
        try (refine ⟨rfl, ?_⟩; repeat' walk_at "t3")
      repeat' walk_at "t3"
      refine ⟨fun h => ?_, fun h => ?_⟩
      · repeat' walk_at "t3"
        refine w_lcM ts tkD (fun t => tkD (strip t)) ?_
        repeat' walk_at "t3"
        refine ⟨rfl, by unfold sizeLine; omega, ?_⟩
        repeat' walk_at "t3"
        refine ⟨fun u hu => ?_, ?_⟩
        · unfold tkD strip
          repeat' walk_at "t3"
          try (refine ⟨rfl, ?_⟩; repeat' walk_at "t3")
        repeat' walk_at "t3"
        rw [show ts.map (fun t => tkD (strip t)) = (ts.map strip).map tkD from by rw [List.map_map]; rfl]
        exact ⟨ts.map strip, _, _, _, _, _, _, _, .inr rfl, rfl⟩
      · repeat' walk_at "t3"
        exact ⟨us, _, _, _, _, _, _, _, hus, rfl⟩
    · rintro S ⟨us, x6, x7, x8, x9, x10, x11, x12, hus, rfl⟩
      repeat' walk_at "t3"
      refine p us qs' ?_ ?_ ?_ ?_
      · refine ⟨?_, W.nd, W.ok, ⟨W.bd.1, fun q hq => W.bd.2 q ?_⟩, W.sl, W.ol, ?_⟩
        · rcases hus with rfl | rfl
          · exact W.nm
          · rw [List.map_map]; exact W.nm
        · rcases hq' with ⟨rfl, _⟩ | rfl
          · exact hq
          · exact (List.mem_filter.mp hq).1
        · rcases hq' with ⟨rfl, _⟩ | rfl
          · exact W.ql
          · exact Nat.le_trans (List.length_filter_le _ _) W.ql
      · intro u hu
        rcases hus with rfl | rfl
        · exact hl u hu
        · obtain ⟨v, hv, rfl⟩ := List.mem_map.mp hu
          exact hst v (hl v hv)
      · intro u hu
        rcases hus with rfl | rfl
        · exact hk u hu
        · obtain ⟨v, hv, rfl⟩ := List.mem_map.mp hu
          intro x hx
          cases hx
      · intro q hq hw
        rcases hq' with ⟨rfl, h2⟩ | rfl
        · obtain ⟨k, hk⟩ := List.getElem?_of_mem hq
          have := h2 k q (List.getElem?_eq_some_iff.mp hk).1 hk hw
          rintro ⟨l1, l2⟩
          exact this ⟨l1.resolve_left (hne q hq), l2.resolve_left fun z => hne q hq z.symm⟩
        · have := (List.mem_filter.mp hq).2
          rw [hw] at this
          cases this
end
structure TkS (t : Tk) : Prop where
  l0 : 0 ≤ t.len
  l1 : t.len < 10 ^ 69
  kn : ∀ x ∈ t.kinds, Nm x
  kl : t.kinds.length ≤ 4
theorem wd_len8 {s : Str} (h : Nm s) : s.length ≤ 8 := by
  obtain ⟨w, rfl, _, h8, _⟩ := h
  unfold wd
  rw [tx_len, List.length_map]
  exact h8
theorem sh_nm {s : Str} (h : Nm s) : Sh (.str s) 0 8 := sh_str (wd_len8 h) h.ok
theorem sh_tk {t : Tk} (h : TkS t) (hn : Nm t.name) : Sh (tkD t) 2 705 := by
  have h1 : Sh (.tup (t.kinds.map D.str)) 1 234 := (sh_tup (m := 26) (n := 0) (b := 8) (fun x hx => by
    obtain ⟨s, hs, rfl⟩ := List.mem_map.mp hx
    exact sh_nm (h.kn s hs)) (by rw [List.length_map]; have := h.kl; omega))
  refine sh_tup (m := 3) (n := 1) (b := 234) (fun x hx => ?_) (by simp)
  simp only [List.mem_cons, List.not_mem_nil, or_false] at hx
  rcases hx with rfl | rfl | rfl
  · exact (sh_nm hn).more (by decide) (by decide)
  · exact (sh_int h.l0 (Int.lt_of_lt_of_le h.l1 (by decide +kernel))).more (by decide) (by decide)
  · exact h1
section
variable {ss : List Str} {ts : List Tk} {os : List (Str × Str)} {qs : List Pr} {row : List Str} {zs : List (Tk × Int)} {m0 m1 : Nat}
theorem sh_tks (W : Wk ss ts os qs) (hn : ∀ s ∈ ss, Nm s) (ht : ∀ t ∈ ts, TkS t) : Sh (.tup (ts.map tkD)) 3 18356 := by
  have htl := W.tl
  have hsl := W.sl
  refine sh_tup (m := 26) (n := 2) (b := 705) (fun x hx => ?_) (by rw [List.length_map]; omega)
  obtain ⟨t, h, rfl⟩ := List.mem_map.mp hx
  exact sh_tk (ht t h) (hn _ (by rw [← W.nm]; exact List.mem_map.mpr ⟨t, h, rfl⟩))
theorem sh_wk (W : Wk ss ts os qs) (hn : ∀ s ∈ ss, Nm s) (ht : ∀ t ∈ ts, TkS t) (hr : ∀ x ∈ row, Nm x) (hrl : row.length ≤ 8) : Sh (wkD ts os qs row) 4 112004 := by
  have h1 := sh_tks W hn ht
  have h2 : Sh (.tup (os.map orD)) 2 19000 := sh_tup (m := 1000) (n := 1) (b := 18) (fun x hx => by
    obtain ⟨q, hq, rfl⟩ := List.mem_map.mp hx
    have hb := W.bd.1 q hq
    refine sh_tup (m := 2) (n := 0) (b := 8) (fun y hy => ?_) (by simp)
    simp only [List.mem_cons, List.not_mem_nil, or_false] at hy
    rcases hy with rfl | rfl
    · exact sh_nm (hn _ hb.1)
    · exact sh_nm (hn _ hb.2)) (by rw [List.length_map]; exact W.ol)
  have h3 : Sh (.tup (qs.map prD)) 2 28000 := sh_tup (m := 1000) (n := 1) (b := 27) (fun x hx => by
    obtain ⟨q, hq, rfl⟩ := List.mem_map.mp hx
    have hb := W.bd.2 q hq
    refine sh_tup (m := 3) (n := 0) (b := 8) (fun y hy => ?_) (by simp)
    simp only [List.mem_cons, List.not_mem_nil, or_false] at hy
    rcases hy with rfl | rfl | rfl
    · refine sh_str ?_ (by cases q.w <;> decide +kernel)
      cases q.w <;> decide
    · exact sh_nm (hn _ hb.1)
    · exact sh_nm (hn _ hb.2)) (by rw [List.length_map]; exact W.ql)
  have h4 : Sh (.tup (row.map D.str)) 1 72 := sh_tup (m := 8) (n := 0) (b := 8) (fun x hx => by
    obtain ⟨s, hs, rfl⟩ := List.mem_map.mp hx
    exact sh_nm (hr s hs)) (by rw [List.length_map]; exact hrl)
  refine sh_tup (m := 4) (n := 3) (b := 28000) (fun x hx => ?_) (by simp)
  simp only [List.mem_cons, List.not_mem_nil, or_false] at hx
  rcases hx with rfl | rfl | rfl | rfl
  · exact h1.more (by decide) (by decide)
  · exact h2.more (by decide) (by decide)
  · exact h3.more (by decide) (by decide)
  · exact h4.more (by decide) (by decide)
theorem mix_tks (h0 : m0 ≤ 5) (h1 : m1 ≤ 5) (h : ∀ t ∈ zs.map (·.1), TkS t ∧ t.len < 10 ^ 62) (hv : ∀ v ∈ zs.map (·.2), 0 ≤ v ∧ v < 10 ^ 60) : ∀ t ∈ mts zs m0 m1, TkS t := fun t ht => by
  obtain ⟨z, hz, rfl⟩ := mem_mts ht
  obtain ⟨a, b⟩ := h z.1 (List.mem_map.mpr ⟨z, hz, rfl⟩)
  obtain ⟨c, d⟩ := hv z.2 (List.mem_map.mpr ⟨z, hz, rfl⟩)
  have h3 := mul_bd (a := (m0 : Int)) (b := z.1.len) (by omega) a.l0 (m := 5) (n := 10 ^ 62) (by omega) (by omega)
  have h4 := mul_bd (a := (m1 : Int)) (b := z.2) (by omega) c (m := 5) (n := 10 ^ 60) (by omega) (by omega)
  have e1 : (5 : Int) * 10 ^ 62 + 5 * 10 ^ 60 < 10 ^ 69 := by decide +kernel
  refine ⟨?_, ?_, a.kn, a.kl⟩
  · show 0 ≤ (m0 : Int) * z.1.len + (m1 : Int) * z.2
    omega
  · show (m0 : Int) * z.1.len + (m1 : Int) * z.2 < 10 ^ 69
    omega
end
section
variable {P : D → SS → Prop} {E : D → SS → Prop}
variable {zs : List (Tk × Int)} {ts : List Tk} {os : List (Str × Str)} {qs : List Pr} {row : List Str} {m0 m1 : Nat}
theorem s_mixed80 (hz : zs.length ≤ 1000) (h0 : m0 ≤ 1000) (h1 : m1 ≤ 1000) (p : P (wkD (mts zs m0 m1) os qs row) [none, some (otD zs), none]) : (F_mixed_works [wkD (zs.map (·.1)) os qs row, otD zs, .tup [.int (m0 : Nat), .int (m1 : Nat)]]).ps P E := by
  unfold F_mixed_works
  refine w_run ?_
  unfold f_mixed_works
  unfold otD
  repeat' walk_at "t3"
  refine .inr ⟨_, _, rfl, rfl, ?_⟩
  rw [zip_zs]
  refine w_loop (fun j S => ∃ x6 x7 x8 x9 x10 : Option D, S = [some (wkD (zs.map (·.1)) os qs row), some (.tup ((zs.map (·.2)).map D.int)), some (.tup [.int (m0 : Nat), .int (m1 : Nat)]), some (.int (m0 : Nat)), some (.int (m1 : Nat)), some (.lst .ow ((mts (zs.take j) m0 m1).map tkD)), x6, x7, x8, x9, x10]) ⟨none, none, none, none, none, rfl⟩ ?_ ?_
  · rintro j d S hj ⟨x6, x7, x8, x9, x10, rfl⟩
    obtain ⟨z, hz2, rfl⟩ := map_get hj
    have hjl := (List.getElem?_eq_some_iff.mp hz2).1
    have hsz : (mts (zs.take j) m0 m1).length < sizeLine := by
      unfold mts
      rw [List.length_map, List.length_take]
      unfold sizeLine
      omega
    rw [show tkD z.1 = .tup [.str z.1.name, .int z.1.len, .tup (z.1.kinds.map D.str)] from rfl]
    repeat' walk_at "t3"
    rw [show D.tup [D.str z.1.name, D.int ((m0 : Int) * z.1.len + (m1 : Int) * z.2), D.tup (z.1.kinds.map D.str)] = tkD (mixT m0 m1 z) from rfl]
    refine o_appendM (f := tkD) hsz ?_
    repeat' walk_at "t3"
    rw [show mts (zs.take (j + 1)) m0 m1 = mts (zs.take j) m0 m1 ++ [mixT m0 m1 z] from by unfold mts; rw [List.take_add_one, hz2, List.map_append]; rfl]
    exact ⟨_, _, _, _, _, rfl⟩
  · rintro S ⟨x6, x7, x8, x9, x10, rfl⟩
    rw [List.length_map, List.take_length]
    repeat' walk_at "t3"
    refine gv_of (d := wkD (mts zs m0 m1) os qs row) ?_ ?_
    · show (if (4 : Nat) ≤ sizeLine then some (D.tup _) else none) = _
      rw [if_pos (by decide)]
      rfl
    repeat' walk_at "t3"
    exact p
end
theorem rep_int (x : Int) : ∀ n : Nat, (List.replicate n [D.int x]).flatten = (List.replicate n x).map D.int
  | 0 => rfl
  | n + 1 => by rw [List.replicate_succ, List.flatten_cons, rep_int x n, List.replicate_succ]; rfl
theorem rep_sum (x : Int) : ∀ n : Nat, (List.replicate n x).sum = (n : Int) * x
  | 0 => by simp
  | n + 1 => by
    rw [List.replicate_succ, List.sum_cons, rep_sum x n]
    have : ((n + 1 : Nat) : Int) * x = (n : Int) * x + x := by rw [show ((n + 1 : Nat) : Int) = (n : Int) + 1 from by omega, Int.add_mul, Int.one_mul]
    omega
theorem o_mulI {x : Int} {m : Nat} {R : D → Prop} (h : m ≤ 1000) (p : R (.lst .ow ((List.replicate m x).map D.int))) : gv (gMul (.lst .ow [.int x]) (.int (m : Nat))) R := by
  refine gv_of (d := .lst .ow ((List.replicate m x).map D.int)) ?_ p
  have hsz : [D.int x].length * ((m : Nat) : Int).toNat ≤ sizeLine := by
    have : sizeLine = 16777216 := rfl
    rw [Int.toNat_natCast, List.length_singleton]
    omega
  unfold gMul
  dsimp only
  rw [if_pos ⟨by omega, by omega, hsz⟩, Int.toNat_natCast, rep_int]
theorem nice_wk {ss : List Str} {ts : List Tk} {os : List (Str × Str)} {qs : List Pr} {row : List Str} (hW : Wk ss ts os qs) (hk : ∀ t ∈ ts, ∀ x ∈ t.kinds, PySem.PyData.strOk x = true) (hr : ∀ k ∈ row, PySem.PyData.strOk k = true) : nice 4 (wkD ts os qs row) = true := by
  have h1 : niceL 2 (ts.map tkD) = true := niceL_all.mpr fun d hd => by
    obtain ⟨t, ht, rfl⟩ := List.mem_map.mp hd
    have hn : PySem.PyData.strOk t.name = true := hW.ok _ (by rw [← hW.nm]; exact List.mem_map.mpr ⟨t, ht, rfl⟩)
    simp [tkD, nice, niceL, hn, nice_strs (hk t ht)]
  have h2 : niceL 2 (os.map orD) = true := niceL_all.mpr fun d hd => by
    obtain ⟨q, hq, rfl⟩ := List.mem_map.mp hd
    have := hW.bd.1 q hq
    simp [orD, nice, niceL, hW.ok _ this.1, hW.ok _ this.2]
  have h3 : niceL 2 (qs.map prD) = true := niceL_all.mpr fun d hd => by
    obtain ⟨q, hq, rfl⟩ := List.mem_map.mp hd
    have := hW.bd.2 q hq
    have hw : PySem.PyData.strOk (if q.w then ("with" : Str) else "apart") = true := by cases q.w <;> decide +kernel
    simp [prD, nice, niceL, hW.ok _ this.1, hW.ok _ this.2]
    exact hw
  have h1' : niceL 2 (ts.map tkD) = true := h1
  simp [nice, niceL, h1, h2, h3, nice_strs hr]
theorem law_ok (ns : List Int) (hl : ns.length ≤ 63) (hb : ∀ z ∈ ns, Builtin.Int.intBits z ≤ 1048576) : ∃ o, F_law [.lst .ex (ns.map .int)] = .ok (.bl true) o := by
  refine law_fin ?_
  unfold F_law
  refine w_run ?_
  unfold f_law
  repeat' walk_at "t3"
  refine s_deck hl fun l hl => ?_
  repeat' walk_at "t3"
  refine s_worksB hl (by decide) (by decide) fun ss ps ts osn os qs row l hss hps hp0 hp4 hs0 hs1 hts hos hosn hqs hrow hl => ?_
  have htl : ts.length = ss.length := by rw [← hts.nm]; simp
  have hosl : os.length ≤ 8 * 8 := Nat.le_trans hos.len (by rw [hosn.length_eq]; exact Nat.mul_le_mul (by omega) (by omega))
  have hbd : Bd ss os qs := ⟨fun q hq => by
    obtain ⟨i, j, _, h1, h2⟩ := hos.ord q hq
    exact ⟨hosn.subset (List.mem_of_getElem? h1), hosn.subset (List.mem_of_getElem? h2)⟩, fun q hq => ⟨(hqs.ok q hq).1, (hqs.ok q hq).2.1⟩⟩
  have W0 : Wk ss ts os qs := ⟨hts.nm, hss.nd, fun s h => (hss.nm s h).ok, hbd, by omega, by omega, hqs.len⟩
  have hrl := hrow.l1
  have hr0 := hrow.l0
  repeat' walk_at "t3"
  refine s_law_soundT (fun t => TkS t ∧ t.len < 10 ^ 62) (fun t h => ⟨⟨h.1.l0, h.1.l1, fun x hx => (by cases hx), Nat.zero_le _⟩, h.2⟩) W0 (fun t ht x hx => (hps.nm x ((hts.ok t ht).sub x hx)).ok) (fun t ht => ?_) (fun q hq => (hqs.ok q hq).2.2) (by omega) fun ts qs W hlen hk hsnd => ?_
  · have h := hts.ok t ht
    have h0 := h.l0
    have h1 := h.l1
    have := nodup_len h.nd h.sub
    exact ⟨⟨by omega, by omega, fun x hx => hps.nm x (h.sub x hx), by omega⟩, h.l1⟩
  have htl2 := W.tl
  repeat' walk_at "t3"
  refine w_loop (fun k S => ∃ (vs l : List Int) (x4 x5 : Option D), DkL l ∧ vs.length = k ∧ (∀ v ∈ vs, 0 ≤ v ∧ v < 10 ^ 60) ∧ S = [some (.lst .ex (ns.map D.int)), some (.lst .ow (l.map D.int)), some (wkD ts os qs row), some (.lst .ow (vs.map D.int)), x4, x5, none, none, none, none, none, none, none]) ⟨[], l, none, none, hl, rfl, by simp, rfl⟩ ?_ ?_
  · rintro k d S hk ⟨vs, l, x4, x5, hl, hv, hvp, rfl⟩
    obtain ⟨t, ht1, rfl⟩ := map_get hk
    have hkl := (List.getElem?_eq_some_iff.mp ht1).1
    repeat' walk_at "t3"
    refine s_next hl fun c l2 hl2 => ?_
    repeat' walk_at "t3"
    have e60 : (10 : Int) ^ Int.toNat 60 = 10 ^ 60 := rfl
    have h5 := Int.emod_nonneg (c / 4) (show (10 : Int) ^ 60 ≠ 0 by decide +kernel)
    have h6 := Int.emod_lt_of_pos (c / 4) (show (0 : Int) < 10 ^ 60 by decide +kernel)
    have h7 : (0 : Int) < 10 ^ 60 := by decide +kernel
    rw [e60]
    refine o_ixb fun v hv2 => ?_
    have hv0 : 0 ≤ v ∧ v < 10 ^ 60 := by
      rcases hv2 with rfl | rfl
      · exact ⟨Int.le_refl _, h7⟩
      · exact ⟨h5, h6⟩
    repeat' walk_at "t3"
    refine ⟨vs ++ [v], l2, _, _, hl2, by rw [List.length_append, hv]; rfl, fun x hx => ?_, rfl⟩
    rcases List.mem_append.mp hx with h | h
    · exact hvp x h
    · obtain rfl := List.mem_singleton.mp h
      exact hv0
  rintro S ⟨vs, l, x4, x5, hl, hv, hvp, rfl⟩
  rw [List.length_map] at hv
  obtain ⟨zs, hz1, hz2⟩ : ∃ zs : List (Tk × Int), zs.map (·.1) = ts ∧ zs.map (·.2) = vs := ⟨ts.zip vs, List.map_fst_zip (by omega), List.map_snd_zip (by omega)⟩
  have hzl : zs.length ≤ 1000 := by rw [← List.length_map (f := (·.1)), hz1]; omega
  subst hz1 hz2
  repeat' walk_at "t3"
  refine s_next hl fun c0 l hl => ?_
  repeat' walk_at "t3"
  refine s_next hl fun c1 l hl => ?_
  repeat' walk_at "t3"
  obtain ⟨m0, hm0⟩ : ∃ m0 : Nat, 1 + c0 % 5 = (m0 : Nat) := ⟨(1 + c0 % 5).toNat, by omega⟩
  obtain ⟨m1, hm1⟩ : ∃ m1 : Nat, 1 + c1 % 5 = (m1 : Nat) := ⟨(1 + c1 % 5).toNat, by omega⟩
  have hm05 : m0 ≤ 5 := by omega
  have hm15 : m1 ≤ 5 := by omega
  rw [hm0, hm1]
  clear hm0 hm1
  refine s_next hl fun c2 l hl => ?_
  repeat' walk_at "t3"
  have hb0 : 0 ≤ c2 % 10 ^ Int.toNat 61 := Int.emod_nonneg _ (by decide +kernel)
  generalize c2 % 10 ^ Int.toNat 61 = b at hb0
  refine .inr ⟨_, _, rfl, rfl, ?_⟩
  rw [zip_zs]
  refine w_loop (fun j S => ∃ x4 x9 : Option D, S = [some (.lst .ex (ns.map D.int)), some (.lst .ow (l.map D.int)), some (wkD (zs.map (·.1)) os qs row), some (.tup ((zs.map (·.2)).map D.int)), x4, x5, some (.tup [.int (m0 : Nat), .int (m1 : Nat)]), some (.int b), some (.lst .ow ((mts (zs.take j) m0 m1).map tkD)), x9, none, none, none]) ⟨x4, none, rfl⟩ ?_ ?_
  · rintro j d S hj ⟨x4, x9, rfl⟩
    obtain ⟨z, hz2, rfl⟩ := map_get hj
    have hjl := (List.getElem?_eq_some_iff.mp hz2).1
    have hsz : (mts (zs.take j) m0 m1).length < sizeLine := by
      unfold mts
      rw [List.length_map, List.length_take]
      unfold sizeLine
      omega
    rw [show tkD z.1 = .tup [.str z.1.name, .int z.1.len, .tup (z.1.kinds.map D.str)] from rfl]
    repeat' walk_at "t3"
    refine o_mulI (by omega) ?_
    repeat' walk_at "t3"
    refine o_mulI (by omega) ?_
    refine o_addL ⟨by decide, by decide, by rw [List.length_map, List.length_map, List.length_replicate, List.length_replicate]; unfold sizeLine; omega⟩ ?_
    rw [← List.map_append]
    repeat' walk_at "t3"
    rw [show (List.replicate m0 z.1.len ++ List.replicate m1 z.2).sum = (m0 : Int) * z.1.len + (m1 : Int) * z.2 from by rw [List.sum_append, rep_sum, rep_sum]]
    rw [show D.tup [D.str z.1.name, D.int ((m0 : Int) * z.1.len + (m1 : Int) * z.2), D.tup (z.1.kinds.map D.str)] = tkD (mixT m0 m1 z) from rfl]
    refine o_appendM (f := tkD) hsz ?_
    repeat' walk_at "t3"
    rw [show mts (zs.take (j + 1)) m0 m1 = mts (zs.take j) m0 m1 ++ [mixT m0 m1 z] from by unfold mts; rw [List.take_add_one, hz2, List.map_append]; rfl]
    exact ⟨_, _, rfl⟩
  rintro S ⟨x4, x9, rfl⟩
  rw [List.length_map, List.take_length]
  repeat' walk_at "t3"
  have hrow : ∀ x ∈ row, Nm x := fun x hx => hps.nm x (hrow.sub x hx)
  obtain ⟨sw, hsw⟩ := Sh.repr (sh_wk W hss.nm (fun t ht => (hlen t ht).1) hrow (by omega)) (by decide) (by decide)
  have W2 : Wk ss (mts zs m0 m1) os qs := W.mix
  have hk2 := mts_kinds (m0 := m0) (m1 := m1) hk
  have hT2 := mix_tks hm05 hm15 hlen hvp
  obtain ⟨s2, hs2⟩ := Sh.repr (sh_tks W2 hss.nm hT2) (by decide) (by decide)
  refine gv_of hsw ?_
  repeat' walk_at "t3"
  refine s_mixed80 hzl (by omega) (by omega) ?_
  repeat' walk_at "t3"
  unfold otD
  repeat' walk_at "t3"
  refine w_ifS ?_
  repeat' walk_at "t3"
  have hnice : nice 4 (wkD (mts zs m0 m1) os qs row) = true := nice_wk W2 hk2 fun k hk => (hrow k hk).ok
  refine gv_of (d := wkD (mts zs m0 m1) os qs row) ?_ ?_
  · show (if (4 : Nat) ≤ sizeLine then some (D.tup _) else none) = _
    rw [if_pos (by decide)]
    rfl
  refine ⟨wkD (mts zs m0 m1) os qs row, rfl, ?_⟩
  refine o_neDD hnice ?_
  repeat' walk_at "t3"
  refine gv_of hsw ?_
  repeat' walk_at "t3"
  refine gv_of (d := .bl false) (by show some (D.bl (!decide (sw = sw))) = _; rw [decide_eq_true rfl]; rfl) ?_
  repeat' walk_at "t3"
  refine s_round_beat (by omega) (by omega) ?_
  repeat' walk_at "t3"
  refine w_ifS ?_
  repeat' walk_at "t3"
  rw [show (m0 : Int) + (m1 : Int) = ((m0 + m1 : Nat) : Int) from by omega]
  refine o_mulI (by omega) ?_
  repeat' walk_at "t3"
  rw [rep_sum, Int.mul_comm ((m0 + m1 : Nat) : Int)]
  refine ⟨fun h => absurd h (by simp), fun _ => ?_⟩
  repeat' walk_at "t3"
  refine gv_of hs2 ?_
  repeat' walk_at "t3"
  refine gv_of hs2 ?_
  repeat' walk_at "t3"
  refine gv_of (d := .bl true) (by show some (D.bl (decide (s2 = s2))) = _; rw [decide_eq_true rfl]) ?_
  repeat' walk_at "t3"
  rfl
end T3
set_option maxHeartbeats 0
open PySem PySem.W PySem.Calls PyProof.Rows
theorem PySem.Challenge.cw_stationrow_k80_mixed_works_holds : PySem.Challenge.rw_stationrow_k80_mixed_works.Holds := by
  w_on; o_law
  refine HandSHeadRun.head_any (r := OpenLaw.row PySem.Challenge.rw_stationrow_k80_mixed_works) (q := view (OpenLaw.row PySem.Challenge.rw_stationrow_k80_mixed_works).prog [16]) (H := T3.hhk) (ob := T3.hob) (M := 4000) (loose := (["mixed_works", "round_beat", "_law_names", "_law_wide", "_law_next", "_law_deck", "_law_tasks", "_law_turn", "_law_orders", "_law_pairs", "_law_works", "_law_reach", "_law_at", "_law_sound"] : List PySem.Str)) (d := HandSHeadRun.topDef (OpenLaw.row PySem.Challenge.rw_stationrow_k80_mixed_works).prog 16) (kwd := []) T3.hob_eq
    (by kernel_rfl) (fun s => by kernel_rfl) T3.hrun (by kernel_rfl) (by kernel_rfl) (by kernel_rfl) (by rfl) (by first | assumption | decide +kernel) (by decide +kernel) ⟨rfl, rfl, rfl, rfl, rfl, by decide +kernel⟩ ?hw ?hc
  case hw => w_witness2
  case hc =>
    refine T3.walk_T3G (l := PySem.Challenge.rw_stationrow_k80_mixed_works) (n := 63) (x := "_law_script") (F := T3.F_law) rfl (by decide) (by kernel_rfl) ?F T3.law_ok
    intro w mg fa h Y G hmg0
    obtain ⟨K, KX, c⟩ := Y
    have hmg : mg ("law" : PySem.Str) = some (.ref fa) := by
      have e : (HandSHeadRun.topDef (OpenLaw.row PySem.Challenge.rw_stationrow_k80_mixed_works).prog 16).name = ("law" : PySem.Str) := by kernel_rfl
      rw [← e]
      exact hmg0
    obtain ⟨fd, hb, hF⟩ := T3.hfacts (P := (PySem.Challenge.rw_stationrow_k80_mixed_works).prog) (w := w) KX G hmg c.t.d c.more
    exact ⟨K, fd, KX, List.eq_nil_iff_forall_not_mem.mpr fun q hq => (by obtain ⟨p, hp, _⟩ := T3.hlam c.t.d q hq; cases hp), hb, fun base h1 h2 => hF base h1 h2 fun p hp => (by cases hp)⟩
